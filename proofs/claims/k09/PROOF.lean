import PyProof.Rows.All
import Wide.All
import OpenK.AllK
import Wide.FinOn
import HandS.ForMost
import HandS.ForExc
import HandS.ExcInit
import HandS.ExcField
import HandS.Lambda
import HandS.IsInst
import KE.KExcIs
import PyProof.Rows.NestShow
import KE.KExcSuper
import HandS.Wide
import HandS.Star
import HandS.Defaults
import HandS.EndTab
import PyProof.ListMulRight
import KE.KOpsOwn
import KE.KCallOwn
import KE.KFmtOwn
import PyProof.InstNe
import HandS.ClsMeth
import HandS.TupLe
import HandS.MakeKwOnly
import HandS.MakeKw
import HandS.Small
import HandS.Style
import HandS.TupAny
import KE.GoesEnum
import KE.GoesMore
import KE.KTupTruth
import HandS.Codes
import HandS.FStr
import HandS.RaiseMore
import HandS.Dict
import HandS.Comp
import PyProof.ReprLen
import HandS.List
import KE.DataEq
import HandS.Walk
import HandS.Text
import HandS.MapJoin
import PyProof.StrOps2
import PySem.Challenge.RW_clipfades_k09_polys_read
set_option Elab.async false
set_option linter.all false
set_option maxRecDepth 100000
set_option maxHeartbeats 4000000
/-! Rules of our own over the hand layer: defs whose guards are told (for repr), repr of data, an error kept behind its except suite. -/
namespace My
open PySem PySem.Spec PyProof.Rows L2
/-! ### a def that is run where no repr is under way -/
structure FnG (P : Program) (w : World) (K : PySem.W.Frag) (mg : Str → Option Value) (base : Heap) (CX : CXT) (k : Nat) (f : Addr) (fd : FuncData) (ps : List Str) (sp : Sp) : Prop where
  len : ∀ vs H Q E, sp vs H Q E → vs.length = ps.length
  run : ∀ (A : Around) (outer : List Env) (s : Shared) (H : Hp) (args : Args) (us : List Value) (vs : List V) (Q : VK) (E : XK), A.guards = some [] → Room k A → Env0 P w K mg base A outer s H → BindsTo s fd args (ps.zip us) → Vals vs us → sp vs H Q E →
    codeAny (model P w) A (.call (.ref f) args) (CR CX outer P w H s Q E) s
section
variable {P : Program} {w : World} {K : PySem.W.Frag} {mg : Str → Option Value} {base : Heap}
theorem okG {x qual : Str} {st : Stmt} {f : Addr} {fd : FuncData} {N ps : List Str} {k : Nat} {sp : Sp} (F : Fun K x qual st f fd) (S : FnScope N ps (defScope st)) (len : ∀ vs H Q E, sp vs H Q E → vs.length = ps.length)
    (hbody : ∀ (cdv : Value) (A : Around) (outer : List Env) (s : Shared) (H : Hp) (vs : List V) (Q : VK) (E : XK), K.lookup f ≠ none → A.guards = some [] → Room k (A.deeper (envOfC qual (defScope st) s.heap.objs.size f cdv)) → sp vs H Q E →
      ∃ t, PSs (cxOf CX0 P w K mg base N qual (defScope st) f cdv A outer s H E).nox (defBody st) t ∧ t { nx := fun _ H' => Q .non H', rt := Q } (start N vs) H) : FnG P w K mg base CX0 (k + 1) f fd ps sp := by
  obtain ⟨oc, od, kV, doc, pm, an, cdv, ct, osl, rfl, lk, hcd⟩ := F.ex
  refine ⟨len, fun A outer s H args us vs Q E hg hr e0 hb r hsp => LamX.run_ofS lk hcd S hr e0 hb r (len _ _ _ _ hsp) fun hr' => ?_⟩
  obtain ⟨t, h, q⟩ := hbody cdv A outer s H vs Q E (by rw [lk]; exact fun z => nomatch z) hg hr' hsp
  exact ⟨t, h.nox, q⟩
end
section
variable {X : Cx} {CX : CXT} {k : Nat} {f : Addr} {fd : FuncData} {ps : List Str} {sp : Sp} {E : XK} {x : Str} {e : Expr} {es : List Expr} {t : TA} {p pos : Pos} {ds : List Value} {dvs : List V}
/-- x(e, ..) -/
theorem pe_callG (F : FnG X.prog X.w X.K X.mg X.base CX k f fd ps sp) (hgd : X.A.guards = some []) (hr : Room k X.A) (hg : Gl X x) (hm : X.mg x = some (.ref f)) (hk : PySem.W.keepIn X.K (.ref f) = true) (hb : Binds X.K fd ps []) (hx : Passes CX X E)
    (ha : PA X (e :: es) t) (hdb : (x == ("__debug__" : Str)) = false := by decide) (hs : starEach (e :: es) X.env = (false, eval e X.env) :: starEach es X.env := by rfl) (hpl : (backTo pos (starEach es X.env)).any (·.1) = false := by rfl) :
    PE X (.Call (.Name x p) (e :: es) [] pos) (tCall sp [] E t) := by
  refine ⟨fun pins s σ H Q I h => ?_⟩
  refine wpAny_Call_Name_kw (ld_glob I hg hm ?_ hdb)
  refine PySem.W.callWith_K (h₀ := X.base) I.ok.mod.kin hk (thn (ha.run pos pins s σ H _ I h) fun us s1 ⟨vs, H1, I1, r, q⟩ => ⟨I1.kIn, ?_⟩) hs hpl
  have q' : sp vs H1 Q E := by
    have z : sp (vs ++ []) H1 Q E := q
    rw [List.append_nil] at z
    exact z
  have hl : us.length = ps.length := by rw [← r.length]; exact F.len _ _ _ _ q'
  have hb' : BindsTo s1 fd ⟨us, []⟩ (ps.zip us) := by
    have z := hb s1 us I1.kIn (by rw [List.append_nil]; exact hl)
    rw [List.append_nil] at z
    exact z
  refine wpAny_call (codeAny_mono (F.run X.A X.stack s1 H1 ⟨us, []⟩ us vs Q E hgd hr I1.env0 hb' r q') fun res s2 hq => ?_)
  cases res with
  | error er => exact hx pins σ H1 s1 er s2 I1 hq
  | ok fl =>
    cases fl with
    | ret u => exact I1.after hq
    | next => exact False.elim hq
    | brk => exact False.elim hq
    | cont => exact False.elim hq
end
/-! ### repr of data -/
theorem sqt_same {K : PySem.W.Frag} {H H' : Hp} {a : Addr} {xs : List V} (e : Same H H') (h : SqT K H a xs) : SqT K H' a xs := by
  rcases h with (h | ⟨o, h⟩) | h
  · exact .inl (.inl (e _ _ h))
  · exact .inl (.inr ⟨o, e _ _ h⟩)
  · exact .inr h
/-- data that repr shows: as for ==, and the empty dict -/
def Dr (K : PySem.W.Frag) (H : Hp) (v : V) (d : PyData) : Prop := Dp K H v d ∨ (∃ a, v = .ref a ∧ d = .dict [] ∧ H a = some (.dK []))
mutual
theorem dp_same {K : PySem.W.Frag} {H H' : Hp} (k : Same H H') : ∀ (d : PyData) (v : V), Dp K H v d → Dp K H' v d
  | _, _, .non => .non
  | _, _, .bl b => .bl b
  | _, _, .int i => .int i
  | _, _, .str x => .str x
  | .list ds, _, .lst h ha => .lst (k.seq h) (dp_sameAll k ds _ ha)
  | .tuple ds, _, .tup h ha => .tup (sqt_same k h) (dp_sameAll k ds _ ha)
theorem dp_sameAll {K : PySem.W.Frag} {H H' : Hp} (k : Same H H') : ∀ (ds : List PyData) (vs : List V), DpAll K H vs ds → DpAll K H' vs ds
  | [], _, .nil => .nil
  | d :: ds, _, .cons h1 h2 => .cons (dp_same k d _ h1) (dp_sameAll k ds _ h2)
end
theorem dr_same {K : PySem.W.Frag} {H H' : Hp} {v : V} {d : PyData} (k : Same H H') (h : Dr K H v d) : Dr K H' v d := by
  rcases h with h | ⟨a, e1, e2, e3⟩
  · exact .inl (dp_same k d v h)
  · exact .inr ⟨a, e1, e2, k _ _ e3⟩
def rRepr (K : PySem.W.Frag) : List V → Hp → VK → Prop := fun xs H Q => ∃ (v : V) (d : PyData), xs = [v] ∧ Dr K H v d ∧ d.showable = true ∧ d.depth ≤ 60 ∧ d.shown.length ≤ sizeLine ∧ Q (.str d.shown) H
mutual
theorem noDict {K : PySem.W.Frag} {H : Hp} : ∀ (d : PyData) (v : V), Dp K H v d → d.hasDict = false
  | .none, _, _ => rfl
  | .bool _, _, _ => rfl
  | .int _, _, _ => rfl
  | .str _, _, _ => rfl
  | .list ds, _, h => by
    cases h with
    | lst _ ha => exact noDictAll ds _ ha
  | .tuple ds, _, h => by
    cases h with
    | tup _ ha => exact noDictAll ds _ ha
  | .dict _, _, h => by cases h
theorem noDictAll {K : PySem.W.Frag} {H : Hp} : ∀ (ds : List PyData) (vs : List V), DpAll K H vs ds → PyData.hasDictAll ds = false
  | [], _, _ => rfl
  | d :: ds, _, h => by
    cases h with
    | cons h1 h2 =>
      show (d.hasDict || PyData.hasDictAll ds) = false
      rw [noDict d _ h1, noDictAll ds _ h2]
      rfl
end
section
variable {X : Cx} {k : Nat}
theorem call_repr (hgd : X.A.guards = some []) (hr : Room k X.A) : CallR X (.builtin "repr") (rRepr X.K) := by
  intro pins s σ H xs us Q I r h
  obtain ⟨v, d, rfl, hd, hs, hdp, hz, q⟩ := h
  obtain ⟨u, rfl, r1⟩ := vals1 r
  have hu : X.A.units + (d.depth + 1) < cLine := by
    have := hr.units
    omega
  have fin : ∀ (h' : Heap) (t : Tok) (tk : Nat), (∀ b o, s.heap.get? b = some o → h'.get? b = some o) → EP X pins σ Q (.str d.shown t) { s with heap := h', toks := tk } :=
    fun h' t tk hk => ⟨.str d.shown, H, I.kept (t' := tk) hk, ⟨t, rfl⟩, q⟩
  rcases hd with hd | ⟨a, rfl, rfl, ha⟩
  · have hn := noDict d v hd
    obtain ⟨as, rd⟩ := Dp.reads I d v u hd r1
    cases hd with
    | non => cases (show u = Value.none from r1); exact PySem.P.repr_of_none (fin s.heap _ _ fun _ _ e => e)
    | bl b => cases (show u = Value.bool b from r1); exact PySem.P.repr_of_bool (fin s.heap _ _ fun _ _ e => e)
    | int i =>
      obtain ⟨t, e⟩ := (show ∃ t, u = Value.int i t from r1)
      cases e
      exact PySem.P.repr_of_int (of_decide_eq_true hs) (fin s.heap _ _ fun _ _ e => e)
    | str z =>
      obtain ⟨t, e⟩ := (show ∃ t, u = Value.str z t from r1)
      cases e
      exact PySem.P.repr_of_str (fin s.heap _ _ fun _ _ e => e) hz
    | @lst a xs ds _ _ =>
      cases (show u = Value.ref a from r1)
      exact repr_of_reads' rd hs (PyData.noDict_hsm hn) hgd hu (fun _ _ e => e) (fun h' t tk hk => fin h' t tk hk) hz
    | @tup a xs ds _ _ =>
      cases (show u = Value.ref a from r1)
      exact repr_of_reads' rd hs (PyData.noDict_hsm hn) hgd hu (fun _ _ e => e) (fun h' t tk hk => fin h' t tk hk) hz
  · cases (show u = Value.ref a from r1)
    obtain ⟨_, hne, vs, kv, o, es, ep, e1, e2, e3, e4⟩ := (show ObjOk X.prog X.w H s.heap a (.dK []) from I.hok a _ ha)
    cases kv
    have hes : es.toList = [] := by
      obtain ⟨_, pr, _⟩ := e4
      revert pr
      generalize es.toList = l
      intro pr
      cases pr
      rfl
    have rd : Reads s.heap (.ref a) (.dict []) (a :: [] ++ []) := .dict e1 e2.1 e3 (by rw [hes]; exact .nil) (by rw [hes]; exact .nil)
    exact repr_of_reads' rd hs (fun _ hm => by simp at hm; simp [hm] at hne) hgd hu (fun _ _ e => e) (fun h' t tk hk => fin h' t tk hk) hz
end
/-! ### an error that stands behind its except suite -/
/-- at a: an error of the class cls, its own dict at d -/
def ExA (cls : Value) (d : Option Addr) (a : Addr) : HO := .ext fun h => ∃ (oe : Obj) (vs : Array Value), h.get? a = some oe ∧ Zc cls d oe ∧ oe.data = .fields vs
theorem exA_ok {P : Program} {w : World} {H : Hp} {h : Heap} {a : Addr} {cls : Value} {d : Option Addr} {oe : Obj} {vs : Array Value} (e : h.get? a = some oe) (z : Zc cls d oe) (hd : oe.data = .fields vs) : ObjOk P w H h a (ExA cls d a) :=
  ⟨⟨oe, vs, e, z, hd⟩, ⟨oe, e⟩, fun _ _ ⟨o, v, q, r⟩ k => ⟨o, v, k o q, r⟩⟩
section
variable {X : Cx} {pins : List (Addr × Obj)} {σ : L2.St} {H : Hp} {s : Shared}
/-- an object of the heap that was not there at the entry, tracked from now on -/
theorem track {a : Addr} {o : HO} (I : Inv X pins σ H s) (h0 : X.s_0.heap.get? a = none) (na : H a = none) (nL : a ≠ X.env.locals) (nC : ∀ x c, X.env.cells.lookup x = some c → c ≠ a) (nP : ∀ p ∈ X.pn ++ pins, p.1 ≠ a)
    (new : ObjOk X.prog X.w (upd H a o) s.heap a o) : Inv X pins σ (upd H a o) s := by
  have ne0 : ∀ b ob, X.s_0.heap.get? b = some ob → b ≠ a := fun b ob e z => by rw [z, h0] at e; cases e
  refine ⟨I.ok, I.os, I.bare, ⟨I.base.keep, I.base.slot, fun b ob e n hx => ?_, I.base.there, fun b xs e => ?_, fun b ob u e => ?_, fun b ps e => ?_⟩, I.loc, I.cell, ?_, fun x c e => ?_, fun p hp => ?_, fun b u e => ?_, I.len⟩
  · rw [upd_ne (ne0 b ob e)]
    exact I.base.free b ob e n hx
  · have z := I.base.tups b xs e
    rw [upd_ne (ne_of_none z na)]
    exact z
  · have z := I.base.frzs b ob u e
    rw [upd_ne (ne_of_none z na)]
    exact z
  · obtain ⟨m, z⟩ := I.base.tbls b ps e
    exact ⟨m, by rw [upd_ne (ne_of_none z na)]; exact z⟩
  · rw [upd_ne (Ne.symm nL)]
    exact I.free
  · rw [upd_ne (nC x c e)]
    exact I.freeC x c e
  · obtain ⟨e, n, r⟩ := I.pin p hp
    exact ⟨e, by rw [upd_ne (nP p hp)]; exact n, r⟩
  · by_cases hb : b = a
    · subst hb
      rw [upd_same] at e
      cases e
      exact new
    · rw [upd_ne hb] at e
      exact (I.hok b u e).stay (fun _ _ _ q => q) (fun c q => by rw [upd_ne (ne_of_none q na)]; exact q) fun c xs q => by rw [upd_ne (ne_of_none q na)]; exact q
end
/-- the wish of «except c as n: y = n»: slot i is n's, slot j is y's -/
def wKeep (K : PySem.W.Frag) (c : Value) (i j n : Nat) (Wout : WX) (D : Ends) : WX := fun cls d σ H =>
  ∃ b, PySem.W.exmOne K cls c = some b ∧ (b = true → ∀ a, H a = none → σ.length = n → D.nx (((σ.set i (some (.ref a))).set j (some (.ref a))).set i none) (upd H a (ExA cls d a))) ∧ (b = false → Wout cls d σ H)
section
variable {X : Cx} {x n y : Str} {c : Value} {i j : Nat} {body : List Stmt} {np p1 p2 p3 pos pos' : Pos} {tb : WX → TS} {Wout : WX}
theorem ps_try_keep (hs : X.stack = X.env :: X.outer) (hf : X.env.frame = some X.env.locals) (hN : X.N.Nodup) (hi : X.N[i]? = some n) (hln : X.env.kindOf n = some .local) (hj : X.N[j]? = some y) (hly : X.env.kindOf y = some .local) (hex : X.ex = []) (hc : Names X x c) (tk : Takes X Wout)
    (hb : ∀ (W : WX) (pn : List (Addr × Obj)) (xe : Value → Shared → Prop), Takes (X.tr pn xe) W → PassesOwn (model X.prog X.w) X.A X.env xe → PSs (X.tr pn xe) body (tb W)) (hd1 : (n == ("__debug__" : Str)) = false := by decide) (hd2 : (n == ("__classdict__" : Str)) = false := by decide) :
    PS X (.Try body [.ExceptHandler (some (.Name x np)) (some n) [.Assign [.Name y p1] (.Name n p2) p3] pos'] [] [] pos) (fun D σ H => tb (wKeep X.K c i j X.N.length Wout D) D σ H) := by
  refine ⟨fun pins s σ H D I h => ?_⟩
  have ok := I.ok
  have hfr : X.A.frames = some (X.env :: X.outer) := by rw [ok.frames, hs]
  refine wpAny_Try_except ?_
  refine wpAny_mono ((hb (wKeep X.K c i j X.N.length Wout D) (X.pn ++ pins) (fun e t1 => wpAny (model X.prog X.w) X.A (noteFrame e X.env) (fun _ t2 => wpAny (model X.prog X.w) X.A (setFlight e none) (fun _ t3 =>
    wpAny (model X.prog X.w) X.A (handleBy e X.env [.ExceptHandler (some (.Name x np)) (some n) [.Assign [.Name y p1] (.Name n p2) p3] pos']) (SP X pins D) X.xe t3) X.xe t2) X.xe t1) (fun u s' xx => ?_) PassesOwn.looking).run [] s σ H D (I.toTry _) h) (fun fl t1 hsp => ?_) (fun _ _ he => he)
  · obtain ⟨a, B, sI, pins', σ1, H1, cls, d, rfl, J0, nb, up, sky, na, os, ag, b, hb1, hyes, hno⟩ := xx
    have J : Inv X pins σ1 H1 sI := J0.ofTry ok
    have sky' : Sky B (X.env :: X.outer) a (Zc cls d) X.env.locals s'.heap := by rw [← hs]; exact sky
    show wpAny (model X.prog X.w) X.A (noteFrame (.ref a) X.env) _ _ _
    refine Sky.land Zc.steady hfr hf sky' fun h3 fl3 up3 => ?_
    have J3 : Inv X pins σ1 H1 { s' with heap := h3 } := J.landed nb fl3.1 (up.trans up3) os ag
    obtain ⟨oe3, vs3, he3, hz3, hd3⟩ := fl3.there
    have nfr : a ∉ frs (X.env :: X.outer) := fun hm => by
      obtain ⟨_, o', e', hnf⟩ := fl3.2.2.1.mem hm
      rw [he3] at e'
      cases e'
      exact hnf _ hd3
    have nL : a ≠ X.env.locals := fun z => nfr (List.mem_filterMap.mpr ⟨X.env, List.mem_cons_self, by rw [hf, z]⟩)
    have nF : a ∉ X.fs := fun hm => by
      obtain ⟨e1, he1, q1⟩ := List.mem_filterMap.mp hm
      exact nfr (List.mem_filterMap.mpr ⟨e1, List.mem_cons_of_mem _ he1, q1⟩)
    -- the error was not there at the entry, and is no pin
    have Ba : B.get? a = none := fl3.2.1
    have sIa : sI.heap.get? a = none := by
      cases z : sI.heap.get? a with
      | none => rfl
      | some o =>
        have y := nb a o z (by rw [hs]; exact nfr)
        rw [Ba] at y
        cases y
    have s0a : X.s_0.heap.get? a = none := by
      cases z : X.s_0.heap.get? a with
      | none => rfl
      | some o =>
        obtain ⟨o', y⟩ := J.base.there a o z (by rw [hex]; exact fun w => nomatch w)
        rw [sIa] at y
        cases y
    have nPin : ∀ p ∈ X.pn ++ pins, p.1 ≠ a := fun p hp z => by
      have y := (J.pin p hp).1
      rw [z, sIa] at y
      cases y
    have S3 := J3.suite he3 hd3 na nL nF
    refine wpAny_handleBy_cons (codeAny_handlers_test ?_) (by intro q; cases q)
    have LT : PySem.W.Looks (model X.prog X.w) h3 (typeOf (.ref a)) cls := fun A Q E s k q => wpAny_typeOf_ref (k _ _ he3) (by rw [hz3.1]; exact q)
    have LM := PySem.W.exm_one (M := model X.prog X.w) (J3.kIn) LT hb1
    have test : ∀ {Q : Value → Shared → Prop} {E : Value → Shared → Prop}, Q c { s' with heap := h3 } → wpAny (model X.prog X.w) (X.A.mark (some (.ref a))) (eval (.Name x np) X.env) Q E { s' with heap := h3 } := fun {Q E} q => by
      obtain ⟨hg, hdbg, hm | ⟨hm, hv, hnn⟩⟩ := hc
      · exact ld_glob (X := X.suite a ((a, oe3) :: (X.pn ++ pins))) S3 hg hm q hdbg
      · exact ld_blt (X := X.suite a ((a, oe3) :: (X.pn ++ pins))) S3 hg hm hv q hnn hdbg
    refine test (LM.here ?_)
    cases b with
    | true =>
      refine codeAny_handlers_suite_as ?_
      refine HandSPX.lands_againZ fl3 fun h4 fl4 up4 => ?_
      have J4 : Inv X pins σ1 H1 { s' with heap := h4 } := J.landed nb fl4.1 ((up.trans up3).trans up4) os ag
      obtain ⟨oe4, vs4, he4, hz4, hd4⟩ := fl4.there
      have S4 := J4.suite he4 hd4 na nL nF
      refine store_ok (X := X.suite a ((a, oe4) :: (X.pn ++ pins))) (v := .ref a) S4 hN hi (.inl hln) rfl (fun s5 S5 => ?_) (.inr hln)
      have suite : PSs (X.suite a ((a, oe4) :: (X.pn ++ pins))) [.Assign [.Name y p1] (.Name n p2) p3] (tAsg (tVar i) (gName j)) :=
        pss_one (ps_asg (pe_var (i := i) hi (.inl hln) hd1 hd2) (pg_name (i := j) hN hj (.inl hly) (hf := .inr hly)))
      have hlen : i < σ1.length := by
        rw [J.len]
        exact (List.getElem?_eq_some_iff.mp hi).1
      refine wpAny_mono (suite.run [] s5 _ H1 { nx := fun σ' H' => σ' = (σ1.set i (some (.ref a))).set j (some (.ref a)) ∧ H' = H1, rt := fun _ _ => False } S5 ⟨.ref a, by rw [List.getElem?_set_self hlen], rfl, rfl⟩) (fun fl s6 hsp => ?_) (fun _ _ z => False.elim z)
      cases fl with
      | next =>
        obtain ⟨σ6, H6, S6, eσ, eH⟩ := hsp
        subst eσ
        subst eH
        refine gone_ok (X := X.suite a ((a, oe4) :: (X.pn ++ pins))) S6 hN hi hln fun s7 S7 => ?_
        have ha7 : s7.heap.get? a = some oe4 := (S7.pin (a, oe4) (List.mem_append_left _ List.mem_cons_self)).1
        have J7 := S7.unsuite ok
        have nC : ∀ (x : Str) (c : Addr), X.env.cells.lookup x = some c → c ≠ a := fun x c e z => by
          obtain ⟨v, o, ho, hdc⟩ := J7.cell x c e
          rw [z, ha7] at ho
          cases ho
          rw [hd4] at hdc
          cases hdc
        exact ⟨_, _, track J7 s0a na nL nC nPin (exA_ok ha7 hz4 hd4), hyes rfl a na J.len⟩
      | brk => obtain ⟨_, _, _, z⟩ := hsp; exact z.elim
      | cont => obtain ⟨_, _, _, z⟩ := hsp; exact z.elim
      | ret u => obtain ⟨_, _, _, _, _, z⟩ := hsp; exact z.elim
    | false =>
      show wpAny _ X.A (handleBy (.ref a) X.env []) _ _ _
      refine wpAny_handleBy_nil ?_
      obtain ⟨w1, w2, w3, oe, vs, T, oT, ts', he, hz, hdd, h1, hr⟩ := id fl3
      unfold PySem.passOn
      refine wpAny_bind (wpAny_field he hdd h1 ?_)
      rw [if_neg (show ¬ ((Value.ref T == Value.none) = true) from by simp)]
      have fin : wpAny (model X.prog X.w) X.A (setFlight (.ref a) X.env.frame) (fun _ s4 => wpAny (model X.prog X.w) X.A (throw (.ref a) : Sem Flow) (SP X pins D) X.xe s4) X.xe { s' with heap := h3 } := by
        rw [hf]
        refine HandSPX.setFlight_upZ fl3 fun h4 hh4 up4 => wpAny_throw (tk _ _ ?_)
        exact ⟨a, B, sI, pins, σ1, H1, cls, d, rfl, J, nb, (up.trans up3).trans up4, .inr (.inr (by rw [hs]; exact hh4)), na, os, ag, hno rfl⟩
      first
        | exact wpAny_bind (wpAny_pure (wpAny_bind fin))
        | exact wpAny_bind fin
  · cases fl with
    | next =>
      obtain ⟨σ', H', J', q⟩ := hsp
      exact wpAny_execs_nil ⟨σ', H', J'.ofTry ok, q⟩
    | brk =>
      obtain ⟨σ', H', J', q⟩ := hsp
      exact ⟨σ', H', J'.ofTry ok, q⟩
    | cont =>
      obtain ⟨σ', H', J', q⟩ := hsp
      exact ⟨σ', H', J'.ofTry ok, q⟩
    | ret u =>
      obtain ⟨v, σ', H', J', r, q⟩ := hsp
      exact ⟨v, σ', H', J'.ofTry ok, r, q⟩
end
/-! ### isinstance and fields of such an error -/
structure ExcK (K : PySem.W.Frag) (C : Addr) : Prop where
  cl : (PySem.W.clsIn K C).isSome = true
  ga : PySem.W.findIn K (.ref C) "__getattribute__" = some (some (.builtin "BaseException.__getattribute__"))
  gg : PySem.W.findIn K (.ref C) "__getattr__" = some none
  sb : PySem.W.subIn K (.ref C) (.type "BaseException") = some true
  ha : PySem.W.findIn K (.ref C) "__class__" = some (some (.builtin "object.__class__"))
  hn : PySem.W.specialIn K (.builtin "object.__class__") "__get__" = some (some (.builtin "getset_descriptor.__get__"))
  ht : PySem.W.takesIn K (.builtin "object.__class__") = some true
  hm : PySem.W.mroIn K C (.type "object") = some true
/-- isinstance(e, D) -/
def rIsA (K : PySem.W.Frag) : List V → Hp → VK → Prop := fun xs H Q => ∃ (a C d : Addr) (fs : List (Str × V)) (c : V) (cv : Value) (b : Bool), xs = [.ref a, c] ∧ ClsV c cv ∧ ExcK K C ∧ H a = some (ExA (.ref C) (some d) a) ∧ H d = some (.xd fs) ∧ PySem.W.kitOne K (.ref C) cv = some b ∧ Q (.bl b) H
section
variable {X : Cx} {pins : List (Addr × Obj)} {σ : L2.St} {H : Hp} {s : Shared}
theorem exA_at {a C d : Addr} {fs : List (Str × V)} (I : Inv X pins σ H s) (ha : H a = some (ExA (.ref C) (some d) a)) (hd : H d = some (.xd fs)) :
    ∃ (oe od : Obj) (mA : Str → Option Value), PySem.W.InstAt s.heap a oe C (some od) ∧ (∀ name, PySem.W.lookIn name od = some (mA name)) ∧ ∀ f, RelO (fs.lookup f) (mA f) := by
  obtain ⟨⟨oe, vs, ho, hz, hdat⟩, _, _⟩ := I.hok a _ ha
  obtain ⟨mA, hns, hr⟩ := (show ObjOk X.prog X.w H s.heap d (.xd fs) from I.hok d _ hd)
  obtain ⟨od, hod, hl⟩ := lookIn_ns hns
  exact ⟨oe, od, mA, ⟨ho, hz.1, by unfold PySem.W.notCls; rw [hdat] <;> rfl, by rw [hz.2]; exact hod⟩, hl, hr⟩
theorem call_isA : CallR X (.builtin "isinstance") (rIsA X.K) := by
  intro pins s σ H xs us Q I r h
  obtain ⟨a, C, d, fs, c, cv, b, rfl, k, T, ha, hd, e, q⟩ := h
  obtain ⟨u1, u2, rfl, r1, r2⟩ := vals2 r
  cases (show u1 = Value.ref a from r1)
  have e2 := k.eq r2
  subst e2
  obtain ⟨oe, od, mA, J, _, _⟩ := exA_at I ha hd
  exact PySem.W.kia_one (PySem.W.kitx_exc T.cl T.ga T.gg T.sb T.ha T.hn T.ht T.hm) I.kIn J e (fun z => nomatch z) fun t => ⟨.bl b, H, I.tok t, rfl, q⟩
/-- e.f -/
def tXa (K : PySem.W.Frag) (f : Str) (te : TE) : TE := fun σ H Q => te σ H fun x H1 => ∃ (a C d : Addr) (fs : List (Str × V)) (v : V), x = .ref a ∧ H1 a = some (ExA (.ref C) (some d) a) ∧ H1 d = some (.xd fs) ∧ XfC K C ∧ PySem.W.findIn K (.ref C) f = some none ∧ fs.lookup f = some v ∧ Q v H1
theorem pe_xa {e : Expr} {te : TE} {n : Str} {pos : Pos} (he : PE X e te) (hb : attributeBase e n X.env (eval e X.env) = eval e X.env := by rfl) : PE X (.Attribute e n pos) (tXa X.K n te) := by
  refine ⟨fun pins s σ H Q I h => ?_⟩
  refine attr_of hb (thn (he.run pins s σ H _ I h) fun u s1 hh => ?_)
  obtain ⟨x, H1, I1, rx, a, C, d, fs, v, ex, ha, hd, T, hno, l, q⟩ := hh
  subst ex
  obtain rfl : u = Value.ref a := rx
  obtain ⟨oe, od, mA, J, hl, hr⟩ := exA_at I1 ha hd
  obtain ⟨u, hu, ru⟩ := RelO.some_of (v := v) (o := mA n) (by rw [← l]; exact hr n)
  exact HandSPX.exc_get I1.kIn J T.ga T.gg T.exC (PySem.W.findObj_own T.hdC hno rfl (by rw [hl, hu])) (handed_of ru) ⟨v, H1, I1.tok _, ru, q⟩
end
end My
/-! An own error class E(Base(ValueError)) whose __init__ says super().__init__(f) and self.f = f. -/
namespace Sup
open PySem PySem.W PySem.Calls PyProof.Rows PySem.HandSPX
def a1 (f : Str) (p1 p2 : Pos) : Arguments :=
  { posonlyargs := [], args := [{ arg := "self", annotation := none, pos := p1 }, { arg := f, annotation := none, pos := p2 }], vararg := none, kwonlyargs := [], kw_defaults := [], kwarg := none, defaults := [] }
def b1 (f : Str) (q1 q2 q3 q4 q5 q6 r1 r2 r3 r4 : Pos) : List Stmt :=
  [.Expr (.Call (.Attribute (.Call (.Name "super" q1) [] [] q2) "__init__" q3) [.Name f q4] [] q5) q6, .Assign [.Attribute (.Name "self" r1) f r2] (.Name f r3) r4]
def s1 (f : Str) : Scope :=
  { kind := .function, names := [(PySem.Str.ofString "self", .local), (f, .local), (PySem.Str.ofString "__class__", .free), (PySem.Str.ofString "super", .globalImplicit)], isGenerator := false, isCoroutine := false, more := [] }
/-- the field's name is no other name of the text -/
structure Nm (f : Str) : Prop where
  n1 : (f == ("self" : Str)) = false
  n2 : (("__class__" : Str) == f) = false
  n3 : (("super" : Str) == f) = false
  n4 : (f == ("__debug__" : Str)) = false
  bd : ∀ (qual : Str) (body : List Stmt) (doc pm : Value) (an : Option Addr) (cdv ct : Value) (cc : Addr) (p1 p2 : Pos) (a b : Value),
    bindArgs (ksFn "__init__" qual (a1 f p1 p2) body (s1 f) .none .none doc pm an cdv ct cc) ⟨[a, b], []⟩ = pure [(("self" : Str), a), (f, b)]
/-- what the top has written of the class x, at C, and of its __init__, at fI -/
structure Err1 (prog : Program) (K : Frag) (mg : Str → Option Value) (x f : Str) (C fI : Addr) : Prop where
  gC : mg x = some (.ref C)
  ox : L2.OexC K C
  rd : L2.XfC K C
  nf : findIn K (.ref C) f = some none
  nm : Nm f
  iC : findIn K (.ref C) "__init__" = some (some (.ref fI))
  tI : typeIn K (.ref fI) = some (.type "function")
  fn : ∃ (qual : Str) (oc : Value) (od : Option Addr) (doc pm : Value) (an : Option Addr) (cda : Addr) (ct : Value) (cc : Addr) (osl : Array (Option Value)) (p1 p2 q1 q2 q3 q4 q5 q6 r1 r2 r3 r4 : Pos),
    K.lookup fI = some ⟨oc, od, .func (ksFn "__init__" qual (a1 f p1 p2) (b1 f q1 q2 q3 q4 q5 q6 r1 r2 r3 r4) (s1 f) .none .none doc pm an (.ref cda) ct cc), osl⟩ ∧ codeIn K (.ref cda) qual = true ∧
    (∃ cl cld csl, K.lookup cc = some ⟨cl, cld, .cell (some (.ref C)), csl⟩) ∧ ∃ ccl cdd vs ccs file tf, K.lookup cda = some ⟨ccl, cdd, .fields vs, ccs⟩ ∧ vs[2]? = some (.str file tf) ∧ ((prog.main.file : Str) == file) = true ∧ (q3.endLine == q5.line) = true
  su : ks_superIn K C C "__init__" = some (some (.builtin "ValueError.__init__"))
  sV : subIn K (.ref C) (.type "ValueError") = some true
  sC : mroIn K C (.ref C) = some true
  gS : mg "super" = none
  oq : nsIn K cStatics "thirdparty.any" = some none
  top : (prog.main.scope.names.lookup ("super" : Str)).isSome = false
/-- what __init__ leaves of a fresh exception at x -/
structure End1 (h h' : Heap) (f : Str) (x C dx t1 : Addr) (v : Value) : Prop where
  keep : ∀ b o, b ≠ x → h.get? b = some o → h'.get? b = some o
  obj : h'.get? x = some { cls := .ref C, dict := some dx, data := .fields #[.ref t1, .none, .none, .none, .bool false, .none] }
  dbig : h.objs.size ≤ dx
  dne : dx ≠ x
  ns : h'.Ns1 dx (fun y => if y = f then some v else none)
theorem lk2 {f : Str} (N : Nm f) : (s1 f).names.lookup f = some .local := by
  simp only [s1, List.lookup, N.n1, beq_self_eq_true]
theorem lk3 {f : Str} (N : Nm f) : (s1 f).names.lookup ("__class__" : Str) = some .free := by
  have e : (("__class__" : Str) == ("self" : Str)) = false := by decide +kernel
  have e2 : (("__class__" : Str) == ("__class__" : Str)) = true := by decide +kernel
  simp only [s1, List.lookup, N.n2, e, e2]
theorem lk4 {f : Str} (N : Nm f) : (s1 f).names.lookup ("super" : Str) = some .globalImplicit := by
  have e : (("super" : Str) == ("self" : Str)) = false := by decide +kernel
  have e2 : (("super" : Str) == ("__class__" : Str)) = false := by decide +kernel
  have e3 : (("super" : Str) == ("super" : Str)) = true := by decide +kernel
  simp only [s1, List.lookup, N.n3, e, e2, e3]
theorem meth_eq {o : Expr} {name f : Str} {q3 q4 q5 : Pos} {env : Env} (hp : (q3.endLine == q5.line) = true) :
    eval (.Call (.Attribute o name q3) [.Name f q4] [] q5) env = (do
      let ov ← attributeBase o name env (eval o env)
      standAt q3.atName
      let (g, first) ← holding [ov] (getMethod ov name (do return (← importBound o env).getD true))
      callWith q5 g first (backTo q5 (starEach [.Name f q4] env)) []) := by
  rw [arm_eval_Call]
  have hf : methodCallForm ([Expr.Name f q4].length + ([] : List Keyword).length) (backTo q5 (starEach [.Name f q4] env)) (backToKw q5 (keywordEach [] env)) = true := rfl
  have e : ∀ ov, methodCall o name q3 q5 env ov ([Expr.Name f q4].length + ([] : List Keyword).length) (backTo q5 (starEach [.Name f q4] env)) (backToKw q5 (keywordEach [] env)) = (do
      let (g, first) ← holding [ov] (getMethod ov name (do return (← importBound o env).getD true))
      callWith q5 g first (backTo q5 (starEach [.Name f q4] env)) []) := fun ov => by
    unfold methodCall
    rw [hf]
    unfold calleeOf methodCallPos
    simp only [hp, Bool.not_true, Bool.false_or, if_true]
    rfl
  simp only [e]
section
variable {prog : Program} {w : World} {A : Around} {E : Value → Shared → Prop} {R : Result → Shared → Prop} {s : Shared} {K : Frag} {mg : Str → Option Value} {x f : Str} {C fI : Addr}
/-- the bound ValueError.__init__ called -/
theorem call_mw {h : Heap} {g : Array GenState} {d : Drawn} {t : Nat} {os : OsState} {u e t0 : Addr} {rest : List Value} {Q : Value → Shared → Prop} {nm q : Str} {N : Addr} {bs bm : List Value} {hdct : Bool} {sn : List Str} {sub : List Value} {ab : Bool} {col : Option Bool} {dd : Option Addr} {k0 k1 k2 k3 k5 : Option Value}
    (hC : h.get? C = some (excClassObj nm q C N bs bm hdct sn sub ab col dd k0 k1 k2 k3 k5 "ValueError.__new__")) (he : h.get? e = some (excO C t0)) (hu : h.get? u = some (kxs_mw "ValueError.__init__" e)) (hz : rest.length ≤ sizeLine)
    (hq : ∀ h' t1, (∀ b o, b ≠ e → h.get? b = some o → h'.get? b = some o) → h'.get? e = some (excO C t1) → Q .none ⟨h', g, d, t, os⟩) :
    wpAny (model prog w) A (call (.ref u) rest) Q E ⟨h, g, d, t, os⟩ := by
  refine wpAny_call (codeAny_of_tree ?_)
  show wpAny _ A.in1 (callAny (.ref u) ⟨rest, []⟩) _ _ _
  simp only [callAny]
  refine wpAny_bind (wpAny_load hu ?_)
  simp only [kxs_mw, show (Value.type "method-wrapper" == Value.type "method" || Value.type "method-wrapper" == Value.type "builtin_function_or_method" || Value.type "method-wrapper" == Value.type "method-wrapper") = true by decide, if_true]
  refine KFB.if_so (by decide) ?_
  refine wpAny_bind (check_bound_init F.excBase_ValueError.toExcCallFacts hC he rfl ?_)
  refine wpAny_bind (wpAny_pure (wpAny_pure ?_))
  refine ⟨plainId_quiet F.excBase_ValueError.init.plain _, codeAny_builtin F.excBase_ValueError.initEntry ?_⟩
  exact exc_init_tree (cls := .ref C) (t0 := t0) (dv := none) (c2 := .none) (c3 := .none) (b4 := .bool false) he hz fun h' k e' _ => hq h' _ k e'
theorem init1 (T : Err1 prog K mg x f C fI) {e t0 : Addr} {v : Value} (X : K.In s.heap) (hlim : s.heap.NoLimit) (hg : s.heap.Ns mainGlobals mg) (hb : ∃ mb, s.heap.Ns builtinsNs mb ∧ ∀ x : Str, x ≠ "__name__" → mb x = bootBuiltins x)
    (he : s.heap.get? e = some (excO C t0)) (hnx : K.lookup e = none) (hroom : A.depth < recursionLimit)
    (hq : ∀ h' tk dx t1, End1 s.heap h' f e C dx t1 v → R (.ok (.ret .none)) { s with heap := h', toks := tk }) :
    codeAny (model prog w) A (.call (.ref fI) ⟨[.ref e, v], []⟩) R s := by
  obtain ⟨qual, oc, od, doc, pm, an, cda, ct, cc, osl, p1, p2, q1, q2, q3, q4, q5, q6, r1, r2, r3, r4, ho, hcd, ⟨cl, cld, csl, hcell⟩, ccl, cdd, vs, ccs, file, tf, hcode, hvs, hfile, hqq⟩ := T.fn
  obtain ⟨nm, q, N, bs, bm, sn, sub, ab, col, dd, k0, k1, k2, k3, k5, hC, hbm⟩ := T.ox.cls
  obtain ⟨mb, hb1, hb2⟩ := hb
  have hcl : clsIn K C = some { name := nm, bases := bs, mro := .ref C :: bm, ns := N, qualname := q, hasDict := true, slotNames := sn, subclasses := sub, abstract := ab, collection := col, hasDel := false } := by unfold clsIn; rw [hC] <;> rfl
  have hloc : ∀ y ∈ [(("self" : Str), Value.ref e), (f, v)], (s1 f).names.lookup y.1 = some .local := fun y hy => by
    rcases List.mem_cons.mp hy with z | z
    · rw [z]; rfl
    · rw [List.mem_singleton.mp z]; exact lk2 T.nm
  have hsu : alongIn K "__init__" ((((Value.ref C :: bm) : List Value).dropWhile (· != .ref C)).drop 1) = some (some (.builtin "ValueError.__init__")) := by
    have z := T.su
    unfold ks_superIn at z
    rw [hcl] at z
    exact z
  refine ks_codeAny_call_defAt (fd := ksFn "__init__" qual (a1 f p1 p2) (b1 f q1 q2 q3 q4 q5 q6 r1 r2 r3 r4) (s1 f) .none .none doc pm an (.ref cda) ct cc) (binds := [("self", .ref e), (f, v)]) hroom (X _ _ ho) rfl hlim (codeRec_of X hcd) rfl (BindsTo.of_eq (T.nm.bd _ _ _ _ _ _ _ _ _ _ _ _))
    (by intro y hy; simp only [s1, List.mem_cons, List.mem_nil_iff, or_false] at hy; rcases hy with z | z | z | z <;> rw [z] <;> exact (fun w => nomatch w)) hloc (fun h1 hns kp => ?_)
  have X1 : K.In h1 := X.keeps kp
  have he1 := kp _ _ he
  have hC1 := X1 _ _ hC
  have hx0 : e ≠ C := fun z => by
    have y := X _ _ hC
    rw [← z, he] at y
    cases y
  have mself : ([(("self" : Str), Value.ref e), (f, v)].reverse.lookup ("self" : Str)) = some (.ref e) := by
    have e1 : (("self" : Str) == f) = false := by
      have z := T.nm.n1
      rw [Bool.eq_false_iff] at z ⊢
      intro y
      exact z (by rw [beq_iff_eq] at y ⊢; exact y.symm)
    simp only [List.reverse_cons, List.reverse_nil, List.nil_append, List.cons_append, List.lookup, e1, beq_self_eq_true]
  have mf : ([(("self" : Str), Value.ref e), (f, v)].reverse.lookup f) = some v := by
    simp only [List.reverse_cons, List.reverse_nil, List.nil_append, List.cons_append, List.lookup, beq_self_eq_true]
  show _root_.PySem.wpAt _ _ _ (execs (b1 f q1 q2 q3 q4 q5 q6 r1 r2 r3 r4) _) _ _ _
  unfold b1
  refine ks_wpAt_execs_cons (ks_wpAt_Expr_any (ks_wpAt_MethodCall (ks_wpAt_super_base (lk4 T.nm) (lk3 T.nm) (by decide +kernel) rfl (X1 _ _ ho) rfl rfl rfl (X1 _ _ hcode) rfl hvs hfile T.top ?_) (meth_eq hqq)))
  refine ks_loadName_global rfl (lk4 T.nm) (loadGlobal_builtin (hg.keeps kp) T.gS (hb1.keeps kp) ((hb2 _ (by decide +kernel)).trans (by decide +kernel : bootBuiltins "super" = some (.type "super"))) ⟨rfl, ?_⟩)
  refine wpAny_loadName_free rfl (lk3 T.nm) rfl ⟨_, X1 _ _ hcell, rfl⟩ ?_
  refine wpAny_loadName_local rfl rfl hns mself ?_
  refine ks_wpAny_isType_cls hC1 rfl ⟨rfl, ?_⟩
  refine ks_wpAny_call_super hC1 rfl he1 rfl (fun c z => nomatch z) (looks_mroIn X1 T.sC) (fun h2 hso k2 => ?_)
  have X2 : K.In h2 := X1.keeps k2
  have he2 := k2 _ _ he1
  have I2 : InstAt h2 e (excO C t0) C none := ⟨he2, rfl, rfl, trivial⟩
  refine kxs_getMethod kxs_ValueError hso (looks_opaque X2 T.oq) (l₀ := .ref C :: bm) (fun A Q E s k q => wpAny_bind ((looks_clsIn X2 hcl) A _ E s k (wpAny_pure q))) rfl X2 hsu (I2.type.andThen (looks_subIn X2 T.sV)) hx0 (by decide +kernel) ?_
  refine kxs_callWith (i := "ValueError.__init__") (x := e) rfl ?_
  have hns2 := hns.keeps k2
  refine evalArgs_plain (Calls.spliced_cons (ldc rfl (lk2 T.nm) (hns2.keeps fun b o z => Heap.get?_push_of_some _ z) mf (Calls.spliced_nil ⟨Heap.get?_push_size _ rfl, ?_⟩) T.nm.n4))
  have k3 : ∀ b o, h2.get? b = some o → (h2.push (kxs_mw "ValueError.__init__" e)).get? b = some o := fun b o z => Heap.get?_push_of_some _ z
  show wpAny _ _ (call (.ref h2.objs.size) [v]) _ _ _
  refine call_mw (X2.keeps k3 _ _ hC) (k3 _ _ he2) (Heap.get?_push_size _ rfl) (by rw [sizeLine_eq]; exact (by decide : 1 ≤ 16777216)) fun h4 t1 k4 he4 => ?_
  have kall : ∀ b o, b ≠ e → s.heap.get? b = some o → h4.get? b = some o := fun b o hb z => k4 b o hb (k3 b o (k2 b o (kp b o z)))
  have X4 : K.In h4 := fun a o z => kall a o (fun y => by rw [y, hnx] at z; cases z) (X a o z)
  have hL : s.heap.objs.size ≠ e := Nat.ne_of_gt (Heap.lt_size he)
  have hns4 : h4.Ns s.heap.objs.size (fun y => [(("self" : Str), Value.ref e), (f, v)].reverse.lookup y) := by
    obtain ⟨oL, es, ep, hoL, r⟩ := hns2
    exact ⟨oL, es, ep, k4 _ _ hL (k3 _ _ hoL), r⟩
  show _root_.PySem.wpAt _ _ _ (execs [.Assign [.Attribute (.Name "self" r1) f r2] (.Name f r3) r4] _) _ _ _
  refine wpAt_of_wpAny (wpAny_execs_cons (plainObj_wpAny_Assign_Attribute (ldc rfl (lk2 T.nm) hns4 mf (ldc rfl rfl hns4 mself ?_) T.nm.n4)))
  refine set_plain X4 (ox := excO C t1) (od := none) ⟨he4, rfl, rfl, trivial⟩ T.ox.sa ?_
  refine exc_osa X4 he4 hcl (show refsVE (.ref C :: bm) = true from hbm) rfl T.nf (fun h5 tk5 dx k5 dn dne hx5 hn5 => ?_)
  have z1 : s.heap.objs.size ≤ h1.objs.size := Nat.le_of_lt hns.lt
  refine wpAny_execs_nil (hq h5 tk5 dx t1 ⟨fun b o hb z => k5 b o hb (kall b o hb z), hx5, ?_, dne, hn5⟩)
  have z2 := hns4.lt
  exact Nat.le_trans (Nat.le_of_lt z2) dn
/-- a made error -/
structure Made1 (h h' : Heap) (f : Str) (e C d : Addr) (v : Value) : Prop where
  keep : ∀ b o, h.get? b = some o → h'.get? b = some o
  new : h.objs.size ≤ e
  obj : ∃ oe vs, h'.get? e = some oe ∧ oe.cls = .ref C ∧ oe.dict = some d ∧ oe.data = .fields vs ∧ vs[1]? = some .none
  dbig : h.objs.size ≤ d
  dne : d ≠ e
  ns : h'.Ns1 d (fun y => if y = f then some v else none)
theorem made1 (T : Err1 prog K mg x f C fI) {v : Value} (X : K.In s.heap) (hlim : s.heap.NoLimit) (hg : s.heap.Ns mainGlobals mg) (hb : ∃ mb, s.heap.Ns builtinsNs mb ∧ ∀ x : Str, x ≠ "__name__" → mb x = bootBuiltins x) (hroom : A.depth + 1 < recursionLimit)
    (hq : ∀ h' tk e d, Made1 s.heap h' f e C d v → R (.ok (.ret (.ref e))) { s with heap := h', toks := tk }) :
    codeAny (model prog w) A (.call (.ref C) ⟨[v], []⟩) R s := by
  obtain ⟨nm, q, N, bs, bm, sn, sub, ab, col, dd, k0, k1, k2, k3, k5, hC, hbm⟩ := T.ox.cls
  obtain ⟨hp, g, dr, tk, os⟩ := s
  have kp : ∀ b o, hp.get? b = some o → ((hp.push (kdv_tup [v])).push (excO C hp.objs.size)).get? b = some o := fun b o z => Heap.get?_push_of_some _ (Heap.get?_push_of_some _ z)
  have hget : ((hp.push (kdv_tup [v])).push (excO C hp.objs.size)).get? (hp.objs.size + 1) = some (excO C hp.objs.size) := by heap_get
  have hnx : K.lookup (hp.objs.size + 1) = none := by
    cases z : K.lookup (hp.objs.size + 1) with
    | none => rfl
    | some o => exact absurd (Nat.lt_of_succ_lt (Heap.lt_size (X _ _ z))) (Nat.lt_irrefl _)
  refine call_own F.excBase_ValueError (fun Y => refsVE_contains Y bm hbm) (X _ _ hC) (looks_findIn X T.iC) (fun self => bind_fn X self T.tI) (by rw [sizeLine_eq]; exact (by decide : 1 ≤ 16777216)) ?_
  obtain ⟨mb, hb1, hb2⟩ := hb
  refine init1 (s := ⟨(hp.push (kdv_tup [v])).push (excO C hp.objs.size), g, dr, tk, os⟩) T (X.keeps kp) (hlim.keeps kp) (hg.keeps kp) ⟨mb, hb1.keeps kp, hb2⟩ hget hnx ?_ fun h' tk' dx t1 ⟨k', hx, dn, dne, hns⟩ => ?_
  · show A.depth + 1 < recursionLimit
    exact hroom
  · have old : ∀ b o, hp.get? b = some o → h'.get? b = some o := fun b o z => k' b o (Nat.ne_of_lt (Nat.lt_succ_of_lt (Heap.lt_size z))) (kp b o z)
    have z : hp.objs.size + 1 + 1 ≤ dx := by
      have y := dn
      first
        | (rw [Heap.size_push, Heap.size_push] at y; exact y)
        | exact y
    exact ⟨rfl, hq h' tk' (hp.objs.size + 1) dx ⟨old, Nat.le_succ _, ⟨_, _, hx, rfl, rfl, rfl, rfl⟩, Nat.le_trans (Nat.le_trans (Nat.le_succ _) (Nat.le_succ _)) z, dne, hns⟩⟩
end
end Sup
namespace L2
open PySem PySem.Spec PyProof.Rows
theorem relO_one {v : V} {v' : Value} {f : Str} (r : RelV v v') (g : Str) : RelO (List.lookup g [(f, v)]) (if g = f then some v' else none) := by
  by_cases hw : g = f
  · rw [if_pos hw, hw]
    have z : List.lookup f [(f, v)] = some v := by simp [List.lookup]
    rw [z]
    exact r
  · rw [if_neg hw]
    have y : (g == f) = false := by simpa using hw
    have z : List.lookup g [(f, v)] = none := by simp [List.lookup, y]
    rw [z]
    trivial
section
variable {X : Cx} {C fI : Addr} {x f : Str}
/-- E(e) -/
def tMk1 (C : Addr) (f : Str) (ta : TA) : St → Hp → XK → Prop := fun σ H Q => ta σ H fun vs H1 => ∃ v, vs = [v] ∧ ∀ d, H1 d = none → Q (.ref C) (some d) (upd H1 d (.xd [(f, v)]))
theorem pmk_1 {a : Expr} {ta : TA} {p pos : Pos} {k : Nat} (T : Sup.Err1 X.prog X.K X.mg x f C fI) (hr : Room k X.A) (ha : PA X [a] ta) (hg : Gl X x := by rfl) (hdb : (x == ("__debug__" : Str)) = false := by decide)
    (hs : starEach (a :: []) X.env = (false, eval a X.env) :: starEach [] X.env := by rfl) (hpl : (backTo pos (starEach [] X.env)).any (·.1) = false := by rfl) :
    PMk X (.Call (.Name x p) [a] [] pos) (tMk1 C f ta) := by
  intro pins s σ H Q I h
  refine wpAny_Call_Name_kw (ld_glob I hg T.gC ?_ hdb)
  refine PySem.W.callWith_K (h₀ := X.base) I.ok.mod.kin T.ox.kC (thn (ha.run pos pins s σ H _ I h) fun us s1 hh => ?_) hs hpl
  obtain ⟨vs, H1, I1, r1, v, ev, q1⟩ := hh
  subst ev
  refine ⟨I1.kIn, ?_⟩
  cases r1 with
  | cons rv rn =>
    rename_i v' us'
    cases rn
    show wpAny _ _ (call (.ref C) [v']) _ _ _
    have hlim := I1.nolimit
    obtain ⟨mb, hb1, hb2⟩ := I1.mod.blt
    have bk1 := I1.bk
    have gl1 := I1.mod.glob
    obtain ⟨hp, g, dr, tk, os⟩ := s1
    refine wpAny_call (Sup.made1 T I1.kIn hlim (gl1.keeps bk1) ⟨mb, hb1.keeps bk1, hb2⟩ (by have := hr.dp; omega) fun h' tk' e d M => ?_)
    show MkP X pins σ Q (.ref e) ⟨h', g, dr, tk', os⟩
    obtain ⟨oe, fv, hoe, hc, hd, hdat, h1⟩ := M.obj
    have hns := M.ns
    obtain ⟨G', g1, g2⟩ := restrict h' fun b => decide (b ≠ e)
    have gk : ∀ b, b ≠ e → G'.get? b = h'.get? b := fun b hb => g1 b (decide_eq_true hb)
    have ge : G'.get? e = none := g2 e (by simp)
    have old : ∀ b o, hp.get? b = some o → G'.get? b = some o := fun b o z => (gk b (Nat.ne_of_lt (Nat.lt_of_lt_of_le (Heap.lt_size z) M.new))).trans (M.keep b o z)
    have ob : ObjOk X.prog X.w (upd H1 d (.xd [(f, v)])) G' d (.xd [(f, v)]) :=
      ⟨_, hns.at (fun o z => (gk d M.dne).trans z), fun y => relO_one rv y⟩
    have J : Inv X pins σ (upd H1 d (.xd [(f, v)])) ⟨G', g, dr, tk', os⟩ := I1.laid (t' := tk') old M.dbig ob
    refine ⟨e, oe, fv, ⟨G', g, dr, tk', os⟩, _, .ref C, some d, rfl, J, fun b o z => ?_, ge, hoe, ⟨hc, hd⟩, hdat, h1, ?_, rfl, I1.bare, raises_own T.ox.exC T.ox.tyC, q1 d (I1.hok.fresh M.dbig)⟩
    · by_cases hb : b = e
      · have z' : G'.get? b = some o := z
        rw [hb, ge] at z'; cases z'
      · exact (gk b hb).symm.trans z
    · rw [upd_ne (Ne.symm M.dne)]
      exact I1.hok.fresh M.new
/-- raise E(e) -/
def tRaise1 (C : Addr) (f : Str) (W : WX) (ta : TA) : TS := fun _ σ H => tMk1 C f ta σ H fun cls d H' => W cls d σ H'
theorem ps_raise1 {a : Expr} {ta : TA} {W : WX} {p pos pos2 : Pos} {k : Nat} (hc : X.calm = true) (T : Sup.Err1 X.prog X.K X.mg x f C fI) (hr : Room k X.A) (tk : Takes X W) (ha : PA X [a] ta) (hg : Gl X x := by rfl) (hdb : (x == ("__debug__" : Str)) = false := by decide)
    (hs : starEach (a :: []) X.env = (false, eval a X.env) :: starEach [] X.env := by rfl) (hpl : (backTo pos (starEach [] X.env)).any (·.1) = false := by rfl) :
    PS X (.Raise (some (.Call (.Name x p) [a] [] pos)) none pos2) (tRaise1 C f W ta) := ps_raise hc tk (pmk_1 T hr ha hg hdb hs hpl)
end
end L2
/-! Defs by name, the pen. -/
namespace My
open PySem PySem.Spec PyProof.Rows L2
/-- a def of the module that keeps its promise -/
structure DefAt (P : Program) (w : World) (K : PySem.W.Frag) (mg : Str → Option Value) (base : Heap) (CX : CXT) (k : Nat) (x : Str) (ps : List Str) (sp : Sp) : Prop where
  ex : ∃ f fd, FnOk P w K mg base CX k f fd ps sp ∧ mg x = some (.ref f) ∧ PySem.W.keepIn K (.ref f) = true ∧ L2.Binds K fd ps []
structure DefG (P : Program) (w : World) (K : PySem.W.Frag) (mg : Str → Option Value) (base : Heap) (CX : CXT) (k : Nat) (x : Str) (ps : List Str) (sp : Sp) : Prop where
  ex : ∃ f fd, FnG P w K mg base CX k f fd ps sp ∧ mg x = some (.ref f) ∧ PySem.W.keepIn K (.ref f) = true ∧ L2.Binds K fd ps []
section
variable {X : Cx} {CX : CXT} {k : Nat} {ps : List Str} {sp : Sp} {E : XK} {x : Str} {e : Expr} {es : List Expr} {t : TA} {p pos : Pos}
theorem pe_d (D : DefAt X.prog X.w X.K X.mg X.base CX k x ps sp) (hr : Room k X.A) (hg : Gl X x) (hx : Passes CX X E) (ha : PA X (e :: es) t) (hdb : (x == ("__debug__" : Str)) = false := by decide)
    (hs : starEach (e :: es) X.env = (false, eval e X.env) :: starEach es X.env := by rfl) (hpl : (backTo pos (starEach es X.env)).any (·.1) = false := by rfl) : PE X (.Call (.Name x p) (e :: es) [] pos) (tCall sp [] E t) := by
  obtain ⟨f, fd, F, m, hk, b⟩ := D.ex
  exact pe_call F hr hg m hk b .nil hx ha hdb hs hpl
theorem pe_dG (D : DefG X.prog X.w X.K X.mg X.base CX k x ps sp) (hgd : X.A.guards = some []) (hr : Room k X.A) (hg : Gl X x) (hx : Passes CX X E) (ha : PA X (e :: es) t) (hdb : (x == ("__debug__" : Str)) = false := by decide)
    (hs : starEach (e :: es) X.env = (false, eval e X.env) :: starEach es X.env := by rfl) (hpl : (backTo pos (starEach es X.env)).any (·.1) = false := by rfl) : PE X (.Call (.Name x p) (e :: es) [] pos) (tCall sp [] E t) := by
  obtain ⟨f, fd, F, m, hk, b⟩ := D.ex
  exact pe_callG F hgd hr hg m hk b hx ha hdb hs hpl
end
/-- a class of the module that is made by its __init__, some defaults filled up -/
structure MakeAt (P : Program) (w : World) (K : PySem.W.Frag) (mg : Str → Option Value) (base : Heap) (CX : CXT) (k : Nat) (x : Str) (C : Addr) (ps : List Str) (sp : Sp) (dvs : List V) : Prop where
  ex : ∃ f fd ds, Mk K C f ∧ FnOk P w K mg base CX k f fd ps sp ∧ mg x = some (.ref C) ∧ L2.Binds K fd ps ds ∧ Vals dvs ds
structure MethAt (P : Program) (w : World) (K : PySem.W.Frag) (mg : Str → Option Value) (base : Heap) (CX : CXT) (k : Nat) (C : Addr) (m : Str) (ps : List Str) (sp : Sp) : Prop where
  ex : ∃ f fd, Meth K C m f ∧ FnOk P w K mg base CX k f fd ps sp ∧ L2.Binds K fd ps []
/-- .. called with keywords alone: their names ks, gV puts them in the parameters' order -/
structure MethK (P : Program) (w : World) (K : PySem.W.Frag) (mg : Str → Option Value) (base : Heap) (CX : CXT) (k : Nat) (C : Addr) (m : Str) (ps ks : List Str) (sp : Sp) (gV : List V → List V → List V) : Prop where
  ex : ∃ f fd g, Meth K C m f ∧ FnOk P w K mg base CX k f fd ps sp ∧ KBn K fd ps 1 ks g gV
structure CallAt (P : Program) (w : World) (K : PySem.W.Frag) (mg : Str → Option Value) (base : Heap) (CX : CXT) (k : Nat) (C : Addr) (ps : List Str) (sp : Sp) : Prop where
  ex : ∃ f fd, StX.CallO K C f ∧ FnOk P w K mg base CX k f fd ps sp ∧ L2.Binds K fd ps []
section
variable {X : Cx} {CX : CXT} {k : Nat} {C : Addr} {ps ks : List Str} {sp : Sp} {E : XK} {x m : Str} {e o fe : Expr} {es : List Expr} {kws : List Keyword} {t tk : TA} {ta tf : TE} {p pos apos : Pos} {dvs : List V} {gV : List V → List V → List V}
theorem pe_mk (M : MakeAt X.prog X.w X.K X.mg X.base CX k x C ps sp dvs) (hr : Room (k + 1) X.A) (hg : Gl X x) (hx : Passes CX X E) (ha : PA X (e :: es) t) (hdb : (x == ("__debug__" : Str)) = false := by decide)
    (hs : starEach (e :: es) X.env = (false, eval e X.env) :: starEach es X.env := by rfl) (hpl : (backTo pos (starEach es X.env)).any (·.1) = false := by rfl) : PE X (.Call (.Name x p) (e :: es) [] pos) (tMake C sp dvs E t) := by
  obtain ⟨f, fd, ds, mk, F, hm, b, d⟩ := M.ex
  exact pe_make mk F hr hg hm b d hx ha hdb hs hpl
theorem pe_mt {pl : Sem Bool} (c : Cls X.K C) (M : MethAt X.prog X.w X.K X.mg X.base CX k C m ps sp) (hr : Room k X.A) (hx : Passes CX X E) (he : PE X o ta) (ha : PA X (e :: es) t)
    (hst : starEach (e :: es) X.env = (false, eval e X.env) :: starEach es X.env := by rfl) (hpl : (backTo pos (starEach es X.env)).any (·.1) = false := by rfl)
    (ht : eval (.Call (.Attribute o m apos) (e :: es) [] pos) X.env = (do
      let ov ← eval o X.env
      standAt apos.atName
      let (f, first) ← holding [ov] (getMethod ov m pl)
      callWith pos f first (backTo pos (starEach (e :: es) X.env)) (backToKw pos (keywordEach [] X.env))) := by rfl) :
    PE X (.Call (.Attribute o m apos) (e :: es) [] pos) (tMeth C m sp [] E ta t) := by
  obtain ⟨f, fd, hm, F, b⟩ := M.ex
  exact pe_meth he c hm F hr b .nil hx ha hst hpl ht
theorem pe_mt0 {pl : Sem Bool} (c : Cls X.K C) (M : MethAt X.prog X.w X.K X.mg X.base CX k C m ps sp) (hr : Room k X.A) (hx : Passes CX X E) (he : PE X o ta)
    (ht : eval (.Call (.Attribute o m apos) [] [] pos) X.env = (do
      let ov ← eval o X.env
      standAt apos.atName
      let (f, first) ← holding [ov] (getMethod ov m pl)
      callWith pos f first (backTo pos (starEach [] X.env)) (backToKw pos (keywordEach [] X.env))) := by rfl) :
    PE X (.Call (.Attribute o m apos) [] [] pos) (tMeth C m sp [] E ta tNil) := by
  obtain ⟨f, fd, hm, F, b⟩ := M.ex
  exact pe_meth0 he c hm F hr b .nil hx ht
/-- o.m(k = v, ..) -/
def tMethK (C : Addr) (m : Str) (j : Nat) (sp : Sp) (gV : List V → List V → List V) (E : XK) (ta : TE) (tk : TA) : TE := fun σ H Q => ta σ H fun x H1 => ∃ a dx fs, x = .ref a ∧ H1 a = some (.ins C dx fs) ∧ fs.lookup m = none ∧
  tk σ H1 fun zs H2 => zs.length = j ∧ sp (gV [.ref a] zs) H2 Q E
theorem pe_mtK {pl : Sem Bool} (c : Cls X.K C) (M : MethK X.prog X.w X.K X.mg X.base CX k C m ps ks sp gV) (hr : Room k X.A) (hx : Passes CX X E) (he : PE X o ta) (hkw : PK X kws tk)
    (hall : (backToKw pos (keywordEach kws X.env)).all (·.1.isSome) = true := by rfl) (hks : (backToKw pos (keywordEach kws X.env)).filterMap (·.1) = ks := by rfl)
    (hpl : ((backTo pos (starEach [] X.env)).any (·.1) || (backToKw pos (keywordEach kws X.env)).any (·.1.isNone)) = false := by rfl)
    (ht : eval (.Call (.Attribute o m apos) [] kws pos) X.env = (do
      let ov ← eval o X.env
      standAt apos.atName
      let (f, first) ← holding [ov] (getMethod ov m pl)
      callWith pos f first (backTo pos (starEach [] X.env)) (backToKw pos (keywordEach kws X.env))) := by rfl) :
    PE X (.Call (.Attribute o m apos) [] kws pos) (tMethK C m ks.length sp gV E ta tk) := by
  obtain ⟨f, fd, g, hm, F, b⟩ := M.ex
  refine ⟨fun pins s σ H Q I h => ?_⟩
  refine PySem.W.methodCall_KW (pl := pl) (thn (he.run pins s σ H _ I h) fun u s1 ⟨x, H1, I1, rx, a, dx, fs, ex, ea, l, q⟩ => ?_) ht
  subst ex
  obtain rfl : u = Value.ref a := rx
  refine getmeth_ok I1 ea c hm l ?_
  refine PySem.W.callWith_KW0 (first := [.ref a]) (h₀ := X.base) I.ok.mod.kin hm.kp hall (thn (hkw.run pos pins s1 σ H1 _ I1 q) fun ws s2 ⟨zs, H2, I2, rz, l2, q2⟩ => ⟨I2.kIn, ?_⟩) hpl
  rw [hks]
  exact run_fnN (us := [.ref a]) (vs := [.ref a]) F hr b hx I2 (.cons rfl .nil) rz rfl l2 q2
theorem pe_cl (M : CallAt X.prog X.w X.K X.mg X.base CX k C ps sp) (hr : Room k X.A) (hx : Passes CX X E) (hf : PE X fe tf) (ha : PA X (e :: es) t)
    (ht : eval (.Call fe (e :: es) [] pos) X.env = (do callWith pos (← eval fe X.env) [] (backTo pos (starEach (e :: es) X.env)) (backToKw pos (keywordEach [] X.env))) := by rfl)
    (hs : starEach (e :: es) X.env = (false, eval e X.env) :: starEach es X.env := by rfl) (hpl : (backTo pos (starEach es X.env)).any (·.1) = false := by rfl) : PE X (.Call fe (e :: es) [] pos) (StX.tCallO X C sp E tf t) := by
  obtain ⟨f, fd, c, F, b⟩ := M.ex
  refine StX.pe_callO hf c (fun A outer s H us vs Q E hr e0 r hsp => ?_) hr hx ha ht hs hpl
  have hl : (us ++ []).length = ps.length := by rw [List.append_nil, ← r.length]; exact F.len _ _ _ _ hsp
  have hb := b s us (e0.mod.kin.keeps fun b o e => (e0.bs b o e).1) hl
  rw [List.append_nil] at hb
  exact F.run A outer s H ⟨us, []⟩ us vs Q E hr e0 hb r hsp
end
/-- an own comparison -/
structure CmpAt (P : Program) (w : World) (K : PySem.W.Frag) (mg : Str → Option Value) (base : Heap) (CX : CXT) (k : Nat) (C : Addr) (m : Str) (ps : List Str) (sp : Sp) : Prop where
  ex : ∃ f fd, PySem.W.findIn K (.ref C) m = some (some (.ref f)) ∧ PySem.W.isFn K (.ref f) = true ∧ FnOk P w K mg base CX k f fd ps sp ∧ L2.Binds K fd ps []
def rCmpO (K : PySem.W.Frag) (C : Addr) (sp : Sp) (E : XK) : R2 := fun x y H Q => ∃ a dx fs t, x = .ref a ∧ H a = some (.ins C dx fs) ∧ TyX K H y t ∧ PySem.W.notFirst K C t = true ∧ sp [.ref a, y] H Q E
theorem op_cmpO {X : Cx} {CX : CXT} {k : Nat} {C : Addr} {m : Str} {ps : List Str} {sp : Sp} {E : XK} {op : CmpOp} (M : CmpAt X.prog X.w X.K X.mg X.base CX k C m ps sp) (hr : Room k X.A) (hx : Passes CX X E) (hop : (cmpInfo op).2.1 = m := by rfl)
    (hco : ∀ v u, compareOp op v u = richCompare op v u := by intro _ _; rfl) : OpR X (compareOp op) (rCmpO X.K C sp E) := by
  intro pins s σ H x y v u Q I rx ry h
  obtain ⟨f, fd, hs, hf, F, hb⟩ := M.ex
  obtain ⟨a, dx, fs, t, rfl, ha, ty, hn, hsp⟩ := h
  obtain rfl : v = Value.ref a := rx
  obtain ⟨mA, J, _⟩ := ins_get I.hok ha
  obtain ⟨od, J, _⟩ := J.look
  obtain ⟨m', hF⟩ := I.fr
  obtain ⟨Pz, Z, pz, _⟩ := kit_of I ry ty
  rw [hco]
  refine PySem.W.cmp_K (op := op) (tb := t) hr.units0 hF I.ok.mod.kin J (Z.ty _ _ I.kIn pz) hn (by rw [hop]; exact hs) hf ?_
  have hl := F.len _ _ _ _ hsp
  have r2 : Vals [V.ref a, y] [Value.ref a, u] := .cons rfl (.cons ry .nil)
  refine wpAny_call (codeAny_mono (F.run X.A X.stack s H ⟨[.ref a, u], []⟩ [.ref a, u] [.ref a, y] _ E hr I.env0 (by
    have := hb s [.ref a, u] I.kIn (by simpa using hl)
    simpa using this) r2 hsp) fun r s' hq => ?_)
  cases r with
  | error e => exact hx pins σ H s e s' I hq
  | ok fl =>
    cases fl with
    | ret z =>
      have q := I.after hq
      obtain ⟨zv, H', I', rz, q'⟩ := id q
      cases z with
      | notImplemented => cases zv <;> first | (cases rz; done) | (obtain ⟨_, rz⟩ := rz; cases rz)
      | _ => exact q
    | next => exact False.elim hq
    | brk => exact False.elim hq
    | cont => exact False.elim hq
/-! ### the pen: a list of the cells, an index, what is left of a great cell -/
def PenAt (H : Hp) (pn : Addr) (n : Nat) : Prop := ∃ (cl : Addr) (ns : List Int) (at_ rest : Int), H pn = some (.lst [.ref cl, .int at_, .int rest]) ∧ H cl = some (.lst (ns.map V.int)) ∧ ns.length ≤ 63 ∧ 0 ≤ at_ ∧ at_ ≤ n
/-- all but pn stays -/
def But (pn : Addr) (H H' : Hp) : Prop := ∀ b o, H b = some o → b ≠ pn → H' b = some o
theorem But.refl (pn : Addr) (H : Hp) : But pn H H := fun _ _ h _ => h
theorem But.trans {pn : Addr} {H H1 H2 : Hp} (a : But pn H H1) (b : But pn H1 H2) : But pn H H2 := fun c o h n => b c o (a c o h n) n
theorem But.new {pn p : Addr} {H : Hp} {o : HO} (h : H p = none) : But pn H (upd H p o) := fun b u e _ => by rw [upd_ne (ne_of_none e h)]; exact e
theorem But.put {pn : Addr} {H : Hp} {o : HO} : But pn H (upd H pn o) := fun b u e n => by rw [upd_ne n]; exact e
theorem pen_new {H : Hp} {pn p : Addr} {n : Nat} {o : HO} (h : PenAt H pn n) (hp : H p = none) : PenAt (upd H p o) pn n := by
  obtain ⟨cl, ns, a, r, h1, h2, h3⟩ := h
  exact ⟨cl, ns, a, r, by rw [upd_ne (ne_of_none h1 hp)]; exact h1, by rw [upd_ne (ne_of_none h2 hp)]; exact h2, h3⟩
theorem PenAt.le {H : Hp} {pn : Addr} {n m : Nat} (h : PenAt H pn n) (le : n ≤ m) : PenAt H pn m := by
  obtain ⟨cl, ns, a, r, h1, h2, h3, h4, h5⟩ := h
  exact ⟨cl, ns, a, r, h1, h2, h3, h4, by omega⟩
def spDraw : Sp := fun vs H Q _ => ∃ (pn : Addr) (m : Int) (n : Nat), vs = [.ref pn, .int m] ∧ 0 < m ∧ m.natAbs.log2 < 9000 ∧ PenAt H pn n ∧ n < 100000 ∧
  ∀ (d : Int) (H' : Hp), 0 ≤ d → d < m → PenAt H' pn (n + 1) → But pn H H' → Q (.int d) H'
/-- pick(pen, some): one of some -/
def spPick : Sp := fun vs H Q _ => ∃ (pn l : Addr) (n : Nat) (xs : List V), vs = [.ref pn, .ref l] ∧ H l = some (.lst xs) ∧ l ≠ pn ∧ 0 < xs.length ∧ xs.length ≤ 1000 ∧ PenAt H pn n ∧ n < 100000 ∧
  ∀ (v : V) (H' : Hp), v ∈ xs → PenAt H' pn (n + 1) → But pn H H' → Q v H'
def spPen (K : PySem.W.Frag) : Sp := fun vs H Q _ => ∃ (a : Addr) (ns : List Int), vs = [.ref a] ∧ SqL K H a (ns.map V.int) ∧
  ∀ (pn : Addr) (H' : Hp), H pn = none → PenAt H' pn 0 → Same H H' → Q (.ref pn) H'
/-! ### lists of ints as data -/
theorem dp_ints {K : PySem.W.Frag} {H : Hp} : ∀ ns : List Int, DpAll K H (ns.map V.int) (ns.map PyData.int)
  | [] => .nil
  | n :: ns => .cons (.int n) (dp_ints ns)
theorem lay_ints : ∀ ns : List Int, PyData.canLayAll0 (ns.map PyData.int) = true
  | [] => rfl
  | n :: ns => by
    show (true && PyData.canLayAll0 (ns.map PyData.int)) = true
    rw [lay_ints ns]
    rfl
theorem dep_ints : ∀ ns : List Int, PyData.depthAll (ns.map PyData.int) = 0
  | [] => rfl
  | n :: ns => by
    show max 0 (PyData.depthAll (ns.map PyData.int)) = 0
    rw [dep_ints ns]
    rfl
theorem shaped_ints (ns : List Int) : SeqAt.shaped (.list (ns.map PyData.int)) = true := by
  show (PyData.canLayAll0 (ns.map PyData.int) && decide (PyData.depthAll (ns.map PyData.int) + 1 ≤ 64)) = true
  rw [lay_ints, dep_ints]
  rfl
theorem pow_lt {i : Int} {b : Nat} (h0 : 0 ≤ i) (h : i < 2 ^ b) : i.natAbs < 2 ^ b := by
  have e : ((2 ^ b : Nat) : Int) = (2 : Int) ^ b := by simp
  omega
theorem mix_lt {x a c d e : Int} (x0 : 0 ≤ x) (x1 : x < 2147483648) (a0 : 0 ≤ a) (a1 : a < 100000) (c0 : 0 ≤ c) (c1 : c ≤ 1000) (d0 : 0 ≤ d) (d1 : d ≤ 100000) (e0 : 0 ≤ e) (e1 : e ≤ 100000) : (x * (2 * a + c) + d * a * a + e).natAbs < 2 ^ 64 := by
  have h1 : x * (2 * a + c) ≤ 2147483648 * 201000 := Int.mul_le_mul (by omega) (by omega) (by omega) (by decide)
  have h2 : 0 ≤ x * (2 * a + c) := Int.mul_nonneg x0 (by omega)
  have h3 : d * a ≤ 100000 * 100000 := Int.mul_le_mul d1 (by omega) a0 (by decide)
  have h4 : 0 ≤ d * a := Int.mul_nonneg d0 a0
  have h5 : d * a * a ≤ (100000 * 100000) * 100000 := Int.mul_le_mul h3 (by omega) a0 (by decide)
  have h6 : 0 ≤ d * a * a := Int.mul_nonneg h4 a0
  generalize x * (2 * a + c) = y at *
  generalize d * a * a = z at *
  refine pow_lt (by omega) (by omega)
theorem cut_ints (ns : List Int) (k : Nat) : cutV (ns.map V.int) none (some (k : Int)) = (ns.take k).map V.int := by
  unfold cutV
  rw [HT.sIx_none, HT.sIx_nat, List.drop_zero, Nat.sub_zero, List.map_take, List.length_map]
  by_cases h : k ≤ ns.length
  · rw [Nat.min_eq_left h]
  · rw [Nat.min_eq_right (by omega), List.take_of_length_le (by rw [List.length_map]; exact Nat.le_refl _), List.take_of_length_le (by rw [List.length_map]; omega)]
/-- names that are still the built-in ones -/
structure BI (mg : Str → Option Value) : Prop where
  z_len : mg "len" = none
  z_abs : mg "abs" = none
  z_int : mg "int" = none
  z_bool : mg "bool" = none
  z_list : mg "list" = none
  z_repr : mg "repr" = none
  z_isinstance : mg "isinstance" = none
  z_range : mg "range" = none
end My
/-! The end of a law whose def shows containers: a def that keeps its promise where nothing is being shown. -/
namespace My
open PySem PySem.Spec PyProof.Rows L2
/-- the heap h at the law's start as the walk sees it: the script's list at a, the tables of code objects -/
structure Begin (P : Program) (w : World) (K : PySem.W.Frag) (cs : List (Addr × Addr)) (a : Addr) (ns : List Int) (H : Hp) (h : Heap) : Prop where
  tbl : ∀ p ∈ cs, H p.2 = some (.tbl #[])
  kind : ∀ b, H b = none ∨ b ∈ cs.map (·.2) ∨ ∃ o xs, H b = some (.frz o (.lst xs))
  seq : SqL K H a (ns.map V.int)
  ok : HOk P w H h
  only : ∀ b, H b ≠ none → b = a ∨ b ∈ cs.map (·.2)
  out : H a ≠ none → K.lookup a = none
/-- what is known of a table and its code object -/
structure TabF (K : PySem.W.Frag) (h : Heap) (p : Addr × Addr) : Prop where
  get : h.get? p.2 = some { cls := .none, data := .fields #[] }
  out : K.lookup p.2 = none
  hd : PySem.W.CodeHd h p.1 p.2
def Goal (l : Program) (w : World) (fa a : Addr) (s₁ : Shared) : Prop := codeAny (model l w) callerA (.call (.ref fa) ⟨[.ref a], []⟩) (fun r s' => r = .ok (.ret (.bool true)) ∧ OldK s₁.heap s'.heap ∧ s'.os = s₁.os ∧ AllBare s'.gens) s₁
theorem tab_get {K : PySem.W.Frag} {h : Heap} {cs : List (Addr × Addr)} (t : ∀ p ∈ cs, TabF K h p) {b : Addr} (hb : b ∈ cs.map (·.2)) : h.get? b = some { cls := .none, data := .fields #[] } := by
  obtain ⟨p, hp, rfl⟩ := List.mem_map.mp hb
  exact (t p hp).get
section
variable {P : Program} {w : World} {K : PySem.W.Frag} {mg mb : Str → Option Value} {k : Nat} {fa a : Addr} {cs : List (Addr × Addr)} {fd : FuncData} {x : Str} {sp : Sp} {s₁ : Shared} {vs : List Value} {ns : List Int}
theorem from_begin {H : Hp} (B : Begin P w K cs a ns H s₁.heap) (hK : K.In s₁.heap) (gN : s₁.heap.Ns mainGlobals mg) (bN : s₁.heap.Ns builtinsNs mb) (bB : ∀ x : Str, x ≠ "__name__" → mb x = bootBuiltins x) (lim : s₁.heap.NoLimit) (gens : s₁.gens = #[])
    (ts : ∀ p ∈ cs, TabF K s₁.heap p) (mB : ∃ (bm : Addr) (ob : Obj), mg "__builtins__" = some (.ref bm) ∧ bm ≠ builtinsNs ∧ s₁.heap.get? bm = some ob ∧ ob.cls = .type "module" ∧ ob.dict = some builtinsNs ∧ ob.data = .plain)
    (la : s₁.heap.get? a = some { cls := .type "list", data := .seq vs.toArray }) (hr : Room k callerA)
    (F : ∀ base : Heap, K.In base → base.Ns mainGlobals mg → (∀ p ∈ cs, LamX.TabB base mg p.1 p.2) → FnG P w K mg base CX0 k fa fd [x] sp) (bd : ∀ (s : Shared) (u : Value), BindsTo s fd ⟨[u], []⟩ [(x, u)])
    (go : sp [.ref a] H (fun v _ => v = .bl true) fun _ _ _ => False) : Goal P w fa a s₁ := by
  have away : ∀ {b : Addr} {o : Obj}, s₁.heap.get? b = some o → (∀ ys n, o.data ≠ .seq ys n) → o.data ≠ .fields #[] → H b = none := fun {b o} e n1 n2 => by
    by_cases q : H b = none
    · exact q
    · exfalso
      rcases B.only b q with rfl | hb
      · rw [la] at e
        injection e with e
        subst e
        exact n1 _ _ rfl
      · rw [tab_get ts hb] at e
        injection e with e
        subst e
        exact n2 rfl
  have seen : ∀ {b : Addr} {o : Obj}, s₁.heap.get? b = some o → H b = none → (hidT s₁.heap H).get? b = some o := fun e n => hidT_get e n
  have nsOf : ∀ {b : Addr} {m : Str → Option Value}, s₁.heap.Ns b m → (hidT s₁.heap H).Ns b m := fun {b m} ⟨o, es, ep, e, d, r⟩ =>
    ⟨o, es, ep, seen e (away e (fun ys n z => by rw [d] at z; cases z) (fun z => by rw [d] at z; cases z)), d, r⟩
  have inK : K.In (hidT s₁.heap H) := fun b o e => by
    refine seen (hK b o e) ?_
    by_cases q : H b = none
    · exact q
    · exfalso
      rcases B.only b q with rfl | hb
      · rw [B.out q] at e
        cases e
      · obtain ⟨p, hp, rfl⟩ := List.mem_map.mp hb
        rw [(ts p hp).out] at e
        cases e
  have modK : L2.Mod K mg (hidT s₁.heap H) := ⟨inK, nsOf gN, ⟨mb, nsOf bN, bB⟩, let ⟨mc, h1, h2⟩ := lim; ⟨mc, nsOf h1, h2⟩⟩
  have tabs : ∀ p ∈ cs, LamX.TabB (hidT s₁.heap H) mg p.1 p.2 := fun p hp => by
    have tp := ts p hp
    refine ⟨?_, ?_, fun z => ?_⟩
    · obtain ⟨o, us, file, tf, flags, tg, inF, text, tt, e1, r1, r2, r3, rs⟩ := tp.hd
      exact ⟨o, us, file, tf, flags, tg, inF, text, tt, seen e1 (away e1 (fun ys n z => by rw [r2] at z; cases z) (fun z => by rw [r2] at z; cases z; simp at r3)), r1, r2, r3, rs⟩
    · obtain ⟨bm, ob, m1, m2, m3, m4, m5, m6⟩ := mB
      refine ⟨bm, ob, m1, m2, fun z => ?_, fun z => ?_, seen m3 (away m3 (fun ys n z => by rw [m6] at z; cases z) (fun z => by rw [m6] at z; cases z)), m4, m5, m6⟩
      · obtain ⟨o, es, ep, e, hd, _⟩ := gN
        rw [z, e] at m3
        cases m3
        rw [hd] at m6
        cases m6
      · rw [z, tp.get] at m3
        cases m3
        cases m6
    · obtain ⟨o, es, ep, e, hd, _⟩ := gN
      rw [z, tp.get] at e
      cases e
      cases hd
  have env0 : Env0 P w K mg (hidT s₁.heap H) callerA [] s₁ H := ⟨rfl, modK, fun b o e => of_hidT e, Nat.le_of_eq (hidT_size _ _), trivial, fun b hb => absurd (show b ∈ ([] : List Addr) from hb) (by simp), B.ok, .of_eq gens⟩
  unfold Goal
  refine codeAny_mono ((F _ inK (nsOf gN) tabs).run callerA [] s₁ H ⟨[.ref a], []⟩ [.ref a] [.ref a] _ _ rfl hr env0 (bd s₁ (.ref a)) (.cons rfl .nil) go) fun r s' done => ?_
  match r, done with
  | .error e, z => exact False.elim z
  | .ok .next, z => exact False.elim z
  | .ok .brk, z => exact False.elim z
  | .ok .cont, z => exact False.elim z
  | .ok (.ret u), ⟨v, H', os, bare, un, ok', r', q⟩ =>
    have q2 : v = .bl true := q
    subst q2
    have q3 : u = Value.bool true := r'
    subst q3
    have stays : ∀ b o, b ∉ cs.map (·.2) → s₁.heap.get? b = some o → s'.heap.get? b = some o := fun b o nb e => by
      rcases B.kind b with z | z | ⟨ob, xs, z⟩
      · exact un.keep b o e z (by intro z; exact absurd (show b ∈ ([] : List Addr) from z) (by simp)) (by simp)
      · exact absurd z nb
      · obtain ⟨e1, _⟩ := B.ok b _ z
        obtain ⟨e2, _⟩ := ok' b _ (un.frzs b ob _ z)
        rw [e] at e1
        cases e1
        exact e2
    have more : ∀ p ∈ cs, ∃ ys : Array Value, s'.heap.get? p.2 = some { cls := .none, data := .fields ys } := fun p hp => by
      obtain ⟨ys, z⟩ := un.tbls p.2 #[] (B.tbl p hp)
      exact ⟨_, ok' p.2 _ z⟩
    refine ⟨rfl, ⟨fun b o e => ?_, fun b o e => ?_⟩, os, bare⟩
    · by_cases hb : b ∈ cs.map (·.2)
      · obtain ⟨p, hp, rfl⟩ := List.mem_map.mp hb
        obtain ⟨ys, hm⟩ := more p hp
        rw [(ts p hp).get] at e
        cases e
        exact .inr (.inl ⟨((ts p hp).hd.tab (ts p hp).get).isCodeTable, rfl, #[], ys, rfl, by rw [Array.empty_append]; exact hm⟩)
      · exact .inl (stays b o hb e)
    · by_cases hb : b ∈ cs.map (·.2)
      · obtain ⟨p, hp, rfl⟩ := List.mem_map.mp hb
        obtain ⟨ys, hm⟩ := more p hp
        exact ⟨_, hm⟩
      · exact ⟨o, stays b o hb e⟩
/-- such a beginning is to be had -/
theorem begins (hK : K.In s₁.heap) (ts : ∀ p ∈ cs, TabF K s₁.heap p) (la : s₁.heap.get? a = some { cls := .type "list", data := .seq vs.toArray }) (hi : IntsAre vs ns) (hl : ns.length ≤ sizeLine) : ∃ H, Begin P w K cs a ns H s₁.heap := by
  have nt : a ∉ cs.map (·.2) := fun z => by
    have q := tab_get ts z
    rw [la] at q
    injection q with q
    injection q with _ _ q _
    cases q
  have rv := vals_ints hi
  let O : Option HO := if (K.lookup a).isSome = true then none else some (.frz { cls := .type "list", data := .seq vs.toArray } (.lst (ns.map V.int)))
  have atT : ∀ b, b ∈ cs.map (·.2) → (if b ∈ cs.map (·.2) then some (HO.tbl #[]) else if b = a then O else none) = some (HO.tbl #[]) := fun b h => if_pos h
  have atA : (if a ∈ cs.map (·.2) then some (HO.tbl #[]) else if a = a then O else none) = O := (if_neg nt).trans (if_pos rfl)
  have atN : ∀ b, b ∉ cs.map (·.2) → b ≠ a → (if b ∈ cs.map (·.2) then some (HO.tbl #[]) else if b = a then O else none) = none := fun b h1 h2 => (if_neg h1).trans (if_neg h2)
  refine ⟨fun b => if b ∈ cs.map (·.2) then some (.tbl #[]) else if b = a then O else none, fun p hp => atT _ (List.mem_map.mpr ⟨p, hp, rfl⟩), fun b => ?_, ?_, fun b u z => ?_, fun b z => ?_, fun z => ?_⟩
  · by_cases h1 : b ∈ cs.map (·.2)
    · exact .inr (.inl h1)
    · by_cases h2 : b = a
      · subst h2
        by_cases h3 : (K.lookup b).isSome = true
        · exact .inl (atA.trans (if_pos h3))
        · exact .inr (.inr ⟨_, _, atA.trans (if_neg h3)⟩)
      · exact .inl (atN b h1 h2)
  · cases h3 : K.lookup a with
    | none =>
      refine .inl (.inr ⟨_, atA.trans (if_neg ?_)⟩)
      rw [h3]
      exact Bool.noConfusion
    | some o =>
      have e := hK a o h3
      rw [la] at e
      cases e
      exact .inr ⟨_, vs.toArray, _, h3, rfl, rfl, rfl, by rw [List.size_toArray, hi.length]; exact hl, by simpa using rv⟩
  · by_cases h1 : b ∈ cs.map (·.2)
    · have z' := (atT b h1).symm.trans z
      cases z'
      exact tab_get ts h1
    · by_cases h2 : b = a
      · subst h2
        have z' := atA.symm.trans z
        by_cases h3 : (K.lookup b).isSome = true
        · have z2 := (if_pos h3).symm.trans z'
          cases z2
        · have z2 := (if_neg h3).symm.trans z'
          cases z2
          exact ⟨la, by rw [List.length_map]; exact hl, vs, _, rv, la⟩
      · have z' := (atN b h1 h2).symm.trans z
        cases z'
  · by_cases h1 : b ∈ cs.map (·.2)
    · exact .inr h1
    · by_cases h2 : b = a
      · exact .inl h2
      · exact absurd (atN b h1 h2) z
  · cases h3 : K.lookup a with
    | none => rfl
    | some o => exact absurd (atA.trans (if_pos (by rw [h3]; rfl))) z
end
/-- what is known of the law's promise at the head's heap h; TF: what the top says of the tables -/
def LawG (l : PySem.W.OpenLaw) (w : World) (K : PySem.W.Frag) (k n : Nat) (x : Str) (mg : Str → Option Value) (fa : Addr) (h : Heap) : Prop :=
  ∃ (fd : FuncData) (cs : List (Addr × Addr)) (sp : Sp), (∀ p ∈ cs, TabF K h p) ∧ (∀ (s : Shared) (u : Value), BindsTo s fd ⟨[u], []⟩ [(x, u)]) ∧
    (∀ (H : Hp) (a : Addr) (ns : List Int), ns.length ≤ n → (∀ z ∈ ns, Builtin.Int.intBits z ≤ 1048576) → (∀ p ∈ cs, H p.2 = some (.tbl #[])) → SqL K H a (ns.map V.int) → sp [.ref a] H (fun v _ => v = .bl true) fun _ _ _ => False) ∧
    ∀ base : Heap, K.In base → base.Ns mainGlobals mg → (∀ p ∈ cs, LamX.TabB base mg p.1 p.2) → FnG l.prog w K mg base CX0 k fa fd [x] sp
theorem walk_G {l : PySem.W.OpenLaw} {n k : Nat} {q : Program} {loose : List Str} {XP : (Str → Option Value) → Heap → Prop} {YP : World → Heap → Prop} {d : DefRec} {K : Params → PySem.W.Frag} {x : Str}
    (hn : l.most = some n) (hn2 : n ≤ sizeLine) (hdf : d.params.defaults = []) (hr : Room k callerA) (hY : ∀ (w : World) (h : Heap), YP w h → (K w.params).In h)
    (F : ∀ (w : World) (mg : Str → Option Value) (fa : Addr) (h : Heap), YP w h → (K w.params).In h → h.Ns mainGlobals mg → mg d.name = some (.ref fa) →
      (∀ (y : Str) (c T : Addr), ((recsOf q).any fun e => e.name == y) = true → PySem.W.tabIn (K w.params) y = some (c, T) → (K w.params).lookup T = none → TabF (K w.params) h (c, T)) → LawG l w (K w.params) k n x mg fa h) :
    PySem.W.WalkO q loose XP YP l.row.toRowW d [] (fun f vs => PySem.call f vs) := by
  refine Att.attach_callB hn hdf fun w s₀ s₁ mg mb fa o pm cd doc a vs ns G Y ho hd hcd hmg hobj hints hlen hbits hg => ?_
  have KX := hY w _ Y
  obtain ⟨fd, cs, sp, ts, hb, hsp, hF⟩ := F w mg fa _ Y KX G.T.g hmg fun y c T hrec hT hN => by
    obtain ⟨e, he⟩ := Option.isSome_iff_exists.mp (show ((recsOf q).find? fun e => e.name == y).isSome = true by rw [List.find?_isSome]; obtain ⟨e, h1, h2⟩ := List.any_eq_true.mp hrec; exact ⟨e, h1, h2⟩)
    obtain ⟨h1, h2⟩ := PySem.W.tab_of G.T KX he hT
    exact ⟨h2, hN, h1⟩
  obtain ⟨H, B⟩ := begins (P := l.prog) (w := w) KX ts hobj hints (Nat.le_trans hlen hn2)
  exact from_begin B KX G.T.g G.T.b G.T.builtins G.T.nolimit hg ts G.T.bmain hobj hr hF hb (hsp H a ns hlen hbits B.tbl B.seq)
end My
/-! What the top has written, by name. -/
namespace My
open PySem PySem.Spec PyProof.Rows L2
/-- the module has the def -/
structure Has (K : PySem.W.Frag) (mg : Str → Option Value) (x : Str) (st : Stmt) : Prop where
  ex : ∃ f fd, mg x = some (.ref f) ∧ Fun K x x st f fd
/-- a def that makes functions, its code object at c -/
structure HasC (K : PySem.W.Frag) (mg : Str → Option Value) (x : Str) (st : Stmt) (c : Addr) : Prop where
  ex : ∃ (f : Addr) (oc : Value) (od : Option Addr) (kV doc pm : Value) (an : Option Addr) (ct : Value) (osl : Array (Option Value)), mg x = some (.ref f) ∧
    K.lookup f = some ⟨oc, od, .func (PySem.W.fnOf x x (defArgs st) (defBody st) (defScope st) .none kV doc pm an (.ref c) ct), osl⟩ ∧ PySem.W.codeIn K (.ref c) x = true ∧ PySem.W.keepIn K (.ref f) = true
/-- the class has the method -/
structure HasM (K : PySem.W.Frag) (C : Addr) (m qual : Str) (st : Stmt) : Prop where
  ex : ∃ f fd, PySem.W.findIn K (.ref C) m = some (some (.ref f)) ∧ PySem.W.isFn K (.ref f) = true ∧ Fun K m qual st f fd
/-- the class has the method, with defaults -/
structure HasD (K : PySem.W.Frag) (C : Addr) (m qual : Str) (st : Stmt) (dvs : List V) (kws : List (Str × V)) : Prop where
  ex : ∃ f fd, PySem.W.findIn K (.ref C) m = some (some (.ref f)) ∧ PySem.W.isFn K (.ref f) = true ∧ FunD K m qual (defArgs st) (defBody st) (defScope st) dvs kws f fd
section
variable {P : Program} {w : World} {K : PySem.W.Frag} {mg : Str → Option Value} {base : Heap} {CX : CXT} {k : Nat} {x m qual : Str} {st : Stmt} {ps ks : List Str} {sp : Sp} {C c : Addr}
def BindW (x qual : Str) (st : Stmt) (ps : List Str) : Prop := ∀ (kV doc pm : Value) (an : Option Addr) (cdv ct : Value) (us : List Value), us.length = ps.length → bindArgs (PySem.W.fnOf x qual (defArgs st) (defBody st) (defScope st) .none kV doc pm an cdv ct) ⟨us, []⟩ = pure (ps.zip us)
theorem def_at (A : Has K mg x st) (ok : ∀ f fd, Fun K x x st f fd → FnOk P w K mg base CX k f fd ps sp) (b : BindW x x st ps) : DefAt P w K mg base CX k x ps sp := by
  obtain ⟨f, fd, h1, F⟩ := A.ex
  exact ⟨f, fd, ok f fd F, h1, F.kp, F.binds b⟩
theorem def_atG (A : Has K mg x st) (ok : ∀ f fd, Fun K x x st f fd → FnG P w K mg base CX k f fd ps sp) (b : BindW x x st ps) : DefG P w K mg base CX k x ps sp := by
  obtain ⟨f, fd, h1, F⟩ := A.ex
  exact ⟨f, fd, ok f fd F, h1, F.kp, F.binds b⟩
theorem meth_at (A : HasM K C m qual st) (ok : ∀ f fd, Fun K m qual st f fd → FnOk P w K mg base CX k f fd ps sp) (b : BindW m qual st ps) : MethAt P w K mg base CX k C m ps sp := by
  obtain ⟨f, fd, h1, h2, F⟩ := A.ex
  exact ⟨f, fd, ⟨h1, h2, F.kp⟩, ok f fd F, F.binds b⟩
theorem call_at (A : HasM K C "__call__" qual st) (ok : ∀ f fd, Fun K "__call__" qual st f fd → FnOk P w K mg base CX k f fd ps sp) (b : BindW "__call__" qual st ps) : CallAt P w K mg base CX k C ps sp := by
  obtain ⟨f, fd, h1, h2, F⟩ := A.ex
  obtain ⟨oc, od, kV, doc, pm, an, cdv, ct, osl, e, lk, _⟩ := F.ex
  refine ⟨f, fd, ⟨h1, h2, ?_⟩, ok f fd F, F.binds b⟩
  unfold PySem.W.fnIn
  rw [lk]
theorem cmp_at (A : HasM K C m qual st) (ok : ∀ f fd, Fun K m qual st f fd → FnOk P w K mg base CX k f fd ps sp) (b : BindW m qual st ps) : CmpAt P w K mg base CX k C m ps sp := by
  obtain ⟨f, fd, h1, h2, F⟩ := A.ex
  exact ⟨f, fd, h1, h2, ok f fd F, F.binds b⟩
/-- called with keywords alone -/
theorem methK_at {gV : List V → List V → List V} {g : List Value → List Value → List Value} (A : HasM K C m qual st) (ok : ∀ f fd, Fun K m qual st f fd → FnOk P w K mg base CX k f fd ps sp)
    (b : ∀ (kV doc pm : Value) (an : Option Addr) (cdv ct : Value) (us ws : List Value), us.length = 1 → ws.length = ks.length → bindArgs (PySem.W.fnOf m qual (defArgs st) (defBody st) (defScope st) .none kV doc pm an cdv ct) ⟨us, ks.zip ws⟩ = pure (ps.zip (g us ws)))
    (r : ∀ {vs : List V} {us : List Value} {zs : List V} {ws : List Value}, Vals vs us → Vals zs ws → Vals (gV vs zs) (g us ws)) : MethK P w K mg base CX k C m ps ks sp gV := by
  obtain ⟨f, fd, h1, h2, F⟩ := A.ex
  obtain ⟨oc, od, kV, doc, pm, an, cdv, ct, osl, rfl, lk, hcd⟩ := id F.ex
  exact ⟨f, _, g, ⟨h1, h2, F.kp⟩, ok f _ F, ⟨fun s us ws _ l1 l2 => .of_eq (b kV doc pm an cdv ct us ws l1 l2), r⟩⟩
/-- the class is made with all its arguments -/
theorem make_all {dvs : List V} (A : HasD K C "__init__" qual st dvs []) (hx : mg x = some (.ref C)) (mk : PySem.W.makesIn K C = true) (kp : PySem.W.keepIn K (.ref C) = true) (ok : ∀ f fd, FunD K "__init__" qual (defArgs st) (defBody st) (defScope st) dvs [] f fd → FnOk P w K mg base CX k f fd ps sp) (hd : dvs ≠ [])
    (b : ∀ (T : Addr) (kV doc pm : Value) (an : Option Addr) (cdv ct : Value) (us its : List Value), us.length = ps.length → its.length = dvs.length →
      ∃ k, bindArgs (PySem.W.fnOf "__init__" qual (defArgs st) (defBody st) (defScope st) (.ref T) kV doc pm an cdv ct) ⟨us, []⟩ = seqItems? (.ref T) >>= k ∧ k (some its.toArray) = pure (ps.zip (us ++ its.drop dvs.length))) : MakeAt P w K mg base CX k x C ps sp [] := by
  obtain ⟨f, fd, h1, h2, F⟩ := A.ex
  obtain ⟨ds, r, bs⟩ := F.binds1 ps.length dvs.length hd (by omega) b
  rw [List.drop_length] at r
  exact ⟨f, fd, ds, ⟨mk, h1, h2, kp⟩, ok f fd F, hx, bs, r⟩
end
end My
/-! Ints beside instances: the int's own slots decline. -/
namespace My
open PySem PySem.Spec PyProof.Rows
def Plain (h : Heap) (l : Addr) : Prop := ∃ (c : Value) (d : Option Addr) (sl : Array (Option Value)), h.get? l = some { cls := c, dict := d, data := .plain, slots := sl }
def Declines (B : Builtin) (a : Int) (t : Tok) (l : Addr) : Prop := Meets (B ⟨[.int a t, .ref l], []⟩) fun _ R s => Plain s.heap l ∧ R (.ok (.ret Value.notImplemented)) s
theorem dec_add (a : Int) (t : Tok) (l : Addr) : Declines Builtin.«int.__add__» a t l :=
  .of_wp fun prog w A R s h => by obtain ⟨hp, g, d, tk, os⟩ := s; obtain ⟨⟨c, dd, sl, hl⟩, h⟩ := h; wp_walk; exact ⟨_, rfl, h⟩
theorem dec_sub (a : Int) (t : Tok) (l : Addr) : Declines Builtin.«int.__sub__» a t l :=
  .of_wp fun prog w A R s h => by obtain ⟨hp, g, d, tk, os⟩ := s; obtain ⟨⟨c, dd, sl, hl⟩, h⟩ := h; wp_walk; exact ⟨_, rfl, h⟩
theorem dec_mul (a : Int) (t : Tok) (l : Addr) : Declines Builtin.«int.__mul__» a t l :=
  .of_wp fun prog w A R s h => by obtain ⟨hp, g, d, tk, os⟩ := s; obtain ⟨⟨c, dd, sl, hl⟩, h⟩ := h; wp_walk; exact ⟨_, rfl, h⟩
theorem dec_floordiv (a : Int) (t : Tok) (l : Addr) : Declines Builtin.«int.__floordiv__» a t l :=
  .of_wp fun prog w A R s h => by obtain ⟨hp, g, d, tk, os⟩ := s; obtain ⟨⟨c, dd, sl, hl⟩, h⟩ := h; wp_walk; exact ⟨_, rfl, h⟩
theorem dec_mod (a : Int) (t : Tok) (l : Addr) : Declines Builtin.«int.__mod__» a t l :=
  .of_wp fun prog w A R s h => by obtain ⟨hp, g, d, tk, os⟩ := s; obtain ⟨⟨c, dd, sl, hl⟩, h⟩ := h; wp_walk; exact ⟨_, rfl, h⟩
theorem dec_lt (a : Int) (t : Tok) (l : Addr) : Declines Builtin.«int.__lt__» a t l :=
  .of_wp fun prog w A R s h => by obtain ⟨hp, g, d, tk, os⟩ := s; obtain ⟨⟨c, dd, sl, hl⟩, h⟩ := h; wp_walk; exact ⟨_, rfl, h⟩
theorem dec_le (a : Int) (t : Tok) (l : Addr) : Declines Builtin.«int.__le__» a t l :=
  .of_wp fun prog w A R s h => by obtain ⟨hp, g, d, tk, os⟩ := s; obtain ⟨⟨c, dd, sl, hl⟩, h⟩ := h; wp_walk; exact ⟨_, rfl, h⟩
theorem dec_gt (a : Int) (t : Tok) (l : Addr) : Declines Builtin.«int.__gt__» a t l :=
  .of_wp fun prog w A R s h => by obtain ⟨hp, g, d, tk, os⟩ := s; obtain ⟨⟨c, dd, sl, hl⟩, h⟩ := h; wp_walk; exact ⟨_, rfl, h⟩
theorem dec_ge (a : Int) (t : Tok) (l : Addr) : Declines Builtin.«int.__ge__» a t l :=
  .of_wp fun prog w A R s h => by obtain ⟨hp, g, d, tk, os⟩ := s; obtain ⟨⟨c, dd, sl, hl⟩, h⟩ := h; wp_walk; exact ⟨_, rfl, h⟩
theorem dec_eq (a : Int) (t : Tok) (l : Addr) : Declines Builtin.«int.__eq__» a t l :=
  .of_wp fun prog w A R s h => by obtain ⟨hp, g, d, tk, os⟩ := s; obtain ⟨⟨c, dd, sl, hl⟩, h⟩ := h; wp_walk; exact ⟨_, rfl, h⟩
end My
/-! Own operators: an instance beside an instance, beside an int, an int beside it, in place, the sign. -/
namespace My
open PySem PySem.Spec PySem.Calls PyProof.Rows L2
section
open PySem.W
variable {prog : Program} {w : World} {A : Around} {E : Value → Shared → Prop} {s : Shared} {K : Frag} {x C L f f0 : Addr} {h₀ : Heap} {m : Str → Option Value} {ox : Obj} {od : Option Obj}
/-- what is known of the int's slot -/
structure IntSlot (K : Frag) (nm : String) (id : String) (B : Builtin) : Prop where
  slot : Slot "int" (PySem.dunder nm) id
  entry : entryFor table id = some B
  args : ∀ a b : Value, argsOk id ⟨[a, b], []⟩
  dec : ∀ a t l, Declines B a t l
theorem int_plain (i : Int) (t : Tok) (s : Shared) : s.TypeIs (.int i t) "int" := by
  first | exact .int | exact trivial | rfl | exact ⟨_, rfl⟩
theorem int_call {i : Int} {t : Tok} {nm id : String} {B : Builtin} {Q : Value → Shared → Prop} (S : IntSlot K nm id B) (hp : Plain s.heap x) (h : Q .notImplemented s) : wpAny (model prog w) A (call (.builtin id) [.int i t, .ref x]) Q E s :=
  call_meets S.slot (int_plain i t s) S.entry (S.args _ _) (S.dec i t x) ⟨hp, h⟩
/-- an int beside an instance: the reflected method -/
theorem binR_K {op : Operator} {i : Int} {t : Tok} {id : String} {B : Builtin} {fo ro : Option Value} {Q : Value → Shared → Prop} (S : IntSlot K op.info.2 id B) (F : Fr h₀ L s.heap m) (X₀ : K.In h₀) (I : InstAt s.heap x ox C od) (hp : Plain s.heap x) (hc : selfFirst K C = true)
    (hs : findIn K (.ref C) (PySem.dunder op.info.2) = some (some (.ref f0))) (hr : findIn K (.ref C) (dunderR op.info.2) = some (some (.ref f))) (hf : isFn K (.ref f) = true)
    (h1 : findIn K (.type "int") (PySem.dunder op.info.2) = some fo) (h2 : findIn K (.type "int") (dunderR op.info.2) = some ro) (hl : ((fo.isSome && !isSeqSlot fo) || (ro.isSome && !isSeqSlot ro)) = true) (hsub : subIn K (.ref C) (.type "int") = some false)
    (h : wpAny (model prog w) A (call (.ref f) [.ref x, .int i t]) (PySem.W.CmpBack Q) E s) : wpAny (model prog w) A (binaryOp op (.int i t) (.ref x)) Q E s := by
  have X := X₀.keeps F.keep
  obtain ⟨cd, rest, hcd, hm⟩ := ksp_first hc
  have two := ksp_try X I hr hf h
  rcases hi : op.info with ⟨sym, nm'⟩
  rw [hi] at hs hr h1 h2 S two
  dsimp only at hs hr h1 h2 S two
  have one : wpAny (model prog w) A (tryMethod (.int i t) (PySem.dunder nm') (.ref x)) (fun r s' => r = none ∧ s' = s) E s := wpAny_tryMethod_declines (int_plain i t s) S.slot (int_call S hp ⟨rfl, rfl, rfl⟩)
  obtain ⟨hh, g, d, tt, os⟩ := s
  have L1 : Looks (model prog w) hh (typeOf (.ref x)) (.ref C) := I.type
  have L2 : Looks (model prog w) hh (typeOf (.int i t)) (.type "int") := Looks.of_pure rfl
  have L3 : Looks (model prog w) hh (fillsNumberSlot (.ref C) nm') true := fills_K X hcd hm hs
  have L4 : Looks (model prog w) hh (fillsNumberSlot (.type "int") nm') true := hl ▸ ksp_fillsT X h1 h2
  have L5 : Looks (model prog w) hh (isSubtype (.ref C) (.type "int")) false := looks_subIn X hsub
  have L7 : Looks (model prog w) hh (numberSlotInPython (.type "int") nm') false := Looks.of_pure rfl
  have hne : (Value.type "int" == Value.ref C) = false := Bool.eq_false_iff.mpr fun q => by cases beq_iff_eq.mp q
  simp only [binaryOp, hi]
  refine wpAny_holding (wpAny_bind ?_)
  unfold binaryOp1
  refine wpAny_bind (L2.at (wpAny_bind (L1.at (wpAny_bind (L4.at ?_)))))
  simp only [hne, Bool.false_eq_true, if_false]
  ksp_lk
  refine wpAny_mono one (fun r s' hr' => ?_) fun _ _ e => e
  obtain ⟨rfl, rfl⟩ := hr'
  ksp_lk
  refine wpAny_mono two (fun r s' hr' => ?_) fun _ _ e => e
  obtain ⟨v, rfl, hq⟩ := hr'
  ksp_lk
  exact hq
/-- an int compared with an instance: the reflected method -/
theorem cmpR_K {op : CmpOp} {i : Int} {t : Tok} {id : String} {B : Builtin} {Q : Value → Shared → Prop} (hu : A.units < cLine) (sl : Slot "int" (cmpInfo op).2.1 id) (en : entryFor table id = some B) (ar : ∀ a b : Value, argsOk id ⟨[a, b], []⟩) (de : ∀ a t l, Declines B a t l)
    (F : Fr h₀ L s.heap m) (X₀ : K.In h₀) (I : InstAt s.heap x ox C od) (hp : Plain s.heap x) (hs : findIn K (.ref C) (cmpInfo op).2.2 = some (some (.ref f))) (hf : isFn K (.ref f) = true) (hsub : subIn K (.ref C) (.type "int") = some false)
    (h : wpAny (model prog w) A (call (.ref f) [.ref x, .int i t]) (PySem.W.CmpBack Q) E s) (h1 : oneThing? op (.int i t) (.ref x) = none) : wpAny (model prog w) A (richCompare op (.int i t) (.ref x)) Q E s := by
  have X := X₀.keeps F.keep
  have two : wpAny (model prog w) A (tryCompare (.ref x) (cmpInfo op).2.2 (.int i t)) (fun r s' => ∃ v, r = some v ∧ Q v s') E s := by
    unfold tryCompare
    refine wpAny_bind (ifBound_K X I hs hf (wpAny_mono h (fun v s' hv => ?_) fun _ _ e => e))
    cases v <;> first | exact hv.elim | exact wpAny_pure ⟨_, rfl, hv⟩
  have one : wpAny (model prog w) A (tryCompare (.int i t) (cmpInfo op).2.1 (.ref x)) (fun r s' => r = none ∧ s' = s) E s :=
    wpAny_tryCompare_declines (int_plain i t s) sl (call_meets sl (int_plain i t s) en (ar _ _) (de i t x) ⟨hp, rfl, rfl, rfl⟩)
  have hne : (Value.type "int" != Value.ref C) = true := by
    have : (Value.type "int" == Value.ref C) = false := Bool.eq_false_iff.mpr fun q => by cases beq_iff_eq.mp q
    simp [bne, this]
  unfold richCompare
  simp only [h1]
  refine wpAny_holding (wpAny_bind (wpAny_cRoomFor hu ?_))
  refine wpAny_bind ((Looks.of_pure (show typeOf (.int i t) = pure (.type "int") from rfl)).here (wpAny_bind (I.type.here ?_)))
  simp only [hne, if_true]
  refine wpAny_bind ((looks_subIn X hsub).here ?_)
  simp only [Bool.false_eq_true, if_false, Bool.not_false, if_true]
  refine wpAny_bind (wpAny_mono one (fun r s' z => ?_) fun _ _ e => e)
  obtain ⟨rfl, rfl⟩ := z
  refine wpAny_bind (wpAny_mono two (fun r s' z => ?_) fun _ _ e => e)
  obtain ⟨v, rfl, hq⟩ := z
  exact wpAny_pure hq
end
/-! ### a method run somewhere below the body -/
structure Und (X : Cx) (n : Nat) (A : Around) : Prop where
  room : Room n A
  fr : A.frames = X.A.frames
theorem Und.here {X : Cx} {n : Nat} (hr : Room n X.A) : Und X n X.A := ⟨hr, rfl⟩
theorem Und.in1 {X : Cx} {n : Nat} {A : Around} (u : Und X (n + 1) A) : Und X n A.in1 := ⟨u.room.in1, u.fr⟩
section
variable {X : Cx} {pins : List (Addr × Obj)} {σ : L2.St} {H : Hp} {s : Shared} {CX : CXT} {k : Nat} {ps : List Str} {sp : Sp} {E : XK} {C : Addr} {m : Str}
theorem run_at {f : Addr} {fd : FuncData} {A : Around} {vs : List V} {us : List Value} {Q : VK} (F : FnOk X.prog X.w X.K X.mg X.base CX k f fd ps sp) (hb : L2.Binds X.K fd ps []) (hx : Passes CX X E) (u : Und X k A) (I : Inv X pins σ H s) (r : Vals vs us) (hsp : sp vs H Q E) :
    wpAny (model X.prog X.w) A (call (.ref f) us) (EP X pins σ Q) X.xe s := by
  have e0 : Env0 X.prog X.w X.K X.mg X.base A X.stack s H := by
    have e := I.env0
    exact ⟨by rw [u.fr]; exact e.frames, e.mod, e.bs, e.bsz, e.funs, e.frf, e.hok, e.bare⟩
  have hl : (us ++ []).length = ps.length := by rw [List.append_nil, ← r.length]; exact F.len _ _ _ _ hsp
  have bd := hb s us I.kIn hl
  rw [List.append_nil] at bd
  refine wpAny_call (codeAny_mono (F.run A X.stack s H ⟨us, []⟩ us vs _ E u.room e0 bd r hsp) fun r s' hq => ?_)
  match r, hq with
  | .error e, hq => exact hx pins σ H s e s' I hq
  | .ok (.ret z), hq => exact I.after hq
  | .ok .next, hq => exact False.elim hq
  | .ok .brk, hq => exact False.elim hq
  | .ok .cont, hq => exact False.elim hq
theorem ep_back {Q : VK} {v : Value} {s' : Shared} (h : EP X pins σ Q v s') : PySem.W.CmpBack (EP X pins σ Q) v s' := by
  cases v with
  | notImplemented =>
    obtain ⟨zv, H', I', rz, q'⟩ := h
    cases zv <;> first | (cases rz; done) | (obtain ⟨_, rz⟩ := rz; cases rz)
  | _ => exact h
theorem ins_plain {a dx : Addr} {fs : List (Str × V)} (I : Inv X pins σ H s) (ha : H a = some (.ins C dx fs)) : ∃ (ox od : Obj), PySem.W.InstAt s.heap a ox C (some od) ∧ Plain s.heap a := by
  obtain ⟨mA, J, _⟩ := ins_get I.hok ha
  have g : Plain s.heap a := ⟨_, _, _, J.1⟩
  obtain ⟨od, J, _⟩ := J.look
  exact ⟨_, od, J, g⟩
/-- a two-place method of C beside an instance of C or an int -/
structure BinF (K : PySem.W.Frag) (C : Addr) (nm : String) : Prop where
  sf : PySem.W.selfFirst K C = true
  rc : ∃ rc, PySem.W.findIn K (.ref C) (dunderR nm) = some rc ∧ (rc = none ∨ ∃ g : Addr, rc = some (.ref g))
  i1 : ∃ fo, PySem.W.findIn K (.type "int") (PySem.dunder nm) = some fo
  i2 : ∃ ro, PySem.W.findIn K (.type "int") (dunderR nm) = some ro
  su : PySem.W.subIn K (.type "int") (.ref C) = some false
def OrInt (H : Hp) (C : Addr) (y : V) : Prop := (∃ b dy gs, y = .ref b ∧ H b = some (.ins C dy gs)) ∨ ∃ j, y = .int j
def rBinO (C : Addr) (sp : Sp) (E : XK) : R2 := fun x y H Q => ∃ a dx fs, x = .ref a ∧ H a = some (.ins C dx fs) ∧ OrInt H C y ∧ sp [x, y] H Q E
theorem op_binO {op : Operator} (M : CmpAt X.prog X.w X.K X.mg X.base CX k C m ps sp) (B : BinF X.K C op.info.2) (hr : Room k X.A) (hx : Passes CX X E) (hm : PySem.dunder op.info.2 = m := by rfl) : OpR X (binaryOp op) (rBinO C sp E) := by
  intro pins s σ H x y v u Q I rx ry h
  obtain ⟨f, fd, hs, hf, F, hb⟩ := M.ex
  obtain ⟨a, dx, fs, rfl, ha, oi, hsp⟩ := h
  obtain rfl : v = Value.ref a := rx
  obtain ⟨ox, od, J, _⟩ := ins_plain I ha
  obtain ⟨m', hF⟩ := I.fr
  subst hm
  have go : wpAny (model X.prog X.w) X.A (call (.ref f) [.ref a, u]) (PySem.W.CmpBack (EP X pins σ Q)) X.xe s := wpAny_mono (run_at (vs := [.ref a, y]) F hb hx (Und.here hr) I (.cons rfl (.cons ry .nil)) hsp) (fun _ _ z => ep_back z) fun _ _ z => z
  rcases oi with ⟨b, dy, gs, rfl, hb'⟩ | ⟨j, rfl⟩
  · obtain rfl : u = Value.ref b := ry
    obtain ⟨oy, od', J', _⟩ := ins_plain I hb'
    exact PySem.W.binop_K hF I.ok.mod.kin J J'.type B.sf hs hf go
  · obtain ⟨t, rfl⟩ := ry
    obtain ⟨rc, r1, r2⟩ := B.rc
    obtain ⟨fo, i1⟩ := B.i1
    obtain ⟨ro, i2⟩ := B.i2
    exact PySem.W.ksp_binT hF I.ok.mod.kin J rfl B.sf hs hf r1 r2 i1 i2 B.su go
/-- an int beside an instance: the reflected method -/
structure RefF (K : PySem.W.Frag) (C : Addr) (nm : String) : Prop where
  sf : PySem.W.selfFirst K C = true
  f0 : ∃ f : Addr, PySem.W.findIn K (.ref C) (PySem.dunder nm) = some (some (.ref f))
  ii : ∃ fo ro, PySem.W.findIn K (.type "int") (PySem.dunder nm) = some fo ∧ PySem.W.findIn K (.type "int") (dunderR nm) = some ro ∧ ((fo.isSome && !isSeqSlot fo) || (ro.isSome && !isSeqSlot ro)) = true
  su : PySem.W.subIn K (.ref C) (.type "int") = some false
def rBinR (C : Addr) (sp : Sp) (E : XK) : R2 := fun x y H Q => ∃ i b dy gs, x = .int i ∧ y = .ref b ∧ H b = some (.ins C dy gs) ∧ sp [y, x] H Q E
theorem op_binR {op : Operator} {id : String} {Bu : Builtin} (M : CmpAt X.prog X.w X.K X.mg X.base CX k C m ps sp) (S : IntSlot X.K op.info.2 id Bu) (B : RefF X.K C op.info.2) (hr : Room k X.A) (hx : Passes CX X E) (hm : dunderR op.info.2 = m := by rfl) : OpR X (binaryOp op) (rBinR C sp E) := by
  intro pins s σ H x y v u Q I rx ry h
  obtain ⟨f, fd, hs, hf, F, hb⟩ := M.ex
  obtain ⟨i, b, dy, gs, rfl, rfl, hb', hsp⟩ := h
  obtain rfl : u = Value.ref b := ry
  obtain ⟨t, rfl⟩ := rx
  obtain ⟨ox, od, J, pl⟩ := ins_plain I hb'
  obtain ⟨m', hF⟩ := I.fr
  subst hm
  obtain ⟨f0, h0⟩ := B.f0
  obtain ⟨fo, ro, i1, i2, i3⟩ := B.ii
  exact binR_K S hF I.ok.mod.kin J pl B.sf h0 hs hf i1 i2 i3 B.su (wpAny_mono (run_at (vs := [.ref b, .int i]) F hb hx (Und.here hr) I (.cons rfl (.cons ⟨t, rfl⟩ .nil)) hsp) (fun _ _ z => ep_back z) fun _ _ z => z)
theorem is_add {K : PySem.W.Frag} : IntSlot K (Operator.info .Add).2 "int.__add__" Builtin.«int.__add__» := ⟨PySem.F.slot_int_add, PySem.F.entry_int_add, PySem.F.args_int_add_2, dec_add⟩
theorem is_sub {K : PySem.W.Frag} : IntSlot K (Operator.info .Sub).2 "int.__sub__" Builtin.«int.__sub__» := ⟨PySem.F.slot_int_sub, PySem.F.entry_int_sub, PySem.F.args_int_sub_2, dec_sub⟩
theorem is_mul {K : PySem.W.Frag} : IntSlot K (Operator.info .Mult).2 "int.__mul__" Builtin.«int.__mul__» := ⟨PySem.F.slot_int_mul, PySem.F.entry_int_mul, PySem.F.args_int_mul_2, dec_mul⟩
/-- an int compared with an instance -/
def rCmpR (C : Addr) (sp : Sp) (E : XK) : R2 := fun x y H Q => ∃ i b dy gs, x = .int i ∧ y = .ref b ∧ H b = some (.ins C dy gs) ∧ sp [y, x] H Q E
theorem op_cmpRv {op : CmpOp} {id : String} {Bu : Builtin} (M : CmpAt X.prog X.w X.K X.mg X.base CX k C m ps sp) (su : PySem.W.subIn X.K (.ref C) (.type "int") = some false) (hr : Room k X.A) (hx : Passes CX X E) (hm : (cmpInfo op).2.2 = m) (hco : ∀ v u, compareOp op v u = richCompare op v u)
    (h1 : ∀ i t b, oneThing? op (.int i t) (.ref b) = none) (sl : Slot "int" (cmpInfo op).2.1 id) (en : entryFor table id = some Bu) (ar : ∀ a b : Value, argsOk id ⟨[a, b], []⟩) (de : ∀ a t l, Declines Bu a t l) : OpR X (compareOp op) (rCmpR C sp E) := by
  intro pins s σ H x y v u Q I rx ry h
  obtain ⟨f, fd, hs, hf, F, hb⟩ := M.ex
  obtain ⟨i, b, dy, gs, rfl, rfl, hb', hsp⟩ := h
  obtain rfl : u = Value.ref b := ry
  obtain ⟨t, rfl⟩ := rx
  obtain ⟨ox, od, J, pl⟩ := ins_plain I hb'
  obtain ⟨m', hF⟩ := I.fr
  subst hm
  rw [hco]
  exact cmpR_K hr.units0 sl en ar de hF I.ok.mod.kin J pl hs hf su (wpAny_mono (run_at (vs := [.ref b, .int i]) F hb hx (Und.here hr) I (.cons rfl (.cons ⟨t, rfl⟩ .nil)) hsp) (fun _ _ z => ep_back z) fun _ _ z => z) (h1 i t b)
theorem op_ltR (M : CmpAt X.prog X.w X.K X.mg X.base CX k C "__gt__" ps sp) (su : PySem.W.subIn X.K (.ref C) (.type "int") = some false) (hr : Room k X.A) (hx : Passes CX X E) : OpR X (compareOp .Lt) (rCmpR C sp E) := op_cmpRv M su hr hx rfl (fun _ _ => rfl) (fun _ _ _ => rfl) PySem.F.slot_int_lt PySem.F.entry_int_lt PySem.F.args_int_lt_2 dec_lt
theorem op_leR (M : CmpAt X.prog X.w X.K X.mg X.base CX k C "__ge__" ps sp) (su : PySem.W.subIn X.K (.ref C) (.type "int") = some false) (hr : Room k X.A) (hx : Passes CX X E) : OpR X (compareOp .LtE) (rCmpR C sp E) := op_cmpRv M su hr hx rfl (fun _ _ => rfl) (fun _ _ _ => rfl) PySem.F.slot_int_le PySem.F.entry_int_le PySem.F.args_int_le_2 dec_le
theorem op_gtR (M : CmpAt X.prog X.w X.K X.mg X.base CX k C "__lt__" ps sp) (su : PySem.W.subIn X.K (.ref C) (.type "int") = some false) (hr : Room k X.A) (hx : Passes CX X E) : OpR X (compareOp .Gt) (rCmpR C sp E) := op_cmpRv M su hr hx rfl (fun _ _ => rfl) (fun _ _ _ => rfl) PySem.F.slot_int_gt PySem.F.entry_int_gt PySem.F.args_int_gt_2 dec_gt
theorem op_geR (M : CmpAt X.prog X.w X.K X.mg X.base CX k C "__le__" ps sp) (su : PySem.W.subIn X.K (.ref C) (.type "int") = some false) (hr : Room k X.A) (hx : Passes CX X E) : OpR X (compareOp .GtE) (rCmpR C sp E) := op_cmpRv M su hr hx rfl (fun _ _ => rfl) (fun _ _ _ => rfl) PySem.F.slot_int_ge PySem.F.entry_int_ge PySem.F.args_int_ge_2 dec_ge
/-- - of an instance -/
def rNegO (C : Addr) (sp : Sp) (E : XK) : V → Hp → VK → Prop := fun x H Q => ∃ a dx fs, x = .ref a ∧ H a = some (.ins C dx fs) ∧ sp [x] H Q E
theorem un_negO (M : CmpAt X.prog X.w X.K X.mg X.base CX k C "__neg__" ps sp) (hr : Room k X.A) (hx : Passes CX X E) : UnR X (unaryOp .USub) (rNegO C sp E) := by
  intro pins s σ H x v Q I rx h
  obtain ⟨f, fd, hs, hf, F, hb⟩ := M.ex
  obtain ⟨a, dx, fs, rfl, ha, hsp⟩ := h
  obtain rfl : v = Value.ref a := rx
  obtain ⟨ox, od, J, _⟩ := ins_plain I ha
  obtain ⟨m', hF⟩ := I.fr
  exact PySem.W.ksp_neg hF I.ok.mod.kin J hs hf (run_at (vs := [.ref a]) F hb hx (Und.here hr) I (.cons rfl .nil) hsp)
/-- str(x) of an instance with its own __str__ -/
def rStrO (C : Addr) (sp : Sp) (E : XK) : List V → Hp → VK → Prop := fun xs H Q => ∃ a dx fs, xs = [.ref a] ∧ H a = some (.ins C dx fs) ∧ sp [.ref a] H (fun v H' => ∃ x, v = .str x ∧ Q v H') E
theorem call_strO (M : CmpAt X.prog X.w X.K X.mg X.base CX k C "__str__" ps sp) (hr : Room (k + 2) X.A) (hx : Passes CX X E) : CallR X (.type "str") (rStrO C sp E) := by
  intro pins s σ H xs us Q I r h
  obtain ⟨f, fd, hs, hf, F, hb⟩ := M.ex
  obtain ⟨a, dx, fs, rfl, ha, hsp⟩ := h
  obtain ⟨u, rfl, r1⟩ := vals1 r
  obtain rfl : u = Value.ref a := r1
  obtain ⟨ox, od, J, _⟩ := ins_plain I ha
  have U : Und X k X.A.in1.in1 := (Und.here hr).in1.in1
  refine PySem.W.kso_call U.room.units0 (I.kIn) J hs hf (wpAny_mono (run_at (vs := [.ref a]) F hb hx U I (.cons rfl .nil) hsp) (fun v s' z => ?_) fun _ _ z => z)
  obtain ⟨z, H', I', rz, x, rfl, q⟩ := z
  obtain ⟨t, rfl⟩ := rz
  exact ⟨.str x, H', I', ⟨t, rfl⟩, q⟩
end
end My
/-! != by an own ==. -/
namespace My
open PySem PySem.Spec PySem.Calls PyProof.Rows L2
theorem slot_one : Slot "object" "__ne__" "object.__ne__" :=
  .of (owner := "object") (n := "__ne__") (by rw [typeLookup_type, builtinLookup_eq_fast]; kernel_rfl) (by decide +kernel) (by decide +kernel) (by decide +kernel) (.inl (by decide +kernel)) (by rw [isSubtype_type]; kernel_rfl)
section
open PySem.W
variable {prog : Program} {w : World} {A : Around} {E : Value → Shared → Prop} {s : Shared} {K : Frag} {x C L f : Addr} {h₀ : Heap} {m : Str → Option Value} {ox : Obj} {od : Option Obj} {b tb : Value}
/-- what an own == hands back, turned about -/
def NotBack (Q : Value → Shared → Prop) (v : Value) (s' : Shared) : Prop := ∃ c, v = .bool c ∧ Q (.bool (!c)) s'
theorem one_call {Q : Value → Shared → Prop} (hu : A.in1.units < cLine) (X : K.In s.heap) (I : InstAt s.heap x ox C od) (hm : mroIn K C (.type "object") = some true) (hs : findIn K (.ref C) "__eq__" = some (some (.ref f))) (hf : isFn K (.ref f) = true)
    (h : wpAny (model prog w) A.in1 (call (.ref f) [.ref x, b]) (NotBack Q) E s) : wpAny (model prog w) A (call (.builtin "object.__ne__") [.ref x, b]) Q E s := by
  refine wpAny_call (codeAny_call_builtin slot_one.plain PySem.F.cmpEntry_ne (check_slot (i := "object.__ne__") (owner := "object") (n := "__ne__") PySem.F.cmpKind_ne PySem.F.cmpSplit_ne (I.type.andThen (looks_mroIn X hm)) (PySem.F.cmpArgs_ne _ _) ?_))
  unfold Builtin.«object.__ne__»
  refine wpAny_bind (m := slotArgs "__ne__" 1 _) (wpAny_pure ?_)
  refine wpAny_bind (m := cRoomFor _ _) (wpAny_cRoomFor hu ?_)
  refine wpAny_bind (m := callSpecialIfBound? (.ref x) (Str.ofString "__eq__") _) (ifBound_K X I hs hf (wpAny_mono h (fun r s' hq => ?_) fun _ _ y => y))
  obtain ⟨c, rfl, hq⟩ := hq
  refine wpAny_bind (m := truthy (.bool c)) (wpAny_truthy_bool ?_)
  exact wpAny_pure hq
theorem ne_K {Q : Value → Shared → Prop} (hu : A.units < cLine) (hu1 : A.in1.units < cLine) (F : Fr h₀ L s.heap m) (X₀ : K.In h₀) (I : InstAt s.heap x ox C od) (hb : Looks (model prog w) s.heap (typeOf b) tb) (hn : notFirst K C tb = true)
    (hm : mroIn K C (.type "object") = some true) (h1 : findIn K (.ref C) "__ne__" = some (some (.builtin "object.__ne__"))) (hs : findIn K (.ref C) "__eq__" = some (some (.ref f))) (hf : isFn K (.ref f) = true)
    (h : wpAny (model prog w) A.in1 (call (.ref f) [.ref x, b]) (NotBack Q) E s) : wpAny (model prog w) A (richCompare .NotEq (.ref x) b) Q E s := by
  have X := X₀.keeps F.keep
  have one : wpAny (model prog w) A (tryCompare (.ref x) "__ne__" b) (fun r s' => ∃ v, r = some v ∧ Q v s') E s := by
    unfold tryCompare
    refine wpAny_bind ?_
    simp only [callSpecialIfBound?, bindSpecialIfBound?]
    refine wpAny_holding (wpAny_bind (wpAny_bind (wpAny_bind (I.type.here ((looks_findIn X h1).here ?_)))))
    refine wpAny_bind (wpAny_askSetting (wpAny_ite ?_))
    have fin : wpAny (model prog w) A (call (.builtin "object.__ne__") ([.ref x] ++ [b]) >>= fun v => pure (some v)) (fun r s' => wpAny (model prog w) A (match r with | some .notImplemented | none => pure none | some v => pure (some v)) (fun r s' => ∃ v, r = some v ∧ Q v s') E s') E s := by
      refine wpAny_bind (one_call hu1 X I hm hs hf (wpAny_mono h (fun v s' z => ?_) fun _ _ z => z))
      obtain ⟨c, rfl, hq⟩ := z
      exact ⟨c, rfl, wpAny_pure (wpAny_pure ⟨_, rfl, hq⟩)⟩
    split
    · exact wpAny_bind ((Looks.of_pure (slot_one.bind (.ref x))).here (wpAny_pure (by exact fin)))
    · exact wpAny_tryCatch (wpAny_bind ((Looks.of_pure (slot_one.bind (.ref x))).here (wpAny_pure (by exact fin))))
  unfold richCompare
  simp only [oneThing_ref]
  refine wpAny_holding (wpAny_bind (wpAny_cRoomFor hu ?_))
  refine wpAny_bind (I.type.here (wpAny_bind (hb.here ?_)))
  split
  · rename_i q
    have e : subIn K tb (.ref C) = some false := by
      rcases Bool.or_eq_true_iff.mp hn with e | e
      · rw [beq_iff_eq.mp e] at q; simp at q
      · exact beq_iff_eq.mp e
    refine wpAny_bind ((looks_subIn X e).here ?_)
    simp only [Bool.false_eq_true, if_false]
    refine wpAny_bind (wpAny_mono one (fun r s' z => ?_) fun _ _ e => e)
    obtain ⟨v, rfl, hq⟩ := z
    exact wpAny_pure hq
  · refine wpAny_bind (wpAny_pure ?_)
    simp only [Bool.false_eq_true, if_false]
    refine wpAny_bind (wpAny_mono one (fun r s' z => ?_) fun _ _ e => e)
    obtain ⟨v, rfl, hq⟩ := z
    exact wpAny_pure hq
end
section
variable {X : Cx} {CX : CXT} {k : Nat} {ps : List Str} {sp : Sp} {E : XK} {C : Addr}
def rNeO (K : PySem.W.Frag) (C : Addr) (sp : Sp) (E : XK) : R2 := fun x y H Q => ∃ a dx fs t, x = .ref a ∧ H a = some (.ins C dx fs) ∧ TyX K H y t ∧ PySem.W.notFirst K C t = true ∧ sp [.ref a, y] H (fun v H' => ∃ b, v = .bl b ∧ Q (.bl (!b)) H') E
theorem op_neO (M : CmpAt X.prog X.w X.K X.mg X.base CX k C "__eq__" ps sp) (hm : PySem.W.mroIn X.K C (.type "object") = some true) (h1 : PySem.W.findIn X.K (.ref C) "__ne__" = some (some (.builtin "object.__ne__"))) (hr : Room (k + 1) X.A) (hx : Passes CX X E) : OpR X (compareOp .NotEq) (rNeO X.K C sp E) := by
  intro pins s σ H x y v u Q I rx ry h
  obtain ⟨f, fd, hs, hf, F, hb⟩ := M.ex
  obtain ⟨a, dx, fs, t, rfl, ha, ty, hn, hsp⟩ := h
  obtain rfl : v = Value.ref a := rx
  obtain ⟨ox, od, J, _⟩ := ins_plain I ha
  obtain ⟨m', hF⟩ := I.fr
  obtain ⟨Pz, Z, pz, _⟩ := kit_of I ry ty
  have U : Und X k X.A.in1 := (Und.here hr).in1
  refine ne_K hr.units0 U.room.units0 hF I.ok.mod.kin J (Z.ty _ _ I.kIn pz) hn hm h1 hs hf (wpAny_mono (run_at (vs := [.ref a, y]) F hb hx U I (.cons rfl (.cons ry .nil)) hsp) (fun v s' z => ?_) fun _ _ z => z)
  obtain ⟨z, H', I', rz, b, rfl, q⟩ := z
  obtain rfl : v = Value.bool b := rz
  exact ⟨b, rfl, .bl (!b), H', I', rfl, q⟩
end
end My
/-! Static methods by the class's name; ints divided by ints of any sign; lists beside the empty one. -/
namespace My
open PySem PySem.Spec PySem.Calls PyProof.Rows L2
/-- C.m is a staticmethod with the def at f -/
structure Stat (K : PySem.W.Frag) (C : Addr) (m : Str) (f : Addr) : Prop where
  ga : PySem.W.specialIn K (.ref C) "__getattribute__" = some (some (.builtin "type.__getattribute__"))
  rc : ∃ (mc : Value) (p : Addr) (rest : List Value), PySem.W.readsIn K C mc = true ∧ PySem.W.findCls K (.ref C) mc m = some (.get (.builtin "staticmethod.__get__") (.ref p) .none (.ref C)) ∧ PySem.W.recIn K p "staticmethod" = some (.ref f :: rest)
  kp : PySem.W.keepIn K (.ref f) = true
structure StatAt (P : Program) (w : World) (K : PySem.W.Frag) (mg : Str → Option Value) (base : Heap) (CX : CXT) (k : Nat) (C : Addr) (m : Str) (ps : List Str) (sp : Sp) : Prop where
  ex : ∃ f fd, Stat K C m f ∧ FnOk P w K mg base CX k f fd ps sp ∧ L2.Binds K fd ps []
structure StatK (P : Program) (w : World) (K : PySem.W.Frag) (mg : Str → Option Value) (base : Heap) (CX : CXT) (k : Nat) (C : Addr) (m : Str) (ps ks : List Str) (sp : Sp) (gV : List V → List V → List V) : Prop where
  ex : ∃ f fd g, Stat K C m f ∧ FnOk P w K mg base CX k f fd ps sp ∧ KBn K fd ps 0 ks g gV
section
variable {X : Cx} {CX : CXT} {k : Nat} {C : Addr} {ps ks : List Str} {sp : Sp} {E : XK} {m : Str} {e o : Expr} {es : List Expr} {kws : List Keyword} {t tk : TA} {ta : TE} {pos apos : Pos} {gV : List V → List V → List V}
theorem getstat_ok {pins : List (Addr × Obj)} {σ : L2.St} {H : Hp} {s : Shared} {f : Addr} {pl : Sem Bool} {A : Around} {Er : Value → Shared → Prop} {Q : Value × List Value → Shared → Prop} (I : Inv X pins σ H s) (c : Stat X.K C m f) (h : ∀ s', Inv X pins σ H s' → Q (.ref f, []) s') : wpAny (model X.prog X.w) A (getMethod (.ref C) m pl) Q Er s := by
  obtain ⟨mc, p, rest, h1, h2, h3⟩ := c.rc
  refine PySem.W.method_cls I.kIn c.ga (PySem.W.cls_bind I.kIn h1 h2 ?_)
  exact wpAny_call (PySem.W.sm_get (s := { s with toks := s.toks + 1 }) I.kIn h3 (PySem.W.handed_on rfl (h _ (I.tok _))))
def tStat (C : Addr) (sp : Sp) (E : XK) (ta : TE) (t : TA) : TE := fun σ H Q => ta σ H fun x H1 => x = .ref C ∧ t σ H1 fun vs H2 => sp vs H2 Q E
theorem pe_st {pl : Sem Bool} (M : StatAt X.prog X.w X.K X.mg X.base CX k C m ps sp) (hr : Room k X.A) (hx : Passes CX X E) (he : PE X o ta) (ha : PA X (e :: es) t)
    (hst : starEach (e :: es) X.env = (false, eval e X.env) :: starEach es X.env := by rfl) (hpl : (backTo pos (starEach es X.env)).any (·.1) = false := by rfl)
    (ht : eval (.Call (.Attribute o m apos) (e :: es) [] pos) X.env = (do
      let ov ← eval o X.env
      standAt apos.atName
      let (f, first) ← holding [ov] (getMethod ov m pl)
      callWith pos f first (backTo pos (starEach (e :: es) X.env)) (backToKw pos (keywordEach [] X.env))) := by rfl) :
    PE X (.Call (.Attribute o m apos) (e :: es) [] pos) (tStat C sp E ta t) := by
  obtain ⟨f, fd, c, F, b⟩ := M.ex
  refine ⟨fun pins s σ H Q I h => ?_⟩
  refine PySem.W.methodCall_KW (pl := pl) (thn (he.run pins s σ H _ I h) fun u s1 ⟨x, H1, I1, rx, ex, q⟩ => ?_) ht
  subst ex
  obtain rfl : u = Value.ref C := rx
  refine getstat_ok I1 c fun s1 I1 => ?_
  refine PySem.W.callWith_K (first := []) (h₀ := X.base) I.ok.mod.kin c.kp (thn (ha.run pos pins s1 σ H1 _ I1 q) fun us s2 ⟨vs, H2, I2, r, q2⟩ => ⟨I2.kIn, ?_⟩) hst hpl
  exact run_fn (us := us) (vs := vs) F hr b .nil hx I2 r (by rw [List.append_nil]; exact q2)
def tStatK (C : Addr) (j : Nat) (sp : Sp) (gV : List V → List V → List V) (E : XK) (ta : TE) (tk : TA) : TE := fun σ H Q => ta σ H fun x H1 => x = .ref C ∧ tk σ H1 fun zs H2 => zs.length = j ∧ sp (gV [] zs) H2 Q E
theorem pe_stK {pl : Sem Bool} (M : StatK X.prog X.w X.K X.mg X.base CX k C m ps ks sp gV) (hr : Room k X.A) (hx : Passes CX X E) (he : PE X o ta) (hkw : PK X kws tk)
    (hall : (backToKw pos (keywordEach kws X.env)).all (·.1.isSome) = true := by rfl) (hks : (backToKw pos (keywordEach kws X.env)).filterMap (·.1) = ks := by rfl)
    (hpl : ((backTo pos (starEach [] X.env)).any (·.1) || (backToKw pos (keywordEach kws X.env)).any (·.1.isNone)) = false := by rfl)
    (ht : eval (.Call (.Attribute o m apos) [] kws pos) X.env = (do
      let ov ← eval o X.env
      standAt apos.atName
      let (f, first) ← holding [ov] (getMethod ov m pl)
      callWith pos f first (backTo pos (starEach [] X.env)) (backToKw pos (keywordEach kws X.env))) := by rfl) :
    PE X (.Call (.Attribute o m apos) [] kws pos) (tStatK C ks.length sp gV E ta tk) := by
  obtain ⟨f, fd, g, c, F, b⟩ := M.ex
  refine ⟨fun pins s σ H Q I h => ?_⟩
  refine PySem.W.methodCall_KW (pl := pl) (thn (he.run pins s σ H _ I h) fun u s1 ⟨x, H1, I1, rx, ex, q⟩ => ?_) ht
  subst ex
  obtain rfl : u = Value.ref C := rx
  refine getstat_ok I1 c fun s1 I1 => ?_
  refine PySem.W.callWith_KW0 (first := []) (h₀ := X.base) I.ok.mod.kin c.kp hall (thn (hkw.run pos pins s1 σ H1 _ I1 q) fun ws s2 ⟨zs, H2, I2, rz, l2, q2⟩ => ⟨I2.kIn, ?_⟩) hpl
  rw [hks]
  exact run_fnN (us := []) (vs := []) F hr b hx I2 .nil rz rfl l2 q2
/-! ### // and % by any int but 0 -/
def CDivX (_ j : Int) : Prop := j ≠ 0 ∧ j.natAbs.log2 < 9000
theorem op_fdivX : OpR X (binaryOp .FloorDiv) (rI CDivX fun i j => .int (i.fdiv j)) := opI fun _ _ _ _ _ _ _ hc q => floordiv_int hc.1 q (.inl (PyProof.noPylong_of_log2 hc.2))
/-! ### lists of unlike lengths -/
def rEqL : R2 := fun x y H Q => ∃ l b xs ys, x = .ref l ∧ y = .ref b ∧ H l = some (.lst xs) ∧ H b = some (.lst ys) ∧ xs.length ≠ ys.length ∧ Q (.bl false) H
theorem op_eqL (hu : X.A.units < cLine) : OpR X (compareOp .Eq) rEqL := by
  intro pins s σ H x y v u Q I rx ry h
  obtain ⟨l, b, xs, ys, rfl, rfl, h1, h2, hn, q⟩ := h
  obtain rfl : v = Value.ref l := rx
  obtain rfl : u = Value.ref b := ry
  obtain ⟨z, its, n, r, hl, e⟩ := I.lstM h1
  obtain ⟨z2, its2, n2, r2, hl2, e2⟩ := I.lstM h2
  have hs : (its.toArray.size != its2.toArray.size) = true := by
    have a1 := r.length
    have a2 := r2.length
    simp only [List.size_toArray, bne_iff_ne, ne_eq]
    omega
  show wpAny (model X.prog X.w) X.A (richCompare .Eq (.ref l) (.ref b)) _ _ s
  refine wpAny_richCompare_same_room (op := .Eq) ⟨_, e, rfl⟩ ⟨_, e2, rfl⟩ PySem.F.slot_list_eq (call_meets PySem.F.slot_list_eq ⟨_, e, rfl⟩ PySem.F.entry_list_eq (PySem.F.args_list_eq_2 _ _) (AutoSeq1.list___eq___list_list_0 l its.toArray n b its2.toArray n2 hs) ⟨e, e2, ?_⟩) hu
  exact ⟨(fun x => nomatch x), .bl false, H, I, rfl, q⟩
end
end My
/-! The order of two pairs of ints; two promises of one def. -/
namespace My
open PySem PySem.Spec PySem.Calls PyProof.Rows L2
def ordP (r : Int → Int → Bool) (z : Bool) (a b c d : Int) : Bool := if a = c then (if b = d then z else r b d) else r a c
def rOrd (K : PySem.W.Frag) (r : Int → Int → Bool) (z : Bool) : R2 := fun x y H Q => ∃ (l m : Addr) (a b c d : Int), x = .ref l ∧ y = .ref m ∧ SqT K H l [.int a, .int b] ∧ SqT K H m [.int c, .int d] ∧ Q (.bl (ordP r z a b c d)) H
theorem int_here {s : Shared} {A : Around} (a c : Int) (t u : Tok) : SeqAt.EqAt A s (.int a t) (.int c u) (decide (a = c)) := by
  have e : (a == c) = decide (a = c) := by
    by_cases q : a = c
    · rw [decide_eq_true q]; exact beq_iff_eq.mpr q
    · rw [decide_eq_false q]; exact beq_eq_false_iff_ne.mpr q
  rw [← e]
  exact SeqAt.EqAt.int_int _ _ _ _
theorem op_ordV {X : Cx} {op : CmpOp} {r : Int → Int → Bool} {z : Bool} (hco : ∀ v u, compareOp op v u = richCompare op v u)
    (tup : ∀ {A : Around} {s : Shared} {l b : Addr} {is js : Array Value} {e r : Nat → Bool}, s.heap.IsTuple l is → s.heap.IsTuple b js → A.units < cLine → is.size = 2 → js.size = 2 → (∀ j (h1 : j < is.size) (h2 : j < js.size), SeqAt.EqAt A.in1 s is[j] js[j] (e j)) →
      (∀ j (h1 : j < is.size) (h2 : j < js.size), e j = false → Ob.RcOp op A.in1 s is[j] js[j] (r j)) → Ob.RcOp op A s (.ref l) (.ref b) (Ob.lexAt e r z 0 2))
    (int : ∀ {A : Around} {s : Shared} (a b : Int) (t u : Tok), Ob.RcOp op A s (.int a t) (.int b u) (r a b)) (hu : X.A.units < cLine) : OpR X (compareOp op) (rOrd X.K r z) := by
  intro pins s σ H x y v u Q I rx ry h
  obtain ⟨l, m, a, b, c, d, rfl, rfl, hl, hm, q⟩ := h
  obtain rfl : v = Value.ref l := rx
  obtain rfl : u = Value.ref m := ry
  obtain ⟨is, r1, p1, _⟩ := I.tuple hl
  obtain ⟨js, r2, p2, _⟩ := I.tuple hm
  cases r1 with
  | cons ra r1 =>
    cases r1 with
    | cons rb r1 =>
      cases r1
      cases r2 with
      | cons rc r2 =>
        cases r2 with
        | cons rd r2 =>
          cases r2
          obtain ⟨ta, rfl⟩ := ra
          obtain ⟨tb, rfl⟩ := rb
          obtain ⟨tc, rfl⟩ := rc
          obtain ⟨td, rfl⟩ := rd
          have R := tup (A := X.A) (s := s) (e := fun j => if j = 0 then decide (a = c) else decide (b = d)) (r := fun j => if j = 0 then r a c else r b d) p1 p2 hu rfl rfl (fun j h1 h2 => by
            match j, h1 with
            | 0, _ => exact int_here a c ta tc
            | 1, _ => exact int_here b d tb td) (fun j h1 h2 _ => by
            match j, h1 with
            | 0, _ => exact int a c ta tc
            | 1, _ => exact int b d tb td)
          rw [hco]
          refine R X.prog X.w X.xe (EP X pins σ Q) ⟨.bl _, H, I, rfl, ?_⟩
          have e : Ob.lexAt (fun j => if j = 0 then decide (a = c) else decide (b = d)) (fun j => if j = 0 then r a c else r b d) z 0 2 = ordP r z a b c d := by
            unfold ordP
            simp only [Ob.lexAt_succ, Ob.lexAt_zero]
            by_cases h1 : a = c
            · by_cases h2 : b = d
              · simp [h1, h2]
              · simp [h1, h2]
            · simp [h1]
          rw [e]
          exact q
section
variable {X : Cx}
theorem op_ltP (hu : X.A.units < cLine) : OpR X (compareOp .Lt) (rOrd X.K (fun i j => decide (i < j)) false) := op_ordV (fun _ _ => rfl) (fun {A s l b is js e r} h1 h2 h3 h4 h5 h6 h7 => by have z := Ob.RcOp.tuples_lt h1 h2 h3 h6 h7; rw [h4, h5] at z; exact z) (fun a b t u => Ob.RcOp.lt_int a b t u) hu
theorem op_leP (hu : X.A.units < cLine) : OpR X (compareOp .LtE) (rOrd X.K (fun i j => decide (i ≤ j)) true) := op_ordV (fun _ _ => rfl) (fun {A s l b is js e r} h1 h2 h3 h4 h5 h6 h7 => by have z := Ob.RcOp.tuples_le h1 h2 h3 h6 h7; rw [h4, h5] at z; exact z) (fun a b t u => Ob.RcOp.le_int a b t u) hu
theorem op_gtP (hu : X.A.units < cLine) : OpR X (compareOp .Gt) (rOrd X.K (fun i j => decide (j < i)) false) := op_ordV (fun _ _ => rfl) (fun {A s l b is js e r} h1 h2 h3 h4 h5 h6 h7 => by have z := Ob.RcOp.tuples_gt h1 h2 h3 h6 h7; rw [h4, h5] at z; exact z) (fun a b t u => Ob.RcOp.gt_int a b t u) hu
theorem op_geP (hu : X.A.units < cLine) : OpR X (compareOp .GtE) (rOrd X.K (fun i j => decide (j ≤ i)) true) := op_ordV (fun _ _ => rfl) (fun {A s l b is js e r} h1 h2 h3 h4 h5 h6 h7 => by have z := Ob.RcOp.tuples_ge h1 h2 h3 h6 h7; rw [h4, h5] at z; exact z) (fun a b t u => Ob.RcOp.ge_int a b t u) hu
end
/-! ### within a comprehension -/
theorem op_cmpB {X : Cx} {K : PySem.W.Frag} {CX : CXT} {k : Nat} {C : Addr} {m : Str} {ps : List Str} {sp : Sp} {E : XK} {op : CmpOp} (hK : X.K = K) (M : CmpAt X.prog X.w X.K X.mg X.base CX k C m ps sp) (hr : Room k X.A) (hx : Passes CX X E) (hop : (cmpInfo op).2.1 = m := by rfl)
    (hco : ∀ v u, compareOp op v u = richCompare op v u := by intro _ _; rfl) : OpR X (compareOp op) (rCmpO K C sp E) := by
  subst hK
  exact op_cmpO M hr hx hop hco
/-! ### a def that keeps two promises -/
def spOr (s1 s2 : Sp) : Sp := fun vs H Q E => s1 vs H Q E ∨ s2 vs H Q E
section
variable {P : Program} {w : World} {K : PySem.W.Frag} {mg : Str → Option Value} {base : Heap} {CX : CXT} {k : Nat} {f : Addr} {fd : FuncData} {ps : List Str} {s1 s2 : Sp}
theorem ok_or (h1 : FnOk P w K mg base CX k f fd ps s1) (h2 : FnOk P w K mg base CX k f fd ps s2) : FnOk P w K mg base CX k f fd ps (spOr s1 s2) :=
  ⟨fun vs H Q E h => h.elim (h1.len vs H Q E) (h2.len vs H Q E), fun A outer s H args us vs Q E hr e0 hb r h => h.elim (h1.run A outer s H args us vs Q E hr e0 hb r) (h2.run A outer s H args us vs Q E hr e0 hb r)⟩
theorem okG_or (h1 : FnG P w K mg base CX k f fd ps s1) (h2 : FnG P w K mg base CX k f fd ps s2) : FnG P w K mg base CX k f fd ps (spOr s1 s2) :=
  ⟨fun vs H Q E h => h.elim (h1.len vs H Q E) (h2.len vs H Q E), fun A outer s H args us vs Q E hg hr e0 hb r h => h.elim (h1.run A outer s H args us vs Q E hg hr e0 hb r) (h2.run A outer s H args us vs Q E hg hr e0 hb r)⟩
end
end My
/-! Signs in place; an instance called by keywords; what a comprehension may hold. -/
namespace My
open PySem PySem.Spec PySem.Calls PyProof.Rows L2
section
open PySem.W
variable {prog : Program} {w : World} {M : Model} {A : Around} {E : Value → Shared → Prop} {s : Shared} {K : Frag} {x C L f : Addr} {h₀ : Heap} {m : Str → Option Value} {ox : Obj} {od : Option Obj} {nm : String}
/-- beside one of its own class -/
theorem bin1_S {b : Value} {Q : Value → Shared → Prop} (X : K.In s.heap) (I : InstAt s.heap x ox C od) (hb : Looks (model prog w) s.heap (typeOf b) (.ref C)) (hc : selfFirst K C = true) (hs : findIn K (.ref C) (PySem.dunder nm) = some (some (.ref f))) (hf : isFn K (.ref f) = true)
    (h : wpAny (model prog w) A (call (.ref f) [.ref x, b]) (PySem.W.CmpBack Q) E s) : wpAny (model prog w) A (binaryOp1 nm (.ref x) b) (fun r s' => ∃ v, r = some v ∧ Q v s') E s := by
  obtain ⟨cd, rest, hcd, hm⟩ := ksp_first hc
  have one := ksp_try X I hs hf h
  obtain ⟨hh, g, d, tt, os⟩ := s
  have L1 : Looks (model prog w) hh (typeOf (.ref x)) (.ref C) := I.type
  have L2 : Looks (model prog w) hh (typeOf b) (.ref C) := hb
  have L3 : Looks (model prog w) hh (fillsNumberSlot (.ref C) nm) true := fills_K X hcd hm hs
  unfold binaryOp1
  refine wpAny_bind (L1.at (wpAny_bind (L2.at (wpAny_bind (L3.at ?_)))))
  simp only [beq_self_eq_true, if_true]
  ksp_lk
  refine wpAny_mono one (fun r s' hr' => ?_) fun _ _ e => e
  obtain ⟨v, rfl, hq⟩ := hr'
  ksp_lk
  exact ⟨v, rfl, hq⟩
/-- beside a value of a built-in type -/
theorem bin1_T {T : String} {b : Value} {fo ro rc : Option Value} {Q : Value → Shared → Prop} (X : K.In s.heap) (I : InstAt s.heap x ox C od) (hb : typeOf b = pure (.type T)) (hc : selfFirst K C = true)
    (hs : findIn K (.ref C) (PySem.dunder nm) = some (some (.ref f))) (hf : isFn K (.ref f) = true) (hr : findIn K (.ref C) (dunderR nm) = some rc) (hp : rc = none ∨ ∃ g : Addr, rc = some (.ref g))
    (h1 : findIn K (.type T) (PySem.dunder nm) = some fo) (h2 : findIn K (.type T) (dunderR nm) = some ro) (hsub : subIn K (.type T) (.ref C) = some false)
    (h : wpAny (model prog w) A (call (.ref f) [.ref x, b]) (PySem.W.CmpBack Q) E s) : wpAny (model prog w) A (binaryOp1 nm (.ref x) b) (fun r s' => ∃ v, r = some v ∧ Q v s') E s := by
  obtain ⟨cd, rest, hcd, hm⟩ := ksp_first hc
  have one := ksp_try X I hs hf h
  obtain ⟨hh, g, d, tt, os⟩ := s
  have L1 : Looks (model prog w) hh (typeOf (.ref x)) (.ref C) := I.type
  have L2 : Looks (model prog w) hh (typeOf b) (.type T) := Looks.of_pure hb
  have L3 : Looks (model prog w) hh (fillsNumberSlot (.ref C) nm) true := fills_K X hcd hm hs
  have L4 : Looks (model prog w) hh (fillsNumberSlot (.type T) nm) ((fo.isSome && !isSeqSlot fo) || (ro.isSome && !isSeqSlot ro)) := ksp_fillsT X h1 h2
  have L5 : Looks (model prog w) hh (isSubtype (.type T) (.ref C)) false := looks_subIn X hsub
  have L6 : Looks (model prog w) hh (numberSlotInPython (.ref C) nm) true := ksp_inPy X hs hr hp
  have L7 : Looks (model prog w) hh (numberSlotInPython (.type T) nm) false := Looks.of_pure rfl
  have L8 : Looks (model prog w) hh (typeLookup (.type T) (dunderR nm)) ro := looks_findIn X h2
  generalize ((fo.isSome && !isSeqSlot fo) || (ro.isSome && !isSeqSlot ro)) = right at L4
  have hne : (Value.ref C == Value.type T) = false := Bool.eq_false_iff.mpr fun q => by cases beq_iff_eq.mp q
  unfold binaryOp1
  refine wpAny_bind (L1.at (wpAny_bind (L2.at (wpAny_bind (L3.at ?_)))))
  simp only [hne, Bool.false_eq_true, if_false]
  cases right with
  | false =>
    ksp_lk
    refine wpAny_mono one (fun r s' hr' => ?_) fun _ _ e => e
    obtain ⟨v, rfl, hq⟩ := hr'
    ksp_lk
    exact ⟨v, rfl, hq⟩
  | true =>
    ksp_lk
    refine wpAny_mono one (fun r s' hr' => ?_) fun _ _ e => e
    obtain ⟨v, rfl, hq⟩ := hr'
    ksp_lk
    exact ⟨v, rfl, hq⟩
/-- the class has no slot in place -/
theorem noInplace {h : Heap} {cd : ClassData} {add : Bool} (X : K.In h) (hc : clsIn K C = some cd) (hm : cd.mro = [.ref C, .type "object"]) (h1 : findIn K (.ref C) (dunderI nm) = some none) (h2 : findIn K (.type "object") (dunderI nm) = some none) : Looks M h (fillsInplaceSlot (.ref C) nm add) false := by
  intro A Q E s k q
  have Lm : Looks M h (mroOf (.ref C)) cd.mro := (looks_clsIn X hc).andThen (f := fun cd => pure cd.mro) .now
  have Lm' := Lm.keeps k
  obtain ⟨hh, g, d, tt, os⟩ := s
  have X' : K.In hh := X.keeps k
  have L1 : Looks M hh (typeLookup (.ref C) (dunderI nm)) none := looks_findIn X' h1
  have L2 : Looks M hh (typeLookup (.type "object") (dunderI nm)) none := looks_findIn X' h2
  unfold fillsInplaceSlot
  refine wpAny_bind (Lm'.at ?_)
  rw [hm, List.anyM_cons]
  refine wpAny_bind ?_
  repeat lk
  exact q
theorem inpl_K {op : Operator} {b : Value} {Q : Value → Shared → Prop} {cd : ClassData} (X : K.In s.heap) (I : InstAt s.heap x ox C od) (hc : clsIn K C = some cd) (hm : cd.mro = [.ref C, .type "object"]) (h1 : findIn K (.ref C) (dunderI op.info.2) = some none) (h2 : findIn K (.type "object") (dunderI op.info.2) = some none)
    (h : wpAny (model prog w) A (binaryOp1 op.info.2 (.ref x) b) (fun r s' => ∃ v, r = some v ∧ Q v s') E s) : wpAny (model prog w) A (inplaceOp op (.ref x) b) Q E s := by
  have L2 : Looks (model prog w) s.heap (fillsInplaceSlot (.ref C) op.info.2 (op == .Add)) false := noInplace X hc hm h1 h2
  unfold inplaceOp
  refine wpAny_holding ?_
  dsimp only
  refine wpAny_bind (I.type.here (wpAny_bind (L2.here ?_)))
  simp only [Bool.false_eq_true, if_false]
  refine wpAny_bind (wpAny_mono h (fun r s' z => ?_) fun _ _ e => e)
  obtain ⟨v, rfl, hq⟩ := z
  exact wpAny_pure hq
end
/-- the class has no slot in place -/
structure InpF (K : PySem.W.Frag) (C : Addr) (nm : String) : Prop where
  mro : ∃ cd, PySem.W.clsIn K C = some cd ∧ cd.mro = [.ref C, .type "object"]
  no1 : PySem.W.findIn K (.ref C) (dunderI nm) = some none
  no2 : PySem.W.findIn K (.type "object") (dunderI nm) = some none
section
variable {X : Cx} {CX : CXT} {k : Nat} {ps ks : List Str} {sp : Sp} {E : XK} {C : Addr} {m : Str}
theorem iop_O {op : Operator} (M : CmpAt X.prog X.w X.K X.mg X.base CX k C m ps sp) (B : BinF X.K C op.info.2) (N : InpF X.K C op.info.2) (hr : Room k X.A) (hx : Passes CX X E) (hm : PySem.dunder op.info.2 = m := by rfl) : OpR X (inplaceOp op) (rBinO C sp E) := by
  intro pins s σ H x y v u Q I rx ry h
  obtain ⟨f, fd, hs, hf, F, hb⟩ := M.ex
  obtain ⟨a, dx, fs, rfl, ha, oi, hsp⟩ := h
  obtain rfl : v = Value.ref a := rx
  obtain ⟨ox, od, J, _⟩ := ins_plain I ha
  obtain ⟨cd, c1, c2⟩ := N.mro
  subst hm
  have go : wpAny (model X.prog X.w) X.A (call (.ref f) [.ref a, u]) (PySem.W.CmpBack (EP X pins σ Q)) X.xe s := wpAny_mono (run_at (vs := [.ref a, y]) F hb hx (Und.here hr) I (.cons rfl (.cons ry .nil)) hsp) (fun _ _ z => ep_back z) fun _ _ z => z
  refine inpl_K I.kIn J c1 c2 N.no1 N.no2 ?_
  rcases oi with ⟨b, dy, gs, rfl, hb'⟩ | ⟨j, rfl⟩
  · obtain rfl : u = Value.ref b := ry
    obtain ⟨oy, od', J', _⟩ := ins_plain I hb'
    exact bin1_S I.kIn J J'.type B.sf hs hf go
  · obtain ⟨t, rfl⟩ := ry
    obtain ⟨rc, r1, r2⟩ := B.rc
    obtain ⟨fo, i1⟩ := B.i1
    obtain ⟨ro, i2⟩ := B.i2
    exact bin1_T I.kIn J rfl B.sf hs hf r1 r2 i1 i2 B.su go
/-! ### an instance called -/
/-- f(e, ..), told without the context -/
def tCallI (C : Addr) (sp : Sp) (E : XK) (tf : TE) (t : TA) : TE := fun σ H Q => tf σ H fun y H1 => ∃ a, y = V.ref a ∧ t σ H1 fun vs H2 => (∃ dx fs, H2 a = some (.ins C dx fs)) ∧ sp (V.ref a :: vs) H2 Q E
theorem pe_clI {fe e : Expr} {es : List Expr} {tf : TE} {t : TA} {pos : Pos} (M : CallAt X.prog X.w X.K X.mg X.base CX k C ps sp) (hr : Room k X.A) (hx : Passes CX X E) (hf : PE X fe tf) (ha : PA X (e :: es) t)
    (ht : eval (.Call fe (e :: es) [] pos) X.env = (do callWith pos (← eval fe X.env) [] (backTo pos (starEach (e :: es) X.env)) (backToKw pos (keywordEach [] X.env))) := by rfl)
    (hs : starEach (e :: es) X.env = (false, eval e X.env) :: starEach es X.env := by rfl) (hpl : (backTo pos (starEach es X.env)).any (·.1) = false := by rfl) : PE X (.Call fe (e :: es) [] pos) (tCallI C sp E tf t) := by
  obtain ⟨f, fd, c, F, b⟩ := M.ex
  refine ⟨fun pins s σ H Q I h => ?_⟩
  refine Call_ (thn (hf.run pins s σ H _ I h) fun u s1 ⟨y, H1, I1, ry, a, ey, q⟩ => ?_) ht
  subst ey
  obtain rfl : u = Value.ref a := ry
  refine StX.callO_with (thn (ha.run pos pins s1 σ H1 _ I1 q) fun us s2 ⟨vs, H2, I2, r, ⟨dx, fs, hi⟩, q2⟩ => ?_) hs hpl
  obtain ⟨ox, od, J, hd⟩ := StX.insC_at (X := X) I2 (.inr ⟨dx, fs, hi⟩)
  refine ⟨⟨C, ox, od, J, hd⟩, ?_⟩
  have hl : (Value.ref a :: us ++ []).length = ps.length := by
    rw [List.append_nil, List.length_cons, ← r.length]
    exact F.len _ _ _ _ q2
  have bd := b s2 (.ref a :: us) I2.kIn hl
  rw [List.append_nil] at bd
  refine wpAny_call (PySem.W.kco_code I2.kIn J hd c.at_ c.fn c.fi (codeAny_mono (F.run X.A X.stack s2 H2 ⟨.ref a :: us, []⟩ (.ref a :: us) (.ref a :: vs) _ E hr I2.env0 bd (.cons rfl r) q2) fun r s' hq => ?_))
  match r, hq with
  | .error e, hq => exact hx pins σ H2 s2 e s' I2 hq
  | .ok (.ret z), hq => exact I2.after hq
  | .ok .next, hq => exact False.elim hq
  | .ok .brk, hq => exact False.elim hq
  | .ok .cont, hq => exact False.elim hq
structure CallK (P : Program) (w : World) (K : PySem.W.Frag) (mg : Str → Option Value) (base : Heap) (CX : CXT) (k : Nat) (C : Addr) (ps ks : List Str) (sp : Sp) (gV : List V → List V → List V) : Prop where
  ex : ∃ f fd g, StX.CallO K C f ∧ FnOk P w K mg base CX k f fd ps sp ∧ KBn K fd ps 1 ks g gV
def tCallK (C : Addr) (j : Nat) (sp : Sp) (gV : List V → List V → List V) (E : XK) (tf : TE) (tk : TA) : TE := fun σ H Q => tf σ H fun y H1 => ∃ a, y = V.ref a ∧ tk σ H1 fun zs H2 => zs.length = j ∧ (∃ dx fs, H2 a = some (.ins C dx fs)) ∧ sp (gV [.ref a] zs) H2 Q E
/-- the call's node where the callee is an instance, keywords alone -/
theorem callO_kw {M : Model} {A : Around} {Er : Value → Shared → Prop} {s : Shared} {a : Addr} {pos : Pos} {Q : Value → Shared → Prop} {args : List (Bool × Sem Value)} {kw : List (Option Str × Sem Value)} (hplain : (args.any (·.1) || kw.any (·.1.isNone)) = false)
    (h : wpAny M A (evalArgs (.ref a) true args kw) (fun z s₁ => (∃ C ox od, PySem.W.InstAt s₁.heap a ox C od ∧ ox.data = .plain) ∧ wpAny M A (call (.ref a) ([] ++ z.pos) z.kw) Q Er s₁) Er s) : wpAny M A (callWith pos (.ref a) [] args kw) Q Er s := by
  unfold callWith
  refine wpAny_bind (wpAny_holding (wpAny_mono h (fun z s₁ h₁ => wpAny_bind (wpAny_standAt ?_)) fun _ _ y => y))
  obtain ⟨⟨C, ox, od, J, hd⟩, h₁⟩ := h₁
  simp only [hplain]
  refine wpAny_bind ((PySem.W.kco_keeper (M := M) J hd).here ?_)
  refine wpAny_bind (wpAny_mono (wpAny_operateT h₁) (fun r s₂ hr => wpAny_bind (wpAny_holding (wpAny_point (wpAny_pure hr)))) fun _ _ y => y)
theorem pe_clK {fe : Expr} {kws : List Keyword} {tf : TE} {tk : TA} {pos : Pos} {gV : List V → List V → List V} (M : CallK X.prog X.w X.K X.mg X.base CX k C ps ks sp gV) (hr : Room k X.A) (hx : Passes CX X E) (hf : PE X fe tf) (hkw : PK X kws tk)
    (ht : eval (.Call fe [] kws pos) X.env = (do callWith pos (← eval fe X.env) [] (backTo pos (starEach [] X.env)) (backToKw pos (keywordEach kws X.env))) := by rfl)
    (hall : (backToKw pos (keywordEach kws X.env)).all (·.1.isSome) = true := by rfl) (hks : (backToKw pos (keywordEach kws X.env)).filterMap (·.1) = ks := by rfl)
    (hpl : ((backTo pos (starEach [] X.env)).any (·.1) || (backToKw pos (keywordEach kws X.env)).any (·.1.isNone)) = false := by rfl) : PE X (.Call fe [] kws pos) (tCallK C ks.length sp gV E tf tk) := by
  obtain ⟨f, fd, g, c, F, b⟩ := M.ex
  refine ⟨fun pins s σ H Q I h => ?_⟩
  rw [ht]
  refine wpAny_bind (thn (hf.run pins s σ H _ I h) fun u s1 ⟨y, H1, I1, ry, a, ey, q⟩ => ?_)
  subst ey
  obtain rfl : u = Value.ref a := ry
  refine callO_kw hpl (evalArgs_kw2_nil hall (thn (hkw.run pos pins s1 σ H1 _ I1 q) fun ws s2 ⟨zs, H2, I2, rz, l2, ⟨dx, fs, hi⟩, q2⟩ => ?_))
  obtain ⟨ox, od, J, hd⟩ := StX.insC_at (X := X) I2 (.inr ⟨dx, fs, hi⟩)
  refine ⟨⟨C, ox, od, J, hd⟩, ?_⟩
  rw [hks]
  have r2 := b.rel (vs := [V.ref a]) (us := [Value.ref a]) (.cons rfl .nil) rz
  refine wpAny_call (PySem.W.kco_code I2.kIn J hd c.at_ c.fn c.fi (codeAny_mono (F.run X.A X.stack s2 H2 ⟨[.ref a], ks.zip ws⟩ (g [.ref a] ws) (gV [.ref a] zs) _ E hr I2.env0 (b.to s2 [.ref a] ws I2.kIn rfl (rz.length.symm.trans l2)) r2 q2) fun r s' hq => ?_))
  match r, hq with
  | .error e, hq => exact hx pins σ H2 s2 e s' I2 hq
  | .ok (.ret z), hq => exact I2.after hq
  | .ok .next, hq => exact False.elim hq
  | .ok .brk, hq => exact False.elim hq
  | .ok .cont, hq => exact False.elim hq
/-- a class of the module made by keywords alone -/
structure MakeK (P : Program) (w : World) (K : PySem.W.Frag) (mg : Str → Option Value) (base : Heap) (CX : CXT) (k : Nat) (x : Str) (C : Addr) (ps ks : List Str) (sp : Sp) (gV : List V → List V → List V) : Prop where
  ex : ∃ f fd g, Mk K C f ∧ FnOk P w K mg base CX k f fd ps sp ∧ mg x = some (.ref C) ∧ KBn K fd ps 1 ks g gV
theorem pe_mkK {x : Str} {p pos : Pos} {kws : List Keyword} {tk : TA} {gV : List V → List V → List V} (M : MakeK X.prog X.w X.K X.mg X.base CX k x C ps ks sp gV) (hr : Room (k + 1) X.A) (hg : Gl X x) (hx : Passes CX X E) (hkw : PK X kws tk)
    (hall : (backToKw pos (keywordEach kws X.env)).all (·.1.isSome) = true := by rfl) (hks : (backToKw pos (keywordEach kws X.env)).filterMap (·.1) = ks := by rfl) (hdb : (x == ("__debug__" : Str)) = false := by decide)
    (hpl : ((backTo pos (starEach [] X.env)).any (·.1) || (backToKw pos (keywordEach kws X.env)).any (·.1.isNone)) = false := by rfl) : PE X (.Call (.Name x p) [] kws pos) (tMakeK C 0 ks.length sp gV E tNil tk) := by
  obtain ⟨f, fd, g, mk, F, hm, b⟩ := M.ex
  exact pe_makeK0 mk F hr hg hm b hx hkw hall hks hdb hpl
end
end My
/-! For the end: static methods, makers with defaults, calls by keywords. -/
namespace My
open PySem PySem.Spec PyProof.Rows L2
def gApp (vs zs : List V) : List V := vs ++ zs
def gSw (vs zs : List V) : List V := vs ++ zs.reverse
theorem nm_part : Sup.Nm "part" := ⟨by decide, by decide, by decide, by decide, fun _ _ _ _ _ _ _ _ _ _ _ _ => rfl⟩
theorem app_rel {vs : List V} {us : List Value} {zs : List V} {ws : List Value} (h1 : Vals vs us) (h2 : Vals zs ws) : Vals (gApp vs zs) (us ++ ws) := h1.append h2
/-- the class has the static method -/
structure HasS (K : PySem.W.Frag) (C : Addr) (m qual : Str) (st : Stmt) : Prop where
  ex : ∃ f fd, Stat K C m f ∧ Fun K m qual st f fd
section
variable {P : Program} {w : World} {K : PySem.W.Frag} {mg : Str → Option Value} {base : Heap} {CX : CXT} {k : Nat} {m qual : Str} {st : Stmt} {ps ks : List Str} {sp : Sp} {C : Addr}
theorem stat_at (A : HasS K C m qual st) (ok : ∀ f fd, Fun K m qual st f fd → FnOk P w K mg base CX k f fd ps sp) (b : BindW m qual st ps) : StatAt P w K mg base CX k C m ps sp := by
  obtain ⟨f, fd, h1, F⟩ := A.ex
  exact ⟨f, fd, h1, ok f fd F, F.binds b⟩
theorem statK_at {gV : List V → List V → List V} {g : List Value → List Value → List Value} (A : HasS K C m qual st) (ok : ∀ f fd, Fun K m qual st f fd → FnOk P w K mg base CX k f fd ps sp)
    (b : ∀ (kV doc pm : Value) (an : Option Addr) (cdv ct : Value) (us ws : List Value), us.length = 0 → ws.length = ks.length → bindArgs (PySem.W.fnOf m qual (defArgs st) (defBody st) (defScope st) .none kV doc pm an cdv ct) ⟨us, ks.zip ws⟩ = pure (ps.zip (g us ws)))
    (r : ∀ {vs : List V} {us : List Value} {zs : List V} {ws : List Value}, Vals vs us → Vals zs ws → Vals (gV vs zs) (g us ws)) : StatK P w K mg base CX k C m ps ks sp gV := by
  obtain ⟨f, fd, h1, F⟩ := A.ex
  obtain ⟨oc, od, kV, doc, pm, an, cdv, ct, osl, rfl, _⟩ := id F.ex
  exact ⟨f, _, g, h1, ok f _ F, ⟨fun s us ws _ l1 l2 => .of_eq (b kV doc pm an cdv ct us ws l1 l2), r⟩⟩
end
theorem sw_rel {vs : List V} {us : List Value} {zs : List V} {ws : List Value} (h1 : Vals vs us) (h2 : Vals zs ws) : Vals (gSw vs zs) (us ++ ws.reverse) := h1.append h2.reverse
theorem kinds7 {K : PySem.W.Frag} {C : Addr} (a0 : PySem.W.kitOne K (.type "int") (.ref C) = some false) (b0 : PySem.W.notFirst K C (.type "int") = true) (a1 : PySem.W.kitOne K (.type "tuple") (.ref C) = some false) (b1 : PySem.W.notFirst K C (.type "tuple") = true) (a2 : PySem.W.kitOne K (.type "NoneType") (.ref C) = some false) (b2 : PySem.W.notFirst K C (.type "NoneType") = true) (a3 : PySem.W.kitOne K (.type "str") (.ref C) = some false) (b3 : PySem.W.notFirst K C (.type "str") = true) (a4 : PySem.W.kitOne K (.type "list") (.ref C) = some false) (b4 : PySem.W.notFirst K C (.type "list") = true) (a5 : PySem.W.kitOne K (.type "bool") (.ref C) = some false) (b5 : PySem.W.notFirst K C (.type "bool") = true) (a6 : PySem.W.kitOne K (.type "dict") (.ref C) = some false) (b6 : PySem.W.notFirst K C (.type "dict") = true) : ∀ t ∈ ["int", "tuple", "NoneType", "str", "list", "bool", "dict"], PySem.W.kitOne K (.type t) (.ref C) = some false ∧ PySem.W.notFirst K C (.type t) = true := fun t ht => by
  simp only [List.mem_cons, List.mem_nil_iff, or_false] at ht
  rcases ht with rfl | rfl | rfl | rfl | rfl | rfl | rfl
  · exact ⟨a0, b0⟩
  · exact ⟨a1, b1⟩
  · exact ⟨a2, b2⟩
  · exact ⟨a3, b3⟩
  · exact ⟨a4, b4⟩
  · exact ⟨a5, b5⟩
  · exact ⟨a6, b6⟩
section
variable {P : Program} {w : World} {K : PySem.W.Frag} {mg : Str → Option Value} {base : Heap} {CX : CXT} {k : Nat} {x qual : Str} {st : Stmt} {ps ks : List Str} {sp : Sp} {C : Addr} {dvs : List V}
/-- the class is made with its defaults left out -/
theorem make_dfl {n : Nat} (A : HasD K C "__init__" qual st dvs []) (hx : mg x = some (.ref C)) (mk : PySem.W.makesIn K C = true) (kp : PySem.W.keepIn K (.ref C) = true) (ok : ∀ f fd, FunD K "__init__" qual (defArgs st) (defBody st) (defScope st) dvs [] f fd → FnOk P w K mg base CX k f fd ps sp) (hd : dvs ≠ []) (hn : n + (dvs.length - 0) = ps.length)
    (b : ∀ (T : Addr) (kV doc pm : Value) (an : Option Addr) (cdv ct : Value) (us its : List Value), us.length = n → its.length = dvs.length →
      ∃ k, bindArgs (PySem.W.fnOf "__init__" qual (defArgs st) (defBody st) (defScope st) (.ref T) kV doc pm an cdv ct) ⟨us, []⟩ = seqItems? (.ref T) >>= k ∧ k (some its.toArray) = pure (ps.zip (us ++ its.drop 0))) : MakeAt P w K mg base CX k x C ps sp dvs := by
  obtain ⟨f, fd, h1, h2, F⟩ := A.ex
  obtain ⟨ds, r, bs⟩ := F.binds1 n 0 hd hn b
  rw [List.drop_zero] at r
  exact ⟨f, fd, ds, ⟨mk, h1, h2, kp⟩, ok f fd F, hx, bs, r⟩
theorem make_sw (A : HasD K C "__init__" qual st dvs []) (hx : mg x = some (.ref C)) (mk : PySem.W.makesIn K C = true) (kp : PySem.W.keepIn K (.ref C) = true) (ok : ∀ f fd, FunD K "__init__" qual (defArgs st) (defBody st) (defScope st) dvs [] f fd → FnOk P w K mg base CX k f fd ps sp) (hd : dvs ≠ [])
    (b : ∀ (T : Addr) (kV doc pm : Value) (an : Option Addr) (cdv ct : Value) (us its ws : List Value), us.length = 1 → its.length = dvs.length → ws.length = ks.length →
      ∃ k, bindArgs (PySem.W.fnOf "__init__" qual (defArgs st) (defBody st) (defScope st) (.ref T) kV doc pm an cdv ct) ⟨us, ks.zip ws⟩ = seqItems? (.ref T) >>= k ∧ k (some its.toArray) = pure (ps.zip (us ++ ws.reverse))) : MakeK P w K mg base CX k x C ps ks sp gSw := by
  obtain ⟨f, fd, h1, h2, F⟩ := A.ex
  obtain ⟨its, kb⟩ := F.kbindsD (ps := ps) 1 ks (fun us _ ws => us ++ ws.reverse) hd (fun h1 _ h3 => h1.append h3.reverse) b
  exact ⟨f, fd, _, ⟨mk, h1, h2, kp⟩, ok f fd F, hx, kb⟩
theorem callK_at {g : List Value → List Value → List Value} (A : HasM K C "__call__" qual st) (ok : ∀ f fd, Fun K "__call__" qual st f fd → FnOk P w K mg base CX k f fd ps sp)
    (b : ∀ (kV doc pm : Value) (an : Option Addr) (cdv ct : Value) (us ws : List Value), us.length = 1 → ws.length = ks.length → bindArgs (PySem.W.fnOf "__call__" qual (defArgs st) (defBody st) (defScope st) .none kV doc pm an cdv ct) ⟨us, ks.zip ws⟩ = pure (ps.zip (us ++ ws))) : CallK P w K mg base CX k C ps ks sp gApp := by
  obtain ⟨f, fd, h1, h2, F⟩ := A.ex
  obtain ⟨oc, od, kV, doc, pm, an, cdv, ct, osl, rfl, lk, _⟩ := id F.ex
  refine ⟨f, _, _, ⟨h1, h2, ?_⟩, ok f _ F, ⟨fun s us ws _ l1 l2 => .of_eq (b kV doc pm an cdv ct us ws l1 l2), app_rel⟩⟩
  unfold PySem.W.fnIn
  rw [lk]
end
end My
/-! int == an instance; bool(x), abs(x) of an instance; // and % of an int by an instance. -/
namespace My
open PySem PySem.Spec PySem.Calls PyProof.Rows L2
theorem is_fdv {K : PySem.W.Frag} : IntSlot K (Operator.info .FloorDiv).2 "int.__floordiv__" Builtin.«int.__floordiv__» := ⟨PySem.F.slot_int_floordiv, PySem.F.entry_int_floordiv, PySem.F.args_int_floordiv_2, dec_floordiv⟩
theorem is_mod {K : PySem.W.Frag} : IntSlot K (Operator.info .Mod).2 "int.__mod__" Builtin.«int.__mod__» := ⟨PySem.F.slot_int_mod, PySem.F.entry_int_mod, PySem.F.args_int_mod_2, dec_mod⟩
section
open PySem.W
variable {prog : Program} {w : World} {A : Around} {E : Value → Shared → Prop} {s : Shared} {K : Frag} {x C L f : Addr} {h₀ : Heap} {m : Str → Option Value} {ox : Obj} {od : Option Obj}
theorem bool_call {Q : Value → Shared → Prop} (F : Fr h₀ L s.heap m) (X₀ : K.In h₀) (I : InstAt s.heap x ox C od) (hs : findIn K (.ref C) "__bool__" = some (some (.ref f))) (hf : isFn K (.ref f) = true)
    (h : wpAny (model prog w) A.in1.in1 (call (.ref f) [.ref x]) (PySem.W.BoolBack fun b s' => Q (.bool b) s') E s) : wpAny (model prog w) A (call (.type "bool") [.ref x]) Q E s := by
  refine callType_codes (T := "bool") (Bi := Builtin.«object.__init__») (Q₁ := fun r s' => ∃ b, r = .bool b ∧ Q r s') PySem.F.called_bool (PySem.F.typeCall_bool_1 _) PySem.F.entry_object_init ?_ ?_
  · refine codeAny_of_tree ?_
    show wpAny _ A.in1.in1 (do checkBuiltinCall "bool.__new__" ⟨[.type "bool", .ref x], []⟩; again (.builtin "bool.__new__" ⟨[.type "bool", .ref x], []⟩)) _ _ s
    refine wpAny_bind (wpAny_of_eq (PySem.F.newCall_bool_1 _) (wpAny_pure ⟨plainId_quiet (by decide +kernel) _, codeAny_builtin PySem.F.entry_bool_new ?_⟩))
    rw [Around.under_plainId (by decide +kernel) _]
    unfold Builtin.«bool.__new__»
    have f1 := PySem.F.conv_sub_bool
    have go : wpAny (model prog w) A.in1.in1 (truthy (.ref x)) (fun b s' => Q (.bool b) s') E s := truthy_K F X₀ I hs hf h
    refine wpAny_bind (m := isType (.type "bool")) (wpAny_pure ?_)
    refine wpAny_bind (m := isSubtype (.type "bool") (.type "bool")) (wpAny_of_eq f1 ?_)
    refine wpAny_bind (wpAny_pure ?_)
    refine wpAny_bind (m := truthy (.ref x)) (wpAny_mono go (fun b s' hq => ?_) fun _ _ y => y)
    exact wpAny_pure ⟨b, rfl, hq⟩
  · rintro obj s' ⟨b, rfl, hq⟩
    exact ⟨PySem.typeIs_bool _ _, PySem.F.args_object_init_2 _ _, object_init_meets PySem.F.called_bool.init.lookup PySem.F.called_bool.made (by decide) prog w A.in1 _ s' ⟨PySem.typeIs_bool _ _, rfl, hq⟩⟩
theorem abs_call {Q : Value → Shared → Prop} (X : K.In s.heap) (I : InstAt s.heap x ox C od) (hs : findIn K (.ref C) "__abs__" = some (some (.ref f))) (hf : isFn K (.ref f) = true)
    (h : wpAny (model prog w) A.in1 (call (.ref f) [.ref x]) Q E s) : wpAny (model prog w) A (call (.builtin "abs") [.ref x]) Q E s := by
  refine call_function_entry kind_abs plain_abs entry_abs (args_abs _) ?_
  unfold Builtin.«abs»
  refine wpAny_bind (m := oneArg "abs" _) (wpAny_pure ?_)
  refine wpAny_bind (m := callSpecial? (.ref x) (Str.ofString "__abs__")) (special_fn X I hs (beq_iff_eq.mp hf) (wpAny_mono h (fun r s' hr => ?_) fun _ _ y => y))
  exact wpAny_pure ⟨_, rfl, hr⟩
end
section
variable {X : Cx} {CX : CXT} {k : Nat} {C : Addr} {ps : List Str} {sp : Sp} {E : XK}
theorem op_eqR (M : CmpAt X.prog X.w X.K X.mg X.base CX k C "__eq__" ps sp) (su : PySem.W.subIn X.K (.ref C) (.type "int") = some false) (hr : Room k X.A) (hx : Passes CX X E) : OpR X (compareOp .Eq) (rCmpR C sp E) := op_cmpRv M su hr hx rfl (fun _ _ => rfl) (fun _ _ _ => rfl) PySem.F.slot_int_eq PySem.F.entry_int_eq PySem.F.args_int_eq_2 dec_eq
/-- bool(x) of an instance with its own __bool__ -/
def rBoolO (C : Addr) (sp : Sp) (E : XK) : List V → Hp → VK → Prop := fun xs H Q => ∃ a dx fs, xs = [.ref a] ∧ H a = some (.ins C dx fs) ∧ sp [.ref a] H (fun v H' => ∃ b, v = .bl b ∧ Q v H') E
theorem call_boolO (M : CmpAt X.prog X.w X.K X.mg X.base CX k C "__bool__" ps sp) (hr : Room (k + 2) X.A) (hx : Passes CX X E) : CallR X (.type "bool") (rBoolO C sp E) := by
  intro pins s σ H xs us Q I r h
  obtain ⟨f, fd, hs, hf, F, hb⟩ := M.ex
  obtain ⟨a, dx, fs, rfl, ha, hsp⟩ := h
  obtain ⟨u, rfl, r1⟩ := vals1 r
  obtain rfl : u = Value.ref a := r1
  obtain ⟨ox, od, J, _⟩ := ins_plain I ha
  obtain ⟨m', hF⟩ := I.fr
  have U : Und X k X.A.in1.in1 := (Und.here hr).in1.in1
  refine bool_call hF I.ok.mod.kin J hs hf (wpAny_mono (run_at (vs := [.ref a]) F hb hx U I (.cons rfl .nil) hsp) (fun v s' z => ?_) fun _ _ z => z)
  obtain ⟨z, H', I', rz, b, rfl, q⟩ := z
  cases (show v = Value.bool b from rz)
  exact ⟨.bl b, H', I', rfl, q⟩
/-- abs(x) of an instance with its own __abs__ -/
def rAbsO (C : Addr) (sp : Sp) (E : XK) : List V → Hp → VK → Prop := fun xs H Q => ∃ a dx fs, xs = [.ref a] ∧ H a = some (.ins C dx fs) ∧ sp [.ref a] H Q E
theorem call_absO (M : CmpAt X.prog X.w X.K X.mg X.base CX k C "__abs__" ps sp) (hr : Room (k + 1) X.A) (hx : Passes CX X E) : CallR X (.builtin "abs") (rAbsO C sp E) := by
  intro pins s σ H xs us Q I r h
  obtain ⟨f, fd, hs, hf, F, hb⟩ := M.ex
  obtain ⟨a, dx, fs, rfl, ha, hsp⟩ := h
  obtain ⟨u, rfl, r1⟩ := vals1 r
  obtain rfl : u = Value.ref a := r1
  obtain ⟨ox, od, J, _⟩ := ins_plain I ha
  have U : Und X k X.A.in1 := (Und.here hr).in1
  exact abs_call I.kIn J hs hf (run_at (vs := [.ref a]) F hb hx U I (.cons rfl .nil) hsp)
end
end My
/-! enumerate of a tuple; a class made by a star; a tuple turned about. -/
namespace My
open PySem PySem.Spec PySem.Calls PyProof.Rows L2
/-! ### enumerate(tuple) -/
theorem enum1_meets {v : Value} {o : Obj} {H : Heap → Prop} (B : Begins v o H) :
    Meets (Builtin.«enumerate.__new__» ⟨[.type "enumerate", v], []⟩) (fun _ R s => H s.heap ∧
      R (.ok (.ret (.ref (s.heap.push o).objs.size))) { s with heap := (s.heap.push o).push { cls := .type "enumerate", data := .fields #[.none, .bool false, .ref s.heap.objs.size, rawInt 0, .none, .none] } }) :=
  .of_wp fun prog w A R s h => by
    obtain ⟨hp, g, d, tk, os⟩ := s
    obtain ⟨h1, h⟩ := h
    have hsub := sub_enumerate
    have q1 : ∀ {A' : Around} {E : Value → Shared → Prop} {Q : Value → Shared → Prop}, Q (.ref hp.objs.size) ⟨hp.push o, g, d, tk, os⟩ → wpAny (model prog w) A' (pyIter v) Q E ⟨hp, g, d, tk, os⟩ :=
      fun q => B.iter prog w _ _ ⟨hp, g, d, tk, os⟩ _ h1 q
    wp_walk using q1
    refine wpAny_stack_any fun st => wpAny_pure ?_
    split
    · rename_i c _ _ _ _ _
      cases (c == Value.type "enumerate")
      · wp_walk using q1
        exact ⟨_, rfl, h⟩
      · wp_walk using q1
        exact ⟨_, rfl, h⟩
    · wp_walk using q1
      exact ⟨_, rfl, h⟩
section
variable {prog : Program} {w : World} {A : Around} {E : Value → Shared → Prop} {s : Shared}
theorem enum1_begins {v : Value} {o : Obj} {H : Heap → Prop} {Q : Value → Shared → Prop} (B : Begins v o H) (h1 : H s.heap)
    (h : ∀ h', IsEnum h' (s.heap.objs.size + 1) s.heap.objs.size 0 .none → h'.get? s.heap.objs.size = some o → h'.objs.size = s.heap.objs.size + 2 →
      (∀ b o, s.heap.get? b = some o → h'.get? b = some o) → Q (.ref (s.heap.objs.size + 1)) { s with heap := h' }) :
    wpAny (model prog w) A (call (.type "enumerate") [v]) Q E s := by
  refine callType_new F.called_enumerate (by decide) (F.typeCall_enumerate_1 _) (F.newCall_enumerate_1 _) (fun obj => F.args_object_init_2 obj _) F.entry_enumerate_new (enum1_meets B) ⟨h1, ?_⟩
  have hz : (s.heap.push o).objs.size = s.heap.objs.size + 1 := Heap.size_push ..
  show _ ∧ _
  rw [hz]
  have he : IsEnum ((s.heap.push o).push { cls := .type "enumerate", data := .fields #[.none, .bool false, .ref s.heap.objs.size, rawInt 0, .none, .none] }) (s.heap.objs.size + 1) s.heap.objs.size 0 .none := by
    have z := Heap.get?_push_size (s.heap.push o) (o := { cls := .type "enumerate", data := .fields #[.none, .bool false, .ref s.heap.objs.size, rawInt 0, .none, .none] }) rfl
    rw [hz] at z
    exact z
  exact ⟨⟨_, he, rfl⟩, h _ he (Heap.get?_push_of_some _ (Heap.get?_push_size _ B.free)) (by rw [Heap.size_push, hz]) fun b o x => Heap.get?_push_of_some _ (Heap.get?_push_of_some _ x)⟩
end
/-- the tuple at a, each item in a new pair -/
def IteT (K : PySem.W.Frag) (a : Addr) : It :=
  ⟨fun i H => ∃ (xs : List V) (x : V), SqT K H a xs ∧ xs[i]? = some x, fun i H v H' => ∃ T x, v = .ref T ∧ H T = none ∧ H' = upd H T (.tup [.int (i : Nat), x]) ∧ ∀ xs, SqT K H a xs → xs[i]? = some x, fun i H => ∃ xs : List V, SqT K H a xs ∧ xs.length = i⟩
theorem turn_enumT {P : Program} {w : World} {K : PySem.W.Frag} {elts : List Expr} {kk : Nat} {tpos : Pos} (a e it : Addr) :
    Turn P w K (.Tuple elts kk tpos) (IteT K a) [e, it] e (fun i h => (∃ old, IsEnum h e it ((i : Nat) : Int) old) ∧ h.IsTupleIter it a i ∧ e ≠ it) where
  mem := by simp
  obj := fun i h st b hb => by
    obtain ⟨⟨old, he⟩, ⟨o, ho, hc, hd⟩, _⟩ := st
    rcases (show b = e ∨ b = it by simpa using hb) with rfl | rfl
    · exact ⟨_, he, fun v q => nomatch q⟩
    · exact ⟨o, ho, fun v q => by rw [hd] at q; cases q⟩
  keep := fun i h h' st k => let ⟨⟨old, he⟩, hi, hne⟩ := st; ⟨⟨old, k e (by simp) _ he⟩, hi.at fun o q => k it (by simp) o q, hne⟩
  item := by
    intro X hP hw hK hc i pins s σ H E I hf st hg
    subst hP hw hK
    obtain ⟨⟨old, he⟩, hit, hne⟩ := st
    obtain ⟨xs, x, hq, hx⟩ := hg
    obtain ⟨its, rv, p, hz⟩ := I.tuple hq
    obtain ⟨u, hu, ru⟩ := rv.get hx
    have hel : e < s.heap.objs.size := Heap.lt_size he
    have hil : it < s.heap.objs.size := by obtain ⟨_, q, _⟩ := hit; exact Heap.lt_size q
    have hat : a ≠ it := fun z => by
      obtain ⟨o1, e1, c1, _⟩ := p
      obtain ⟨o2, e2, c2, _⟩ := hit
      rw [z, e2] at e1
      cases e1
      rw [c2] at c1
      exact absurd c1 (by decide)
    have hae : a ≠ e := fun z => by
      obtain ⟨o1, e1, c1, _⟩ := p
      rw [z, show s.heap.get? e = _ from he] at e1
      cases e1
      exact absurd (show Value.type "enumerate" = Value.type "tuple" from c1) (by decide)
    have D := Draws.tuple (prog := X.prog) (w := X.w) (A := X.A.in1) (I.ok.hd hc) it a hat its.toArray
    have hlt : i < its.toArray.size := by
      have := (List.getElem?_eq_some_iff.mp hu).1
      simpa using this
    refine wpAny_pyNext_enum_itemC (n := its.toArray.size) D he ⟨hit, p⟩ hlt hne (by simp; exact ⟨hne, Ne.symm hae⟩) fun x' h' tk hPx ho hst' hT hsz hk => ?_
    have ex : x' = u := by
      have h1 : its.toArray[i]? = some x' := hPx
      rw [List.getElem?_toArray, hu] at h1
      exact (Option.some.inj h1).symm
    subst ex
    refine ⟨_, rfl, wpAny_letOwnedTupleGo_enum (s := { s with heap := h', toks := tk + 1 }) ho fun h'' he' sb => ?_⟩
    have hT2 : h''.get? s.heap.objs.size = some { cls := .type "tuple", data := .seq #[.int i tk, x'] } := (sb.2 _ (Nat.ne_of_gt hel)).trans hT
    have new : ObjOk X.prog X.w (upd H s.heap.objs.size (.tup [.int (i : Nat), x])) h'' s.heap.objs.size (.tup [.int (i : Nat), x]) :=
      ⟨by show 2 ≤ sizeLine; decide, [.int i tk, x'], .cons ⟨_, rfl⟩ (.cons ru .nil), ⟨_, hT2, rfl, _, rfl⟩⟩
    have I1 : Inv X pins σ (upd H s.heap.objs.size (.tup [.int (i : Nat), x])) { s with heap := h'', toks := tk + 1 } :=
      I.turnedNew (ch := [e, it]) (fun b ob hb q => (sb.2 b (fun z => hb (by simp [z]))).trans (hk b ob (fun z => hb (by simp [z])) (fun z => hb (by simp [z])) q)) hf (Nat.le_refl _) new
    refine ⟨.ref s.heap.objs.size, _, I1, rfl, ⟨_, x, rfl, I.hok.fresh (Nat.le_refl _), rfl, fun ys hy => by rw [I.tuple_inj hy hq]; exact hx⟩, ⟨⟨x', ?_⟩, hst'.1.at fun o q => (sb.2 it (Ne.symm hne)).trans q, hne⟩, fun b hb => ?_⟩
    · have e1 : ((i + 1 : Nat) : Int) = (i : Int) + 1 := by omega
      rw [e1]
      exact he'
    · have hb' : b < s.heap.objs.size := by
        rcases (show b = e ∨ b = it by simpa using hb) with rfl | rfl
        · exact hel
        · exact hil
      rw [upd_ne (Nat.ne_of_lt hb')]
      exact (hf b hb).1
  done := by
    intro X hP hw hK hc i pins s σ H E I hf st hg
    subst hP hw hK
    obtain ⟨⟨old, he⟩, hit, hne⟩ := st
    obtain ⟨xs, hq, hx⟩ := hg
    obtain ⟨its, rv, p, hz⟩ := I.tuple hq
    obtain ⟨f0, f1, f2, f3, f4, f5⟩ := hf it (by simp)
    have hl := rv.length
    have hat : a ≠ it := fun z => by
      obtain ⟨o1, e1, c1, _⟩ := p
      obtain ⟨o2, e2, c2, _⟩ := hit
      rw [z, e2] at e1
      cases e1
      rw [c2] at c1
      exact absurd c1 (by decide)
    have D := Draws.tuple (prog := X.prog) (w := X.w) (A := X.A.in1) (I.ok.hd hc) it a hat its.toArray
    have ei : i = its.toArray.size := by
      rw [List.size_toArray]
      omega
    subst ei
    exact wpAny_pyNext_enum_endD D he ⟨hit, p⟩ fun h' eb => ⟨rfl, I.turned (t' := s.toks) (fun b o hb q => eb b o hb q) f0 f1 f3 f4 f5⟩
  self := fun A i s Q E st h => let ⟨⟨_, he⟩, _⟩ := st; wpAny_pyIter_enum he h
def iEnumT (K : PySem.W.Frag) (ta : TA) : TI := fun σ H R => ta σ H fun vs H1 => ∃ a xs, vs = [.ref a] ∧ SqT K H1 a xs ∧ R (IteT K a) H1
theorem pi_enumT {X : Cx} {e : Expr} {ta : TA} {p pos tpos : Pos} {elts : List Expr} {kk : Nat} (hg : Gl X "enumerate") (hm : X.mg "enumerate" = none) (ha : PA X [e] ta) (hs : starEach [e] X.env = [(false, eval e X.env)] := by rfl) :
    PI X (.Tuple elts kk tpos) (.Call (.Name "enumerate" p) [e] [] pos) (iEnumT X.K ta) := by
  refine ⟨fun pins s σ H R I h => ?_⟩
  refine Call_ (ld_blt I hg hm boot_enumerate (PyProof.Rows.callWith_type1 (thn (ha.run pos pins s σ H _ I h) fun us s1 ⟨vs, H1, I1, r1, q1⟩ => ?_) hs rfl))
  obtain ⟨a, xs, ex, hq, q⟩ := q1
  subst ex
  cases r1 with
  | cons r rr =>
    cases rr
    cases r
    obtain ⟨its, rv, p', hz⟩ := I1.tuple hq
    refine enum1_begins (begins_tuple a its.toArray) p' fun h' he hit hsz hk => wpAny_pyIter_enum he ?_
    have I2 : Inv X pins σ H1 { s1 with heap := h' } := I1.kept (t' := s1.toks) hk
    refine ⟨s1.heap.objs.size + 1, [s1.heap.objs.size + 1, s1.heap.objs.size], _, _, H1, rfl, I2, turn_enumT a (s1.heap.objs.size + 1) s1.heap.objs.size, ⟨⟨.none, he⟩, ⟨_, hit, rfl, rfl⟩, Nat.succ_ne_self _⟩, fun b hb => ?_, q⟩
    have hle : s1.heap.objs.size ≤ b := by
      rcases (show b = s1.heap.objs.size + 1 ∨ b = s1.heap.objs.size by simpa using hb) with rfl | rfl
      · exact Nat.le_add_right _ _
      · exact Nat.le_refl _
    exact I1.fpOk hle (I1.hok.fresh hle)
/-! ### t[::-1] of a tuple -/
section
variable {prog : Program} {w : World} {A : Around} {E : Value → Shared → Prop} {s : Shared}
theorem places_rev (n : Nat) : Builtin.Slice.slicePlaces ((n : Int) - 1) (-1) (-1) = n := by
  unfold Builtin.Slice.slicePlaces
  rw [if_neg (by decide)]
  split
  · have e : ((n : Int) - 1 - -1 - 1) / (- -1) + 1 = n := by
      rw [show (- -1 : Int) = 1 by decide, Int.ediv_one]
      omega
    rw [e]
    omega
  · omega
theorem pick_rev (xs : Array Value) : ((List.range xs.size).filterMap fun (k : Nat) => xs[((xs.size : Int) - 1 + (k : Int) * (-1)).toNat]?).toArray = xs.toList.reverse.toArray := by
  have h := PySem.W.krv_pick xs
  rw [← h]
  unfold slicePick
  rw [PySem.W.krv_bounds]
  show _ = ((sliceRange ((xs.size : Int) - 1) (-1) (-1)).filterMap (xs[·]?)).toArray
  rw [PySem.W.krv_sliceRange, List.filterMap_map]
  congr 1
  have go : ∀ l : List Nat, (∀ k ∈ l, k < xs.size) → l.filterMap (fun (k : Nat) => xs[((xs.size : Int) - 1 + (k : Int) * (-1)).toNat]?) = l.filterMap ((fun x => xs[x]?) ∘ fun k => xs.size - 1 - k) := by
    intro l
    induction l with
    | nil => intro _; rfl
    | cons k l ih =>
      intro h
      have hk := h k List.mem_cons_self
      have e : ((xs.size : Int) - 1 + (k : Int) * (-1)).toNat = xs.size - 1 - k := by omega
      rw [List.filterMap_cons, List.filterMap_cons, e, ih fun x hx => h x (List.mem_cons_of_mem _ hx)]
      rfl
  exact go _ fun k hk => List.mem_range.mp hk
theorem getItem_rev {t sl : Addr} {items : Array Value} {vl vu vs : Value} {Q : Value → Shared → Prop} (ht : IsTup s.heap t items) (hs : s.heap.IsSliceOf sl vl vu vs) (pl : IsPart vl none) (pu : IsPart vu none) (ps : IsPart vs (some (-1)))
    (h : Q (.ref s.heap.objs.size) { s with heap := s.heap.push { cls := .type "tuple", data := .seq items.toList.reverse.toArray } }) (hsz : items.size ≤ sizeLine) : wpAny (model prog w) A (getItem (.ref t) (.ref sl)) Q E s := by
  have hok : sizeOk (.seq items.toList.reverse.toArray) := by
    show items.toList.reverse.toArray.size ≤ sizeLine
    rw [List.size_toArray, List.length_reverse, Array.length_toList]
    exact hsz
  obtain ⟨os, hos, hcs, hds⟩ := id hs
  have hTs : s.TypeIs (.ref sl) "slice" := ⟨os, hos, hcs⟩
  unfold getItem
  try with_reducible refine wpAny_holding ?_
  first | refine wpAny_bind (wpAny_pure ?_) | skip
  refine wpAny_bind (wpAny_sequenceKey ht.typeIs (by decide) ?_)
  refine wpAny_bind (wpAny_callSpecial?_slot (name := Str.ofString "__getitem__") ht.typeIs PyProof.Rows.slot_tuple_getitem
    (wpAny_call_entry PyProof.Rows.slot_tuple_getitem ht.typeIs entry_tuple_getitem ?_ (args_tuple_getitem _ _)))
  show wpAny _ _ (Builtin.Tuple.tupleItemsOf (.ref t) >>= _) _ _ s
  refine wpAny_bind (tupleItemsOf_ ht ?_)
  refine wpAny_bind (wpAny_typeOf hTs ?_)
  rw [if_pos (by decide)]
  have app : ∀ {Q : Int × Int × Nat → Shared → Prop}, Q ((items.size : Int) - 1, -1, items.size) s → wpAny (model prog w) A.in1 (Builtin.Slice.sliceApplied (.ref sl) (pure (items.size : Int))) Q E s := fun {Q} q => by
    unfold Builtin.Slice.sliceApplied Builtin.Slice.sliceFields
    refine wpAny_bind (wpAny_bind (wpAny_field hos hds (x := vl) rfl (wpAny_bind (wpAny_field hos hds (x := vu) rfl (wpAny_bind (wpAny_field hos hds (x := vs) rfl (wpAny_pure ?_)))))))
    refine wpAny_bind (HT.slicePart_ ps ?_)
    show wpAny _ _ (if ((-1 : Int) == 0) = true then _ else _) _ _ s
    rw [if_neg (by decide)]
    refine wpAny_bind (HT.slicePart_ pl (wpAny_bind (HT.slicePart_ pu (wpAny_bind (wpAny_pure ?_)))))
    have e : Builtin.Slice.slicePlaces ((items.size : Int) - 1) (-1) (-1) = items.size := places_rev _
    show wpAny _ _ (pure (((items.size : Int) - 1), (-1 : Int), Builtin.Slice.slicePlaces ((items.size : Int) - 1) (-1) (-1))) _ _ s
    rw [e]
    exact wpAny_pure q
  refine wpAny_bind (app ?_)
  have hno : ¬ ((((items.size : Int) - 1) == 0 && (-1 : Int) == 1 && items.size == items.size) = true) := by
    intro q
    rw [Bool.and_eq_true, Bool.and_eq_true] at q
    exact absurd q.1.2 (by decide)
  show wpAny _ _ (if (((items.size : Int) - 1) == 0 && (-1 : Int) == 1 && items.size == items.size) = true then _ else _) _ _ s
  rw [if_neg hno, pick_rev]
  first
    | exact wpAny_bind (m := Builtin.Tuple.tupleExact _) (wpAny_newObj_type (wpAny_pure ⟨_, rfl, wpAny_pure h⟩) hok)
    | exact wpAny_bind (m := Builtin.Tuple.tupleExact _) (wpAny_newObj_type (wpAny_bind (wpAny_pure (wpAny_pure ⟨_, rfl, wpAny_pure h⟩))) hok)
    | exact wpAny_bind (wpAny_bind (m := Builtin.Tuple.tupleExact _) (wpAny_newObj_type (wpAny_pure (wpAny_pure ⟨_, rfl, wpAny_pure h⟩)) hok))
    | exact wpAny_bind (wpAny_bind (m := Builtin.Tuple.tupleExact _) (wpAny_newObj_type (wpAny_pure ⟨_, rfl, wpAny_pure h⟩) hok))
end
end My
/-! A class made by a star, classmethods, x[k] by an own __getitem__, bool of a tuple, a tuple turned about, enumerate in a for. -/
namespace My
open PySem PySem.Spec PySem.Calls PyProof.Rows L2
/-! ### t[::-1] -/
def tRevT (K : PySem.W.Frag) (te : TE) : TE := fun σ H Q => te σ H fun x H1 => ∃ a xs, x = .ref a ∧ SqT K H1 a xs ∧ ∀ p, H1 p = none → Q (.ref p) (upd H1 p (.tup xs.reverse))
theorem pe_revT {X : Cx} {e : Expr} {te : TE} {k : Nat} {p1 p2 p3 pos : Pos} (he : PE X e te) : PE X (.Subscript e (.Slice none none (some (.UnaryOp .USub (.Constant (.int 1) k p1) p2)) p3) pos) (tRevT X.K te) := by
  refine ⟨fun pins s σ H Q I h => ?_⟩
  refine Subscript_ (thn (he.run pins s σ H _ I h) fun v t1 ⟨x, H1, I1, r1, a, xs, ex, hx, q⟩ => ?_)
  subst ex
  cases r1
  have step : PO X (some (.UnaryOp .USub (.Constant (.int 1) k p1) p2)) (tPart (tUn (rU fun i => .int (-i)) (tC (.int 1)))) := po_some (pe_un un_neg pe_int)
  refine wpAny_Slice (thn (po_none.run pins t1 σ H1 (fun o H2 => o = none ∧ H2 = H1) I1 ⟨rfl, rfl⟩) fun vl t2 ⟨l, H2, I2, pl, el, e2⟩ => ?_)
  subst el e2
  refine thn (po_none.run pins t2 σ H2 (fun o H3 => o = none ∧ H3 = H2) I2 ⟨rfl, rfl⟩) fun vu t3 ⟨u, H3, I3, pu, eu, e3⟩ => ?_
  subst eu e3
  refine thn (step.run pins t3 σ H3 (fun o H4 => o = some (-1) ∧ H4 = H3) I3 ⟨1, rfl, -1, rfl, rfl, rfl⟩) fun vs t4 ⟨o, H4, I4, ps, eo, e4⟩ => ?_
  subst eo e4
  have I5 : Inv X pins σ H4 { t4 with heap := t4.heap.push { cls := .type "slice", data := .fields #[vl, vu, vs] } } := I4.kept (t' := t4.toks) fun b ob q => Heap.get?_push_of_some _ q
  obtain ⟨its, r, ht, hz⟩ := I5.tuple hx
  have hlen := r.length
  show wpAny (model X.prog X.w) X.A (subscriptTail e (.Slice none none (some (.UnaryOp .USub (.Constant (.int 1) k p1) p2)) p3) (.ref a) (.ref t4.heap.objs.size)) (EP X pins σ Q) X.xe { t4 with heap := t4.heap.push { cls := .type "slice", data := .fields #[vl, vu, vs] } }
  refine tail_any (ops := [.ref a, .ref t4.heap.objs.size]) ht.typeIs (PyProof.Rows.slot_tuple_getitem.lookup) ?_ (by with_unfolding_all rfl)
  refine getItem_rev ht (Heap.IsSliceOf.new _ vl vu vs) pl pu ps ?_ (by rw [List.size_toArray]; omega)
  refine ⟨.ref _, _, I5.laid (t' := t4.toks) (o := .tup xs.reverse) (fun b ob q => Heap.get?_push_of_some _ q) (Nat.le_refl _) ?_, rfl, q _ (I5.hok.fresh (Nat.le_refl _))⟩
  exact ⟨by rw [List.length_reverse]; exact hz, _, r.reverse, ⟨_, Heap.get?_push_size _ rfl, rfl, _, rfl⟩⟩
/-! ### bool(t) -/
section
variable {prog : Program} {w : World} {A : Around} {E : Value → Shared → Prop} {s : Shared}
theorem bool_tup {t : Addr} {items : Array Value} {Q : Value → Shared → Prop} (hfit : (items.size : Int) < 2 ^ 63) (ht : IsTup s.heap t items) (h : ∀ tk, Q (.bool (!items.isEmpty)) { s with toks := tk }) : wpAny (model prog w) A (call (.type "bool") [.ref t]) Q E s := by
  refine callType_codes (T := "bool") (Bi := Builtin.«object.__init__») (Q₁ := fun r s' => ∃ b, r = .bool b ∧ Q r s') PySem.F.called_bool (PySem.F.typeCall_bool_1 _) PySem.F.entry_object_init ?_ ?_
  · refine codeAny_of_tree ?_
    show wpAny _ A.in1.in1 (do checkBuiltinCall "bool.__new__" ⟨[.type "bool", .ref t], []⟩; again (.builtin "bool.__new__" ⟨[.type "bool", .ref t], []⟩)) _ _ s
    refine wpAny_bind (wpAny_of_eq (PySem.F.newCall_bool_1 _) (wpAny_pure ⟨plainId_quiet (by decide +kernel) _, codeAny_builtin PySem.F.entry_bool_new ?_⟩))
    rw [Around.under_plainId (by decide +kernel) _]
    unfold Builtin.«bool.__new__»
    have f1 := PySem.F.conv_sub_bool
    have go : wpAny (model prog w) A.in1.in1 (truthy (.ref t)) (fun b s' => Q (.bool b) s') E s := truthy_tuple ht hfit (h _)
    refine wpAny_bind (m := isType (.type "bool")) (wpAny_pure ?_)
    refine wpAny_bind (m := isSubtype (.type "bool") (.type "bool")) (wpAny_of_eq f1 ?_)
    refine wpAny_bind (wpAny_pure ?_)
    refine wpAny_bind (m := truthy (.ref t)) (wpAny_mono go (fun b s' hq => ?_) fun _ _ y => y)
    exact wpAny_pure ⟨b, rfl, hq⟩
  · rintro obj s' ⟨b, rfl, hq⟩
    exact ⟨PySem.typeIs_bool _ _, PySem.F.args_object_init_2 _ _, object_init_meets PySem.F.called_bool.init.lookup PySem.F.called_bool.made (by decide) prog w A.in1 _ s' ⟨PySem.typeIs_bool _ _, rfl, hq⟩⟩
end
theorem call_boolT {X : Cx} : CallR X (.type "bool") (fun xs H Q => ∃ (a : Addr) (zs : List V), xs = [.ref a] ∧ SqT X.K H a zs ∧ Q (.bl (!zs.isEmpty)) H) := by
  intro pins s σ H xs us Q I r h
  obtain ⟨a, zs, rfl, hq, q⟩ := h
  obtain rfl := Vals.ref1 r
  obtain ⟨its, rv, pl, hz⟩ := I.tuple hq
  have hl := line63
  have hlen := rv.length
  refine bool_tup (by simp only [List.size_toArray]; omega) pl fun tk => ?_
  exact ⟨.bl (!zs.isEmpty), H, I.tok _, by rw [isEmpty_of rv]; rfl, q⟩
/-! ### a class whose __init__ takes a star -/
structure MakeR (P : Program) (w : World) (K : PySem.W.Frag) (mg : Str → Option Value) (base : Heap) (CX : CXT) (k : Nat) (x : Str) (C : Addr) (sp : Sp) : Prop where
  ex : ∃ f, Mk K C f ∧ FnR P w K mg base CX k f sp ∧ mg x = some (.ref C)
section
variable {X : Cx} {CX : CXT} {k : Nat} {C : Addr} {sp : Sp} {E : XK} {x : Str} {e : Expr} {es : List Expr} {te : TE} {t : TA} {p sp_ pos : Pos}
theorem pe_mkR (M : MakeR X.prog X.w X.K X.mg X.base CX k x C sp) (hr : Room (k + 1) X.A) (hg : Gl X x) (hx : Passes CX X E) (ha : PA X (e :: es) t) (hdb : (x == ("__debug__" : Str)) = false := by decide)
    (he : starEach (e :: es) X.env = (false, eval e X.env) :: starEach es X.env := by rfl) (hpl : (backTo pos (starEach es X.env)).any (·.1) = false := by rfl) : PE X (.Call (.Name x p) (e :: es) [] pos) (StX.tMakeR C sp E t) := by
  obtain ⟨f, mk, F, hm⟩ := M.ex
  exact StX.pe_makeR mk F hr hg hm hx ha hdb he hpl
/-- C() -/
theorem pe_mkR0 (M : MakeR X.prog X.w X.K X.mg X.base CX k x C sp) (hr : Room (k + 1) X.A) (hg : Gl X x) (hx : Passes CX X E) (hdb : (x == ("__debug__" : Str)) = false := by decide) : PE X (.Call (.Name x p) [] [] pos) (StX.tMakeR C sp E tNil) := by
  obtain ⟨f, mk, F, hm⟩ := M.ex
  refine ⟨fun pins s σ H Q I h => ?_⟩
  refine wpAny_Call_Name_kw (ld_glob I hg hm ?_ hdb)
  refine PySem.W.callWith_K0 (first := []) I.kIn mk.kp ?_
  exact StX.run_makeR mk F hr hx I .nil h
/-- C(*e) -/
def tMakeS (K : PySem.W.Frag) (C : Addr) (sp : Sp) (E : XK) (te : TE) : TE := fun σ H Q => te σ H fun y H1 => ∃ a xs, y = V.ref a ∧ (SqT K H1 a xs ∨ SqL K H1 a xs) ∧ ∀ x dx, H1 x = none → H1 dx = none → dx ≠ x →
  sp (V.ref x :: xs) (upd (upd H1 dx (.own x)) x (.ins C dx [])) (fun v H2 => v = .non ∧ Q (.ref x) H2) E
theorem pe_mkS (M : MakeR X.prog X.w X.K X.mg X.base CX k x C sp) (hr : Room (k + 1) X.A) (hg : Gl X x) (hx : Passes CX X E) (he : PE X e te) (hdb : (x == ("__debug__" : Str)) = false := by decide)
    (hst : starEach [.Starred e sp_] X.env = [(true, eval e X.env)] := by rfl) : PE X (.Call (.Name x p) [.Starred e sp_] [] pos) (tMakeS X.K C sp E te) := by
  obtain ⟨f, mk, F, hm⟩ := M.ex
  refine ⟨fun pins s σ H Q I h => ?_⟩
  refine wpAny_Call_Name_kw (ld_glob I hg hm ?_ hdb)
  refine PySem.W.callWith_S (h₀ := X.base) I.ok.mod.kin mk.kp (thn (he.run pins s σ H _ I h) fun v t1 ⟨y, H1, I1, ry, a, xs, ey, hxs, q⟩ => ?_) hst
  subst ey
  obtain rfl : v = Value.ref a := ry
  exact StX.star_any I1 hxs fun us t2 I2 rv => ⟨I2.kIn, StX.run_makeR mk F hr hx I2 rv q⟩
end
/-! ### classmethods -/
theorem fnR_of {P : Program} {w : World} {K : PySem.W.Frag} {mg : Str → Option Value} {base : Heap} {CX : CXT} {k : Nat} {f : Addr} {fd : FuncData} {ps : List Str} {sp : Sp} (F : FnOk P w K mg base CX k f fd ps sp) (b : L2.Binds K fd ps []) : FnR P w K mg base CX k f sp := by
  intro A outer s H us vs Q E hr e0 r hsp
  have hl : (us ++ []).length = ps.length := by
    rw [List.append_nil, ← r.length]
    exact F.len _ _ _ _ hsp
  have hb := b s us (e0.mod.kin.keeps fun b o e => (e0.bs b o e).1) hl
  rw [List.append_nil] at hb
  exact F.run A outer s H ⟨us, []⟩ us vs Q E hr e0 hb r hsp
structure ClsAt (P : Program) (w : World) (K : PySem.W.Frag) (mg : Str → Option Value) (base : Heap) (CX : CXT) (k : Nat) (C : Addr) (m : Str) (sp : Sp) : Prop where
  ex : ∃ mc p g, ClX.CRead K C mc ∧ ClX.CMet K C mc m p g ∧ FnR P w K mg base CX k g sp
theorem pe_cm {X : Cx} {CX : CXT} {k : Nat} {C : Addr} {sp : Sp} {E : XK} {o e : Expr} {es : List Expr} {m : Str} {pos apos : Pos} {ta : TE} {t : TA} {pl : Sem Bool} (M : ClsAt X.prog X.w X.K X.mg X.base CX k C m sp) (hr : Room k X.A) (hx : Passes CX X E) (he : PE X o ta) (ha : PA X (e :: es) t)
    (hst : starEach (e :: es) X.env = (false, eval e X.env) :: starEach es X.env := by rfl) (hpl : (backTo pos (starEach es X.env)).any (·.1) = false := by rfl)
    (ht : eval (.Call (.Attribute o m apos) (e :: es) [] pos) X.env = (do
      let ov ← eval o X.env
      standAt apos.atName
      let (f, first) ← holding [ov] (getMethod ov m pl)
      callWith pos f first (backTo pos (starEach (e :: es) X.env)) (backToKw pos (keywordEach [] X.env))) := by rfl) :
    PE X (.Call (.Attribute o m apos) (e :: es) [] pos) (ClX.tCMeth C sp E ta t) := by
  obtain ⟨mc, p, g, r, c, F⟩ := M.ex
  exact ClX.pe_cmeth he r c F hr hx ha hst hpl ht
/-! ### x[k] by an own __getitem__ -/
structure GetAt (P : Program) (w : World) (K : PySem.W.Frag) (mg : Str → Option Value) (base : Heap) (CX : CXT) (k : Nat) (C : Addr) (ps : List Str) (sp : Sp) : Prop where
  ex : ∃ f fd, PySem.W.findIn K (.ref C) "__getitem__" = some (some (.ref f)) ∧ PySem.W.isFn K (.ref f) = true ∧ PySem.W.fnIn K f = true ∧ FnOk P w K mg base CX k f fd ps sp ∧ L2.Binds K fd ps []
def tGet (C : Addr) (sp : Sp) (E : XK) (ta tb : TE) : TE := fun σ H Q => ta σ H fun x H1 => tb σ H1 fun y H2 => ∃ a dx fs, x = .ref a ∧ H2 a = some (.ins C dx fs) ∧ sp [x, y] H2 Q E
theorem pe_get {X : Cx} {CX : CXT} {k : Nat} {C : Addr} {ps : List Str} {sp : Sp} {E : XK} {a b : Expr} {ta tb : TE} {pos : Pos} (M : GetAt X.prog X.w X.K X.mg X.base CX k C ps sp) (hr : Room (k + 1) X.A) (hx : Passes CX X E) (ha : PE X a ta) (hb : PE X b tb)
    (hsl : ∀ (x : Addr) (i : Value), subscripted b true (.ref x) i = runValue (.builtin "lifetime.subscript" ⟨[.ref x, i], []⟩) := by intro _ _; with_unfolding_all rfl) : PE X (.Subscript a b pos) (tGet C sp E ta tb) := by
  obtain ⟨f, fd, hs, hf, hfn, F, hbd⟩ := M.ex
  refine ⟨fun pins s σ H Q I h => ?_⟩
  refine Subscript_ (binT ha hb I h fun v u s2 x y H2 I2 rx ry q => ?_)
  obtain ⟨p, dx, fs, rfl, hp, hsp⟩ := q
  obtain rfl : v = Value.ref p := rx
  obtain ⟨ox, od, J, _⟩ := ins_plain I2 hp
  obtain ⟨m', hF⟩ := I2.fr
  have U : Und X k X.A.in1 := (Und.here hr).in1
  exact PySem.W.sub_K hF I2.ok.mod.kin J hs hfn hf (run_at (vs := [.ref p, y]) F hbd hx U I2 (.cons rfl (.cons ry .nil)) hsp) (hsl _ _)
end My
/-! A class made by a star, a classmethod, an own __getitem__, from what the top finds. -/
namespace My
open PySem PySem.Spec PyProof.Rows L2
theorem nm_at : Sup.Nm "at" := ⟨by decide, by decide, by decide, by decide, fun _ _ _ _ _ _ _ _ _ _ _ _ => rfl⟩
theorem nm_value : Sup.Nm "value" := ⟨by decide, by decide, by decide, by decide, fun _ _ _ _ _ _ _ _ _ _ _ _ => rfl⟩
structure HasCM (K : PySem.W.Frag) (C : Addr) (m qual : Str) (st : Stmt) : Prop where
  ex : ∃ mc p g fd, ClX.CRead K C mc ∧ ClX.CMet K C mc m p g ∧ Fun K m qual st g fd
section
variable {P : Program} {w : World} {K : PySem.W.Frag} {mg : Str → Option Value} {base : Heap} {CX : CXT} {k : Nat} {x m qual : Str} {st : Stmt} {ps ks : List Str} {sp : Sp} {C : Addr}
theorem makeR_at (A : HasM K C "__init__" qual st) (hx : mg x = some (.ref C)) (mk : PySem.W.makesIn K C = true) (kp : PySem.W.keepIn K (.ref C) = true)
    (ok : ∀ (f : Addr) (oc : Value) (od : Option Addr) (kV doc pm : Value) (an : Option Addr) (cdv ct : Value) (osl : Array (Option Value)), K.lookup f = some ⟨oc, od, .func (PySem.W.fnOf "__init__" qual (defArgs st) (defBody st) (defScope st) .none kV doc pm an cdv ct), osl⟩ → PySem.W.codeIn K cdv qual = true → FnR P w K mg base CX k f sp) : MakeR P w K mg base CX k x C sp := by
  obtain ⟨f, fd, h1, h2, F⟩ := A.ex
  obtain ⟨oc, od, kV, doc, pm, an, cdv, ct, osl, rfl, lk, hcd⟩ := F.ex
  exact ⟨f, ⟨mk, h1, h2, kp⟩, ok f _ _ _ _ _ _ _ _ _ lk hcd, hx⟩
theorem cls_at (A : HasCM K C m qual st) (ok : ∀ f fd, Fun K m qual st f fd → FnOk P w K mg base CX k f fd ps sp) (b : BindW m qual st ps) : ClsAt P w K mg base CX k C m sp := by
  obtain ⟨mc, p, g, fd, h1, h2, F⟩ := A.ex
  exact ⟨mc, p, g, h1, h2, fnR_of (ok g fd F) (F.binds b)⟩
theorem get_at (A : HasM K C "__getitem__" qual st) (ok : ∀ f fd, Fun K "__getitem__" qual st f fd → FnOk P w K mg base CX k f fd ps sp) (b : BindW "__getitem__" qual st ps) : GetAt P w K mg base CX k C ps sp := by
  obtain ⟨f, fd, h1, h2, F⟩ := A.ex
  have F' := F
  obtain ⟨oc, od, kV, doc, pm, an, cdv, ct, osl, rfl, lk, _⟩ := id F.ex
  refine ⟨f, _, h1, h2, ?_, ok f _ F', F'.binds b⟩
  unfold PySem.W.fnIn
  rw [lk]
end
end My
/-! try with several except clauses, some of them «as n». -/
namespace My
open PySem PySem.Spec PyProof.Rows L2
/-- one clause: its class, what its suite is read as, the slot of its name -/
structure Cls1 where
  c : Value
  i : Option Nat
  ts : Addr → Value → Option Addr → TS
def behind (i : Option Nat) (D : Ends) : Ends := match i with
  | none => D
  | some i => { nx := fun σ H => D.nx (σ.set i none) H, rt := D.rt, bk := fun σ H => D.bk (σ.set i none) H, ct := fun σ H => D.ct (σ.set i none) H }
def within (i : Option Nat) (a : Addr) (σ : L2.St) : L2.St := match i with
  | none => σ
  | some i => σ.set i (some (.ref a))
/-- what the clauses wish of an error of the body -/
def wMix (K : PySem.W.Frag) (n : Nat) (Wout : WX) (D : Ends) : List Cls1 → WX
  | [] => Wout
  | q :: r => fun cls d σ H => ∃ b, PySem.W.exmOne K cls q.c = some b ∧ (b = true → ∀ a, H a = none → σ.length = n → q.ts a cls d (behind q.i D) (within q.i a σ) H) ∧ (b = false → wMix K n Wout D r cls d σ H)
inductive Mixed (X : Cx) : List ExceptHandler → List Cls1 → Prop
  | nil : Mixed X [] []
  | bare {x : Str} {c : Value} {ts : Addr → Value → Option Addr → TS} {st : Stmt} {suite : List Stmt} {np pos : Pos} {hds : List ExceptHandler} {l : List Cls1} (hc : Names X x c)
      (hsu : ∀ (a : Addr) (oe : Obj) (cls : Value) (d : Option Addr) (pn : List (Addr × Obj)), Zc cls d oe → (∃ vs, oe.data = .fields vs) → PSs (X.suite a ((a, oe) :: pn)) (st :: suite) (ts a cls d)) (r : Mixed X hds l) :
      Mixed X (.ExceptHandler (some (.Name x np)) none (st :: suite) pos :: hds) (⟨c, none, ts⟩ :: l)
  | named {x n : Str} {c : Value} {i : Nat} {ts : Addr → Value → Option Addr → TS} {st : Stmt} {suite : List Stmt} {np pos : Pos} {hds : List ExceptHandler} {l : List Cls1} (hc : Names X x c) (hi : X.N[i]? = some n) (hl : X.env.kindOf n = some .local)
      (hsu : ∀ (a : Addr) (oe : Obj) (cls : Value) (d : Option Addr) (pn : List (Addr × Obj)), Zc cls d oe → (∃ vs, oe.data = .fields vs) → PSs (X.suite a ((a, oe) :: pn)) (st :: suite) (ts a cls d)) (r : Mixed X hds l) :
      Mixed X (.ExceptHandler (some (.Name x np)) (some n) (st :: suite) pos :: hds) (⟨c, some i, ts⟩ :: l)
section
variable {X : Cx} {body : List Stmt} {hd1 : ExceptHandler} {hds : List ExceptHandler} {l : List Cls1} {pos : Pos} {tb : WX → TS} {Wout : WX}
theorem ps_try_mix (hs : X.stack = X.env :: X.outer) (hf : X.env.frame = some X.env.locals) (hN : X.N.Nodup) (tk : Takes X Wout)
    (hb : ∀ (W : WX) (pn : List (Addr × Obj)) (xe : Value → Shared → Prop), Takes (X.tr pn xe) W → PassesOwn (model X.prog X.w) X.A X.env xe → PSs (X.tr pn xe) body (tb W)) (hh : Mixed X (hd1 :: hds) l) :
    PS X (.Try body (hd1 :: hds) [] [] pos) (fun D σ H => tb (wMix X.K X.N.length Wout D l) D σ H) := by
  refine ⟨fun pins s σ H D I h => ?_⟩
  have ok := I.ok
  have hfr : X.A.frames = some (X.env :: X.outer) := by rw [ok.frames, hs]
  refine wpAny_Try_except ?_
  refine wpAny_mono ((hb (wMix X.K X.N.length Wout D l) (X.pn ++ pins) (fun e t1 => wpAny (model X.prog X.w) X.A (noteFrame e X.env) (fun _ t2 => wpAny (model X.prog X.w) X.A (setFlight e none) (fun _ t3 =>
    wpAny (model X.prog X.w) X.A (handleBy e X.env (hd1 :: hds)) (SP X pins D) X.xe t3) X.xe t2) X.xe t1) (fun u s' xx => ?_) PassesOwn.looking).run [] s σ H D (I.toTry _) h) (fun fl t1 hsp => ?_) (fun _ _ he => he)
  · obtain ⟨a, B, sI, pins', σ1, H1, cls, d, rfl, J0, nb, up, sky, na, os, ag, wish⟩ := xx
    have J : Inv X pins σ1 H1 sI := J0.ofTry ok
    have sky1 : Sky B (X.env :: X.outer) a (Zc cls d) X.env.locals s'.heap := by rw [← hs]; exact sky
    show wpAny (model X.prog X.w) X.A (noteFrame (.ref a) X.env) _ _ _
    refine Sky.land Zc.steady hfr hf sky1 fun h3 fl3 up3 => ?_
    have J3 : Inv X pins σ1 H1 { s' with heap := h3 } := J.landed nb fl3.1 (up.trans up3) os ag
    obtain ⟨oe3, vs3, he3, hz3, hd3⟩ := fl3.there
    have nfr : a ∉ frs (X.env :: X.outer) := fun hm => by
      obtain ⟨_, o', e', hnf⟩ := fl3.2.2.1.mem hm
      rw [he3] at e'
      cases e'
      exact hnf _ hd3
    have nL : a ≠ X.env.locals := fun z => nfr (List.mem_filterMap.mpr ⟨X.env, List.mem_cons_self, by rw [hf, z]⟩)
    have nF : a ∉ X.fs := fun hm => by
      obtain ⟨e1, he1, q1⟩ := List.mem_filterMap.mp hm
      exact nfr (List.mem_filterMap.mpr ⟨e1, List.mem_cons_of_mem _ he1, q1⟩)
    have S3 := J3.suite he3 hd3 na nL nF
    have LT : PySem.W.Looks (model X.prog X.w) h3 (typeOf (.ref a)) cls := fun A Q E s k q => wpAny_typeOf_ref (k _ _ he3) (by rw [hz3.1]; exact q)
    have test : ∀ {x : Str} {c : Value} {np : Pos} {Q : Value → Shared → Prop} {E : Value → Shared → Prop}, Names X x c → Q c { s' with heap := h3 } → wpAny (model X.prog X.w) (X.A.mark (some (.ref a))) (eval (.Name x np) X.env) Q E { s' with heap := h3 } := fun {x c np Q E} hc q => by
      obtain ⟨hg, hdbg, hm | ⟨hm, hv, hnn⟩⟩ := hc
      · exact ld_glob (X := X.suite a ((a, oe3) :: (X.pn ++ pins))) S3 hg hm q hdbg
      · exact ld_blt (X := X.suite a ((a, oe3) :: (X.pn ++ pins))) S3 hg hm hv q hnn hdbg
    have all : ∀ {hs' : List ExceptHandler} {l' : List Cls1}, Mixed X hs' l' → wMix X.K X.N.length Wout D l' cls d σ1 H1 → wpAny (model X.prog X.w) X.A (handleBy (.ref a) X.env hs') (SP X pins D) X.xe { s' with heap := h3 } := by
      intro hs' l' M
      induction M with
      | nil =>
        intro wq
        refine wpAny_handleBy_nil ?_
        obtain ⟨w1, w2, w3, oe, vs, T, oT, ts', he, hz, hdd, h1, hr⟩ := id fl3
        unfold PySem.passOn
        refine wpAny_bind (wpAny_field he hdd h1 ?_)
        rw [if_neg (show ¬ ((Value.ref T == Value.none) = true) from by simp)]
        have fin : wpAny (model X.prog X.w) X.A (setFlight (.ref a) X.env.frame) (fun _ t4 => wpAny (model X.prog X.w) X.A (throw (.ref a) : Sem Flow) (SP X pins D) X.xe t4) X.xe { s' with heap := h3 } := by
          rw [hf]
          refine HandSPX.setFlight_upZ fl3 fun h4 hh4 up4 => wpAny_throw (tk _ _ ?_)
          exact ⟨a, B, sI, pins, σ1, H1, cls, d, rfl, J, nb, (up.trans up3).trans up4, .inr (.inr (by rw [hs]; exact hh4)), na, os, ag, wq⟩
        first
          | exact wpAny_bind (wpAny_pure (wpAny_bind fin))
          | exact wpAny_bind fin
      | @bare x c ts st suite np pos' hds2 l2 hc hsu r ih =>
        rintro ⟨b, hb1, hyes, hno⟩
        refine wpAny_handleBy_cons (codeAny_handlers_test ?_) (by intro q; cases q)
        refine test hc ((PySem.W.exm_one (M := model X.prog X.w) (J3.kIn) LT hb1).here ?_)
        cases b with
        | true =>
          refine codeAny_handlers_suite (HandSPX.lands_againZ fl3 fun h4 fl4 up4 => ?_)
          have J4 : Inv X pins σ1 H1 { s' with heap := h4 } := J.landed nb fl4.1 ((up.trans up3).trans up4) os ag
          obtain ⟨oe4, vs4, he4, hz4, hd4⟩ := fl4.there
          have S4 := J4.suite he4 hd4 na nL nF
          refine wpAny_mono ((hsu a oe4 cls d (X.pn ++ pins) hz4 ⟨_, hd4⟩).run [] _ _ H1 _ S4 (hyes rfl a na J.len)) (fun fl t6 hsp => ?_) (fun _ _ z => False.elim z)
          cases fl with
          | next => obtain ⟨σ6, H6, S6, q6⟩ := hsp; exact ⟨_, _, S6.unsuite ok, q6⟩
          | brk => obtain ⟨σ6, H6, S6, q6⟩ := hsp; exact ⟨_, _, S6.unsuite ok, q6⟩
          | cont => obtain ⟨σ6, H6, S6, q6⟩ := hsp; exact ⟨_, _, S6.unsuite ok, q6⟩
          | ret u => obtain ⟨v6, σ6, H6, S6, r6, q6⟩ := hsp; exact ⟨_, _, _, S6.unsuite ok, r6, q6⟩
        | false =>
          show wpAny _ X.A (handleBy (.ref a) X.env hds2) _ _ _
          exact ih (hno rfl)
      | @named x n c i ts st suite np pos' hds2 l2 hc hi hln hsu r ih =>
        rintro ⟨b, hb1, hyes, hno⟩
        refine wpAny_handleBy_cons (codeAny_handlers_test ?_) (by intro q; cases q)
        refine test hc ((PySem.W.exm_one (M := model X.prog X.w) (J3.kIn) LT hb1).here ?_)
        cases b with
        | true =>
          refine codeAny_handlers_suite_as (HandSPX.lands_againZ fl3 fun h4 fl4 up4 => ?_)
          have J4 : Inv X pins σ1 H1 { s' with heap := h4 } := J.landed nb fl4.1 ((up.trans up3).trans up4) os ag
          obtain ⟨oe4, vs4, he4, hz4, hd4⟩ := fl4.there
          have S4 := J4.suite he4 hd4 na nL nF
          refine store_ok (X := X.suite a ((a, oe4) :: (X.pn ++ pins))) (v := .ref a) S4 hN hi (.inl hln) rfl (fun s5 S5 => ?_) (.inr hln)
          refine wpAny_mono ((hsu a oe4 cls d (X.pn ++ pins) hz4 ⟨_, hd4⟩).run [] s5 _ H1 _ S5 (hyes rfl a na J.len)) (fun fl t6 hsp => ?_) (fun _ _ z => False.elim z)
          have off : ∀ {σ6 : L2.St} {H6 : Hp} {Q : Shared → Prop}, Inv (X.suite a ((a, oe4) :: (X.pn ++ pins))) [] σ6 H6 t6 → (∀ t7, Inv X pins (σ6.set i none) H6 t7 → Q t7) →
              wpAny (model X.prog X.w) X.A (do bindName X.env n .none; unbindBehindTheSuite X.env n pos') (fun _ t7 => Q t7) X.xe t6 := fun {σ6 H6 Q} S6 hq => gone_ok (S6.unsuite ok) hN hi hln hq
          cases fl with
          | next => obtain ⟨σ6, H6, S6, q6⟩ := hsp; exact off S6 fun t7 J7 => ⟨_, _, J7, q6⟩
          | brk => obtain ⟨σ6, H6, S6, q6⟩ := hsp; exact off S6 fun t7 J7 => ⟨_, _, J7, q6⟩
          | cont => obtain ⟨σ6, H6, S6, q6⟩ := hsp; exact off S6 fun t7 J7 => ⟨_, _, J7, q6⟩
          | ret u => obtain ⟨v6, σ6, H6, S6, r6, q6⟩ := hsp; exact off S6 fun t7 J7 => ⟨_, _, _, J7, r6, q6⟩
        | false =>
          show wpAny _ X.A (handleBy (.ref a) X.env hds2) _ _ _
          exact ih (hno rfl)
    exact all hh wish
  · cases fl with
    | next => obtain ⟨σ', H', J', q⟩ := hsp; exact wpAny_execs_nil ⟨σ', H', J'.ofTry ok, q⟩
    | brk => obtain ⟨σ', H', J', q⟩ := hsp; exact ⟨σ', H', J'.ofTry ok, q⟩
    | cont => obtain ⟨σ', H', J', q⟩ := hsp; exact ⟨σ', H', J'.ofTry ok, q⟩
    | ret u => obtain ⟨v, σ', H', J', r, q⟩ := hsp; exact ⟨v, σ', H', J'.ofTry ok, r, q⟩
end
end My
namespace My
open PySem PySem.Spec PyProof.Rows L2
def topS (i : Nat) : Stmt := PySem.Challenge.pw_clipfades_k09_polys_read.main.body.getD i (.Pass ⟨0, 0, 0, 0⟩)
abbrev s_pen : Stmt := topS 28
abbrev s_draw : Stmt := topS 29
abbrev s_pick : Stmt := topS 30
theorem sc_pen : FnScope ["_law_script"] ["_law_script"] (defScope s_pen) := ⟨rfl, rfl, rfl, by decide +kernel, rfl, by decide +kernel, by decide +kernel⟩
theorem sc_draw : FnScope ["_law_pen_here", "_law_many", "_law_digit", "_law_begun", "_law_cell", "_law_great", "_law_mixed"] ["_law_pen_here", "_law_many"] (defScope s_draw) := ⟨rfl, rfl, rfl, by decide +kernel, rfl, by decide +kernel, by decide +kernel⟩
theorem sc_pick : FnScope ["_law_pen_here", "_law_some"] ["_law_pen_here", "_law_some"] (defScope s_pick) := ⟨rfl, rfl, rfl, by decide +kernel, rfl, by decide +kernel, by decide +kernel⟩
/-- the pen, its cells at cl -/
def PenC (H : Hp) (pn cl : Addr) (n : Nat) : Prop := ∃ (ns : List Int) (at_ rest : Int), H pn = some (.lst [.ref cl, .int at_, .int rest]) ∧ H cl = some (.lst (ns.map V.int)) ∧ ns.length ≤ 63 ∧ 0 ≤ at_ ∧ at_ ≤ n
theorem PenC.pen {H : Hp} {pn cl : Addr} {n : Nat} (h : PenC H pn cl n) : PenAt H pn n := by
  obtain ⟨ns, a, r, h⟩ := h
  exact ⟨cl, ns, a, r, h⟩
theorem PenAt.cells {H : Hp} {pn : Addr} {n : Nat} (h : PenAt H pn n) : ∃ cl, PenC H pn cl n := by
  obtain ⟨cl, ns, a, r, h⟩ := h
  exact ⟨cl, ns, a, r, h⟩
theorem PenC.put {H : Hp} {pn cl p : Addr} {n : Nat} {o : HO} (h : PenC H pn cl n) (h1 : pn ≠ p) (h2 : cl ≠ p) : PenC (upd H p o) pn cl n := by
  obtain ⟨ns, a, r, e1, e2, h3⟩ := h
  exact ⟨ns, a, r, by rw [upd_ne h1]; exact e1, by rw [upd_ne h2]; exact e2, h3⟩
theorem PenC.same {H H' : Hp} {pn cl : Addr} {n : Nat} (h : PenC H pn cl n) (s : Same H H') : PenC H' pn cl n := by
  obtain ⟨ns, a, r, e1, e2, h3⟩ := h
  exact ⟨ns, a, r, s _ _ e1, s _ _ e2, h3⟩
def spDrawC : Sp := fun vs H Q _ => ∃ (pn cl : Addr) (m : Int) (n : Nat), vs = [.ref pn, .int m] ∧ 0 < m ∧ m.natAbs.log2 < 9000 ∧ PenC H pn cl n ∧ n < 100000 ∧
  ∀ (d : Int) (H' : Hp), 0 ≤ d → d < m → PenC H' pn cl (n + 1) → But pn H H' → Q (.int d) H'
section
variable {P : Program} {w : World} {K : PySem.W.Frag} {mg : Str → Option Value} {base : Heap}
theorem ok_pen {f : Addr} {fd : FuncData} (F : Fun K "_law_pen" "_law_pen" s_pen f fd) (T : BI mg) : FnOk P w K mg base CX0 1 f fd ["_law_script"] (spPen K) := by
  refine F.ok sc_pen (fun vs H Q E h => ?_) (fun cdv A outer s H vs Q E hr h => ?_)
  · obtain ⟨a, ns, rfl, _⟩ := h
    rfl
  · obtain ⟨a, ns, rfl, hS, k⟩ := h
    refine ⟨_, (pss_one (ps_ret (pe_lst (pa_cons (pe_callTy call_list_of (by rfl) T.z_list boot_list (pa_cons (pe_slice sl_list (pv 0) po_none (po_some pe_int)) pa_nil)) (pa_cons pe_int (pa_cons pe_int pa_nil)))))), ?_⟩
    refine ⟨_, rfl, 63, rfl, a, _, rfl, hS, fun p hp => ?_⟩
    refine ⟨p, _, rfl, .inl (SqL.of upd_same), fun l hl => ?_⟩
    refine ⟨(by show 3 ≤ sizeLine; decide), fun pn hpn => ?_⟩
    have npl : p ≠ l := ne_of_none upd_same hl
    have hlp : l ≠ pn := ne_of_none upd_same hpn
    have e1 : cutV (ns.map V.int) none (some 63) = (ns.take 63).map V.int := cut_ints ns 63
    have s0 : Same H (upd (upd (upd H p (.lst (cutV (ns.map V.int) none (some 63)))) l (.lst (cutV (ns.map V.int) none (some 63)))) pn (.lst [.ref l, .int 0, .int 0])) := fun b o z => by
      have z1 : (upd H p (.lst (cutV (ns.map V.int) none (some 63)))) b = some o := by rw [upd_ne (ne_of_none z hp)]; exact z
      have z2 : (upd (upd H p (.lst (cutV (ns.map V.int) none (some 63)))) l (.lst (cutV (ns.map V.int) none (some 63)))) b = some o := by rw [upd_ne (ne_of_none z1 hl)]; exact z1
      rw [upd_ne (ne_of_none z2 hpn)]
      exact z2
    have n1 : H pn = none := by
      cases z : H pn with
      | none => rfl
      | some o =>
        rw [upd_ne (Ne.symm hlp)] at hpn
        by_cases y : pn = p
        · rw [y, hp] at z
          cases z
        · rw [upd_ne y, z] at hpn
          cases hpn
    refine k pn _ n1 ⟨l, ns.take 63, 0, 0, upd_same, ?_, ?_, Int.le_refl _, Int.le_refl _⟩ s0
    · rw [upd_ne hlp, upd_same, e1]
    · rw [List.length_take]
      omega
theorem ok_drawC {f : Addr} {fd : FuncData} (F : Fun K "_law_draw" "_law_draw" s_draw f fd) (T : BI mg) : FnOk P w K mg base CX0 1 f fd ["_law_pen_here", "_law_many"] spDrawC := by
  refine F.ok sc_draw (fun vs H Q E h => ?_) (fun cdv A outer s H vs Q E hr h => ?_)
  · obtain ⟨pn, cl, m, n, rfl, _⟩ := h
    rfl
  · obtain ⟨pn, cl, m, n, rfl, hm, hml, ⟨ns, at_, rest, h1, h2, h3, h4, h5⟩, hn, k⟩ := h
    refine ⟨_, (pss_cons (ps_if (pt_cmpR op_gt (pe_ix ix_list (pv 0) pe_int (fun _ _ => rfl)) pe_int (nomark _)) (pss_cons (ps_set (i := 2) sc_draw.nd rfl (Or.inl rfl) (pe_op op_mod (pe_callTy call_int1 (by rfl) T.z_int boot_int (pa_cons (pe_ix ix_list (pv 0) pe_int (fun _ _ => rfl)) pa_nil)) (pv 1)))
      (pss_cons (ps_asg (pe_op op_fdivW (pe_ix ix_list (pv 0) pe_int (fun _ _ => rfl)) (pv 1)) (pg_sub (pv 0) pe_int set_list))
      (pss_one (ps_ret (pv 2))))) pss_nil)
      (pss_cons (ps_set (i := 3) sc_draw.nd rfl (Or.inl rfl) (pe_ix ix_list (pv 0) pe_int (fun _ _ => rfl)))
      (pss_cons (ps_asg (pe_op op_add (pv 3) pe_int) (pg_sub (pv 0) pe_int set_list))
      (pss_cons (ps_set (i := 4) sc_draw.nd rfl (Or.inl rfl) (pe_op op_add (pe_op op_mul pe_int (pv 3)) pe_int))
      (C8.pss_cut (ps_if (pt_cmpR (op_neD hr.units) (pe_ix ix_list (pv 0) pe_int (fun _ _ => rfl)) (pe_lst pa_nil) (nomark _)) (pss_one (ps_set (i := 4) sc_draw.nd rfl (Or.inl rfl) (pe_ix ix_list (pe_ix ix_list (pv 0) pe_int (fun _ _ => rfl)) (pe_op op_mod (pe_callTy call_int1 (by rfl) T.z_int boot_int (pa_cons (pv 3) pa_nil)) (pe_callB call_len (by rfl) T.z_len PySem.boot_len (pa_cons (pe_ix ix_list (pv 0) pe_int (fun _ _ => rfl)) pa_nil))) (fun _ _ => rfl)))) pss_nil)
      (C8.pss_cut (ps_if (PW.pt (pw_and (pt_cmpR op_lt (pv 3) (pe_callB call_len (by rfl) T.z_len PySem.boot_len (pa_cons (pe_ix ix_list (pv 0) pe_int (fun _ _ => rfl)) pa_nil)) (nomark _)) (pw_and1 (pt_cmpR op_ge (pe_callB call_abs (by rfl) T.z_abs boot_abs (pa_cons (pv 4) pa_nil)) (pe_op op_pow pe_int pe_int) (nomark _))))) (pss_cons (ps_set (i := 5) sc_draw.nd rfl (Or.inl rfl) (pe_op op_add (pe_op op_mul pe_int (pe_op op_sub (pe_callB call_abs (by rfl) T.z_abs boot_abs (pa_cons (pv 4) pa_nil)) (pe_op op_pow pe_int pe_int))) (pe_callTy call_int1 (by rfl) T.z_int boot_int (pa_cons (pe_cmpR op_lt (pv 4) pe_int (nomark _)) pa_nil))))
      (pss_cons (ps_asg (pe_op op_fdivW (pv 5) (pv 1)) (pg_sub (pv 0) pe_int set_list))
      (pss_one (ps_ret (pe_op op_mod (pe_callTy call_int1 (by rfl) T.z_int boot_int (pa_cons (pv 5) pa_nil)) (pv 1)))))) pss_nil)
      (pss_cons (ps_set (i := 6) sc_draw.nd rfl (Or.inl rfl) (pe_op op_mod (pe_callTy call_int1 (by rfl) T.z_int boot_int (pa_cons (pe_op op_pow (pe_op op_add (pe_op op_add (pe_op op_mod (pe_callTy call_int1 (by rfl) T.z_int boot_int (pa_cons (pv 4) pa_nil)) pe_int) (pe_op op_mul pe_int (pv 3))) pe_int) pe_int) pa_nil)) pe_int))
      (pss_cons (ps_set (i := 6) sc_draw.nd rfl (Or.inl rfl) (pe_op op_mod (pe_callTy call_int1 (by rfl) T.z_int boot_int (pa_cons (pe_op op_pow (pe_op op_add (pe_op op_add (pe_op op_mul (pv 6) (pe_op op_add (pe_op op_mul pe_int (pv 3)) pe_int)) (pe_op op_mul (pe_op op_mul pe_int (pv 3)) (pv 3))) pe_int) pe_int) pa_nil)) pe_int))
      (pss_one (ps_ret (pe_op op_mod (pe_callTy call_int1 (by rfl) T.z_int boot_int (pa_cons (pe_op op_fdivW (pv 6) pe_int) pa_nil)) (pv 1)))))))))))), ?_⟩
    have i2 : atI [V.ref cl, V.int at_, V.int rest] 2 = some (V.int rest) := rfl
    have i1 : atI [V.ref cl, V.int at_, V.int rest] 1 = some (V.int at_) := rfl
    have i0 : atI [V.ref cl, V.int at_, V.int rest] 0 = some (V.ref cl) := rfl
    refine ⟨_, rfl, pn, _, _, _, rfl, rfl, SqL.of h1, i2, _, _, rfl, rfl, _, rfl, ?_⟩
    have npc : cl ≠ pn := ne_of h2 h1 (by
      intro z
      injection z with z
      cases ns with
      | nil => cases z
      | cons a l => cases z)
    refine ite2 (fun c => ?_) (fun c => ?_)
    · refine ⟨_, rfl, pn, _, _, _, rfl, rfl, SqL.of h1, i2, .inl ⟨rest, rfl, _, rfl, _, _, rfl, rfl, hm, ?_⟩⟩
      first
        | refine ⟨_, rfl, pn, _, _, _, rfl, rfl, SqL.of h1, i2, .inl ⟨rest, rfl, _, rfl, _, _, rfl, rfl, ⟨hm, hml⟩, _, rfl, pn, _, _, 2, rfl, rfl, h1, rfl, ?_⟩⟩
        | refine ⟨_, rfl, pn, _, _, _, rfl, rfl, SqL.of h1, i2, _, rfl, _, _, rfl, rfl, ⟨hm, hml⟩, _, rfl, pn, _, _, 2, rfl, rfl, h1, rfl, ?_⟩
      refine ⟨_, rfl, k _ _ (Int.emod_nonneg _ (by omega)) (Int.emod_lt_of_pos _ hm) ?_ But.put⟩
      exact ⟨ns, at_, rest / m, upd_same, by rw [upd_ne npc]; exact h2, h3, h4, by omega⟩
    · refine ⟨_, rfl, pn, _, _, _, rfl, rfl, SqL.of h1, i1, ?_⟩
      refine ⟨_, rfl, _, _, rfl, rfl, _, rfl, pn, _, _, 1, rfl, rfl, h1, rfl, ?_⟩
      refine ⟨_, rfl, _, _, rfl, rfl, .inl ⟨by decide, by decide⟩, _, _, rfl, rfl, ?_⟩
      have i0' : atI [V.ref cl, V.int (at_ + 1), V.int rest] 0 = some (V.ref cl) := rfl
      refine ⟨fun σ H2 => ∃ (cell : Int) (v5 v6 : Option V), σ = [some (.ref pn), some (.int m), none, some (.int at_), some (.int cell), v5, v6] ∧ H2 pn = some (.lst [.ref cl, .int (at_ + 1), .int rest]) ∧ H2 cl = some (.lst (ns.map V.int)) ∧ But pn H H2, ?_, ?_⟩
      · refine ⟨_, rfl, pn, _, _, _, rfl, rfl, SqL.of upd_same, i0', (by show 0 ≤ sizeLine; decide), fun l hl => ?_⟩
        have nlp : pn ≠ l := ne_of_none (upd_same (H := H) (a := pn)) hl
        have nlc : cl ≠ l := ne_of_none (by rw [upd_ne npc]; exact h2) hl
        have w1 : (upd (upd H pn (.lst [.ref cl, .int (at_ + 1), .int rest])) l (.lst [])) pn = some (.lst [.ref cl, .int (at_ + 1), .int rest]) := by rw [upd_ne nlp, upd_same]
        have w2 : (upd (upd H pn (.lst [.ref cl, .int (at_ + 1), .int rest])) l (.lst [])) cl = some (.lst (ns.map V.int)) := by rw [upd_ne nlc, upd_ne npc]; exact h2
        have wb : But pn H (upd (upd H pn (.lst [.ref cl, .int (at_ + 1), .int rest])) l (.lst [])) := But.put.trans (But.new hl)
        refine ⟨.list (ns.map PyData.int), .list [], .lst (SqL.of w2) (dp_ints ns), .lst (SqL.of upd_same) .nil, shaped_ints ns, rfl, _, rfl, ?_⟩
        cases ns with
        | nil =>
          refine iteF ?_
          exact ⟨_, _, _, rfl, w1, w2, wb⟩
        | cons z zs =>
          refine iteT ?_
          have hl0 : (0 : Int) < (((z :: zs).map V.int).length : Int) := by
            rw [List.length_map, List.length_cons]
            omega
          obtain ⟨v, hv⟩ : ∃ v, ((z :: zs))[(at_ % (((z :: zs).map V.int).length : Int)).toNat]? = some v := by
            have g := Int.emod_lt_of_pos at_ hl0
            have g0 := Int.emod_nonneg at_ (show (((z :: zs).map V.int).length : Int) ≠ 0 by omega)
            refine ⟨_, List.getElem?_eq_getElem ?_⟩
            rw [List.length_map] at g g0 ⊢
            omega
          refine ⟨_, rfl, pn, _, _, _, rfl, rfl, SqL.of w1, i0', _, rfl, .inl ⟨at_, rfl, _, rfl, pn, _, _, _, rfl, rfl, SqL.of w1, i0', _, _, rfl, .inl ⟨_, SqL.of w2, rfl⟩, _, _, rfl, rfl, hl0, cl, _, _, .int v, rfl, rfl, SqL.of w2, ?_, ?_⟩⟩
          · have g0 := Int.emod_nonneg at_ (show (((z :: zs).map V.int).length : Int) ≠ 0 by omega)
            refine at_of (j := (at_ % (((z :: zs).map V.int).length : Int)).toNat) (by omega) ?_
            rw [List.getElem?_map, hv]
            rfl
          · exact ⟨_, _, _, rfl, w1, w2, wb⟩
      · rintro σ H2 ⟨cell, v5, v6, rfl, g1, g2, hb⟩
        have pen2 : ∀ r : Int, PenC (upd H2 pn (.lst [.ref cl, .int (at_ + 1), .int r])) pn cl (n + 1) := fun r =>
          ⟨ns, at_ + 1, r, upd_same, by rw [upd_ne npc]; exact g2, h3, by omega, by omega⟩
        refine ⟨fun σ H3 => ∃ (v5 v6 : Option V), σ = [some (.ref pn), some (.int m), none, some (.int at_), some (.int cell), v5, v6] ∧ H3 = H2, ?_, ?_⟩
        · refine ⟨_, rfl, _, rfl, pn, _, _, _, rfl, rfl, SqL.of g1, i0', _, _, rfl, .inl ⟨_, SqL.of g2, rfl⟩, _, _, rfl, rfl, _, rfl, ?_⟩
          refine ite2 (fun c1 => ?_) (fun c1 => iteF ⟨_, _, rfl, rfl⟩)
          refine ⟨_, rfl, _, rfl, _, _, rfl, rfl, ⟨by decide, by decide, by decide⟩, _, _, rfl, rfl, _, rfl, ?_⟩
          refine ite2 (fun c2 => ?_) (fun c2 => ⟨_, _, rfl, rfl⟩)
          refine ⟨_, rfl, _, rfl, _, _, rfl, rfl, ⟨by decide, by decide, by decide⟩, _, _, rfl, rfl, _, _, rfl, rfl, .inl ⟨by decide, by decide⟩, _, rfl, _, _, rfl, rfl, .inr ⟨_, rfl, _, _, rfl, rfl, ?_⟩⟩
          first
            | refine ⟨_, rfl, .inl ⟨_, rfl, _, rfl, _, _, rfl, rfl, ⟨hm, hml⟩, _, rfl, pn, _, _, 2, rfl, rfl, g1, rfl, ?_⟩⟩
            | refine ⟨_, rfl, _, rfl, _, _, rfl, rfl, ⟨hm, hml⟩, _, rfl, pn, _, _, 2, rfl, rfl, g1, rfl, ?_⟩
          refine ⟨_, rfl, .inl ⟨_, rfl, _, rfl, _, _, rfl, rfl, hm, ?_⟩⟩
          exact k _ _ (Int.emod_nonneg _ (by omega)) (Int.emod_lt_of_pos _ hm) (pen2 _) (hb.trans But.put)
        · rintro σ H3 ⟨v5, v6, rfl, rfl⟩
          have ea : at_ < 100000 := by omega
          refine ⟨_, rfl, .inl ⟨_, rfl, _, _, rfl, rfl, (by show (0 : Int) < _; decide), _, rfl, _, _, rfl, rfl, .inl ⟨by decide, by decide⟩, _, _, rfl, rfl, _, _, rfl, rfl, _, _, rfl, rfl, ⟨by decide, by decide, ?_⟩, .inl ⟨_, rfl, _, _, rfl, rfl, (by show (0 : Int) < _; decide), ?_⟩⟩⟩
          · have e1 := Int.emod_nonneg cell (show (2147483563 : Int) ≠ 0 by decide)
            have e2 := Int.emod_lt_of_pos cell (show (0 : Int) < 2147483563 by decide)
            refine pow_lt (by omega) (by omega)
          have x0 := Int.emod_nonneg ((cell % 2147483563 + 39433 * at_ + 337) ^ Int.toNat 3) (show (2147483629 : Int) ≠ 0 by decide)
          have x1 := Int.emod_lt_of_pos ((cell % 2147483563 + 39433 * at_ + 337) ^ Int.toNat 3) (show (0 : Int) < 2147483629 by decide)
          refine ⟨_, rfl, _, rfl, _, _, rfl, rfl, .inl ⟨by decide, by decide⟩, _, _, rfl, rfl, _, _, rfl, rfl, .inl ⟨Int.lt_of_lt_of_le (by decide) x0, Int.lt_trans x1 (by decide)⟩, _, rfl, _, _, rfl, rfl, .inl ⟨by decide, by decide⟩, _, rfl, _, _, rfl, rfl, .inr ⟨by omega, by omega⟩, _, _, rfl, rfl, _, _, rfl, rfl, _, _, rfl, rfl, ⟨by decide, by decide, ?_⟩, .inl ⟨_, rfl, _, _, rfl, rfl, (by show (0 : Int) < _; decide), ?_⟩⟩
          · exact mix_lt x0 (Int.lt_trans x1 (by decide)) h4 ea (by decide) (by decide) (by decide) (by decide) (by decide) (by decide)
          refine ⟨_, rfl, _, _, rfl, rfl, ⟨by decide, by decide⟩, .inl ⟨_, rfl, _, rfl, _, _, rfl, rfl, hm, ?_⟩⟩
          exact k _ _ (Int.emod_nonneg _ (by omega)) (Int.emod_lt_of_pos _ hm) ⟨ns, at_ + 1, rest, g1, g2, h3, by omega, by omega⟩ hb
theorem ok_draw {f : Addr} {fd : FuncData} (F : Fun K "_law_draw" "_law_draw" s_draw f fd) (T : BI mg) : FnOk P w K mg base CX0 1 f fd ["_law_pen_here", "_law_many"] spDraw := by
  have G := ok_drawC (P := P) (w := w) (base := base) F T
  have to : ∀ vs H Q E, spDraw vs H Q E → spDrawC vs H Q E := fun vs H Q E h => by
    obtain ⟨pn, m, n, e, hm, hml, hp, hn, k⟩ := h
    obtain ⟨cl, hc⟩ := hp.cells
    exact ⟨pn, cl, m, n, e, hm, hml, hc, hn, fun d H' a b c u => k d H' a b c.pen u⟩
  exact ⟨fun vs H Q E h => G.len vs H Q E (to _ _ _ _ h), fun A outer s H args us vs Q E hr e0 hb r h => G.run A outer s H args us vs Q E hr e0 hb r (to _ _ _ _ h)⟩
theorem ok_pick {f : Addr} {fd : FuncData} (F : Fun K "_law_pick" "_law_pick" s_pick f fd) (T : BI mg) (D_draw : DefAt P w K mg base CX0 1 "_law_draw" ["_law_pen_here", "_law_many"] spDraw) : FnOk P w K mg base CX0 2 f fd ["_law_pen_here", "_law_some"] spPick := by
  refine F.ok sc_pick (fun vs H Q E h => ?_) (fun cdv A outer s H vs Q E hr h => ?_)
  · obtain ⟨pn, l, n, xs, rfl, _⟩ := h
    rfl
  · obtain ⟨pn, l, n, xs, rfl, hl, nl, h0, h1, hp, hn, k⟩ := h
    refine ⟨_, (pss_one (ps_ret (pe_ix ix_list (pv 1) (My.pe_d D_draw (hr.mono (by decide)) (by rfl) pass0 (pa_cons (pv 0) (pa_cons (pe_callB call_len (by rfl) T.z_len PySem.boot_len (pa_cons (pv 1) pa_nil)) pa_nil))) (fun _ _ => rfl)))), ?_⟩
    refine ⟨_, rfl, _, rfl, _, rfl, _, _, rfl, .inl ⟨_, SqL.of hl, rfl⟩, pn, _, n, rfl, by omega, ?_, hp, hn, fun d H' d0 d1 hp' hb => ?_⟩
    · refine Nat.lt_of_lt_of_le (PySem.Flt.log2_lt_of (k := 10) (by decide) ?_) (by decide)
      show xs.length < 1024
      omega
    · obtain ⟨v, hv⟩ : ∃ v, xs[d.toNat]? = some v := ⟨_, List.getElem?_eq_getElem (by omega)⟩
      refine ⟨l, _, _, v, rfl, rfl, SqL.of (hb l _ hl nl), at_of (j := d.toNat) (by omega) hv, ?_⟩
      exact k v H' (List.mem_of_getElem? hv) hp' hb
end
end My
/-! pick, the pen's cells at a known place -/
namespace My
open PySem PySem.Spec PyProof.Rows L2
def spPickC : Sp := fun vs H Q _ => ∃ (pn cl l : Addr) (n : Nat) (xs : List V), vs = [.ref pn, .ref l] ∧ H l = some (.lst xs) ∧ l ≠ pn ∧ 0 < xs.length ∧ xs.length ≤ 1000 ∧ PenC H pn cl n ∧ n < 100000 ∧
  ∀ (v : V) (H' : Hp), v ∈ xs → PenC H' pn cl (n + 1) → But pn H H' → Q v H'
section
variable {P : Program} {w : World} {K : PySem.W.Frag} {mg : Str → Option Value} {base : Heap}
theorem ok_pickC {f : Addr} {fd : FuncData} (F : Fun K "_law_pick" "_law_pick" s_pick f fd) (T : BI mg) (D_draw : DefAt P w K mg base CX0 1 "_law_draw" ["_law_pen_here", "_law_many"] spDrawC) : FnOk P w K mg base CX0 2 f fd ["_law_pen_here", "_law_some"] spPickC := by
  refine F.ok sc_pick (fun vs H Q E h => ?_) (fun cdv A outer s H vs Q E hr h => ?_)
  · obtain ⟨pn, cl, l, n, xs, rfl, _⟩ := h
    rfl
  · obtain ⟨pn, cl, l, n, xs, rfl, hl, nl, h0, h1, hp, hn, k⟩ := h
    refine ⟨_, (pss_one (ps_ret (pe_ix ix_list (pv 1) (My.pe_d D_draw (hr.mono (by decide)) (by rfl) pass0 (pa_cons (pv 0) (pa_cons (pe_callB call_len (by rfl) T.z_len PySem.boot_len (pa_cons (pv 1) pa_nil)) pa_nil))) (fun _ _ => rfl)))), ?_⟩
    refine ⟨_, rfl, _, rfl, _, rfl, _, _, rfl, .inl ⟨_, SqL.of hl, rfl⟩, pn, cl, _, n, rfl, by omega, ?_, hp, hn, fun d H' d0 d1 hp' hb => ?_⟩
    · refine Nat.lt_of_lt_of_le (PySem.Flt.log2_lt_of (k := 10) (by decide) ?_) (by decide)
      show xs.length < 1024
      omega
    · obtain ⟨v, hv⟩ : ∃ v, xs[d.toNat]? = some v := ⟨_, List.getElem?_eq_getElem (by omega)⟩
      refine ⟨l, _, _, v, rfl, rfl, SqL.of (hb l _ hl nl), at_of (j := d.toNat) (by omega) hv, ?_⟩
      exact k v H' (List.mem_of_getElem? hv) hp' hb
end
end My
/-! Texts as lists of signs: numbers written and read, slices, words. -/
namespace TX
open PySem PySem.Spec PyProof.Rows L2 TL
def isDig (c : Nat) : Bool := decide (48 ≤ c) && decide (c ≤ 57)
theorem isDig_iff {c : Nat} : isDig c = true ↔ 48 ≤ c ∧ c ≤ 57 := by
  unfold isDig
  rw [Bool.and_eq_true, decide_eq_true_iff, decide_eq_true_iff]
theorem dig_mem (c : Nat) : decide (c ∈ tl ("0123456789" : Str)) = isDig c := by
  have e : tl ("0123456789" : Str) = [48, 49, 50, 51, 52, 53, 54, 55, 56, 57] := by decide +kernel
  rw [e]
  by_cases h : 48 ≤ c ∧ c ≤ 57
  · rw [isDig_iff.mpr h]
    have : c = 48 ∨ c = 49 ∨ c = 50 ∨ c = 51 ∨ c = 52 ∨ c = 53 ∨ c = 54 ∨ c = 55 ∨ c = 56 ∨ c = 57 := by omega
    refine decide_eq_true ?_
    simpa using this
  · have h2 : isDig c = false := by
      rw [Bool.eq_false_iff]
      exact fun z => h (isDig_iff.mp z)
    rw [h2]
    refine decide_eq_false fun z => h ?_
    have z : c = 48 ∨ c = 49 ∨ c = 50 ∨ c = 51 ∨ c = 52 ∨ c = 53 ∨ c = 54 ∨ c = 55 ∨ c = 56 ∨ c = 57 := by simpa using z
    omega
/-- the signs may stand for a number of at most 60 figures -/
def okD (l : List Nat) : Bool := decide (1 ≤ l.length) && (decide (l.length ≤ 60) && l.all isDig)
/-- .. without zeros ahead -/
def dg (l : List Nat) : Option Int := if okD l = true then (if 1 < l.length ∧ l.head? = some 48 then none else some ((NumText.digitsVal l : Nat) : Int)) else none
theorem okD_all {l : List Nat} (h : okD l = true) : 1 ≤ l.length ∧ l.length ≤ 60 ∧ NumText.AllDigits l := by
  unfold okD at h
  rw [Bool.and_eq_true, Bool.and_eq_true, decide_eq_true_iff, decide_eq_true_iff, List.all_eq_true] at h
  exact ⟨h.1, h.2.1, fun c hc => isDig_iff.mp (h.2.2 c hc)⟩
theorem okD_of {l : List Nat} (h1 : 1 ≤ l.length) (h2 : l.length ≤ 60) (h3 : NumText.AllDigits l) : okD l = true := by
  unfold okD
  rw [Bool.and_eq_true, Bool.and_eq_true, decide_eq_true_iff, decide_eq_true_iff, List.all_eq_true]
  exact ⟨h1, h2, fun c hc => isDig_iff.mpr (h3 c hc)⟩
theorem int_of {x : Str} (h : okD (tl x) = true) : intText? x = some ((NumText.digitsVal (tl x) : Nat) : Int) ∧ x.length ≤ 640 := by
  obtain ⟨h1, h2, h3⟩ := okD_all h
  rw [← len_tl] at h1 h2
  refine ⟨intText_digits h3 (fun z => ?_) (by omega), by omega⟩
  rw [len_tl] at h1
  have : (tl x).length = 0 := by
    show x.cps.toList.length = 0
    rw [z]
    rfl
  omega
theorem val_lt : ∀ (l : List Nat) (a : Nat), NumText.AllDigits l → l.foldl (fun acc c => acc * 10 + (c - 48)) a < (a + 1) * 10 ^ l.length
  | [], a, _ => by
    show a < (a + 1) * 1
    omega
  | c :: l, a, h => by
    have hc := h.head
    have ih := val_lt l (a * 10 + (c - 48)) h.tail
    show l.foldl _ (a * 10 + (c - 48)) < (a + 1) * 10 ^ (l.length + 1)
    have e : (a + 1) * 10 ^ (l.length + 1) = ((a + 1) * 10) * 10 ^ l.length := by rw [Nat.pow_succ, Nat.mul_assoc, Nat.mul_comm (10 ^ l.length)]
    rw [e]
    exact Nat.lt_of_lt_of_le ih (Nat.mul_le_mul_right _ (by omega))
theorem dg_lt {l : List Nat} {z : Int} (h : dg l = some z) : 0 ≤ z ∧ z < 10 ^ 60 := by
  unfold dg at h
  split at h
  · rename_i ok
    obtain ⟨h1, h2, h3⟩ := okD_all ok
    split at h
    · cases h
    · have e := Option.some.inj h
      have v := val_lt l 0 h3
      have p : (0 + 1) * 10 ^ l.length ≤ 10 ^ 60 := by
        rw [Nat.zero_add, Nat.one_mul]
        exact Nat.pow_le_pow_right (by decide) h2
      have q : NumText.digitsVal l < 10 ^ 60 := Nat.lt_of_lt_of_le v p
      have r : ((10 ^ 60 : Nat) : Int) = (10 : Int) ^ 60 := by simp
      rw [← e, ← r]
      omega
  · cases h
theorem numL_head {n : Nat} (h : 0 < n) : (numL n).head? ≠ some 48 := by
  induction n using Nat.strongRecOn with
  | _ n ih =>
    by_cases c : n < 10
    · rw [numL_lt c]
      intro z
      have := Option.some.inj z
      omega
    · rw [numL_step (by omega)]
      have g := ih (n / 10) (by omega) (by omega)
      cases e : numL (n / 10) with
      | nil => exact absurd e (numL_ne _)
      | cons a l =>
        rw [e] at g
        exact g
theorem dg_num {n : Nat} (h : n < 10 ^ 60) : dg (numL n) = some (n : Int) := by
  have l1 : 1 ≤ (numL n).length := by
    have := numL_ne n
    cases e : numL n with
    | nil => exact absurd e this
    | cons c l => exact Nat.succ_le_succ (Nat.zero_le _)
  unfold dg
  rw [if_pos (okD_of l1 (numL_len (by decide) h) (numL_digits n)), if_neg ?_, numL_val]
  rintro ⟨g1, g2⟩
  by_cases z : 0 < n
  · exact numL_head z g2
  · have : n = 0 := by omega
    rw [this, numL_lt (by decide)] at g1
    exact absurd g1 (by decide)
/-! ### slices -/
theorem tl_S (l : List Nat) : tl (⟨l.toArray⟩ : Str) = l := rfl
theorem cut_to1 (x : Str) : tl (cutS x none (some 1)) = (tl x).take 1 := by
  show ((tl x).drop 0).take (HT.sIx x.length x.length (some ((1 : Nat) : Int)) - 0) = _
  rw [HT.sIx_nat, List.drop_zero, Nat.sub_zero, len_tl]
  by_cases h : 1 ≤ (tl x).length
  · rw [Nat.min_eq_left h]
  · rw [Nat.min_eq_right (by omega), List.take_of_length_le (Nat.le_refl _), List.take_of_length_le (by omega)]
theorem cut_from1 (x : Str) : tl (cutS x (some 1) none) = (tl x).drop 1 := by
  show ((tl x).drop (HT.sIx x.length 0 (some ((1 : Nat) : Int)))).take (HT.sIx x.length x.length none - HT.sIx x.length 0 (some ((1 : Nat) : Int))) = _
  rw [HT.sIx_nat, HT.sIx_none, len_tl]
  by_cases h : 1 ≤ (tl x).length
  · rw [Nat.min_eq_left h, List.take_of_length_le (by rw [List.length_drop]; exact Nat.le_refl _)]
  · have e : tl x = [] := List.eq_nil_of_length_eq_zero (by omega)
    rw [e]
    rfl
theorem sIx_m1 (n d : Nat) : HT.sIx n d (some (-1)) = n - 1 := by
  have e : HT.sIx n d (some (-1)) = ((-1 : Int) + (n : Int)).toNat := by
    unfold HT.sIx
    exact if_pos (by decide)
  rw [e]
  omega
theorem cut_last (x : Str) : tl (cutS x (some (-1)) none) = (tl x).drop ((tl x).length - 1) := by
  show ((tl x).drop (HT.sIx x.length 0 (some (-1)))).take (HT.sIx x.length x.length none - HT.sIx x.length 0 (some (-1))) = _
  rw [sIx_m1, HT.sIx_none, len_tl, List.take_of_length_le (by rw [List.length_drop]; exact Nat.le_refl _)]
theorem cut_but (x : Str) : tl (cutS x none (some (-1))) = (tl x).dropLast := by
  show ((tl x).drop 0).take (HT.sIx x.length x.length (some (-1)) - 0) = _
  rw [sIx_m1, List.drop_zero, Nat.sub_zero, len_tl, List.dropLast_eq_take]
theorem tl_eq {x y : Str} : x = y ↔ tl x = tl y := ⟨fun h => by rw [h], ext_tl⟩
theorem str_eq {x y : Str} : decide (V.str x = V.str y) = decide (tl x = tl y) := by
  by_cases h : tl x = tl y
  · rw [decide_eq_true h, ext_tl h, decide_eq_true rfl]
  · rw [decide_eq_false h, decide_eq_false fun z => h (by rw [V.str.inj z])]
theorem beq_str {x y : Str} : (x == y) = decide (tl x = tl y) := by
  by_cases h : tl x = tl y
  · rw [decide_eq_true h, ext_tl h, beq_self_eq_true]
  · rw [decide_eq_false h]
    rw [Bool.eq_false_iff]
    intro z
    exact h (by rw [beq_iff_eq.mp z])
/-! ### numbers written -/
theorem tl_nat (n : Nat) : tl (Str.ofString (toString ((n : Nat) : Int))) = numL n := tl_num n
theorem tl_neg (m : Nat) : tl (Str.ofString (toString (-((m + 1 : Nat) : Int)))) = 45 :: numL (m + 1) := by
  have e : (-((m + 1 : Nat) : Int)) = Int.negSucc m := rfl
  rw [e]
  have e2 : (toString (Int.negSucc m) : String) = "-" ++ toString (m + 1) := rfl
  have e3 : (toString (m + 1) : String) = toString (((m + 1 : Nat)) : Int) := rfl
  rw [e2, e3, tl_ofString, String.toList_append, List.map_append]
  show [45] ++ _ = _
  rw [← tl_ofString, tl_num]
  rfl
/-- an int as signs -/
def intL (i : Int) : List Nat := if i < 0 then 45 :: numL i.natAbs else numL i.natAbs
theorem tl_int (i : Int) : tl (Str.ofString (toString i)) = intL i := by
  unfold intL
  by_cases h : i < 0
  · obtain ⟨m, rfl⟩ : ∃ m : Nat, i = -((m + 1 : Nat) : Int) := ⟨i.natAbs - 1, by omega⟩
    rw [if_pos h, tl_neg, Int.natAbs_neg, Int.natAbs_natCast]
  · obtain ⟨m, rfl⟩ : ∃ m : Nat, i = (m : Int) := ⟨i.natAbs, by omega⟩
    rw [if_neg h, tl_num, Int.natAbs_natCast]
theorem intL_free {i : Int} {s : Nat} (h : s < 48 ∨ 57 < s) (h2 : s ≠ 45) : s ∉ intL i := by
  unfold intL
  split
  · intro z
    rcases List.mem_cons.mp z with z | z
    · exact h2 z
    · exact numL_free h z
  · exact numL_free h
end TX
/-! Values of other kinds, ints shown, what stays where the pen and the tables change. -/
namespace My
open PySem PySem.Spec PyProof.Rows L2
/-! ### values of other kinds -/
/-- the built-in kind of a value -/
inductive Ty0 (H : Hp) : V → String → Prop where
  | non : Ty0 H .non "NoneType"
  | bl (b : Bool) : Ty0 H (.bl b) "bool"
  | int (i : Int) : Ty0 H (.int i) "int"
  | str (x : Str) : Ty0 H (.str x) "str"
  | lst {a : Addr} {xs : List V} (e : H a = some (.lst xs)) : Ty0 H (.ref a) "list"
  | tup {a : Addr} {xs : List V} (e : H a = some (.tup xs)) : Ty0 H (.ref a) "tuple"
  | dK {a : Addr} {kvs : List (Key × V)} (e : H a = some (.dK kvs)) : Ty0 H (.ref a) "dict"
theorem Ty0.tyx {K : PySem.W.Frag} {H : Hp} {v : V} {t : String} (h : Ty0 H v t) : TyX K H v (.type t) := by
  cases h with
  | non => exact .base .non
  | bl b => exact .base (.bl b)
  | int i => exact .base (.int i)
  | str x => exact .base (.str x)
  | lst e => exact .base (.lst e)
  | tup e => exact .base (.tup e)
  | dK e => exact .base (.dK e)
def isI : V → Bool
  | .int _ => true
  | _ => false
theorem isI_int {v : V} (h : isI v = true) : ∃ i, v = .int i := by
  cases v with
  | int i => exact ⟨i, rfl⟩
  | _ => cases h
def isT (t : String) : Bool := t == "int"
theorem Ty0.isI {H : Hp} {v : V} {t : String} (h : Ty0 H v t) : My.isI v = isT t := by cases h <;> rfl
theorem Ty0.kint {K : PySem.W.Frag} {H : Hp} {v : V} {t : String} (h : Ty0 H v t) : ∃ b, PySem.W.kitOne K (.type t) (.type "int") = some b ∧ (b = true → ∃ c, PySem.W.kitOne K (.type t) (.type "bool") = some c ∧ My.isI v = !c) ∧ (b = false → My.isI v = false) := by
  cases h with
  | non => exact ⟨false, kit_ty (by decide +kernel), (fun z => Bool.noConfusion z), fun _ => rfl⟩
  | bl b => exact ⟨true, kit_ty (by decide +kernel), fun _ => ⟨true, kit_ty (by decide +kernel), rfl⟩, (fun z => Bool.noConfusion z)⟩
  | int i => exact ⟨true, kit_ty (by decide +kernel), fun _ => ⟨false, kit_ty (by decide +kernel), rfl⟩, (fun z => Bool.noConfusion z)⟩
  | str x => exact ⟨false, kit_ty (by decide +kernel), (fun z => Bool.noConfusion z), fun _ => rfl⟩
  | lst e => exact ⟨false, kit_ty (by decide +kernel), (fun z => Bool.noConfusion z), fun _ => rfl⟩
  | tup e => exact ⟨false, kit_ty (by decide +kernel), (fun z => Bool.noConfusion z), fun _ => rfl⟩
  | dK e => exact ⟨false, kit_ty (by decide +kernel), (fun z => Bool.noConfusion z), fun _ => rfl⟩
theorem Ty0.keep {H H' : Hp} {v : V} {t : String} (h : Ty0 H v t) (k : ∀ b o, H b = some o → (∀ p, v = .ref p → p = b → H' b = some o)) : Ty0 H' v t := by
  cases h with
  | non => exact .non
  | bl b => exact .bl b
  | int i => exact .int i
  | str x => exact .str x
  | lst e => exact .lst (k _ _ e _ rfl rfl)
  | tup e => exact .tup (k _ _ e _ rfl rfl)
  | dK e => exact .dK (k _ _ e _ rfl rfl)
theorem Ty0.same {H H' : Hp} {v : V} {t : String} (h : Ty0 H v t) (k : Same H H') : Ty0 H' v t := h.keep fun b o e _ _ _ => k b o e
theorem same_new {H : Hp} {p : Addr} {o : HO} (h : H p = none) : Same H (upd H p o) := fun b u e => by rw [upd_ne (ne_of_none e h)]; exact e
/-- a value of a built-in kind, or an instance of the class at C -/
def TyL (C : Addr) (H : Hp) (v : V) : Prop := (∃ t, Ty0 H v t) ∨ ∃ a dx fs, v = .ref a ∧ H a = some (.ins C dx fs)
theorem TyL.same {C : Addr} {H H' : Hp} {v : V} (h : TyL C H v) (k : Same H H') : TyL C H' v := by
  rcases h with ⟨t, h⟩ | ⟨a, dx, fs, e, h⟩
  · exact .inl ⟨t, h.same k⟩
  · exact .inr ⟨a, dx, fs, e, k _ _ h⟩
theorem TyL.int (C : Addr) (H : Hp) (i : Int) : TyL C H (.int i) := .inl ⟨_, .int i⟩
theorem pen_ne {H : Hp} {pn l : Addr} {n : Nat} (hp : PenAt H pn n) (hl : H l = none) : l ≠ pn := by
  obtain ⟨cl, ns, a, r, g1, _⟩ := hp
  exact (ne_of_none g1 hl).symm
theorem but_same {pn : Addr} {H H' : Hp} (s : Same H H') : But pn H H' := fun b o e _ => s b o e
theorem pen_same {pn : Addr} {H H' : Hp} {n : Nat} (hp : PenAt H pn n) (k : Same H H') : PenAt H' pn n := by
  obtain ⟨cl, ns, a, r, g1, g2, g3⟩ := hp
  exact ⟨cl, ns, a, r, k _ _ g1, k _ _ g2, g3⟩
theorem mem_ints {v : V} {zs : List Int} (h : v ∈ zs.map V.int) : ∃ z, v = .int z ∧ z ∈ zs := by
  obtain ⟨z, hz, e⟩ := List.mem_map.mp h
  exact ⟨z, e.symm, hz⟩
theorem num_len {i : Int} (h : i.natAbs.log2 < 1920) : ((toString i : String) : Str).length ≤ 1921 := by
  have e := int_text_length_le (k := 1920) (by decide) h
  show (Str.ofString (toString i)).length ≤ 1921
  rw [PySem.ofString_length]
  exact e
theorem app_len (x y : Str) : (x ++ y).length = x.length + y.length := PySem.Str.length_append x y
/-- an int of less than 300 bits -/
def Sm (z : Int) : Prop := z.natAbs < 2 ^ 300
theorem Sm.mul {a b : Int} {i j : Nat} (ha : a.natAbs < 2 ^ i) (hb : b.natAbs < 2 ^ j) (h0 : 0 < i := by decide) (h1 : 0 < j := by decide) (h : i + j ≤ 1000000 := by decide) : CMulW a b := wide_mul ha hb h0 h1 h
theorem Sm.log {z : Int} (h : Sm z) : z.natAbs.log2 < 1920 := Nat.lt_of_lt_of_le (PySem.Flt.log2_lt_of (k := 300) (by decide) h) (by decide)
theorem shown_sum : ∀ (ns : List Int), (∀ z ∈ ns, z.natAbs.log2 < 1920) → ((PyData.shownAll (ns.map PyData.int)).map (·.length)).sum ≤ 1921 * ns.length ∧ (PyData.shownAll (ns.map PyData.int)).length = ns.length
  | [], _ => ⟨Nat.le_refl _, rfl⟩
  | n :: ns, h => by
    obtain ⟨h1, h2⟩ := shown_sum ns fun z hz => h z (List.mem_cons_of_mem _ hz)
    have e2 := num_len (h n List.mem_cons_self)
    refine ⟨?_, ?_⟩
    · show ((toString n : String) : Str).length + ((PyData.shownAll (ns.map PyData.int)).map (·.length)).sum ≤ 1921 * (ns.length + 1)
      omega
    · show (PyData.shownAll (ns.map PyData.int)).length + 1 = ns.length + 1
      omega
theorem showable_ints : ∀ (ns : List Int), (∀ z ∈ ns, z.natAbs.log2 < 1920) → PyData.showableAll (ns.map PyData.int) = true
  | [], _ => rfl
  | n :: ns, h => by
    show (decide (n.natAbs.log2 < 1920) && PyData.showableAll (ns.map PyData.int)) = true
    rw [showable_ints ns fun z hz => h z (List.mem_cons_of_mem _ hz), decide_eq_true (h n List.mem_cons_self)]
    rfl
/-- a list of ints shown -/
theorem ints_show {K : PySem.W.Frag} {H : Hp} {l : Addr} (ns : List Int) (hz : ∀ z ∈ ns, z.natAbs.log2 < 1920) (hl : ns.length ≤ 1000) (h : H l = some (.lst (ns.map V.int))) : Dr K H (.ref l) (.list (ns.map PyData.int)) ∧ (PyData.list (ns.map PyData.int)).showable = true ∧ (PyData.list (ns.map PyData.int)).depth ≤ 60 ∧ (PyData.list (ns.map PyData.int)).shown.length ≤ sizeLine := by
  refine ⟨.inl (.lst (SqL.of h) (dp_ints ns)), showable_ints ns hz, ?_, ?_⟩
  · show PyData.depthAll (ns.map PyData.int) + 1 ≤ 60
    rw [dep_ints]
    decide
  · have h1 := listText_len_le (PyData.shownAll (ns.map PyData.int))
    obtain ⟨h2, h3⟩ := shown_sum ns hz
    show (listText (PyData.shownAll (ns.map PyData.int))).length ≤ sizeLine
    rw [sizeLine_eq]
    omega
theorem yes_go {σ : L2.St} {H : Hp} {A B : Hp → Prop} (h : A H) : tYes σ H (fun b H3 => if b = true then A H3 else B H3) := by
  show (if true = true then A H else B H)
  rw [if_pos rfl]
  exact h
theorem take1 {α : Type} {ls : List α} {i : Nat} {y : α} (h : ls[i]? = some y) : ls.take (i + 1) = ls.take i ++ [y] := by rw [List.take_add_one, h]; rfl
theorem at_int {ls : List Int} {i : Nat} {v : V} (h : (ls.map V.int)[i]? = some v) : ∃ y, ls[i]? = some y ∧ v = .int y := by
  rw [List.getElem?_map] at h
  cases e : ls[i]? with
  | none => rw [e] at h; cases h
  | some y => rw [e] at h; cases h; exact ⟨y, rfl, rfl⟩
/-! ### tables of code objects, the pen, and all else -/
/-- all but the pen and the tables stays, the tables are tables -/
structure Kp (pn : Addr) (TS : List (Addr × Str)) (H H' : Hp) : Prop where
  keep : ∀ b o, H b = some o → b ≠ pn → (∀ ps, o ≠ .tbl ps) → H' b = some o
  tabs : LamX.Tabs TS H'
theorem Kp.trans {pn : Addr} {TS : List (Addr × Str)} {H H1 H2 : Hp} (a : Kp pn TS H H1) (b : Kp pn TS H1 H2) : Kp pn TS H H2 := ⟨fun c o h n m => b.keep c o (a.keep c o h n m) n m, b.tabs⟩
theorem tabs_but {pn : Addr} {TS : List (Addr × Str)} {H H' : Hp} {n : Nat} (t : LamX.Tabs TS H) (hp : PenAt H pn n) (k : But pn H H') : LamX.Tabs TS H' := fun p hp' => by
  obtain ⟨ps, h1, h2, h3⟩ := t p hp'
  obtain ⟨cl, ns, a, r, g1, _⟩ := hp
  refine ⟨ps, k _ _ h1 (ne_of h1 g1 (by intro z; cases z)), h2, fun pos cv hc => ?_⟩
  obtain ⟨c, e1, e2⟩ := h3 pos cv hc
  exact ⟨c, e1, k _ _ e2 (ne_of e2 g1 (by intro z; unfold LamX.CodeO at z; cases z))⟩
theorem Kp.but {pn : Addr} {TS : List (Addr × Str)} {H H' : Hp} {n : Nat} (t : LamX.Tabs TS H) (hp : PenAt H pn n) (k : But pn H H') : Kp pn TS H H' := ⟨fun b o h nb _ => k b o h nb, tabs_but t hp k⟩
theorem Kp.same {pn : Addr} {TS : List (Addr × Str)} {H H' : Hp} (t : LamX.Tabs TS H) (k : Same H H') : Kp pn TS H H' := ⟨fun b o h _ _ => k b o h, t.ext k⟩
theorem Kp.ext {pn : Addr} {TS : List (Addr × Str)} {H H' : Hp} (t : LamX.Tabs TS H') (k : LamX.ExtN H H') : Kp pn TS H H' := ⟨fun b o h _ m => k b o h m, t⟩
theorem pen_ext {pn : Addr} {H H' : Hp} {n : Nat} (hp : PenAt H pn n) (k : LamX.ExtN H H') : PenAt H' pn n := by
  obtain ⟨cl, ns, a, r, g1, g2, g3⟩ := hp
  exact ⟨cl, ns, a, r, k _ _ g1 (by intro ps z; cases z), k _ _ g2 (by intro ps z; cases z), g3⟩
/-- a def whose code object stands at c -/
structure FunC (K : PySem.W.Frag) (x qual : Str) (st : Stmt) (f : Addr) (fd : FuncData) (c : Addr) : Prop where
  ex : ∃ (oc : Value) (od : Option Addr) (kV doc pm : Value) (an : Option Addr) (ct : Value) (osl : Array (Option Value)),
    fd = PySem.W.fnOf x qual (defArgs st) (defBody st) (defScope st) .none kV doc pm an (.ref c) ct ∧ K.lookup f = some ⟨oc, od, .func fd, osl⟩ ∧ PySem.W.codeIn K (.ref c) qual = true
  kp : PySem.W.keepIn K (.ref f) = true
theorem okGc {P : Program} {w : World} {K : PySem.W.Frag} {mg : Str → Option Value} {base : Heap} {x qual : Str} {st : Stmt} {f c : Addr} {fd : FuncData} {N ps : List Str} {k : Nat} {sp : Sp} (F : FunC K x qual st f fd c) (S : FnScope N ps (defScope st)) (len : ∀ vs H Q E, sp vs H Q E → vs.length = ps.length)
    (hbody : ∀ (A : Around) (outer : List Env) (s : Shared) (H : Hp) (vs : List V) (Q : VK) (E : XK), A.guards = some [] → Room k (A.deeper (envOfC qual (defScope st) s.heap.objs.size f (.ref c))) → sp vs H Q E →
      ∃ t, PSs (cxOf CX0 P w K mg base N qual (defScope st) f (.ref c) A outer s H E).nox (defBody st) t ∧ t { nx := fun _ H' => Q .non H', rt := Q } (start N vs) H) : FnG P w K mg base CX0 (k + 1) f fd ps sp := by
  obtain ⟨oc, od, kV, doc, pm, an, ct, osl, rfl, lk, hcd⟩ := F.ex
  refine ⟨len, fun A outer s H args us vs Q E hg hr e0 hb r hsp => LamX.run_ofS lk hcd S hr e0 hb r (len _ _ _ _ hsp) fun hr' => ?_⟩
  obtain ⟨t, h, q⟩ := hbody A outer s H vs Q E hg hr' hsp
  exact ⟨t, h.nox, q⟩
theorem ty_ext {H H' : Hp} {v : V} {t : String} (h : Ty0 H v t) (k : LamX.ExtN H H') : Ty0 H' v t := by
  cases h with
  | non => exact .non
  | bl b => exact .bl b
  | int i => exact .int i
  | str x => exact .str x
  | lst e => exact .lst (k _ _ e (by intro ps z; cases z))
  | tup e => exact .tup (k _ _ e (by intro ps z; cases z))
  | dK e => exact .dK (k _ _ e (by intro ps z; cases z))
theorem ext_same {H H' : Hp} (s : Same H H') : LamX.ExtN H H' := fun b o h _ => s b o h
theorem ext_put {Ha Hx : Hp} {lh : Addr} {o : HO} (n : Ha lh = none) (x : LamX.ExtN Ha Hx) : LamX.ExtN Ha (upd Hx lh o) := fun b u e m => by
  rw [upd_ne (ne_of_none e n)]
  exact x b u e m
theorem tabs_put {TS : List (Addr × Str)} {H : Hp} {lh : Addr} {xs : List V} {o : HO} (t : LamX.Tabs TS H) (h : H lh = some (.lst xs)) : LamX.Tabs TS (upd H lh o) := fun p hp => by
  obtain ⟨ps, h1, h2, h3⟩ := t p hp
  refine ⟨ps, by rw [upd_ne (ne_of h1 h (by intro z; cases z))]; exact h1, h2, fun pos cv hc => ?_⟩
  obtain ⟨c, e1, e2⟩ := h3 pos cv hc
  exact ⟨c, e1, by rw [upd_ne (ne_of e2 h (by intro z; unfold LamX.CodeO at z; cases z))]; exact e2⟩
theorem TyL.ext {C : Addr} {H H' : Hp} {v : V} (h : TyL C H v) (k : LamX.ExtN H H') : TyL C H' v := by
  rcases h with ⟨t, h⟩ | ⟨a, dx, fs, e, h⟩
  · exact .inl ⟨t, ty_ext h k⟩
  · exact .inr ⟨a, dx, fs, e, k _ _ h (by intro ps z; cases z)⟩
end My
/-! raise C() of an own error class without own __init__. -/
namespace My
open PySem PySem.Spec PySem.Calls PyProof.Rows L2
section
variable {X : Cx} {C : Addr} {bmB : List Value} {B newId initId : String} {x : Str} {p pos : Pos}
theorem pmk_nil (F : ExcBaseFacts B newId initId bmB) (q : PySem.W.excIn X.K C bmB newId = true) (gC : X.mg x = some (.ref C)) (kC : PySem.W.keepIn X.K (.ref C) = true) (r : Raises X (.ref C)) (hg : Gl X x) (hdb : (x == ("__debug__" : Str)) = false := by decide) :
    PMk X (.Call (.Name x p) [] [] pos) (fun σ H Q => Q (.ref C) none H) := by
  intro pins s σ H Q I h
  refine wpAny_Call_Name_kw (ld_glob I hg gC ?_ hdb)
  refine PySem.W.callWith_K0 (first := []) I.kIn kC ?_
  show wpAny _ _ (call (.ref C) []) _ _ _
  obtain ⟨bm, N, nm, qn, bs, hdct, sn, sub, ab, col, dd, k0, k1, k2, k3, k5, mN, hC, hN, hni, T⟩ := exc_obj I.kIn q
  refine wpAny_call_exc_subT F T hC hN hni (fun h' e hm => ?_) (Nat.zero_le _)
  exact mk_of I hm r h (I.hok.gone hm.new)
end
end My
namespace My
open PySem PySem.Spec PyProof.Rows L2
/-! ### polynomials -/
abbrev s_whole0 : Stmt := topS 9
theorem sc_whole0 : FnScope ["value"] ["value"] (defScope s_whole0) := ⟨rfl, rfl, rfl, by decide +kernel, rfl, by decide +kernel, by decide +kernel⟩
abbrev s_needint : Stmt := topS 14
theorem sc_needint : FnScope ["value"] ["value"] (defScope s_needint) := ⟨rfl, rfl, rfl, by decide +kernel, rfl, by decide +kernel, by decide +kernel⟩
abbrev s_wend : Stmt := topS 15
theorem sc_wend : FnScope ["terms", "many"] ["terms"] (defScope s_wend) := ⟨rfl, rfl, rfl, by decide +kernel, rfl, by decide +kernel, by decide +kernel⟩
abbrev s_termof : Stmt := topS 17
theorem sc_termof : FnScope ["terms", "k"] ["terms", "k"] (defScope s_termof) := ⟨rfl, rfl, rfl, by decide +kernel, rfl, by decide +kernel, by decide +kernel⟩
abbrev s_pinit : Stmt := inClass (topS 26) 0
theorem sc_pinit : FnScope ["self", "terms", "at", "term"] ["self", "terms"] (defScope s_pinit) := ⟨rfl, rfl, rfl, by decide +kernel, rfl, by decide +kernel, by decide +kernel⟩
abbrev s_pof : Stmt := inClass (topS 26) 1
theorem sc_pof : FnScope ["cls", "terms"] ["cls", "terms"] (defScope s_pof) := ⟨rfl, rfl, rfl, by decide +kernel, rfl, by decide +kernel, by decide +kernel⟩
abbrev s_pcall : Stmt := inClass (topS 26) 11
theorem sc_pcall : FnScope ["self", "m", "found", "term"] ["self", "m"] (defScope s_pcall) := ⟨rfl, rfl, rfl, by decide +kernel, rfl, by decide +kernel, by decide +kernel⟩
abbrev s_pget : Stmt := inClass (topS 26) 12
theorem sc_pget : FnScope ["self", "k"] ["self", "k"] (defScope s_pget) := ⟨rfl, rfl, rfl, by decide +kernel, rfl, by decide +kernel, by decide +kernel⟩
abbrev s_peq : Stmt := inClass (topS 26) 21
theorem sc_peq : FnScope ["self", "other"] ["self", "other"] (defScope s_peq) := ⟨rfl, rfl, rfl, by decide +kernel, rfl, by decide +kernel, by decide +kernel⟩
abbrev s_pbool : Stmt := inClass (topS 26) 22
theorem sc_pbool : FnScope ["self"] ["self"] (defScope s_pbool) := ⟨rfl, rfl, rfl, by decide +kernel, rfl, by decide +kernel, by decide +kernel⟩
/-- the length without the zeros at the end, of the first k -/
def tl (ts : List Int) : Nat → Nat
  | 0 => 0
  | k + 1 => if ts[k]? = some 0 then tl ts k else k + 1
def trim (ts : List Int) : List Int := ts.take (tl ts ts.length)
theorem tl_le (ts : List Int) : ∀ k, tl ts k ≤ k
  | 0 => Nat.le_refl _
  | k + 1 => by
    unfold tl
    split
    · exact Nat.le_succ_of_le (tl_le ts k)
    · exact Nat.le_refl _
theorem trim_len (ts : List Int) : (trim ts).length = tl ts ts.length := by
  unfold trim
  rw [List.length_take]
  exact Nat.min_eq_left (tl_le ts _)
theorem trim_le (ts : List Int) : (trim ts).length ≤ ts.length := by
  rw [trim_len]
  exact tl_le ts _
theorem trim_all {ts : List Int} {m : Nat} (h : HT.sIx (ts.map V.int).length (ts.map V.int).length (some (m : Int)) = (ts.map V.int).length) (e : tl ts m = tl ts ts.length) (em : tl ts m = m) : ts = trim ts := by
  rw [HT.sIx_nat, List.length_map] at h
  unfold trim
  rw [← e, em, List.take_of_length_le (by omega)]
/-- for at, x in enumerate(t) -/
theorem for_enumT {K : PySem.W.Frag} {a : Addr} {xs : List V} {g : TG} {tb : TS} {D : Ends} {σ : L2.St} {H : Hp} (Pv : Nat → L2.St → Hp → Prop) (h0 : Pv 0 σ H) (hl : ∀ i σ H, i ≤ xs.length → Pv i σ H → SqT K H a xs)
    (hs : ∀ i x σ H T, xs[i]? = some x → Pv i σ H → H T = none → g (.ref T) σ (upd H T (.tup [.int (i : Nat), x])) fun σ2 H2 => tb { D with nx := Pv (i + 1), ct := Pv (i + 1), bk := D.nx } σ2 H2) (hd : ∀ σ H, Pv xs.length σ H → D.nx σ H) :
    ∃ W : Nat → Nat → L2.St → Hp → Prop, (∃ m, W 0 m σ H) ∧ ∀ i m σ H, W i m σ H →
      ((IteT K a).stop i H ∧ D.nx σ H) ∨ ((IteT K a).go i H ∧ ∃ N : L2.St → Hp → Prop, (∀ σ' H', N σ' H' → ∃ m', m' < m ∧ W (i + 1) m' σ' H') ∧ ∀ x H', (IteT K a).yld i H x H' → g x σ H' fun σ2 H2 => tb { D with nx := N, ct := N, bk := D.nx } σ2 H2) := by
  refine ⟨fun i m σ H => m = xs.length - i ∧ i ≤ xs.length ∧ Pv i σ H, ⟨xs.length, by simp, Nat.zero_le _, h0⟩, ?_⟩
  rintro i m σ H ⟨rfl, hi, p⟩
  have q := hl i σ H hi p
  by_cases hlt : i < xs.length
  · refine .inr ⟨⟨xs, xs[i], q, by simp [hlt]⟩, Pv (i + 1), fun σ' H' p' => ⟨xs.length - (i + 1), by omega, rfl, hlt, p'⟩, fun x H' y => ?_⟩
    obtain ⟨T, x0, rfl, hT, rfl, y⟩ := y
    exact hs i x0 σ H T (y xs q) p hT
  · have e : i = xs.length := by omega
    subst e
    exact .inl ⟨⟨xs, q, rfl⟩, hd σ H p⟩
def pfs (t : Addr) (n : Int) : List (Str × V) := putF "degree" (.int n) (putF "terms" (.ref t) [])
theorem psm : ¬ (("terms" : Str) = "degree") := by decide +kernel
theorem pfs_terms (t : Addr) (n : Int) : (pfs t n).lookup ("terms" : Str) = some (.ref t) := by
  unfold pfs
  rw [lookup_putF, if_neg psm, lookup_putF, if_pos rfl]
theorem pfs_deg (t : Addr) (n : Int) : (pfs t n).lookup ("degree" : Str) = some (.int n) := by
  unfold pfs
  rw [lookup_putF, if_pos rfl]
/-- at p: a polynomial with these terms, none of 0 at the end -/
def PolyAt (C : Addr) (H : Hp) (p : Addr) (ts : List Int) : Prop := ∃ dx t, H p = some (.ins C dx (pfs t ((ts.length : Int) - 1))) ∧ H t = some (.tup (ts.map V.int))
theorem PolyAt.same {C : Addr} {H H' : Hp} {p : Addr} {ts : List Int} (h : PolyAt C H p ts) (k : Same H H') : PolyAt C H' p ts := by
  obtain ⟨dx, t, e, e2⟩ := h
  exact ⟨dx, t, k _ _ e, k _ _ e2⟩
theorem PolyAt.ext {C : Addr} {H H' : Hp} {p : Addr} {ts : List Int} (h : PolyAt C H p ts) (k : LamX.ExtN H H') : PolyAt C H' p ts := by
  obtain ⟨dx, t, e, e2⟩ := h
  exact ⟨dx, t, k _ _ e (by intro ps z; cases z), k _ _ e2 (by intro ps z; cases z)⟩
theorem PolyAt.but {C : Addr} {H H' : Hp} {p pn : Addr} {n : Nat} {ts : List Int} (h : PolyAt C H p ts) (hp : PenAt H pn n) (k : But pn H H') : PolyAt C H' p ts := by
  obtain ⟨dx, t, e, e2⟩ := h
  obtain ⟨cl, ns, a', r, g1, _⟩ := hp
  exact ⟨dx, t, k _ _ e (ne_of e g1 (by intro z; cases z)), k _ _ e2 (ne_of e2 g1 (by intro z; cases z))⟩
theorem PolyAt.tyl {C : Addr} {H : Hp} {p : Addr} {ts : List Int} (h : PolyAt C H p ts) : TyL C H (.ref p) := by
  obtain ⟨dx, t, e, _⟩ := h
  exact .inr ⟨p, dx, _, rfl, e⟩
def Errs (E : XK) (C : Addr) (f : Str) (v : V) (H : Hp) : Prop := ∀ (d : Addr) (H' : Hp), H d = none → H' d = some (.xd [(f, v)]) → Same H H' → E (.ref C) (some d) H'
theorem Errs.go {E : XK} {C : Addr} {f : Str} {v : V} {H : Hp} (h : Errs E C f v H) {d : Addr} (hd : H d = none) : E (.ref C) (some d) (upd H d (.xd [(f, v)])) := h d _ hd upd_same (same_new hd)
theorem Errs.up {E : XK} {C : Addr} {f : Str} {v : V} {H H1 : Hp} (h : Errs E C f v H) (s : Same H H1) : Errs E C f v H1 := fun d H' hd hx s' => h d H' (s.free hd) hx (s.trans s')
/-- what the top has written of Poly and its errors -/
structure PTx (P : Program) (K : PySem.W.Frag) (mg : Str → Option Value) (C CB fB CP fP CI fI : Addr) : Prop extends BI mg where
  cl : Cls K C
  nT : NoAttr K C "terms"
  nD : NoAttr K C "degree"
  gP : mg "Poly" = some (.ref C)
  ha : PySem.W.findIn K (.ref C) "__class__" = some (some (.builtin "object.__class__"))
  hn : PySem.W.specialIn K (.builtin "object.__class__") "__get__" = some (some (.builtin "getset_descriptor.__get__"))
  ht : PySem.W.takesIn K (.builtin "object.__class__") = some true
  hm : PySem.W.mroIn K C (.type "object") = some true
  me : PySem.W.kitOne K (.ref C) (.ref C) = some true
  e_BadPoly : Sup.Err1 P K mg "BadPoly" "at" CB fB
  e_BadPlace : Sup.Err1 P K mg "BadPlace" "value" CP fP
  e_NoIndex : Sup.Err1 P K mg "NoIndex" "value" CI fI
  z_str : mg "str" = none
  z_tuple : mg "tuple" = none
  z_enumerate : mg "enumerate" = none
  noInt : PySem.W.kitOne K (.ref C) (.type "int") = some false
  kn : ∀ t ∈ ["int", "tuple", "NoneType", "str", "list", "bool", "dict"], PySem.W.kitOne K (.type t) (.ref C) = some false ∧ PySem.W.notFirst K C (.type t) = true
  sf : PySem.W.notFirst K C (.ref C) = true
theorem Ty0.mem {H : Hp} {v : V} {t : String} (h : Ty0 H v t) : t ∈ ["int", "tuple", "NoneType", "str", "list", "bool", "dict"] := by cases h <;> decide
theorem PTx.ty {P : Program} {K : PySem.W.Frag} {mg : Str → Option Value} {C CB fB CP fP CI fI : Addr} (T : PTx P K mg C CB fB CP fP CI fI) {H : Hp} {p : Addr} {ts : List Int} (h : PolyAt C H p ts) : TyX K H (.ref p) (.ref C) := by
  obtain ⟨dx, t, e, _⟩ := h
  exact .base (.ins e T.cl T.ha T.hn T.ht T.hm)
def spWhole0 (C : Addr) : Sp := fun vs H Q _ => ∃ (v : V), vs = [v] ∧ TyL C H v ∧ Q (.bl (isI v)) H
def spNeed (C CP : Addr) : Sp := fun vs H Q E => ∃ (v : V), vs = [v] ∧ TyL C H v ∧ (isI v = true → Q .non H) ∧ (isI v = false → Errs E CP "value" v H)
def spWend : Sp := fun vs H Q _ => ∃ (t : Addr) (ts : List Int), vs = [.ref t] ∧ H t = some (.tup (ts.map V.int)) ∧ ts.length ≤ 1000 ∧ ∀ r H', H' r = some (.tup ((trim ts).map V.int)) → Same H H' → Q (.ref r) H'
def spTermof (K : PySem.W.Frag) : Sp := fun vs H Q _ => ∃ (t : Addr) (ts : List Int) (k : Int), vs = [.ref t, .int k] ∧ H t = some (.tup (ts.map V.int)) ∧ 0 ≤ k ∧ Q (.int ((ts[k.toNat]?).getD 0)) H
/-- Poly.__init__(self, *terms) -/
def spPinit (C CB : Addr) : Sp := fun vs H Q E => ∃ (p dx tt : Addr) (xs : List V), vs = [.ref p, .ref tt] ∧ H p = some (.ins C dx []) ∧ H tt = some (.tup xs) ∧ xs.length ≤ 1000 ∧ (∀ v ∈ xs, TyL C H v) ∧
  (∀ ts, xs = ts.map V.int → ∀ H', PolyAt C H' p (trim ts) → (∀ c o, H c = some o → c ≠ p → H' c = some o) → Q .non H') ∧
  (∀ (i : Nat) (v : V), xs[i]? = some v → isI v = false → (∀ (j : Nat) (u : V), j < i → xs[j]? = some u → isI u = true) → Errs E CB "at" (.int (i : Nat)) H)
/-- Poly(..), its arguments one by one -/
def spPoly (C CB : Addr) : Sp := fun vs H Q E => ∃ (p dx : Addr) (xs : List V), vs = .ref p :: xs ∧ H p = some (.ins C dx []) ∧ xs.length ≤ 1000 ∧ (∀ v ∈ xs, TyL C H v) ∧
  (∀ ts, xs = ts.map V.int → ∀ H', PolyAt C H' p (trim ts) → (∀ c o, H c = some o → c ≠ p → H' c = some o) → Q .non H') ∧
  (∀ (i : Nat) (v : V), xs[i]? = some v → isI v = false → (∀ (j : Nat) (u : V), j < i → xs[j]? = some u → isI u = true) → Errs E CB "at" (.int (i : Nat)) H)
def spPof (K : PySem.W.Frag) (C CB : Addr) : Sp := fun vs H Q E => ∃ (t : Addr) (xs : List V), vs = [.ref C, .ref t] ∧ (SqT K H t xs ∨ SqL K H t xs) ∧ xs.length ≤ 1000 ∧ (∀ v ∈ xs, TyL C H v) ∧
  (∀ ts, xs = ts.map V.int → ∀ q H', PolyAt C H' q (trim ts) → Same H H' → Q (.ref q) H') ∧
  (∀ (i : Nat) (v : V), xs[i]? = some v → isI v = false → (∀ (j : Nat) (u : V), j < i → xs[j]? = some u → isI u = true) → Errs E CB "at" (.int (i : Nat)) H)
/-- a new Poly -/
theorem poly_at {C CB : Addr} {H : Hp} {x dx : Addr} {xs : List V} {R : Addr → Hp → Prop} {E : XK} (hl : xs.length ≤ 1000) (ty : ∀ v ∈ xs, TyL C H v) (hx : H x = none) (hd : H dx = none) (ne : dx ≠ x) (k1 : ∀ ts, xs = ts.map V.int → ∀ q H', PolyAt C H' q (trim ts) → Same H H' → R q H')
    (k2 : ∀ (i : Nat) (v : V), xs[i]? = some v → isI v = false → (∀ (j : Nat) (u : V), j < i → xs[j]? = some u → isI u = true) → Errs E CB "at" (.int (i : Nat)) H) :
    spPoly C CB (.ref x :: xs) (upd (upd H dx (.own x)) x (.ins C dx [])) (fun v H2 => v = .non ∧ R x H2) E := by
  have s0 : Same H (upd (upd H dx (.own x)) x (.ins C dx [])) := fun b o e => by
    rw [upd_ne (ne_of_none e hx), upd_ne (ne_of_none e hd)]
    exact e
  exact ⟨x, dx, xs, rfl, upd_same, hl, fun v hv => (ty v hv).same s0, fun ts e H' po kp => ⟨rfl, k1 ts e x H' po fun c o e' => kp c o (s0 _ _ e') (ne_of_none e' hx)⟩, fun i v e1 e2 e3 => (k2 i v e1 e2 e3).up s0⟩
theorem ints_of : ∀ xs : List V, (∀ v ∈ xs, isI v = true) → ∃ ts : List Int, xs = ts.map V.int
  | [], _ => ⟨[], rfl⟩
  | x :: xs, h => by
    obtain ⟨ts, e⟩ := ints_of xs fun v hv => h v (List.mem_cons_of_mem _ hv)
    obtain ⟨i, ei⟩ := isI_int (h x List.mem_cons_self)
    exact ⟨i :: ts, by rw [e, ei]; rfl⟩
def evl (ts : List Int) (m : Int) : Int := ts.reverse.foldl (fun f t => f * m + t) 0
def spPcall (C CP : Addr) : Sp := fun vs H Q E => ∃ (p : Addr) (ts : List Int) (v : V), vs = [.ref p, v] ∧ PolyAt C H p ts ∧ ts.length ≤ 1000 ∧ TyL C H v ∧ (∀ m, v = .int m → (∀ k, k ≤ ts.length → CMulW ((ts.reverse.take k).foldl (fun f t => f * m + t) 0) m) ∧ ∀ H', Same H H' → Q (.int (evl ts m)) H') ∧ (isI v = false → Errs E CP "value" v H)
def spPget (C CI : Addr) : Sp := fun vs H Q E => ∃ (p : Addr) (ts : List Int) (v : V), vs = [.ref p, v] ∧ PolyAt C H p ts ∧ TyL C H v ∧ (∀ k, v = .int k → 0 ≤ k → Q (.int ((ts[k.toNat]?).getD 0)) H) ∧ ((isI v = false ∨ ∃ k, v = .int k ∧ k < 0) → Errs E CI "value" v H)
def spPeq (C : Addr) : Sp := fun vs H Q _ => ∃ (p : Addr) (ts : List Int) (v : V), vs = [.ref p, v] ∧ PolyAt C H p ts ∧ ts.length ≤ 1000 ∧ ((∃ q us, v = .ref q ∧ PolyAt C H q us ∧ us.length ≤ 1000 ∧ Q (.bl (decide (ts = us))) H) ∨ ((∃ t, Ty0 H v t) ∧ Q (.bl false) H))
def spPbool (C : Addr) : Sp := fun vs H Q _ => ∃ (p : Addr) (ts : List Int), vs = [.ref p] ∧ PolyAt C H p ts ∧ Q (.bl (!ts.isEmpty)) H
section
variable {P : Program} {w : World} {K : PySem.W.Frag} {mg : Str → Option Value} {base : Heap} {C CB fB CP fP CI fI : Addr}
theorem ok_whole0 {f : Addr} {fd : FuncData} (F : Fun K "is_whole" "is_whole" s_whole0 f fd) (T : PTx P K mg C CB fB CP fP CI fI) : FnOk P w K mg base CX0 1 f fd ["value"] (spWhole0 C) := by
  refine F.ok sc_whole0 (fun vs H Q E h => ?_) (fun cdv A outer s H vs Q E hr h => ?_)
  · obtain ⟨v, rfl, _⟩ := h
    rfl
  · obtain ⟨v, rfl, ty, q⟩ := h
    refine ⟨_, (pss_one (ps_ret (pe_and (pe_callB call_isi (by rfl) T.z_isinstance boot_isinstance (pa_cons (pv 0) (pa_cons (pe_bltn (v := .ty "int") (by rfl) T.z_int boot_int rfl) pa_nil))) (pe_one (pe_not (pe_callB call_isi (by rfl) T.z_isinstance boot_isinstance (pa_cons (pv 0) (pa_cons (pe_bltn (v := .ty "bool") (by rfl) T.z_bool boot_bool rfl) pa_nil)))))))), ?_⟩
    rcases ty with ⟨t, ty⟩ | ⟨a, dx, fs, rfl, ea⟩
    case inr => exact ⟨_, rfl, _, _, _, _, false, rfl, .ty _, .base (.ins ea T.cl T.ha T.hn T.ht T.hm), T.noInt, _, rfl, iteF q⟩
    obtain ⟨b, e1, e2, e3⟩ := ty.kint (K := K)
    refine ⟨_, rfl, v, _, _, _, b, rfl, .ty _, ty.tyx, e1, _, rfl, ?_⟩
    cases b with
    | false =>
      refine iteF ?_
      rw [e3 rfl] at q
      exact q
    | true =>
      refine iteT ?_
      obtain ⟨c, e4, e5⟩ := e2 rfl
      refine ⟨_, rfl, v, _, _, _, c, rfl, .ty _, ty.tyx, e4, _, rfl, ?_⟩
      rw [e5] at q
      exact q
theorem ok_needint {f : Addr} {fd : FuncData} (F : Fun K "need_integer" "need_integer" s_needint f fd) (T : PTx P K mg C CB fB CP fP CI fI) (D_whole0 : DefAt P w K mg base CX0 1 "is_whole" ["value"] (spWhole0 C)) : FnOk P w K mg base (L2.CX P w) 2 f fd ["value"] (spNeed C CP) := by
  refine F.okX sc_needint (fun vs H Q E h => ?_) (fun cdv A outer s H vs Q E hr h => ?_)
  · obtain ⟨v, rfl, _⟩ := h
    rfl
  · obtain ⟨v, rfl, ty, k1, k2⟩ := h
    refine ⟨_, (pss_one (ps_if (pt_not (pt_val (My.pe_d D_whole0 (hr.mono (by decide)) (by rfl) pass0 (pa_cons (pv 0) pa_nil)))) (pss_one (ps_raise1 rfl T.e_BadPlace (hr.mono (by decide) : Room 0 _) (takes_of rfl rfl rfl rfl) (pa_cons (pv 0) pa_nil))) pss_nil)), ?_⟩
    refine ⟨_, rfl, v, rfl, ty, _, rfl, ?_⟩
    cases e : isI v with
    | true => exact iteF (k1 e)
    | false => exact iteT ⟨_, rfl, _, rfl, fun d hd => (k2 e).go hd⟩
theorem ok_wend {f : Addr} {fd : FuncData} (F : Fun K "without_end" "without_end" s_wend f fd) (T : PTx P K mg C CB fB CP fP CI fI) : FnOk P w K mg base CX0 1 f fd ["terms"] spWend := by
  refine F.ok sc_wend (fun vs H Q E h => ?_) (fun cdv A outer s H vs Q E hr h => ?_)
  · obtain ⟨t, ts, rfl, _⟩ := h
    rfl
  · obtain ⟨t, ts, rfl, ht, hl, k⟩ := h
    refine ⟨_, (pss_cons (ps_set (i := 1) sc_wend.nd rfl (Or.inl rfl) (pe_callB call_len (by rfl) T.z_len PySem.boot_len (pa_cons (pv 0) pa_nil)))
      (pss_cons (ps_while PassesOwn.never (PW.pt (pw_and (pt_cmpR op_gt (pv 1) pe_int (nomark _)) (pw_and1 (pt_cmpR op_eq (pe_ix ix_tup (pv 0) (pe_op op_sub (pv 1) pe_int) (fun _ _ => rfl)) pe_int (nomark _))))) (pss_one (ps_aug (i := 1) sc_wend.nd rfl (Or.inl rfl) pe_int ip_sub (Or.inr rfl))))
      (pss_one (ps_ret (pe_callTy call_tupleT (by rfl) T.z_tuple boot_tuple (pa_cons (pe_slice sl_tupA (pv 0) po_none (po_some (pv 1))) pa_nil)))))), ?_⟩
    refine ⟨_, rfl, _, _, rfl, .inr ⟨_, SqT.of ht, rfl⟩, ?_⟩
    have el : (ts.map V.int).length = ts.length := List.length_map ..
    refine while_by (fun σ Hz => Hz = H ∧ ∃ m : Nat, σ = [some (.ref t), some (.int (m : Nat))] ∧ m ≤ ts.length ∧ tl ts m = tl ts ts.length) (fun σ _ => match σ with | [_, some (.int y)] => y.toNat | _ => 0) ?_ ?_ ?_
    · exact ⟨rfl, (ts.map V.int).length, rfl, by omega, by rw [el]⟩
    · rintro σ Hz ⟨rfl, m, rfl, hm, e⟩
      refine ⟨_, rfl, _, _, rfl, rfl, _, rfl, ?_⟩
      refine ite2 (fun c => ?_) (fun c => iteF ?_)
      · have m0 : 0 < m := by
          have := of_decide_eq_true c
          omega
        obtain ⟨x, hx⟩ : ∃ x, ts[m - 1]? = some x := ⟨_, List.getElem?_eq_getElem (by omega)⟩
        have ea : atI (ts.map V.int) ((m : Int) - 1) = some (.int x) := at_of (j := m - 1) (by omega) (by rw [List.getElem?_map, hx]; rfl)
        refine ⟨_, rfl, _, rfl, _, _, rfl, rfl, t, _, _, .int x, rfl, rfl, SqT.of ht, ea, rfl, _, rfl, ?_⟩
        obtain ⟨k', rfl⟩ : ∃ k', m = k' + 1 := ⟨m - 1, by omega⟩
        have hx' : ts[k']? = some x := hx
        refine ite2 (fun c2 => ?_) (fun c2 => ?_)
        · have x0 : x = 0 := V.int.inj (of_decide_eq_true c2)
          refine ⟨_, rfl, _, _, rfl, rfl, ⟨rfl, k', ?_, by omega, ?_⟩, ?_⟩
          · show [_, some (V.int (((k' + 1 : Nat) : Int) - 1))] = _
            have e1 : (((k' + 1 : Nat) : Int) - 1) = (k' : Int) := by omega
            rw [e1]
          · rw [← e]
            show _ = (if ts[k']? = some 0 then tl ts k' else k' + 1)
            rw [hx', x0, if_pos rfl]
          · show ((((k' + 1 : Nat) : Int) - 1)).toNat < (((k' + 1 : Nat) : Int)).toNat
            omega
        · have x0 : ¬ x = 0 := fun z => c2 (decide_eq_true (by rw [z]))
          have em : tl ts (k' + 1) = k' + 1 := by
            show (if ts[k']? = some 0 then tl ts k' else k' + 1) = k' + 1
            rw [hx', if_neg (fun z => x0 (Option.some.inj z))]
          refine ⟨_, rfl, _, rfl, ((k' + 1 : Nat) : Int), rfl, t, _, rfl, SqT.of ht, fun w => ⟨t, _, rfl, SqT.of ht, k t Hz (trim_all w.2 e em ▸ ht) (fun _ _ e => e)⟩, fun w p hp => ⟨p, _, rfl, SqT.of upd_same, k p _ ?_ (same_new hp)⟩⟩
          rw [upd_same, cut_ints]
          unfold trim
          rw [← e, em]
      · have m0 : m = 0 := by
          by_cases z : m = 0
          · exact z
          · exact absurd (decide_eq_true (show (0 : Int) < (m : Int) by omega)) c
        have em : tl ts m = m := by
          rw [m0]
          rfl
        refine ⟨_, rfl, _, rfl, (m : Int), rfl, t, _, rfl, SqT.of ht, fun w => ⟨t, _, rfl, SqT.of ht, k t Hz (trim_all w.2 e em ▸ ht) (fun _ _ e => e)⟩, fun w p hp => ⟨p, _, rfl, SqT.of upd_same, k p _ ?_ (same_new hp)⟩⟩
        rw [upd_same, cut_ints]
        unfold trim
        rw [← e, em]
    · intro σ Hz Q1 Q2 hm h
      obtain ⟨v, e, i, j, e1, e2, b, e3, h⟩ := h
      refine ⟨v, e, i, j, e1, e2, b, e3, ?_⟩
      cases b with
      | false =>
        rw [if_neg Bool.false_ne_true] at h ⊢
        exact hm _ _ h
      | true =>
        rw [if_pos rfl] at h ⊢
        obtain ⟨v1, g1, v2, g2, i1, j1, g3, g4, p1, xs1, k1, v3, g5, g6, g7, g8, g9, b1, g10, h⟩ := h
        exact ⟨v1, g1, v2, g2, i1, j1, g3, g4, p1, xs1, k1, v3, g5, g6, g7, g8, g9, b1, g10, hm _ _ h⟩
theorem ok_termof {f : Addr} {fd : FuncData} (F : Fun K "term_of" "term_of" s_termof f fd) (T : PTx P K mg C CB fB CP fP CI fI) : FnOk P w K mg base CX0 1 f fd ["terms", "k"] (spTermof K) := by
  refine F.ok sc_termof (fun vs H Q E h => ?_) (fun cdv A outer s H vs Q E hr h => ?_)
  · obtain ⟨t, ts, k, rfl, _⟩ := h
    rfl
  · obtain ⟨t, ts, k, rfl, ht, k0, q⟩ := h
    refine ⟨_, (pss_one (ps_ret (pe_ifExp (pt_cmpR op_lt (pv 1) (pe_callB call_len (by rfl) T.z_len PySem.boot_len (pa_cons (pv 0) pa_nil)) (nomark _)) (pe_ix ix_tup (pv 0) (pv 1) (fun _ _ => rfl)) pe_int))), ?_⟩
    refine ⟨_, rfl, _, rfl, _, _, rfl, .inr ⟨_, SqT.of ht, rfl⟩, _, _, rfl, rfl, _, rfl, ?_⟩
    refine ite2 (fun c => ?_) (fun c => ?_)
    · have lt : k < ((ts.map V.int).length : Int) := of_decide_eq_true c
      rw [List.length_map] at lt
      obtain ⟨x, hx⟩ : ∃ x, ts[k.toNat]? = some x := ⟨_, List.getElem?_eq_getElem (by omega)⟩
      have ea : atI (ts.map V.int) k = some (.int x) := at_of (j := k.toNat) (by omega) (by rw [List.getElem?_map, hx]; rfl)
      rw [hx] at q
      exact ⟨_, rfl, _, rfl, t, _, _, .int x, rfl, rfl, SqT.of ht, ea, q⟩
    · have ge : ¬ k < ((ts.map V.int).length : Int) := fun z => c (decide_eq_true z)
      rw [List.length_map] at ge
      rw [List.getElem?_eq_none (by omega)] at q
      exact q
theorem ok_pinit {f : Addr} {fd : FuncData} {oc : Value} {od : Option Addr} {kV doc pm : Value} {an : Option Addr} {cdv ct : Value} {osl : Array (Option Value)} (lk : K.lookup f = some ⟨oc, od, .func (PySem.W.fnOf "__init__" "Poly.__init__" (defArgs s_pinit) (defBody s_pinit) (defScope s_pinit) .none kV doc pm an cdv ct), osl⟩) (hcd : PySem.W.codeIn K cdv "Poly.__init__" = true)
    (T : PTx P K mg C CB fB CP fP CI fI) (D_whole0 : DefAt P w K mg base CX0 1 "is_whole" ["value"] (spWhole0 C)) (D_wend : DefAt P w K mg base CX0 1 "without_end" ["terms"] spWend) : FnR P w K mg base (L2.CX P w) 3 f (spPoly C CB) := by
  have R := StX.fn_star (CX := L2.CX P w) (P := P) (w := w) (mg := mg) (base := base) (k := 2) (ps := ["self"]) (sp := spPinit C CB) lk hcd sc_pinit StX.cxUp (StX.bind_star1 (B := fun us => bindArgs (PySem.W.fnOf "__init__" "Poly.__init__" (defArgs s_pinit) (defBody s_pinit) (defScope s_pinit) .none kV doc pm an cdv ct) ⟨us, []⟩) (p1 := "self") (pv := "terms") (fun _ => rfl) (fun _ _ _ => rfl)) (fun A outer s H vs Q E hr h => ?_)
  · refine R.imp fun vs H Q E h => ?_
    obtain ⟨p, dx, xs, rfl, hp, hl, ty, k1, k2⟩ := h
    refine ⟨[.ref p], xs, rfl, rfl, by rw [sizeLine_eq]; omega, fun tt htt => ?_⟩
    have st := same_new (o := .tup xs) htt
    exact ⟨p, dx, tt, xs, rfl, st _ _ hp, upd_same, hl, fun v hv => (ty v hv).same st, fun ts e H' po kp => k1 ts e H' po fun c o e' n => kp c o (st _ _ e') n, fun i v e1 e2 e3 => (k2 i v e1 e2 e3).up st⟩
  · obtain ⟨p, dx, tt, xs, rfl, hp, htt, hl, ty, k1, k2⟩ := h
    refine ⟨_, (pss_cons (ps_for (passes_of rfl) rfl (My.pi_enumT (by rfl) T.z_enumerate (pa_cons (pv 1) pa_nil)) (pg_tup rfl (pgs_cons (pg_name (i := 2) sc_pinit.nd rfl (Or.inl rfl)) (pgs_cons (pg_name (i := 3) sc_pinit.nd rfl (Or.inl rfl)) pgs_nil))) (pss_one (ps_if (pt_not (pt_val (My.pe_d D_whole0 (hr.mono (by decide)) (by rfl) pass0 (pa_cons (pv 3) pa_nil)))) (pss_one (ps_raise1 rfl T.e_BadPoly (hr.mono (by decide) : Room 0 _) (takes_of rfl rfl rfl rfl) (pa_cons (pv 2) pa_nil))) pss_nil)))
      (pss_cons (ps_fld (pv 0) (My.pe_d D_wend (hr.mono (by decide)) (by rfl) pass0 (pa_cons (pv 1) pa_nil)) rfl)
      (pss_one (ps_fld (pv 0) (pe_op op_sub (pe_callB call_len (by rfl) T.z_len PySem.boot_len (pa_cons (pe_fld (pv 0) rfl) pa_nil)) pe_int) rfl)))), ?_⟩
    refine ⟨_, rfl, tt, _, rfl, SqT.of htt, for_enumT (K := K) (a := tt) (xs := xs) (fun i σ H' => ∃ v2 v3, σ = [some (.ref p), some (.ref tt), v2, v3] ∧ Same H H' ∧ ∀ (j : Nat) (u : V), j < i → xs[j]? = some u → isI u = true) ⟨none, none, rfl, fun _ _ e => e, fun j u z => absurd z (Nat.not_lt_zero _)⟩ (fun i σ H' _ hh => by obtain ⟨_, _, _, s, _⟩ := hh; exact SqT.of (s _ _ htt)) ?_ ?_⟩
    · rintro i x σ H' T' hx ⟨v2, v3, rfl, sh, al⟩ hT
      have s2 := sh.trans (same_new (o := .tup [.int (i : Nat), x]) hT)
      refine ⟨T', _, rfl, SqT.of upd_same, rfl, _, _, rfl, _, _, rfl, rfl, ?_⟩
      refine ⟨_, rfl, x, rfl, (ty x (List.mem_of_getElem? hx)).same s2, _, rfl, ?_⟩
      cases e : isI x with
      | false => exact iteT ⟨_, rfl, _, rfl, fun d hd => ((k2 i x hx e al).up s2).go hd⟩
      | true =>
        refine iteF ⟨_, _, rfl, s2, fun j u hj hu => ?_⟩
        by_cases z : j = i
        · rw [z, hx] at hu
          cases hu
          exact e
        · exact al j u (by omega) hu
    · rintro σ H' ⟨v2, v3, rfl, sh, al⟩
      obtain ⟨ts, rfl⟩ := ints_of xs fun v hv => by
        obtain ⟨j, hj⟩ := List.getElem?_of_mem hv
        exact al j v (List.getElem?_eq_some_iff.mp hj).1 hj
      rw [List.length_map] at hl
      refine ⟨_, rfl, tt, ts, rfl, sh _ _ htt, hl, fun r H2 hr2 s2 => ?_⟩
      have hp2 := s2 _ _ (sh _ _ hp)
      refine ⟨_, rfl, p, C, dx, _, rfl, hp2, T.cl, T.nT, (by show 0 < 1000; decide), ?_⟩
      have rp : r ≠ p := ne_of hr2 hp2 (by intro z; cases z)
      have hr3 : (upd H2 p (.ins C dx (putF "terms" (.ref r) []))) r = some (.tup ((trim ts).map V.int)) := by
        rw [upd_ne rp]
        exact hr2
      refine ⟨_, rfl, p, C, dx, _, .ref r, rfl, upd_same, T.cl, T.nT, (by rw [lookup_putF, if_pos rfl]), .ref r, (trim ts).length, rfl, .inr ⟨_, SqT.of hr3, (List.length_map ..).symm⟩, _, _, rfl, rfl, _, rfl, p, C, dx, _, rfl, upd_same, T.cl, T.nD, (by show 1 < 1000; decide), ?_⟩
      refine k1 ts rfl _ ⟨dx, r, upd_same, ?_⟩ fun c o e n => ?_
      · rw [upd_ne rp]
        exact hr3
      · rw [upd_ne n, upd_ne n]
        exact s2 _ _ (sh _ _ e)
theorem ok_pof {f : Addr} {fd : FuncData} (F : Fun K "of" "Poly.of" s_pof f fd) (T : PTx P K mg C CB fB CP fP CI fI) (M_Poly : MakeR P w K mg base (L2.CX P w) 3 "Poly" C (spPoly C CB)) : FnOk P w K mg base (L2.CX P w) 5 f fd ["cls", "terms"] (spPof K C CB) := by
  refine F.okX sc_pof (fun vs H Q E h => ?_) (fun cdv A outer s H vs Q E hr h => ?_)
  · obtain ⟨t, xs, rfl, _⟩ := h
    rfl
  · obtain ⟨t, xs, rfl, ht, hl, ty, k1, k2⟩ := h
    refine ⟨_, (pss_one (ps_ret (My.pe_mkS M_Poly (hr.mono (by decide)) (by rfl) (passes_call (takes_of rfl rfl rfl rfl) (fun _ _ _ _ h => h)) (pv 1)))), ?_⟩
    exact ⟨_, rfl, t, xs, rfl, ht, fun x dx hx hd ne => poly_at hl ty hx hd ne k1 k2⟩
theorem ok_pcall {f : Addr} {fd : FuncData} (F : Fun K "__call__" "Poly.__call__" s_pcall f fd) (T : PTx P K mg C CB fB CP fP CI fI) (D_needint : DefAt P w K mg base (L2.CX P w) 2 "need_integer" ["value"] (spNeed C CP)) : FnOk P w K mg base (L2.CX P w) 3 f fd ["self", "m"] (spPcall C CP) := by
  refine F.okX sc_pcall (fun vs H Q E h => ?_) (fun cdv A outer s H vs Q E hr h => ?_)
  · obtain ⟨p, ts, v, rfl, _⟩ := h
    rfl
  · obtain ⟨p, ts, v, rfl, ⟨dx, t, hp, ht⟩, hl, ty, k1, k2⟩ := h
    refine ⟨_, (pss_cons (ps_expr (My.pe_d D_needint (hr.mono (by decide)) (by rfl) (passes_call (takes_of rfl rfl rfl rfl) (fun _ _ _ _ h => h)) (pa_cons (pv 1) pa_nil)))
      (pss_cons (ps_set (i := 2) sc_pcall.nd rfl (Or.inl rfl) pe_int)
      (pss_cons (ps_for (passes_of rfl) rfl (pi_tup (My.pe_revT (pe_fld (pv 0) rfl))) (pg_name (i := 3) sc_pcall.nd rfl (Or.inl rfl)) (pss_one (ps_set (i := 2) sc_pcall.nd rfl (Or.inl rfl) (pe_op op_add (pe_op op_mulW (pv 2) (pv 1)) (pv 3)))))
      (pss_one (ps_ret (pv 2)))))), ?_⟩
    refine ⟨_, rfl, v, rfl, ty, fun e => ?_, fun e => k2 e⟩
    obtain ⟨m, rfl⟩ := isI_int e
    obtain ⟨cm, k1⟩ := k1 m rfl
    refine ⟨_, rfl, p, C, dx, _, .ref t, rfl, hp, T.cl, T.nT, pfs_terms _ _, t, _, rfl, SqT.of ht, fun q hq => ?_⟩
    have er : (ts.map V.int).reverse = ts.reverse.map V.int := (List.map_reverse ..).symm
    rw [er]
    refine ⟨q, rfl, ⟨_, SqT.of upd_same⟩, for_tup (K := K) (a := q) (xs := ts.reverse.map V.int) (fun i σ H' => ∃ v3, σ = [some (.ref p), some (.int m), some (.int ((ts.reverse.take i).foldl (fun f t => f * m + t) 0)), v3] ∧ H' = upd H q (.tup (ts.reverse.map V.int))) ⟨none, rfl, rfl⟩ (fun i σ H' _ hh => by obtain ⟨_, _, rfl⟩ := hh; exact SqT.of upd_same) ?_ ?_⟩
    · rintro i x σ H' hi ⟨v3, rfl, rfl⟩
      obtain ⟨y, hy, rfl⟩ := at_int hi
      have il : i ≤ ts.length := by
        have := (List.getElem?_eq_some_iff.mp hy).1
        rw [List.length_reverse] at this
        omega
      refine ⟨_, rfl, _, rfl, _, _, rfl, rfl, cm i il, _, rfl, _, _, rfl, rfl, ?_⟩
      refine ⟨some (.int y), ?_, rfl⟩
      rw [take1 hy, List.foldl_append]
      rfl
    · rintro σ H' ⟨v3, rfl, rfl⟩
      refine ⟨_, rfl, ?_⟩
      rw [List.length_map, List.take_length]
      exact k1 _ (same_new hq)
theorem ok_pget {f : Addr} {fd : FuncData} (F : Fun K "__getitem__" "Poly.__getitem__" s_pget f fd) (T : PTx P K mg C CB fB CP fP CI fI) (D_whole0 : DefAt P w K mg base CX0 1 "is_whole" ["value"] (spWhole0 C)) (D_termof : DefAt P w K mg base CX0 1 "term_of" ["terms", "k"] (spTermof K)) : FnOk P w K mg base (L2.CX P w) 2 f fd ["self", "k"] (spPget C CI) := by
  refine F.okX sc_pget (fun vs H Q E h => ?_) (fun cdv A outer s H vs Q E hr h => ?_)
  · obtain ⟨p, ts, v, rfl, _⟩ := h
    rfl
  · obtain ⟨p, ts, v, rfl, ⟨dx, t, hp, ht⟩, ty, k1, k2⟩ := h
    refine ⟨_, (pss_cons (ps_if (PW.pt (pw_or (pt_not (pt_val (My.pe_d D_whole0 (hr.mono (by decide)) (by rfl) pass0 (pa_cons (pv 1) pa_nil)))) (pw_or1 (pt_cmpR op_lt (pv 1) pe_int (nomark _))))) (pss_one (ps_raise1 rfl T.e_NoIndex (hr.mono (by decide) : Room 0 _) (takes_of rfl rfl rfl rfl) (pa_cons (pv 1) pa_nil))) pss_nil)
      (pss_one (ps_ret (My.pe_d D_termof (hr.mono (by decide)) (by rfl) pass0 (pa_cons (pe_fld (pv 0) rfl) (pa_cons (pv 1) pa_nil)))))), ?_⟩
    refine ⟨_, rfl, v, rfl, ty, _, rfl, ?_⟩
    cases e : isI v with
    | false => exact iteT (iteT ⟨_, rfl, _, rfl, fun d hd => (k2 (.inl e)).go hd⟩)
    | true =>
      obtain ⟨i, rfl⟩ := isI_int e
      refine iteF ⟨_, rfl, _, _, rfl, rfl, _, rfl, ?_⟩
      refine ite2 (fun c => ?_) (fun c => ?_)
      · exact ⟨_, rfl, _, rfl, fun d hd => (k2 (.inr ⟨i, rfl, of_decide_eq_true c⟩)).go hd⟩
      · have i0 : 0 ≤ i := by
          by_cases z : i < 0
          · exact absurd (decide_eq_true z) c
          · omega
        exact ⟨_, rfl, p, C, dx, _, .ref t, rfl, hp, T.cl, T.nT, pfs_terms _ _, _, rfl, t, ts, i, rfl, ht, i0, k1 i rfl i0⟩
theorem eqv_ints : ∀ ts us : List Int, PyData.eqvAll (ts.map PyData.int) (us.map PyData.int) = decide (ts = us)
  | [], [] => rfl
  | [], u :: us => rfl
  | t :: ts, [] => rfl
  | t :: ts, u :: us => by
    show (t == u && PyData.eqvAll (ts.map PyData.int) (us.map PyData.int)) = _
    rw [eqv_ints ts us]
    by_cases h1 : t = u
    · by_cases h2 : ts = us
      · subst h1
        subst h2
        simp
      · simp [h1, h2]
    · simp [h1]
theorem shaped_tup (ns : List Int) : SeqAt.shaped (.tuple (ns.map PyData.int)) = true := by
  show (PyData.canLayAll0 (ns.map PyData.int) && decide (PyData.depthAll (ns.map PyData.int) + 1 ≤ 64)) = true
  rw [lay_ints, dep_ints]
  rfl
theorem ok_peq {f : Addr} {fd : FuncData} (F : Fun K "__eq__" "Poly.__eq__" s_peq f fd) (T : PTx P K mg C CB fB CP fP CI fI) : FnOk P w K mg base CX0 1 f fd ["self", "other"] (spPeq C) := by
  refine F.ok sc_peq (fun vs H Q E h => ?_) (fun cdv A outer s H vs Q E hr h => ?_)
  · obtain ⟨p, ts, v, rfl, _⟩ := h
    rfl
  · obtain ⟨p, ts, v, rfl, ⟨dx, t, hp, ht⟩, hl, h⟩ := h
    refine ⟨_, (pss_one (ps_ret (pe_and (pe_callB call_isi (by rfl) T.z_isinstance boot_isinstance (pa_cons (pv 1) (pa_cons (pe_glob (v := .ref C) (by rfl) T.gP rfl) pa_nil))) (pe_one (pe_cmpR (op_eqD hr.units) (pe_fld (pv 0) rfl) (pe_fld (pv 1) rfl) (nomark _)))))), ?_⟩
    rcases h with ⟨q, us, rfl, hq, ul, k⟩ | ⟨⟨ty, hty⟩, k⟩
    · obtain ⟨dq, tq, eq, etq⟩ := id hq
      refine ⟨_, rfl, _, _, _, _, true, rfl, .own _, T.ty hq, T.me, _, rfl, iteT ?_⟩
      refine ⟨_, rfl, p, C, dx, _, .ref t, rfl, hp, T.cl, T.nT, pfs_terms _ _, _, rfl, q, C, dq, _, .ref tq, rfl, eq, T.cl, T.nT, pfs_terms _ _, ?_⟩
      refine ⟨.tuple (ts.map PyData.int), .tuple (us.map PyData.int), .tup (SqT.of ht) (dp_ints ts), .tup (SqT.of etq) (dp_ints us), shaped_tup ts, shaped_tup us, ?_⟩
      have e : PyData.eqv (.tuple (ts.map PyData.int)) (.tuple (us.map PyData.int)) = decide (ts = us) := eqv_ints ts us
      rw [e]
      exact k
    · exact ⟨_, rfl, _, _, _, _, false, rfl, .own _, hty.tyx, (T.kn _ hty.mem).1, _, rfl, iteF k⟩
theorem ok_pbool {f : Addr} {fd : FuncData} (F : Fun K "__bool__" "Poly.__bool__" s_pbool f fd) (T : PTx P K mg C CB fB CP fP CI fI) : FnOk P w K mg base CX0 1 f fd ["self"] (spPbool C) := by
  refine F.ok sc_pbool (fun vs H Q E h => ?_) (fun cdv A outer s H vs Q E hr h => ?_)
  · obtain ⟨p, ts, rfl, _⟩ := h
    rfl
  · obtain ⟨p, ts, rfl, ⟨dx, t, hp, ht⟩, k⟩ := h
    refine ⟨_, (pss_one (ps_ret (pe_callTy My.call_boolT (by rfl) T.z_bool boot_bool (pa_cons (pe_fld (pv 0) rfl) pa_nil)))), ?_⟩
    refine ⟨_, rfl, p, C, dx, _, .ref t, rfl, hp, T.cl, T.nT, pfs_terms _ _, t, _, rfl, SqT.of ht, ?_⟩
    rw [List.isEmpty_map]
    exact k
end
end My
set_option exponentiation.threshold 5000
/-! Terms without zeros at the end; values by Horner's way. -/
namespace My
theorem tl_app (ts us : List Int) : ∀ k, k ≤ ts.length → tl (ts ++ us) k = tl ts k
  | 0, _ => rfl
  | k + 1, h => by
    unfold tl
    rw [List.getElem?_append_left (by omega), tl_app ts us k (by omega)]
theorem trim_zeros (ts : List Int) : trim (ts ++ [0, 0]) = trim ts := by
  unfold trim
  have e : tl (ts ++ [0, 0]) (ts ++ [0, 0]).length = tl ts ts.length := by
    rw [List.length_append]
    show tl (ts ++ [0, 0]) (ts.length + 1 + 1) = _
    have h1 : (ts ++ [0, 0])[ts.length + 1]? = some 0 := by
      rw [List.getElem?_append_right (by omega)]
      simp
    have h2 : (ts ++ [0, 0])[ts.length]? = some 0 := by
      rw [List.getElem?_append_right (by omega)]
      simp
    rw [tl, if_pos h1, tl, if_pos h2, tl_app ts _ _ (Nat.le_refl _)]
  rw [e, List.take_append_of_le_length (tl_le ts _)]
theorem trim_one (ts : List Int) : trim (ts ++ [1]) = ts ++ [1] := by
  unfold trim
  have e : tl (ts ++ [1]) (ts ++ [1]).length = (ts ++ [1]).length := by
    rw [List.length_append]
    show tl (ts ++ [1]) (ts.length + 1) = ts.length + 1
    have h1 : (ts ++ [1])[ts.length]? = some 1 := by
      rw [List.getElem?_append_right (by omega)]
      simp
    rw [tl, if_neg (by rw [h1]; intro z; cases z)]
  rw [e, List.take_length]
theorem tl_last (ts : List Int) : ∀ k j, tl ts k = j + 1 → ts[j]? ≠ some 0
  | 0, j, h => by cases h
  | k + 1, j, h => by
    unfold tl at h
    split at h
    · exact tl_last ts k j h
    · rename_i c
      have e : k = j := by omega
      rw [← e]
      exact c
theorem trim_trim (ts : List Int) : trim (trim ts) = trim ts := by
  have hl := trim_len ts
  have key : tl (trim ts) (trim ts).length = (trim ts).length := by
    cases n : (trim ts).length with
    | zero => rfl
    | succ j =>
      have h1 : tl ts ts.length = j + 1 := by rw [← hl, n]
      have h2 := tl_last ts _ j h1
      have h3 : (trim ts)[j]? = ts[j]? := by
        unfold trim
        rw [List.getElem?_take, if_pos (by omega)]
      rw [tl, if_neg (by rw [h3]; exact h2)]
  show (trim ts).take (tl (trim ts) (trim ts).length) = trim ts
  rw [key, List.take_length]
theorem trim_ne_one (ts : List Int) : trim ts ≠ ts ++ [1] := fun z => by
  have h := trim_le ts
  rw [z, List.length_append] at h
  have e : ([1] : List Int).length = 1 := rfl
  omega
theorem evl_snoc (l : List Int) (m : Int) : evl (l ++ [0]) m = evl l m := by
  unfold evl
  rw [List.reverse_append]
  show List.foldl _ (0 * m + 0) l.reverse = _
  rw [Int.zero_mul, Int.add_zero]
theorem evl_tl (ts : List Int) (m : Int) : ∀ k, k ≤ ts.length → evl (ts.take (tl ts k)) m = evl (ts.take k) m
  | 0, _ => rfl
  | k + 1, h => by
    unfold tl
    split
    · rename_i c
      rw [evl_tl ts m k (by omega), List.take_add_one, c]
      exact (evl_snoc _ _).symm
    · rfl
theorem evl_trim (ts : List Int) (m : Int) : evl (trim ts) m = evl ts m := by
  unfold trim
  rw [evl_tl ts m _ (Nat.le_refl _), List.take_length]
theorem trim_mem {ts : List Int} {z : Int} (h : z ∈ trim ts) : z ∈ ts := List.mem_of_mem_take h
theorem horner_bd {m : Int} (hm : m.natAbs < 2 ^ 41) : ∀ (l : List Int) (a : Int) (B : Nat), 140 ≤ B → a.natAbs < 2 ^ B → (∀ z ∈ l, z.natAbs < 2 ^ 140) → (l.foldl (fun f t => f * m + t) a).natAbs < 2 ^ (B + 42 * l.length)
  | [], a, B, _, ha, _ => ha
  | z :: l, a, B, hB, ha, hl => by
    have h1 : (a * m).natAbs < 2 ^ (B + 41) := by
      rw [Int.natAbs_mul, Nat.pow_add]
      exact Nat.mul_lt_mul_of_lt_of_lt ha hm
    have h2 : z.natAbs < 2 ^ (B + 41) := Nat.lt_of_lt_of_le (hl z List.mem_cons_self) (Nat.pow_le_pow_right (by decide) (by omega))
    have h3 : (a * m + z).natAbs < 2 ^ (B + 42) := by
      have := Int.natAbs_add_le (a * m) z
      have e : (2 : Nat) ^ (B + 42) = 2 ^ (B + 41) * 2 := Nat.pow_succ ..
      omega
    have h4 := horner_bd hm l (a * m + z) (B + 42) (by omega) h3 fun x hx => hl x (List.mem_cons_of_mem _ hx)
    have e : B + 42 * (z :: l).length = B + 42 + 42 * l.length := by
      rw [List.length_cons]
      omega
    rw [e]
    exact h4
theorem take_bd {m : Int} {ts : List Int} (hm : m.natAbs < 2 ^ 41) (hl : ts.length ≤ 12) (ht : ∀ z ∈ ts, z.natAbs < 2 ^ 140) (k : Nat) : ((ts.reverse.take k).foldl (fun f t => f * m + t) 0).natAbs < 2 ^ 700 := by
  refine Nat.lt_of_lt_of_le (horner_bd hm (ts.reverse.take k) 0 140 (by decide) (by decide) fun z hz => ht z (List.mem_reverse.mp (List.mem_of_mem_take hz))) (Nat.pow_le_pow_right (by decide) ?_)
  have : (ts.reverse.take k).length ≤ ts.length := by
    rw [List.length_take, List.length_reverse]
    omega
  omega
theorem evl_bd {m : Int} {ts : List Int} (hm : m.natAbs < 2 ^ 41) (hl : ts.length ≤ 12) (ht : ∀ z ∈ ts, z.natAbs < 2 ^ 140) : (evl ts m).natAbs < 2 ^ 700 := by
  have h := take_bd hm hl ht ts.length
  rw [List.take_of_length_le (by rw [List.length_reverse]; exact Nat.le_refl _)] at h
  exact h
end My
/-! Coefficients: terms as a function, sums, products, values. -/
namespace My
def cf (ts : List Int) (k : Nat) : Int := (ts[k]?).getD 0
theorem cf_out {ts : List Int} {k : Nat} (h : ts.length ≤ k) : cf ts k = 0 := by
  unfold cf
  rw [List.getElem?_eq_none h]
  rfl
theorem tl_zero (ts : List Int) : ∀ n k, tl ts n ≤ k → k < n → n ≤ ts.length → ts[k]? = some 0
  | 0, k, _, h, _ => absurd h (Nat.not_lt_zero _)
  | n + 1, k, h1, h2, h3 => by
    unfold tl at h1
    split at h1
    · rename_i c
      by_cases e : k = n
      · rw [e]
        exact c
      · exact tl_zero ts n k h1 (by omega) (by omega)
    · omega
theorem cf_trim (ts : List Int) (k : Nat) : cf (trim ts) k = cf ts k := by
  unfold cf trim
  rw [List.getElem?_take]
  split
  · rfl
  · rename_i c
    by_cases h : k < ts.length
    · rw [tl_zero ts ts.length k (by omega) h (Nat.le_refl _)]
      rfl
    · rw [List.getElem?_eq_none (by omega)]
/-- no 0 at the end -/
def Tight (u : List Int) : Prop := ∀ j, u.length = j + 1 → cf u j ≠ 0
theorem trim_tight (ts : List Int) : Tight (trim ts) := fun j h => by
  rw [cf_trim]
  rw [trim_len] at h
  have h2 := tl_last ts _ j h
  have h3 : j < ts.length := by
    have := tl_le ts ts.length
    omega
  unfold cf
  rw [List.getElem?_eq_getElem h3] at h2 ⊢
  intro z
  exact h2 (congrArg some z)
theorem tight_le {u v : List Int} (hv : Tight v) (h : ∀ k, cf u k = cf v k) : v.length ≤ u.length := by
  cases n : v.length with
  | zero => exact Nat.zero_le _
  | succ j =>
    apply Classical.byContradiction
    intro c
    exact hv j n (by rw [← h j]; exact cf_out (by omega))
theorem tight_eq {u v : List Int} (hu : Tight u) (hv : Tight v) (h : ∀ k, cf u k = cf v k) : u = v := by
  have e : u.length = v.length := Nat.le_antisymm (tight_le hu fun k => (h k).symm) (tight_le hv h)
  refine List.ext_getElem e fun i h1 h2 => ?_
  have := h i
  unfold cf at this
  rw [List.getElem?_eq_getElem h1, List.getElem?_eq_getElem h2] at this
  exact this
theorem trim_eq {a b : List Int} (h : ∀ k, cf a k = cf b k) : trim a = trim b := tight_eq (trim_tight a) (trim_tight b) fun k => by rw [cf_trim, cf_trim, h]
theorem trim_is {u v : List Int} (hv : Tight v) (h : ∀ k, cf u k = cf v k) : trim u = v := tight_eq (trim_tight u) hv fun k => by rw [cf_trim, h]
theorem len_le {u : List Int} {n : Nat} (hu : Tight u) (h : ∀ k, n ≤ k → cf u k = 0) : u.length ≤ n := by
  cases e : u.length with
  | zero => exact Nat.zero_le _
  | succ j =>
    apply Classical.byContradiction
    intro c
    exact hu j e (h j (by omega))
theorem len_ge {u : List Int} {n : Nat} (h : cf u n ≠ 0) : n < u.length := by
  apply Classical.byContradiction
  intro c
  exact h (cf_out (by omega))
/-- f(0), .., f(n - 1) -/
def L (f : Nat → Int) (n : Nat) : List Int := (List.range n).map f
theorem L_len (f : Nat → Int) (n : Nat) : (L f n).length = n := by
  unfold L
  rw [List.length_map, List.length_range]
theorem L_succ (f : Nat → Int) (n : Nat) : L f (n + 1) = L f n ++ [f n] := by
  unfold L
  rw [List.range_succ, List.map_append]
  rfl
theorem cf_L (f : Nat → Int) (n k : Nat) : cf (L f n) k = if k < n then f k else 0 := by
  unfold cf L
  rw [List.getElem?_map]
  split
  · rename_i h
    rw [List.getElem?_range h]
    rfl
  · rename_i h
    rw [List.getElem?_eq_none (by rw [List.length_range]; omega)]
    rfl
def sumN (f : Nat → Int) : Nat → Int
  | 0 => 0
  | n + 1 => sumN f n + f n
theorem sum_L (f : Nat → Int) : ∀ n, (L f n).sum = sumN f n
  | 0 => rfl
  | n + 1 => by
    rw [L_succ, List.sum_append, sum_L f n]
    show _ + (f n + 0) = _
    rw [Int.add_zero]
    rfl
theorem sumN_ext {f g : Nat → Int} : ∀ n, (∀ k, k < n → f k = g k) → sumN f n = sumN g n
  | 0, _ => rfl
  | n + 1, h => by
    unfold sumN
    rw [sumN_ext n fun k hk => h k (by omega), h n (by omega)]
theorem sumN_tail {f : Nat → Int} {m : Nat} : ∀ n, m ≤ n → (∀ k, m ≤ k → k < n → f k = 0) → sumN f n = sumN f m
  | 0, h, _ => by
    have : m = 0 := by omega
    rw [this]
  | n + 1, h, z => by
    by_cases e : m = n + 1
    · rw [e]
    · show sumN f n + f n = _
      rw [z n (by omega) (by omega), Int.add_zero]
      exact sumN_tail n (by omega) fun k h1 h2 => z k h1 (by omega)
theorem sumN_add (f g : Nat → Int) : ∀ n, sumN (fun k => f k + g k) n = sumN f n + sumN g n
  | 0 => rfl
  | n + 1 => by
    unfold sumN
    rw [sumN_add f g n]
    omega
theorem sumN_mul (c : Int) (f : Nat → Int) : ∀ n, sumN (fun k => c * f k) n = c * sumN f n
  | 0 => by
    show (0 : Int) = c * 0
    rw [Int.mul_zero]
  | n + 1 => by
    unfold sumN
    rw [sumN_mul c f n, Int.mul_add]
theorem sumN_shift (f : Nat → Int) : ∀ n, sumN f (n + 1) = f 0 + sumN (fun k => f (k + 1)) n
  | 0 => by
    show 0 + f 0 = f 0 + 0
    omega
  | n + 1 => by
    show sumN f (n + 1) + f (n + 1) = f 0 + (sumN (fun k => f (k + 1)) n + f (n + 1))
    rw [sumN_shift f n]
    omega
/-! ### values -/
theorem evl_cons (t : Int) (ts : List Int) (m : Int) : evl (t :: ts) m = t + m * evl ts m := by
  unfold evl
  rw [List.reverse_cons, List.foldl_append]
  show _ * m + t = _
  rw [Int.mul_comm, Int.add_comm]
theorem cf_cons (t : Int) (ts : List Int) (k : Nat) : cf (t :: ts) (k + 1) = cf ts k := rfl
theorem evl_sum (m : Int) : ∀ ts : List Int, evl ts m = sumN (fun k => cf ts k * m ^ k) ts.length
  | [] => rfl
  | t :: ts => by
    rw [evl_cons, List.length_cons, sumN_shift, evl_sum m ts, ← sumN_mul]
    show t + _ = t * m ^ 0 + _
    rw [Int.pow_zero, Int.mul_one]
    congr 1
    refine sumN_ext _ fun k _ => ?_
    show m * (cf ts k * m ^ k) = cf ts k * m ^ (k + 1)
    rw [Int.pow_succ]
    grind
theorem evl_N (m : Int) (ts : List Int) {n : Nat} (h : ts.length ≤ n) : evl ts m = sumN (fun k => cf ts k * m ^ k) n := by
  rw [evl_sum, sumN_tail n h fun k h1 _ => by rw [cf_out h1, Int.zero_mul]]
theorem evl_ext {a b : List Int} (h : ∀ k, cf a k = cf b k) (m : Int) : evl a m = evl b m := by
  rw [evl_N m a (Nat.le_max_left a.length b.length), evl_N m b (Nat.le_max_right a.length b.length)]
  exact sumN_ext _ fun k _ => by rw [h]
/-! ### sums -/
theorem evl_add {a b c : List Int} (h : ∀ k, cf c k = cf a k + cf b k) (m : Int) : evl c m = evl a m + evl b m := by
  have e1 : a.length ≤ a.length + b.length + c.length := by omega
  have e2 : b.length ≤ a.length + b.length + c.length := by omega
  have e3 : c.length ≤ a.length + b.length + c.length := by omega
  rw [evl_N m a e1, evl_N m b e2, evl_N m c e3, ← sumN_add]
  refine sumN_ext _ fun k _ => ?_
  show cf c k * m ^ k = cf a k * m ^ k + cf b k * m ^ k
  rw [h, Int.add_mul]
/-! ### products -/
def S (a b : List Int) (p : Nat) : Int := sumN (fun k => cf a k * cf b (p - k)) (p + 1)
theorem S_min (a b : List Int) (p : Nat) : sumN (fun k => cf a k * cf b (p - k)) (min (p + 1) a.length) = S a b p := by
  unfold S
  rw [sumN_tail (m := min (p + 1) a.length) (p + 1) (Nat.min_le_left ..) fun k h1 h2 => by rw [cf_out (by omega), Int.zero_mul]]
theorem S_out {a b : List Int} {p : Nat} (h : a.length + b.length ≤ p) : S a b p = 0 := by
  unfold S
  rw [sumN_tail (m := 0) (p + 1) (Nat.zero_le _) fun k _ h2 => ?_]
  · rfl
  · by_cases c : a.length ≤ k
    · rw [cf_out c, Int.zero_mul]
    · rw [cf_out (ts := b) (by omega), Int.mul_zero]
theorem S_ext {a b c d : List Int} (h1 : ∀ k, cf a k = cf c k) (h2 : ∀ k, cf b k = cf d k) (p : Nat) : S a b p = S c d p := sumN_ext _ fun k _ => by rw [h1, h2]
/-- by the second one's terms, row by row -/
theorem S_rows (a b : List Int) (p : Nat) : sumN (fun k => if k ≤ p then cf a k * cf b (p - k) else 0) a.length = S a b p := by
  by_cases h : a.length ≤ p + 1
  · rw [← S_min a b p, Nat.min_eq_right h]
    exact sumN_ext _ fun k hk => by rw [if_pos (by omega)]
  · rw [sumN_tail (m := p + 1) a.length (by omega) fun k h1 _ => by rw [if_neg (by omega)]]
    exact sumN_ext _ fun k hk => by rw [if_pos (by omega)]
theorem cf_mul (a b : List Int) (p : Nat) : cf (L (fun p => sumN (fun k => cf a k * cf b (p - k)) (min (p + 1) a.length)) (a.length + b.length)) p = S a b p := by
  rw [cf_L]
  split
  · exact S_min a b p
  · rename_i h
    exact (S_out (by omega)).symm
/-- times (more + slope m) -/
theorem S_lin (a : List Int) (u v : Int) : ∀ p, S a [u, v] p = u * cf a p + (if p = 0 then 0 else v * cf a (p - 1))
  | 0 => by
    show 0 + cf a 0 * u = _
    rw [if_pos rfl, Int.mul_comm]
    omega
  | p + 1 => by
    rw [if_neg (by omega)]
    show sumN (fun k => cf a k * cf [u, v] (p + 1 - k)) (p + 1) + cf a (p + 1) * cf [u, v] (p + 1 - (p + 1)) = _
    have e : sumN (fun k => cf a k * cf [u, v] (p + 1 - k)) (p + 1) = cf a p * v := by
      show sumN (fun k => cf a k * cf [u, v] (p + 1 - k)) p + cf a p * cf [u, v] (p + 1 - p) = _
      rw [sumN_tail (m := 0) p (Nat.zero_le _) fun k _ h2 => by rw [cf_out (ts := [u, v]) (by show 2 ≤ _; omega), Int.mul_zero]]
      have e1 : p + 1 - p = 1 := by omega
      rw [e1]
      show 0 + cf a p * v = _
      omega
    rw [e]
    have e2 : p + 1 - (p + 1) = 0 := by omega
    have e3 : p + 1 - 1 = p := by omega
    rw [e2, e3]
    show cf a p * v + cf a (p + 1) * u = _
    grind
theorem evl_lin {a c : List Int} {u v : Int} (h : ∀ p, cf c p = u * cf a p + (if p = 0 then 0 else v * cf a (p - 1))) (m : Int) : evl c m = evl a m * (v * m + u) := by
  have e1 : a.length ≤ a.length + c.length := by omega
  have e2 : a.length ≤ a.length + c.length + 1 := by omega
  have e3 : c.length ≤ a.length + c.length + 1 := by omega
  have x1 : sumN (fun k => (u * cf a k) * m ^ k) (a.length + c.length + 1) = u * evl a m := by
    rw [evl_N m a e2, ← sumN_mul]
    exact sumN_ext _ fun k _ => by rw [Int.mul_assoc]
  have x2 : sumN (fun k => (if k = 0 then 0 else v * cf a (k - 1)) * m ^ k) (a.length + c.length + 1) = v * m * evl a m := by
    rw [sumN_shift, evl_N m a e1, ← sumN_mul]
    show (0 : Int) * m ^ 0 + _ = _
    rw [Int.zero_mul, Int.zero_add]
    refine sumN_ext _ fun k _ => ?_
    show v * cf a k * m ^ (k + 1) = v * m * (cf a k * m ^ k)
    rw [Int.pow_succ]
    grind
  rw [evl_N m c e3]
  have x3 : sumN (fun k => cf c k * m ^ k) (a.length + c.length + 1) = u * evl a m + v * m * evl a m := by
    rw [← x1, ← x2, ← sumN_add]
    refine sumN_ext _ fun k _ => ?_
    show cf c k * m ^ k = _ * m ^ k + _ * m ^ k
    rw [h, Int.add_mul]
  rw [x3]
  grind
end My
/-! xs[n::2] of a list. -/
namespace My
open PySem PySem.Spec PyProof.Rows L2
/-- every other item -/
def evs {α : Type} : List α → List α
  | [] => []
  | [x] => [x]
  | x :: _ :: r => x :: evs r
theorem evs_len {α : Type} : ∀ l : List α, (evs l).length = (l.length + 1) / 2
  | [] => by
    show 0 = (0 + 1) / 2
    decide
  | [_] => by
    show 1 = (1 + 1) / 2
    decide
  | x :: y :: r => by
    show (evs r).length + 1 = (r.length + 1 + 1 + 1) / 2
    rw [evs_len r]
    omega
theorem evs_at {α : Type} : ∀ (l : List α) (k : Nat), (evs l)[k]? = l[2 * k]?
  | [], k => by
    show ([] : List α)[k]? = ([] : List α)[2 * k]?
    rw [List.getElem?_nil, List.getElem?_nil]
  | [x], 0 => rfl
  | [x], k + 1 => by
    show [x][k + 1]? = [x][2 * (k + 1)]?
    rw [List.getElem?_eq_none (by show 1 ≤ k + 1; omega), List.getElem?_eq_none (by show 1 ≤ 2 * (k + 1); omega)]
  | x :: y :: r, 0 => rfl
  | x :: y :: r, k + 1 => by
    show (evs r)[k]? = (x :: y :: r)[2 * (k + 1)]?
    rw [evs_at r k]
    have e : 2 * (k + 1) = 2 * k + 1 + 1 := by omega
    rw [e]
    rfl
theorem evs_map {α β : Type} (f : α → β) : ∀ l : List α, evs (l.map f) = (evs l).map f
  | [] => rfl
  | [_] => rfl
  | x :: y :: r => by
    show f x :: evs (r.map f) = f x :: (evs r).map f
    rw [evs_map f r]
theorem range_all {α : Type} (l : List α) : (List.range l.length).filterMap (l[·]?) = l := by
  refine List.ext_getElem? fun i => ?_
  have key : ∀ n, n ≤ l.length → (List.range n).filterMap (l[·]?) = l.take n := by
    intro n
    induction n with
    | zero => intro _; rfl
    | succ n ih =>
      intro h
      rw [List.range_succ, List.filterMap_append, ih (by omega), List.take_add_one]
      have e : l[n]? = some l[n] := List.getElem?_eq_getElem (by omega)
      have e2 : List.filterMap (l[·]?) [n] = [l[n]] := by
        rw [List.filterMap_cons, e]
        rfl
      rw [e2, e]
      rfl
  rw [key _ (Nat.le_refl _), List.take_length]
theorem evs_pick (items : Array Value) (n : Nat) : slicePick items (some (n : Int)) none (some 2) = (evs (items.toList.drop n)).toArray := by
  have e : sliceBounds (some (n : Int)) none (some 2) items.size = (((min n items.size : Nat) : Int), (items.size : Int), 2) := by
    simp only [sliceBounds, Option.getD_some]
    have h1 : ¬ ((n : Int) < 0) := by omega
    simp only [h1, if_false, show (2 : Int) > 0 by decide, if_true]
    congr 1
    omega
  unfold slicePick
  rw [e]
  show ((sliceRange ((min n items.size : Nat) : Int) (items.size : Int) 2).filterMap (items[·]?)).toArray = _
  have er : sliceRange ((min n items.size : Nat) : Int) (items.size : Int) 2 = (List.range ((items.size - min n items.size + 1) / 2)).map fun k => min n items.size + 2 * k := by
    unfold sliceRange
    have ec : (if (2 : Int) > 0 then (if ((min n items.size : Nat) : Int) < (items.size : Int) then ((items.size : Int) - ((min n items.size : Nat) : Int) + 2 - 1) / 2 else 0) else (if ((min n items.size : Nat) : Int) > (items.size : Int) then (((min n items.size : Nat) : Int) - (items.size : Int) - 2 - 1) / (-2) else 0)).toNat = (items.size - min n items.size + 1) / 2 := by
      rw [if_pos (by decide)]
      split <;> omega
    show (List.range (if (2 : Int) > 0 then (if ((min n items.size : Nat) : Int) < (items.size : Int) then ((items.size : Int) - ((min n items.size : Nat) : Int) + 2 - 1) / 2 else 0) else _).toNat).map _ = _
    rw [ec]
    refine List.map_congr_left fun k _ => ?_
    omega
  rw [er, List.filterMap_map]
  have ed : items.toList.drop n = items.toList.drop (min n items.size) := by
    by_cases h : n ≤ items.size
    · rw [Nat.min_eq_left h]
    · rw [Nat.min_eq_right (by omega), List.drop_eq_nil_of_le (by rw [Array.length_toList]; omega), List.drop_eq_nil_of_le (by rw [Array.length_toList]; omega)]
  rw [ed]
  congr 1
  have el : (evs (items.toList.drop (min n items.size))).length = (items.size - min n items.size + 1) / 2 := by
    rw [evs_len, List.length_drop, Array.length_toList]
  rw [← el]
  have eg : ∀ k : Nat, ((items[·]?) ∘ fun k => min n items.size + 2 * k) k = (evs (items.toList.drop (min n items.size)))[k]? := fun k => by
    rw [evs_at, List.getElem?_drop, Array.getElem?_toList]
    rfl
  have := range_all (evs (items.toList.drop (min n items.size)))
  refine Eq.trans ?_ this
  congr 1
  funext k
  exact eg k
theorem evs_vals : ∀ {xs : List V} {us : List Value}, Vals xs us → Vals (evs xs) (evs us)
  | _, _, .nil => .nil
  | _, _, .cons r .nil => .cons r .nil
  | _, _, .cons r (.cons _ t) => .cons r (evs_vals t)
def tStep (K : PySem.W.Frag) (n : Nat) (te : TE) : TE := fun σ H Q => te σ H fun x H1 => ∃ a xs, x = .ref a ∧ SqL K H1 a xs ∧ ∀ p, H1 p = none → Q (.ref p) (upd H1 p (.lst (evs (xs.drop n))))
theorem pe_step2 {X : Cx} {e : Expr} {te : TE} {n : Nat} {k k2 : Nat} {p1 p2 p3 pos : Pos} (he : PE X e te) : PE X (.Subscript e (.Slice (some (.Constant (.int (n : Int)) k p1)) none (some (.Constant (.int 2) k2 p2)) p3) pos) (tStep X.K n te) := by
  refine ⟨fun pins s σ H Q I h => ?_⟩
  refine Subscript_ (thn (he.run pins s σ H _ I h) fun v s1 ⟨x, H1, I1, r1, q1⟩ => ?_)
  obtain ⟨a, xs, ex, hx, q⟩ := q1
  subst ex
  cases r1
  have hlo : PO X (some (.Constant (.int (n : Int)) k p1)) (tPart (tC (.int (n : Int)))) := po_some pe_int
  have hst : PO X (some (.Constant (.int 2) k2 p2)) (tPart (tC (.int 2))) := po_some pe_int
  refine wpAny_Slice (thn (hlo.run pins s1 σ H1 (fun o H2 => o = some (n : Int) ∧ H2 = H1) I1 ⟨(n : Int), rfl, rfl, rfl⟩) fun vl s2 ⟨l, H2, I2, pl, el, e2⟩ => ?_)
  subst el e2
  refine thn (po_none.run pins s2 σ H2 (fun o H3 => o = none ∧ H3 = H2) I2 ⟨rfl, rfl⟩) fun vu s3 ⟨u, H3, I3, pu, eu, e3⟩ => ?_
  subst eu e3
  refine thn (hst.run pins s3 σ H3 (fun o H4 => o = some 2 ∧ H4 = H3) I3 ⟨2, rfl, rfl, rfl⟩) fun vs s4 ⟨o, H4, I4, ps, eo, e4⟩ => ?_
  subst eo e4
  have I5 : Inv X pins σ H4 { s4 with heap := s4.heap.push { cls := .type "slice", data := .fields #[vl, vu, vs] } } := I4.kept (t' := s4.toks) fun b ob q => Heap.get?_push_of_some _ q
  obtain ⟨its, r, ht, hz⟩ := I5.list hx
  have hlen := r.length
  show wpAny (model X.prog X.w) X.A (subscriptTail e (.Slice (some (.Constant (.int (n : Int)) k p1)) none (some (.Constant (.int 2) k2 p2)) p3) (.ref a) (.ref s4.heap.objs.size)) (EP X pins σ Q) X.xe { s4 with heap := s4.heap.push { cls := .type "slice", data := .fields #[vl, vu, vs] } }
  refine tail_any (ops := [.ref a, .ref s4.heap.objs.size]) ht.isList.typeIs (PySem.slot_list_getitem.lookup) ?_ (by with_unfolding_all rfl)
  refine wpAny_getItem_list_slice ht.isList (Heap.IsSliceOf.new _ vl vu vs) pl pu ps (by decide) ?_ (by rw [List.size_toArray]; omega)
  rw [evs_pick]
  have lz : (evs (xs.drop n)).length ≤ xs.length := by
    rw [evs_len, List.length_drop]
    omega
  refine ⟨.ref _, _, I5.laid (t' := s4.toks) (o := .lst (evs (xs.drop n))) (fun b ob q => Heap.get?_push_of_some _ q) (Nat.le_refl _) ?_, rfl, q _ (I5.hok.fresh (Nat.le_refl _))⟩
  exact ⟨Nat.le_trans lz hz, _, 0, evs_vals (r.drop n), Heap.get?_push_size _ rfl⟩
end My
/-! Polynomials as texts: written, read. -/
namespace PT
open PySem PySem.Spec PyProof.Rows L2 TX My
/-! ### written -/
def nameL (p : Nat) : List Nat := if p = 0 then [] else if p = 1 then [109] else [109, 94] ++ numLn p
  where numLn (p : Nat) : List Nat := TL.numL p
def rowL (c p : Nat) : List Nat := (if c = 1 ∧ p ≠ 0 then [] else TL.numL c) ++ nameL p
def sgL (c : Int) : List Nat := if c < 0 then [45] else [43]
/-- one more term behind what is written -/
def addT (f : List Nat) (t : Int × Nat) : List Nat := f ++ (if f ≠ [] then [32] ++ sgL t.1 ++ [32] else if t.1 < 0 then [45] else []) ++ rowL t.1.natAbs t.2
def dn : Nat → List Nat
  | 0 => []
  | n + 1 => n :: dn n
def pick1 (ts : List Int) (p : Nat) : Option (Int × Nat) := if cf ts p = 0 then none else some (cf ts p, p)
def nzl (ts : List Int) (l : List Nat) : List (Int × Nat) := l.filterMap (pick1 ts)
def bodyL (ts : List Int) (n : Nat) : List Nat := (nzl ts (dn n)).foldl addT []
def textL (ts : List Int) : List Nat := if bodyL ts ts.length = [] then [48] else bodyL ts ts.length
theorem dn_len : ∀ n, (dn n).length = n
  | 0 => rfl
  | n + 1 => by
    show (dn n).length + 1 = n + 1
    rw [dn_len n]
theorem dn_at : ∀ (n i : Nat), i < n → (dn n)[i]? = some (n - 1 - i)
  | 0, _, h => absurd h (Nat.not_lt_zero _)
  | n + 1, 0, _ => rfl
  | n + 1, i + 1, h => by
    show (dn n)[i]? = _
    rw [dn_at n i (by omega)]
    congr 1
    omega
theorem nzl_more (ts : List Int) {m : Nat} (h : ∀ p, m ≤ p → cf ts p = 0) : ∀ n, m ≤ n → nzl ts (dn n) = nzl ts (dn m)
  | 0, hn => by
    have : m = 0 := by omega
    rw [this]
  | n + 1, hn => by
    by_cases e : m = n + 1
    · rw [e]
    · have ih := nzl_more ts h n (by omega)
      rw [← ih]
      show (n :: dn n).filterMap (pick1 ts) = _
      have : pick1 ts n = none := if_pos (h n (by omega))
      rw [List.filterMap_cons, this]
      rfl
theorem nzl_ext {a b : List Int} (h : ∀ p, cf a p = cf b p) (l : List Nat) : nzl a l = nzl b l := by
  unfold nzl
  congr 1
  funext p
  unfold pick1
  rw [h]
/-- zeros at the end are not written -/
theorem text_trim (ts : List Int) : textL (trim ts) = textL ts := by
  have e : bodyL (trim ts) (trim ts).length = bodyL ts ts.length := by
    unfold bodyL
    rw [nzl_ext (cf_trim ts), nzl_more ts (m := (trim ts).length) (fun p hp => by rw [← cf_trim]; exact cf_out hp) ts.length (trim_le ts)]
  unfold textL
  rw [e]
theorem body_step {ts : List Int} {n i : Nat} (h : i < n) : (nzl ts ((dn n).take (i + 1))).foldl addT [] = (if cf ts (n - 1 - i) = 0 then (nzl ts ((dn n).take i)).foldl addT [] else addT ((nzl ts ((dn n).take i)).foldl addT []) (cf ts (n - 1 - i), n - 1 - i)) := by
  have e : (dn n).take (i + 1) = (dn n).take i ++ [n - 1 - i] := by rw [List.take_add_one, dn_at n i h]; rfl
  rw [e]
  unfold nzl
  rw [List.filterMap_append]
  by_cases c : cf ts (n - 1 - i) = 0
  · have : pick1 ts (n - 1 - i) = none := if_pos c
    rw [if_pos c, List.filterMap_cons, this]
    show ((List.filterMap (pick1 ts) ((dn n).take i)) ++ []).foldl addT [] = _
    rw [List.append_nil]
  · have : pick1 ts (n - 1 - i) = some (cf ts (n - 1 - i), n - 1 - i) := if_neg c
    rw [if_neg c, List.filterMap_cons, this]
    show ((List.filterMap (pick1 ts) ((dn n).take i)) ++ [(cf ts (n - 1 - i), n - 1 - i)]).foldl addT [] = _
    rw [List.foldl_append]
    rfl
/-! ### the words of what is written -/
def wordsT : List (Int × Nat) → List (List Nat)
  | [] => [[48]]
  | (c, p) :: r => ((if c < 0 then [45] else []) ++ rowL c.natAbs p) :: r.flatMap fun t => [sgL t.1, rowL t.1.natAbs t.2]
theorem rowL_ne {c p : Nat} (h : c ≠ 0 ∨ True) : rowL c p ≠ [] := by
  unfold rowL nameL nameL.numLn
  split
  · rename_i e
    rw [if_neg e.2]
    split <;> simp
  · intro z
    have := List.append_eq_nil_iff.mp z
    exact TL.numL_ne _ this.1
theorem fold_tail : ∀ (r : List (Int × Nat)) (f : List Nat), f ≠ [] → r.foldl addT f = TL.joinL [32] (f :: r.flatMap fun t => [sgL t.1, rowL t.1.natAbs t.2])
  | [], f, _ => rfl
  | t :: r, f, h => by
    have hne : addT f t ≠ [] := fun z => by
      unfold addT at z
      exact rowL_ne (.inr trivial) (List.append_eq_nil_iff.mp z).2
    show r.foldl addT (addT f t) = _
    rw [fold_tail r _ hne]
    have e : addT f t = f ++ ([32] ++ (sgL t.1 ++ ([32] ++ rowL t.1.natAbs t.2))) := by
      unfold addT
      rw [if_pos h]
      simp only [List.append_assoc]
    rw [e]
    cases r with
    | nil => rfl
    | cons t2 r2 =>
      show (f ++ ([32] ++ (sgL t.1 ++ ([32] ++ rowL t.1.natAbs t.2)))) ++ ([32] ++ _) = f ++ ([32] ++ (sgL t.1 ++ ([32] ++ (rowL t.1.natAbs t.2 ++ ([32] ++ _)))))
      simp only [List.append_assoc]
theorem text_words (ts : List Int) : textL ts = TL.joinL [32] (wordsT (nzl ts (dn ts.length))) := by
  unfold textL bodyL
  cases e : nzl ts (dn ts.length) with
  | nil => rfl
  | cons t r =>
    have h1 : addT [] t = (if t.1 < 0 then [45] else []) ++ rowL t.1.natAbs t.2 := by
      unfold addT
      rw [if_neg (by simp)]
      rfl
    have h2 : addT [] t ≠ [] := fun z => by
      rw [h1] at z
      exact rowL_ne (.inr trivial) (List.append_eq_nil_iff.mp z).2
    show (if r.foldl addT (addT [] t) = [] then [48] else r.foldl addT (addT [] t)) = _
    rw [fold_tail r _ h2, h1]
    have h3 : TL.joinL [32] (((if t.1 < 0 then [45] else []) ++ rowL t.1.natAbs t.2) :: r.flatMap fun t => [sgL t.1, rowL t.1.natAbs t.2]) ≠ [] := fun z => by
      rw [h1] at h2
      cases r with
      | nil => exact h2 z
      | cons t2 r2 => exact h2 (List.append_eq_nil_iff.mp z).1
    rw [if_neg h3]
    rfl
theorem nameL_free {s : Nat} (h : s < 48 ∨ 57 < s) (h1 : s ≠ 109) (h2 : s ≠ 94) (p : Nat) : s ∉ nameL p := by
  unfold nameL nameL.numLn
  split
  · exact List.not_mem_nil
  · split
    · intro z
      exact h1 (List.mem_singleton.mp z)
    · intro z
      rcases List.mem_append.mp z with z | z
      · rcases List.mem_cons.mp z with z | z
        · exact h1 z
        · exact h2 (List.mem_singleton.mp z)
      · exact TL.numL_free h z
theorem rowL_free {s : Nat} (h : s < 48 ∨ 57 < s) (h1 : s ≠ 109) (h2 : s ≠ 94) (c p : Nat) : s ∉ rowL c p := by
  unfold rowL
  intro z
  rcases List.mem_append.mp z with z | z
  · split at z
    · exact absurd z List.not_mem_nil
    · exact TL.numL_free h z
  · exact nameL_free h h1 h2 p z
theorem wordsT_free (nz : List (Int × Nat)) : ∀ w ∈ wordsT nz, (32 : Nat) ∉ w := by
  have sgf : ∀ c : Int, (32 : Nat) ∉ sgL c := fun c => by
    unfold sgL
    split <;> decide
  cases nz with
  | nil =>
    intro w hw
    rw [List.mem_singleton.mp hw]
    decide
  | cons t r =>
    intro w hw
    rcases List.mem_cons.mp hw with rfl | hw
    · intro z
      rcases List.mem_append.mp z with z | z
      · split at z
        · exact absurd z (by decide)
        · exact absurd z List.not_mem_nil
      · exact rowL_free (by decide) (by decide) (by decide) _ _ z
    · obtain ⟨t2, _, hw⟩ := List.mem_flatMap.mp hw
      rcases List.mem_cons.mp hw with rfl | hw
      · exact sgf _
      · rw [List.mem_singleton.mp hw]
        exact rowL_free (by decide) (by decide) (by decide) _ _
theorem wordsT_ne (nz : List (Int × Nat)) : wordsT nz ≠ [] := by cases nz <;> exact fun z => nomatch z
/-! ### read -/
/-- a term's parts, told by the pieces between its m's -/
def trL (ps : List (List Nat)) : Option (Int × Int) :=
  match ps with
  | [] => none
  | p0 :: rest => match (if p0 = [] ∧ rest.length = 1 then some 1 else dg p0) with
    | none => none
    | some term => match rest with
      | [] => some (term, 0)
      | [p1] => (match (if p1 = [] then some 1 else dg (p1.drop 1)) with
        | none => none
        | some power => if (p1.take 1 = [] ∨ p1.take 1 = [94]) ∧ power ≤ 60 then some (term, power) else none)
      | _ => none
def trW (w : List Nat) : Option (Int × Int) := trL (TL.spl [109] 0 [] w)
/-- the pairs of a sign and a row behind the first word -/
def prs : List (List Nat) → List (List Nat × List Nat)
  | s :: r :: t => (s, r) :: prs t
  | _ => []
def pairsW (ws : List (List Nat)) : List (List Nat × List Nat) := match ws with
  | [] => []
  | w0 :: rest => ((if w0.take 1 = [45] then [45] else [43]), (if w0.take 1 = [45] then w0.drop 1 else w0)) :: prs rest
/-- one term put to the others -/
def put1 (t : List Int) (c : Int) (p : Nat) : List Int := t.set p (cf t p + c)
def step1 (t : List Int) (q : List Nat × List Nat) : Option (List Int) := match trW q.2 with
  | none => none
  | some (c, p) => if q.1 = [43] ∨ q.1 = [45] then some (put1 t (if q.1 = [43] then c else -c) p.toNat) else none
def runP : List (List Nat × List Nat) → List Int → Option (List Int)
  | [], t => some t
  | q :: r, t => match step1 t q with | none => none | some t' => runP r t'
def zeros : List Int := List.replicate 61 0
def readT (x : List Nat) : Option (List Int) := match runP (pairsW (TL.spl [32] 0 [] x)) zeros with
  | none => none
  | some t => if textL (trim t) = x then some (trim t) else none
theorem tr_row {c p : Nat} (hc : 0 < c) (h : c < 10 ^ 60) (hp : p ≤ 60) : trW (rowL c p) = some ((c : Int), (p : Int)) := by
  have free : ∀ n, (109 : Nat) ∉ TL.numL n := fun n => TL.numL_free (by decide)
  have dp : dg (TL.numL p) = some (p : Int) := dg_num (Nat.lt_of_le_of_lt hp (by decide))
  unfold trW
  by_cases p0 : p = 0
  · have e : rowL c p = TL.numL c := by
      unfold rowL nameL
      rw [if_neg (fun z => z.2 p0), if_pos p0, List.append_nil]
    rw [e, TL.spl_last1 (free c), List.nil_append]
    have one : ∀ y, dg (TL.numL c) = some y → trL [TL.numL c] = some (y, 0) := fun y hy => by
      unfold trL
      simp [hy]
    rw [one _ (dg_num h), p0]
    rfl
  · have pre : ∃ pre, rowL c p = pre ++ nameL p ∧ (109 : Nat) ∉ pre ∧ (if pre = [] then some 1 else dg pre) = some (c : Int) := by
      by_cases c1 : c = 1
      · refine ⟨[], ?_, List.not_mem_nil, ?_⟩
        · unfold rowL
          rw [if_pos ⟨c1, p0⟩]
        · rw [if_pos rfl, c1]
          rfl
      · refine ⟨TL.numL c, ?_, free c, ?_⟩
        · unfold rowL
          rw [if_neg fun z => c1 z.1]
        · rw [if_neg (TL.numL_ne c), dg_num h]
    obtain ⟨pre, e, hf, hd⟩ := pre
    have first : ∀ p1 : List Nat, trL [pre, p1] = (match (if p1 = [] then some 1 else dg (p1.drop 1)) with
        | none => none
        | some power => if (p1.take 1 = [] ∨ p1.take 1 = [94]) ∧ power ≤ 60 then some ((c : Int), power) else none) := fun p1 => by
      have e2 : (if pre = [] ∧ [p1].length = 1 then some 1 else dg pre) = some (c : Int) := by
        by_cases z : pre = []
        · rw [if_pos ⟨z, rfl⟩]
          rw [if_pos z] at hd
          exact hd
        · rw [if_neg fun y => z y.1]
          rw [if_neg z] at hd
          exact hd
      show (match (if pre = [] ∧ [p1].length = 1 then some 1 else dg pre) with | none => none | some term => _) = _
      rw [e2]
    rw [e]
    by_cases p1 : p = 1
    · have en : nameL p = [109] ++ [] := by
        unfold nameL
        rw [if_neg p0, if_pos p1]
        rfl
      rw [en, TL.spl_part1 hf, TL.spl_nil, List.nil_append, first []]
      show (if ((([] : List Nat).take 1 = [] ∨ ([] : List Nat).take 1 = [94]) ∧ (1 : Int) ≤ 60) then some ((c : Int), (1 : Int)) else none) = _
      rw [if_pos ⟨.inl rfl, by decide⟩, p1]
      rfl
    · have en : nameL p = [109] ++ (94 :: TL.numL p) := by
        unfold nameL nameL.numLn
        rw [if_neg p0, if_neg p1]
        rfl
      have f2 : (109 : Nat) ∉ (94 :: TL.numL p) := fun z => by
        rcases List.mem_cons.mp z with z | z
        · cases z
        · exact free p z
      rw [en, TL.spl_part1 hf, TL.spl_last1 f2, List.nil_append, List.nil_append, first]
      show (match (if (94 :: TL.numL p) = [] then some 1 else dg (TL.numL p)) with | none => none | some power => if ([94] = [] ∨ [94] = [94]) ∧ power ≤ 60 then some ((c : Int), power) else none) = _
      rw [if_neg (fun z => nomatch z), dp]
      show (if ([94] = [] ∨ [94] = [94]) ∧ (p : Int) ≤ 60 then some ((c : Int), (p : Int)) else none) = _
      rw [if_pos ⟨.inr rfl, by omega⟩]
def addAll (nz : List (Int × Nat)) (t : List Int) : List Int := nz.foldl (fun t q => put1 t q.1 q.2) t
def okN (nz : List (Int × Nat)) : Prop := ∀ q ∈ nz, q.1 ≠ 0 ∧ q.1.natAbs < 10 ^ 60 ∧ q.2 ≤ 60
theorem step_row {t : List Int} {c : Int} {p : Nat} (h0 : c ≠ 0) (h : c.natAbs < 10 ^ 60) (hp : p ≤ 60) : step1 t (sgL c, rowL c.natAbs p) = some (put1 t c p) := by
  unfold step1
  show (match trW (rowL c.natAbs p) with | none => none | some (c', p') => if sgL c = [43] ∨ sgL c = [45] then some (put1 t (if sgL c = [43] then c' else -c') p'.toNat) else none) = _
  rw [tr_row (by omega) h hp]
  show (if sgL c = [43] ∨ sgL c = [45] then some (put1 t (if sgL c = [43] then ((c.natAbs : Nat) : Int) else -((c.natAbs : Nat) : Int)) ((p : Nat) : Int).toNat) else none) = _
  rw [Int.toNat_natCast]
  unfold sgL
  by_cases z : c < 0
  · rw [if_pos z, if_pos (.inr rfl), if_neg (by decide)]
    congr 2
    omega
  · rw [if_neg z, if_pos (.inl rfl), if_pos rfl]
    congr 2
    omega
theorem run_tail : ∀ (r : List (Int × Nat)) (t : List Int), okN r → runP (prs (r.flatMap fun q => [sgL q.1, rowL q.1.natAbs q.2])) t = some (addAll r t)
  | [], _, _ => rfl
  | q :: r, t, h => by
    obtain ⟨h1, h2, h3⟩ := h q List.mem_cons_self
    show (match step1 t (sgL q.1, rowL q.1.natAbs q.2) with | none => none | some t' => runP (prs (r.flatMap fun q : Int × Nat => [sgL q.1, rowL q.1.natAbs q.2])) t') = _
    rw [step_row h1 h2 h3]
    exact run_tail r _ fun x hx => h x (List.mem_cons_of_mem _ hx)
theorem row_head {c p : Nat} : (rowL c p).take 1 ≠ [45] := by
  have num : ∀ n, ∀ l, (TL.numL n ++ l).take 1 ≠ [45] := fun n l z => by
    cases e : TL.numL n with
    | nil => exact TL.numL_ne n e
    | cons a r =>
      rw [e] at z
      have z : [a] = [45] := z
      have := TL.numL_digits n a (by rw [e]; exact List.mem_cons_self)
      have := (List.cons.inj z).1
      omega
  unfold rowL
  split
  · rename_i e
    rw [List.nil_append]
    unfold nameL nameL.numLn
    rw [if_neg e.2]
    split
    · decide
    · intro z
      have z : [109] = [45] := z
      cases z
  · exact num _ _
theorem run_words (nz : List (Int × Nat)) (t : List Int) (h : okN nz) : runP (pairsW (wordsT nz)) t = some (addAll nz t) ∨ nz = [] := by
  cases nz with
  | nil => exact .inr rfl
  | cons q r =>
    left
    obtain ⟨h1, h2, h3⟩ := h q List.mem_cons_self
    have e : pairsW (wordsT (q :: r)) = (sgL q.1, rowL q.1.natAbs q.2) :: prs (r.flatMap fun q => [sgL q.1, rowL q.1.natAbs q.2]) := by
      show (_, _) :: prs _ = _
      congr 1
      unfold sgL
      by_cases z : q.1 < 0
      · rw [if_pos z, if_pos z]
        rfl
      · rw [if_neg z, if_neg z, List.nil_append, if_neg row_head, if_neg row_head]
    rw [e]
    show (match step1 t (sgL q.1, rowL q.1.natAbs q.2) with | none => none | some t' => runP (prs (r.flatMap fun q : Int × Nat => [sgL q.1, rowL q.1.natAbs q.2])) t') = _
    rw [step_row h1 h2 h3]
    exact run_tail r _ fun x hx => h x (List.mem_cons_of_mem _ hx)
theorem put_len (t : List Int) (c : Int) (p : Nat) : (put1 t c p).length = t.length := List.length_set ..
theorem cf_put (t : List Int) (c : Int) {p : Nat} (h : p < t.length) (k : Nat) : cf (put1 t c p) k = if k = p then cf t p + c else cf t k := by
  unfold put1
  show ((t.set p (cf t p + c))[k]?).getD 0 = _
  rw [List.getElem?_set]
  by_cases e : p = k
  · rw [if_pos e, if_pos h, if_pos e.symm]
    rfl
  · rw [if_neg e, if_neg (Ne.symm e)]
    rfl
theorem cf_addAll (ts : List Int) : ∀ (n : Nat) (t : List Int), n ≤ t.length → ∀ k, cf (addAll (nzl ts (dn n)) t) k = if k < n then cf t k + cf ts k else cf t k
  | 0, t, _, k => by
    rw [if_neg (by omega)]
    rfl
  | n + 1, t, h, k => by
    by_cases z : cf ts n = 0
    · have e : nzl ts (dn (n + 1)) = nzl ts (dn n) := by
        show (n :: dn n).filterMap (pick1 ts) = _
        have : pick1 ts n = none := if_pos z
        rw [List.filterMap_cons, this]
        rfl
      rw [e, cf_addAll ts n t (by omega) k]
      by_cases k1 : k = n
      · rw [k1, if_neg (by omega), if_pos (by omega), z, Int.add_zero]
      · by_cases k2 : k < n
        · rw [if_pos k2, if_pos (by omega)]
        · rw [if_neg k2, if_neg (by omega)]
    · have e : nzl ts (dn (n + 1)) = (cf ts n, n) :: nzl ts (dn n) := by
        show (n :: dn n).filterMap (pick1 ts) = _
        have : pick1 ts n = some (cf ts n, n) := if_neg z
        rw [List.filterMap_cons, this]
        rfl
      rw [e]
      show cf (addAll (nzl ts (dn n)) (put1 t (cf ts n) n)) k = _
      rw [cf_addAll ts n _ (by rw [put_len]; omega) k, cf_put _ _ (by omega)]
      by_cases k1 : k = n
      · rw [k1, if_neg (by omega), if_pos rfl, if_pos (by omega)]
      · rw [if_neg k1]
        by_cases k2 : k < n
        · rw [if_pos k2, if_pos (by omega)]
        · rw [if_neg k2, if_neg (by omega)]
theorem cf_zeros (k : Nat) : cf zeros k = 0 := by
  unfold cf zeros
  by_cases h : k < 61
  · rw [List.getElem?_replicate, if_pos h]
    rfl
  · rw [List.getElem?_replicate, if_neg h]
    rfl
/-- what is written is read -/
theorem read_text {ts : List Int} (hl : ts.length ≤ 61) (hb : ∀ k, (cf ts k).natAbs < 10 ^ 60) : readT (textL ts) = some (trim ts) := by
  have hn : okN (nzl ts (dn ts.length)) := fun q hq => by
    obtain ⟨p, hp, e⟩ := List.mem_filterMap.mp hq
    have pl : p < ts.length := by
      have : ∀ n, ∀ p ∈ dn n, p < n := by
        intro n
        induction n with
        | zero => intro p h; cases h
        | succ n ih =>
          intro p h
          rcases List.mem_cons.mp h with rfl | h
          · omega
          · have := ih p h
            omega
      exact this _ p hp
    unfold pick1 at e
    split at e
    · cases e
    · rename_i z
      cases e
      exact ⟨z, hb p, by omega⟩
  unfold readT
  have ew : TL.spl [32] 0 [] (textL ts) = wordsT (nzl ts (dn ts.length)) := by
    rw [text_words]
    exact TL.spl_join (wordsT_ne _) (wordsT_free _)
  rw [ew]
  have fin : ∀ t, runP (pairsW (wordsT (nzl ts (dn ts.length)))) zeros = some t → (∀ k, cf t k = cf ts k) → (match runP (pairsW (wordsT (nzl ts (dn ts.length)))) zeros with | none => none | some t => if textL (trim t) = textL ts then some (trim t) else none) = some (trim ts) := fun t e h => by
    rw [e]
    show (if textL (trim t) = textL ts then some (trim t) else none) = _
    rw [trim_eq h, text_trim, if_pos rfl]
  rcases run_words (nzl ts (dn ts.length)) zeros hn with e | e
  · refine fin _ e fun k => ?_
    rw [cf_addAll ts _ _ (by show ts.length ≤ (List.replicate 61 (0 : Int)).length; rw [List.length_replicate]; exact hl), cf_zeros]
    split
    · omega
    · exact (cf_out (by omega)).symm
  · refine fin zeros ?_ fun k => ?_
    · rw [e]
      decide +kernel
    · have := cf_addAll ts ts.length zeros (by show ts.length ≤ (List.replicate 61 (0 : Int)).length; rw [List.length_replicate]; exact hl) k
      rw [e] at this
      have this : cf zeros k = _ := this
      rw [cf_zeros] at this
      rw [cf_zeros]
      split at this
      · omega
      · exact (cf_out (by omega)).symm
end PT
/-! A text split at one sign: how many parts, how long. -/
namespace TX
open PySem PySem.Spec PyProof.Rows L2 TL
theorem split1_ne {x y : Str} {s : Nat} (ey : tl y = [s]) (hk : y.cps.all (· < 256) = true) : ∃ w ws, (Txt.split x y).map tl = w :: ws := by
  rw [split_spl x y (by rw [ey]; simp) (kind_ok hk), ey]
  have : ∀ (l acc : List Nat) (k : Nat), ∃ w ws, spl [s] k acc l = w :: ws := by
    intro l
    induction l with
    | nil => intro acc k; exact ⟨acc, [], spl_nil _ _ _⟩
    | cons c r ih =>
      intro acc k
      cases k with
      | zero =>
        by_cases h : pre [s] (c :: r) = true
        · exact ⟨acc, _, spl_hit h⟩
        · rw [spl_miss (by simpa using h)]
          exact ih _ _
      | succ k =>
        show ∃ w ws, spl [s] k acc r = w :: ws
        exact ih _ _
  exact this _ _ _
theorem spl1_len (s : Nat) : ∀ (l acc : List Nat) (k : Nat), (spl [s] k acc l).length ≤ l.length + 1 ∧ ((spl [s] k acc l).map List.length).sum ≤ acc.length + l.length
  | [], acc, k => by
    rw [spl_nil]
    show 1 ≤ 1 ∧ acc.length + 0 ≤ acc.length + 0
    omega
  | c :: r, acc, 0 => by
    by_cases h : pre [s] (c :: r) = true
    · rw [spl_hit h]
      have := spl1_len s r [] ([s].length - 1)
      show (spl [s] _ [] r).length + 1 ≤ r.length + 1 + 1 ∧ acc.length + ((spl [s] _ [] r).map List.length).sum ≤ acc.length + (r.length + 1)
      have e : ([] : List Nat).length = 0 := rfl
      omega
    · rw [spl_miss (by simpa using h)]
      have := spl1_len s r (acc ++ [c]) 0
      rw [List.length_append] at this
      have e : ([c] : List Nat).length = 1 := rfl
      rw [List.length_cons]
      omega
  | c :: r, acc, k + 1 => by
    have := spl1_len s r acc k
    show (spl [s] k acc r).length ≤ r.length + 1 + 1 ∧ ((spl [s] k acc r).map List.length).sum ≤ acc.length + (r.length + 1)
    omega
theorem mem_sum1 : ∀ {l : List Nat} {n : Nat}, n ∈ l → n ≤ l.sum
  | a :: l, n, h => by
    rw [List.sum_cons]
    rcases List.mem_cons.mp h with rfl | h
    · omega
    · have := mem_sum1 h
      omega
/-- the words of a text: how many, how long -/
theorem split1_len {x y : Str} {s : Nat} (ey : tl y = [s]) (hk : y.cps.all (· < 256) = true) : (Txt.split x y).length ≤ x.length + 1 ∧ ((Txt.split x y).map (·.length)).sum ≤ x.length ∧ ∀ z ∈ Txt.split x y, z.length ≤ x.length := by
  have e := split_spl x y (by rw [ey]; simp) (kind_ok hk)
  rw [ey] at e
  have h := spl1_len s (tl x) [] 0
  rw [← e, List.length_map, List.map_map, ← len_tl] at h
  have em : (Txt.split x y).map (List.length ∘ tl) = (Txt.split x y).map (·.length) := List.map_congr_left fun z _ => (len_tl z).symm
  rw [em] at h
  have e0 : ([] : List Nat).length = 0 := rfl
  refine ⟨h.1, by omega, fun z hy => ?_⟩
  have := mem_sum1 (List.mem_map_of_mem (f := fun z : Str => z.length) hy)
  omega
theorem split1_spl {x y : Str} {s : Nat} (ey : tl y = [s]) (hk : y.cps.all (· < 256) = true) : (Txt.split x y).map tl = spl [s] 0 [] (tl x) := by
  rw [split_spl x y (by rw [ey]; simp) (kind_ok hk), ey]
end TX
/-! Polynomials read: the pairs, one by one; the sizes. -/
namespace PT
open PySem PySem.Spec PyProof.Rows L2 TX My
theorem prs_zip : ∀ l : List (List Nat), prs l = (evs l).zip (evs (l.drop 1))
  | [] => rfl
  | [_] => rfl
  | s :: r :: t => by
    show (s, r) :: prs t = _
    rw [prs_zip t]
    cases t with
    | nil => rfl
    | cons a t => rfl
def sg0 (w : Str) : Str := if (TL.tl w).take 1 = [45] then "-" else "+"
theorem tl_sg0 (w : Str) : TL.tl (sg0 w) = if (TL.tl w).take 1 = [45] then [45] else [43] := by
  unfold sg0
  split <;> decide +kernel
theorem pairs_zip {w0 r0 : Str} {ws : List Str} (h : TL.tl r0 = if (TL.tl w0).take 1 = [45] then (TL.tl w0).drop 1 else TL.tl w0) :
    pairsW ((w0 :: ws).map TL.tl) = ((sg0 w0 :: evs ws).map TL.tl).zip ((r0 :: evs (ws.drop 1)).map TL.tl) := by
  show ((if (TL.tl w0).take 1 = [45] then [45] else [43]), (if (TL.tl w0).take 1 = [45] then (TL.tl w0).drop 1 else TL.tl w0)) :: prs (ws.map TL.tl) = (TL.tl (sg0 w0), TL.tl r0) :: ((evs ws).map TL.tl).zip ((evs (ws.drop 1)).map TL.tl)
  rw [tl_sg0, h, prs_zip, evs_map, ← List.map_drop, evs_map]
theorem runP_app : ∀ (a b : List (List Nat × List Nat)) (t : List Int), runP (a ++ b) t = match runP a t with | none => none | some t' => runP b t'
  | [], b, t => rfl
  | q :: a, b, t => by
    show (match step1 t q with | none => none | some t' => runP (a ++ b) t') = match (match step1 t q with | none => none | some t' => runP a t') with | none => none | some t' => runP b t'
    cases step1 t q with
    | none => rfl
    | some t' => exact runP_app a b t'
theorem run_at {l : List (List Nat × List Nat)} {i : Nat} {q : List Nat × List Nat} {t : List Int} (hq : l[i]? = some q) (h : runP (l.take i) zeros = some t) :
    runP (l.take (i + 1)) zeros = step1 t q ∧ (step1 t q = none → runP l zeros = none) := by
  have e1 : l.take (i + 1) = l.take i ++ [q] := by rw [List.take_add_one, hq]; rfl
  have e2 : runP (l.take (i + 1)) zeros = step1 t q := by
    rw [e1, runP_app, h]
    show (match step1 t q with | none => none | some t' => some t') = _
    cases step1 t q <;> rfl
  refine ⟨e2, fun z => ?_⟩
  have e3 : l = l.take (i + 1) ++ l.drop (i + 1) := (List.take_append_drop _ _).symm
  rw [e3, runP_app, e2, z]
theorem tr_bound {w : List Nat} {t p : Int} (h : trW w = some (t, p)) : 0 ≤ t ∧ t < 10 ^ 60 ∧ 0 ≤ p ∧ p ≤ 60 := by
  unfold trW trL at h
  split at h
  · cases h
  · rename_i p0 rest e
    split at h
    · cases h
    · rename_i term et
      have b1 : 0 ≤ term ∧ term < 10 ^ 60 := by
        split at et
        · cases et
          decide
        · exact dg_lt et
      split at h
      · cases h
        exact ⟨b1.1, b1.2, by decide, by decide⟩
      · rename_i p1
        split at h
        · cases h
        · rename_i power ep
          split at h
          · rename_i c
            cases h
            refine ⟨b1.1, b1.2, ?_, c.2⟩
            split at ep
            · cases ep
              decide
            · exact (dg_lt ep).1
          · cases h
      · cases h
theorem step1_some {t t' : List Int} {q : List Nat × List Nat} (h : step1 t q = some t') : ∃ c p, trW q.2 = some (c, p) ∧ (q.1 = [43] ∨ q.1 = [45]) ∧ t' = put1 t (if q.1 = [43] then c else -c) p.toNat := by
  unfold step1 at h
  split at h
  · cases h
  · rename_i c p e
    split at h
    · rename_i g
      exact ⟨c, p, e, g, (Option.some.inj h).symm⟩
    · cases h
theorem step1_tr {t : List Int} {q : List Nat × List Nat} (h : trW q.2 = none) : step1 t q = none := by
  unfold step1
  rw [h]
theorem step1_sg {t : List Int} {q : List Nat × List Nat} (h : ¬ (q.1 = [43] ∨ q.1 = [45])) : step1 t q = none := by
  unfold step1
  split
  · rfl
  · rw [if_neg h]
theorem step1_go {t : List Int} {q : List Nat × List Nat} {c p : Int} (h : trW q.2 = some (c, p)) (g : q.1 = [43] ∨ q.1 = [45]) : step1 t q = some (put1 t (if q.1 = [43] then c else -c) p.toNat) := by
  unfold step1
  rw [h]
  show (if q.1 = [43] ∨ q.1 = [45] then some (put1 t (if q.1 = [43] then c else -c) p.toNat) else none) = _
  rw [if_pos g]
/-- the sizes while it is read -/
def okT (i : Nat) (t : List Int) : Prop := t.length = 61 ∧ ∀ k, (cf t k).natAbs ≤ i * 10 ^ 60
theorem okT_0 : okT 0 zeros := ⟨List.length_replicate .., fun k => by rw [cf_zeros]; exact Nat.zero_le _⟩
theorem okT_step {i : Nat} {t : List Int} {c : Int} {p : Nat} (h : okT i t) (hc : c.natAbs ≤ 10 ^ 60) (hp : p ≤ 60) : okT (i + 1) (put1 t c p) := by
  refine ⟨(put_len t c p).trans h.1, fun k => ?_⟩
  rw [cf_put t c (by rw [h.1]; omega) k]
  have e : (i + 1) * 10 ^ 60 = i * 10 ^ 60 + 10 ^ 60 := by rw [Nat.add_mul, Nat.one_mul]
  rw [e]
  have a := h.2 p
  have b := h.2 k
  generalize (10 : Nat) ^ 60 = N at a b hc
  generalize i * N = M at a b
  split
  · omega
  · omega
theorem okT_log {i : Nat} {t : List Int} (h : okT i t) (hi : i ≤ 6001) : ∀ z ∈ t, z.natAbs.log2 < 1920 := fun z hz => by
  obtain ⟨k, hk, e⟩ := List.getElem_of_mem hz
  have b := h.2 k
  have ez : cf t k = z := by
    unfold cf
    rw [List.getElem?_eq_getElem hk, e]
    rfl
  rw [ez] at b
  refine Nat.lt_of_lt_of_le (PySem.Flt.log2_lt_of (k := 250) (by decide) (Nat.lt_of_le_of_lt (Nat.le_trans b (Nat.mul_le_mul_right _ hi)) (by decide))) (by decide)
theorem trim_mem {ts : List Int} {z : Int} (h : z ∈ trim ts) : z ∈ ts := List.mem_of_mem_take h
theorem read_split {x : Str} : readT (TL.tl x) = match runP (pairsW ((Txt.split x " ").map TL.tl)) zeros with | none => none | some t => if textL (trim t) = TL.tl x then some (trim t) else none := by
  rw [split1_spl (y := " ") (s := 32) (by decide +kernel) (by decide +kernel)]
  rfl
theorem run_empty : runP (pairsW [[]]) zeros = none := by decide +kernel
theorem tr_split {x : Str} : trW (TL.tl x) = trL ((Txt.split x "m").map TL.tl) := by
  rw [split1_spl (y := "m") (s := 109) (by decide +kernel) (by decide +kernel)]
  rfl
theorem read_back {w : List Nat} {ts : List Int} (h : readT w = some ts) : textL ts = w := by
  unfold readT at h
  split at h
  · cases h
  · split at h
    · rename_i e
      rw [← Option.some.inj h, e]
    · cases h
end PT
/-! xs[i] += e of a list; a class called through a local name with *e. -/
namespace My
open PySem PySem.Spec PyProof.Rows L2
theorem get_list {X : Cx} : PGet X (rIxL X.K) := by
  intro pins s σ H x y v u Q I rx ry h
  obtain ⟨p, xs, i, z, rfl, rfl, hq, he, q⟩ := h
  cases rx
  obtain ⟨t, rfl⟩ := ry
  obtain ⟨its, r, pl, hz⟩ := I.list hq
  obtain ⟨j, h1, h2, h3, h4, h5⟩ := atI_get he
  obtain ⟨w, ew, rw'⟩ := r.get h2
  have hl := r.length
  have hn := line63
  have fin : EP X pins σ Q w s := ⟨z, H, I, rw', q⟩
  by_cases h0 : 0 ≤ i
  · have hj : i.toNat = j := by
      rw [seqIndex_of h0 h5] at h1
      exact Option.some.inj h1
    exact wpAny_getItem_list pl.isList h0 (by omega) (by rw [hj]; simpa using ew) fin
  · have hj : (i + (its.toArray.size : Int)).toNat = j := by
      rw [seqIndex_neg (by omega) h4] at h1
      rw [List.size_toArray, ← hl]
      exact Option.some.inj h1
    exact wpAny_getItem_list_neg pl.isList (by omega) (by rw [List.size_toArray] <;> omega) (by omega) (by rw [hj]; simpa using ew) fin
section
variable {X : Cx} {CX : CXT} {k : Nat} {C : Addr} {sp : Sp} {E : XK} {x : Str} {e fe : Expr} {te tf : TE} {sp_ pos : Pos}
/-- f(*e), f a local name that holds the class at C -/
def tMkLS (K : PySem.W.Frag) (C : Addr) (sp : Sp) (E : XK) (tf te : TE) : TE := fun σ H Q => tf σ H fun y H1 => y = .ref C ∧ tMakeS K C sp E te σ H1 Q
theorem pe_mkLS (M : MakeR X.prog X.w X.K X.mg X.base CX k x C sp) (hr : Room (k + 1) X.A) (hx : Passes CX X E) (hf : PE X fe tf) (he : PE X e te)
    (ht : eval (.Call fe [.Starred e sp_] [] pos) X.env = (do callWith pos (← eval fe X.env) [] (backTo pos (starEach [.Starred e sp_] X.env)) (backToKw pos (keywordEach [] X.env))) := by rfl)
    (hst : starEach [.Starred e sp_] X.env = [(true, eval e X.env)] := by rfl) : PE X (.Call fe [.Starred e sp_] [] pos) (tMkLS X.K C sp E tf te) := by
  obtain ⟨f, mk, F, hm⟩ := M.ex
  refine ⟨fun pins s σ H Q I h => ?_⟩
  refine Call_ (thn (hf.run pins s σ H _ I h) fun u s0 ⟨y0, H0, I0, ry0, ey0, q0⟩ => ?_) ht
  subst ey0
  obtain rfl : u = Value.ref C := ry0
  refine PySem.W.callWith_S (h₀ := X.base) I0.ok.mod.kin mk.kp (thn (he.run pins s0 σ H0 _ I0 q0) fun v t1 ⟨y, H1, I1, ry, a, xs, ey, hxs, q⟩ => ?_) hst
  subst ey
  obtain rfl : v = Value.ref a := ry
  exact StX.star_any I1 hxs fun us t2 I2 rv => ⟨I2.kIn, StX.run_makeR mk F hr hx I2 rv q⟩
/-- .. within a lambda or a comprehension, where the reading may not name the context -/
theorem op_cmpOB {X : Cx} {K : PySem.W.Frag} {CX : CXT} {k : Nat} {C : Addr} {m : Str} {ps : List Str} {sp : Sp} {E : XK} {op : CmpOp} (hK : X.K = K) (M : CmpAt X.prog X.w X.K X.mg X.base CX k C m ps sp) (hr : Room k X.A) (hx : Passes CX X E) (hop : (cmpInfo op).2.1 = m := by rfl)
    (hco : ∀ v u, compareOp op v u = richCompare op v u := by intro _ _; rfl) : OpR X (compareOp op) (rCmpO K C sp E) := hK ▸ op_cmpO M hr hx hop hco
end
end My
/-! An own error class E(Base(ValueError)) whose __init__ says super().__init__(f, g), self.f = f and self.g = g. -/
namespace Sup
open PySem PySem.W PySem.Calls PyProof.Rows PySem.HandSPX
def a2 (f g : Str) (p1 p2 p3 : Pos) : Arguments :=
  { posonlyargs := [], args := [{ arg := "self", annotation := none, pos := p1 }, { arg := f, annotation := none, pos := p2 }, { arg := g, annotation := none, pos := p3 }], vararg := none, kwonlyargs := [], kw_defaults := [], kwarg := none, defaults := [] }
def b2 (f g : Str) (q1 q2 q3 q4 q7 q5 q6 r1 r2 r3 r4 t1 t2 t3 t4 : Pos) : List Stmt :=
  [.Expr (.Call (.Attribute (.Call (.Name "super" q1) [] [] q2) "__init__" q3) [.Name f q4, .Name g q7] [] q5) q6, .Assign [.Attribute (.Name "self" r1) f r2] (.Name f r3) r4, .Assign [.Attribute (.Name "self" t1) g t2] (.Name g t3) t4]
def s2 (f g : Str) : Scope :=
  { kind := .function, names := [(PySem.Str.ofString "self", .local), (f, .local), (g, .local), (PySem.Str.ofString "__class__", .free), (PySem.Str.ofString "super", .globalImplicit)], isGenerator := false, isCoroutine := false, more := [] }
structure Nm2 (f g : Str) : Prop where
  f1 : (f == ("self" : Str)) = false
  f2 : (("__class__" : Str) == f) = false
  f3 : (("super" : Str) == f) = false
  f4 : (f == ("__debug__" : Str)) = false
  g1 : (g == ("self" : Str)) = false
  g2 : (("__class__" : Str) == g) = false
  g3 : (("super" : Str) == g) = false
  g4 : (g == ("__debug__" : Str)) = false
  fg : (f == g) = false
  gf : (g == f) = false
  bd : ∀ (qual : Str) (body : List Stmt) (doc pm : Value) (an : Option Addr) (cdv ct : Value) (cc : Addr) (p1 p2 p3 : Pos) (a b c : Value),
    bindArgs (ksFn "__init__" qual (a2 f g p1 p2 p3) body (s2 f g) .none .none doc pm an cdv ct cc) ⟨[a, b, c], []⟩ = pure [(("self" : Str), a), (f, b), (g, c)]
/-- what the top has written of the class x, at C, and of its __init__, at fI -/
structure Err2 (prog : Program) (K : Frag) (mg : Str → Option Value) (x f g : Str) (C fI : Addr) : Prop where
  gC : mg x = some (.ref C)
  ox : L2.OexC K C
  rd : L2.XfC K C
  nf : findIn K (.ref C) f = some none
  ng : findIn K (.ref C) g = some none
  nm : Nm2 f g
  iC : findIn K (.ref C) "__init__" = some (some (.ref fI))
  tI : typeIn K (.ref fI) = some (.type "function")
  fn : ∃ (qual : Str) (oc : Value) (od : Option Addr) (doc pm : Value) (an : Option Addr) (cda : Addr) (ct : Value) (cc : Addr) (osl : Array (Option Value)) (p1 p2 p3 q1 q2 q3 q4 q7 q5 q6 r1 r2 r3 r4 t1 t2 t3 t4 : Pos),
    K.lookup fI = some ⟨oc, od, .func (ksFn "__init__" qual (a2 f g p1 p2 p3) (b2 f g q1 q2 q3 q4 q7 q5 q6 r1 r2 r3 r4 t1 t2 t3 t4) (s2 f g) .none .none doc pm an (.ref cda) ct cc), osl⟩ ∧ codeIn K (.ref cda) qual = true ∧
    (∃ cl cld csl, K.lookup cc = some ⟨cl, cld, .cell (some (.ref C)), csl⟩) ∧ ∃ ccl cdd vs ccs file tf, K.lookup cda = some ⟨ccl, cdd, .fields vs, ccs⟩ ∧ vs[2]? = some (.str file tf) ∧ ((prog.main.file : Str) == file) = true ∧ (q3.endLine == q5.line) = true
  su : ks_superIn K C C "__init__" = some (some (.builtin "ValueError.__init__"))
  sV : subIn K (.ref C) (.type "ValueError") = some true
  sC : mroIn K C (.ref C) = some true
  gS : mg "super" = none
  oq : nsIn K cStatics "thirdparty.any" = some none
  top : (prog.main.scope.names.lookup ("super" : Str)).isSome = false
/-- what __init__ leaves of a fresh exception at x -/
structure End2 (h h' : Heap) (f g : Str) (x C dx t1 : Addr) (v u : Value) : Prop where
  keep : ∀ b o, b ≠ x → h.get? b = some o → h'.get? b = some o
  obj : h'.get? x = some { cls := .ref C, dict := some dx, data := .fields #[.ref t1, .none, .none, .none, .bool false, .none] }
  dbig : h.objs.size ≤ dx
  dne : dx ≠ x
  ns : h'.Ns1 dx (fun y => if y = g then some u else if y = f then some v else none)
theorem flip {a b : Str} (h : (a == b) = false) : (b == a) = false := by
  rw [Bool.eq_false_iff] at h ⊢
  intro y
  exact h (by rw [beq_iff_eq] at y ⊢; exact y.symm)
theorem lk2f {f g : Str} (N : Nm2 f g) : (s2 f g).names.lookup f = some .local := by
  simp only [s2, List.lookup, N.f1, beq_self_eq_true]
theorem lk2g {f g : Str} (N : Nm2 f g) : (s2 f g).names.lookup g = some .local := by
  simp only [s2, List.lookup, N.g1, N.gf, beq_self_eq_true]
theorem lk2c {f g : Str} (N : Nm2 f g) : (s2 f g).names.lookup ("__class__" : Str) = some .free := by
  have e : (("__class__" : Str) == ("self" : Str)) = false := by decide +kernel
  have e2 : (("__class__" : Str) == ("__class__" : Str)) = true := by decide +kernel
  simp only [s2, List.lookup, N.f2, N.g2, e, e2]
theorem lk2s {f g : Str} (N : Nm2 f g) : (s2 f g).names.lookup ("super" : Str) = some .globalImplicit := by
  have e : (("super" : Str) == ("self" : Str)) = false := by decide +kernel
  have e2 : (("super" : Str) == ("__class__" : Str)) = false := by decide +kernel
  have e3 : (("super" : Str) == ("super" : Str)) = true := by decide +kernel
  simp only [s2, List.lookup, N.f3, N.g3, e, e2, e3]
theorem meth_eq2 {o : Expr} {name f g : Str} {q3 q4 q7 q5 : Pos} {env : Env} (hp : (q3.endLine == q5.line) = true) :
    eval (.Call (.Attribute o name q3) [.Name f q4, .Name g q7] [] q5) env = (do
      let ov ← attributeBase o name env (eval o env)
      standAt q3.atName
      let (k, first) ← holding [ov] (getMethod ov name (do return (← importBound o env).getD true))
      callWith q5 k first (backTo q5 (starEach [.Name f q4, .Name g q7] env)) []) := by
  rw [arm_eval_Call]
  have hf : methodCallForm ([Expr.Name f q4, Expr.Name g q7].length + ([] : List Keyword).length) (backTo q5 (starEach [.Name f q4, .Name g q7] env)) (backToKw q5 (keywordEach [] env)) = true := rfl
  have e : ∀ ov, methodCall o name q3 q5 env ov ([Expr.Name f q4, Expr.Name g q7].length + ([] : List Keyword).length) (backTo q5 (starEach [.Name f q4, .Name g q7] env)) (backToKw q5 (keywordEach [] env)) = (do
      let (k, first) ← holding [ov] (getMethod ov name (do return (← importBound o env).getD true))
      callWith q5 k first (backTo q5 (starEach [.Name f q4, .Name g q7] env)) []) := fun ov => by
    unfold methodCall
    rw [hf]
    unfold calleeOf methodCallPos
    simp only [hp, Bool.not_true, Bool.false_or, if_true]
    rfl
  simp only [e]
section
variable {prog : Program} {w : World} {A : Around} {E : Value → Shared → Prop} {R : Result → Shared → Prop} {s : Shared} {K : Frag} {mg : Str → Option Value} {x f g : Str} {C fI : Addr}
theorem init2 (T : Err2 prog K mg x f g C fI) {e t0 : Addr} {v u : Value} (X : K.In s.heap) (hlim : s.heap.NoLimit) (hg : s.heap.Ns mainGlobals mg) (hb : ∃ mb, s.heap.Ns builtinsNs mb ∧ ∀ x : Str, x ≠ "__name__" → mb x = bootBuiltins x)
    (he : s.heap.get? e = some (excO C t0)) (hnx : K.lookup e = none) (hroom : A.depth < recursionLimit)
    (hq : ∀ h' tk dx t1, End2 s.heap h' f g e C dx t1 v u → R (.ok (.ret .none)) { s with heap := h', toks := tk }) :
    codeAny (model prog w) A (.call (.ref fI) ⟨[.ref e, v, u], []⟩) R s := by
  obtain ⟨qual, oc, od, doc, pm, an, cda, ct, cc, osl, p1, p2, p3, q1, q2, q3, q4, q7, q5, q6, r1, r2, r3, r4, j1, j2, j3, j4, ho, hcd, ⟨cl, cld, csl, hcell⟩, ccl, cdd, vs, ccs, file, tf, hcode, hvs, hfile, hqq⟩ := T.fn
  obtain ⟨nm, q, N, bs, bm, sn, sub, ab, col, dd, k0, k1, k2, k3, k5, hC, hbm⟩ := T.ox.cls
  obtain ⟨mb, hb1, hb2⟩ := hb
  have hcl : clsIn K C = some { name := nm, bases := bs, mro := .ref C :: bm, ns := N, qualname := q, hasDict := true, slotNames := sn, subclasses := sub, abstract := ab, collection := col, hasDel := false } := by unfold clsIn; rw [hC] <;> rfl
  have hloc : ∀ y ∈ [(("self" : Str), Value.ref e), (f, v), (g, u)], (s2 f g).names.lookup y.1 = some .local := fun y hy => by
    rcases List.mem_cons.mp hy with z | z
    · rw [z]; rfl
    · rcases List.mem_cons.mp z with z | z
      · rw [z]; exact lk2f T.nm
      · rw [List.mem_singleton.mp z]; exact lk2g T.nm
  have hsu : alongIn K "__init__" ((((Value.ref C :: bm) : List Value).dropWhile (· != .ref C)).drop 1) = some (some (.builtin "ValueError.__init__")) := by
    have z := T.su
    unfold ks_superIn at z
    rw [hcl] at z
    exact z
  refine ks_codeAny_call_defAt (fd := ksFn "__init__" qual (a2 f g p1 p2 p3) (b2 f g q1 q2 q3 q4 q7 q5 q6 r1 r2 r3 r4 j1 j2 j3 j4) (s2 f g) .none .none doc pm an (.ref cda) ct cc) (binds := [("self", .ref e), (f, v), (g, u)]) hroom (X _ _ ho) rfl hlim (codeRec_of X hcd) rfl (BindsTo.of_eq (T.nm.bd _ _ _ _ _ _ _ _ _ _ _ _ _ _))
    (by intro y hy; simp only [s2, List.mem_cons, List.mem_nil_iff, or_false] at hy; rcases hy with z | z | z | z | z <;> rw [z] <;> exact (fun w => nomatch w)) hloc (fun h1 hns kp => ?_)
  have X1 : K.In h1 := X.keeps kp
  have he1 := kp _ _ he
  have hC1 := X1 _ _ hC
  have hx0 : e ≠ C := fun z => by
    have y := X _ _ hC
    rw [← z, he] at y
    cases y
  have mself : ([(("self" : Str), Value.ref e), (f, v), (g, u)].reverse.lookup ("self" : Str)) = some (.ref e) := by
    simp only [List.reverse_cons, List.reverse_nil, List.nil_append, List.cons_append, List.lookup, flip T.nm.f1, flip T.nm.g1, beq_self_eq_true]
  have mf : ([(("self" : Str), Value.ref e), (f, v), (g, u)].reverse.lookup f) = some v := by
    simp only [List.reverse_cons, List.reverse_nil, List.nil_append, List.cons_append, List.lookup, T.nm.fg, beq_self_eq_true]
  have mg' : ([(("self" : Str), Value.ref e), (f, v), (g, u)].reverse.lookup g) = some u := by
    simp only [List.reverse_cons, List.reverse_nil, List.nil_append, List.cons_append, List.lookup, beq_self_eq_true]
  show _root_.PySem.wpAt _ _ _ (execs (b2 f g q1 q2 q3 q4 q7 q5 q6 r1 r2 r3 r4 j1 j2 j3 j4) _) _ _ _
  unfold b2
  refine ks_wpAt_execs_cons (ks_wpAt_Expr_any (ks_wpAt_MethodCall (ks_wpAt_super_base (lk2s T.nm) (lk2c T.nm) (by decide +kernel) rfl (X1 _ _ ho) rfl rfl rfl (X1 _ _ hcode) rfl hvs hfile T.top ?_) (meth_eq2 hqq)))
  refine ks_loadName_global rfl (lk2s T.nm) (loadGlobal_builtin (hg.keeps kp) T.gS (hb1.keeps kp) ((hb2 _ (by decide +kernel)).trans (by decide +kernel : bootBuiltins "super" = some (.type "super"))) ⟨rfl, ?_⟩)
  refine wpAny_loadName_free rfl (lk2c T.nm) rfl ⟨_, X1 _ _ hcell, rfl⟩ ?_
  refine wpAny_loadName_local rfl rfl hns mself ?_
  refine ks_wpAny_isType_cls hC1 rfl ⟨rfl, ?_⟩
  refine ks_wpAny_call_super hC1 rfl he1 rfl (fun c z => nomatch z) (looks_mroIn X1 T.sC) (fun h2 hso k2 => ?_)
  have X2 : K.In h2 := X1.keeps k2
  have he2 := k2 _ _ he1
  have I2 : InstAt h2 e (excO C t0) C none := ⟨he2, rfl, rfl, trivial⟩
  refine kxs_getMethod kxs_ValueError hso (looks_opaque X2 T.oq) (l₀ := .ref C :: bm) (fun A Q E s k q => wpAny_bind ((looks_clsIn X2 hcl) A _ E s k (wpAny_pure q))) rfl X2 hsu (I2.type.andThen (looks_subIn X2 T.sV)) hx0 (by decide +kernel) ?_
  refine kxs_callWith (i := "ValueError.__init__") (x := e) rfl ?_
  have hns2 := hns.keeps k2
  have k3 : ∀ b o, h2.get? b = some o → (h2.push (kxs_mw "ValueError.__init__" e)).get? b = some o := fun b o z => Heap.get?_push_of_some _ z
  refine evalArgs_plain (Calls.spliced_cons (ldc rfl (lk2f T.nm) (hns2.keeps k3) mf (Calls.spliced_cons (ldc rfl (lk2g T.nm) (hns2.keeps k3) mg' (Calls.spliced_nil ⟨Heap.get?_push_size _ rfl, ?_⟩) T.nm.g4)) T.nm.f4))
  show wpAny _ _ (call (.ref h2.objs.size) [v, u]) _ _ _
  refine call_mw (X2.keeps k3 _ _ hC) (k3 _ _ he2) (Heap.get?_push_size _ rfl) (by rw [sizeLine_eq]; exact (by decide : 2 ≤ 16777216)) fun h4 t1 k4 he4 => ?_
  have kall : ∀ b o, b ≠ e → s.heap.get? b = some o → h4.get? b = some o := fun b o hb z => k4 b o hb (k3 b o (k2 b o (kp b o z)))
  have X4 : K.In h4 := fun a o z => kall a o (fun y => by rw [y, hnx] at z; cases z) (X a o z)
  have hL : s.heap.objs.size ≠ e := Nat.ne_of_gt (Heap.lt_size he)
  have hns4 : h4.Ns s.heap.objs.size (fun y => [(("self" : Str), Value.ref e), (f, v), (g, u)].reverse.lookup y) := by
    obtain ⟨oL, es, ep, hoL, r⟩ := hns2
    exact ⟨oL, es, ep, k4 _ _ hL (k3 _ _ hoL), r⟩
  show _root_.PySem.wpAt _ _ _ (execs [.Assign [.Attribute (.Name "self" r1) f r2] (.Name f r3) r4, .Assign [.Attribute (.Name "self" j1) g j2] (.Name g j3) j4] _) _ _ _
  refine wpAt_of_wpAny (wpAny_execs_cons (plainObj_wpAny_Assign_Attribute (ldc rfl (lk2f T.nm) hns4 mf (ldc rfl rfl hns4 mself ?_) T.nm.f4)))
  refine set_plain X4 (ox := excO C t1) (od := none) ⟨he4, rfl, rfl, trivial⟩ T.ox.sa ?_
  refine exc_osa X4 he4 hcl (show refsVE (.ref C :: bm) = true from hbm) rfl T.nf (fun h5 tk5 dx k5 dn dne hx5 hn5 => ?_)
  have z1 : s.heap.objs.size ≤ h1.objs.size := Nat.le_of_lt hns.lt
  have z2 := hns4.lt
  have dbig : s.heap.objs.size ≤ dx := Nat.le_trans (Nat.le_of_lt z2) dn
  have X5 : K.In h5 := fun a o z => k5 a o (fun y => by rw [y, hnx] at z; cases z) (X4 a o z)
  have hns5 : h5.Ns s.heap.objs.size (fun y => [(("self" : Str), Value.ref e), (f, v), (g, u)].reverse.lookup y) := by
    obtain ⟨oL, es, ep, hoL, r⟩ := hns4
    exact ⟨oL, es, ep, k5 _ _ hL hoL, r⟩
  have hw5 : Within (fun y => if y = f then some v else none) [f] := fun y hy => by
    by_cases c : y = f
    · rw [c]
      exact List.mem_singleton.mpr rfl
    · exact absurd (show (if y = f then some v else none) = none from if_neg c) hy
  obtain ⟨oD, esD, epD, hoD, hdD, hcD⟩ := hn5.count hw5
  refine wpAny_execs_cons (plainObj_wpAny_Assign_Attribute (ldc rfl (lk2g T.nm) hns5 mg' (ldc rfl rfl hns5 mself ?_) T.nm.g4))
  refine set_plain X5 (od := some oD) ⟨hx5, rfl, rfl, hoD⟩ T.ox.sa ?_
  refine PySem.OEX.osa_old X5 hx5 hn5 hw5 (by show 1 ≤ 1000; decide) hcl (show refsVE (.ref C :: bm) = true from hbm) rfl T.ng (fun h6 tk6 k6 hn6 => ?_)
  refine wpAny_execs_nil (hq h6 tk6 dx t1 ⟨fun b o hb z => k6 b o (Nat.ne_of_lt (Nat.lt_of_lt_of_le (Heap.lt_size z) dbig)) (k5 b o hb (kall b o hb z)), k6 _ _ (Ne.symm dne) hx5, dbig, dne, hn6⟩)
/-- a made error -/
structure Made2 (h h' : Heap) (f g : Str) (e C d : Addr) (v u : Value) : Prop where
  keep : ∀ b o, h.get? b = some o → h'.get? b = some o
  new : h.objs.size ≤ e
  obj : ∃ oe vs, h'.get? e = some oe ∧ oe.cls = .ref C ∧ oe.dict = some d ∧ oe.data = .fields vs ∧ vs[1]? = some .none
  dbig : h.objs.size ≤ d
  dne : d ≠ e
  ns : h'.Ns1 d (fun y => if y = g then some u else if y = f then some v else none)
theorem made2 (T : Err2 prog K mg x f g C fI) {v u : Value} (X : K.In s.heap) (hlim : s.heap.NoLimit) (hg : s.heap.Ns mainGlobals mg) (hb : ∃ mb, s.heap.Ns builtinsNs mb ∧ ∀ x : Str, x ≠ "__name__" → mb x = bootBuiltins x) (hroom : A.depth + 1 < recursionLimit)
    (hq : ∀ h' tk e d, Made2 s.heap h' f g e C d v u → R (.ok (.ret (.ref e))) { s with heap := h', toks := tk }) :
    codeAny (model prog w) A (.call (.ref C) ⟨[v, u], []⟩) R s := by
  obtain ⟨nm, q, N, bs, bm, sn, sub, ab, col, dd, k0, k1, k2, k3, k5, hC, hbm⟩ := T.ox.cls
  obtain ⟨hp, gg, dr, tk, os⟩ := s
  have kp : ∀ b o, hp.get? b = some o → ((hp.push (kdv_tup [v, u])).push (excO C hp.objs.size)).get? b = some o := fun b o z => Heap.get?_push_of_some _ (Heap.get?_push_of_some _ z)
  have hget : ((hp.push (kdv_tup [v, u])).push (excO C hp.objs.size)).get? (hp.objs.size + 1) = some (excO C hp.objs.size) := by heap_get
  have hnx : K.lookup (hp.objs.size + 1) = none := by
    cases z : K.lookup (hp.objs.size + 1) with
    | none => rfl
    | some o => exact absurd (Nat.lt_of_succ_lt (Heap.lt_size (X _ _ z))) (Nat.lt_irrefl _)
  refine call_own F.excBase_ValueError (fun Y => refsVE_contains Y bm hbm) (X _ _ hC) (looks_findIn X T.iC) (fun self => bind_fn X self T.tI) (by rw [sizeLine_eq]; exact (by decide : 2 ≤ 16777216)) ?_
  obtain ⟨mb, hb1, hb2⟩ := hb
  refine init2 (s := ⟨(hp.push (kdv_tup [v, u])).push (excO C hp.objs.size), gg, dr, tk, os⟩) T (X.keeps kp) (hlim.keeps kp) (hg.keeps kp) ⟨mb, hb1.keeps kp, hb2⟩ hget hnx ?_ fun h' tk' dx t1 ⟨k', hx, dn, dne, hns⟩ => ?_
  · show A.depth + 1 < recursionLimit
    exact hroom
  · have old : ∀ b o, hp.get? b = some o → h'.get? b = some o := fun b o z => k' b o (Nat.ne_of_lt (Nat.lt_succ_of_lt (Heap.lt_size z))) (kp b o z)
    have z : hp.objs.size + 1 + 1 ≤ dx := by
      have y := dn
      first
        | (rw [Heap.size_push, Heap.size_push] at y; exact y)
        | exact y
    exact ⟨rfl, hq h' tk' (hp.objs.size + 1) dx ⟨old, Nat.le_succ _, ⟨_, _, hx, rfl, rfl, rfl, rfl⟩, Nat.le_trans (Nat.le_trans (Nat.le_succ _) (Nat.le_succ _)) z, dne, hns⟩⟩
end
end Sup
namespace L2
open PySem PySem.Spec PyProof.Rows
theorem relO_two {v u : V} {v' u' : Value} {f g : Str} (gf : (g == f) = false) (rv : RelV v v') (ru : RelV u u') (y : Str) : RelO (List.lookup y [(f, v), (g, u)]) (if y = g then some u' else if y = f then some v' else none) := by
  by_cases hw : y = g
  · rw [if_pos hw, hw]
    have z : List.lookup g [(f, v), (g, u)] = some u := by simp [List.lookup, gf]
    rw [z]
    exact ru
  · rw [if_neg hw]
    by_cases hf : y = f
    · rw [if_pos hf, hf]
      have z : List.lookup f [(f, v), (g, u)] = some v := by simp [List.lookup]
      rw [z]
      exact rv
    · rw [if_neg hf]
      have y1 : (y == f) = false := by simpa using hf
      have y2 : (y == g) = false := by simpa using hw
      have z : List.lookup y [(f, v), (g, u)] = none := by simp [List.lookup, y1, y2]
      rw [z]
      trivial
section
variable {X : Cx} {C fI : Addr} {x f g : Str}
/-- E(e, e2) -/
def tMk2 (C : Addr) (f g : Str) (ta : TA) : St → Hp → XK → Prop := fun σ H Q => ta σ H fun vs H1 => ∃ v u, vs = [v, u] ∧ ∀ d, H1 d = none → Q (.ref C) (some d) (upd H1 d (.xd [(f, v), (g, u)]))
theorem pmk_2 {a b : Expr} {ta : TA} {p pos : Pos} {k : Nat} (T : Sup.Err2 X.prog X.K X.mg x f g C fI) (hr : Room k X.A) (ha : PA X [a, b] ta) (hg : Gl X x := by rfl) (hdb : (x == ("__debug__" : Str)) = false := by decide)
    (hs : starEach (a :: [b]) X.env = (false, eval a X.env) :: starEach [b] X.env := by rfl) (hpl : (backTo pos (starEach [b] X.env)).any (·.1) = false := by rfl) :
    PMk X (.Call (.Name x p) [a, b] [] pos) (tMk2 C f g ta) := by
  intro pins s σ H Q I h
  refine wpAny_Call_Name_kw (ld_glob I hg T.gC ?_ hdb)
  refine PySem.W.callWith_K (h₀ := X.base) I.ok.mod.kin T.ox.kC (thn (ha.run pos pins s σ H _ I h) fun us s1 hh => ?_) hs hpl
  obtain ⟨vs, H1, I1, r1, v, u, ev, q1⟩ := hh
  subst ev
  refine ⟨I1.kIn, ?_⟩
  cases r1 with
  | cons rv rn =>
    rename_i v' us'
    cases rn with
    | cons ru rn =>
      rename_i u' us'
      cases rn
      show wpAny _ _ (call (.ref C) [v', u']) _ _ _
      have hlim := I1.nolimit
      obtain ⟨mb, hb1, hb2⟩ := I1.mod.blt
      have bk1 := I1.bk
      have gl1 := I1.mod.glob
      obtain ⟨hp, g0, dr, tk, os⟩ := s1
      refine wpAny_call (Sup.made2 T I1.kIn hlim (gl1.keeps bk1) ⟨mb, hb1.keeps bk1, hb2⟩ (by have := hr.dp; omega) fun h' tk' e d M => ?_)
      show MkP X pins σ Q (.ref e) ⟨h', g0, dr, tk', os⟩
      obtain ⟨oe, fv, hoe, hc, hd, hdat, h1⟩ := M.obj
      have hns := M.ns
      obtain ⟨G', g1, g2⟩ := restrict h' fun b => decide (b ≠ e)
      have gk : ∀ b, b ≠ e → G'.get? b = h'.get? b := fun b hb => g1 b (decide_eq_true hb)
      have ge : G'.get? e = none := g2 e (by simp)
      have old : ∀ b o, hp.get? b = some o → G'.get? b = some o := fun b o z => (gk b (Nat.ne_of_lt (Nat.lt_of_lt_of_le (Heap.lt_size z) M.new))).trans (M.keep b o z)
      have ob : ObjOk X.prog X.w (upd H1 d (.xd [(f, v), (g, u)])) G' d (.xd [(f, v), (g, u)]) :=
        ⟨_, hns.at (fun o z => (gk d M.dne).trans z), fun y => relO_two T.nm.gf rv ru y⟩
      have J : Inv X pins σ (upd H1 d (.xd [(f, v), (g, u)])) ⟨G', g0, dr, tk', os⟩ := I1.laid (t' := tk') old M.dbig ob
      refine ⟨e, oe, fv, ⟨G', g0, dr, tk', os⟩, _, .ref C, some d, rfl, J, fun b o z => ?_, ge, hoe, ⟨hc, hd⟩, hdat, h1, ?_, rfl, I1.bare, raises_own T.ox.exC T.ox.tyC, q1 d (I1.hok.fresh M.dbig)⟩
      · by_cases hb : b = e
        · have z' : G'.get? b = some o := z
          rw [hb, ge] at z'; cases z'
        · exact (gk b hb).symm.trans z
      · rw [upd_ne (Ne.symm M.dne)]
        exact I1.hok.fresh M.new
/-- raise E(e, e2) -/
def tRaise2 (C : Addr) (f g : Str) (W : WX) (ta : TA) : TS := fun _ σ H => tMk2 C f g ta σ H fun cls d H' => W cls d σ H'
theorem ps_raise2 {a b : Expr} {ta : TA} {W : WX} {p pos pos2 : Pos} {k : Nat} (hc : X.calm = true) (T : Sup.Err2 X.prog X.K X.mg x f g C fI) (hr : Room k X.A) (tk : Takes X W) (ha : PA X [a, b] ta) (hg : Gl X x := by rfl) (hdb : (x == ("__debug__" : Str)) = false := by decide)
    (hs : starEach (a :: [b]) X.env = (false, eval a X.env) :: starEach [b] X.env := by rfl) (hpl : (backTo pos (starEach [b] X.env)).any (·.1) = false := by rfl) :
    PS X (.Raise (some (.Call (.Name x p) [a, b] [] pos)) none pos2) (tRaise2 C f g W ta) := ps_raise hc tk (pmk_2 T hr ha hg hdb hs hpl)
end
end L2
set_option pp.maxSteps 1500
set_option pp.deepTerms.threshold 8
/-! ### polynomials written -/
namespace My
open PySem PySem.Spec PyProof.Rows L2
abbrev s_ttext : Stmt := topS 16
theorem sc_ttext : FnScope ["term", "power", "name"] ["term", "power"] (defScope s_ttext) := ⟨rfl, rfl, rfl, by decide +kernel, rfl, by decide +kernel, by decide +kernel⟩
abbrev s_tstext : Stmt := topS 19
theorem sc_tstext : FnScope ["terms", "found", "power", "term", "sign", "ahead"] ["terms"] (defScope s_tstext) := ⟨rfl, rfl, rfl, by decide +kernel, rfl, by decide +kernel, by decide +kernel⟩
abbrev s_pstr : Stmt := inClass (topS 26) 23
theorem sc_pstr : FnScope ["self"] ["self"] (defScope s_pstr) := ⟨rfl, rfl, rfl, by decide +kernel, rfl, by decide +kernel, by decide +kernel⟩
/-- term_text -/
def spTtextE : Sp := fun vs H Q _ => ∃ (c p : Nat), vs = [.int (c : Int), .int (p : Int)] ∧ (c : Int).natAbs.log2 < 1920 ∧ (p : Int).natAbs.log2 < 1920 ∧ ∀ z : Str, z.length ≤ 4000 → TL.tl z = PT.rowL c p → Q (.str z) H
def spTstextE : Sp := fun vs H Q _ => ∃ (t : Addr) (ts : List Int), vs = [.ref t] ∧ H t = some (.tup (ts.map V.int)) ∧ ts.length ≤ 1000 ∧ (∀ z ∈ ts, z.natAbs.log2 < 1920) ∧ ∀ z : Str, TL.tl z = PT.textL ts → Q (.str z) H
def spPstrE (C : Addr) : Sp := fun vs H Q _ => ∃ (p : Addr) (ts : List Int), vs = [.ref p] ∧ PolyAt C H p ts ∧ ts.length ≤ 1000 ∧ (∀ z ∈ ts, z.natAbs.log2 < 1920) ∧ ∀ z : Str, TL.tl z = PT.textL ts → Q (.str z) H
theorem abs_eq (t : Int) : (if t < 0 then -t else t).natAbs = t.natAbs := by split <;> omega
theorem abs_nat (t : Int) : (if t < 0 then -t else t) = ((t.natAbs : Nat) : Int) := by split <;> omega
theorem e0_ : (Str.empty).length = 0 := rfl
theorem tl_e0 : TL.tl Str.empty = [] := rfl
theorem tl_m : TL.tl ("m" : Str) = [109] := by decide +kernel
theorem tl_mp : TL.tl ("m^" : Str) = [109, 94] := by decide +kernel
theorem tl_sp : TL.tl (" " : Str) = [32] := by decide +kernel
theorem tl_mi : TL.tl ("-" : Str) = [45] := by decide +kernel
theorem tl_pl : TL.tl ("+" : Str) = [43] := by decide +kernel
theorem tl_no : TL.tl ("" : Str) = [] := by decide +kernel
theorem tl_ze : TL.tl ("0" : Str) = [48] := by decide +kernel
theorem str_ne_nil {z : Str} : (!decide (V.str z = V.str "")) = decide (TL.tl z ≠ []) := by
  rw [TX.str_eq, tl_no]
  by_cases h : TL.tl z = []
  · rw [decide_eq_true h, decide_eq_false (fun y => y h)]
    rfl
  · rw [decide_eq_false h, decide_eq_true (show TL.tl z ≠ [] from h)]
    rfl
section
variable {P : Program} {w : World} {K : PySem.W.Frag} {mg : Str → Option Value} {base : Heap} {C CB fB CP fP CI fI : Addr}
theorem ok_ttext {f : Addr} {fd : FuncData} (F : Fun K "term_text" "term_text" s_ttext f fd) (T : PTx P K mg C CB fB CP fP CI fI) : FnOk P w K mg base CX0 1 f fd ["term", "power"] spTtextE := by
  refine F.ok sc_ttext (fun vs H Q E h => ?_) (fun cdv A outer s H vs Q E hr h => ?_)
  · obtain ⟨t, p, rfl, _⟩ := h
    rfl
  · obtain ⟨t, p, rfl, lt, lp, k⟩ := h
    refine ⟨_, (pss_cons (ps_if (pt_cmpR op_eq (pv 1) pe_int (nomark _)) (pss_one (ps_ret (pe_callTy call_str_int (by rfl) T.z_str boot_str (pa_cons (pv 0) pa_nil)))) pss_nil)
      (C8.pss_cut (ps_set (i := 2) sc_ttext.nd rfl (Or.inl rfl) (pe_ifExp (pt_cmpR op_eq (pv 1) pe_int (nomark _)) pe_str (pe_joined (PJ.cons pe_str (PJ.cons (pe_fmt (pv 1)) PJ.nil)))))
      (pss_one (ps_ret (pe_ifExp (pt_cmpR op_eq (pv 0) pe_int (nomark _)) (pv 2) (pe_joined (PJ.cons (pe_fmt (pv 0)) (PJ.cons (pe_fmt (pv 2)) PJ.nil)))))))), ?_⟩
    have nt := num_len lt
    have np := num_len lp
    have tt := TL.tl_num t
    have tp := TL.tl_num p
    refine ⟨_, rfl, rfl, _, rfl, ?_⟩
    refine ite2 (fun c => ?_) (fun c => ?_)
    · have c' : p = 0 := by
        have := V.int.inj (of_decide_eq_true c)
        omega
      exact ⟨_, rfl, t, rfl, lt, k _ (by omega) (by rw [tt]; unfold PT.rowL PT.nameL; rw [if_neg (fun z => z.2 c'), if_pos c', List.append_nil])⟩
    · have c' : p ≠ 0 := fun z => c (decide_eq_true (by rw [z]; rfl))
      refine ⟨fun σ Hz => ∃ z : Str, σ = [some (.int t), some (.int p), some (.str z)] ∧ z.length ≤ 1923 ∧ TL.tl z = PT.nameL p ∧ Hz = H, ?_, ?_⟩
      · refine ⟨_, rfl, rfl, _, rfl, ?_⟩
        refine ite2 (fun c2 => ?_) (fun c2 => ?_)
        · have c2' : p = 1 := by
            have := V.int.inj (of_decide_eq_true c2)
            omega
          exact ⟨_, rfl, by decide, by rw [tl_m, c2']; rfl, rfl⟩
        · have c2' : p ≠ 1 := fun z => c2 (decide_eq_true (by rw [z]; rfl))
          have e2 : (("m^" : Str)).length = 2 := rfl
          refine ⟨_, rfl, by rw [app_len, sizeLine_eq, e0_, e2]; omega, _, rfl, .inr ⟨p, rfl, lp, _, rfl, by rw [app_len, app_len, sizeLine_eq, e0_, e2]; omega, ?_⟩⟩
          exact ⟨_, rfl, by rw [app_len, app_len, e0_, e2]; omega, by rw [TL.tl_append, TL.tl_append, tl_e0, tl_mp, tp]; unfold PT.nameL PT.nameL.numLn; rw [if_neg c', if_neg c2']; rfl, rfl⟩
      · rintro σ Hz ⟨z, rfl, lz, ez, rfl⟩
        refine ⟨_, rfl, rfl, _, rfl, ?_⟩
        refine ite2 (fun c2 => ?_) (fun c2 => ?_)
        · have c2' : t = 1 := by
            have := V.int.inj (of_decide_eq_true c2)
            omega
          exact ⟨_, rfl, k _ (by omega) (by rw [ez]; unfold PT.rowL; rw [if_pos ⟨c2', c'⟩]; rfl)⟩
        · have c2' : t ≠ 1 := fun z => c2 (decide_eq_true (by rw [z]; rfl))
          exact ⟨_, rfl, .inr ⟨t, rfl, lt, _, rfl, by rw [app_len, sizeLine_eq, e0_]; omega, _, rfl, .inl ⟨z, rfl, by rw [sizeLine_eq]; omega, _, rfl, by rw [app_len, app_len, sizeLine_eq, e0_]; omega, k _ (by rw [app_len, app_len, e0_]; omega) (by rw [TL.tl_append, TL.tl_append, tl_e0, tt, ez]; unfold PT.rowL; rw [if_neg fun y => c2' y.1]; rfl)⟩⟩⟩
theorem ok_tstext {f : Addr} {fd : FuncData} (F : Fun K "terms_text" "terms_text" s_tstext f fd) (T : PTx P K mg C CB fB CP fP CI fI) (D_ttext : DefAt P w K mg base CX0 1 "term_text" ["term", "power"] spTtextE) : FnOk P w K mg base CX0 2 f fd ["terms"] spTstextE := by
  refine F.ok sc_tstext (fun vs H Q E h => ?_) (fun cdv A outer s H vs Q E hr h => ?_)
  · obtain ⟨t, ts, rfl, _⟩ := h
    rfl
  · obtain ⟨t, ts, rfl, ht, hl, lg, k⟩ := h
    refine ⟨_, (pss_cons (ps_set (i := 1) sc_tstext.nd rfl (Or.inl rfl) pe_str)
      (pss_cons (ps_for PassesOwn.never rfl (pi_range3 rfl T.z_range (pa_cons (pe_op op_sub (pe_callB call_len (by rfl) T.z_len PySem.boot_len (pa_cons (pv 0) pa_nil)) pe_int) (pa_cons (pe_un un_neg pe_int) (pa_cons (pe_un un_neg pe_int) pa_nil)))) (pg_name (i := 2) sc_tstext.nd rfl (Or.inl rfl)) (pss_cons (ps_set (i := 3) sc_tstext.nd rfl (Or.inl rfl) (pe_ix ix_tup (pv 0) (pv 2) (fun _ _ => rfl)))
      (pss_one (ps_if (pt_cmpR op_ne (pv 3) pe_int (nomark _)) (C8.pss_cut (ps_set (i := 4) sc_tstext.nd rfl (Or.inl rfl) (pe_ifExp (pt_cmpR op_lt (pv 3) pe_int (nomark _)) pe_str pe_str))
      (C8.pss_cut (ps_set (i := 5) sc_tstext.nd rfl (Or.inl rfl) (pe_ifExp (pt_cmpR op_ne (pv 1) pe_str (nomark _)) (pe_joined (PJ.cons pe_str (PJ.cons (pe_fmt (pv 4)) (PJ.cons pe_str PJ.nil)))) (pe_ifExp (pt_cmpR op_lt (pv 3) pe_int (nomark _)) pe_str pe_str)))
      (pss_one (ps_set (i := 1) sc_tstext.nd rfl (Or.inl rfl) (pe_joined (PJ.cons (pe_fmt (pv 1)) (PJ.cons (pe_fmt (pv 5)) (PJ.cons (pe_fmt (My.pe_d D_ttext (hr.mono (by decide)) (by rfl) pass0 (pa_cons (pe_callB call_abs (by rfl) T.z_abs boot_abs (pa_cons (pv 3) pa_nil)) (pa_cons (pv 2) pa_nil)))) PJ.nil)))))))) pss_nil))))
      (pss_one (ps_ret (pe_ifExp (pt_cmpR op_ne (pv 1) pe_str (nomark _)) (pv 1) pe_str))))), ?_⟩
    refine ⟨_, rfl, _, ts.length, rfl, .inr ⟨_, SqT.of ht, (List.length_map ..).symm⟩, _, _, rfl, rfl, _, rfl, _, rfl, ?_⟩
    have rg : RgC ((ts.length : Int) - 1) (-1) (-1) ts.length := by
      have z := RgC.neg (i := (ts.length : Int) - 1) (j := -1) (by omega) (by omega) (by decide) (by decide)
      have e : (((ts.length : Int) - 1) - -1).toNat = ts.length := by omega
      rw [e] at z
      exact z
    refine ⟨(ts.length : Int) - 1, -1, -1, ts.length, rfl, rg, for_rangeC (lo := (ts.length : Int) - 1) (c := -1) (n := ts.length) (fun i σ H' => ∃ (z : Str) (v2 v3 v4 v5 : Option V), σ = [some (.ref t), some (.str z), v2, v3, v4, v5] ∧ z.length ≤ 5000 * i ∧ TL.tl z = (PT.nzl ts ((PT.dn ts.length).take i)).foldl PT.addT [] ∧ H' = H) ⟨_, none, none, none, none, rfl, Nat.le_refl _, rfl, rfl⟩ ?_ ?_⟩
    · rintro i σ H' hi ⟨z, v2, v3, v4, v5, rfl, lz, ez, rfl⟩
      have st := PT.body_step (ts := ts) hi
      obtain ⟨x, hx⟩ : ∃ x, ts[ts.length - 1 - i]? = some x := ⟨_, List.getElem?_eq_getElem (by omega)⟩
      have ecf : cf ts (ts.length - 1 - i) = x := by
        unfold cf
        rw [hx]
        rfl
      rw [ecf, ← ez] at st
      have ea : atI (ts.map V.int) ((ts.length : Int) - 1 + (i : Nat) * -1) = some (.int x) := at_of (j := ts.length - 1 - i) (by omega) (by rw [List.getElem?_map, hx]; rfl)
      have lx := lg x (List.mem_of_getElem? hx)
      refine ⟨_, rfl, _, rfl, t, _, _, .int x, rfl, rfl, SqT.of ht, ea, ?_⟩
      refine ⟨_, rfl, rfl, _, rfl, ?_⟩
      refine ite2 (fun c => ?_) (fun c => ⟨z, _, _, _, _, rfl, by omega, ?_, rfl⟩)
      case refine_2 =>
        have c' : x = 0 := by
          have := Bool.eq_false_iff.mpr c
          have := Bool.not_eq_false' .. |>.mp this
          exact V.int.inj (of_decide_eq_true this)
        rw [st, if_pos c']
      have c' : x ≠ 0 := fun y => by
        rw [y] at c
        exact absurd c (by decide)
      rw [if_neg c'] at st
      refine ⟨fun σ Hz => ∃ sg : Str, σ = [some (.ref t), some (.str z), some (.int ((ts.length : Int) - 1 + (i : Nat) * -1)), some (.int x), some (.str sg), v5] ∧ sg.length = 1 ∧ TL.tl sg = PT.sgL x ∧ Hz = H', ?_, ?_⟩
      · refine ⟨_, rfl, _, _, rfl, rfl, _, rfl, ?_⟩
        exact ite2 (fun d => ⟨_, rfl, rfl, by unfold PT.sgL; rw [if_pos (of_decide_eq_true d), tl_mi], rfl⟩) (fun d => ⟨_, rfl, rfl, by unfold PT.sgL; rw [if_neg (fun y => d (decide_eq_true y)), tl_pl], rfl⟩)
      · rintro σ Hz ⟨sg, rfl, lsg, esg, rfl⟩
        refine ⟨fun σ Hz2 => ∃ ah : Str, σ = [some (.ref t), some (.str z), some (.int ((ts.length : Int) - 1 + (i : Nat) * -1)), some (.int x), some (.str sg), some (.str ah)] ∧ ah.length ≤ 3 ∧ TL.tl ah = (if TL.tl z ≠ [] then [32] ++ PT.sgL x ++ [32] else if x < 0 then [45] else []) ∧ Hz2 = Hz, ?_, ?_⟩
        · refine ⟨_, rfl, rfl, _, rfl, ?_⟩
          rw [str_ne_nil]
          refine ite2 (fun d => ?_) (fun d => ?_)
          · have e1 : ((" " : Str)).length = 1 := rfl
            refine ⟨_, rfl, by rw [app_len, sizeLine_eq, e0_, e1]; omega, _, rfl, .inl ⟨sg, rfl, by rw [sizeLine_eq]; omega, _, rfl, by rw [app_len, app_len, sizeLine_eq, e0_, e1]; omega, _, rfl, by rw [app_len, app_len, app_len, sizeLine_eq, e0_, e1]; omega, ?_⟩⟩
            exact ⟨_, rfl, by rw [app_len, app_len, app_len, e0_, e1]; omega, by rw [TL.tl_append, TL.tl_append, TL.tl_append, tl_e0, tl_sp, esg, if_pos (of_decide_eq_true d)]; rfl, rfl⟩
          · have d' : ¬ (TL.tl z ≠ []) := fun y => d (decide_eq_true y)
            refine ⟨_, rfl, _, _, rfl, rfl, _, rfl, ?_⟩
            exact ite2 (fun g => ⟨_, rfl, by decide, by rw [if_neg d', if_pos (of_decide_eq_true g), tl_mi], rfl⟩) (fun g => ⟨_, rfl, by decide, by rw [if_neg d', if_neg (fun y => g (decide_eq_true y)), tl_no], rfl⟩)
        · rintro σ Hz2 ⟨ah, rfl, lah, eah, rfl⟩
          have lp : (((ts.length - 1 - i : Nat) : Int)).natAbs.log2 < 1920 := by
            refine Nat.lt_of_lt_of_le (PySem.Flt.log2_lt_of (k := 10) (by decide) ?_) (by decide)
            show _ < 1024
            omega
          have ep : (ts.length : Int) - 1 + (i : Nat) * -1 = ((ts.length - 1 - i : Nat) : Int) := by omega
          refine ⟨_, rfl, .inl ⟨z, rfl, by rw [sizeLine_eq]; omega, _, rfl, by rw [app_len, sizeLine_eq, e0_]; omega, _, rfl, .inl ⟨ah, rfl, by rw [sizeLine_eq]; omega, _, rfl, by rw [app_len, app_len, sizeLine_eq, e0_]; omega, _, rfl, _, rfl, _, rfl, x.natAbs, ts.length - 1 - i, by rw [abs_nat, ep]; rfl, (by rw [Int.natAbs_natCast]; exact lx), lp, fun y ly ey => ?_⟩⟩⟩
          refine .inl ⟨y, rfl, by rw [sizeLine_eq]; omega, _, rfl, by rw [app_len, app_len, app_len, sizeLine_eq, e0_]; omega, ?_⟩
          exact ⟨_, _, _, _, _, rfl, by rw [app_len, app_len, app_len, e0_]; omega, by rw [TL.tl_append, TL.tl_append, TL.tl_append, tl_e0, eah, ey, st]; unfold PT.addT; simp only [List.nil_append], rfl⟩
    · rintro σ H' ⟨z, v2, v3, v4, v5, rfl, lz, ez, rfl⟩
      rw [List.take_of_length_le (by rw [PT.dn_len]; exact Nat.le_refl _)] at ez
      refine ⟨_, rfl, rfl, _, rfl, ?_⟩
      rw [str_ne_nil]
      exact ite2 (fun d => ⟨_, rfl, k _ (by unfold PT.textL PT.bodyL; rw [if_neg (by rw [← ez]; exact of_decide_eq_true d), ez])⟩) (fun d => k _ (by
        have d' : TL.tl z = [] := Classical.byContradiction fun y => d (decide_eq_true y)
        unfold PT.textL PT.bodyL
        rw [if_pos (by rw [← ez, d']), tl_ze]))
theorem ok_pstr {f : Addr} {fd : FuncData} (F : Fun K "__str__" "Poly.__str__" s_pstr f fd) (T : PTx P K mg C CB fB CP fP CI fI) (D_tstext : DefAt P w K mg base CX0 2 "terms_text" ["terms"] spTstextE) : FnOk P w K mg base CX0 3 f fd ["self"] (spPstrE C) := by
  refine F.ok sc_pstr (fun vs H Q E h => ?_) (fun cdv A outer s H vs Q E hr h => ?_)
  · obtain ⟨p, ts, rfl, _⟩ := h
    rfl
  · obtain ⟨p, ts, rfl, ⟨dx, t, hp, ht⟩, hl, lg, k⟩ := h
    refine ⟨_, (pss_one (ps_ret (pe_callTy SkE.call_str_str (by rfl) T.z_str boot_str (pa_cons (My.pe_d D_tstext (hr.mono (by decide)) (by rfl) pass0 (pa_cons (pe_fld (pv 0) rfl) pa_nil)) pa_nil)))), ?_⟩
    exact ⟨_, rfl, p, C, dx, _, .ref t, rfl, hp, T.cl, T.nT, pfs_terms _ _, t, ts, rfl, ht, hl, lg, fun z ez => ⟨_, rfl, k z ez⟩⟩
end
end My
/-! == and != of data with any texts. -/
namespace My
open PySem PySem.Spec PyProof.Rows L2
section
variable {X : Cx}
def rEqP (K : PySem.W.Frag) : R2 := fun x y H Q => ∃ d e, Dp K H x d ∧ Dp K H y e ∧ d.plain = true ∧ e.plain = true ∧ min d.depth e.depth ≤ 60 ∧ Q (.bl (PyData.eqv d e)) H
def rNeP (K : PySem.W.Frag) : R2 := fun x y H Q => ∃ d e, Dp K H x d ∧ Dp K H y e ∧ d.plain = true ∧ e.plain = true ∧ min d.depth e.depth ≤ 60 ∧ Q (.bl (!PyData.eqv d e)) H
theorem op_eqP (hu : X.A.units + 64 < cLine) : OpR X (compareOp .Eq) (rEqP X.K) := by
  intro pins s σ H x y v u Q I rx ry h
  obtain ⟨d, e, hd, he, sd, se, dp, q⟩ := h
  obtain ⟨as, r1⟩ := Dp.reads I d x v hd rx
  obtain ⟨bs, r2⟩ := Dp.reads I e y u he ry
  exact SeqAt.eq_plain r1 r2 sd se (by omega) ⟨.bl _, H, I, rfl, q⟩
theorem op_neP (hu : X.A.units + 64 < cLine) : OpR X (compareOp .NotEq) (rNeP X.K) := by
  intro pins s σ H x y v u Q I rx ry h
  obtain ⟨d, e, hd, he, sd, se, dp, q⟩ := h
  obtain ⟨as, r1⟩ := Dp.reads I d x v hd rx
  obtain ⟨bs, r2⟩ := Dp.reads I e y u he ry
  exact SeqAt.ne_plain r1 r2 sd se (by omega) ⟨.bl _, H, I, rfl, q⟩
theorem plain_strs : ∀ zs : List Str, PyData.plainAll (zs.map PyData.str) = true
  | [] => rfl
  | z :: zs => by
    show (true && PyData.plainAll (zs.map PyData.str)) = true
    rw [plain_strs zs]
    rfl
end
end My
/-! A class made through a local name; classmethods called by keywords. -/
namespace My
open PySem PySem.Spec PySem.Calls PyProof.Rows L2 ClX
section
variable {X : Cx} {CX : CXT} {k : Nat} {C : Addr} {ps ks : List Str} {sp : Sp} {E : XK} {x m : Str} {e o fe : Expr} {es : List Expr} {kws : List Keyword} {t tk : TA} {ta tf : TE} {p pos apos : Pos} {dvs : List V} {gV : List V → List V → List V}
/-- f(e, ..), f a local name that holds the class at C -/
def tMkL (C : Addr) (sp : Sp) (dvs : List V) (E : XK) (tf : TE) (t : TA) : TE := fun σ H Q => tf σ H fun y H1 => y = .ref C ∧ tMake C sp dvs E t σ H1 Q
theorem pe_mkL (M : MakeAt X.prog X.w X.K X.mg X.base CX k x C ps sp dvs) (hr : Room (k + 1) X.A) (hx : Passes CX X E) (hf : PE X fe tf) (ha : PA X (e :: es) t)
    (ht : eval (.Call fe (e :: es) [] pos) X.env = (do callWith pos (← eval fe X.env) [] (backTo pos (starEach (e :: es) X.env)) (backToKw pos (keywordEach [] X.env))) := by rfl)
    (hs : starEach (e :: es) X.env = (false, eval e X.env) :: starEach es X.env := by rfl) (hpl : (backTo pos (starEach es X.env)).any (·.1) = false := by rfl) : PE X (.Call fe (e :: es) [] pos) (tMkL C sp dvs E tf t) := by
  obtain ⟨f, fd, ds, mk, F, hm, b, d⟩ := M.ex
  refine ⟨fun pins s σ H Q I h => ?_⟩
  refine Call_ (thn (hf.run pins s σ H _ I h) fun u s1 ⟨y, H1, I1, ry, ey, q⟩ => ?_) ht
  subst ey
  obtain rfl : u = Value.ref C := ry
  refine PySem.W.callWith_K (first := []) (h₀ := X.base) I1.ok.mod.kin mk.kp (thn (ha.run pos pins s1 σ H1 _ I1 q) fun us s2 ⟨vs, H2, I2, r, q2⟩ => ⟨I2.kIn, ?_⟩) hs hpl
  exact run_make mk F hr b d hx I2 r q2
/-- a classmethod by keywords alone -/
structure ClsK (P : Program) (w : World) (K : PySem.W.Frag) (mg : Str → Option Value) (base : Heap) (CX : CXT) (k : Nat) (C : Addr) (m : Str) (ps ks : List Str) (sp : Sp) (gV : List V → List V → List V) : Prop where
  ex : ∃ mc p g fd gg, ClX.CRead K C mc ∧ ClX.CMet K C mc m p g ∧ FnOk P w K mg base CX k g fd ps sp ∧ KBn K fd ps 1 ks gg gV
def tClsK (C : Addr) (j : Nat) (sp : Sp) (gV : List V → List V → List V) (E : XK) (ta : TE) (tk : TA) : TE := fun σ H Q => ta σ H fun x H1 => x = .ref C ∧ tk σ H1 fun zs H2 => zs.length = j ∧ sp (gV [.ref C] zs) H2 Q E
theorem pe_cmK {pl : Sem Bool} (M : ClsK X.prog X.w X.K X.mg X.base CX k C m ps ks sp gV) (hr : Room k X.A) (hx : Passes CX X E) (he : PE X o ta) (hkw : PK X kws tk)
    (hall : (backToKw pos (keywordEach kws X.env)).all (·.1.isSome) = true := by rfl) (hks : (backToKw pos (keywordEach kws X.env)).filterMap (·.1) = ks := by rfl)
    (hpl : ((backTo pos (starEach [] X.env)).any (·.1) || (backToKw pos (keywordEach kws X.env)).any (·.1.isNone)) = false := by rfl)
    (ht : eval (.Call (.Attribute o m apos) [] kws pos) X.env = (do
      let ov ← eval o X.env
      standAt apos.atName
      let (f, first) ← holding [ov] (getMethod ov m pl)
      callWith pos f first (backTo pos (starEach [] X.env)) (backToKw pos (keywordEach kws X.env))) := by rfl) :
    PE X (.Call (.Attribute o m apos) [] kws pos) (tClsK C ks.length sp gV E ta tk) := by
  obtain ⟨mc, p, g, fd, gg, r, c, F, b⟩ := M.ex
  refine ⟨fun pins s σ H Q I h => ?_⟩
  refine PySem.W.methodCall_KW (pl := pl) (thn (he.run pins s σ H _ I h) fun u s1 ⟨x, H1, I1, rx, ex, q⟩ => ?_) ht
  subst ex
  obtain rfl : u = Value.ref C := rx
  refine getmethcm_ok I1 r c fun s2 I2 => ?_
  refine PySem.W.callWith_of (P := PySem.W.MethP X.K s1.heap.objs.size g (.ref C)) hpl (PySem.W.keeps_M c.fi) (evalArgs_kw2_nil hall (thn (hkw.run pos _ s2 σ H1 _ I2 q) fun ws s3 ⟨zs, H2, I3, rz, l2, q2⟩ => ⟨⟨pin_at I3, I3.kIn⟩, ?_⟩))
  rw [hks]
  have r2 := b.rel (vs := [V.ref C]) (us := [Value.ref C]) (.cons rfl .nil) rz
  have z : wpAny (model X.prog X.w) X.A (call (.ref s1.heap.objs.size) [] (ks.zip ws)) (EP X ((s1.heap.objs.size, PySem.W.methodObj (.ref g) (.ref C)) :: pins) σ Q) X.xe s3 :=
    wpAny_call (PySem.W.method_call (pin_at I3) (codeAny_mono (F.run X.A X.stack s3 H2 ⟨[.ref C], ks.zip ws⟩ (gg [.ref C] ws) (gV [.ref C] zs) Q E hr I3.env0 (b.to s3 [.ref C] ws I3.kIn rfl (rz.length.symm.trans l2)) r2 q2) fun r s' hq => by
      match r, hq with
      | .error e, hq => exact hx _ σ H2 s3 e s' I3 hq
      | .ok (.ret z), hq => exact I3.after hq
      | .ok .next, hq => exact False.elim hq
      | .ok .brk, hq => exact False.elim hq
      | .ok .cont, hq => exact False.elim hq))
  exact thn z fun _ _ y => unpinE y
end
theorem nm2_line_word : Sup.Nm2 "line" "word" := ⟨by decide, by decide, by decide, by decide, by decide, by decide, by decide, by decide, by decide, by decide, fun _ _ _ _ _ _ _ _ _ _ _ _ _ _ => rfl⟩
theorem clsK_at {P : Program} {w : World} {K : PySem.W.Frag} {mg : Str → Option Value} {base : Heap} {CX : CXT} {k : Nat} {m qual : Str} {st : Stmt} {ps ks : List Str} {sp : Sp} {C : Addr} {gV : List V → List V → List V} {g : List Value → List Value → List Value} (A : HasCM K C m qual st) (ok : ∀ f fd, Fun K m qual st f fd → FnOk P w K mg base CX k f fd ps sp)
    (b : ∀ (kV doc pm : Value) (an : Option Addr) (cdv ct : Value) (us ws : List Value), us.length = 1 → ws.length = ks.length → bindArgs (PySem.W.fnOf m qual (defArgs st) (defBody st) (defScope st) .none kV doc pm an cdv ct) ⟨us, ks.zip ws⟩ = pure (ps.zip (g us ws)))
    (r : ∀ {vs : List V} {us : List Value} {zs : List V} {ws : List Value}, Vals vs us → Vals zs ws → Vals (gV vs zs) (g us ws)) : ClsK P w K mg base CX k C m ps ks sp gV := by
  obtain ⟨mc, p, f, fd, h1, h2, F⟩ := A.ex
  obtain ⟨oc, od, kV, doc, pm, an, cdv, ct, osl, rfl, lk, _⟩ := id F.ex
  exact ⟨mc, p, f, _, g, h1, h2, ok f _ F, ⟨fun s us ws _ l1 l2 => .of_eq (b kV doc pm an cdv ct us ws l1 l2), r⟩⟩
end My
set_option pp.maxSteps 1500
set_option pp.deepTerms.threshold 8
/-! ### polynomials read -/
namespace My
open PySem PySem.Spec PyProof.Rows L2 TX
abbrev s_figof : Stmt := topS 10
theorem sc_figof : FnScope ["text", "sign"] ["text"] (defScope s_figof) := ⟨rfl, rfl, rfl, by decide +kernel, rfl, by decide +kernel, by decide +kernel⟩
abbrev s_termread : Stmt := topS 20
theorem sc_termread : FnScope ["word", "parts", "term", "power"] ["word"] (defScope s_termread) := ⟨rfl, rfl, rfl, by decide +kernel, rfl, by decide +kernel, by decide +kernel⟩
abbrev s_pread : Stmt := inClass (topS 26) 2
theorem sc_pread : FnScope ["cls", "text", "words", "signs", "rows", "terms", "power", "sign", "row", "found", "made"] ["cls", "text"] (defScope s_pread) := ⟨rfl, rfl, rfl, by decide +kernel, rfl, by decide +kernel, by decide +kernel⟩
structure RTx (P : Program) (K : PySem.W.Frag) (mg : Str → Option Value) (C CB fB CP fP CI fI CT fT : Addr) (tM tD : Tok) : Prop extends PTx P K mg C CB fB CP fP CI fI where
  e_BadText : Sup.Err2 P K mg "BadText" "line" "word" CT fT
  gMost : mg "MOST_DIGITS" = some (.int 60 tM)
  gPow : mg "MOST_POWER" = some (.int 60 tD)
  z_all : mg "all" = none
  z_zip : mg "zip" = none
  noStr : PySem.W.kitOne K (.ref C) (.type "str") = some false
/-- an int or None -/
def optV : Option Int → V
  | none => .non
  | some k => .int k
def spWord (f : List Nat → Option Int) : Sp := fun vs H Q _ => ∃ x : Str, vs = [.str x] ∧ x.length ≤ 5000 ∧ ∀ H', Same H H' → Q (optV (f (TL.tl x))) H'
theorem atI_0 {xs : List Nat} {c : Nat} (h : xs[0]? = some c) : atI xs (0 : Int) = some c := by
  have hl : 0 < xs.length := (List.getElem?_eq_some_iff.mp h).1
  unfold atI ixN
  rw [if_pos (by decide), if_pos (by omega)]
  exact h
theorem sl5 {x : Str} (h : x.length ≤ 5000) : x.length ≤ sizeLine := by rw [sizeLine_eq]; omega
theorem ix_atN {n : Nat} {a : Int} (h0 : 0 ≤ a) (h1 : a.toNat < n) : ixN n a = some a.toNat := by
  unfold ixN
  rw [if_pos h0, if_pos (by omega)]
theorem at0 {a : V} {r : List V} : atI (a :: r) (0 : Int) = some a := by
  unfold atI ixN
  rw [if_pos (by decide), if_pos (by show (0 : Int) < ((r.length + 1 : Nat) : Int); omega)]
  rfl
theorem at1 {a b : V} {r : List V} : atI (a :: b :: r) (1 : Int) = some b := by
  unfold atI ixN
  rw [if_pos (by decide), if_pos (by show (1 : Int) < ((r.length + 1 + 1 : Nat) : Int); omega)]
  rfl
/-- term_read -/
def spTread : Sp := fun vs H Q _ => ∃ x : Str, vs = [.str x] ∧ x.length ≤ 5000 ∧ (PT.trW (TL.tl x) = none → ∀ H', Same H H' → Q .non H') ∧ (∀ t p, PT.trW (TL.tl x) = some (t, p) → ∀ q H', H' q = some (.tup [.int t, .int p]) → Same H H' → Q (.ref q) H')
/-- the wish of BadText(0, n) -/
def ErrT (E : XK) (CT : Addr) (n : Int) (H : Hp) : Prop := ∀ (d : Addr) (H' : Hp), H d = none → H' d = some (.xd [("line", .int 0), ("word", .int n)]) → Same H H' → E (.ref CT) (some d) H'
theorem ErrT.go {E : XK} {CT : Addr} {n : Int} {H : Hp} (h : ErrT E CT n H) {d : Addr} (hd : H d = none) : E (.ref CT) (some d) (upd H d (.xd [("line", .int 0), ("word", .int n)])) := h d _ hd upd_same (same_new hd)
theorem ErrT.up {E : XK} {CT : Addr} {n : Int} {H H1 : Hp} (h : ErrT E CT n H) (s : Same H H1) : ErrT E CT n H1 := fun d H' hd hx s' => h d H' (s.free hd) hx (s.trans s')
section
variable {P : Program} {w : World} {K : PySem.W.Frag} {mg : Str → Option Value} {base : Heap} {C CB fB CP fP CI fI CT fT : Addr} {tM tD : Tok}
theorem ok_figof {f : Addr} {fd : FuncData} (F : Fun K "figures_of" "figures_of" s_figof f fd) (T : RTx P K mg C CB fB CP fP CI fI CT fT tM tD) : FnOk P w K mg base CX0 1 f fd ["text"] (spWord dg) := by
  refine F.ok sc_figof (fun vs H Q E h => ?_) (fun cdv A outer s H vs Q E hr h => ?_)
  · obtain ⟨x, rfl, _⟩ := h
    rfl
  · obtain ⟨x, rfl, hx, k⟩ := h
    refine ⟨_, (pss_cons (ps_if (PW.pt (pw_or (pt_cmpR op_eq (pv 0) pe_str (nomark _)) (pw_or (pt_cmpR op_gt (pe_callB call_len (by rfl) T.z_len PySem.boot_len (pa_cons (pv 0) pa_nil)) (pe_glob (v := .int 60) rfl T.gMost ⟨_, rfl⟩) (nomark _)) (pw_or1 (pt_not (pt_val (pe_callB (cr_all rfl) (by rfl) T.z_all boot_all (pa_cons (pe_lc (own := [("sign", 1)]) rfl sc_figof.nd (pi_str (pv 0)) (blkOk_by (by show blkC ["text", "sign"] (defScope s_figof) _ _ = true; decide +kernel)) (fun _ _ _ _ _ => (pg_name (i := 1) sc_figof.nd rfl (Or.inl rfl))) (fun _ _ _ _ _ => pts_nil) (fun _ _ _ _ _ => (pe_cmpR op_in_sign (pv 1) pe_str (by rfl)))) pa_nil)))))))) (pss_one (ps_ret pe_non)) pss_nil)
      (pss_one (ps_ret (pe_ifExp (PW.pt (pw_or (pt_cmpR op_eq (pv 0) pe_str (nomark _)) (pw_or1 (pt_cmpR op_ne (pe_ix ix_str (pv 0) pe_int (fun _ _ => rfl)) pe_str (nomark _))))) (pe_callTy call_int_str (by rfl) T.z_int boot_int (pa_cons (pv 0) pa_nil)) pe_non)))), ?_⟩
    have lx := TL.len_tl x
    have none_of : okD (TL.tl x) = false → ∀ H', Same H H' → Q .non H' := fun e H' s => by
      have z := k H' s
      unfold dg at z
      rw [if_neg (by rw [e]; decide)] at z
      exact z
    have bad1 : ¬ (1 ≤ x.length ∧ x.length ≤ 60) → okD (TL.tl x) = false := fun z => by
      rw [Bool.eq_false_iff]
      intro y
      obtain ⟨y1, y2, _⟩ := okD_all y
      omega
    refine ⟨_, rfl, rfl, _, rfl, ?_⟩
    rw [str_eq, tl_no]
    refine ite2 (fun c1 => ?_) (fun c1 => ?_)
    · have : x.length = 0 := by rw [lx, of_decide_eq_true c1]; rfl
      exact none_of (bad1 (by omega)) H fun _ _ e => e
    have l1 : 1 ≤ x.length := by
      rcases Nat.eq_zero_or_pos x.length with z | z
      · rw [lx] at z
        exact absurd (decide_eq_true (List.eq_nil_of_length_eq_zero z)) c1
      · exact z
    refine ⟨_, rfl, _, _, rfl, ⟨sl5 hx, rfl⟩, _, _, rfl, rfl, _, rfl, ite2 (fun c2 => ?_) (fun c2 => ?_)⟩
    · refine none_of (bad1 fun z => ?_) H fun _ _ e => e
      have := of_decide_eq_true c2
      omega
    have l2 : x.length ≤ 60 := by
      by_cases z : (x.length : Int) > 60
      · exact absurd (decide_eq_true z) c2
      · omega
    refine ⟨_, rfl, x, rfl, fun D hD => ?_⟩
    refine lc_it walk_str (fun i Hh => Hh D = some (.lst (((TL.tl x).take i).map fun c => V.bl (isDig c))) ∧ Same H Hh) ⟨upd_same, same_new hD⟩ (fun _ _ _ _ => trivial) ?_ ?_
    · rintro i v Hh H' hi ⟨g1, g2⟩ ⟨rfl, c, hc, rfl⟩
      have hc' : (TL.tl x)[i]? = some c := by
        rw [← hc]
        exact Array.getElem?_toList
      refine ⟨rfl, yes_go ⟨_, rfl, c, _, rfl, rfl, _, g1, ?_, ?_, ?_⟩⟩
      · rw [List.length_map, List.length_take, sizeLine_eq]
        omega
      · rw [take1 hc', List.map_append, dig_mem]
        exact upd_same
      · intro b o e
        rw [upd_ne (ne_of_none e hD)]
        exact g2 _ _ e
    rintro Hh ⟨g1, g2⟩
    have el : (TL.tl x).take x.cps.size = TL.tl x := List.take_of_length_le (by rw [← lx]; exact Nat.le_refl _)
    rw [el] at g1
    refine ⟨D, (TL.tl x).map isDig, rfl, SqL.of (by rw [List.map_map]; exact g1), _, rfl, ?_⟩
    have ea : ((TL.tl x).map isDig).all id = (TL.tl x).all isDig := by rw [List.all_map]; rfl
    rw [ea]
    have eo : okD (TL.tl x) = (TL.tl x).all isDig := by
      unfold okD
      rw [decide_eq_true (show 1 ≤ (TL.tl x).length by omega), decide_eq_true (show (TL.tl x).length ≤ 60 by omega), Bool.true_and, Bool.true_and]
    cases e : (TL.tl x).all isDig with
    | false => exact iteT (none_of (by rw [eo, e]) Hh g2)
    | true =>
      rw [e] at eo
      refine iteF ?_
      obtain ⟨n1, n2⟩ := int_of eo
      have kk := k Hh g2
      unfold dg at kk
      rw [if_pos eo] at kk
      have e0 : TL.tl ("0" : Str) = [48] := by decide +kernel
      refine ⟨_, rfl, rfl, _, rfl, ?_⟩
      rw [str_eq, e0]
      refine ite2 (fun c3 => ?_) (fun c3 => ?_)
      · rw [if_neg (fun z => by
          have := z.1
          rw [of_decide_eq_true c3] at this
          exact absurd this (by decide))] at kk
        exact ⟨_, rfl, x, _, rfl, n1, n2, kk⟩
      · obtain ⟨c, hc⟩ : ∃ c, (TL.tl x)[0]? = some c := ⟨_, List.getElem?_eq_getElem (by omega)⟩
        have hh : (TL.tl x).head? = some c := by rw [← hc]; cases TL.tl x <;> rfl
        have ha : atI x.cps.toList (0 : Int) = some c := atI_0 hc
        refine ⟨_, rfl, x, 0, c, rfl, rfl, sl5 hx, ha, rfl, _, rfl, ?_⟩
        rw [hh] at kk
        have en : (!decide (V.str ⟨#[c]⟩ = V.str "0")) = !decide (c = 48) := by
          rw [str_eq, e0]
          congr 1
          exact decide_eq_decide.mpr ⟨fun z => (List.cons.inj z).1, fun z => by rw [z]⟩
        rw [en]
        by_cases c4 : c = 48
        · rw [decide_eq_true c4]
          refine iteF ?_
          have long : 1 < (TL.tl x).length := by
            rcases Nat.lt_or_ge 1 (TL.tl x).length with z | z
            · exact z
            · exfalso
              refine c3 (decide_eq_true ?_)
              cases g : TL.tl x with
              | nil => rw [g] at hc; cases hc
              | cons a r =>
                rw [g] at z hc
                have zr : r.length = 0 := by
                  have : (a :: r).length = r.length + 1 := rfl
                  omega
                rw [List.eq_nil_of_length_eq_zero zr]
                have : a = c := Option.some.inj hc
                rw [this, c4]
          rw [if_pos ⟨long, by rw [c4]⟩] at kk
          exact kk
        · rw [decide_eq_false c4]
          rw [if_neg (fun z => c4 (Option.some.inj z.2))] at kk
          exact iteT ⟨_, rfl, x, _, rfl, n1, n2, kk⟩
theorem ok_termread {f : Addr} {fd : FuncData} (F : Fun K "term_read" "term_read" s_termread f fd) (T : RTx P K mg C CB fB CP fP CI fI CT fT tM tD) (D_figof : DefAt P w K mg base CX0 1 "figures_of" ["text"] (spWord dg)) : FnOk P w K mg base CX0 2 f fd ["word"] spTread := by
  refine F.ok sc_termread (fun vs H Q E h => ?_) (fun cdv A outer s H vs Q E hr h => ?_)
  · obtain ⟨x, rfl, _⟩ := h
    rfl
  · obtain ⟨x, rfl, hx, k1, k2⟩ := h
    refine ⟨_, (pss_cons (ps_set (i := 1) sc_termread.nd rfl (Or.inl rfl) (pe_split (pv 0) pe_str))
      (C8.pss_cut (ps_set (i := 2) sc_termread.nd rfl (Or.inl rfl) (pe_ifExp (PW.pt (pw_and (pt_cmpR op_eq (pe_ix ix_list (pv 1) pe_int (fun _ _ => rfl)) pe_str (nomark _)) (pw_and1 (pt_cmpR op_eq (pe_callB call_len (by rfl) T.z_len PySem.boot_len (pa_cons (pv 1) pa_nil)) pe_int (nomark _))))) pe_int (My.pe_d D_figof (hr.mono (by decide)) (by rfl) pass0 (pa_cons (pe_ix ix_list (pv 1) pe_int (fun _ _ => rfl)) pa_nil))))
      (pss_cons (ps_if (PW.pt (pw_or (pt_cmpR op_isN (pv 2) pe_non (nomark _)) (pw_or1 (pt_cmpR op_gt (pe_callB call_len (by rfl) T.z_len PySem.boot_len (pa_cons (pv 1) pa_nil)) pe_int (nomark _))))) (pss_one (ps_ret pe_non)) pss_nil)
      (pss_cons (ps_if (pt_cmpR op_eq (pe_callB call_len (by rfl) T.z_len PySem.boot_len (pa_cons (pv 1) pa_nil)) pe_int (nomark _)) (pss_one (ps_ret (pe_tup (pa_cons (pv 2) (pa_cons pe_int pa_nil))))) pss_nil)
      (C8.pss_cut (ps_set (i := 3) sc_termread.nd rfl (Or.inl rfl) (pe_ifExp (pt_cmpR op_eq (pe_ix ix_list (pv 1) pe_int (fun _ _ => rfl)) pe_str (nomark _)) pe_int (My.pe_d D_figof (hr.mono (by decide)) (by rfl) pass0 (pa_cons (pe_slice sl_str (pe_ix ix_list (pv 1) pe_int (fun _ _ => rfl)) (po_some pe_int) po_none) pa_nil))))
      (pss_one (ps_ret (pe_ifExp (PW.pt (pw_and (pt_cmpR op_notN (pv 3) pe_non (nomark _)) (pw_and (pt_cmpR op_in_seq (pe_slice sl_str (pe_ix ix_list (pv 1) pe_int (fun _ _ => rfl)) po_none (po_some pe_int)) (pe_tup (pa_cons pe_str (pa_cons pe_str pa_nil))) (by rfl)) (pw_and1 (pt_cmpR op_le (pv 3) (pe_glob (v := .int 60) rfl T.gPow ⟨_, rfl⟩) (nomark _)))))) (pe_tup (pa_cons (pv 2) (pa_cons (pv 3) pa_nil))) pe_non)))))))), ?_⟩
    have em : TL.tl ("m" : Str) = [109] := by decide +kernel
    rw [PT.tr_split] at k1 k2
    obtain ⟨w, ws, ew⟩ := split1_ne (x := x) em (by decide +kernel)
    obtain ⟨n1, n2, n3⟩ := split1_len (x := x) em (by decide +kernel)
    refine ⟨_, rfl, ⟨x, rfl⟩, x, "m", rfl, rfl, by decide +kernel, (by rw [sizeLine_eq]; omega), fun l hl => ?_⟩
    have L : (upd H l (.lst ((Txt.split x "m").map V.str))) l = some (.lst ((Txt.split x "m").map V.str)) := upd_same
    have s1 := same_new (o := .lst ((Txt.split x "m").map V.str)) hl
    generalize upd H l (.lst ((Txt.split x "m").map V.str)) = H1 at L s1
    generalize Txt.split x "m" = ps at k1 k2 ew n1 n2 n3 L
    obtain ⟨p0, rest, rfl⟩ : ∃ p0 rest, ps = p0 :: rest := by
      cases ps with
      | nil => cases ew
      | cons a r => exact ⟨a, r, rfl⟩
    have p0l : p0.length ≤ 5000 := Nat.le_trans (n3 p0 List.mem_cons_self) hx
    have ex : PT.trL ((p0 :: rest).map TL.tl) = (match (if TL.tl p0 = [] ∧ (rest.map TL.tl).length = 1 then some 1 else dg (TL.tl p0)) with
        | none => none
        | some term => match rest.map TL.tl with
          | [] => some (term, 0)
          | [p1] => (match (if p1 = [] then some 1 else dg (p1.drop 1)) with
            | none => none
            | some power => if (p1.take 1 = [] ∨ p1.take 1 = [94]) ∧ power ≤ 60 then some (term, power) else none)
          | _ => none) := rfl
    rw [ex] at k1 k2
    refine ⟨fun σ Hz => ∃ o : Option Int, σ = [some (.str x), some (.ref l), some (optV o), none] ∧ o = (if TL.tl p0 = [] ∧ (rest.map TL.tl).length = 1 then some 1 else dg (TL.tl p0)) ∧ Same H1 Hz, ?_, ?_⟩
    · refine ⟨_, rfl, l, _, _, _, rfl, rfl, SqL.of L, at0, rfl, _, rfl, ?_⟩
      rw [str_eq, tl_no]
      have other : ∀ σ0 : L2.St, ¬ (TL.tl p0 = [] ∧ (rest.map TL.tl).length = 1) → True := fun _ _ => trivial
      refine ite2 (fun c => ?_) (fun c => ?_)
      · have c' := of_decide_eq_true c
        refine ⟨_, rfl, _, _, rfl, .inl ⟨_, SqL.of L, rfl⟩, rfl, _, rfl, ?_⟩
        refine ite2 (fun d => ?_) (fun d => ?_)
        · have d' := V.int.inj (of_decide_eq_true d)
          rw [List.length_map, List.length_cons] at d'
          exact ⟨some 1, rfl, by rw [if_pos ⟨c', by rw [List.length_map]; omega⟩], fun _ _ e => e⟩
        · have d' : ¬ (TL.tl p0 = [] ∧ (rest.map TL.tl).length = 1) := fun z => d (decide_eq_true (by
            have := z.2
            rw [List.length_map] at this
            rw [List.length_map, List.length_cons, this]
            rfl))
          refine ⟨_, rfl, l, _, _, _, rfl, rfl, SqL.of L, at0, p0, rfl, p0l, fun H2 s2 => ?_⟩
          exact ⟨dg (TL.tl p0), rfl, by rw [if_neg d'], s2⟩
      · have c' : ¬ (TL.tl p0 = [] ∧ (rest.map TL.tl).length = 1) := fun z => c (decide_eq_true z.1)
        refine iteF ?_
        refine ⟨_, rfl, l, _, _, _, rfl, rfl, SqL.of L, at0, p0, rfl, p0l, fun H2 s2 => ?_⟩
        exact ⟨dg (TL.tl p0), rfl, by rw [if_neg c'], s2⟩
    · rintro σ H2 ⟨o, rfl, eo, s2⟩
      rw [← eo] at k1 k2
      have L2 := s2 _ _ L
      have t2 := s1.trans s2
      refine ⟨_, rfl, rfl, _, rfl, ?_⟩
      cases o with
      | none => exact iteT (k1 rfl _ t2)
      | some term =>
        refine iteF ⟨_, rfl, _, _, rfl, .inl ⟨_, SqL.of L2, rfl⟩, _, _, rfl, rfl, _, rfl, ?_⟩
        have k1 : (match rest.map TL.tl with
          | [] => some (term, (0 : Int))
          | [p1] => (match (if p1 = [] then some 1 else dg (p1.drop 1)) with
            | none => none
            | some power => if (p1.take 1 = [] ∨ p1.take 1 = [94]) ∧ power ≤ 60 then some (term, power) else none)
          | _ => none) = none → ∀ H', Same H H' → Q .non H' := k1
        have k2 : ∀ t p, (match rest.map TL.tl with
          | [] => some (term, (0 : Int))
          | [p1] => (match (if p1 = [] then some 1 else dg (p1.drop 1)) with
            | none => none
            | some power => if (p1.take 1 = [] ∨ p1.take 1 = [94]) ∧ power ≤ 60 then some (term, power) else none)
          | _ => none) = some (t, p) → ∀ q H', H' q = some (.tup [.int t, .int p]) → Same H H' → Q (.ref q) H' := k2
        rcases rest with _ | ⟨p1, _ | ⟨p2, rest⟩⟩
        · refine iteF ⟨_, rfl, _, _, rfl, .inl ⟨_, SqL.of L2, rfl⟩, rfl, _, rfl, iteT ⟨_, rfl, (by show 2 ≤ sizeLine; decide), fun q hq => ?_⟩⟩
          exact k2 term 0 rfl q _ upd_same (t2.trans (same_new hq))
        · refine iteF ⟨_, rfl, _, _, rfl, .inl ⟨_, SqL.of L2, rfl⟩, rfl, _, rfl, iteF ?_⟩
          have p1l : p1.length ≤ 5000 := Nat.le_trans (n3 p1 (by simp)) hx
          have k1 : (match (if TL.tl p1 = [] then some 1 else dg ((TL.tl p1).drop 1)) with
            | none => none
            | some power => if ((TL.tl p1).take 1 = [] ∨ (TL.tl p1).take 1 = [94]) ∧ power ≤ 60 then some (term, power) else none) = none → ∀ H', Same H H' → Q .non H' := k1
          have k2 : ∀ t p, (match (if TL.tl p1 = [] then some 1 else dg ((TL.tl p1).drop 1)) with
            | none => none
            | some power => if ((TL.tl p1).take 1 = [] ∨ (TL.tl p1).take 1 = [94]) ∧ power ≤ 60 then some (term, power) else none) = some (t, p) → ∀ q H', H' q = some (.tup [.int t, .int p]) → Same H H' → Q (.ref q) H' := k2
          refine ⟨fun σ Hz => ∃ o : Option Int, σ = [some (.str x), some (.ref l), some (.int term), some (optV o)] ∧ o = (if TL.tl p1 = [] then some 1 else dg ((TL.tl p1).drop 1)) ∧ Same H2 Hz, ?_, ?_⟩
          · refine ⟨_, rfl, l, _, _, _, rfl, rfl, SqL.of L2, at1, rfl, _, rfl, ?_⟩
            rw [str_eq, tl_no]
            refine ite2 (fun c => ?_) (fun c => ?_)
            · exact ⟨some 1, rfl, by rw [if_pos (of_decide_eq_true c)], fun _ _ e => e⟩
            · refine ⟨_, rfl, l, _, _, _, rfl, rfl, SqL.of L2, at1, 1, rfl, p1, rfl, sl5 p1l, _, rfl, Nat.le_trans (cutS_length ..) p1l, fun H3 s3 => ?_⟩
              rw [cut_from1]
              exact ⟨_, rfl, by rw [if_neg fun z => c (decide_eq_true z)], s3⟩
          · rintro σ H3 ⟨o, rfl, eo, s3⟩
            rw [← eo] at k1 k2
            have L3 := s3 _ _ L2
            have t3 := t2.trans s3
            refine ⟨_, rfl, rfl, _, rfl, ?_⟩
            cases o with
            | none => exact iteF (k1 rfl _ t3)
            | some power =>
              have k1 : (if ((TL.tl p1).take 1 = [] ∨ (TL.tl p1).take 1 = [94]) ∧ power ≤ 60 then some (term, power) else none) = none → ∀ H', Same H H' → Q .non H' := k1
              have k2 : ∀ t p, (if ((TL.tl p1).take 1 = [] ∨ (TL.tl p1).take 1 = [94]) ∧ power ≤ 60 then some (term, power) else none) = some (t, p) → ∀ q H', H' q = some (.tup [.int t, .int p]) → Same H H' → Q (.ref q) H' := k2
              refine iteT ⟨_, rfl, l, _, _, _, rfl, rfl, SqL.of L3, at1, 1, rfl, p1, rfl, sl5 p1l, (by show 2 ≤ sizeLine; decide), fun t4 h4 => ⟨t4, _, rfl, .inr (SqT.of upd_same), rfl, rfl, _, rfl, ?_⟩⟩
              have t4s := t3.trans (same_new (o := .tup [.str "", .str "^"]) h4)
              have ei : inV (.str (cutS p1 none (some 1))) [.str "", .str "^"] = decide ((TL.tl p1).take 1 = [] ∨ (TL.tl p1).take 1 = [94]) := by
                have ec : TL.tl ("^" : Str) = [94] := by decide +kernel
                show (eqV (.str "") (.str (cutS p1 none (some 1))) || (eqV (.str "^") (.str (cutS p1 none (some 1))) || false)) = _
                rw [Bool.or_false]
                show (("" : Str) == cutS p1 none (some 1) || ("^" : Str) == cutS p1 none (some 1)) = _
                rw [beq_str, beq_str, tl_no, ec, cut_to1]
                by_cases c1 : (TL.tl p1).take 1 = []
                · rw [c1]; rfl
                · by_cases c2 : (TL.tl p1).take 1 = [94]
                  · rw [c2]; rfl
                  · rw [decide_eq_false (fun z => c1 z.symm), decide_eq_false (fun z => c2 z.symm), decide_eq_false (by simp [c1, c2])]
                    rfl
              show (if (inV (.str (cutS p1 none (some 1))) [.str "", .str "^"]) = true then _ else _)
              rw [ei]
              by_cases c : (TL.tl p1).take 1 = [] ∨ (TL.tl p1).take 1 = [94]
              · rw [decide_eq_true c]
                refine iteT ⟨_, rfl, _, _, rfl, rfl, _, rfl, ite2 (fun d => ?_) (fun d => ?_)⟩
                · have d' : power ≤ 60 := of_decide_eq_true d
                  refine ⟨_, rfl, _, rfl, (by show 2 ≤ sizeLine; decide), fun q hq => ?_⟩
                  exact k2 term power (by rw [if_pos ⟨c, d'⟩]) q _ upd_same (t4s.trans (same_new hq))
                · exact k1 (by rw [if_neg fun z => d (decide_eq_true z.2)]) _ t4s
              · rw [decide_eq_false c]
                exact iteF (k1 (by rw [if_neg fun z => c z.1]) _ t4s)
        · have g : decide (((List.map V.str (p0 :: p1 :: p2 :: rest)).length : Int) > 2) = true := decide_eq_true (by
            rw [List.length_map, List.length_cons, List.length_cons, List.length_cons]
            omega)
          show (if decide (((List.map V.str (p0 :: p1 :: p2 :: rest)).length : Int) > 2) = true then _ else _)
          rw [g]
          exact iteT (k1 rfl _ t2)
end
theorem sgn_in {x : Str} : (!inV (.str x) [.str "+", .str "-"]) = !decide (TL.tl x = [43] ∨ TL.tl x = [45]) := by
  have e1 : TL.tl ("+" : Str) = [43] := by decide +kernel
  have e2 : TL.tl ("-" : Str) = [45] := by decide +kernel
  show (!(eqV (.str "+") (.str x) || (eqV (.str "-") (.str x) || false))) = _
  rw [Bool.or_false]
  show (!(("+" : Str) == x || ("-" : Str) == x)) = _
  rw [beq_str, beq_str, e1, e2]
  congr 1
  by_cases c1 : TL.tl x = [43]
  · rw [c1]; rfl
  · by_cases c2 : TL.tl x = [45]
    · rw [c2]; rfl
    · rw [decide_eq_false (fun z => c1 z.symm), decide_eq_false (fun z => c2 z.symm), decide_eq_false (by simp [c1, c2])]
      rfl
/-- the words of a value: those of a text, or an empty one -/
def wordsOf : V → List Str
  | .str x => Txt.split x " "
  | _ => [""]
def shortV : V → Prop
  | .str x => x.length ≤ 5000
  | _ => True
theorem kstr {K : PySem.W.Frag} {H : Hp} {v : V} {t : String} (h : Ty0 H v t) : ∃ b, PySem.W.kitOne K (.type t) (.type "str") = some b ∧ (b = true → ∃ x, v = .str x) ∧ (b = false → ∀ x, v ≠ .str x) := by
  cases h with
  | non => exact ⟨false, kit_ty (by decide +kernel), (fun z => Bool.noConfusion z), fun _ _ z => nomatch z⟩
  | bl b => exact ⟨false, kit_ty (by decide +kernel), (fun z => Bool.noConfusion z), fun _ _ z => nomatch z⟩
  | int i => exact ⟨false, kit_ty (by decide +kernel), (fun z => Bool.noConfusion z), fun _ _ z => nomatch z⟩
  | str x => exact ⟨true, kit_ty (by decide +kernel), (fun _ => ⟨x, rfl⟩), fun z => Bool.noConfusion z⟩
  | lst e => exact ⟨false, kit_ty (by decide +kernel), (fun z => Bool.noConfusion z), fun _ _ z => nomatch z⟩
  | tup e => exact ⟨false, kit_ty (by decide +kernel), (fun z => Bool.noConfusion z), fun _ _ z => nomatch z⟩
  | dK e => exact ⟨false, kit_ty (by decide +kernel), (fun z => Bool.noConfusion z), fun _ _ z => nomatch z⟩
theorem words_no {v : V} (h : ∀ x, v ≠ .str x) : wordsOf v = [("" : Str)] := by
  cases v with
  | str x => exact absurd rfl (h x)
  | _ => rfl
theorem words_all {v : V} (sh : shortV v) : ∃ w0 ws, wordsOf v = w0 :: ws ∧ w0.length ≤ 5000 ∧ (∀ y ∈ ws, y.length ≤ 5000) ∧ ws.length ≤ 6000 := by
  have e32 : TL.tl (" " : Str) = [32] := by decide +kernel
  cases v with
  | str x =>
    obtain ⟨n1, n2, n3⟩ := split1_len (x := x) e32 (by decide +kernel)
    obtain ⟨a, b, e⟩ := split1_ne (x := x) e32 (by decide +kernel)
    have sh : x.length ≤ 5000 := sh
    cases g : Txt.split x " " with
    | nil => rw [g] at e; cases e
    | cons w0 ws =>
      rw [g] at n1 n3
      have n1 : ws.length + 1 ≤ x.length + 1 := n1
      exact ⟨w0, ws, g, Nat.le_trans (n3 w0 List.mem_cons_self) sh, fun y hy => Nat.le_trans (n3 y (List.mem_cons_of_mem _ hy)) sh, by omega⟩
  | _ => exact ⟨"", [], rfl, by decide, (fun y hy => nomatch hy), Nat.zero_le _⟩
/-- Poly.read -/
def spPread (C CT : Addr) : Sp := fun vs H Q E => ∃ v : V, vs = [.ref C, v] ∧ TyL C H v ∧ shortV v ∧
  (∀ x ts, v = .str x → PT.readT (TL.tl x) = some ts → ts.length ≤ 61 → (∀ z ∈ ts, z.natAbs.log2 < 1920) → ∀ q H', PolyAt C H' q ts → Same H H' → Q (.ref q) H') ∧ ((∀ x, v = .str x → PT.readT (TL.tl x) = none) → ErrT E CT 0 H)
theorem run_none {v : V} (h : PT.runP (PT.pairsW ((wordsOf v).map TL.tl)) PT.zeros = none) : ∀ x, v = .str x → PT.readT (TL.tl x) = none := by
  rintro x rfl
  rw [PT.read_split]
  show (match PT.runP (PT.pairsW ((wordsOf (V.str x)).map TL.tl)) PT.zeros with | none => none | some t => if PT.textL (trim t) = TL.tl x then some (trim t) else none) = none
  rw [h]
theorem run_str {v : V} {t : List Int} (h : PT.runP (PT.pairsW ((wordsOf v).map TL.tl)) PT.zeros = some t) : ∃ x, v = .str x ∧ PT.readT (TL.tl x) = if PT.textL (trim t) = TL.tl x then some (trim t) else none := by
  by_cases z : ∃ x, v = .str x
  · obtain ⟨x, rfl⟩ := z
    refine ⟨x, rfl, ?_⟩
    rw [PT.read_split]
    show (match PT.runP (PT.pairsW ((wordsOf (V.str x)).map TL.tl)) PT.zeros with | none => none | some t => if PT.textL (trim t) = TL.tl x then some (trim t) else none) = _
    rw [h]
  · rw [words_no (fun x e => z ⟨x, e⟩)] at h
    have e : ([("" : Str)].map TL.tl) = [[]] := by decide +kernel
    rw [e, PT.run_empty] at h
    cases h
theorem poly_ints {C CB : Addr} {H : Hp} (zs : List Int) {R : Addr → Hp → Prop} {E : XK} (hl : zs.length ≤ 1000) (k : ∀ q H', PolyAt C H' q (trim zs) → Same H H' → R q H') (x dx : Addr) (hx : H x = none) (hd : H dx = none) (ne : dx ≠ x) :
    spPoly C CB (.ref x :: zs.map V.int) (upd (upd H dx (.own x)) x (.ins C dx [])) (fun v H2 => v = .non ∧ R x H2) E :=
  poly_at (by rw [List.length_map]; exact hl) (fun v hv => by
    obtain ⟨z, rfl, _⟩ := mem_ints hv
    exact TyL.int C H z) hx hd ne (fun ts e q H' po sm => by
    have e2 : zs = ts := (List.map_inj_right fun a b z => V.int.inj z).mp e
    rw [← e2] at po
    exact k q H' po sm) fun j v h1 h2 h3 => by
    obtain ⟨y, _, rfl⟩ := at_int h1
    cases h2
section
variable {P : Program} {w : World} {K : PySem.W.Frag} {mg : Str → Option Value} {base : Heap} {C CB fB CP fP CI fI CT fT : Addr} {tM tD : Tok}
theorem ok_pread {f : Addr} {fd : FuncData} (F : Fun K "read" "Poly.read" s_pread f fd) (T : RTx P K mg C CB fB CP fP CI fI CT fT tM tD) (D_termread : DefAt P w K mg base CX0 2 "term_read" ["word"] spTread)
    (M_Poly : MakeR P w K mg base (L2.CX P w) 3 "Poly" C (spPoly C CB)) (ST_str : CmpAt P w K mg base CX0 3 C "__str__" ["self"] (spPstrE C)) : FnOk P w K mg base (L2.CX P w) 6 f fd ["cls", "text"] (spPread C CT) := by
  refine F.okX sc_pread (fun vs H Q E h => ?_) (fun cdv A outer s H vs Q E hr h => ?_)
  · obtain ⟨v, rfl, _⟩ := h
    rfl
  · obtain ⟨v, rfl, ty, sh, k1, k2⟩ := h
    refine ⟨_, (C8.pss_cut (ps_set (i := 2) sc_pread.nd rfl (Or.inl rfl) (pe_ifExp (pt_val (pe_callB call_isi (by rfl) T.z_isinstance boot_isinstance (pa_cons (pv 1) (pa_cons (pe_bltn (v := .ty "str") (by rfl) T.z_str boot_str rfl) pa_nil)))) (pe_split (pv 1) pe_str) (pe_lst (pa_cons pe_str pa_nil))))
      (C8.pss_cut (ps_set (i := 3) sc_pread.nd rfl (Or.inl rfl) (pe_lst (pa_cons (pe_ifExp (pt_cmpR op_eq (pe_slice sl_str (pe_ix ix_list (pv 2) pe_int (fun _ _ => rfl)) po_none (po_some pe_int)) pe_str (nomark _)) pe_str pe_str) (StX.pa_star (My.pe_step2 (pv 2)) pa_nil))))
      (C8.pss_cut (ps_set (i := 4) sc_pread.nd rfl (Or.inl rfl) (pe_lst (pa_cons (pe_ifExp (pt_cmpR op_eq (pe_slice sl_str (pe_ix ix_list (pv 2) pe_int (fun _ _ => rfl)) po_none (po_some pe_int)) pe_str (nomark _)) (pe_slice sl_str (pe_ix ix_list (pv 2) pe_int (fun _ _ => rfl)) (po_some pe_int) po_none) (pe_ix ix_list (pv 2) pe_int (fun _ _ => rfl))) (StX.pa_star (My.pe_step2 (pv 2)) pa_nil))))
      (C8.pss_cut (ps_setLc (i := 5) (own := [("power", 6)]) rfl sc_pread.nd rfl rfl (sw_true rfl rfl rfl rfl) (pi_range1 rfl T.z_range (pa_cons (pe_op op_add (pe_glob (v := .int 60) rfl T.gPow ⟨_, rfl⟩) pe_int) pa_nil)) (blkOk_by (by show blkC ["cls", "text", "words", "signs", "rows", "terms", "power", "sign", "row", "found", "made"] (defScope s_pread) _ _ = true; decide +kernel)) (fun _ _ _ _ _ => (pg_name (i := 6) sc_pread.nd rfl (Or.inl rfl))) (fun _ _ _ _ _ => pts_nil) (fun _ _ _ _ _ => pe_int))
      (pss_cons (ps_for (passes_of rfl) rfl (pi_zip (by rfl) T.z_zip (pa_cons (pv 3) (pa_cons (pv 4) pa_nil))) (pg_tup rfl (pgs_cons (pg_name (i := 7) sc_pread.nd rfl (Or.inl rfl)) (pgs_cons (pg_name (i := 8) sc_pread.nd rfl (Or.inl rfl)) pgs_nil))) (pss_cons (ps_set (i := 9) sc_pread.nd rfl (Or.inl rfl) (My.pe_d D_termread (hr.mono (by decide)) (by rfl) pass0 (pa_cons (pv 8) pa_nil)))
      (pss_cons (ps_if (PW.pt (pw_or (pt_cmpR op_isN (pv 9) pe_non (nomark _)) (pw_or1 (pt_cmpR op_notIn_seq (pv 7) (pe_tup (pa_cons pe_str (pa_cons pe_str pa_nil))) (by rfl))))) (pss_one (ps_raise2 rfl T.e_BadText (hr.mono (by decide) : Room 0 _) (takes_of rfl rfl rfl rfl) (pa_cons pe_int (pa_cons pe_int pa_nil)))) pss_nil)
      (pss_one (ps_augS (pv 5) (pe_ix ix_tup (pv 9) pe_int (fun _ _ => rfl)) My.get_list (pe_ifExp (pt_cmpR op_eq (pv 7) pe_str (nomark _)) (pe_ix ix_tup (pv 9) pe_int (fun _ _ => rfl)) (pe_un un_neg (pe_ix ix_tup (pv 9) pe_int (fun _ _ => rfl)))) ip_add set_list)))))
      (pss_cons (ps_set (i := 10) sc_pread.nd rfl (Or.inl rfl) (My.pe_mkLS M_Poly (hr.mono (by decide)) (passes_call (takes_of rfl rfl rfl rfl) (fun _ _ _ _ h => h)) (pv 0) (pv 5)))
      (pss_cons (ps_if (pt_cmpR op_ne (pe_callTy (My.call_strO ST_str (hr.mono (by decide)) pass0) (by rfl) T.z_str boot_str (pa_cons (pv 10) pa_nil)) (pv 1) (nomark _)) (pss_one (ps_raise2 rfl T.e_BadText (hr.mono (by decide) : Room 0 _) (takes_of rfl rfl rfl rfl) (pa_cons pe_int (pa_cons pe_int pa_nil)))) pss_nil)
      (pss_one (ps_ret (pv 10)))))))))), ?_⟩
    obtain ⟨w0, ws, ew, l0, lw, nw⟩ := words_all sh
    refine ⟨fun σ Hz => ∃ l, σ = [some (.ref C), some v, some (.ref l), none, none, none, none, none, none, none, none] ∧ Hz l = some (.lst ((w0 :: ws).map V.str)) ∧ Same H Hz, ?_, ?_⟩
    · obtain ⟨t, b, ht, hk, hb⟩ : ∃ t b, TyX K H v t ∧ PySem.W.kitOne K t (.type "str") = some b ∧ (b = true → ∃ x, v = .str x) ∧ (b = false → ∀ x, v ≠ .str x) := by
        rcases ty with ⟨t, ty⟩ | ⟨a, dx, fs, rfl, ea⟩
        · obtain ⟨b, h1, h2⟩ := kstr (K := K) ty
          exact ⟨_, b, ty.tyx, h1, h2⟩
        · exact ⟨_, false, .base (.ins ea T.cl T.ha T.hn T.ht T.hm), T.noStr, (fun z => Bool.noConfusion z), fun _ _ z => nomatch z⟩
      refine ⟨_, rfl, v, _, t, _, b, rfl, .ty _, ht, hk, _, rfl, ?_⟩
      cases b with
      | false =>
        refine iteF ⟨(by show 1 ≤ sizeLine; decide), fun l hl => ⟨l, rfl, ?_, same_new hl⟩⟩
        rw [words_no (hb.2 rfl)] at ew
        rw [← ew]
        exact upd_same
      | true =>
        obtain ⟨x, rfl⟩ := hb.1 rfl
        have sh : x.length ≤ 5000 := sh
        refine iteT ⟨_, rfl, ⟨x, rfl⟩, x, " ", rfl, rfl, by decide +kernel, (by rw [sizeLine_eq]; omega), fun l hl => ⟨l, rfl, ?_, same_new hl⟩⟩
        rw [← ew]
        exact upd_same
    rintro σ H1 ⟨l, rfl, L, s1⟩
    have e45 : TL.tl ("-" : Str) = [45] := by decide +kernel
    -- signs
    refine ⟨fun σ Hz => ∃ a, σ = [some (.ref C), some v, some (.ref l), some (.ref a), none, none, none, none, none, none, none] ∧ Hz a = some (.lst ((PT.sg0 w0 :: evs ws).map V.str)) ∧ Same H1 Hz, ?_, ?_⟩
    · refine ⟨_, rfl, l, _, _, _, rfl, rfl, SqL.of L, at0, 1, rfl, w0, rfl, sl5 l0, rfl, _, rfl, ?_⟩
      rw [str_eq, cut_to1, e45]
      have el : evs (((w0 :: ws).map V.str).drop 1) = (evs ws).map V.str := evs_map V.str ws
      have fin : ∀ sg : Str, sg = PT.sg0 w0 → ∀ b, H1 b = none → ((V.str sg :: (evs (((w0 :: ws).map V.str).drop 1) ++ [])).length ≤ sizeLine ∧ ∀ a, (upd H1 b (.lst (evs (((w0 :: ws).map V.str).drop 1)))) a = none → ∃ a', (List.set [some (V.ref C), some v, some (V.ref l), none, none, none, none, none, none, none, none] 3 (some (V.ref a))) = [some (.ref C), some v, some (.ref l), some (.ref a'), none, none, none, none, none, none, none] ∧ (upd (upd H1 b (.lst (evs (((w0 :: ws).map V.str).drop 1)))) a (.lst (V.str sg :: (evs (((w0 :: ws).map V.str).drop 1) ++ [])))) a' = some (.lst ((PT.sg0 w0 :: evs ws).map V.str)) ∧ Same H1 (upd (upd H1 b (.lst (evs (((w0 :: ws).map V.str).drop 1)))) a (.lst (V.str sg :: (evs (((w0 :: ws).map V.str).drop 1) ++ []))))) := by
        rintro sg rfl b hb
        rw [el, List.append_nil]
        refine ⟨?_, fun a ha => ⟨a, rfl, upd_same, (same_new hb).trans (same_new ha)⟩⟩
        rw [List.length_cons, List.length_map, evs_len, sizeLine_eq]
        omega
      refine ite2 (fun c => ?_) (fun c => ?_)
      · refine ⟨_, rfl, l, _, rfl, SqL.of L, fun b hb => ⟨b, _, rfl, .inr (SqL.of upd_same), ?_⟩⟩
        exact fin _ (by unfold PT.sg0; rw [if_pos (of_decide_eq_true c)]) b hb
      · refine ⟨_, rfl, l, _, rfl, SqL.of L, fun b hb => ⟨b, _, rfl, .inr (SqL.of upd_same), ?_⟩⟩
        exact fin _ (by unfold PT.sg0; rw [if_neg fun z => c (decide_eq_true z)]) b hb
    rintro σ H2 ⟨a, rfl, A2, s2⟩
    have L2 := s2 _ _ L
    have t2 := s1.trans s2
    -- rows
    refine ⟨fun σ Hz => ∃ (b : Addr) (r0 : Str), σ = [some (.ref C), some v, some (.ref l), some (.ref a), some (.ref b), none, none, none, none, none, none] ∧ r0.length ≤ 5000 ∧ TL.tl r0 = (if (TL.tl w0).take 1 = [45] then (TL.tl w0).drop 1 else TL.tl w0) ∧ Hz b = some (.lst ((r0 :: evs (ws.drop 1)).map V.str)) ∧ Same H2 Hz, ?_, ?_⟩
    · refine ⟨_, rfl, l, _, _, _, rfl, rfl, SqL.of L2, at0, 1, rfl, w0, rfl, sl5 l0, rfl, _, rfl, ?_⟩
      rw [str_eq, cut_to1, e45]
      have el : evs (((w0 :: ws).map V.str).drop 2) = (evs (ws.drop 1)).map V.str := by
        show evs ((ws.map V.str).drop 1) = _
        rw [← List.map_drop]
        exact evs_map V.str _
      have fin : ∀ r0 : Str, r0.length ≤ 5000 → TL.tl r0 = (if (TL.tl w0).take 1 = [45] then (TL.tl w0).drop 1 else TL.tl w0) → ∀ b, H2 b = none → ((V.str r0 :: (evs (((w0 :: ws).map V.str).drop 2) ++ [])).length ≤ sizeLine ∧ ∀ c, (upd H2 b (.lst (evs (((w0 :: ws).map V.str).drop 2)))) c = none → ∃ (b' : Addr) (r0' : Str), (List.set [some (V.ref C), some v, some (V.ref l), some (V.ref a), none, none, none, none, none, none, none] 4 (some (V.ref c))) = [some (.ref C), some v, some (.ref l), some (.ref a), some (.ref b'), none, none, none, none, none, none] ∧ r0'.length ≤ 5000 ∧ TL.tl r0' = (if (TL.tl w0).take 1 = [45] then (TL.tl w0).drop 1 else TL.tl w0) ∧ (upd (upd H2 b (.lst (evs (((w0 :: ws).map V.str).drop 2)))) c (.lst (V.str r0 :: (evs (((w0 :: ws).map V.str).drop 2) ++ [])))) b' = some (.lst ((r0' :: evs (ws.drop 1)).map V.str)) ∧ Same H2 (upd (upd H2 b (.lst (evs (((w0 :: ws).map V.str).drop 2)))) c (.lst (V.str r0 :: (evs (((w0 :: ws).map V.str).drop 2) ++ []))))) := by
        intro r0 lr er b hb
        rw [el, List.append_nil]
        refine ⟨?_, fun c hc => ⟨c, r0, rfl, lr, er, upd_same, (same_new hb).trans (same_new hc)⟩⟩
        rw [List.length_cons, List.length_map, evs_len, List.length_drop, sizeLine_eq]
        omega
      refine ite2 (fun c => ?_) (fun c => ?_)
      · have c' := of_decide_eq_true c
        refine ⟨_, rfl, l, _, _, _, rfl, rfl, SqL.of L2, at0, 1, rfl, w0, rfl, sl5 l0, _, rfl, l, _, rfl, SqL.of L2, fun b hb => ⟨b, _, rfl, .inr (SqL.of upd_same), ?_⟩⟩
        exact fin _ (Nat.le_trans (cutS_length ..) l0) (by rw [cut_from1, if_pos c']) b hb
      · have c' : ¬ (TL.tl w0).take 1 = [45] := fun z => c (decide_eq_true z)
        refine ⟨_, rfl, l, _, _, _, rfl, rfl, SqL.of L2, at0, _, rfl, l, _, rfl, SqL.of L2, fun b hb => ⟨b, _, rfl, .inr (SqL.of upd_same), ?_⟩⟩
        exact fin w0 l0 (by rw [if_neg c']) b hb
    rintro σ H3 ⟨b, r0, rfl, lr, er, B3, s3⟩
    have A3 := s3 _ _ A2
    have t3 := t2.trans s3
    have PZ := PT.pairs_zip (ws := ws) er
    rw [← ew] at PZ
    clear L L2 A2 s1 s2 s3 t2 er
    -- zeros
    refine ⟨fun σ Hz => ∃ (D : Addr) (v6 : Option V), σ = [some (.ref C), some v, some (.ref l), some (.ref a), some (.ref b), some (.ref D), v6, none, none, none, none] ∧ Hz D = some (.lst (PT.zeros.map V.int)) ∧ D ≠ a ∧ D ≠ b ∧ H3 D = none ∧ Same H3 Hz, ?_, ?_⟩
    · refine ⟨_, _, rfl, rfl, _, rfl, by decide, by decide, fun D hD => ?_⟩
      have nDa : D ≠ a := fun z => by rw [z, A3] at hD; cases hD
      have nDb : D ≠ b := fun z => by rw [z, B3] at hD; cases hD
      refine lc_range (lo := 0) (n := 61) (fun i Hh => Hh D = some (.lst ((List.replicate i (0 : Int)).map V.int)) ∧ Same H3 Hh) ⟨upd_same, same_new hD⟩ ?_ ?_
      · rintro i Hh hi ⟨g1, g2⟩
        refine ⟨rfl, yes_go ⟨_, g1, by rw [List.length_map, List.length_replicate, sizeLine_eq]; omega, ?_, ?_⟩⟩
        · rw [List.replicate_succ', List.map_append]
          exact upd_same
        · intro c o e
          rw [upd_ne (ne_of_none e hD)]
          exact g2 _ _ e
      · rintro Hh ⟨g1, g2⟩
        exact ⟨D, _, rfl, g1, nDa, nDb, hD, g2⟩
    rintro σ H4 ⟨D, v6, rfl, D4, nDa, nDb, hD, s4⟩
    have A4 := s4 _ _ A3
    have B4 := s4 _ _ B3
    have t4 := t3.trans s4
    have e43 : TL.tl ("+" : Str) = [43] := by decide +kernel
    generalize hps : PT.pairsW ((wordsOf v).map TL.tl) = ps at PZ
    have nps : ps.length = min ((PT.sg0 w0 :: evs ws).map V.str).length ((r0 :: evs (ws.drop 1)).map V.str).length := by
      rw [PZ, List.length_zip, List.length_map, List.length_map, List.length_map, List.length_map]
    have lps : ps.length ≤ 6001 := by
      rw [nps]
      refine Nat.le_trans (Nat.min_le_left _ _) ?_
      rw [List.length_map, List.length_cons, evs_len]
      omega
    -- the loop
    refine ⟨_, rfl, _, rfl, a, b, _, _, rfl, SqL.of A4, SqL.of B4, ?_⟩
    have rowl : ∀ (i : Nat) (x : Str), (r0 :: evs (ws.drop 1))[i]? = some x → x.length ≤ 5000 := by
      intro i x h
      cases i with
      | zero =>
        obtain rfl : r0 = x := Option.some.inj h
        exact lr
      | succ i =>
        have h : (evs (ws.drop 1))[i]? = some x := h
        rw [evs_at] at h
        exact lw _ (List.mem_of_mem_drop (List.mem_of_getElem? h))
    refine for_it (walk_zip (n := ps.length) nps) (fun i σ H' => ∃ (t : List Int) (v7 v8 v9 : Option V), σ = [some (.ref C), some v, some (.ref l), some (.ref a), some (.ref b), some (.ref D), v6, v7, v8, v9, none] ∧ PT.runP (ps.take i) PT.zeros = some t ∧ PT.okT i t ∧ H' D = some (.lst (t.map V.int)) ∧ Same H3 H') ⟨PT.zeros, none, none, none, rfl, rfl, PT.okT_0, D4, s4⟩ (fun i σ H' _ ⟨_, _, _, _, _, _, _, _, ss⟩ => ⟨SqL.of (ss _ _ A3), SqL.of (ss _ _ B3)⟩) ?_ ?_
    · rintro i x σ H' H'' hi ⟨t, v7, v8, v9, rfl, r1, ok, D5, s5⟩ ⟨T5, x1, y1, rfl, hT5, rfl, gx, gy⟩
      obtain ⟨sg, hsg, rfl⟩ : ∃ sg, (PT.sg0 w0 :: evs ws)[i]? = some sg ∧ V.str sg = x1 := by
        have gx : ((PT.sg0 w0 :: evs ws).map V.str)[i]? = some x1 := gx
        rw [List.getElem?_map] at gx
        cases g : (PT.sg0 w0 :: evs ws)[i]? with
        | none => rw [g] at gx; cases gx
        | some sg =>
          rw [g] at gx
          exact ⟨sg, rfl, Option.some.inj gx⟩
      obtain ⟨row, hrow, rfl⟩ : ∃ row, (r0 :: evs (ws.drop 1))[i]? = some row ∧ V.str row = y1 := by
        have gy : ((r0 :: evs (ws.drop 1)).map V.str)[i]? = some y1 := gy
        rw [List.getElem?_map] at gy
        cases g : (r0 :: evs (ws.drop 1))[i]? with
        | none => rw [g] at gy; cases gy
        | some row =>
          rw [g] at gy
          exact ⟨row, rfl, Option.some.inj gy⟩
      have hq : ps[i]? = some (TL.tl sg, TL.tl row) := by
        rw [PZ, List.getElem?_zip_eq_some]
        exact ⟨by rw [List.getElem?_map, hsg]; rfl, by rw [List.getElem?_map, hrow]; rfl⟩
      obtain ⟨st1, st2⟩ := PT.run_at hq r1
      have s6 := s5.trans (same_new (o := .tup [.str sg, .str row]) hT5)
      have D6 := same_new (o := .tup [.str sg, .str row]) hT5 _ _ D5
      refine ⟨T5, _, rfl, SqT.of upd_same, rfl, _, _, rfl, _, _, rfl, rfl, ?_⟩
      generalize upd H' T5 (.tup [.str sg, .str row]) = H6 at s6 D6
      have bad : PT.step1 t (TL.tl sg, TL.tl row) = none → ∀ H7, Same H6 H7 → ErrT E CT 0 H7 := fun z H7 s7 => (k2 (run_none (by rw [hps]; exact st2 z))).up ((t3.trans s6).trans s7)
      refine ⟨_, rfl, row, rfl, rowl i row hrow, fun etr H7 s7 => ?_, fun c p etr q H7 hq7 s7 => ?_⟩
      · refine ⟨_, rfl, rfl, _, rfl, ?_⟩
        exact iteT ⟨_, _, rfl, fun d hd => (bad (PT.step1_tr etr) H7 s7).go hd⟩
      · refine ⟨_, rfl, rfl, _, rfl, iteF ?_⟩
        have s8 := s6.trans s7
        have D8 := s7 _ _ D6
        refine ⟨_, rfl, (by show 2 ≤ sizeLine; decide), fun t9 h9 => ⟨t9, _, rfl, .inr (SqT.of upd_same), rfl, rfl, _, rfl, ?_⟩⟩
        have s9 := same_new (o := .tup [.str "+", .str "-"]) h9
        show (if (!inV (.str sg) [.str "+", .str "-"]) = true then _ else _)
        rw [sgn_in]
        by_cases g : TL.tl sg = [43] ∨ TL.tl sg = [45]
        · rw [decide_eq_true g]
          refine iteF ?_
          have st := PT.step1_go (t := t) (q := (TL.tl sg, TL.tl row)) etr g
          obtain ⟨b1, b2, b3, b4⟩ := PT.tr_bound etr
          have D9 := s9 _ _ D8
          have q9 := s9 _ _ hq7
          have hp : p.toNat < t.length := by rw [ok.1]; omega
          have ht : t[p.toNat]? = some (cf t p.toNat) := by
            unfold cf
            rw [List.getElem?_eq_getElem hp]
            rfl
          have ea : atI (t.map V.int) p = some (.int (cf t p.toNat)) := at_of (j := p.toNat) (by omega) (by rw [List.getElem?_map, ht]; rfl)
          have ei : ixN (t.map V.int).length p = some p.toNat := ix_atN (by omega) (by rw [List.length_map]; exact hp)
          refine ⟨_, rfl, _, rfl, q, _, _, _, rfl, rfl, SqT.of q9, at1, D, _, _, _, rfl, rfl, SqL.of D9, ea, ?_⟩
          refine ⟨_, rfl, rfl, _, rfl, ?_⟩
          rw [str_eq, e43]
          have fin : ∀ z : Int, z = (if TL.tl sg = [43] then c else -c) → ∃ (t' : List Int) (v7' v8' v9' : Option V), [some (V.ref C), some v, some (V.ref l), some (V.ref a), some (V.ref b), some (V.ref D), v6, some (V.str sg), some (V.str row), some (V.ref q), none] = [some (.ref C), some v, some (.ref l), some (.ref a), some (.ref b), some (.ref D), v6, v7', v8', v9', none] ∧ PT.runP (ps.take (i + 1)) PT.zeros = some t' ∧ PT.okT (i + 1) t' ∧ (upd (upd H7 t9 (.tup [.str "+", .str "-"])) D (.lst ((t.map V.int).set p.toNat (.int (cf t p.toNat + z))))) D = some (.lst (t'.map V.int)) ∧ Same H3 (upd (upd H7 t9 (.tup [.str "+", .str "-"])) D (.lst ((t.map V.int).set p.toNat (.int (cf t p.toNat + z))))) := by
            rintro z ez
            refine ⟨PT.put1 t z p.toNat, _, _, _, rfl, by rw [st1, st, ez], PT.okT_step ok ?_ (by omega), ?_, ?_⟩
            · rw [ez]
              have : c.natAbs < 10 ^ 60 := by
                have h10 : ((10 : Int) ^ 60) = (((10 : Nat) ^ 60 : Nat) : Int) := by simp
                rw [h10] at b2
                omega
              split
              · omega
              · rw [Int.natAbs_neg]
                omega
            · unfold PT.put1
              rw [List.map_set]
              exact upd_same
            · intro x o e
              rw [upd_ne (ne_of_none e hD)]
              exact s9 _ _ (s8 _ _ e)
          refine ite2 (fun d => ?_) (fun d => ?_)
          · refine ⟨_, rfl, q, _, _, _, rfl, rfl, SqT.of q9, at0, _, _, rfl, rfl, D, _, _, _, rfl, rfl, D9, ei, ?_⟩
            exact fin c (by rw [if_pos (of_decide_eq_true d)])
          · refine ⟨_, rfl, q, _, _, _, rfl, rfl, SqT.of q9, at0, _, rfl, _, _, rfl, rfl, D, _, _, _, rfl, rfl, D9, ei, ?_⟩
            exact fin (-c) (by rw [if_neg fun z => d (decide_eq_true z)])
        · rw [decide_eq_false g]
          exact iteT ⟨_, _, rfl, fun d hd => (bad (PT.step1_sg g) _ (s7.trans s9)).go hd⟩
    · rintro σ H5 ⟨t, v7, v8, v9, rfl, r1, ok, D5, s5⟩
      rw [List.take_length] at r1
      obtain ⟨x, rfl, er⟩ := run_str (by rw [hps]; exact r1)
      have t5 := t3.trans s5
      have lg := PT.okT_log ok lps
      refine ⟨_, rfl, rfl, _, rfl, D, _, rfl, .inr (SqL.of D5), poly_ints t (by rw [ok.1]; decide) fun q H6 q6 s6 => ?_⟩
      obtain ⟨dx, tt, eq6, et6⟩ := id q6
      refine ⟨_, rfl, q, dx, _, rfl, eq6, q, _, rfl, q6, Nat.le_trans (trim_le t) (by rw [ok.1]; decide), fun z hz => lg z (PT.trim_mem hz), fun z ez => ?_⟩
      refine ⟨z, rfl, _, rfl, rfl, _, rfl, ?_⟩
      rw [str_eq, ez]
      refine ite2 (fun d => ?_) (fun d => ?_)
      · exact ⟨_, _, rfl, fun dd hd => ((k2 (fun y ey => by
          cases ey
          rw [er, if_neg]
          intro w
          rw [w, decide_eq_true rfl] at d
          exact absurd d (by decide))).up (t5.trans s6)).go hd⟩
      · refine ⟨_, rfl, k1 x (trim t) rfl ?_ (Nat.le_trans (trim_le t) (Nat.le_of_eq ok.1)) (fun z hz => lg z (PT.trim_mem hz)) q H6 q6 (t5.trans s6)⟩
        rw [er, if_pos]
        by_cases w : PT.textL (trim t) = TL.tl x
        · exact w
        · rw [decide_eq_false w] at d
          exact absurd rfl d
end
end My
set_option pp.maxSteps 1500
set_option pp.deepTerms.threshold 8
/-! ### the law's terms and lines -/
namespace My
open PySem PySem.Spec PyProof.Rows L2 TX
abbrev s_lterms : Stmt := topS 32
theorem sc_lterms : FnScope ["_law_pen_here", "_law_wide", "_law_found", "_law_k"] ["_law_pen_here"] (defScope s_lterms) := ⟨rfl, rfl, rfl, by decide +kernel, rfl, by decide +kernel, by decide +kernel⟩
abbrev s_lline : Stmt := topS 33
theorem sc_lline : FnScope ["_law_terms_here", "_law_found", "_law_power", "_law_term", "_law_name", "_law_number", "_law_sign"] ["_law_terms_here"] (defScope s_lline) := ⟨rfl, rfl, rfl, by decide +kernel, rfl, by decide +kernel, by decide +kernel⟩
abbrev s_bent : Stmt := topS 34
theorem sc_bent : FnScope ["_law_pen_here", "_law_page", "_law_spot", "_law_way", "_law_sign"] ["_law_pen_here", "_law_page"] (defScope s_bent) := ⟨rfl, rfl, rfl, by decide +kernel, rfl, by decide +kernel, by decide +kernel⟩
def Tm (z : Int) : Prop := z.natAbs < 10 ^ 60
def spLterms : Sp := fun vs H Q _ => ∃ (pn : Addr) (n : Nat), vs = [.ref pn] ∧ PenAt H pn n ∧ n < 80000 ∧ ∀ (l : Addr) (ts : List Int) (H' : Hp), ts.length ≤ 61 → (∀ z ∈ ts, Tm z) → (H' l = some (.lst (ts.map V.int))) → PenAt H' pn (n + 30) → But pn H H' → Q (.ref l) H'
def spLline : Sp := fun vs H Q _ => ∃ (l : Addr) (ts : List Int), vs = [.ref l] ∧ H l = some (.lst (ts.map V.int)) ∧ ts.length ≤ 61 ∧ (∀ z ∈ ts, Tm z) ∧ ∀ z : Str, z.length ≤ 4200 → TL.tl z = PT.textL ts → Q (.str z) H
def spBent : Sp := fun vs H Q _ => ∃ (pn cl : Addr) (n : Nat) (x : Str), vs = [.ref pn, .str x] ∧ PenC H pn cl n ∧ n < 80000 ∧ x.length ≤ 4200 ∧ ∀ (y : Str) (H' : Hp), y.length ≤ 4500 → PenC H' pn cl (n + 5) → But pn H H' → Q (.str y) H'
theorem PenC.le9 {H : Hp} {pn cl : Addr} {n m : Nat} (h : PenC H pn cl n) (le : n ≤ m) : PenC H pn cl m := by
  obtain ⟨ns, a, r, e1, e2, h3, h4, h5⟩ := h
  exact ⟨ns, a, r, e1, e2, h3, h4, by omega⟩
theorem rep0_9 (n : Nat) : (List.replicate n [V.int 0]).flatten = (List.replicate n (0 : Int)).map V.int := by
  induction n with
  | zero => rfl
  | succ n ih =>
    rw [List.replicate_succ, List.flatten_cons, ih, List.replicate_succ]
    rfl
section
variable {P : Program} {w : World} {K : PySem.W.Frag} {mg : Str → Option Value} {base : Heap} {C CB fB CP fP CI fI CT fT : Addr} {tM tD : Tok}
theorem ok_lterms {f : Addr} {fd : FuncData} (F : Fun K "_law_terms" "_law_terms" s_lterms f fd) (T : BI mg) (D_draw : DefAt P w K mg base CX0 1 "_law_draw" ["_law_pen_here", "_law_many"] spDrawC)
    (D_pick : DefAt P w K mg base CX0 2 "_law_pick" ["_law_pen_here", "_law_some"] spPickC) : FnOk P w K mg base CX0 3 f fd ["_law_pen_here"] spLterms := by
  refine F.ok sc_lterms (fun vs H Q E h => ?_) (fun cdv A outer s H vs Q E hr h => ?_)
  · obtain ⟨pn, n, rfl, _⟩ := h
    rfl
  · obtain ⟨pn, n, rfl, hp, hn, k⟩ := h
    refine ⟨_, (pss_cons (ps_set (i := 1) sc_lterms.nd rfl (Or.inr rfl) (My.pe_d D_pick (hr.mono (by decide)) (by rfl) pass0 (pa_cons (pv 0) (pa_cons (pe_lst (pa_cons pe_int (pa_cons pe_int (pa_cons pe_int (pa_cons (pe_op op_pow pe_int pe_int) (pa_cons (pe_op op_pow pe_int pe_int) pa_nil)))))) pa_nil))))
      (pss_cons (ps_setLc (i := 2) (own := [("_law_k", 3)]) rfl sc_lterms.nd rfl rfl (sw_true rfl rfl rfl rfl) (pi_range1 rfl T.z_range (pa_cons (My.pe_d D_draw (hr.mono (by decide)) (by rfl) pass0 (pa_cons (pv 0) (pa_cons pe_int pa_nil))) pa_nil)) (blkOk_by (by show blkC ["_law_pen_here", "_law_wide", "_law_found", "_law_k"] (defScope s_lterms) _ _ = true; decide +kernel)) (fun _ _ _ _ _ => (pg_name (i := 3) sc_lterms.nd rfl (Or.inl rfl))) (fun _ _ _ _ _ => pts_nil) (fun _ _ _ _ _ => (pe_op op_sub (My.pe_d D_draw (hr.mono (by decide)) (by rfl) pass0 (pa_cons (pv 0) (pa_cons (pe_op op_add (pe_op op_mul pe_int (pv 1)) pe_int) pa_nil))) (pv 1))))
      (pss_cons (ps_if (pt_cmpR op_eq (My.pe_d D_draw (hr.mono (by decide)) (by rfl) pass0 (pa_cons (pv 0) (pa_cons pe_int pa_nil))) pe_int (nomark _)) (pss_one (ps_set (i := 2) sc_lterms.nd rfl (Or.inl rfl) (pe_op op_cat (pe_op op_cat (pv 2) (pe_op op_rep (pe_lst (pa_cons pe_int pa_nil)) (pe_op op_sub pe_int (pe_callB call_len (by rfl) T.z_len PySem.boot_len (pa_cons (pv 2) pa_nil))))) (pe_lst (pa_cons (My.pe_d D_pick (hr.mono (by decide)) (by rfl) pass0 (pa_cons (pv 0) (pa_cons (pe_lst (pa_cons pe_int (pa_cons (pe_un un_neg pe_int) (pa_cons pe_int pa_nil)))) pa_nil))) pa_nil))))) pss_nil)
      (pss_one (ps_ret (pv 2)))))), ?_⟩
    obtain ⟨cl, hpc⟩ := hp.cells
    refine ⟨_, rfl, _, _, rfl, rfl, ⟨by decide, by decide, by decide⟩, _, _, rfl, rfl, ⟨by decide, by decide, by decide⟩, (by show 5 ≤ sizeLine; decide), fun l2 h2 => ?_⟩
    have q2 := hpc.same (same_new (o := .lst [.int 1, .int 2, .int 12, .int (10 ^ Int.toNat 6), .int (10 ^ Int.toNat 59)]) h2)
    refine ⟨pn, cl, l2, n, _, rfl, upd_same, pen_ne hp h2, (by show 0 < 5; decide), (by show 5 ≤ 1000; decide), q2, by omega, fun v H3 hv q3 u3 => ?_⟩
    obtain ⟨wd, rfl, hw⟩ := mem_ints (zs := [1, 2, 12, 10 ^ Int.toNat 6, 10 ^ Int.toNat 59]) hv
    have e59 : (10 : Int) ^ Int.toNat 59 = 100000000000000000000000000000000000000000000000000000000000 := by decide +kernel
    have e6 : (10 : Int) ^ Int.toNat 6 = 1000000 := by decide
    have e60 : (10 : Nat) ^ 60 = 1000000000000000000000000000000000000000000000000000000000000 := by decide +kernel
    have w0 : 1 ≤ wd ∧ wd ≤ 100000000000000000000000000000000000000000000000000000000000 := by
      simp only [List.mem_cons, List.mem_nil_iff, or_false] at hw
      rw [e59, e6] at hw
      rcases hw with e | e | e | e | e <;> omega
    have u3 : But pn H H3 := (But.new h2).trans u3
    refine ⟨_, rfl, pn, cl, 8, _, rfl, by decide, by decide, q3, by omega, fun d1 H4 a1 b1 q4 u4 => ⟨d1, rfl, by omega, by omega, fun D hD => ?_⟩⟩
    have u4 := u3.trans u4
    have nD : D ≠ pn := pen_ne q4.pen hD
    have ncl : cl ≠ D := by
      obtain ⟨ns, x, r, g1, g2, _⟩ := q4
      exact ne_of_none g2 hD
    have hDH : H D = none := by
      cases z : H D with
      | none => rfl
      | some o =>
        rw [u4 D o z nD] at hD
        cases hD
    have lw : (2 * wd + 1).natAbs.log2 < 9000 := Nat.lt_of_lt_of_le (PySem.Flt.log2_lt_of (k := 200) (by decide) (Nat.lt_of_lt_of_le (m := 300000000000000000000000000000000000000000000000000000000000) (by omega) (by decide +kernel))) (by decide)
    refine lc_range (lo := 0) (n := d1.toNat) (fun i Hh => ∃ ts : List Int, Hh D = some (.lst (ts.map V.int)) ∧ ts.length = i ∧ (∀ z ∈ ts, Tm z) ∧ PenC Hh pn cl (n + 2 + i) ∧ But pn H4 Hh) ⟨[], upd_same, rfl, (fun z hz => absurd hz List.not_mem_nil), q4.put (Ne.symm nD) ncl, But.new hD⟩ ?_ ?_
    · rintro i Hh hi ⟨ts, c1, c2, c3, c4, c5⟩
      refine ⟨rfl, yes_go ⟨_, rfl, _, rfl, _, _, rfl, rfl, .inl ⟨by decide, by decide⟩, _, _, rfl, rfl, pn, cl, _, _, rfl, by omega, lw, c4, by omega, fun d Hd ad bd pd ud => ?_⟩⟩
      have cD := ud _ _ c1 nD
      refine ⟨_, rfl, _, _, rfl, rfl, _, cD, by rw [List.length_map, sizeLine_eq]; omega, ts ++ [d - wd], ?_, by rw [List.length_append, c2]; rfl, ?_, pd.put (Ne.symm nD) ncl, ?_⟩
      · rw [List.map_append]
        exact upd_same
      · intro z hz
        rcases List.mem_append.mp hz with hz | hz
        · exact c3 z hz
        · rw [List.mem_singleton.mp hz]
          unfold Tm
          rw [e60]
          omega
      · intro b o e n
        rw [upd_ne (ne_of_none e hD)]
        exact ud _ _ (c5 b o e n) n
    rintro H5 ⟨ts, c1, c2, c3, c4, c5⟩
    have lt8 : ts.length < 8 := by omega
    refine ⟨_, rfl, pn, cl, 5, _, rfl, by decide, by decide, c4, by omega, fun d2 H6 a2 b2 q6 u6 => ⟨rfl, _, rfl, ?_⟩⟩
    have c1 := u6 _ _ c1 nD
    have c5 := c5.trans u6
    refine ite2 (fun c => ?_) (fun c => ?_)
    · refine ⟨_, rfl, (by show 1 ≤ sizeLine; decide), fun l7 h7 => ⟨_, rfl, _, ts.length, rfl, ?_⟩⟩
      have s7 := same_new (o := .lst [.int 0]) h7
      have L7 : upd H6 l7 (.lst [.int 0]) l7 = some (.lst [.int 0]) := upd_same
      have D7 := s7 _ _ c1
      have q7 := q6.same s7
      generalize upd H6 l7 (.lst [.int 0]) = H7 at s7 L7 D7 q7
      refine ⟨.inl ⟨_, SqL.of D7, (List.length_map ..).symm⟩, _, _, rfl, rfl, l7, _, _, rfl, rfl, L7, by omega, by omega, ?_, fun l8 h8 => ?_⟩
      · show 1 * _ ≤ sizeLine
        rw [sizeLine_eq]
        omega
      rw [rep0_9]
      have s8 := same_new (o := .lst ((List.replicate ((60 : Int) - ((ts.length : Nat) : Int)).toNat (0 : Int)).map V.int)) h8
      have D8 := s8 _ _ D7
      have L8 : upd H7 l8 (.lst ((List.replicate ((60 : Int) - ((ts.length : Nat) : Int)).toNat (0 : Int)).map V.int)) l8 = some (.lst ((List.replicate ((60 : Int) - ((ts.length : Nat) : Int)).toNat (0 : Int)).map V.int)) := upd_same
      have q8 := q7.same s8
      generalize upd H7 l8 (.lst ((List.replicate ((60 : Int) - ((ts.length : Nat) : Int)).toNat (0 : Int)).map V.int)) = H8 at s8 D8 L8 q8
      have el : (ts ++ List.replicate ((60 : Int) - ((ts.length : Nat) : Int)).toNat (0 : Int)).length = 60 := by
        rw [List.length_append, List.length_replicate]
        omega
      refine ⟨D, l8, _, _, rfl, rfl, D8, L8, (by rw [← List.length_append, ← List.map_append, List.length_map, el]; decide), fun l9 h9 => ?_⟩
      rw [← List.map_append]
      have z0 : ∀ z ∈ ts ++ List.replicate ((60 : Int) - ((ts.length : Nat) : Int)).toNat (0 : Int), Tm z := fun z hz => by
        rcases List.mem_append.mp hz with hz | hz
        · exact c3 z hz
        · rw [(List.mem_replicate.mp hz).2]
          unfold Tm
          decide
      generalize ts ++ List.replicate ((60 : Int) - ((ts.length : Nat) : Int)).toNat (0 : Int) = us at el z0
      have s9 := same_new (o := .lst (us.map V.int)) h9
      have L9 : upd H8 l9 (.lst (us.map V.int)) l9 = some (.lst (us.map V.int)) := upd_same
      have q9 := q8.same s9
      generalize upd H8 l9 (.lst (us.map V.int)) = H9 at s9 L9 q9
      refine ⟨_, rfl, _, rfl, (by show 3 ≤ sizeLine; decide), fun l10 h10 => ?_⟩
      have s10 := same_new (o := .lst [.int 1, .int (-1), .int 7]) h10
      have nl : l10 ≠ pn := pen_ne q9.pen h10
      have n9 : l9 ≠ pn := pen_ne q8.pen h9
      refine ⟨pn, cl, l10, _, _, rfl, upd_same, nl, (by show 0 < 3; decide), (by show 3 ≤ 1000; decide), q9.same s10, by omega, fun v H11 hv q11 u11 => ⟨(by show 1 ≤ sizeLine; decide), fun l12 h12 => ?_⟩⟩
      obtain ⟨x, rfl, hx⟩ := mem_ints (zs := [1, -1, 7]) hv
      have L11 := u11 _ _ (s10 _ _ L9) n9
      have s12 := same_new (o := .lst [.int x]) h12
      refine ⟨l9, l12, _, _, rfl, rfl, s12 _ _ L11, upd_same, (by rw [List.length_map, el]; show 60 + 1 ≤ sizeLine; decide), fun l13 h13 => ?_⟩
      have s13 := same_new (o := .lst (us.map V.int ++ [.int x])) h13
      have et : us.map V.int ++ [.int x] = (us ++ [x]).map V.int := by rw [List.map_append]; rfl
      refine ⟨_, rfl, k l13 (us ++ [x]) _ (by rw [List.length_append, el]; show 60 + 1 ≤ 61; decide) (fun z hz => ?_) (by rw [et]; exact upd_same) (((q11.same s12).same s13).pen.le (by omega)) ?_⟩
      · rcases List.mem_append.mp hz with hz | hz
        · exact z0 z hz
        · rw [List.mem_singleton.mp hz]
          simp only [List.mem_cons, List.mem_nil_iff, or_false] at hx
          rcases hx with rfl | rfl | rfl <;> (unfold Tm; decide)
      · exact ((u4.trans c5).trans (but_same (((s7.trans s8).trans s9).trans s10))).trans (u11.trans (but_same (s12.trans s13)))
    · exact ⟨_, rfl, k D ts H6 (by omega) c3 c1 (q6.pen.le (by omega)) (u4.trans c5)⟩
theorem Tm.log {z : Int} (h : Tm z) : z.natAbs.log2 < 200 := PySem.Flt.log2_lt_of (k := 200) (by decide) (Nat.lt_trans h (by decide +kernel))
theorem Tm.len {z : Int} (h : Tm z) : (Str.ofString (toString ((z.natAbs : Nat) : Int))).length ≤ 60 := by
  rw [TL.len_tl, TL.tl_num]
  exact TL.numL_len (by decide) h
theorem ok_lline {f : Addr} {fd : FuncData} (F : Fun K "_law_line" "_law_line" s_lline f fd) (T : RTx P K mg C CB fB CP fP CI fI CT fT tM tD) : FnOk P w K mg base CX0 1 f fd ["_law_terms_here"] spLline := by
  refine F.ok sc_lline (fun vs H Q E h => ?_) (fun cdv A outer s H vs Q E hr h => ?_)
  · obtain ⟨t, ts, rfl, _⟩ := h
    rfl
  · obtain ⟨t, ts, rfl, ht, hl, tm, k⟩ := h
    refine ⟨_, (pss_cons (ps_set (i := 1) sc_lline.nd rfl (Or.inl rfl) pe_str)
      (pss_cons (ps_for PassesOwn.never rfl (pi_range3 rfl T.z_range (pa_cons (pe_op op_sub (pe_callB call_len (by rfl) T.z_len PySem.boot_len (pa_cons (pv 0) pa_nil)) pe_int) (pa_cons (pe_un un_neg pe_int) (pa_cons (pe_un un_neg pe_int) pa_nil)))) (pg_name (i := 2) sc_lline.nd rfl (Or.inl rfl)) (pss_cons (ps_set (i := 3) sc_lline.nd rfl (Or.inl rfl) (pe_ix ix_list (pv 0) (pv 2) (fun _ _ => rfl)))
      (pss_one (ps_if (pt_cmpR op_ne (pv 3) pe_int (nomark _)) (C8.pss_cut (ps_set (i := 4) sc_lline.nd rfl (Or.inl rfl) (pe_ifExp (pt_cmpR op_eq (pv 2) pe_int (nomark _)) pe_str (pe_ifExp (pt_cmpR op_eq (pv 2) pe_int (nomark _)) pe_str (pe_op op_add_str pe_str (pe_callTy call_str_int (by rfl) T.z_str boot_str (pa_cons (pv 2) pa_nil))))))
      (C8.pss_cut (ps_set (i := 5) sc_lline.nd rfl (Or.inl rfl) (pe_ifExp (PW.pt (pw_or (pt_cmpR op_ne (pe_callB call_abs (by rfl) T.z_abs boot_abs (pa_cons (pv 3) pa_nil)) pe_int (nomark _)) (pw_or1 (pt_cmpR op_eq (pv 2) pe_int (nomark _))))) (pe_callTy call_str_int (by rfl) T.z_str boot_str (pa_cons (pe_callB call_abs (by rfl) T.z_abs boot_abs (pa_cons (pv 3) pa_nil)) pa_nil)) pe_str))
      (C8.pss_cut (ps_set (i := 6) sc_lline.nd rfl (Or.inl rfl) (pe_ifExp (pt_cmpR op_ne (pv 1) pe_str (nomark _)) (pe_ifExp (pt_cmpR op_lt (pv 3) pe_int (nomark _)) pe_str pe_str) (pe_ifExp (pt_cmpR op_lt (pv 3) pe_int (nomark _)) pe_str pe_str)))
      (pss_one (ps_set (i := 1) sc_lline.nd rfl (Or.inl rfl) (pe_op op_add_str (pe_op op_add_str (pe_op op_add_str (pv 1) (pv 6)) (pv 5)) (pv 4))))))) pss_nil))))
      (pss_one (ps_ret (pe_ifExp (pt_cmpR op_ne (pv 1) pe_str (nomark _)) (pv 1) pe_str))))), ?_⟩
    refine ⟨_, rfl, _, ts.length, rfl, .inl ⟨_, SqL.of ht, (List.length_map ..).symm⟩, _, _, rfl, rfl, _, rfl, _, rfl, ?_⟩
    have rg : RgC ((ts.length : Int) - 1) (-1) (-1) ts.length := by
      have z := RgC.neg (i := (ts.length : Int) - 1) (j := -1) (by omega) (by omega) (by decide) (by decide)
      have e : (((ts.length : Int) - 1) - -1).toNat = ts.length := by omega
      rw [e] at z
      exact z
    refine ⟨(ts.length : Int) - 1, -1, -1, ts.length, rfl, rg, for_rangeC (lo := (ts.length : Int) - 1) (c := -1) (n := ts.length) (fun i σ H' => ∃ (z : Str) (v2 v3 v4 v5 v6 : Option V), σ = [some (.ref t), some (.str z), v2, v3, v4, v5, v6] ∧ z.length ≤ 68 * i ∧ TL.tl z = (PT.nzl ts ((PT.dn ts.length).take i)).foldl PT.addT [] ∧ H' = H) ⟨_, none, none, none, none, none, rfl, Nat.le_refl _, rfl, rfl⟩ ?_ ?_⟩
    · rintro i σ H' hi ⟨z, v2, v3, v4, v5, v6, rfl, lz, ez, rfl⟩
      have st := PT.body_step (ts := ts) hi
      obtain ⟨x, hx⟩ : ∃ x, ts[ts.length - 1 - i]? = some x := ⟨_, List.getElem?_eq_getElem (by omega)⟩
      have ecf : cf ts (ts.length - 1 - i) = x := by
        unfold cf
        rw [hx]
        rfl
      rw [ecf, ← ez] at st
      have ep : (ts.length : Int) - 1 + (i : Nat) * -1 = ((ts.length - 1 - i : Nat) : Int) := by omega
      have ea : atI (ts.map V.int) ((ts.length : Int) - 1 + (i : Nat) * -1) = some (.int x) := at_of (j := ts.length - 1 - i) (by omega) (by rw [List.getElem?_map, hx]; rfl)
      have tx := tm x (List.mem_of_getElem? hx)
      have p60 : ts.length - 1 - i ≤ 60 := by omega
      rw [ep] at ea
      rw [ep]
      generalize ts.length - 1 - i = p at ea st hx ecf p60
      refine ⟨_, rfl, _, rfl, t, _, _, .int x, rfl, rfl, SqL.of ht, ea, ?_⟩
      refine ⟨_, rfl, rfl, _, rfl, ?_⟩
      refine ite2 (fun c => ?_) (fun c => ⟨z, _, _, _, _, _, rfl, by omega, ?_, rfl⟩)
      case refine_2 =>
        have c' : x = 0 := by
          have := Bool.eq_false_iff.mpr c
          have := Bool.not_eq_false' .. |>.mp this
          exact V.int.inj (of_decide_eq_true this)
        rw [st, if_pos c']
      have c' : x ≠ 0 := fun y => by
        rw [y] at c
        exact absurd c (by decide)
      rw [if_neg c'] at st
      have tp := TL.tl_num p
      have lpn : (Str.ofString (toString ((p : Nat) : Int))).length ≤ 2 := by
        rw [TL.len_tl, tp]
        exact TL.numL_len (by decide) (by omega)
      have lp : (((p : Nat) : Int)).natAbs.log2 < 1920 := Nat.lt_of_lt_of_le (PySem.Flt.log2_lt_of (k := 10) (by decide) (by show _ < 1024; omega)) (by decide)
      -- name
      refine ⟨fun σ Hz => ∃ nm : Str, σ = [some (.ref t), some (.str z), some (.int (p : Nat)), some (.int x), some (.str nm), v5, v6] ∧ nm.length ≤ 4 ∧ TL.tl nm = PT.nameL p ∧ Hz = H', ?_, ?_⟩
      · refine ⟨_, rfl, rfl, _, rfl, ?_⟩
        refine ite2 (fun d => ?_) (fun d => ?_)
        · have d' : p = 0 := by
            have := V.int.inj (of_decide_eq_true d)
            omega
          exact ⟨_, rfl, by decide, by rw [tl_no, d']; rfl, rfl⟩
        · have d' : p ≠ 0 := fun z => d (decide_eq_true (by rw [z]; rfl))
          refine ⟨_, rfl, rfl, _, rfl, ?_⟩
          refine ite2 (fun g => ?_) (fun g => ?_)
          · have g' : p = 1 := by
              have := V.int.inj (of_decide_eq_true g)
              omega
            exact ⟨_, rfl, by decide, by rw [tl_m, g']; rfl, rfl⟩
          · have g' : p ≠ 1 := fun z => g (decide_eq_true (by rw [z]; rfl))
            have e2 : (("m^" : Str)).length = 2 := rfl
            refine ⟨_, rfl, (p : Nat), rfl, lp, "m^", _, rfl, rfl, (by rw [e2, sizeLine_eq]; omega), ?_⟩
            exact ⟨_, rfl, by rw [app_len, e2]; omega, by rw [TL.tl_append, tl_mp, tp]; unfold PT.nameL PT.nameL.numLn; rw [if_neg d', if_neg g'], rfl⟩
      rintro σ Hz ⟨nm, rfl, lnm, enm, rfl⟩
      -- number
      refine ⟨fun σ Hz2 => ∃ nb : Str, σ = [some (.ref t), some (.str z), some (.int (p : Nat)), some (.int x), some (.str nm), some (.str nb), v6] ∧ nb.length ≤ 60 ∧ TL.tl nb = (if x.natAbs = 1 ∧ p ≠ 0 then [] else TL.numL x.natAbs) ∧ Hz2 = Hz, ?_, ?_⟩
      · refine ⟨_, rfl, _, rfl, rfl, _, rfl, ?_⟩
        rw [abs_nat]
        have e1 : (V.int ((x.natAbs : Nat) : Int) = V.int 1) ↔ x.natAbs = 1 := ⟨fun z => by
          have := V.int.inj z
          omega, fun z => by rw [z]; rfl⟩
        have w : ((x.natAbs : Nat) : Int).natAbs.log2 < 1920 := by
          rw [Int.natAbs_natCast]
          exact Nat.lt_trans tx.log (by decide)
        by_cases d : x.natAbs = 1
        · rw [decide_eq_true (e1.mpr d)]
          refine iteF ⟨_, rfl, rfl, _, rfl, ?_⟩
          refine ite2 (fun g => ?_) (fun g => ?_)
          · have g' : p = 0 := by
              have := V.int.inj (of_decide_eq_true g)
              omega
            refine ⟨_, rfl, _, rfl, _, rfl, ?_, ?_⟩
            · rw [abs_nat]
              exact w
            · rw [abs_nat]
              exact ⟨_, rfl, tx.len, by rw [TL.tl_num, if_neg (fun z => z.2 g')], rfl⟩
          · have g' : p ≠ 0 := fun z => g (decide_eq_true (by rw [z]; rfl))
            exact ⟨_, rfl, by decide, by rw [tl_no, if_pos ⟨d, g'⟩], rfl⟩
        · rw [decide_eq_false (fun z => d (e1.mp z))]
          refine iteT ⟨_, rfl, _, rfl, _, rfl, ?_, ?_⟩
          · rw [abs_nat]
            exact w
          · rw [abs_nat]
            exact ⟨_, rfl, tx.len, by rw [TL.tl_num, if_neg (fun z => d z.1)], rfl⟩
      rintro σ Hz2 ⟨nb, rfl, lnb, enb, rfl⟩
      -- sign
      have tm3 : TL.tl (" - " : Str) = [32, 45, 32] := by decide +kernel
      have tp3 : TL.tl (" + " : Str) = [32, 43, 32] := by decide +kernel
      refine ⟨fun σ Hz3 => ∃ sg : Str, σ = [some (.ref t), some (.str z), some (.int (p : Nat)), some (.int x), some (.str nm), some (.str nb), some (.str sg)] ∧ sg.length ≤ 3 ∧ TL.tl sg = (if TL.tl z ≠ [] then [32] ++ PT.sgL x ++ [32] else if x < 0 then [45] else []) ∧ Hz3 = Hz2, ?_, ?_⟩
      · refine ⟨_, rfl, rfl, _, rfl, ?_⟩
        rw [str_ne_nil]
        refine ite2 (fun d => ?_) (fun d => ?_)
        · refine ⟨_, rfl, _, _, rfl, rfl, _, rfl, ?_⟩
          unfold PT.sgL
          rw [if_pos (of_decide_eq_true d)]
          refine ite2 (fun g => ?_) (fun g => ?_)
          · rw [if_pos (of_decide_eq_true g)]
            exact ⟨_, rfl, by decide, tm3, rfl⟩
          · rw [if_neg (fun y => g (decide_eq_true y))]
            exact ⟨_, rfl, by decide, tp3, rfl⟩
        · have d' : ¬ (TL.tl z ≠ []) := fun y => d (decide_eq_true y)
          refine ⟨_, rfl, _, _, rfl, rfl, _, rfl, ?_⟩
          rw [if_neg d']
          refine ite2 (fun g => ?_) (fun g => ?_)
          · rw [if_pos (of_decide_eq_true g)]
            exact ⟨_, rfl, by decide, tl_mi, rfl⟩
          · rw [if_neg (fun y => g (decide_eq_true y))]
            exact ⟨_, rfl, by decide, tl_no, rfl⟩
      rintro σ Hz3 ⟨sg, rfl, lsg, esg, rfl⟩
      refine ⟨_, rfl, _, rfl, z, sg, rfl, rfl, (by rw [sizeLine_eq]; omega), _, rfl, _, nb, rfl, rfl, (by rw [app_len, sizeLine_eq]; omega), _, rfl, _, nm, rfl, rfl, (by rw [app_len, app_len, sizeLine_eq]; omega), ?_⟩
      refine ⟨_, _, _, _, _, _, rfl, by rw [app_len, app_len, app_len]; omega, ?_, rfl⟩
      rw [TL.tl_append, TL.tl_append, TL.tl_append, esg, enb, enm, st]
      unfold PT.addT PT.rowL
      simp only [List.append_assoc]
    · rintro σ H' ⟨z, v2, v3, v4, v5, v6, rfl, lz, ez, rfl⟩
      rw [List.take_of_length_le (by rw [PT.dn_len]; exact Nat.le_refl _)] at ez
      refine ⟨_, rfl, rfl, _, rfl, ?_⟩
      rw [str_ne_nil]
      exact ite2 (fun d => ⟨_, rfl, k _ (by omega) (by unfold PT.textL PT.bodyL; rw [if_neg (by rw [← ez]; exact of_decide_eq_true d), ez])⟩) (fun d => k _ (by decide) (by
        have d' : TL.tl z = [] := Classical.byContradiction fun y => d (decide_eq_true y)
        unfold PT.textL PT.bodyL
        rw [if_pos (by rw [← ez, d']), tl_ze]))
theorem cut_two {x : Str} {d e : Int} (h0 : 0 ≤ d) (h1 : d ≤ e) : (cutS x none (some d)).length + (cutS x (some e) none).length ≤ x.length := by
  obtain ⟨a, rfl⟩ : ∃ a : Nat, d = a := ⟨d.toNat, by omega⟩
  obtain ⟨b, rfl⟩ : ∃ b : Nat, e = b := ⟨e.toNat, by omega⟩
  rw [TL.len_tl, TL.len_tl]
  show (((TL.tl x).drop 0).take (HT.sIx x.length x.length (some ((a : Nat) : Int)) - 0)).length + (((TL.tl x).drop (HT.sIx x.length 0 (some ((b : Nat) : Int)))).take (HT.sIx x.length x.length none - HT.sIx x.length 0 (some ((b : Nat) : Int)))).length ≤ _
  rw [HT.sIx_nat, HT.sIx_nat, HT.sIx_none, TL.len_tl, List.length_take, List.length_take, List.length_drop, List.length_drop]
  omega
def signs9 : List Str := ["m", "0", "1", "2", " ", "-", "+", "^", " + ", " - ", "x", "\n", "m^2"]
theorem signs9_len : ∀ y ∈ signs9, y.length ≤ 3 := by decide +kernel
theorem mem_strs {v : V} {zs : List Str} (h : v ∈ zs.map V.str) : ∃ z, v = .str z ∧ z ∈ zs := by
  obtain ⟨z, hz, e⟩ := List.mem_map.mp h
  exact ⟨z, e.symm, hz⟩
theorem ok_bent {f : Addr} {fd : FuncData} (F : Fun K "_law_bent" "_law_bent" s_bent f fd) (T : BI mg) (D_draw : DefAt P w K mg base CX0 1 "_law_draw" ["_law_pen_here", "_law_many"] spDrawC)
    (D_pick : DefAt P w K mg base CX0 2 "_law_pick" ["_law_pen_here", "_law_some"] spPickC) : FnOk P w K mg base CX0 3 f fd ["_law_pen_here", "_law_page"] spBent := by
  refine F.ok sc_bent (fun vs H Q E h => ?_) (fun cdv A outer s H vs Q E hr h => ?_)
  · obtain ⟨pn, cl, n, x, rfl, _⟩ := h
    rfl
  · obtain ⟨pn, cl, n, x, rfl, q0, hn, hx, k⟩ := h
    refine ⟨_, (pss_cons (ps_par (i := 2) (j := 3) (by rfl) sc_bent.nd rfl rfl (by decide) rfl rfl (pa_cons (My.pe_d D_draw (hr.mono (by decide)) (by rfl) pass0 (pa_cons (pv 0) (pa_cons (pe_op op_add (pe_callB call_len (by rfl) T.z_len PySem.boot_len (pa_cons (pv 1) pa_nil)) pe_int) pa_nil))) (pa_cons (My.pe_d D_draw (hr.mono (by decide)) (by rfl) pass0 (pa_cons (pv 0) (pa_cons pe_int pa_nil))) pa_nil)) (by rfl))
      (pss_cons (ps_set (i := 4) sc_bent.nd rfl (Or.inl rfl) (My.pe_d D_pick (hr.mono (by decide)) (by rfl) pass0 (pa_cons (pv 0) (pa_cons (pe_lst (pa_cons pe_str (pa_cons pe_str (pa_cons pe_str (pa_cons pe_str (pa_cons pe_str (pa_cons pe_str (pa_cons pe_str (pa_cons pe_str (pa_cons pe_str (pa_cons pe_str (pa_cons pe_str (pa_cons pe_str (pa_cons pe_str pa_nil)))))))))))))) pa_nil))))
      (pss_cons (ps_if (pt_cmpR op_eq (pv 3) pe_int (nomark _)) (pss_one (ps_ret (pe_op op_add_str (pe_op op_add_str (pe_slice sl_str (pv 1) po_none (po_some (pv 2))) (pv 4)) (pe_slice sl_str (pv 1) (po_some (pv 2)) po_none)))) pss_nil)
      (pss_one (ps_ret (pe_ifExp (pt_cmpR op_eq (pv 3) pe_int (nomark _)) (pe_op op_add_str (pe_slice sl_str (pv 1) po_none (po_some (pv 2))) (pe_slice sl_str (pv 1) (po_some (pe_op op_add (pv 2) pe_int)) po_none)) (pe_op op_add_str (pe_op op_add_str (pe_slice sl_str (pv 1) po_none (po_some (pv 2))) (pv 4)) (pe_slice sl_str (pv 1) (po_some (pe_op op_add (pv 2) pe_int)) po_none)))))))), ?_⟩
    have lg : ((x.length : Int) + 1).natAbs.log2 < 9000 := Nat.lt_of_lt_of_le (PySem.Flt.log2_lt_of (k := 20) (by decide) (by show _ < 1048576; omega)) (by decide)
    have zx : x.length ≤ sizeLine := by rw [sizeLine_eq]; omega
    refine ⟨_, rfl, _, rfl, _, _, rfl, ⟨zx, rfl⟩, _, _, rfl, rfl, pn, cl, _, n, rfl, by omega, lg, q0, by omega, fun d1 H1 a1 b1 q1 u1 => ?_⟩
    refine ⟨_, rfl, pn, cl, 3, _, rfl, by decide, by decide, q1, by omega, fun d2 H2 a2 b2 q2 u2 => ⟨_, _, rfl, ?_⟩⟩
    refine ⟨_, rfl, (by show 13 ≤ sizeLine; decide), fun l3 h3 => ?_⟩
    have M3 : (upd H2 l3 (.lst (signs9.map V.str))) l3 = some (.lst (signs9.map V.str)) := upd_same
    have q3 := q2.same (same_new (o := .lst (signs9.map V.str)) h3)
    refine ⟨pn, cl, l3, _, _, rfl, M3, pen_ne q2.pen h3, (by show 0 < 13; decide), (by show 13 ≤ 1000; decide), q3, by omega, fun v H4 hv q4 u4 => ?_⟩
    obtain ⟨y, rfl, hy⟩ := mem_strs hv
    have ly := signs9_len y hy
    have U4 : But pn H H4 := (u1.trans u2).trans ((But.new h3).trans u4)
    have p4 : PenC H4 pn cl (n + 5) := q4.le9 (by omega)
    have fin : ∀ z : Str, z.length ≤ 4500 → Q (.str z) H4 := fun z lz => k z H4 lz p4 U4
    have c1 := cut_two (x := x) a1 (Int.le_refl d1)
    have c2 := cut_two (x := x) a1 (show d1 ≤ d1 + 1 by omega)
    refine ⟨_, rfl, rfl, _, rfl, ?_⟩
    refine ite2 (fun c => ?_) (fun c => ?_)
    · refine ⟨_, rfl, _, rfl, d1, rfl, x, rfl, zx, _, rfl, _, y, rfl, rfl, (by rw [sizeLine_eq]; omega), _, rfl, _, rfl, d1, rfl, x, rfl, zx, _, _, rfl, rfl, (by rw [app_len, sizeLine_eq]; omega), ?_⟩
      exact fin _ (by rw [app_len, app_len]; omega)
    · refine ⟨_, rfl, rfl, _, rfl, ite2 (fun g => ?_) (fun g => ?_)⟩
      · refine ⟨_, rfl, _, rfl, d1, rfl, x, rfl, zx, _, rfl, _, rfl, _, _, rfl, rfl, _, rfl, x, rfl, zx, _, _, rfl, rfl, (by rw [sizeLine_eq]; omega), ?_⟩
        exact fin _ (by rw [app_len]; omega)
      · refine ⟨_, rfl, _, rfl, d1, rfl, x, rfl, zx, _, rfl, _, y, rfl, rfl, (by rw [sizeLine_eq]; omega), _, rfl, _, rfl, _, _, rfl, rfl, _, rfl, x, rfl, zx, _, _, rfl, rfl, (by rw [app_len, sizeLine_eq]; omega), ?_⟩
        exact fin _ (by rw [app_len, app_len]; omega)
end
end My
namespace My
open PySem PySem.Spec PyProof.Rows L2
abbrev s_heard : Stmt := topS 31
theorem sc_heard : FnScope ["_law_ask", "error"] ["_law_ask"] (defScope s_heard) := ⟨rfl, rfl, rfl, by decide +kernel, rfl, by decide +kernel, by decide +kernel⟩
/-- what the top has written of the errors' classes -/
structure HTx (P : Program) (K : PySem.W.Frag) (mg : Str → Option Value) (CE CBadText fBadText : Addr) : Prop extends BI mg where
  gClip : mg "ClipError" = some (.ref CE)
  e_BadText : Sup.Err2 P K mg "BadText" "line" "word" CBadText fBadText
  x_BadText_BadText : PySem.W.exmOne K (.ref CBadText) (.ref CBadText) = some true
/-- what heard hands back of an error -/
def WHeard (CBadText : Addr) (Q : VK) : XK := fun cls d H => (∃ (dd : Addr) (v0 v1 : V), cls = .ref CBadText ∧ d = some dd ∧ H dd = some (.xd [("line", v0), ("word", v1)]) ∧ ∀ t, H t = none → Q (.ref t) (upd H t (.tup [.str "text", v0, v1]))) ∨ (False)
def THeard (CBadText : Addr) : (XK → Hp → VK → Prop) → Hp → VK → Prop := fun tl H Q => tl (WHeard CBadText Q) H fun v H' => [v].length ≤ sizeLine ∧ ∀ l, H' l = none → Q (.ref l) (upd H' l (.lst [v]))
theorem len2 {σ : List (Option V)} (h : σ.length = 2) : ∃ x0 x1, σ = [x0, x1] := by
  rcases σ with _ | ⟨x, _ | ⟨y, _ | ⟨z, r⟩⟩⟩
  · cases h
  · cases h
  · exact ⟨x, y, rfl⟩
  · simp at h
theorem heard_gives {X : Cx} {CE CBadText fBadText : Addr} (T : HTx X.prog X.K X.mg CE CBadText fBadText) {k : Nat} (hrX : Room (k + 1) X.A) (hgX : X.A.guards = some []) {g : Addr} {cdg : Value} {q : Str} :
    LamX.GivesTo X ["_law_ask", "error"] "_law_heard" (defScope s_heard) g cdg (defBody s_heard) "_law_ask" q (THeard CBadText) := by
  intro f c' s H Q tl act hc h
  refine ⟨_, (pss_one (ps_try_mix (X := (cxOf C8.CX0 X.prog X.w X.K X.mg X.base ["_law_ask", "error"] "_law_heard" (defScope s_heard) g cdg X.A X.stack s H C8.E0).nox)
    (tb := fun W D σ H => ∃ Ech : XK, (∀ cls d σ' H', Ech cls d H' → W cls d σ' H') ∧ σ[0]? = some (some (.ref f)) ∧ H c' = some (LamX.CodeO c' q) ∧ tl Ech H fun v H' => [v].length ≤ sizeLine ∧ ∀ l, H' l = none → D.rt (.ref l) (upd H' l (.lst [v])))
    (Wout := fun _ _ _ _ => False) rfl rfl sc_heard.nd LamX.takes0 (fun W pn xe tk _ => ?_) (Mixed.named (c := .ref CBadText) (i := 1) ⟨rfl, by decide, .inl T.e_BadText.gC⟩ rfl rfl (fun a oe cls d pn hz hf => pss_one (ps_ret (pe_tup (pa_cons pe_str (pa_cons (pe_xf T.e_BadText.rd T.e_BadText.nf hz hf (pv 1)) (pa_cons (pe_xf T.e_BadText.rd T.e_BadText.ng hz hf (pv 1)) pa_nil)))))) (Mixed.bare (c := .ref CE) ⟨rfl, by decide, .inl T.gClip⟩ (fun a oe cls d pn hz hf => pss_one (ps_ret (pe_tup (pa_cons pe_str pa_nil)))) Mixed.nil)))), ?_⟩
  · refine ⟨fun pins s' σ H' D I h' => ?_⟩
    obtain ⟨Ech, hW, h1, h2, h3⟩ := h'
    exact (pss_one (ps_ret (pe_lst (pa_cons (act W pn xe Ech _ _ tk hW) pa_nil)))).run pins s' σ H' D I ⟨h1, h2, h3⟩
  · refine ⟨WHeard CBadText Q, ?_, rfl, hc, h⟩
    intro cls d σ' H' hw
    rcases hw with ⟨dd, v0, v1, rfl, rfl, hd, kk⟩ | hw
    · refine ⟨true, T.x_BadText_BadText, fun _ a na hl => ?_, fun z => Bool.noConfusion z⟩
      obtain ⟨x0, x1, rfl⟩ := len2 hl
      exact ⟨_, rfl, rfl, rfl, dd, _, v0, rfl, hd, by simp [List.lookup], _, rfl, rfl, rfl, dd, _, v1, rfl, hd, rfl, (by show 3 ≤ sizeLine; decide), fun t ht => kk t ht⟩
    · exact hw.elim
/-- heard as it stands in the module -/
structure HeardAt (K : PySem.W.Frag) (mg : Str → Option Value) : Prop where
  ex : ∃ g fd, Fun K "_law_heard" "_law_heard" s_heard g fd ∧ mg "_law_heard" = some (.ref g) ∧ L2.Binds K fd ["_law_ask"] []
/-- heard(lambda: body) -/
theorem pe_heard {X : Cx} {CE CBadText fBadText : Addr} {TS : List (Addr × Str)} {c P : Addr} {k : Nat} {params : Arguments} {body : Expr} {scope : Scope} {t : XK → TE} {p lpos pos : Pos}
    (D : HeardAt X.K X.mg) (T : HTx X.prog X.K X.mg CE CBadText fBadText) (hgd : X.A.guards = some []) (hr : Room (k + 2) X.A) (TB : LamX.TabB X.base X.mg c P) (hcode : X.env.code = .ref c) (hmT : (P, X.env.qual ++ "<lambda>") ∈ TS) (hu : ∀ p ∈ TS, p.1 = P → p.2 = X.env.qual ++ "<lambda>")
    (hg : Gl X "_law_heard") (L : LamX.LamS X.env.scope scope) (hdef : defaultsOf params X.env = ([], []))
    (hbind : ∀ (q : Str) (cl : List (Str × Addr)) (pm cv ctv : Value), bindArgs (PySem.W.kla_fn "<lambda>" q params body scope cl pm cv ctv) ⟨[], []⟩ = pure [])
    (hbody : ∀ (A : Around) (outer : List Env) (s : Shared) (H : Hp) (E : XK) (f c' : Addr), Room k (A.deeper (LamX.lamEnv X scope s.heap.objs.size f c')) → PE (LamX.lamCx X A outer s H E scope f c') body (t E)) :
    PE X (.Call (.Name "_law_heard" p) [.Lambda params body scope lpos] [] pos) (LamX.tLam TS (THeard CBadText) t) := by
  obtain ⟨g, fd, F, hm, hb⟩ := D.ex
  have kp := F.kp
  obtain ⟨oc, od, kV, doc, pm, an, cdv, ct, osl, rfl, lk, hcd⟩ := F.ex
  exact LamX.pe_lamcall hg hm kp lk hcd hb sc_heard rfl (Or.inl rfl) (heard_gives (k := k) T (hr.mono (by omega)) hgd) TB hcode hmT hu hr L hdef hbind hbody (by decide) (by decide) (by decide)
end My
set_option pp.maxSteps 1500
set_option pp.deepTerms.threshold 8
/-! ### what is taken -/
namespace My
open PySem PySem.Spec PyProof.Rows L2 TX
abbrev s_taken : Stmt := topS 35
theorem sc_taken : FnScope ["_law_page", "_law_heard_here"] ["_law_page"] (defScope s_taken) := ⟨rfl, rfl, rfl, by decide +kernel, rfl, by decide +kernel, by decide +kernel⟩
theorem heardT {CT : Addr} {H : Hp} {Q : VK} (k : ∀ t H', Same H H' → H' t = some (.tup [.str "text", .int 0, .int 0]) → Q (.ref t) H') : ErrT (WHeard CT Q) CT 0 H :=
  fun d H' hd hx s => .inl ⟨d, .int 0, .int 0, rfl, rfl, hx, fun t ht => k t _ (s.trans (same_new ht)) upd_same⟩
def badD : PyData := .tuple [.str "text", .int 0, .int 0]
theorem bad_dp {K : PySem.W.Frag} {H : Hp} {t : Addr} (h : H t = some (.tup [.str "text", .int 0, .int 0])) : Dp K H (.ref t) badD := .tup (SqT.of h) (.cons (.str _) (.cons (.int _) (.cons (.int _) .nil)))
theorem one_dp {K : PySem.W.Frag} {H : Hp} {t : Addr} {x : Str} (h : H t = some (.lst [.str x])) : Dp K H (.ref t) (.list [.str x]) := .lst (SqL.of h) (.cons (.str _) .nil)
def spTaken (TS : List (Addr × Str)) : Sp := fun vs H Q _ => ∃ x : Str, vs = [.str x] ∧ x.length ≤ 5000 ∧ LamX.Tabs TS H ∧ ∀ H', LamX.ExtN H H' → LamX.Tabs TS H' → Q (.bl true) H'
section
variable {P : Program} {w : World} {K : PySem.W.Frag} {mg : Str → Option Value} {base : Heap} {CE C CB fB CP fP CI fI CT fT : Addr} {tM tD : Tok}
theorem ok_taken {f c tb : Addr} {fd : FuncData} {TS : List (Addr × Str)} (F : FunC K "_law_taken" "_law_taken" s_taken f fd c) (T : RTx P K mg C CB fB CP fP CI fI CT fT tM tD) (TH : HTx P K mg CE CT fT) (DH : HeardAt K mg)
    (TB : LamX.TabB base mg c tb) (hmT : (tb, (("_law_taken" : Str) ++ ".<locals>.") ++ "<lambda>") ∈ TS) (hu : ∀ p ∈ TS, p.1 = tb → p.2 = (("_law_taken" : Str) ++ ".<locals>.") ++ "<lambda>")
    (K_read : ClsAt P w K mg base (L2.CX P w) 6 C "read" (spPread C CT)) (ST_str : CmpAt P w K mg base CX0 3 C "__str__" ["self"] (spPstrE C)) :
    FnG P w K mg base CX0 11 f fd ["_law_page"] (spTaken TS) := by
  refine okGc F sc_taken (fun vs H Q E h => ?_) (fun A outer s H vs Q E hgd hr h => ?_)
  · obtain ⟨x, rfl, _⟩ := h
    rfl
  · obtain ⟨x, rfl, hx, ht, k⟩ := h
    refine ⟨_, (pss_cons (ps_set (i := 1) sc_taken.nd rfl (Or.inl rfl) (My.pe_heard (k := 8) DH TH hgd (hr.mono (by decide)) TB rfl hmT hu (by rfl) (LamX.lamS_by (by show LamX.lamSB (defScope s_taken) _ = true; decide +kernel)) rfl (fun _ _ _ _ _ => rfl) (fun A outer s H E f c hrl => (pe_callTy (My.call_strO ST_str (hrl.mono (by decide)) pass0) (by rfl) T.z_str boot_str (pa_cons (My.pe_cm K_read (hrl.mono (by decide)) (passes_call (takes_of rfl rfl rfl rfl) (fun _ _ _ _ h => h)) (pe_glob (v := .ref C) (by rfl) T.gP rfl) (pa_cons (pv 0) pa_nil)) pa_nil)))))
      (pss_one (ps_ret (pe_or (pe_cmpR (My.op_eqP hr.units) (pv 1) (pe_tup (pa_cons pe_str (pa_cons pe_int (pa_cons pe_int pa_nil)))) (nomark _)) (pe_one (pe_cmpR (My.op_eqP hr.units) (pv 1) (pe_lst (pa_cons (pv 0) pa_nil)) (nomark _))))))), ?_⟩
    refine ⟨ht, fun G1 x1 tb1 => ?_⟩
    refine ⟨rfl, _, rfl, .str x, rfl, .inl ⟨_, .str x⟩, hx, fun y ts ey er lt lg q H2 q2 s2 => ?_, fun no => ?_⟩
    · cases ey
      obtain ⟨dx, tt, eq, et⟩ := id q2
      refine ⟨q, dx, _, rfl, eq, q, ts, rfl, q2, by omega, lg, fun z ez => ?_⟩
      rw [PT.read_back er] at ez
      obtain rfl := TL.ext_tl ez
      refine ⟨z, rfl, (by show 1 ≤ sizeLine; decide), fun l hl => ?_⟩
      have y := (x1.trans (ext_same s2)).trans (ext_same (same_new (o := .lst [.str z]) hl))
      have tb := (tb1.ext s2).ext (same_new (o := .lst [.str z]) hl)
      have L : (upd H2 l (.lst [.str z])) l = some (.lst [.str z]) := upd_same
      generalize upd H2 l (.lst [.str z]) = H3 at y tb L
      refine ⟨_, rfl, (by show 3 ≤ sizeLine; decide), fun t2 h2 => ?_⟩
      have s4 := same_new (o := .tup [.str "text", .int 0, .int 0]) h2
      refine ⟨.list [.str z], badD, one_dp (s4 _ _ L), bad_dp upd_same, rfl, rfl, (Nat.le_trans (Nat.min_le_right _ _) (by decide)), false, rfl, iteF ?_⟩
      refine ⟨_, rfl, _, rfl, (by show 1 ≤ sizeLine; decide), fun l5 h5 => ?_⟩
      have s5 := s4.trans (same_new (o := .lst [.str z]) h5)
      refine ⟨.list [.str z], .list [.str z], one_dp (s5 _ _ L), one_dp upd_same, rfl, rfl, (Nat.le_trans (Nat.min_le_right _ _) (by show _ ≤ 60; exact (by decide : (1 : Nat) + 0 ≤ 60))), ?_⟩
      have e : PyData.eqv (.list [.str z]) (.list [.str z]) = true := SeqAt.eqv_refl_plain _ rfl
      rw [e]
      exact k _ (y.trans (ext_same s5)) (tb.ext s5)
    · refine heardT fun t H2 s2 e2 => ?_
      have y := x1.trans (ext_same s2)
      have tb := tb1.ext s2
      refine ⟨_, rfl, (by show 3 ≤ sizeLine; decide), fun t2 h2 => ?_⟩
      have s4 := same_new (o := .tup [.str "text", .int 0, .int 0]) h2
      refine ⟨badD, badD, bad_dp (s4 _ _ e2), bad_dp upd_same, rfl, rfl, (Nat.le_trans (Nat.min_le_right _ _) (by decide)), ?_⟩
      have e : PyData.eqv badD badD = true := SeqAt.eqv_refl_plain _ rfl
      rw [e]
      exact ⟨true, rfl, iteT (k _ (y.trans (ext_same s4)) (tb.ext s4))⟩
end
end My
/-! A text times an int. -/
namespace My
open PySem PySem.Spec PyProof.Rows L2
def mulS (a : Str) (n : Nat) : Str := ⟨(List.replicate n a.cps).foldl (· ++ ·) #[]⟩
def rMulS : R2 := fun x y H Q => ∃ a n, x = .str a ∧ y = .int n ∧ 2 ≤ n ∧ n ≤ 1000 ∧ 1 ≤ a.length ∧ a.length ≤ 1000 ∧ (mulS a n.toNat).length ≤ sizeLine ∧ Q (.str (mulS a n.toNat)) H
theorem op_mulS {X : Cx} : OpR X (binaryOp .Mult) rMulS := by
  intro pins s σ H x y v u Q I rx ry h
  obtain ⟨a, n, rfl, rfl, n1, n2, a1, a2, hz, q⟩ := h
  obtain ⟨t, rfl⟩ := rx
  obtain ⟨t', rfl⟩ := ry
  have e1 : (n == 1 || a.length == 0) = false := by
    rw [Bool.or_eq_false_iff, beq_eq_false_iff_ne, beq_eq_false_iff_ne]
    exact ⟨by omega, by omega⟩
  have hlo : ¬ n < -(2 ^ 63 : Int) := by omega
  have h2 : ¬ n ≥ 2 ^ 63 := by omega
  have hd : (2 ^ 63 - 1 : Int) / n ≥ 1000 := by
    have : (1000 : Int) * n ≤ 2 ^ 63 - 1 := by omega
    exact (Int.le_ediv_iff_mul_le (by omega)).mpr this
  have hl : a.length * n.toNat ≤ 1000000 := by
    have := Nat.mul_le_mul a2 (show n.toNat ≤ 1000 by omega)
    omega
  refine P.mul_str (by rw [decide_eq_false hlo, decide_eq_false h2]; rfl) (fun _ _ => by omega) (fun _ _ => ?_) ?_
  · unfold Builtin.Str.tooLong
    have hs := sizeLine_eq
    first | exact decide_eq_false (by omega) | simp; omega
  · rw [if_neg (show ¬ n < 1 by omega), e1, if_neg (by decide)]
    first
      | exact ⟨hz, ⟨.str (mulS a n.toNat), H, I.tok _, ⟨_, rfl⟩, q⟩⟩
      | exact ⟨.str (mulS a n.toNat), H, I.tok _, ⟨_, rfl⟩, q⟩
end My
set_option pp.maxSteps 1500
set_option pp.deepTerms.threshold 8
/-! ### the law -/
namespace My
open PySem PySem.Spec PyProof.Rows L2 TX
abbrev s_law : Stmt := topS 36
theorem sc_law : FnScope ["_law_script", "_law_pen_here", "_law_turn", "_law_terms_here", "_law_page", "_law_one", "_law_k", "_law_wrong", "_law_odd", "_law_far"] ["_law_script"] (defScope s_law) := ⟨rfl, rfl, rfl, by decide +kernel, rfl, by decide +kernel, by decide +kernel⟩
theorem PenAt.ext9 {H H' : Hp} {pn : Addr} {n : Nat} (h : PenAt H pn n) (k : LamX.ExtN H H') : PenAt H' pn n := by
  obtain ⟨cl, ns, a, r, e1, e2, h3⟩ := h
  exact ⟨cl, ns, a, r, k _ _ e1 (by intro ps z; cases z), k _ _ e2 (by intro ps z; cases z), h3⟩
def spLaw (K : PySem.W.Frag) (TS : List (Addr × Str)) : Sp := fun vs H Q _ => ∃ (a : Addr) (ns : List Int), vs = [.ref a] ∧ SqL K H a (ns.map V.int) ∧ LamX.Tabs TS H ∧ ∀ (H' : Hp), Q (.bl true) H'
theorem tm_cf {ts : List Int} (h : ∀ z ∈ ts, Tm z) : ∀ k, (cf ts k).natAbs < 10 ^ 60 := fun k => by
  unfold cf
  cases e : ts[k]? with
  | none => exact Nat.pow_pos (by decide)
  | some z => exact h z (List.mem_of_getElem? e)
theorem ite_sameL {a b : Str} (e : TL.tl a = TL.tl b) {A B : Prop} (h : B) : if (!decide (V.str a = V.str b)) = true then A else B := by
  rw [TL.ext_tl e, decide_eq_true rfl]
  exact iteF h
def wrongs : List Str := ["", " ", "-", "+m", "1m", "0m", "m^1", "m^0", "2 + m", "m + 0", "m + m", "m^61", "m - ", "--m"]
theorem wrong_none : ∀ x ∈ wrongs, shortV (.str x) ∧ PT.readT (TL.tl x) = none := by
  show ∀ x ∈ wrongs, x.length ≤ 5000 ∧ PT.readT (TL.tl x) = none
  decide +kernel
def oddS : List Str := ["1" ++ mulS "0" (Int.toNat 60), "m^060", "00", "-0", "m ^2", "M", "2*m"]
theorem odd_none : ∀ x ∈ oddS, shortV (.str x) ∧ PT.readT (TL.tl x) = none := by
  show ∀ x ∈ oddS, x.length ≤ 5000 ∧ PT.readT (TL.tl x) = none
  decide +kernel
def oddV (a1 a2 q : Addr) : List V := [.non, .int 3, .bl true, .ref a1, .ref a2, .ref q, .str ("1" ++ mulS "0" (Int.toNat 60)), .str "m^060", .str "00", .str "-0", .str "m ^2", .str "M", .str "2*m"]
theorem odd_all {C : Addr} {H : Hp} {a1 a2 q : Addr} {ts : List Int} {v : V} (h1 : H a1 = some (.tup [.str "m"])) (h2 : H a2 = some (.lst [.str "m"])) (h3 : PolyAt C H q ts) (hv : v ∈ oddV a1 a2 q) : TyL C H v ∧ shortV v ∧ ∀ x, v = .str x → PT.readT (TL.tl x) = none := by
  have e : oddV a1 a2 q = [.non, .int 3, .bl true, .ref a1, .ref a2, .ref q] ++ oddS.map V.str := rfl
  rw [e] at hv
  rcases List.mem_append.mp hv with hv | hv
  · simp only [List.mem_cons, List.mem_nil_iff, or_false] at hv
    rcases hv with rfl | rfl | rfl | rfl | rfl | rfl
    · exact ⟨.inl ⟨_, .non⟩, trivial, fun x z => nomatch z⟩
    · exact ⟨.inl ⟨_, .int _⟩, trivial, fun x z => nomatch z⟩
    · exact ⟨.inl ⟨_, .bl _⟩, trivial, fun x z => nomatch z⟩
    · exact ⟨.inl ⟨_, .tup h1⟩, trivial, fun x z => nomatch z⟩
    · exact ⟨.inl ⟨_, .lst h2⟩, trivial, fun x z => nomatch z⟩
    · exact ⟨h3.tyl, trivial, fun x z => nomatch z⟩
  · obtain ⟨x, rfl, hx⟩ := mem_strs hv
    obtain ⟨n1, n2⟩ := odd_none x hx
    exact ⟨.inl ⟨_, .str _⟩, n1, fun y ey => by cases ey; exact n2⟩
def fars : List Str := [mulS "9" (Int.toNat 60) ++ "m^2", "-1" ++ mulS "0" (Int.toNat 59), "m + " ++ mulS "9" (Int.toNat 60)]
theorem far_some : ∀ x ∈ fars, shortV (.str x) ∧ (PT.readT (TL.tl x)).isSome = true := by
  show ∀ x ∈ fars, x.length ≤ 5000 ∧ (PT.readT (TL.tl x)).isSome = true
  decide +kernel
theorem far9 : PT.readT (TL.tl (mulS "9" (Int.toNat 60) ++ "m^2")) = some [0, 0, 10 ^ 60 - 1] := by decide +kernel
theorem far60 : PT.readT (TL.tl "m^60") = some (List.replicate 60 0 ++ [1]) := by decide +kernel
theorem far0 : PT.readT (TL.tl "0") = some [] := by decide +kernel
theorem far59 : PT.readT (TL.tl "m^59") = some (List.replicate 59 0 ++ [1]) := by decide +kernel
section
variable {P : Program} {w : World} {K : PySem.W.Frag} {mg : Str → Option Value} {base : Heap} {CE C CB fB CP fP CI fI CT fT : Addr} {tM tD : Tok}
theorem ok_law {f c tb : Addr} {fd : FuncData} {TS : List (Addr × Str)} (F : FunC K "law" "law" s_law f fd c) (T : RTx P K mg C CB fB CP fP CI fI CT fT tM tD) (TH : HTx P K mg CE CT fT) (DH : HeardAt K mg) (ne0 : PySem.W.findIn K (.ref C) "__ne__" = some (some (.builtin "object.__ne__")))
    (TB : LamX.TabB base mg c tb) (hmT : (tb, (("law" : Str) ++ ".<locals>.") ++ "<lambda>") ∈ TS) (hu : ∀ p ∈ TS, p.1 = tb → p.2 = (("law" : Str) ++ ".<locals>.") ++ "<lambda>")
    (D_pen : DefAt P w K mg base CX0 1 "_law_pen" ["_law_script"] (spPen K)) (D_lterms : DefAt P w K mg base CX0 3 "_law_terms" ["_law_pen_here"] spLterms) (D_lline : DefAt P w K mg base CX0 1 "_law_line" ["_law_terms_here"] spLline) (D_bent : DefAt P w K mg base CX0 3 "_law_bent" ["_law_pen_here", "_law_page"] spBent)
    (D_taken : DefG P w K mg base CX0 11 "_law_taken" ["_law_page"] (spTaken TS)) (M_Poly : MakeR P w K mg base (L2.CX P w) 3 "Poly" C (spPoly C CB)) (K_of : ClsAt P w K mg base (L2.CX P w) 5 C "of" (spPof K C CB)) (K_read : ClsAt P w K mg base (L2.CX P w) 6 C "read" (spPread C CT))
    (CE_eq : CmpAt P w K mg base CX0 1 C "__eq__" ["self", "other"] (spPeq C)) (ST_str : CmpAt P w K mg base CX0 3 C "__str__" ["self"] (spPstrE C)) : FnG P w K mg base CX0 13 f fd ["_law_script"] (spLaw K TS) := by
  refine okGc F sc_law (fun vs H Q E h => ?_) (fun A outer s H vs Q E hgd hr h => ?_)
  · obtain ⟨a, ns, rfl, _⟩ := h
    rfl
  · obtain ⟨sc, ns, rfl, hs, ht, k⟩ := h
    refine ⟨_, (pss_cons (ps_set (i := 1) sc_law.nd rfl (Or.inr rfl) (My.pe_d D_pen (hr.mono (by decide)) (by rfl) pass0 (pa_cons (pv 0) pa_nil)))
      (pss_cons (ps_for PassesOwn.never rfl (pi_range1 rfl T.z_range (pa_cons pe_int pa_nil)) (pg_name (i := 2) sc_law.nd rfl (Or.inl rfl)) (pss_cons (ps_set (i := 3) sc_law.nd rfl (Or.inl rfl) (My.pe_d D_lterms (hr.mono (by decide)) (by rfl) pass0 (pa_cons (pv 1) pa_nil)))
      (pss_cons (ps_set (i := 4) sc_law.nd rfl (Or.inr rfl) (My.pe_d D_lline (hr.mono (by decide)) (by rfl) pass0 (pa_cons (pv 3) pa_nil)))
      (pss_cons (ps_if (PW.pt (pw_or (pt_cmpR op_ne (pe_callTy (My.call_strO ST_str (hr.mono (by decide)) pass0) (by rfl) T.z_str boot_str (pa_cons (My.pe_cm K_of (hr.mono (by decide)) passL (pe_glob (v := .ref C) (by rfl) T.gP rfl) (pa_cons (pv 3) pa_nil)) pa_nil)) (pv 4) (nomark _)) (pw_or1 (pt_cmpR (My.op_neO CE_eq T.hm ne0 (hr.mono (by decide)) pass0) (My.pe_cm K_read (hr.mono (by decide)) passL (pe_glob (v := .ref C) (by rfl) T.gP rfl) (pa_cons (pv 4) pa_nil)) (My.pe_cm K_of (hr.mono (by decide)) passL (pe_glob (v := .ref C) (by rfl) T.gP rfl) (pa_cons (pv 3) pa_nil)) (nomark _))))) (pss_one (ps_ret pe_bl)) pss_nil)
      (pss_one (ps_if (pt_cmpR (My.op_neP hr.units) (pe_lc (own := [("_law_one", 5)]) rfl sc_law.nd (pi_list (pe_lc (own := [("_law_k", 6)]) rfl sc_law.nd (pi_range1 rfl T.z_range (pa_cons pe_int pa_nil)) (blkOk_by (by show blkC ["_law_script", "_law_pen_here", "_law_turn", "_law_terms_here", "_law_page", "_law_one", "_law_k", "_law_wrong", "_law_odd", "_law_far"] (defScope s_law) _ _ = true; decide +kernel)) (fun _ _ _ _ _ => (pg_name (i := 6) sc_law.nd rfl (Or.inl rfl))) (fun _ _ _ _ _ => pts_nil) (fun _ _ _ _ _ => (My.pe_d D_bent (hr.mono (by decide)) (by rfl) pass0 (pa_cons (pv 1) (pa_cons (pv 4) pa_nil)))))) (blkOk_by (by show blkC ["_law_script", "_law_pen_here", "_law_turn", "_law_terms_here", "_law_page", "_law_one", "_law_k", "_law_wrong", "_law_odd", "_law_far"] (defScope s_law) _ _ = true; decide +kernel)) (fun _ _ _ _ _ => (pg_name (i := 5) sc_law.nd rfl (Or.inl rfl))) (fun _ _ _ _ _ => (pts_one (pt_not (pt_val (My.pe_dG D_taken hgd (hr.mono (by decide)) (by rfl) pass0 (pa_cons (pv 5) pa_nil)))))) (fun _ _ _ _ _ => (pv 5))) (pe_lst pa_nil) (nomark _)) (pss_one (ps_ret pe_bl)) pss_nil))))))
      (pss_cons (ps_for PassesOwn.never rfl (pi_list (pe_lst (pa_cons pe_str (pa_cons pe_str (pa_cons pe_str (pa_cons pe_str (pa_cons pe_str (pa_cons pe_str (pa_cons pe_str (pa_cons pe_str (pa_cons pe_str (pa_cons pe_str (pa_cons pe_str (pa_cons pe_str (pa_cons pe_str (pa_cons pe_str pa_nil)))))))))))))))) (pg_name (i := 7) sc_law.nd rfl (Or.inr rfl)) (pss_one (ps_if (pt_cmpR (My.op_neP hr.units) (My.pe_heard (k := 8) DH TH hgd (hr.mono (by decide)) TB rfl hmT hu (by rfl) (LamX.lamS_by (by show LamX.lamSB (defScope s_law) _ = true; decide +kernel)) rfl (fun _ _ _ _ _ => rfl) (fun A outer s H E f c hrl => (My.pe_cm K_read (hrl.mono (by decide)) (passes_call (takes_of rfl rfl rfl rfl) (fun _ _ _ _ h => h)) (pe_glob (v := .ref C) (by rfl) T.gP rfl) (pa_cons (pv 7) pa_nil)))) (pe_tup (pa_cons pe_str (pa_cons pe_int (pa_cons pe_int pa_nil)))) (nomark _)) (pss_one (ps_ret pe_bl)) pss_nil)))
      (pss_cons (ps_for PassesOwn.never rfl (pi_list (pe_lst (pa_cons pe_non (pa_cons pe_int (pa_cons pe_bl (pa_cons (pe_tup (pa_cons pe_str pa_nil)) (pa_cons (pe_lst (pa_cons pe_str pa_nil)) (pa_cons (My.pe_mkR M_Poly (hr.mono (by decide)) (by rfl) passL (pa_cons pe_int pa_nil)) (pa_cons (pe_op op_add_str pe_str (pe_op My.op_mulS pe_str pe_int)) (pa_cons pe_str (pa_cons pe_str (pa_cons pe_str (pa_cons pe_str (pa_cons pe_str (pa_cons pe_str pa_nil))))))))))))))) (pg_name (i := 8) sc_law.nd rfl (Or.inr rfl)) (pss_one (ps_if (pt_cmpR (My.op_neP hr.units) (My.pe_heard (k := 8) DH TH hgd (hr.mono (by decide)) TB rfl hmT hu (by rfl) (LamX.lamS_by (by show LamX.lamSB (defScope s_law) _ = true; decide +kernel)) rfl (fun _ _ _ _ _ => rfl) (fun A outer s H E f c hrl => (My.pe_cm K_read (hrl.mono (by decide)) (passes_call (takes_of rfl rfl rfl rfl) (fun _ _ _ _ h => h)) (pe_glob (v := .ref C) (by rfl) T.gP rfl) (pa_cons (pv 8) pa_nil)))) (pe_tup (pa_cons pe_str (pa_cons pe_int (pa_cons pe_int pa_nil)))) (nomark _)) (pss_one (ps_ret pe_bl)) pss_nil)))
      (pss_cons (ps_for PassesOwn.never rfl (pi_list (pe_lst (pa_cons (pe_op op_add_str (pe_op My.op_mulS pe_str pe_int) pe_str) (pa_cons (pe_op op_add_str pe_str (pe_op My.op_mulS pe_str pe_int)) (pa_cons (pe_op op_add_str pe_str (pe_op My.op_mulS pe_str pe_int)) pa_nil))))) (pg_name (i := 9) sc_law.nd rfl (Or.inr rfl)) (pss_one (ps_if (pt_cmpR (My.op_neP hr.units) (My.pe_heard (k := 8) DH TH hgd (hr.mono (by decide)) TB rfl hmT hu (by rfl) (LamX.lamS_by (by show LamX.lamSB (defScope s_law) _ = true; decide +kernel)) rfl (fun _ _ _ _ _ => rfl) (fun A outer s H E f c hrl => (pe_callTy (My.call_strO ST_str (hrl.mono (by decide)) pass0) (by rfl) T.z_str boot_str (pa_cons (My.pe_cm K_read (hrl.mono (by decide)) (passes_call (takes_of rfl rfl rfl rfl) (fun _ _ _ _ h => h)) (pe_glob (v := .ref C) (by rfl) T.gP rfl) (pa_cons (pv 9) pa_nil)) pa_nil)))) (pe_lst (pa_cons (pv 9) pa_nil)) (nomark _)) (pss_one (ps_ret pe_bl)) pss_nil)))
      (pss_cons (ps_if (pt_cmpR (My.op_neP hr.units) (My.pe_heard (k := 8) DH TH hgd (hr.mono (by decide)) TB rfl hmT hu (by rfl) (LamX.lamS_by (by show LamX.lamSB (defScope s_law) _ = true; decide +kernel)) rfl (fun _ _ _ _ _ => rfl) (fun A outer s H E f c hrl => (pe_cmpR (My.op_cmpOB (K := K) rfl CE_eq (hrl.mono (by decide)) pass0) (My.pe_cm K_read (hrl.mono (by decide)) (passes_call (takes_of rfl rfl rfl rfl) (fun _ _ _ _ h => h)) (pe_glob (v := .ref C) (by rfl) T.gP rfl) (pa_cons (pe_op op_add_str (pe_op My.op_mulS pe_str pe_int) pe_str) pa_nil)) (My.pe_mkR M_Poly (hrl.mono (by decide)) (by rfl) (passes_call (takes_of rfl rfl rfl rfl) (fun _ _ _ _ h => h)) (pa_cons pe_int (pa_cons pe_int (pa_cons (pe_op op_sub (pe_op op_pow pe_int pe_int) pe_int) pa_nil)))) (nomark _)))) (pe_lst (pa_cons pe_bl pa_nil)) (nomark _)) (pss_one (ps_ret pe_bl)) pss_nil)
      (pss_one (ps_ret (pe_and (pe_cmpR (My.op_neO CE_eq T.hm ne0 (hr.mono (by decide)) pass0) (My.pe_cm K_read (hr.mono (by decide)) passL (pe_glob (v := .ref C) (by rfl) T.gP rfl) (pa_cons pe_str pa_nil)) (My.pe_cm K_read (hr.mono (by decide)) passL (pe_glob (v := .ref C) (by rfl) T.gP rfl) (pa_cons pe_str pa_nil)) (nomark _)) (pe_one (pe_cmpR (My.op_cmpO CE_eq (hr.mono (by decide)) pass0) (My.pe_cm K_read (hr.mono (by decide)) passL (pe_glob (v := .ref C) (by rfl) T.gP rfl) (pa_cons pe_str pa_nil)) (My.pe_mkR0 M_Poly (hr.mono (by decide)) (by rfl) passL) (nomark _)))))))))))), ?_⟩
    refine ⟨_, rfl, sc, ns, rfl, hs, fun pn H1 h1 p1 s1 => ?_⟩
    refine ⟨8, rfl, by decide, by decide, for_range (fun i σ H' => ∃ v2 v3 v4 v5 v6, σ = [some (.ref sc), some (.ref pn), v2, v3, v4, v5, v6, none, none, none] ∧ PenAt H' pn (100 * i) ∧ LamX.Tabs TS H') ⟨none, none, none, none, none, rfl, p1, ht.ext s1⟩ ?_ ?_⟩
    · rintro i σ H' hi ⟨v2, v3, v4, v5, v6, rfl, hp, htb⟩
      have hi8 : i < 8 := hi
      refine ⟨_, rfl, pn, 100 * i, rfl, hp, by omega, fun l ts H2 ln tm hl p2 u2 => ?_⟩
      have t2 := tabs_but htb hp u2
      refine ⟨_, rfl, l, ts, rfl, hl, ln, tm, fun z lz ez => ?_⟩
      have zb := tm_cf tm
      have zr := PT.read_text ln zb
      rw [← ez] at zr
      have zl : ∀ y ∈ trim ts, y.natAbs.log2 < 1920 := fun y hy => Nat.lt_trans (tm y (PT.trim_mem hy)).log (by decide)
      have tl61 : (trim ts).length ≤ 61 := Nat.le_trans (trim_le ts) ln
      have tyL : ∀ {Hz : Hp}, ∀ v ∈ ts.map V.int, TyL C Hz v := fun {Hz} v hv => by
        obtain ⟨y, rfl, _⟩ := mem_ints hv
        exact TyL.int C Hz y
      have inj : ∀ us : List Int, ts.map V.int = us.map V.int → us = ts := fun us e => ((List.map_inj_right fun a b z => V.int.inj z).mp e).symm
      have nobad : ∀ (j : Nat) (v : V), (ts.map V.int)[j]? = some v → isI v = false → False := fun j v e1 e2 => by
        obtain ⟨y, _, rfl⟩ := at_int e1
        cases e2
      refine ⟨rfl, _, rfl, l, _, rfl, .inr (SqL.of hl), by rw [List.length_map]; omega, tyL, fun us eu q3 H3 r3 s3 => ?_, fun j v e1 e2 _ => (nobad j v e1 e2).elim⟩
      rw [inj us eu] at r3
      obtain ⟨dx3, tt3, e3, _⟩ := id r3
      refine ⟨q3, dx3, _, rfl, e3, q3, _, rfl, r3, by omega, zl, fun y ey => ⟨y, rfl, ?_⟩⟩
      refine ⟨_, rfl, rfl, _, rfl, ite_sameL (by rw [ey, ez, PT.text_trim]) ?_⟩
      refine ⟨rfl, _, rfl, .str z, rfl, .inl ⟨_, .str z⟩, (by show z.length ≤ 5000; omega), fun x us ex er lt lg q4 H4 r4 s4 => ?_, fun no => ?_⟩
      case refine_2 =>
        have := no z rfl
        rw [zr] at this
        cases this
      cases ex
      rw [zr] at er
      cases er
      have l4 := s4 _ _ (s3 _ _ hl)
      refine ⟨rfl, _, rfl, l, _, rfl, .inr (SqL.of l4), by rw [List.length_map]; omega, tyL, fun us eu q5 H5 r5 s5 => ?_, fun j v e1 e2 _ => (nobad j v e1 e2).elim⟩
      rw [inj us eu] at r5
      have r4 := r4.same s5
      obtain ⟨dx4, tt4, e4, _⟩ := id r4
      refine ⟨q4, dx4, _, _, rfl, e4, T.ty r5, T.sf, q4, _, _, rfl, r4, by omega, .inl ⟨q5, _, rfl, r5, by omega, _, rfl, ?_⟩⟩
      rw [decide_eq_true rfl]
      refine ⟨_, rfl, iteF ?_⟩
      have S5 := (s3.trans s4).trans s5
      have p5 := pen_same p2 S5
      have t5 := t2.ext S5
      clear s3 s4 s5 S5 r3 r4 r5 e3 e4 l4 u2 hl zr
      obtain ⟨cl, q5⟩ := p5.cells
      refine ⟨6, rfl, by decide, by decide, fun D hD => ?_⟩
      have ncl : cl ≠ D := by
        obtain ⟨ns, x, r, g1, g2, _⟩ := q5
        exact ne_of_none g2 hD
      have nD : D ≠ pn := pen_ne p5 hD
      refine lc_range (lo := 0) (n := 6) (fun j Hh => ∃ zs : List Str, Hh D = some (.lst (zs.map V.str)) ∧ zs.length = j ∧ (∀ y ∈ zs, y.length ≤ 4500) ∧ PenC Hh pn cl (100 * i + 30 + 5 * j) ∧ LamX.Tabs TS Hh) ⟨[], upd_same, rfl, (fun y hy => nomatch hy), q5.put (Ne.symm nD) ncl, t5.ext (same_new hD)⟩ ?_ ?_
      · rintro j Hh hj ⟨zs, c1, c2, c3, c4, c5⟩
        refine ⟨rfl, yes_go ⟨_, rfl, _, rfl, pn, cl, _, z, rfl, c4, by omega, lz, fun y Hy ly py uy => ⟨_, uy _ _ c1 nD, by rw [List.length_map, sizeLine_eq]; omega, zs ++ [y], ?_, by rw [List.length_append, c2]; rfl, ?_, ?_, ?_⟩⟩⟩
        · rw [List.map_append]
          exact upd_same
        · intro x hx
          rcases List.mem_append.mp hx with hx | hx
          · exact c3 x hx
          · rw [List.mem_singleton.mp hx]
            exact ly
        · exact (py.put (Ne.symm nD) ncl).le9 (by omega)
        · exact tabs_put (tabs_but c5 c4.pen uy) (uy _ _ c1 nD)
      rintro H6 ⟨zs, c1, c2, c3, c4, c5⟩
      refine ⟨D, rfl, ⟨_, SqL.of c1⟩, fun D2 hD2 => ?_⟩
      refine lc_list (xs := zs.map V.str) (fun j Hh => LamX.ExtN H6 Hh ∧ Hh D2 = some (.lst []) ∧ LamX.Tabs TS Hh) ⟨ext_same (same_new hD2), upd_same, c5.ext (same_new hD2)⟩ (fun j Hh _ ⟨x, _, _⟩ => SqL.of (x _ _ c1 (by intro ps z; cases z))) ?_ ?_
      · rintro j x Hh hx ⟨x1, x2, x3⟩
        obtain ⟨y, hy, rfl⟩ : ∃ y, zs[j]? = some y ∧ V.str y = x := by
          rw [List.getElem?_map] at hx
          cases g : zs[j]? with
          | none => rw [g] at hx; cases hx
          | some y =>
            rw [g] at hx
            exact ⟨y, rfl, Option.some.inj hx⟩
        refine ⟨rfl, _, rfl, y, rfl, Nat.le_trans (c3 y (List.mem_of_getElem? hy)) (by decide), x3, fun H8 x8 t8 => ?_⟩
        exact ⟨_, rfl, iteF ⟨x1.trans x8, x8 _ _ x2 (by intro ps z; cases z), t8⟩⟩
      · rintro H7 ⟨x1, x2, x3⟩
        refine ⟨(by show 0 ≤ sizeLine; decide), fun l8 h8 => ?_⟩
        have s8 := same_new (o := .lst []) h8
        refine ⟨.list [], .list [], .lst (SqL.of (s8 _ _ x2)) .nil, .lst (SqL.of upd_same) .nil, rfl, rfl, (by decide), _, rfl, ?_⟩
        have e : (!PyData.eqv (.list []) (.list [])) = false := by decide +kernel
        rw [e]
        exact iteF ⟨_, _, _, _, _, rfl, ((c4.pen.ext9 x1).ext9 (ext_same s8)).le (by omega), x3.ext s8⟩
    · rintro σ H' ⟨v2, v3, v4, v5, v6, rfl, hp, htb⟩
      -- wrong ones
      refine ⟨(by show 14 ≤ sizeLine; decide), fun l1 g1 => ⟨l1, rfl, ⟨_, SqL.of upd_same⟩, ?_⟩⟩
      have t1 := htb.ext (same_new (o := .lst [.str "", .str " ", .str "-", .str "+m", .str "1m", .str "0m", .str "m^1", .str "m^0", .str "2 + m", .str "m + 0", .str "m + m", .str "m^61", .str "m - ", .str "--m"]) g1)
      have L1 : (upd H' l1 (.lst [.str "", .str " ", .str "-", .str "+m", .str "1m", .str "0m", .str "m^1", .str "m^0", .str "2 + m", .str "m + 0", .str "m + m", .str "m^61", .str "m - ", .str "--m"])) l1 = some (.lst (wrongs.map V.str)) := upd_same
      generalize upd H' l1 (.lst [.str "", .str " ", .str "-", .str "+m", .str "1m", .str "0m", .str "m^1", .str "m^0", .str "2 + m", .str "m + 0", .str "m + m", .str "m^61", .str "m - ", .str "--m"]) = H1 at t1 L1
      refine for_list (xs := wrongs.map V.str) (fun j σ Hh => ∃ v7, σ = [some (.ref sc), some (.ref pn), v2, v3, v4, v5, v6, v7, none, none] ∧ Hh l1 = some (.lst (wrongs.map V.str)) ∧ LamX.Tabs TS Hh) ⟨none, rfl, L1, t1⟩ (fun j σ Hh _ ⟨_, _, e, _⟩ => SqL.of e) ?_ ?_
      · rintro j v σ Hh hv ⟨v7, rfl, c1, c2⟩
        obtain ⟨x, rfl, hx⟩ := mem_strs (List.mem_of_getElem? hv)
        obtain ⟨n1, n2⟩ := wrong_none x hx
        refine ⟨c2, fun G x1 tb1 => ?_⟩
        refine ⟨rfl, _, rfl, .str x, rfl, .inl ⟨_, .str x⟩, n1, fun y us ey er _ _ => ?_, fun no => heardT fun t7 H7 s7 e7 => ?_⟩
        · cases ey
          rw [n2] at er
          cases er
        · refine ⟨(by show 3 ≤ sizeLine; decide), fun t8 h8 => ?_⟩
          have s8 := same_new (o := .tup [.str "text", .int 0, .int 0]) h8
          refine ⟨badD, badD, bad_dp (s8 _ _ e7), bad_dp upd_same, rfl, rfl, (Nat.le_trans (Nat.min_le_right _ _) (by decide)), _, rfl, ?_⟩
          have e : (!PyData.eqv badD badD) = false := by decide +kernel
          rw [e]
          exact iteF ⟨_, rfl, s8 _ _ (s7 _ _ (x1 _ _ c1 (by intro ps z; cases z))), (tb1.ext s7).ext s8⟩
      rintro σ H2 ⟨v7, rfl, _, t2⟩
      clear t1 L1
      -- odd ones
      have e0 : ("0" : Str).length = 1 := rfl
      have e9 : ("9" : Str).length = 1 := rfl
      have m060 : (mulS "0" (Int.toNat 60)).length ≤ 61 := by decide +kernel
      have m059 : (mulS "0" (Int.toNat 59)).length ≤ 61 := by decide +kernel
      have m960 : (mulS "9" (Int.toNat 60)).length ≤ 61 := by decide +kernel
      have f1 : ("1" : Str).length = 1 := rfl
      have f2 : ("-1" : Str).length = 2 := rfl
      have f3 : ("m^2" : Str).length = 3 := rfl
      have f4 : ("m + " : Str).length = 4 := rfl
      refine ⟨(by show 1 ≤ sizeLine; decide), fun a1 k1 => ⟨(by show 1 ≤ sizeLine; decide), fun a2 k2 => poly_ints [1] (by decide) fun q H3 r3 s3 => ?_⟩⟩
      have A1 := s3 _ _ (same_new (o := .lst [.str "m"]) k2 _ _ (upd_same (H := H2) (a := a1) (o := .tup [.str "m"])))
      have A2 := s3 _ _ (upd_same (H := upd H2 a1 (.tup [.str "m"])) (a := a2) (o := .lst [.str "m"]))
      have t3 := t2.ext (((same_new (o := .tup [.str "m"]) k1).trans (same_new (o := .lst [.str "m"]) k2)).trans s3)
      refine ⟨"0", 60, rfl, rfl, by decide, by decide, by decide, by decide, (by rw [sizeLine_eq]; omega), "1", _, rfl, rfl, (by rw [f1, sizeLine_eq]; omega), (by show 13 ≤ sizeLine; decide), fun l5 g5 => ⟨l5, rfl, ⟨_, SqL.of upd_same⟩, ?_⟩⟩
      have s5 := same_new (o := .lst (oddV a1 a2 q)) g5
      refine for_list (xs := oddV a1 a2 q) (fun j σ Hh => ∃ v8, σ = [some (.ref sc), some (.ref pn), v2, v3, v4, v5, v6, v7, v8, none] ∧ (Hh l5 = some (.lst (oddV a1 a2 q)) ∧ Hh a1 = some (.tup [.str "m"]) ∧ Hh a2 = some (.lst [.str "m"]) ∧ PolyAt C Hh q (trim [1])) ∧ LamX.Tabs TS Hh) ⟨none, rfl, ⟨upd_same, s5 _ _ A1, s5 _ _ A2, r3.same s5⟩, t3.ext s5⟩ (fun j σ Hh _ ⟨_, _, e, _⟩ => SqL.of e.1) ?_ ?_
      · rintro j v σ Hh hv ⟨v8, rfl, ⟨c0, c1, c2, c3⟩, c4⟩
        refine ⟨c4, fun G x1 tb1 => ?_⟩
        have y0 := x1 _ _ c0 (by intro ps z; cases z)
        have y1 := x1 _ _ c1 (by intro ps z; cases z)
        have y2 := x1 _ _ c2 (by intro ps z; cases z)
        have y3 := c3.ext x1
        obtain ⟨n1, n2, n3⟩ := odd_all y1 y2 y3 (List.mem_of_getElem? hv)
        refine ⟨rfl, _, rfl, v, rfl, n1, n2, fun y us ey er _ _ => ?_, fun no => heardT fun t7 H7 s7 e7 => ?_⟩
        · rw [n3 y ey] at er
          cases er
        · refine ⟨(by show 3 ≤ sizeLine; decide), fun t8 h8 => ?_⟩
          have s8 := same_new (o := .tup [.str "text", .int 0, .int 0]) h8
          refine ⟨badD, badD, bad_dp (s8 _ _ e7), bad_dp upd_same, rfl, rfl, (Nat.le_trans (Nat.min_le_right _ _) (by decide)), _, rfl, ?_⟩
          have e : (!PyData.eqv badD badD) = false := by decide +kernel
          rw [e]
          exact iteF ⟨_, rfl, ⟨s8 _ _ (s7 _ _ y0), s8 _ _ (s7 _ _ y1), s8 _ _ (s7 _ _ y2), y3.same (s7.trans s8)⟩, (tb1.ext s7).ext s8⟩
      rintro σ H4 ⟨v8, rfl, _, t4⟩
      clear t3 t2 A1 A2 s5 s3 r3 k2 k1
      -- far ones
      refine ⟨"9", 60, rfl, rfl, by decide, by decide, by decide, by decide, (by rw [sizeLine_eq]; omega), _, "m^2", rfl, rfl, (by rw [f3, sizeLine_eq]; omega), ?_⟩
      refine ⟨"0", 59, rfl, rfl, by decide, by decide, by decide, by decide, (by rw [sizeLine_eq]; omega), "-1", _, rfl, rfl, (by rw [f2, sizeLine_eq]; omega), ?_⟩
      refine ⟨"9", 60, rfl, rfl, by decide, by decide, by decide, by decide, (by rw [sizeLine_eq]; omega), "m + ", _, rfl, rfl, (by rw [f4, sizeLine_eq]; omega), ?_⟩
      refine ⟨(by show 3 ≤ sizeLine; decide), fun l6 g6 => ⟨l6, rfl, ⟨_, SqL.of upd_same⟩, ?_⟩⟩
      have s6 := same_new (o := .lst (fars.map V.str)) g6
      refine for_list (xs := fars.map V.str) (fun j σ Hh => ∃ v9, σ = [some (.ref sc), some (.ref pn), v2, v3, v4, v5, v6, v7, v8, v9] ∧ Hh l6 = some (.lst (fars.map V.str)) ∧ LamX.Tabs TS Hh) ⟨none, rfl, upd_same, t4.ext s6⟩ (fun j σ Hh _ ⟨_, _, e, _⟩ => SqL.of e) ?_ ?_
      · rintro j v σ Hh hv ⟨v9, rfl, c1, c2⟩
        obtain ⟨x, rfl, hx⟩ := mem_strs (List.mem_of_getElem? hv)
        obtain ⟨n1, n2⟩ := far_some x hx
        refine ⟨c2, fun G x1 tb1 => ?_⟩
        have y1 := x1 _ _ c1 (by intro ps z; cases z)
        refine ⟨rfl, _, rfl, .str x, rfl, .inl ⟨_, .str x⟩, n1, fun y us ey er lt lg q5 H5 r5 s5 => ?_, fun no => ?_⟩
        · cases ey
          obtain ⟨dx, tt, eq, et⟩ := id r5
          refine ⟨q5, dx, _, rfl, eq, q5, us, rfl, r5, by omega, lg, fun y ey => ?_⟩
          rw [PT.read_back er] at ey
          obtain rfl := TL.ext_tl ey
          refine ⟨y, rfl, (by show 1 ≤ sizeLine; decide), fun l7 h7 => ?_⟩
          have s7 := s5.trans (same_new (o := .lst [.str y]) h7)
          have L7 : (upd H5 l7 (.lst [.str y])) l7 = some (.lst [.str y]) := upd_same
          generalize upd H5 l7 (.lst [.str y]) = H7 at s7 L7
          refine ⟨_, rfl, (by show 1 ≤ sizeLine; decide), fun l8 h8 => ?_⟩
          have s8 := same_new (o := .lst [.str y]) h8
          refine ⟨.list [.str y], .list [.str y], one_dp (s8 _ _ L7), one_dp upd_same, rfl, rfl, (Nat.le_trans (Nat.min_le_right _ _) (by show _ ≤ 60; exact (by decide : (1 : Nat) + 0 ≤ 60))), _, rfl, ?_⟩
          have e : PyData.eqv (.list [.str y]) (.list [.str y]) = true := SeqAt.eqv_refl_plain _ rfl
          rw [e]
          exact iteF ⟨_, rfl, s8 _ _ (s7 _ _ y1), (tb1.ext s7).ext s8⟩
        · rw [no x rfl] at n2
          cases n2
      rintro σ H6 ⟨v9, rfl, _, t6⟩
      -- one value
      refine ⟨t6, fun G x1 tb1 => ?_⟩
      refine ⟨rfl, "9", 60, rfl, rfl, by decide, by decide, by decide, by decide, (by rw [sizeLine_eq]; omega), _, "m^2", rfl, rfl, (by rw [f3, sizeLine_eq]; omega), _, rfl, ?_⟩
      refine ⟨.inl ⟨_, .str _⟩, (by show (mulS "9" (Int.toNat 60) ++ "m^2").length ≤ 5000; decide +kernel), fun x us ex er lt lg q5 H5 r5 s5 => ?_, fun no => ?_⟩
      case refine_2 =>
        have := no _ rfl
        rw [far9] at this
        cases this
      cases ex
      rw [far9] at er
      cases er
      refine ⟨_, _, rfl, rfl, ⟨by decide, by decide, by decide⟩, _, _, rfl, rfl, ?_⟩
      refine poly_ints [0, 0, 10 ^ Int.toNat 60 - 1] (by decide) fun q7 H7 r7 s7 => ?_
      have r5 := r5.same s7
      obtain ⟨dx5, tt5, e5, _⟩ := id r5
      refine ⟨q5, dx5, _, _, rfl, e5, T.ty r7, T.sf, q5, _, _, rfl, r5, by decide, .inl ⟨q7, _, rfl, r7, Nat.le_trans (trim_le _) (by decide), (by show 1 ≤ sizeLine; decide), fun l8 h8 => ?_⟩⟩
      have s8 := (s5.trans s7).trans (same_new (o := .lst [.bl (decide (([0, 0, 10 ^ 60 - 1] : List Int) = trim [0, 0, 10 ^ Int.toNat 60 - 1]))]) h8)
      have L8 : (upd H7 l8 (.lst [.bl (decide (([0, 0, 10 ^ 60 - 1] : List Int) = trim [0, 0, 10 ^ Int.toNat 60 - 1]))])) l8 = some (.lst [.bl true]) := by
        have e : decide (([0, 0, 10 ^ 60 - 1] : List Int) = trim [0, 0, 10 ^ Int.toNat 60 - 1]) = true := by decide +kernel
        rw [e]
        exact upd_same
      generalize upd H7 l8 (.lst [.bl (decide (([0, 0, 10 ^ 60 - 1] : List Int) = trim [0, 0, 10 ^ Int.toNat 60 - 1]))]) = H8 at s8 L8
      refine ⟨(by show 1 ≤ sizeLine; decide), fun l9 h9 => ?_⟩
      have s9 := same_new (o := .lst [.bl true]) h9
      refine ⟨.list [.bool true], .list [.bool true], .lst (SqL.of (s9 _ _ L8)) (.cons (.bl true) .nil), .lst (SqL.of upd_same) (.cons (.bl true) .nil), rfl, rfl, (by decide), _, rfl, ?_⟩
      have e : (!PyData.eqv (.list [.bool true]) (.list [.bool true])) = false := by decide +kernel
      rw [e]
      refine iteF ?_
      clear L8 s8 s9 r5 r7 e5
      -- the end
      refine ⟨rfl, _, rfl, .inl ⟨_, .str _⟩, (by show ("m^60" : Str).length ≤ 5000; decide), fun x us ex er _ _ q10 H10 r10 s10 => ?_, fun no => ?_⟩
      case refine_2 =>
        have := no _ rfl
        rw [far60] at this
        cases this
      cases ex
      rw [far60] at er
      cases er
      refine ⟨rfl, _, rfl, .inl ⟨_, .str _⟩, (by show ("m^59" : Str).length ≤ 5000; decide), fun x us ex er _ _ q11 H11 r11 s11 => ?_, fun no => ?_⟩
      case refine_2 =>
        have := no _ rfl
        rw [far59] at this
        cases this
      cases ex
      rw [far59] at er
      cases er
      have r10 := r10.same s11
      obtain ⟨dx10, tt10, e10, _⟩ := id r10
      refine ⟨q10, dx10, _, _, rfl, e10, T.ty r11, T.sf, q10, _, _, rfl, r10, by decide, .inl ⟨q11, _, rfl, r11, by decide, _, rfl, true, ?_, iteT ?_⟩⟩
      · exact congrArg V.bl (by decide +kernel)
      refine ⟨rfl, _, rfl, .inl ⟨_, .str _⟩, (by show ("0" : Str).length ≤ 5000; decide), fun x us ex er _ _ q12 H12 r12 s12 => ?_, fun no => ?_⟩
      case refine_2 =>
        have := no _ rfl
        rw [far0] at this
        cases this
      cases ex
      rw [far0] at er
      cases er
      refine poly_ints [] (by decide) fun q13 H13 r13 s13 => ?_
      have r12 := r12.same s13
      obtain ⟨dx12, tt12, e12, _⟩ := id r12
      refine ⟨q12, dx12, _, _, rfl, e12, T.ty r13, T.sf, q12, _, _, rfl, r12, by decide, .inl ⟨q13, _, rfl, r13, by decide, ?_⟩⟩
      exact k _
end
end My
namespace My
open PySem PySem.Spec PyProof.Rows L2
theorem all_mk {l : PySem.W.OpenLaw} {w : World} {K : PySem.W.Frag} {h : Heap} {mg : Str → Option Value} {fa CE C CB fB CP fP CI fI CT fT : Addr} {tM tD : Tok} {c1 t1 : Addr} {e1 : Value} {dd1 : Option Addr} {vs1 : Array Value} {sx1 : Array (Option Value)} {c2 t2 : Addr} {e2 : Value} {dd2 : Option Addr} {vs2 : Array Value} {sx2 : Array (Option Value)} (hfa : mg "law" = some (.ref fa))
    (_gP : mg "Poly" = some (.ref C))
    (_gB : mg "BadPoly" = some (.ref CB))
    (_gPl : mg "BadPlace" = some (.ref CP))
    (_gI : mg "NoIndex" = some (.ref CI))
    (_gE : mg "ClipError" = some (.ref CE))
    (_iCB : PySem.W.findIn K (.ref CB) "__init__" = some (some (.ref fB)))
    (_iCP : PySem.W.findIn K (.ref CP) "__init__" = some (some (.ref fP)))
    (_iCI : PySem.W.findIn K (.ref CI) "__init__" = some (some (.ref fI)))
    (_gT : mg "BadText" = some (.ref CT))
    (_gM : mg "MOST_DIGITS" = some (.int 60 tM))
    (_gD : mg "MOST_POWER" = some (.int 60 tD))
    (_iT : PySem.W.findIn K (.ref CT) "__init__" = some (some (.ref fT)))
    (T : RTx l.prog K mg C CB fB CP fP CI fI CT fT tM tD)
    (mk : PySem.W.makesIn K C = true)
    (kp : PySem.W.keepIn K (.ref C) = true)
    (A_pinit : HasM K C "__init__" "Poly.__init__" s_pinit)
    (A_pof : HasCM K C "of" "Poly.of" s_pof)
    (A_whole0 : Has K mg "is_whole" s_whole0)
    (A_needint : Has K mg "need_integer" s_needint)
    (A_wend : Has K mg "without_end" s_wend)
    (A_termof : Has K mg "term_of" s_termof)
    (A_pen : Has K mg "_law_pen" s_pen)
    (A_draw : Has K mg "_law_draw" s_draw)
    (A_pick : Has K mg "_law_pick" s_pick)
    (TH : HTx l.prog K mg CE CT fT)
    (ne0 : PySem.W.findIn K (.ref C) "__ne__" = some (some (.builtin "object.__ne__")))
    (A_peq : HasM K C "__eq__" "Poly.__eq__" s_peq)
    (A_pstr : HasM K C "__str__" "Poly.__str__" s_pstr)
    (A_pread : HasCM K C "read" "Poly.read" s_pread)
    (A_ttext : Has K mg "term_text" s_ttext)
    (A_tstext : Has K mg "terms_text" s_tstext)
    (A_figof : Has K mg "figures_of" s_figof)
    (A_termread : Has K mg "term_read" s_termread)
    (A_heard : Has K mg "_law_heard" s_heard)
    (A_lterms : Has K mg "_law_terms" s_lterms)
    (A_lline : Has K mg "_law_line" s_lline)
    (A_bent : Has K mg "_law_bent" s_bent)
    (A_taken : HasC K mg "_law_taken" s_taken c1) (_p1 : K.lookup c1 = some ⟨e1, dd1, .fields vs1, sx1⟩) (_q1 : vs1[11]? = some (.ref t1)) (T1 : TabF K h (c1, t1))
    (A_law : HasC K mg "law" s_law c2) (_p2 : K.lookup c2 = some ⟨e2, dd2, .fields vs2, sx2⟩) (_q2 : vs2[11]? = some (.ref t2)) (T2 : TabF K h (c2, t2))
    (_n1_2 : ¬ t1 = t2)
    : LawG l w K 13 63 "_law_script" mg fa h := by
  obtain ⟨f_1, oc_1, od_1, kV_1, dc_1, pm_1, an_1, ct_1, sl_1, m_1, l_1, d_1, k_1⟩ := A_taken.ex
  obtain ⟨f_2, oc_2, od_2, kV_2, dc_2, pm_2, an_2, ct_2, sl_2, m_2, l_2, d_2, k_2⟩ := A_law.ex
  have e := hfa.symm.trans m_2
  cases e
  obtain ⟨fh, fdh, hh, Fh⟩ := A_heard.ex
  refine ⟨PySem.W.fnOf "law" "law" (defArgs s_law) (defBody s_law) (defScope s_law) .none kV_2 dc_2 pm_2 an_2 (.ref c2) ct_2, [(c1, t1), (c2, t2)], spLaw K [(t1, (("_law_taken" : Str) ++ ".<locals>.") ++ "<lambda>"), (t2, (("law" : Str) ++ ".<locals>.") ++ "<lambda>")], fun p hp => ?_, fun s u => ?_, fun H a ns hn hb ht hs => ?_, fun base hK hN hT => ?_⟩
  · simp only [List.mem_cons, List.mem_nil_iff, or_false] at hp
    rcases hp with rfl | rfl
    · exact T1
    · exact T2
  · exact .of_eq rfl
  · refine ⟨a, ns, rfl, hs, fun p hp => ?_, fun _ => rfl⟩
    simp only [List.mem_cons, List.mem_nil_iff, or_false] at hp
    rcases hp with rfl | rfl
    · exact LamX.TabS.nil (ht (c1, t1) (.head _))
    · exact LamX.TabS.nil (ht (c2, t2) (.tail _ (.head _)))
  · have TB1 := hT (c1, t1) (.head _)
    have TB2 := hT (c2, t2) (.tail _ (.head _))
    have D_whole0 : DefAt l.prog w K mg base CX0 1 "is_whole" ["value"] (spWhole0 C) := def_at A_whole0 (fun f fd F => ok_whole0 F T.toPTx) fun _ _ _ _ _ _ us hl => match us, hl with | [_], _ => rfl
    have D_needint : DefAt l.prog w K mg base (L2.CX l.prog w) 2 "need_integer" ["value"] (spNeed C CP) := def_at A_needint (fun f fd F => ok_needint F T.toPTx D_whole0) fun _ _ _ _ _ _ us hl => match us, hl with | [_], _ => rfl
    have D_wend : DefAt l.prog w K mg base CX0 1 "without_end" ["terms"] spWend := def_at A_wend (fun f fd F => ok_wend F T.toPTx) fun _ _ _ _ _ _ us hl => match us, hl with | [_], _ => rfl
    have D_termof : DefAt l.prog w K mg base CX0 1 "term_of" ["terms", "k"] (spTermof K) := def_at A_termof (fun f fd F => ok_termof F T.toPTx) fun _ _ _ _ _ _ us hl => match us, hl with | [_, _], _ => rfl
    have D_pen : DefAt l.prog w K mg base CX0 1 "_law_pen" ["_law_script"] (spPen K) := def_at A_pen (fun f fd F => ok_pen F T.toBI) fun _ _ _ _ _ _ us hl => match us, hl with | [_], _ => rfl
    have D_draw : DefAt l.prog w K mg base CX0 1 "_law_draw" ["_law_pen_here", "_law_many"] spDrawC := def_at A_draw (fun f fd F => ok_drawC F T.toBI) fun _ _ _ _ _ _ us hl => match us, hl with | [_, _], _ => rfl
    have M_Poly : MakeR l.prog w K mg base (L2.CX l.prog w) 3 "Poly" C (spPoly C CB) := makeR_at A_pinit T.gP mk kp fun f _ _ _ _ _ _ _ _ _ lk hcd => ok_pinit (fd := PySem.W.fnOf "" "" default [] default .none .none .none .none none .none .none) lk hcd T.toPTx D_whole0 D_wend
    have K_of : ClsAt l.prog w K mg base (L2.CX l.prog w) 5 C "of" (spPof K C CB) := cls_at A_pof (fun f fd F => ok_pof F T.toPTx M_Poly) fun _ _ _ _ _ _ us hl => match us, hl with | [_, _], _ => rfl
    have D_pick : DefAt l.prog w K mg base CX0 2 "_law_pick" ["_law_pen_here", "_law_some"] spPickC := def_at A_pick (fun f fd F => ok_pickC F T.toBI D_draw) fun _ _ _ _ _ _ us hl => match us, hl with | [_, _], _ => rfl
    have D_ttext : DefAt l.prog w K mg base CX0 1 "term_text" ["term", "power"] spTtextE := def_at A_ttext (fun f fd F => ok_ttext F T.toPTx) fun _ _ _ _ _ _ us hl => match us, hl with | [_, _], _ => rfl
    have D_tstext : DefAt l.prog w K mg base CX0 2 "terms_text" ["terms"] spTstextE := def_at A_tstext (fun f fd F => ok_tstext F T.toPTx D_ttext) fun _ _ _ _ _ _ us hl => match us, hl with | [_], _ => rfl
    have CE_eq : CmpAt l.prog w K mg base CX0 1 C "__eq__" ["self", "other"] (spPeq C) := cmp_at A_peq (fun f fd F => ok_peq F T.toPTx) fun _ _ _ _ _ _ us hl => match us, hl with | [_, _], _ => rfl
    have ST_str : CmpAt l.prog w K mg base CX0 3 C "__str__" ["self"] (spPstrE C) := cmp_at A_pstr (fun f fd F => ok_pstr F T.toPTx D_tstext) fun _ _ _ _ _ _ us hl => match us, hl with | [_], _ => rfl
    have D_figof : DefAt l.prog w K mg base CX0 1 "figures_of" ["text"] (spWord TX.dg) := def_at A_figof (fun f fd F => ok_figof F T) fun _ _ _ _ _ _ us hl => match us, hl with | [_], _ => rfl
    have D_termread : DefAt l.prog w K mg base CX0 2 "term_read" ["word"] spTread := def_at A_termread (fun f fd F => ok_termread F T D_figof) fun _ _ _ _ _ _ us hl => match us, hl with | [_], _ => rfl
    have K_read : ClsAt l.prog w K mg base (L2.CX l.prog w) 6 C "read" (spPread C CT) := cls_at A_pread (fun f fd F => ok_pread F T D_termread M_Poly ST_str) fun _ _ _ _ _ _ us hl => match us, hl with | [_, _], _ => rfl
    have D_lterms : DefAt l.prog w K mg base CX0 3 "_law_terms" ["_law_pen_here"] spLterms := def_at A_lterms (fun f fd F => ok_lterms F T.toBI D_draw D_pick) fun _ _ _ _ _ _ us hl => match us, hl with | [_], _ => rfl
    have D_lline : DefAt l.prog w K mg base CX0 1 "_law_line" ["_law_terms_here"] spLline := def_at A_lline (fun f fd F => ok_lline F T) fun _ _ _ _ _ _ us hl => match us, hl with | [_], _ => rfl
    have D_bent : DefAt l.prog w K mg base CX0 3 "_law_bent" ["_law_pen_here", "_law_page"] spBent := def_at A_bent (fun f fd F => ok_bent F T.toBI D_draw D_pick) fun _ _ _ _ _ _ us hl => match us, hl with | [_, _], _ => rfl
    have DH : HeardAt K mg := ⟨⟨fh, fdh, Fh, hh, Fh.binds fun _ _ _ _ _ _ us hl => match us, hl with | [_], _ => rfl⟩⟩
    have un1 : ∀ p ∈ [(t1, (("_law_taken" : Str) ++ ".<locals>.") ++ "<lambda>"), (t2, (("law" : Str) ++ ".<locals>.") ++ "<lambda>")], p.1 = t1 → p.2 = (("_law_taken" : Str) ++ ".<locals>.") ++ "<lambda>" := by
      intro p hp e
      simp only [List.mem_cons, List.mem_nil_iff, or_false] at hp
      rcases hp with rfl | rfl
      · exact rfl
      · exact absurd e (Ne.symm _n1_2)
    have D_taken : DefG l.prog w K mg base CX0 11 "_law_taken" ["_law_page"] (spTaken [(t1, (("_law_taken" : Str) ++ ".<locals>.") ++ "<lambda>"), (t2, (("law" : Str) ++ ".<locals>.") ++ "<lambda>")]) := ⟨f_1, _, ok_taken ⟨⟨oc_1, od_1, kV_1, dc_1, pm_1, an_1, ct_1, sl_1, rfl, l_1, d_1⟩, k_1⟩ T TH DH TB1 (.head _) un1 K_read ST_str, m_1, k_1, .all fun us hl => match us, hl with | [_], _ => rfl⟩
    have un2 : ∀ p ∈ [(t1, (("_law_taken" : Str) ++ ".<locals>.") ++ "<lambda>"), (t2, (("law" : Str) ++ ".<locals>.") ++ "<lambda>")], p.1 = t2 → p.2 = (("law" : Str) ++ ".<locals>.") ++ "<lambda>" := by
      intro p hp e
      simp only [List.mem_cons, List.mem_nil_iff, or_false] at hp
      rcases hp with rfl | rfl
      · exact absurd e _n1_2
      · exact rfl
    exact ok_law ⟨⟨oc_2, od_2, kV_2, dc_2, pm_2, an_2, ct_2, sl_2, rfl, l_2, d_2⟩, k_2⟩ T TH DH ne0 TB2 (.tail _ (.head _)) un2 D_pen D_lterms D_lline D_bent D_taken M_Poly K_of K_read CE_eq ST_str
end My
open PySem PySem.W PyProof.Rows
set_option maxRecDepth 100000 in
set_option maxHeartbeats 0 in
theorem PySem.Challenge.cw_clipfades_k09_polys_read_holds : PySem.Challenge.rw_clipfades_k09_polys_read.Holds := by
  w_on; o_law; k_head; (case hw => w_witness2)
  k_fill
  refine My.walk_G (l := PySem.Challenge.rw_clipfades_k09_polys_read) (n := 63) (k := 13) (x := "_law_script") rfl (by decide) rfl ⟨rfl, by decide, by decide⟩ (fun w h Y => by first | exact PySem.W.km_in_of Y | exact PySem.W.kIn_of Y) ?F
  case F =>
    intro w mg fa h Y KX G hmg tf
    have bi : My.BI mg := ⟨mg_none_of KX G (by k_is), mg_none_of KX G (by k_is), mg_none_of KX G (by k_is), mg_none_of KX G (by k_is), mg_none_of KX G (by k_is), mg_none_of KX G (by k_is), mg_none_of KX G (by k_is), mg_none_of KX G (by k_is)⟩
    refine' My.all_mk hmg ?gP ?gB ?gPl ?gI ?gE ?iCB ?iCP ?iCI ?gT ?gM ?gD ?iT ?T ?mk ?kp ?A_pinit ?A_pof ?A_whole0 ?A_needint ?A_wend ?A_termof ?A_pen ?A_draw ?A_pick ?TH ?ne0 ?A_peq ?A_pstr ?A_pread ?A_ttext ?A_tstext ?A_figof ?A_termread ?A_heard ?A_lterms ?A_lline ?A_bent ?A_taken ?p1 ?q1 ?T1 ?A_law ?p2 ?q2 ?T2 ?n1_2
    case gP => exact mg_of KX G (by k_is)
    case gB => exact mg_of KX G (by k_is)
    case gPl => exact mg_of KX G (by k_is)
    case gI => exact mg_of KX G (by k_is)
    case gE => exact mg_of KX G (by k_is)
    case iCB => k_is
    case iCP => k_is
    case iCI => k_is
    case gT => exact mg_of KX G (by k_is)
    case gM => exact mg_of KX G (by k_is)
    case gD => exact mg_of KX G (by k_is)
    case iT => k_is
    case T => exact ⟨⟨bi, ⟨by k_is, by k_is, by k_is, by k_is⟩, show PySem.W.findIn _ (.ref _) "terms" = some none by k_is, show PySem.W.findIn _ (.ref _) "degree" = some none by k_is, mg_of KX G (by k_is), by k_is, by k_is, by k_is, by k_is, by kernel_rfl,
      ⟨mg_of KX G (by k_is), ⟨⟨_, _, _, _, _, _, _, _, _, _, _, _, _, _, _, by k_is, by decide⟩, by k_is, by k_is, by k_is, by k_is⟩, ⟨by k_is, by k_is, by k_is, by k_is⟩, by k_is, My.nm_at, by k_is, by k_is,
      ⟨_, _, _, _, _, _, _, _, _, _, _, _, _, _, _, _, _, _, _, _, _, _, by k_is, by k_is, ⟨_, _, _, by k_is⟩, _, _, _, _, _, _, by k_is, rfl, by decide +kernel, rfl⟩, by ks_is, by k_is, by k_is, mg_none_of KX G (by k_is), by k_is, by decide +kernel⟩, ⟨mg_of KX G (by k_is), ⟨⟨_, _, _, _, _, _, _, _, _, _, _, _, _, _, _, by k_is, by decide⟩, by k_is, by k_is, by k_is, by k_is⟩, ⟨by k_is, by k_is, by k_is, by k_is⟩, by k_is, My.nm_value, by k_is, by k_is,
      ⟨_, _, _, _, _, _, _, _, _, _, _, _, _, _, _, _, _, _, _, _, _, _, by k_is, by k_is, ⟨_, _, _, by k_is⟩, _, _, _, _, _, _, by k_is, rfl, by decide +kernel, rfl⟩, by ks_is, by k_is, by k_is, mg_none_of KX G (by k_is), by k_is, by decide +kernel⟩, ⟨mg_of KX G (by k_is), ⟨⟨_, _, _, _, _, _, _, _, _, _, _, _, _, _, _, by k_is, by decide⟩, by k_is, by k_is, by k_is, by k_is⟩, ⟨by k_is, by k_is, by k_is, by k_is⟩, by k_is, My.nm_value, by k_is, by k_is,
      ⟨_, _, _, _, _, _, _, _, _, _, _, _, _, _, _, _, _, _, _, _, _, _, by k_is, by k_is, ⟨_, _, _, by k_is⟩, _, _, _, _, _, _, by k_is, rfl, by decide +kernel, rfl⟩, by ks_is, by k_is, by k_is, mg_none_of KX G (by k_is), by k_is, by decide +kernel⟩, mg_none_of KX G (by k_is), mg_none_of KX G (by k_is), mg_none_of KX G (by k_is), by kernel_rfl, My.kinds7 (by kernel_rfl) (by k_is) (by kernel_rfl) (by k_is) (by kernel_rfl) (by k_is) (by kernel_rfl) (by k_is) (by kernel_rfl) (by k_is) (by kernel_rfl) (by k_is) (by kernel_rfl) (by k_is), by k_is⟩,
      ⟨mg_of KX G (by k_is), ⟨⟨_, _, _, _, _, _, _, _, _, _, _, _, _, _, _, by k_is, by decide⟩, by k_is, by k_is, by k_is, by k_is⟩, ⟨by k_is, by k_is, by k_is, by k_is⟩, by k_is, by k_is, My.nm2_line_word, by k_is, by k_is,
      ⟨_, _, _, _, _, _, _, _, _, _, _, _, _, _, _, _, _, _, _, _, _, _, _, _, _, _, _, _, by k_is, by k_is, ⟨_, _, _, by k_is⟩, _, _, _, _, _, _, by k_is, rfl, by decide +kernel, rfl⟩, by ks_is, by k_is, by k_is, mg_none_of KX G (by k_is), by k_is, by decide +kernel⟩, mg_of KX G (by k_is), mg_of KX G (by k_is), mg_none_of KX G (by k_is), mg_none_of KX G (by k_is), by kernel_rfl⟩
    case mk => k_is
    case kp => k_is
    case A_pinit => exact ⟨_, _, by k_is, by k_is, L2.fun_mk (by k_is) (by k_is) (by k_is)⟩
    case A_pof => exact ⟨.type "type", _, _, _, ⟨by k_is, by k_is⟩, ⟨by k_is, ⟨_, by k_is⟩, by k_is⟩, L2.fun_mk (by k_is) (by k_is) (by k_is)⟩
    case A_whole0 => exact ⟨_, _, mg_of KX G (by k_is), L2.fun_mk (by k_is) (by k_is) (by k_is)⟩
    case A_needint => exact ⟨_, _, mg_of KX G (by k_is), L2.fun_mk (by k_is) (by k_is) (by k_is)⟩
    case A_wend => exact ⟨_, _, mg_of KX G (by k_is), L2.fun_mk (by k_is) (by k_is) (by k_is)⟩
    case A_termof => exact ⟨_, _, mg_of KX G (by k_is), L2.fun_mk (by k_is) (by k_is) (by k_is)⟩
    case A_pen => exact ⟨_, _, mg_of KX G (by k_is), L2.fun_mk (by k_is) (by k_is) (by k_is)⟩
    case A_draw => exact ⟨_, _, mg_of KX G (by k_is), L2.fun_mk (by k_is) (by k_is) (by k_is)⟩
    case A_pick => exact ⟨_, _, mg_of KX G (by k_is), L2.fun_mk (by k_is) (by k_is) (by k_is)⟩
    case TH => exact ⟨bi, mg_of KX G (by k_is), ⟨mg_of KX G (by k_is), ⟨⟨_, _, _, _, _, _, _, _, _, _, _, _, _, _, _, by k_is, by decide⟩, by k_is, by k_is, by k_is, by k_is⟩, ⟨by k_is, by k_is, by k_is, by k_is⟩, by k_is, by k_is, My.nm2_line_word, by k_is, by k_is,
      ⟨_, _, _, _, _, _, _, _, _, _, _, _, _, _, _, _, _, _, _, _, _, _, _, _, _, _, _, _, by k_is, by k_is, ⟨_, _, _, by k_is⟩, _, _, _, _, _, _, by k_is, rfl, by decide +kernel, rfl⟩, by ks_is, by k_is, by k_is, mg_none_of KX G (by k_is), by k_is, by decide +kernel⟩, by kernel_rfl⟩
    case ne0 => k_is
    case A_peq => exact ⟨_, _, by k_is, by k_is, L2.fun_mk (by k_is) (by k_is) (by k_is)⟩
    case A_pstr => exact ⟨_, _, by k_is, by k_is, L2.fun_mk (by k_is) (by k_is) (by k_is)⟩
    case A_pread => exact ⟨.type "type", _, _, _, ⟨by k_is, by k_is⟩, ⟨by k_is, ⟨_, by k_is⟩, by k_is⟩, L2.fun_mk (by k_is) (by k_is) (by k_is)⟩
    case A_ttext => exact ⟨_, _, mg_of KX G (by k_is), L2.fun_mk (by k_is) (by k_is) (by k_is)⟩
    case A_tstext => exact ⟨_, _, mg_of KX G (by k_is), L2.fun_mk (by k_is) (by k_is) (by k_is)⟩
    case A_figof => exact ⟨_, _, mg_of KX G (by k_is), L2.fun_mk (by k_is) (by k_is) (by k_is)⟩
    case A_termread => exact ⟨_, _, mg_of KX G (by k_is), L2.fun_mk (by k_is) (by k_is) (by k_is)⟩
    case A_heard => exact ⟨_, _, mg_of KX G (by k_is), L2.fun_mk (by k_is) (by k_is) (by k_is)⟩
    case A_lterms => exact ⟨_, _, mg_of KX G (by k_is), L2.fun_mk (by k_is) (by k_is) (by k_is)⟩
    case A_lline => exact ⟨_, _, mg_of KX G (by k_is), L2.fun_mk (by k_is) (by k_is) (by k_is)⟩
    case A_bent => exact ⟨_, _, mg_of KX G (by k_is), L2.fun_mk (by k_is) (by k_is) (by k_is)⟩
    case A_taken => exact ⟨_, _, _, _, _, _, _, _, _, mg_of KX G (by k_is), by k_is, by k_is, by k_is⟩
    (case p1 => k_is); (case q1 => rfl)
    case T1 => exact tf "_law_taken" _ _ (by decide +kernel) (by kernel_rfl) (by kernel_rfl)
    case A_law => exact ⟨_, _, _, _, _, _, _, _, _, mg_of KX G (by k_is), by k_is, by k_is, by k_is⟩
    (case p2 => k_is); (case q2 => rfl)
    case T2 => exact tf "law" _ _ (by decide +kernel) (by kernel_rfl) (by kernel_rfl)
    case n1_2 => decide
