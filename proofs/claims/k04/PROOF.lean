import PyProof.Rows.All
import Wide.All
import OpenK.AllK
import Wide.FinOn
import HandS.ForMost
import HandS.ForExc
import HandS.ExcInit
import HandS.ExcField
import HandS.Lambda
import HandS.IsInst
import KE.KExcIs
import PyProof.Rows.NestShow
import KE.KExcSuper
import HandS.Wide
import HandS.Star
import HandS.Defaults
import HandS.EndTab
import PyProof.ListMulRight
import KE.KOpsOwn
import KE.KCallOwn
import KE.KFmtOwn
import PyProof.InstNe
import HandS.ClsMeth
import HandS.TupLe
import HandS.MakeKwOnly
import HandS.MakeKw
import HandS.Small
import HandS.Style
import HandS.TupAny
import KE.GoesEnum
import KE.GoesMore
import KE.KTupTruth
import HandS.Codes
import HandS.List
import KE.DataEq
import HandS.FStr
import HandS.RaiseMore
import HandS.Dict
import HandS.Comp
import PyProof.ReprLen
import HandS.Walk
import HandS.Text
import HandS.MapJoin
import HandS.OwnEq
import HandS.TryOnly
import PyProof.StrOps2
import PySem.Challenge.RW_clipfades_k04_ratios_in_order_and_read
set_option Elab.async false
set_option linter.all false
set_option maxRecDepth 100000
set_option maxHeartbeats 4000000
/-! Rules of our own over the hand layer: defs whose guards are told (for repr), repr of data, an error kept behind its except suite. -/
namespace My
open PySem PySem.Spec PyProof.Rows L2
/-! ### a def that is run where no repr is under way -/
structure FnG (P : Program) (w : World) (K : PySem.W.Frag) (mg : Str → Option Value) (base : Heap) (CX : CXT) (k : Nat) (f : Addr) (fd : FuncData) (ps : List Str) (sp : Sp) : Prop where
  len : ∀ vs H Q E, sp vs H Q E → vs.length = ps.length
  run : ∀ (A : Around) (outer : List Env) (s : Shared) (H : Hp) (args : Args) (us : List Value) (vs : List V) (Q : VK) (E : XK), A.guards = some [] → Room k A → Env0 P w K mg base A outer s H → BindsTo s fd args (ps.zip us) → Vals vs us → sp vs H Q E →
    codeAny (model P w) A (.call (.ref f) args) (CR CX outer P w H s Q E) s
section
variable {P : Program} {w : World} {K : PySem.W.Frag} {mg : Str → Option Value} {base : Heap}
theorem okG {x qual : Str} {st : Stmt} {f : Addr} {fd : FuncData} {N ps : List Str} {k : Nat} {sp : Sp} (F : Fun K x qual st f fd) (S : FnScope N ps (defScope st)) (len : ∀ vs H Q E, sp vs H Q E → vs.length = ps.length)
    (hbody : ∀ (cdv : Value) (A : Around) (outer : List Env) (s : Shared) (H : Hp) (vs : List V) (Q : VK) (E : XK), K.lookup f ≠ none → A.guards = some [] → Room k (A.deeper (envOfC qual (defScope st) s.heap.objs.size f cdv)) → sp vs H Q E →
      ∃ t, PSs (cxOf CX0 P w K mg base N qual (defScope st) f cdv A outer s H E).nox (defBody st) t ∧ t { nx := fun _ H' => Q .non H', rt := Q } (start N vs) H) : FnG P w K mg base CX0 (k + 1) f fd ps sp := by
  obtain ⟨oc, od, kV, doc, pm, an, cdv, ct, osl, rfl, lk, hcd⟩ := F.ex
  refine ⟨len, fun A outer s H args us vs Q E hg hr e0 hb r hsp => LamX.run_ofS lk hcd S hr e0 hb r (len _ _ _ _ hsp) fun hr' => ?_⟩
  obtain ⟨t, h, q⟩ := hbody cdv A outer s H vs Q E (by rw [lk]; exact fun z => nomatch z) hg hr' hsp
  exact ⟨t, h.nox, q⟩
end
section
variable {X : Cx} {CX : CXT} {k : Nat} {f : Addr} {fd : FuncData} {ps : List Str} {sp : Sp} {E : XK} {x : Str} {e : Expr} {es : List Expr} {t : TA} {p pos : Pos} {ds : List Value} {dvs : List V}
/-- x(e, ..) -/
theorem pe_callG (F : FnG X.prog X.w X.K X.mg X.base CX k f fd ps sp) (hgd : X.A.guards = some []) (hr : Room k X.A) (hg : Gl X x) (hm : X.mg x = some (.ref f)) (hk : PySem.W.keepIn X.K (.ref f) = true) (hb : Binds X.K fd ps []) (hx : Passes CX X E)
    (ha : PA X (e :: es) t) (hdb : (x == ("__debug__" : Str)) = false := by decide) (hs : starEach (e :: es) X.env = (false, eval e X.env) :: starEach es X.env := by rfl) (hpl : (backTo pos (starEach es X.env)).any (·.1) = false := by rfl) :
    PE X (.Call (.Name x p) (e :: es) [] pos) (tCall sp [] E t) := by
  refine ⟨fun pins s σ H Q I h => ?_⟩
  refine wpAny_Call_Name_kw (ld_glob I hg hm ?_ hdb)
  refine PySem.W.callWith_K (h₀ := X.base) I.ok.mod.kin hk (thn (ha.run pos pins s σ H _ I h) fun us s1 ⟨vs, H1, I1, r, q⟩ => ⟨I1.kIn, ?_⟩) hs hpl
  have q' : sp vs H1 Q E := by
    have z : sp (vs ++ []) H1 Q E := q
    rw [List.append_nil] at z
    exact z
  have hl : us.length = ps.length := by rw [← r.length]; exact F.len _ _ _ _ q'
  have hb' : BindsTo s1 fd ⟨us, []⟩ (ps.zip us) := by
    have z := hb s1 us I1.kIn (by rw [List.append_nil]; exact hl)
    rw [List.append_nil] at z
    exact z
  refine wpAny_call (codeAny_mono (F.run X.A X.stack s1 H1 ⟨us, []⟩ us vs Q E hgd hr I1.env0 hb' r q') fun res s2 hq => ?_)
  cases res with
  | error er => exact hx pins σ H1 s1 er s2 I1 hq
  | ok fl =>
    cases fl with
    | ret u => exact I1.after hq
    | next => exact False.elim hq
    | brk => exact False.elim hq
    | cont => exact False.elim hq
end
/-! ### repr of data -/
theorem sqt_same {K : PySem.W.Frag} {H H' : Hp} {a : Addr} {xs : List V} (e : Same H H') (h : SqT K H a xs) : SqT K H' a xs := by
  rcases h with (h | ⟨o, h⟩) | h
  · exact .inl (.inl (e _ _ h))
  · exact .inl (.inr ⟨o, e _ _ h⟩)
  · exact .inr h
/-- data that repr shows: as for ==, and the empty dict -/
def Dr (K : PySem.W.Frag) (H : Hp) (v : V) (d : PyData) : Prop := Dp K H v d ∨ (∃ a, v = .ref a ∧ d = .dict [] ∧ H a = some (.dK []))
mutual
theorem dp_same {K : PySem.W.Frag} {H H' : Hp} (k : Same H H') : ∀ (d : PyData) (v : V), Dp K H v d → Dp K H' v d
  | _, _, .non => .non
  | _, _, .bl b => .bl b
  | _, _, .int i => .int i
  | _, _, .str x => .str x
  | .list ds, _, .lst h ha => .lst (k.seq h) (dp_sameAll k ds _ ha)
  | .tuple ds, _, .tup h ha => .tup (sqt_same k h) (dp_sameAll k ds _ ha)
theorem dp_sameAll {K : PySem.W.Frag} {H H' : Hp} (k : Same H H') : ∀ (ds : List PyData) (vs : List V), DpAll K H vs ds → DpAll K H' vs ds
  | [], _, .nil => .nil
  | d :: ds, _, .cons h1 h2 => .cons (dp_same k d _ h1) (dp_sameAll k ds _ h2)
end
theorem dr_same {K : PySem.W.Frag} {H H' : Hp} {v : V} {d : PyData} (k : Same H H') (h : Dr K H v d) : Dr K H' v d := by
  rcases h with h | ⟨a, e1, e2, e3⟩
  · exact .inl (dp_same k d v h)
  · exact .inr ⟨a, e1, e2, k _ _ e3⟩
def rRepr (K : PySem.W.Frag) : List V → Hp → VK → Prop := fun xs H Q => ∃ (v : V) (d : PyData), xs = [v] ∧ Dr K H v d ∧ d.showable = true ∧ d.depth ≤ 60 ∧ d.shown.length ≤ sizeLine ∧ Q (.str d.shown) H
mutual
theorem noDict {K : PySem.W.Frag} {H : Hp} : ∀ (d : PyData) (v : V), Dp K H v d → d.hasDict = false
  | .none, _, _ => rfl
  | .bool _, _, _ => rfl
  | .int _, _, _ => rfl
  | .str _, _, _ => rfl
  | .list ds, _, h => by
    cases h with
    | lst _ ha => exact noDictAll ds _ ha
  | .tuple ds, _, h => by
    cases h with
    | tup _ ha => exact noDictAll ds _ ha
  | .dict _, _, h => by cases h
theorem noDictAll {K : PySem.W.Frag} {H : Hp} : ∀ (ds : List PyData) (vs : List V), DpAll K H vs ds → PyData.hasDictAll ds = false
  | [], _, _ => rfl
  | d :: ds, _, h => by
    cases h with
    | cons h1 h2 =>
      show (d.hasDict || PyData.hasDictAll ds) = false
      rw [noDict d _ h1, noDictAll ds _ h2]
      rfl
end
section
variable {X : Cx} {k : Nat}
theorem call_repr (hgd : X.A.guards = some []) (hr : Room k X.A) : CallR X (.builtin "repr") (rRepr X.K) := by
  intro pins s σ H xs us Q I r h
  obtain ⟨v, d, rfl, hd, hs, hdp, hz, q⟩ := h
  obtain ⟨u, rfl, r1⟩ := vals1 r
  have hu : X.A.units + (d.depth + 1) < cLine := by
    have := hr.units
    omega
  have fin : ∀ (h' : Heap) (t : Tok) (tk : Nat), (∀ b o, s.heap.get? b = some o → h'.get? b = some o) → EP X pins σ Q (.str d.shown t) { s with heap := h', toks := tk } :=
    fun h' t tk hk => ⟨.str d.shown, H, I.kept (t' := tk) hk, ⟨t, rfl⟩, q⟩
  rcases hd with hd | ⟨a, rfl, rfl, ha⟩
  · have hn := noDict d v hd
    obtain ⟨as, rd⟩ := Dp.reads I d v u hd r1
    cases hd with
    | non => cases (show u = Value.none from r1); exact PySem.P.repr_of_none (fin s.heap _ _ fun _ _ e => e)
    | bl b => cases (show u = Value.bool b from r1); exact PySem.P.repr_of_bool (fin s.heap _ _ fun _ _ e => e)
    | int i =>
      obtain ⟨t, e⟩ := (show ∃ t, u = Value.int i t from r1)
      cases e
      exact PySem.P.repr_of_int (of_decide_eq_true hs) (fin s.heap _ _ fun _ _ e => e)
    | str z =>
      obtain ⟨t, e⟩ := (show ∃ t, u = Value.str z t from r1)
      cases e
      exact PySem.P.repr_of_str (fin s.heap _ _ fun _ _ e => e) hz
    | @lst a xs ds _ _ =>
      cases (show u = Value.ref a from r1)
      exact repr_of_reads' rd hs (PyData.noDict_hsm hn) hgd hu (fun _ _ e => e) (fun h' t tk hk => fin h' t tk hk) hz
    | @tup a xs ds _ _ =>
      cases (show u = Value.ref a from r1)
      exact repr_of_reads' rd hs (PyData.noDict_hsm hn) hgd hu (fun _ _ e => e) (fun h' t tk hk => fin h' t tk hk) hz
  · cases (show u = Value.ref a from r1)
    obtain ⟨_, hne, vs, kv, o, es, ep, e1, e2, e3, e4⟩ := (show ObjOk X.prog X.w H s.heap a (.dK []) from I.hok a _ ha)
    cases kv
    have hes : es.toList = [] := by
      obtain ⟨_, pr, _⟩ := e4
      revert pr
      generalize es.toList = l
      intro pr
      cases pr
      rfl
    have rd : Reads s.heap (.ref a) (.dict []) (a :: [] ++ []) := .dict e1 e2.1 e3 (by rw [hes]; exact .nil) (by rw [hes]; exact .nil)
    exact repr_of_reads' rd hs (fun _ hm => by simp at hm; simp [hm] at hne) hgd hu (fun _ _ e => e) (fun h' t tk hk => fin h' t tk hk) hz
end
/-! ### an error that stands behind its except suite -/
/-- at a: an error of the class cls, its own dict at d -/
def ExA (cls : Value) (d : Option Addr) (a : Addr) : HO := .ext fun h => ∃ (oe : Obj) (vs : Array Value), h.get? a = some oe ∧ Zc cls d oe ∧ oe.data = .fields vs
theorem exA_ok {P : Program} {w : World} {H : Hp} {h : Heap} {a : Addr} {cls : Value} {d : Option Addr} {oe : Obj} {vs : Array Value} (e : h.get? a = some oe) (z : Zc cls d oe) (hd : oe.data = .fields vs) : ObjOk P w H h a (ExA cls d a) :=
  ⟨⟨oe, vs, e, z, hd⟩, ⟨oe, e⟩, fun _ _ ⟨o, v, q, r⟩ k => ⟨o, v, k o q, r⟩⟩
section
variable {X : Cx} {pins : List (Addr × Obj)} {σ : L2.St} {H : Hp} {s : Shared}
/-- an object of the heap that was not there at the entry, tracked from now on -/
theorem track {a : Addr} {o : HO} (I : Inv X pins σ H s) (h0 : X.s_0.heap.get? a = none) (na : H a = none) (nL : a ≠ X.env.locals) (nC : ∀ x c, X.env.cells.lookup x = some c → c ≠ a) (nP : ∀ p ∈ X.pn ++ pins, p.1 ≠ a)
    (new : ObjOk X.prog X.w (upd H a o) s.heap a o) : Inv X pins σ (upd H a o) s := by
  have ne0 : ∀ b ob, X.s_0.heap.get? b = some ob → b ≠ a := fun b ob e z => by rw [z, h0] at e; cases e
  refine ⟨I.ok, I.os, I.bare, ⟨I.base.keep, I.base.slot, fun b ob e n hx => ?_, I.base.there, fun b xs e => ?_, fun b ob u e => ?_, fun b ps e => ?_⟩, I.loc, I.cell, ?_, fun x c e => ?_, fun p hp => ?_, fun b u e => ?_, I.len⟩
  · rw [upd_ne (ne0 b ob e)]
    exact I.base.free b ob e n hx
  · have z := I.base.tups b xs e
    rw [upd_ne (ne_of_none z na)]
    exact z
  · have z := I.base.frzs b ob u e
    rw [upd_ne (ne_of_none z na)]
    exact z
  · obtain ⟨m, z⟩ := I.base.tbls b ps e
    exact ⟨m, by rw [upd_ne (ne_of_none z na)]; exact z⟩
  · rw [upd_ne (Ne.symm nL)]
    exact I.free
  · rw [upd_ne (nC x c e)]
    exact I.freeC x c e
  · obtain ⟨e, n, r⟩ := I.pin p hp
    exact ⟨e, by rw [upd_ne (nP p hp)]; exact n, r⟩
  · by_cases hb : b = a
    · subst hb
      rw [upd_same] at e
      cases e
      exact new
    · rw [upd_ne hb] at e
      exact (I.hok b u e).stay (fun _ _ _ q => q) (fun c q => by rw [upd_ne (ne_of_none q na)]; exact q) fun c xs q => by rw [upd_ne (ne_of_none q na)]; exact q
end
/-- the wish of «except c as n: y = n»: slot i is n's, slot j is y's -/
def wKeep (K : PySem.W.Frag) (c : Value) (i j n : Nat) (Wout : WX) (D : Ends) : WX := fun cls d σ H =>
  ∃ b, PySem.W.exmOne K cls c = some b ∧ (b = true → ∀ a, H a = none → σ.length = n → D.nx (((σ.set i (some (.ref a))).set j (some (.ref a))).set i none) (upd H a (ExA cls d a))) ∧ (b = false → Wout cls d σ H)
section
variable {X : Cx} {x n y : Str} {c : Value} {i j : Nat} {body : List Stmt} {np p1 p2 p3 pos pos' : Pos} {tb : WX → TS} {Wout : WX}
theorem ps_try_keep (hs : X.stack = X.env :: X.outer) (hf : X.env.frame = some X.env.locals) (hN : X.N.Nodup) (hi : X.N[i]? = some n) (hln : X.env.kindOf n = some .local) (hj : X.N[j]? = some y) (hly : X.env.kindOf y = some .local) (hex : X.ex = []) (hc : Names X x c) (tk : Takes X Wout)
    (hb : ∀ (W : WX) (pn : List (Addr × Obj)) (xe : Value → Shared → Prop), Takes (X.tr pn xe) W → PassesOwn (model X.prog X.w) X.A X.env xe → PSs (X.tr pn xe) body (tb W)) (hd1 : (n == ("__debug__" : Str)) = false := by decide) (hd2 : (n == ("__classdict__" : Str)) = false := by decide) :
    PS X (.Try body [.ExceptHandler (some (.Name x np)) (some n) [.Assign [.Name y p1] (.Name n p2) p3] pos'] [] [] pos) (fun D σ H => tb (wKeep X.K c i j X.N.length Wout D) D σ H) := by
  refine ⟨fun pins s σ H D I h => ?_⟩
  have ok := I.ok
  have hfr : X.A.frames = some (X.env :: X.outer) := by rw [ok.frames, hs]
  refine wpAny_Try_except ?_
  refine wpAny_mono ((hb (wKeep X.K c i j X.N.length Wout D) (X.pn ++ pins) (fun e t1 => wpAny (model X.prog X.w) X.A (noteFrame e X.env) (fun _ t2 => wpAny (model X.prog X.w) X.A (setFlight e none) (fun _ t3 =>
    wpAny (model X.prog X.w) X.A (handleBy e X.env [.ExceptHandler (some (.Name x np)) (some n) [.Assign [.Name y p1] (.Name n p2) p3] pos']) (SP X pins D) X.xe t3) X.xe t2) X.xe t1) (fun u s' xx => ?_) PassesOwn.looking).run [] s σ H D (I.toTry _) h) (fun fl t1 hsp => ?_) (fun _ _ he => he)
  · obtain ⟨a, B, sI, pins', σ1, H1, cls, d, rfl, J0, nb, up, sky, na, os, ag, b, hb1, hyes, hno⟩ := xx
    have J : Inv X pins σ1 H1 sI := J0.ofTry ok
    have sky' : Sky B (X.env :: X.outer) a (Zc cls d) X.env.locals s'.heap := by rw [← hs]; exact sky
    show wpAny (model X.prog X.w) X.A (noteFrame (.ref a) X.env) _ _ _
    refine Sky.land Zc.steady hfr hf sky' fun h3 fl3 up3 => ?_
    have J3 : Inv X pins σ1 H1 { s' with heap := h3 } := J.landed nb fl3.1 (up.trans up3) os ag
    obtain ⟨oe3, vs3, he3, hz3, hd3⟩ := fl3.there
    have nfr : a ∉ frs (X.env :: X.outer) := fun hm => by
      obtain ⟨_, o', e', hnf⟩ := fl3.2.2.1.mem hm
      rw [he3] at e'
      cases e'
      exact hnf _ hd3
    have nL : a ≠ X.env.locals := fun z => nfr (List.mem_filterMap.mpr ⟨X.env, List.mem_cons_self, by rw [hf, z]⟩)
    have nF : a ∉ X.fs := fun hm => by
      obtain ⟨e1, he1, q1⟩ := List.mem_filterMap.mp hm
      exact nfr (List.mem_filterMap.mpr ⟨e1, List.mem_cons_of_mem _ he1, q1⟩)
    -- the error was not there at the entry, and is no pin
    have Ba : B.get? a = none := fl3.2.1
    have sIa : sI.heap.get? a = none := by
      cases z : sI.heap.get? a with
      | none => rfl
      | some o =>
        have y := nb a o z (by rw [hs]; exact nfr)
        rw [Ba] at y
        cases y
    have s0a : X.s_0.heap.get? a = none := by
      cases z : X.s_0.heap.get? a with
      | none => rfl
      | some o =>
        obtain ⟨o', y⟩ := J.base.there a o z (by rw [hex]; exact fun w => nomatch w)
        rw [sIa] at y
        cases y
    have nPin : ∀ p ∈ X.pn ++ pins, p.1 ≠ a := fun p hp z => by
      have y := (J.pin p hp).1
      rw [z, sIa] at y
      cases y
    have S3 := J3.suite he3 hd3 na nL nF
    refine wpAny_handleBy_cons (codeAny_handlers_test ?_) (by intro q; cases q)
    have LT : PySem.W.Looks (model X.prog X.w) h3 (typeOf (.ref a)) cls := fun A Q E s k q => wpAny_typeOf_ref (k _ _ he3) (by rw [hz3.1]; exact q)
    have LM := PySem.W.exm_one (M := model X.prog X.w) (J3.kIn) LT hb1
    have test : ∀ {Q : Value → Shared → Prop} {E : Value → Shared → Prop}, Q c { s' with heap := h3 } → wpAny (model X.prog X.w) (X.A.mark (some (.ref a))) (eval (.Name x np) X.env) Q E { s' with heap := h3 } := fun {Q E} q => by
      obtain ⟨hg, hdbg, hm | ⟨hm, hv, hnn⟩⟩ := hc
      · exact ld_glob (X := X.suite a ((a, oe3) :: (X.pn ++ pins))) S3 hg hm q hdbg
      · exact ld_blt (X := X.suite a ((a, oe3) :: (X.pn ++ pins))) S3 hg hm hv q hnn hdbg
    refine test (LM.here ?_)
    cases b with
    | true =>
      refine codeAny_handlers_suite_as ?_
      refine HandSPX.lands_againZ fl3 fun h4 fl4 up4 => ?_
      have J4 : Inv X pins σ1 H1 { s' with heap := h4 } := J.landed nb fl4.1 ((up.trans up3).trans up4) os ag
      obtain ⟨oe4, vs4, he4, hz4, hd4⟩ := fl4.there
      have S4 := J4.suite he4 hd4 na nL nF
      refine store_ok (X := X.suite a ((a, oe4) :: (X.pn ++ pins))) (v := .ref a) S4 hN hi (.inl hln) rfl (fun s5 S5 => ?_) (.inr hln)
      have suite : PSs (X.suite a ((a, oe4) :: (X.pn ++ pins))) [.Assign [.Name y p1] (.Name n p2) p3] (tAsg (tVar i) (gName j)) :=
        pss_one (ps_asg (pe_var (i := i) hi (.inl hln) hd1 hd2) (pg_name (i := j) hN hj (.inl hly) (hf := .inr hly)))
      have hlen : i < σ1.length := by
        rw [J.len]
        exact (List.getElem?_eq_some_iff.mp hi).1
      refine wpAny_mono (suite.run [] s5 _ H1 { nx := fun σ' H' => σ' = (σ1.set i (some (.ref a))).set j (some (.ref a)) ∧ H' = H1, rt := fun _ _ => False } S5 ⟨.ref a, by rw [List.getElem?_set_self hlen], rfl, rfl⟩) (fun fl s6 hsp => ?_) (fun _ _ z => False.elim z)
      cases fl with
      | next =>
        obtain ⟨σ6, H6, S6, eσ, eH⟩ := hsp
        subst eσ
        subst eH
        refine gone_ok (X := X.suite a ((a, oe4) :: (X.pn ++ pins))) S6 hN hi hln fun s7 S7 => ?_
        have ha7 : s7.heap.get? a = some oe4 := (S7.pin (a, oe4) (List.mem_append_left _ List.mem_cons_self)).1
        have J7 := S7.unsuite ok
        have nC : ∀ (x : Str) (c : Addr), X.env.cells.lookup x = some c → c ≠ a := fun x c e z => by
          obtain ⟨v, o, ho, hdc⟩ := J7.cell x c e
          rw [z, ha7] at ho
          cases ho
          rw [hd4] at hdc
          cases hdc
        exact ⟨_, _, track J7 s0a na nL nC nPin (exA_ok ha7 hz4 hd4), hyes rfl a na J.len⟩
      | brk => obtain ⟨_, _, _, z⟩ := hsp; exact z.elim
      | cont => obtain ⟨_, _, _, z⟩ := hsp; exact z.elim
      | ret u => obtain ⟨_, _, _, _, _, z⟩ := hsp; exact z.elim
    | false =>
      show wpAny _ X.A (handleBy (.ref a) X.env []) _ _ _
      refine wpAny_handleBy_nil ?_
      obtain ⟨w1, w2, w3, oe, vs, T, oT, ts', he, hz, hdd, h1, hr⟩ := id fl3
      unfold PySem.passOn
      refine wpAny_bind (wpAny_field he hdd h1 ?_)
      rw [if_neg (show ¬ ((Value.ref T == Value.none) = true) from by simp)]
      have fin : wpAny (model X.prog X.w) X.A (setFlight (.ref a) X.env.frame) (fun _ s4 => wpAny (model X.prog X.w) X.A (throw (.ref a) : Sem Flow) (SP X pins D) X.xe s4) X.xe { s' with heap := h3 } := by
        rw [hf]
        refine HandSPX.setFlight_upZ fl3 fun h4 hh4 up4 => wpAny_throw (tk _ _ ?_)
        exact ⟨a, B, sI, pins, σ1, H1, cls, d, rfl, J, nb, (up.trans up3).trans up4, .inr (.inr (by rw [hs]; exact hh4)), na, os, ag, hno rfl⟩
      first
        | exact wpAny_bind (wpAny_pure (wpAny_bind fin))
        | exact wpAny_bind fin
  · cases fl with
    | next =>
      obtain ⟨σ', H', J', q⟩ := hsp
      exact wpAny_execs_nil ⟨σ', H', J'.ofTry ok, q⟩
    | brk =>
      obtain ⟨σ', H', J', q⟩ := hsp
      exact ⟨σ', H', J'.ofTry ok, q⟩
    | cont =>
      obtain ⟨σ', H', J', q⟩ := hsp
      exact ⟨σ', H', J'.ofTry ok, q⟩
    | ret u =>
      obtain ⟨v, σ', H', J', r, q⟩ := hsp
      exact ⟨v, σ', H', J'.ofTry ok, r, q⟩
end
/-! ### isinstance and fields of such an error -/
structure ExcK (K : PySem.W.Frag) (C : Addr) : Prop where
  cl : (PySem.W.clsIn K C).isSome = true
  ga : PySem.W.findIn K (.ref C) "__getattribute__" = some (some (.builtin "BaseException.__getattribute__"))
  gg : PySem.W.findIn K (.ref C) "__getattr__" = some none
  sb : PySem.W.subIn K (.ref C) (.type "BaseException") = some true
  ha : PySem.W.findIn K (.ref C) "__class__" = some (some (.builtin "object.__class__"))
  hn : PySem.W.specialIn K (.builtin "object.__class__") "__get__" = some (some (.builtin "getset_descriptor.__get__"))
  ht : PySem.W.takesIn K (.builtin "object.__class__") = some true
  hm : PySem.W.mroIn K C (.type "object") = some true
/-- isinstance(e, D) -/
def rIsA (K : PySem.W.Frag) : List V → Hp → VK → Prop := fun xs H Q => ∃ (a C d : Addr) (fs : List (Str × V)) (c : V) (cv : Value) (b : Bool), xs = [.ref a, c] ∧ ClsV c cv ∧ ExcK K C ∧ H a = some (ExA (.ref C) (some d) a) ∧ H d = some (.xd fs) ∧ PySem.W.kitOne K (.ref C) cv = some b ∧ Q (.bl b) H
section
variable {X : Cx} {pins : List (Addr × Obj)} {σ : L2.St} {H : Hp} {s : Shared}
theorem exA_at {a C d : Addr} {fs : List (Str × V)} (I : Inv X pins σ H s) (ha : H a = some (ExA (.ref C) (some d) a)) (hd : H d = some (.xd fs)) :
    ∃ (oe od : Obj) (mA : Str → Option Value), PySem.W.InstAt s.heap a oe C (some od) ∧ (∀ name, PySem.W.lookIn name od = some (mA name)) ∧ ∀ f, RelO (fs.lookup f) (mA f) := by
  obtain ⟨⟨oe, vs, ho, hz, hdat⟩, _, _⟩ := I.hok a _ ha
  obtain ⟨mA, hns, hr⟩ := (show ObjOk X.prog X.w H s.heap d (.xd fs) from I.hok d _ hd)
  obtain ⟨od, hod, hl⟩ := lookIn_ns hns
  exact ⟨oe, od, mA, ⟨ho, hz.1, by unfold PySem.W.notCls; rw [hdat] <;> rfl, by rw [hz.2]; exact hod⟩, hl, hr⟩
theorem call_isA : CallR X (.builtin "isinstance") (rIsA X.K) := by
  intro pins s σ H xs us Q I r h
  obtain ⟨a, C, d, fs, c, cv, b, rfl, k, T, ha, hd, e, q⟩ := h
  obtain ⟨u1, u2, rfl, r1, r2⟩ := vals2 r
  cases (show u1 = Value.ref a from r1)
  have e2 := k.eq r2
  subst e2
  obtain ⟨oe, od, mA, J, _, _⟩ := exA_at I ha hd
  exact PySem.W.kia_one (PySem.W.kitx_exc T.cl T.ga T.gg T.sb T.ha T.hn T.ht T.hm) I.kIn J e (fun z => nomatch z) fun t => ⟨.bl b, H, I.tok t, rfl, q⟩
/-- e.f -/
def tXa (K : PySem.W.Frag) (f : Str) (te : TE) : TE := fun σ H Q => te σ H fun x H1 => ∃ (a C d : Addr) (fs : List (Str × V)) (v : V), x = .ref a ∧ H1 a = some (ExA (.ref C) (some d) a) ∧ H1 d = some (.xd fs) ∧ XfC K C ∧ PySem.W.findIn K (.ref C) f = some none ∧ fs.lookup f = some v ∧ Q v H1
theorem pe_xa {e : Expr} {te : TE} {n : Str} {pos : Pos} (he : PE X e te) (hb : attributeBase e n X.env (eval e X.env) = eval e X.env := by rfl) : PE X (.Attribute e n pos) (tXa X.K n te) := by
  refine ⟨fun pins s σ H Q I h => ?_⟩
  refine attr_of hb (thn (he.run pins s σ H _ I h) fun u s1 hh => ?_)
  obtain ⟨x, H1, I1, rx, a, C, d, fs, v, ex, ha, hd, T, hno, l, q⟩ := hh
  subst ex
  obtain rfl : u = Value.ref a := rx
  obtain ⟨oe, od, mA, J, hl, hr⟩ := exA_at I1 ha hd
  obtain ⟨u, hu, ru⟩ := RelO.some_of (v := v) (o := mA n) (by rw [← l]; exact hr n)
  exact HandSPX.exc_get I1.kIn J T.ga T.gg T.exC (PySem.W.findObj_own T.hdC hno rfl (by rw [hl, hu])) (handed_of ru) ⟨v, H1, I1.tok _, ru, q⟩
end
end My
/-! An own error class E(Base(ValueError)) whose __init__ says super().__init__(f) and self.f = f. -/
namespace Sup
open PySem PySem.W PySem.Calls PyProof.Rows PySem.HandSPX
def a1 (f : Str) (p1 p2 : Pos) : Arguments :=
  { posonlyargs := [], args := [{ arg := "self", annotation := none, pos := p1 }, { arg := f, annotation := none, pos := p2 }], vararg := none, kwonlyargs := [], kw_defaults := [], kwarg := none, defaults := [] }
def b1 (f : Str) (q1 q2 q3 q4 q5 q6 r1 r2 r3 r4 : Pos) : List Stmt :=
  [.Expr (.Call (.Attribute (.Call (.Name "super" q1) [] [] q2) "__init__" q3) [.Name f q4] [] q5) q6, .Assign [.Attribute (.Name "self" r1) f r2] (.Name f r3) r4]
def s1 (f : Str) : Scope :=
  { kind := .function, names := [(PySem.Str.ofString "self", .local), (f, .local), (PySem.Str.ofString "__class__", .free), (PySem.Str.ofString "super", .globalImplicit)], isGenerator := false, isCoroutine := false, more := [] }
/-- the field's name is no other name of the text -/
structure Nm (f : Str) : Prop where
  n1 : (f == ("self" : Str)) = false
  n2 : (("__class__" : Str) == f) = false
  n3 : (("super" : Str) == f) = false
  n4 : (f == ("__debug__" : Str)) = false
  bd : ∀ (qual : Str) (body : List Stmt) (doc pm : Value) (an : Option Addr) (cdv ct : Value) (cc : Addr) (p1 p2 : Pos) (a b : Value),
    bindArgs (ksFn "__init__" qual (a1 f p1 p2) body (s1 f) .none .none doc pm an cdv ct cc) ⟨[a, b], []⟩ = pure [(("self" : Str), a), (f, b)]
/-- what the top has written of the class x, at C, and of its __init__, at fI -/
structure Err1 (prog : Program) (K : Frag) (mg : Str → Option Value) (x f : Str) (C fI : Addr) : Prop where
  gC : mg x = some (.ref C)
  ox : L2.OexC K C
  rd : L2.XfC K C
  nf : findIn K (.ref C) f = some none
  nm : Nm f
  iC : findIn K (.ref C) "__init__" = some (some (.ref fI))
  tI : typeIn K (.ref fI) = some (.type "function")
  fn : ∃ (qual : Str) (oc : Value) (od : Option Addr) (doc pm : Value) (an : Option Addr) (cda : Addr) (ct : Value) (cc : Addr) (osl : Array (Option Value)) (p1 p2 q1 q2 q3 q4 q5 q6 r1 r2 r3 r4 : Pos),
    K.lookup fI = some ⟨oc, od, .func (ksFn "__init__" qual (a1 f p1 p2) (b1 f q1 q2 q3 q4 q5 q6 r1 r2 r3 r4) (s1 f) .none .none doc pm an (.ref cda) ct cc), osl⟩ ∧ codeIn K (.ref cda) qual = true ∧
    (∃ cl cld csl, K.lookup cc = some ⟨cl, cld, .cell (some (.ref C)), csl⟩) ∧ ∃ ccl cdd vs ccs file tf, K.lookup cda = some ⟨ccl, cdd, .fields vs, ccs⟩ ∧ vs[2]? = some (.str file tf) ∧ ((prog.main.file : Str) == file) = true ∧ (q3.endLine == q5.line) = true
  su : ks_superIn K C C "__init__" = some (some (.builtin "ValueError.__init__"))
  sV : subIn K (.ref C) (.type "ValueError") = some true
  sC : mroIn K C (.ref C) = some true
  gS : mg "super" = none
  oq : nsIn K cStatics "thirdparty.any" = some none
  top : (prog.main.scope.names.lookup ("super" : Str)).isSome = false
/-- what __init__ leaves of a fresh exception at x -/
structure End1 (h h' : Heap) (f : Str) (x C dx t1 : Addr) (v : Value) : Prop where
  keep : ∀ b o, b ≠ x → h.get? b = some o → h'.get? b = some o
  obj : h'.get? x = some { cls := .ref C, dict := some dx, data := .fields #[.ref t1, .none, .none, .none, .bool false, .none] }
  dbig : h.objs.size ≤ dx
  dne : dx ≠ x
  ns : h'.Ns1 dx (fun y => if y = f then some v else none)
theorem lk2 {f : Str} (N : Nm f) : (s1 f).names.lookup f = some .local := by
  simp only [s1, List.lookup, N.n1, beq_self_eq_true]
theorem lk3 {f : Str} (N : Nm f) : (s1 f).names.lookup ("__class__" : Str) = some .free := by
  have e : (("__class__" : Str) == ("self" : Str)) = false := by decide +kernel
  have e2 : (("__class__" : Str) == ("__class__" : Str)) = true := by decide +kernel
  simp only [s1, List.lookup, N.n2, e, e2]
theorem lk4 {f : Str} (N : Nm f) : (s1 f).names.lookup ("super" : Str) = some .globalImplicit := by
  have e : (("super" : Str) == ("self" : Str)) = false := by decide +kernel
  have e2 : (("super" : Str) == ("__class__" : Str)) = false := by decide +kernel
  have e3 : (("super" : Str) == ("super" : Str)) = true := by decide +kernel
  simp only [s1, List.lookup, N.n3, e, e2, e3]
theorem meth_eq {o : Expr} {name f : Str} {q3 q4 q5 : Pos} {env : Env} (hp : (q3.endLine == q5.line) = true) :
    eval (.Call (.Attribute o name q3) [.Name f q4] [] q5) env = (do
      let ov ← attributeBase o name env (eval o env)
      standAt q3.atName
      let (g, first) ← holding [ov] (getMethod ov name (do return (← importBound o env).getD true))
      callWith q5 g first (backTo q5 (starEach [.Name f q4] env)) []) := by
  rw [arm_eval_Call]
  have hf : methodCallForm ([Expr.Name f q4].length + ([] : List Keyword).length) (backTo q5 (starEach [.Name f q4] env)) (backToKw q5 (keywordEach [] env)) = true := rfl
  have e : ∀ ov, methodCall o name q3 q5 env ov ([Expr.Name f q4].length + ([] : List Keyword).length) (backTo q5 (starEach [.Name f q4] env)) (backToKw q5 (keywordEach [] env)) = (do
      let (g, first) ← holding [ov] (getMethod ov name (do return (← importBound o env).getD true))
      callWith q5 g first (backTo q5 (starEach [.Name f q4] env)) []) := fun ov => by
    unfold methodCall
    rw [hf]
    unfold calleeOf methodCallPos
    simp only [hp, Bool.not_true, Bool.false_or, if_true]
    rfl
  simp only [e]
section
variable {prog : Program} {w : World} {A : Around} {E : Value → Shared → Prop} {R : Result → Shared → Prop} {s : Shared} {K : Frag} {mg : Str → Option Value} {x f : Str} {C fI : Addr}
/-- the bound ValueError.__init__ called -/
theorem call_mw {h : Heap} {g : Array GenState} {d : Drawn} {t : Nat} {os : OsState} {u e t0 : Addr} {rest : List Value} {Q : Value → Shared → Prop} {nm q : Str} {N : Addr} {bs bm : List Value} {hdct : Bool} {sn : List Str} {sub : List Value} {ab : Bool} {col : Option Bool} {dd : Option Addr} {k0 k1 k2 k3 k5 : Option Value}
    (hC : h.get? C = some (excClassObj nm q C N bs bm hdct sn sub ab col dd k0 k1 k2 k3 k5 "ValueError.__new__")) (he : h.get? e = some (excO C t0)) (hu : h.get? u = some (kxs_mw "ValueError.__init__" e)) (hz : rest.length ≤ sizeLine)
    (hq : ∀ h' t1, (∀ b o, b ≠ e → h.get? b = some o → h'.get? b = some o) → h'.get? e = some (excO C t1) → Q .none ⟨h', g, d, t, os⟩) :
    wpAny (model prog w) A (call (.ref u) rest) Q E ⟨h, g, d, t, os⟩ := by
  refine wpAny_call (codeAny_of_tree ?_)
  show wpAny _ A.in1 (callAny (.ref u) ⟨rest, []⟩) _ _ _
  simp only [callAny]
  refine wpAny_bind (wpAny_load hu ?_)
  simp only [kxs_mw, show (Value.type "method-wrapper" == Value.type "method" || Value.type "method-wrapper" == Value.type "builtin_function_or_method" || Value.type "method-wrapper" == Value.type "method-wrapper") = true by decide, if_true]
  refine KFB.if_so (by decide) ?_
  refine wpAny_bind (check_bound_init F.excBase_ValueError.toExcCallFacts hC he rfl ?_)
  refine wpAny_bind (wpAny_pure (wpAny_pure ?_))
  refine ⟨plainId_quiet F.excBase_ValueError.init.plain _, codeAny_builtin F.excBase_ValueError.initEntry ?_⟩
  exact exc_init_tree (cls := .ref C) (t0 := t0) (dv := none) (c2 := .none) (c3 := .none) (b4 := .bool false) he hz fun h' k e' _ => hq h' _ k e'
theorem init1 (T : Err1 prog K mg x f C fI) {e t0 : Addr} {v : Value} (X : K.In s.heap) (hlim : s.heap.NoLimit) (hg : s.heap.Ns mainGlobals mg) (hb : ∃ mb, s.heap.Ns builtinsNs mb ∧ ∀ x : Str, x ≠ "__name__" → mb x = bootBuiltins x)
    (he : s.heap.get? e = some (excO C t0)) (hnx : K.lookup e = none) (hroom : A.depth < recursionLimit)
    (hq : ∀ h' tk dx t1, End1 s.heap h' f e C dx t1 v → R (.ok (.ret .none)) { s with heap := h', toks := tk }) :
    codeAny (model prog w) A (.call (.ref fI) ⟨[.ref e, v], []⟩) R s := by
  obtain ⟨qual, oc, od, doc, pm, an, cda, ct, cc, osl, p1, p2, q1, q2, q3, q4, q5, q6, r1, r2, r3, r4, ho, hcd, ⟨cl, cld, csl, hcell⟩, ccl, cdd, vs, ccs, file, tf, hcode, hvs, hfile, hqq⟩ := T.fn
  obtain ⟨nm, q, N, bs, bm, sn, sub, ab, col, dd, k0, k1, k2, k3, k5, hC, hbm⟩ := T.ox.cls
  obtain ⟨mb, hb1, hb2⟩ := hb
  have hcl : clsIn K C = some { name := nm, bases := bs, mro := .ref C :: bm, ns := N, qualname := q, hasDict := true, slotNames := sn, subclasses := sub, abstract := ab, collection := col, hasDel := false } := by unfold clsIn; rw [hC] <;> rfl
  have hloc : ∀ y ∈ [(("self" : Str), Value.ref e), (f, v)], (s1 f).names.lookup y.1 = some .local := fun y hy => by
    rcases List.mem_cons.mp hy with z | z
    · rw [z]; rfl
    · rw [List.mem_singleton.mp z]; exact lk2 T.nm
  have hsu : alongIn K "__init__" ((((Value.ref C :: bm) : List Value).dropWhile (· != .ref C)).drop 1) = some (some (.builtin "ValueError.__init__")) := by
    have z := T.su
    unfold ks_superIn at z
    rw [hcl] at z
    exact z
  refine ks_codeAny_call_defAt (fd := ksFn "__init__" qual (a1 f p1 p2) (b1 f q1 q2 q3 q4 q5 q6 r1 r2 r3 r4) (s1 f) .none .none doc pm an (.ref cda) ct cc) (binds := [("self", .ref e), (f, v)]) hroom (X _ _ ho) rfl hlim (codeRec_of X hcd) rfl (BindsTo.of_eq (T.nm.bd _ _ _ _ _ _ _ _ _ _ _ _))
    (by intro y hy; simp only [s1, List.mem_cons, List.mem_nil_iff, or_false] at hy; rcases hy with z | z | z | z <;> rw [z] <;> exact (fun w => nomatch w)) hloc (fun h1 hns kp => ?_)
  have X1 : K.In h1 := X.keeps kp
  have he1 := kp _ _ he
  have hC1 := X1 _ _ hC
  have hx0 : e ≠ C := fun z => by
    have y := X _ _ hC
    rw [← z, he] at y
    cases y
  have mself : ([(("self" : Str), Value.ref e), (f, v)].reverse.lookup ("self" : Str)) = some (.ref e) := by
    have e1 : (("self" : Str) == f) = false := by
      have z := T.nm.n1
      rw [Bool.eq_false_iff] at z ⊢
      intro y
      exact z (by rw [beq_iff_eq] at y ⊢; exact y.symm)
    simp only [List.reverse_cons, List.reverse_nil, List.nil_append, List.cons_append, List.lookup, e1, beq_self_eq_true]
  have mf : ([(("self" : Str), Value.ref e), (f, v)].reverse.lookup f) = some v := by
    simp only [List.reverse_cons, List.reverse_nil, List.nil_append, List.cons_append, List.lookup, beq_self_eq_true]
  show _root_.PySem.wpAt _ _ _ (execs (b1 f q1 q2 q3 q4 q5 q6 r1 r2 r3 r4) _) _ _ _
  unfold b1
  refine ks_wpAt_execs_cons (ks_wpAt_Expr_any (ks_wpAt_MethodCall (ks_wpAt_super_base (lk4 T.nm) (lk3 T.nm) (by decide +kernel) rfl (X1 _ _ ho) rfl rfl rfl (X1 _ _ hcode) rfl hvs hfile T.top ?_) (meth_eq hqq)))
  refine ks_loadName_global rfl (lk4 T.nm) (loadGlobal_builtin (hg.keeps kp) T.gS (hb1.keeps kp) ((hb2 _ (by decide +kernel)).trans (by decide +kernel : bootBuiltins "super" = some (.type "super"))) ⟨rfl, ?_⟩)
  refine wpAny_loadName_free rfl (lk3 T.nm) rfl ⟨_, X1 _ _ hcell, rfl⟩ ?_
  refine wpAny_loadName_local rfl rfl hns mself ?_
  refine ks_wpAny_isType_cls hC1 rfl ⟨rfl, ?_⟩
  refine ks_wpAny_call_super hC1 rfl he1 rfl (fun c z => nomatch z) (looks_mroIn X1 T.sC) (fun h2 hso k2 => ?_)
  have X2 : K.In h2 := X1.keeps k2
  have he2 := k2 _ _ he1
  have I2 : InstAt h2 e (excO C t0) C none := ⟨he2, rfl, rfl, trivial⟩
  refine kxs_getMethod kxs_ValueError hso (looks_opaque X2 T.oq) (l₀ := .ref C :: bm) (fun A Q E s k q => wpAny_bind ((looks_clsIn X2 hcl) A _ E s k (wpAny_pure q))) rfl X2 hsu (I2.type.andThen (looks_subIn X2 T.sV)) hx0 (by decide +kernel) ?_
  refine kxs_callWith (i := "ValueError.__init__") (x := e) rfl ?_
  have hns2 := hns.keeps k2
  refine evalArgs_plain (Calls.spliced_cons (ldc rfl (lk2 T.nm) (hns2.keeps fun b o z => Heap.get?_push_of_some _ z) mf (Calls.spliced_nil ⟨Heap.get?_push_size _ rfl, ?_⟩) T.nm.n4))
  have k3 : ∀ b o, h2.get? b = some o → (h2.push (kxs_mw "ValueError.__init__" e)).get? b = some o := fun b o z => Heap.get?_push_of_some _ z
  show wpAny _ _ (call (.ref h2.objs.size) [v]) _ _ _
  refine call_mw (X2.keeps k3 _ _ hC) (k3 _ _ he2) (Heap.get?_push_size _ rfl) (by rw [sizeLine_eq]; exact (by decide : 1 ≤ 16777216)) fun h4 t1 k4 he4 => ?_
  have kall : ∀ b o, b ≠ e → s.heap.get? b = some o → h4.get? b = some o := fun b o hb z => k4 b o hb (k3 b o (k2 b o (kp b o z)))
  have X4 : K.In h4 := fun a o z => kall a o (fun y => by rw [y, hnx] at z; cases z) (X a o z)
  have hL : s.heap.objs.size ≠ e := Nat.ne_of_gt (Heap.lt_size he)
  have hns4 : h4.Ns s.heap.objs.size (fun y => [(("self" : Str), Value.ref e), (f, v)].reverse.lookup y) := by
    obtain ⟨oL, es, ep, hoL, r⟩ := hns2
    exact ⟨oL, es, ep, k4 _ _ hL (k3 _ _ hoL), r⟩
  show _root_.PySem.wpAt _ _ _ (execs [.Assign [.Attribute (.Name "self" r1) f r2] (.Name f r3) r4] _) _ _ _
  refine wpAt_of_wpAny (wpAny_execs_cons (plainObj_wpAny_Assign_Attribute (ldc rfl (lk2 T.nm) hns4 mf (ldc rfl rfl hns4 mself ?_) T.nm.n4)))
  refine set_plain X4 (ox := excO C t1) (od := none) ⟨he4, rfl, rfl, trivial⟩ T.ox.sa ?_
  refine exc_osa X4 he4 hcl (show refsVE (.ref C :: bm) = true from hbm) rfl T.nf (fun h5 tk5 dx k5 dn dne hx5 hn5 => ?_)
  have z1 : s.heap.objs.size ≤ h1.objs.size := Nat.le_of_lt hns.lt
  refine wpAny_execs_nil (hq h5 tk5 dx t1 ⟨fun b o hb z => k5 b o hb (kall b o hb z), hx5, ?_, dne, hn5⟩)
  have z2 := hns4.lt
  exact Nat.le_trans (Nat.le_of_lt z2) dn
/-- a made error -/
structure Made1 (h h' : Heap) (f : Str) (e C d : Addr) (v : Value) : Prop where
  keep : ∀ b o, h.get? b = some o → h'.get? b = some o
  new : h.objs.size ≤ e
  obj : ∃ oe vs, h'.get? e = some oe ∧ oe.cls = .ref C ∧ oe.dict = some d ∧ oe.data = .fields vs ∧ vs[1]? = some .none
  dbig : h.objs.size ≤ d
  dne : d ≠ e
  ns : h'.Ns1 d (fun y => if y = f then some v else none)
theorem made1 (T : Err1 prog K mg x f C fI) {v : Value} (X : K.In s.heap) (hlim : s.heap.NoLimit) (hg : s.heap.Ns mainGlobals mg) (hb : ∃ mb, s.heap.Ns builtinsNs mb ∧ ∀ x : Str, x ≠ "__name__" → mb x = bootBuiltins x) (hroom : A.depth + 1 < recursionLimit)
    (hq : ∀ h' tk e d, Made1 s.heap h' f e C d v → R (.ok (.ret (.ref e))) { s with heap := h', toks := tk }) :
    codeAny (model prog w) A (.call (.ref C) ⟨[v], []⟩) R s := by
  obtain ⟨nm, q, N, bs, bm, sn, sub, ab, col, dd, k0, k1, k2, k3, k5, hC, hbm⟩ := T.ox.cls
  obtain ⟨hp, g, dr, tk, os⟩ := s
  have kp : ∀ b o, hp.get? b = some o → ((hp.push (kdv_tup [v])).push (excO C hp.objs.size)).get? b = some o := fun b o z => Heap.get?_push_of_some _ (Heap.get?_push_of_some _ z)
  have hget : ((hp.push (kdv_tup [v])).push (excO C hp.objs.size)).get? (hp.objs.size + 1) = some (excO C hp.objs.size) := by heap_get
  have hnx : K.lookup (hp.objs.size + 1) = none := by
    cases z : K.lookup (hp.objs.size + 1) with
    | none => rfl
    | some o => exact absurd (Nat.lt_of_succ_lt (Heap.lt_size (X _ _ z))) (Nat.lt_irrefl _)
  refine call_own F.excBase_ValueError (fun Y => refsVE_contains Y bm hbm) (X _ _ hC) (looks_findIn X T.iC) (fun self => bind_fn X self T.tI) (by rw [sizeLine_eq]; exact (by decide : 1 ≤ 16777216)) ?_
  obtain ⟨mb, hb1, hb2⟩ := hb
  refine init1 (s := ⟨(hp.push (kdv_tup [v])).push (excO C hp.objs.size), g, dr, tk, os⟩) T (X.keeps kp) (hlim.keeps kp) (hg.keeps kp) ⟨mb, hb1.keeps kp, hb2⟩ hget hnx ?_ fun h' tk' dx t1 ⟨k', hx, dn, dne, hns⟩ => ?_
  · show A.depth + 1 < recursionLimit
    exact hroom
  · have old : ∀ b o, hp.get? b = some o → h'.get? b = some o := fun b o z => k' b o (Nat.ne_of_lt (Nat.lt_succ_of_lt (Heap.lt_size z))) (kp b o z)
    have z : hp.objs.size + 1 + 1 ≤ dx := by
      have y := dn
      first
        | (rw [Heap.size_push, Heap.size_push] at y; exact y)
        | exact y
    exact ⟨rfl, hq h' tk' (hp.objs.size + 1) dx ⟨old, Nat.le_succ _, ⟨_, _, hx, rfl, rfl, rfl, rfl⟩, Nat.le_trans (Nat.le_trans (Nat.le_succ _) (Nat.le_succ _)) z, dne, hns⟩⟩
end
end Sup
namespace L2
open PySem PySem.Spec PyProof.Rows
theorem relO_one {v : V} {v' : Value} {f : Str} (r : RelV v v') (g : Str) : RelO (List.lookup g [(f, v)]) (if g = f then some v' else none) := by
  by_cases hw : g = f
  · rw [if_pos hw, hw]
    have z : List.lookup f [(f, v)] = some v := by simp [List.lookup]
    rw [z]
    exact r
  · rw [if_neg hw]
    have y : (g == f) = false := by simpa using hw
    have z : List.lookup g [(f, v)] = none := by simp [List.lookup, y]
    rw [z]
    trivial
section
variable {X : Cx} {C fI : Addr} {x f : Str}
/-- E(e) -/
def tMk1 (C : Addr) (f : Str) (ta : TA) : St → Hp → XK → Prop := fun σ H Q => ta σ H fun vs H1 => ∃ v, vs = [v] ∧ ∀ d, H1 d = none → Q (.ref C) (some d) (upd H1 d (.xd [(f, v)]))
theorem pmk_1 {a : Expr} {ta : TA} {p pos : Pos} {k : Nat} (T : Sup.Err1 X.prog X.K X.mg x f C fI) (hr : Room k X.A) (ha : PA X [a] ta) (hg : Gl X x := by rfl) (hdb : (x == ("__debug__" : Str)) = false := by decide)
    (hs : starEach (a :: []) X.env = (false, eval a X.env) :: starEach [] X.env := by rfl) (hpl : (backTo pos (starEach [] X.env)).any (·.1) = false := by rfl) :
    PMk X (.Call (.Name x p) [a] [] pos) (tMk1 C f ta) := by
  intro pins s σ H Q I h
  refine wpAny_Call_Name_kw (ld_glob I hg T.gC ?_ hdb)
  refine PySem.W.callWith_K (h₀ := X.base) I.ok.mod.kin T.ox.kC (thn (ha.run pos pins s σ H _ I h) fun us s1 hh => ?_) hs hpl
  obtain ⟨vs, H1, I1, r1, v, ev, q1⟩ := hh
  subst ev
  refine ⟨I1.kIn, ?_⟩
  cases r1 with
  | cons rv rn =>
    rename_i v' us'
    cases rn
    show wpAny _ _ (call (.ref C) [v']) _ _ _
    have hlim := I1.nolimit
    obtain ⟨mb, hb1, hb2⟩ := I1.mod.blt
    have bk1 := I1.bk
    have gl1 := I1.mod.glob
    obtain ⟨hp, g, dr, tk, os⟩ := s1
    refine wpAny_call (Sup.made1 T I1.kIn hlim (gl1.keeps bk1) ⟨mb, hb1.keeps bk1, hb2⟩ (by have := hr.dp; omega) fun h' tk' e d M => ?_)
    show MkP X pins σ Q (.ref e) ⟨h', g, dr, tk', os⟩
    obtain ⟨oe, fv, hoe, hc, hd, hdat, h1⟩ := M.obj
    have hns := M.ns
    obtain ⟨G', g1, g2⟩ := restrict h' fun b => decide (b ≠ e)
    have gk : ∀ b, b ≠ e → G'.get? b = h'.get? b := fun b hb => g1 b (decide_eq_true hb)
    have ge : G'.get? e = none := g2 e (by simp)
    have old : ∀ b o, hp.get? b = some o → G'.get? b = some o := fun b o z => (gk b (Nat.ne_of_lt (Nat.lt_of_lt_of_le (Heap.lt_size z) M.new))).trans (M.keep b o z)
    have ob : ObjOk X.prog X.w (upd H1 d (.xd [(f, v)])) G' d (.xd [(f, v)]) :=
      ⟨_, hns.at (fun o z => (gk d M.dne).trans z), fun y => relO_one rv y⟩
    have J : Inv X pins σ (upd H1 d (.xd [(f, v)])) ⟨G', g, dr, tk', os⟩ := I1.laid (t' := tk') old M.dbig ob
    refine ⟨e, oe, fv, ⟨G', g, dr, tk', os⟩, _, .ref C, some d, rfl, J, fun b o z => ?_, ge, hoe, ⟨hc, hd⟩, hdat, h1, ?_, rfl, I1.bare, raises_own T.ox.exC T.ox.tyC, q1 d (I1.hok.fresh M.dbig)⟩
    · by_cases hb : b = e
      · have z' : G'.get? b = some o := z
        rw [hb, ge] at z'; cases z'
      · exact (gk b hb).symm.trans z
    · rw [upd_ne (Ne.symm M.dne)]
      exact I1.hok.fresh M.new
/-- raise E(e) -/
def tRaise1 (C : Addr) (f : Str) (W : WX) (ta : TA) : TS := fun _ σ H => tMk1 C f ta σ H fun cls d H' => W cls d σ H'
theorem ps_raise1 {a : Expr} {ta : TA} {W : WX} {p pos pos2 : Pos} {k : Nat} (hc : X.calm = true) (T : Sup.Err1 X.prog X.K X.mg x f C fI) (hr : Room k X.A) (tk : Takes X W) (ha : PA X [a] ta) (hg : Gl X x := by rfl) (hdb : (x == ("__debug__" : Str)) = false := by decide)
    (hs : starEach (a :: []) X.env = (false, eval a X.env) :: starEach [] X.env := by rfl) (hpl : (backTo pos (starEach [] X.env)).any (·.1) = false := by rfl) :
    PS X (.Raise (some (.Call (.Name x p) [a] [] pos)) none pos2) (tRaise1 C f W ta) := ps_raise hc tk (pmk_1 T hr ha hg hdb hs hpl)
end
end L2
/-! Defs by name, the pen. -/
namespace My
open PySem PySem.Spec PyProof.Rows L2
/-- a def of the module that keeps its promise -/
structure DefAt (P : Program) (w : World) (K : PySem.W.Frag) (mg : Str → Option Value) (base : Heap) (CX : CXT) (k : Nat) (x : Str) (ps : List Str) (sp : Sp) : Prop where
  ex : ∃ f fd, FnOk P w K mg base CX k f fd ps sp ∧ mg x = some (.ref f) ∧ PySem.W.keepIn K (.ref f) = true ∧ L2.Binds K fd ps []
structure DefG (P : Program) (w : World) (K : PySem.W.Frag) (mg : Str → Option Value) (base : Heap) (CX : CXT) (k : Nat) (x : Str) (ps : List Str) (sp : Sp) : Prop where
  ex : ∃ f fd, FnG P w K mg base CX k f fd ps sp ∧ mg x = some (.ref f) ∧ PySem.W.keepIn K (.ref f) = true ∧ L2.Binds K fd ps []
section
variable {X : Cx} {CX : CXT} {k : Nat} {ps : List Str} {sp : Sp} {E : XK} {x : Str} {e : Expr} {es : List Expr} {t : TA} {p pos : Pos}
theorem pe_d (D : DefAt X.prog X.w X.K X.mg X.base CX k x ps sp) (hr : Room k X.A) (hg : Gl X x) (hx : Passes CX X E) (ha : PA X (e :: es) t) (hdb : (x == ("__debug__" : Str)) = false := by decide)
    (hs : starEach (e :: es) X.env = (false, eval e X.env) :: starEach es X.env := by rfl) (hpl : (backTo pos (starEach es X.env)).any (·.1) = false := by rfl) : PE X (.Call (.Name x p) (e :: es) [] pos) (tCall sp [] E t) := by
  obtain ⟨f, fd, F, m, hk, b⟩ := D.ex
  exact pe_call F hr hg m hk b .nil hx ha hdb hs hpl
theorem pe_dG (D : DefG X.prog X.w X.K X.mg X.base CX k x ps sp) (hgd : X.A.guards = some []) (hr : Room k X.A) (hg : Gl X x) (hx : Passes CX X E) (ha : PA X (e :: es) t) (hdb : (x == ("__debug__" : Str)) = false := by decide)
    (hs : starEach (e :: es) X.env = (false, eval e X.env) :: starEach es X.env := by rfl) (hpl : (backTo pos (starEach es X.env)).any (·.1) = false := by rfl) : PE X (.Call (.Name x p) (e :: es) [] pos) (tCall sp [] E t) := by
  obtain ⟨f, fd, F, m, hk, b⟩ := D.ex
  exact pe_callG F hgd hr hg m hk b hx ha hdb hs hpl
end
/-- a class of the module that is made by its __init__, some defaults filled up -/
structure MakeAt (P : Program) (w : World) (K : PySem.W.Frag) (mg : Str → Option Value) (base : Heap) (CX : CXT) (k : Nat) (x : Str) (C : Addr) (ps : List Str) (sp : Sp) (dvs : List V) : Prop where
  ex : ∃ f fd ds, Mk K C f ∧ FnOk P w K mg base CX k f fd ps sp ∧ mg x = some (.ref C) ∧ L2.Binds K fd ps ds ∧ Vals dvs ds
structure MethAt (P : Program) (w : World) (K : PySem.W.Frag) (mg : Str → Option Value) (base : Heap) (CX : CXT) (k : Nat) (C : Addr) (m : Str) (ps : List Str) (sp : Sp) : Prop where
  ex : ∃ f fd, Meth K C m f ∧ FnOk P w K mg base CX k f fd ps sp ∧ L2.Binds K fd ps []
/-- .. called with keywords alone: their names ks, gV puts them in the parameters' order -/
structure MethK (P : Program) (w : World) (K : PySem.W.Frag) (mg : Str → Option Value) (base : Heap) (CX : CXT) (k : Nat) (C : Addr) (m : Str) (ps ks : List Str) (sp : Sp) (gV : List V → List V → List V) : Prop where
  ex : ∃ f fd g, Meth K C m f ∧ FnOk P w K mg base CX k f fd ps sp ∧ KBn K fd ps 1 ks g gV
structure CallAt (P : Program) (w : World) (K : PySem.W.Frag) (mg : Str → Option Value) (base : Heap) (CX : CXT) (k : Nat) (C : Addr) (ps : List Str) (sp : Sp) : Prop where
  ex : ∃ f fd, StX.CallO K C f ∧ FnOk P w K mg base CX k f fd ps sp ∧ L2.Binds K fd ps []
section
variable {X : Cx} {CX : CXT} {k : Nat} {C : Addr} {ps ks : List Str} {sp : Sp} {E : XK} {x m : Str} {e o fe : Expr} {es : List Expr} {kws : List Keyword} {t tk : TA} {ta tf : TE} {p pos apos : Pos} {dvs : List V} {gV : List V → List V → List V}
theorem pe_mk (M : MakeAt X.prog X.w X.K X.mg X.base CX k x C ps sp dvs) (hr : Room (k + 1) X.A) (hg : Gl X x) (hx : Passes CX X E) (ha : PA X (e :: es) t) (hdb : (x == ("__debug__" : Str)) = false := by decide)
    (hs : starEach (e :: es) X.env = (false, eval e X.env) :: starEach es X.env := by rfl) (hpl : (backTo pos (starEach es X.env)).any (·.1) = false := by rfl) : PE X (.Call (.Name x p) (e :: es) [] pos) (tMake C sp dvs E t) := by
  obtain ⟨f, fd, ds, mk, F, hm, b, d⟩ := M.ex
  exact pe_make mk F hr hg hm b d hx ha hdb hs hpl
theorem pe_mt {pl : Sem Bool} (c : Cls X.K C) (M : MethAt X.prog X.w X.K X.mg X.base CX k C m ps sp) (hr : Room k X.A) (hx : Passes CX X E) (he : PE X o ta) (ha : PA X (e :: es) t)
    (hst : starEach (e :: es) X.env = (false, eval e X.env) :: starEach es X.env := by rfl) (hpl : (backTo pos (starEach es X.env)).any (·.1) = false := by rfl)
    (ht : eval (.Call (.Attribute o m apos) (e :: es) [] pos) X.env = (do
      let ov ← eval o X.env
      standAt apos.atName
      let (f, first) ← holding [ov] (getMethod ov m pl)
      callWith pos f first (backTo pos (starEach (e :: es) X.env)) (backToKw pos (keywordEach [] X.env))) := by rfl) :
    PE X (.Call (.Attribute o m apos) (e :: es) [] pos) (tMeth C m sp [] E ta t) := by
  obtain ⟨f, fd, hm, F, b⟩ := M.ex
  exact pe_meth he c hm F hr b .nil hx ha hst hpl ht
theorem pe_mt0 {pl : Sem Bool} (c : Cls X.K C) (M : MethAt X.prog X.w X.K X.mg X.base CX k C m ps sp) (hr : Room k X.A) (hx : Passes CX X E) (he : PE X o ta)
    (ht : eval (.Call (.Attribute o m apos) [] [] pos) X.env = (do
      let ov ← eval o X.env
      standAt apos.atName
      let (f, first) ← holding [ov] (getMethod ov m pl)
      callWith pos f first (backTo pos (starEach [] X.env)) (backToKw pos (keywordEach [] X.env))) := by rfl) :
    PE X (.Call (.Attribute o m apos) [] [] pos) (tMeth C m sp [] E ta tNil) := by
  obtain ⟨f, fd, hm, F, b⟩ := M.ex
  exact pe_meth0 he c hm F hr b .nil hx ht
/-- o.m(k = v, ..) -/
def tMethK (C : Addr) (m : Str) (j : Nat) (sp : Sp) (gV : List V → List V → List V) (E : XK) (ta : TE) (tk : TA) : TE := fun σ H Q => ta σ H fun x H1 => ∃ a dx fs, x = .ref a ∧ H1 a = some (.ins C dx fs) ∧ fs.lookup m = none ∧
  tk σ H1 fun zs H2 => zs.length = j ∧ sp (gV [.ref a] zs) H2 Q E
theorem pe_mtK {pl : Sem Bool} (c : Cls X.K C) (M : MethK X.prog X.w X.K X.mg X.base CX k C m ps ks sp gV) (hr : Room k X.A) (hx : Passes CX X E) (he : PE X o ta) (hkw : PK X kws tk)
    (hall : (backToKw pos (keywordEach kws X.env)).all (·.1.isSome) = true := by rfl) (hks : (backToKw pos (keywordEach kws X.env)).filterMap (·.1) = ks := by rfl)
    (hpl : ((backTo pos (starEach [] X.env)).any (·.1) || (backToKw pos (keywordEach kws X.env)).any (·.1.isNone)) = false := by rfl)
    (ht : eval (.Call (.Attribute o m apos) [] kws pos) X.env = (do
      let ov ← eval o X.env
      standAt apos.atName
      let (f, first) ← holding [ov] (getMethod ov m pl)
      callWith pos f first (backTo pos (starEach [] X.env)) (backToKw pos (keywordEach kws X.env))) := by rfl) :
    PE X (.Call (.Attribute o m apos) [] kws pos) (tMethK C m ks.length sp gV E ta tk) := by
  obtain ⟨f, fd, g, hm, F, b⟩ := M.ex
  refine ⟨fun pins s σ H Q I h => ?_⟩
  refine PySem.W.methodCall_KW (pl := pl) (thn (he.run pins s σ H _ I h) fun u s1 ⟨x, H1, I1, rx, a, dx, fs, ex, ea, l, q⟩ => ?_) ht
  subst ex
  obtain rfl : u = Value.ref a := rx
  refine getmeth_ok I1 ea c hm l ?_
  refine PySem.W.callWith_KW0 (first := [.ref a]) (h₀ := X.base) I.ok.mod.kin hm.kp hall (thn (hkw.run pos pins s1 σ H1 _ I1 q) fun ws s2 ⟨zs, H2, I2, rz, l2, q2⟩ => ⟨I2.kIn, ?_⟩) hpl
  rw [hks]
  exact run_fnN (us := [.ref a]) (vs := [.ref a]) F hr b hx I2 (.cons rfl .nil) rz rfl l2 q2
theorem pe_cl (M : CallAt X.prog X.w X.K X.mg X.base CX k C ps sp) (hr : Room k X.A) (hx : Passes CX X E) (hf : PE X fe tf) (ha : PA X (e :: es) t)
    (ht : eval (.Call fe (e :: es) [] pos) X.env = (do callWith pos (← eval fe X.env) [] (backTo pos (starEach (e :: es) X.env)) (backToKw pos (keywordEach [] X.env))) := by rfl)
    (hs : starEach (e :: es) X.env = (false, eval e X.env) :: starEach es X.env := by rfl) (hpl : (backTo pos (starEach es X.env)).any (·.1) = false := by rfl) : PE X (.Call fe (e :: es) [] pos) (StX.tCallO X C sp E tf t) := by
  obtain ⟨f, fd, c, F, b⟩ := M.ex
  refine StX.pe_callO hf c (fun A outer s H us vs Q E hr e0 r hsp => ?_) hr hx ha ht hs hpl
  have hl : (us ++ []).length = ps.length := by rw [List.append_nil, ← r.length]; exact F.len _ _ _ _ hsp
  have hb := b s us (e0.mod.kin.keeps fun b o e => (e0.bs b o e).1) hl
  rw [List.append_nil] at hb
  exact F.run A outer s H ⟨us, []⟩ us vs Q E hr e0 hb r hsp
end
/-- an own comparison -/
structure CmpAt (P : Program) (w : World) (K : PySem.W.Frag) (mg : Str → Option Value) (base : Heap) (CX : CXT) (k : Nat) (C : Addr) (m : Str) (ps : List Str) (sp : Sp) : Prop where
  ex : ∃ f fd, PySem.W.findIn K (.ref C) m = some (some (.ref f)) ∧ PySem.W.isFn K (.ref f) = true ∧ FnOk P w K mg base CX k f fd ps sp ∧ L2.Binds K fd ps []
def rCmpO (K : PySem.W.Frag) (C : Addr) (sp : Sp) (E : XK) : R2 := fun x y H Q => ∃ a dx fs t, x = .ref a ∧ H a = some (.ins C dx fs) ∧ TyX K H y t ∧ PySem.W.notFirst K C t = true ∧ sp [.ref a, y] H Q E
theorem op_cmpO {X : Cx} {CX : CXT} {k : Nat} {C : Addr} {m : Str} {ps : List Str} {sp : Sp} {E : XK} {op : CmpOp} (M : CmpAt X.prog X.w X.K X.mg X.base CX k C m ps sp) (hr : Room k X.A) (hx : Passes CX X E) (hop : (cmpInfo op).2.1 = m := by rfl)
    (hco : ∀ v u, compareOp op v u = richCompare op v u := by intro _ _; rfl) : OpR X (compareOp op) (rCmpO X.K C sp E) := by
  intro pins s σ H x y v u Q I rx ry h
  obtain ⟨f, fd, hs, hf, F, hb⟩ := M.ex
  obtain ⟨a, dx, fs, t, rfl, ha, ty, hn, hsp⟩ := h
  obtain rfl : v = Value.ref a := rx
  obtain ⟨mA, J, _⟩ := ins_get I.hok ha
  obtain ⟨od, J, _⟩ := J.look
  obtain ⟨m', hF⟩ := I.fr
  obtain ⟨Pz, Z, pz, _⟩ := kit_of I ry ty
  rw [hco]
  refine PySem.W.cmp_K (op := op) (tb := t) hr.units0 hF I.ok.mod.kin J (Z.ty _ _ I.kIn pz) hn (by rw [hop]; exact hs) hf ?_
  have hl := F.len _ _ _ _ hsp
  have r2 : Vals [V.ref a, y] [Value.ref a, u] := .cons rfl (.cons ry .nil)
  refine wpAny_call (codeAny_mono (F.run X.A X.stack s H ⟨[.ref a, u], []⟩ [.ref a, u] [.ref a, y] _ E hr I.env0 (by
    have := hb s [.ref a, u] I.kIn (by simpa using hl)
    simpa using this) r2 hsp) fun r s' hq => ?_)
  cases r with
  | error e => exact hx pins σ H s e s' I hq
  | ok fl =>
    cases fl with
    | ret z =>
      have q := I.after hq
      obtain ⟨zv, H', I', rz, q'⟩ := id q
      cases z with
      | notImplemented => cases zv <;> first | (cases rz; done) | (obtain ⟨_, rz⟩ := rz; cases rz)
      | _ => exact q
    | next => exact False.elim hq
    | brk => exact False.elim hq
    | cont => exact False.elim hq
/-! ### the pen: a list of the cells, an index, what is left of a great cell -/
def PenAt (H : Hp) (pn : Addr) (n : Nat) : Prop := ∃ (cl : Addr) (ns : List Int) (at_ rest : Int), H pn = some (.lst [.ref cl, .int at_, .int rest]) ∧ H cl = some (.lst (ns.map V.int)) ∧ ns.length ≤ 63 ∧ 0 ≤ at_ ∧ at_ ≤ n
/-- all but pn stays -/
def But (pn : Addr) (H H' : Hp) : Prop := ∀ b o, H b = some o → b ≠ pn → H' b = some o
theorem But.refl (pn : Addr) (H : Hp) : But pn H H := fun _ _ h _ => h
theorem But.trans {pn : Addr} {H H1 H2 : Hp} (a : But pn H H1) (b : But pn H1 H2) : But pn H H2 := fun c o h n => b c o (a c o h n) n
theorem But.new {pn p : Addr} {H : Hp} {o : HO} (h : H p = none) : But pn H (upd H p o) := fun b u e _ => by rw [upd_ne (ne_of_none e h)]; exact e
theorem But.put {pn : Addr} {H : Hp} {o : HO} : But pn H (upd H pn o) := fun b u e n => by rw [upd_ne n]; exact e
theorem pen_new {H : Hp} {pn p : Addr} {n : Nat} {o : HO} (h : PenAt H pn n) (hp : H p = none) : PenAt (upd H p o) pn n := by
  obtain ⟨cl, ns, a, r, h1, h2, h3⟩ := h
  exact ⟨cl, ns, a, r, by rw [upd_ne (ne_of_none h1 hp)]; exact h1, by rw [upd_ne (ne_of_none h2 hp)]; exact h2, h3⟩
theorem PenAt.le {H : Hp} {pn : Addr} {n m : Nat} (h : PenAt H pn n) (le : n ≤ m) : PenAt H pn m := by
  obtain ⟨cl, ns, a, r, h1, h2, h3, h4, h5⟩ := h
  exact ⟨cl, ns, a, r, h1, h2, h3, h4, by omega⟩
def spDraw : Sp := fun vs H Q _ => ∃ (pn : Addr) (m : Int) (n : Nat), vs = [.ref pn, .int m] ∧ 0 < m ∧ m.natAbs.log2 < 9000 ∧ PenAt H pn n ∧ n < 100000 ∧
  ∀ (d : Int) (H' : Hp), 0 ≤ d → d < m → PenAt H' pn (n + 1) → But pn H H' → Q (.int d) H'
/-- pick(pen, some): one of some -/
def spPick : Sp := fun vs H Q _ => ∃ (pn l : Addr) (n : Nat) (xs : List V), vs = [.ref pn, .ref l] ∧ H l = some (.lst xs) ∧ l ≠ pn ∧ 0 < xs.length ∧ xs.length ≤ 1000 ∧ PenAt H pn n ∧ n < 100000 ∧
  ∀ (v : V) (H' : Hp), v ∈ xs → PenAt H' pn (n + 1) → But pn H H' → Q v H'
def spPen (K : PySem.W.Frag) : Sp := fun vs H Q _ => ∃ (a : Addr) (ns : List Int), vs = [.ref a] ∧ SqL K H a (ns.map V.int) ∧
  ∀ (pn : Addr) (H' : Hp), H pn = none → PenAt H' pn 0 → Same H H' → Q (.ref pn) H'
/-! ### lists of ints as data -/
theorem dp_ints {K : PySem.W.Frag} {H : Hp} : ∀ ns : List Int, DpAll K H (ns.map V.int) (ns.map PyData.int)
  | [] => .nil
  | n :: ns => .cons (.int n) (dp_ints ns)
theorem lay_ints : ∀ ns : List Int, PyData.canLayAll0 (ns.map PyData.int) = true
  | [] => rfl
  | n :: ns => by
    show (true && PyData.canLayAll0 (ns.map PyData.int)) = true
    rw [lay_ints ns]
    rfl
theorem dep_ints : ∀ ns : List Int, PyData.depthAll (ns.map PyData.int) = 0
  | [] => rfl
  | n :: ns => by
    show max 0 (PyData.depthAll (ns.map PyData.int)) = 0
    rw [dep_ints ns]
    rfl
theorem shaped_ints (ns : List Int) : SeqAt.shaped (.list (ns.map PyData.int)) = true := by
  show (PyData.canLayAll0 (ns.map PyData.int) && decide (PyData.depthAll (ns.map PyData.int) + 1 ≤ 64)) = true
  rw [lay_ints, dep_ints]
  rfl
theorem pow_lt {i : Int} {b : Nat} (h0 : 0 ≤ i) (h : i < 2 ^ b) : i.natAbs < 2 ^ b := by
  have e : ((2 ^ b : Nat) : Int) = (2 : Int) ^ b := by simp
  omega
theorem mix_lt {x a c d e : Int} (x0 : 0 ≤ x) (x1 : x < 2147483648) (a0 : 0 ≤ a) (a1 : a < 100000) (c0 : 0 ≤ c) (c1 : c ≤ 1000) (d0 : 0 ≤ d) (d1 : d ≤ 100000) (e0 : 0 ≤ e) (e1 : e ≤ 100000) : (x * (2 * a + c) + d * a * a + e).natAbs < 2 ^ 64 := by
  have h1 : x * (2 * a + c) ≤ 2147483648 * 201000 := Int.mul_le_mul (by omega) (by omega) (by omega) (by decide)
  have h2 : 0 ≤ x * (2 * a + c) := Int.mul_nonneg x0 (by omega)
  have h3 : d * a ≤ 100000 * 100000 := Int.mul_le_mul d1 (by omega) a0 (by decide)
  have h4 : 0 ≤ d * a := Int.mul_nonneg d0 a0
  have h5 : d * a * a ≤ (100000 * 100000) * 100000 := Int.mul_le_mul h3 (by omega) a0 (by decide)
  have h6 : 0 ≤ d * a * a := Int.mul_nonneg h4 a0
  generalize x * (2 * a + c) = y at *
  generalize d * a * a = z at *
  refine pow_lt (by omega) (by omega)
theorem cut_ints (ns : List Int) (k : Nat) : cutV (ns.map V.int) none (some (k : Int)) = (ns.take k).map V.int := by
  unfold cutV
  rw [HT.sIx_none, HT.sIx_nat, List.drop_zero, Nat.sub_zero, List.map_take, List.length_map]
  by_cases h : k ≤ ns.length
  · rw [Nat.min_eq_left h]
  · rw [Nat.min_eq_right (by omega), List.take_of_length_le (by rw [List.length_map]; exact Nat.le_refl _), List.take_of_length_le (by rw [List.length_map]; omega)]
/-- names that are still the built-in ones -/
structure BI (mg : Str → Option Value) : Prop where
  z_len : mg "len" = none
  z_abs : mg "abs" = none
  z_int : mg "int" = none
  z_bool : mg "bool" = none
  z_list : mg "list" = none
  z_repr : mg "repr" = none
  z_isinstance : mg "isinstance" = none
  z_range : mg "range" = none
end My
/-! The end of a law whose def shows containers: a def that keeps its promise where nothing is being shown. -/
namespace My
open PySem PySem.Spec PyProof.Rows L2
/-- the heap h at the law's start as the walk sees it: the script's list at a, the tables of code objects -/
structure Begin (P : Program) (w : World) (K : PySem.W.Frag) (cs : List (Addr × Addr)) (a : Addr) (ns : List Int) (H : Hp) (h : Heap) : Prop where
  tbl : ∀ p ∈ cs, H p.2 = some (.tbl #[])
  kind : ∀ b, H b = none ∨ b ∈ cs.map (·.2) ∨ ∃ o xs, H b = some (.frz o (.lst xs))
  seq : SqL K H a (ns.map V.int)
  ok : HOk P w H h
  only : ∀ b, H b ≠ none → b = a ∨ b ∈ cs.map (·.2)
  out : H a ≠ none → K.lookup a = none
/-- what is known of a table and its code object -/
structure TabF (K : PySem.W.Frag) (h : Heap) (p : Addr × Addr) : Prop where
  get : h.get? p.2 = some { cls := .none, data := .fields #[] }
  out : K.lookup p.2 = none
  hd : PySem.W.CodeHd h p.1 p.2
def Goal (l : Program) (w : World) (fa a : Addr) (s₁ : Shared) : Prop := codeAny (model l w) callerA (.call (.ref fa) ⟨[.ref a], []⟩) (fun r s' => r = .ok (.ret (.bool true)) ∧ OldK s₁.heap s'.heap ∧ s'.os = s₁.os ∧ AllBare s'.gens) s₁
theorem tab_get {K : PySem.W.Frag} {h : Heap} {cs : List (Addr × Addr)} (t : ∀ p ∈ cs, TabF K h p) {b : Addr} (hb : b ∈ cs.map (·.2)) : h.get? b = some { cls := .none, data := .fields #[] } := by
  obtain ⟨p, hp, rfl⟩ := List.mem_map.mp hb
  exact (t p hp).get
section
variable {P : Program} {w : World} {K : PySem.W.Frag} {mg mb : Str → Option Value} {k : Nat} {fa a : Addr} {cs : List (Addr × Addr)} {fd : FuncData} {x : Str} {sp : Sp} {s₁ : Shared} {vs : List Value} {ns : List Int}
theorem from_begin {H : Hp} (B : Begin P w K cs a ns H s₁.heap) (hK : K.In s₁.heap) (gN : s₁.heap.Ns mainGlobals mg) (bN : s₁.heap.Ns builtinsNs mb) (bB : ∀ x : Str, x ≠ "__name__" → mb x = bootBuiltins x) (lim : s₁.heap.NoLimit) (gens : s₁.gens = #[])
    (ts : ∀ p ∈ cs, TabF K s₁.heap p) (mB : ∃ (bm : Addr) (ob : Obj), mg "__builtins__" = some (.ref bm) ∧ bm ≠ builtinsNs ∧ s₁.heap.get? bm = some ob ∧ ob.cls = .type "module" ∧ ob.dict = some builtinsNs ∧ ob.data = .plain)
    (la : s₁.heap.get? a = some { cls := .type "list", data := .seq vs.toArray }) (hr : Room k callerA)
    (F : ∀ base : Heap, K.In base → base.Ns mainGlobals mg → (∀ p ∈ cs, LamX.TabB base mg p.1 p.2) → FnG P w K mg base CX0 k fa fd [x] sp) (bd : ∀ (s : Shared) (u : Value), BindsTo s fd ⟨[u], []⟩ [(x, u)])
    (go : sp [.ref a] H (fun v _ => v = .bl true) fun _ _ _ => False) : Goal P w fa a s₁ := by
  have away : ∀ {b : Addr} {o : Obj}, s₁.heap.get? b = some o → (∀ ys n, o.data ≠ .seq ys n) → o.data ≠ .fields #[] → H b = none := fun {b o} e n1 n2 => by
    by_cases q : H b = none
    · exact q
    · exfalso
      rcases B.only b q with rfl | hb
      · rw [la] at e
        injection e with e
        subst e
        exact n1 _ _ rfl
      · rw [tab_get ts hb] at e
        injection e with e
        subst e
        exact n2 rfl
  have seen : ∀ {b : Addr} {o : Obj}, s₁.heap.get? b = some o → H b = none → (hidT s₁.heap H).get? b = some o := fun e n => hidT_get e n
  have nsOf : ∀ {b : Addr} {m : Str → Option Value}, s₁.heap.Ns b m → (hidT s₁.heap H).Ns b m := fun {b m} ⟨o, es, ep, e, d, r⟩ =>
    ⟨o, es, ep, seen e (away e (fun ys n z => by rw [d] at z; cases z) (fun z => by rw [d] at z; cases z)), d, r⟩
  have inK : K.In (hidT s₁.heap H) := fun b o e => by
    refine seen (hK b o e) ?_
    by_cases q : H b = none
    · exact q
    · exfalso
      rcases B.only b q with rfl | hb
      · rw [B.out q] at e
        cases e
      · obtain ⟨p, hp, rfl⟩ := List.mem_map.mp hb
        rw [(ts p hp).out] at e
        cases e
  have modK : L2.Mod K mg (hidT s₁.heap H) := ⟨inK, nsOf gN, ⟨mb, nsOf bN, bB⟩, let ⟨mc, h1, h2⟩ := lim; ⟨mc, nsOf h1, h2⟩⟩
  have tabs : ∀ p ∈ cs, LamX.TabB (hidT s₁.heap H) mg p.1 p.2 := fun p hp => by
    have tp := ts p hp
    refine ⟨?_, ?_, fun z => ?_⟩
    · obtain ⟨o, us, file, tf, flags, tg, inF, text, tt, e1, r1, r2, r3, rs⟩ := tp.hd
      exact ⟨o, us, file, tf, flags, tg, inF, text, tt, seen e1 (away e1 (fun ys n z => by rw [r2] at z; cases z) (fun z => by rw [r2] at z; cases z; simp at r3)), r1, r2, r3, rs⟩
    · obtain ⟨bm, ob, m1, m2, m3, m4, m5, m6⟩ := mB
      refine ⟨bm, ob, m1, m2, fun z => ?_, fun z => ?_, seen m3 (away m3 (fun ys n z => by rw [m6] at z; cases z) (fun z => by rw [m6] at z; cases z)), m4, m5, m6⟩
      · obtain ⟨o, es, ep, e, hd, _⟩ := gN
        rw [z, e] at m3
        cases m3
        rw [hd] at m6
        cases m6
      · rw [z, tp.get] at m3
        cases m3
        cases m6
    · obtain ⟨o, es, ep, e, hd, _⟩ := gN
      rw [z, tp.get] at e
      cases e
      cases hd
  have env0 : Env0 P w K mg (hidT s₁.heap H) callerA [] s₁ H := ⟨rfl, modK, fun b o e => of_hidT e, Nat.le_of_eq (hidT_size _ _), trivial, fun b hb => absurd (show b ∈ ([] : List Addr) from hb) (by simp), B.ok, .of_eq gens⟩
  unfold Goal
  refine codeAny_mono ((F _ inK (nsOf gN) tabs).run callerA [] s₁ H ⟨[.ref a], []⟩ [.ref a] [.ref a] _ _ rfl hr env0 (bd s₁ (.ref a)) (.cons rfl .nil) go) fun r s' done => ?_
  match r, done with
  | .error e, z => exact False.elim z
  | .ok .next, z => exact False.elim z
  | .ok .brk, z => exact False.elim z
  | .ok .cont, z => exact False.elim z
  | .ok (.ret u), ⟨v, H', os, bare, un, ok', r', q⟩ =>
    have q2 : v = .bl true := q
    subst q2
    have q3 : u = Value.bool true := r'
    subst q3
    have stays : ∀ b o, b ∉ cs.map (·.2) → s₁.heap.get? b = some o → s'.heap.get? b = some o := fun b o nb e => by
      rcases B.kind b with z | z | ⟨ob, xs, z⟩
      · exact un.keep b o e z (by intro z; exact absurd (show b ∈ ([] : List Addr) from z) (by simp)) (by simp)
      · exact absurd z nb
      · obtain ⟨e1, _⟩ := B.ok b _ z
        obtain ⟨e2, _⟩ := ok' b _ (un.frzs b ob _ z)
        rw [e] at e1
        cases e1
        exact e2
    have more : ∀ p ∈ cs, ∃ ys : Array Value, s'.heap.get? p.2 = some { cls := .none, data := .fields ys } := fun p hp => by
      obtain ⟨ys, z⟩ := un.tbls p.2 #[] (B.tbl p hp)
      exact ⟨_, ok' p.2 _ z⟩
    refine ⟨rfl, ⟨fun b o e => ?_, fun b o e => ?_⟩, os, bare⟩
    · by_cases hb : b ∈ cs.map (·.2)
      · obtain ⟨p, hp, rfl⟩ := List.mem_map.mp hb
        obtain ⟨ys, hm⟩ := more p hp
        rw [(ts p hp).get] at e
        cases e
        exact .inr (.inl ⟨((ts p hp).hd.tab (ts p hp).get).isCodeTable, rfl, #[], ys, rfl, by rw [Array.empty_append]; exact hm⟩)
      · exact .inl (stays b o hb e)
    · by_cases hb : b ∈ cs.map (·.2)
      · obtain ⟨p, hp, rfl⟩ := List.mem_map.mp hb
        obtain ⟨ys, hm⟩ := more p hp
        exact ⟨_, hm⟩
      · exact ⟨o, stays b o hb e⟩
/-- such a beginning is to be had -/
theorem begins (hK : K.In s₁.heap) (ts : ∀ p ∈ cs, TabF K s₁.heap p) (la : s₁.heap.get? a = some { cls := .type "list", data := .seq vs.toArray }) (hi : IntsAre vs ns) (hl : ns.length ≤ sizeLine) : ∃ H, Begin P w K cs a ns H s₁.heap := by
  have nt : a ∉ cs.map (·.2) := fun z => by
    have q := tab_get ts z
    rw [la] at q
    injection q with q
    injection q with _ _ q _
    cases q
  have rv := vals_ints hi
  let O : Option HO := if (K.lookup a).isSome = true then none else some (.frz { cls := .type "list", data := .seq vs.toArray } (.lst (ns.map V.int)))
  have atT : ∀ b, b ∈ cs.map (·.2) → (if b ∈ cs.map (·.2) then some (HO.tbl #[]) else if b = a then O else none) = some (HO.tbl #[]) := fun b h => if_pos h
  have atA : (if a ∈ cs.map (·.2) then some (HO.tbl #[]) else if a = a then O else none) = O := (if_neg nt).trans (if_pos rfl)
  have atN : ∀ b, b ∉ cs.map (·.2) → b ≠ a → (if b ∈ cs.map (·.2) then some (HO.tbl #[]) else if b = a then O else none) = none := fun b h1 h2 => (if_neg h1).trans (if_neg h2)
  refine ⟨fun b => if b ∈ cs.map (·.2) then some (.tbl #[]) else if b = a then O else none, fun p hp => atT _ (List.mem_map.mpr ⟨p, hp, rfl⟩), fun b => ?_, ?_, fun b u z => ?_, fun b z => ?_, fun z => ?_⟩
  · by_cases h1 : b ∈ cs.map (·.2)
    · exact .inr (.inl h1)
    · by_cases h2 : b = a
      · subst h2
        by_cases h3 : (K.lookup b).isSome = true
        · exact .inl (atA.trans (if_pos h3))
        · exact .inr (.inr ⟨_, _, atA.trans (if_neg h3)⟩)
      · exact .inl (atN b h1 h2)
  · cases h3 : K.lookup a with
    | none =>
      refine .inl (.inr ⟨_, atA.trans (if_neg ?_)⟩)
      rw [h3]
      exact Bool.noConfusion
    | some o =>
      have e := hK a o h3
      rw [la] at e
      cases e
      exact .inr ⟨_, vs.toArray, _, h3, rfl, rfl, rfl, by rw [List.size_toArray, hi.length]; exact hl, by simpa using rv⟩
  · by_cases h1 : b ∈ cs.map (·.2)
    · have z' := (atT b h1).symm.trans z
      cases z'
      exact tab_get ts h1
    · by_cases h2 : b = a
      · subst h2
        have z' := atA.symm.trans z
        by_cases h3 : (K.lookup b).isSome = true
        · have z2 := (if_pos h3).symm.trans z'
          cases z2
        · have z2 := (if_neg h3).symm.trans z'
          cases z2
          exact ⟨la, by rw [List.length_map]; exact hl, vs, _, rv, la⟩
      · have z' := (atN b h1 h2).symm.trans z
        cases z'
  · by_cases h1 : b ∈ cs.map (·.2)
    · exact .inr h1
    · by_cases h2 : b = a
      · exact .inl h2
      · exact absurd (atN b h1 h2) z
  · cases h3 : K.lookup a with
    | none => rfl
    | some o => exact absurd (atA.trans (if_pos (by rw [h3]; rfl))) z
end
/-- what is known of the law's promise at the head's heap h; TF: what the top says of the tables -/
def LawG (l : PySem.W.OpenLaw) (w : World) (K : PySem.W.Frag) (k n : Nat) (x : Str) (mg : Str → Option Value) (fa : Addr) (h : Heap) : Prop :=
  ∃ (fd : FuncData) (cs : List (Addr × Addr)) (sp : Sp), (∀ p ∈ cs, TabF K h p) ∧ (∀ (s : Shared) (u : Value), BindsTo s fd ⟨[u], []⟩ [(x, u)]) ∧
    (∀ (H : Hp) (a : Addr) (ns : List Int), ns.length ≤ n → (∀ z ∈ ns, Builtin.Int.intBits z ≤ 1048576) → (∀ p ∈ cs, H p.2 = some (.tbl #[])) → SqL K H a (ns.map V.int) → sp [.ref a] H (fun v _ => v = .bl true) fun _ _ _ => False) ∧
    ∀ base : Heap, K.In base → base.Ns mainGlobals mg → (∀ p ∈ cs, LamX.TabB base mg p.1 p.2) → FnG l.prog w K mg base CX0 k fa fd [x] sp
theorem walk_G {l : PySem.W.OpenLaw} {n k : Nat} {q : Program} {loose : List Str} {XP : (Str → Option Value) → Heap → Prop} {YP : World → Heap → Prop} {d : DefRec} {K : Params → PySem.W.Frag} {x : Str}
    (hn : l.most = some n) (hn2 : n ≤ sizeLine) (hdf : d.params.defaults = []) (hr : Room k callerA) (hY : ∀ (w : World) (h : Heap), YP w h → (K w.params).In h)
    (F : ∀ (w : World) (mg : Str → Option Value) (fa : Addr) (h : Heap), YP w h → (K w.params).In h → h.Ns mainGlobals mg → mg d.name = some (.ref fa) →
      (∀ (y : Str) (c T : Addr), ((recsOf q).any fun e => e.name == y) = true → PySem.W.tabIn (K w.params) y = some (c, T) → (K w.params).lookup T = none → TabF (K w.params) h (c, T)) → LawG l w (K w.params) k n x mg fa h) :
    PySem.W.WalkO q loose XP YP l.row.toRowW d [] (fun f vs => PySem.call f vs) := by
  refine Att.attach_callB hn hdf fun w s₀ s₁ mg mb fa o pm cd doc a vs ns G Y ho hd hcd hmg hobj hints hlen hbits hg => ?_
  have KX := hY w _ Y
  obtain ⟨fd, cs, sp, ts, hb, hsp, hF⟩ := F w mg fa _ Y KX G.T.g hmg fun y c T hrec hT hN => by
    obtain ⟨e, he⟩ := Option.isSome_iff_exists.mp (show ((recsOf q).find? fun e => e.name == y).isSome = true by rw [List.find?_isSome]; obtain ⟨e, h1, h2⟩ := List.any_eq_true.mp hrec; exact ⟨e, h1, h2⟩)
    obtain ⟨h1, h2⟩ := PySem.W.tab_of G.T KX he hT
    exact ⟨h2, hN, h1⟩
  obtain ⟨H, B⟩ := begins (P := l.prog) (w := w) KX ts hobj hints (Nat.le_trans hlen hn2)
  exact from_begin B KX G.T.g G.T.b G.T.builtins G.T.nolimit hg ts G.T.bmain hobj hr hF hb (hsp H a ns hlen hbits B.tbl B.seq)
end My
/-! What the top has written, by name. -/
namespace My
open PySem PySem.Spec PyProof.Rows L2
/-- the module has the def -/
structure Has (K : PySem.W.Frag) (mg : Str → Option Value) (x : Str) (st : Stmt) : Prop where
  ex : ∃ f fd, mg x = some (.ref f) ∧ Fun K x x st f fd
/-- a def that makes functions, its code object at c -/
structure HasC (K : PySem.W.Frag) (mg : Str → Option Value) (x : Str) (st : Stmt) (c : Addr) : Prop where
  ex : ∃ (f : Addr) (oc : Value) (od : Option Addr) (kV doc pm : Value) (an : Option Addr) (ct : Value) (osl : Array (Option Value)), mg x = some (.ref f) ∧
    K.lookup f = some ⟨oc, od, .func (PySem.W.fnOf x x (defArgs st) (defBody st) (defScope st) .none kV doc pm an (.ref c) ct), osl⟩ ∧ PySem.W.codeIn K (.ref c) x = true ∧ PySem.W.keepIn K (.ref f) = true
/-- the class has the method -/
structure HasM (K : PySem.W.Frag) (C : Addr) (m qual : Str) (st : Stmt) : Prop where
  ex : ∃ f fd, PySem.W.findIn K (.ref C) m = some (some (.ref f)) ∧ PySem.W.isFn K (.ref f) = true ∧ Fun K m qual st f fd
/-- the class has the method, with defaults -/
structure HasD (K : PySem.W.Frag) (C : Addr) (m qual : Str) (st : Stmt) (dvs : List V) (kws : List (Str × V)) : Prop where
  ex : ∃ f fd, PySem.W.findIn K (.ref C) m = some (some (.ref f)) ∧ PySem.W.isFn K (.ref f) = true ∧ FunD K m qual (defArgs st) (defBody st) (defScope st) dvs kws f fd
section
variable {P : Program} {w : World} {K : PySem.W.Frag} {mg : Str → Option Value} {base : Heap} {CX : CXT} {k : Nat} {x m qual : Str} {st : Stmt} {ps ks : List Str} {sp : Sp} {C c : Addr}
def BindW (x qual : Str) (st : Stmt) (ps : List Str) : Prop := ∀ (kV doc pm : Value) (an : Option Addr) (cdv ct : Value) (us : List Value), us.length = ps.length → bindArgs (PySem.W.fnOf x qual (defArgs st) (defBody st) (defScope st) .none kV doc pm an cdv ct) ⟨us, []⟩ = pure (ps.zip us)
theorem def_at (A : Has K mg x st) (ok : ∀ f fd, Fun K x x st f fd → FnOk P w K mg base CX k f fd ps sp) (b : BindW x x st ps) : DefAt P w K mg base CX k x ps sp := by
  obtain ⟨f, fd, h1, F⟩ := A.ex
  exact ⟨f, fd, ok f fd F, h1, F.kp, F.binds b⟩
theorem def_atG (A : Has K mg x st) (ok : ∀ f fd, Fun K x x st f fd → FnG P w K mg base CX k f fd ps sp) (b : BindW x x st ps) : DefG P w K mg base CX k x ps sp := by
  obtain ⟨f, fd, h1, F⟩ := A.ex
  exact ⟨f, fd, ok f fd F, h1, F.kp, F.binds b⟩
theorem meth_at (A : HasM K C m qual st) (ok : ∀ f fd, Fun K m qual st f fd → FnOk P w K mg base CX k f fd ps sp) (b : BindW m qual st ps) : MethAt P w K mg base CX k C m ps sp := by
  obtain ⟨f, fd, h1, h2, F⟩ := A.ex
  exact ⟨f, fd, ⟨h1, h2, F.kp⟩, ok f fd F, F.binds b⟩
theorem call_at (A : HasM K C "__call__" qual st) (ok : ∀ f fd, Fun K "__call__" qual st f fd → FnOk P w K mg base CX k f fd ps sp) (b : BindW "__call__" qual st ps) : CallAt P w K mg base CX k C ps sp := by
  obtain ⟨f, fd, h1, h2, F⟩ := A.ex
  obtain ⟨oc, od, kV, doc, pm, an, cdv, ct, osl, e, lk, _⟩ := F.ex
  refine ⟨f, fd, ⟨h1, h2, ?_⟩, ok f fd F, F.binds b⟩
  unfold PySem.W.fnIn
  rw [lk]
theorem cmp_at (A : HasM K C m qual st) (ok : ∀ f fd, Fun K m qual st f fd → FnOk P w K mg base CX k f fd ps sp) (b : BindW m qual st ps) : CmpAt P w K mg base CX k C m ps sp := by
  obtain ⟨f, fd, h1, h2, F⟩ := A.ex
  exact ⟨f, fd, h1, h2, ok f fd F, F.binds b⟩
/-- called with keywords alone -/
theorem methK_at {gV : List V → List V → List V} {g : List Value → List Value → List Value} (A : HasM K C m qual st) (ok : ∀ f fd, Fun K m qual st f fd → FnOk P w K mg base CX k f fd ps sp)
    (b : ∀ (kV doc pm : Value) (an : Option Addr) (cdv ct : Value) (us ws : List Value), us.length = 1 → ws.length = ks.length → bindArgs (PySem.W.fnOf m qual (defArgs st) (defBody st) (defScope st) .none kV doc pm an cdv ct) ⟨us, ks.zip ws⟩ = pure (ps.zip (g us ws)))
    (r : ∀ {vs : List V} {us : List Value} {zs : List V} {ws : List Value}, Vals vs us → Vals zs ws → Vals (gV vs zs) (g us ws)) : MethK P w K mg base CX k C m ps ks sp gV := by
  obtain ⟨f, fd, h1, h2, F⟩ := A.ex
  obtain ⟨oc, od, kV, doc, pm, an, cdv, ct, osl, rfl, lk, hcd⟩ := id F.ex
  exact ⟨f, _, g, ⟨h1, h2, F.kp⟩, ok f _ F, ⟨fun s us ws _ l1 l2 => .of_eq (b kV doc pm an cdv ct us ws l1 l2), r⟩⟩
/-- the class is made with all its arguments -/
theorem make_all {dvs : List V} (A : HasD K C "__init__" qual st dvs []) (hx : mg x = some (.ref C)) (mk : PySem.W.makesIn K C = true) (kp : PySem.W.keepIn K (.ref C) = true) (ok : ∀ f fd, FunD K "__init__" qual (defArgs st) (defBody st) (defScope st) dvs [] f fd → FnOk P w K mg base CX k f fd ps sp) (hd : dvs ≠ [])
    (b : ∀ (T : Addr) (kV doc pm : Value) (an : Option Addr) (cdv ct : Value) (us its : List Value), us.length = ps.length → its.length = dvs.length →
      ∃ k, bindArgs (PySem.W.fnOf "__init__" qual (defArgs st) (defBody st) (defScope st) (.ref T) kV doc pm an cdv ct) ⟨us, []⟩ = seqItems? (.ref T) >>= k ∧ k (some its.toArray) = pure (ps.zip (us ++ its.drop dvs.length))) : MakeAt P w K mg base CX k x C ps sp [] := by
  obtain ⟨f, fd, h1, h2, F⟩ := A.ex
  obtain ⟨ds, r, bs⟩ := F.binds1 ps.length dvs.length hd (by omega) b
  rw [List.drop_length] at r
  exact ⟨f, fd, ds, ⟨mk, h1, h2, kp⟩, ok f fd F, hx, bs, r⟩
end
end My
/-! Ints beside instances: the int's own slots decline. -/
namespace My
open PySem PySem.Spec PyProof.Rows
def Plain (h : Heap) (l : Addr) : Prop := ∃ (c : Value) (d : Option Addr) (sl : Array (Option Value)), h.get? l = some { cls := c, dict := d, data := .plain, slots := sl }
def Declines (B : Builtin) (a : Int) (t : Tok) (l : Addr) : Prop := Meets (B ⟨[.int a t, .ref l], []⟩) fun _ R s => Plain s.heap l ∧ R (.ok (.ret Value.notImplemented)) s
theorem dec_add (a : Int) (t : Tok) (l : Addr) : Declines Builtin.«int.__add__» a t l :=
  .of_wp fun prog w A R s h => by obtain ⟨hp, g, d, tk, os⟩ := s; obtain ⟨⟨c, dd, sl, hl⟩, h⟩ := h; wp_walk; exact ⟨_, rfl, h⟩
theorem dec_sub (a : Int) (t : Tok) (l : Addr) : Declines Builtin.«int.__sub__» a t l :=
  .of_wp fun prog w A R s h => by obtain ⟨hp, g, d, tk, os⟩ := s; obtain ⟨⟨c, dd, sl, hl⟩, h⟩ := h; wp_walk; exact ⟨_, rfl, h⟩
theorem dec_mul (a : Int) (t : Tok) (l : Addr) : Declines Builtin.«int.__mul__» a t l :=
  .of_wp fun prog w A R s h => by obtain ⟨hp, g, d, tk, os⟩ := s; obtain ⟨⟨c, dd, sl, hl⟩, h⟩ := h; wp_walk; exact ⟨_, rfl, h⟩
theorem dec_floordiv (a : Int) (t : Tok) (l : Addr) : Declines Builtin.«int.__floordiv__» a t l :=
  .of_wp fun prog w A R s h => by obtain ⟨hp, g, d, tk, os⟩ := s; obtain ⟨⟨c, dd, sl, hl⟩, h⟩ := h; wp_walk; exact ⟨_, rfl, h⟩
theorem dec_mod (a : Int) (t : Tok) (l : Addr) : Declines Builtin.«int.__mod__» a t l :=
  .of_wp fun prog w A R s h => by obtain ⟨hp, g, d, tk, os⟩ := s; obtain ⟨⟨c, dd, sl, hl⟩, h⟩ := h; wp_walk; exact ⟨_, rfl, h⟩
theorem dec_lt (a : Int) (t : Tok) (l : Addr) : Declines Builtin.«int.__lt__» a t l :=
  .of_wp fun prog w A R s h => by obtain ⟨hp, g, d, tk, os⟩ := s; obtain ⟨⟨c, dd, sl, hl⟩, h⟩ := h; wp_walk; exact ⟨_, rfl, h⟩
theorem dec_le (a : Int) (t : Tok) (l : Addr) : Declines Builtin.«int.__le__» a t l :=
  .of_wp fun prog w A R s h => by obtain ⟨hp, g, d, tk, os⟩ := s; obtain ⟨⟨c, dd, sl, hl⟩, h⟩ := h; wp_walk; exact ⟨_, rfl, h⟩
theorem dec_gt (a : Int) (t : Tok) (l : Addr) : Declines Builtin.«int.__gt__» a t l :=
  .of_wp fun prog w A R s h => by obtain ⟨hp, g, d, tk, os⟩ := s; obtain ⟨⟨c, dd, sl, hl⟩, h⟩ := h; wp_walk; exact ⟨_, rfl, h⟩
theorem dec_ge (a : Int) (t : Tok) (l : Addr) : Declines Builtin.«int.__ge__» a t l :=
  .of_wp fun prog w A R s h => by obtain ⟨hp, g, d, tk, os⟩ := s; obtain ⟨⟨c, dd, sl, hl⟩, h⟩ := h; wp_walk; exact ⟨_, rfl, h⟩
theorem dec_eq (a : Int) (t : Tok) (l : Addr) : Declines Builtin.«int.__eq__» a t l :=
  .of_wp fun prog w A R s h => by obtain ⟨hp, g, d, tk, os⟩ := s; obtain ⟨⟨c, dd, sl, hl⟩, h⟩ := h; wp_walk; exact ⟨_, rfl, h⟩
end My
/-! Own operators: an instance beside an instance, beside an int, an int beside it, in place, the sign. -/
namespace My
open PySem PySem.Spec PySem.Calls PyProof.Rows L2
section
open PySem.W
variable {prog : Program} {w : World} {A : Around} {E : Value → Shared → Prop} {s : Shared} {K : Frag} {x C L f f0 : Addr} {h₀ : Heap} {m : Str → Option Value} {ox : Obj} {od : Option Obj}
/-- what is known of the int's slot -/
structure IntSlot (K : Frag) (nm : String) (id : String) (B : Builtin) : Prop where
  slot : Slot "int" (PySem.dunder nm) id
  entry : entryFor table id = some B
  args : ∀ a b : Value, argsOk id ⟨[a, b], []⟩
  dec : ∀ a t l, Declines B a t l
theorem int_plain (i : Int) (t : Tok) (s : Shared) : s.TypeIs (.int i t) "int" := by
  first | exact .int | exact trivial | rfl | exact ⟨_, rfl⟩
theorem int_call {i : Int} {t : Tok} {nm id : String} {B : Builtin} {Q : Value → Shared → Prop} (S : IntSlot K nm id B) (hp : Plain s.heap x) (h : Q .notImplemented s) : wpAny (model prog w) A (call (.builtin id) [.int i t, .ref x]) Q E s :=
  call_meets S.slot (int_plain i t s) S.entry (S.args _ _) (S.dec i t x) ⟨hp, h⟩
/-- an int beside an instance: the reflected method -/
theorem binR_K {op : Operator} {i : Int} {t : Tok} {id : String} {B : Builtin} {fo ro : Option Value} {Q : Value → Shared → Prop} (S : IntSlot K op.info.2 id B) (F : Fr h₀ L s.heap m) (X₀ : K.In h₀) (I : InstAt s.heap x ox C od) (hp : Plain s.heap x) (hc : selfFirst K C = true)
    (hs : findIn K (.ref C) (PySem.dunder op.info.2) = some (some (.ref f0))) (hr : findIn K (.ref C) (dunderR op.info.2) = some (some (.ref f))) (hf : isFn K (.ref f) = true)
    (h1 : findIn K (.type "int") (PySem.dunder op.info.2) = some fo) (h2 : findIn K (.type "int") (dunderR op.info.2) = some ro) (hl : ((fo.isSome && !isSeqSlot fo) || (ro.isSome && !isSeqSlot ro)) = true) (hsub : subIn K (.ref C) (.type "int") = some false)
    (h : wpAny (model prog w) A (call (.ref f) [.ref x, .int i t]) (PySem.W.CmpBack Q) E s) : wpAny (model prog w) A (binaryOp op (.int i t) (.ref x)) Q E s := by
  have X := X₀.keeps F.keep
  obtain ⟨cd, rest, hcd, hm⟩ := ksp_first hc
  have two := ksp_try X I hr hf h
  rcases hi : op.info with ⟨sym, nm'⟩
  rw [hi] at hs hr h1 h2 S two
  dsimp only at hs hr h1 h2 S two
  have one : wpAny (model prog w) A (tryMethod (.int i t) (PySem.dunder nm') (.ref x)) (fun r s' => r = none ∧ s' = s) E s := wpAny_tryMethod_declines (int_plain i t s) S.slot (int_call S hp ⟨rfl, rfl, rfl⟩)
  obtain ⟨hh, g, d, tt, os⟩ := s
  have L1 : Looks (model prog w) hh (typeOf (.ref x)) (.ref C) := I.type
  have L2 : Looks (model prog w) hh (typeOf (.int i t)) (.type "int") := Looks.of_pure rfl
  have L3 : Looks (model prog w) hh (fillsNumberSlot (.ref C) nm') true := fills_K X hcd hm hs
  have L4 : Looks (model prog w) hh (fillsNumberSlot (.type "int") nm') true := hl ▸ ksp_fillsT X h1 h2
  have L5 : Looks (model prog w) hh (isSubtype (.ref C) (.type "int")) false := looks_subIn X hsub
  have L7 : Looks (model prog w) hh (numberSlotInPython (.type "int") nm') false := Looks.of_pure rfl
  have hne : (Value.type "int" == Value.ref C) = false := Bool.eq_false_iff.mpr fun q => by cases beq_iff_eq.mp q
  simp only [binaryOp, hi]
  refine wpAny_holding (wpAny_bind ?_)
  unfold binaryOp1
  refine wpAny_bind (L2.at (wpAny_bind (L1.at (wpAny_bind (L4.at ?_)))))
  simp only [hne, Bool.false_eq_true, if_false]
  ksp_lk
  refine wpAny_mono one (fun r s' hr' => ?_) fun _ _ e => e
  obtain ⟨rfl, rfl⟩ := hr'
  ksp_lk
  refine wpAny_mono two (fun r s' hr' => ?_) fun _ _ e => e
  obtain ⟨v, rfl, hq⟩ := hr'
  ksp_lk
  exact hq
/-- an int compared with an instance: the reflected method -/
theorem cmpR_K {op : CmpOp} {i : Int} {t : Tok} {id : String} {B : Builtin} {Q : Value → Shared → Prop} (hu : A.units < cLine) (sl : Slot "int" (cmpInfo op).2.1 id) (en : entryFor table id = some B) (ar : ∀ a b : Value, argsOk id ⟨[a, b], []⟩) (de : ∀ a t l, Declines B a t l)
    (F : Fr h₀ L s.heap m) (X₀ : K.In h₀) (I : InstAt s.heap x ox C od) (hp : Plain s.heap x) (hs : findIn K (.ref C) (cmpInfo op).2.2 = some (some (.ref f))) (hf : isFn K (.ref f) = true) (hsub : subIn K (.ref C) (.type "int") = some false)
    (h : wpAny (model prog w) A (call (.ref f) [.ref x, .int i t]) (PySem.W.CmpBack Q) E s) (h1 : oneThing? op (.int i t) (.ref x) = none) : wpAny (model prog w) A (richCompare op (.int i t) (.ref x)) Q E s := by
  have X := X₀.keeps F.keep
  have two : wpAny (model prog w) A (tryCompare (.ref x) (cmpInfo op).2.2 (.int i t)) (fun r s' => ∃ v, r = some v ∧ Q v s') E s := by
    unfold tryCompare
    refine wpAny_bind (ifBound_K X I hs hf (wpAny_mono h (fun v s' hv => ?_) fun _ _ e => e))
    cases v <;> first | exact hv.elim | exact wpAny_pure ⟨_, rfl, hv⟩
  have one : wpAny (model prog w) A (tryCompare (.int i t) (cmpInfo op).2.1 (.ref x)) (fun r s' => r = none ∧ s' = s) E s :=
    wpAny_tryCompare_declines (int_plain i t s) sl (call_meets sl (int_plain i t s) en (ar _ _) (de i t x) ⟨hp, rfl, rfl, rfl⟩)
  have hne : (Value.type "int" != Value.ref C) = true := by
    have : (Value.type "int" == Value.ref C) = false := Bool.eq_false_iff.mpr fun q => by cases beq_iff_eq.mp q
    simp [bne, this]
  unfold richCompare
  simp only [h1]
  refine wpAny_holding (wpAny_bind (wpAny_cRoomFor hu ?_))
  refine wpAny_bind ((Looks.of_pure (show typeOf (.int i t) = pure (.type "int") from rfl)).here (wpAny_bind (I.type.here ?_)))
  simp only [hne, if_true]
  refine wpAny_bind ((looks_subIn X hsub).here ?_)
  simp only [Bool.false_eq_true, if_false, Bool.not_false, if_true]
  refine wpAny_bind (wpAny_mono one (fun r s' z => ?_) fun _ _ e => e)
  obtain ⟨rfl, rfl⟩ := z
  refine wpAny_bind (wpAny_mono two (fun r s' z => ?_) fun _ _ e => e)
  obtain ⟨v, rfl, hq⟩ := z
  exact wpAny_pure hq
end
/-! ### a method run somewhere below the body -/
structure Und (X : Cx) (n : Nat) (A : Around) : Prop where
  room : Room n A
  fr : A.frames = X.A.frames
theorem Und.here {X : Cx} {n : Nat} (hr : Room n X.A) : Und X n X.A := ⟨hr, rfl⟩
theorem Und.in1 {X : Cx} {n : Nat} {A : Around} (u : Und X (n + 1) A) : Und X n A.in1 := ⟨u.room.in1, u.fr⟩
section
variable {X : Cx} {pins : List (Addr × Obj)} {σ : L2.St} {H : Hp} {s : Shared} {CX : CXT} {k : Nat} {ps : List Str} {sp : Sp} {E : XK} {C : Addr} {m : Str}
theorem run_at {f : Addr} {fd : FuncData} {A : Around} {vs : List V} {us : List Value} {Q : VK} (F : FnOk X.prog X.w X.K X.mg X.base CX k f fd ps sp) (hb : L2.Binds X.K fd ps []) (hx : Passes CX X E) (u : Und X k A) (I : Inv X pins σ H s) (r : Vals vs us) (hsp : sp vs H Q E) :
    wpAny (model X.prog X.w) A (call (.ref f) us) (EP X pins σ Q) X.xe s := by
  have e0 : Env0 X.prog X.w X.K X.mg X.base A X.stack s H := by
    have e := I.env0
    exact ⟨by rw [u.fr]; exact e.frames, e.mod, e.bs, e.bsz, e.funs, e.frf, e.hok, e.bare⟩
  have hl : (us ++ []).length = ps.length := by rw [List.append_nil, ← r.length]; exact F.len _ _ _ _ hsp
  have bd := hb s us I.kIn hl
  rw [List.append_nil] at bd
  refine wpAny_call (codeAny_mono (F.run A X.stack s H ⟨us, []⟩ us vs _ E u.room e0 bd r hsp) fun r s' hq => ?_)
  match r, hq with
  | .error e, hq => exact hx pins σ H s e s' I hq
  | .ok (.ret z), hq => exact I.after hq
  | .ok .next, hq => exact False.elim hq
  | .ok .brk, hq => exact False.elim hq
  | .ok .cont, hq => exact False.elim hq
theorem ep_back {Q : VK} {v : Value} {s' : Shared} (h : EP X pins σ Q v s') : PySem.W.CmpBack (EP X pins σ Q) v s' := by
  cases v with
  | notImplemented =>
    obtain ⟨zv, H', I', rz, q'⟩ := h
    cases zv <;> first | (cases rz; done) | (obtain ⟨_, rz⟩ := rz; cases rz)
  | _ => exact h
theorem ins_plain {a dx : Addr} {fs : List (Str × V)} (I : Inv X pins σ H s) (ha : H a = some (.ins C dx fs)) : ∃ (ox od : Obj), PySem.W.InstAt s.heap a ox C (some od) ∧ Plain s.heap a := by
  obtain ⟨mA, J, _⟩ := ins_get I.hok ha
  have g : Plain s.heap a := ⟨_, _, _, J.1⟩
  obtain ⟨od, J, _⟩ := J.look
  exact ⟨_, od, J, g⟩
/-- a two-place method of C beside an instance of C or an int -/
structure BinF (K : PySem.W.Frag) (C : Addr) (nm : String) : Prop where
  sf : PySem.W.selfFirst K C = true
  rc : ∃ rc, PySem.W.findIn K (.ref C) (dunderR nm) = some rc ∧ (rc = none ∨ ∃ g : Addr, rc = some (.ref g))
  i1 : ∃ fo, PySem.W.findIn K (.type "int") (PySem.dunder nm) = some fo
  i2 : ∃ ro, PySem.W.findIn K (.type "int") (dunderR nm) = some ro
  su : PySem.W.subIn K (.type "int") (.ref C) = some false
def OrInt (H : Hp) (C : Addr) (y : V) : Prop := (∃ b dy gs, y = .ref b ∧ H b = some (.ins C dy gs)) ∨ ∃ j, y = .int j
def rBinO (C : Addr) (sp : Sp) (E : XK) : R2 := fun x y H Q => ∃ a dx fs, x = .ref a ∧ H a = some (.ins C dx fs) ∧ OrInt H C y ∧ sp [x, y] H Q E
theorem op_binO {op : Operator} (M : CmpAt X.prog X.w X.K X.mg X.base CX k C m ps sp) (B : BinF X.K C op.info.2) (hr : Room k X.A) (hx : Passes CX X E) (hm : PySem.dunder op.info.2 = m := by rfl) : OpR X (binaryOp op) (rBinO C sp E) := by
  intro pins s σ H x y v u Q I rx ry h
  obtain ⟨f, fd, hs, hf, F, hb⟩ := M.ex
  obtain ⟨a, dx, fs, rfl, ha, oi, hsp⟩ := h
  obtain rfl : v = Value.ref a := rx
  obtain ⟨ox, od, J, _⟩ := ins_plain I ha
  obtain ⟨m', hF⟩ := I.fr
  subst hm
  have go : wpAny (model X.prog X.w) X.A (call (.ref f) [.ref a, u]) (PySem.W.CmpBack (EP X pins σ Q)) X.xe s := wpAny_mono (run_at (vs := [.ref a, y]) F hb hx (Und.here hr) I (.cons rfl (.cons ry .nil)) hsp) (fun _ _ z => ep_back z) fun _ _ z => z
  rcases oi with ⟨b, dy, gs, rfl, hb'⟩ | ⟨j, rfl⟩
  · obtain rfl : u = Value.ref b := ry
    obtain ⟨oy, od', J', _⟩ := ins_plain I hb'
    exact PySem.W.binop_K hF I.ok.mod.kin J J'.type B.sf hs hf go
  · obtain ⟨t, rfl⟩ := ry
    obtain ⟨rc, r1, r2⟩ := B.rc
    obtain ⟨fo, i1⟩ := B.i1
    obtain ⟨ro, i2⟩ := B.i2
    exact PySem.W.ksp_binT hF I.ok.mod.kin J rfl B.sf hs hf r1 r2 i1 i2 B.su go
/-- an int beside an instance: the reflected method -/
structure RefF (K : PySem.W.Frag) (C : Addr) (nm : String) : Prop where
  sf : PySem.W.selfFirst K C = true
  f0 : ∃ f : Addr, PySem.W.findIn K (.ref C) (PySem.dunder nm) = some (some (.ref f))
  ii : ∃ fo ro, PySem.W.findIn K (.type "int") (PySem.dunder nm) = some fo ∧ PySem.W.findIn K (.type "int") (dunderR nm) = some ro ∧ ((fo.isSome && !isSeqSlot fo) || (ro.isSome && !isSeqSlot ro)) = true
  su : PySem.W.subIn K (.ref C) (.type "int") = some false
def rBinR (C : Addr) (sp : Sp) (E : XK) : R2 := fun x y H Q => ∃ i b dy gs, x = .int i ∧ y = .ref b ∧ H b = some (.ins C dy gs) ∧ sp [y, x] H Q E
theorem op_binR {op : Operator} {id : String} {Bu : Builtin} (M : CmpAt X.prog X.w X.K X.mg X.base CX k C m ps sp) (S : IntSlot X.K op.info.2 id Bu) (B : RefF X.K C op.info.2) (hr : Room k X.A) (hx : Passes CX X E) (hm : dunderR op.info.2 = m := by rfl) : OpR X (binaryOp op) (rBinR C sp E) := by
  intro pins s σ H x y v u Q I rx ry h
  obtain ⟨f, fd, hs, hf, F, hb⟩ := M.ex
  obtain ⟨i, b, dy, gs, rfl, rfl, hb', hsp⟩ := h
  obtain rfl : u = Value.ref b := ry
  obtain ⟨t, rfl⟩ := rx
  obtain ⟨ox, od, J, pl⟩ := ins_plain I hb'
  obtain ⟨m', hF⟩ := I.fr
  subst hm
  obtain ⟨f0, h0⟩ := B.f0
  obtain ⟨fo, ro, i1, i2, i3⟩ := B.ii
  exact binR_K S hF I.ok.mod.kin J pl B.sf h0 hs hf i1 i2 i3 B.su (wpAny_mono (run_at (vs := [.ref b, .int i]) F hb hx (Und.here hr) I (.cons rfl (.cons ⟨t, rfl⟩ .nil)) hsp) (fun _ _ z => ep_back z) fun _ _ z => z)
theorem is_add {K : PySem.W.Frag} : IntSlot K (Operator.info .Add).2 "int.__add__" Builtin.«int.__add__» := ⟨PySem.F.slot_int_add, PySem.F.entry_int_add, PySem.F.args_int_add_2, dec_add⟩
theorem is_sub {K : PySem.W.Frag} : IntSlot K (Operator.info .Sub).2 "int.__sub__" Builtin.«int.__sub__» := ⟨PySem.F.slot_int_sub, PySem.F.entry_int_sub, PySem.F.args_int_sub_2, dec_sub⟩
theorem is_mul {K : PySem.W.Frag} : IntSlot K (Operator.info .Mult).2 "int.__mul__" Builtin.«int.__mul__» := ⟨PySem.F.slot_int_mul, PySem.F.entry_int_mul, PySem.F.args_int_mul_2, dec_mul⟩
/-- an int compared with an instance -/
def rCmpR (C : Addr) (sp : Sp) (E : XK) : R2 := fun x y H Q => ∃ i b dy gs, x = .int i ∧ y = .ref b ∧ H b = some (.ins C dy gs) ∧ sp [y, x] H Q E
theorem op_cmpRv {op : CmpOp} {id : String} {Bu : Builtin} (M : CmpAt X.prog X.w X.K X.mg X.base CX k C m ps sp) (su : PySem.W.subIn X.K (.ref C) (.type "int") = some false) (hr : Room k X.A) (hx : Passes CX X E) (hm : (cmpInfo op).2.2 = m) (hco : ∀ v u, compareOp op v u = richCompare op v u)
    (h1 : ∀ i t b, oneThing? op (.int i t) (.ref b) = none) (sl : Slot "int" (cmpInfo op).2.1 id) (en : entryFor table id = some Bu) (ar : ∀ a b : Value, argsOk id ⟨[a, b], []⟩) (de : ∀ a t l, Declines Bu a t l) : OpR X (compareOp op) (rCmpR C sp E) := by
  intro pins s σ H x y v u Q I rx ry h
  obtain ⟨f, fd, hs, hf, F, hb⟩ := M.ex
  obtain ⟨i, b, dy, gs, rfl, rfl, hb', hsp⟩ := h
  obtain rfl : u = Value.ref b := ry
  obtain ⟨t, rfl⟩ := rx
  obtain ⟨ox, od, J, pl⟩ := ins_plain I hb'
  obtain ⟨m', hF⟩ := I.fr
  subst hm
  rw [hco]
  exact cmpR_K hr.units0 sl en ar de hF I.ok.mod.kin J pl hs hf su (wpAny_mono (run_at (vs := [.ref b, .int i]) F hb hx (Und.here hr) I (.cons rfl (.cons ⟨t, rfl⟩ .nil)) hsp) (fun _ _ z => ep_back z) fun _ _ z => z) (h1 i t b)
theorem op_ltR (M : CmpAt X.prog X.w X.K X.mg X.base CX k C "__gt__" ps sp) (su : PySem.W.subIn X.K (.ref C) (.type "int") = some false) (hr : Room k X.A) (hx : Passes CX X E) : OpR X (compareOp .Lt) (rCmpR C sp E) := op_cmpRv M su hr hx rfl (fun _ _ => rfl) (fun _ _ _ => rfl) PySem.F.slot_int_lt PySem.F.entry_int_lt PySem.F.args_int_lt_2 dec_lt
theorem op_leR (M : CmpAt X.prog X.w X.K X.mg X.base CX k C "__ge__" ps sp) (su : PySem.W.subIn X.K (.ref C) (.type "int") = some false) (hr : Room k X.A) (hx : Passes CX X E) : OpR X (compareOp .LtE) (rCmpR C sp E) := op_cmpRv M su hr hx rfl (fun _ _ => rfl) (fun _ _ _ => rfl) PySem.F.slot_int_le PySem.F.entry_int_le PySem.F.args_int_le_2 dec_le
theorem op_gtR (M : CmpAt X.prog X.w X.K X.mg X.base CX k C "__lt__" ps sp) (su : PySem.W.subIn X.K (.ref C) (.type "int") = some false) (hr : Room k X.A) (hx : Passes CX X E) : OpR X (compareOp .Gt) (rCmpR C sp E) := op_cmpRv M su hr hx rfl (fun _ _ => rfl) (fun _ _ _ => rfl) PySem.F.slot_int_gt PySem.F.entry_int_gt PySem.F.args_int_gt_2 dec_gt
theorem op_geR (M : CmpAt X.prog X.w X.K X.mg X.base CX k C "__le__" ps sp) (su : PySem.W.subIn X.K (.ref C) (.type "int") = some false) (hr : Room k X.A) (hx : Passes CX X E) : OpR X (compareOp .GtE) (rCmpR C sp E) := op_cmpRv M su hr hx rfl (fun _ _ => rfl) (fun _ _ _ => rfl) PySem.F.slot_int_ge PySem.F.entry_int_ge PySem.F.args_int_ge_2 dec_ge
/-- - of an instance -/
def rNegO (C : Addr) (sp : Sp) (E : XK) : V → Hp → VK → Prop := fun x H Q => ∃ a dx fs, x = .ref a ∧ H a = some (.ins C dx fs) ∧ sp [x] H Q E
theorem un_negO (M : CmpAt X.prog X.w X.K X.mg X.base CX k C "__neg__" ps sp) (hr : Room k X.A) (hx : Passes CX X E) : UnR X (unaryOp .USub) (rNegO C sp E) := by
  intro pins s σ H x v Q I rx h
  obtain ⟨f, fd, hs, hf, F, hb⟩ := M.ex
  obtain ⟨a, dx, fs, rfl, ha, hsp⟩ := h
  obtain rfl : v = Value.ref a := rx
  obtain ⟨ox, od, J, _⟩ := ins_plain I ha
  obtain ⟨m', hF⟩ := I.fr
  exact PySem.W.ksp_neg hF I.ok.mod.kin J hs hf (run_at (vs := [.ref a]) F hb hx (Und.here hr) I (.cons rfl .nil) hsp)
/-- str(x) of an instance with its own __str__ -/
def rStrO (C : Addr) (sp : Sp) (E : XK) : List V → Hp → VK → Prop := fun xs H Q => ∃ a dx fs, xs = [.ref a] ∧ H a = some (.ins C dx fs) ∧ sp [.ref a] H (fun v H' => ∃ x, v = .str x ∧ Q v H') E
theorem call_strO (M : CmpAt X.prog X.w X.K X.mg X.base CX k C "__str__" ps sp) (hr : Room (k + 2) X.A) (hx : Passes CX X E) : CallR X (.type "str") (rStrO C sp E) := by
  intro pins s σ H xs us Q I r h
  obtain ⟨f, fd, hs, hf, F, hb⟩ := M.ex
  obtain ⟨a, dx, fs, rfl, ha, hsp⟩ := h
  obtain ⟨u, rfl, r1⟩ := vals1 r
  obtain rfl : u = Value.ref a := r1
  obtain ⟨ox, od, J, _⟩ := ins_plain I ha
  have U : Und X k X.A.in1.in1 := (Und.here hr).in1.in1
  refine PySem.W.kso_call U.room.units0 (I.kIn) J hs hf (wpAny_mono (run_at (vs := [.ref a]) F hb hx U I (.cons rfl .nil) hsp) (fun v s' z => ?_) fun _ _ z => z)
  obtain ⟨z, H', I', rz, x, rfl, q⟩ := z
  obtain ⟨t, rfl⟩ := rz
  exact ⟨.str x, H', I', ⟨t, rfl⟩, q⟩
end
end My
/-! != by an own ==. -/
namespace My
open PySem PySem.Spec PySem.Calls PyProof.Rows L2
theorem slot_one : Slot "object" "__ne__" "object.__ne__" :=
  .of (owner := "object") (n := "__ne__") (by rw [typeLookup_type, builtinLookup_eq_fast]; kernel_rfl) (by decide +kernel) (by decide +kernel) (by decide +kernel) (.inl (by decide +kernel)) (by rw [isSubtype_type]; kernel_rfl)
section
open PySem.W
variable {prog : Program} {w : World} {A : Around} {E : Value → Shared → Prop} {s : Shared} {K : Frag} {x C L f : Addr} {h₀ : Heap} {m : Str → Option Value} {ox : Obj} {od : Option Obj} {b tb : Value}
/-- what an own == hands back, turned about -/
def NotBack (Q : Value → Shared → Prop) (v : Value) (s' : Shared) : Prop := ∃ c, v = .bool c ∧ Q (.bool (!c)) s'
theorem one_call {Q : Value → Shared → Prop} (hu : A.in1.units < cLine) (X : K.In s.heap) (I : InstAt s.heap x ox C od) (hm : mroIn K C (.type "object") = some true) (hs : findIn K (.ref C) "__eq__" = some (some (.ref f))) (hf : isFn K (.ref f) = true)
    (h : wpAny (model prog w) A.in1 (call (.ref f) [.ref x, b]) (NotBack Q) E s) : wpAny (model prog w) A (call (.builtin "object.__ne__") [.ref x, b]) Q E s := by
  refine wpAny_call (codeAny_call_builtin slot_one.plain PySem.F.cmpEntry_ne (check_slot (i := "object.__ne__") (owner := "object") (n := "__ne__") PySem.F.cmpKind_ne PySem.F.cmpSplit_ne (I.type.andThen (looks_mroIn X hm)) (PySem.F.cmpArgs_ne _ _) ?_))
  unfold Builtin.«object.__ne__»
  refine wpAny_bind (m := slotArgs "__ne__" 1 _) (wpAny_pure ?_)
  refine wpAny_bind (m := cRoomFor _ _) (wpAny_cRoomFor hu ?_)
  refine wpAny_bind (m := callSpecialIfBound? (.ref x) (Str.ofString "__eq__") _) (ifBound_K X I hs hf (wpAny_mono h (fun r s' hq => ?_) fun _ _ y => y))
  obtain ⟨c, rfl, hq⟩ := hq
  refine wpAny_bind (m := truthy (.bool c)) (wpAny_truthy_bool ?_)
  exact wpAny_pure hq
theorem ne_K {Q : Value → Shared → Prop} (hu : A.units < cLine) (hu1 : A.in1.units < cLine) (F : Fr h₀ L s.heap m) (X₀ : K.In h₀) (I : InstAt s.heap x ox C od) (hb : Looks (model prog w) s.heap (typeOf b) tb) (hn : notFirst K C tb = true)
    (hm : mroIn K C (.type "object") = some true) (h1 : findIn K (.ref C) "__ne__" = some (some (.builtin "object.__ne__"))) (hs : findIn K (.ref C) "__eq__" = some (some (.ref f))) (hf : isFn K (.ref f) = true)
    (h : wpAny (model prog w) A.in1 (call (.ref f) [.ref x, b]) (NotBack Q) E s) : wpAny (model prog w) A (richCompare .NotEq (.ref x) b) Q E s := by
  have X := X₀.keeps F.keep
  have one : wpAny (model prog w) A (tryCompare (.ref x) "__ne__" b) (fun r s' => ∃ v, r = some v ∧ Q v s') E s := by
    unfold tryCompare
    refine wpAny_bind ?_
    simp only [callSpecialIfBound?, bindSpecialIfBound?]
    refine wpAny_holding (wpAny_bind (wpAny_bind (wpAny_bind (I.type.here ((looks_findIn X h1).here ?_)))))
    refine wpAny_bind (wpAny_askSetting (wpAny_ite ?_))
    have fin : wpAny (model prog w) A (call (.builtin "object.__ne__") ([.ref x] ++ [b]) >>= fun v => pure (some v)) (fun r s' => wpAny (model prog w) A (match r with | some .notImplemented | none => pure none | some v => pure (some v)) (fun r s' => ∃ v, r = some v ∧ Q v s') E s') E s := by
      refine wpAny_bind (one_call hu1 X I hm hs hf (wpAny_mono h (fun v s' z => ?_) fun _ _ z => z))
      obtain ⟨c, rfl, hq⟩ := z
      exact ⟨c, rfl, wpAny_pure (wpAny_pure ⟨_, rfl, hq⟩)⟩
    split
    · exact wpAny_bind ((Looks.of_pure (slot_one.bind (.ref x))).here (wpAny_pure (by exact fin)))
    · exact wpAny_tryCatch (wpAny_bind ((Looks.of_pure (slot_one.bind (.ref x))).here (wpAny_pure (by exact fin))))
  unfold richCompare
  simp only [oneThing_ref]
  refine wpAny_holding (wpAny_bind (wpAny_cRoomFor hu ?_))
  refine wpAny_bind (I.type.here (wpAny_bind (hb.here ?_)))
  split
  · rename_i q
    have e : subIn K tb (.ref C) = some false := by
      rcases Bool.or_eq_true_iff.mp hn with e | e
      · rw [beq_iff_eq.mp e] at q; simp at q
      · exact beq_iff_eq.mp e
    refine wpAny_bind ((looks_subIn X e).here ?_)
    simp only [Bool.false_eq_true, if_false]
    refine wpAny_bind (wpAny_mono one (fun r s' z => ?_) fun _ _ e => e)
    obtain ⟨v, rfl, hq⟩ := z
    exact wpAny_pure hq
  · refine wpAny_bind (wpAny_pure ?_)
    simp only [Bool.false_eq_true, if_false]
    refine wpAny_bind (wpAny_mono one (fun r s' z => ?_) fun _ _ e => e)
    obtain ⟨v, rfl, hq⟩ := z
    exact wpAny_pure hq
end
section
variable {X : Cx} {CX : CXT} {k : Nat} {ps : List Str} {sp : Sp} {E : XK} {C : Addr}
def rNeO (K : PySem.W.Frag) (C : Addr) (sp : Sp) (E : XK) : R2 := fun x y H Q => ∃ a dx fs t, x = .ref a ∧ H a = some (.ins C dx fs) ∧ TyX K H y t ∧ PySem.W.notFirst K C t = true ∧ sp [.ref a, y] H (fun v H' => ∃ b, v = .bl b ∧ Q (.bl (!b)) H') E
theorem op_neO (M : CmpAt X.prog X.w X.K X.mg X.base CX k C "__eq__" ps sp) (hm : PySem.W.mroIn X.K C (.type "object") = some true) (h1 : PySem.W.findIn X.K (.ref C) "__ne__" = some (some (.builtin "object.__ne__"))) (hr : Room (k + 1) X.A) (hx : Passes CX X E) : OpR X (compareOp .NotEq) (rNeO X.K C sp E) := by
  intro pins s σ H x y v u Q I rx ry h
  obtain ⟨f, fd, hs, hf, F, hb⟩ := M.ex
  obtain ⟨a, dx, fs, t, rfl, ha, ty, hn, hsp⟩ := h
  obtain rfl : v = Value.ref a := rx
  obtain ⟨ox, od, J, _⟩ := ins_plain I ha
  obtain ⟨m', hF⟩ := I.fr
  obtain ⟨Pz, Z, pz, _⟩ := kit_of I ry ty
  have U : Und X k X.A.in1 := (Und.here hr).in1
  refine ne_K hr.units0 U.room.units0 hF I.ok.mod.kin J (Z.ty _ _ I.kIn pz) hn hm h1 hs hf (wpAny_mono (run_at (vs := [.ref a, y]) F hb hx U I (.cons rfl (.cons ry .nil)) hsp) (fun v s' z => ?_) fun _ _ z => z)
  obtain ⟨z, H', I', rz, b, rfl, q⟩ := z
  obtain rfl : v = Value.bool b := rz
  exact ⟨b, rfl, .bl (!b), H', I', rfl, q⟩
end
end My
/-! Static methods by the class's name; ints divided by ints of any sign; lists beside the empty one. -/
namespace My
open PySem PySem.Spec PySem.Calls PyProof.Rows L2
/-- C.m is a staticmethod with the def at f -/
structure Stat (K : PySem.W.Frag) (C : Addr) (m : Str) (f : Addr) : Prop where
  ga : PySem.W.specialIn K (.ref C) "__getattribute__" = some (some (.builtin "type.__getattribute__"))
  rc : ∃ (mc : Value) (p : Addr) (rest : List Value), PySem.W.readsIn K C mc = true ∧ PySem.W.findCls K (.ref C) mc m = some (.get (.builtin "staticmethod.__get__") (.ref p) .none (.ref C)) ∧ PySem.W.recIn K p "staticmethod" = some (.ref f :: rest)
  kp : PySem.W.keepIn K (.ref f) = true
structure StatAt (P : Program) (w : World) (K : PySem.W.Frag) (mg : Str → Option Value) (base : Heap) (CX : CXT) (k : Nat) (C : Addr) (m : Str) (ps : List Str) (sp : Sp) : Prop where
  ex : ∃ f fd, Stat K C m f ∧ FnOk P w K mg base CX k f fd ps sp ∧ L2.Binds K fd ps []
structure StatK (P : Program) (w : World) (K : PySem.W.Frag) (mg : Str → Option Value) (base : Heap) (CX : CXT) (k : Nat) (C : Addr) (m : Str) (ps ks : List Str) (sp : Sp) (gV : List V → List V → List V) : Prop where
  ex : ∃ f fd g, Stat K C m f ∧ FnOk P w K mg base CX k f fd ps sp ∧ KBn K fd ps 0 ks g gV
section
variable {X : Cx} {CX : CXT} {k : Nat} {C : Addr} {ps ks : List Str} {sp : Sp} {E : XK} {m : Str} {e o : Expr} {es : List Expr} {kws : List Keyword} {t tk : TA} {ta : TE} {pos apos : Pos} {gV : List V → List V → List V}
theorem getstat_ok {pins : List (Addr × Obj)} {σ : L2.St} {H : Hp} {s : Shared} {f : Addr} {pl : Sem Bool} {A : Around} {Er : Value → Shared → Prop} {Q : Value × List Value → Shared → Prop} (I : Inv X pins σ H s) (c : Stat X.K C m f) (h : ∀ s', Inv X pins σ H s' → Q (.ref f, []) s') : wpAny (model X.prog X.w) A (getMethod (.ref C) m pl) Q Er s := by
  obtain ⟨mc, p, rest, h1, h2, h3⟩ := c.rc
  refine PySem.W.method_cls I.kIn c.ga (PySem.W.cls_bind I.kIn h1 h2 ?_)
  exact wpAny_call (PySem.W.sm_get (s := { s with toks := s.toks + 1 }) I.kIn h3 (PySem.W.handed_on rfl (h _ (I.tok _))))
def tStat (C : Addr) (sp : Sp) (E : XK) (ta : TE) (t : TA) : TE := fun σ H Q => ta σ H fun x H1 => x = .ref C ∧ t σ H1 fun vs H2 => sp vs H2 Q E
theorem pe_st {pl : Sem Bool} (M : StatAt X.prog X.w X.K X.mg X.base CX k C m ps sp) (hr : Room k X.A) (hx : Passes CX X E) (he : PE X o ta) (ha : PA X (e :: es) t)
    (hst : starEach (e :: es) X.env = (false, eval e X.env) :: starEach es X.env := by rfl) (hpl : (backTo pos (starEach es X.env)).any (·.1) = false := by rfl)
    (ht : eval (.Call (.Attribute o m apos) (e :: es) [] pos) X.env = (do
      let ov ← eval o X.env
      standAt apos.atName
      let (f, first) ← holding [ov] (getMethod ov m pl)
      callWith pos f first (backTo pos (starEach (e :: es) X.env)) (backToKw pos (keywordEach [] X.env))) := by rfl) :
    PE X (.Call (.Attribute o m apos) (e :: es) [] pos) (tStat C sp E ta t) := by
  obtain ⟨f, fd, c, F, b⟩ := M.ex
  refine ⟨fun pins s σ H Q I h => ?_⟩
  refine PySem.W.methodCall_KW (pl := pl) (thn (he.run pins s σ H _ I h) fun u s1 ⟨x, H1, I1, rx, ex, q⟩ => ?_) ht
  subst ex
  obtain rfl : u = Value.ref C := rx
  refine getstat_ok I1 c fun s1 I1 => ?_
  refine PySem.W.callWith_K (first := []) (h₀ := X.base) I.ok.mod.kin c.kp (thn (ha.run pos pins s1 σ H1 _ I1 q) fun us s2 ⟨vs, H2, I2, r, q2⟩ => ⟨I2.kIn, ?_⟩) hst hpl
  exact run_fn (us := us) (vs := vs) F hr b .nil hx I2 r (by rw [List.append_nil]; exact q2)
def tStatK (C : Addr) (j : Nat) (sp : Sp) (gV : List V → List V → List V) (E : XK) (ta : TE) (tk : TA) : TE := fun σ H Q => ta σ H fun x H1 => x = .ref C ∧ tk σ H1 fun zs H2 => zs.length = j ∧ sp (gV [] zs) H2 Q E
theorem pe_stK {pl : Sem Bool} (M : StatK X.prog X.w X.K X.mg X.base CX k C m ps ks sp gV) (hr : Room k X.A) (hx : Passes CX X E) (he : PE X o ta) (hkw : PK X kws tk)
    (hall : (backToKw pos (keywordEach kws X.env)).all (·.1.isSome) = true := by rfl) (hks : (backToKw pos (keywordEach kws X.env)).filterMap (·.1) = ks := by rfl)
    (hpl : ((backTo pos (starEach [] X.env)).any (·.1) || (backToKw pos (keywordEach kws X.env)).any (·.1.isNone)) = false := by rfl)
    (ht : eval (.Call (.Attribute o m apos) [] kws pos) X.env = (do
      let ov ← eval o X.env
      standAt apos.atName
      let (f, first) ← holding [ov] (getMethod ov m pl)
      callWith pos f first (backTo pos (starEach [] X.env)) (backToKw pos (keywordEach kws X.env))) := by rfl) :
    PE X (.Call (.Attribute o m apos) [] kws pos) (tStatK C ks.length sp gV E ta tk) := by
  obtain ⟨f, fd, g, c, F, b⟩ := M.ex
  refine ⟨fun pins s σ H Q I h => ?_⟩
  refine PySem.W.methodCall_KW (pl := pl) (thn (he.run pins s σ H _ I h) fun u s1 ⟨x, H1, I1, rx, ex, q⟩ => ?_) ht
  subst ex
  obtain rfl : u = Value.ref C := rx
  refine getstat_ok I1 c fun s1 I1 => ?_
  refine PySem.W.callWith_KW0 (first := []) (h₀ := X.base) I.ok.mod.kin c.kp hall (thn (hkw.run pos pins s1 σ H1 _ I1 q) fun ws s2 ⟨zs, H2, I2, rz, l2, q2⟩ => ⟨I2.kIn, ?_⟩) hpl
  rw [hks]
  exact run_fnN (us := []) (vs := []) F hr b hx I2 .nil rz rfl l2 q2
/-! ### // and % by any int but 0 -/
def CDivX (_ j : Int) : Prop := j ≠ 0 ∧ j.natAbs.log2 < 9000
theorem op_fdivX : OpR X (binaryOp .FloorDiv) (rI CDivX fun i j => .int (i.fdiv j)) := opI fun _ _ _ _ _ _ _ hc q => floordiv_int hc.1 q (.inl (PyProof.noPylong_of_log2 hc.2))
/-! ### lists of unlike lengths -/
def rEqL : R2 := fun x y H Q => ∃ l b xs ys, x = .ref l ∧ y = .ref b ∧ H l = some (.lst xs) ∧ H b = some (.lst ys) ∧ xs.length ≠ ys.length ∧ Q (.bl false) H
theorem op_eqL (hu : X.A.units < cLine) : OpR X (compareOp .Eq) rEqL := by
  intro pins s σ H x y v u Q I rx ry h
  obtain ⟨l, b, xs, ys, rfl, rfl, h1, h2, hn, q⟩ := h
  obtain rfl : v = Value.ref l := rx
  obtain rfl : u = Value.ref b := ry
  obtain ⟨z, its, n, r, hl, e⟩ := I.lstM h1
  obtain ⟨z2, its2, n2, r2, hl2, e2⟩ := I.lstM h2
  have hs : (its.toArray.size != its2.toArray.size) = true := by
    have a1 := r.length
    have a2 := r2.length
    simp only [List.size_toArray, bne_iff_ne, ne_eq]
    omega
  show wpAny (model X.prog X.w) X.A (richCompare .Eq (.ref l) (.ref b)) _ _ s
  refine wpAny_richCompare_same_room (op := .Eq) ⟨_, e, rfl⟩ ⟨_, e2, rfl⟩ PySem.F.slot_list_eq (call_meets PySem.F.slot_list_eq ⟨_, e, rfl⟩ PySem.F.entry_list_eq (PySem.F.args_list_eq_2 _ _) (AutoSeq1.list___eq___list_list_0 l its.toArray n b its2.toArray n2 hs) ⟨e, e2, ?_⟩) hu
  exact ⟨(fun x => nomatch x), .bl false, H, I, rfl, q⟩
end
end My
/-! The order of two pairs of ints; two promises of one def. -/
namespace My
open PySem PySem.Spec PySem.Calls PyProof.Rows L2
def ordP (r : Int → Int → Bool) (z : Bool) (a b c d : Int) : Bool := if a = c then (if b = d then z else r b d) else r a c
def rOrd (K : PySem.W.Frag) (r : Int → Int → Bool) (z : Bool) : R2 := fun x y H Q => ∃ (l m : Addr) (a b c d : Int), x = .ref l ∧ y = .ref m ∧ SqT K H l [.int a, .int b] ∧ SqT K H m [.int c, .int d] ∧ Q (.bl (ordP r z a b c d)) H
theorem int_here {s : Shared} {A : Around} (a c : Int) (t u : Tok) : SeqAt.EqAt A s (.int a t) (.int c u) (decide (a = c)) := by
  have e : (a == c) = decide (a = c) := by
    by_cases q : a = c
    · rw [decide_eq_true q]; exact beq_iff_eq.mpr q
    · rw [decide_eq_false q]; exact beq_eq_false_iff_ne.mpr q
  rw [← e]
  exact SeqAt.EqAt.int_int _ _ _ _
theorem op_ordV {X : Cx} {op : CmpOp} {r : Int → Int → Bool} {z : Bool} (hco : ∀ v u, compareOp op v u = richCompare op v u)
    (tup : ∀ {A : Around} {s : Shared} {l b : Addr} {is js : Array Value} {e r : Nat → Bool}, s.heap.IsTuple l is → s.heap.IsTuple b js → A.units < cLine → is.size = 2 → js.size = 2 → (∀ j (h1 : j < is.size) (h2 : j < js.size), SeqAt.EqAt A.in1 s is[j] js[j] (e j)) →
      (∀ j (h1 : j < is.size) (h2 : j < js.size), e j = false → Ob.RcOp op A.in1 s is[j] js[j] (r j)) → Ob.RcOp op A s (.ref l) (.ref b) (Ob.lexAt e r z 0 2))
    (int : ∀ {A : Around} {s : Shared} (a b : Int) (t u : Tok), Ob.RcOp op A s (.int a t) (.int b u) (r a b)) (hu : X.A.units < cLine) : OpR X (compareOp op) (rOrd X.K r z) := by
  intro pins s σ H x y v u Q I rx ry h
  obtain ⟨l, m, a, b, c, d, rfl, rfl, hl, hm, q⟩ := h
  obtain rfl : v = Value.ref l := rx
  obtain rfl : u = Value.ref m := ry
  obtain ⟨is, r1, p1, _⟩ := I.tuple hl
  obtain ⟨js, r2, p2, _⟩ := I.tuple hm
  cases r1 with
  | cons ra r1 =>
    cases r1 with
    | cons rb r1 =>
      cases r1
      cases r2 with
      | cons rc r2 =>
        cases r2 with
        | cons rd r2 =>
          cases r2
          obtain ⟨ta, rfl⟩ := ra
          obtain ⟨tb, rfl⟩ := rb
          obtain ⟨tc, rfl⟩ := rc
          obtain ⟨td, rfl⟩ := rd
          have R := tup (A := X.A) (s := s) (e := fun j => if j = 0 then decide (a = c) else decide (b = d)) (r := fun j => if j = 0 then r a c else r b d) p1 p2 hu rfl rfl (fun j h1 h2 => by
            match j, h1 with
            | 0, _ => exact int_here a c ta tc
            | 1, _ => exact int_here b d tb td) (fun j h1 h2 _ => by
            match j, h1 with
            | 0, _ => exact int a c ta tc
            | 1, _ => exact int b d tb td)
          rw [hco]
          refine R X.prog X.w X.xe (EP X pins σ Q) ⟨.bl _, H, I, rfl, ?_⟩
          have e : Ob.lexAt (fun j => if j = 0 then decide (a = c) else decide (b = d)) (fun j => if j = 0 then r a c else r b d) z 0 2 = ordP r z a b c d := by
            unfold ordP
            simp only [Ob.lexAt_succ, Ob.lexAt_zero]
            by_cases h1 : a = c
            · by_cases h2 : b = d
              · simp [h1, h2]
              · simp [h1, h2]
            · simp [h1]
          rw [e]
          exact q
section
variable {X : Cx}
theorem op_ltP (hu : X.A.units < cLine) : OpR X (compareOp .Lt) (rOrd X.K (fun i j => decide (i < j)) false) := op_ordV (fun _ _ => rfl) (fun {A s l b is js e r} h1 h2 h3 h4 h5 h6 h7 => by have z := Ob.RcOp.tuples_lt h1 h2 h3 h6 h7; rw [h4, h5] at z; exact z) (fun a b t u => Ob.RcOp.lt_int a b t u) hu
theorem op_leP (hu : X.A.units < cLine) : OpR X (compareOp .LtE) (rOrd X.K (fun i j => decide (i ≤ j)) true) := op_ordV (fun _ _ => rfl) (fun {A s l b is js e r} h1 h2 h3 h4 h5 h6 h7 => by have z := Ob.RcOp.tuples_le h1 h2 h3 h6 h7; rw [h4, h5] at z; exact z) (fun a b t u => Ob.RcOp.le_int a b t u) hu
theorem op_gtP (hu : X.A.units < cLine) : OpR X (compareOp .Gt) (rOrd X.K (fun i j => decide (j < i)) false) := op_ordV (fun _ _ => rfl) (fun {A s l b is js e r} h1 h2 h3 h4 h5 h6 h7 => by have z := Ob.RcOp.tuples_gt h1 h2 h3 h6 h7; rw [h4, h5] at z; exact z) (fun a b t u => Ob.RcOp.gt_int a b t u) hu
theorem op_geP (hu : X.A.units < cLine) : OpR X (compareOp .GtE) (rOrd X.K (fun i j => decide (j ≤ i)) true) := op_ordV (fun _ _ => rfl) (fun {A s l b is js e r} h1 h2 h3 h4 h5 h6 h7 => by have z := Ob.RcOp.tuples_ge h1 h2 h3 h6 h7; rw [h4, h5] at z; exact z) (fun a b t u => Ob.RcOp.ge_int a b t u) hu
end
/-! ### within a comprehension -/
theorem op_cmpB {X : Cx} {K : PySem.W.Frag} {CX : CXT} {k : Nat} {C : Addr} {m : Str} {ps : List Str} {sp : Sp} {E : XK} {op : CmpOp} (hK : X.K = K) (M : CmpAt X.prog X.w X.K X.mg X.base CX k C m ps sp) (hr : Room k X.A) (hx : Passes CX X E) (hop : (cmpInfo op).2.1 = m := by rfl)
    (hco : ∀ v u, compareOp op v u = richCompare op v u := by intro _ _; rfl) : OpR X (compareOp op) (rCmpO K C sp E) := by
  subst hK
  exact op_cmpO M hr hx hop hco
/-! ### a def that keeps two promises -/
def spOr (s1 s2 : Sp) : Sp := fun vs H Q E => s1 vs H Q E ∨ s2 vs H Q E
section
variable {P : Program} {w : World} {K : PySem.W.Frag} {mg : Str → Option Value} {base : Heap} {CX : CXT} {k : Nat} {f : Addr} {fd : FuncData} {ps : List Str} {s1 s2 : Sp}
theorem ok_or (h1 : FnOk P w K mg base CX k f fd ps s1) (h2 : FnOk P w K mg base CX k f fd ps s2) : FnOk P w K mg base CX k f fd ps (spOr s1 s2) :=
  ⟨fun vs H Q E h => h.elim (h1.len vs H Q E) (h2.len vs H Q E), fun A outer s H args us vs Q E hr e0 hb r h => h.elim (h1.run A outer s H args us vs Q E hr e0 hb r) (h2.run A outer s H args us vs Q E hr e0 hb r)⟩
theorem okG_or (h1 : FnG P w K mg base CX k f fd ps s1) (h2 : FnG P w K mg base CX k f fd ps s2) : FnG P w K mg base CX k f fd ps (spOr s1 s2) :=
  ⟨fun vs H Q E h => h.elim (h1.len vs H Q E) (h2.len vs H Q E), fun A outer s H args us vs Q E hg hr e0 hb r h => h.elim (h1.run A outer s H args us vs Q E hg hr e0 hb r) (h2.run A outer s H args us vs Q E hg hr e0 hb r)⟩
end
end My
/-! Signs in place; an instance called by keywords; what a comprehension may hold. -/
namespace My
open PySem PySem.Spec PySem.Calls PyProof.Rows L2
section
open PySem.W
variable {prog : Program} {w : World} {M : Model} {A : Around} {E : Value → Shared → Prop} {s : Shared} {K : Frag} {x C L f : Addr} {h₀ : Heap} {m : Str → Option Value} {ox : Obj} {od : Option Obj} {nm : String}
/-- beside one of its own class -/
theorem bin1_S {b : Value} {Q : Value → Shared → Prop} (X : K.In s.heap) (I : InstAt s.heap x ox C od) (hb : Looks (model prog w) s.heap (typeOf b) (.ref C)) (hc : selfFirst K C = true) (hs : findIn K (.ref C) (PySem.dunder nm) = some (some (.ref f))) (hf : isFn K (.ref f) = true)
    (h : wpAny (model prog w) A (call (.ref f) [.ref x, b]) (PySem.W.CmpBack Q) E s) : wpAny (model prog w) A (binaryOp1 nm (.ref x) b) (fun r s' => ∃ v, r = some v ∧ Q v s') E s := by
  obtain ⟨cd, rest, hcd, hm⟩ := ksp_first hc
  have one := ksp_try X I hs hf h
  obtain ⟨hh, g, d, tt, os⟩ := s
  have L1 : Looks (model prog w) hh (typeOf (.ref x)) (.ref C) := I.type
  have L2 : Looks (model prog w) hh (typeOf b) (.ref C) := hb
  have L3 : Looks (model prog w) hh (fillsNumberSlot (.ref C) nm) true := fills_K X hcd hm hs
  unfold binaryOp1
  refine wpAny_bind (L1.at (wpAny_bind (L2.at (wpAny_bind (L3.at ?_)))))
  simp only [beq_self_eq_true, if_true]
  ksp_lk
  refine wpAny_mono one (fun r s' hr' => ?_) fun _ _ e => e
  obtain ⟨v, rfl, hq⟩ := hr'
  ksp_lk
  exact ⟨v, rfl, hq⟩
/-- beside a value of a built-in type -/
theorem bin1_T {T : String} {b : Value} {fo ro rc : Option Value} {Q : Value → Shared → Prop} (X : K.In s.heap) (I : InstAt s.heap x ox C od) (hb : typeOf b = pure (.type T)) (hc : selfFirst K C = true)
    (hs : findIn K (.ref C) (PySem.dunder nm) = some (some (.ref f))) (hf : isFn K (.ref f) = true) (hr : findIn K (.ref C) (dunderR nm) = some rc) (hp : rc = none ∨ ∃ g : Addr, rc = some (.ref g))
    (h1 : findIn K (.type T) (PySem.dunder nm) = some fo) (h2 : findIn K (.type T) (dunderR nm) = some ro) (hsub : subIn K (.type T) (.ref C) = some false)
    (h : wpAny (model prog w) A (call (.ref f) [.ref x, b]) (PySem.W.CmpBack Q) E s) : wpAny (model prog w) A (binaryOp1 nm (.ref x) b) (fun r s' => ∃ v, r = some v ∧ Q v s') E s := by
  obtain ⟨cd, rest, hcd, hm⟩ := ksp_first hc
  have one := ksp_try X I hs hf h
  obtain ⟨hh, g, d, tt, os⟩ := s
  have L1 : Looks (model prog w) hh (typeOf (.ref x)) (.ref C) := I.type
  have L2 : Looks (model prog w) hh (typeOf b) (.type T) := Looks.of_pure hb
  have L3 : Looks (model prog w) hh (fillsNumberSlot (.ref C) nm) true := fills_K X hcd hm hs
  have L4 : Looks (model prog w) hh (fillsNumberSlot (.type T) nm) ((fo.isSome && !isSeqSlot fo) || (ro.isSome && !isSeqSlot ro)) := ksp_fillsT X h1 h2
  have L5 : Looks (model prog w) hh (isSubtype (.type T) (.ref C)) false := looks_subIn X hsub
  have L6 : Looks (model prog w) hh (numberSlotInPython (.ref C) nm) true := ksp_inPy X hs hr hp
  have L7 : Looks (model prog w) hh (numberSlotInPython (.type T) nm) false := Looks.of_pure rfl
  have L8 : Looks (model prog w) hh (typeLookup (.type T) (dunderR nm)) ro := looks_findIn X h2
  generalize ((fo.isSome && !isSeqSlot fo) || (ro.isSome && !isSeqSlot ro)) = right at L4
  have hne : (Value.ref C == Value.type T) = false := Bool.eq_false_iff.mpr fun q => by cases beq_iff_eq.mp q
  unfold binaryOp1
  refine wpAny_bind (L1.at (wpAny_bind (L2.at (wpAny_bind (L3.at ?_)))))
  simp only [hne, Bool.false_eq_true, if_false]
  cases right with
  | false =>
    ksp_lk
    refine wpAny_mono one (fun r s' hr' => ?_) fun _ _ e => e
    obtain ⟨v, rfl, hq⟩ := hr'
    ksp_lk
    exact ⟨v, rfl, hq⟩
  | true =>
    ksp_lk
    refine wpAny_mono one (fun r s' hr' => ?_) fun _ _ e => e
    obtain ⟨v, rfl, hq⟩ := hr'
    ksp_lk
    exact ⟨v, rfl, hq⟩
/-- the class has no slot in place -/
theorem noInplace {h : Heap} {cd : ClassData} {add : Bool} (X : K.In h) (hc : clsIn K C = some cd) (hm : cd.mro = [.ref C, .type "object"]) (h1 : findIn K (.ref C) (dunderI nm) = some none) (h2 : findIn K (.type "object") (dunderI nm) = some none) : Looks M h (fillsInplaceSlot (.ref C) nm add) false := by
  intro A Q E s k q
  have Lm : Looks M h (mroOf (.ref C)) cd.mro := (looks_clsIn X hc).andThen (f := fun cd => pure cd.mro) .now
  have Lm' := Lm.keeps k
  obtain ⟨hh, g, d, tt, os⟩ := s
  have X' : K.In hh := X.keeps k
  have L1 : Looks M hh (typeLookup (.ref C) (dunderI nm)) none := looks_findIn X' h1
  have L2 : Looks M hh (typeLookup (.type "object") (dunderI nm)) none := looks_findIn X' h2
  unfold fillsInplaceSlot
  refine wpAny_bind (Lm'.at ?_)
  rw [hm, List.anyM_cons]
  refine wpAny_bind ?_
  repeat lk
  exact q
theorem inpl_K {op : Operator} {b : Value} {Q : Value → Shared → Prop} {cd : ClassData} (X : K.In s.heap) (I : InstAt s.heap x ox C od) (hc : clsIn K C = some cd) (hm : cd.mro = [.ref C, .type "object"]) (h1 : findIn K (.ref C) (dunderI op.info.2) = some none) (h2 : findIn K (.type "object") (dunderI op.info.2) = some none)
    (h : wpAny (model prog w) A (binaryOp1 op.info.2 (.ref x) b) (fun r s' => ∃ v, r = some v ∧ Q v s') E s) : wpAny (model prog w) A (inplaceOp op (.ref x) b) Q E s := by
  have L2 : Looks (model prog w) s.heap (fillsInplaceSlot (.ref C) op.info.2 (op == .Add)) false := noInplace X hc hm h1 h2
  unfold inplaceOp
  refine wpAny_holding ?_
  dsimp only
  refine wpAny_bind (I.type.here (wpAny_bind (L2.here ?_)))
  simp only [Bool.false_eq_true, if_false]
  refine wpAny_bind (wpAny_mono h (fun r s' z => ?_) fun _ _ e => e)
  obtain ⟨v, rfl, hq⟩ := z
  exact wpAny_pure hq
end
/-- the class has no slot in place -/
structure InpF (K : PySem.W.Frag) (C : Addr) (nm : String) : Prop where
  mro : ∃ cd, PySem.W.clsIn K C = some cd ∧ cd.mro = [.ref C, .type "object"]
  no1 : PySem.W.findIn K (.ref C) (dunderI nm) = some none
  no2 : PySem.W.findIn K (.type "object") (dunderI nm) = some none
section
variable {X : Cx} {CX : CXT} {k : Nat} {ps ks : List Str} {sp : Sp} {E : XK} {C : Addr} {m : Str}
theorem iop_O {op : Operator} (M : CmpAt X.prog X.w X.K X.mg X.base CX k C m ps sp) (B : BinF X.K C op.info.2) (N : InpF X.K C op.info.2) (hr : Room k X.A) (hx : Passes CX X E) (hm : PySem.dunder op.info.2 = m := by rfl) : OpR X (inplaceOp op) (rBinO C sp E) := by
  intro pins s σ H x y v u Q I rx ry h
  obtain ⟨f, fd, hs, hf, F, hb⟩ := M.ex
  obtain ⟨a, dx, fs, rfl, ha, oi, hsp⟩ := h
  obtain rfl : v = Value.ref a := rx
  obtain ⟨ox, od, J, _⟩ := ins_plain I ha
  obtain ⟨cd, c1, c2⟩ := N.mro
  subst hm
  have go : wpAny (model X.prog X.w) X.A (call (.ref f) [.ref a, u]) (PySem.W.CmpBack (EP X pins σ Q)) X.xe s := wpAny_mono (run_at (vs := [.ref a, y]) F hb hx (Und.here hr) I (.cons rfl (.cons ry .nil)) hsp) (fun _ _ z => ep_back z) fun _ _ z => z
  refine inpl_K I.kIn J c1 c2 N.no1 N.no2 ?_
  rcases oi with ⟨b, dy, gs, rfl, hb'⟩ | ⟨j, rfl⟩
  · obtain rfl : u = Value.ref b := ry
    obtain ⟨oy, od', J', _⟩ := ins_plain I hb'
    exact bin1_S I.kIn J J'.type B.sf hs hf go
  · obtain ⟨t, rfl⟩ := ry
    obtain ⟨rc, r1, r2⟩ := B.rc
    obtain ⟨fo, i1⟩ := B.i1
    obtain ⟨ro, i2⟩ := B.i2
    exact bin1_T I.kIn J rfl B.sf hs hf r1 r2 i1 i2 B.su go
/-! ### an instance called -/
/-- f(e, ..), told without the context -/
def tCallI (C : Addr) (sp : Sp) (E : XK) (tf : TE) (t : TA) : TE := fun σ H Q => tf σ H fun y H1 => ∃ a, y = V.ref a ∧ t σ H1 fun vs H2 => (∃ dx fs, H2 a = some (.ins C dx fs)) ∧ sp (V.ref a :: vs) H2 Q E
theorem pe_clI {fe e : Expr} {es : List Expr} {tf : TE} {t : TA} {pos : Pos} (M : CallAt X.prog X.w X.K X.mg X.base CX k C ps sp) (hr : Room k X.A) (hx : Passes CX X E) (hf : PE X fe tf) (ha : PA X (e :: es) t)
    (ht : eval (.Call fe (e :: es) [] pos) X.env = (do callWith pos (← eval fe X.env) [] (backTo pos (starEach (e :: es) X.env)) (backToKw pos (keywordEach [] X.env))) := by rfl)
    (hs : starEach (e :: es) X.env = (false, eval e X.env) :: starEach es X.env := by rfl) (hpl : (backTo pos (starEach es X.env)).any (·.1) = false := by rfl) : PE X (.Call fe (e :: es) [] pos) (tCallI C sp E tf t) := by
  obtain ⟨f, fd, c, F, b⟩ := M.ex
  refine ⟨fun pins s σ H Q I h => ?_⟩
  refine Call_ (thn (hf.run pins s σ H _ I h) fun u s1 ⟨y, H1, I1, ry, a, ey, q⟩ => ?_) ht
  subst ey
  obtain rfl : u = Value.ref a := ry
  refine StX.callO_with (thn (ha.run pos pins s1 σ H1 _ I1 q) fun us s2 ⟨vs, H2, I2, r, ⟨dx, fs, hi⟩, q2⟩ => ?_) hs hpl
  obtain ⟨ox, od, J, hd⟩ := StX.insC_at (X := X) I2 (.inr ⟨dx, fs, hi⟩)
  refine ⟨⟨C, ox, od, J, hd⟩, ?_⟩
  have hl : (Value.ref a :: us ++ []).length = ps.length := by
    rw [List.append_nil, List.length_cons, ← r.length]
    exact F.len _ _ _ _ q2
  have bd := b s2 (.ref a :: us) I2.kIn hl
  rw [List.append_nil] at bd
  refine wpAny_call (PySem.W.kco_code I2.kIn J hd c.at_ c.fn c.fi (codeAny_mono (F.run X.A X.stack s2 H2 ⟨.ref a :: us, []⟩ (.ref a :: us) (.ref a :: vs) _ E hr I2.env0 bd (.cons rfl r) q2) fun r s' hq => ?_))
  match r, hq with
  | .error e, hq => exact hx pins σ H2 s2 e s' I2 hq
  | .ok (.ret z), hq => exact I2.after hq
  | .ok .next, hq => exact False.elim hq
  | .ok .brk, hq => exact False.elim hq
  | .ok .cont, hq => exact False.elim hq
structure CallK (P : Program) (w : World) (K : PySem.W.Frag) (mg : Str → Option Value) (base : Heap) (CX : CXT) (k : Nat) (C : Addr) (ps ks : List Str) (sp : Sp) (gV : List V → List V → List V) : Prop where
  ex : ∃ f fd g, StX.CallO K C f ∧ FnOk P w K mg base CX k f fd ps sp ∧ KBn K fd ps 1 ks g gV
def tCallK (C : Addr) (j : Nat) (sp : Sp) (gV : List V → List V → List V) (E : XK) (tf : TE) (tk : TA) : TE := fun σ H Q => tf σ H fun y H1 => ∃ a, y = V.ref a ∧ tk σ H1 fun zs H2 => zs.length = j ∧ (∃ dx fs, H2 a = some (.ins C dx fs)) ∧ sp (gV [.ref a] zs) H2 Q E
/-- the call's node where the callee is an instance, keywords alone -/
theorem callO_kw {M : Model} {A : Around} {Er : Value → Shared → Prop} {s : Shared} {a : Addr} {pos : Pos} {Q : Value → Shared → Prop} {args : List (Bool × Sem Value)} {kw : List (Option Str × Sem Value)} (hplain : (args.any (·.1) || kw.any (·.1.isNone)) = false)
    (h : wpAny M A (evalArgs (.ref a) true args kw) (fun z s₁ => (∃ C ox od, PySem.W.InstAt s₁.heap a ox C od ∧ ox.data = .plain) ∧ wpAny M A (call (.ref a) ([] ++ z.pos) z.kw) Q Er s₁) Er s) : wpAny M A (callWith pos (.ref a) [] args kw) Q Er s := by
  unfold callWith
  refine wpAny_bind (wpAny_holding (wpAny_mono h (fun z s₁ h₁ => wpAny_bind (wpAny_standAt ?_)) fun _ _ y => y))
  obtain ⟨⟨C, ox, od, J, hd⟩, h₁⟩ := h₁
  simp only [hplain]
  refine wpAny_bind ((PySem.W.kco_keeper (M := M) J hd).here ?_)
  refine wpAny_bind (wpAny_mono (wpAny_operateT h₁) (fun r s₂ hr => wpAny_bind (wpAny_holding (wpAny_point (wpAny_pure hr)))) fun _ _ y => y)
theorem pe_clK {fe : Expr} {kws : List Keyword} {tf : TE} {tk : TA} {pos : Pos} {gV : List V → List V → List V} (M : CallK X.prog X.w X.K X.mg X.base CX k C ps ks sp gV) (hr : Room k X.A) (hx : Passes CX X E) (hf : PE X fe tf) (hkw : PK X kws tk)
    (ht : eval (.Call fe [] kws pos) X.env = (do callWith pos (← eval fe X.env) [] (backTo pos (starEach [] X.env)) (backToKw pos (keywordEach kws X.env))) := by rfl)
    (hall : (backToKw pos (keywordEach kws X.env)).all (·.1.isSome) = true := by rfl) (hks : (backToKw pos (keywordEach kws X.env)).filterMap (·.1) = ks := by rfl)
    (hpl : ((backTo pos (starEach [] X.env)).any (·.1) || (backToKw pos (keywordEach kws X.env)).any (·.1.isNone)) = false := by rfl) : PE X (.Call fe [] kws pos) (tCallK C ks.length sp gV E tf tk) := by
  obtain ⟨f, fd, g, c, F, b⟩ := M.ex
  refine ⟨fun pins s σ H Q I h => ?_⟩
  rw [ht]
  refine wpAny_bind (thn (hf.run pins s σ H _ I h) fun u s1 ⟨y, H1, I1, ry, a, ey, q⟩ => ?_)
  subst ey
  obtain rfl : u = Value.ref a := ry
  refine callO_kw hpl (evalArgs_kw2_nil hall (thn (hkw.run pos pins s1 σ H1 _ I1 q) fun ws s2 ⟨zs, H2, I2, rz, l2, ⟨dx, fs, hi⟩, q2⟩ => ?_))
  obtain ⟨ox, od, J, hd⟩ := StX.insC_at (X := X) I2 (.inr ⟨dx, fs, hi⟩)
  refine ⟨⟨C, ox, od, J, hd⟩, ?_⟩
  rw [hks]
  have r2 := b.rel (vs := [V.ref a]) (us := [Value.ref a]) (.cons rfl .nil) rz
  refine wpAny_call (PySem.W.kco_code I2.kIn J hd c.at_ c.fn c.fi (codeAny_mono (F.run X.A X.stack s2 H2 ⟨[.ref a], ks.zip ws⟩ (g [.ref a] ws) (gV [.ref a] zs) _ E hr I2.env0 (b.to s2 [.ref a] ws I2.kIn rfl (rz.length.symm.trans l2)) r2 q2) fun r s' hq => ?_))
  match r, hq with
  | .error e, hq => exact hx pins σ H2 s2 e s' I2 hq
  | .ok (.ret z), hq => exact I2.after hq
  | .ok .next, hq => exact False.elim hq
  | .ok .brk, hq => exact False.elim hq
  | .ok .cont, hq => exact False.elim hq
/-- a class of the module made by keywords alone -/
structure MakeK (P : Program) (w : World) (K : PySem.W.Frag) (mg : Str → Option Value) (base : Heap) (CX : CXT) (k : Nat) (x : Str) (C : Addr) (ps ks : List Str) (sp : Sp) (gV : List V → List V → List V) : Prop where
  ex : ∃ f fd g, Mk K C f ∧ FnOk P w K mg base CX k f fd ps sp ∧ mg x = some (.ref C) ∧ KBn K fd ps 1 ks g gV
theorem pe_mkK {x : Str} {p pos : Pos} {kws : List Keyword} {tk : TA} {gV : List V → List V → List V} (M : MakeK X.prog X.w X.K X.mg X.base CX k x C ps ks sp gV) (hr : Room (k + 1) X.A) (hg : Gl X x) (hx : Passes CX X E) (hkw : PK X kws tk)
    (hall : (backToKw pos (keywordEach kws X.env)).all (·.1.isSome) = true := by rfl) (hks : (backToKw pos (keywordEach kws X.env)).filterMap (·.1) = ks := by rfl) (hdb : (x == ("__debug__" : Str)) = false := by decide)
    (hpl : ((backTo pos (starEach [] X.env)).any (·.1) || (backToKw pos (keywordEach kws X.env)).any (·.1.isNone)) = false := by rfl) : PE X (.Call (.Name x p) [] kws pos) (tMakeK C 0 ks.length sp gV E tNil tk) := by
  obtain ⟨f, fd, g, mk, F, hm, b⟩ := M.ex
  exact pe_makeK0 mk F hr hg hm b hx hkw hall hks hdb hpl
end
end My
/-! For the end: static methods, makers with defaults, calls by keywords. -/
namespace My
open PySem PySem.Spec PyProof.Rows L2
def gApp (vs zs : List V) : List V := vs ++ zs
def gSw (vs zs : List V) : List V := vs ++ zs.reverse
theorem nm_part : Sup.Nm "part" := ⟨by decide, by decide, by decide, by decide, fun _ _ _ _ _ _ _ _ _ _ _ _ => rfl⟩
theorem app_rel {vs : List V} {us : List Value} {zs : List V} {ws : List Value} (h1 : Vals vs us) (h2 : Vals zs ws) : Vals (gApp vs zs) (us ++ ws) := h1.append h2
/-- the class has the static method -/
structure HasS (K : PySem.W.Frag) (C : Addr) (m qual : Str) (st : Stmt) : Prop where
  ex : ∃ f fd, Stat K C m f ∧ Fun K m qual st f fd
section
variable {P : Program} {w : World} {K : PySem.W.Frag} {mg : Str → Option Value} {base : Heap} {CX : CXT} {k : Nat} {m qual : Str} {st : Stmt} {ps ks : List Str} {sp : Sp} {C : Addr}
theorem stat_at (A : HasS K C m qual st) (ok : ∀ f fd, Fun K m qual st f fd → FnOk P w K mg base CX k f fd ps sp) (b : BindW m qual st ps) : StatAt P w K mg base CX k C m ps sp := by
  obtain ⟨f, fd, h1, F⟩ := A.ex
  exact ⟨f, fd, h1, ok f fd F, F.binds b⟩
theorem statK_at {gV : List V → List V → List V} {g : List Value → List Value → List Value} (A : HasS K C m qual st) (ok : ∀ f fd, Fun K m qual st f fd → FnOk P w K mg base CX k f fd ps sp)
    (b : ∀ (kV doc pm : Value) (an : Option Addr) (cdv ct : Value) (us ws : List Value), us.length = 0 → ws.length = ks.length → bindArgs (PySem.W.fnOf m qual (defArgs st) (defBody st) (defScope st) .none kV doc pm an cdv ct) ⟨us, ks.zip ws⟩ = pure (ps.zip (g us ws)))
    (r : ∀ {vs : List V} {us : List Value} {zs : List V} {ws : List Value}, Vals vs us → Vals zs ws → Vals (gV vs zs) (g us ws)) : StatK P w K mg base CX k C m ps ks sp gV := by
  obtain ⟨f, fd, h1, F⟩ := A.ex
  obtain ⟨oc, od, kV, doc, pm, an, cdv, ct, osl, rfl, _⟩ := id F.ex
  exact ⟨f, _, g, h1, ok f _ F, ⟨fun s us ws _ l1 l2 => .of_eq (b kV doc pm an cdv ct us ws l1 l2), r⟩⟩
end
theorem sw_rel {vs : List V} {us : List Value} {zs : List V} {ws : List Value} (h1 : Vals vs us) (h2 : Vals zs ws) : Vals (gSw vs zs) (us ++ ws.reverse) := h1.append h2.reverse
theorem kinds7 {K : PySem.W.Frag} {C : Addr} (a0 : PySem.W.kitOne K (.type "int") (.ref C) = some false) (b0 : PySem.W.notFirst K C (.type "int") = true) (a1 : PySem.W.kitOne K (.type "tuple") (.ref C) = some false) (b1 : PySem.W.notFirst K C (.type "tuple") = true) (a2 : PySem.W.kitOne K (.type "NoneType") (.ref C) = some false) (b2 : PySem.W.notFirst K C (.type "NoneType") = true) (a3 : PySem.W.kitOne K (.type "str") (.ref C) = some false) (b3 : PySem.W.notFirst K C (.type "str") = true) (a4 : PySem.W.kitOne K (.type "list") (.ref C) = some false) (b4 : PySem.W.notFirst K C (.type "list") = true) (a5 : PySem.W.kitOne K (.type "bool") (.ref C) = some false) (b5 : PySem.W.notFirst K C (.type "bool") = true) (a6 : PySem.W.kitOne K (.type "dict") (.ref C) = some false) (b6 : PySem.W.notFirst K C (.type "dict") = true) : ∀ t ∈ ["int", "tuple", "NoneType", "str", "list", "bool", "dict"], PySem.W.kitOne K (.type t) (.ref C) = some false ∧ PySem.W.notFirst K C (.type t) = true := fun t ht => by
  simp only [List.mem_cons, List.mem_nil_iff, or_false] at ht
  rcases ht with rfl | rfl | rfl | rfl | rfl | rfl | rfl
  · exact ⟨a0, b0⟩
  · exact ⟨a1, b1⟩
  · exact ⟨a2, b2⟩
  · exact ⟨a3, b3⟩
  · exact ⟨a4, b4⟩
  · exact ⟨a5, b5⟩
  · exact ⟨a6, b6⟩
section
variable {P : Program} {w : World} {K : PySem.W.Frag} {mg : Str → Option Value} {base : Heap} {CX : CXT} {k : Nat} {x qual : Str} {st : Stmt} {ps ks : List Str} {sp : Sp} {C : Addr} {dvs : List V}
/-- the class is made with its defaults left out -/
theorem make_dfl {n : Nat} (A : HasD K C "__init__" qual st dvs []) (hx : mg x = some (.ref C)) (mk : PySem.W.makesIn K C = true) (kp : PySem.W.keepIn K (.ref C) = true) (ok : ∀ f fd, FunD K "__init__" qual (defArgs st) (defBody st) (defScope st) dvs [] f fd → FnOk P w K mg base CX k f fd ps sp) (hd : dvs ≠ []) (hn : n + (dvs.length - 0) = ps.length)
    (b : ∀ (T : Addr) (kV doc pm : Value) (an : Option Addr) (cdv ct : Value) (us its : List Value), us.length = n → its.length = dvs.length →
      ∃ k, bindArgs (PySem.W.fnOf "__init__" qual (defArgs st) (defBody st) (defScope st) (.ref T) kV doc pm an cdv ct) ⟨us, []⟩ = seqItems? (.ref T) >>= k ∧ k (some its.toArray) = pure (ps.zip (us ++ its.drop 0))) : MakeAt P w K mg base CX k x C ps sp dvs := by
  obtain ⟨f, fd, h1, h2, F⟩ := A.ex
  obtain ⟨ds, r, bs⟩ := F.binds1 n 0 hd hn b
  rw [List.drop_zero] at r
  exact ⟨f, fd, ds, ⟨mk, h1, h2, kp⟩, ok f fd F, hx, bs, r⟩
theorem make_sw (A : HasD K C "__init__" qual st dvs []) (hx : mg x = some (.ref C)) (mk : PySem.W.makesIn K C = true) (kp : PySem.W.keepIn K (.ref C) = true) (ok : ∀ f fd, FunD K "__init__" qual (defArgs st) (defBody st) (defScope st) dvs [] f fd → FnOk P w K mg base CX k f fd ps sp) (hd : dvs ≠ [])
    (b : ∀ (T : Addr) (kV doc pm : Value) (an : Option Addr) (cdv ct : Value) (us its ws : List Value), us.length = 1 → its.length = dvs.length → ws.length = ks.length →
      ∃ k, bindArgs (PySem.W.fnOf "__init__" qual (defArgs st) (defBody st) (defScope st) (.ref T) kV doc pm an cdv ct) ⟨us, ks.zip ws⟩ = seqItems? (.ref T) >>= k ∧ k (some its.toArray) = pure (ps.zip (us ++ ws.reverse))) : MakeK P w K mg base CX k x C ps ks sp gSw := by
  obtain ⟨f, fd, h1, h2, F⟩ := A.ex
  obtain ⟨its, kb⟩ := F.kbindsD (ps := ps) 1 ks (fun us _ ws => us ++ ws.reverse) hd (fun h1 _ h3 => h1.append h3.reverse) b
  exact ⟨f, fd, _, ⟨mk, h1, h2, kp⟩, ok f fd F, hx, kb⟩
theorem callK_at {g : List Value → List Value → List Value} (A : HasM K C "__call__" qual st) (ok : ∀ f fd, Fun K "__call__" qual st f fd → FnOk P w K mg base CX k f fd ps sp)
    (b : ∀ (kV doc pm : Value) (an : Option Addr) (cdv ct : Value) (us ws : List Value), us.length = 1 → ws.length = ks.length → bindArgs (PySem.W.fnOf "__call__" qual (defArgs st) (defBody st) (defScope st) .none kV doc pm an cdv ct) ⟨us, ks.zip ws⟩ = pure (ps.zip (us ++ ws))) : CallK P w K mg base CX k C ps ks sp gApp := by
  obtain ⟨f, fd, h1, h2, F⟩ := A.ex
  obtain ⟨oc, od, kV, doc, pm, an, cdv, ct, osl, rfl, lk, _⟩ := id F.ex
  refine ⟨f, _, _, ⟨h1, h2, ?_⟩, ok f _ F, ⟨fun s us ws _ l1 l2 => .of_eq (b kV doc pm an cdv ct us ws l1 l2), app_rel⟩⟩
  unfold PySem.W.fnIn
  rw [lk]
end
end My
/-! int == an instance; bool(x), abs(x) of an instance; // and % of an int by an instance. -/
namespace My
open PySem PySem.Spec PySem.Calls PyProof.Rows L2
theorem is_fdv {K : PySem.W.Frag} : IntSlot K (Operator.info .FloorDiv).2 "int.__floordiv__" Builtin.«int.__floordiv__» := ⟨PySem.F.slot_int_floordiv, PySem.F.entry_int_floordiv, PySem.F.args_int_floordiv_2, dec_floordiv⟩
theorem is_mod {K : PySem.W.Frag} : IntSlot K (Operator.info .Mod).2 "int.__mod__" Builtin.«int.__mod__» := ⟨PySem.F.slot_int_mod, PySem.F.entry_int_mod, PySem.F.args_int_mod_2, dec_mod⟩
section
open PySem.W
variable {prog : Program} {w : World} {A : Around} {E : Value → Shared → Prop} {s : Shared} {K : Frag} {x C L f : Addr} {h₀ : Heap} {m : Str → Option Value} {ox : Obj} {od : Option Obj}
theorem bool_call {Q : Value → Shared → Prop} (F : Fr h₀ L s.heap m) (X₀ : K.In h₀) (I : InstAt s.heap x ox C od) (hs : findIn K (.ref C) "__bool__" = some (some (.ref f))) (hf : isFn K (.ref f) = true)
    (h : wpAny (model prog w) A.in1.in1 (call (.ref f) [.ref x]) (PySem.W.BoolBack fun b s' => Q (.bool b) s') E s) : wpAny (model prog w) A (call (.type "bool") [.ref x]) Q E s := by
  refine callType_codes (T := "bool") (Bi := Builtin.«object.__init__») (Q₁ := fun r s' => ∃ b, r = .bool b ∧ Q r s') PySem.F.called_bool (PySem.F.typeCall_bool_1 _) PySem.F.entry_object_init ?_ ?_
  · refine codeAny_of_tree ?_
    show wpAny _ A.in1.in1 (do checkBuiltinCall "bool.__new__" ⟨[.type "bool", .ref x], []⟩; again (.builtin "bool.__new__" ⟨[.type "bool", .ref x], []⟩)) _ _ s
    refine wpAny_bind (wpAny_of_eq (PySem.F.newCall_bool_1 _) (wpAny_pure ⟨plainId_quiet (by decide +kernel) _, codeAny_builtin PySem.F.entry_bool_new ?_⟩))
    rw [Around.under_plainId (by decide +kernel) _]
    unfold Builtin.«bool.__new__»
    have f1 := PySem.F.conv_sub_bool
    have go : wpAny (model prog w) A.in1.in1 (truthy (.ref x)) (fun b s' => Q (.bool b) s') E s := truthy_K F X₀ I hs hf h
    refine wpAny_bind (m := isType (.type "bool")) (wpAny_pure ?_)
    refine wpAny_bind (m := isSubtype (.type "bool") (.type "bool")) (wpAny_of_eq f1 ?_)
    refine wpAny_bind (wpAny_pure ?_)
    refine wpAny_bind (m := truthy (.ref x)) (wpAny_mono go (fun b s' hq => ?_) fun _ _ y => y)
    exact wpAny_pure ⟨b, rfl, hq⟩
  · rintro obj s' ⟨b, rfl, hq⟩
    exact ⟨PySem.typeIs_bool _ _, PySem.F.args_object_init_2 _ _, object_init_meets PySem.F.called_bool.init.lookup PySem.F.called_bool.made (by decide) prog w A.in1 _ s' ⟨PySem.typeIs_bool _ _, rfl, hq⟩⟩
theorem abs_call {Q : Value → Shared → Prop} (X : K.In s.heap) (I : InstAt s.heap x ox C od) (hs : findIn K (.ref C) "__abs__" = some (some (.ref f))) (hf : isFn K (.ref f) = true)
    (h : wpAny (model prog w) A.in1 (call (.ref f) [.ref x]) Q E s) : wpAny (model prog w) A (call (.builtin "abs") [.ref x]) Q E s := by
  refine call_function_entry kind_abs plain_abs entry_abs (args_abs _) ?_
  unfold Builtin.«abs»
  refine wpAny_bind (m := oneArg "abs" _) (wpAny_pure ?_)
  refine wpAny_bind (m := callSpecial? (.ref x) (Str.ofString "__abs__")) (special_fn X I hs (beq_iff_eq.mp hf) (wpAny_mono h (fun r s' hr => ?_) fun _ _ y => y))
  exact wpAny_pure ⟨_, rfl, hr⟩
end
section
variable {X : Cx} {CX : CXT} {k : Nat} {C : Addr} {ps : List Str} {sp : Sp} {E : XK}
theorem op_eqR (M : CmpAt X.prog X.w X.K X.mg X.base CX k C "__eq__" ps sp) (su : PySem.W.subIn X.K (.ref C) (.type "int") = some false) (hr : Room k X.A) (hx : Passes CX X E) : OpR X (compareOp .Eq) (rCmpR C sp E) := op_cmpRv M su hr hx rfl (fun _ _ => rfl) (fun _ _ _ => rfl) PySem.F.slot_int_eq PySem.F.entry_int_eq PySem.F.args_int_eq_2 dec_eq
/-- bool(x) of an instance with its own __bool__ -/
def rBoolO (C : Addr) (sp : Sp) (E : XK) : List V → Hp → VK → Prop := fun xs H Q => ∃ a dx fs, xs = [.ref a] ∧ H a = some (.ins C dx fs) ∧ sp [.ref a] H (fun v H' => ∃ b, v = .bl b ∧ Q v H') E
theorem call_boolO (M : CmpAt X.prog X.w X.K X.mg X.base CX k C "__bool__" ps sp) (hr : Room (k + 2) X.A) (hx : Passes CX X E) : CallR X (.type "bool") (rBoolO C sp E) := by
  intro pins s σ H xs us Q I r h
  obtain ⟨f, fd, hs, hf, F, hb⟩ := M.ex
  obtain ⟨a, dx, fs, rfl, ha, hsp⟩ := h
  obtain ⟨u, rfl, r1⟩ := vals1 r
  obtain rfl : u = Value.ref a := r1
  obtain ⟨ox, od, J, _⟩ := ins_plain I ha
  obtain ⟨m', hF⟩ := I.fr
  have U : Und X k X.A.in1.in1 := (Und.here hr).in1.in1
  refine bool_call hF I.ok.mod.kin J hs hf (wpAny_mono (run_at (vs := [.ref a]) F hb hx U I (.cons rfl .nil) hsp) (fun v s' z => ?_) fun _ _ z => z)
  obtain ⟨z, H', I', rz, b, rfl, q⟩ := z
  cases (show v = Value.bool b from rz)
  exact ⟨.bl b, H', I', rfl, q⟩
/-- abs(x) of an instance with its own __abs__ -/
def rAbsO (C : Addr) (sp : Sp) (E : XK) : List V → Hp → VK → Prop := fun xs H Q => ∃ a dx fs, xs = [.ref a] ∧ H a = some (.ins C dx fs) ∧ sp [.ref a] H Q E
theorem call_absO (M : CmpAt X.prog X.w X.K X.mg X.base CX k C "__abs__" ps sp) (hr : Room (k + 1) X.A) (hx : Passes CX X E) : CallR X (.builtin "abs") (rAbsO C sp E) := by
  intro pins s σ H xs us Q I r h
  obtain ⟨f, fd, hs, hf, F, hb⟩ := M.ex
  obtain ⟨a, dx, fs, rfl, ha, hsp⟩ := h
  obtain ⟨u, rfl, r1⟩ := vals1 r
  obtain rfl : u = Value.ref a := r1
  obtain ⟨ox, od, J, _⟩ := ins_plain I ha
  have U : Und X k X.A.in1 := (Und.here hr).in1
  exact abs_call I.kIn J hs hf (run_at (vs := [.ref a]) F hb hx U I (.cons rfl .nil) hsp)
end
end My
/-! enumerate of a tuple; a class made by a star; a tuple turned about. -/
namespace My
open PySem PySem.Spec PySem.Calls PyProof.Rows L2
/-! ### enumerate(tuple) -/
theorem enum1_meets {v : Value} {o : Obj} {H : Heap → Prop} (B : Begins v o H) :
    Meets (Builtin.«enumerate.__new__» ⟨[.type "enumerate", v], []⟩) (fun _ R s => H s.heap ∧
      R (.ok (.ret (.ref (s.heap.push o).objs.size))) { s with heap := (s.heap.push o).push { cls := .type "enumerate", data := .fields #[.none, .bool false, .ref s.heap.objs.size, rawInt 0, .none, .none] } }) :=
  .of_wp fun prog w A R s h => by
    obtain ⟨hp, g, d, tk, os⟩ := s
    obtain ⟨h1, h⟩ := h
    have hsub := sub_enumerate
    have q1 : ∀ {A' : Around} {E : Value → Shared → Prop} {Q : Value → Shared → Prop}, Q (.ref hp.objs.size) ⟨hp.push o, g, d, tk, os⟩ → wpAny (model prog w) A' (pyIter v) Q E ⟨hp, g, d, tk, os⟩ :=
      fun q => B.iter prog w _ _ ⟨hp, g, d, tk, os⟩ _ h1 q
    wp_walk using q1
    refine wpAny_stack_any fun st => wpAny_pure ?_
    split
    · rename_i c _ _ _ _ _
      cases (c == Value.type "enumerate")
      · wp_walk using q1
        exact ⟨_, rfl, h⟩
      · wp_walk using q1
        exact ⟨_, rfl, h⟩
    · wp_walk using q1
      exact ⟨_, rfl, h⟩
section
variable {prog : Program} {w : World} {A : Around} {E : Value → Shared → Prop} {s : Shared}
theorem enum1_begins {v : Value} {o : Obj} {H : Heap → Prop} {Q : Value → Shared → Prop} (B : Begins v o H) (h1 : H s.heap)
    (h : ∀ h', IsEnum h' (s.heap.objs.size + 1) s.heap.objs.size 0 .none → h'.get? s.heap.objs.size = some o → h'.objs.size = s.heap.objs.size + 2 →
      (∀ b o, s.heap.get? b = some o → h'.get? b = some o) → Q (.ref (s.heap.objs.size + 1)) { s with heap := h' }) :
    wpAny (model prog w) A (call (.type "enumerate") [v]) Q E s := by
  refine callType_new F.called_enumerate (by decide) (F.typeCall_enumerate_1 _) (F.newCall_enumerate_1 _) (fun obj => F.args_object_init_2 obj _) F.entry_enumerate_new (enum1_meets B) ⟨h1, ?_⟩
  have hz : (s.heap.push o).objs.size = s.heap.objs.size + 1 := Heap.size_push ..
  show _ ∧ _
  rw [hz]
  have he : IsEnum ((s.heap.push o).push { cls := .type "enumerate", data := .fields #[.none, .bool false, .ref s.heap.objs.size, rawInt 0, .none, .none] }) (s.heap.objs.size + 1) s.heap.objs.size 0 .none := by
    have z := Heap.get?_push_size (s.heap.push o) (o := { cls := .type "enumerate", data := .fields #[.none, .bool false, .ref s.heap.objs.size, rawInt 0, .none, .none] }) rfl
    rw [hz] at z
    exact z
  exact ⟨⟨_, he, rfl⟩, h _ he (Heap.get?_push_of_some _ (Heap.get?_push_size _ B.free)) (by rw [Heap.size_push, hz]) fun b o x => Heap.get?_push_of_some _ (Heap.get?_push_of_some _ x)⟩
end
/-- the tuple at a, each item in a new pair -/
def IteT (K : PySem.W.Frag) (a : Addr) : It :=
  ⟨fun i H => ∃ (xs : List V) (x : V), SqT K H a xs ∧ xs[i]? = some x, fun i H v H' => ∃ T x, v = .ref T ∧ H T = none ∧ H' = upd H T (.tup [.int (i : Nat), x]) ∧ ∀ xs, SqT K H a xs → xs[i]? = some x, fun i H => ∃ xs : List V, SqT K H a xs ∧ xs.length = i⟩
theorem turn_enumT {P : Program} {w : World} {K : PySem.W.Frag} {elts : List Expr} {kk : Nat} {tpos : Pos} (a e it : Addr) :
    Turn P w K (.Tuple elts kk tpos) (IteT K a) [e, it] e (fun i h => (∃ old, IsEnum h e it ((i : Nat) : Int) old) ∧ h.IsTupleIter it a i ∧ e ≠ it) where
  mem := by simp
  obj := fun i h st b hb => by
    obtain ⟨⟨old, he⟩, ⟨o, ho, hc, hd⟩, _⟩ := st
    rcases (show b = e ∨ b = it by simpa using hb) with rfl | rfl
    · exact ⟨_, he, fun v q => nomatch q⟩
    · exact ⟨o, ho, fun v q => by rw [hd] at q; cases q⟩
  keep := fun i h h' st k => let ⟨⟨old, he⟩, hi, hne⟩ := st; ⟨⟨old, k e (by simp) _ he⟩, hi.at fun o q => k it (by simp) o q, hne⟩
  item := by
    intro X hP hw hK hc i pins s σ H E I hf st hg
    subst hP hw hK
    obtain ⟨⟨old, he⟩, hit, hne⟩ := st
    obtain ⟨xs, x, hq, hx⟩ := hg
    obtain ⟨its, rv, p, hz⟩ := I.tuple hq
    obtain ⟨u, hu, ru⟩ := rv.get hx
    have hel : e < s.heap.objs.size := Heap.lt_size he
    have hil : it < s.heap.objs.size := by obtain ⟨_, q, _⟩ := hit; exact Heap.lt_size q
    have hat : a ≠ it := fun z => by
      obtain ⟨o1, e1, c1, _⟩ := p
      obtain ⟨o2, e2, c2, _⟩ := hit
      rw [z, e2] at e1
      cases e1
      rw [c2] at c1
      exact absurd c1 (by decide)
    have hae : a ≠ e := fun z => by
      obtain ⟨o1, e1, c1, _⟩ := p
      rw [z, show s.heap.get? e = _ from he] at e1
      cases e1
      exact absurd (show Value.type "enumerate" = Value.type "tuple" from c1) (by decide)
    have D := Draws.tuple (prog := X.prog) (w := X.w) (A := X.A.in1) (I.ok.hd hc) it a hat its.toArray
    have hlt : i < its.toArray.size := by
      have := (List.getElem?_eq_some_iff.mp hu).1
      simpa using this
    refine wpAny_pyNext_enum_itemC (n := its.toArray.size) D he ⟨hit, p⟩ hlt hne (by simp; exact ⟨hne, Ne.symm hae⟩) fun x' h' tk hPx ho hst' hT hsz hk => ?_
    have ex : x' = u := by
      have h1 : its.toArray[i]? = some x' := hPx
      rw [List.getElem?_toArray, hu] at h1
      exact (Option.some.inj h1).symm
    subst ex
    refine ⟨_, rfl, wpAny_letOwnedTupleGo_enum (s := { s with heap := h', toks := tk + 1 }) ho fun h'' he' sb => ?_⟩
    have hT2 : h''.get? s.heap.objs.size = some { cls := .type "tuple", data := .seq #[.int i tk, x'] } := (sb.2 _ (Nat.ne_of_gt hel)).trans hT
    have new : ObjOk X.prog X.w (upd H s.heap.objs.size (.tup [.int (i : Nat), x])) h'' s.heap.objs.size (.tup [.int (i : Nat), x]) :=
      ⟨by show 2 ≤ sizeLine; decide, [.int i tk, x'], .cons ⟨_, rfl⟩ (.cons ru .nil), ⟨_, hT2, rfl, _, rfl⟩⟩
    have I1 : Inv X pins σ (upd H s.heap.objs.size (.tup [.int (i : Nat), x])) { s with heap := h'', toks := tk + 1 } :=
      I.turnedNew (ch := [e, it]) (fun b ob hb q => (sb.2 b (fun z => hb (by simp [z]))).trans (hk b ob (fun z => hb (by simp [z])) (fun z => hb (by simp [z])) q)) hf (Nat.le_refl _) new
    refine ⟨.ref s.heap.objs.size, _, I1, rfl, ⟨_, x, rfl, I.hok.fresh (Nat.le_refl _), rfl, fun ys hy => by rw [I.tuple_inj hy hq]; exact hx⟩, ⟨⟨x', ?_⟩, hst'.1.at fun o q => (sb.2 it (Ne.symm hne)).trans q, hne⟩, fun b hb => ?_⟩
    · have e1 : ((i + 1 : Nat) : Int) = (i : Int) + 1 := by omega
      rw [e1]
      exact he'
    · have hb' : b < s.heap.objs.size := by
        rcases (show b = e ∨ b = it by simpa using hb) with rfl | rfl
        · exact hel
        · exact hil
      rw [upd_ne (Nat.ne_of_lt hb')]
      exact (hf b hb).1
  done := by
    intro X hP hw hK hc i pins s σ H E I hf st hg
    subst hP hw hK
    obtain ⟨⟨old, he⟩, hit, hne⟩ := st
    obtain ⟨xs, hq, hx⟩ := hg
    obtain ⟨its, rv, p, hz⟩ := I.tuple hq
    obtain ⟨f0, f1, f2, f3, f4, f5⟩ := hf it (by simp)
    have hl := rv.length
    have hat : a ≠ it := fun z => by
      obtain ⟨o1, e1, c1, _⟩ := p
      obtain ⟨o2, e2, c2, _⟩ := hit
      rw [z, e2] at e1
      cases e1
      rw [c2] at c1
      exact absurd c1 (by decide)
    have D := Draws.tuple (prog := X.prog) (w := X.w) (A := X.A.in1) (I.ok.hd hc) it a hat its.toArray
    have ei : i = its.toArray.size := by
      rw [List.size_toArray]
      omega
    subst ei
    exact wpAny_pyNext_enum_endD D he ⟨hit, p⟩ fun h' eb => ⟨rfl, I.turned (t' := s.toks) (fun b o hb q => eb b o hb q) f0 f1 f3 f4 f5⟩
  self := fun A i s Q E st h => let ⟨⟨_, he⟩, _⟩ := st; wpAny_pyIter_enum he h
def iEnumT (K : PySem.W.Frag) (ta : TA) : TI := fun σ H R => ta σ H fun vs H1 => ∃ a xs, vs = [.ref a] ∧ SqT K H1 a xs ∧ R (IteT K a) H1
theorem pi_enumT {X : Cx} {e : Expr} {ta : TA} {p pos tpos : Pos} {elts : List Expr} {kk : Nat} (hg : Gl X "enumerate") (hm : X.mg "enumerate" = none) (ha : PA X [e] ta) (hs : starEach [e] X.env = [(false, eval e X.env)] := by rfl) :
    PI X (.Tuple elts kk tpos) (.Call (.Name "enumerate" p) [e] [] pos) (iEnumT X.K ta) := by
  refine ⟨fun pins s σ H R I h => ?_⟩
  refine Call_ (ld_blt I hg hm boot_enumerate (PyProof.Rows.callWith_type1 (thn (ha.run pos pins s σ H _ I h) fun us s1 ⟨vs, H1, I1, r1, q1⟩ => ?_) hs rfl))
  obtain ⟨a, xs, ex, hq, q⟩ := q1
  subst ex
  cases r1 with
  | cons r rr =>
    cases rr
    cases r
    obtain ⟨its, rv, p', hz⟩ := I1.tuple hq
    refine enum1_begins (begins_tuple a its.toArray) p' fun h' he hit hsz hk => wpAny_pyIter_enum he ?_
    have I2 : Inv X pins σ H1 { s1 with heap := h' } := I1.kept (t' := s1.toks) hk
    refine ⟨s1.heap.objs.size + 1, [s1.heap.objs.size + 1, s1.heap.objs.size], _, _, H1, rfl, I2, turn_enumT a (s1.heap.objs.size + 1) s1.heap.objs.size, ⟨⟨.none, he⟩, ⟨_, hit, rfl, rfl⟩, Nat.succ_ne_self _⟩, fun b hb => ?_, q⟩
    have hle : s1.heap.objs.size ≤ b := by
      rcases (show b = s1.heap.objs.size + 1 ∨ b = s1.heap.objs.size by simpa using hb) with rfl | rfl
      · exact Nat.le_add_right _ _
      · exact Nat.le_refl _
    exact I1.fpOk hle (I1.hok.fresh hle)
/-! ### t[::-1] of a tuple -/
section
variable {prog : Program} {w : World} {A : Around} {E : Value → Shared → Prop} {s : Shared}
theorem places_rev (n : Nat) : Builtin.Slice.slicePlaces ((n : Int) - 1) (-1) (-1) = n := by
  unfold Builtin.Slice.slicePlaces
  rw [if_neg (by decide)]
  split
  · have e : ((n : Int) - 1 - -1 - 1) / (- -1) + 1 = n := by
      rw [show (- -1 : Int) = 1 by decide, Int.ediv_one]
      omega
    rw [e]
    omega
  · omega
theorem pick_rev (xs : Array Value) : ((List.range xs.size).filterMap fun (k : Nat) => xs[((xs.size : Int) - 1 + (k : Int) * (-1)).toNat]?).toArray = xs.toList.reverse.toArray := by
  have h := PySem.W.krv_pick xs
  rw [← h]
  unfold slicePick
  rw [PySem.W.krv_bounds]
  show _ = ((sliceRange ((xs.size : Int) - 1) (-1) (-1)).filterMap (xs[·]?)).toArray
  rw [PySem.W.krv_sliceRange, List.filterMap_map]
  congr 1
  have go : ∀ l : List Nat, (∀ k ∈ l, k < xs.size) → l.filterMap (fun (k : Nat) => xs[((xs.size : Int) - 1 + (k : Int) * (-1)).toNat]?) = l.filterMap ((fun x => xs[x]?) ∘ fun k => xs.size - 1 - k) := by
    intro l
    induction l with
    | nil => intro _; rfl
    | cons k l ih =>
      intro h
      have hk := h k List.mem_cons_self
      have e : ((xs.size : Int) - 1 + (k : Int) * (-1)).toNat = xs.size - 1 - k := by omega
      rw [List.filterMap_cons, List.filterMap_cons, e, ih fun x hx => h x (List.mem_cons_of_mem _ hx)]
      rfl
  exact go _ fun k hk => List.mem_range.mp hk
theorem getItem_rev {t sl : Addr} {items : Array Value} {vl vu vs : Value} {Q : Value → Shared → Prop} (ht : IsTup s.heap t items) (hs : s.heap.IsSliceOf sl vl vu vs) (pl : IsPart vl none) (pu : IsPart vu none) (ps : IsPart vs (some (-1)))
    (h : Q (.ref s.heap.objs.size) { s with heap := s.heap.push { cls := .type "tuple", data := .seq items.toList.reverse.toArray } }) (hsz : items.size ≤ sizeLine) : wpAny (model prog w) A (getItem (.ref t) (.ref sl)) Q E s := by
  have hok : sizeOk (.seq items.toList.reverse.toArray) := by
    show items.toList.reverse.toArray.size ≤ sizeLine
    rw [List.size_toArray, List.length_reverse, Array.length_toList]
    exact hsz
  obtain ⟨os, hos, hcs, hds⟩ := id hs
  have hTs : s.TypeIs (.ref sl) "slice" := ⟨os, hos, hcs⟩
  unfold getItem
  try with_reducible refine wpAny_holding ?_
  first | refine wpAny_bind (wpAny_pure ?_) | skip
  refine wpAny_bind (wpAny_sequenceKey ht.typeIs (by decide) ?_)
  refine wpAny_bind (wpAny_callSpecial?_slot (name := Str.ofString "__getitem__") ht.typeIs PyProof.Rows.slot_tuple_getitem
    (wpAny_call_entry PyProof.Rows.slot_tuple_getitem ht.typeIs entry_tuple_getitem ?_ (args_tuple_getitem _ _)))
  show wpAny _ _ (Builtin.Tuple.tupleItemsOf (.ref t) >>= _) _ _ s
  refine wpAny_bind (tupleItemsOf_ ht ?_)
  refine wpAny_bind (wpAny_typeOf hTs ?_)
  rw [if_pos (by decide)]
  have app : ∀ {Q : Int × Int × Nat → Shared → Prop}, Q ((items.size : Int) - 1, -1, items.size) s → wpAny (model prog w) A.in1 (Builtin.Slice.sliceApplied (.ref sl) (pure (items.size : Int))) Q E s := fun {Q} q => by
    unfold Builtin.Slice.sliceApplied Builtin.Slice.sliceFields
    refine wpAny_bind (wpAny_bind (wpAny_field hos hds (x := vl) rfl (wpAny_bind (wpAny_field hos hds (x := vu) rfl (wpAny_bind (wpAny_field hos hds (x := vs) rfl (wpAny_pure ?_)))))))
    refine wpAny_bind (HT.slicePart_ ps ?_)
    show wpAny _ _ (if ((-1 : Int) == 0) = true then _ else _) _ _ s
    rw [if_neg (by decide)]
    refine wpAny_bind (HT.slicePart_ pl (wpAny_bind (HT.slicePart_ pu (wpAny_bind (wpAny_pure ?_)))))
    have e : Builtin.Slice.slicePlaces ((items.size : Int) - 1) (-1) (-1) = items.size := places_rev _
    show wpAny _ _ (pure (((items.size : Int) - 1), (-1 : Int), Builtin.Slice.slicePlaces ((items.size : Int) - 1) (-1) (-1))) _ _ s
    rw [e]
    exact wpAny_pure q
  refine wpAny_bind (app ?_)
  have hno : ¬ ((((items.size : Int) - 1) == 0 && (-1 : Int) == 1 && items.size == items.size) = true) := by
    intro q
    rw [Bool.and_eq_true, Bool.and_eq_true] at q
    exact absurd q.1.2 (by decide)
  show wpAny _ _ (if (((items.size : Int) - 1) == 0 && (-1 : Int) == 1 && items.size == items.size) = true then _ else _) _ _ s
  rw [if_neg hno, pick_rev]
  first
    | exact wpAny_bind (m := Builtin.Tuple.tupleExact _) (wpAny_newObj_type (wpAny_pure ⟨_, rfl, wpAny_pure h⟩) hok)
    | exact wpAny_bind (m := Builtin.Tuple.tupleExact _) (wpAny_newObj_type (wpAny_bind (wpAny_pure (wpAny_pure ⟨_, rfl, wpAny_pure h⟩))) hok)
    | exact wpAny_bind (wpAny_bind (m := Builtin.Tuple.tupleExact _) (wpAny_newObj_type (wpAny_pure (wpAny_pure ⟨_, rfl, wpAny_pure h⟩)) hok))
    | exact wpAny_bind (wpAny_bind (m := Builtin.Tuple.tupleExact _) (wpAny_newObj_type (wpAny_pure ⟨_, rfl, wpAny_pure h⟩) hok))
end
end My
/-! A class made by a star, classmethods, x[k] by an own __getitem__, bool of a tuple, a tuple turned about, enumerate in a for. -/
namespace My
open PySem PySem.Spec PySem.Calls PyProof.Rows L2
/-! ### t[::-1] -/
def tRevT (K : PySem.W.Frag) (te : TE) : TE := fun σ H Q => te σ H fun x H1 => ∃ a xs, x = .ref a ∧ SqT K H1 a xs ∧ ∀ p, H1 p = none → Q (.ref p) (upd H1 p (.tup xs.reverse))
theorem pe_revT {X : Cx} {e : Expr} {te : TE} {k : Nat} {p1 p2 p3 pos : Pos} (he : PE X e te) : PE X (.Subscript e (.Slice none none (some (.UnaryOp .USub (.Constant (.int 1) k p1) p2)) p3) pos) (tRevT X.K te) := by
  refine ⟨fun pins s σ H Q I h => ?_⟩
  refine Subscript_ (thn (he.run pins s σ H _ I h) fun v t1 ⟨x, H1, I1, r1, a, xs, ex, hx, q⟩ => ?_)
  subst ex
  cases r1
  have step : PO X (some (.UnaryOp .USub (.Constant (.int 1) k p1) p2)) (tPart (tUn (rU fun i => .int (-i)) (tC (.int 1)))) := po_some (pe_un un_neg pe_int)
  refine wpAny_Slice (thn (po_none.run pins t1 σ H1 (fun o H2 => o = none ∧ H2 = H1) I1 ⟨rfl, rfl⟩) fun vl t2 ⟨l, H2, I2, pl, el, e2⟩ => ?_)
  subst el e2
  refine thn (po_none.run pins t2 σ H2 (fun o H3 => o = none ∧ H3 = H2) I2 ⟨rfl, rfl⟩) fun vu t3 ⟨u, H3, I3, pu, eu, e3⟩ => ?_
  subst eu e3
  refine thn (step.run pins t3 σ H3 (fun o H4 => o = some (-1) ∧ H4 = H3) I3 ⟨1, rfl, -1, rfl, rfl, rfl⟩) fun vs t4 ⟨o, H4, I4, ps, eo, e4⟩ => ?_
  subst eo e4
  have I5 : Inv X pins σ H4 { t4 with heap := t4.heap.push { cls := .type "slice", data := .fields #[vl, vu, vs] } } := I4.kept (t' := t4.toks) fun b ob q => Heap.get?_push_of_some _ q
  obtain ⟨its, r, ht, hz⟩ := I5.tuple hx
  have hlen := r.length
  show wpAny (model X.prog X.w) X.A (subscriptTail e (.Slice none none (some (.UnaryOp .USub (.Constant (.int 1) k p1) p2)) p3) (.ref a) (.ref t4.heap.objs.size)) (EP X pins σ Q) X.xe { t4 with heap := t4.heap.push { cls := .type "slice", data := .fields #[vl, vu, vs] } }
  refine tail_any (ops := [.ref a, .ref t4.heap.objs.size]) ht.typeIs (PyProof.Rows.slot_tuple_getitem.lookup) ?_ (by with_unfolding_all rfl)
  refine getItem_rev ht (Heap.IsSliceOf.new _ vl vu vs) pl pu ps ?_ (by rw [List.size_toArray]; omega)
  refine ⟨.ref _, _, I5.laid (t' := t4.toks) (o := .tup xs.reverse) (fun b ob q => Heap.get?_push_of_some _ q) (Nat.le_refl _) ?_, rfl, q _ (I5.hok.fresh (Nat.le_refl _))⟩
  exact ⟨by rw [List.length_reverse]; exact hz, _, r.reverse, ⟨_, Heap.get?_push_size _ rfl, rfl, _, rfl⟩⟩
/-! ### bool(t) -/
section
variable {prog : Program} {w : World} {A : Around} {E : Value → Shared → Prop} {s : Shared}
theorem bool_tup {t : Addr} {items : Array Value} {Q : Value → Shared → Prop} (hfit : (items.size : Int) < 2 ^ 63) (ht : IsTup s.heap t items) (h : ∀ tk, Q (.bool (!items.isEmpty)) { s with toks := tk }) : wpAny (model prog w) A (call (.type "bool") [.ref t]) Q E s := by
  refine callType_codes (T := "bool") (Bi := Builtin.«object.__init__») (Q₁ := fun r s' => ∃ b, r = .bool b ∧ Q r s') PySem.F.called_bool (PySem.F.typeCall_bool_1 _) PySem.F.entry_object_init ?_ ?_
  · refine codeAny_of_tree ?_
    show wpAny _ A.in1.in1 (do checkBuiltinCall "bool.__new__" ⟨[.type "bool", .ref t], []⟩; again (.builtin "bool.__new__" ⟨[.type "bool", .ref t], []⟩)) _ _ s
    refine wpAny_bind (wpAny_of_eq (PySem.F.newCall_bool_1 _) (wpAny_pure ⟨plainId_quiet (by decide +kernel) _, codeAny_builtin PySem.F.entry_bool_new ?_⟩))
    rw [Around.under_plainId (by decide +kernel) _]
    unfold Builtin.«bool.__new__»
    have f1 := PySem.F.conv_sub_bool
    have go : wpAny (model prog w) A.in1.in1 (truthy (.ref t)) (fun b s' => Q (.bool b) s') E s := truthy_tuple ht hfit (h _)
    refine wpAny_bind (m := isType (.type "bool")) (wpAny_pure ?_)
    refine wpAny_bind (m := isSubtype (.type "bool") (.type "bool")) (wpAny_of_eq f1 ?_)
    refine wpAny_bind (wpAny_pure ?_)
    refine wpAny_bind (m := truthy (.ref t)) (wpAny_mono go (fun b s' hq => ?_) fun _ _ y => y)
    exact wpAny_pure ⟨b, rfl, hq⟩
  · rintro obj s' ⟨b, rfl, hq⟩
    exact ⟨PySem.typeIs_bool _ _, PySem.F.args_object_init_2 _ _, object_init_meets PySem.F.called_bool.init.lookup PySem.F.called_bool.made (by decide) prog w A.in1 _ s' ⟨PySem.typeIs_bool _ _, rfl, hq⟩⟩
end
theorem call_boolT {X : Cx} : CallR X (.type "bool") (fun xs H Q => ∃ (a : Addr) (zs : List V), xs = [.ref a] ∧ SqT X.K H a zs ∧ Q (.bl (!zs.isEmpty)) H) := by
  intro pins s σ H xs us Q I r h
  obtain ⟨a, zs, rfl, hq, q⟩ := h
  obtain rfl := Vals.ref1 r
  obtain ⟨its, rv, pl, hz⟩ := I.tuple hq
  have hl := line63
  have hlen := rv.length
  refine bool_tup (by simp only [List.size_toArray]; omega) pl fun tk => ?_
  exact ⟨.bl (!zs.isEmpty), H, I.tok _, by rw [isEmpty_of rv]; rfl, q⟩
/-! ### a class whose __init__ takes a star -/
structure MakeR (P : Program) (w : World) (K : PySem.W.Frag) (mg : Str → Option Value) (base : Heap) (CX : CXT) (k : Nat) (x : Str) (C : Addr) (sp : Sp) : Prop where
  ex : ∃ f, Mk K C f ∧ FnR P w K mg base CX k f sp ∧ mg x = some (.ref C)
section
variable {X : Cx} {CX : CXT} {k : Nat} {C : Addr} {sp : Sp} {E : XK} {x : Str} {e : Expr} {es : List Expr} {te : TE} {t : TA} {p sp_ pos : Pos}
theorem pe_mkR (M : MakeR X.prog X.w X.K X.mg X.base CX k x C sp) (hr : Room (k + 1) X.A) (hg : Gl X x) (hx : Passes CX X E) (ha : PA X (e :: es) t) (hdb : (x == ("__debug__" : Str)) = false := by decide)
    (he : starEach (e :: es) X.env = (false, eval e X.env) :: starEach es X.env := by rfl) (hpl : (backTo pos (starEach es X.env)).any (·.1) = false := by rfl) : PE X (.Call (.Name x p) (e :: es) [] pos) (StX.tMakeR C sp E t) := by
  obtain ⟨f, mk, F, hm⟩ := M.ex
  exact StX.pe_makeR mk F hr hg hm hx ha hdb he hpl
/-- C() -/
theorem pe_mkR0 (M : MakeR X.prog X.w X.K X.mg X.base CX k x C sp) (hr : Room (k + 1) X.A) (hg : Gl X x) (hx : Passes CX X E) (hdb : (x == ("__debug__" : Str)) = false := by decide) : PE X (.Call (.Name x p) [] [] pos) (StX.tMakeR C sp E tNil) := by
  obtain ⟨f, mk, F, hm⟩ := M.ex
  refine ⟨fun pins s σ H Q I h => ?_⟩
  refine wpAny_Call_Name_kw (ld_glob I hg hm ?_ hdb)
  refine PySem.W.callWith_K0 (first := []) I.kIn mk.kp ?_
  exact StX.run_makeR mk F hr hx I .nil h
/-- C(*e) -/
def tMakeS (K : PySem.W.Frag) (C : Addr) (sp : Sp) (E : XK) (te : TE) : TE := fun σ H Q => te σ H fun y H1 => ∃ a xs, y = V.ref a ∧ (SqT K H1 a xs ∨ SqL K H1 a xs) ∧ ∀ x dx, H1 x = none → H1 dx = none → dx ≠ x →
  sp (V.ref x :: xs) (upd (upd H1 dx (.own x)) x (.ins C dx [])) (fun v H2 => v = .non ∧ Q (.ref x) H2) E
theorem pe_mkS (M : MakeR X.prog X.w X.K X.mg X.base CX k x C sp) (hr : Room (k + 1) X.A) (hg : Gl X x) (hx : Passes CX X E) (he : PE X e te) (hdb : (x == ("__debug__" : Str)) = false := by decide)
    (hst : starEach [.Starred e sp_] X.env = [(true, eval e X.env)] := by rfl) : PE X (.Call (.Name x p) [.Starred e sp_] [] pos) (tMakeS X.K C sp E te) := by
  obtain ⟨f, mk, F, hm⟩ := M.ex
  refine ⟨fun pins s σ H Q I h => ?_⟩
  refine wpAny_Call_Name_kw (ld_glob I hg hm ?_ hdb)
  refine PySem.W.callWith_S (h₀ := X.base) I.ok.mod.kin mk.kp (thn (he.run pins s σ H _ I h) fun v t1 ⟨y, H1, I1, ry, a, xs, ey, hxs, q⟩ => ?_) hst
  subst ey
  obtain rfl : v = Value.ref a := ry
  exact StX.star_any I1 hxs fun us t2 I2 rv => ⟨I2.kIn, StX.run_makeR mk F hr hx I2 rv q⟩
end
/-! ### classmethods -/
theorem fnR_of {P : Program} {w : World} {K : PySem.W.Frag} {mg : Str → Option Value} {base : Heap} {CX : CXT} {k : Nat} {f : Addr} {fd : FuncData} {ps : List Str} {sp : Sp} (F : FnOk P w K mg base CX k f fd ps sp) (b : L2.Binds K fd ps []) : FnR P w K mg base CX k f sp := by
  intro A outer s H us vs Q E hr e0 r hsp
  have hl : (us ++ []).length = ps.length := by
    rw [List.append_nil, ← r.length]
    exact F.len _ _ _ _ hsp
  have hb := b s us (e0.mod.kin.keeps fun b o e => (e0.bs b o e).1) hl
  rw [List.append_nil] at hb
  exact F.run A outer s H ⟨us, []⟩ us vs Q E hr e0 hb r hsp
structure ClsAt (P : Program) (w : World) (K : PySem.W.Frag) (mg : Str → Option Value) (base : Heap) (CX : CXT) (k : Nat) (C : Addr) (m : Str) (sp : Sp) : Prop where
  ex : ∃ mc p g, ClX.CRead K C mc ∧ ClX.CMet K C mc m p g ∧ FnR P w K mg base CX k g sp
theorem pe_cm {X : Cx} {CX : CXT} {k : Nat} {C : Addr} {sp : Sp} {E : XK} {o e : Expr} {es : List Expr} {m : Str} {pos apos : Pos} {ta : TE} {t : TA} {pl : Sem Bool} (M : ClsAt X.prog X.w X.K X.mg X.base CX k C m sp) (hr : Room k X.A) (hx : Passes CX X E) (he : PE X o ta) (ha : PA X (e :: es) t)
    (hst : starEach (e :: es) X.env = (false, eval e X.env) :: starEach es X.env := by rfl) (hpl : (backTo pos (starEach es X.env)).any (·.1) = false := by rfl)
    (ht : eval (.Call (.Attribute o m apos) (e :: es) [] pos) X.env = (do
      let ov ← eval o X.env
      standAt apos.atName
      let (f, first) ← holding [ov] (getMethod ov m pl)
      callWith pos f first (backTo pos (starEach (e :: es) X.env)) (backToKw pos (keywordEach [] X.env))) := by rfl) :
    PE X (.Call (.Attribute o m apos) (e :: es) [] pos) (ClX.tCMeth C sp E ta t) := by
  obtain ⟨mc, p, g, r, c, F⟩ := M.ex
  exact ClX.pe_cmeth he r c F hr hx ha hst hpl ht
/-! ### x[k] by an own __getitem__ -/
structure GetAt (P : Program) (w : World) (K : PySem.W.Frag) (mg : Str → Option Value) (base : Heap) (CX : CXT) (k : Nat) (C : Addr) (ps : List Str) (sp : Sp) : Prop where
  ex : ∃ f fd, PySem.W.findIn K (.ref C) "__getitem__" = some (some (.ref f)) ∧ PySem.W.isFn K (.ref f) = true ∧ PySem.W.fnIn K f = true ∧ FnOk P w K mg base CX k f fd ps sp ∧ L2.Binds K fd ps []
def tGet (C : Addr) (sp : Sp) (E : XK) (ta tb : TE) : TE := fun σ H Q => ta σ H fun x H1 => tb σ H1 fun y H2 => ∃ a dx fs, x = .ref a ∧ H2 a = some (.ins C dx fs) ∧ sp [x, y] H2 Q E
theorem pe_get {X : Cx} {CX : CXT} {k : Nat} {C : Addr} {ps : List Str} {sp : Sp} {E : XK} {a b : Expr} {ta tb : TE} {pos : Pos} (M : GetAt X.prog X.w X.K X.mg X.base CX k C ps sp) (hr : Room (k + 1) X.A) (hx : Passes CX X E) (ha : PE X a ta) (hb : PE X b tb)
    (hsl : ∀ (x : Addr) (i : Value), subscripted b true (.ref x) i = runValue (.builtin "lifetime.subscript" ⟨[.ref x, i], []⟩) := by intro _ _; with_unfolding_all rfl) : PE X (.Subscript a b pos) (tGet C sp E ta tb) := by
  obtain ⟨f, fd, hs, hf, hfn, F, hbd⟩ := M.ex
  refine ⟨fun pins s σ H Q I h => ?_⟩
  refine Subscript_ (binT ha hb I h fun v u s2 x y H2 I2 rx ry q => ?_)
  obtain ⟨p, dx, fs, rfl, hp, hsp⟩ := q
  obtain rfl : v = Value.ref p := rx
  obtain ⟨ox, od, J, _⟩ := ins_plain I2 hp
  obtain ⟨m', hF⟩ := I2.fr
  have U : Und X k X.A.in1 := (Und.here hr).in1
  exact PySem.W.sub_K hF I2.ok.mod.kin J hs hfn hf (run_at (vs := [.ref p, y]) F hbd hx U I2 (.cons rfl (.cons ry .nil)) hsp) (hsl _ _)
end My
/-! A class made by a star, a classmethod, an own __getitem__, from what the top finds. -/
namespace My
open PySem PySem.Spec PyProof.Rows L2
theorem nm_at : Sup.Nm "at" := ⟨by decide, by decide, by decide, by decide, fun _ _ _ _ _ _ _ _ _ _ _ _ => rfl⟩
theorem nm_value : Sup.Nm "value" := ⟨by decide, by decide, by decide, by decide, fun _ _ _ _ _ _ _ _ _ _ _ _ => rfl⟩
structure HasCM (K : PySem.W.Frag) (C : Addr) (m qual : Str) (st : Stmt) : Prop where
  ex : ∃ mc p g fd, ClX.CRead K C mc ∧ ClX.CMet K C mc m p g ∧ Fun K m qual st g fd
section
variable {P : Program} {w : World} {K : PySem.W.Frag} {mg : Str → Option Value} {base : Heap} {CX : CXT} {k : Nat} {x m qual : Str} {st : Stmt} {ps ks : List Str} {sp : Sp} {C : Addr}
theorem makeR_at (A : HasM K C "__init__" qual st) (hx : mg x = some (.ref C)) (mk : PySem.W.makesIn K C = true) (kp : PySem.W.keepIn K (.ref C) = true)
    (ok : ∀ (f : Addr) (oc : Value) (od : Option Addr) (kV doc pm : Value) (an : Option Addr) (cdv ct : Value) (osl : Array (Option Value)), K.lookup f = some ⟨oc, od, .func (PySem.W.fnOf "__init__" qual (defArgs st) (defBody st) (defScope st) .none kV doc pm an cdv ct), osl⟩ → PySem.W.codeIn K cdv qual = true → FnR P w K mg base CX k f sp) : MakeR P w K mg base CX k x C sp := by
  obtain ⟨f, fd, h1, h2, F⟩ := A.ex
  obtain ⟨oc, od, kV, doc, pm, an, cdv, ct, osl, rfl, lk, hcd⟩ := F.ex
  exact ⟨f, ⟨mk, h1, h2, kp⟩, ok f _ _ _ _ _ _ _ _ _ lk hcd, hx⟩
theorem cls_at (A : HasCM K C m qual st) (ok : ∀ f fd, Fun K m qual st f fd → FnOk P w K mg base CX k f fd ps sp) (b : BindW m qual st ps) : ClsAt P w K mg base CX k C m sp := by
  obtain ⟨mc, p, g, fd, h1, h2, F⟩ := A.ex
  exact ⟨mc, p, g, h1, h2, fnR_of (ok g fd F) (F.binds b)⟩
theorem get_at (A : HasM K C "__getitem__" qual st) (ok : ∀ f fd, Fun K "__getitem__" qual st f fd → FnOk P w K mg base CX k f fd ps sp) (b : BindW "__getitem__" qual st ps) : GetAt P w K mg base CX k C ps sp := by
  obtain ⟨f, fd, h1, h2, F⟩ := A.ex
  have F' := F
  obtain ⟨oc, od, kV, doc, pm, an, cdv, ct, osl, rfl, lk, _⟩ := id F.ex
  refine ⟨f, _, h1, h2, ?_, ok f _ F', F'.binds b⟩
  unfold PySem.W.fnIn
  rw [lk]
end
end My
/-! Texts as lists of signs: numbers written and read, slices, words. -/
namespace TX
open PySem PySem.Spec PyProof.Rows L2 TL
def isDig (c : Nat) : Bool := decide (48 ≤ c) && decide (c ≤ 57)
theorem isDig_iff {c : Nat} : isDig c = true ↔ 48 ≤ c ∧ c ≤ 57 := by
  unfold isDig
  rw [Bool.and_eq_true, decide_eq_true_iff, decide_eq_true_iff]
theorem dig_mem (c : Nat) : decide (c ∈ tl ("0123456789" : Str)) = isDig c := by
  have e : tl ("0123456789" : Str) = [48, 49, 50, 51, 52, 53, 54, 55, 56, 57] := by decide +kernel
  rw [e]
  by_cases h : 48 ≤ c ∧ c ≤ 57
  · rw [isDig_iff.mpr h]
    have : c = 48 ∨ c = 49 ∨ c = 50 ∨ c = 51 ∨ c = 52 ∨ c = 53 ∨ c = 54 ∨ c = 55 ∨ c = 56 ∨ c = 57 := by omega
    refine decide_eq_true ?_
    simpa using this
  · have h2 : isDig c = false := by
      rw [Bool.eq_false_iff]
      exact fun z => h (isDig_iff.mp z)
    rw [h2]
    refine decide_eq_false fun z => h ?_
    have z : c = 48 ∨ c = 49 ∨ c = 50 ∨ c = 51 ∨ c = 52 ∨ c = 53 ∨ c = 54 ∨ c = 55 ∨ c = 56 ∨ c = 57 := by simpa using z
    omega
/-- the signs may stand for a number of at most 60 figures -/
def okD (l : List Nat) : Bool := decide (1 ≤ l.length) && (decide (l.length ≤ 60) && l.all isDig)
/-- .. without zeros ahead -/
def dg (l : List Nat) : Option Int := if okD l = true then (if 1 < l.length ∧ l.head? = some 48 then none else some ((NumText.digitsVal l : Nat) : Int)) else none
theorem okD_all {l : List Nat} (h : okD l = true) : 1 ≤ l.length ∧ l.length ≤ 60 ∧ NumText.AllDigits l := by
  unfold okD at h
  rw [Bool.and_eq_true, Bool.and_eq_true, decide_eq_true_iff, decide_eq_true_iff, List.all_eq_true] at h
  exact ⟨h.1, h.2.1, fun c hc => isDig_iff.mp (h.2.2 c hc)⟩
theorem okD_of {l : List Nat} (h1 : 1 ≤ l.length) (h2 : l.length ≤ 60) (h3 : NumText.AllDigits l) : okD l = true := by
  unfold okD
  rw [Bool.and_eq_true, Bool.and_eq_true, decide_eq_true_iff, decide_eq_true_iff, List.all_eq_true]
  exact ⟨h1, h2, fun c hc => isDig_iff.mpr (h3 c hc)⟩
theorem int_of {x : Str} (h : okD (tl x) = true) : intText? x = some ((NumText.digitsVal (tl x) : Nat) : Int) ∧ x.length ≤ 640 := by
  obtain ⟨h1, h2, h3⟩ := okD_all h
  rw [← len_tl] at h1 h2
  refine ⟨intText_digits h3 (fun z => ?_) (by omega), by omega⟩
  rw [len_tl] at h1
  have : (tl x).length = 0 := by
    show x.cps.toList.length = 0
    rw [z]
    rfl
  omega
theorem val_lt : ∀ (l : List Nat) (a : Nat), NumText.AllDigits l → l.foldl (fun acc c => acc * 10 + (c - 48)) a < (a + 1) * 10 ^ l.length
  | [], a, _ => by
    show a < (a + 1) * 1
    omega
  | c :: l, a, h => by
    have hc := h.head
    have ih := val_lt l (a * 10 + (c - 48)) h.tail
    show l.foldl _ (a * 10 + (c - 48)) < (a + 1) * 10 ^ (l.length + 1)
    have e : (a + 1) * 10 ^ (l.length + 1) = ((a + 1) * 10) * 10 ^ l.length := by rw [Nat.pow_succ, Nat.mul_assoc, Nat.mul_comm (10 ^ l.length)]
    rw [e]
    exact Nat.lt_of_lt_of_le ih (Nat.mul_le_mul_right _ (by omega))
theorem dg_lt {l : List Nat} {z : Int} (h : dg l = some z) : 0 ≤ z ∧ z < 10 ^ 60 := by
  unfold dg at h
  split at h
  · rename_i ok
    obtain ⟨h1, h2, h3⟩ := okD_all ok
    split at h
    · cases h
    · have e := Option.some.inj h
      have v := val_lt l 0 h3
      have p : (0 + 1) * 10 ^ l.length ≤ 10 ^ 60 := by
        rw [Nat.zero_add, Nat.one_mul]
        exact Nat.pow_le_pow_right (by decide) h2
      have q : NumText.digitsVal l < 10 ^ 60 := Nat.lt_of_lt_of_le v p
      have r : ((10 ^ 60 : Nat) : Int) = (10 : Int) ^ 60 := by simp
      rw [← e, ← r]
      omega
  · cases h
theorem numL_head {n : Nat} (h : 0 < n) : (numL n).head? ≠ some 48 := by
  induction n using Nat.strongRecOn with
  | _ n ih =>
    by_cases c : n < 10
    · rw [numL_lt c]
      intro z
      have := Option.some.inj z
      omega
    · rw [numL_step (by omega)]
      have g := ih (n / 10) (by omega) (by omega)
      cases e : numL (n / 10) with
      | nil => exact absurd e (numL_ne _)
      | cons a l =>
        rw [e] at g
        exact g
theorem dg_num {n : Nat} (h : n < 10 ^ 60) : dg (numL n) = some (n : Int) := by
  have l1 : 1 ≤ (numL n).length := by
    have := numL_ne n
    cases e : numL n with
    | nil => exact absurd e this
    | cons c l => exact Nat.succ_le_succ (Nat.zero_le _)
  unfold dg
  rw [if_pos (okD_of l1 (numL_len (by decide) h) (numL_digits n)), if_neg ?_, numL_val]
  rintro ⟨g1, g2⟩
  by_cases z : 0 < n
  · exact numL_head z g2
  · have : n = 0 := by omega
    rw [this, numL_lt (by decide)] at g1
    exact absurd g1 (by decide)
/-! ### slices -/
theorem tl_S (l : List Nat) : tl (⟨l.toArray⟩ : Str) = l := rfl
theorem cut_to1 (x : Str) : tl (cutS x none (some 1)) = (tl x).take 1 := by
  show ((tl x).drop 0).take (HT.sIx x.length x.length (some ((1 : Nat) : Int)) - 0) = _
  rw [HT.sIx_nat, List.drop_zero, Nat.sub_zero, len_tl]
  by_cases h : 1 ≤ (tl x).length
  · rw [Nat.min_eq_left h]
  · rw [Nat.min_eq_right (by omega), List.take_of_length_le (Nat.le_refl _), List.take_of_length_le (by omega)]
theorem cut_from1 (x : Str) : tl (cutS x (some 1) none) = (tl x).drop 1 := by
  show ((tl x).drop (HT.sIx x.length 0 (some ((1 : Nat) : Int)))).take (HT.sIx x.length x.length none - HT.sIx x.length 0 (some ((1 : Nat) : Int))) = _
  rw [HT.sIx_nat, HT.sIx_none, len_tl]
  by_cases h : 1 ≤ (tl x).length
  · rw [Nat.min_eq_left h, List.take_of_length_le (by rw [List.length_drop]; exact Nat.le_refl _)]
  · have e : tl x = [] := List.eq_nil_of_length_eq_zero (by omega)
    rw [e]
    rfl
theorem sIx_m1 (n d : Nat) : HT.sIx n d (some (-1)) = n - 1 := by
  have e : HT.sIx n d (some (-1)) = ((-1 : Int) + (n : Int)).toNat := by
    unfold HT.sIx
    exact if_pos (by decide)
  rw [e]
  omega
theorem cut_last (x : Str) : tl (cutS x (some (-1)) none) = (tl x).drop ((tl x).length - 1) := by
  show ((tl x).drop (HT.sIx x.length 0 (some (-1)))).take (HT.sIx x.length x.length none - HT.sIx x.length 0 (some (-1))) = _
  rw [sIx_m1, HT.sIx_none, len_tl, List.take_of_length_le (by rw [List.length_drop]; exact Nat.le_refl _)]
theorem cut_but (x : Str) : tl (cutS x none (some (-1))) = (tl x).dropLast := by
  show ((tl x).drop 0).take (HT.sIx x.length x.length (some (-1)) - 0) = _
  rw [sIx_m1, List.drop_zero, Nat.sub_zero, len_tl, List.dropLast_eq_take]
theorem tl_eq {x y : Str} : x = y ↔ tl x = tl y := ⟨fun h => by rw [h], ext_tl⟩
theorem str_eq {x y : Str} : decide (V.str x = V.str y) = decide (tl x = tl y) := by
  by_cases h : tl x = tl y
  · rw [decide_eq_true h, ext_tl h, decide_eq_true rfl]
  · rw [decide_eq_false h, decide_eq_false fun z => h (by rw [V.str.inj z])]
theorem beq_str {x y : Str} : (x == y) = decide (tl x = tl y) := by
  by_cases h : tl x = tl y
  · rw [decide_eq_true h, ext_tl h, beq_self_eq_true]
  · rw [decide_eq_false h]
    rw [Bool.eq_false_iff]
    intro z
    exact h (by rw [beq_iff_eq.mp z])
/-! ### numbers written -/
theorem tl_nat (n : Nat) : tl (Str.ofString (toString ((n : Nat) : Int))) = numL n := tl_num n
theorem tl_neg (m : Nat) : tl (Str.ofString (toString (-((m + 1 : Nat) : Int)))) = 45 :: numL (m + 1) := by
  have e : (-((m + 1 : Nat) : Int)) = Int.negSucc m := rfl
  rw [e]
  have e2 : (toString (Int.negSucc m) : String) = "-" ++ toString (m + 1) := rfl
  have e3 : (toString (m + 1) : String) = toString (((m + 1 : Nat)) : Int) := rfl
  rw [e2, e3, tl_ofString, String.toList_append, List.map_append]
  show [45] ++ _ = _
  rw [← tl_ofString, tl_num]
  rfl
/-- an int as signs -/
def intL (i : Int) : List Nat := if i < 0 then 45 :: numL i.natAbs else numL i.natAbs
theorem tl_int (i : Int) : tl (Str.ofString (toString i)) = intL i := by
  unfold intL
  by_cases h : i < 0
  · obtain ⟨m, rfl⟩ : ∃ m : Nat, i = -((m + 1 : Nat) : Int) := ⟨i.natAbs - 1, by omega⟩
    rw [if_pos h, tl_neg, Int.natAbs_neg, Int.natAbs_natCast]
  · obtain ⟨m, rfl⟩ : ∃ m : Nat, i = (m : Int) := ⟨i.natAbs, by omega⟩
    rw [if_neg h, tl_num, Int.natAbs_natCast]
theorem intL_free {i : Int} {s : Nat} (h : s < 48 ∨ 57 < s) (h2 : s ≠ 45) : s ∉ intL i := by
  unfold intL
  split
  · intro z
    rcases List.mem_cons.mp z with z | z
    · exact h2 z
    · exact numL_free h z
  · exact numL_free h
end TX
/-! A text split at one sign: how many parts, how long. -/
namespace TX
open PySem PySem.Spec PyProof.Rows L2 TL
theorem split1_ne {x y : Str} {s : Nat} (ey : tl y = [s]) (hk : y.cps.all (· < 256) = true) : ∃ w ws, (Txt.split x y).map tl = w :: ws := by
  rw [split_spl x y (by rw [ey]; simp) (kind_ok hk), ey]
  have : ∀ (l acc : List Nat) (k : Nat), ∃ w ws, spl [s] k acc l = w :: ws := by
    intro l
    induction l with
    | nil => intro acc k; exact ⟨acc, [], spl_nil _ _ _⟩
    | cons c r ih =>
      intro acc k
      cases k with
      | zero =>
        by_cases h : pre [s] (c :: r) = true
        · exact ⟨acc, _, spl_hit h⟩
        · rw [spl_miss (by simpa using h)]
          exact ih _ _
      | succ k =>
        show ∃ w ws, spl [s] k acc r = w :: ws
        exact ih _ _
  exact this _ _ _
theorem spl1_len (s : Nat) : ∀ (l acc : List Nat) (k : Nat), (spl [s] k acc l).length ≤ l.length + 1 ∧ ((spl [s] k acc l).map List.length).sum ≤ acc.length + l.length
  | [], acc, k => by
    rw [spl_nil]
    show 1 ≤ 1 ∧ acc.length + 0 ≤ acc.length + 0
    omega
  | c :: r, acc, 0 => by
    by_cases h : pre [s] (c :: r) = true
    · rw [spl_hit h]
      have := spl1_len s r [] ([s].length - 1)
      show (spl [s] _ [] r).length + 1 ≤ r.length + 1 + 1 ∧ acc.length + ((spl [s] _ [] r).map List.length).sum ≤ acc.length + (r.length + 1)
      have e : ([] : List Nat).length = 0 := rfl
      omega
    · rw [spl_miss (by simpa using h)]
      have := spl1_len s r (acc ++ [c]) 0
      rw [List.length_append] at this
      have e : ([c] : List Nat).length = 1 := rfl
      rw [List.length_cons]
      omega
  | c :: r, acc, k + 1 => by
    have := spl1_len s r acc k
    show (spl [s] k acc r).length ≤ r.length + 1 + 1 ∧ ((spl [s] k acc r).map List.length).sum ≤ acc.length + (r.length + 1)
    omega
theorem mem_sum1 : ∀ {l : List Nat} {n : Nat}, n ∈ l → n ≤ l.sum
  | a :: l, n, h => by
    rw [List.sum_cons]
    rcases List.mem_cons.mp h with rfl | h
    · omega
    · have := mem_sum1 h
      omega
/-- the words of a text: how many, how long -/
theorem split1_len {x y : Str} {s : Nat} (ey : tl y = [s]) (hk : y.cps.all (· < 256) = true) : (Txt.split x y).length ≤ x.length + 1 ∧ ((Txt.split x y).map (·.length)).sum ≤ x.length ∧ ∀ z ∈ Txt.split x y, z.length ≤ x.length := by
  have e := split_spl x y (by rw [ey]; simp) (kind_ok hk)
  rw [ey] at e
  have h := spl1_len s (tl x) [] 0
  rw [← e, List.length_map, List.map_map, ← len_tl] at h
  have em : (Txt.split x y).map (List.length ∘ tl) = (Txt.split x y).map (·.length) := List.map_congr_left fun z _ => (len_tl z).symm
  rw [em] at h
  have e0 : ([] : List Nat).length = 0 := rfl
  refine ⟨h.1, by omega, fun z hy => ?_⟩
  have := mem_sum1 (List.mem_map_of_mem (f := fun z : Str => z.length) hy)
  omega
theorem split1_spl {x y : Str} {s : Nat} (ey : tl y = [s]) (hk : y.cps.all (· < 256) = true) : (Txt.split x y).map tl = spl [s] 0 [] (tl x) := by
  rw [split_spl x y (by rw [ey]; simp) (kind_ok hk), ey]
end TX
/-! xs[i] += e of a list; a class called through a local name with *e. -/
namespace My
open PySem PySem.Spec PyProof.Rows L2
theorem get_list {X : Cx} : PGet X (rIxL X.K) := by
  intro pins s σ H x y v u Q I rx ry h
  obtain ⟨p, xs, i, z, rfl, rfl, hq, he, q⟩ := h
  cases rx
  obtain ⟨t, rfl⟩ := ry
  obtain ⟨its, r, pl, hz⟩ := I.list hq
  obtain ⟨j, h1, h2, h3, h4, h5⟩ := atI_get he
  obtain ⟨w, ew, rw'⟩ := r.get h2
  have hl := r.length
  have hn := line63
  have fin : EP X pins σ Q w s := ⟨z, H, I, rw', q⟩
  by_cases h0 : 0 ≤ i
  · have hj : i.toNat = j := by
      rw [seqIndex_of h0 h5] at h1
      exact Option.some.inj h1
    exact wpAny_getItem_list pl.isList h0 (by omega) (by rw [hj]; simpa using ew) fin
  · have hj : (i + (its.toArray.size : Int)).toNat = j := by
      rw [seqIndex_neg (by omega) h4] at h1
      rw [List.size_toArray, ← hl]
      exact Option.some.inj h1
    exact wpAny_getItem_list_neg pl.isList (by omega) (by rw [List.size_toArray] <;> omega) (by omega) (by rw [hj]; simpa using ew) fin
section
variable {X : Cx} {CX : CXT} {k : Nat} {C : Addr} {sp : Sp} {E : XK} {x : Str} {e fe : Expr} {te tf : TE} {sp_ pos : Pos}
/-- f(*e), f a local name that holds the class at C -/
def tMkLS (K : PySem.W.Frag) (C : Addr) (sp : Sp) (E : XK) (tf te : TE) : TE := fun σ H Q => tf σ H fun y H1 => y = .ref C ∧ tMakeS K C sp E te σ H1 Q
theorem pe_mkLS (M : MakeR X.prog X.w X.K X.mg X.base CX k x C sp) (hr : Room (k + 1) X.A) (hx : Passes CX X E) (hf : PE X fe tf) (he : PE X e te)
    (ht : eval (.Call fe [.Starred e sp_] [] pos) X.env = (do callWith pos (← eval fe X.env) [] (backTo pos (starEach [.Starred e sp_] X.env)) (backToKw pos (keywordEach [] X.env))) := by rfl)
    (hst : starEach [.Starred e sp_] X.env = [(true, eval e X.env)] := by rfl) : PE X (.Call fe [.Starred e sp_] [] pos) (tMkLS X.K C sp E tf te) := by
  obtain ⟨f, mk, F, hm⟩ := M.ex
  refine ⟨fun pins s σ H Q I h => ?_⟩
  refine Call_ (thn (hf.run pins s σ H _ I h) fun u s0 ⟨y0, H0, I0, ry0, ey0, q0⟩ => ?_) ht
  subst ey0
  obtain rfl : u = Value.ref C := ry0
  refine PySem.W.callWith_S (h₀ := X.base) I0.ok.mod.kin mk.kp (thn (he.run pins s0 σ H0 _ I0 q0) fun v t1 ⟨y, H1, I1, ry, a, xs, ey, hxs, q⟩ => ?_) hst
  subst ey
  obtain rfl : v = Value.ref a := ry
  exact StX.star_any I1 hxs fun us t2 I2 rv => ⟨I2.kIn, StX.run_makeR mk F hr hx I2 rv q⟩
/-- .. within a lambda or a comprehension, where the reading may not name the context -/
theorem op_cmpOB {X : Cx} {K : PySem.W.Frag} {CX : CXT} {k : Nat} {C : Addr} {m : Str} {ps : List Str} {sp : Sp} {E : XK} {op : CmpOp} (hK : X.K = K) (M : CmpAt X.prog X.w X.K X.mg X.base CX k C m ps sp) (hr : Room k X.A) (hx : Passes CX X E) (hop : (cmpInfo op).2.1 = m := by rfl)
    (hco : ∀ v u, compareOp op v u = richCompare op v u := by intro _ _; rfl) : OpR X (compareOp op) (rCmpO K C sp E) := hK ▸ op_cmpO M hr hx hop hco
end
end My
/-! An own error class E(Base(ValueError)) whose __init__ says super().__init__(f, g), self.f = f and self.g = g. -/
namespace Sup
open PySem PySem.W PySem.Calls PyProof.Rows PySem.HandSPX
def a2 (f g : Str) (p1 p2 p3 : Pos) : Arguments :=
  { posonlyargs := [], args := [{ arg := "self", annotation := none, pos := p1 }, { arg := f, annotation := none, pos := p2 }, { arg := g, annotation := none, pos := p3 }], vararg := none, kwonlyargs := [], kw_defaults := [], kwarg := none, defaults := [] }
def b2 (f g : Str) (q1 q2 q3 q4 q7 q5 q6 r1 r2 r3 r4 t1 t2 t3 t4 : Pos) : List Stmt :=
  [.Expr (.Call (.Attribute (.Call (.Name "super" q1) [] [] q2) "__init__" q3) [.Name f q4, .Name g q7] [] q5) q6, .Assign [.Attribute (.Name "self" r1) f r2] (.Name f r3) r4, .Assign [.Attribute (.Name "self" t1) g t2] (.Name g t3) t4]
def s2 (f g : Str) : Scope :=
  { kind := .function, names := [(PySem.Str.ofString "self", .local), (f, .local), (g, .local), (PySem.Str.ofString "__class__", .free), (PySem.Str.ofString "super", .globalImplicit)], isGenerator := false, isCoroutine := false, more := [] }
structure Nm2 (f g : Str) : Prop where
  f1 : (f == ("self" : Str)) = false
  f2 : (("__class__" : Str) == f) = false
  f3 : (("super" : Str) == f) = false
  f4 : (f == ("__debug__" : Str)) = false
  g1 : (g == ("self" : Str)) = false
  g2 : (("__class__" : Str) == g) = false
  g3 : (("super" : Str) == g) = false
  g4 : (g == ("__debug__" : Str)) = false
  fg : (f == g) = false
  gf : (g == f) = false
  bd : ∀ (qual : Str) (body : List Stmt) (doc pm : Value) (an : Option Addr) (cdv ct : Value) (cc : Addr) (p1 p2 p3 : Pos) (a b c : Value),
    bindArgs (ksFn "__init__" qual (a2 f g p1 p2 p3) body (s2 f g) .none .none doc pm an cdv ct cc) ⟨[a, b, c], []⟩ = pure [(("self" : Str), a), (f, b), (g, c)]
/-- what the top has written of the class x, at C, and of its __init__, at fI -/
structure Err2 (prog : Program) (K : Frag) (mg : Str → Option Value) (x f g : Str) (C fI : Addr) : Prop where
  gC : mg x = some (.ref C)
  ox : L2.OexC K C
  rd : L2.XfC K C
  nf : findIn K (.ref C) f = some none
  ng : findIn K (.ref C) g = some none
  nm : Nm2 f g
  iC : findIn K (.ref C) "__init__" = some (some (.ref fI))
  tI : typeIn K (.ref fI) = some (.type "function")
  fn : ∃ (qual : Str) (oc : Value) (od : Option Addr) (doc pm : Value) (an : Option Addr) (cda : Addr) (ct : Value) (cc : Addr) (osl : Array (Option Value)) (p1 p2 p3 q1 q2 q3 q4 q7 q5 q6 r1 r2 r3 r4 t1 t2 t3 t4 : Pos),
    K.lookup fI = some ⟨oc, od, .func (ksFn "__init__" qual (a2 f g p1 p2 p3) (b2 f g q1 q2 q3 q4 q7 q5 q6 r1 r2 r3 r4 t1 t2 t3 t4) (s2 f g) .none .none doc pm an (.ref cda) ct cc), osl⟩ ∧ codeIn K (.ref cda) qual = true ∧
    (∃ cl cld csl, K.lookup cc = some ⟨cl, cld, .cell (some (.ref C)), csl⟩) ∧ ∃ ccl cdd vs ccs file tf, K.lookup cda = some ⟨ccl, cdd, .fields vs, ccs⟩ ∧ vs[2]? = some (.str file tf) ∧ ((prog.main.file : Str) == file) = true ∧ (q3.endLine == q5.line) = true
  su : ks_superIn K C C "__init__" = some (some (.builtin "ValueError.__init__"))
  sV : subIn K (.ref C) (.type "ValueError") = some true
  sC : mroIn K C (.ref C) = some true
  gS : mg "super" = none
  oq : nsIn K cStatics "thirdparty.any" = some none
  top : (prog.main.scope.names.lookup ("super" : Str)).isSome = false
/-- what __init__ leaves of a fresh exception at x -/
structure End2 (h h' : Heap) (f g : Str) (x C dx t1 : Addr) (v u : Value) : Prop where
  keep : ∀ b o, b ≠ x → h.get? b = some o → h'.get? b = some o
  obj : h'.get? x = some { cls := .ref C, dict := some dx, data := .fields #[.ref t1, .none, .none, .none, .bool false, .none] }
  dbig : h.objs.size ≤ dx
  dne : dx ≠ x
  ns : h'.Ns1 dx (fun y => if y = g then some u else if y = f then some v else none)
theorem flip {a b : Str} (h : (a == b) = false) : (b == a) = false := by
  rw [Bool.eq_false_iff] at h ⊢
  intro y
  exact h (by rw [beq_iff_eq] at y ⊢; exact y.symm)
theorem lk2f {f g : Str} (N : Nm2 f g) : (s2 f g).names.lookup f = some .local := by
  simp only [s2, List.lookup, N.f1, beq_self_eq_true]
theorem lk2g {f g : Str} (N : Nm2 f g) : (s2 f g).names.lookup g = some .local := by
  simp only [s2, List.lookup, N.g1, N.gf, beq_self_eq_true]
theorem lk2c {f g : Str} (N : Nm2 f g) : (s2 f g).names.lookup ("__class__" : Str) = some .free := by
  have e : (("__class__" : Str) == ("self" : Str)) = false := by decide +kernel
  have e2 : (("__class__" : Str) == ("__class__" : Str)) = true := by decide +kernel
  simp only [s2, List.lookup, N.f2, N.g2, e, e2]
theorem lk2s {f g : Str} (N : Nm2 f g) : (s2 f g).names.lookup ("super" : Str) = some .globalImplicit := by
  have e : (("super" : Str) == ("self" : Str)) = false := by decide +kernel
  have e2 : (("super" : Str) == ("__class__" : Str)) = false := by decide +kernel
  have e3 : (("super" : Str) == ("super" : Str)) = true := by decide +kernel
  simp only [s2, List.lookup, N.f3, N.g3, e, e2, e3]
theorem meth_eq2 {o : Expr} {name f g : Str} {q3 q4 q7 q5 : Pos} {env : Env} (hp : (q3.endLine == q5.line) = true) :
    eval (.Call (.Attribute o name q3) [.Name f q4, .Name g q7] [] q5) env = (do
      let ov ← attributeBase o name env (eval o env)
      standAt q3.atName
      let (k, first) ← holding [ov] (getMethod ov name (do return (← importBound o env).getD true))
      callWith q5 k first (backTo q5 (starEach [.Name f q4, .Name g q7] env)) []) := by
  rw [arm_eval_Call]
  have hf : methodCallForm ([Expr.Name f q4, Expr.Name g q7].length + ([] : List Keyword).length) (backTo q5 (starEach [.Name f q4, .Name g q7] env)) (backToKw q5 (keywordEach [] env)) = true := rfl
  have e : ∀ ov, methodCall o name q3 q5 env ov ([Expr.Name f q4, Expr.Name g q7].length + ([] : List Keyword).length) (backTo q5 (starEach [.Name f q4, .Name g q7] env)) (backToKw q5 (keywordEach [] env)) = (do
      let (k, first) ← holding [ov] (getMethod ov name (do return (← importBound o env).getD true))
      callWith q5 k first (backTo q5 (starEach [.Name f q4, .Name g q7] env)) []) := fun ov => by
    unfold methodCall
    rw [hf]
    unfold calleeOf methodCallPos
    simp only [hp, Bool.not_true, Bool.false_or, if_true]
    rfl
  simp only [e]
section
variable {prog : Program} {w : World} {A : Around} {E : Value → Shared → Prop} {R : Result → Shared → Prop} {s : Shared} {K : Frag} {mg : Str → Option Value} {x f g : Str} {C fI : Addr}
theorem init2 (T : Err2 prog K mg x f g C fI) {e t0 : Addr} {v u : Value} (X : K.In s.heap) (hlim : s.heap.NoLimit) (hg : s.heap.Ns mainGlobals mg) (hb : ∃ mb, s.heap.Ns builtinsNs mb ∧ ∀ x : Str, x ≠ "__name__" → mb x = bootBuiltins x)
    (he : s.heap.get? e = some (excO C t0)) (hnx : K.lookup e = none) (hroom : A.depth < recursionLimit)
    (hq : ∀ h' tk dx t1, End2 s.heap h' f g e C dx t1 v u → R (.ok (.ret .none)) { s with heap := h', toks := tk }) :
    codeAny (model prog w) A (.call (.ref fI) ⟨[.ref e, v, u], []⟩) R s := by
  obtain ⟨qual, oc, od, doc, pm, an, cda, ct, cc, osl, p1, p2, p3, q1, q2, q3, q4, q7, q5, q6, r1, r2, r3, r4, j1, j2, j3, j4, ho, hcd, ⟨cl, cld, csl, hcell⟩, ccl, cdd, vs, ccs, file, tf, hcode, hvs, hfile, hqq⟩ := T.fn
  obtain ⟨nm, q, N, bs, bm, sn, sub, ab, col, dd, k0, k1, k2, k3, k5, hC, hbm⟩ := T.ox.cls
  obtain ⟨mb, hb1, hb2⟩ := hb
  have hcl : clsIn K C = some { name := nm, bases := bs, mro := .ref C :: bm, ns := N, qualname := q, hasDict := true, slotNames := sn, subclasses := sub, abstract := ab, collection := col, hasDel := false } := by unfold clsIn; rw [hC] <;> rfl
  have hloc : ∀ y ∈ [(("self" : Str), Value.ref e), (f, v), (g, u)], (s2 f g).names.lookup y.1 = some .local := fun y hy => by
    rcases List.mem_cons.mp hy with z | z
    · rw [z]; rfl
    · rcases List.mem_cons.mp z with z | z
      · rw [z]; exact lk2f T.nm
      · rw [List.mem_singleton.mp z]; exact lk2g T.nm
  have hsu : alongIn K "__init__" ((((Value.ref C :: bm) : List Value).dropWhile (· != .ref C)).drop 1) = some (some (.builtin "ValueError.__init__")) := by
    have z := T.su
    unfold ks_superIn at z
    rw [hcl] at z
    exact z
  refine ks_codeAny_call_defAt (fd := ksFn "__init__" qual (a2 f g p1 p2 p3) (b2 f g q1 q2 q3 q4 q7 q5 q6 r1 r2 r3 r4 j1 j2 j3 j4) (s2 f g) .none .none doc pm an (.ref cda) ct cc) (binds := [("self", .ref e), (f, v), (g, u)]) hroom (X _ _ ho) rfl hlim (codeRec_of X hcd) rfl (BindsTo.of_eq (T.nm.bd _ _ _ _ _ _ _ _ _ _ _ _ _ _))
    (by intro y hy; simp only [s2, List.mem_cons, List.mem_nil_iff, or_false] at hy; rcases hy with z | z | z | z | z <;> rw [z] <;> exact (fun w => nomatch w)) hloc (fun h1 hns kp => ?_)
  have X1 : K.In h1 := X.keeps kp
  have he1 := kp _ _ he
  have hC1 := X1 _ _ hC
  have hx0 : e ≠ C := fun z => by
    have y := X _ _ hC
    rw [← z, he] at y
    cases y
  have mself : ([(("self" : Str), Value.ref e), (f, v), (g, u)].reverse.lookup ("self" : Str)) = some (.ref e) := by
    simp only [List.reverse_cons, List.reverse_nil, List.nil_append, List.cons_append, List.lookup, flip T.nm.f1, flip T.nm.g1, beq_self_eq_true]
  have mf : ([(("self" : Str), Value.ref e), (f, v), (g, u)].reverse.lookup f) = some v := by
    simp only [List.reverse_cons, List.reverse_nil, List.nil_append, List.cons_append, List.lookup, T.nm.fg, beq_self_eq_true]
  have mg' : ([(("self" : Str), Value.ref e), (f, v), (g, u)].reverse.lookup g) = some u := by
    simp only [List.reverse_cons, List.reverse_nil, List.nil_append, List.cons_append, List.lookup, beq_self_eq_true]
  show _root_.PySem.wpAt _ _ _ (execs (b2 f g q1 q2 q3 q4 q7 q5 q6 r1 r2 r3 r4 j1 j2 j3 j4) _) _ _ _
  unfold b2
  refine ks_wpAt_execs_cons (ks_wpAt_Expr_any (ks_wpAt_MethodCall (ks_wpAt_super_base (lk2s T.nm) (lk2c T.nm) (by decide +kernel) rfl (X1 _ _ ho) rfl rfl rfl (X1 _ _ hcode) rfl hvs hfile T.top ?_) (meth_eq2 hqq)))
  refine ks_loadName_global rfl (lk2s T.nm) (loadGlobal_builtin (hg.keeps kp) T.gS (hb1.keeps kp) ((hb2 _ (by decide +kernel)).trans (by decide +kernel : bootBuiltins "super" = some (.type "super"))) ⟨rfl, ?_⟩)
  refine wpAny_loadName_free rfl (lk2c T.nm) rfl ⟨_, X1 _ _ hcell, rfl⟩ ?_
  refine wpAny_loadName_local rfl rfl hns mself ?_
  refine ks_wpAny_isType_cls hC1 rfl ⟨rfl, ?_⟩
  refine ks_wpAny_call_super hC1 rfl he1 rfl (fun c z => nomatch z) (looks_mroIn X1 T.sC) (fun h2 hso k2 => ?_)
  have X2 : K.In h2 := X1.keeps k2
  have he2 := k2 _ _ he1
  have I2 : InstAt h2 e (excO C t0) C none := ⟨he2, rfl, rfl, trivial⟩
  refine kxs_getMethod kxs_ValueError hso (looks_opaque X2 T.oq) (l₀ := .ref C :: bm) (fun A Q E s k q => wpAny_bind ((looks_clsIn X2 hcl) A _ E s k (wpAny_pure q))) rfl X2 hsu (I2.type.andThen (looks_subIn X2 T.sV)) hx0 (by decide +kernel) ?_
  refine kxs_callWith (i := "ValueError.__init__") (x := e) rfl ?_
  have hns2 := hns.keeps k2
  have k3 : ∀ b o, h2.get? b = some o → (h2.push (kxs_mw "ValueError.__init__" e)).get? b = some o := fun b o z => Heap.get?_push_of_some _ z
  refine evalArgs_plain (Calls.spliced_cons (ldc rfl (lk2f T.nm) (hns2.keeps k3) mf (Calls.spliced_cons (ldc rfl (lk2g T.nm) (hns2.keeps k3) mg' (Calls.spliced_nil ⟨Heap.get?_push_size _ rfl, ?_⟩) T.nm.g4)) T.nm.f4))
  show wpAny _ _ (call (.ref h2.objs.size) [v, u]) _ _ _
  refine call_mw (X2.keeps k3 _ _ hC) (k3 _ _ he2) (Heap.get?_push_size _ rfl) (by rw [sizeLine_eq]; exact (by decide : 2 ≤ 16777216)) fun h4 t1 k4 he4 => ?_
  have kall : ∀ b o, b ≠ e → s.heap.get? b = some o → h4.get? b = some o := fun b o hb z => k4 b o hb (k3 b o (k2 b o (kp b o z)))
  have X4 : K.In h4 := fun a o z => kall a o (fun y => by rw [y, hnx] at z; cases z) (X a o z)
  have hL : s.heap.objs.size ≠ e := Nat.ne_of_gt (Heap.lt_size he)
  have hns4 : h4.Ns s.heap.objs.size (fun y => [(("self" : Str), Value.ref e), (f, v), (g, u)].reverse.lookup y) := by
    obtain ⟨oL, es, ep, hoL, r⟩ := hns2
    exact ⟨oL, es, ep, k4 _ _ hL (k3 _ _ hoL), r⟩
  show _root_.PySem.wpAt _ _ _ (execs [.Assign [.Attribute (.Name "self" r1) f r2] (.Name f r3) r4, .Assign [.Attribute (.Name "self" j1) g j2] (.Name g j3) j4] _) _ _ _
  refine wpAt_of_wpAny (wpAny_execs_cons (plainObj_wpAny_Assign_Attribute (ldc rfl (lk2f T.nm) hns4 mf (ldc rfl rfl hns4 mself ?_) T.nm.f4)))
  refine set_plain X4 (ox := excO C t1) (od := none) ⟨he4, rfl, rfl, trivial⟩ T.ox.sa ?_
  refine exc_osa X4 he4 hcl (show refsVE (.ref C :: bm) = true from hbm) rfl T.nf (fun h5 tk5 dx k5 dn dne hx5 hn5 => ?_)
  have z1 : s.heap.objs.size ≤ h1.objs.size := Nat.le_of_lt hns.lt
  have z2 := hns4.lt
  have dbig : s.heap.objs.size ≤ dx := Nat.le_trans (Nat.le_of_lt z2) dn
  have X5 : K.In h5 := fun a o z => k5 a o (fun y => by rw [y, hnx] at z; cases z) (X4 a o z)
  have hns5 : h5.Ns s.heap.objs.size (fun y => [(("self" : Str), Value.ref e), (f, v), (g, u)].reverse.lookup y) := by
    obtain ⟨oL, es, ep, hoL, r⟩ := hns4
    exact ⟨oL, es, ep, k5 _ _ hL hoL, r⟩
  have hw5 : Within (fun y => if y = f then some v else none) [f] := fun y hy => by
    by_cases c : y = f
    · rw [c]
      exact List.mem_singleton.mpr rfl
    · exact absurd (show (if y = f then some v else none) = none from if_neg c) hy
  obtain ⟨oD, esD, epD, hoD, hdD, hcD⟩ := hn5.count hw5
  refine wpAny_execs_cons (plainObj_wpAny_Assign_Attribute (ldc rfl (lk2g T.nm) hns5 mg' (ldc rfl rfl hns5 mself ?_) T.nm.g4))
  refine set_plain X5 (od := some oD) ⟨hx5, rfl, rfl, hoD⟩ T.ox.sa ?_
  refine PySem.OEX.osa_old X5 hx5 hn5 hw5 (by show 1 ≤ 1000; decide) hcl (show refsVE (.ref C :: bm) = true from hbm) rfl T.ng (fun h6 tk6 k6 hn6 => ?_)
  refine wpAny_execs_nil (hq h6 tk6 dx t1 ⟨fun b o hb z => k6 b o (Nat.ne_of_lt (Nat.lt_of_lt_of_le (Heap.lt_size z) dbig)) (k5 b o hb (kall b o hb z)), k6 _ _ (Ne.symm dne) hx5, dbig, dne, hn6⟩)
/-- a made error -/
structure Made2 (h h' : Heap) (f g : Str) (e C d : Addr) (v u : Value) : Prop where
  keep : ∀ b o, h.get? b = some o → h'.get? b = some o
  new : h.objs.size ≤ e
  obj : ∃ oe vs, h'.get? e = some oe ∧ oe.cls = .ref C ∧ oe.dict = some d ∧ oe.data = .fields vs ∧ vs[1]? = some .none
  dbig : h.objs.size ≤ d
  dne : d ≠ e
  ns : h'.Ns1 d (fun y => if y = g then some u else if y = f then some v else none)
theorem made2 (T : Err2 prog K mg x f g C fI) {v u : Value} (X : K.In s.heap) (hlim : s.heap.NoLimit) (hg : s.heap.Ns mainGlobals mg) (hb : ∃ mb, s.heap.Ns builtinsNs mb ∧ ∀ x : Str, x ≠ "__name__" → mb x = bootBuiltins x) (hroom : A.depth + 1 < recursionLimit)
    (hq : ∀ h' tk e d, Made2 s.heap h' f g e C d v u → R (.ok (.ret (.ref e))) { s with heap := h', toks := tk }) :
    codeAny (model prog w) A (.call (.ref C) ⟨[v, u], []⟩) R s := by
  obtain ⟨nm, q, N, bs, bm, sn, sub, ab, col, dd, k0, k1, k2, k3, k5, hC, hbm⟩ := T.ox.cls
  obtain ⟨hp, gg, dr, tk, os⟩ := s
  have kp : ∀ b o, hp.get? b = some o → ((hp.push (kdv_tup [v, u])).push (excO C hp.objs.size)).get? b = some o := fun b o z => Heap.get?_push_of_some _ (Heap.get?_push_of_some _ z)
  have hget : ((hp.push (kdv_tup [v, u])).push (excO C hp.objs.size)).get? (hp.objs.size + 1) = some (excO C hp.objs.size) := by heap_get
  have hnx : K.lookup (hp.objs.size + 1) = none := by
    cases z : K.lookup (hp.objs.size + 1) with
    | none => rfl
    | some o => exact absurd (Nat.lt_of_succ_lt (Heap.lt_size (X _ _ z))) (Nat.lt_irrefl _)
  refine call_own F.excBase_ValueError (fun Y => refsVE_contains Y bm hbm) (X _ _ hC) (looks_findIn X T.iC) (fun self => bind_fn X self T.tI) (by rw [sizeLine_eq]; exact (by decide : 2 ≤ 16777216)) ?_
  obtain ⟨mb, hb1, hb2⟩ := hb
  refine init2 (s := ⟨(hp.push (kdv_tup [v, u])).push (excO C hp.objs.size), gg, dr, tk, os⟩) T (X.keeps kp) (hlim.keeps kp) (hg.keeps kp) ⟨mb, hb1.keeps kp, hb2⟩ hget hnx ?_ fun h' tk' dx t1 ⟨k', hx, dn, dne, hns⟩ => ?_
  · show A.depth + 1 < recursionLimit
    exact hroom
  · have old : ∀ b o, hp.get? b = some o → h'.get? b = some o := fun b o z => k' b o (Nat.ne_of_lt (Nat.lt_succ_of_lt (Heap.lt_size z))) (kp b o z)
    have z : hp.objs.size + 1 + 1 ≤ dx := by
      have y := dn
      first
        | (rw [Heap.size_push, Heap.size_push] at y; exact y)
        | exact y
    exact ⟨rfl, hq h' tk' (hp.objs.size + 1) dx ⟨old, Nat.le_succ _, ⟨_, _, hx, rfl, rfl, rfl, rfl⟩, Nat.le_trans (Nat.le_trans (Nat.le_succ _) (Nat.le_succ _)) z, dne, hns⟩⟩
end
end Sup
namespace L2
open PySem PySem.Spec PyProof.Rows
theorem relO_two {v u : V} {v' u' : Value} {f g : Str} (gf : (g == f) = false) (rv : RelV v v') (ru : RelV u u') (y : Str) : RelO (List.lookup y [(f, v), (g, u)]) (if y = g then some u' else if y = f then some v' else none) := by
  by_cases hw : y = g
  · rw [if_pos hw, hw]
    have z : List.lookup g [(f, v), (g, u)] = some u := by simp [List.lookup, gf]
    rw [z]
    exact ru
  · rw [if_neg hw]
    by_cases hf : y = f
    · rw [if_pos hf, hf]
      have z : List.lookup f [(f, v), (g, u)] = some v := by simp [List.lookup]
      rw [z]
      exact rv
    · rw [if_neg hf]
      have y1 : (y == f) = false := by simpa using hf
      have y2 : (y == g) = false := by simpa using hw
      have z : List.lookup y [(f, v), (g, u)] = none := by simp [List.lookup, y1, y2]
      rw [z]
      trivial
section
variable {X : Cx} {C fI : Addr} {x f g : Str}
/-- E(e, e2) -/
def tMk2 (C : Addr) (f g : Str) (ta : TA) : St → Hp → XK → Prop := fun σ H Q => ta σ H fun vs H1 => ∃ v u, vs = [v, u] ∧ ∀ d, H1 d = none → Q (.ref C) (some d) (upd H1 d (.xd [(f, v), (g, u)]))
theorem pmk_2 {a b : Expr} {ta : TA} {p pos : Pos} {k : Nat} (T : Sup.Err2 X.prog X.K X.mg x f g C fI) (hr : Room k X.A) (ha : PA X [a, b] ta) (hg : Gl X x := by rfl) (hdb : (x == ("__debug__" : Str)) = false := by decide)
    (hs : starEach (a :: [b]) X.env = (false, eval a X.env) :: starEach [b] X.env := by rfl) (hpl : (backTo pos (starEach [b] X.env)).any (·.1) = false := by rfl) :
    PMk X (.Call (.Name x p) [a, b] [] pos) (tMk2 C f g ta) := by
  intro pins s σ H Q I h
  refine wpAny_Call_Name_kw (ld_glob I hg T.gC ?_ hdb)
  refine PySem.W.callWith_K (h₀ := X.base) I.ok.mod.kin T.ox.kC (thn (ha.run pos pins s σ H _ I h) fun us s1 hh => ?_) hs hpl
  obtain ⟨vs, H1, I1, r1, v, u, ev, q1⟩ := hh
  subst ev
  refine ⟨I1.kIn, ?_⟩
  cases r1 with
  | cons rv rn =>
    rename_i v' us'
    cases rn with
    | cons ru rn =>
      rename_i u' us'
      cases rn
      show wpAny _ _ (call (.ref C) [v', u']) _ _ _
      have hlim := I1.nolimit
      obtain ⟨mb, hb1, hb2⟩ := I1.mod.blt
      have bk1 := I1.bk
      have gl1 := I1.mod.glob
      obtain ⟨hp, g0, dr, tk, os⟩ := s1
      refine wpAny_call (Sup.made2 T I1.kIn hlim (gl1.keeps bk1) ⟨mb, hb1.keeps bk1, hb2⟩ (by have := hr.dp; omega) fun h' tk' e d M => ?_)
      show MkP X pins σ Q (.ref e) ⟨h', g0, dr, tk', os⟩
      obtain ⟨oe, fv, hoe, hc, hd, hdat, h1⟩ := M.obj
      have hns := M.ns
      obtain ⟨G', g1, g2⟩ := restrict h' fun b => decide (b ≠ e)
      have gk : ∀ b, b ≠ e → G'.get? b = h'.get? b := fun b hb => g1 b (decide_eq_true hb)
      have ge : G'.get? e = none := g2 e (by simp)
      have old : ∀ b o, hp.get? b = some o → G'.get? b = some o := fun b o z => (gk b (Nat.ne_of_lt (Nat.lt_of_lt_of_le (Heap.lt_size z) M.new))).trans (M.keep b o z)
      have ob : ObjOk X.prog X.w (upd H1 d (.xd [(f, v), (g, u)])) G' d (.xd [(f, v), (g, u)]) :=
        ⟨_, hns.at (fun o z => (gk d M.dne).trans z), fun y => relO_two T.nm.gf rv ru y⟩
      have J : Inv X pins σ (upd H1 d (.xd [(f, v), (g, u)])) ⟨G', g0, dr, tk', os⟩ := I1.laid (t' := tk') old M.dbig ob
      refine ⟨e, oe, fv, ⟨G', g0, dr, tk', os⟩, _, .ref C, some d, rfl, J, fun b o z => ?_, ge, hoe, ⟨hc, hd⟩, hdat, h1, ?_, rfl, I1.bare, raises_own T.ox.exC T.ox.tyC, q1 d (I1.hok.fresh M.dbig)⟩
      · by_cases hb : b = e
        · have z' : G'.get? b = some o := z
          rw [hb, ge] at z'; cases z'
        · exact (gk b hb).symm.trans z
      · rw [upd_ne (Ne.symm M.dne)]
        exact I1.hok.fresh M.new
/-- raise E(e, e2) -/
def tRaise2 (C : Addr) (f g : Str) (W : WX) (ta : TA) : TS := fun _ σ H => tMk2 C f g ta σ H fun cls d H' => W cls d σ H'
theorem ps_raise2 {a b : Expr} {ta : TA} {W : WX} {p pos pos2 : Pos} {k : Nat} (hc : X.calm = true) (T : Sup.Err2 X.prog X.K X.mg x f g C fI) (hr : Room k X.A) (tk : Takes X W) (ha : PA X [a, b] ta) (hg : Gl X x := by rfl) (hdb : (x == ("__debug__" : Str)) = false := by decide)
    (hs : starEach (a :: [b]) X.env = (false, eval a X.env) :: starEach [b] X.env := by rfl) (hpl : (backTo pos (starEach [b] X.env)).any (·.1) = false := by rfl) :
    PS X (.Raise (some (.Call (.Name x p) [a, b] [] pos)) none pos2) (tRaise2 C f g W ta) := ps_raise hc tk (pmk_2 T hr ha hg hdb hs hpl)
end
end L2
/-! == and != of data with any texts. -/
namespace My
open PySem PySem.Spec PyProof.Rows L2
section
variable {X : Cx}
def rEqP (K : PySem.W.Frag) : R2 := fun x y H Q => ∃ d e, Dp K H x d ∧ Dp K H y e ∧ d.plain = true ∧ e.plain = true ∧ min d.depth e.depth ≤ 60 ∧ Q (.bl (PyData.eqv d e)) H
def rNeP (K : PySem.W.Frag) : R2 := fun x y H Q => ∃ d e, Dp K H x d ∧ Dp K H y e ∧ d.plain = true ∧ e.plain = true ∧ min d.depth e.depth ≤ 60 ∧ Q (.bl (!PyData.eqv d e)) H
theorem op_eqP (hu : X.A.units + 64 < cLine) : OpR X (compareOp .Eq) (rEqP X.K) := by
  intro pins s σ H x y v u Q I rx ry h
  obtain ⟨d, e, hd, he, sd, se, dp, q⟩ := h
  obtain ⟨as, r1⟩ := Dp.reads I d x v hd rx
  obtain ⟨bs, r2⟩ := Dp.reads I e y u he ry
  exact SeqAt.eq_plain r1 r2 sd se (by omega) ⟨.bl _, H, I, rfl, q⟩
theorem op_neP (hu : X.A.units + 64 < cLine) : OpR X (compareOp .NotEq) (rNeP X.K) := by
  intro pins s σ H x y v u Q I rx ry h
  obtain ⟨d, e, hd, he, sd, se, dp, q⟩ := h
  obtain ⟨as, r1⟩ := Dp.reads I d x v hd rx
  obtain ⟨bs, r2⟩ := Dp.reads I e y u he ry
  exact SeqAt.ne_plain r1 r2 sd se (by omega) ⟨.bl _, H, I, rfl, q⟩
theorem plain_strs : ∀ zs : List Str, PyData.plainAll (zs.map PyData.str) = true
  | [] => rfl
  | z :: zs => by
    show (true && PyData.plainAll (zs.map PyData.str)) = true
    rw [plain_strs zs]
    rfl
end
end My
/-! A class made through a local name; classmethods called by keywords. -/
namespace My
open PySem PySem.Spec PySem.Calls PyProof.Rows L2 ClX
section
variable {X : Cx} {CX : CXT} {k : Nat} {C : Addr} {ps ks : List Str} {sp : Sp} {E : XK} {x m : Str} {e o fe : Expr} {es : List Expr} {kws : List Keyword} {t tk : TA} {ta tf : TE} {p pos apos : Pos} {dvs : List V} {gV : List V → List V → List V}
/-- f(e, ..), f a local name that holds the class at C -/
def tMkL (C : Addr) (sp : Sp) (dvs : List V) (E : XK) (tf : TE) (t : TA) : TE := fun σ H Q => tf σ H fun y H1 => y = .ref C ∧ tMake C sp dvs E t σ H1 Q
theorem pe_mkL (M : MakeAt X.prog X.w X.K X.mg X.base CX k x C ps sp dvs) (hr : Room (k + 1) X.A) (hx : Passes CX X E) (hf : PE X fe tf) (ha : PA X (e :: es) t)
    (ht : eval (.Call fe (e :: es) [] pos) X.env = (do callWith pos (← eval fe X.env) [] (backTo pos (starEach (e :: es) X.env)) (backToKw pos (keywordEach [] X.env))) := by rfl)
    (hs : starEach (e :: es) X.env = (false, eval e X.env) :: starEach es X.env := by rfl) (hpl : (backTo pos (starEach es X.env)).any (·.1) = false := by rfl) : PE X (.Call fe (e :: es) [] pos) (tMkL C sp dvs E tf t) := by
  obtain ⟨f, fd, ds, mk, F, hm, b, d⟩ := M.ex
  refine ⟨fun pins s σ H Q I h => ?_⟩
  refine Call_ (thn (hf.run pins s σ H _ I h) fun u s1 ⟨y, H1, I1, ry, ey, q⟩ => ?_) ht
  subst ey
  obtain rfl : u = Value.ref C := ry
  refine PySem.W.callWith_K (first := []) (h₀ := X.base) I1.ok.mod.kin mk.kp (thn (ha.run pos pins s1 σ H1 _ I1 q) fun us s2 ⟨vs, H2, I2, r, q2⟩ => ⟨I2.kIn, ?_⟩) hs hpl
  exact run_make mk F hr b d hx I2 r q2
/-- a classmethod by keywords alone -/
structure ClsK (P : Program) (w : World) (K : PySem.W.Frag) (mg : Str → Option Value) (base : Heap) (CX : CXT) (k : Nat) (C : Addr) (m : Str) (ps ks : List Str) (sp : Sp) (gV : List V → List V → List V) : Prop where
  ex : ∃ mc p g fd gg, ClX.CRead K C mc ∧ ClX.CMet K C mc m p g ∧ FnOk P w K mg base CX k g fd ps sp ∧ KBn K fd ps 1 ks gg gV
def tClsK (C : Addr) (j : Nat) (sp : Sp) (gV : List V → List V → List V) (E : XK) (ta : TE) (tk : TA) : TE := fun σ H Q => ta σ H fun x H1 => x = .ref C ∧ tk σ H1 fun zs H2 => zs.length = j ∧ sp (gV [.ref C] zs) H2 Q E
theorem pe_cmK {pl : Sem Bool} (M : ClsK X.prog X.w X.K X.mg X.base CX k C m ps ks sp gV) (hr : Room k X.A) (hx : Passes CX X E) (he : PE X o ta) (hkw : PK X kws tk)
    (hall : (backToKw pos (keywordEach kws X.env)).all (·.1.isSome) = true := by rfl) (hks : (backToKw pos (keywordEach kws X.env)).filterMap (·.1) = ks := by rfl)
    (hpl : ((backTo pos (starEach [] X.env)).any (·.1) || (backToKw pos (keywordEach kws X.env)).any (·.1.isNone)) = false := by rfl)
    (ht : eval (.Call (.Attribute o m apos) [] kws pos) X.env = (do
      let ov ← eval o X.env
      standAt apos.atName
      let (f, first) ← holding [ov] (getMethod ov m pl)
      callWith pos f first (backTo pos (starEach [] X.env)) (backToKw pos (keywordEach kws X.env))) := by rfl) :
    PE X (.Call (.Attribute o m apos) [] kws pos) (tClsK C ks.length sp gV E ta tk) := by
  obtain ⟨mc, p, g, fd, gg, r, c, F, b⟩ := M.ex
  refine ⟨fun pins s σ H Q I h => ?_⟩
  refine PySem.W.methodCall_KW (pl := pl) (thn (he.run pins s σ H _ I h) fun u s1 ⟨x, H1, I1, rx, ex, q⟩ => ?_) ht
  subst ex
  obtain rfl : u = Value.ref C := rx
  refine getmethcm_ok I1 r c fun s2 I2 => ?_
  refine PySem.W.callWith_of (P := PySem.W.MethP X.K s1.heap.objs.size g (.ref C)) hpl (PySem.W.keeps_M c.fi) (evalArgs_kw2_nil hall (thn (hkw.run pos _ s2 σ H1 _ I2 q) fun ws s3 ⟨zs, H2, I3, rz, l2, q2⟩ => ⟨⟨pin_at I3, I3.kIn⟩, ?_⟩))
  rw [hks]
  have r2 := b.rel (vs := [V.ref C]) (us := [Value.ref C]) (.cons rfl .nil) rz
  have z : wpAny (model X.prog X.w) X.A (call (.ref s1.heap.objs.size) [] (ks.zip ws)) (EP X ((s1.heap.objs.size, PySem.W.methodObj (.ref g) (.ref C)) :: pins) σ Q) X.xe s3 :=
    wpAny_call (PySem.W.method_call (pin_at I3) (codeAny_mono (F.run X.A X.stack s3 H2 ⟨[.ref C], ks.zip ws⟩ (gg [.ref C] ws) (gV [.ref C] zs) Q E hr I3.env0 (b.to s3 [.ref C] ws I3.kIn rfl (rz.length.symm.trans l2)) r2 q2) fun r s' hq => by
      match r, hq with
      | .error e, hq => exact hx _ σ H2 s3 e s' I3 hq
      | .ok (.ret z), hq => exact I3.after hq
      | .ok .next, hq => exact False.elim hq
      | .ok .brk, hq => exact False.elim hq
      | .ok .cont, hq => exact False.elim hq))
  exact thn z fun _ _ y => unpinE y
end
theorem nm2_line_word : Sup.Nm2 "line" "word" := ⟨by decide, by decide, by decide, by decide, by decide, by decide, by decide, by decide, by decide, by decide, fun _ _ _ _ _ _ _ _ _ _ _ _ _ _ => rfl⟩
theorem clsK_at {P : Program} {w : World} {K : PySem.W.Frag} {mg : Str → Option Value} {base : Heap} {CX : CXT} {k : Nat} {m qual : Str} {st : Stmt} {ps ks : List Str} {sp : Sp} {C : Addr} {gV : List V → List V → List V} {g : List Value → List Value → List Value} (A : HasCM K C m qual st) (ok : ∀ f fd, Fun K m qual st f fd → FnOk P w K mg base CX k f fd ps sp)
    (b : ∀ (kV doc pm : Value) (an : Option Addr) (cdv ct : Value) (us ws : List Value), us.length = 1 → ws.length = ks.length → bindArgs (PySem.W.fnOf m qual (defArgs st) (defBody st) (defScope st) .none kV doc pm an cdv ct) ⟨us, ks.zip ws⟩ = pure (ps.zip (g us ws)))
    (r : ∀ {vs : List V} {us : List Value} {zs : List V} {ws : List Value}, Vals vs us → Vals zs ws → Vals (gV vs zs) (g us ws)) : ClsK P w K mg base CX k C m ps ks sp gV := by
  obtain ⟨mc, p, f, fd, h1, h2, F⟩ := A.ex
  obtain ⟨oc, od, kV, doc, pm, an, cdv, ct, osl, rfl, lk, _⟩ := id F.ex
  exact ⟨mc, p, f, _, g, h1, h2, ok f _ F, ⟨fun s us ws _ l1 l2 => .of_eq (b kV doc pm an cdv ct us ws l1 l2), r⟩⟩
end My
/-! Values of other kinds, ints shown, what stays where the pen and the tables change. -/
namespace My
open PySem PySem.Spec PyProof.Rows L2
/-! ### values of other kinds -/
/-- the built-in kind of a value -/
inductive Ty0 (H : Hp) : V → String → Prop where
  | non : Ty0 H .non "NoneType"
  | bl (b : Bool) : Ty0 H (.bl b) "bool"
  | int (i : Int) : Ty0 H (.int i) "int"
  | str (x : Str) : Ty0 H (.str x) "str"
  | lst {a : Addr} {xs : List V} (e : H a = some (.lst xs)) : Ty0 H (.ref a) "list"
  | tup {a : Addr} {xs : List V} (e : H a = some (.tup xs)) : Ty0 H (.ref a) "tuple"
  | dK {a : Addr} {kvs : List (Key × V)} (e : H a = some (.dK kvs)) : Ty0 H (.ref a) "dict"
theorem Ty0.tyx {K : PySem.W.Frag} {H : Hp} {v : V} {t : String} (h : Ty0 H v t) : TyX K H v (.type t) := by
  cases h with
  | non => exact .base .non
  | bl b => exact .base (.bl b)
  | int i => exact .base (.int i)
  | str x => exact .base (.str x)
  | lst e => exact .base (.lst e)
  | tup e => exact .base (.tup e)
  | dK e => exact .base (.dK e)
def isI : V → Bool
  | .int _ => true
  | _ => false
theorem isI_int {v : V} (h : isI v = true) : ∃ i, v = .int i := by
  cases v with
  | int i => exact ⟨i, rfl⟩
  | _ => cases h
def isT (t : String) : Bool := t == "int"
theorem Ty0.isI {H : Hp} {v : V} {t : String} (h : Ty0 H v t) : My.isI v = isT t := by cases h <;> rfl
theorem Ty0.kint {K : PySem.W.Frag} {H : Hp} {v : V} {t : String} (h : Ty0 H v t) : ∃ b, PySem.W.kitOne K (.type t) (.type "int") = some b ∧ (b = true → ∃ c, PySem.W.kitOne K (.type t) (.type "bool") = some c ∧ My.isI v = !c) ∧ (b = false → My.isI v = false) := by
  cases h with
  | non => exact ⟨false, kit_ty (by decide +kernel), (fun z => Bool.noConfusion z), fun _ => rfl⟩
  | bl b => exact ⟨true, kit_ty (by decide +kernel), fun _ => ⟨true, kit_ty (by decide +kernel), rfl⟩, (fun z => Bool.noConfusion z)⟩
  | int i => exact ⟨true, kit_ty (by decide +kernel), fun _ => ⟨false, kit_ty (by decide +kernel), rfl⟩, (fun z => Bool.noConfusion z)⟩
  | str x => exact ⟨false, kit_ty (by decide +kernel), (fun z => Bool.noConfusion z), fun _ => rfl⟩
  | lst e => exact ⟨false, kit_ty (by decide +kernel), (fun z => Bool.noConfusion z), fun _ => rfl⟩
  | tup e => exact ⟨false, kit_ty (by decide +kernel), (fun z => Bool.noConfusion z), fun _ => rfl⟩
  | dK e => exact ⟨false, kit_ty (by decide +kernel), (fun z => Bool.noConfusion z), fun _ => rfl⟩
theorem Ty0.keep {H H' : Hp} {v : V} {t : String} (h : Ty0 H v t) (k : ∀ b o, H b = some o → (∀ p, v = .ref p → p = b → H' b = some o)) : Ty0 H' v t := by
  cases h with
  | non => exact .non
  | bl b => exact .bl b
  | int i => exact .int i
  | str x => exact .str x
  | lst e => exact .lst (k _ _ e _ rfl rfl)
  | tup e => exact .tup (k _ _ e _ rfl rfl)
  | dK e => exact .dK (k _ _ e _ rfl rfl)
theorem Ty0.same {H H' : Hp} {v : V} {t : String} (h : Ty0 H v t) (k : Same H H') : Ty0 H' v t := h.keep fun b o e _ _ _ => k b o e
theorem same_new {H : Hp} {p : Addr} {o : HO} (h : H p = none) : Same H (upd H p o) := fun b u e => by rw [upd_ne (ne_of_none e h)]; exact e
/-- a value of a built-in kind, or an instance of the class at C -/
def TyL (C : Addr) (H : Hp) (v : V) : Prop := (∃ t, Ty0 H v t) ∨ ∃ a dx fs, v = .ref a ∧ H a = some (.ins C dx fs)
theorem TyL.same {C : Addr} {H H' : Hp} {v : V} (h : TyL C H v) (k : Same H H') : TyL C H' v := by
  rcases h with ⟨t, h⟩ | ⟨a, dx, fs, e, h⟩
  · exact .inl ⟨t, h.same k⟩
  · exact .inr ⟨a, dx, fs, e, k _ _ h⟩
theorem TyL.int (C : Addr) (H : Hp) (i : Int) : TyL C H (.int i) := .inl ⟨_, .int i⟩
theorem pen_ne {H : Hp} {pn l : Addr} {n : Nat} (hp : PenAt H pn n) (hl : H l = none) : l ≠ pn := by
  obtain ⟨cl, ns, a, r, g1, _⟩ := hp
  exact (ne_of_none g1 hl).symm
theorem but_same {pn : Addr} {H H' : Hp} (s : Same H H') : But pn H H' := fun b o e _ => s b o e
theorem pen_same {pn : Addr} {H H' : Hp} {n : Nat} (hp : PenAt H pn n) (k : Same H H') : PenAt H' pn n := by
  obtain ⟨cl, ns, a, r, g1, g2, g3⟩ := hp
  exact ⟨cl, ns, a, r, k _ _ g1, k _ _ g2, g3⟩
theorem mem_ints {v : V} {zs : List Int} (h : v ∈ zs.map V.int) : ∃ z, v = .int z ∧ z ∈ zs := by
  obtain ⟨z, hz, e⟩ := List.mem_map.mp h
  exact ⟨z, e.symm, hz⟩
theorem num_len {i : Int} (h : i.natAbs.log2 < 1920) : ((toString i : String) : Str).length ≤ 1921 := by
  have e := int_text_length_le (k := 1920) (by decide) h
  show (Str.ofString (toString i)).length ≤ 1921
  rw [PySem.ofString_length]
  exact e
theorem app_len (x y : Str) : (x ++ y).length = x.length + y.length := PySem.Str.length_append x y
/-- an int of less than 300 bits -/
def Sm (z : Int) : Prop := z.natAbs < 2 ^ 300
theorem Sm.mul {a b : Int} {i j : Nat} (ha : a.natAbs < 2 ^ i) (hb : b.natAbs < 2 ^ j) (h0 : 0 < i := by decide) (h1 : 0 < j := by decide) (h : i + j ≤ 1000000 := by decide) : CMulW a b := wide_mul ha hb h0 h1 h
theorem Sm.log {z : Int} (h : Sm z) : z.natAbs.log2 < 1920 := Nat.lt_of_lt_of_le (PySem.Flt.log2_lt_of (k := 300) (by decide) h) (by decide)
theorem shown_sum : ∀ (ns : List Int), (∀ z ∈ ns, z.natAbs.log2 < 1920) → ((PyData.shownAll (ns.map PyData.int)).map (·.length)).sum ≤ 1921 * ns.length ∧ (PyData.shownAll (ns.map PyData.int)).length = ns.length
  | [], _ => ⟨Nat.le_refl _, rfl⟩
  | n :: ns, h => by
    obtain ⟨h1, h2⟩ := shown_sum ns fun z hz => h z (List.mem_cons_of_mem _ hz)
    have e2 := num_len (h n List.mem_cons_self)
    refine ⟨?_, ?_⟩
    · show ((toString n : String) : Str).length + ((PyData.shownAll (ns.map PyData.int)).map (·.length)).sum ≤ 1921 * (ns.length + 1)
      omega
    · show (PyData.shownAll (ns.map PyData.int)).length + 1 = ns.length + 1
      omega
theorem showable_ints : ∀ (ns : List Int), (∀ z ∈ ns, z.natAbs.log2 < 1920) → PyData.showableAll (ns.map PyData.int) = true
  | [], _ => rfl
  | n :: ns, h => by
    show (decide (n.natAbs.log2 < 1920) && PyData.showableAll (ns.map PyData.int)) = true
    rw [showable_ints ns fun z hz => h z (List.mem_cons_of_mem _ hz), decide_eq_true (h n List.mem_cons_self)]
    rfl
/-- a list of ints shown -/
theorem ints_show {K : PySem.W.Frag} {H : Hp} {l : Addr} (ns : List Int) (hz : ∀ z ∈ ns, z.natAbs.log2 < 1920) (hl : ns.length ≤ 1000) (h : H l = some (.lst (ns.map V.int))) : Dr K H (.ref l) (.list (ns.map PyData.int)) ∧ (PyData.list (ns.map PyData.int)).showable = true ∧ (PyData.list (ns.map PyData.int)).depth ≤ 60 ∧ (PyData.list (ns.map PyData.int)).shown.length ≤ sizeLine := by
  refine ⟨.inl (.lst (SqL.of h) (dp_ints ns)), showable_ints ns hz, ?_, ?_⟩
  · show PyData.depthAll (ns.map PyData.int) + 1 ≤ 60
    rw [dep_ints]
    decide
  · have h1 := listText_len_le (PyData.shownAll (ns.map PyData.int))
    obtain ⟨h2, h3⟩ := shown_sum ns hz
    show (listText (PyData.shownAll (ns.map PyData.int))).length ≤ sizeLine
    rw [sizeLine_eq]
    omega
theorem yes_go {σ : L2.St} {H : Hp} {A B : Hp → Prop} (h : A H) : tYes σ H (fun b H3 => if b = true then A H3 else B H3) := by
  show (if true = true then A H else B H)
  rw [if_pos rfl]
  exact h
theorem take1 {α : Type} {ls : List α} {i : Nat} {y : α} (h : ls[i]? = some y) : ls.take (i + 1) = ls.take i ++ [y] := by rw [List.take_add_one, h]; rfl
theorem at_int {ls : List Int} {i : Nat} {v : V} (h : (ls.map V.int)[i]? = some v) : ∃ y, ls[i]? = some y ∧ v = .int y := by
  rw [List.getElem?_map] at h
  cases e : ls[i]? with
  | none => rw [e] at h; cases h
  | some y => rw [e] at h; cases h; exact ⟨y, rfl, rfl⟩
/-! ### tables of code objects, the pen, and all else -/
/-- all but the pen and the tables stays, the tables are tables -/
structure Kp (pn : Addr) (TS : List (Addr × Str)) (H H' : Hp) : Prop where
  keep : ∀ b o, H b = some o → b ≠ pn → (∀ ps, o ≠ .tbl ps) → H' b = some o
  tabs : LamX.Tabs TS H'
theorem Kp.trans {pn : Addr} {TS : List (Addr × Str)} {H H1 H2 : Hp} (a : Kp pn TS H H1) (b : Kp pn TS H1 H2) : Kp pn TS H H2 := ⟨fun c o h n m => b.keep c o (a.keep c o h n m) n m, b.tabs⟩
theorem tabs_but {pn : Addr} {TS : List (Addr × Str)} {H H' : Hp} {n : Nat} (t : LamX.Tabs TS H) (hp : PenAt H pn n) (k : But pn H H') : LamX.Tabs TS H' := fun p hp' => by
  obtain ⟨ps, h1, h2, h3⟩ := t p hp'
  obtain ⟨cl, ns, a, r, g1, _⟩ := hp
  refine ⟨ps, k _ _ h1 (ne_of h1 g1 (by intro z; cases z)), h2, fun pos cv hc => ?_⟩
  obtain ⟨c, e1, e2⟩ := h3 pos cv hc
  exact ⟨c, e1, k _ _ e2 (ne_of e2 g1 (by intro z; unfold LamX.CodeO at z; cases z))⟩
theorem Kp.but {pn : Addr} {TS : List (Addr × Str)} {H H' : Hp} {n : Nat} (t : LamX.Tabs TS H) (hp : PenAt H pn n) (k : But pn H H') : Kp pn TS H H' := ⟨fun b o h nb _ => k b o h nb, tabs_but t hp k⟩
theorem Kp.same {pn : Addr} {TS : List (Addr × Str)} {H H' : Hp} (t : LamX.Tabs TS H) (k : Same H H') : Kp pn TS H H' := ⟨fun b o h _ _ => k b o h, t.ext k⟩
theorem Kp.ext {pn : Addr} {TS : List (Addr × Str)} {H H' : Hp} (t : LamX.Tabs TS H') (k : LamX.ExtN H H') : Kp pn TS H H' := ⟨fun b o h _ m => k b o h m, t⟩
theorem pen_ext {pn : Addr} {H H' : Hp} {n : Nat} (hp : PenAt H pn n) (k : LamX.ExtN H H') : PenAt H' pn n := by
  obtain ⟨cl, ns, a, r, g1, g2, g3⟩ := hp
  exact ⟨cl, ns, a, r, k _ _ g1 (by intro ps z; cases z), k _ _ g2 (by intro ps z; cases z), g3⟩
/-- a def whose code object stands at c -/
structure FunC (K : PySem.W.Frag) (x qual : Str) (st : Stmt) (f : Addr) (fd : FuncData) (c : Addr) : Prop where
  ex : ∃ (oc : Value) (od : Option Addr) (kV doc pm : Value) (an : Option Addr) (ct : Value) (osl : Array (Option Value)),
    fd = PySem.W.fnOf x qual (defArgs st) (defBody st) (defScope st) .none kV doc pm an (.ref c) ct ∧ K.lookup f = some ⟨oc, od, .func fd, osl⟩ ∧ PySem.W.codeIn K (.ref c) qual = true
  kp : PySem.W.keepIn K (.ref f) = true
theorem okGc {P : Program} {w : World} {K : PySem.W.Frag} {mg : Str → Option Value} {base : Heap} {x qual : Str} {st : Stmt} {f c : Addr} {fd : FuncData} {N ps : List Str} {k : Nat} {sp : Sp} (F : FunC K x qual st f fd c) (S : FnScope N ps (defScope st)) (len : ∀ vs H Q E, sp vs H Q E → vs.length = ps.length)
    (hbody : ∀ (A : Around) (outer : List Env) (s : Shared) (H : Hp) (vs : List V) (Q : VK) (E : XK), A.guards = some [] → Room k (A.deeper (envOfC qual (defScope st) s.heap.objs.size f (.ref c))) → sp vs H Q E →
      ∃ t, PSs (cxOf CX0 P w K mg base N qual (defScope st) f (.ref c) A outer s H E).nox (defBody st) t ∧ t { nx := fun _ H' => Q .non H', rt := Q } (start N vs) H) : FnG P w K mg base CX0 (k + 1) f fd ps sp := by
  obtain ⟨oc, od, kV, doc, pm, an, ct, osl, rfl, lk, hcd⟩ := F.ex
  refine ⟨len, fun A outer s H args us vs Q E hg hr e0 hb r hsp => LamX.run_ofS lk hcd S hr e0 hb r (len _ _ _ _ hsp) fun hr' => ?_⟩
  obtain ⟨t, h, q⟩ := hbody A outer s H vs Q E hg hr' hsp
  exact ⟨t, h.nox, q⟩
theorem ty_ext {H H' : Hp} {v : V} {t : String} (h : Ty0 H v t) (k : LamX.ExtN H H') : Ty0 H' v t := by
  cases h with
  | non => exact .non
  | bl b => exact .bl b
  | int i => exact .int i
  | str x => exact .str x
  | lst e => exact .lst (k _ _ e (by intro ps z; cases z))
  | tup e => exact .tup (k _ _ e (by intro ps z; cases z))
  | dK e => exact .dK (k _ _ e (by intro ps z; cases z))
theorem ext_same {H H' : Hp} (s : Same H H') : LamX.ExtN H H' := fun b o h _ => s b o h
theorem ext_put {Ha Hx : Hp} {lh : Addr} {o : HO} (n : Ha lh = none) (x : LamX.ExtN Ha Hx) : LamX.ExtN Ha (upd Hx lh o) := fun b u e m => by
  rw [upd_ne (ne_of_none e n)]
  exact x b u e m
theorem tabs_put {TS : List (Addr × Str)} {H : Hp} {lh : Addr} {xs : List V} {o : HO} (t : LamX.Tabs TS H) (h : H lh = some (.lst xs)) : LamX.Tabs TS (upd H lh o) := fun p hp => by
  obtain ⟨ps, h1, h2, h3⟩ := t p hp
  refine ⟨ps, by rw [upd_ne (ne_of h1 h (by intro z; cases z))]; exact h1, h2, fun pos cv hc => ?_⟩
  obtain ⟨c, e1, e2⟩ := h3 pos cv hc
  exact ⟨c, e1, by rw [upd_ne (ne_of e2 h (by intro z; unfold LamX.CodeO at z; cases z))]; exact e2⟩
theorem TyL.ext {C : Addr} {H H' : Hp} {v : V} (h : TyL C H v) (k : LamX.ExtN H H') : TyL C H' v := by
  rcases h with ⟨t, h⟩ | ⟨a, dx, fs, e, h⟩
  · exact .inl ⟨t, ty_ext h k⟩
  · exact .inr ⟨a, dx, fs, e, k _ _ h (by intro ps z; cases z)⟩
end My
namespace My
open PySem PySem.Spec PyProof.Rows L2
def topS (i : Nat) : Stmt := PySem.Challenge.pw_clipfades_k04_ratios_in_order_and_read.main.body.getD i (.Pass ⟨0, 0, 0, 0⟩)
abbrev s_pen : Stmt := topS 15
abbrev s_draw : Stmt := topS 16
abbrev s_pick : Stmt := topS 17
theorem sc_pen : FnScope ["_law_script"] ["_law_script"] (defScope s_pen) := ⟨rfl, rfl, rfl, by decide +kernel, rfl, by decide +kernel, by decide +kernel⟩
theorem sc_draw : FnScope ["_law_pen_here", "_law_many", "_law_digit", "_law_begun", "_law_cell", "_law_great", "_law_mixed"] ["_law_pen_here", "_law_many"] (defScope s_draw) := ⟨rfl, rfl, rfl, by decide +kernel, rfl, by decide +kernel, by decide +kernel⟩
theorem sc_pick : FnScope ["_law_pen_here", "_law_some"] ["_law_pen_here", "_law_some"] (defScope s_pick) := ⟨rfl, rfl, rfl, by decide +kernel, rfl, by decide +kernel, by decide +kernel⟩
/-- the pen, its cells at cl -/
def PenC (H : Hp) (pn cl : Addr) (n : Nat) : Prop := ∃ (ns : List Int) (at_ rest : Int), H pn = some (.lst [.ref cl, .int at_, .int rest]) ∧ H cl = some (.lst (ns.map V.int)) ∧ ns.length ≤ 63 ∧ 0 ≤ at_ ∧ at_ ≤ n
theorem PenC.pen {H : Hp} {pn cl : Addr} {n : Nat} (h : PenC H pn cl n) : PenAt H pn n := by
  obtain ⟨ns, a, r, h⟩ := h
  exact ⟨cl, ns, a, r, h⟩
theorem PenAt.cells {H : Hp} {pn : Addr} {n : Nat} (h : PenAt H pn n) : ∃ cl, PenC H pn cl n := by
  obtain ⟨cl, ns, a, r, h⟩ := h
  exact ⟨cl, ns, a, r, h⟩
theorem PenC.put {H : Hp} {pn cl p : Addr} {n : Nat} {o : HO} (h : PenC H pn cl n) (h1 : pn ≠ p) (h2 : cl ≠ p) : PenC (upd H p o) pn cl n := by
  obtain ⟨ns, a, r, e1, e2, h3⟩ := h
  exact ⟨ns, a, r, by rw [upd_ne h1]; exact e1, by rw [upd_ne h2]; exact e2, h3⟩
theorem PenC.same {H H' : Hp} {pn cl : Addr} {n : Nat} (h : PenC H pn cl n) (s : Same H H') : PenC H' pn cl n := by
  obtain ⟨ns, a, r, e1, e2, h3⟩ := h
  exact ⟨ns, a, r, s _ _ e1, s _ _ e2, h3⟩
def spDrawC : Sp := fun vs H Q _ => ∃ (pn cl : Addr) (m : Int) (n : Nat), vs = [.ref pn, .int m] ∧ 0 < m ∧ m.natAbs.log2 < 9000 ∧ PenC H pn cl n ∧ n < 100000 ∧
  ∀ (d : Int) (H' : Hp), 0 ≤ d → d < m → PenC H' pn cl (n + 1) → But pn H H' → Q (.int d) H'
section
variable {P : Program} {w : World} {K : PySem.W.Frag} {mg : Str → Option Value} {base : Heap}
theorem ok_pen {f : Addr} {fd : FuncData} (F : Fun K "_law_pen" "_law_pen" s_pen f fd) (T : BI mg) : FnOk P w K mg base CX0 1 f fd ["_law_script"] (spPen K) := by
  refine F.ok sc_pen (fun vs H Q E h => ?_) (fun cdv A outer s H vs Q E hr h => ?_)
  · obtain ⟨a, ns, rfl, _⟩ := h
    rfl
  · obtain ⟨a, ns, rfl, hS, k⟩ := h
    refine ⟨_, (pss_one (ps_ret (pe_lst (pa_cons (pe_callTy call_list_of (by rfl) T.z_list boot_list (pa_cons (pe_slice sl_list (pv 0) po_none (po_some pe_int)) pa_nil)) (pa_cons pe_int (pa_cons pe_int pa_nil)))))), ?_⟩
    refine ⟨_, rfl, 63, rfl, a, _, rfl, hS, fun p hp => ?_⟩
    refine ⟨p, _, rfl, .inl (SqL.of upd_same), fun l hl => ?_⟩
    refine ⟨(by show 3 ≤ sizeLine; decide), fun pn hpn => ?_⟩
    have npl : p ≠ l := ne_of_none upd_same hl
    have hlp : l ≠ pn := ne_of_none upd_same hpn
    have e1 : cutV (ns.map V.int) none (some 63) = (ns.take 63).map V.int := cut_ints ns 63
    have s0 : Same H (upd (upd (upd H p (.lst (cutV (ns.map V.int) none (some 63)))) l (.lst (cutV (ns.map V.int) none (some 63)))) pn (.lst [.ref l, .int 0, .int 0])) := fun b o z => by
      have z1 : (upd H p (.lst (cutV (ns.map V.int) none (some 63)))) b = some o := by rw [upd_ne (ne_of_none z hp)]; exact z
      have z2 : (upd (upd H p (.lst (cutV (ns.map V.int) none (some 63)))) l (.lst (cutV (ns.map V.int) none (some 63)))) b = some o := by rw [upd_ne (ne_of_none z1 hl)]; exact z1
      rw [upd_ne (ne_of_none z2 hpn)]
      exact z2
    have n1 : H pn = none := by
      cases z : H pn with
      | none => rfl
      | some o =>
        rw [upd_ne (Ne.symm hlp)] at hpn
        by_cases y : pn = p
        · rw [y, hp] at z
          cases z
        · rw [upd_ne y, z] at hpn
          cases hpn
    refine k pn _ n1 ⟨l, ns.take 63, 0, 0, upd_same, ?_, ?_, Int.le_refl _, Int.le_refl _⟩ s0
    · rw [upd_ne hlp, upd_same, e1]
    · rw [List.length_take]
      omega
theorem ok_drawC {f : Addr} {fd : FuncData} (F : Fun K "_law_draw" "_law_draw" s_draw f fd) (T : BI mg) : FnOk P w K mg base CX0 1 f fd ["_law_pen_here", "_law_many"] spDrawC := by
  refine F.ok sc_draw (fun vs H Q E h => ?_) (fun cdv A outer s H vs Q E hr h => ?_)
  · obtain ⟨pn, cl, m, n, rfl, _⟩ := h
    rfl
  · obtain ⟨pn, cl, m, n, rfl, hm, hml, ⟨ns, at_, rest, h1, h2, h3, h4, h5⟩, hn, k⟩ := h
    refine ⟨_, (pss_cons (ps_if (pt_cmpR op_gt (pe_ix ix_list (pv 0) pe_int (fun _ _ => rfl)) pe_int (nomark _)) (pss_cons (ps_set (i := 2) sc_draw.nd rfl (Or.inl rfl) (pe_op op_mod (pe_callTy call_int1 (by rfl) T.z_int boot_int (pa_cons (pe_ix ix_list (pv 0) pe_int (fun _ _ => rfl)) pa_nil)) (pv 1)))
      (pss_cons (ps_asg (pe_op op_fdivW (pe_ix ix_list (pv 0) pe_int (fun _ _ => rfl)) (pv 1)) (pg_sub (pv 0) pe_int set_list))
      (pss_one (ps_ret (pv 2))))) pss_nil)
      (pss_cons (ps_set (i := 3) sc_draw.nd rfl (Or.inl rfl) (pe_ix ix_list (pv 0) pe_int (fun _ _ => rfl)))
      (pss_cons (ps_asg (pe_op op_add (pv 3) pe_int) (pg_sub (pv 0) pe_int set_list))
      (pss_cons (ps_set (i := 4) sc_draw.nd rfl (Or.inl rfl) (pe_op op_add (pe_op op_mul pe_int (pv 3)) pe_int))
      (C8.pss_cut (ps_if (pt_cmpR (op_neD hr.units) (pe_ix ix_list (pv 0) pe_int (fun _ _ => rfl)) (pe_lst pa_nil) (nomark _)) (pss_one (ps_set (i := 4) sc_draw.nd rfl (Or.inl rfl) (pe_ix ix_list (pe_ix ix_list (pv 0) pe_int (fun _ _ => rfl)) (pe_op op_mod (pe_callTy call_int1 (by rfl) T.z_int boot_int (pa_cons (pv 3) pa_nil)) (pe_callB call_len (by rfl) T.z_len PySem.boot_len (pa_cons (pe_ix ix_list (pv 0) pe_int (fun _ _ => rfl)) pa_nil))) (fun _ _ => rfl)))) pss_nil)
      (C8.pss_cut (ps_if (PW.pt (pw_and (pt_cmpR op_lt (pv 3) (pe_callB call_len (by rfl) T.z_len PySem.boot_len (pa_cons (pe_ix ix_list (pv 0) pe_int (fun _ _ => rfl)) pa_nil)) (nomark _)) (pw_and1 (pt_cmpR op_ge (pe_callB call_abs (by rfl) T.z_abs boot_abs (pa_cons (pv 4) pa_nil)) (pe_op op_pow pe_int pe_int) (nomark _))))) (pss_cons (ps_set (i := 5) sc_draw.nd rfl (Or.inl rfl) (pe_op op_add (pe_op op_mul pe_int (pe_op op_sub (pe_callB call_abs (by rfl) T.z_abs boot_abs (pa_cons (pv 4) pa_nil)) (pe_op op_pow pe_int pe_int))) (pe_callTy call_int1 (by rfl) T.z_int boot_int (pa_cons (pe_cmpR op_lt (pv 4) pe_int (nomark _)) pa_nil))))
      (pss_cons (ps_asg (pe_op op_fdivW (pv 5) (pv 1)) (pg_sub (pv 0) pe_int set_list))
      (pss_one (ps_ret (pe_op op_mod (pe_callTy call_int1 (by rfl) T.z_int boot_int (pa_cons (pv 5) pa_nil)) (pv 1)))))) pss_nil)
      (pss_cons (ps_set (i := 6) sc_draw.nd rfl (Or.inl rfl) (pe_op op_mod (pe_callTy call_int1 (by rfl) T.z_int boot_int (pa_cons (pe_op op_pow (pe_op op_add (pe_op op_add (pe_op op_mod (pe_callTy call_int1 (by rfl) T.z_int boot_int (pa_cons (pv 4) pa_nil)) pe_int) (pe_op op_mul pe_int (pv 3))) pe_int) pe_int) pa_nil)) pe_int))
      (pss_cons (ps_set (i := 6) sc_draw.nd rfl (Or.inl rfl) (pe_op op_mod (pe_callTy call_int1 (by rfl) T.z_int boot_int (pa_cons (pe_op op_pow (pe_op op_add (pe_op op_add (pe_op op_mul (pv 6) (pe_op op_add (pe_op op_mul pe_int (pv 3)) pe_int)) (pe_op op_mul (pe_op op_mul pe_int (pv 3)) (pv 3))) pe_int) pe_int) pa_nil)) pe_int))
      (pss_one (ps_ret (pe_op op_mod (pe_callTy call_int1 (by rfl) T.z_int boot_int (pa_cons (pe_op op_fdivW (pv 6) pe_int) pa_nil)) (pv 1)))))))))))), ?_⟩
    have i2 : atI [V.ref cl, V.int at_, V.int rest] 2 = some (V.int rest) := rfl
    have i1 : atI [V.ref cl, V.int at_, V.int rest] 1 = some (V.int at_) := rfl
    have i0 : atI [V.ref cl, V.int at_, V.int rest] 0 = some (V.ref cl) := rfl
    refine ⟨_, rfl, pn, _, _, _, rfl, rfl, SqL.of h1, i2, _, _, rfl, rfl, _, rfl, ?_⟩
    have npc : cl ≠ pn := ne_of h2 h1 (by
      intro z
      injection z with z
      cases ns with
      | nil => cases z
      | cons a l => cases z)
    refine ite2 (fun c => ?_) (fun c => ?_)
    · refine ⟨_, rfl, pn, _, _, _, rfl, rfl, SqL.of h1, i2, .inl ⟨rest, rfl, _, rfl, _, _, rfl, rfl, hm, ?_⟩⟩
      first
        | refine ⟨_, rfl, pn, _, _, _, rfl, rfl, SqL.of h1, i2, .inl ⟨rest, rfl, _, rfl, _, _, rfl, rfl, ⟨hm, hml⟩, _, rfl, pn, _, _, 2, rfl, rfl, h1, rfl, ?_⟩⟩
        | refine ⟨_, rfl, pn, _, _, _, rfl, rfl, SqL.of h1, i2, _, rfl, _, _, rfl, rfl, ⟨hm, hml⟩, _, rfl, pn, _, _, 2, rfl, rfl, h1, rfl, ?_⟩
      refine ⟨_, rfl, k _ _ (Int.emod_nonneg _ (by omega)) (Int.emod_lt_of_pos _ hm) ?_ But.put⟩
      exact ⟨ns, at_, rest / m, upd_same, by rw [upd_ne npc]; exact h2, h3, h4, by omega⟩
    · refine ⟨_, rfl, pn, _, _, _, rfl, rfl, SqL.of h1, i1, ?_⟩
      refine ⟨_, rfl, _, _, rfl, rfl, _, rfl, pn, _, _, 1, rfl, rfl, h1, rfl, ?_⟩
      refine ⟨_, rfl, _, _, rfl, rfl, .inl ⟨by decide, by decide⟩, _, _, rfl, rfl, ?_⟩
      have i0' : atI [V.ref cl, V.int (at_ + 1), V.int rest] 0 = some (V.ref cl) := rfl
      refine ⟨fun σ H2 => ∃ (cell : Int) (v5 v6 : Option V), σ = [some (.ref pn), some (.int m), none, some (.int at_), some (.int cell), v5, v6] ∧ H2 pn = some (.lst [.ref cl, .int (at_ + 1), .int rest]) ∧ H2 cl = some (.lst (ns.map V.int)) ∧ But pn H H2, ?_, ?_⟩
      · refine ⟨_, rfl, pn, _, _, _, rfl, rfl, SqL.of upd_same, i0', (by show 0 ≤ sizeLine; decide), fun l hl => ?_⟩
        have nlp : pn ≠ l := ne_of_none (upd_same (H := H) (a := pn)) hl
        have nlc : cl ≠ l := ne_of_none (by rw [upd_ne npc]; exact h2) hl
        have w1 : (upd (upd H pn (.lst [.ref cl, .int (at_ + 1), .int rest])) l (.lst [])) pn = some (.lst [.ref cl, .int (at_ + 1), .int rest]) := by rw [upd_ne nlp, upd_same]
        have w2 : (upd (upd H pn (.lst [.ref cl, .int (at_ + 1), .int rest])) l (.lst [])) cl = some (.lst (ns.map V.int)) := by rw [upd_ne nlc, upd_ne npc]; exact h2
        have wb : But pn H (upd (upd H pn (.lst [.ref cl, .int (at_ + 1), .int rest])) l (.lst [])) := But.put.trans (But.new hl)
        refine ⟨.list (ns.map PyData.int), .list [], .lst (SqL.of w2) (dp_ints ns), .lst (SqL.of upd_same) .nil, shaped_ints ns, rfl, _, rfl, ?_⟩
        cases ns with
        | nil =>
          refine iteF ?_
          exact ⟨_, _, _, rfl, w1, w2, wb⟩
        | cons z zs =>
          refine iteT ?_
          have hl0 : (0 : Int) < (((z :: zs).map V.int).length : Int) := by
            rw [List.length_map, List.length_cons]
            omega
          obtain ⟨v, hv⟩ : ∃ v, ((z :: zs))[(at_ % (((z :: zs).map V.int).length : Int)).toNat]? = some v := by
            have g := Int.emod_lt_of_pos at_ hl0
            have g0 := Int.emod_nonneg at_ (show (((z :: zs).map V.int).length : Int) ≠ 0 by omega)
            refine ⟨_, List.getElem?_eq_getElem ?_⟩
            rw [List.length_map] at g g0 ⊢
            omega
          refine ⟨_, rfl, pn, _, _, _, rfl, rfl, SqL.of w1, i0', _, rfl, .inl ⟨at_, rfl, _, rfl, pn, _, _, _, rfl, rfl, SqL.of w1, i0', _, _, rfl, .inl ⟨_, SqL.of w2, rfl⟩, _, _, rfl, rfl, hl0, cl, _, _, .int v, rfl, rfl, SqL.of w2, ?_, ?_⟩⟩
          · have g0 := Int.emod_nonneg at_ (show (((z :: zs).map V.int).length : Int) ≠ 0 by omega)
            refine at_of (j := (at_ % (((z :: zs).map V.int).length : Int)).toNat) (by omega) ?_
            rw [List.getElem?_map, hv]
            rfl
          · exact ⟨_, _, _, rfl, w1, w2, wb⟩
      · rintro σ H2 ⟨cell, v5, v6, rfl, g1, g2, hb⟩
        have pen2 : ∀ r : Int, PenC (upd H2 pn (.lst [.ref cl, .int (at_ + 1), .int r])) pn cl (n + 1) := fun r =>
          ⟨ns, at_ + 1, r, upd_same, by rw [upd_ne npc]; exact g2, h3, by omega, by omega⟩
        refine ⟨fun σ H3 => ∃ (v5 v6 : Option V), σ = [some (.ref pn), some (.int m), none, some (.int at_), some (.int cell), v5, v6] ∧ H3 = H2, ?_, ?_⟩
        · refine ⟨_, rfl, _, rfl, pn, _, _, _, rfl, rfl, SqL.of g1, i0', _, _, rfl, .inl ⟨_, SqL.of g2, rfl⟩, _, _, rfl, rfl, _, rfl, ?_⟩
          refine ite2 (fun c1 => ?_) (fun c1 => iteF ⟨_, _, rfl, rfl⟩)
          refine ⟨_, rfl, _, rfl, _, _, rfl, rfl, ⟨by decide, by decide, by decide⟩, _, _, rfl, rfl, _, rfl, ?_⟩
          refine ite2 (fun c2 => ?_) (fun c2 => ⟨_, _, rfl, rfl⟩)
          refine ⟨_, rfl, _, rfl, _, _, rfl, rfl, ⟨by decide, by decide, by decide⟩, _, _, rfl, rfl, _, _, rfl, rfl, .inl ⟨by decide, by decide⟩, _, rfl, _, _, rfl, rfl, .inr ⟨_, rfl, _, _, rfl, rfl, ?_⟩⟩
          first
            | refine ⟨_, rfl, .inl ⟨_, rfl, _, rfl, _, _, rfl, rfl, ⟨hm, hml⟩, _, rfl, pn, _, _, 2, rfl, rfl, g1, rfl, ?_⟩⟩
            | refine ⟨_, rfl, _, rfl, _, _, rfl, rfl, ⟨hm, hml⟩, _, rfl, pn, _, _, 2, rfl, rfl, g1, rfl, ?_⟩
          refine ⟨_, rfl, .inl ⟨_, rfl, _, rfl, _, _, rfl, rfl, hm, ?_⟩⟩
          exact k _ _ (Int.emod_nonneg _ (by omega)) (Int.emod_lt_of_pos _ hm) (pen2 _) (hb.trans But.put)
        · rintro σ H3 ⟨v5, v6, rfl, rfl⟩
          have ea : at_ < 100000 := by omega
          refine ⟨_, rfl, .inl ⟨_, rfl, _, _, rfl, rfl, (by show (0 : Int) < _; decide), _, rfl, _, _, rfl, rfl, .inl ⟨by decide, by decide⟩, _, _, rfl, rfl, _, _, rfl, rfl, _, _, rfl, rfl, ⟨by decide, by decide, ?_⟩, .inl ⟨_, rfl, _, _, rfl, rfl, (by show (0 : Int) < _; decide), ?_⟩⟩⟩
          · have e1 := Int.emod_nonneg cell (show (2147483563 : Int) ≠ 0 by decide)
            have e2 := Int.emod_lt_of_pos cell (show (0 : Int) < 2147483563 by decide)
            refine pow_lt (by omega) (by omega)
          have x0 := Int.emod_nonneg ((cell % 2147483563 + 39203 * at_ + 267) ^ Int.toNat 3) (show (2147483629 : Int) ≠ 0 by decide)
          have x1 := Int.emod_lt_of_pos ((cell % 2147483563 + 39203 * at_ + 267) ^ Int.toNat 3) (show (0 : Int) < 2147483629 by decide)
          refine ⟨_, rfl, _, rfl, _, _, rfl, rfl, .inl ⟨by decide, by decide⟩, _, _, rfl, rfl, _, _, rfl, rfl, .inl ⟨Int.lt_of_lt_of_le (by decide) x0, Int.lt_trans x1 (by decide)⟩, _, rfl, _, _, rfl, rfl, .inl ⟨by decide, by decide⟩, _, rfl, _, _, rfl, rfl, .inr ⟨by omega, by omega⟩, _, _, rfl, rfl, _, _, rfl, rfl, _, _, rfl, rfl, ⟨by decide, by decide, ?_⟩, .inl ⟨_, rfl, _, _, rfl, rfl, (by show (0 : Int) < _; decide), ?_⟩⟩
          · exact mix_lt x0 (Int.lt_trans x1 (by decide)) h4 ea (by decide) (by decide) (by decide) (by decide) (by decide) (by decide)
          refine ⟨_, rfl, _, _, rfl, rfl, ⟨by decide, by decide⟩, .inl ⟨_, rfl, _, rfl, _, _, rfl, rfl, hm, ?_⟩⟩
          exact k _ _ (Int.emod_nonneg _ (by omega)) (Int.emod_lt_of_pos _ hm) ⟨ns, at_ + 1, rest, g1, g2, h3, by omega, by omega⟩ hb
theorem ok_draw {f : Addr} {fd : FuncData} (F : Fun K "_law_draw" "_law_draw" s_draw f fd) (T : BI mg) : FnOk P w K mg base CX0 1 f fd ["_law_pen_here", "_law_many"] spDraw := by
  have G := ok_drawC (P := P) (w := w) (base := base) F T
  have to : ∀ vs H Q E, spDraw vs H Q E → spDrawC vs H Q E := fun vs H Q E h => by
    obtain ⟨pn, m, n, e, hm, hml, hp, hn, k⟩ := h
    obtain ⟨cl, hc⟩ := hp.cells
    exact ⟨pn, cl, m, n, e, hm, hml, hc, hn, fun d H' a b c u => k d H' a b c.pen u⟩
  exact ⟨fun vs H Q E h => G.len vs H Q E (to _ _ _ _ h), fun A outer s H args us vs Q E hr e0 hb r h => G.run A outer s H args us vs Q E hr e0 hb r (to _ _ _ _ h)⟩
theorem ok_pick {f : Addr} {fd : FuncData} (F : Fun K "_law_pick" "_law_pick" s_pick f fd) (T : BI mg) (D_draw : DefAt P w K mg base CX0 1 "_law_draw" ["_law_pen_here", "_law_many"] spDraw) : FnOk P w K mg base CX0 2 f fd ["_law_pen_here", "_law_some"] spPick := by
  refine F.ok sc_pick (fun vs H Q E h => ?_) (fun cdv A outer s H vs Q E hr h => ?_)
  · obtain ⟨pn, l, n, xs, rfl, _⟩ := h
    rfl
  · obtain ⟨pn, l, n, xs, rfl, hl, nl, h0, h1, hp, hn, k⟩ := h
    refine ⟨_, (pss_one (ps_ret (pe_ix ix_list (pv 1) (My.pe_d D_draw (hr.mono (by decide)) (by rfl) pass0 (pa_cons (pv 0) (pa_cons (pe_callB call_len (by rfl) T.z_len PySem.boot_len (pa_cons (pv 1) pa_nil)) pa_nil))) (fun _ _ => rfl)))), ?_⟩
    refine ⟨_, rfl, _, rfl, _, rfl, _, _, rfl, .inl ⟨_, SqL.of hl, rfl⟩, pn, _, n, rfl, by omega, ?_, hp, hn, fun d H' d0 d1 hp' hb => ?_⟩
    · refine Nat.lt_of_lt_of_le (PySem.Flt.log2_lt_of (k := 10) (by decide) ?_) (by decide)
      show xs.length < 1024
      omega
    · obtain ⟨v, hv⟩ : ∃ v, xs[d.toNat]? = some v := ⟨_, List.getElem?_eq_getElem (by omega)⟩
      refine ⟨l, _, _, v, rfl, rfl, SqL.of (hb l _ hl nl), at_of (j := d.toNat) (by omega) hv, ?_⟩
      exact k v H' (List.mem_of_getElem? hv) hp' hb
end
end My
set_option pp.maxSteps 1500
set_option pp.deepTerms.threshold 8
/-! ### figures_of -/
namespace My
open PySem PySem.Spec PyProof.Rows L2 TX
abbrev s_figof : Stmt := topS 10
theorem sc_figof : FnScope ["text", "sign"] ["text"] (defScope s_figof) := ⟨rfl, rfl, rfl, by decide +kernel, rfl, by decide +kernel, by decide +kernel⟩
structure FTx (mg : Str → Option Value) (tM : Tok) : Prop extends BI mg where
  gMost : mg "MOST_DIGITS" = some (.int 60 tM)
  z_all : mg "all" = none
/-- an int or None -/
def optV : Option Int → V
  | none => .non
  | some k => .int k
def spWord (f : List Nat → Option Int) : Sp := fun vs H Q _ => ∃ x : Str, vs = [.str x] ∧ x.length ≤ 5000 ∧ ∀ H', Same H H' → Q (optV (f (TL.tl x))) H'
theorem atI_0 {xs : List Nat} {c : Nat} (h : xs[0]? = some c) : atI xs (0 : Int) = some c := by
  have hl : 0 < xs.length := (List.getElem?_eq_some_iff.mp h).1
  unfold atI ixN
  rw [if_pos (by decide), if_pos (by omega)]
  exact h
theorem sl5 {x : Str} (h : x.length ≤ 5000) : x.length ≤ sizeLine := by rw [sizeLine_eq]; omega
theorem ix_atN {n : Nat} {a : Int} (h0 : 0 ≤ a) (h1 : a.toNat < n) : ixN n a = some a.toNat := by
  unfold ixN
  rw [if_pos h0, if_pos (by omega)]
theorem at0 {a : V} {r : List V} : atI (a :: r) (0 : Int) = some a := by
  unfold atI ixN
  rw [if_pos (by decide), if_pos (by show (0 : Int) < ((r.length + 1 : Nat) : Int); omega)]
  rfl
theorem at1 {a b : V} {r : List V} : atI (a :: b :: r) (1 : Int) = some b := by
  unfold atI ixN
  rw [if_pos (by decide), if_pos (by show (1 : Int) < ((r.length + 1 + 1 : Nat) : Int); omega)]
  rfl
/-- the wish of BadText(0, n) -/
def ErrT (E : XK) (CT : Addr) (n : Int) (H : Hp) : Prop := ∀ (d : Addr) (H' : Hp), H d = none → H' d = some (.xd [("line", .int 0), ("word", .int n)]) → Same H H' → E (.ref CT) (some d) H'
theorem ErrT.go {E : XK} {CT : Addr} {n : Int} {H : Hp} (h : ErrT E CT n H) {d : Addr} (hd : H d = none) : E (.ref CT) (some d) (upd H d (.xd [("line", .int 0), ("word", .int n)])) := h d _ hd upd_same (same_new hd)
theorem ErrT.up {E : XK} {CT : Addr} {n : Int} {H H1 : Hp} (h : ErrT E CT n H) (s : Same H H1) : ErrT E CT n H1 := fun d H' hd hx s' => h d H' (s.free hd) hx (s.trans s')
theorem tl_no : TL.tl ("" : Str) = [] := by decide +kernel
section
variable {P : Program} {w : World} {K : PySem.W.Frag} {mg : Str → Option Value} {base : Heap} {tM : Tok}
theorem ok_figof {f : Addr} {fd : FuncData} (F : Fun K "figures_of" "figures_of" s_figof f fd) (T : FTx mg tM) : FnOk P w K mg base CX0 1 f fd ["text"] (spWord dg) := by
  refine F.ok sc_figof (fun vs H Q E h => ?_) (fun cdv A outer s H vs Q E hr h => ?_)
  · obtain ⟨x, rfl, _⟩ := h
    rfl
  · obtain ⟨x, rfl, hx, k⟩ := h
    refine ⟨_, (pss_cons (ps_if (PW.pt (pw_or (pt_cmpR op_eq (pv 0) pe_str (nomark _)) (pw_or (pt_cmpR op_gt (pe_callB call_len (by rfl) T.z_len PySem.boot_len (pa_cons (pv 0) pa_nil)) (pe_glob (v := .int 60) rfl T.gMost ⟨_, rfl⟩) (nomark _)) (pw_or1 (pt_not (pt_val (pe_callB (cr_all rfl) (by rfl) T.z_all boot_all (pa_cons (pe_lc (own := [("sign", 1)]) rfl sc_figof.nd (pi_str (pv 0)) (blkOk_by (by show blkC ["text", "sign"] (defScope s_figof) _ _ = true; decide +kernel)) (fun _ _ _ _ _ => (pg_name (i := 1) sc_figof.nd rfl (Or.inl rfl))) (fun _ _ _ _ _ => pts_nil) (fun _ _ _ _ _ => (pe_cmpR op_in_sign (pv 1) pe_str (by rfl)))) pa_nil)))))))) (pss_one (ps_ret pe_non)) pss_nil)
      (pss_one (ps_ret (pe_ifExp (PW.pt (pw_or (pt_cmpR op_eq (pv 0) pe_str (nomark _)) (pw_or1 (pt_cmpR op_ne (pe_ix ix_str (pv 0) pe_int (fun _ _ => rfl)) pe_str (nomark _))))) (pe_callTy call_int_str (by rfl) T.z_int boot_int (pa_cons (pv 0) pa_nil)) pe_non)))), ?_⟩
    have lx := TL.len_tl x
    have none_of : okD (TL.tl x) = false → ∀ H', Same H H' → Q .non H' := fun e H' s => by
      have z := k H' s
      unfold dg at z
      rw [if_neg (by rw [e]; decide)] at z
      exact z
    have bad1 : ¬ (1 ≤ x.length ∧ x.length ≤ 60) → okD (TL.tl x) = false := fun z => by
      rw [Bool.eq_false_iff]
      intro y
      obtain ⟨y1, y2, _⟩ := okD_all y
      omega
    refine ⟨_, rfl, rfl, _, rfl, ?_⟩
    rw [str_eq, tl_no]
    refine ite2 (fun c1 => ?_) (fun c1 => ?_)
    · have : x.length = 0 := by rw [lx, of_decide_eq_true c1]; rfl
      exact none_of (bad1 (by omega)) H fun _ _ e => e
    have l1 : 1 ≤ x.length := by
      rcases Nat.eq_zero_or_pos x.length with z | z
      · rw [lx] at z
        exact absurd (decide_eq_true (List.eq_nil_of_length_eq_zero z)) c1
      · exact z
    refine ⟨_, rfl, _, _, rfl, ⟨sl5 hx, rfl⟩, _, _, rfl, rfl, _, rfl, ite2 (fun c2 => ?_) (fun c2 => ?_)⟩
    · refine none_of (bad1 fun z => ?_) H fun _ _ e => e
      have := of_decide_eq_true c2
      omega
    have l2 : x.length ≤ 60 := by
      by_cases z : (x.length : Int) > 60
      · exact absurd (decide_eq_true z) c2
      · omega
    refine ⟨_, rfl, x, rfl, fun D hD => ?_⟩
    refine lc_it walk_str (fun i Hh => Hh D = some (.lst (((TL.tl x).take i).map fun c => V.bl (isDig c))) ∧ Same H Hh) ⟨upd_same, same_new hD⟩ (fun _ _ _ _ => trivial) ?_ ?_
    · rintro i v Hh H' hi ⟨g1, g2⟩ ⟨rfl, c, hc, rfl⟩
      have hc' : (TL.tl x)[i]? = some c := by
        rw [← hc]
        exact Array.getElem?_toList
      refine ⟨rfl, yes_go ⟨_, rfl, c, _, rfl, rfl, _, g1, ?_, ?_, ?_⟩⟩
      · rw [List.length_map, List.length_take, sizeLine_eq]
        omega
      · rw [take1 hc', List.map_append, dig_mem]
        exact upd_same
      · intro b o e
        rw [upd_ne (ne_of_none e hD)]
        exact g2 _ _ e
    rintro Hh ⟨g1, g2⟩
    have el : (TL.tl x).take x.cps.size = TL.tl x := List.take_of_length_le (by rw [← lx]; exact Nat.le_refl _)
    rw [el] at g1
    refine ⟨D, (TL.tl x).map isDig, rfl, SqL.of (by rw [List.map_map]; exact g1), _, rfl, ?_⟩
    have ea : ((TL.tl x).map isDig).all id = (TL.tl x).all isDig := by rw [List.all_map]; rfl
    rw [ea]
    have eo : okD (TL.tl x) = (TL.tl x).all isDig := by
      unfold okD
      rw [decide_eq_true (show 1 ≤ (TL.tl x).length by omega), decide_eq_true (show (TL.tl x).length ≤ 60 by omega), Bool.true_and, Bool.true_and]
    cases e : (TL.tl x).all isDig with
    | false => exact iteT (none_of (by rw [eo, e]) Hh g2)
    | true =>
      rw [e] at eo
      refine iteF ?_
      obtain ⟨n1, n2⟩ := int_of eo
      have kk := k Hh g2
      unfold dg at kk
      rw [if_pos eo] at kk
      have e0 : TL.tl ("0" : Str) = [48] := by decide +kernel
      refine ⟨_, rfl, rfl, _, rfl, ?_⟩
      rw [str_eq, e0]
      refine ite2 (fun c3 => ?_) (fun c3 => ?_)
      · rw [if_neg (fun z => by
          have := z.1
          rw [of_decide_eq_true c3] at this
          exact absurd this (by decide))] at kk
        exact ⟨_, rfl, x, _, rfl, n1, n2, kk⟩
      · obtain ⟨c, hc⟩ : ∃ c, (TL.tl x)[0]? = some c := ⟨_, List.getElem?_eq_getElem (by omega)⟩
        have hh : (TL.tl x).head? = some c := by rw [← hc]; cases TL.tl x <;> rfl
        have ha : atI x.cps.toList (0 : Int) = some c := atI_0 hc
        refine ⟨_, rfl, x, 0, c, rfl, rfl, sl5 hx, ha, rfl, _, rfl, ?_⟩
        rw [hh] at kk
        have en : (!decide (V.str ⟨#[c]⟩ = V.str "0")) = !decide (c = 48) := by
          rw [str_eq, e0]
          congr 1
          exact decide_eq_decide.mpr ⟨fun z => (List.cons.inj z).1, fun z => by rw [z]⟩
        rw [en]
        by_cases c4 : c = 48
        · rw [decide_eq_true c4]
          refine iteF ?_
          have long : 1 < (TL.tl x).length := by
            rcases Nat.lt_or_ge 1 (TL.tl x).length with z | z
            · exact z
            · exfalso
              refine c3 (decide_eq_true ?_)
              cases g : TL.tl x with
              | nil => rw [g] at hc; cases hc
              | cons a r =>
                rw [g] at z hc
                have zr : r.length = 0 := by
                  have : (a :: r).length = r.length + 1 := rfl
                  omega
                rw [List.eq_nil_of_length_eq_zero zr]
                have : a = c := Option.some.inj hc
                rw [this, c4]
          rw [if_pos ⟨long, by rw [c4]⟩] at kk
          exact kk
        · rw [decide_eq_false c4]
          rw [if_neg (fun z => c4 (Option.some.inj z.2))] at kk
          exact iteT ⟨_, rfl, x, _, rfl, n1, n2, kk⟩
end
theorem kstr {K : PySem.W.Frag} {H : Hp} {v : V} {t : String} (h : Ty0 H v t) : ∃ b, PySem.W.kitOne K (.type t) (.type "str") = some b ∧ (b = true → ∃ x, v = .str x) ∧ (b = false → ∀ x, v ≠ .str x) := by
  cases h with
  | non => exact ⟨false, kit_ty (by decide +kernel), (fun z => Bool.noConfusion z), fun _ _ z => nomatch z⟩
  | bl b => exact ⟨false, kit_ty (by decide +kernel), (fun z => Bool.noConfusion z), fun _ _ z => nomatch z⟩
  | int i => exact ⟨false, kit_ty (by decide +kernel), (fun z => Bool.noConfusion z), fun _ _ z => nomatch z⟩
  | str x => exact ⟨true, kit_ty (by decide +kernel), (fun _ => ⟨x, rfl⟩), fun z => Bool.noConfusion z⟩
  | lst e => exact ⟨false, kit_ty (by decide +kernel), (fun z => Bool.noConfusion z), fun _ _ z => nomatch z⟩
  | tup e => exact ⟨false, kit_ty (by decide +kernel), (fun z => Bool.noConfusion z), fun _ _ z => nomatch z⟩
  | dK e => exact ⟨false, kit_ty (by decide +kernel), (fun z => Bool.noConfusion z), fun _ _ z => nomatch z⟩
end My
namespace My
/-! ### fractions in lowest terms -/
def sgcd (t b : Int) : Int := if b < 0 then -(Int.gcd t b : Int) else (Int.gcd t b : Int)
def lowT (t b : Int) : Int := t.fdiv (sgcd t b)
def lowB (t b : Int) : Int := b.fdiv (sgcd t b)
theorem gcd_posI {t b : Int} (h : b ≠ 0) : 0 < (Int.gcd t b : Int) := by
  have : 0 < Int.gcd t b := Int.gcd_pos_of_ne_zero_right t h
  omega
theorem sgcd_ne {t b : Int} (h : b ≠ 0) : sgcd t b ≠ 0 := by
  have := gcd_posI (t := t) h
  unfold sgcd
  split <;> omega
theorem sgcd_dvd_l (t b : Int) : sgcd t b ∣ t := by
  unfold sgcd
  split
  · exact Int.neg_dvd.mpr (Int.gcd_dvd_left ..)
  · exact Int.gcd_dvd_left ..
theorem sgcd_dvd_r (t b : Int) : sgcd t b ∣ b := by
  unfold sgcd
  split
  · exact Int.neg_dvd.mpr (Int.gcd_dvd_right ..)
  · exact Int.gcd_dvd_right ..
theorem fdiv_mul_of {a c : Int} (h : c ∣ a) : c * a.fdiv c = a := Int.mul_fdiv_cancel' h
theorem low_t (t b : Int) : sgcd t b * lowT t b = t := fdiv_mul_of (sgcd_dvd_l t b)
theorem low_b (t b : Int) : sgcd t b * lowB t b = b := fdiv_mul_of (sgcd_dvd_r t b)
theorem lowB_pos {t b : Int} (h : b ≠ 0) : 0 < lowB t b := by
  have e := low_b t b
  have g := gcd_posI (t := t) h
  by_cases hb : b < 0
  · have s : sgcd t b = -(Int.gcd t b : Int) := if_pos hb
    rw [s] at e
    rcases Int.lt_trichotomy (lowB t b) 0 with q | q | q
    · exfalso
      have := Int.mul_pos (a := (Int.gcd t b : Int)) (b := -lowB t b) g (by omega)
      rw [Int.mul_neg] at this
      rw [Int.neg_mul] at e
      omega
    · rw [q] at e; omega
    · exact q
  · have s : sgcd t b = (Int.gcd t b : Int) := if_neg hb
    rw [s] at e
    rcases Int.lt_trichotomy (lowB t b) 0 with q | q | q
    · exfalso
      have := Int.mul_pos (a := (Int.gcd t b : Int)) (b := -lowB t b) g (by omega)
      rw [Int.mul_neg] at this
      omega
    · rw [q] at e; omega
    · exact q
theorem sgcd_abs (t b : Int) : (sgcd t b).natAbs = Int.gcd t b := by
  unfold sgcd
  split <;> simp
theorem low_cop {t b : Int} (h : b ≠ 0) : Int.gcd (lowT t b) (lowB t b) = 1 := by
  have e1 := low_t t b
  have e2 := low_b t b
  have e3 : Int.gcd (sgcd t b * lowT t b) (sgcd t b * lowB t b) = (sgcd t b).natAbs * Int.gcd (lowT t b) (lowB t b) := Int.gcd_mul_left ..
  rw [e1, e2, sgcd_abs] at e3
  have g := gcd_posI (t := t) h
  have g' : 0 < Int.gcd t b := by omega
  exact Nat.eq_of_mul_eq_mul_left g' (by rw [Nat.mul_one]; exact e3.symm)
/-- the law's own way: by the sign and the divisor -/
theorem sgnT {t b : Int} (h : b ≠ 0) : ((if b > 0 then 1 else -1) * t).fdiv (Int.gcd t b : Int) = lowT t b := by
  have g := gcd_posI (t := t) h
  have e := low_t t b
  have key : ((if b > 0 then 1 else -1) * t) = (Int.gcd t b : Int) * lowT t b := by
    conv => lhs; rw [← e]
    unfold sgcd
    by_cases hb : b < 0
    · rw [if_pos hb, if_neg (show ¬ b > 0 by omega), Int.neg_mul, Int.neg_mul, Int.mul_neg, Int.neg_neg, Int.one_mul]
    · rw [if_neg hb, if_pos (show b > 0 by omega), Int.one_mul]
  rw [key, Int.mul_fdiv_cancel_left _ (by omega)]
theorem sgnB {t b : Int} (h : b ≠ 0) : ((if b > 0 then 1 else -1) * b).fdiv (Int.gcd t b : Int) = lowB t b := by
  have g := gcd_posI (t := t) h
  have e := low_b t b
  have key : ((if b > 0 then 1 else -1) * b) = (Int.gcd t b : Int) * lowB t b := by
    have e' : sgcd t b = (if b > 0 then 1 else -1) * (Int.gcd t b : Int) := by
      unfold sgcd
      by_cases hb : b < 0
      · rw [if_pos hb, if_neg (show ¬ b > 0 by omega), Int.neg_mul, Int.one_mul]
      · rw [if_neg hb, if_pos (show b > 0 by omega), Int.one_mul]
    rw [e'] at e
    by_cases hb : b < 0
    · rw [if_neg (show ¬ b > 0 by omega)] at e ⊢
      rw [Int.neg_mul, Int.one_mul] at e ⊢
      rw [Int.neg_mul] at e
      omega
    · rw [if_pos (show b > 0 by omega)] at e ⊢
      rw [Int.one_mul] at e ⊢
      omega
  rw [key, Int.mul_fdiv_cancel_left _ (by omega)]
theorem cop_dvd {n d m : Int} (h : Int.gcd n d = 1) (k : d ∣ n * m) : d ∣ m := by
  have h1 : d.natAbs ∣ n.natAbs * m.natAbs := by
    rw [← Int.natAbs_mul]
    exact Int.natAbs_dvd_natAbs.mpr k
  have h2 : Nat.Coprime d.natAbs n.natAbs := by
    show Nat.gcd _ _ = 1
    rw [Nat.gcd_comm]
    exact h
  exact Int.natAbs_dvd_natAbs.mp (h2.dvd_of_dvd_mul_left h1)
theorem low_only {n1 d1 n2 d2 : Int} (p1 : 0 < d1) (p2 : 0 < d2) (c1 : Int.gcd n1 d1 = 1) (c2 : Int.gcd n2 d2 = 1) (h : n1 * d2 = n2 * d1) : n1 = n2 ∧ d1 = d2 := by
  have e1 : d1 ∣ d2 := cop_dvd c1 (by rw [h]; exact Int.dvd_mul_left ..)
  have e2 : d2 ∣ d1 := cop_dvd c2 (by rw [← h]; exact Int.dvd_mul_left ..)
  have e : d1 = d2 := Int.le_antisymm (Int.le_of_dvd p2 e1) (Int.le_of_dvd p1 e2)
  subst e
  exact ⟨Int.eq_of_mul_eq_mul_right (by omega) h, rfl⟩
theorem low_cross {t b : Int} : lowT t b * b = lowB t b * t := by
  have e1 := low_t t b
  have e2 := low_b t b
  calc lowT t b * b = lowT t b * (sgcd t b * lowB t b) := by rw [e2]
    _ = lowB t b * (sgcd t b * lowT t b) := by simp only [Int.mul_comm, Int.mul_left_comm]
    _ = lowB t b * t := by rw [e1]
/-- equal fractions have the same lowest terms -/
theorem low_eq {t1 b1 t2 b2 : Int} (h1 : b1 ≠ 0) (h2 : b2 ≠ 0) (h : t1 * b2 = t2 * b1) : lowT t1 b1 = lowT t2 b2 ∧ lowB t1 b1 = lowB t2 b2 := by
  refine low_only (lowB_pos h1) (lowB_pos h2) (low_cop h1) (low_cop h2) ?_
  have s1 := sgcd_ne (t := t1) h1
  have s2 := sgcd_ne (t := t2) h2
  have a1 := low_t t1 b1
  have a2 := low_b t1 b1
  have a3 := low_t t2 b2
  have a4 := low_b t2 b2
  have q : (sgcd t1 b1 * sgcd t2 b2) * (lowT t1 b1 * lowB t2 b2) = (sgcd t1 b1 * sgcd t2 b2) * (lowT t2 b2 * lowB t1 b1) := by
    calc (sgcd t1 b1 * sgcd t2 b2) * (lowT t1 b1 * lowB t2 b2) = (sgcd t1 b1 * lowT t1 b1) * (sgcd t2 b2 * lowB t2 b2) := by grind
      _ = t1 * b2 := by rw [a1, a4]
      _ = t2 * b1 := h
      _ = (sgcd t2 b2 * lowT t2 b2) * (sgcd t1 b1 * lowB t1 b1) := by rw [a3, a2]
      _ = _ := by grind
  exact Int.eq_of_mul_eq_mul_left (Int.mul_ne_zero s1 s2) q
theorem low_self {n d : Int} (p : 0 < d) (c : Int.gcd n d = 1) : lowT n d = n ∧ lowB n d = d := by
  have h : d ≠ 0 := by omega
  exact low_only (lowB_pos h) p (low_cop h) c (by rw [low_cross, Int.mul_comm])
theorem lowT_abs {t b : Int} (h : b ≠ 0) : (lowT t b).natAbs ≤ t.natAbs := by
  have e := congrArg Int.natAbs (low_t t b)
  rw [Int.natAbs_mul] at e
  have s : 0 < (sgcd t b).natAbs := Int.natAbs_pos.mpr (sgcd_ne h)
  rw [← e]
  exact Nat.le_mul_of_pos_left _ s
theorem lowB_abs {t b : Int} (h : b ≠ 0) : (lowB t b).natAbs ≤ b.natAbs := by
  have e := congrArg Int.natAbs (low_b t b)
  rw [Int.natAbs_mul] at e
  have s : 0 < (sgcd t b).natAbs := Int.natAbs_pos.mpr (sgcd_ne h)
  rw [← e]
  exact Nat.le_mul_of_pos_left _ s
theorem sgcd_le {t b : Int} (h : b ≠ 0) : (sgcd t b).natAbs ≤ b.natAbs := by
  have e := congrArg Int.natAbs (low_b t b)
  rw [Int.natAbs_mul] at e
  have s : 0 < (lowB t b).natAbs := Int.natAbs_pos.mpr (by have := lowB_pos (t := t) h; omega)
  rw [← e]
  exact Nat.le_mul_of_pos_right _ s
theorem gcd_le_r {t b : Int} (h : b ≠ 0) : Int.gcd t b ≤ b.natAbs := by
  rw [← sgcd_abs]
  exact sgcd_le h
theorem lowT_zero {t b : Int} (h : b ≠ 0) : lowT t b = 0 ↔ t = 0 := by
  constructor
  · intro e
    have := low_t t b
    rw [e, Int.mul_zero] at this
    exact this.symm
  · rintro rfl
    have := low_t 0 b
    rcases Int.mul_eq_zero.mp this with q | q
    · exact absurd q (sgcd_ne h)
    · exact q
/-- a fraction turned over that equals itself -/
theorem turned {n d : Int} (p : 0 < d) (c : Int.gcd n d = 1) (hn : n ≠ 0) (e2 : lowB d n = d) : n.natAbs = d.natAbs := by
  have g : Int.gcd d n = 1 := by rw [Int.gcd_comm]; exact c
  have b := low_b d n
  have s : (sgcd d n).natAbs = 1 := by rw [sgcd_abs, g]
  have := congrArg Int.natAbs b
  rw [Int.natAbs_mul, s, Nat.one_mul, e2] at this
  exact this.symm
/-- one turn of Euclid's way -/
theorem gcd_turn {a b : Int} (ha : 0 ≤ a) (hb : 0 ≤ b) : Int.gcd b (a.fmod b) = Int.gcd a b := by
  rw [Int.fmod_eq_emod_of_nonneg _ hb]
  unfold Int.gcd
  rw [Int.natAbs_emod_of_nonneg ha, Nat.gcd_comm, Nat.gcd_comm a.natAbs, ← Nat.gcd_rec]
theorem fmod_bd {a b : Int} (hb : 0 < b) : 0 ≤ a.fmod b ∧ a.fmod b < b := by
  rw [Int.fmod_eq_emod_of_nonneg _ (by omega)]
  exact ⟨Int.emod_nonneg _ (by omega), Int.emod_lt_of_pos _ hb⟩
theorem gcd_absI (a b : Int) : Int.gcd (if a < 0 then -a else a) (if b < 0 then -b else b) = Int.gcd a b := by
  unfold Int.gcd
  congr 1 <;> split <;> simp
end My
/-! Fractions as texts: written, read, told apart. -/
namespace RT
open PySem PySem.Spec PyProof.Rows L2 TX My
/-- the text of a fraction -/
def txt (a b : Int) : List Nat := if b = 1 then intL a else intL a ++ ([47] ++ intL b)
/-- sign and figures of the first word -/
def neg (w : List Nat) : Bool := decide (w.take 1 = [45])
def top0 (w : List Nat) : List Nat := if neg w = true then w.drop 1 else w
/-- what the words say: a top and a bottom above 0 -/
def partsR (ws : List (List Nat)) : Option (Int × Int) := match ws with
  | [w0] => (match dg (top0 w0) with | none => none | some t => some ((if neg w0 = true then -1 else 1) * t, 1))
  | [w0, w1] => (match dg (top0 w0) with | none => none | some t => match dg w1 with | none => none | some b => if 0 < b then some ((if neg w0 = true then -1 else 1) * t, b) else none)
  | _ => none
def readR (l : List Nat) : Option (Int × Int) := match partsR (TL.spl [47] 0 [] l) with
  | none => none
  | some (t, b) => if txt (lowT t b) (lowB t b) = l then some (lowT t b, lowB t b) else none
theorem spl_txt {a b : Int} : TL.spl [47] 0 [] (txt a b) = if b = 1 then [intL a] else [intL a, intL b] := by
  have f : ∀ i : Int, (47 : Nat) ∉ intL i := fun i => intL_free (by decide) (by decide)
  unfold txt
  split
  · rw [TL.spl_last1 (f a), List.nil_append]
  · rw [TL.spl_part1 (f a), TL.spl_last1 (f b), List.nil_append, List.nil_append]
theorem num_head {n : Nat} : (TL.numL n).take 1 ≠ [45] := by
  cases e : TL.numL n with
  | nil => exact absurd e (TL.numL_ne n)
  | cons c l =>
    intro z
    have z : [c] = [45] := z
    have : c = 45 := (List.cons.inj z).1
    have h := TL.numL_digits n c (by rw [e]; exact List.mem_cons_self)
    omega
theorem neg_int (a : Int) : neg (intL a) = decide (a < 0) ∧ top0 (intL a) = TL.numL a.natAbs := by
  unfold top0 neg intL
  by_cases h : a < 0
  · rw [if_pos h, decide_eq_true h]
    exact ⟨rfl, rfl⟩
  · rw [if_neg h, decide_eq_false h, decide_eq_false num_head]
    exact ⟨rfl, rfl⟩
theorem parts_one {w : List Nat} {t : Int} (h : dg (top0 w) = some t) : partsR [w] = some ((if neg w = true then -1 else 1) * t, 1) := by
  unfold partsR
  simp only [h]
theorem parts_one0 {w : List Nat} (h : dg (top0 w) = none) : partsR [w] = none := by
  unfold partsR
  simp only [h]
theorem parts_two {w w1 : List Nat} {t b : Int} (h : dg (top0 w) = some t) (h1 : dg w1 = some b) : partsR [w, w1] = if 0 < b then some ((if neg w = true then -1 else 1) * t, b) else none := by
  unfold partsR
  simp only [h, h1]
theorem parts_two0 {w w1 : List Nat} (h : dg (top0 w) = none) : partsR [w, w1] = none := by
  unfold partsR
  simp only [h]
theorem parts_two1 {w w1 : List Nat} (h1 : dg w1 = none) : partsR [w, w1] = none := by
  unfold partsR
  cases h : dg (top0 w) <;> simp only [h, h1]
theorem parts_more {w w1 w2 : List Nat} {r : List (List Nat)} : partsR (w :: w1 :: w2 :: r) = none := rfl
/-- what is written is read -/
theorem read_txt {a b : Int} (hb : 0 < b) (hg : Int.gcd a b = 1) (ha : a.natAbs < 10 ^ 60) (hb2 : b.natAbs < 10 ^ 60) : readR (txt a b) = some (a, b) := by
  obtain ⟨n1, n2⟩ := neg_int a
  have ea : (if decide (a < 0) = true then (-1 : Int) else 1) * ((a.natAbs : Nat) : Int) = a := by
    by_cases h : a < 0
    · rw [if_pos (decide_eq_true h)]
      omega
    · rw [if_neg (fun z => h (of_decide_eq_true z))]
      omega
  have ep : partsR (TL.spl [47] 0 [] (txt a b)) = some (a, b) := by
    rw [spl_txt]
    by_cases h : b = 1
    · rw [if_pos h]
      rw [parts_one (t := ((a.natAbs : Nat) : Int)) (by rw [n2, dg_num ha]), n1, ea, h]
    · rw [if_neg h]
      have eb : intL b = TL.numL b.natAbs := by
        unfold intL
        rw [if_neg (by omega)]
      have e2 : ((b.natAbs : Nat) : Int) = b := by omega
      rw [parts_two (t := ((a.natAbs : Nat) : Int)) (b := b) (by rw [n2, dg_num ha]) (by rw [eb, dg_num hb2, e2]), if_pos hb, n1, ea]
  unfold readR
  rw [ep]
  obtain ⟨l1, l2⟩ := low_self hb hg
  show (if txt (lowT a b) (lowB a b) = txt a b then some (lowT a b, lowB a b) else none) = _
  rw [l1, l2, if_pos rfl]
end RT
/-! raise C() of an own error class without own __init__. -/
namespace My
open PySem PySem.Spec PySem.Calls PyProof.Rows L2
section
variable {X : Cx} {C : Addr} {bmB : List Value} {B newId initId : String} {x : Str} {p pos : Pos}
theorem pmk_nil (F : ExcBaseFacts B newId initId bmB) (q : PySem.W.excIn X.K C bmB newId = true) (gC : X.mg x = some (.ref C)) (kC : PySem.W.keepIn X.K (.ref C) = true) (r : Raises X (.ref C)) (hg : Gl X x) (hdb : (x == ("__debug__" : Str)) = false := by decide) :
    PMk X (.Call (.Name x p) [] [] pos) (fun σ H Q => Q (.ref C) none H) := by
  intro pins s σ H Q I h
  refine wpAny_Call_Name_kw (ld_glob I hg gC ?_ hdb)
  refine PySem.W.callWith_K0 (first := []) I.kIn kC ?_
  show wpAny _ _ (call (.ref C) []) _ _ _
  obtain ⟨bm, N, nm, qn, bs, hdct, sn, sub, ab, col, dd, k0, k1, k2, k3, k5, mN, hC, hN, hni, T⟩ := exc_obj I.kIn q
  refine wpAny_call_exc_subT F T hC hN hni (fun h' e hm => ?_) (Nat.zero_le _)
  exact mk_of I hm r h (I.hok.gone hm.new)
end
end My
namespace My
open PySem PySem.Spec PyProof.Rows L2
/-! ### fractions -/
abbrev s_whole0 : Stmt := topS 8
theorem sc_whole0 : FnScope ["value"] ["value"] (defScope s_whole0) := ⟨rfl, rfl, rfl, by decide +kernel, rfl, by decide +kernel, by decide +kernel⟩
abbrev s_cd : Stmt := topS 9
theorem sc_cd : FnScope ["one", "other"] ["one", "other"] (defScope s_cd) := ⟨rfl, rfl, rfl, by decide +kernel, rfl, by decide +kernel, by decide +kernel⟩
abbrev s_partsof : Stmt := topS 11
theorem sc_partsof : FnScope ["number"] ["number"] (defScope s_partsof) := ⟨rfl, rfl, rfl, by decide +kernel, rfl, by decide +kernel, by decide +kernel⟩
abbrev s_init : Stmt := inClass (topS 13) 0
theorem sc_init : FnScope ["self", "top", "bottom", "shared"] ["self", "top", "bottom"] (defScope s_init) := ⟨rfl, rfl, rfl, by decide +kernel, rfl, by decide +kernel, by decide +kernel⟩
abbrev s_isnum : Stmt := inClass (topS 13) 1
theorem sc_isnum : FnScope ["thing"] ["thing"] (defScope s_isnum) := ⟨rfl, rfl, rfl, by decide +kernel, rfl, by decide +kernel, by decide +kernel⟩
abbrev s_of : Stmt := inClass (topS 13) 2
theorem sc_of : FnScope ["number", "top", "bottom"] ["number"] (defScope s_of) := ⟨rfl, rfl, rfl, by decide +kernel, rfl, by decide +kernel, by decide +kernel⟩
def rfs (a b : Int) : List (Str × V) := putF "bottom" (.int b) (putF "top" (.int a) [])
theorem rsm : ¬ (("top" : Str) = "bottom") := by decide +kernel
theorem rfs_top (a b : Int) : (rfs a b).lookup ("top" : Str) = some (.int a) := by
  unfold rfs
  rw [lookup_putF, if_neg rsm, lookup_putF, if_pos rfl]
theorem rfs_bot (a b : Int) : (rfs a b).lookup ("bottom" : Str) = some (.int b) := by
  unfold rfs
  rw [lookup_putF, if_pos rfl]
theorem rfs_no (a b : Int) {m : Str} (h1 : ¬ m = "bottom") (h2 : ¬ m = "top") : (rfs a b).lookup m = none := by
  unfold rfs
  rw [lookup_putF, if_neg h1, lookup_putF, if_neg h2]
  rfl
/-- at p: a Ratio with this top and this bottom -/
def RatAt (C : Addr) (H : Hp) (p : Addr) (a b : Int) : Prop := ∃ dx, H p = some (.ins C dx (rfs a b))
theorem RatAt.same {C : Addr} {H H' : Hp} {p : Addr} {a b : Int} (h : RatAt C H p a b) (k : Same H H') : RatAt C H' p a b := by
  obtain ⟨dx, e⟩ := h
  exact ⟨dx, k _ _ e⟩
theorem RatAt.ext {C : Addr} {H H' : Hp} {p : Addr} {a b : Int} (h : RatAt C H p a b) (k : LamX.ExtN H H') : RatAt C H' p a b := by
  obtain ⟨dx, e⟩ := h
  exact ⟨dx, k _ _ e (by intro ps z; cases z)⟩
theorem RatAt.kp {C : Addr} {TS : List (Addr × Str)} {H H' : Hp} {p pn : Addr} {n : Nat} {a b : Int} (h : RatAt C H p a b) (hp : PenAt H pn n) (k : Kp pn TS H H') : RatAt C H' p a b := by
  obtain ⟨dx, e⟩ := h
  obtain ⟨cl, ns, a', r, g1, _⟩ := hp
  exact ⟨dx, k.keep _ _ e (ne_of e g1 (by intro z; cases z)) (by intro ps z; cases z)⟩
theorem RatAt.but {C : Addr} {H H' : Hp} {p pn : Addr} {n : Nat} {a b : Int} (h : RatAt C H p a b) (hp : PenAt H pn n) (k : But pn H H') : RatAt C H' p a b := by
  obtain ⟨dx, e⟩ := h
  obtain ⟨cl, ns, a', r, g1, _⟩ := hp
  exact ⟨dx, k _ _ e (ne_of e g1 (by intro z; cases z))⟩
theorem RatAt.tyl {C : Addr} {H : Hp} {p : Addr} {a b : Int} (h : RatAt C H p a b) : TyL C H (.ref p) := by
  obtain ⟨dx, e⟩ := h
  exact .inr ⟨p, dx, _, rfl, e⟩
/-- an error of the class C with the field f = v -/
def Errs (E : XK) (C : Addr) (f : Str) (v : V) (H : Hp) : Prop := ∀ (d : Addr) (H' : Hp), H d = none → H' d = some (.xd [(f, v)]) → Same H H' → E (.ref C) (some d) H'
theorem Errs.go {E : XK} {C : Addr} {f : Str} {v : V} {H : Hp} (h : Errs E C f v H) {d : Addr} (hd : H d = none) : E (.ref C) (some d) (upd H d (.xd [(f, v)])) := h d _ hd upd_same (same_new hd)
theorem Errs.up {E : XK} {C : Addr} {f : Str} {v : V} {H H1 : Hp} (h : Errs E C f v H) (s : Same H H1) : Errs E C f v H1 := fun d H' hd hx s' => h d H' (s.free hd) hx (s.trans s')
/-- an error of the class C without fields -/
def Err0 (E : XK) (C : Addr) (H : Hp) : Prop := ∀ H', Same H H' → E (.ref C) none H'
theorem Err0.go {E : XK} {C : Addr} {H : Hp} (h : Err0 E C H) : E (.ref C) none H := h H fun _ _ e => e
theorem Err0.up {E : XK} {C : Addr} {H H1 : Hp} (h : Err0 E C H) (s : Same H H1) : Err0 E C H1 := fun H' s' => h H' (s.trans s')
/-- an own error class without own __init__ -/
structure Nil0 (K : PySem.W.Frag) (mg : Str → Option Value) (x : Str) (C : Addr) : Prop where
  g : mg x = some (.ref C)
  x : PySem.W.excIn K C [.type "ValueError", .type "Exception", .type "BaseException", .type "object"] "ValueError.__new__" = true
  k : PySem.W.keepIn K (.ref C) = true
  b : PySem.W.subIn K (.ref C) (.type "BaseException") = some true
  t : PySem.W.typeIn K (.ref C) = some (.type "type")
/-- what the top has written of Ratio and its errors -/
structure RTx (P : Program) (K : PySem.W.Frag) (mg : Str → Option Value) (C CB fB CN : Addr) : Prop extends BI mg where
  cl : Cls K C
  nT : NoAttr K C "top"
  nB : NoAttr K C "bottom"
  gR : mg "Ratio" = some (.ref C)
  ha : PySem.W.findIn K (.ref C) "__class__" = some (some (.builtin "object.__class__"))
  hn : PySem.W.specialIn K (.builtin "object.__class__") "__get__" = some (some (.builtin "getset_descriptor.__get__"))
  ht : PySem.W.takesIn K (.builtin "object.__class__") = some true
  hm : PySem.W.mroIn K C (.type "object") = some true
  me : PySem.W.kitOne K (.ref C) (.ref C) = some true
  e_BadRatio : Sup.Err1 P K mg "BadRatio" "part" CB fB
  e_NoDivisor : Nil0 K mg "NoDivisor" CN
  z_str : mg "str" = none
  z_tuple : mg "tuple" = none
  z_all : mg "all" = none
  noInt : PySem.W.kitOne K (.ref C) (.type "int") = some false
  kn : ∀ t ∈ ["int", "tuple", "NoneType", "str", "list", "bool", "dict"], PySem.W.kitOne K (.type t) (.ref C) = some false ∧ PySem.W.notFirst K C (.type t) = true
  sf : PySem.W.notFirst K C (.ref C) = true
theorem Ty0.mem {H : Hp} {v : V} {t : String} (h : Ty0 H v t) : t ∈ ["int", "tuple", "NoneType", "str", "list", "bool", "dict"] := by cases h <;> decide
theorem RTx.ty {P : Program} {K : PySem.W.Frag} {mg : Str → Option Value} {C CB fB CN : Addr} (T : RTx P K mg C CB fB CN) {H : Hp} {p : Addr} {a b : Int} (h : RatAt C H p a b) : TyX K H (.ref p) (.ref C) := by
  obtain ⟨dx, e⟩ := h
  exact .base (.ins e T.cl T.ha T.hn T.ht T.hm)
/-- a number: a Ratio, or an int -/
def NumAt (C : Addr) (H : Hp) (v : V) (a b : Int) : Prop := (∃ p, v = .ref p ∧ RatAt C H p a b) ∨ (v = .int a ∧ b = 1)
theorem NumAt.same {C : Addr} {H H' : Hp} {v : V} {c d : Int} (h : NumAt C H v c d) (s : Same H H') : NumAt C H' v c d := by
  rcases h with ⟨p, e, l⟩ | h
  · exact .inl ⟨p, e, l.same s⟩
  · exact .inr h
theorem NumAt.ext {C : Addr} {H H' : Hp} {v : V} {c d : Int} (h : NumAt C H v c d) (s : LamX.ExtN H H') : NumAt C H' v c d := by
  rcases h with ⟨p, e, l⟩ | h
  · exact .inl ⟨p, e, l.ext s⟩
  · exact .inr h
theorem NumAt.kp {C : Addr} {TS : List (Addr × Str)} {H H' : Hp} {v : V} {pn : Addr} {n : Nat} {a b : Int} (h : NumAt C H v a b) (hp : PenAt H pn n) (k : Kp pn TS H H') : NumAt C H' v a b := by
  rcases h with ⟨p, e, l⟩ | h
  · exact .inl ⟨p, e, l.kp hp k⟩
  · exact .inr h
theorem NumAt.orInt {C : Addr} {H : Hp} {v : V} {c d : Int} (h : NumAt C H v c d) : OrInt H C v := by
  rcases h with ⟨p, e, dx, l⟩ | ⟨h, _⟩
  · exact .inl ⟨p, dx, _, e, l⟩
  · exact .inr ⟨c, h⟩
theorem RTx.nty {P : Program} {K : PySem.W.Frag} {mg : Str → Option Value} {C CB fB CN : Addr} (T : RTx P K mg C CB fB CN) {H : Hp} {v : V} {a b : Int} (h : NumAt C H v a b) : ∃ t, TyX K H v t ∧ PySem.W.notFirst K C t = true := by
  rcases h with ⟨p, rfl, l⟩ | ⟨rfl, _⟩
  · exact ⟨_, T.ty l, T.sf⟩
  · exact ⟨_, (Ty0.int (H := H) a).tyx, (T.kn _ (.head _)).2⟩
def spWhole0 (C : Addr) : Sp := fun vs H Q _ => ∃ (v : V), vs = [v] ∧ TyL C H v ∧ Q (.bl (isI v)) H
def spCd : Sp := fun vs H Q _ => ∃ (a b : Int), vs = [.int a, .int b] ∧ Q (.int (Int.gcd a b : Int)) H
def spParts0 (C : Addr) : Sp := fun vs H Q _ => ∃ (v : V) (a b : Int), vs = [v] ∧ NumAt C H v a b ∧ ∀ t, H t = none → Q (.ref t) (upd H t (.tup [.int a, .int b]))
/-- Ratio.__init__(self, top, bottom) -/
def spInit (C CB CN : Addr) : Sp := fun vs H Q E => ∃ (p dx : Addr) (tv bv : V), vs = [.ref p, tv, bv] ∧ H p = some (.ins C dx []) ∧ TyL C H tv ∧ TyL C H bv ∧
  (∀ t b, tv = .int t → bv = .int b → b ≠ 0 → b.natAbs.log2 < 9000 ∧ ∀ H', H' p = some (.ins C dx (rfs (lowT t b) (lowB t b))) → (∀ c o, H c = some o → c ≠ p → H' c = some o) → Q .non H') ∧
  (isI tv = false → Errs E CB "part" (.str "top") H) ∧ (isI tv = true → isI bv = false → Errs E CB "part" (.str "bottom") H) ∧ (isI tv = true → bv = .int 0 → Err0 E CN H)
/-- Ratio.is_number(v): of these kinds alone -/
def spIsnum (C : Addr) : Sp := fun vs H Q _ => ∃ (v : V) (b : Bool), vs = [v] ∧ ((b = true ∧ ∃ n d, NumAt C H v n d) ∨ (b = false ∧ (∃ t, Ty0 H v t) ∧ isI v = false)) ∧ Q (.bl b) H
def spOf (C CB : Addr) : Sp := fun vs H Q E => ∃ (v : V), vs = [v] ∧
  ((∃ a b, NumAt C H v a b ∧ b ≠ 0 ∧ b.natAbs.log2 < 9000 ∧ ∀ (q : Addr) (H' : Hp), RatAt C H' q (lowT a b) (lowB a b) → Same H H' → Q (.ref q) H') ∨ ((∃ t, Ty0 H v t) ∧ isI v = false ∧ Errs E CB "part" (.str "top") H))
theorem log_le {x y : Nat} (h : x ≤ y) (k : y.log2 < 9000) (hx : x ≠ 0) : x.log2 < 9000 := by
  have h1 : y < 2 ^ 9000 := (Nat.log2_lt (by omega)).mp k
  exact (Nat.log2_lt hx).mpr (Nat.lt_of_le_of_lt h h1)
/-- a new Ratio -/
theorem init_at {C CB CN : Addr} {H : Hp} {x dx : Addr} {a b : Int} {R : Hp → Prop} {E : XK} (hb : b ≠ 0) (lb : b.natAbs.log2 < 9000) (hx : H x = none) (hd : H dx = none) (ne : dx ≠ x) (k : ∀ H', RatAt C H' x (lowT a b) (lowB a b) → Same H H' → R H') :
    spInit C CB CN (.ref x :: ([.int a, .int b] ++ [])) (upd (upd H dx (.own x)) x (.ins C dx [])) (fun v H2 => v = .non ∧ R H2) E := by
  refine ⟨x, dx, _, _, rfl, upd_same, TyL.int _ _ a, TyL.int _ _ b, fun a' b' ea eb _ => ?_, fun z => Bool.noConfusion z, fun _ z => Bool.noConfusion z, fun _ z => ?_⟩
  · cases ea
    cases eb
    refine ⟨lb, fun H' h1 h2 => ⟨rfl, k H' ⟨dx, h1⟩ fun c o e => ?_⟩⟩
    refine h2 c o ?_ (ne_of_none e hx)
    rw [upd_ne (ne_of_none e hx), upd_ne (ne_of_none e hd)]
    exact e
  · cases z
    exact absurd rfl hb
section
variable {P : Program} {w : World} {K : PySem.W.Frag} {mg : Str → Option Value} {base : Heap} {C CB fB CN : Addr}
theorem ok_whole0 {f : Addr} {fd : FuncData} (F : Fun K "is_whole" "is_whole" s_whole0 f fd) (T : RTx P K mg C CB fB CN) : FnOk P w K mg base CX0 1 f fd ["value"] (spWhole0 C) := by
  refine F.ok sc_whole0 (fun vs H Q E h => ?_) (fun cdv A outer s H vs Q E hr h => ?_)
  · obtain ⟨v, rfl, _⟩ := h
    rfl
  · obtain ⟨v, rfl, ty, q⟩ := h
    refine ⟨_, (pss_one (ps_ret (pe_and (pe_callB call_isi (by rfl) T.z_isinstance boot_isinstance (pa_cons (pv 0) (pa_cons (pe_bltn (v := .ty "int") (by rfl) T.z_int boot_int rfl) pa_nil))) (pe_one (pe_not (pe_callB call_isi (by rfl) T.z_isinstance boot_isinstance (pa_cons (pv 0) (pa_cons (pe_bltn (v := .ty "bool") (by rfl) T.z_bool boot_bool rfl) pa_nil)))))))), ?_⟩
    rcases ty with ⟨t, ty⟩ | ⟨a, dx, fs, rfl, ea⟩
    case inr => exact ⟨_, rfl, _, _, _, _, false, rfl, .ty _, .base (.ins ea T.cl T.ha T.hn T.ht T.hm), T.noInt, _, rfl, iteF q⟩
    obtain ⟨b, e1, e2, e3⟩ := ty.kint (K := K)
    refine ⟨_, rfl, v, _, _, _, b, rfl, .ty _, ty.tyx, e1, _, rfl, ?_⟩
    cases b with
    | false =>
      refine iteF ?_
      rw [e3 rfl] at q
      exact q
    | true =>
      refine iteT ?_
      obtain ⟨c, e4, e5⟩ := e2 rfl
      refine ⟨_, rfl, v, _, _, _, c, rfl, .ty _, ty.tyx, e4, _, rfl, ?_⟩
      rw [e5] at q
      exact q
theorem ok_cd {f : Addr} {fd : FuncData} (F : Fun K "common_divisor" "common_divisor" s_cd f fd) (T : BI mg) : FnOk P w K mg base CX0 1 f fd ["one", "other"] spCd := by
  refine F.ok sc_cd (fun vs H Q E h => ?_) (fun cdv A outer s H vs Q E hr h => ?_)
  · obtain ⟨a, b, rfl, _⟩ := h
    rfl
  · obtain ⟨a, b, rfl, q⟩ := h
    refine ⟨_, (pss_cons (ps_par (i := 0) (j := 1) (by rfl) sc_cd.nd rfl rfl (by decide) rfl rfl (pa_cons (pe_callB call_abs (by rfl) T.z_abs boot_abs (pa_cons (pv 0) pa_nil)) (pa_cons (pe_callB call_abs (by rfl) T.z_abs boot_abs (pa_cons (pv 1) pa_nil)) pa_nil)) (by rfl))
      (pss_cons (ps_while PassesOwn.never (pt_cmpR op_ne (pv 1) pe_int (nomark _)) (pss_one (ps_par (i := 0) (j := 1) (by rfl) sc_cd.nd rfl rfl (by decide) rfl rfl (pa_cons (pv 1) (pa_cons (pe_op op_modN (pv 0) (pv 1)) pa_nil)) (by rfl))))
      (pss_one (ps_ret (pv 0))))), ?_⟩
    refine ⟨_, rfl, a, rfl, _, rfl, b, rfl, _, _, rfl, ?_⟩
    refine while_by (fun σ Hz => Hz = H ∧ ∃ x y : Int, σ = [some (.int x), some (.int y)] ∧ 0 ≤ x ∧ 0 ≤ y ∧ Int.gcd x y = Int.gcd a b) (fun σ _ => match σ with | [_, some (.int y)] => y.toNat | _ => 0) ?_ ?_ ?_
    · exact ⟨rfl, _, _, rfl, by split <;> omega, by split <;> omega, gcd_absI a b⟩
    · rintro σ Hz ⟨rfl, x, y, rfl, hx, hy, hg⟩
      refine ⟨_, rfl, rfl, _, rfl, ?_⟩
      refine ite2 (fun c => ?_) (fun c => ?_)
      · have y0 : y ≠ 0 := by
          rintro rfl
          simp at c
        obtain ⟨m1, m2⟩ := fmod_bd (a := x) (b := y) (by omega)
        refine ⟨_, rfl, _, rfl, _, rfl, _, _, rfl, rfl, y0, _, _, rfl, ⟨rfl, y, x.fmod y, rfl, hy, m1, ?_⟩, ?_⟩
        · rw [gcd_turn hx hy]
          exact hg
        · show (x.fmod y).toNat < y.toNat
          omega
      · have y0 : y = 0 := by
          by_cases z : y = 0
          · exact z
          · exfalso
            apply c
            simp [z]
        subst y0
        have e : x = (Int.gcd a b : Int) := by
          rw [← hg]
          show x = ((Nat.gcd x.natAbs 0 : Nat) : Int)
          rw [Nat.gcd_zero_right]
          omega
        rw [← e] at q
        exact ⟨_, rfl, q⟩
    · rintro σ Hz Q1 Q2 hm ⟨v, e, h1, h2⟩
      exact ⟨v, e, h1, by obtain ⟨b, e2, h3⟩ := h2; exact ⟨b, e2, hm _ _ h3⟩⟩
theorem ok_partsof {f : Addr} {fd : FuncData} (F : Fun K "parts_of" "parts_of" s_partsof f fd) (T : RTx P K mg C CB fB CN) : FnOk P w K mg base CX0 1 f fd ["number"] (spParts0 C) := by
  refine F.ok sc_partsof (fun vs H Q E h => ?_) (fun cdv A outer s H vs Q E hr h => ?_)
  · obtain ⟨v, a, b, rfl, _⟩ := h
    rfl
  · obtain ⟨v, a, b, rfl, hv, q⟩ := h
    refine ⟨_, (pss_one (ps_ret (pe_ifExp (pt_val (pe_callB call_isi (by rfl) T.z_isinstance boot_isinstance (pa_cons (pv 0) (pa_cons (pe_glob (v := .ref C) (by rfl) T.gR rfl) pa_nil)))) (pe_tup (pa_cons (pe_fld (pv 0) rfl) (pa_cons (pe_fld (pv 0) rfl) pa_nil))) (pe_tup (pa_cons (pv 0) (pa_cons pe_int pa_nil)))))), ?_⟩
    rcases hv with ⟨p, rfl, hl⟩ | ⟨rfl, rfl⟩
    · obtain ⟨dx, e⟩ := id hl
      refine ⟨_, rfl, _, _, _, _, true, rfl, .own _, T.ty hl, T.me, _, rfl, iteT ?_⟩
      exact ⟨_, rfl, p, C, dx, _, _, rfl, e, T.cl, T.nT, rfs_top _ _, _, rfl, p, C, dx, _, _, rfl, e, T.cl, T.nB, rfs_bot _ _, (by show 2 ≤ sizeLine; decide), fun t ht => q t ht⟩
    · refine ⟨_, rfl, _, _, _, _, false, rfl, .own _, (Ty0.int a).tyx, (T.kn _ (.head _)).1, _, rfl, iteF ?_⟩
      exact ⟨_, rfl, (by show 2 ≤ sizeLine; decide), fun t ht => q t ht⟩
theorem ok_init {f : Addr} {fd : FuncData} (F : FunD K "__init__" "Ratio.__init__" (defArgs s_init) (defBody s_init) (defScope s_init) [.int 1] [] f fd) (T : RTx P K mg C CB fB CN)
    (D_whole0 : DefAt P w K mg base CX0 1 "is_whole" ["value"] (spWhole0 C)) (D_cd : DefAt P w K mg base CX0 1 "common_divisor" ["one", "other"] spCd) : FnOk P w K mg base (L2.CX P w) 3 f fd ["self", "top", "bottom"] (spInit C CB CN) := by
  refine F.ok sc_init (fun vs H Q E h => ?_) (fun cdv A outer s H vs Q E hr h => ?_)
  · obtain ⟨p, dx, tv, bv, rfl, _⟩ := h
    rfl
  · obtain ⟨p, dx, tv, bv, rfl, hp, tyt, tyb, kQ, kT, kB, kN⟩ := h
    refine ⟨_, (pss_cons (ps_if (pt_not (pt_val (My.pe_d D_whole0 (hr.mono (by decide)) (by rfl) pass0 (pa_cons (pv 1) pa_nil)))) (pss_one (ps_raise1 rfl T.e_BadRatio (hr.mono (by decide) : Room 0 _) (takes_of rfl rfl rfl rfl) (pa_cons pe_str pa_nil))) pss_nil)
      (pss_cons (ps_if (pt_not (pt_val (My.pe_d D_whole0 (hr.mono (by decide)) (by rfl) pass0 (pa_cons (pv 2) pa_nil)))) (pss_one (ps_raise1 rfl T.e_BadRatio (hr.mono (by decide) : Room 0 _) (takes_of rfl rfl rfl rfl) (pa_cons pe_str pa_nil))) pss_nil)
      (pss_cons (ps_if (pt_cmpR op_eq (pv 2) pe_int (nomark _)) (pss_one (ps_raise rfl (takes_of rfl rfl rfl rfl) (My.pmk_nil PySem.F.excBase_ValueError T.e_NoDivisor.x T.e_NoDivisor.g T.e_NoDivisor.k (raises_own T.e_NoDivisor.b T.e_NoDivisor.t) (by rfl)))) pss_nil)
      (pss_cons (ps_set (i := 3) sc_init.nd rfl (Or.inl rfl) (My.pe_d D_cd (hr.mono (by decide)) (by rfl) pass0 (pa_cons (pv 1) (pa_cons (pv 2) pa_nil))))
      (C8.pss_cut (ps_if (pt_cmpR op_lt (pv 2) pe_int (nomark _)) (pss_one (ps_set (i := 3) sc_init.nd rfl (Or.inl rfl) (pe_un un_neg (pv 3)))) pss_nil)
      (pss_cons (ps_fld (pv 0) (pe_op My.op_fdivX (pv 1) (pv 3)) rfl)
      (pss_one (ps_fld (pv 0) (pe_op My.op_fdivX (pv 2) (pv 3)) rfl)))))))), ?_⟩
    refine ⟨_, rfl, tv, rfl, tyt, _, rfl, ?_⟩
    cases e : isI tv with
    | false =>
      refine iteT ?_
      exact ⟨_, rfl, fun d hd => (kT e).go hd⟩
    | true =>
      refine iteF ?_
      refine ⟨_, rfl, bv, rfl, tyb, _, rfl, ?_⟩
      cases eb : isI bv with
      | false =>
        refine iteT ?_
        exact ⟨_, rfl, fun d hd => (kB e eb).go hd⟩
      | true =>
        refine iteF ?_
        obtain ⟨t, rfl⟩ := isI_int e
        obtain ⟨b, rfl⟩ := isI_int eb
        refine ⟨_, rfl, rfl, _, rfl, ?_⟩
        refine ite2 (fun c => ?_) (fun c => ?_)
        · have b0 : b = 0 := V.int.inj (of_decide_eq_true c)
          subst b0
          exact (kN rfl rfl).go
        · have b0 : b ≠ 0 := fun z => c (decide_eq_true (by rw [z]))
          obtain ⟨lb, kQ⟩ := kQ t b rfl rfl b0
          refine ⟨_, rfl, _, rfl, t, b, rfl, ?_⟩
          refine ⟨fun σ Hz => Hz = H ∧ σ = [some (.ref p), some (.int t), some (.int b), some (.int (sgcd t b))], ?_, ?_⟩
          · refine ⟨_, rfl, _, _, rfl, rfl, _, rfl, ?_⟩
            refine ite2 (fun c => ?_) (fun c => ?_)
            · have c' : b < 0 := of_decide_eq_true c
              refine ⟨_, rfl, _, rfl, rfl, ?_⟩
              unfold sgcd
              rw [if_pos c']
              rfl
            · have c' : ¬ b < 0 := fun z => c (decide_eq_true z)
              refine ⟨rfl, ?_⟩
              unfold sgcd
              rw [if_neg c']
              rfl
          · rintro σ Hz ⟨rfl, rfl⟩
            have sn := sgcd_ne (t := t) b0
            have sl : (sgcd t b).natAbs.log2 < 9000 := log_le (sgcd_le b0) lb (Int.natAbs_ne_zero.mpr sn)
            refine ⟨_, rfl, _, rfl, _, _, rfl, rfl, ⟨sn, sl⟩, _, rfl, p, C, dx, _, rfl, hp, T.cl, T.nT, (by show 0 < 1000; decide), ?_⟩
            refine ⟨_, rfl, _, rfl, _, _, rfl, rfl, ⟨sn, sl⟩, _, rfl, p, C, dx, _, rfl, upd_same, T.cl, T.nB, (by show 1 < 1000; decide), ?_⟩
            refine kQ _ upd_same fun c o z nc => ?_
            rw [upd_ne nc, upd_ne nc]
            exact z
theorem ok_isnum {f : Addr} {fd : FuncData} (F : Fun K "is_number" "Ratio.is_number" s_isnum f fd) (T : RTx P K mg C CB fB CN) (D_whole0 : DefAt P w K mg base CX0 1 "is_whole" ["value"] (spWhole0 C)) : FnOk P w K mg base CX0 2 f fd ["thing"] (spIsnum C) := by
  refine F.ok sc_isnum (fun vs H Q E h => ?_) (fun cdv A outer s H vs Q E hr h => ?_)
  · obtain ⟨v, b, rfl, _⟩ := h
    rfl
  · obtain ⟨v, b, rfl, hv, q⟩ := h
    refine ⟨_, (pss_one (ps_ret (pe_or (pe_callB call_isi (by rfl) T.z_isinstance boot_isinstance (pa_cons (pv 0) (pa_cons (pe_glob (v := .ref C) (by rfl) T.gR rfl) pa_nil))) (pe_one (My.pe_d D_whole0 (hr.mono (by decide)) (by rfl) pass0 (pa_cons (pv 0) pa_nil)))))), ?_⟩
    rcases hv with ⟨rfl, n, d, hv⟩ | ⟨rfl, ⟨t, ty⟩, ni⟩
    · rcases hv with ⟨p, rfl, hl⟩ | ⟨rfl, _⟩
      · exact ⟨_, rfl, _, _, _, _, true, rfl, .own _, T.ty hl, T.me, _, rfl, iteT q⟩
      · exact ⟨_, rfl, _, _, _, _, false, rfl, .own _, (Ty0.int n).tyx, (T.kn _ (.head _)).1, _, rfl, iteF ⟨_, rfl, _, rfl, TyL.int _ _ _, q⟩⟩
    · refine ⟨_, rfl, _, _, _, _, false, rfl, .own _, ty.tyx, (T.kn _ ty.mem).1, _, rfl, iteF ⟨_, rfl, _, rfl, .inl ⟨t, ty⟩, ?_⟩⟩
      rw [ni]
      exact q
theorem ok_of {f : Addr} {fd : FuncData} (F : Fun K "of" "Ratio.of" s_of f fd) (T : RTx P K mg C CB fB CN) (S_is_number : StatAt P w K mg base CX0 2 C "is_number" ["thing"] (spIsnum C)) (D_partsof : DefAt P w K mg base CX0 1 "parts_of" ["number"] (spParts0 C))
    (M_Ratio : MakeAt P w K mg base (L2.CX P w) 3 "Ratio" C ["self", "top", "bottom"] (spInit C CB CN) []) : FnOk P w K mg base (L2.CX P w) 5 f fd ["number"] (spOf C CB) := by
  refine F.okX sc_of (fun vs H Q E h => ?_) (fun cdv A outer s H vs Q E hr h => ?_)
  · obtain ⟨v, rfl, _⟩ := h
    rfl
  · obtain ⟨v, rfl, h⟩ := h
    refine ⟨_, (pss_cons (ps_if (pt_not (pt_val (My.pe_st S_is_number (hr.mono (by decide)) pass0 (pe_glob (v := .ref C) (by rfl) T.gR rfl) (pa_cons (pv 0) pa_nil)))) (pss_one (ps_raise1 rfl T.e_BadRatio (hr.mono (by decide) : Room 0 _) (takes_of rfl rfl rfl rfl) (pa_cons pe_str pa_nil))) pss_nil)
      (pss_cons (ps_asg (My.pe_d D_partsof (hr.mono (by decide)) (by rfl) pass0 (pa_cons (pv 0) pa_nil)) (pg_tup rfl (pgs_cons (pg_name (i := 1) sc_of.nd rfl (Or.inl rfl)) (pgs_cons (pg_name (i := 2) sc_of.nd rfl (Or.inl rfl)) pgs_nil))))
      (pss_one (ps_ret (My.pe_mk M_Ratio (hr.mono (by decide)) (by rfl) passL (pa_cons (pv 1) (pa_cons (pv 2) pa_nil))))))), ?_⟩
    rcases h with ⟨a, b, hv, b0, lb, q⟩ | ⟨⟨t, ty⟩, ni, q⟩
    · refine ⟨rfl, _, rfl, v, true, rfl, .inl ⟨rfl, a, b, hv⟩, _, rfl, iteF ?_⟩
      refine ⟨_, rfl, v, a, b, rfl, hv, fun t ht => ?_⟩
      refine ⟨t, _, rfl, SqT.of upd_same, rfl, _, _, rfl, _, _, rfl, rfl, ?_⟩
      refine ⟨_, rfl, _, rfl, fun x dx hx hd ne => init_at b0 lb hx hd ne fun H' l s => q x H' l ((same_new ht).trans s)⟩
    · refine ⟨rfl, _, rfl, v, false, rfl, .inr ⟨rfl, ⟨t, ty⟩, ni⟩, _, rfl, iteT ?_⟩
      exact ⟨_, rfl, fun d hd => q.go hd⟩
end
end My
namespace My
open PySem PySem.Spec PyProof.Rows L2
abbrev s_eq : Stmt := inClass (topS 13) 20
theorem sc_eq : FnScope ["self", "other"] ["self", "other"] (defScope s_eq) := ⟨rfl, rfl, rfl, by decide +kernel, rfl, by decide +kernel, by decide +kernel⟩
abbrev s_bool : Stmt := inClass (topS 13) 19
theorem sc_bool : FnScope ["self"] ["self"] (defScope s_bool) := ⟨rfl, rfl, rfl, by decide +kernel, rfl, by decide +kernel, by decide +kernel⟩
abbrev s_str : Stmt := inClass (topS 13) 25
theorem sc_str : FnScope ["self"] ["self"] (defScope s_str) := ⟨rfl, rfl, rfl, by decide +kernel, rfl, by decide +kernel, by decide +kernel⟩
theorem eqv_two (a b c d : Int) : PyData.eqv (.tuple [.int a, .int b]) (.tuple [.int c, .int d]) = decide (a = c ∧ b = d) := by
  show (a == c && (b == d && true)) = decide (a = c ∧ b = d)
  rw [Bool.and_true, Bool.decide_and]
  rfl
/-- a tuple of ints shown -/
theorem tup_show {K : PySem.W.Frag} {H : Hp} {l : Addr} (ns : List Int) (hz : ∀ z ∈ ns, z.natAbs.log2 < 1920) (hl : ns.length ≤ 1000) (h : H l = some (.tup (ns.map V.int))) : Dr K H (.ref l) (.tuple (ns.map PyData.int)) ∧ (PyData.tuple (ns.map PyData.int)).showable = true ∧ (PyData.tuple (ns.map PyData.int)).depth ≤ 60 ∧ (PyData.tuple (ns.map PyData.int)).shown.length ≤ sizeLine := by
  refine ⟨.inl (.tup (SqT.of h) (dp_ints ns)), showable_ints ns hz, ?_, ?_⟩
  · show PyData.depthAll (ns.map PyData.int) + 1 ≤ 60
    rw [dep_ints]
    decide
  · have h1 := tupleText_len_le (PyData.shownAll (ns.map PyData.int))
    obtain ⟨h2, h3⟩ := shown_sum ns hz
    show (tupleText (PyData.shownAll (ns.map PyData.int))).length ≤ sizeLine
    rw [sizeLine_eq]
    omega
theorem two_show {K : PySem.W.Frag} {H : Hp} {l : Addr} {a b : Int} (ha : a.natAbs.log2 < 1920) (hb : b.natAbs.log2 < 1920) (h : H l = some (.tup [.int a, .int b])) : Dr K H (.ref l) (.tuple [.int a, .int b]) ∧ (PyData.tuple [.int a, .int b]).showable = true ∧ (PyData.tuple [.int a, .int b]).depth ≤ 60 ∧ (PyData.tuple [.int a, .int b]).shown.length ≤ sizeLine :=
  tup_show [a, b] (fun z hz => by
    simp only [List.mem_cons, List.mem_nil_iff, or_false] at hz
    rcases hz with rfl | rfl
    · exact ha
    · exact hb) (by show 2 ≤ 1000; decide) h
def spEqR (C : Addr) : Sp := fun vs H Q _ => ∃ (p : Addr) (a b : Int) (v : V), vs = [.ref p, v] ∧ RatAt C H p a b ∧
  ((∃ c d, NumAt C H v c d ∧ ∀ H', Same H H' → Q (.bl (decide (a = c ∧ b = d))) H') ∨ ((∃ t, Ty0 H v t) ∧ isI v = false ∧ Q (.bl false) H))
def spBoolR (C : Addr) : Sp := fun vs H Q _ => ∃ (p : Addr) (a b : Int), vs = [.ref p] ∧ RatAt C H p a b ∧ Q (.bl (a != 0)) H
def ratT (a b : Int) : Str := if b = 1 then ((toString a : String) : Str) else ((Str.empty ++ ((toString a : String) : Str)) ++ "/") ++ ((toString b : String) : Str)
def spStrR (C : Addr) : Sp := fun vs H Q _ => ∃ (p : Addr) (a b : Int), vs = [.ref p] ∧ RatAt C H p a b ∧ a.natAbs.log2 < 1920 ∧ b.natAbs.log2 < 1920 ∧ Q (.str (ratT a b)) H
section
variable {P : Program} {w : World} {K : PySem.W.Frag} {mg : Str → Option Value} {base : Heap} {C CB fB CN : Addr}
theorem ok_eq {f : Addr} {fd : FuncData} (F : Fun K "__eq__" "Ratio.__eq__" s_eq f fd) (T : RTx P K mg C CB fB CN) (S_is_number : StatAt P w K mg base CX0 2 C "is_number" ["thing"] (spIsnum C)) (D_partsof : DefAt P w K mg base CX0 1 "parts_of" ["number"] (spParts0 C)) : FnOk P w K mg base CX0 3 f fd ["self", "other"] (spEqR C) := by
  refine F.ok sc_eq (fun vs H Q E h => ?_) (fun cdv A outer s H vs Q E hr h => ?_)
  · obtain ⟨p, a, b, v, rfl, _⟩ := h
    rfl
  · obtain ⟨p, a, b, v, rfl, hp, h⟩ := h
    refine ⟨_, (pss_one (ps_ret (pe_and (My.pe_st S_is_number (hr.mono (by decide)) pass0 (pe_glob (v := .ref C) (by rfl) T.gR rfl) (pa_cons (pv 1) pa_nil)) (pe_one (pe_cmpR (op_eqD hr.units) (pe_tup (pa_cons (pe_fld (pv 0) rfl) (pa_cons (pe_fld (pv 0) rfl) pa_nil))) (My.pe_d D_partsof (hr.mono (by decide)) (by rfl) pass0 (pa_cons (pv 1) pa_nil)) (nomark _)))))), ?_⟩
    obtain ⟨dx, e⟩ := id hp
    rcases h with ⟨c, d, hv, k⟩ | ⟨ty, ni, k⟩
    · refine ⟨rfl, _, rfl, v, true, rfl, .inl ⟨rfl, c, d, hv⟩, _, rfl, iteT ?_⟩
      refine ⟨_, rfl, p, C, dx, _, _, rfl, e, T.cl, T.nT, rfs_top _ _, _, rfl, p, C, dx, _, _, rfl, e, T.cl, T.nB, rfs_bot _ _, (by show 2 ≤ sizeLine; decide), fun t1 h1 => ?_⟩
      refine ⟨_, rfl, v, c, d, rfl, hv.same (same_new h1), fun t2 h2 => ?_⟩
      have w1 := same_new (o := .tup [.int c, .int d]) h2 _ _ (upd_same (H := H) (a := t1) (o := .tup [.int a, .int b]))
      refine ⟨.tuple [.int a, .int b], .tuple [.int c, .int d], .tup (SqT.of w1) (.cons (.int a) (.cons (.int b) .nil)), .tup (SqT.of upd_same) (.cons (.int c) (.cons (.int d) .nil)), rfl, rfl, ?_⟩
      rw [eqv_two]
      exact k _ ((same_new h1).trans (same_new h2))
    · exact ⟨rfl, _, rfl, v, false, rfl, .inr ⟨rfl, ty, ni⟩, _, rfl, iteF k⟩
theorem ok_bool {f : Addr} {fd : FuncData} (F : Fun K "__bool__" "Ratio.__bool__" s_bool f fd) (T : RTx P K mg C CB fB CN) : FnOk P w K mg base CX0 1 f fd ["self"] (spBoolR C) := by
  refine F.ok sc_bool (fun vs H Q E h => ?_) (fun cdv A outer s H vs Q E hr h => ?_)
  · obtain ⟨p, a, b, rfl, _⟩ := h
    rfl
  · obtain ⟨p, a, b, rfl, ⟨dx, e⟩, k⟩ := h
    refine ⟨_, (pss_one (ps_ret (pe_callTy call_bool1 (by rfl) T.z_bool boot_bool (pa_cons (pe_fld (pv 0) rfl) pa_nil)))), ?_⟩
    exact ⟨_, rfl, p, C, dx, _, _, rfl, e, T.cl, T.nT, rfs_top _ _, .inl ⟨_, rfl, k⟩⟩
theorem ok_str {f : Addr} {fd : FuncData} (F : Fun K "__str__" "Ratio.__str__" s_str f fd) (T : RTx P K mg C CB fB CN) : FnOk P w K mg base CX0 1 f fd ["self"] (spStrR C) := by
  refine F.ok sc_str (fun vs H Q E h => ?_) (fun cdv A outer s H vs Q E hr h => ?_)
  · obtain ⟨p, a, b, rfl, _⟩ := h
    rfl
  · obtain ⟨p, a, b, rfl, ⟨dx, e⟩, ha, hb, k⟩ := h
    refine ⟨_, (pss_cons (ps_if (pt_cmpR op_eq (pe_fld (pv 0) rfl) pe_int (nomark _)) (pss_one (ps_ret (pe_callTy call_str_int (by rfl) T.z_str boot_str (pa_cons (pe_fld (pv 0) rfl) pa_nil)))) pss_nil)
      (pss_one (ps_ret (pe_joined (PJ.cons (pe_fmt (pe_fld (pv 0) rfl)) (PJ.cons pe_str (PJ.cons (pe_fmt (pe_fld (pv 0) rfl)) PJ.nil))))))), ?_⟩
    refine ⟨_, rfl, p, C, dx, _, _, rfl, e, T.cl, T.nB, rfs_bot _ _, rfl, _, rfl, ?_⟩
    refine ite2 (fun c => ?_) (fun c => ?_)
    · have c' : b = 1 := V.int.inj (of_decide_eq_true c)
      unfold ratT at k
      rw [if_pos c'] at k
      exact ⟨_, rfl, p, C, dx, _, _, rfl, e, T.cl, T.nT, rfs_top _ _, a, rfl, ha, k⟩
    · have c' : ¬ b = 1 := fun z => c (decide_eq_true (by rw [z]))
      unfold ratT at k
      rw [if_neg c'] at k
      have la := num_len ha
      have lb := num_len hb
      have e1 : (Str.empty).length = 0 := rfl
      have e2 : (("/" : Str)).length = 1 := rfl
      exact ⟨_, rfl, p, C, dx, _, _, rfl, e, T.cl, T.nT, rfs_top _ _, .inr ⟨a, rfl, ha, _, rfl, by rw [app_len, sizeLine_eq]; omega, _, rfl, by rw [app_len, app_len, sizeLine_eq]; omega, _, rfl, p, C, dx, _, _, rfl, e, T.cl, T.nB, rfs_bot _ _, .inr ⟨b, rfl, hb, _, rfl, by rw [app_len, app_len, app_len, sizeLine_eq]; omega, k⟩⟩⟩
end
end My
/-! t == (), t a tuple of any things. -/
namespace My
open PySem PySem.Spec PyProof.Rows L2
def rEqT0 (K : PySem.W.Frag) : R2 := fun x y H Q => ∃ a b xs, x = .ref a ∧ y = .ref b ∧ SqT K H a xs ∧ SqT K H b [] ∧ Q (.bl (decide (xs = []))) H
theorem op_eqT0 {X : Cx} {n : Nat} (hr : Room n X.A) : OpR X (compareOp .Eq) (rEqT0 X.K) := by
  intro pins s σ H x y v u Q I rx ry h
  obtain ⟨a, b, xs, rfl, rfl, ha, hb, q⟩ := h
  cases (show v = Value.ref a from rx)
  cases (show u = Value.ref b from ry)
  obtain ⟨us, r1, p1, _⟩ := I.tuple ha
  obtain ⟨ws, r2, p2, _⟩ := I.tuple hb
  cases r2
  refine SeqAt.eq_tupleAt (e := fun _ => true) p1 p2 hr.units0 (fun j h1 h2 => absurd h2 (Nat.not_lt_zero _)) ?_
  have e : ((List.range (min us.toArray.size ([] : List Value).toArray.size)).all (fun _ => true) && us.toArray.size == ([] : List Value).toArray.size) = decide (xs = []) := by
    cases r1 with
    | nil => rfl
    | cons p q =>
      rw [decide_eq_false (fun z => nomatch z)]
      simp
  rw [e]
  exact ⟨.bl _, H, I, rfl, q⟩
end My
/-! Static methods with *args, by the class's name. -/
namespace My
open PySem PySem.Spec PySem.Calls PyProof.Rows L2
theorem bind_star0 {B : List Value → Sem (List (Str × Value))} {pv : Str} (h0 : B [] = (newTuple [] >>= fun t => pure [(pv, t)])) (h1 : ∀ r rs, B (r :: rs) = (newTuple (r :: rs) >>= fun t => pure [(pv, t)])) :
    ∀ us rest : List Value, us.length = ([] : List Str).length → B (us ++ rest) = (newTuple rest >>= fun t => pure (([] : List Str).zip us ++ [(pv, t)]))
  | [], [], _ => h0
  | [], r :: rs, _ => h1 r rs
structure StatR (P : Program) (w : World) (K : PySem.W.Frag) (mg : Str → Option Value) (base : Heap) (CX : CXT) (k : Nat) (C : Addr) (m : Str) (sp : Sp) : Prop where
  ex : ∃ f, Stat K C m f ∧ FnR P w K mg base CX k f sp
section
variable {X : Cx} {CX : CXT} {k : Nat} {C : Addr} {sp : Sp} {E : XK} {m : Str} {e o : Expr} {es : List Expr} {t : TA} {ta : TE} {pos apos : Pos}
theorem pe_stR {pl : Sem Bool} (M : StatR X.prog X.w X.K X.mg X.base CX k C m sp) (hr : Room k X.A) (hx : Passes CX X E) (he : PE X o ta) (ha : PA X (e :: es) t)
    (hst : starEach (e :: es) X.env = (false, eval e X.env) :: starEach es X.env := by rfl) (hpl : (backTo pos (starEach es X.env)).any (·.1) = false := by rfl)
    (ht : eval (.Call (.Attribute o m apos) (e :: es) [] pos) X.env = (do
      let ov ← eval o X.env
      standAt apos.atName
      let (f, first) ← holding [ov] (getMethod ov m pl)
      callWith pos f first (backTo pos (starEach (e :: es) X.env)) (backToKw pos (keywordEach [] X.env))) := by rfl) :
    PE X (.Call (.Attribute o m apos) (e :: es) [] pos) (tStat C sp E ta t) := by
  obtain ⟨f, c, F⟩ := M.ex
  refine ⟨fun pins s σ H Q I h => ?_⟩
  refine PySem.W.methodCall_KW (pl := pl) (thn (he.run pins s σ H _ I h) fun u s1 ⟨x, H1, I1, rx, ex, q⟩ => ?_) ht
  subst ex
  obtain rfl : u = Value.ref C := rx
  refine getstat_ok I1 c fun s1 I1 => ?_
  refine PySem.W.callWith_K (first := []) (h₀ := X.base) I.ok.mod.kin c.kp (thn (ha.run pos pins s1 σ H1 _ I1 q) fun us s2 ⟨vs, H2, I2, r, q2⟩ => ⟨I2.kIn, ?_⟩) hst hpl
  exact wpAny_call (run_fnR F hr hx I2 r q2)
/-- .. without arguments -/
theorem pe_stR0 {pl : Sem Bool} (M : StatR X.prog X.w X.K X.mg X.base CX k C m sp) (hr : Room k X.A) (hx : Passes CX X E) (he : PE X o ta)
    (ht : eval (.Call (.Attribute o m apos) [] [] pos) X.env = (do
      let ov ← eval o X.env
      standAt apos.atName
      let (f, first) ← holding [ov] (getMethod ov m pl)
      callWith pos f first (backTo pos (starEach [] X.env)) (backToKw pos (keywordEach [] X.env))) := by rfl) :
    PE X (.Call (.Attribute o m apos) [] [] pos) (tStat C sp E ta tNil) := by
  obtain ⟨f, c, F⟩ := M.ex
  refine ⟨fun pins s σ H Q I h => ?_⟩
  refine PySem.W.methodCall_KW (pl := pl) (thn (he.run pins s σ H _ I h) fun u s1 ⟨x, H1, I1, rx, ex, q⟩ => ?_) ht
  subst ex
  obtain rfl : u = Value.ref C := rx
  refine getstat_ok I1 c fun s1 I1 => ?_
  refine PySem.W.callWith_K0 (first := []) I1.kIn c.kp ?_
  exact wpAny_call (run_fnR F hr hx I1 .nil q)
end
end My
set_option pp.maxSteps 1500
set_option pp.deepTerms.threshold 8
/-! ### the order of numbers -/
namespace My
open PySem PySem.Spec PyProof.Rows L2
abbrev s_lt : Stmt := inClass (topS 13) 21
theorem sc_lt : FnScope ["self", "other", "top", "bottom"] ["self", "other"] (defScope s_lt) := ⟨rfl, rfl, rfl, by decide +kernel, rfl, by decide +kernel, by decide +kernel⟩
abbrev s_le : Stmt := inClass (topS 13) 22
theorem sc_le : FnScope ["self", "other", "top", "bottom"] ["self", "other"] (defScope s_le) := ⟨rfl, rfl, rfl, by decide +kernel, rfl, by decide +kernel, by decide +kernel⟩
abbrev s_gt : Stmt := inClass (topS 13) 23
theorem sc_gt : FnScope ["self", "other", "top", "bottom"] ["self", "other"] (defScope s_gt) := ⟨rfl, rfl, rfl, by decide +kernel, rfl, by decide +kernel, by decide +kernel⟩
abbrev s_ge : Stmt := inClass (topS 13) 24
theorem sc_ge : FnScope ["self", "other", "top", "bottom"] ["self", "other"] (defScope s_ge) := ⟨rfl, rfl, rfl, by decide +kernel, rfl, by decide +kernel, by decide +kernel⟩
abbrev s_least : Stmt := inClass (topS 13) 3
theorem sc_least : FnScope ["numbers", "number", "found"] ["numbers"] (defScope s_least) := ⟨rfl, rfl, rfl, by decide +kernel, rfl, by decide +kernel, by decide +kernel⟩
abbrev s_greatest : Stmt := inClass (topS 13) 4
theorem sc_greatest : FnScope ["numbers", "number", "found"] ["numbers"] (defScope s_greatest) := ⟨rfl, rfl, rfl, by decide +kernel, rfl, by decide +kernel, by decide +kernel⟩
/-- p < v and so on -/
def spOrdR (C : Addr) (f : Int → Int → Bool) : Sp := fun vs H Q _ => ∃ (p : Addr) (a b : Int) (v : V) (c d : Int), vs = [.ref p, v] ∧ RatAt C H p a b ∧ NumAt C H v c d ∧ Sm a ∧ Sm b ∧ Sm c ∧ Sm d ∧ ∀ H', Same H H' → Q (.bl (f (a * d) (c * b))) H'
section
variable {P : Program} {w : World} {K : PySem.W.Frag} {mg : Str → Option Value} {base : Heap} {C CB fB CN : Addr}
theorem ok_lt {f : Addr} {fd : FuncData} (F : Fun K "__lt__" "Ratio.__lt__" s_lt f fd) (T : RTx P K mg C CB fB CN) (S_is_number : StatAt P w K mg base CX0 2 C "is_number" ["thing"] (spIsnum C)) (D_partsof : DefAt P w K mg base CX0 1 "parts_of" ["number"] (spParts0 C)) : FnOk P w K mg base CX0 3 f fd ["self", "other"] (spOrdR C (fun i j => decide (i < j))) := by
  refine F.ok sc_lt (fun vs H Q E h => ?_) (fun cdv A outer s H vs Q E hr h => ?_)
  · obtain ⟨p, a, b, v, c, d, rfl, _⟩ := h
    rfl
  · obtain ⟨p, a, b, v, c, d, rfl, hp, hv, sa, sb, sc, sd, k⟩ := h
    refine ⟨_, (pss_cons (ps_if (pt_not (pt_val (My.pe_st S_is_number (hr.mono (by decide)) pass0 (pe_glob (v := .ref C) (by rfl) T.gR rfl) (pa_cons (pv 1) pa_nil)))) (pss_one ps_never) pss_nil)
      (pss_cons (ps_asg (My.pe_d D_partsof (hr.mono (by decide)) (by rfl) pass0 (pa_cons (pv 1) pa_nil)) (pg_tup rfl (pgs_cons (pg_name (i := 2) sc_lt.nd rfl (Or.inl rfl)) (pgs_cons (pg_name (i := 3) sc_lt.nd rfl (Or.inl rfl)) pgs_nil))))
      (pss_one (ps_ret (pe_cmpR op_lt (pe_op op_mulW (pe_fld (pv 0) rfl) (pv 3)) (pe_op op_mulW (pv 2) (pe_fld (pv 0) rfl)) (nomark _)))))), ?_⟩
    obtain ⟨dx, e⟩ := id hp
    refine ⟨rfl, _, rfl, v, true, rfl, .inl ⟨rfl, c, d, hv⟩, _, rfl, iteF ?_⟩
    refine ⟨_, rfl, v, c, d, rfl, hv, fun t ht => ?_⟩
    have s1 := same_new (o := .tup [.int c, .int d]) ht
    have e1 := s1 _ _ e
    refine ⟨t, _, rfl, SqT.of upd_same, rfl, _, _, rfl, _, _, rfl, rfl, ?_⟩
    refine ⟨_, rfl, p, C, dx, _, _, rfl, e1, T.cl, T.nT, rfs_top _ _, _, rfl, _, _, rfl, rfl, Sm.mul sa sd, _, rfl, _, rfl, p, C, dx, _, _, rfl, e1, T.cl, T.nB, rfs_bot _ _, _, _, rfl, rfl, Sm.mul sc sb, _, _, rfl, rfl, ?_⟩
    exact k _ s1
theorem ok_le {f : Addr} {fd : FuncData} (F : Fun K "__le__" "Ratio.__le__" s_le f fd) (T : RTx P K mg C CB fB CN) (S_is_number : StatAt P w K mg base CX0 2 C "is_number" ["thing"] (spIsnum C)) (D_partsof : DefAt P w K mg base CX0 1 "parts_of" ["number"] (spParts0 C)) : FnOk P w K mg base CX0 3 f fd ["self", "other"] (spOrdR C (fun i j => decide (i ≤ j))) := by
  refine F.ok sc_le (fun vs H Q E h => ?_) (fun cdv A outer s H vs Q E hr h => ?_)
  · obtain ⟨p, a, b, v, c, d, rfl, _⟩ := h
    rfl
  · obtain ⟨p, a, b, v, c, d, rfl, hp, hv, sa, sb, sc, sd, k⟩ := h
    refine ⟨_, (pss_cons (ps_if (pt_not (pt_val (My.pe_st S_is_number (hr.mono (by decide)) pass0 (pe_glob (v := .ref C) (by rfl) T.gR rfl) (pa_cons (pv 1) pa_nil)))) (pss_one ps_never) pss_nil)
      (pss_cons (ps_asg (My.pe_d D_partsof (hr.mono (by decide)) (by rfl) pass0 (pa_cons (pv 1) pa_nil)) (pg_tup rfl (pgs_cons (pg_name (i := 2) sc_le.nd rfl (Or.inl rfl)) (pgs_cons (pg_name (i := 3) sc_le.nd rfl (Or.inl rfl)) pgs_nil))))
      (pss_one (ps_ret (pe_cmpR op_le (pe_op op_mulW (pe_fld (pv 0) rfl) (pv 3)) (pe_op op_mulW (pv 2) (pe_fld (pv 0) rfl)) (nomark _)))))), ?_⟩
    obtain ⟨dx, e⟩ := id hp
    refine ⟨rfl, _, rfl, v, true, rfl, .inl ⟨rfl, c, d, hv⟩, _, rfl, iteF ?_⟩
    refine ⟨_, rfl, v, c, d, rfl, hv, fun t ht => ?_⟩
    have s1 := same_new (o := .tup [.int c, .int d]) ht
    have e1 := s1 _ _ e
    refine ⟨t, _, rfl, SqT.of upd_same, rfl, _, _, rfl, _, _, rfl, rfl, ?_⟩
    refine ⟨_, rfl, p, C, dx, _, _, rfl, e1, T.cl, T.nT, rfs_top _ _, _, rfl, _, _, rfl, rfl, Sm.mul sa sd, _, rfl, _, rfl, p, C, dx, _, _, rfl, e1, T.cl, T.nB, rfs_bot _ _, _, _, rfl, rfl, Sm.mul sc sb, _, _, rfl, rfl, ?_⟩
    exact k _ s1
theorem ok_gt {f : Addr} {fd : FuncData} (F : Fun K "__gt__" "Ratio.__gt__" s_gt f fd) (T : RTx P K mg C CB fB CN) (S_is_number : StatAt P w K mg base CX0 2 C "is_number" ["thing"] (spIsnum C)) (D_partsof : DefAt P w K mg base CX0 1 "parts_of" ["number"] (spParts0 C)) : FnOk P w K mg base CX0 3 f fd ["self", "other"] (spOrdR C (fun i j => decide (j < i))) := by
  refine F.ok sc_gt (fun vs H Q E h => ?_) (fun cdv A outer s H vs Q E hr h => ?_)
  · obtain ⟨p, a, b, v, c, d, rfl, _⟩ := h
    rfl
  · obtain ⟨p, a, b, v, c, d, rfl, hp, hv, sa, sb, sc, sd, k⟩ := h
    refine ⟨_, (pss_cons (ps_if (pt_not (pt_val (My.pe_st S_is_number (hr.mono (by decide)) pass0 (pe_glob (v := .ref C) (by rfl) T.gR rfl) (pa_cons (pv 1) pa_nil)))) (pss_one ps_never) pss_nil)
      (pss_cons (ps_asg (My.pe_d D_partsof (hr.mono (by decide)) (by rfl) pass0 (pa_cons (pv 1) pa_nil)) (pg_tup rfl (pgs_cons (pg_name (i := 2) sc_gt.nd rfl (Or.inl rfl)) (pgs_cons (pg_name (i := 3) sc_gt.nd rfl (Or.inl rfl)) pgs_nil))))
      (pss_one (ps_ret (pe_cmpR op_gt (pe_op op_mulW (pe_fld (pv 0) rfl) (pv 3)) (pe_op op_mulW (pv 2) (pe_fld (pv 0) rfl)) (nomark _)))))), ?_⟩
    obtain ⟨dx, e⟩ := id hp
    refine ⟨rfl, _, rfl, v, true, rfl, .inl ⟨rfl, c, d, hv⟩, _, rfl, iteF ?_⟩
    refine ⟨_, rfl, v, c, d, rfl, hv, fun t ht => ?_⟩
    have s1 := same_new (o := .tup [.int c, .int d]) ht
    have e1 := s1 _ _ e
    refine ⟨t, _, rfl, SqT.of upd_same, rfl, _, _, rfl, _, _, rfl, rfl, ?_⟩
    refine ⟨_, rfl, p, C, dx, _, _, rfl, e1, T.cl, T.nT, rfs_top _ _, _, rfl, _, _, rfl, rfl, Sm.mul sa sd, _, rfl, _, rfl, p, C, dx, _, _, rfl, e1, T.cl, T.nB, rfs_bot _ _, _, _, rfl, rfl, Sm.mul sc sb, _, _, rfl, rfl, ?_⟩
    exact k _ s1
theorem ok_ge {f : Addr} {fd : FuncData} (F : Fun K "__ge__" "Ratio.__ge__" s_ge f fd) (T : RTx P K mg C CB fB CN) (S_is_number : StatAt P w K mg base CX0 2 C "is_number" ["thing"] (spIsnum C)) (D_partsof : DefAt P w K mg base CX0 1 "parts_of" ["number"] (spParts0 C)) : FnOk P w K mg base CX0 3 f fd ["self", "other"] (spOrdR C (fun i j => decide (j ≤ i))) := by
  refine F.ok sc_ge (fun vs H Q E h => ?_) (fun cdv A outer s H vs Q E hr h => ?_)
  · obtain ⟨p, a, b, v, c, d, rfl, _⟩ := h
    rfl
  · obtain ⟨p, a, b, v, c, d, rfl, hp, hv, sa, sb, sc, sd, k⟩ := h
    refine ⟨_, (pss_cons (ps_if (pt_not (pt_val (My.pe_st S_is_number (hr.mono (by decide)) pass0 (pe_glob (v := .ref C) (by rfl) T.gR rfl) (pa_cons (pv 1) pa_nil)))) (pss_one ps_never) pss_nil)
      (pss_cons (ps_asg (My.pe_d D_partsof (hr.mono (by decide)) (by rfl) pass0 (pa_cons (pv 1) pa_nil)) (pg_tup rfl (pgs_cons (pg_name (i := 2) sc_ge.nd rfl (Or.inl rfl)) (pgs_cons (pg_name (i := 3) sc_ge.nd rfl (Or.inl rfl)) pgs_nil))))
      (pss_one (ps_ret (pe_cmpR op_ge (pe_op op_mulW (pe_fld (pv 0) rfl) (pv 3)) (pe_op op_mulW (pv 2) (pe_fld (pv 0) rfl)) (nomark _)))))), ?_⟩
    obtain ⟨dx, e⟩ := id hp
    refine ⟨rfl, _, rfl, v, true, rfl, .inl ⟨rfl, c, d, hv⟩, _, rfl, iteF ?_⟩
    refine ⟨_, rfl, v, c, d, rfl, hv, fun t ht => ?_⟩
    have s1 := same_new (o := .tup [.int c, .int d]) ht
    have e1 := s1 _ _ e
    refine ⟨t, _, rfl, SqT.of upd_same, rfl, _, _, rfl, _, _, rfl, rfl, ?_⟩
    refine ⟨_, rfl, p, C, dx, _, _, rfl, e1, T.cl, T.nT, rfs_top _ _, _, rfl, _, _, rfl, rfl, Sm.mul sa sd, _, rfl, _, rfl, p, C, dx, _, _, rfl, e1, T.cl, T.nB, rfs_bot _ _, _, _, rfl, rfl, Sm.mul sc sb, _, _, rfl, rfl, ?_⟩
    exact k _ s1
end
end My
set_option pp.maxSteps 1500
set_option pp.deepTerms.threshold 8
/-! ### the least and the greatest -/
namespace My
open PySem PySem.Spec PyProof.Rows L2
/-- in lowest terms, not too great -/
def okR (n : Int × Int) : Prop := 0 < n.2 ∧ Int.gcd n.1 n.2 = 1 ∧ Sm n.1 ∧ Sm n.2
def Nums (C : Addr) (H : Hp) (vs : List V) (ns : List (Int × Int)) : Prop := vs.length = ns.length ∧ ∀ (i : Nat) v n, vs[i]? = some v → ns[i]? = some n → NumAt C H v n.1 n.2 ∧ okR n
theorem Nums.same {C : Addr} {H H' : Hp} {vs : List V} {ns : List (Int × Int)} (h : Nums C H vs ns) (s : Same H H') : Nums C H' vs ns := ⟨h.1, fun i v n e1 e2 => ⟨(h.2 i v n e1 e2).1.same s, (h.2 i v n e1 e2).2⟩⟩
def pickR (g : Int → Int → Bool) (m : Int × Int) (r : List (Int × Int)) : Int × Int := r.foldl (fun m x => if g (m.1 * x.2) (x.1 * m.2) = true then x else m) m
theorem pick_step {g : Int → Int → Bool} {m : Int × Int} {r : List (Int × Int)} {i : Nat} {x : Int × Int} (h : r[i]? = some x) : pickR g m (r.take (i + 1)) = if g ((pickR g m (r.take i)).1 * x.2) (x.1 * (pickR g m (r.take i)).2) = true then x else pickR g m (r.take i) := by
  unfold pickR
  rw [List.take_add_one, h, List.foldl_append]
  rfl
/-- a number, or nothing of the kind -/
def Any (C : Addr) (H : Hp) (v : V) (b : Bool) : Prop := (b = true ∧ ∃ n d, NumAt C H v n d) ∨ (b = false ∧ (∃ t, Ty0 H v t) ∧ isI v = false)
theorem Ty0.same9 {H H' : Hp} {v : V} {t : String} (h : Ty0 H v t) (s : Same H H') : Ty0 H' v t := ty_ext h (ext_same s)
theorem Any.same {C : Addr} {H H' : Hp} {v : V} {b : Bool} (h : Any C H v b) (s : Same H H') : Any C H' v b := by
  rcases h with ⟨e, n, d, h⟩ | ⟨e, ⟨t, h⟩, n⟩
  · exact .inl ⟨e, n, d, h.same s⟩
  · exact .inr ⟨e, ⟨t, h.same9 s⟩, n⟩
def spEndR (C CB : Addr) (g : Int → Int → Bool) : Sp := fun vs H Q E => vs.length ≤ 100 ∧
  ((∃ m r, Nums C H vs (m :: r) ∧ ∀ q H', RatAt C H' q (pickR g m r).1 (pickR g m r).2 → Same H H' → Q (.ref q) H') ∨
   ((∃ bs : List Bool, bs.length = vs.length ∧ (∀ (i : Nat) v b, vs[i]? = some v → bs[i]? = some b → Any C H v b) ∧ (vs = [] ∨ bs.all id = false)) ∧ Errs E CB "part" (.str "numbers") H))
/-- the same, the arguments in a tuple -/
def spEndT (K : PySem.W.Frag) (C CB : Addr) (g : Int → Int → Bool) : Sp := fun vs H Q E => ∃ (t : Addr) (xs : List V), vs = [.ref t] ∧ H t = some (.tup xs) ∧ spEndR C CB g xs H Q E
section
variable {P : Program} {w : World} {K : PySem.W.Frag} {mg : Str → Option Value} {base : Heap} {C CB fB CN : Addr}
theorem ok_least {f : Addr} {fd : FuncData} {oc : Value} {od : Option Addr} {kV doc pm : Value} {an : Option Addr} {cdv ct : Value} {osl : Array (Option Value)} (lk : K.lookup f = some ⟨oc, od, .func (PySem.W.fnOf "least" "Ratio.least" (defArgs s_least) (defBody s_least) (defScope s_least) .none kV doc pm an cdv ct), osl⟩) (hcd : PySem.W.codeIn K cdv "Ratio.least" = true)
    (T : RTx P K mg C CB fB CN) (S_is_number : StatAt P w K mg base CX0 2 C "is_number" ["thing"] (spIsnum C)) (S_of : StatAt P w K mg base (L2.CX P w) 5 C "of" ["number"] (spOf C CB)) (CE_gt : CmpAt P w K mg base CX0 3 C "__gt__" ["self", "other"] (spOrdR C (fun i j => decide (j < i)))) : FnR P w K mg base (L2.CX P w) 7 f (spEndR C CB (fun i j => decide (j < i))) := by
  have R := StX.fn_star (CX := L2.CX P w) (P := P) (w := w) (mg := mg) (base := base) (k := 6) (ps := []) (sp := spEndT K C CB (fun i j => decide (j < i))) lk hcd sc_least StX.cxUp (bind_star0 (B := fun us => bindArgs (PySem.W.fnOf "least" "Ratio.least" (defArgs s_least) (defBody s_least) (defScope s_least) .none kV doc pm an cdv ct) ⟨us, []⟩) (pv := "numbers") rfl (fun _ _ => rfl)) (fun A outer s H vs Q E hr h => ?_)
  · refine R.imp fun vs H Q E h => ?_
    obtain ⟨hl, h⟩ := h
    refine ⟨[], vs, rfl, rfl, by rw [sizeLine_eq]; omega, fun tt htt => ⟨tt, vs, rfl, upd_same, hl, ?_⟩⟩
    have st := same_new (o := .tup vs) htt
    rcases h with ⟨m, r, hn, k⟩ | ⟨⟨bs, e, ha, hb⟩, k⟩
    · exact .inl ⟨m, r, hn.same st, fun q H' hq s => k q H' hq (st.trans s)⟩
    · exact .inr ⟨⟨bs, e, fun i v b e1 e2 => (ha i v b e1 e2).same st, hb⟩, k.up st⟩
  · obtain ⟨tt, xs, rfl, htt, hl, h⟩ := h
    refine ⟨_, (pss_cons (ps_if (PW.pt (pw_or (pt_cmpR (My.op_eqT0 hr) (pv 0) (pe_tup pa_nil) (nomark _)) (pw_or1 (pt_not (pt_val (pe_callB (cr_all rfl) (by rfl) T.z_all boot_all (pa_cons (pe_lc (own := [("number", 1)]) rfl sc_least.nd (pi_tup (pv 0)) (blkOk_by (by show blkC ["numbers", "number", "found"] (defScope s_least) _ _ = true; decide +kernel)) (fun _ _ _ _ _ => (pg_name (i := 1) sc_least.nd rfl (Or.inl rfl))) (fun _ _ _ _ _ => pts_nil) (fun _ _ _ _ _ => (My.pe_st S_is_number (hr.mono (by decide)) pass0 (pe_glob (v := .ref C) (by rfl) T.gR rfl) (pa_cons (pv 1) pa_nil)))) pa_nil))))))) (pss_one (ps_raise1 rfl T.e_BadRatio (hr.mono (by decide) : Room 0 _) (takes_of rfl rfl rfl rfl) (pa_cons pe_str pa_nil))) pss_nil)
      (pss_cons (ps_set (i := 2) sc_least.nd rfl (Or.inl rfl) (My.pe_st S_of (hr.mono (by decide)) passL (pe_glob (v := .ref C) (by rfl) T.gR rfl) (pa_cons (pe_ix ix_tup (pv 0) pe_int (fun _ _ => rfl)) pa_nil)))
      (pss_cons (ps_for (passes_of rfl) rfl (pi_tup (pe_slice sl_tup (pv 0) (po_some pe_int) po_none)) (pg_name (i := 1) sc_least.nd rfl (Or.inl rfl)) (pss_one (ps_if (pt_cmpR (My.op_cmpO CE_gt (hr.mono (by decide)) pass0) (pv 2) (pv 1) (nomark _)) (pss_one (ps_set (i := 2) sc_least.nd rfl (Or.inl rfl) (My.pe_st S_of (hr.mono (by decide)) passL (pe_glob (v := .ref C) (by rfl) T.gR rfl) (pa_cons (pv 1) pa_nil)))) pss_nil)))
      (pss_one (ps_ret (pv 2)))))), ?_⟩
    obtain ⟨bs, eb, ha, h⟩ : ∃ bs : List Bool, bs.length = xs.length ∧ (∀ (i : Nat) v b, xs[i]? = some v → bs[i]? = some b → Any C H v b) ∧ ((∃ m r, Nums C H xs (m :: r) ∧ bs.all id = true ∧ ∀ q H', RatAt C H' q (pickR (fun i j => decide (j < i)) m r).1 (pickR (fun i j => decide (j < i)) m r).2 → Same H H' → Q (.ref q) H') ∨ ((xs = [] ∨ bs.all id = false) ∧ Errs E CB "part" (.str "numbers") H)) := by
      rcases h with ⟨m, r, hn, k⟩ | ⟨⟨bs, e, ha, hb⟩, k⟩
      · refine ⟨List.replicate xs.length true, List.length_replicate .., fun i v b e1 e2 => ?_, .inl ⟨m, r, hn, ?_, k⟩⟩
        · obtain ⟨n, hn2⟩ : ∃ n, (m :: r)[i]? = some n := ⟨_, List.getElem?_eq_getElem (by rw [← hn.1]; exact (List.getElem?_eq_some_iff.mp e1).1)⟩
          have eb : b = true := by
            have := List.mem_of_getElem? e2
            exact (List.mem_replicate.mp this).2
          exact .inl ⟨eb, _, _, (hn.2 i v n e1 hn2).1⟩
        · rw [List.all_eq_true]
          intro z hz
          rw [(List.mem_replicate.mp hz).2]
          rfl
      · exact ⟨bs, e, ha, .inr ⟨hb, k⟩⟩
    refine ⟨_, rfl, (by show 0 ≤ sizeLine; decide), fun te hte => ⟨tt, te, xs, rfl, rfl, SqT.of (same_new hte _ _ htt), SqT.of upd_same, _, rfl, ?_⟩⟩
    have s1 := same_new (o := .tup []) hte
    have t1 := s1 _ _ htt
    generalize upd H te (.tup []) = H1 at s1 t1
    by_cases hx : xs = []
    · rw [decide_eq_true hx]
      refine iteT ?_
      rcases h with ⟨m, r, hn, _, k⟩ | ⟨_, k⟩
      · rw [hx] at hn
        cases hn.1
      · exact ⟨_, rfl, fun d hd => (k.up s1).go hd⟩
    rw [decide_eq_false hx]
    refine iteF ⟨_, rfl, tt, rfl, ⟨_, SqT.of t1⟩, fun D hD => ?_⟩
    refine lc_it walk_tup (fun i Hh => Hh D = some (.lst ((bs.take i).map V.bl)) ∧ Same H1 Hh) ⟨upd_same, same_new hD⟩ (fun i Hh _ hh => SqT.of (hh.2 _ _ t1)) ?_ ?_
    · rintro i v Hh H' hi ⟨g1, g2⟩ ⟨rfl, hv⟩
      obtain ⟨b, hb⟩ : ∃ b, bs[i]? = some b := ⟨_, List.getElem?_eq_getElem (by omega)⟩
      refine ⟨rfl, yes_go ⟨rfl, _, rfl, v, b, rfl, (ha i v b hv hb).same (s1.trans g2), _, g1, ?_, ?_, ?_⟩⟩
      · rw [List.length_map, List.length_take, sizeLine_eq]
        omega
      · rw [List.take_add_one, hb, List.map_append]
        exact upd_same
      · intro c o e
        rw [upd_ne (ne_of_none e hD)]
        exact g2 _ _ e
    rintro H2 ⟨g1, g2⟩
    rw [List.take_of_length_le (by omega)] at g1
    refine ⟨_, bs, rfl, SqL.of g1, _, rfl, ?_⟩
    have s2 := s1.trans g2
    have t2 := g2 _ _ t1
    rcases h with ⟨m, r, hn, hall, k⟩ | ⟨hb, k⟩
    case inr =>
      rcases hb with hb | hb
      · exact absurd hb hx
      · rw [hb]
        exact iteT ⟨_, rfl, fun d hd => (k.up s2).go hd⟩
    rw [hall]
    refine iteF ?_
    obtain ⟨x0, xr, rfl⟩ : ∃ x0 xr, xs = x0 :: xr := by
      cases xs with
      | nil => exact absurd rfl hx
      | cons a b => exact ⟨a, b, rfl⟩
    have h0 := hn.2 0 x0 m rfl rfl
    have hr1 : ∀ (i : Nat) v n, xr[i]? = some v → r[i]? = some n → NumAt C H v n.1 n.2 ∧ okR n := fun i v n e1 e2 => hn.2 (i + 1) v n e1 e2
    have lr : xr.length = r.length := Nat.succ.inj hn.1
    have ofN : ∀ {n : Int × Int}, okR n → n.2 ≠ 0 ∧ n.2.natAbs.log2 < 9000 := fun {n} ok => ⟨by have := ok.1; omega, Nat.lt_trans ok.2.2.2.log (by decide)⟩
    have ea : atI (x0 :: xr) (0 : Int) = some x0 := at_of (j := 0) rfl rfl
    refine ⟨rfl, _, rfl, tt, _, _, x0, rfl, rfl, SqT.of t2, ea, x0, rfl, .inl ⟨m.1, m.2, h0.1.same s2, (ofN h0.2).1, (ofN h0.2).2, fun q H3 l3 s3 => ?_⟩⟩
    obtain ⟨z1, z2⟩ := low_self h0.2.1 h0.2.2.1
    rw [z1, z2] at l3
    have s3 := s2.trans s3
    refine ⟨_, rfl, 1, rfl, tt, _, rfl, SqT.of (s3 _ _ htt), ?_, fun p hp => ?_⟩
    · rintro ⟨w, _⟩
      have w : HT.sIx (x0 :: xr).length 0 (some ((1 : Nat) : Int)) = 0 := w
      rw [HT.sIx_nat, List.length_cons] at w
      omega
    have ed : cutV (x0 :: xr) (some 1) none = xr := by
      show ((x0 :: xr).drop (HT.sIx (x0 :: xr).length 0 (some ((1 : Nat) : Int)))).take (HT.sIx (x0 :: xr).length (x0 :: xr).length none - HT.sIx (x0 :: xr).length 0 (some ((1 : Nat) : Int))) = xr
      rw [HT.sIx_nat, HT.sIx_none, List.length_cons, Nat.min_eq_left (by omega)]
      show xr.take (xr.length + 1 - 1) = xr
      rw [Nat.add_sub_cancel, List.take_length]
    rw [ed]
    have s4 := s3.trans (same_new (o := .tup xr) hp)
    have P4 : (upd H3 p (.tup xr)) p = some (.tup xr) := upd_same
    have l4 := l3.same (same_new (o := .tup xr) hp)
    generalize upd H3 p (.tup xr) = H4 at s4 P4 l4
    refine ⟨p, rfl, ⟨_, SqT.of P4⟩, for_it walk_tup (fun i σ Hh => ∃ (q : Addr) (v1 : Option V), σ = [some (.ref tt), v1, some (.ref q)] ∧ RatAt C Hh q (pickR (fun i j => decide (j < i)) m (r.take i)).1 (pickR (fun i j => decide (j < i)) m (r.take i)).2 ∧ okR (pickR (fun i j => decide (j < i)) m (r.take i)) ∧ Same H Hh ∧ Hh p = some (.tup xr)) ⟨q, none, rfl, l4, h0.2, s4, P4⟩ (fun i σ Hh _ ⟨_, _, _, _, _, _, e⟩ => SqT.of e) ?_ ?_⟩
    · rintro i v σ Hh H' hi ⟨q, v1, rfl, l5, ok5, s5, P5⟩ ⟨rfl, hv⟩
      obtain ⟨n, hn2⟩ : ∃ n, r[i]? = some n := ⟨_, List.getElem?_eq_getElem (by omega)⟩
      obtain ⟨nv, on⟩ := hr1 i v n hv hn2
      have nv := nv.same s5
      obtain ⟨t, ty, nf⟩ := T.nty nv
      obtain ⟨dx, e5⟩ := id l5
      have st := pick_step (g := fun i j => decide (j < i)) (m := m) hn2
      refine ⟨_, rfl, _, rfl, q, dx, _, t, rfl, e5, ty, nf, q, _, _, v, n.1, n.2, rfl, l5, nv, ok5.2.2.1, ok5.2.2.2, on.2.2.1, on.2.2.2, fun H6 s6 => ⟨_, rfl, ?_⟩⟩
      have s56 := s5.trans s6
      refine ite2 (fun c => ?_) (fun c => ?_)
      · rw [if_pos c] at st
        refine ⟨rfl, _, rfl, v, rfl, .inl ⟨n.1, n.2, nv.same s6, (ofN on).1, (ofN on).2, fun q2 H7 l7 s7 => ?_⟩⟩
        obtain ⟨z1, z2⟩ := low_self on.1 on.2.1
        rw [z1, z2] at l7
        refine ⟨q2, _, rfl, ?_, ?_, s56.trans s7, s7 _ _ (s6 _ _ P5)⟩
        · rw [st]
          exact l7
        · rw [st]
          exact on
      · rw [if_neg c] at st
        refine ⟨q, _, rfl, ?_, ?_, s56, s6 _ _ P5⟩
        · rw [st]
          exact l5.same s6
        · rw [st]
          exact ok5
    rintro σ Hh ⟨q, v1, rfl, l5, ok5, s5, P5⟩
    rw [lr, List.take_length] at l5
    exact ⟨_, rfl, k q Hh l5 s5⟩
theorem ok_greatest {f : Addr} {fd : FuncData} {oc : Value} {od : Option Addr} {kV doc pm : Value} {an : Option Addr} {cdv ct : Value} {osl : Array (Option Value)} (lk : K.lookup f = some ⟨oc, od, .func (PySem.W.fnOf "greatest" "Ratio.greatest" (defArgs s_greatest) (defBody s_greatest) (defScope s_greatest) .none kV doc pm an cdv ct), osl⟩) (hcd : PySem.W.codeIn K cdv "Ratio.greatest" = true)
    (T : RTx P K mg C CB fB CN) (S_is_number : StatAt P w K mg base CX0 2 C "is_number" ["thing"] (spIsnum C)) (S_of : StatAt P w K mg base (L2.CX P w) 5 C "of" ["number"] (spOf C CB)) (CE_lt : CmpAt P w K mg base CX0 3 C "__lt__" ["self", "other"] (spOrdR C (fun i j => decide (i < j)))) : FnR P w K mg base (L2.CX P w) 7 f (spEndR C CB (fun i j => decide (i < j))) := by
  have R := StX.fn_star (CX := L2.CX P w) (P := P) (w := w) (mg := mg) (base := base) (k := 6) (ps := []) (sp := spEndT K C CB (fun i j => decide (i < j))) lk hcd sc_greatest StX.cxUp (bind_star0 (B := fun us => bindArgs (PySem.W.fnOf "greatest" "Ratio.greatest" (defArgs s_greatest) (defBody s_greatest) (defScope s_greatest) .none kV doc pm an cdv ct) ⟨us, []⟩) (pv := "numbers") rfl (fun _ _ => rfl)) (fun A outer s H vs Q E hr h => ?_)
  · refine R.imp fun vs H Q E h => ?_
    obtain ⟨hl, h⟩ := h
    refine ⟨[], vs, rfl, rfl, by rw [sizeLine_eq]; omega, fun tt htt => ⟨tt, vs, rfl, upd_same, hl, ?_⟩⟩
    have st := same_new (o := .tup vs) htt
    rcases h with ⟨m, r, hn, k⟩ | ⟨⟨bs, e, ha, hb⟩, k⟩
    · exact .inl ⟨m, r, hn.same st, fun q H' hq s => k q H' hq (st.trans s)⟩
    · exact .inr ⟨⟨bs, e, fun i v b e1 e2 => (ha i v b e1 e2).same st, hb⟩, k.up st⟩
  · obtain ⟨tt, xs, rfl, htt, hl, h⟩ := h
    refine ⟨_, (pss_cons (ps_if (PW.pt (pw_or (pt_cmpR (My.op_eqT0 hr) (pv 0) (pe_tup pa_nil) (nomark _)) (pw_or1 (pt_not (pt_val (pe_callB (cr_all rfl) (by rfl) T.z_all boot_all (pa_cons (pe_lc (own := [("number", 1)]) rfl sc_greatest.nd (pi_tup (pv 0)) (blkOk_by (by show blkC ["numbers", "number", "found"] (defScope s_greatest) _ _ = true; decide +kernel)) (fun _ _ _ _ _ => (pg_name (i := 1) sc_greatest.nd rfl (Or.inl rfl))) (fun _ _ _ _ _ => pts_nil) (fun _ _ _ _ _ => (My.pe_st S_is_number (hr.mono (by decide)) pass0 (pe_glob (v := .ref C) (by rfl) T.gR rfl) (pa_cons (pv 1) pa_nil)))) pa_nil))))))) (pss_one (ps_raise1 rfl T.e_BadRatio (hr.mono (by decide) : Room 0 _) (takes_of rfl rfl rfl rfl) (pa_cons pe_str pa_nil))) pss_nil)
      (pss_cons (ps_set (i := 2) sc_greatest.nd rfl (Or.inl rfl) (My.pe_st S_of (hr.mono (by decide)) passL (pe_glob (v := .ref C) (by rfl) T.gR rfl) (pa_cons (pe_ix ix_tup (pv 0) pe_int (fun _ _ => rfl)) pa_nil)))
      (pss_cons (ps_for (passes_of rfl) rfl (pi_tup (pe_slice sl_tup (pv 0) (po_some pe_int) po_none)) (pg_name (i := 1) sc_greatest.nd rfl (Or.inl rfl)) (pss_one (ps_if (pt_cmpR (My.op_cmpO CE_lt (hr.mono (by decide)) pass0) (pv 2) (pv 1) (nomark _)) (pss_one (ps_set (i := 2) sc_greatest.nd rfl (Or.inl rfl) (My.pe_st S_of (hr.mono (by decide)) passL (pe_glob (v := .ref C) (by rfl) T.gR rfl) (pa_cons (pv 1) pa_nil)))) pss_nil)))
      (pss_one (ps_ret (pv 2)))))), ?_⟩
    obtain ⟨bs, eb, ha, h⟩ : ∃ bs : List Bool, bs.length = xs.length ∧ (∀ (i : Nat) v b, xs[i]? = some v → bs[i]? = some b → Any C H v b) ∧ ((∃ m r, Nums C H xs (m :: r) ∧ bs.all id = true ∧ ∀ q H', RatAt C H' q (pickR (fun i j => decide (i < j)) m r).1 (pickR (fun i j => decide (i < j)) m r).2 → Same H H' → Q (.ref q) H') ∨ ((xs = [] ∨ bs.all id = false) ∧ Errs E CB "part" (.str "numbers") H)) := by
      rcases h with ⟨m, r, hn, k⟩ | ⟨⟨bs, e, ha, hb⟩, k⟩
      · refine ⟨List.replicate xs.length true, List.length_replicate .., fun i v b e1 e2 => ?_, .inl ⟨m, r, hn, ?_, k⟩⟩
        · obtain ⟨n, hn2⟩ : ∃ n, (m :: r)[i]? = some n := ⟨_, List.getElem?_eq_getElem (by rw [← hn.1]; exact (List.getElem?_eq_some_iff.mp e1).1)⟩
          have eb : b = true := by
            have := List.mem_of_getElem? e2
            exact (List.mem_replicate.mp this).2
          exact .inl ⟨eb, _, _, (hn.2 i v n e1 hn2).1⟩
        · rw [List.all_eq_true]
          intro z hz
          rw [(List.mem_replicate.mp hz).2]
          rfl
      · exact ⟨bs, e, ha, .inr ⟨hb, k⟩⟩
    refine ⟨_, rfl, (by show 0 ≤ sizeLine; decide), fun te hte => ⟨tt, te, xs, rfl, rfl, SqT.of (same_new hte _ _ htt), SqT.of upd_same, _, rfl, ?_⟩⟩
    have s1 := same_new (o := .tup []) hte
    have t1 := s1 _ _ htt
    generalize upd H te (.tup []) = H1 at s1 t1
    by_cases hx : xs = []
    · rw [decide_eq_true hx]
      refine iteT ?_
      rcases h with ⟨m, r, hn, _, k⟩ | ⟨_, k⟩
      · rw [hx] at hn
        cases hn.1
      · exact ⟨_, rfl, fun d hd => (k.up s1).go hd⟩
    rw [decide_eq_false hx]
    refine iteF ⟨_, rfl, tt, rfl, ⟨_, SqT.of t1⟩, fun D hD => ?_⟩
    refine lc_it walk_tup (fun i Hh => Hh D = some (.lst ((bs.take i).map V.bl)) ∧ Same H1 Hh) ⟨upd_same, same_new hD⟩ (fun i Hh _ hh => SqT.of (hh.2 _ _ t1)) ?_ ?_
    · rintro i v Hh H' hi ⟨g1, g2⟩ ⟨rfl, hv⟩
      obtain ⟨b, hb⟩ : ∃ b, bs[i]? = some b := ⟨_, List.getElem?_eq_getElem (by omega)⟩
      refine ⟨rfl, yes_go ⟨rfl, _, rfl, v, b, rfl, (ha i v b hv hb).same (s1.trans g2), _, g1, ?_, ?_, ?_⟩⟩
      · rw [List.length_map, List.length_take, sizeLine_eq]
        omega
      · rw [List.take_add_one, hb, List.map_append]
        exact upd_same
      · intro c o e
        rw [upd_ne (ne_of_none e hD)]
        exact g2 _ _ e
    rintro H2 ⟨g1, g2⟩
    rw [List.take_of_length_le (by omega)] at g1
    refine ⟨_, bs, rfl, SqL.of g1, _, rfl, ?_⟩
    have s2 := s1.trans g2
    have t2 := g2 _ _ t1
    rcases h with ⟨m, r, hn, hall, k⟩ | ⟨hb, k⟩
    case inr =>
      rcases hb with hb | hb
      · exact absurd hb hx
      · rw [hb]
        exact iteT ⟨_, rfl, fun d hd => (k.up s2).go hd⟩
    rw [hall]
    refine iteF ?_
    obtain ⟨x0, xr, rfl⟩ : ∃ x0 xr, xs = x0 :: xr := by
      cases xs with
      | nil => exact absurd rfl hx
      | cons a b => exact ⟨a, b, rfl⟩
    have h0 := hn.2 0 x0 m rfl rfl
    have hr1 : ∀ (i : Nat) v n, xr[i]? = some v → r[i]? = some n → NumAt C H v n.1 n.2 ∧ okR n := fun i v n e1 e2 => hn.2 (i + 1) v n e1 e2
    have lr : xr.length = r.length := Nat.succ.inj hn.1
    have ofN : ∀ {n : Int × Int}, okR n → n.2 ≠ 0 ∧ n.2.natAbs.log2 < 9000 := fun {n} ok => ⟨by have := ok.1; omega, Nat.lt_trans ok.2.2.2.log (by decide)⟩
    have ea : atI (x0 :: xr) (0 : Int) = some x0 := at_of (j := 0) rfl rfl
    refine ⟨rfl, _, rfl, tt, _, _, x0, rfl, rfl, SqT.of t2, ea, x0, rfl, .inl ⟨m.1, m.2, h0.1.same s2, (ofN h0.2).1, (ofN h0.2).2, fun q H3 l3 s3 => ?_⟩⟩
    obtain ⟨z1, z2⟩ := low_self h0.2.1 h0.2.2.1
    rw [z1, z2] at l3
    have s3 := s2.trans s3
    refine ⟨_, rfl, 1, rfl, tt, _, rfl, SqT.of (s3 _ _ htt), ?_, fun p hp => ?_⟩
    · rintro ⟨w, _⟩
      have w : HT.sIx (x0 :: xr).length 0 (some ((1 : Nat) : Int)) = 0 := w
      rw [HT.sIx_nat, List.length_cons] at w
      omega
    have ed : cutV (x0 :: xr) (some 1) none = xr := by
      show ((x0 :: xr).drop (HT.sIx (x0 :: xr).length 0 (some ((1 : Nat) : Int)))).take (HT.sIx (x0 :: xr).length (x0 :: xr).length none - HT.sIx (x0 :: xr).length 0 (some ((1 : Nat) : Int))) = xr
      rw [HT.sIx_nat, HT.sIx_none, List.length_cons, Nat.min_eq_left (by omega)]
      show xr.take (xr.length + 1 - 1) = xr
      rw [Nat.add_sub_cancel, List.take_length]
    rw [ed]
    have s4 := s3.trans (same_new (o := .tup xr) hp)
    have P4 : (upd H3 p (.tup xr)) p = some (.tup xr) := upd_same
    have l4 := l3.same (same_new (o := .tup xr) hp)
    generalize upd H3 p (.tup xr) = H4 at s4 P4 l4
    refine ⟨p, rfl, ⟨_, SqT.of P4⟩, for_it walk_tup (fun i σ Hh => ∃ (q : Addr) (v1 : Option V), σ = [some (.ref tt), v1, some (.ref q)] ∧ RatAt C Hh q (pickR (fun i j => decide (i < j)) m (r.take i)).1 (pickR (fun i j => decide (i < j)) m (r.take i)).2 ∧ okR (pickR (fun i j => decide (i < j)) m (r.take i)) ∧ Same H Hh ∧ Hh p = some (.tup xr)) ⟨q, none, rfl, l4, h0.2, s4, P4⟩ (fun i σ Hh _ ⟨_, _, _, _, _, _, e⟩ => SqT.of e) ?_ ?_⟩
    · rintro i v σ Hh H' hi ⟨q, v1, rfl, l5, ok5, s5, P5⟩ ⟨rfl, hv⟩
      obtain ⟨n, hn2⟩ : ∃ n, r[i]? = some n := ⟨_, List.getElem?_eq_getElem (by omega)⟩
      obtain ⟨nv, on⟩ := hr1 i v n hv hn2
      have nv := nv.same s5
      obtain ⟨t, ty, nf⟩ := T.nty nv
      obtain ⟨dx, e5⟩ := id l5
      have st := pick_step (g := fun i j => decide (i < j)) (m := m) hn2
      refine ⟨_, rfl, _, rfl, q, dx, _, t, rfl, e5, ty, nf, q, _, _, v, n.1, n.2, rfl, l5, nv, ok5.2.2.1, ok5.2.2.2, on.2.2.1, on.2.2.2, fun H6 s6 => ⟨_, rfl, ?_⟩⟩
      have s56 := s5.trans s6
      refine ite2 (fun c => ?_) (fun c => ?_)
      · rw [if_pos c] at st
        refine ⟨rfl, _, rfl, v, rfl, .inl ⟨n.1, n.2, nv.same s6, (ofN on).1, (ofN on).2, fun q2 H7 l7 s7 => ?_⟩⟩
        obtain ⟨z1, z2⟩ := low_self on.1 on.2.1
        rw [z1, z2] at l7
        refine ⟨q2, _, rfl, ?_, ?_, s56.trans s7, s7 _ _ (s6 _ _ P5)⟩
        · rw [st]
          exact l7
        · rw [st]
          exact on
      · rw [if_neg c] at st
        refine ⟨q, _, rfl, ?_, ?_, s56, s6 _ _ P5⟩
        · rw [st]
          exact l5.same s6
        · rw [st]
          exact ok5
    rintro σ Hh ⟨q, v1, rfl, l5, ok5, s5, P5⟩
    rw [lr, List.take_length] at l5
    exact ⟨_, rfl, k q Hh l5 s5⟩
end
end My
set_option pp.maxSteps 1500
set_option pp.deepTerms.threshold 8
/-! ### fractions read -/
namespace My
open PySem PySem.Spec PyProof.Rows L2 TX
abbrev s_read : Stmt := inClass (topS 13) 5
theorem sc_read : FnScope ["cls", "text", "words", "sign", "top", "bottom", "found"] ["cls", "text"] (defScope s_read) := ⟨rfl, rfl, rfl, by decide +kernel, rfl, by decide +kernel, by decide +kernel⟩
structure RTy (P : Program) (K : PySem.W.Frag) (mg : Str → Option Value) (C CB fB CN CT fT : Addr) (tM : Tok) : Prop extends RTx P K mg C CB fB CN, FTx mg tM where
  e_BadText : Sup.Err2 P K mg "BadText" "line" "word" CT fT
  noStr : PySem.W.kitOne K (.ref C) (.type "str") = some false
def wordsR : V → List Str
  | .str x => Txt.split x "/"
  | _ => []
def shortV : V → Prop
  | .str x => x.length ≤ 5000
  | _ => True
theorem wordsR_no {v : V} (h : ∀ x, v ≠ .str x) : wordsR v = [] := by
  cases v with
  | str x => exact absurd rfl (h x)
  | _ => rfl
def readV (v : V) : Option (Int × Int) := match v with
  | .str x => RT.readR (TL.tl x)
  | _ => none
theorem words_len9 {v : V} (sh : shortV v) : (∀ y ∈ wordsR v, y.length ≤ 5000) ∧ (wordsR v).length ≤ 6000 := by
  cases v with
  | str x =>
    obtain ⟨n1, n2, n3⟩ := split1_len (x := x) (y := "/") (s := 47) (by decide +kernel) (by decide +kernel)
    have sh : x.length ≤ 5000 := sh
    exact ⟨fun y hy => Nat.le_trans (n3 y hy) sh, by show (Txt.split x "/").length ≤ 6000; omega⟩
  | _ => exact ⟨(fun y hy => nomatch hy), Nat.zero_le _⟩
theorem readV_none {v : V} (h : RT.partsR ((wordsR v).map TL.tl) = none) : readV v = none := by
  cases v with
  | str x =>
    show RT.readR (TL.tl x) = none
    unfold RT.readR
    rw [← split1_spl (x := x) (y := "/") (s := 47) (by decide +kernel) (by decide +kernel)]
    have h : RT.partsR ((Txt.split x "/").map TL.tl) = none := h
    rw [h]
  | _ => rfl
theorem readV_some {v : V} {t b : Int} (h : RT.partsR ((wordsR v).map TL.tl) = some (t, b)) : ∃ x, v = .str x ∧ readV v = if RT.txt (lowT t b) (lowB t b) = TL.tl x then some (lowT t b, lowB t b) else none := by
  cases v with
  | str x =>
    refine ⟨x, rfl, ?_⟩
    show RT.readR (TL.tl x) = _
    unfold RT.readR
    rw [← split1_spl (x := x) (y := "/") (s := 47) (by decide +kernel) (by decide +kernel)]
    have h : RT.partsR ((Txt.split x "/").map TL.tl) = some (t, b) := h
    rw [h]
  | _ => cases h
theorem tl_rat (a b : Int) : TL.tl (ratT a b) = RT.txt a b := by
  have es : TL.tl ("/" : Str) = [47] := by decide +kernel
  have e0 : TL.tl Str.empty = [] := rfl
  unfold ratT RT.txt
  split
  · exact tl_int a
  · show TL.tl ((Str.empty ++ Str.ofString (toString a)) ++ "/" ++ Str.ofString (toString b)) = _
    rw [TL.tl_append, TL.tl_append, TL.tl_append, e0, es, tl_int, tl_int]
    simp only [List.nil_append, List.append_assoc]
/-- Ratio.read -/
def spReadR (C CT : Addr) : Sp := fun vs H Q E => ∃ v : V, vs = [.ref C, v] ∧ TyL C H v ∧ shortV v ∧
  (∀ a b, readV v = some (a, b) → 0 < b → Int.gcd a b = 1 → Sm a → Sm b → ∀ q H', RatAt C H' q a b → Same H H' → Q (.ref q) H') ∧ (readV v = none → ErrT E CT 0 H)
section
variable {P : Program} {w : World} {K : PySem.W.Frag} {mg : Str → Option Value} {base : Heap} {C CB fB CN CT fT : Addr} {tM : Tok}
theorem ok_read {f : Addr} {fd : FuncData} (F : Fun K "read" "Ratio.read" s_read f fd) (T : RTy P K mg C CB fB CN CT fT tM) (D_figof : DefAt P w K mg base CX0 1 "figures_of" ["text"] (spWord dg))
    (M_Ratio : MakeAt P w K mg base (L2.CX P w) 3 "Ratio" C ["self", "top", "bottom"] (spInit C CB CN) []) (ST_str : CmpAt P w K mg base CX0 1 C "__str__" ["self"] (spStrR C)) : FnOk P w K mg base (L2.CX P w) 6 f fd ["cls", "text"] (spReadR C CT) := by
  refine F.okX sc_read (fun vs H Q E h => ?_) (fun cdv A outer s H vs Q E hr h => ?_)
  · obtain ⟨v, rfl, _⟩ := h
    rfl
  · obtain ⟨v, rfl, ty, sh, k1, k2⟩ := h
    refine ⟨_, (C8.pss_cut (ps_set (i := 2) sc_read.nd rfl (Or.inl rfl) (pe_ifExp (pt_val (pe_callB call_isi (by rfl) T.z_isinstance boot_isinstance (pa_cons (pv 1) (pa_cons (pe_bltn (v := .ty "str") (by rfl) T.z_str boot_str rfl) pa_nil)))) (pe_split (pv 1) pe_str) (pe_lst pa_nil)))
      (pss_cons (ps_if (pt_cmpR op_in_seq (pe_callB call_len (by rfl) T.z_len PySem.boot_len (pa_cons (pv 2) pa_nil)) (pe_tup (pa_cons pe_int (pa_cons pe_int pa_nil))) (by rfl)) (C8.pss_cut (ps_set (i := 3) sc_read.nd rfl (Or.inl rfl) (pe_ifExp (pt_cmpR op_eq (pe_slice sl_str (pe_ix ix_list (pv 2) pe_int (fun _ _ => rfl)) po_none (po_some pe_int)) pe_str (nomark _)) (pe_un un_neg pe_int) pe_int))
      (C8.pss_cut (ps_set (i := 4) sc_read.nd rfl (Or.inl rfl) (My.pe_d D_figof (hr.mono (by decide)) (by rfl) pass0 (pa_cons (pe_ifExp (pt_cmpR op_lt (pv 3) pe_int (nomark _)) (pe_slice sl_str (pe_ix ix_list (pv 2) pe_int (fun _ _ => rfl)) (po_some pe_int) po_none) (pe_ix ix_list (pv 2) pe_int (fun _ _ => rfl))) pa_nil)))
      (C8.pss_cut (ps_set (i := 5) sc_read.nd rfl (Or.inl rfl) (pe_ifExp (pt_cmpR op_eq (pe_callB call_len (by rfl) T.z_len PySem.boot_len (pa_cons (pv 2) pa_nil)) pe_int (nomark _)) (My.pe_d D_figof (hr.mono (by decide)) (by rfl) pass0 (pa_cons (pe_ix ix_list (pv 2) pe_int (fun _ _ => rfl)) pa_nil)) pe_int))
      (pss_one (ps_if (PW.pt (pw_and (pt_cmpR op_notN (pv 4) pe_non (nomark _)) (pw_and (pt_cmpR op_notN (pv 5) pe_non (nomark _)) (pw_and1 (pt_cmpR op_gt (pv 5) pe_int (nomark _)))))) (pss_cons (ps_set (i := 6) sc_read.nd rfl (Or.inl rfl) (My.pe_mkL M_Ratio (hr.mono (by decide)) (passes_call (takes_of rfl rfl rfl rfl) (fun _ _ _ _ h => h)) (pv 0) (pa_cons (pe_op op_mul (pv 3) (pv 4)) (pa_cons (pv 5) pa_nil))))
      (pss_one (ps_if (pt_cmpR op_eq (pe_callTy (My.call_strO ST_str (hr.mono (by decide)) pass0) (by rfl) T.z_str boot_str (pa_cons (pv 6) pa_nil)) (pv 1) (nomark _)) (pss_one (ps_ret (pv 6))) pss_nil))) pss_nil))))) pss_nil)
      (pss_one (ps_raise2 rfl T.e_BadText (hr.mono (by decide) : Room 0 _) (takes_of rfl rfl rfl rfl) (pa_cons pe_int (pa_cons pe_int pa_nil)))))), ?_⟩
    obtain ⟨lw, nw⟩ := words_len9 sh
    refine ⟨fun σ Hz => ∃ l, σ = [some (.ref C), some v, some (.ref l), none, none, none, none] ∧ Hz l = some (.lst ((wordsR v).map V.str)) ∧ Same H Hz, ?_, ?_⟩
    · obtain ⟨t, b, ht, hk, hb⟩ : ∃ t b, TyX K H v t ∧ PySem.W.kitOne K t (.type "str") = some b ∧ (b = true → ∃ x, v = .str x) ∧ (b = false → ∀ x, v ≠ .str x) := by
        rcases ty with ⟨t, ty⟩ | ⟨a, dx, fs, rfl, ea⟩
        · obtain ⟨b, h1, h2⟩ := kstr (K := K) ty
          exact ⟨_, b, ty.tyx, h1, h2⟩
        · exact ⟨_, false, .base (.ins ea T.cl T.ha T.hn T.ht T.hm), T.noStr, (fun z => Bool.noConfusion z), fun _ _ z => nomatch z⟩
      refine ⟨_, rfl, v, _, t, _, b, rfl, .ty _, ht, hk, _, rfl, ?_⟩
      cases b with
      | false =>
        refine iteF ⟨(by show 0 ≤ sizeLine; decide), fun l hl => ⟨l, rfl, ?_, same_new hl⟩⟩
        rw [wordsR_no (hb.2 rfl)]
        exact upd_same
      | true =>
        obtain ⟨x, rfl⟩ := hb.1 rfl
        have sh : x.length ≤ 5000 := sh
        exact iteT ⟨_, rfl, ⟨x, rfl⟩, x, "/", rfl, rfl, by decide +kernel, (by rw [sizeLine_eq]; omega), fun l hl => ⟨l, rfl, upd_same, same_new hl⟩⟩
    rintro σ H1 ⟨l, rfl, L, s1⟩
    generalize ew : wordsR v = ws at L lw nw
    refine ⟨_, rfl, _, _, rfl, .inl ⟨_, SqL.of L, rfl⟩, (by show 2 ≤ sizeLine; decide), fun t1 g1 => ⟨t1, _, rfl, .inr (SqT.of upd_same), rfl, rfl, _, rfl, ?_⟩⟩
    have s2 := same_new (o := .tup [.int 1, .int 2]) g1
    have L2 := s2 _ _ L
    have t2 := s1.trans s2
    generalize upd H1 t1 (.tup [.int 1, .int 2]) = H2 at s2 L2 t2
    have ein : inV (.int ((ws.map V.str).length : Nat)) [.int 1, .int 2] = decide (ws.length = 1 ∨ ws.length = 2) := by
      rw [List.length_map]
      show ((1 : Int) == ((ws.length : Nat) : Int) || ((2 : Int) == ((ws.length : Nat) : Int) || false)) = _
      rw [Bool.or_false]
      by_cases c1 : ws.length = 1
      · rw [c1]; rfl
      · by_cases c2 : ws.length = 2
        · rw [c2]; rfl
        · rw [decide_eq_false (by omega), Bool.or_eq_false_iff, beq_eq_false_iff_ne, beq_eq_false_iff_ne]
          exact ⟨by omega, by omega⟩
    show (if inV (.int ((ws.map V.str).length : Nat)) [.int 1, .int 2] = true then _ else _)
    rw [ein]
    by_cases hl : ws.length = 1 ∨ ws.length = 2
    case neg =>
      rw [decide_eq_false hl]
      have no : readV v = none := readV_none (by
        rw [ew]
        rcases ws with _ | ⟨w0, _ | ⟨w1, _ | ⟨w2, ws⟩⟩⟩
        · rfl
        · exact absurd (.inl rfl) hl
        · exact absurd (.inr rfl) hl
        · rfl)
      exact iteF ⟨_, _, rfl, fun d hd => ((k2 no).up t2).go hd⟩
    rw [decide_eq_true hl]
    refine iteT ?_
    obtain ⟨w0, rest, rfl⟩ : ∃ w0 rest, ws = w0 :: rest := by
      cases ws with
      | nil => rcases hl with z | z <;> cases z
      | cons a r => exact ⟨a, r, rfl⟩
    have l0 : w0.length ≤ 5000 := lw w0 List.mem_cons_self
    have e45 : TL.tl ("-" : Str) = [45] := by decide +kernel
    have ea : atI ((w0 :: rest).map V.str) (0 : Int) = some (.str w0) := at0
    -- sign
    refine ⟨fun σ Hz => σ = [some (.ref C), some v, some (.ref l), some (.int (if RT.neg (TL.tl w0) = true then -1 else 1)), none, none, none] ∧ Hz = H2, ?_, ?_⟩
    · refine ⟨_, rfl, l, _, _, _, rfl, rfl, SqL.of L2, ea, 1, rfl, w0, rfl, sl5 l0, rfl, _, rfl, ?_⟩
      rw [str_eq, cut_to1, e45]
      refine ite2 (fun c => ?_) (fun c => ?_)
      · refine ⟨_, rfl, ?_, rfl⟩
        rw [if_pos (show RT.neg (TL.tl w0) = true from c)]
        rfl
      · refine ⟨?_, rfl⟩
        rw [if_neg (show ¬ RT.neg (TL.tl w0) = true from c)]
        rfl
    rintro σ Hz ⟨rfl, rfl⟩
    -- top
    refine ⟨fun σ H3 => σ = [some (.ref C), some v, some (.ref l), some (.int (if RT.neg (TL.tl w0) = true then -1 else 1)), some (optV (dg (RT.top0 (TL.tl w0)))), none, none] ∧ Same Hz H3, ?_, ?_⟩
    · refine ⟨_, rfl, _, _, rfl, rfl, _, rfl, ?_⟩
      cases c : RT.neg (TL.tl w0) with
      | true =>
        refine iteT ⟨_, rfl, l, _, _, _, rfl, rfl, SqL.of L2, ea, 1, rfl, w0, rfl, sl5 l0, _, rfl, Nat.le_trans (cutS_length ..) l0, fun H3 s3 => ?_⟩
        rw [cut_from1]
        refine ⟨?_, s3⟩
        unfold RT.top0
        rw [c]
        rfl
      | false =>
        refine iteF ⟨_, rfl, l, _, _, _, rfl, rfl, SqL.of L2, ea, w0, rfl, l0, fun H3 s3 => ⟨?_, s3⟩⟩
        unfold RT.top0
        rw [c]
        rfl
    rintro σ H3 ⟨rfl, s3⟩
    have L3 := s3 _ _ L2
    have t3 := t2.trans s3
    -- bottom
    refine ⟨fun σ H4 => ∃ o : Option Int, σ = [some (.ref C), some v, some (.ref l), some (.int (if RT.neg (TL.tl w0) = true then -1 else 1)), some (optV (dg (RT.top0 (TL.tl w0)))), some (optV o), none] ∧ o = (match rest.map TL.tl with | [] => some 1 | w1 :: _ => dg w1) ∧ Same H3 H4, ?_, ?_⟩
    · refine ⟨_, rfl, _, _, rfl, .inl ⟨_, SqL.of L3, rfl⟩, rfl, _, rfl, ?_⟩
      rcases rest with _ | ⟨w1, rest⟩
      · exact iteF ⟨some 1, rfl, rfl, fun _ _ e => e⟩
      · have e2 : (w0 :: w1 :: rest).length = 2 := by
          rcases hl with z | z
          · have : (w0 :: w1 :: rest).length = rest.length + 1 + 1 := rfl
            omega
          · exact z
        have ed : decide (V.int (((w0 :: w1 :: rest).map V.str).length : Nat) = V.int 2) = true := by
          rw [List.length_map, e2]
          rfl
        show (if decide (V.int (((w0 :: w1 :: rest).map V.str).length : Nat) = V.int 2) = true then _ else _)
        rw [ed]
        have l1 : w1.length ≤ 5000 := lw w1 (by simp)
        exact iteT ⟨_, rfl, l, _, _, _, rfl, rfl, SqL.of L3, at1, w1, rfl, l1, fun H4 s4 => ⟨dg (TL.tl w1), rfl, rfl, s4⟩⟩
    rintro σ H4 ⟨o, rfl, eo, s4⟩
    have t4 := t3.trans s4
    have raise : readV v = none → ∀ Hy, Same H Hy → ErrT E CT 0 Hy := fun no Hy sy => (k2 no).up sy
    have PN : dg (RT.top0 (TL.tl w0)) = none → RT.partsR ((w0 :: rest).map TL.tl) = none := fun z => by
      rcases rest with _ | ⟨w1, _ | ⟨w2, rest⟩⟩
      · exact RT.parts_one0 z
      · exact RT.parts_two0 z
      · rfl
    have PO : o = none → RT.partsR ((w0 :: rest).map TL.tl) = none := fun z => by
      rcases rest with _ | ⟨w1, _ | ⟨w2, rest⟩⟩
      · rw [z] at eo
        cases eo
      · exact RT.parts_two1 (eo.symm.trans z)
      · rfl
    have PS : ∀ tp b, dg (RT.top0 (TL.tl w0)) = some tp → o = some b → RT.partsR ((w0 :: rest).map TL.tl) = if 0 < b then some ((if RT.neg (TL.tl w0) = true then -1 else 1) * tp, b) else none := fun tp b z1 z2 => by
      rcases rest with _ | ⟨w1, _ | ⟨w2, rest⟩⟩
      · have eb : some b = some (1 : Int) := z2.symm.trans eo
        cases eb
        exact RT.parts_one z1
      · exact RT.parts_two z1 (eo.symm.trans z2)
      · rcases hl with z | z
        · have : (w0 :: w1 :: w2 :: rest).length = rest.length + 1 + 1 + 1 := rfl
          omega
        · have : (w0 :: w1 :: w2 :: rest).length = rest.length + 1 + 1 + 1 := rfl
          omega
    rw [← ew] at PN PO PS
    refine ⟨_, rfl, rfl, _, rfl, ?_⟩
    cases et : dg (RT.top0 (TL.tl w0)) with
    | none => exact iteF ⟨_, _, rfl, fun d hd => (raise (readV_none (PN et)) H4 t4).go hd⟩
    | some tp =>
      refine iteT ⟨_, rfl, rfl, _, rfl, ?_⟩
      cases o with
      | none => exact iteF ⟨_, _, rfl, fun d hd => (raise (readV_none (PO rfl)) H4 t4).go hd⟩
      | some b =>
        refine iteT ⟨_, rfl, _, _, rfl, rfl, _, rfl, ite2 (fun c => ?_) (fun c => ?_)⟩
        · have hb : 0 < b := of_decide_eq_true c
          have pp := PS tp b et rfl
          rw [if_pos hb] at pp
          obtain ⟨x, rfl, er⟩ := readV_some pp
          have bt := dg_lt et
          have bb : b < 10 ^ 60 := by
            rcases rest with _ | ⟨w1, rest⟩
            · cases eo
              decide
            · exact (dg_lt eo.symm).2
          have e60 : (10 : Int) ^ 60 = 1000000000000000000000000000000000000000000000000000000000000 := by decide +kernel
          have e2 : (2 : Nat) ^ 300 = 2037035976334486086268445688409378161051468393665936250636140449354381299763336706183397376 := by decide +kernel
          rw [e60] at bt bb
          have b0 : b ≠ 0 := by omega
          have sb : Sm b := by
            unfold Sm
            rw [e2]
            omega
          have st : Sm ((if RT.neg (TL.tl w0) = true then -1 else 1) * tp) := by
            unfold Sm
            rw [e2]
            split <;> omega
          generalize hs : (if RT.neg (TL.tl w0) = true then (-1 : Int) else 1) = sg at pp er st ⊢
          have hs : sg = -1 ∨ sg = 1 := by
            rw [← hs]
            split
            · exact .inl rfl
            · exact .inr rfl
          refine ⟨_, rfl, rfl, _, rfl, _, rfl, _, _, rfl, rfl, ?_, ?_⟩
          · rcases hs with rfl | rfl <;> exact .inl ⟨by decide, by decide⟩
          refine ⟨_, rfl, fun q dx hx hd ne => init_at b0 (Nat.lt_trans sb.log (by decide)) hx hd ne fun H5 l5 s5 => ?_⟩
          have t5 := t4.trans s5
          have sT : Sm (lowT (sg * tp) b) := Nat.lt_of_le_of_lt (lowT_abs b0) st
          have sB : Sm (lowB (sg * tp) b) := Nat.lt_of_le_of_lt (lowB_abs b0) sb
          obtain ⟨dx5, e5⟩ := id l5
          refine ⟨_, rfl, q, dx5, _, rfl, e5, q, _, _, rfl, l5, sT.log, sB.log, _, rfl, _, rfl, rfl, _, rfl, ?_⟩
          rw [str_eq, tl_rat]
          refine ite2 (fun d => ?_) (fun d => ?_)
          · refine ⟨_, rfl, k1 _ _ ?_ (lowB_pos b0) (low_cop b0) sT sB q H5 l5 t5⟩
            rw [er, if_pos (of_decide_eq_true d)]
          · refine ⟨_, _, rfl, fun dd hdd => (raise ?_ H5 t5).go hdd⟩
            rw [er, if_neg (fun z => d (decide_eq_true z))]
        · have pp := PS tp b et rfl
          rw [if_neg (fun z => c (decide_eq_true z))] at pp
          exact ⟨_, _, rfl, fun d hd => (raise (readV_none pp) H4 t4).go hd⟩
end
end My
/-! Which texts are those of fractions. -/
namespace RT
open PySem PySem.Spec PyProof.Rows L2 TX My
theorem val_snoc (l : List Nat) (c : Nat) : NumText.digitsVal (l ++ [c]) = NumText.digitsVal l * 10 + (c - 48) := by
  unfold NumText.digitsVal
  rw [List.foldl_append]
  rfl
theorem val_pos : ∀ (l : List Nat), NumText.AllDigits l → l ≠ [] → l.head? ≠ some 48 → 1 ≤ NumText.digitsVal l := by
  have ge : ∀ (l : List Nat) (a : Nat), a ≤ l.foldl (fun acc c => acc * 10 + (c - 48)) a := by
    intro l
    induction l with
    | nil => intro a; exact Nat.le_refl _
    | cons c l ih =>
      intro a
      show a ≤ l.foldl _ (a * 10 + (c - 48))
      have := ih (a * 10 + (c - 48))
      omega
  intro l hd hne hh
  cases l with
  | nil => exact absurd rfl hne
  | cons c l =>
    have hc := hd c List.mem_cons_self
    have c0 : c ≠ 48 := fun z => hh (by rw [z]; rfl)
    show 1 ≤ l.foldl _ (0 * 10 + (c - 48))
    have := ge l (0 * 10 + (c - 48))
    omega
theorem num_val : ∀ (n : Nat) (l : List Nat), l.length = n + 1 → NumText.AllDigits l → (1 < l.length → l.head? ≠ some 48) → TL.numL (NumText.digitsVal l) = l
  | 0, l, e, hd, _ => by
    rcases l with _ | ⟨c, _ | ⟨d, r⟩⟩
    · cases e
    · have hc := hd c List.mem_cons_self
      have ev : NumText.digitsVal [c] = c - 48 := by
        show 0 * 10 + (c - 48) = _
        omega
      rw [ev, TL.numL_lt (by omega)]
      congr 1
      omega
    · cases e
  | n + 1, l, e, hd, hh => by
    have hne : l ≠ [] := fun z => by rw [z] at e; cases e
    obtain ⟨l', c, rfl⟩ : ∃ l' c, l = l' ++ [c] := ⟨l.dropLast, l.getLast hne, (List.dropLast_concat_getLast hne).symm⟩
    rw [List.length_append] at e
    have e' : l'.length = n + 1 := by
      have : ([c] : List Nat).length = 1 := rfl
      omega
    have hne' : l' ≠ [] := fun z => by rw [z] at e'; cases e'
    have hd' : NumText.AllDigits l' := fun x hx => hd x (List.mem_append_left _ hx)
    have hc := hd c (List.mem_append_right _ List.mem_cons_self)
    have hh' : l'.head? ≠ some 48 := fun z => hh (by rw [List.length_append, e']; show 1 < n + 1 + 1; omega) (by
      cases l' with
      | nil => exact absurd rfl hne'
      | cons a r => exact z)
    have ih := num_val n l' e' hd' fun _ => hh'
    have vp := val_pos l' hd' hne' hh'
    rw [val_snoc, TL.numL_step (by omega)]
    have e1 : (NumText.digitsVal l' * 10 + (c - 48)) / 10 = NumText.digitsVal l' := by omega
    have e2 : 48 + (NumText.digitsVal l' * 10 + (c - 48)) % 10 = c := by omega
    rw [e1, e2, ih]
/-- figures tell their number alone -/
theorem dg_inv {l : List Nat} {z : Int} (h : dg l = some z) : 0 ≤ z ∧ TL.numL z.natAbs = l := by
  have b := dg_lt h
  refine ⟨b.1, ?_⟩
  unfold dg at h
  split at h
  · rename_i ok
    obtain ⟨h1, h2, h3⟩ := okD_all ok
    split at h
    · cases h
    · rename_i g
      have e := Option.some.inj h
      have e2 : z.natAbs = NumText.digitsVal l := by omega
      rw [e2]
      exact num_val (l.length - 1) l (by omega) h3 fun x y => g ⟨x, y⟩
  · cases h
theorem dg_free {l : List Nat} {z : Int} (h : dg l = some z) : (47 : Nat) ∉ l := by
  rw [← (dg_inv h).2]
  exact TL.numL_free (by decide)
theorem intL_inj {a b : Int} (h : intL a = intL b) : a = b := by
  obtain ⟨n1, t1⟩ := neg_int a
  obtain ⟨n2, t2⟩ := neg_int b
  rw [h] at n1 t1
  have e1 : decide (a < 0) = decide (b < 0) := n1.symm.trans n2
  have e2 := TL.numL_inj (t1.symm.trans t2)
  by_cases c : a < 0
  · rw [decide_eq_true c] at e1
    have := of_decide_eq_true e1.symm
    omega
  · rw [decide_eq_false c] at e1
    have : ¬ b < 0 := of_decide_eq_false e1.symm
    omega
theorem spl_cons (s : Nat) : ∀ (l acc : List Nat), ∃ w ws, TL.spl [s] 0 acc l = w :: ws
  | [], acc => ⟨acc, [], TL.spl_nil _ _ _⟩
  | c :: r, acc => by
    by_cases h : TL.pre [s] (c :: r) = true
    · exact ⟨acc, _, TL.spl_hit h⟩
    · rw [TL.spl_miss (by simpa using h)]
      exact spl_cons s r _
theorem join_spl (s : Nat) : ∀ (l acc : List Nat), TL.joinL [s] (TL.spl [s] 0 acc l) = acc ++ l
  | [], acc => by
    rw [TL.spl_nil, List.append_nil]
    rfl
  | c :: r, acc => by
    by_cases h : TL.pre [s] (c :: r) = true
    · rw [TL.spl_hit h]
      have hc : c = s := by
        have h : ([c] == [s]) = true := h
        have := beq_iff_eq.mp h
        exact (List.cons.inj this).1
      show TL.joinL [s] (acc :: TL.spl [s] 0 [] r) = _
      have ih := join_spl s r []
      obtain ⟨w, ws, e⟩ := spl_cons s r []
      rw [e] at ih ⊢
      show acc ++ ([s] ++ TL.joinL [s] (w :: ws)) = _
      rw [ih, hc]
      rfl
    · rw [TL.spl_miss (by simpa using h), join_spl s r, List.append_assoc]
      rfl
/-- the law's own look at a text -/
def isL (ws : List (List Nat)) (l : List Nat) : Bool := match ws with
  | [] => false
  | w0 :: rest => if ((top0 w0 :: rest).all fun w => (dg w).isSome) = true then
      (if 1 < rest.length ∨ l = [45, 48] then false
      else match rest with
        | [] => true
        | w1 :: _ => match dg w1, dg (top0 w0) with
          | some b, some t => decide (1 < b) && decide (lowT t b = t ∧ lowB t b = b)
          | _, _ => false)
    else false
theorem low_neg {t b : Int} (hb : 0 < b) : lowT (-t) b = -lowT t b ∧ lowB (-t) b = lowB t b := by
  have e : sgcd (-t) b = sgcd t b := by
    unfold sgcd
    rw [Int.neg_gcd]
  constructor
  · have h1 := low_t (-t) b
    have h2 := low_t t b
    rw [e] at h1
    have z := sgcd_ne (t := t) (b := b) (by omega)
    refine Int.eq_of_mul_eq_mul_left z ?_
    rw [h1, Int.mul_neg, h2]
  · have h1 := low_b (-t) b
    have h2 := low_b t b
    rw [e] at h1
    have z := sgcd_ne (t := t) (b := b) (by omega)
    exact Int.eq_of_mul_eq_mul_left z (h1.trans h2.symm)
theorem low_one {t b : Int} (hb : 0 < b) (h : lowB t b = b) : lowT t b = t := by
  have h2 := low_b t b
  rw [h] at h2
  have e : sgcd t b = 1 := Int.eq_of_mul_eq_mul_right (a := b) (by omega) (by rw [h2, Int.one_mul])
  have h1 := low_t t b
  rw [e, Int.one_mul] at h1
  exact h1
theorem lowB1 (t : Int) : lowT t 1 = t ∧ lowB t 1 = 1 := low_self (by decide) (by rw [Int.gcd_one_right])
theorem sg_t {w : List Nat} {t : Int} (h : dg (top0 w) = some t) (hz : ¬ (neg w = true ∧ t = 0)) : intL ((if neg w = true then -1 else 1) * t) = w := by
  obtain ⟨t0, ti⟩ := dg_inv h
  unfold top0 at ti
  cases c : neg w with
  | true =>
    rw [c] at hz ti
    have ti : TL.numL t.natAbs = w.drop 1 := ti
    have t1 : t ≠ 0 := fun z => hz ⟨rfl, z⟩
    have e : (if true = true then (-1 : Int) else 1) * t = -t := by
      rw [if_pos rfl]
      omega
    rw [e]
    unfold intL
    rw [if_pos (by omega), Int.natAbs_neg, ti]
    have hw : w.take 1 = [45] := of_decide_eq_true c
    have := List.take_append_drop 1 w
    rw [hw] at this
    exact this
  | false =>
    rw [c] at ti
    have ti : TL.numL t.natAbs = w := ti
    have e : (if false = true then (-1 : Int) else 1) * t = t := by
      rw [if_neg (by decide)]
      omega
    rw [e]
    unfold intL
    rw [if_neg (by omega), ti]
theorem low_sg {t b : Int} (s : Bool) (hb : 0 < b) : lowT ((if s = true then -1 else 1) * t) b = (if s = true then -1 else 1) * lowT t b ∧ lowB ((if s = true then -1 else 1) * t) b = lowB t b := by
  cases s with
  | true =>
    have e : ∀ z : Int, (if true = true then (-1 : Int) else 1) * z = -z := fun z => by
      rw [if_pos rfl]
      omega
    rw [e, e]
    exact low_neg hb
  | false =>
    have e : ∀ z : Int, (if false = true then (-1 : Int) else 1) * z = z := fun z => by
      rw [if_neg (by decide)]
      omega
    rw [e, e]
    exact ⟨rfl, rfl⟩
theorem isL_read (l : List Nat) : isL (TL.spl [47] 0 [] l) l = (readR l).isSome := by
  have hj := join_spl 47 l []
  rw [List.nil_append] at hj
  obtain ⟨w0, rest, ew⟩ := spl_cons 47 l []
  have key : ∀ t b, partsR (w0 :: rest) = some (t, b) → readR l = if txt (lowT t b) (lowB t b) = l then some (lowT t b, lowB t b) else none := fun t b h => by
    unfold readR
    rw [ew, h]
  have keyN : partsR (w0 :: rest) = none → (readR l).isSome = false := fun h => by
    unfold readR
    rw [ew, h]
    rfl
  rw [ew] at hj ⊢
  unfold isL
  show (if ((top0 w0 :: rest).all fun w => (dg w).isSome) = true then _ else false) = _
  rcases rest with _ | ⟨w1, _ | ⟨w2, rest⟩⟩
  · -- one part
    have hj : w0 = l := hj
    cases e0 : dg (top0 w0) with
    | none =>
      rw [keyN (parts_one0 e0), if_neg]
      rw [List.all_cons, e0]
      simp
    | some t =>
      rw [if_pos (by rw [List.all_cons, e0]; rfl)]
      obtain ⟨k1, k2⟩ := lowB1 ((if neg w0 = true then -1 else 1) * t)
      rw [key _ _ (parts_one e0), k1, k2]
      have et : txt ((if neg w0 = true then -1 else 1) * t) 1 = intL ((if neg w0 = true then -1 else 1) * t) := if_pos rfl
      rw [et]
      by_cases hz : l = [45, 48]
      · rw [if_pos (.inr hz), if_neg]
        · rfl
        · rw [← hj] at hz
          rw [hz] at e0 ⊢
          have t0 : t = 0 := by
            have : dg (top0 [45, 48]) = some 0 := by decide +kernel
            rw [this] at e0
            exact (Option.some.inj e0).symm
          rw [t0, Int.mul_zero, ← hj, hz]
          decide +kernel
      · rw [if_neg (by
          rintro (z | z)
          · exact absurd z (by decide)
          · exact hz z), if_pos]
        · rfl
        · rw [sg_t e0, hj]
          rintro ⟨n1, n2⟩
          have h1 : w0.take 1 = [45] := of_decide_eq_true n1
          obtain ⟨_, ti⟩ := dg_inv e0
          unfold top0 at ti
          rw [if_pos n1, n2] at ti
          have z0 : TL.numL (0 : Int).natAbs = [48] := by decide +kernel
          rw [z0] at ti
          have := List.take_append_drop 1 w0
          rw [h1, ← ti] at this
          exact hz (hj.symm.trans this.symm)
  · -- two parts
    have hj : w0 ++ ([47] ++ w1) = l := hj
    cases e0 : dg (top0 w0) with
    | none =>
      rw [keyN (parts_two0 e0), if_neg]
      rw [List.all_cons, e0]
      simp
    | some t =>
      cases e1 : dg w1 with
      | none =>
        rw [keyN (parts_two1 e1), if_neg]
        rw [List.all_cons, List.all_cons, e0, e1]
        simp
      | some b =>
        rw [if_pos (by rw [List.all_cons, List.all_cons, e0, e1]; rfl)]
        have n2 : ¬ (1 < [w1].length ∨ l = [45, 48]) := by
          rintro (z | z)
          · exact absurd z (by show ¬ 1 < 1; decide)
          · have : (47 : Nat) ∈ l := by
              rw [← hj]
              simp
            rw [z] at this
            exact absurd this (by decide)
        rw [if_neg n2]
        simp only [e1]
        obtain ⟨b0, bi⟩ := dg_inv e1
        by_cases hb : 0 < b
        case neg =>
          rw [keyN (by rw [parts_two e0 e1, if_neg hb]), decide_eq_false (by omega), Bool.false_and]
        rw [key _ _ (by rw [parts_two e0 e1, if_pos hb])]
        obtain ⟨k1, k2⟩ := low_sg (t := t) (neg w0) hb
        rw [k1, k2]
        have ib : intL b = w1 := by
          unfold intL
          rw [if_neg (by omega), bi]
        by_cases c : 1 < b ∧ lowT t b = t ∧ lowB t b = b
        · obtain ⟨c1, c2, c3⟩ := c
          rw [decide_eq_true c1, decide_eq_true ⟨c2, c3⟩, c2, c3, if_pos]
          · rfl
          · unfold txt
            rw [if_neg (by omega), ib, sg_t e0, hj]
            rintro ⟨_, z⟩
            have h2 := low_b t b
            rw [c3] at h2
            have e : sgcd t b = 1 := Int.eq_of_mul_eq_mul_right (a := b) (by omega) (by rw [h2, Int.one_mul])
            unfold sgcd at e
            rw [if_neg (by omega), z, Int.gcd_zero_left] at e
            omega
        · have ef : (decide (1 < b) && decide (lowT t b = t ∧ lowB t b = b)) = false := by
            rw [← Bool.decide_and]
            exact decide_eq_false c
          rw [ef, if_neg]
          · rfl
          · intro ht
            have hs := congrArg (TL.spl [47] 0 []) ht
            rw [spl_txt, ew] at hs
            by_cases hB : lowB t b = 1
            · rw [if_pos hB] at hs
              cases (List.cons.inj hs).2
            · rw [if_neg hB] at hs
              have h2 := (List.cons.inj (List.cons.inj hs).2).1
              rw [← ib] at h2
              have e := intL_inj h2
              have hp := lowB_pos (t := t) (b := b) (by omega)
              exact c ⟨by omega, low_one hb e, e⟩
  · -- more
    have hm : partsR (w0 :: w1 :: w2 :: rest) = none := rfl
    rw [keyN hm]
    have hl : 1 < (w1 :: w2 :: rest).length := by
      show 1 < rest.length + 1 + 1
      omega
    by_cases z : ((top0 w0 :: w1 :: w2 :: rest).all fun w => (dg w).isSome) = true
    · rw [if_pos z, if_pos (.inl hl)]
    · rw [if_neg z]
end RT
/-! pick, the pen's cells at a known place -/
namespace My
open PySem PySem.Spec PyProof.Rows L2
def spPickC : Sp := fun vs H Q _ => ∃ (pn cl l : Addr) (n : Nat) (xs : List V), vs = [.ref pn, .ref l] ∧ H l = some (.lst xs) ∧ l ≠ pn ∧ 0 < xs.length ∧ xs.length ≤ 1000 ∧ PenC H pn cl n ∧ n < 100000 ∧
  ∀ (v : V) (H' : Hp), v ∈ xs → PenC H' pn cl (n + 1) → But pn H H' → Q v H'
section
variable {P : Program} {w : World} {K : PySem.W.Frag} {mg : Str → Option Value} {base : Heap}
theorem ok_pickC {f : Addr} {fd : FuncData} (F : Fun K "_law_pick" "_law_pick" s_pick f fd) (T : BI mg) (D_draw : DefAt P w K mg base CX0 1 "_law_draw" ["_law_pen_here", "_law_many"] spDrawC) : FnOk P w K mg base CX0 2 f fd ["_law_pen_here", "_law_some"] spPickC := by
  refine F.ok sc_pick (fun vs H Q E h => ?_) (fun cdv A outer s H vs Q E hr h => ?_)
  · obtain ⟨pn, cl, l, n, xs, rfl, _⟩ := h
    rfl
  · obtain ⟨pn, cl, l, n, xs, rfl, hl, nl, h0, h1, hp, hn, k⟩ := h
    refine ⟨_, (pss_one (ps_ret (pe_ix ix_list (pv 1) (My.pe_d D_draw (hr.mono (by decide)) (by rfl) pass0 (pa_cons (pv 0) (pa_cons (pe_callB call_len (by rfl) T.z_len PySem.boot_len (pa_cons (pv 1) pa_nil)) pa_nil))) (fun _ _ => rfl)))), ?_⟩
    refine ⟨_, rfl, _, rfl, _, rfl, _, _, rfl, .inl ⟨_, SqL.of hl, rfl⟩, pn, cl, _, n, rfl, by omega, ?_, hp, hn, fun d H' d0 d1 hp' hb => ?_⟩
    · refine Nat.lt_of_lt_of_le (PySem.Flt.log2_lt_of (k := 10) (by decide) ?_) (by decide)
      show xs.length < 1024
      omega
    · obtain ⟨v, hv⟩ : ∃ v, xs[d.toNat]? = some v := ⟨_, List.getElem?_eq_getElem (by omega)⟩
      refine ⟨l, _, _, v, rfl, rfl, SqL.of (hb l _ hl nl), at_of (j := d.toNat) (by omega) hv, ?_⟩
      exact k v H' (List.mem_of_getElem? hv) hp' hb
end
end My
/-! try with several except clauses, some of them «as n». -/
namespace My
open PySem PySem.Spec PyProof.Rows L2
/-- one clause: its class, what its suite is read as, the slot of its name -/
structure Cls1 where
  c : Value
  i : Option Nat
  ts : Addr → Value → Option Addr → TS
def behind (i : Option Nat) (D : Ends) : Ends := match i with
  | none => D
  | some i => { nx := fun σ H => D.nx (σ.set i none) H, rt := D.rt, bk := fun σ H => D.bk (σ.set i none) H, ct := fun σ H => D.ct (σ.set i none) H }
def within (i : Option Nat) (a : Addr) (σ : L2.St) : L2.St := match i with
  | none => σ
  | some i => σ.set i (some (.ref a))
/-- what the clauses wish of an error of the body -/
def wMix (K : PySem.W.Frag) (n : Nat) (Wout : WX) (D : Ends) : List Cls1 → WX
  | [] => Wout
  | q :: r => fun cls d σ H => ∃ b, PySem.W.exmOne K cls q.c = some b ∧ (b = true → ∀ a, H a = none → σ.length = n → q.ts a cls d (behind q.i D) (within q.i a σ) H) ∧ (b = false → wMix K n Wout D r cls d σ H)
inductive Mixed (X : Cx) : List ExceptHandler → List Cls1 → Prop
  | nil : Mixed X [] []
  | bare {x : Str} {c : Value} {ts : Addr → Value → Option Addr → TS} {st : Stmt} {suite : List Stmt} {np pos : Pos} {hds : List ExceptHandler} {l : List Cls1} (hc : Names X x c)
      (hsu : ∀ (a : Addr) (oe : Obj) (cls : Value) (d : Option Addr) (pn : List (Addr × Obj)), Zc cls d oe → (∃ vs, oe.data = .fields vs) → PSs (X.suite a ((a, oe) :: pn)) (st :: suite) (ts a cls d)) (r : Mixed X hds l) :
      Mixed X (.ExceptHandler (some (.Name x np)) none (st :: suite) pos :: hds) (⟨c, none, ts⟩ :: l)
  | named {x n : Str} {c : Value} {i : Nat} {ts : Addr → Value → Option Addr → TS} {st : Stmt} {suite : List Stmt} {np pos : Pos} {hds : List ExceptHandler} {l : List Cls1} (hc : Names X x c) (hi : X.N[i]? = some n) (hl : X.env.kindOf n = some .local)
      (hsu : ∀ (a : Addr) (oe : Obj) (cls : Value) (d : Option Addr) (pn : List (Addr × Obj)), Zc cls d oe → (∃ vs, oe.data = .fields vs) → PSs (X.suite a ((a, oe) :: pn)) (st :: suite) (ts a cls d)) (r : Mixed X hds l) :
      Mixed X (.ExceptHandler (some (.Name x np)) (some n) (st :: suite) pos :: hds) (⟨c, some i, ts⟩ :: l)
section
variable {X : Cx} {body : List Stmt} {hd1 : ExceptHandler} {hds : List ExceptHandler} {l : List Cls1} {pos : Pos} {tb : WX → TS} {Wout : WX}
theorem ps_try_mix (hs : X.stack = X.env :: X.outer) (hf : X.env.frame = some X.env.locals) (hN : X.N.Nodup) (tk : Takes X Wout)
    (hb : ∀ (W : WX) (pn : List (Addr × Obj)) (xe : Value → Shared → Prop), Takes (X.tr pn xe) W → PassesOwn (model X.prog X.w) X.A X.env xe → PSs (X.tr pn xe) body (tb W)) (hh : Mixed X (hd1 :: hds) l) :
    PS X (.Try body (hd1 :: hds) [] [] pos) (fun D σ H => tb (wMix X.K X.N.length Wout D l) D σ H) := by
  refine ⟨fun pins s σ H D I h => ?_⟩
  have ok := I.ok
  have hfr : X.A.frames = some (X.env :: X.outer) := by rw [ok.frames, hs]
  refine wpAny_Try_except ?_
  refine wpAny_mono ((hb (wMix X.K X.N.length Wout D l) (X.pn ++ pins) (fun e t1 => wpAny (model X.prog X.w) X.A (noteFrame e X.env) (fun _ t2 => wpAny (model X.prog X.w) X.A (setFlight e none) (fun _ t3 =>
    wpAny (model X.prog X.w) X.A (handleBy e X.env (hd1 :: hds)) (SP X pins D) X.xe t3) X.xe t2) X.xe t1) (fun u s' xx => ?_) PassesOwn.looking).run [] s σ H D (I.toTry _) h) (fun fl t1 hsp => ?_) (fun _ _ he => he)
  · obtain ⟨a, B, sI, pins', σ1, H1, cls, d, rfl, J0, nb, up, sky, na, os, ag, wish⟩ := xx
    have J : Inv X pins σ1 H1 sI := J0.ofTry ok
    have sky1 : Sky B (X.env :: X.outer) a (Zc cls d) X.env.locals s'.heap := by rw [← hs]; exact sky
    show wpAny (model X.prog X.w) X.A (noteFrame (.ref a) X.env) _ _ _
    refine Sky.land Zc.steady hfr hf sky1 fun h3 fl3 up3 => ?_
    have J3 : Inv X pins σ1 H1 { s' with heap := h3 } := J.landed nb fl3.1 (up.trans up3) os ag
    obtain ⟨oe3, vs3, he3, hz3, hd3⟩ := fl3.there
    have nfr : a ∉ frs (X.env :: X.outer) := fun hm => by
      obtain ⟨_, o', e', hnf⟩ := fl3.2.2.1.mem hm
      rw [he3] at e'
      cases e'
      exact hnf _ hd3
    have nL : a ≠ X.env.locals := fun z => nfr (List.mem_filterMap.mpr ⟨X.env, List.mem_cons_self, by rw [hf, z]⟩)
    have nF : a ∉ X.fs := fun hm => by
      obtain ⟨e1, he1, q1⟩ := List.mem_filterMap.mp hm
      exact nfr (List.mem_filterMap.mpr ⟨e1, List.mem_cons_of_mem _ he1, q1⟩)
    have S3 := J3.suite he3 hd3 na nL nF
    have LT : PySem.W.Looks (model X.prog X.w) h3 (typeOf (.ref a)) cls := fun A Q E s k q => wpAny_typeOf_ref (k _ _ he3) (by rw [hz3.1]; exact q)
    have test : ∀ {x : Str} {c : Value} {np : Pos} {Q : Value → Shared → Prop} {E : Value → Shared → Prop}, Names X x c → Q c { s' with heap := h3 } → wpAny (model X.prog X.w) (X.A.mark (some (.ref a))) (eval (.Name x np) X.env) Q E { s' with heap := h3 } := fun {x c np Q E} hc q => by
      obtain ⟨hg, hdbg, hm | ⟨hm, hv, hnn⟩⟩ := hc
      · exact ld_glob (X := X.suite a ((a, oe3) :: (X.pn ++ pins))) S3 hg hm q hdbg
      · exact ld_blt (X := X.suite a ((a, oe3) :: (X.pn ++ pins))) S3 hg hm hv q hnn hdbg
    have all : ∀ {hs' : List ExceptHandler} {l' : List Cls1}, Mixed X hs' l' → wMix X.K X.N.length Wout D l' cls d σ1 H1 → wpAny (model X.prog X.w) X.A (handleBy (.ref a) X.env hs') (SP X pins D) X.xe { s' with heap := h3 } := by
      intro hs' l' M
      induction M with
      | nil =>
        intro wq
        refine wpAny_handleBy_nil ?_
        obtain ⟨w1, w2, w3, oe, vs, T, oT, ts', he, hz, hdd, h1, hr⟩ := id fl3
        unfold PySem.passOn
        refine wpAny_bind (wpAny_field he hdd h1 ?_)
        rw [if_neg (show ¬ ((Value.ref T == Value.none) = true) from by simp)]
        have fin : wpAny (model X.prog X.w) X.A (setFlight (.ref a) X.env.frame) (fun _ t4 => wpAny (model X.prog X.w) X.A (throw (.ref a) : Sem Flow) (SP X pins D) X.xe t4) X.xe { s' with heap := h3 } := by
          rw [hf]
          refine HandSPX.setFlight_upZ fl3 fun h4 hh4 up4 => wpAny_throw (tk _ _ ?_)
          exact ⟨a, B, sI, pins, σ1, H1, cls, d, rfl, J, nb, (up.trans up3).trans up4, .inr (.inr (by rw [hs]; exact hh4)), na, os, ag, wq⟩
        first
          | exact wpAny_bind (wpAny_pure (wpAny_bind fin))
          | exact wpAny_bind fin
      | @bare x c ts st suite np pos' hds2 l2 hc hsu r ih =>
        rintro ⟨b, hb1, hyes, hno⟩
        refine wpAny_handleBy_cons (codeAny_handlers_test ?_) (by intro q; cases q)
        refine test hc ((PySem.W.exm_one (M := model X.prog X.w) (J3.kIn) LT hb1).here ?_)
        cases b with
        | true =>
          refine codeAny_handlers_suite (HandSPX.lands_againZ fl3 fun h4 fl4 up4 => ?_)
          have J4 : Inv X pins σ1 H1 { s' with heap := h4 } := J.landed nb fl4.1 ((up.trans up3).trans up4) os ag
          obtain ⟨oe4, vs4, he4, hz4, hd4⟩ := fl4.there
          have S4 := J4.suite he4 hd4 na nL nF
          refine wpAny_mono ((hsu a oe4 cls d (X.pn ++ pins) hz4 ⟨_, hd4⟩).run [] _ _ H1 _ S4 (hyes rfl a na J.len)) (fun fl t6 hsp => ?_) (fun _ _ z => False.elim z)
          cases fl with
          | next => obtain ⟨σ6, H6, S6, q6⟩ := hsp; exact ⟨_, _, S6.unsuite ok, q6⟩
          | brk => obtain ⟨σ6, H6, S6, q6⟩ := hsp; exact ⟨_, _, S6.unsuite ok, q6⟩
          | cont => obtain ⟨σ6, H6, S6, q6⟩ := hsp; exact ⟨_, _, S6.unsuite ok, q6⟩
          | ret u => obtain ⟨v6, σ6, H6, S6, r6, q6⟩ := hsp; exact ⟨_, _, _, S6.unsuite ok, r6, q6⟩
        | false =>
          show wpAny _ X.A (handleBy (.ref a) X.env hds2) _ _ _
          exact ih (hno rfl)
      | @named x n c i ts st suite np pos' hds2 l2 hc hi hln hsu r ih =>
        rintro ⟨b, hb1, hyes, hno⟩
        refine wpAny_handleBy_cons (codeAny_handlers_test ?_) (by intro q; cases q)
        refine test hc ((PySem.W.exm_one (M := model X.prog X.w) (J3.kIn) LT hb1).here ?_)
        cases b with
        | true =>
          refine codeAny_handlers_suite_as (HandSPX.lands_againZ fl3 fun h4 fl4 up4 => ?_)
          have J4 : Inv X pins σ1 H1 { s' with heap := h4 } := J.landed nb fl4.1 ((up.trans up3).trans up4) os ag
          obtain ⟨oe4, vs4, he4, hz4, hd4⟩ := fl4.there
          have S4 := J4.suite he4 hd4 na nL nF
          refine store_ok (X := X.suite a ((a, oe4) :: (X.pn ++ pins))) (v := .ref a) S4 hN hi (.inl hln) rfl (fun s5 S5 => ?_) (.inr hln)
          refine wpAny_mono ((hsu a oe4 cls d (X.pn ++ pins) hz4 ⟨_, hd4⟩).run [] s5 _ H1 _ S5 (hyes rfl a na J.len)) (fun fl t6 hsp => ?_) (fun _ _ z => False.elim z)
          have off : ∀ {σ6 : L2.St} {H6 : Hp} {Q : Shared → Prop}, Inv (X.suite a ((a, oe4) :: (X.pn ++ pins))) [] σ6 H6 t6 → (∀ t7, Inv X pins (σ6.set i none) H6 t7 → Q t7) →
              wpAny (model X.prog X.w) X.A (do bindName X.env n .none; unbindBehindTheSuite X.env n pos') (fun _ t7 => Q t7) X.xe t6 := fun {σ6 H6 Q} S6 hq => gone_ok (S6.unsuite ok) hN hi hln hq
          cases fl with
          | next => obtain ⟨σ6, H6, S6, q6⟩ := hsp; exact off S6 fun t7 J7 => ⟨_, _, J7, q6⟩
          | brk => obtain ⟨σ6, H6, S6, q6⟩ := hsp; exact off S6 fun t7 J7 => ⟨_, _, J7, q6⟩
          | cont => obtain ⟨σ6, H6, S6, q6⟩ := hsp; exact off S6 fun t7 J7 => ⟨_, _, J7, q6⟩
          | ret u => obtain ⟨v6, σ6, H6, S6, r6, q6⟩ := hsp; exact off S6 fun t7 J7 => ⟨_, _, _, J7, r6, q6⟩
        | false =>
          show wpAny _ X.A (handleBy (.ref a) X.env hds2) _ _ _
          exact ih (hno rfl)
    exact all hh wish
  · cases fl with
    | next => obtain ⟨σ', H', J', q⟩ := hsp; exact wpAny_execs_nil ⟨σ', H', J'.ofTry ok, q⟩
    | brk => obtain ⟨σ', H', J', q⟩ := hsp; exact ⟨σ', H', J'.ofTry ok, q⟩
    | cont => obtain ⟨σ', H', J', q⟩ := hsp; exact ⟨σ', H', J'.ofTry ok, q⟩
    | ret u => obtain ⟨v, σ', H', J', r, q⟩ := hsp; exact ⟨v, σ', H', J'.ofTry ok, r, q⟩
end
end My
namespace My
open PySem PySem.Spec PyProof.Rows L2
abbrev s_heard : Stmt := topS 18
theorem sc_heard : FnScope ["_law_ask", "error"] ["_law_ask"] (defScope s_heard) := ⟨rfl, rfl, rfl, by decide +kernel, rfl, by decide +kernel, by decide +kernel⟩
/-- what the top has written of the errors' classes -/
structure HTx (P : Program) (K : PySem.W.Frag) (mg : Str → Option Value) (CE CBadRatio fBadRatio CBadText fBadText : Addr) : Prop extends BI mg where
  gClip : mg "ClipError" = some (.ref CE)
  e_BadRatio : Sup.Err1 P K mg "BadRatio" "part" CBadRatio fBadRatio
  e_BadText : Sup.Err2 P K mg "BadText" "line" "word" CBadText fBadText
  x_BadRatio_BadRatio : PySem.W.exmOne K (.ref CBadRatio) (.ref CBadRatio) = some true
  x_BadText_BadRatio : PySem.W.exmOne K (.ref CBadText) (.ref CBadRatio) = some false
  x_BadText_BadText : PySem.W.exmOne K (.ref CBadText) (.ref CBadText) = some true
/-- what heard hands back of an error -/
def WHeard (CBadRatio CBadText : Addr) (Q : VK) : XK := fun cls d H => (∃ (dd : Addr) (v0 : V), cls = .ref CBadRatio ∧ d = some dd ∧ H dd = some (.xd [("part", v0)]) ∧ ∀ t, H t = none → Q (.ref t) (upd H t (.tup [.str "ratio", v0]))) ∨ ((∃ (dd : Addr) (v0 v1 : V), cls = .ref CBadText ∧ d = some dd ∧ H dd = some (.xd [("line", v0), ("word", v1)]) ∧ ∀ t, H t = none → Q (.ref t) (upd H t (.tup [.str "text", v0, v1]))) ∨ (False))
def THeard (CBadRatio CBadText : Addr) : (XK → Hp → VK → Prop) → Hp → VK → Prop := fun tl H Q => tl (WHeard CBadRatio CBadText Q) H fun v H' => [v].length ≤ sizeLine ∧ ∀ l, H' l = none → Q (.ref l) (upd H' l (.lst [v]))
theorem len2 {σ : List (Option V)} (h : σ.length = 2) : ∃ x0 x1, σ = [x0, x1] := by
  rcases σ with _ | ⟨x, _ | ⟨y, _ | ⟨z, r⟩⟩⟩
  · cases h
  · cases h
  · exact ⟨x, y, rfl⟩
  · simp at h
theorem heard_gives {X : Cx} {CE CBadRatio fBadRatio CBadText fBadText : Addr} (T : HTx X.prog X.K X.mg CE CBadRatio fBadRatio CBadText fBadText) {k : Nat} (hrX : Room (k + 1) X.A) (hgX : X.A.guards = some []) {g : Addr} {cdg : Value} {q : Str} :
    LamX.GivesTo X ["_law_ask", "error"] "_law_heard" (defScope s_heard) g cdg (defBody s_heard) "_law_ask" q (THeard CBadRatio CBadText) := by
  intro f c' s H Q tl act hc h
  refine ⟨_, (pss_one (ps_try_mix (X := (cxOf C8.CX0 X.prog X.w X.K X.mg X.base ["_law_ask", "error"] "_law_heard" (defScope s_heard) g cdg X.A X.stack s H C8.E0).nox)
    (tb := fun W D σ H => ∃ Ech : XK, (∀ cls d σ' H', Ech cls d H' → W cls d σ' H') ∧ σ[0]? = some (some (.ref f)) ∧ H c' = some (LamX.CodeO c' q) ∧ tl Ech H fun v H' => [v].length ≤ sizeLine ∧ ∀ l, H' l = none → D.rt (.ref l) (upd H' l (.lst [v])))
    (Wout := fun _ _ _ _ => False) rfl rfl sc_heard.nd LamX.takes0 (fun W pn xe tk _ => ?_) (Mixed.named (c := .ref CBadRatio) (i := 1) ⟨rfl, by decide, .inl T.e_BadRatio.gC⟩ rfl rfl (fun a oe cls d pn hz hf => pss_one (ps_ret (pe_tup (pa_cons pe_str (pa_cons (pe_xf T.e_BadRatio.rd T.e_BadRatio.nf hz hf (pv 1)) pa_nil))))) (Mixed.named (c := .ref CBadText) (i := 1) ⟨rfl, by decide, .inl T.e_BadText.gC⟩ rfl rfl (fun a oe cls d pn hz hf => pss_one (ps_ret (pe_tup (pa_cons pe_str (pa_cons (pe_xf T.e_BadText.rd T.e_BadText.nf hz hf (pv 1)) (pa_cons (pe_xf T.e_BadText.rd T.e_BadText.ng hz hf (pv 1)) pa_nil)))))) (Mixed.bare (c := .ref CE) ⟨rfl, by decide, .inl T.gClip⟩ (fun a oe cls d pn hz hf => pss_one (ps_ret (pe_tup (pa_cons pe_str pa_nil)))) Mixed.nil))))), ?_⟩
  · refine ⟨fun pins s' σ H' D I h' => ?_⟩
    obtain ⟨Ech, hW, h1, h2, h3⟩ := h'
    exact (pss_one (ps_ret (pe_lst (pa_cons (act W pn xe Ech _ _ tk hW) pa_nil)))).run pins s' σ H' D I ⟨h1, h2, h3⟩
  · refine ⟨WHeard CBadRatio CBadText Q, ?_, rfl, hc, h⟩
    intro cls d σ' H' hw
    rcases hw with ⟨dd, v0, rfl, rfl, hd, kk⟩ | ⟨dd, v0, v1, rfl, rfl, hd, kk⟩ | hw
    · refine ⟨true, T.x_BadRatio_BadRatio, fun _ a na hl => ?_, fun z => Bool.noConfusion z⟩
      obtain ⟨x0, x1, rfl⟩ := len2 hl
      exact ⟨_, rfl, rfl, rfl, dd, _, v0, rfl, hd, by simp [List.lookup], (by show 2 ≤ sizeLine; decide), fun t ht => kk t ht⟩
    · refine ⟨false, T.x_BadText_BadRatio, fun z => Bool.noConfusion z, fun _ => ⟨true, T.x_BadText_BadText, fun _ a na hl => ?_, fun z => Bool.noConfusion z⟩⟩
      obtain ⟨x0, x1, rfl⟩ := len2 hl
      exact ⟨_, rfl, rfl, rfl, dd, _, v0, rfl, hd, by simp [List.lookup], _, rfl, rfl, rfl, dd, _, v1, rfl, hd, rfl, (by show 3 ≤ sizeLine; decide), fun t ht => kk t ht⟩
    · exact hw.elim
/-- heard as it stands in the module -/
structure HeardAt (K : PySem.W.Frag) (mg : Str → Option Value) : Prop where
  ex : ∃ g fd, Fun K "_law_heard" "_law_heard" s_heard g fd ∧ mg "_law_heard" = some (.ref g) ∧ L2.Binds K fd ["_law_ask"] []
/-- heard(lambda: body) -/
theorem pe_heard {X : Cx} {CE CBadRatio fBadRatio CBadText fBadText : Addr} {TS : List (Addr × Str)} {c P : Addr} {k : Nat} {params : Arguments} {body : Expr} {scope : Scope} {t : XK → TE} {p lpos pos : Pos}
    (D : HeardAt X.K X.mg) (T : HTx X.prog X.K X.mg CE CBadRatio fBadRatio CBadText fBadText) (hgd : X.A.guards = some []) (hr : Room (k + 2) X.A) (TB : LamX.TabB X.base X.mg c P) (hcode : X.env.code = .ref c) (hmT : (P, X.env.qual ++ "<lambda>") ∈ TS) (hu : ∀ p ∈ TS, p.1 = P → p.2 = X.env.qual ++ "<lambda>")
    (hg : Gl X "_law_heard") (L : LamX.LamS X.env.scope scope) (hdef : defaultsOf params X.env = ([], []))
    (hbind : ∀ (q : Str) (cl : List (Str × Addr)) (pm cv ctv : Value), bindArgs (PySem.W.kla_fn "<lambda>" q params body scope cl pm cv ctv) ⟨[], []⟩ = pure [])
    (hbody : ∀ (A : Around) (outer : List Env) (s : Shared) (H : Hp) (E : XK) (f c' : Addr), Room k (A.deeper (LamX.lamEnv X scope s.heap.objs.size f c')) → PE (LamX.lamCx X A outer s H E scope f c') body (t E)) :
    PE X (.Call (.Name "_law_heard" p) [.Lambda params body scope lpos] [] pos) (LamX.tLam TS (THeard CBadRatio CBadText) t) := by
  obtain ⟨g, fd, F, hm, hb⟩ := D.ex
  have kp := F.kp
  obtain ⟨oc, od, kV, doc, pm, an, cdv, ct, osl, rfl, lk, hcd⟩ := F.ex
  exact LamX.pe_lamcall hg hm kp lk hcd hb sc_heard rfl (Or.inl rfl) (heard_gives (k := k) T (hr.mono (by omega)) hgd) TB hcode hmT hu hr L hdef hbind hbody (by decide) (by decide) (by decide)
end My
namespace My
open PySem PySem.Spec PyProof.Rows L2
abbrev s_lwhole : Stmt := topS 19
theorem sc_lwhole : FnScope ["_law_pen_here", "_law_number"] ["_law_pen_here"] (defScope s_lwhole) := ⟨rfl, rfl, rfl, by decide +kernel, rfl, by decide +kernel, by decide +kernel⟩
abbrev s_pair : Stmt := topS 20
theorem sc_pair : FnScope ["_law_pen_here", "_law_top", "_law_bottom"] ["_law_pen_here"] (defScope s_pair) := ⟨rfl, rfl, rfl, by decide +kernel, rfl, by decide +kernel, by decide +kernel⟩
abbrev s_lowest : Stmt := topS 21
theorem sc_lowest : FnScope ["_law_top", "_law_bottom", "_law_one", "_law_other", "_law_sign"] ["_law_top", "_law_bottom"] (defScope s_lowest) := ⟨rfl, rfl, rfl, by decide +kernel, rfl, by decide +kernel, by decide +kernel⟩
abbrev s_parts : Stmt := topS 22
theorem sc_parts : FnScope ["_law_ratio"] ["_law_ratio"] (defScope s_parts) := ⟨rfl, rfl, rfl, by decide +kernel, rfl, by decide +kernel, by decide +kernel⟩
def Wd (z : Int) : Prop := -(10 ^ 58) < z ∧ z < 10 ^ 58
theorem Wd.abs {z : Int} (h : Wd z) : z.natAbs < 2 ^ 200 := by
  obtain ⟨x1, x2⟩ := h
  have e : (10 : Int) ^ 58 = 10000000000000000000000000000000000000000000000000000000000 := rfl
  have e2 : (2 : Nat) ^ 200 = 1606938044258990275541962092341162602522202993782792835301376 := rfl
  omega
theorem log_of {z : Int} {k : Nat} (h : z.natAbs < 2 ^ k) (hk : 0 < k := by decide) (h2 : k ≤ 1920 := by decide) : z.natAbs.log2 < 1920 := Nat.lt_of_lt_of_le (PySem.Flt.log2_lt_of hk h) h2
theorem log9 {z : Int} {k : Nat} (h : z.natAbs < 2 ^ k) (hk : 0 < k := by decide) (h2 : k ≤ 1920 := by decide) : z.natAbs.log2 < 9000 := Nat.lt_trans (log_of h hk h2) (by decide)
theorem PenC.le8 {H : Hp} {pn cl : Addr} {n m : Nat} (h : PenC H pn cl n) (l : n ≤ m) : PenC H pn cl m := by
  obtain ⟨ns, a, r, e1, e2, h1, h2, h3⟩ := h
  exact ⟨ns, a, r, e1, e2, h1, h2, by omega⟩
def spWholeL : Sp := fun vs H Q _ => ∃ (pn cl : Addr) (n : Nat), vs = [.ref pn] ∧ PenC H pn cl n ∧ n < 90000 ∧ ∀ (z : Int) (H' : Hp), Wd z → PenC H' pn cl (n + 6) → But pn H H' → Q (.int z) H'
def spPairL : Sp := fun vs H Q _ => ∃ (pn cl : Addr) (n : Nat), vs = [.ref pn] ∧ PenC H pn cl n ∧ n < 80000 ∧ ∀ (t b : Int) (p : Addr) (H' : Hp), Wd t → Wd b → b ≠ 0 → H p = none → H' p = some (.tup [.int t, .int b]) → PenC H' pn cl (n + 13) → But pn H H' → Q (.ref p) H'
def spLowest : Sp := fun vs H Q _ => ∃ (t b : Int), vs = [.int t, .int b] ∧ b ≠ 0 ∧ b.natAbs.log2 < 9000 ∧ ∀ p, H p = none → Q (.ref p) (upd H p (.tup [.int (lowT t b), .int (lowB t b)]))
def two (a b : Int) : Str := (PyData.tuple [.int a, .int b]).shown
def spPartsL (C : Addr) : Sp := fun vs H Q _ => ∃ (p : Addr) (a b : Int), vs = [.ref p] ∧ RatAt C H p a b ∧ a.natAbs.log2 < 1920 ∧ b.natAbs.log2 < 1920 ∧ ∀ H', Same H H' → Q (.str (two a b)) H'
section
variable {P : Program} {w : World} {K : PySem.W.Frag} {mg : Str → Option Value} {base : Heap} {C CB fB CN : Addr}
theorem ok_lwhole {f : Addr} {fd : FuncData} (F : Fun K "_law_whole" "_law_whole" s_lwhole f fd) (T : BI mg) (D_draw : DefAt P w K mg base CX0 1 "_law_draw" ["_law_pen_here", "_law_many"] spDrawC)
    (D_pick : DefAt P w K mg base CX0 2 "_law_pick" ["_law_pen_here", "_law_some"] spPickC) : FnOk P w K mg base CX0 3 f fd ["_law_pen_here"] spWholeL := by
  refine F.ok sc_lwhole (fun vs H Q E h => ?_) (fun cdv A outer s H vs Q E hr h => ?_)
  · obtain ⟨pn, cl, n, rfl, _⟩ := h
    rfl
  · obtain ⟨pn, cl, n, rfl, hp, hn, k⟩ := h
    refine ⟨_, (pss_cons (ps_set (i := 1) sc_lwhole.nd rfl (Or.inl rfl) (My.pe_d D_pick (hr.mono (by decide)) (by rfl) pass0 (pa_cons (pv 0) (pa_cons (pe_lst (pa_cons (My.pe_d D_draw (hr.mono (by decide)) (by rfl) pass0 (pa_cons (pv 0) (pa_cons pe_int pa_nil))) (pa_cons (My.pe_d D_draw (hr.mono (by decide)) (by rfl) pass0 (pa_cons (pv 0) (pa_cons pe_int pa_nil))) (pa_cons (My.pe_d D_draw (hr.mono (by decide)) (by rfl) pass0 (pa_cons (pv 0) (pa_cons (pe_op op_pow pe_int pe_int) pa_nil))) pa_nil)))) pa_nil))))
      (pss_cons (ps_set (i := 1) sc_lwhole.nd rfl (Or.inl rfl) (My.pe_d D_pick (hr.mono (by decide)) (by rfl) pass0 (pa_cons (pv 0) (pa_cons (pe_lst (pa_cons (pv 1) (pa_cons (pv 1) (pa_cons (pv 1) (pa_cons (pe_op op_sub (pe_op op_pow pe_int pe_int) (pv 1)) (pa_cons (pe_op op_add (pe_op op_pow pe_int pe_int) (pv 1)) pa_nil)))))) pa_nil))))
      (pss_one (ps_ret (pe_ifExp (pt_cmpR op_eq (My.pe_d D_draw (hr.mono (by decide)) (by rfl) pass0 (pa_cons (pv 0) (pa_cons pe_int pa_nil))) pe_int (nomark _)) (pv 1) (pe_op op_sub pe_int (pv 1))))))), ?_⟩
    refine ⟨_, rfl, _, rfl, pn, cl, 4, n, rfl, by decide, by decide, hp, by omega, fun d1 H1 a1 b1 p1 u1 => ?_⟩
    refine ⟨_, rfl, pn, cl, 30, n + 1, rfl, by decide, by decide, p1, by omega, fun d2 H2 a2 b2 p2 u2 => ?_⟩
    refine ⟨_, rfl, _, _, rfl, rfl, ⟨by decide, by decide, by decide⟩, pn, cl, _, n + 2, rfl, by decide, by decide, p2, by omega, fun d3 H3 a3 b3 p3 u3 => ?_⟩
    refine ⟨(by show 3 ≤ sizeLine; decide), fun l hl => ?_⟩
    refine ⟨pn, cl, l, n + 3, _, rfl, upd_same, pen_ne p3.pen hl, (by show 0 < 3; decide), (by show 3 ≤ 1000; decide), p3.same (same_new hl), by omega, fun v H4 hv p4 u4 => ?_⟩
    obtain ⟨z, rfl, hz⟩ := mem_ints (zs := [d1, d2, d3]) hv
    have z0 : 0 ≤ z ∧ z < 10 ^ 6 := by
      have b3' : d3 < 10 ^ 6 := b3
      simp only [List.mem_cons, List.mem_nil_iff, or_false] at hz
      rcases hz with e | e | e <;> omega
    have uu : But pn H H4 := (((u1.trans u2).trans u3).trans (But.new hl)).trans u4
    refine ⟨_, rfl, _, rfl, _, rfl, _, rfl, _, _, rfl, rfl, ⟨by decide, by decide, by decide⟩, _, rfl, _, _, rfl, rfl, _, _, rfl, rfl, ⟨by decide, by decide, by decide⟩, _, rfl, _, _, rfl, rfl, (by show 5 ≤ sizeLine; decide), fun l2 hl2 => ?_⟩
    refine ⟨pn, cl, l2, n + 4, _, rfl, upd_same, pen_ne p4.pen hl2, (by show 0 < 5; decide), (by show 5 ≤ 1000; decide), p4.same (same_new hl2), by omega, fun v5 H5 hv5 p5 u5 => ?_⟩
    obtain ⟨y, rfl, hy⟩ := mem_ints (zs := [z, z, z, 10 ^ Int.toNat 30 - z, 10 ^ Int.toNat 55 + z]) hv5
    have y0 : 0 ≤ y ∧ y < 10 ^ 58 := by
      have e1 : (10 : Int) ^ Int.toNat 30 = 1000000000000000000000000000000 := by decide
      have e2 : (10 : Int) ^ Int.toNat 55 = 10000000000000000000000000000000000000000000000000000000 := by decide
      simp only [List.mem_cons, List.mem_nil_iff, or_false] at hy
      rw [e1, e2] at hy
      rcases hy with e | e | e | e | e <;> omega
    have uv : But pn H H5 := (uu.trans (But.new hl2)).trans u5
    refine ⟨_, rfl, pn, cl, 2, n + 5, rfl, by decide, by decide, p5, by omega, fun d6 H6 a6 b6 p6 u6 => ?_⟩
    refine ⟨rfl, _, rfl, ?_⟩
    refine ite2 (fun c => ?_) (fun c => ?_)
    · exact ⟨_, rfl, k _ H6 ⟨by omega, by omega⟩ p6 (uv.trans u6)⟩
    · exact ⟨_, rfl, _, _, rfl, rfl, k _ H6 ⟨by omega, by omega⟩ p6 (uv.trans u6)⟩
theorem ok_pair {f : Addr} {fd : FuncData} (F : Fun K "_law_pair" "_law_pair" s_pair f fd) (T : BI mg) (D_draw : DefAt P w K mg base CX0 1 "_law_draw" ["_law_pen_here", "_law_many"] spDrawC)
    (D_lwhole : DefAt P w K mg base CX0 3 "_law_whole" ["_law_pen_here"] spWholeL) : FnOk P w K mg base CX0 4 f fd ["_law_pen_here"] spPairL := by
  refine F.ok sc_pair (fun vs H Q E h => ?_) (fun cdv A outer s H vs Q E hr h => ?_)
  · obtain ⟨pn, cl, n, rfl, _⟩ := h
    rfl
  · obtain ⟨pn, cl, n, rfl, hp, hn, k⟩ := h
    refine ⟨_, (pss_cons (ps_par (i := 1) (j := 2) (by rfl) sc_pair.nd rfl rfl (by decide) rfl rfl (pa_cons (My.pe_d D_lwhole (hr.mono (by decide)) (by rfl) pass0 (pa_cons (pv 0) pa_nil)) (pa_cons (My.pe_d D_lwhole (hr.mono (by decide)) (by rfl) pass0 (pa_cons (pv 0) pa_nil)) pa_nil)) (by rfl))
      (C8.pss_cut (ps_if (pt_cmpR op_eq (My.pe_d D_draw (hr.mono (by decide)) (by rfl) pass0 (pa_cons (pv 0) (pa_cons pe_int pa_nil))) pe_int (nomark _)) (pss_one (ps_set (i := 2) sc_pair.nd rfl (Or.inl rfl) pe_int)) pss_nil)
      (pss_one (ps_ret (pe_tup (pa_cons (pv 1) (pa_cons (pe_ifExp (pt_cmpR op_ne (pv 2) pe_int (nomark _)) (pv 2) pe_int) pa_nil))))))), ?_⟩
    refine ⟨_, rfl, pn, cl, n, rfl, hp, by omega, fun t H1 wt p1 u1 => ?_⟩
    refine ⟨_, rfl, pn, cl, n + 6, rfl, p1, by omega, fun b H2 wb p2 u2 => ⟨_, _, rfl, ?_⟩⟩
    refine ⟨fun σ Hz => ∃ b, σ = [some (.ref pn), some (.int t), some (.int b)] ∧ Wd b ∧ PenC Hz pn cl (n + 13) ∧ But pn H Hz, ?_, ?_⟩
    · refine ⟨_, rfl, pn, cl, 3, n + 12, rfl, by decide, by decide, p2, by omega, fun d3 H3 a3 b3 p3 u3 => ⟨rfl, _, rfl, ?_⟩⟩
      refine ite2 (fun c => ?_) (fun c => ?_)
      · exact ⟨1, rfl, ⟨by decide, by decide⟩, p3, (u1.trans u2).trans u3⟩
      · exact ⟨b, rfl, wb, p3, (u1.trans u2).trans u3⟩
    · rintro σ Hz ⟨b, rfl, wb, pz, uz⟩
      refine ⟨_, rfl, _, rfl, rfl, _, rfl, ?_⟩
      have fin : ∀ (c : Int), Wd c → c ≠ 0 → ∀ p, Hz p = none → Q (.ref p) (upd Hz p (.tup [.int t, .int c])) := fun c wc c0 p hpn => by
        have ne : p ≠ pn := pen_ne pz.pen hpn
        have hn0 : H p = none := by
          cases e : H p with
          | none => rfl
          | some o =>
            rw [uz p o e ne] at hpn
            cases hpn
        exact k t c p _ wt wc c0 hn0 upd_same (pz.same (same_new hpn)) (uz.trans (But.new hpn))
      refine ite2 (fun c => ?_) (fun c => ?_)
      · refine ⟨_, rfl, (by show 2 ≤ sizeLine; decide), fin b wb ?_⟩
        rintro rfl
        simp at c
      · exact ⟨(by show 2 ≤ sizeLine; decide), fin 6 ⟨by decide, by decide⟩ (by decide)⟩
theorem ok_lowest {f : Addr} {fd : FuncData} (F : Fun K "_law_lowest" "_law_lowest" s_lowest f fd) (T : BI mg) : FnOk P w K mg base CX0 1 f fd ["_law_top", "_law_bottom"] spLowest := by
  refine F.ok sc_lowest (fun vs H Q E h => ?_) (fun cdv A outer s H vs Q E hr h => ?_)
  · obtain ⟨t, b, rfl, _⟩ := h
    rfl
  · obtain ⟨t, b, rfl, b0, lb, q⟩ := h
    refine ⟨_, (pss_cons (ps_par (i := 2) (j := 3) (by rfl) sc_lowest.nd rfl rfl (by decide) rfl rfl (pa_cons (pe_callB call_abs (by rfl) T.z_abs boot_abs (pa_cons (pv 0) pa_nil)) (pa_cons (pe_callB call_abs (by rfl) T.z_abs boot_abs (pa_cons (pv 1) pa_nil)) pa_nil)) (by rfl))
      (pss_cons (ps_while PassesOwn.never (pt_cmpR op_ne (pv 3) pe_int (nomark _)) (pss_one (ps_par (i := 2) (j := 3) (by rfl) sc_lowest.nd rfl rfl (by decide) rfl rfl (pa_cons (pv 3) (pa_cons (pe_op op_modN (pe_callTy call_int1 (by rfl) T.z_int boot_int (pa_cons (pv 2) pa_nil)) (pv 3)) pa_nil)) (by rfl))))
      (pss_cons (ps_set (i := 4) sc_lowest.nd rfl (Or.inl rfl) (pe_ifExp (pt_cmpR op_gt (pv 1) pe_int (nomark _)) pe_int (pe_un un_neg pe_int)))
      (pss_one (ps_ret (pe_tup (pa_cons (pe_op My.op_fdivX (pe_op op_mul (pv 4) (pv 0)) (pv 2)) (pa_cons (pe_op My.op_fdivX (pe_op op_mul (pv 4) (pv 1)) (pv 2)) pa_nil)))))))), ?_⟩
    refine ⟨_, rfl, t, rfl, _, rfl, b, rfl, _, _, rfl, ?_⟩
    refine while_by (fun σ Hz => Hz = H ∧ ∃ x y : Int, σ = [some (.int t), some (.int b), some (.int x), some (.int y), none] ∧ 0 ≤ x ∧ 0 ≤ y ∧ Int.gcd x y = Int.gcd t b) (fun σ _ => match σ with | [_, _, _, some (.int y), _] => y.toNat | _ => 0) ?_ ?_ ?_
    · exact ⟨rfl, _, _, rfl, by split <;> omega, by split <;> omega, gcd_absI t b⟩
    · rintro σ Hz ⟨rfl, x, y, rfl, hx, hy, hg⟩
      refine ⟨_, rfl, rfl, _, rfl, ?_⟩
      refine ite2 (fun c => ?_) (fun c => ?_)
      · have y0 : y ≠ 0 := by
          rintro rfl
          simp at c
        obtain ⟨m1, m2⟩ := fmod_bd (a := x) (b := y) (by omega)
        refine ⟨_, rfl, _, rfl, .inl ⟨_, rfl, _, rfl, _, _, rfl, rfl, y0, _, _, rfl, ⟨rfl, y, x.fmod y, rfl, hy, m1, ?_⟩, ?_⟩⟩
        · rw [gcd_turn hx hy]
          exact hg
        · show (x.fmod y).toNat < y.toNat
          omega
      · have y0 : y = 0 := by
          by_cases z : y = 0
          · exact z
          · exfalso
            apply c
            simp [z]
        subst y0
        have e : x = (Int.gcd t b : Int) := by
          rw [← hg]
          show x = ((Nat.gcd x.natAbs 0 : Nat) : Int)
          rw [Nat.gcd_zero_right]
          omega
        subst e
        have g0 := gcd_posI (t := t) b0
        have gl : ((Int.gcd t b : Int)).natAbs.log2 < 9000 := log_le (by rw [Int.natAbs_natCast]; exact gcd_le_r b0) lb (by omega)
        have e1 := sgnT (t := t) b0
        have e2 := sgnB (t := t) b0
        refine ⟨_, rfl, _, _, rfl, rfl, _, rfl, ?_⟩
        refine ite2 (fun c => ?_) (fun c => ?_)
        · rw [if_pos (of_decide_eq_true c)] at e1 e2
          refine ⟨_, rfl, _, rfl, _, _, rfl, rfl, .inl ⟨by decide, by decide⟩, _, rfl, _, _, rfl, rfl, ⟨by omega, gl⟩, _, rfl, _, rfl, _, _, rfl, rfl, .inl ⟨by decide, by decide⟩, _, rfl, _, _, rfl, rfl, ⟨by omega, gl⟩, (by show 2 ≤ sizeLine; decide), fun p hp => ?_⟩
          have z := q p hp
          rw [← e1, ← e2] at z
          exact z
        · rw [if_neg (fun z => c (decide_eq_true z))] at e1 e2
          refine ⟨_, rfl, _, rfl, _, rfl, _, _, rfl, rfl, .inl ⟨by decide, by decide⟩, _, rfl, _, _, rfl, rfl, ⟨by omega, gl⟩, _, rfl, _, rfl, _, _, rfl, rfl, .inl ⟨by decide, by decide⟩, _, rfl, _, _, rfl, rfl, ⟨by omega, gl⟩, (by show 2 ≤ sizeLine; decide), fun p hp => ?_⟩
          have z := q p hp
          rw [← e1, ← e2] at z
          exact z
    · rintro σ Hz Q1 Q2 hm ⟨v, e, h1, h2⟩
      exact ⟨v, e, h1, by obtain ⟨b, e2, h3⟩ := h2; exact ⟨b, e2, hm _ _ h3⟩⟩
theorem ok_parts {f : Addr} {fd : FuncData} (F : Fun K "_law_parts" "_law_parts" s_parts f fd) (T : RTx P K mg C CB fB CN) : FnG P w K mg base CX0 1 f fd ["_law_ratio"] (spPartsL C) := by
  refine okG F sc_parts (fun vs H Q E h => ?_) (fun cdv A outer s H vs Q E hf hgd hr h => ?_)
  · obtain ⟨p, a, b, rfl, _⟩ := h
    rfl
  · obtain ⟨p, a, b, rfl, hp, ha, hb, k⟩ := h
    refine ⟨_, (pss_one (ps_ret (pe_ifExp (pt_val (pe_callB call_isi (by rfl) T.z_isinstance boot_isinstance (pa_cons (pv 0) (pa_cons (pe_glob (v := .ref C) (by rfl) T.gR rfl) pa_nil)))) (pe_callB (My.call_repr hgd hr) (by rfl) T.z_repr boot_repr (pa_cons (pe_tup (pa_cons (pe_fld (pv 0) rfl) (pa_cons (pe_fld (pv 0) rfl) pa_nil))) pa_nil)) pe_str))), ?_⟩
    obtain ⟨dx, e⟩ := id hp
    refine ⟨_, rfl, _, _, _, _, true, rfl, .own _, T.ty hp, T.me, _, rfl, iteT ?_⟩
    refine ⟨_, rfl, p, C, dx, _, _, rfl, e, T.cl, T.nT, rfs_top _ _, _, rfl, p, C, dx, _, _, rfl, e, T.cl, T.nB, rfs_bot _ _, (by show 2 ≤ sizeLine; decide), fun t ht => ?_⟩
    obtain ⟨i1, i2, i3, i4⟩ := two_show (K := K) (H := upd H t (.tup [.int a, .int b])) (l := t) ha hb upd_same
    exact ⟨_, _, rfl, i1, i2, i3, i4, k _ (same_new ht)⟩
end
end My
set_option pp.maxSteps 1500
set_option pp.deepTerms.threshold 8
/-! ### the law's texts -/
namespace My
open PySem PySem.Spec PyProof.Rows L2 TX
abbrev s_lline : Stmt := topS 27
theorem sc_lline : FnScope ["_law_pair_here"] ["_law_pair_here"] (defScope s_lline) := ⟨rfl, rfl, rfl, by decide +kernel, rfl, by decide +kernel, by decide +kernel⟩
abbrev s_isline : Stmt := topS 28
theorem sc_isline : FnScope ["_law_page", "_law_parts_here", "_law_top", "_law_part", "_law_sign", "_law_bottom"] ["_law_page"] (defScope s_isline) := ⟨rfl, rfl, rfl, by decide +kernel, rfl, by decide +kernel, by decide +kernel⟩
def spLlineR (K : PySem.W.Frag) : Sp := fun vs H Q _ => ∃ (t : Addr) (a b : Int), vs = [.ref t] ∧ SqT K H t [.int a, .int b] ∧ Sm a ∧ Sm b ∧ ∀ z : Str, TL.tl z = RT.txt a b → Q (.str z) H
def spIsline : Sp := fun vs H Q _ => ∃ x : Str, vs = [.str x] ∧ x.length ≤ 5000 ∧ ∀ H', Same H H' → Q (.bl (RT.readR (TL.tl x)).isSome) H'
theorem fil_t {c : Nat} (e : isDig c = true) : [c].filter (fun c => !isDig c) = [] := by
  rw [List.filter_cons, e]
  rfl
theorem fil_f {c : Nat} (e : isDig c = false) : [c].filter (fun c => !isDig c) = [c] := by
  rw [List.filter_cons, e]
  rfl
theorem dp_strs9 {K : PySem.W.Frag} {H : Hp} : ∀ zs : List Str, DpAll K H (zs.map V.str) (zs.map PyData.str)
  | [] => .nil
  | z :: zs => .cons (.str z) (dp_strs9 zs)
section
variable {P : Program} {w : World} {K : PySem.W.Frag} {mg : Str → Option Value} {base : Heap} {C CB fB CN CT fT : Addr} {tM : Tok}
theorem ok_lline {f : Addr} {fd : FuncData} (F : Fun K "_law_line" "_law_line" s_lline f fd) (T : RTy P K mg C CB fB CN CT fT tM) : FnOk P w K mg base CX0 1 f fd ["_law_pair_here"] (spLlineR K) := by
  refine F.ok sc_lline (fun vs H Q E h => ?_) (fun cdv A outer s H vs Q E hr h => ?_)
  · obtain ⟨t, a, b, rfl, _⟩ := h
    rfl
  · obtain ⟨t, a, b, rfl, ht, sa, sb, k⟩ := h
    refine ⟨_, (pss_one (ps_ret (pe_ifExp (pt_cmpR op_eq (pe_ix ix_tup (pv 0) pe_int (fun _ _ => rfl)) pe_int (nomark _)) (pe_callTy call_str_int (by rfl) T.z_str boot_str (pa_cons (pe_ix ix_tup (pv 0) pe_int (fun _ _ => rfl)) pa_nil)) (pe_op op_add_str (pe_op op_add_str (pe_callTy call_str_int (by rfl) T.z_str boot_str (pa_cons (pe_ix ix_tup (pv 0) pe_int (fun _ _ => rfl)) pa_nil)) pe_str) (pe_callTy call_str_int (by rfl) T.z_str boot_str (pa_cons (pe_ix ix_tup (pv 0) pe_int (fun _ _ => rfl)) pa_nil)))))), ?_⟩
    have es : TL.tl ("/" : Str) = [47] := by decide +kernel
    have a0 : atI [V.int a, V.int b] (0 : Int) = some (.int a) := at0
    have a1 : atI [V.int a, V.int b] (1 : Int) = some (.int b) := at1
    have la := num_len sa.log
    have lb := num_len sb.log
    have l1 : ("/" : Str).length = 1 := rfl
    refine ⟨_, rfl, t, _, _, _, rfl, rfl, ht, a1, rfl, _, rfl, ite2 (fun c => ?_) (fun c => ?_)⟩
    · have c' : b = 1 := V.int.inj (of_decide_eq_true c)
      exact ⟨_, rfl, t, _, _, _, rfl, rfl, ht, a0, a, rfl, sa.log, k _ (by unfold RT.txt; rw [if_pos c', tl_int])⟩
    · have c' : ¬ b = 1 := fun z => c (decide_eq_true (by rw [z]))
      refine ⟨_, rfl, t, _, _, _, rfl, rfl, ht, a0, a, rfl, sa.log, _, _, rfl, rfl, (by rw [sizeLine_eq]; omega), _, rfl, t, _, _, _, rfl, rfl, ht, a1, b, rfl, sb.log, _, _, rfl, rfl, (by rw [app_len, sizeLine_eq]; omega), k _ ?_⟩
      unfold RT.txt
      rw [if_neg c', TL.tl_append, TL.tl_append, es, tl_int, tl_int, List.append_assoc]
theorem ok_isline {f : Addr} {fd : FuncData} (F : Fun K "_law_is_line" "_law_is_line" s_isline f fd) (T : RTy P K mg C CB fB CN CT fT tM) (D_lowest : DefAt P w K mg base CX0 1 "_law_lowest" ["_law_top", "_law_bottom"] spLowest) : FnOk P w K mg base CX0 2 f fd ["_law_page"] spIsline := by
  refine F.ok sc_isline (fun vs H Q E h => ?_) (fun cdv A outer s H vs Q E hr h => ?_)
  · obtain ⟨x, rfl, _⟩ := h
    rfl
  · obtain ⟨x, rfl, hx, k⟩ := h
    refine ⟨_, (pss_cons (ps_set (i := 1) sc_isline.nd rfl (Or.inl rfl) (pe_split (pv 0) pe_str))
      (C8.pss_cut (ps_set (i := 2) sc_isline.nd rfl (Or.inl rfl) (pe_ifExp (pt_cmpR op_eq (pe_slice sl_str (pe_ix ix_list (pv 1) pe_int (fun _ _ => rfl)) po_none (po_some pe_int)) pe_str (nomark _)) (pe_slice sl_str (pe_ix ix_list (pv 1) pe_int (fun _ _ => rfl)) (po_some pe_int) po_none) (pe_ix ix_list (pv 1) pe_int (fun _ _ => rfl))))
      (pss_cons (ps_for PassesOwn.never rfl (pi_list (pe_op op_cat (pe_lst (pa_cons (pv 2) pa_nil)) (pe_slice sl_list (pv 1) (po_some pe_int) po_none))) (pg_name (i := 3) sc_isline.nd rfl (Or.inl rfl)) (pss_cons (ps_if (PW.pt (pw_or (pt_not (pt_chain op_le op_le pe_int (pe_callB call_len (by rfl) T.z_len PySem.boot_len (pa_cons (pv 3) pa_nil)) pe_int)) (pw_or1 (pt_cmpR (My.op_neP hr.units) (pe_lc (own := [("_law_sign", 4)]) rfl sc_isline.nd (pi_str (pv 3)) (blkOk_by (by show blkC ["_law_page", "_law_parts_here", "_law_top", "_law_part", "_law_sign", "_law_bottom"] (defScope s_isline) _ _ = true; decide +kernel)) (fun _ _ _ _ _ => (pg_name (i := 4) sc_isline.nd rfl (Or.inl rfl))) (fun _ _ _ _ _ => (pts_one (pt_cmpR op_notIn_sign (pv 4) pe_str (by rfl)))) (fun _ _ _ _ _ => (pv 4))) (pe_lst pa_nil) (nomark _))))) (pss_one (ps_ret pe_bl)) pss_nil)
      (pss_one (ps_if (PW.pt (pw_and (pt_cmpR op_ne (pv 3) pe_str (nomark _)) (pw_and1 (pt_cmpR op_eq (pe_ix ix_str (pv 3) pe_int (fun _ _ => rfl)) pe_str (nomark _))))) (pss_one (ps_ret pe_bl)) pss_nil))))
      (pss_cons (ps_if (PW.pt (pw_or (pt_cmpR op_gt (pe_callB call_len (by rfl) T.z_len PySem.boot_len (pa_cons (pv 1) pa_nil)) pe_int (nomark _)) (pw_or1 (pt_cmpR op_eq (pv 0) pe_str (nomark _))))) (pss_one (ps_ret pe_bl)) pss_nil)
      (pss_cons (ps_if (pt_cmpR op_eq (pe_callB call_len (by rfl) T.z_len PySem.boot_len (pa_cons (pv 1) pa_nil)) pe_int (nomark _)) (pss_one (ps_ret pe_bl)) pss_nil)
      (pss_cons (ps_set (i := 5) sc_isline.nd rfl (Or.inl rfl) (pe_callTy call_int_str (by rfl) T.z_int boot_int (pa_cons (pe_ix ix_list (pv 1) pe_int (fun _ _ => rfl)) pa_nil)))
      (pss_one (ps_ret (pe_and (pe_cmpR op_gt (pv 5) pe_int (nomark _)) (pe_one (pe_cmpR (op_eqD hr.units) (My.pe_d D_lowest (hr.mono (by decide)) (by rfl) pass0 (pa_cons (pe_callTy call_int_str (by rfl) T.z_int boot_int (pa_cons (pv 2) pa_nil)) (pa_cons (pv 5) pa_nil))) (pe_tup (pa_cons (pe_callTy call_int_str (by rfl) T.z_int boot_int (pa_cons (pv 2) pa_nil)) (pa_cons (pv 5) pa_nil))) (nomark _)))))))))))), ?_⟩
    have e47 : TL.tl ("/" : Str) = [47] := by decide +kernel
    rw [← RT.isL_read, ← split1_spl (x := x) (y := "/") (s := 47) e47 (by decide +kernel)] at k
    obtain ⟨q0, qs, eq⟩ := split1_ne (x := x) e47 (by decide +kernel)
    obtain ⟨n1, n2, n3⟩ := split1_len (x := x) e47 (by decide +kernel)
    refine ⟨_, rfl, ⟨x, rfl⟩, x, "/", rfl, rfl, by decide +kernel, (by rw [sizeLine_eq]; omega), fun l hl => ?_⟩
    have L : (upd H l (.lst ((Txt.split x "/").map V.str))) l = some (.lst ((Txt.split x "/").map V.str)) := upd_same
    have s1 := same_new (o := .lst ((Txt.split x "/").map V.str)) hl
    generalize upd H l (.lst ((Txt.split x "/").map V.str)) = H1 at L s1
    generalize Txt.split x "/" = ws at k eq n1 n2 n3 L
    obtain ⟨w0, rest, rfl⟩ : ∃ w0 rest, ws = w0 :: rest := by
      cases ws with
      | nil => cases eq
      | cons a r => exact ⟨a, r, rfl⟩
    have l0 : w0.length ≤ 5000 := Nat.le_trans (n3 w0 List.mem_cons_self) hx
    have e45 : TL.tl ("-" : Str) = [45] := by decide +kernel
    have ea : atI ((w0 :: rest).map V.str) (0 : Int) = some (.str w0) := at0
    refine ⟨fun σ Hz => ∃ tp : Str, σ = [some (.str x), some (.ref l), some (.str tp), none, none, none] ∧ tp.length ≤ 5000 ∧ TL.tl tp = RT.top0 (TL.tl w0) ∧ Same H1 Hz, ?_, ?_⟩
    · refine ⟨_, rfl, l, _, _, _, rfl, rfl, SqL.of L, ea, 1, rfl, w0, rfl, sl5 l0, rfl, _, rfl, ?_⟩
      rw [str_eq, cut_to1, e45]
      refine ite2 (fun c => ?_) (fun c => ?_)
      · refine ⟨_, rfl, l, _, _, _, rfl, rfl, SqL.of L, ea, 1, rfl, w0, rfl, sl5 l0, _, rfl, Nat.le_trans (cutS_length ..) l0, ?_, fun _ _ e => e⟩
        rw [cut_from1]
        unfold RT.top0
        rw [if_pos (show RT.neg (TL.tl w0) = true from c)]
      · refine ⟨_, rfl, l, _, _, _, rfl, rfl, SqL.of L, ea, w0, rfl, l0, ?_, fun _ _ e => e⟩
        unfold RT.top0
        rw [if_neg (show ¬ RT.neg (TL.tl w0) = true from c)]
    rintro σ H2 ⟨tp, rfl, ltp, etp, s2⟩
    have L2 := s2 _ _ L
    have t2 := s1.trans s2
    refine ⟨_, rfl, (by show 1 ≤ sizeLine; decide), fun l3 h3 => ?_⟩
    have s3 := same_new (o := .lst [.str tp]) h3
    refine ⟨_, rfl, 1, rfl, l, _, rfl, SqL.of (s3 _ _ L2), fun l4 h4 => ?_⟩
    have ed : cutV ((w0 :: rest).map V.str) (some 1) none = rest.map V.str := by
      show (((w0 :: rest).map V.str).drop (HT.sIx ((w0 :: rest).map V.str).length 0 (some ((1 : Nat) : Int)))).take (HT.sIx ((w0 :: rest).map V.str).length ((w0 :: rest).map V.str).length none - HT.sIx ((w0 :: rest).map V.str).length 0 (some ((1 : Nat) : Int))) = _
      rw [HT.sIx_nat, HT.sIx_none, List.length_map, List.length_cons, Nat.min_eq_left (by omega)]
      show (rest.map V.str).take (rest.length + 1 - 1) = _
      rw [Nat.add_sub_cancel, List.take_of_length_le (by rw [List.length_map]; exact Nat.le_refl _)]
    rw [ed]
    have s4 := s3.trans (same_new (o := .lst (rest.map V.str)) h4)
    have M3 := same_new (o := .lst (rest.map V.str)) h4 _ _ (upd_same (H := H2) (a := l3) (o := .lst [.str tp]))
    have M4 : (upd (upd H2 l3 (.lst [.str tp])) l4 (.lst (rest.map V.str))) l4 = some (.lst (rest.map V.str)) := upd_same
    generalize upd (upd H2 l3 (.lst [.str tp])) l4 (.lst (rest.map V.str)) = H4 at s4 M3 M4
    have n1 : rest.length + 1 ≤ x.length + 1 := n1
    refine ⟨l3, l4, _, _, rfl, rfl, M3, M4, (by rw [List.length_map, sizeLine_eq]; show 1 + _ ≤ _; omega), fun l5 h5 => ⟨l5, rfl, ⟨_, SqL.of upd_same⟩, ?_⟩⟩
    have eap : [V.str tp] ++ rest.map V.str = (tp :: rest).map V.str := rfl
    rw [eap]
    have s5 := s4.trans (same_new (o := .lst ((tp :: rest).map V.str)) h5)
    have M5 : (upd H4 l5 (.lst ((tp :: rest).map V.str))) l5 = some (.lst ((tp :: rest).map V.str)) := upd_same
    generalize upd H4 l5 (.lst ((tp :: rest).map V.str)) = H5 at s5 M5
    have t5 := t2.trans s5
    have badk : ∀ y ∈ tp :: rest, dg (TL.tl y) = none → ∀ Hz, Same H Hz → Q (.bl false) Hz := fun y hy ey Hz sz => by
      have z := k Hz sz
      have ef : RT.isL ((w0 :: rest).map TL.tl) (TL.tl x) = false := by
        show (if ((RT.top0 (TL.tl w0) :: rest.map TL.tl).all fun w => (dg w).isSome) = true then _ else false) = false
        rw [if_neg]
        intro al
        rw [List.all_eq_true] at al
        rcases List.mem_cons.mp hy with rfl | hy
        · have := al (RT.top0 (TL.tl w0)) List.mem_cons_self
          rw [← etp, ey] at this
          cases this
        · have := al (TL.tl y) (List.mem_cons_of_mem _ (List.mem_map_of_mem (f := TL.tl) hy))
          rw [ey] at this
          cases this
      rw [ef] at z
      exact z
    refine for_list (xs := (tp :: rest).map V.str) (fun i σ Hz => ∃ v3 v4, σ = [some (.str x), some (.ref l), some (.str tp), v3, v4, none] ∧ (∀ y ∈ (tp :: rest).take i, (dg (TL.tl y)).isSome = true) ∧ Same H5 Hz) ⟨none, none, rfl, (fun y hy => absurd hy (by simp)), fun _ _ e => e⟩ (fun i σ Hz _ ⟨_, _, _, _, e⟩ => SqL.of (e _ _ M5)) ?_ ?_
    · rintro i v σ Hz hv ⟨v3, v4, rfl, al, sz⟩
      obtain ⟨y, hy, rfl⟩ : ∃ y, (tp :: rest)[i]? = some y ∧ V.str y = v := by
        rw [List.getElem?_map] at hv
        cases g : (tp :: rest)[i]? with
        | none => rw [g] at hv; cases hv
        | some y =>
          rw [g] at hv
          exact ⟨y, rfl, Option.some.inj hv⟩
      have ly : y.length ≤ 5000 := by
        rcases List.mem_cons.mp (List.mem_of_getElem? hy) with z | z
        · rw [z]; exact ltp
        · exact Nat.le_trans (n3 y (List.mem_cons_of_mem _ z)) hx
      have lx := TL.len_tl y
      have none_of : dg (TL.tl y) = none → ∀ Hy, Same Hz Hy → Q (.bl false) Hy := fun e Hy s => badk y (List.mem_of_getElem? hy) e Hy ((t5.trans sz).trans s)
      have dn : okD (TL.tl y) = false → dg (TL.tl y) = none := fun e => by
        unfold dg
        rw [if_neg (by rw [e]; decide)]
      have bad1 : ¬ (1 ≤ y.length ∧ y.length ≤ 60) → okD (TL.tl y) = false := fun z => by
        rw [Bool.eq_false_iff]
        intro w
        obtain ⟨y1, y2, _⟩ := okD_all w
        omega
      have good : (dg (TL.tl y)).isSome = true → ∀ (v3' v4' : Option V) Hy, Same Hz Hy → ∃ v3 v4, [some (V.str x), some (V.ref l), some (V.str tp), v3', v4', none] = [some (.str x), some (.ref l), some (.str tp), v3, v4, none] ∧ (∀ z ∈ (tp :: rest).take (i + 1), (dg (TL.tl z)).isSome = true) ∧ Same H5 Hy := fun e v3' v4' Hy s => by
        refine ⟨v3', v4', rfl, fun z hz => ?_, sz.trans s⟩
        rw [List.take_add_one, hy] at hz
        rcases List.mem_append.mp hz with hz | hz
        · exact al z hz
        · have hz : z ∈ [y] := hz
          rw [List.mem_singleton.mp hz]
          exact e
      refine ⟨_, rfl, _, _, rfl, ⟨sl5 ly, rfl⟩, _, _, rfl, rfl, ?_⟩
      refine ⟨_, rfl, ite2 (fun c1 => ?_) (fun c1 => ?_)⟩
      case refine_2 => exact ⟨_, rfl, iteT (none_of (dn (bad1 fun z => c1 (decide_eq_true (by omega)))) Hz fun _ _ e => e)⟩
      refine ⟨_, _, rfl, rfl, _, rfl, ite2 (fun c2 => ?_) (fun c2 => ?_)⟩
      · refine iteT (none_of (dn (bad1 fun z => ?_)) Hz fun _ _ e => e)
        rw [decide_eq_true (show (y.length : Int) ≤ 60 by omega)] at c2
        exact absurd c2 (by decide)
      have y1 : 1 ≤ y.length := by
        have := of_decide_eq_true c1
        omega
      have y2 : y.length ≤ 60 := by
        by_cases z : (y.length : Int) ≤ 60
        · omega
        · rw [decide_eq_false z] at c2
          exact absurd rfl c2
      refine ⟨_, rfl, y, rfl, fun D hD => ?_⟩
      have fl : ∀ i, ((((TL.tl y).take i).filter fun c => !isDig c).length ≤ i) := fun i => Nat.le_trans (List.length_filter_le _ _) (by rw [List.length_take]; exact Nat.min_le_left _ _)
      refine lc_it walk_str (fun i Hh => Hh D = some (.lst ((((TL.tl y).take i).filter fun c => !isDig c).map fun c => V.str ⟨#[c]⟩)) ∧ Same Hz Hh) ⟨upd_same, same_new hD⟩ (fun _ _ _ _ => trivial) ?_ ?_
      · rintro i v Hh H' hi ⟨g1, g2⟩ ⟨rfl, c, hc, rfl⟩
        have hc' : (TL.tl y)[i]? = some c := by
          rw [← hc]
          exact Array.getElem?_toList
        refine ⟨rfl, _, rfl, c, _, rfl, rfl, _, rfl, ?_⟩
        rw [dig_mem]
        cases e : isDig c with
        | true =>
          refine iteF ⟨?_, g2⟩
          rw [take1 hc', List.filter_append, fil_t e, List.append_nil]
          exact g1
        | false =>
          refine iteT ⟨_, rfl, _, g1, ?_, ?_, ?_⟩
          · have := fl i
            have : i < y.length := hi
            rw [List.length_map, sizeLine_eq]
            omega
          · rw [take1 hc', List.filter_append, fil_f e, List.map_append]
            exact upd_same
          · intro b o e
            rw [upd_ne (ne_of_none e hD)]
            exact g2 _ _ e
      rintro Hh ⟨g1, g2⟩
      have el : (TL.tl y).take y.cps.size = TL.tl y := List.take_of_length_le (by rw [← lx]; exact Nat.le_refl _)
      rw [el] at g1
      refine ⟨(by show 0 ≤ sizeLine; decide), fun l6 h6 => ?_⟩
      have s6 := g2.trans (same_new (o := .lst []) h6)
      have g1 := same_new (o := .lst []) h6 _ _ g1
      have em : ((TL.tl y).filter fun c => !isDig c).map (fun c => V.str ⟨#[c]⟩) = (((TL.tl y).filter fun c => !isDig c).map fun c => (⟨#[c]⟩ : Str)).map V.str := by rw [List.map_map]; rfl
      rw [em] at g1
      refine ⟨.list ((((TL.tl y).filter fun c => !isDig c).map fun c => (⟨#[c]⟩ : Str)).map PyData.str), .list [], .lst (SqL.of g1) (dp_strs9 _), .lst (SqL.of upd_same) .nil, plain_strs _, rfl, Nat.le_trans (Nat.min_le_right _ _) (by decide), _, rfl, ?_⟩
      have eo : okD (TL.tl y) = (TL.tl y).all isDig := by
        unfold okD
        rw [decide_eq_true (show 1 ≤ (TL.tl y).length by omega), decide_eq_true (show (TL.tl y).length ≤ 60 by omega), Bool.true_and, Bool.true_and]
      have ev : (!PyData.eqv (.list ((((TL.tl y).filter fun c => !isDig c).map fun c => (⟨#[c]⟩ : Str)).map PyData.str)) (.list [])) = !(TL.tl y).all isDig := by
        congr 1
        cases e : (TL.tl y).all isDig with
        | true =>
          have : (TL.tl y).filter (fun c => !isDig c) = [] := List.filter_eq_nil_iff.mpr fun c hc z => by
            rw [List.all_eq_true] at e
            rw [e c hc] at z
            exact absurd z (by decide)
          rw [this]
          rfl
        | false =>
          cases g : (TL.tl y).filter (fun c => !isDig c) with
          | nil =>
            exfalso
            rw [Bool.eq_false_iff] at e
            refine e (List.all_eq_true.mpr fun c hc => ?_)
            have := List.filter_eq_nil_iff.mp g c hc
            cases z : isDig c with
            | true => rfl
            | false => exact absurd (by rw [z]; rfl) this
          | cons a r => rfl
      rw [ev]
      cases e : (TL.tl y).all isDig with
      | false => exact iteT (none_of (dn (by rw [eo, e])) _ s6)
      | true =>
        rw [e] at eo
        refine iteF ?_
        have e0 : TL.tl ("0" : Str) = [48] := by decide +kernel
        have edg : ∀ b : Prop, [Decidable b] → (¬ (1 < (TL.tl y).length ∧ (TL.tl y).head? = some 48)) → (dg (TL.tl y)).isSome = true := fun _ _ z => by
          unfold dg
          rw [if_pos eo, if_neg z]
          rfl
        refine ⟨_, rfl, rfl, _, rfl, ?_⟩
        have en0 : (!decide (V.str y = V.str "0")) = !decide (TL.tl y = [48]) := by rw [str_eq, e0]
        rw [en0]
        by_cases z0 : TL.tl y = [48]
        · rw [decide_eq_true z0]
          refine iteF (iteF (good (edg True fun z => ?_) _ _ _ s6))
          rw [z0] at z
          exact absurd z.1 (by decide)
        · rw [decide_eq_false z0]
          obtain ⟨c, hc⟩ : ∃ c, (TL.tl y)[0]? = some c := ⟨_, List.getElem?_eq_getElem (by omega)⟩
          have hh : (TL.tl y).head? = some c := by rw [← hc]; cases TL.tl y <;> rfl
          have ha : atI y.cps.toList (0 : Int) = some c := atI_0 hc
          refine iteT ⟨_, rfl, y, 0, c, rfl, rfl, sl5 ly, ha, rfl, _, rfl, ?_⟩
          have en : decide (V.str ⟨#[c]⟩ = V.str "0") = decide (c = 48) := by
            rw [str_eq, e0]
            exact decide_eq_decide.mpr ⟨fun z => (List.cons.inj z).1, fun z => by rw [z]⟩
          rw [en]
          by_cases c4 : c = 48
          · rw [decide_eq_true c4]
            have long : 1 < (TL.tl y).length := by
              rcases Nat.lt_or_ge 1 (TL.tl y).length with z | z
              · exact z
              · exfalso
                refine z0 ?_
                cases g : TL.tl y with
                | nil => rw [g] at hc; cases hc
                | cons a r =>
                  rw [g] at z hc
                  have zr : r.length = 0 := by
                    have : (a :: r).length = r.length + 1 := rfl
                    omega
                  rw [List.eq_nil_of_length_eq_zero zr]
                  have : a = c := Option.some.inj hc
                  rw [this, c4]
            refine iteT (none_of ?_ _ s6)
            unfold dg
            rw [if_pos eo, if_pos ⟨long, by rw [hh, c4]⟩]
          · rw [decide_eq_false c4]
            refine iteF (good (edg True fun z => ?_) _ _ _ s6)
            rw [hh] at z
            exact c4 (Option.some.inj z.2)
    rintro σ H6 ⟨v3, v4, rfl, al, s6⟩
    have t6 := t5.trans s6
    have L6 := s6 _ _ (s5 _ _ L2)
    rw [List.length_map, List.take_length] at al
    have fin := k H6 t6
    have eisL : RT.isL ((w0 :: rest).map TL.tl) (TL.tl x) = if 1 < rest.length ∨ TL.tl x = [45, 48] then false else match rest.map TL.tl with
        | [] => true
        | w1 :: _ => match dg w1, dg (RT.top0 (TL.tl w0)) with
          | some b, some t => decide (1 < b) && decide (lowT t b = t ∧ lowB t b = b)
          | _, _ => false := by
      show (if ((RT.top0 (TL.tl w0) :: rest.map TL.tl).all fun w => (dg w).isSome) = true then (if 1 < (rest.map TL.tl).length ∨ TL.tl x = [45, 48] then false else _) else false) = _
      have hall : ((RT.top0 (TL.tl w0) :: rest.map TL.tl).all fun w => (dg w).isSome) = true := by
        rw [List.all_eq_true]
        intro z hz
        rcases List.mem_cons.mp hz with rfl | hz
        · rw [← etp]
          exact al tp List.mem_cons_self
        · obtain ⟨y, hy, rfl⟩ := List.mem_map.mp hz
          exact al y (List.mem_cons_of_mem _ hy)
      refine (if_pos hall).trans ?_
      have el : (rest.map TL.tl).length = rest.length := List.length_map _
      first
        | (rw [el]; done)
        | (rw [el]; rfl)
    rw [eisL] at k
    have k2 : ∀ Hy, Same H6 Hy → Q (.bl (if 1 < rest.length ∨ TL.tl x = [45, 48] then false else match rest.map TL.tl with
        | [] => true
        | w1 :: _ => match dg w1, dg (RT.top0 (TL.tl w0)) with
          | some b, some t => decide (1 < b) && decide (lowT t b = t ∧ lowB t b = b)
          | _, _ => false)) Hy := fun Hy s => k Hy (t6.trans s)
    have eneg : TL.tl ("-0" : Str) = [45, 48] := by decide +kernel
    refine ⟨_, rfl, _, _, rfl, .inl ⟨_, SqL.of L6, rfl⟩, _, _, rfl, rfl, _, rfl, ite2 (fun c => ?_) (fun c => ?_)⟩
    · have c' := of_decide_eq_true c
      rw [List.length_map, List.length_cons] at c'
      have z := k2 H6 fun _ _ e => e
      rw [if_pos (.inl (by omega))] at z
      exact z
    have c1 : ¬ 1 < rest.length := fun z => c (decide_eq_true (by rw [List.length_map, List.length_cons]; omega))
    refine ⟨_, rfl, rfl, _, rfl, ?_⟩
    rw [str_eq, eneg]
    refine ite2 (fun c2 => ?_) (fun c2 => ?_)
    · have z := k2 H6 fun _ _ e => e
      rw [if_pos (.inr (of_decide_eq_true c2))] at z
      exact z
    have c2' : ¬ TL.tl x = [45, 48] := fun z => c2 (decide_eq_true z)
    have no : ¬ (1 < rest.length ∨ TL.tl x = [45, 48]) := fun z => z.elim c1 c2'
    refine ⟨_, rfl, _, _, rfl, .inl ⟨_, SqL.of L6, rfl⟩, rfl, _, rfl, ?_⟩
    rcases rest with _ | ⟨w1, _ | ⟨w2, rest⟩⟩
    · have z := k2 H6 fun _ _ e => e
      rw [if_neg no] at z
      exact iteT z
    · refine iteF ?_
      obtain ⟨b, eb⟩ := Option.isSome_iff_exists.mp (al w1 (by simp))
      obtain ⟨t, et⟩ := Option.isSome_iff_exists.mp (al tp List.mem_cons_self)
      have iv : ∀ (y : Str) (z : Int), dg (TL.tl y) = some z → PySem.intText? y = some z ∧ y.length ≤ 640 := fun y z h => by
        unfold dg at h
        split at h
        · rename_i ok
          split at h
          · cases h
          · have := int_of ok
            rw [← Option.some.inj h]
            exact this
        · cases h
      obtain ⟨ib1, ib2⟩ := iv w1 b eb
      obtain ⟨it1, it2⟩ := iv tp t et
      have a1 : atI ([w0, w1].map V.str) (1 : Int) = some (.str w1) := at1
      have k3 : ∀ Hy, Same H6 Hy → Q (.bl (decide (1 < b) && decide (lowT t b = t ∧ lowB t b = b))) Hy := fun Hy s => by
        have z := k2 Hy s
        rw [if_neg no] at z
        have z : Q (.bl (match dg (TL.tl w1), dg (RT.top0 (TL.tl w0)) with
          | some b, some t => decide (1 < b) && decide (lowT t b = t ∧ lowB t b = b)
          | _, _ => false)) Hy := z
        rw [eb, ← etp, et] at z
        exact z
      have bb := dg_lt eb
      refine ⟨_, rfl, l, _, _, _, rfl, rfl, SqL.of L6, a1, w1, b, rfl, ib1, ib2, ?_⟩
      refine ⟨_, rfl, _, _, rfl, rfl, _, rfl, ite2 (fun c3 => ?_) (fun c3 => ?_)⟩
      · have c3' : 1 < b := of_decide_eq_true c3
        have e60 : (10 : Int) ^ 60 = 1000000000000000000000000000000000000000000000000000000000000 := by decide +kernel
        have e2 : (2 : Nat) ^ 300 = 2037035976334486086268445688409378161051468393665936250636140449354381299763336706183397376 := by decide +kernel
        rw [e60] at bb
        have sb : Sm b := by
          unfold Sm
          rw [e2]
          omega
        refine ⟨_, rfl, tp, t, rfl, it1, it2, _, rfl, t, b, rfl, by omega, Nat.lt_trans sb.log (by decide), fun p hp => ?_⟩
        refine ⟨_, rfl, tp, t, rfl, it1, it2, _, rfl, (by show 2 ≤ sizeLine; decide), fun p2 hp2 => ?_⟩
        have s7 := same_new (o := .tup [.int (lowT t b), .int (lowB t b)]) hp
        have s8 := same_new (o := .tup [.int t, .int b]) hp2
        refine ⟨.tuple [.int (lowT t b), .int (lowB t b)], .tuple [.int t, .int b], .tup (SqT.of (s8 _ _ upd_same)) (.cons (.int _) (.cons (.int _) .nil)), .tup (SqT.of upd_same) (.cons (.int _) (.cons (.int _) .nil)), rfl, rfl, ?_⟩
        rw [eqv_two]
        have z := k3 _ (s7.trans s8)
        rw [decide_eq_true c3', Bool.true_and] at z
        exact z
      · have z := k3 H6 fun _ _ e => e
        rw [decide_eq_false (fun w => c3 (decide_eq_true w)), Bool.false_and] at z
        exact z
    · exfalso
      refine c1 ?_
      show 1 < rest.length + 1 + 1
      omega
end
end My
/-! Texts whose signs are code points; lists of texts and of truths as data. -/
namespace My
open PySem PySem.Spec PyProof.Rows L2
theorem strOk_app (x y : Str) : PyData.strOk (x ++ y) = (PyData.strOk x && PyData.strOk y) := by
  unfold PyData.strOk
  rw [PySem.Str.cps_append, Array.all_append]
theorem strOk_of (s : String) : PyData.strOk (Str.ofString s) = true := by
  unfold PyData.strOk
  rw [PySem.Str.ofString_eq_toList]
  rw [Array.all_eq_true]
  intro i hi
  simp only [List.getElem_toArray, List.getElem_map, decide_eq_true_eq]
  have := (s.toList[i]'(by simpa using hi)).valid
  rcases this with h | ⟨_, h⟩
  · exact Nat.lt_trans h (by decide)
  · exact h
/-- a list of texts as data -/
theorem dp_strs {K : PySem.W.Frag} {H : Hp} : ∀ zs : List Str, DpAll K H (zs.map V.str) (zs.map PyData.str)
  | [] => .nil
  | z :: zs => .cons (.str z) (dp_strs zs)
theorem lay_strs : ∀ zs : List Str, (∀ z ∈ zs, PyData.strOk z = true) → PyData.canLayAll0 (zs.map PyData.str) = true
  | [], _ => rfl
  | z :: zs, h => by
    show (PyData.strOk z && PyData.canLayAll0 (zs.map PyData.str)) = true
    rw [lay_strs zs fun x hx => h x (List.mem_cons_of_mem _ hx), h z List.mem_cons_self]
    rfl
theorem dep_strs : ∀ zs : List Str, PyData.depthAll (zs.map PyData.str) = 0
  | [] => rfl
  | z :: zs => by
    show max 0 (PyData.depthAll (zs.map PyData.str)) = 0
    rw [dep_strs zs]
    rfl
theorem shaped_strs (zs : List Str) (h : ∀ z ∈ zs, PyData.strOk z = true) : SeqAt.shaped (.list (zs.map PyData.str)) = true := by
  show (PyData.canLayAll0 (zs.map PyData.str) && decide (PyData.depthAll (zs.map PyData.str) + 1 ≤ 64)) = true
  rw [lay_strs zs h, dep_strs]
  rfl
/-- a list of truths as data, shown -/
theorem dp_bls {K : PySem.W.Frag} {H : Hp} : ∀ zs : List Bool, DpAll K H (zs.map V.bl) (zs.map PyData.bool)
  | [] => .nil
  | z :: zs => .cons (.bl z) (dp_bls zs)
theorem dep_bls : ∀ zs : List Bool, PyData.depthAll (zs.map PyData.bool) = 0
  | [] => rfl
  | z :: zs => by
    show max 0 (PyData.depthAll (zs.map PyData.bool)) = 0
    rw [dep_bls zs]
    rfl
theorem showable_bls : ∀ zs : List Bool, PyData.showableAll (zs.map PyData.bool) = true
  | [] => rfl
  | z :: zs => by
    show (true && PyData.showableAll (zs.map PyData.bool)) = true
    rw [showable_bls zs]
    rfl
theorem bls_sum : ∀ zs : List Bool, ((PyData.shownAll (zs.map PyData.bool)).map (·.length)).sum ≤ 5 * zs.length ∧ (PyData.shownAll (zs.map PyData.bool)).length = zs.length
  | [] => ⟨Nat.le_refl _, rfl⟩
  | z :: zs => by
    obtain ⟨h1, h2⟩ := bls_sum zs
    refine ⟨?_, ?_⟩
    · show (PyData.bool z).shown.length + ((PyData.shownAll (zs.map PyData.bool)).map (·.length)).sum ≤ 5 * (zs.length + 1)
      have e : (PyData.bool z).shown.length ≤ 5 := by cases z <;> decide +kernel
      omega
    · show (PyData.shownAll (zs.map PyData.bool)).length + 1 = zs.length + 1
      omega
theorem bls_show {K : PySem.W.Frag} {H : Hp} {l : Addr} (zs : List Bool) (hl : zs.length ≤ 1000) (h : H l = some (.lst (zs.map V.bl))) : Dr K H (.ref l) (.list (zs.map PyData.bool)) ∧ (PyData.list (zs.map PyData.bool)).showable = true ∧ (PyData.list (zs.map PyData.bool)).depth ≤ 60 ∧ (PyData.list (zs.map PyData.bool)).shown.length ≤ sizeLine := by
  refine ⟨.inl (.lst (SqL.of h) (dp_bls zs)), showable_bls zs, ?_, ?_⟩
  · show PyData.depthAll (zs.map PyData.bool) + 1 ≤ 60
    rw [dep_bls]
    decide
  · have h1 := listText_len_le (PyData.shownAll (zs.map PyData.bool))
    obtain ⟨h2, h3⟩ := bls_sum zs
    show (listText (PyData.shownAll (zs.map PyData.bool))).length ≤ sizeLine
    rw [sizeLine_eq]
    omega
theorem bl_show {K : PySem.W.Frag} {H : Hp} (b : Bool) : Dr K H (.bl b) (.bool b) ∧ (PyData.bool b).showable = true ∧ (PyData.bool b).depth ≤ 60 ∧ (PyData.bool b).shown.length ≤ sizeLine := by
  refine ⟨.inl (.bl b), rfl, Nat.zero_le _, ?_⟩
  cases b <;> decide +kernel
end My
set_option pp.maxSteps 1500
set_option pp.deepTerms.threshold 8
/-! ### two numbers in order -/
namespace My
open PySem PySem.Spec PyProof.Rows L2 TX
abbrev s_twoR : Stmt := topS 24
theorem sc_twoR : FnScope ["_law_one", "_law_other", "_law_left", "_law_right", "_law_mine", "_law_yours", "_law_seen", "_law_back"] ["_law_one", "_law_other"] (defScope s_twoR) := ⟨rfl, rfl, rfl, by decide +kernel, rfl, by decide +kernel, by decide +kernel⟩
def spTwoR (K : PySem.W.Frag) : Sp := fun vs H Q _ => ∃ (p q : Addr) (a b c d : Int), vs = [.ref p, .ref q] ∧ SqT K H p [.int a, .int b] ∧ SqT K H q [.int c, .int d] ∧ okR (a, b) ∧ okR (c, d) ∧ ∀ H', Same H H' → Q (.bl true) H'
theorem sqt9 {K : PySem.W.Frag} {H H' : Hp} {a : Addr} {xs : List V} (h : SqT K H a xs) (s : Same H H') : SqT K H' a xs := h.elim (fun h => .inl (h.elim (fun h => .inl (s _ _ h)) fun ⟨o, h⟩ => .inr ⟨o, s _ _ h⟩)) fun h => .inr h
/-- beside a Ratio, a number on the other side -/
theorem num_side {P : Program} {K : PySem.W.Frag} {mg : Str → Option Value} {C CB fB CN : Addr} (T : RTx P K mg C CB fB CN) {H : Hp} {v : V} {c d a b : Int} {m : Addr} {g f : Int → Int → Bool} {Q : VK} {E : XK} (hv : NumAt C H v c d) (hm : RatAt C H m a b) (sa : Sm a) (sb : Sm b) (sc : Sm c) (sd : Sm d)
    (k : ∀ H', Same H H' → (∀ z, z = f (c * b) (a * d) ∨ z = g (a * d) (c * b) → Q (.bl z) H')) : rCmpO K C (spOrdR C f) E v (.ref m) H Q ∨ rCmpR C (spOrdR C g) E v (.ref m) H Q := by
  obtain ⟨dm, em⟩ := id hm
  rcases hv with ⟨p, rfl, l⟩ | ⟨rfl, rfl⟩
  · obtain ⟨dx, e⟩ := id l
    exact .inl ⟨p, dx, _, _, rfl, e, T.ty hm, T.sf, p, c, d, .ref m, a, b, rfl, l, .inl ⟨m, rfl, hm⟩, sc, sd, sa, sb, fun H' s => k H' s _ (.inl rfl)⟩
  · exact .inr ⟨c, m, dm, _, rfl, rfl, em, m, a, b, .int c, c, 1, rfl, hm, .inr ⟨rfl, rfl⟩, sa, sb, sc, sd, fun H' s => k H' s _ (.inr rfl)⟩
theorem num_mine {P : Program} {K : PySem.W.Frag} {mg : Str → Option Value} {C CB fB CN : Addr} (T : RTx P K mg C CB fB CN) {H : Hp} {v : V} {c d a b : Int} {m : Addr} {f : Int → Int → Bool} {Q : VK} {E : XK} (hv : NumAt C H v c d) (hm : RatAt C H m a b) (sa : Sm a) (sb : Sm b) (sc : Sm c) (sd : Sm d)
    (k : ∀ H', Same H H' → Q (.bl (f (a * d) (c * b))) H') : rCmpO K C (spOrdR C f) E (.ref m) v H Q := by
  obtain ⟨dm, em⟩ := id hm
  obtain ⟨t, ty, nf⟩ := T.nty hv
  exact ⟨m, dm, _, t, rfl, em, ty, nf, m, a, b, v, c, d, rfl, hm, hv, sa, sb, sc, sd, k⟩
section
variable {P : Program} {w : World} {K : PySem.W.Frag} {mg : Str → Option Value} {base : Heap} {C CB fB CN CT fT : Addr} {tM : Tok}
theorem ok_twoR {f : Addr} {fd : FuncData} (F : Fun K "_law_two_right" "_law_two_right" s_twoR f fd) (T : RTx P K mg C CB fB CN) (su : PySem.W.subIn K (.ref C) (.type "int") = some false) (M_Ratio : MakeAt P w K mg base (L2.CX P w) 3 "Ratio" C ["self", "top", "bottom"] (spInit C CB CN) [])
    (CE_lt : CmpAt P w K mg base CX0 3 C "__lt__" ["self", "other"] (spOrdR C fun i j => decide (i < j))) (CE_le : CmpAt P w K mg base CX0 3 C "__le__" ["self", "other"] (spOrdR C fun i j => decide (i ≤ j)))
    (CE_gt : CmpAt P w K mg base CX0 3 C "__gt__" ["self", "other"] (spOrdR C fun i j => decide (j < i))) (CE_ge : CmpAt P w K mg base CX0 3 C "__ge__" ["self", "other"] (spOrdR C fun i j => decide (j ≤ i))) : FnG P w K mg base CX0 6 f fd ["_law_one", "_law_other"] (spTwoR K) := by
  refine okG F sc_twoR (fun vs H Q E h => ?_) (fun cdv A outer s H vs Q E hf hgd hr h => ?_)
  · obtain ⟨p, q, a, b, c, d, rfl, _⟩ := h
    rfl
  · obtain ⟨p, q, a, b, c, d, rfl, hp, hq, oa, oc, k⟩ := h
    refine ⟨_, (pss_cons (ps_par (i := 2) (j := 3) (by rfl) sc_twoR.nd rfl rfl (by decide) rfl rfl (pa_cons (pe_op op_mulW (pe_ix ix_tup (pv 0) pe_int (fun _ _ => rfl)) (pe_ix ix_tup (pv 1) pe_int (fun _ _ => rfl))) (pa_cons (pe_op op_mulW (pe_ix ix_tup (pv 1) pe_int (fun _ _ => rfl)) (pe_ix ix_tup (pv 0) pe_int (fun _ _ => rfl))) pa_nil)) (by rfl))
      (C8.pss_cut (ps_par (i := 4) (j := 5) (by rfl) sc_twoR.nd rfl rfl (by decide) rfl rfl (pa_cons (My.pe_mk M_Ratio (hr.mono (by decide)) (by rfl) passL (pa_cons (pe_ix ix_tup (pv 0) pe_int (fun _ _ => rfl)) (pa_cons (pe_ix ix_tup (pv 0) pe_int (fun _ _ => rfl)) pa_nil))) (pa_cons (pe_ifExp (pt_cmpR op_ne (pe_ix ix_tup (pv 1) pe_int (fun _ _ => rfl)) pe_int (nomark _)) (My.pe_mk M_Ratio (hr.mono (by decide)) (by rfl) passL (pa_cons (pe_ix ix_tup (pv 1) pe_int (fun _ _ => rfl)) (pa_cons (pe_ix ix_tup (pv 1) pe_int (fun _ _ => rfl)) pa_nil))) (pe_ix ix_tup (pv 1) pe_int (fun _ _ => rfl))) pa_nil)) (by rfl))
      (pss_cons (ps_set (i := 6) sc_twoR.nd rfl (Or.inl rfl) (pe_lst (pa_cons (pe_cmpR (My.op_cmpO CE_lt (hr.mono (by decide)) pass0) (pv 4) (pv 5) (nomark _)) (pa_cons (pe_cmpR (My.op_cmpO CE_le (hr.mono (by decide)) pass0) (pv 4) (pv 5) (nomark _)) (pa_cons (pe_cmpR (My.op_cmpO CE_gt (hr.mono (by decide)) pass0) (pv 4) (pv 5) (nomark _)) (pa_cons (pe_cmpR (My.op_cmpO CE_ge (hr.mono (by decide)) pass0) (pv 4) (pv 5) (nomark _)) pa_nil))))))
      (pss_cons (ps_if (pt_cmpR op_ne (pe_callB (My.call_repr hgd hr) (by rfl) T.z_repr boot_repr (pa_cons (pv 6) pa_nil)) (pe_callB (My.call_repr hgd hr) (by rfl) T.z_repr boot_repr (pa_cons (pe_lst (pa_cons (pe_cmpR op_lt (pv 2) (pv 3) (nomark _)) (pa_cons (pe_cmpR op_le (pv 2) (pv 3) (nomark _)) (pa_cons (pe_cmpR op_gt (pv 2) (pv 3) (nomark _)) (pa_cons (pe_cmpR op_ge (pv 2) (pv 3) (nomark _)) pa_nil))))) pa_nil)) (nomark _)) (pss_one (ps_ret pe_bl)) pss_nil)
      (pss_cons (ps_set (i := 7) sc_twoR.nd rfl (Or.inl rfl) (pe_lst (pa_cons (pe_cmpR (OpR.or (My.op_cmpO CE_lt (hr.mono (by decide)) pass0) (My.op_ltR CE_gt su (hr.mono (by decide)) pass0)) (pv 5) (pv 4) (nomark _)) (pa_cons (pe_cmpR (OpR.or (My.op_cmpO CE_le (hr.mono (by decide)) pass0) (My.op_leR CE_ge su (hr.mono (by decide)) pass0)) (pv 5) (pv 4) (nomark _)) (pa_cons (pe_cmpR (OpR.or (My.op_cmpO CE_gt (hr.mono (by decide)) pass0) (My.op_gtR CE_lt su (hr.mono (by decide)) pass0)) (pv 5) (pv 4) (nomark _)) (pa_cons (pe_cmpR (OpR.or (My.op_cmpO CE_ge (hr.mono (by decide)) pass0) (My.op_geR CE_le su (hr.mono (by decide)) pass0)) (pv 5) (pv 4) (nomark _)) pa_nil))))))
      (pss_one (ps_ret (pe_cmpR op_eq (pe_callB (My.call_repr hgd hr) (by rfl) T.z_repr boot_repr (pa_cons (pv 7) pa_nil)) (pe_callB (My.call_repr hgd hr) (by rfl) T.z_repr boot_repr (pa_cons (pe_lst (pa_cons (pe_cmpR op_gt (pv 2) (pv 3) (nomark _)) (pa_cons (pe_cmpR op_ge (pv 2) (pv 3) (nomark _)) (pa_cons (pe_cmpR op_lt (pv 2) (pv 3) (nomark _)) (pa_cons (pe_cmpR op_le (pv 2) (pv 3) (nomark _)) pa_nil))))) pa_nil)) (nomark _))))))))), ?_⟩
    have pa0 : atI [V.int a, V.int b] (0 : Int) = some (.int a) := at0
    have pa1 : atI [V.int a, V.int b] (1 : Int) = some (.int b) := at1
    have pc0 : atI [V.int c, V.int d] (0 : Int) = some (.int c) := at0
    have pc1 : atI [V.int c, V.int d] (1 : Int) = some (.int d) := at1
    have pb : 0 < b := oa.1
    have pd : 0 < d := oc.1
    have hb0 : b ≠ 0 := by omega
    have hd0 : d ≠ 0 := by omega
    refine ⟨_, rfl, p, _, _, _, rfl, rfl, hp, pa0, _, rfl, q, _, _, _, rfl, rfl, hq, pc1, _, _, rfl, rfl, Sm.mul oa.2.2.1 oc.2.2.2, _, rfl, q, _, _, _, rfl, rfl, hq, pc0, _, rfl, p, _, _, _, rfl, rfl, hp, pa1, _, _, rfl, rfl, Sm.mul oc.2.2.1 oa.2.2.2, _, _, rfl, ?_⟩
    refine ⟨fun σ Hz => ∃ (m : Addr) (v : V), σ = [some (.ref p), some (.ref q), some (.int (a * d)), some (.int (c * b)), some (.ref m), some v, none, none] ∧ RatAt C Hz m a b ∧ NumAt C Hz v c d ∧ Same H Hz, ?_, ?_⟩
    · obtain ⟨y1, y2⟩ := low_self oa.1 oa.2.1
      obtain ⟨x1, x2⟩ := low_self oc.1 oc.2.1
      refine ⟨_, rfl, p, _, _, _, rfl, rfl, hp, pa0, _, rfl, p, _, _, _, rfl, rfl, hp, pa1, fun m dx hx hd ne => init_at hb0 (Nat.lt_trans oa.2.2.2.log (by decide)) hx hd ne fun H1 l1 s1 => ?_⟩
      rw [y1, y2] at l1
      refine ⟨_, rfl, q, _, _, _, rfl, rfl, sqt9 hq s1, pc1, rfl, _, rfl, ite2 (fun e => ?_) (fun e => ?_)⟩
      · refine ⟨_, rfl, q, _, _, _, rfl, rfl, sqt9 hq s1, pc0, _, rfl, q, _, _, _, rfl, rfl, sqt9 hq s1, pc1, fun m2 dx hx hd ne => init_at hd0 (Nat.lt_trans oc.2.2.2.log (by decide)) hx hd ne fun H2 l2 s2 => ?_⟩
        rw [x1, x2] at l2
        exact ⟨_, _, rfl, m, .ref m2, rfl, l1.same s2, .inl ⟨m2, rfl, l2⟩, s1.trans s2⟩
      · have ed : d = 1 := by
          have := Bool.eq_false_iff.mpr e
          have := Bool.not_eq_false' .. |>.mp this
          exact V.int.inj (of_decide_eq_true this)
        exact ⟨_, rfl, q, _, _, _, rfl, rfl, sqt9 hq s1, pc0, _, _, rfl, m, .int c, rfl, l1, .inr ⟨rfl, ed⟩, s1⟩
    rintro σ H1 ⟨m, v, rfl, lm, nv, s1⟩
    have A := oa.2.2.1
    have B := oa.2.2.2
    have Cc := oc.2.2.1
    have D := oc.2.2.2
    refine ⟨_, rfl, _, rfl, num_mine T nv lm A B Cc D fun H2 s2 => ?_⟩
    have lm2 := lm.same s2
    have nv2 := nv.same s2
    refine ⟨_, rfl, _, rfl, num_mine T nv2 lm2 A B Cc D fun H3 s3 => ?_⟩
    have lm3 := lm2.same s3
    have nv3 := nv2.same s3
    refine ⟨_, rfl, _, rfl, num_mine T nv3 lm3 A B Cc D fun H4 s4 => ?_⟩
    have lm4 := lm3.same s4
    have nv4 := nv3.same s4
    refine ⟨_, rfl, _, rfl, num_mine T nv4 lm4 A B Cc D fun H5 s5 => ⟨(by show 4 ≤ sizeLine; decide), fun l6 g6 => ?_⟩⟩
    have lm5 := lm4.same s5
    have nv5 := nv4.same s5
    generalize hX : a * d = X
    generalize hY : c * b = Y
    have L6 : (upd H5 l6 (.lst [.bl (decide (X < Y)), .bl (decide (X ≤ Y)), .bl (decide (Y < X)), .bl (decide (Y ≤ X))])) l6 = some (.lst ([decide (X < Y), decide (X ≤ Y), decide (Y < X), decide (Y ≤ X)].map V.bl)) := upd_same
    have s6 := ((((s1.trans s2).trans s3).trans s4).trans s5).trans (same_new (o := .lst [.bl (decide (X < Y)), .bl (decide (X ≤ Y)), .bl (decide (Y < X)), .bl (decide (Y ≤ X))]) g6)
    have lm6 := lm5.same (same_new (o := .lst [.bl (decide (X < Y)), .bl (decide (X ≤ Y)), .bl (decide (Y < X)), .bl (decide (Y ≤ X))]) g6)
    have nv6 := nv5.same (same_new (o := .lst [.bl (decide (X < Y)), .bl (decide (X ≤ Y)), .bl (decide (Y < X)), .bl (decide (Y ≤ X))]) g6)
    generalize upd H5 l6 (.lst [.bl (decide (X < Y)), .bl (decide (X ≤ Y)), .bl (decide (Y < X)), .bl (decide (Y ≤ X))]) = H6 at L6 s6 lm6 nv6
    obtain ⟨i1, i2, i3, i4⟩ := bls_show (K := K) [decide (X < Y), decide (X ≤ Y), decide (Y < X), decide (Y ≤ X)] (by show 4 ≤ 1000; decide) L6
    refine ⟨_, rfl, _, _, rfl, i1, i2, i3, i4, ?_⟩
    refine ⟨_, rfl, _, rfl, _, _, rfl, rfl, _, rfl, _, rfl, _, _, rfl, rfl, _, rfl, _, rfl, _, _, rfl, rfl, _, rfl, _, rfl, _, _, rfl, rfl, (by show 4 ≤ sizeLine; decide), fun l7 g7 => ?_⟩
    have L7 : (upd H6 l7 (.lst [.bl (decide (X < Y)), .bl (decide (X ≤ Y)), .bl (decide (Y < X)), .bl (decide (Y ≤ X))])) l7 = some (.lst ([decide (X < Y), decide (X ≤ Y), decide (Y < X), decide (Y ≤ X)].map V.bl)) := upd_same
    have s7 := s6.trans (same_new (o := .lst [.bl (decide (X < Y)), .bl (decide (X ≤ Y)), .bl (decide (Y < X)), .bl (decide (Y ≤ X))]) g7)
    have lm7 := lm6.same (same_new (o := .lst [.bl (decide (X < Y)), .bl (decide (X ≤ Y)), .bl (decide (Y < X)), .bl (decide (Y ≤ X))]) g7)
    have nv7 := nv6.same (same_new (o := .lst [.bl (decide (X < Y)), .bl (decide (X ≤ Y)), .bl (decide (Y < X)), .bl (decide (Y ≤ X))]) g7)
    generalize upd H6 l7 (.lst [.bl (decide (X < Y)), .bl (decide (X ≤ Y)), .bl (decide (Y < X)), .bl (decide (Y ≤ X))]) = H7 at L7 s7 lm7 nv7
    obtain ⟨i1, i2, i3, i4⟩ := bls_show (K := K) [decide (X < Y), decide (X ≤ Y), decide (Y < X), decide (Y ≤ X)] (by show 4 ≤ 1000; decide) L7
    refine ⟨_, _, rfl, i1, i2, i3, i4, rfl, _, rfl, ?_⟩
    rw [decide_eq_true rfl]
    refine iteF ?_
    refine ⟨_, rfl, _, rfl, num_side T nv7 lm7 A B Cc D fun H8 r8 z8 hz8 => ?_⟩
    obtain rfl : z8 = decide (Y < X) := by
      rw [← hX, ← hY]
      exact hz8.elim id id
    have lm8 := lm7.same r8
    have nv8 := nv7.same r8
    refine ⟨_, rfl, _, rfl, num_side T nv8 lm8 A B Cc D fun H9 r9 z9 hz9 => ?_⟩
    obtain rfl : z9 = decide (Y ≤ X) := by
      rw [← hX, ← hY]
      exact hz9.elim id id
    have lm9 := lm8.same r9
    have nv9 := nv8.same r9
    refine ⟨_, rfl, _, rfl, num_side T nv9 lm9 A B Cc D fun H10 r10 z10 hz10 => ?_⟩
    obtain rfl : z10 = decide (X < Y) := by
      rw [← hX, ← hY]
      exact hz10.elim id id
    have lm10 := lm9.same r10
    have nv10 := nv9.same r10
    refine ⟨_, rfl, _, rfl, num_side T nv10 lm10 A B Cc D fun H11 r11 z11 hz11 => ?_⟩
    obtain rfl : z11 = decide (X ≤ Y) := by
      rw [← hX, ← hY]
      exact hz11.elim id id
    have lm11 := lm10.same r11
    have nv11 := nv10.same r11
    refine ⟨(by show 4 ≤ sizeLine; decide), fun l12 g12 => ?_⟩
    have L12 : (upd H11 l12 (.lst [.bl (decide (Y < X)), .bl (decide (Y ≤ X)), .bl (decide (X < Y)), .bl (decide (X ≤ Y))])) l12 = some (.lst ([decide (Y < X), decide (Y ≤ X), decide (X < Y), decide (X ≤ Y)].map V.bl)) := upd_same
    have s12 := ((((s7.trans r8).trans r9).trans r10).trans r11).trans (same_new (o := .lst [.bl (decide (Y < X)), .bl (decide (Y ≤ X)), .bl (decide (X < Y)), .bl (decide (X ≤ Y))]) g12)
    generalize upd H11 l12 (.lst [.bl (decide (Y < X)), .bl (decide (Y ≤ X)), .bl (decide (X < Y)), .bl (decide (X ≤ Y))]) = H12 at L12 s12
    obtain ⟨i1, i2, i3, i4⟩ := bls_show (K := K) [decide (Y < X), decide (Y ≤ X), decide (X < Y), decide (X ≤ Y)] (by show 4 ≤ 1000; decide) L12
    refine ⟨_, rfl, _, _, rfl, i1, i2, i3, i4, ?_⟩
    refine ⟨_, rfl, _, rfl, _, _, rfl, rfl, _, rfl, _, rfl, _, _, rfl, rfl, _, rfl, _, rfl, _, _, rfl, rfl, _, rfl, _, rfl, _, _, rfl, rfl, (by show 4 ≤ sizeLine; decide), fun l13 g13 => ?_⟩
    have L13 : (upd H12 l13 (.lst [.bl (decide (Y < X)), .bl (decide (Y ≤ X)), .bl (decide (X < Y)), .bl (decide (X ≤ Y))])) l13 = some (.lst ([decide (Y < X), decide (Y ≤ X), decide (X < Y), decide (X ≤ Y)].map V.bl)) := upd_same
    have s13 := s12.trans (same_new (o := .lst [.bl (decide (Y < X)), .bl (decide (Y ≤ X)), .bl (decide (X < Y)), .bl (decide (X ≤ Y))]) g13)
    generalize upd H12 l13 (.lst [.bl (decide (Y < X)), .bl (decide (Y ≤ X)), .bl (decide (X < Y)), .bl (decide (X ≤ Y))]) = H13 at L13 s13
    obtain ⟨i1, i2, i3, i4⟩ := bls_show (K := K) [decide (Y < X), decide (Y ≤ X), decide (X < Y), decide (X ≤ Y)] (by show 4 ≤ 1000; decide) L13
    refine ⟨_, _, rfl, i1, i2, i3, i4, rfl, ?_⟩
    rw [decide_eq_true rfl]
    exact k _ s13
end
end My
set_option pp.maxSteps 1500
set_option pp.deepTerms.threshold 8
/-! ### the ends of a row -/
namespace My
open PySem PySem.Spec PyProof.Rows L2 TX
abbrev s_ends : Stmt := topS 25
theorem sc_ends : FnScope ["_law_row_here", "_law_low", "_law_high", "_law_one"] ["_law_row_here"] (defScope s_ends) := ⟨rfl, rfl, rfl, by decide +kernel, rfl, by decide +kernel, by decide +kernel⟩
/-- at l: a row of pairs -/
structure RowAt (H : Hp) (l : Addr) (ps : List Addr) (ns : List (Int × Int)) : Prop where
  l : H l = some (.lst (ps.map V.ref))
  len : ps.length = ns.length
  at' : ∀ (i : Nat) p n, ps[i]? = some p → ns[i]? = some n → H p = some (.tup [.int n.1, .int n.2])
  ok : ∀ n ∈ ns, okR n
theorem RowAt.same {H H' : Hp} {l : Addr} {ps : List Addr} {ns : List (Int × Int)} (h : RowAt H l ps ns) (s : Same H H') : RowAt H' l ps ns := ⟨s _ _ h.l, h.len, fun i p n e1 e2 => s _ _ (h.at' i p n e1 e2), h.ok⟩
def spEnds : Sp := fun vs H Q _ => ∃ (l : Addr) (ps : List Addr) (m : Int × Int) (r : List (Int × Int)), vs = [.ref l] ∧ RowAt H l ps (m :: r) ∧ ∀ t H', H' t = some (.lst [.str (two (pickR (fun i j => decide (j < i)) m r).1 (pickR (fun i j => decide (j < i)) m r).2), .str (two (pickR (fun i j => decide (i < j)) m r).1 (pickR (fun i j => decide (i < j)) m r).2)]) → Same H H' → Q (.ref t) H'
theorem pick_self {g : Int → Int → Bool} {m : Int × Int} {r : List (Int × Int)} (h : ∀ i, g i i = false) : pickR g m (m :: r) = pickR g m r := by
  unfold pickR
  show r.foldl _ (if g (m.1 * m.2) (m.1 * m.2) = true then m else m) = _
  rw [h]
  rfl
section
variable {P : Program} {w : World} {K : PySem.W.Frag} {mg : Str → Option Value} {base : Heap}
theorem ok_ends {f : Addr} {fd : FuncData} (F : Fun K "_law_ends" "_law_ends" s_ends f fd) (T : BI mg) : FnG P w K mg base CX0 1 f fd ["_law_row_here"] spEnds := by
  refine okG F sc_ends (fun vs H Q E h => ?_) (fun cdv A outer s H vs Q E hf hgd hr h => ?_)
  · obtain ⟨l, ps, m, r, rfl, _⟩ := h
    rfl
  · obtain ⟨l, ps, m, r, rfl, R, k⟩ := h
    refine ⟨_, (pss_cons (ps_par (i := 1) (j := 2) (by rfl) sc_ends.nd rfl rfl (by decide) rfl rfl (pa_cons (pe_ix ix_list (pv 0) pe_int (fun _ _ => rfl)) (pa_cons (pe_ix ix_list (pv 0) pe_int (fun _ _ => rfl)) pa_nil)) (by rfl))
      (pss_cons (ps_for PassesOwn.never rfl (pi_list (pv 0)) (pg_name (i := 3) sc_ends.nd rfl (Or.inl rfl)) (C8.pss_cut (ps_set (i := 1) sc_ends.nd rfl (Or.inl rfl) (pe_ifExp (pt_cmpR op_lt (pe_op op_mulW (pe_ix ix_tup (pv 3) pe_int (fun _ _ => rfl)) (pe_ix ix_tup (pv 1) pe_int (fun _ _ => rfl))) (pe_op op_mulW (pe_ix ix_tup (pv 1) pe_int (fun _ _ => rfl)) (pe_ix ix_tup (pv 3) pe_int (fun _ _ => rfl))) (nomark _)) (pv 3) (pv 1)))
      (pss_one (ps_set (i := 2) sc_ends.nd rfl (Or.inl rfl) (pe_ifExp (pt_cmpR op_gt (pe_op op_mulW (pe_ix ix_tup (pv 3) pe_int (fun _ _ => rfl)) (pe_ix ix_tup (pv 2) pe_int (fun _ _ => rfl))) (pe_op op_mulW (pe_ix ix_tup (pv 2) pe_int (fun _ _ => rfl)) (pe_ix ix_tup (pv 3) pe_int (fun _ _ => rfl))) (nomark _)) (pv 3) (pv 2))))))
      (pss_one (ps_ret (pe_lst (pa_cons (pe_callB (My.call_repr hgd hr) (by rfl) T.z_repr boot_repr (pa_cons (pv 1) pa_nil)) (pa_cons (pe_callB (My.call_repr hgd hr) (by rfl) T.z_repr boot_repr (pa_cons (pv 2) pa_nil)) pa_nil))))))), ?_⟩
    obtain ⟨p0, pr, rfl⟩ : ∃ p0 pr, ps = p0 :: pr := by
      cases ps with
      | nil => cases R.len
      | cons a b => exact ⟨a, b, rfl⟩
    have ea : atI ((p0 :: pr).map V.ref) (0 : Int) = some (.ref p0) := at0
    refine ⟨_, rfl, l, _, _, _, rfl, rfl, SqL.of R.l, ea, _, rfl, l, _, _, _, rfl, rfl, SqL.of R.l, ea, _, _, rfl, ?_⟩
    refine ⟨_, rfl, l, rfl, ⟨_, SqL.of R.l⟩, ?_⟩
    refine for_list (xs := (p0 :: pr).map V.ref) (fun i σ Hz => ∃ (q1 q2 : Addr) (v3 : Option V) (x y : Int × Int), σ = [some (.ref l), some (.ref q1), some (.ref q2), v3] ∧ Hz = H ∧ x = pickR (fun i j => decide (j < i)) m ((m :: r).take i) ∧ y = pickR (fun i j => decide (i < j)) m ((m :: r).take i) ∧ okR x ∧ okR y ∧ H q1 = some (.tup [.int x.1, .int x.2]) ∧ H q2 = some (.tup [.int y.1, .int y.2])) ⟨p0, p0, none, m, m, rfl, rfl, rfl, rfl, R.ok m List.mem_cons_self, R.ok m List.mem_cons_self, R.at' 0 p0 m rfl rfl, R.at' 0 p0 m rfl rfl⟩ (fun i σ Hz _ ⟨_, _, _, _, _, _, e, _⟩ => by rw [e]; exact SqL.of R.l) ?_ ?_
    · rintro i v σ Hz hv ⟨q1, q2, v3, x, y, rfl, rfl, ex, ey, ox, oy, h1, h2⟩
      obtain ⟨p, hp, rfl⟩ : ∃ p, (p0 :: pr)[i]? = some p ∧ V.ref p = v := by
        rw [List.getElem?_map] at hv
        cases g : (p0 :: pr)[i]? with
        | none => rw [g] at hv; cases hv
        | some p =>
          rw [g] at hv
          exact ⟨p, rfl, Option.some.inj hv⟩
      obtain ⟨n, hn⟩ : ∃ n, (m :: r)[i]? = some n := ⟨_, List.getElem?_eq_getElem (by rw [← R.len]; exact (List.getElem?_eq_some_iff.mp hp).1)⟩
      have hpn := R.at' i p n hp hn
      have on := R.ok n (List.mem_of_getElem? hn)
      have st1 := pick_step (g := fun i j => decide (j < i)) (m := m) hn
      have st2 := pick_step (g := fun i j => decide (i < j)) (m := m) hn
      rw [← ex] at st1
      rw [← ey] at st2
      refine ⟨fun σ Hy => ∃ (q : Addr) (x' : Int × Int), σ = [some (.ref l), some (.ref q), some (.ref q2), some (.ref p)] ∧ Hy = Hz ∧ x' = pickR (fun i j => decide (j < i)) m ((m :: r).take (i + 1)) ∧ okR x' ∧ Hz q = some (.tup [.int x'.1, .int x'.2]), ?_, ?_⟩
      · refine ⟨_, rfl, p, _, _, _, rfl, rfl, SqT.of hpn, at0, _, rfl, q1, _, _, _, rfl, rfl, SqT.of h1, at1, _, _, rfl, rfl, Sm.mul on.2.2.1 ox.2.2.2, _, rfl, q1, _, _, _, rfl, rfl, SqT.of h1, at0, _, rfl, p, _, _, _, rfl, rfl, SqT.of hpn, at1, _, _, rfl, rfl, Sm.mul ox.2.2.1 on.2.2.2, _, _, rfl, rfl, _, rfl, ite2 (fun c => ?_) (fun c => ?_)⟩
        · rw [if_pos c] at st1
          exact ⟨_, rfl, p, n, rfl, rfl, st1.symm, on, hpn⟩
        · rw [if_neg c] at st1
          exact ⟨_, rfl, q1, x, rfl, rfl, st1.symm, ox, h1⟩
      rintro σ Hy ⟨q, x', rfl, rfl, ex', ox', hq⟩
      refine ⟨_, rfl, p, _, _, _, rfl, rfl, SqT.of hpn, at0, _, rfl, q2, _, _, _, rfl, rfl, SqT.of h2, at1, _, _, rfl, rfl, Sm.mul on.2.2.1 oy.2.2.2, _, rfl, q2, _, _, _, rfl, rfl, SqT.of h2, at0, _, rfl, p, _, _, _, rfl, rfl, SqT.of hpn, at1, _, _, rfl, rfl, Sm.mul oy.2.2.1 on.2.2.2, _, _, rfl, rfl, _, rfl, ite2 (fun c => ?_) (fun c => ?_)⟩
      · rw [if_pos c] at st2
        exact ⟨_, rfl, q, p, _, x', n, rfl, rfl, ex', st2.symm, ox', on, hq, hpn⟩
      · rw [if_neg c] at st2
        exact ⟨_, rfl, q, q2, _, x', y, rfl, rfl, ex', st2.symm, ox', oy, hq, h2⟩
    rintro σ Hz ⟨q1, q2, v3, x, y, rfl, rfl, ex, ey, ox, oy, h1, h2⟩
    rw [List.length_map, R.len, List.take_length, pick_self (fun i => decide_eq_false (Int.lt_irrefl i))] at ex ey
    obtain ⟨i1, i2, i3, i4⟩ := two_show (K := K) ox.2.2.1.log ox.2.2.2.log h1
    obtain ⟨j1, j2, j3, j4⟩ := two_show (K := K) oy.2.2.1.log oy.2.2.2.log h2
    refine ⟨_, rfl, _, _, rfl, i1, i2, i3, i4, _, rfl, _, _, rfl, j1, j2, j3, j4, (by show 2 ≤ sizeLine; decide), fun t ht => ?_⟩
    rw [ex, ey]
    exact k t _ upd_same (same_new ht)
end
end My
set_option pp.maxSteps 1500
set_option pp.deepTerms.threshold 8
/-! ### what least and greatest tell of a row -/
namespace My
open PySem PySem.Spec PyProof.Rows L2 TX
theorem ix_tupB {X : Cx} {K : PySem.W.Frag} (h : X.K = K) : IxR X (rIxT K) := by
  subst h
  exact ix_tup
abbrev s_told : Stmt := topS 26
theorem sc_told : FnScope ["_law_row_here", "_law_some", "_law_one", "_law_two", "_law_three", "_law_four", "_law_five", "_law_six", "_law_last", "_law_low"] ["_law_row_here"] (defScope s_told) := ⟨rfl, rfl, rfl, by decide +kernel, rfl, by decide +kernel, by decide +kernel⟩
def spTold (C : Addr) : Sp := fun vs H Q _ => ∃ (l : Addr) (ps : List Addr) (m : Int × Int) (r : List (Int × Int)), vs = [.ref l] ∧ RowAt H l ps (m :: r) ∧ r.length ≤ 6 ∧ ∀ t q1 q2 H', H' t = some (.lst [.ref q1, .ref q2]) → RatAt C H' q1 (pickR (fun i j => decide (j < i)) m r).1 (pickR (fun i j => decide (j < i)) m r).2 → RatAt C H' q2 (pickR (fun i j => decide (i < j)) m r).1 (pickR (fun i j => decide (i < j)) m r).2 → Same H H' → Q (.ref t) H'
section
variable {P : Program} {w : World} {K : PySem.W.Frag} {mg : Str → Option Value} {base : Heap} {C CB fB CN : Addr}
theorem ok_told {f : Addr} {fd : FuncData} (F : Fun K "_law_told" "_law_told" s_told f fd) (T : RTx P K mg C CB fB CN) (M_Ratio : MakeAt P w K mg base (L2.CX P w) 3 "Ratio" C ["self", "top", "bottom"] (spInit C CB CN) [])
    (S_least : StatR P w K mg base (L2.CX P w) 7 C "least" (spEndR C CB fun i j => decide (j < i))) (S_greatest : StatR P w K mg base (L2.CX P w) 7 C "greatest" (spEndR C CB fun i j => decide (i < j))) : FnOk P w K mg base CX0 8 f fd ["_law_row_here"] (spTold C) := by
  refine F.ok sc_told (fun vs H Q E h => ?_) (fun cdv A outer s H vs Q E hr h => ?_)
  · obtain ⟨l, ps, m, r, rfl, _⟩ := h
    rfl
  · obtain ⟨l, ps, m, r, rfl, R, lr, k⟩ := h
    refine ⟨_, (pss_cons (ps_setLc (i := 1) (own := [("_law_one", 2)]) rfl sc_told.nd rfl rfl (sw_true rfl rfl rfl rfl) (pi_list (pv 0)) (blkOk_by (by show blkC ["_law_row_here", "_law_some", "_law_one", "_law_two", "_law_three", "_law_four", "_law_five", "_law_six", "_law_last", "_law_low"] (defScope s_told) _ _ = true; decide +kernel)) (fun _ _ _ _ _ => (pg_name (i := 2) sc_told.nd rfl (Or.inl rfl))) (fun _ _ _ _ _ => pts_nil) (fun _ _ _ _ _ => (pe_ifExp (pt_cmpR op_eq (pe_ix (My.ix_tupB (K := K) rfl) (pv 2) pe_int (fun _ _ => rfl)) pe_int (nomark _)) (pe_ix (My.ix_tupB (K := K) rfl) (pv 2) pe_int (fun _ _ => rfl)) (My.pe_mk M_Ratio (hr.mono (by decide)) (by rfl) passL (pa_cons (pe_ix (My.ix_tupB (K := K) rfl) (pv 2) pe_int (fun _ _ => rfl)) (pa_cons (pe_ix (My.ix_tupB (K := K) rfl) (pv 2) pe_int (fun _ _ => rfl)) pa_nil))))))
      (pss_cons (ps_if (pt_cmpR op_eq (pe_callB call_len (by rfl) T.z_len PySem.boot_len (pa_cons (pv 1) pa_nil)) pe_int (nomark _)) (pss_one (ps_ret (pe_lst (pa_cons (My.pe_stR S_least (hr.mono (by decide)) passL (pe_glob (v := .ref C) (by rfl) T.gR rfl) (pa_cons (pe_ix ix_list (pv 1) pe_int (fun _ _ => rfl)) pa_nil)) (pa_cons (My.pe_stR S_greatest (hr.mono (by decide)) passL (pe_glob (v := .ref C) (by rfl) T.gR rfl) (pa_cons (pe_ix ix_list (pv 1) pe_int (fun _ _ => rfl)) pa_nil)) pa_nil))))) pss_nil)
      (pss_cons (ps_if (pt_cmpR op_eq (pe_callB call_len (by rfl) T.z_len PySem.boot_len (pa_cons (pv 1) pa_nil)) pe_int (nomark _)) (pss_one (ps_ret (pe_lst (pa_cons (My.pe_stR S_least (hr.mono (by decide)) passL (pe_glob (v := .ref C) (by rfl) T.gR rfl) (pa_cons (pe_ix ix_list (pv 1) pe_int (fun _ _ => rfl)) (pa_cons (pe_ix ix_list (pv 1) pe_int (fun _ _ => rfl)) pa_nil))) (pa_cons (My.pe_stR S_greatest (hr.mono (by decide)) passL (pe_glob (v := .ref C) (by rfl) T.gR rfl) (pa_cons (pe_ix ix_list (pv 1) pe_int (fun _ _ => rfl)) (pa_cons (pe_ix ix_list (pv 1) pe_int (fun _ _ => rfl)) pa_nil))) pa_nil))))) pss_nil)
      (pss_cons (ps_if (pt_cmpR op_eq (pe_callB call_len (by rfl) T.z_len PySem.boot_len (pa_cons (pv 1) pa_nil)) pe_int (nomark _)) (pss_one (ps_ret (pe_lst (pa_cons (My.pe_stR S_least (hr.mono (by decide)) passL (pe_glob (v := .ref C) (by rfl) T.gR rfl) (pa_cons (pe_ix ix_list (pv 1) pe_int (fun _ _ => rfl)) (pa_cons (pe_ix ix_list (pv 1) pe_int (fun _ _ => rfl)) (pa_cons (pe_ix ix_list (pv 1) pe_int (fun _ _ => rfl)) pa_nil)))) (pa_cons (My.pe_stR S_greatest (hr.mono (by decide)) passL (pe_glob (v := .ref C) (by rfl) T.gR rfl) (pa_cons (pe_ix ix_list (pv 1) pe_int (fun _ _ => rfl)) (pa_cons (pe_ix ix_list (pv 1) pe_int (fun _ _ => rfl)) (pa_cons (pe_ix ix_list (pv 1) pe_int (fun _ _ => rfl)) pa_nil)))) pa_nil))))) pss_nil)
      (pss_cons (ps_if (pt_cmpR op_eq (pe_callB call_len (by rfl) T.z_len PySem.boot_len (pa_cons (pv 1) pa_nil)) pe_int (nomark _)) (pss_cons (ps_asg (pv 1) (pg_lst rfl (pgs_cons (pg_name (i := 2) sc_told.nd rfl (Or.inl rfl)) (pgs_cons (pg_name (i := 3) sc_told.nd rfl (Or.inl rfl)) (pgs_cons (pg_name (i := 4) sc_told.nd rfl (Or.inl rfl)) (pgs_cons (pg_name (i := 5) sc_told.nd rfl (Or.inl rfl)) pgs_nil))))))
      (pss_one (ps_ret (pe_lst (pa_cons (My.pe_stR S_least (hr.mono (by decide)) passL (pe_glob (v := .ref C) (by rfl) T.gR rfl) (pa_cons (pv 2) (pa_cons (pv 3) (pa_cons (pv 4) (pa_cons (pv 5) pa_nil))))) (pa_cons (My.pe_stR S_greatest (hr.mono (by decide)) passL (pe_glob (v := .ref C) (by rfl) T.gR rfl) (pa_cons (pv 2) (pa_cons (pv 3) (pa_cons (pv 4) (pa_cons (pv 5) pa_nil))))) pa_nil)))))) pss_nil)
      (pss_cons (ps_asg (pe_slice sl_list (pv 1) po_none (po_some pe_int)) (pg_lst rfl (pgs_cons (pg_name (i := 2) sc_told.nd rfl (Or.inl rfl)) (pgs_cons (pg_name (i := 3) sc_told.nd rfl (Or.inl rfl)) (pgs_cons (pg_name (i := 4) sc_told.nd rfl (Or.inl rfl)) (pgs_cons (pg_name (i := 5) sc_told.nd rfl (Or.inl rfl)) (pgs_cons (pg_name (i := 6) sc_told.nd rfl (Or.inl rfl)) pgs_nil)))))))
      (pss_cons (ps_if (pt_cmpR op_eq (pe_callB call_len (by rfl) T.z_len PySem.boot_len (pa_cons (pv 1) pa_nil)) pe_int (nomark _)) (pss_one (ps_ret (pe_lst (pa_cons (My.pe_stR S_least (hr.mono (by decide)) passL (pe_glob (v := .ref C) (by rfl) T.gR rfl) (pa_cons (pv 2) (pa_cons (pv 3) (pa_cons (pv 4) (pa_cons (pv 5) (pa_cons (pv 6) pa_nil)))))) (pa_cons (My.pe_stR S_greatest (hr.mono (by decide)) passL (pe_glob (v := .ref C) (by rfl) T.gR rfl) (pa_cons (pv 2) (pa_cons (pv 3) (pa_cons (pv 4) (pa_cons (pv 5) (pa_cons (pv 6) pa_nil)))))) pa_nil))))) pss_nil)
      (pss_cons (ps_par (i := 7) (j := 8) (by rfl) sc_told.nd rfl rfl (by decide) rfl rfl (pa_cons (pe_ix ix_list (pv 1) pe_int (fun _ _ => rfl)) (pa_cons (pe_ix ix_list (pv 1) (pe_un un_neg pe_int) (fun _ _ => rfl)) pa_nil)) (by rfl))
      (pss_cons (ps_if (pt_cmpR op_eq (pe_callB call_len (by rfl) T.z_len PySem.boot_len (pa_cons (pv 1) pa_nil)) pe_int (nomark _)) (pss_one (ps_ret (pe_lst (pa_cons (My.pe_stR S_least (hr.mono (by decide)) passL (pe_glob (v := .ref C) (by rfl) T.gR rfl) (pa_cons (pv 2) (pa_cons (pv 3) (pa_cons (pv 4) (pa_cons (pv 5) (pa_cons (pv 6) (pa_cons (pv 7) pa_nil))))))) (pa_cons (My.pe_stR S_greatest (hr.mono (by decide)) passL (pe_glob (v := .ref C) (by rfl) T.gR rfl) (pa_cons (pv 2) (pa_cons (pv 3) (pa_cons (pv 4) (pa_cons (pv 5) (pa_cons (pv 6) (pa_cons (pv 7) pa_nil))))))) pa_nil))))) pss_nil)
      (pss_cons (ps_set (i := 9) sc_told.nd rfl (Or.inl rfl) (My.pe_stR S_least (hr.mono (by decide)) passL (pe_glob (v := .ref C) (by rfl) T.gR rfl) (pa_cons (pv 2) (pa_cons (pv 3) (pa_cons (pv 4) (pa_cons (pv 5) (pa_cons (pv 6) (pa_cons (pv 7) (pa_cons (pv 8) pa_nil)))))))))
      (pss_one (ps_ret (pe_lst (pa_cons (pv 9) (pa_cons (My.pe_stR S_greatest (hr.mono (by decide)) passL (pe_glob (v := .ref C) (by rfl) T.gR rfl) (pa_cons (pv 2) (pa_cons (pv 3) (pa_cons (pv 4) (pa_cons (pv 5) (pa_cons (pv 6) (pa_cons (pv 7) (pa_cons (pv 8) pa_nil)))))))) pa_nil))))))))))))))), ?_⟩
    refine ⟨_, rfl, l, rfl, ⟨_, SqL.of R.l⟩, fun D hD => ?_⟩
    refine lc_list (xs := ps.map V.ref) (fun i Hh => ∃ vs : List V, Hh D = some (.lst vs) ∧ Nums C Hh vs ((m :: r).take i) ∧ Same H Hh) ⟨[], upd_same, ⟨rfl, fun i v n e _ => by cases e⟩, same_new hD⟩ (fun i Hh _ ⟨_, _, _, s⟩ => SqL.of (s _ _ R.l)) ?_ ?_
    · rintro i x Hh hx ⟨vs, g1, g2, g3⟩
      obtain ⟨p, hp, rfl⟩ : ∃ p, ps[i]? = some p ∧ V.ref p = x := by
        rw [List.getElem?_map] at hx
        cases g : ps[i]? with
        | none => rw [g] at hx; cases hx
        | some p =>
          rw [g] at hx
          exact ⟨p, rfl, Option.some.inj hx⟩
      have il : i < (m :: r).length := by
        rw [← R.len]
        exact (List.getElem?_eq_some_iff.mp hp).1
      obtain ⟨n, hn⟩ : ∃ n, (m :: r)[i]? = some n := ⟨_, List.getElem?_eq_getElem il⟩
      have hpn := g3 _ _ (R.at' i p n hp hn)
      have on := R.ok n (List.mem_of_getElem? hn)
      have lv : vs.length = i := by
        rw [g2.1, List.length_take]
        omega
      have l7 : (m :: r).length ≤ 7 := by
        show r.length + 1 ≤ 7
        omega
      have fin : ∀ (v : V) (Hy : Hp), NumAt C Hy v n.1 n.2 → Hy D = some (.lst vs) → Same H Hy → Same Hh Hy → ∃ acc, Hy D = some (.lst acc) ∧ acc.length < sizeLine ∧ ∃ vs' : List V, (upd Hy D (.lst (acc ++ [v]))) D = some (.lst vs') ∧ Nums C (upd Hy D (.lst (acc ++ [v]))) vs' ((m :: r).take (i + 1)) ∧ Same H (upd Hy D (.lst (acc ++ [v]))) := fun v Hy nv gy sy sh => by
        have sD : ∀ q a b, RatAt C Hy q a b → RatAt C (upd Hy D (.lst (vs ++ [v]))) q a b := fun q a b ⟨dx, e⟩ => ⟨dx, by
          rw [upd_ne (fun z => by rw [z, gy] at e; cases e)]
          exact e⟩
        have nD : ∀ u a b, NumAt C Hy u a b → NumAt C (upd Hy D (.lst (vs ++ [v]))) u a b := fun u a b h => h.elim (fun ⟨q, e, h⟩ => .inl ⟨q, e, sD q a b h⟩) .inr
        refine ⟨vs, gy, by rw [lv, sizeLine_eq]; omega, vs ++ [v], upd_same, ⟨?_, fun j u z e1 e2 => ?_⟩, fun b o e => ?_⟩
        · rw [List.length_append, lv, List.length_take]
          show i + 1 = _
          omega
        · rw [List.take_add_one, hn] at e2
          by_cases hj : j < i
          · rw [List.getElem?_append_left (by rw [lv]; exact hj)] at e1
            rw [List.getElem?_append_left (by rw [List.length_take]; omega)] at e2
            obtain ⟨h1, h2⟩ := g2.2 j u z e1 e2
            exact ⟨nD _ _ _ (h1.same sh), h2⟩
          · have hj2 : j = i := by
              have := (List.getElem?_eq_some_iff.mp e1).1
              rw [List.length_append, lv] at this
              have : j < i + 1 := this
              omega
            subst hj2
            rw [List.getElem?_append_right (by rw [lv]; exact Nat.le_refl _), lv, Nat.sub_self] at e1
            rw [List.getElem?_append_right (by rw [List.length_take]; omega), List.length_take, Nat.min_eq_left (by omega), Nat.sub_self] at e2
            cases e1
            cases e2
            exact ⟨nD _ _ _ nv, on⟩
        · rw [upd_ne (ne_of_none e hD)]
          exact sy _ _ e
      refine ⟨rfl, yes_go ?_⟩
      refine ⟨_, rfl, p, _, _, _, rfl, rfl, SqT.of hpn, at1, rfl, _, rfl, ite2 (fun c => ?_) (fun c => ?_)⟩
      · have e1 : n.2 = 1 := V.int.inj (of_decide_eq_true c)
        refine ⟨_, rfl, p, _, _, _, rfl, rfl, SqT.of hpn, at0, ?_⟩
        exact fin _ _ (.inr ⟨rfl, e1⟩) g1 g3 fun _ _ e => e
      · obtain ⟨z1, z2⟩ := low_self on.1 on.2.1
        have pn2 : 0 < n.2 := on.1
        refine ⟨_, rfl, p, _, _, _, rfl, rfl, SqT.of hpn, at0, _, rfl, p, _, _, _, rfl, rfl, SqT.of hpn, at1, fun q dx hx hd ne => init_at (by omega) (Nat.lt_trans on.2.2.2.log (by decide)) hx hd ne fun H1 l1 s1 => ?_⟩
        rw [z1, z2] at l1
        exact fin _ _ (.inl ⟨q, rfl, l1⟩) (s1 _ _ g1) (g3.trans s1) s1
    rintro H1 ⟨vs, g1, g2, g3⟩
    rw [List.length_map, R.len, List.take_length] at g2
    have s0 : Same H1 H1 := fun _ _ e => e
    have both : ∀ (Hy : Hp), Same H1 Hy → Nums C Hy vs (m :: r) := fun Hy s => g2.same s
    have lv : vs.length ≤ 7 := by
      rw [g2.1]
      show r.length + 1 ≤ 7
      omega
    have l0 : 1 ≤ vs.length := by
      rw [g2.1]
      show 1 ≤ r.length + 1
      omega
    have fin : ∀ (q1 q2 : Addr) (H2 H3 : Hp), RatAt C H2 q1 (pickR (fun i j => decide (j < i)) m r).1 (pickR (fun i j => decide (j < i)) m r).2 → RatAt C H3 q2 (pickR (fun i j => decide (i < j)) m r).1 (pickR (fun i j => decide (i < j)) m r).2 → Same H1 H2 → Same H2 H3 → ∀ t, H3 t = none → Q (.ref t) (upd H3 t (.lst [.ref q1, .ref q2])) := fun q1 q2 H2 H3 r1 r2 s12 s23 t ht =>
      k t q1 q2 _ upd_same ((r1.same s23).same (same_new ht)) (r2.same (same_new ht)) ((g3.trans s12).trans (s23.trans (same_new ht)))
    rcases vs with _ | ⟨v1, _ | ⟨v2, _ | ⟨v3, _ | ⟨v4, _ | ⟨v5, _ | ⟨v6, _ | ⟨v7, _ | ⟨v8, vs⟩⟩⟩⟩⟩⟩⟩⟩
    · exact absurd l0 (by decide)
    · refine ⟨_, rfl, _, _, rfl, .inl ⟨_, SqL.of g1, rfl⟩, rfl, _, rfl, ?_⟩
      refine iteT ?_
      exact ⟨rfl, _, rfl, D, _, _, _, rfl, rfl, SqL.of g1, at_of (j := 0) rfl rfl, (by show 1 ≤ 100; decide), .inl ⟨m, r, both _ s0, fun q1 H3 r1 s3 => ⟨rfl, _, rfl, D, _, _, _, rfl, rfl, SqL.of (s3 _ _ g1), at_of (j := 0) rfl rfl, (by show 1 ≤ 100; decide), .inl ⟨m, r, both _ (s0.trans s3), fun q2 H4 r2 s4 => ⟨(by show 2 ≤ sizeLine; decide), fun t ht => fin q1 q2 H3 H4 r1 r2 (s0.trans s3) s4 t ht⟩⟩⟩⟩⟩
    · refine ⟨_, rfl, _, _, rfl, .inl ⟨_, SqL.of g1, rfl⟩, rfl, _, rfl, ?_⟩
      refine iteF ?_
      refine ⟨_, rfl, _, _, rfl, .inl ⟨_, SqL.of g1, rfl⟩, rfl, _, rfl, ?_⟩
      refine iteT ?_
      exact ⟨rfl, _, rfl, D, _, _, _, rfl, rfl, SqL.of g1, at_of (j := 0) rfl rfl, _, rfl, D, _, _, _, rfl, rfl, SqL.of g1, at_of (j := 1) rfl rfl, (by show 2 ≤ 100; decide), .inl ⟨m, r, both _ s0, fun q1 H3 r1 s3 => ⟨rfl, _, rfl, D, _, _, _, rfl, rfl, SqL.of (s3 _ _ g1), at_of (j := 0) rfl rfl, _, rfl, D, _, _, _, rfl, rfl, SqL.of (s3 _ _ g1), at_of (j := 1) rfl rfl, (by show 2 ≤ 100; decide), .inl ⟨m, r, both _ (s0.trans s3), fun q2 H4 r2 s4 => ⟨(by show 2 ≤ sizeLine; decide), fun t ht => fin q1 q2 H3 H4 r1 r2 (s0.trans s3) s4 t ht⟩⟩⟩⟩⟩
    · refine ⟨_, rfl, _, _, rfl, .inl ⟨_, SqL.of g1, rfl⟩, rfl, _, rfl, ?_⟩
      refine iteF ?_
      refine ⟨_, rfl, _, _, rfl, .inl ⟨_, SqL.of g1, rfl⟩, rfl, _, rfl, ?_⟩
      refine iteF ?_
      refine ⟨_, rfl, _, _, rfl, .inl ⟨_, SqL.of g1, rfl⟩, rfl, _, rfl, ?_⟩
      refine iteT ?_
      exact ⟨rfl, _, rfl, D, _, _, _, rfl, rfl, SqL.of g1, at_of (j := 0) rfl rfl, _, rfl, D, _, _, _, rfl, rfl, SqL.of g1, at_of (j := 1) rfl rfl, _, rfl, D, _, _, _, rfl, rfl, SqL.of g1, at_of (j := 2) rfl rfl, (by show 3 ≤ 100; decide), .inl ⟨m, r, both _ s0, fun q1 H3 r1 s3 => ⟨rfl, _, rfl, D, _, _, _, rfl, rfl, SqL.of (s3 _ _ g1), at_of (j := 0) rfl rfl, _, rfl, D, _, _, _, rfl, rfl, SqL.of (s3 _ _ g1), at_of (j := 1) rfl rfl, _, rfl, D, _, _, _, rfl, rfl, SqL.of (s3 _ _ g1), at_of (j := 2) rfl rfl, (by show 3 ≤ 100; decide), .inl ⟨m, r, both _ (s0.trans s3), fun q2 H4 r2 s4 => ⟨(by show 2 ≤ sizeLine; decide), fun t ht => fin q1 q2 H3 H4 r1 r2 (s0.trans s3) s4 t ht⟩⟩⟩⟩⟩
    · refine ⟨_, rfl, _, _, rfl, .inl ⟨_, SqL.of g1, rfl⟩, rfl, _, rfl, ?_⟩
      refine iteF ?_
      refine ⟨_, rfl, _, _, rfl, .inl ⟨_, SqL.of g1, rfl⟩, rfl, _, rfl, ?_⟩
      refine iteF ?_
      refine ⟨_, rfl, _, _, rfl, .inl ⟨_, SqL.of g1, rfl⟩, rfl, _, rfl, ?_⟩
      refine iteF ?_
      refine ⟨_, rfl, _, _, rfl, .inl ⟨_, SqL.of g1, rfl⟩, rfl, _, rfl, ?_⟩
      refine iteT ?_
      refine ⟨_, rfl, D, _, rfl, SqL.of g1, rfl, _, _, rfl, _, _, rfl, _, _, rfl, _, _, rfl, rfl, ?_⟩
      exact ⟨rfl, _, rfl, _, rfl, _, rfl, _, rfl, (by show 4 ≤ 100; decide), .inl ⟨m, r, both _ s0, fun q1 H3 r1 s3 => ⟨rfl, _, rfl, _, rfl, _, rfl, _, rfl, (by show 4 ≤ 100; decide), .inl ⟨m, r, both _ (s0.trans s3), fun q2 H4 r2 s4 => ⟨(by show 2 ≤ sizeLine; decide), fun t ht => fin q1 q2 H3 H4 r1 r2 (s0.trans s3) s4 t ht⟩⟩⟩⟩⟩
    · refine ⟨_, rfl, _, _, rfl, .inl ⟨_, SqL.of g1, rfl⟩, rfl, _, rfl, ?_⟩
      refine iteF ?_
      refine ⟨_, rfl, _, _, rfl, .inl ⟨_, SqL.of g1, rfl⟩, rfl, _, rfl, ?_⟩
      refine iteF ?_
      refine ⟨_, rfl, _, _, rfl, .inl ⟨_, SqL.of g1, rfl⟩, rfl, _, rfl, ?_⟩
      refine iteF ?_
      refine ⟨_, rfl, _, _, rfl, .inl ⟨_, SqL.of g1, rfl⟩, rfl, _, rfl, ?_⟩
      refine iteF ?_
      refine ⟨_, rfl, 5, rfl, D, _, rfl, SqL.of g1, fun l5 h5 => ⟨l5, _, rfl, SqL.of upd_same, rfl, _, _, rfl, _, _, rfl, _, _, rfl, _, _, rfl, _, _, rfl, rfl, ?_⟩⟩
      have s5 : Same H1 (upd H1 l5 _) := same_new (o := .lst (cutV [v1, v2, v3, v4, v5] none (some 5))) h5
      have d5 := s5 _ _ g1
      generalize upd H1 l5 _ = H2 at s5 d5 ⊢
      refine ⟨_, rfl, _, _, rfl, .inl ⟨_, SqL.of d5, rfl⟩, rfl, _, rfl, ?_⟩
      refine iteT ?_
      exact ⟨rfl, _, rfl, _, rfl, _, rfl, _, rfl, _, rfl, (by show 5 ≤ 100; decide), .inl ⟨m, r, both _ s5, fun q1 H3 r1 s3 => ⟨rfl, _, rfl, _, rfl, _, rfl, _, rfl, _, rfl, (by show 5 ≤ 100; decide), .inl ⟨m, r, both _ (s5.trans s3), fun q2 H4 r2 s4 => ⟨(by show 2 ≤ sizeLine; decide), fun t ht => fin q1 q2 H3 H4 r1 r2 (s5.trans s3) s4 t ht⟩⟩⟩⟩⟩
    · refine ⟨_, rfl, _, _, rfl, .inl ⟨_, SqL.of g1, rfl⟩, rfl, _, rfl, ?_⟩
      refine iteF ?_
      refine ⟨_, rfl, _, _, rfl, .inl ⟨_, SqL.of g1, rfl⟩, rfl, _, rfl, ?_⟩
      refine iteF ?_
      refine ⟨_, rfl, _, _, rfl, .inl ⟨_, SqL.of g1, rfl⟩, rfl, _, rfl, ?_⟩
      refine iteF ?_
      refine ⟨_, rfl, _, _, rfl, .inl ⟨_, SqL.of g1, rfl⟩, rfl, _, rfl, ?_⟩
      refine iteF ?_
      refine ⟨_, rfl, 5, rfl, D, _, rfl, SqL.of g1, fun l5 h5 => ⟨l5, _, rfl, SqL.of upd_same, rfl, _, _, rfl, _, _, rfl, _, _, rfl, _, _, rfl, _, _, rfl, rfl, ?_⟩⟩
      have s5 : Same H1 (upd H1 l5 _) := same_new (o := .lst (cutV [v1, v2, v3, v4, v5, v6] none (some 5))) h5
      have d5 := s5 _ _ g1
      generalize upd H1 l5 _ = H2 at s5 d5 ⊢
      refine ⟨_, rfl, _, _, rfl, .inl ⟨_, SqL.of d5, rfl⟩, rfl, _, rfl, ?_⟩
      refine iteF ?_
      refine ⟨_, rfl, D, _, _, _, rfl, rfl, SqL.of d5, at_of (j := 5) rfl rfl, _, rfl, _, rfl, D, _, _, _, rfl, rfl, SqL.of d5, (rfl : atI [v1, v2, v3, v4, v5, v6] (-1 : Int) = some v6), _, _, rfl, ?_⟩
      refine ⟨_, rfl, _, _, rfl, .inl ⟨_, SqL.of d5, rfl⟩, rfl, _, rfl, ?_⟩
      refine iteT ?_
      exact ⟨rfl, _, rfl, _, rfl, _, rfl, _, rfl, _, rfl, _, rfl, (by show 6 ≤ 100; decide), .inl ⟨m, r, both _ s5, fun q1 H3 r1 s3 => ⟨rfl, _, rfl, _, rfl, _, rfl, _, rfl, _, rfl, _, rfl, (by show 6 ≤ 100; decide), .inl ⟨m, r, both _ (s5.trans s3), fun q2 H4 r2 s4 => ⟨(by show 2 ≤ sizeLine; decide), fun t ht => fin q1 q2 H3 H4 r1 r2 (s5.trans s3) s4 t ht⟩⟩⟩⟩⟩
    · refine ⟨_, rfl, _, _, rfl, .inl ⟨_, SqL.of g1, rfl⟩, rfl, _, rfl, ?_⟩
      refine iteF ?_
      refine ⟨_, rfl, _, _, rfl, .inl ⟨_, SqL.of g1, rfl⟩, rfl, _, rfl, ?_⟩
      refine iteF ?_
      refine ⟨_, rfl, _, _, rfl, .inl ⟨_, SqL.of g1, rfl⟩, rfl, _, rfl, ?_⟩
      refine iteF ?_
      refine ⟨_, rfl, _, _, rfl, .inl ⟨_, SqL.of g1, rfl⟩, rfl, _, rfl, ?_⟩
      refine iteF ?_
      refine ⟨_, rfl, 5, rfl, D, _, rfl, SqL.of g1, fun l5 h5 => ⟨l5, _, rfl, SqL.of upd_same, rfl, _, _, rfl, _, _, rfl, _, _, rfl, _, _, rfl, _, _, rfl, rfl, ?_⟩⟩
      have s5 : Same H1 (upd H1 l5 _) := same_new (o := .lst (cutV [v1, v2, v3, v4, v5, v6, v7] none (some 5))) h5
      have d5 := s5 _ _ g1
      generalize upd H1 l5 _ = H2 at s5 d5 ⊢
      refine ⟨_, rfl, _, _, rfl, .inl ⟨_, SqL.of d5, rfl⟩, rfl, _, rfl, ?_⟩
      refine iteF ?_
      refine ⟨_, rfl, D, _, _, _, rfl, rfl, SqL.of d5, at_of (j := 5) rfl rfl, _, rfl, _, rfl, D, _, _, _, rfl, rfl, SqL.of d5, (rfl : atI [v1, v2, v3, v4, v5, v6, v7] (-1 : Int) = some v7), _, _, rfl, ?_⟩
      refine ⟨_, rfl, _, _, rfl, .inl ⟨_, SqL.of d5, rfl⟩, rfl, _, rfl, ?_⟩
      refine iteF ?_
      exact ⟨rfl, _, rfl, _, rfl, _, rfl, _, rfl, _, rfl, _, rfl, _, rfl, (by show 7 ≤ 100; decide), .inl ⟨m, r, both _ s5, fun q1 H3 r1 s3 => ⟨_, rfl, rfl, _, rfl, _, rfl, _, rfl, _, rfl, _, rfl, _, rfl, _, rfl, (by show 7 ≤ 100; decide), .inl ⟨m, r, both _ (s5.trans s3), fun q2 H4 r2 s4 => ⟨(by show 2 ≤ sizeLine; decide), fun t ht => fin q1 q2 H3 H4 r1 r2 (s5.trans s3) s4 t ht⟩⟩⟩⟩⟩
    · exfalso
      have : vs.length + 8 ≤ 7 := lv
      omega
end
end My
set_option pp.maxSteps 1500
set_option pp.deepTerms.threshold 8
/-! ### a row of numbers -/
namespace My
open PySem PySem.Spec PyProof.Rows L2 TX
abbrev s_lrow : Stmt := topS 23
theorem sc_lrow : FnScope ["_law_pen_here", "_law_found", "_law_k", "_law_top", "_law_bottom", "_law_last"] ["_law_pen_here"] (defScope s_lrow) := ⟨rfl, rfl, rfl, by decide +kernel, rfl, by decide +kernel, by decide +kernel⟩
/-- lowest terms, below 10 ** 60 -/
def okW (n : Int × Int) : Prop := 0 < n.2 ∧ Int.gcd n.1 n.2 = 1 ∧ n.1.natAbs < 10 ^ 60 ∧ n.2.natAbs < 10 ^ 60
theorem okW.r {n : Int × Int} (h : okW n) : okR n := ⟨h.1, h.2.1, Nat.lt_trans h.2.2.1 (by decide +kernel), Nat.lt_trans h.2.2.2 (by decide +kernel)⟩
structure WTx (mg : Str → Option Value) : Prop extends BI mg where
  z_max : mg "max" = none
theorem at_last {xs : List V} {x : V} (h : xs[xs.length - 1]? = some x) : atI xs (-1 : Int) = some x := by
  have h0 : xs.length - 1 < xs.length := (List.getElem?_eq_some_iff.mp h).1
  unfold atI ixN
  rw [if_neg (by decide), if_pos (by omega)]
  show xs[((-1 : Int) + (xs.length : Nat)).toNat]? = some x
  have e : ((-1 : Int) + (xs.length : Nat)).toNat = xs.length - 1 := by omega
  rw [e]
  exact h
def rowD (ns : List (Int × Int)) : List PyData := ns.map fun n => PyData.tuple [.int n.1, .int n.2]
theorem row_dp {K : PySem.W.Frag} {H : Hp} : ∀ (ps : List Addr) (ns : List (Int × Int)), ps.length = ns.length → (∀ (i : Nat) p n, ps[i]? = some p → ns[i]? = some n → H p = some (.tup [.int n.1, .int n.2])) → DpAll K H (ps.map V.ref) (rowD ns)
  | [], [], _, _ => .nil
  | p :: ps, n :: ns, h, a => .cons (.tup (SqT.of (a 0 p n rfl rfl)) (.cons (.int _) (.cons (.int _) .nil))) (row_dp ps ns (Nat.succ.inj h) fun i q m e1 e2 => a (i + 1) q m e1 e2)
theorem row_plain : ∀ ns : List (Int × Int), PyData.plainAll (rowD ns) = true
  | [] => rfl
  | n :: ns => by
    show (true && PyData.plainAll (rowD ns)) = true
    rw [row_plain ns]
    rfl
def spLrow : Sp := fun vs H Q _ => ∃ (pn : Addr) (n : Nat), vs = [.ref pn] ∧ PenAt H pn n ∧ n < 60000 ∧ ∀ (l : Addr) (ps : List Addr) (ns : List (Int × Int)) (H' : Hp), RowAt H' l ps ns → 1 ≤ ns.length → ns.length ≤ 7 → (∀ x ∈ ns, okW x) → PenAt H' pn (n + 200) → But pn H H' → l ≠ pn → (∀ p ∈ ps, p ≠ pn) → Q (.ref l) H'
section
variable {P : Program} {w : World} {K : PySem.W.Frag} {mg : Str → Option Value} {base : Heap}
theorem ok_lrow {f : Addr} {fd : FuncData} (F : Fun K "_law_row" "_law_row" s_lrow f fd) (T : WTx mg) (D_draw : DefAt P w K mg base CX0 1 "_law_draw" ["_law_pen_here", "_law_many"] spDrawC) (D_pair : DefAt P w K mg base CX0 4 "_law_pair" ["_law_pen_here"] spPairL) (D_lowest : DefAt P w K mg base CX0 1 "_law_lowest" ["_law_top", "_law_bottom"] spLowest) : FnOk P w K mg base CX0 5 f fd ["_law_pen_here"] spLrow := by
  refine F.ok sc_lrow (fun vs H Q E h => ?_) (fun cdv A outer s H vs Q E hr h => ?_)
  · obtain ⟨pn, n, rfl, _⟩ := h
    rfl
  · obtain ⟨pn, n, rfl, hp, hn, k⟩ := h
    refine ⟨_, (pss_cons (ps_set (i := 1) sc_lrow.nd rfl (Or.inl rfl) (pe_lst pa_nil))
      (pss_cons (ps_for PassesOwn.never rfl (pi_range1 rfl T.z_range (pa_cons (pe_op op_add pe_int (My.pe_d D_draw (hr.mono (by decide)) (by rfl) pass0 (pa_cons (pv 0) (pa_cons pe_int pa_nil)))) pa_nil)) (pg_name (i := 2) sc_lrow.nd rfl (Or.inl rfl)) (pss_cons (ps_asg (My.pe_d D_pair (hr.mono (by decide)) (by rfl) pass0 (pa_cons (pv 0) pa_nil)) (pg_tup rfl (pgs_cons (pg_name (i := 3) sc_lrow.nd rfl (Or.inl rfl)) (pgs_cons (pg_name (i := 4) sc_lrow.nd rfl (Or.inl rfl)) pgs_nil))))
      (C8.pss_cut (ps_if (PW.pt (pw_and (pt_cmpR (My.op_neP hr.units) (pv 1) (pe_lst pa_nil) (nomark _)) (pw_and (pt_cmpR op_eq (My.pe_d D_draw (hr.mono (by decide)) (by rfl) pass0 (pa_cons (pv 0) (pa_cons pe_int pa_nil))) pe_int (nomark _)) (pw_and1 (pt_cmpR op_lt (pe_callB (call_max2 rfl) (by rfl) T.z_max boot_max (pa_cons (pe_callTy call_int1 (by rfl) T.z_int boot_int (pa_cons (pe_callB call_abs (by rfl) T.z_abs boot_abs (pa_cons (pe_ix ix_tup (pe_ix ix_list (pv 1) (pe_un un_neg pe_int) (fun _ _ => rfl)) pe_int (fun _ _ => rfl)) pa_nil)) pa_nil)) (pa_cons (pe_callTy call_int1 (by rfl) T.z_int boot_int (pa_cons (pe_ix ix_tup (pe_ix ix_list (pv 1) (pe_un un_neg pe_int) (fun _ _ => rfl)) pe_int (fun _ _ => rfl)) pa_nil)) pa_nil))) (pe_op op_pow pe_int pe_int) (nomark _)))))) (pss_cons (ps_set (i := 5) sc_lrow.nd rfl (Or.inl rfl) (pe_ix ix_list (pv 1) (pe_un un_neg pe_int) (fun _ _ => rfl)))
      (pss_one (ps_par (i := 3) (j := 4) (by rfl) sc_lrow.nd rfl rfl (by decide) rfl rfl (pa_cons (pe_op op_sub (pe_op op_add (pe_op op_mulW (pe_ix ix_tup (pv 5) pe_int (fun _ _ => rfl)) pe_int) (My.pe_d D_draw (hr.mono (by decide)) (by rfl) pass0 (pa_cons (pv 0) (pa_cons pe_int pa_nil)))) pe_int) (pa_cons (pe_op op_mulW (pe_ix ix_tup (pv 5) pe_int (fun _ _ => rfl)) pe_int) pa_nil)) (by rfl)))) pss_nil)
      (pss_one (ps_expr (pe_bm PySem.F.plainAttrs_list PySem.F.slot_list_append PySem.F.type_list_append mt_append (pv 1) (pa_cons (My.pe_d D_lowest (hr.mono (by decide)) (by rfl) pass0 (pa_cons (pv 3) (pa_cons (pv 4) pa_nil))) pa_nil)))))))
      (pss_one (ps_ret (pv 1))))), ?_⟩
    refine ⟨(by show 0 ≤ sizeLine; decide), fun D hD => ?_⟩
    have nD := pen_ne hp hD
    obtain ⟨cl, hc⟩ := hp.cells
    have ncD : cl ≠ D := by
      obtain ⟨ns, x, r, g1, g2, _⟩ := hc
      exact ne_of_none g2 hD
    have p1 := hc.same (same_new (o := .lst []) hD)
    refine ⟨_, rfl, pn, cl, 7, n, rfl, by decide, by decide, p1, by omega, fun d H2 a2 b2 p2 u2 => ?_⟩
    have D2 := u2 _ _ (upd_same (H := H) (a := D) (o := .lst [])) nD
    have u2 : But pn H H2 := (But.new hD).trans u2
    refine ⟨_, _, rfl, rfl, _, rfl, by omega, by omega, for_range (fun i σ Hz => ∃ (ps : List Addr) (ns : List (Int × Int)) (v2 v3 v4 v5 : Option V), σ = [some (.ref pn), some (.ref D), v2, v3, v4, v5] ∧ RowAt Hz D ps ns ∧ ns.length = i ∧ (∀ x ∈ ns, okW x) ∧ PenC Hz pn cl (n + 1 + 20 * i) ∧ But pn H Hz ∧ (∀ p ∈ ps, p ≠ pn ∧ p ≠ D)) ⟨[], [], none, none, none, none, rfl, ⟨D2, rfl, (fun i p m e _ => by cases e), (fun m h => nomatch h)⟩, rfl, (fun m h => nomatch h), p2, u2, (fun p h => nomatch h)⟩ ?_ ?_⟩
    · rintro i σ Hz hi ⟨ps, ns, v2, v3, v4, v5, rfl, R, ln, ok, pz, uz, away⟩
      refine ⟨_, rfl, pn, cl, _, rfl, pz, by omega, fun t b tp H3 wt wb b0 htp0 htp p3 u3 => ?_⟩
      have ntp : tp ≠ pn := pen_ne pz.pen htp0
      have R3 : RowAt H3 D ps ns := ⟨u3 _ _ R.l nD, R.len, fun j q m e1 e2 => u3 _ _ (R.at' j q m e1 e2) (away q (List.mem_of_getElem? e1)).1, R.ok⟩
      have u3 : But pn H H3 := uz.trans u3
      refine ⟨tp, _, rfl, SqT.of htp, rfl, _, _, rfl, _, _, rfl, rfl, ?_⟩
      refine ⟨fun σ Hy => ∃ (t' b' : Int) (v5' : Option V), σ = [some (.ref pn), some (.ref D), some (.int (0 + (i : Nat))), some (.int t'), some (.int b'), v5'] ∧ b' ≠ 0 ∧ t'.natAbs < 10 ^ 60 ∧ b'.natAbs < 10 ^ 60 ∧ RowAt Hy D ps ns ∧ PenC Hy pn cl (n + 1 + 20 * i + 16) ∧ But pn H Hy, ?_, ?_⟩
      · refine ⟨_, rfl, (by show 0 ≤ sizeLine; decide), fun l4 g4 => ?_⟩
        have s4 := same_new (o := .lst []) g4
        have R4 := R3.same s4
        have p4 := p3.same s4
        have u4 : But pn H (upd H3 l4 (.lst [])) := u3.trans (but_same s4)
        refine ⟨.list (rowD ns), .list [], .lst (SqL.of R4.l) (row_dp ps ns R4.len R4.at'), .lst (SqL.of upd_same) .nil, row_plain ns, rfl, Nat.le_trans (Nat.min_le_right _ _) (by decide), ?_⟩
        generalize upd H3 l4 (.lst []) = H4 at R4 p4 u4
        have eW : (10 : Int) ^ 58 = 10000000000000000000000000000000000000000000000000000000000 := by decide +kernel
        have eN : (10 : Nat) ^ 60 = 1000000000000000000000000000000000000000000000000000000000000 := by decide +kernel
        have keep : ∀ Hy, RowAt Hy D ps ns → PenC Hy pn cl (n + 1 + 20 * i + 16) → But pn H Hy → ∃ (t' b' : Int) (v5' : Option V), [some (.ref pn), some (.ref D), some (.int (0 + (i : Nat))), some (.int t), some (.int b), v5] = [some (.ref pn), some (.ref D), some (.int (0 + (i : Nat))), some (.int t'), some (.int b'), v5'] ∧ b' ≠ 0 ∧ t'.natAbs < 10 ^ 60 ∧ b'.natAbs < 10 ^ 60 ∧ RowAt Hy D ps ns ∧ PenC Hy pn cl (n + 1 + 20 * i + 16) ∧ But pn H Hy := fun Hy R p u => by
          obtain ⟨x1, x2⟩ := wt
          obtain ⟨x3, x4⟩ := wb
          rw [eW] at x1 x2 x3 x4
          rw [eN]
          exact ⟨t, b, v5, rfl, b0, by omega, by omega, R, p, u⟩
        rcases ns with _ | ⟨m, r⟩
        · have e : (!PyData.eqv (.list (rowD [])) (.list [])) = false := by decide +kernel
          rw [e]
          exact ⟨_, rfl, iteF (keep _ R4 (p4.le8 (by omega)) u4)⟩
        have e : (!PyData.eqv (.list (rowD (m :: r))) (.list [])) = true := rfl
        rw [e]
        refine ⟨_, rfl, iteT ?_⟩
        refine ⟨_, rfl, pn, cl, 2, _, rfl, by decide, by decide, p4, by omega, fun d5 H5 a5 b5 p5 u5 => ⟨rfl, _, rfl, ?_⟩⟩
        have nl4 : D ≠ pn := nD
        have R5 : RowAt H5 D ps (m :: r) := ⟨u5 _ _ R4.l nD, R4.len, fun j q x e1 e2 => u5 _ _ (R4.at' j q x e1 e2) (away q (List.mem_of_getElem? e1)).1, R4.ok⟩
        have u5 : But pn H H5 := u4.trans u5
        refine ite2 (fun c => ?_) (fun c => iteF (keep _ R5 (p5.le8 (by omega)) u5))
        obtain ⟨lp, hlp⟩ : ∃ lp, ps[ps.length - 1]? = some lp := ⟨_, List.getElem?_eq_getElem (by have := R5.len; rw [List.length_cons] at this; omega)⟩
        obtain ⟨⟨la, lb⟩, hln⟩ : ∃ x, (m :: r)[ps.length - 1]? = some x := ⟨_, List.getElem?_eq_getElem (by have := R5.len; rw [List.length_cons] at this ⊢; omega)⟩
        have lt5 := R5.at' _ _ _ hlp hln
        have lok := ok _ (List.mem_of_getElem? hln)
        have la5 : atI (ps.map V.ref) (-1 : Int) = some (.ref lp) := at_last (by rw [List.length_map, List.getElem?_map, hlp]; rfl)
        refine ⟨_, rfl, _, rfl, D, _, _, _, rfl, rfl, SqL.of R5.l, la5, lp, _, _, _, rfl, rfl, SqT.of lt5, at0, ?_⟩
        refine ⟨la, rfl, .inl ⟨_, rfl, ?_⟩⟩
        refine ⟨_, rfl, _, rfl, D, _, _, _, rfl, rfl, SqL.of R5.l, la5, lp, _, _, _, rfl, rfl, SqT.of lt5, at1, ?_⟩
        refine .inl ⟨_, rfl, ?_⟩
        refine ⟨_, _, rfl, ?_⟩
        refine ⟨_, _, rfl, rfl, ⟨by decide, by decide, by decide⟩, _, _, rfl, rfl, _, rfl, ite2 (fun c6 => ?_) (fun c6 => keep _ R5 (p5.le8 (by omega)) u5)⟩
        have c6 := of_decide_eq_true c6
        refine ⟨_, rfl, _, rfl, D, _, _, _, rfl, rfl, SqL.of R5.l, la5, ?_⟩
        refine ⟨_, rfl, lp, _, _, _, rfl, rfl, SqT.of lt5, at0, _, _, rfl, rfl, ?_⟩
        have seven : Sm 7 := by show (7 : Int).natAbs < 2 ^ 300; decide +kernel
        have lr := lok.r
        have u5' : But pn H5 H5 := fun _ _ e _ => e
        refine ⟨Sm.mul lr.2.2.1 seven, _, rfl, pn, cl, 3, _, rfl, by decide, by decide, p5, by omega, fun d7 H7 a7 b7 p7 u7 => ?_⟩
        have R7 : RowAt H7 D ps (m :: r) := ⟨u7 _ _ R5.l nD, R5.len, fun j q x e1 e2 => u7 _ _ (R5.at' j q x e1 e2) (away q (List.mem_of_getElem? e1)).1, R5.ok⟩
        have lt7 := R7.at' _ _ _ hlp hln
        refine ⟨_, _, rfl, rfl, _, _, rfl, rfl, ?_⟩
        refine ⟨_, rfl, lp, _, _, _, rfl, rfl, SqT.of lt7, at1, _, _, rfl, rfl, Sm.mul lr.2.2.2 seven, _, _, rfl, ?_⟩
        have e58 : (10 : Int) ^ Int.toNat 58 = 10000000000000000000000000000000000000000000000000000000000 := by decide +kernel
        have pb : 0 < lb := lok.1
        rw [e58] at c6
        have c6 : (if lb > (if la < 0 then -la else la) then lb else (if la < 0 then -la else la)) < 10000000000000000000000000000000000000000000000000000000000 := c6
        have c7 : la.natAbs < 10000000000000000000000000000000000000000000000000000000000 ∧ lb < 10000000000000000000000000000000000000000000000000000000000 := by
          split at c6 <;> split at c6 <;> omega
        rw [eN]
        exact ⟨_, _, _, rfl, (by show lb * 7 ≠ 0; omega), (by show (la * 7 + d7 - 1).natAbs < _; omega), (by show (lb * 7).natAbs < _; omega), R7, p7.le8 (by omega), u5.trans u7⟩
      rintro σ Hy ⟨t', b', v5', rfl, hb', lt', lb', Ry, py, uy⟩
      refine ⟨_, rfl, .inl ⟨rfl, _, SqL.of Ry.l⟩, _, rfl, _, rfl, t', b', rfl, hb', ?_, fun pp hpp => ?_⟩
      · exact Nat.lt_trans (PySem.Flt.log2_lt_of (k := 200) (by decide) (Nat.lt_trans lb' (by decide +kernel))) (by decide)
      have nD2 : pp ≠ D := fun z => by
        rw [z, Ry.l] at hpp
        cases hpp
      have npn : pp ≠ pn := pen_ne py.pen hpp
      have lps : ps.length = i := Ry.len.trans ln
      refine ⟨D, ps.map V.ref, .ref pp, rfl, rfl, ?_, by rw [List.length_map, sizeLine_eq]; omega, ?_⟩
      · rw [upd_ne (Ne.symm nD2)]
        exact Ry.l
      have pl : 0 < lowB t' b' := lowB_pos hb'
      have aT : (lowT t' b').natAbs ≤ t'.natAbs := lowT_abs hb'
      have aB : (lowB t' b').natAbs ≤ b'.natAbs := lowB_abs hb'
      have okn : okW (lowT t' b', lowB t' b') := ⟨pl, low_cop hb', Nat.lt_of_le_of_lt aT lt', Nat.lt_of_le_of_lt aB lb'⟩
      refine ⟨ps ++ [pp], ns ++ [(lowT t' b', lowB t' b')], _, _, _, _, rfl, ⟨?_, ?_, fun j q x e1 e2 => ?_, fun x hx => ?_⟩, ?_, fun x hx => ?_, ?_, fun c o e ne => ?_, fun q hq => ?_⟩
      · rw [List.map_append]
        exact upd_same
      · rw [List.length_append, List.length_append, Ry.len]
        rfl
      · by_cases hj : j < i
        · rw [List.getElem?_append_left (by omega)] at e1 e2
          have hq := Ry.at' j q x e1 e2
          have aw := away q (List.mem_of_getElem? e1)
          rw [upd_ne aw.2, upd_ne (fun z => by rw [z, hpp] at hq; cases hq)]
          exact hq
        · have hj2 : j = i := by
            have := (List.getElem?_eq_some_iff.mp e1).1
            rw [List.length_append, lps] at this
            have : j < i + 1 := this
            omega
          subst hj2
          rw [List.getElem?_append_right (by omega), lps, Nat.sub_self] at e1
          rw [List.getElem?_append_right (by omega), ln, Nat.sub_self] at e2
          cases e1
          cases e2
          rw [upd_ne nD2]
          exact upd_same
      · rcases List.mem_append.mp hx with hx | hx
        · exact Ry.ok x hx
        · rw [List.mem_singleton.mp hx]
          exact okn.r
      · rw [List.length_append, ln]
        rfl
      · rcases List.mem_append.mp hx with hx | hx
        · exact ok x hx
        · rw [List.mem_singleton.mp hx]
          exact okn
      · exact ((py.same (same_new hpp)).put (Ne.symm nD) ncD).le8 (by omega)
      · have e2 := uy c o e ne
        rw [upd_ne (ne_of_none e hD), upd_ne (ne_of_none e2 hpp)]
        exact e2
      · rcases List.mem_append.mp hq with hq | hq
        · exact away q hq
        · rw [List.mem_singleton.mp hq]
          exact ⟨npn, nD2⟩
    rintro σ Hz ⟨ps, ns, v2, v3, v4, v5, rfl, R, ln, ok, pz, uz, away⟩
    refine ⟨_, rfl, k D ps ns Hz R (by omega) (by omega) ok (pz.le8 (by omega)).pen uz nD fun p hp => (away p hp).1⟩
end
end My
/-! A text times an int. -/
namespace My
open PySem PySem.Spec PyProof.Rows L2
def mulS (a : Str) (n : Nat) : Str := ⟨(List.replicate n a.cps).foldl (· ++ ·) #[]⟩
def rMulS : R2 := fun x y H Q => ∃ a n, x = .str a ∧ y = .int n ∧ 2 ≤ n ∧ n ≤ 1000 ∧ 1 ≤ a.length ∧ a.length ≤ 1000 ∧ (mulS a n.toNat).length ≤ sizeLine ∧ Q (.str (mulS a n.toNat)) H
theorem op_mulS {X : Cx} : OpR X (binaryOp .Mult) rMulS := by
  intro pins s σ H x y v u Q I rx ry h
  obtain ⟨a, n, rfl, rfl, n1, n2, a1, a2, hz, q⟩ := h
  obtain ⟨t, rfl⟩ := rx
  obtain ⟨t', rfl⟩ := ry
  have e1 : (n == 1 || a.length == 0) = false := by
    rw [Bool.or_eq_false_iff, beq_eq_false_iff_ne, beq_eq_false_iff_ne]
    exact ⟨by omega, by omega⟩
  have hlo : ¬ n < -(2 ^ 63 : Int) := by omega
  have h2 : ¬ n ≥ 2 ^ 63 := by omega
  have hd : (2 ^ 63 - 1 : Int) / n ≥ 1000 := by
    have : (1000 : Int) * n ≤ 2 ^ 63 - 1 := by omega
    exact (Int.le_ediv_iff_mul_le (by omega)).mpr this
  have hl : a.length * n.toNat ≤ 1000000 := by
    have := Nat.mul_le_mul a2 (show n.toNat ≤ 1000 by omega)
    omega
  refine P.mul_str (by rw [decide_eq_false hlo, decide_eq_false h2]; rfl) (fun _ _ => by omega) (fun _ _ => ?_) ?_
  · unfold Builtin.Str.tooLong
    have hs := sizeLine_eq
    first | exact decide_eq_false (by omega) | simp; omega
  · rw [if_neg (show ¬ n < 1 by omega), e1, if_neg (by decide)]
    first
      | exact ⟨hz, ⟨.str (mulS a n.toNat), H, I.tok _, ⟨_, rfl⟩, q⟩⟩
      | exact ⟨.str (mulS a n.toNat), H, I.tok _, ⟨_, rfl⟩, q⟩
end My
set_option pp.maxSteps 1500
set_option pp.deepTerms.threshold 8
/-! ### texts of a number -/
namespace My
open PySem PySem.Spec PyProof.Rows L2 TX
abbrev s_textsR : Stmt := topS 29
theorem sc_textsR : FnScope ["_law_pen_here", "_law_pair_here", "_law_page", "_law_made", "_law_spot", "_law_sign", "_law_some", "_law_one", "_law_heard_here", "_law_odd"] ["_law_pen_here", "_law_pair_here"] (defScope s_textsR) := ⟨rfl, rfl, rfl, by decide +kernel, rfl, by decide +kernel, by decide +kernel⟩
theorem heardT {CB CT : Addr} {H : Hp} {Q : VK} (k : ∀ t H', Same H H' → H' t = some (.tup [.str "text", .int 0, .int 0]) → Q (.ref t) H') : ErrT (WHeard CB CT Q) CT 0 H :=
  fun d H' hd hx s => .inr (.inl ⟨d, .int 0, .int 0, rfl, rfl, hx, fun t ht => k t _ (s.trans (same_new ht)) upd_same⟩)
def badD : PyData := .tuple [.str "text", .int 0, .int 0]
theorem bad_dp {K : PySem.W.Frag} {H : Hp} {t : Addr} (h : H t = some (.tup [.str "text", .int 0, .int 0])) : Dp K H (.ref t) badD := .tup (SqT.of h) (.cons (.str _) (.cons (.int _) (.cons (.int _) .nil)))
theorem one_dp {K : PySem.W.Frag} {H : Hp} {t : Addr} {x : Str} (h : H t = some (.lst [.str x])) : Dp K H (.ref t) (.list [.str x]) := .lst (SqL.of h) (.cons (.str _) .nil)
theorem mem_strs {v : V} {zs : List Str} (h : v ∈ zs.map V.str) : ∃ z, v = .str z ∧ z ∈ zs := by
  obtain ⟨z, hz, e⟩ := List.mem_map.mp h
  exact ⟨z, e.symm, hz⟩
theorem PenAt.ext9 {H H' : Hp} {pn : Addr} {n : Nat} (h : PenAt H pn n) (k : LamX.ExtN H H') : PenAt H' pn n := by
  obtain ⟨cl, ns, a, r, e1, e2, h3⟩ := h
  exact ⟨cl, ns, a, r, k _ _ e1 (by intro ps z; cases z), k _ _ e2 (by intro ps z; cases z), h3⟩
theorem ite_sameL {a b : Str} (e : TL.tl a = TL.tl b) {A B : Prop} (h : B) : if (!decide (V.str a = V.str b)) = true then A else B := by
  rw [TL.ext_tl e, decide_eq_true rfl]
  exact iteF h
theorem read_back {l : List Nat} {a b : Int} (h : RT.readR l = some (a, b)) : RT.txt a b = l := by
  unfold RT.readR at h
  cases e : RT.partsR (TL.spl [47] 0 [] l) with
  | none =>
    rw [e] at h
    cases h
  | some x =>
    obtain ⟨t, d⟩ := x
    rw [e] at h
    have h : (if RT.txt (lowT t d) (lowB t d) = l then some (lowT t d, lowB t d) else none) = some (a, b) := h
    by_cases c : RT.txt (lowT t d) (lowB t d) = l
    · rw [if_pos c] at h
      cases h
      exact c
    · rw [if_neg c] at h
      cases h
theorem cut_two {x : Str} {d e : Int} (h0 : 0 ≤ d) (h1 : d ≤ e) : (cutS x none (some d)).length + (cutS x (some e) none).length ≤ x.length := by
  obtain ⟨a, rfl⟩ : ∃ a : Nat, d = a := ⟨d.toNat, by omega⟩
  obtain ⟨b, rfl⟩ : ∃ b : Nat, e = b := ⟨e.toNat, by omega⟩
  rw [TL.len_tl, TL.len_tl]
  show (((TL.tl x).drop 0).take (HT.sIx x.length x.length (some ((a : Nat) : Int)) - 0)).length + (((TL.tl x).drop (HT.sIx x.length 0 (some ((b : Nat) : Int)))).take (HT.sIx x.length x.length none - HT.sIx x.length 0 (some ((b : Nat) : Int)))).length ≤ _
  rw [HT.sIx_nat, HT.sIx_nat, HT.sIx_none, TL.len_tl, List.length_take, List.length_take, List.length_drop, List.length_drop]
  omega
def signs8 : List Str := ["0", "3", "-", "/", " ", "+", ".", "/1", "\n"]
theorem signs8_len : ∀ y ∈ signs8, y.length ≤ 3 := by decide +kernel
theorem odd_of {C : Addr} {H : Hp} {v : V} {t1 t2 t3 p : Addr} {a b : Int} (h1 : H t1 = some (.tup [.str "1"])) (h2 : H t2 = some (.lst [.str "1"])) (h3 : H t3 = some (.dK [])) (hp : RatAt C H p a b)
    (hv : v ∈ [V.non, .int 3, .bl true, .ref t1, .ref t2, .ref p, .ref t3, .int (10 ^ Int.toNat 20)]) : TyL C H v ∧ shortV v ∧ readV v = none := by
  simp only [List.mem_cons, List.mem_nil_iff, or_false] at hv
  rcases hv with rfl | rfl | rfl | rfl | rfl | rfl | rfl | rfl
  · exact ⟨.inl ⟨_, .non⟩, trivial, rfl⟩
  · exact ⟨.inl ⟨_, .int _⟩, trivial, rfl⟩
  · exact ⟨.inl ⟨_, .bl _⟩, trivial, rfl⟩
  · exact ⟨.inl ⟨_, .tup h1⟩, trivial, rfl⟩
  · exact ⟨.inl ⟨_, .lst h2⟩, trivial, rfl⟩
  · exact ⟨hp.tyl, trivial, rfl⟩
  · exact ⟨.inl ⟨_, .dK h3⟩, trivial, rfl⟩
  · exact ⟨.inl ⟨_, .int _⟩, trivial, rfl⟩
def fixed8 : List Str := ["", "-", "/", "1/0", "0/5", "-0", "2/4", "1/-2", "+1"]
theorem fixed8_len : ∀ y ∈ fixed8, y.length ≤ 5000 := by decide +kernel
def spTextsR (K : PySem.W.Frag) (TS : List (Addr × Str)) : Sp := fun vs H Q _ => ∃ (pn p : Addr) (n : Nat) (a b : Int), vs = [.ref pn, .ref p] ∧ PenAt H pn n ∧ n < 60000 ∧ SqT K H p [.int a, .int b] ∧ okW (a, b) ∧ LamX.Tabs TS H ∧ ∀ H', PenAt H' pn (n + 3) → LamX.Tabs TS H' → Q (.bl true) H'
section
variable {P : Program} {w : World} {K : PySem.W.Frag} {mg : Str → Option Value} {base : Heap} {CE C CB fB CN CT fT : Addr} {tM : Tok}
theorem ok_textsR {f c tb : Addr} {fd : FuncData} {TS : List (Addr × Str)} (F : FunC K "_law_texts_right" "_law_texts_right" s_textsR f fd c) (T : RTy P K mg C CB fB CN CT fT tM) (TH : HTx P K mg CE CB fB CT fT) (DH : HeardAt K mg) (ne0 : PySem.W.findIn K (.ref C) "__ne__" = some (some (.builtin "object.__ne__")))
    (TB : LamX.TabB base mg c tb) (hmT : (tb, (("_law_texts_right" : Str) ++ ".<locals>.") ++ "<lambda>") ∈ TS) (hu : ∀ p ∈ TS, p.1 = tb → p.2 = (("_law_texts_right" : Str) ++ ".<locals>.") ++ "<lambda>")
    (D_draw : DefAt P w K mg base CX0 1 "_law_draw" ["_law_pen_here", "_law_many"] spDraw) (D_pick : DefAt P w K mg base CX0 2 "_law_pick" ["_law_pen_here", "_law_some"] spPick)
    (D_lline : DefAt P w K mg base CX0 1 "_law_line" ["_law_pair_here"] (spLlineR K)) (D_isline : DefAt P w K mg base CX0 2 "_law_is_line" ["_law_page"] spIsline)
    (M_Ratio : MakeAt P w K mg base (L2.CX P w) 3 "Ratio" C ["self", "top", "bottom"] (spInit C CB CN) []) (M_Ratio1 : MakeAt P w K mg base (L2.CX P w) 3 "Ratio" C ["self", "top", "bottom"] (spInit C CB CN) [.int 1])
    (K_read : ClsAt P w K mg base (L2.CX P w) 6 C "read" (spReadR C CT)) (KK_read : ClsK P w K mg base (L2.CX P w) 6 C "read" ["cls", "text"] ["text"] (spReadR C CT) gApp)
    (CE_eq : CmpAt P w K mg base CX0 3 C "__eq__" ["self", "other"] (spEqR C)) (ST_str : CmpAt P w K mg base CX0 1 C "__str__" ["self"] (spStrR C)) :
    FnG P w K mg base CX0 9 f fd ["_law_pen_here", "_law_pair_here"] (spTextsR K TS) := by
  refine okGc F sc_textsR (fun vs H Q E h => ?_) (fun A outer s H vs Q E hgd hr h => ?_)
  · obtain ⟨pn, p, n, a, b, rfl, _⟩ := h
    rfl
  · obtain ⟨pn, p, n, a, b, rfl, hp, hn, ht, ok, htb, k⟩ := h
    refine ⟨_, (pss_cons (ps_set (i := 2) sc_textsR.nd rfl (Or.inl rfl) (My.pe_d D_lline (hr.mono (by decide)) (by rfl) pass0 (pa_cons (pv 1) pa_nil)))
      (pss_cons (ps_set (i := 3) sc_textsR.nd rfl (Or.inl rfl) (My.pe_mk M_Ratio (hr.mono (by decide)) (by rfl) passL (pa_cons (pe_ix ix_tup (pv 1) pe_int (fun _ _ => rfl)) (pa_cons (pe_ix ix_tup (pv 1) pe_int (fun _ _ => rfl)) pa_nil))))
      (pss_cons (ps_if (PW.pt (pw_or (pt_cmpR op_ne (pe_callTy (My.call_strO ST_str (hr.mono (by decide)) pass0) (by rfl) T.z_str boot_str (pa_cons (pv 3) pa_nil)) (pv 2) (nomark _)) (pw_or (pt_cmpR (My.op_neO CE_eq T.hm ne0 (hr.mono (by decide)) pass0) (My.pe_cmK KK_read (hr.mono (by decide)) passL (pe_glob (v := .ref C) (by rfl) T.gR rfl) (pk_cons (pv 2) pk_nil)) (pv 3) (nomark _)) (pw_or1 (pt_not (pt_val (My.pe_d D_isline (hr.mono (by decide)) (by rfl) pass0 (pa_cons (pv 2) pa_nil)))))))) (pss_one (ps_ret pe_bl)) pss_nil)
      (pss_cons (ps_par (i := 4) (j := 5) (by rfl) sc_textsR.nd rfl rfl (by decide) rfl rfl (pa_cons (My.pe_d D_draw (hr.mono (by decide)) (by rfl) pass0 (pa_cons (pv 0) (pa_cons (pe_op op_add (pe_callB call_len (by rfl) T.z_len PySem.boot_len (pa_cons (pv 2) pa_nil)) pe_int) pa_nil))) (pa_cons (My.pe_d D_pick (hr.mono (by decide)) (by rfl) pass0 (pa_cons (pv 0) (pa_cons (pe_lst (pa_cons pe_str (pa_cons pe_str (pa_cons pe_str (pa_cons pe_str (pa_cons pe_str (pa_cons pe_str (pa_cons pe_str (pa_cons pe_str (pa_cons pe_str pa_nil)))))))))) pa_nil))) pa_nil)) (by rfl))
      (pss_cons (ps_set (i := 6) sc_textsR.nd rfl (Or.inl rfl) (pe_lst (pa_cons (pe_op op_add_str (pe_op op_add_str (pe_slice sl_str (pv 2) po_none (po_some (pv 4))) (pv 5)) (pe_slice sl_str (pv 2) (po_some (pv 4)) po_none)) (pa_cons (pe_op op_add_str (pe_slice sl_str (pv 2) po_none (po_some (pv 4))) (pe_slice sl_str (pv 2) (po_some (pe_op op_add (pv 4) pe_int)) po_none)) (pa_cons (pe_op op_add_str (pe_op op_add_str (pe_slice sl_str (pv 2) po_none (po_some (pv 4))) (pv 5)) (pe_slice sl_str (pv 2) (po_some (pe_op op_add (pv 4) pe_int)) po_none)) pa_nil)))))
      (pss_cons (ps_for PassesOwn.never rfl (pi_list (pe_op op_cat (pv 6) (pe_lst (pa_cons (pe_op op_add_str (pv 2) pe_str) (pa_cons (pe_op op_add_str pe_str (pv 2)) (pa_cons (pe_op op_add_str (pv 2) pe_str) (pa_cons pe_str (pa_cons pe_str (pa_cons pe_str (pa_cons pe_str (pa_cons pe_str (pa_cons pe_str (pa_cons pe_str (pa_cons pe_str (pa_cons pe_str pa_nil))))))))))))))) (pg_name (i := 7) sc_textsR.nd rfl (Or.inr rfl)) (pss_cons (ps_set (i := 8) sc_textsR.nd rfl (Or.inl rfl) (My.pe_heard (k := 6) DH TH hgd (hr.mono (by decide)) TB rfl hmT hu (by rfl) (LamX.lamS_by (by show LamX.lamSB (defScope s_textsR) _ = true; decide +kernel)) rfl (fun _ _ _ _ _ => rfl) (fun A outer s H E f c hrl => (pe_callTy (My.call_strO ST_str (hrl.mono (by decide)) pass0) (by rfl) T.z_str boot_str (pa_cons (My.pe_cm K_read (hrl.mono (by decide)) (passes_call (takes_of rfl rfl rfl rfl) (fun _ _ _ _ h => h)) (pe_glob (v := .ref C) (by rfl) T.gR rfl) (pa_cons (pv 7) pa_nil)) pa_nil)))))
      (pss_one (ps_if (pt_cmpR (My.op_neP hr.units) (pv 8) (pe_ifExp (pt_val (My.pe_d D_isline (hr.mono (by decide)) (by rfl) pass0 (pa_cons (pv 7) pa_nil))) (pe_lst (pa_cons (pv 7) pa_nil)) (pe_tup (pa_cons pe_str (pa_cons pe_int (pa_cons pe_int pa_nil))))) (nomark _)) (pss_one (ps_ret pe_bl)) pss_nil))))
      (pss_cons (ps_set (i := 9) sc_textsR.nd rfl (Or.inr rfl) (My.pe_d D_pick (hr.mono (by decide)) (by rfl) pass0 (pa_cons (pv 0) (pa_cons (pe_lst (pa_cons pe_non (pa_cons pe_int (pa_cons pe_bl (pa_cons (pe_tup (pa_cons pe_str pa_nil)) (pa_cons (pe_lst (pa_cons pe_str pa_nil)) (pa_cons (My.pe_mk M_Ratio1 (hr.mono (by decide)) (by rfl) passL (pa_cons pe_int pa_nil)) (pa_cons pe_dnewK (pa_cons (pe_op op_pow pe_int pe_int) pa_nil))))))))) pa_nil))))
      (pss_one (ps_ret (pe_cmpR (My.op_eqP hr.units) (My.pe_heard (k := 6) DH TH hgd (hr.mono (by decide)) TB rfl hmT hu (by rfl) (LamX.lamS_by (by show LamX.lamSB (defScope s_textsR) _ = true; decide +kernel)) rfl (fun _ _ _ _ _ => rfl) (fun A outer s H E f c hrl => (My.pe_cm K_read (hrl.mono (by decide)) (passes_call (takes_of rfl rfl rfl rfl) (fun _ _ _ _ h => h)) (pe_glob (v := .ref C) (by rfl) T.gR rfl) (pa_cons (pv 9) pa_nil)))) (pe_tup (pa_cons pe_str (pa_cons pe_int (pa_cons pe_int pa_nil)))) (nomark _))))))))))), ?_⟩
    have okr := ok.r
    obtain ⟨y1, y2⟩ := low_self ok.1 ok.2.1
    have b0 : b ≠ 0 := by
      have : 0 < b := ok.1
      omega
    refine ⟨_, rfl, p, a, b, rfl, ht, okr.2.2.1, okr.2.2.2, fun z ez => ?_⟩
    have zr := RT.read_txt ok.1 ok.2.1 ok.2.2.1 ok.2.2.2
    rw [← ez] at zr
    have a0 : atI [V.int a, V.int b] (0 : Int) = some (.int a) := at0
    have a1 : atI [V.int a, V.int b] (1 : Int) = some (.int b) := at1
    refine ⟨_, rfl, p, _, _, _, rfl, rfl, ht, a0, _, rfl, p, _, _, _, rfl, rfl, ht, a1, fun q dx hx hd ne => init_at b0 (Nat.lt_trans okr.2.2.2.log (by decide)) hx hd ne fun H1 l1 s1 => ?_⟩
    rw [y1, y2] at l1
    obtain ⟨dx1, e1⟩ := id l1
    refine ⟨_, rfl, q, dx1, _, rfl, e1, q, _, _, rfl, l1, okr.2.2.1.log, okr.2.2.2.log, _, rfl, ?_⟩
    have ezr : ratT a b = z := TL.ext_tl (by rw [ez, tl_rat])
    refine ⟨_, rfl, rfl, _, rfl, ?_⟩
    show (if (!decide (V.str (ratT a b) = V.str z)) = true then _ else _)
    rw [ezr, decide_eq_true rfl]
    refine iteF ?_
    have lz : z.length ≤ 3843 := by
      rw [← ezr]
      have la : ((toString a : String) : Str).length ≤ 1921 := num_len okr.2.2.1.log
      have lb : ((toString b : String) : Str).length ≤ 1921 := num_len okr.2.2.2.log
      have le : Str.empty.length = 0 := rfl
      have ls : ("/" : Str).length = 1 := rfl
      unfold ratT
      split
      · show ((toString a : String) : Str).length ≤ _
        omega
      · rw [app_len, app_len, app_len, le, ls]
        show 0 + ((toString a : String) : Str).length + 1 + ((toString b : String) : Str).length ≤ _
        omega
    refine ⟨rfl, _, rfl, rfl, .str z, rfl, .inl ⟨_, .str z⟩, (by show z.length ≤ 5000; omega), fun a' b' er _ _ _ _ q2 H2 l2 s2 => ?_, fun no => ?_⟩
    case refine_2 =>
      have no : RT.readR (TL.tl z) = none := no
      rw [zr] at no
      cases no
    have er : RT.readR (TL.tl z) = some (a', b') := er
    rw [zr] at er
    cases er
    have l1 := l1.same s2
    obtain ⟨dx2, e2⟩ := id l2
    refine ⟨_, rfl, q2, dx2, _, _, rfl, e2, T.ty l1, T.sf, q2, a, b, .ref q, rfl, l2, .inl ⟨a, b, .inl ⟨q, rfl, l1⟩, fun H3 s3 => ⟨_, rfl, _, rfl, ?_⟩⟩⟩
    rw [decide_eq_true (⟨rfl, rfl⟩ : a = a ∧ b = b)]
    refine iteF ?_
    refine ⟨_, rfl, z, rfl, by omega, fun H4 s4 => ?_⟩
    rw [zr]
    refine ⟨_, rfl, iteF ?_⟩
    have t4 : Same H H4 := ((s1.trans s2).trans s3).trans s4
    have p4 := pen_same hp t4
    have tb4 := htb.ext t4
    clear l1 l2 e1 e2
    have lg : ((z.length : Int) + 1).natAbs.log2 < 9000 := Nat.lt_of_lt_of_le (PySem.Flt.log2_lt_of (k := 20) (by decide) (by show _ < 1048576; omega)) (by decide)
    have zx : z.length ≤ sizeLine := by rw [sizeLine_eq]; omega
    refine ⟨_, rfl, _, rfl, _, _, rfl, ⟨zx, rfl⟩, _, _, rfl, rfl, pn, _, n, rfl, by omega, lg, p4, by omega, fun d1 H5 a5 b5 p5 u5 => ?_⟩
    refine ⟨_, rfl, (by show 9 ≤ sizeLine; decide), fun l6 h6 => ?_⟩
    have tb5 := tabs_but tb4 p4 u5
    have M6 : (upd H5 l6 (.lst (signs8.map V.str))) l6 = some (.lst (signs8.map V.str)) := upd_same
    have p6 := pen_same p5 (same_new (o := .lst (signs8.map V.str)) h6)
    have tb6 := tb5.ext (same_new (o := .lst (signs8.map V.str)) h6)
    refine ⟨pn, l6, _, _, rfl, M6, pen_ne p5 h6, (by show 0 < 9; decide), (by show 9 ≤ 1000; decide), p6, by omega, fun v H7 hv p7 u7 => ?_⟩
    have tb7 := tabs_but tb6 p6 u7
    obtain ⟨y, rfl, hy⟩ := mem_strs hv
    have ly := signs8_len y hy
    have c1 := cut_two (x := z) a5 (Int.le_refl d1)
    have c2 := cut_two (x := z) a5 (show d1 ≤ d1 + 1 by omega)
    refine ⟨_, _, rfl, ?_⟩
    clear tb4 tb5 tb6 p4 p5 p6 u5 u7 hv M6
    refine ⟨_, rfl, _, rfl, d1, rfl, z, rfl, zx, _, rfl, _, y, rfl, rfl, (by rw [sizeLine_eq]; omega), _, rfl, _, rfl, d1, rfl, z, rfl, zx, _, _, rfl, rfl, (by rw [app_len, sizeLine_eq]; omega), ?_⟩
    refine ⟨_, rfl, _, rfl, d1, rfl, z, rfl, zx, _, rfl, _, rfl, _, _, rfl, rfl, _, rfl, z, rfl, zx, _, _, rfl, rfl, (by rw [sizeLine_eq]; omega), ?_⟩
    refine ⟨_, rfl, _, rfl, d1, rfl, z, rfl, zx, _, rfl, _, y, rfl, rfl, (by rw [sizeLine_eq]; omega), _, rfl, _, rfl, _, _, rfl, rfl, _, rfl, z, rfl, zx, _, _, rfl, rfl, (by rw [app_len, sizeLine_eq]; omega), ?_⟩
    refine ⟨(by show 3 ≤ sizeLine; decide), fun l8 h8 => ?_⟩
    have n1 : (cutS z none (some d1) ++ y ++ cutS z (some d1) none).length ≤ 5000 := by rw [app_len, app_len]; omega
    have n2 : (cutS z none (some d1) ++ cutS z (some (d1 + 1)) none).length ≤ 5000 := by rw [app_len]; omega
    have n3 : (cutS z none (some d1) ++ y ++ cutS z (some (d1 + 1)) none).length ≤ 5000 := by rw [app_len, app_len]; omega
    clear c1 c2
    generalize cutS z none (some d1) ++ y ++ cutS z (some d1) none = w1 at n1 ⊢
    generalize cutS z none (some d1) ++ cutS z (some (d1 + 1)) none = w2 at n2 ⊢
    generalize cutS z none (some d1) ++ y ++ cutS z (some (d1 + 1)) none = w3 at n3 ⊢
    have s8 := same_new (o := .lst [.str w1, .str w2, .str w3]) h8
    have M8 : (upd H7 l8 (.lst [.str w1, .str w2, .str w3])) l8 = some (.lst ([w1, w2, w3].map V.str)) := upd_same
    have p8 := pen_same p7 s8
    have tb8 := tb7.ext s8
    generalize upd H7 l8 (.lst [.str w1, .str w2, .str w3]) = H8 at s8 M8 p8 tb8 ⊢
    have f1 : ("/1" : Str).length = 2 := rfl
    have f2 : (" " : Str).length = 1 := rfl
    refine ⟨_, rfl, _, rfl, _, "/1", rfl, rfl, (by rw [sizeLine_eq, f1]; omega), _, rfl, " ", _, rfl, rfl, (by rw [sizeLine_eq, f2]; omega), _, rfl, _, " ", rfl, rfl, (by rw [sizeLine_eq, f2]; omega), (by show 12 ≤ sizeLine; decide), fun l9 h9 => ?_⟩
    have g1 : (z ++ "/1").length ≤ 5000 := by rw [app_len, f1]; omega
    have g2 : (" " ++ z).length ≤ 5000 := by rw [app_len, f2]; omega
    have g3 : (z ++ " ").length ≤ 5000 := by rw [app_len, f2]; omega
    generalize z ++ "/1" = w4 at g1 ⊢
    generalize " " ++ z = w5 at g2 ⊢
    generalize z ++ " " = w6 at g3 ⊢
    have s9 := same_new (o := .lst (([w4, w5, w6] ++ fixed8).map V.str)) h9
    have M9 : (upd H8 l9 (.lst (([w4, w5, w6] ++ fixed8).map V.str))) l9 = some (.lst (([w4, w5, w6] ++ fixed8).map V.str)) := upd_same
    have p9 := pen_same p8 s9
    have tb9 := tb8.ext s9
    have M8' := s9 _ _ M8
    refine ⟨l8, l9, _, _, rfl, rfl, M8', M9, (by show 3 + 12 ≤ sizeLine; decide), fun l10 h10 => ⟨l10, rfl, ⟨_, SqL.of upd_same⟩, ?_⟩⟩
    have s10 := same_new (o := .lst ((([w1, w2, w3] ++ ([w4, w5, w6] ++ fixed8))).map V.str)) h10
    refine for_list (xs := ([w1, w2, w3] ++ ([w4, w5, w6] ++ fixed8)).map V.str) (fun j σ Hh => ∃ v7 v8, σ = [some (.ref pn), some (.ref p), some (.str z), some (.ref q), some (.int d1), some (.str y), some (.ref l8), v7, v8, none] ∧ Hh l10 = some (.lst (([w1, w2, w3] ++ ([w4, w5, w6] ++ fixed8)).map V.str)) ∧ PenAt Hh pn (n + 2) ∧ LamX.Tabs TS Hh) ⟨none, none, rfl, upd_same, pen_same p9 s10, tb9.ext s10⟩ (fun j σ Hh _ ⟨_, _, _, e, _⟩ => SqL.of e) ?_ ?_
    · rintro j v σ Hh hv ⟨v7, v8, rfl, c1, c2, c3⟩
      obtain ⟨x, rfl, hx⟩ := mem_strs (List.mem_of_getElem? hv)
      have lx : x.length ≤ 5000 := by
        simp only [List.mem_append, List.mem_cons, List.mem_nil_iff, or_false] at hx
        rcases hx with (rfl | rfl | rfl) | (rfl | rfl | rfl) | hx
        · exact n1
        · exact n2
        · exact n3
        · exact g1
        · exact g2
        · exact g3
        · exact fixed8_len x hx
      refine ⟨c3, fun G x1 tb1 => ?_⟩
      have y1 := x1 _ _ c1 (by intro ps z; cases z)
      have q1 := c2.ext9 x1
      refine ⟨rfl, _, rfl, .str x, rfl, .inl ⟨_, .str x⟩, lx, fun a' b' er _ _ sa sb q5 H5 l5 s5 => ?_, fun no => heardT fun t7 H7 s7 e7 => ?_⟩
      · have er : RT.readR (TL.tl x) = some (a', b') := er
        obtain ⟨dx5, e5⟩ := id l5
        have exx : ratT a' b' = x := TL.ext_tl (by rw [tl_rat, read_back er])
        refine ⟨q5, dx5, _, rfl, e5, q5, a', b', rfl, l5, sa.log, sb.log, _, rfl, (by show 1 ≤ sizeLine; decide), fun l11 h11 => ?_⟩
        rw [exx]
        have s11 := same_new (o := .lst [.str x]) h11
        have M11 : (upd H5 l11 (.lst [.str x])) l11 = some (.lst [.str x]) := upd_same
        generalize upd H5 l11 (.lst [.str x]) = H6 at s11 M11 ⊢
        refine ⟨_, rfl, _, rfl, x, rfl, lx, fun H7 s7 => ?_⟩
        rw [er]
        refine ⟨_, rfl, iteT ?_⟩
        refine ⟨_, rfl, (by show 1 ≤ sizeLine; decide), fun l12 h12 => ?_⟩
        have s12 := same_new (o := .lst [.str x]) h12
        have t12 := ((s5.trans s11).trans s7).trans s12
        refine ⟨.list [.str x], .list [.str x], one_dp (s12 _ _ (s7 _ _ M11)), one_dp upd_same, rfl, rfl, (Nat.le_trans (Nat.min_le_right _ _) (by show _ ≤ 60; exact (by decide : (1 : Nat) + 0 ≤ 60))), _, rfl, ?_⟩
        have e : PyData.eqv (.list [.str x]) (.list [.str x]) = true := SeqAt.eqv_refl_plain _ rfl
        rw [e]
        exact iteF ⟨_, _, rfl, t12 _ _ y1, pen_same q1 t12, tb1.ext t12⟩
      · have no : RT.readR (TL.tl x) = none := no
        refine ⟨_, rfl, _, rfl, x, rfl, lx, fun H8 s8 => ?_⟩
        rw [no]
        refine ⟨_, rfl, iteF ?_⟩
        refine ⟨(by show 3 ≤ sizeLine; decide), fun t12 h12 => ?_⟩
        have s12 := same_new (o := .tup [.str "text", .int 0, .int 0]) h12
        have t13 := (s7.trans s8).trans s12
        refine ⟨badD, badD, bad_dp (s12 _ _ (s8 _ _ e7)), bad_dp upd_same, rfl, rfl, (Nat.le_trans (Nat.min_le_right _ _) (by decide)), _, rfl, ?_⟩
        have e : (!PyData.eqv badD badD) = false := by decide +kernel
        rw [e]
        exact iteF ⟨_, _, rfl, t13 _ _ y1, pen_same q1 t13, tb1.ext t13⟩
    rintro σ H11 ⟨v7, v8, rfl, _, p11, tb11⟩
    refine ⟨_, rfl, (by show 1 ≤ sizeLine; decide), fun a1 k1 => ⟨(by show 1 ≤ sizeLine; decide), fun a2 k2 => ?_⟩⟩
    have A2 := upd_same (H := upd H11 a1 (.tup [.str "1"])) (a := a2) (o := .lst [.str "1"])
    have A1 := same_new (o := .lst [.str "1"]) k2 _ _ (upd_same (H := H11) (a := a1) (o := .tup [.str "1"]))
    have s12 := (same_new (o := .tup [.str "1"]) k1).trans (same_new (o := .lst [.str "1"]) k2)
    generalize upd (upd H11 a1 (.tup [.str "1"])) a2 (.lst [.str "1"]) = H12 at A1 A2 s12 ⊢
    have p12 := pen_same p11 s12
    have tb12 := tb11.ext s12
    refine fun m dx hx hd ne => init_at (a := 1) (b := 1) (by decide) (by decide) hx hd ne fun H13 l13 s13 => ?_
    refine fun a3 k3 => ?_
    have s14 := s13.trans (same_new (o := .dK []) k3)
    have L14 := l13.same (same_new (o := .dK []) k3)
    have A3 := upd_same (H := H13) (a := a3) (o := .dK [])
    generalize upd H13 a3 (.dK []) = H14 at s14 L14 A3 ⊢
    refine ⟨_, _, rfl, rfl, ⟨by decide, by decide, by decide⟩, (by show 8 ≤ sizeLine; decide), fun l15 h15 => ?_⟩
    have s15 := s14.trans (same_new (o := .lst [.non, .int 3, .bl true, .ref a1, .ref a2, .ref m, .ref a3, .int (10 ^ Int.toNat 20)]) h15)
    have p14 := pen_same p12 s14
    have p15 := pen_same p12 s15
    have tb15 := tb12.ext s15
    have sn := same_new (H := H14) (o := .lst [.non, .int 3, .bl true, .ref a1, .ref a2, .ref m, .ref a3, .int (10 ^ Int.toNat 20)]) h15
    have nm : ∀ {u : Addr} {o : HO}, H12 u = some o → (∀ xs y r, o ≠ .lst (.ref xs :: y :: r)) → u ≠ pn := fun {u o} e ne z => by
      obtain ⟨cl, ns, a, r, e1, _⟩ := p12
      rw [z, e1] at e
      exact ne _ _ _ (Option.some.inj e).symm
    refine ⟨pn, l15, _, _, rfl, upd_same, pen_ne p14 h15, (by show 0 < 8; decide), (by show 8 ≤ 1000; decide), p15, by omega, fun v H16 hv p16 u16 => ?_⟩
    have tb16 := tabs_but tb15 p15 u16
    have B1 := u16 _ _ (s15 _ _ A1) (nm A1 fun _ _ _ z => by cases z)
    have B2 := u16 _ _ (s15 _ _ A2) (nm A2 fun _ _ _ z => by cases z)
    have B3 := u16 _ _ (sn _ _ A3) (fun z => by
      obtain ⟨cl, ns, a, r, e1, _⟩ := p14
      rw [z, e1] at A3
      cases A3)
    have B4 := (L14.same sn).but p15 u16
    have fin : ∀ (u : V) (Hy : Hp), LamX.ExtN H16 Hy → LamX.Tabs TS Hy → Q (.bl true) Hy := fun u Hy x t => k Hy (p16.ext9 x) t
    refine ⟨tb16, fun G x1 tb1 => ?_⟩
    obtain ⟨o1, o2, o3⟩ := odd_of (x1 _ _ B1 (by intro ps z; cases z)) (x1 _ _ B2 (by intro ps z; cases z)) (x1 _ _ B3 (by intro ps z; cases z)) (B4.ext x1) hv
    refine ⟨rfl, _, rfl, v, rfl, o1, o2, fun a' b' er _ _ _ _ _ _ _ _ => ?_, fun no => heardT fun t7 H17 s7 e7 => ?_⟩
    · rw [o3] at er
      cases er
    · refine ⟨(by show 3 ≤ sizeLine; decide), fun t8 h8 => ?_⟩
      have s8 := same_new (o := .tup [.str "text", .int 0, .int 0]) h8
      refine ⟨badD, badD, bad_dp (s8 _ _ e7), bad_dp upd_same, rfl, rfl, (Nat.le_trans (Nat.min_le_right _ _) (by decide)), ?_⟩
      have e : PyData.eqv badD badD = true := SeqAt.eqv_refl_plain _ rfl
      rw [e]
      exact fin v _ (x1.trans (ext_same (s7.trans s8))) ((tb1.ext s7).ext s8)
end
end My
set_option pp.maxSteps 1500
set_option pp.deepTerms.threshold 8
/-! ### the law -/
namespace My
open PySem PySem.Spec PyProof.Rows L2 TX
abbrev s_law : Stmt := topS 30
theorem sc_law : FnScope ["_law_script", "_law_pen_here", "_law_turn", "_law_row_here", "_law_one", "_law_other", "_law_last", "_law_wide", "_law_odd", "_law_heard_here"] ["_law_script"] (defScope s_law) := ⟨rfl, rfl, rfl, by decide +kernel, rfl, by decide +kernel, by decide +kernel⟩
theorem pick_ok {g : Int → Int → Bool} : ∀ (r : List (Int × Int)) (m : Int × Int), okR m → (∀ x ∈ r, okR x) → okR (pickR g m r)
  | [], m, h, _ => h
  | x :: r, m, h, a => by
    show okR (pickR g (if g (m.1 * x.2) (x.1 * m.2) = true then x else m) r)
    refine pick_ok r _ ?_ fun y hy => a y (List.mem_cons_of_mem _ hy)
    split
    · exact a x List.mem_cons_self
    · exact h
theorem heardN {CB CT : Addr} {H : Hp} {Q : VK} (k : ∀ t H', Same H H' → H' t = some (.tup [.str "ratio", .str "numbers"]) → Q (.ref t) H') : Errs (WHeard CB CT Q) CB "part" (.str "numbers") H :=
  fun d H' hd hx s => .inl ⟨d, .str "numbers", rfl, rfl, hx, fun t ht => k t _ (s.trans (same_new ht)) upd_same⟩
/-- a list of refusals -/
structure NumL (H : Hp) (L : Addr) (ts : List Addr) : Prop where
  l : H L = some (.lst (ts.map V.ref))
  all : ∀ t ∈ ts, H t = some (.tup [.str "ratio", .str "numbers"])
theorem NumL.ext {H G : Hp} {L : Addr} {ts : List Addr} (h : NumL H L ts) (x : LamX.ExtN H G) : NumL G L ts := ⟨x _ _ h.l (by intro ps z; cases z), fun t ht => x _ _ (h.all t ht) (by intro ps z; cases z)⟩
theorem NumL.put {H : Hp} {L t : Addr} {ts : List Addr} (h : NumL H L ts) (e : H t = some (.tup [.str "ratio", .str "numbers"])) : NumL (upd H L (.lst (ts.map V.ref ++ [.ref t]))) L (ts ++ [t]) := by
  have ne : ∀ {u : Addr}, H u = some (.tup [.str "ratio", .str "numbers"]) → u ≠ L := fun eu z => by
    rw [z, h.l] at eu
    cases eu
  refine ⟨?_, fun u hu => ?_⟩
  · rw [List.map_append]
    exact upd_same
  · rcases List.mem_append.mp hu with hu | hu
    · rw [upd_ne (ne (h.all u hu))]
      exact h.all u hu
    · rw [List.mem_singleton.mp hu, upd_ne (ne e)]
      exact e
def numD : PyData := .tuple [.str "ratio", .str "numbers"]
theorem num_dp {K : PySem.W.Frag} {H : Hp} {t : Addr} (h : H t = some (.tup [.str "ratio", .str "numbers"])) : Dp K H (.ref t) numD := .tup (SqT.of h) (.cons (.str _) (.cons (.str _) .nil))
/-- values that are no numbers -/
structure OddL (H : Hp) (a1 a2 a3 : Addr) : Prop where
  t : H a1 = some (.tup [.int 1])
  l : H a2 = some (.lst [.int 1])
  d : H a3 = some (.dK [])
theorem OddL.ext {H G : Hp} {a1 a2 a3 : Addr} (h : OddL H a1 a2 a3) (x : LamX.ExtN H G) : OddL G a1 a2 a3 := ⟨x _ _ h.t (by intro ps z; cases z), x _ _ h.l (by intro ps z; cases z), x _ _ h.d (by intro ps z; cases z)⟩
theorem OddL.put {H : Hp} {a1 a2 a3 L : Addr} {o : HO} (h : OddL H a1 a2 a3) (n1 : a1 ≠ L) (n2 : a2 ≠ L) (n3 : a3 ≠ L) : OddL (upd H L o) a1 a2 a3 := ⟨by rw [upd_ne n1]; exact h.t, by rw [upd_ne n2]; exact h.l, by rw [upd_ne n3]; exact h.d⟩
theorem OddL.ne {H : Hp} {a1 a2 a3 pn : Addr} {n : Nat} (h : OddL H a1 a2 a3) (hp : PenAt H pn n) : a1 ≠ pn ∧ a2 ≠ pn ∧ a3 ≠ pn := by
  obtain ⟨cl, ns, a, r, e, _⟩ := hp
  obtain ⟨t, l, d⟩ := h
  refine ⟨fun z => ?_, fun z => ?_, fun z => ?_⟩
  · rw [z, e] at t
    cases t
  · rw [z, e] at l
    cases l
  · rw [z, e] at d
    cases d
theorem OddL.any {C : Addr} {H : Hp} {a1 a2 a3 : Addr} {v : V} (h : OddL H a1 a2 a3) (hv : v ∈ [V.non, .bl true, .str "1", .ref a1, .ref a2, .ref a3]) : Any C H v false := by
  simp only [List.mem_cons, List.mem_nil_iff, or_false] at hv
  rcases hv with rfl | rfl | rfl | rfl | rfl | rfl
  · exact .inr ⟨rfl, ⟨_, .non⟩, rfl⟩
  · exact .inr ⟨rfl, ⟨_, .bl _⟩, rfl⟩
  · exact .inr ⟨rfl, ⟨_, .str _⟩, rfl⟩
  · exact .inr ⟨rfl, ⟨_, .tup h.t⟩, rfl⟩
  · exact .inr ⟨rfl, ⟨_, .lst h.l⟩, rfl⟩
  · exact .inr ⟨rfl, ⟨_, .dK h.d⟩, rfl⟩
theorem nums7 {C : Addr} {H : Hp} {q : Addr} {a b : Int} (ks : List Int) (h : RatAt C H q a b) (ok : okR (a, b)) (hk : ∀ k ∈ ks, Sm k) : Nums C H (ks.map V.int ++ [.ref q]) (ks.map (fun k => (k, (1 : Int))) ++ [(a, b)]) := by
  refine ⟨by simp, fun i v n e1 e2 => ?_⟩
  by_cases hi : i < ks.length
  · rw [List.getElem?_append_left (by rw [List.length_map]; exact hi), List.getElem?_map] at e1 e2
    cases g : ks[i]? with
    | none => rw [g] at e1; cases e1
    | some k =>
      rw [g] at e1 e2
      obtain rfl : V.int k = v := Option.some.inj e1
      obtain rfl : (k, (1 : Int)) = n := Option.some.inj e2
      refine ⟨.inr ⟨rfl, rfl⟩, by show (0 : Int) < 1; decide, Int.gcd_one_right k, hk k (List.mem_of_getElem? g), ?_⟩
      show (1 : Int).natAbs < 2 ^ 300
      decide +kernel
  · have hj : i = ks.length := by
      have := (List.getElem?_eq_some_iff.mp e1).1
      rw [List.length_append, List.length_map] at this
      have : i < ks.length + 1 := this
      omega
    subst hj
    rw [List.getElem?_append_right (by rw [List.length_map]; exact Nat.le_refl _), List.length_map, Nat.sub_self] at e1 e2
    cases e1
    cases e2
    exact ⟨.inl ⟨q, rfl, h⟩, ok⟩
theorem smalls {ks : List Int} (h : ∀ k ∈ ks, k.natAbs < 100) : ∀ k ∈ ks, Sm k := fun k hk => Nat.lt_trans (h k hk) (by decide +kernel)
theorem far_none : ∀ x ∈ (["1/1" ++ mulS "0" (Int.toNat 60), "1" ++ mulS "0" (Int.toNat 60)] : List Str), x.length ≤ 5000 ∧ RT.readR (TL.tl x) = none := by decide +kernel
def spLaw (K : PySem.W.Frag) (TS : List (Addr × Str)) : Sp := fun vs H Q _ => ∃ (a : Addr) (ns : List Int), vs = [.ref a] ∧ SqL K H a (ns.map V.int) ∧ LamX.Tabs TS H ∧ ∀ (H' : Hp), Q (.bl true) H'
section
variable {P : Program} {w : World} {K : PySem.W.Frag} {mg : Str → Option Value} {base : Heap} {CE C CB fB CN CT fT : Addr} {tM : Tok}
theorem ok_law {f c tb : Addr} {fd : FuncData} {TS : List (Addr × Str)} (F : FunC K "law" "law" s_law f fd c) (T : RTy P K mg C CB fB CN CT fT tM) (TW : WTx mg) (TH : HTx P K mg CE CB fB CT fT) (DH : HeardAt K mg) (ne0 : PySem.W.findIn K (.ref C) "__ne__" = some (some (.builtin "object.__ne__")))
    (TB : LamX.TabB base mg c tb) (hmT : (tb, (("law" : Str) ++ ".<locals>.") ++ "<lambda>") ∈ TS) (hu : ∀ p ∈ TS, p.1 = tb → p.2 = (("law" : Str) ++ ".<locals>.") ++ "<lambda>")
    (D_pen : DefAt P w K mg base CX0 1 "_law_pen" ["_law_script"] (spPen K)) (D_pick : DefAt P w K mg base CX0 2 "_law_pick" ["_law_pen_here", "_law_some"] spPick)
    (D_lrow : DefAt P w K mg base CX0 5 "_law_row" ["_law_pen_here"] spLrow) (D_twoR : DefG P w K mg base CX0 6 "_law_two_right" ["_law_one", "_law_other"] (spTwoR K)) (D_told : DefAt P w K mg base CX0 8 "_law_told" ["_law_row_here"] (spTold C)) (D_ends : DefG P w K mg base CX0 1 "_law_ends" ["_law_row_here"] spEnds) (D_parts : DefG P w K mg base CX0 1 "_law_parts" ["_law_ratio"] (spPartsL C))
    (D_textsR : DefG P w K mg base CX0 9 "_law_texts_right" ["_law_pen_here", "_law_pair_here"] (spTextsR K TS))
    (M_Ratio : MakeAt P w K mg base (L2.CX P w) 3 "Ratio" C ["self", "top", "bottom"] (spInit C CB CN) []) (K_read : ClsAt P w K mg base (L2.CX P w) 6 C "read" (spReadR C CT))
    (S_least : StatR P w K mg base (L2.CX P w) 7 C "least" (spEndR C CB fun i j => decide (j < i))) (S_greatest : StatR P w K mg base (L2.CX P w) 7 C "greatest" (spEndR C CB fun i j => decide (i < j)))
    (CE_eq : CmpAt P w K mg base CX0 3 C "__eq__" ["self", "other"] (spEqR C)) :
    FnG P w K mg base CX0 11 f fd ["_law_script"] (spLaw K TS) := by
  refine okGc F sc_law (fun vs H Q E h => ?_) (fun A outer s H vs Q E hgd hr h => ?_)
  · obtain ⟨a, ns, rfl, _⟩ := h
    rfl
  · obtain ⟨sc, ns, rfl, hs, ht, k⟩ := h
    refine ⟨_, (pss_cons (ps_set (i := 1) sc_law.nd rfl (Or.inl rfl) (My.pe_d D_pen (hr.mono (by decide)) (by rfl) pass0 (pa_cons (pv 0) pa_nil)))
      (pss_cons (ps_for PassesOwn.never rfl (pi_range1 rfl T.z_range (pa_cons pe_int pa_nil)) (pg_name (i := 2) sc_law.nd rfl (Or.inl rfl)) (pss_cons (ps_set (i := 3) sc_law.nd rfl (Or.inl rfl) (My.pe_d D_lrow (hr.mono (by decide)) (by rfl) pass0 (pa_cons (pv 1) pa_nil)))
      (pss_cons (ps_for PassesOwn.never rfl (pi_list (pv 3)) (pg_name (i := 4) sc_law.nd rfl (Or.inl rfl)) (pss_one (ps_for PassesOwn.never rfl (pi_list (pv 3)) (pg_name (i := 5) sc_law.nd rfl (Or.inl rfl)) (pss_one (ps_if (pt_not (pt_val (My.pe_dG D_twoR hgd (hr.mono (by decide)) (by rfl) pass0 (pa_cons (pv 4) (pa_cons (pv 5) pa_nil))))) (pss_one (ps_ret pe_bl)) pss_nil)))))
      (pss_cons (ps_if (pt_cmpR (My.op_neP hr.units) (pe_lc (own := [("_law_one", 4)]) rfl sc_law.nd (pi_list (My.pe_d D_told (hr.mono (by decide)) (by rfl) pass0 (pa_cons (pv 3) pa_nil))) (blkOk_by (by show blkC ["_law_script", "_law_pen_here", "_law_turn", "_law_row_here", "_law_one", "_law_other", "_law_last", "_law_wide", "_law_odd", "_law_heard_here"] (defScope s_law) _ _ = true; decide +kernel)) (fun _ _ _ _ _ => (pg_name (i := 4) sc_law.nd rfl (Or.inl rfl))) (fun _ _ _ _ _ => pts_nil) (fun _ _ _ _ _ => (My.pe_dG D_parts hgd (hr.mono (by decide)) (by rfl) pass0 (pa_cons (pv 4) pa_nil)))) (My.pe_dG D_ends hgd (hr.mono (by decide)) (by rfl) pass0 (pa_cons (pv 3) pa_nil)) (nomark _)) (pss_one (ps_ret pe_bl)) pss_nil)
      (pss_cons (ps_set (i := 6) sc_law.nd rfl (Or.inl rfl) (pe_ix ix_list (pv 3) (pe_un un_neg pe_int) (fun _ _ => rfl)))
      (pss_cons (ps_set (i := 7) sc_law.nd rfl (Or.inl rfl) (pe_callB (call_max2 rfl) (by rfl) TW.z_max boot_max (pa_cons (pe_callB call_len (by rfl) T.z_len PySem.boot_len (pa_cons (pe_callTy call_str_int (by rfl) T.z_str boot_str (pa_cons (pe_callB call_abs (by rfl) T.z_abs boot_abs (pa_cons (pe_ix ix_tup (pv 6) pe_int (fun _ _ => rfl)) pa_nil)) pa_nil)) pa_nil)) (pa_cons (pe_callB call_len (by rfl) T.z_len PySem.boot_len (pa_cons (pe_callTy call_str_int (by rfl) T.z_str boot_str (pa_cons (pe_ix ix_tup (pv 6) pe_int (fun _ _ => rfl)) pa_nil)) pa_nil)) pa_nil))))
      (pss_one (ps_if (PW.pt (pw_and (pt_cmpR op_le (pv 7) pe_int (nomark _)) (pw_and1 (pt_not (pt_val (My.pe_dG D_textsR hgd (hr.mono (by decide)) (by rfl) pass0 (pa_cons (pv 1) (pa_cons (pv 6) pa_nil)))))))) (pss_one (ps_ret pe_bl)) pss_nil))))))))
      (pss_cons (ps_set (i := 8) sc_law.nd rfl (Or.inr rfl) (My.pe_d D_pick (hr.mono (by decide)) (by rfl) pass0 (pa_cons (pv 1) (pa_cons (pe_lst (pa_cons pe_non (pa_cons pe_bl (pa_cons pe_str (pa_cons (pe_tup (pa_cons pe_int pa_nil)) (pa_cons (pe_lst (pa_cons pe_int pa_nil)) (pa_cons pe_dnewK pa_nil))))))) pa_nil))))
      (pss_cons (ps_set (i := 9) sc_law.nd rfl (Or.inl rfl) (pe_lst (pa_cons (My.pe_heard (k := 7) DH TH hgd (hr.mono (by decide)) TB rfl hmT hu (by rfl) (LamX.lamS_by (by show LamX.lamSB (defScope s_law) _ = true; decide +kernel)) rfl (fun _ _ _ _ _ => rfl) (fun A outer s H E f c hrl => (My.pe_stR0 S_least (hrl.mono (by decide)) (passes_call (takes_of rfl rfl rfl rfl) (fun _ _ _ _ h => h)) (pe_glob (v := .ref C) (by rfl) T.gR rfl)))) pa_nil)))
      (pss_cons (ps_expr (pe_bm PySem.F.plainAttrs_list PySem.F.slot_list_append PySem.F.type_list_append mt_append (pv 9) (pa_cons (My.pe_heard (k := 7) DH TH hgd (hr.mono (by decide)) TB rfl hmT hu (by rfl) (LamX.lamS_by (by show LamX.lamSB (defScope s_law) _ = true; decide +kernel)) rfl (fun _ _ _ _ _ => rfl) (fun A outer s H E f c hrl => (My.pe_stR0 S_greatest (hrl.mono (by decide)) (passes_call (takes_of rfl rfl rfl rfl) (fun _ _ _ _ h => h)) (pe_glob (v := .ref C) (by rfl) T.gR rfl)))) pa_nil)))
      (pss_cons (ps_expr (pe_bm PySem.F.plainAttrs_list PySem.F.slot_list_append PySem.F.type_list_append mt_append (pv 9) (pa_cons (My.pe_heard (k := 7) DH TH hgd (hr.mono (by decide)) TB rfl hmT hu (by rfl) (LamX.lamS_by (by show LamX.lamSB (defScope s_law) _ = true; decide +kernel)) rfl (fun _ _ _ _ _ => rfl) (fun A outer s H E f c hrl => (My.pe_stR S_least (hrl.mono (by decide)) (passes_call (takes_of rfl rfl rfl rfl) (fun _ _ _ _ h => h)) (pe_glob (v := .ref C) (by rfl) T.gR rfl) (pa_cons pe_int (pa_cons (pv 8) pa_nil))))) pa_nil)))
      (pss_cons (ps_expr (pe_bm PySem.F.plainAttrs_list PySem.F.slot_list_append PySem.F.type_list_append mt_append (pv 9) (pa_cons (My.pe_heard (k := 7) DH TH hgd (hr.mono (by decide)) TB rfl hmT hu (by rfl) (LamX.lamS_by (by show LamX.lamSB (defScope s_law) _ = true; decide +kernel)) rfl (fun _ _ _ _ _ => rfl) (fun A outer s H E f c hrl => (My.pe_stR S_greatest (hrl.mono (by decide)) (passes_call (takes_of rfl rfl rfl rfl) (fun _ _ _ _ h => h)) (pe_glob (v := .ref C) (by rfl) T.gR rfl) (pa_cons (pv 8) (pa_cons (My.pe_mk M_Ratio (hrl.mono (by decide)) (by rfl) (passes_call (takes_of rfl rfl rfl rfl) (fun _ _ _ _ h => h)) (pa_cons pe_int (pa_cons pe_int pa_nil))) pa_nil))))) pa_nil)))
      (pss_cons (ps_if (pt_cmpR (My.op_neP hr.units) (pv 9) (pe_op op_rep (pe_lst (pa_cons (pe_tup (pa_cons pe_str (pa_cons pe_str pa_nil))) pa_nil)) pe_int) (nomark _)) (pss_one (ps_ret pe_bl)) pss_nil)
      (pss_cons (ps_if (pt_cmpR (My.op_neO CE_eq T.hm ne0 (hr.mono (by decide)) pass0) (My.pe_stR S_least (hr.mono (by decide)) passL (pe_glob (v := .ref C) (by rfl) T.gR rfl) (pa_cons pe_int (pa_cons pe_int (pa_cons pe_int (pa_cons pe_int (pa_cons pe_int (pa_cons pe_int (pa_cons (My.pe_mk M_Ratio (hr.mono (by decide)) (by rfl) passL (pa_cons pe_int (pa_cons pe_int pa_nil))) pa_nil)))))))) (My.pe_mk M_Ratio (hr.mono (by decide)) (by rfl) passL (pa_cons pe_int (pa_cons pe_int pa_nil))) (nomark _)) (pss_one (ps_ret pe_bl)) pss_nil)
      (pss_cons (ps_if (pt_cmpR (My.op_neO CE_eq T.hm ne0 (hr.mono (by decide)) pass0) (My.pe_stR S_greatest (hr.mono (by decide)) passL (pe_glob (v := .ref C) (by rfl) T.gR rfl) (pa_cons pe_int (pa_cons pe_int (pa_cons pe_int (pa_cons pe_int (pa_cons pe_int (pa_cons pe_int (pa_cons (My.pe_mk M_Ratio (hr.mono (by decide)) (by rfl) passL (pa_cons pe_int (pa_cons pe_int pa_nil))) pa_nil)))))))) (My.pe_mk M_Ratio (hr.mono (by decide)) (by rfl) passL (pa_cons pe_int (pa_cons pe_int pa_nil))) (nomark _)) (pss_one (ps_ret pe_bl)) pss_nil)
      (pss_cons (ps_if (pt_cmpR (My.op_neP hr.units) (My.pe_heard (k := 7) DH TH hgd (hr.mono (by decide)) TB rfl hmT hu (by rfl) (LamX.lamS_by (by show LamX.lamSB (defScope s_law) _ = true; decide +kernel)) rfl (fun _ _ _ _ _ => rfl) (fun A outer s H E f c hrl => (My.pe_cm K_read (hrl.mono (by decide)) (passes_call (takes_of rfl rfl rfl rfl) (fun _ _ _ _ h => h)) (pe_glob (v := .ref C) (by rfl) T.gR rfl) (pa_cons (pe_op op_add_str pe_str (pe_op My.op_mulS pe_str pe_int)) pa_nil)))) (pe_tup (pa_cons pe_str (pa_cons pe_int (pa_cons pe_int pa_nil)))) (nomark _)) (pss_one (ps_ret pe_bl)) pss_nil)
      (pss_one (ps_ret (pe_cmpR (My.op_eqP hr.units) (My.pe_heard (k := 7) DH TH hgd (hr.mono (by decide)) TB rfl hmT hu (by rfl) (LamX.lamS_by (by show LamX.lamSB (defScope s_law) _ = true; decide +kernel)) rfl (fun _ _ _ _ _ => rfl) (fun A outer s H E f c hrl => (My.pe_cm K_read (hrl.mono (by decide)) (passes_call (takes_of rfl rfl rfl rfl) (fun _ _ _ _ h => h)) (pe_glob (v := .ref C) (by rfl) T.gR rfl) (pa_cons (pe_op op_add_str pe_str (pe_op My.op_mulS pe_str pe_int)) pa_nil)))) (pe_tup (pa_cons pe_str (pa_cons pe_int (pa_cons pe_int pa_nil)))) (nomark _))))))))))))))), ?_⟩
    refine ⟨_, rfl, sc, ns, rfl, hs, fun pn H1 h1 p1 s1 => ?_⟩
    refine ⟨8, rfl, by decide, by decide, for_range (fun i σ H' => ∃ v2 v3 v4 v5 v6 v7, σ = [some (.ref sc), some (.ref pn), v2, v3, v4, v5, v6, v7, none, none] ∧ PenAt H' pn (250 * i) ∧ LamX.Tabs TS H') ⟨none, none, none, none, none, none, rfl, p1, ht.ext s1⟩ ?_ ?_⟩
    · rintro i σ H' hi ⟨v2, v3, v4, v5, v6, v7, rfl, hp, htb⟩
      have hi8 : i < 8 := hi
      refine ⟨_, rfl, pn, 250 * i, rfl, hp, by omega, fun l ps ns H2 R l1 l7 okn p2 u2 nl np => ?_⟩
      have t2 := tabs_but htb hp u2
      have rowOf : ∀ {j : Nat} {v : V}, (ps.map V.ref)[j]? = some v → ∃ p n, v = .ref p ∧ H2 p = some (.tup [.int n.1, .int n.2]) ∧ okR n := fun {j v} hv => by
        rw [List.getElem?_map] at hv
        cases g : ps[j]? with
        | none => rw [g] at hv; cases hv
        | some p =>
          rw [g] at hv
          have lj := (List.getElem?_eq_some_iff.mp g).1
          obtain ⟨n, hn⟩ : ∃ n, ns[j]? = some n := ⟨_, List.getElem?_eq_getElem (by rw [← R.len]; exact lj)⟩
          exact ⟨p, n, (Option.some.inj hv).symm, R.at' j p n g hn, R.ok n (List.mem_of_getElem? hn)⟩
      refine ⟨_, rfl, l, rfl, ⟨_, SqL.of R.l⟩, ?_⟩
      refine for_list (xs := ps.map V.ref) (fun j σ Hh => ∃ w4 w5, σ = [some (.ref sc), some (.ref pn), some (.int (0 + (i : Nat))), some (.ref l), w4, w5, v6, v7, none, none] ∧ Same H2 Hh) ⟨v4, v5, rfl, fun _ _ e => e⟩ (fun j σ Hh _ ⟨_, _, _, e⟩ => SqL.of (e _ _ R.l)) ?_ ?_
      · rintro j v σ Hh hv ⟨w4, w5, rfl, s3⟩
        obtain ⟨p1', n1, rfl, hp1, on1⟩ := rowOf hv
        refine ⟨_, rfl, l, rfl, ⟨_, SqL.of (s3 _ _ R.l)⟩, ?_⟩
        refine for_list (xs := ps.map V.ref) (fun j σ Hh => ∃ w5, σ = [some (.ref sc), some (.ref pn), some (.int (0 + (i : Nat))), some (.ref l), some (.ref p1'), w5, v6, v7, none, none] ∧ Same H2 Hh) ⟨w5, rfl, s3⟩ (fun j σ Hh _ ⟨_, _, e⟩ => SqL.of (e _ _ R.l)) ?_ ?_
        · rintro j2 v2' σ Hh2 hv2 ⟨w5', rfl, s4⟩
          obtain ⟨p2', n2, rfl, hp2, on2⟩ := rowOf hv2
          refine ⟨_, rfl, _, rfl, p1', p2', n1.1, n1.2, n2.1, n2.2, rfl, SqT.of (s4 _ _ hp1), SqT.of (s4 _ _ hp2), on1, on2, fun H5 s5 => ⟨_, rfl, iteF ?_⟩⟩
          exact ⟨_, rfl, s4.trans s5⟩
        · rintro σ Hh2 ⟨w5', rfl, s4⟩
          exact ⟨_, _, rfl, s4⟩
      rintro σ H3 ⟨w4, w5, rfl, s3⟩
      have R3 := R.same s3
      have p3 := pen_same p2 s3
      have t3 := t2.ext s3
      clear rowOf R p2 t2 u2 htb hp
      obtain ⟨m, r, rfl⟩ : ∃ m r, ns = m :: r := by
        cases ns with
        | nil => exact absurd l1 (by decide)
        | cons a b => exact ⟨a, b, rfl⟩
      have l7' : r.length ≤ 6 := by
        have : r.length + 1 ≤ 7 := l7
        omega
      have okm : okR m := R3.ok m List.mem_cons_self
      have okr : ∀ x ∈ r, okR x := fun x hx => R3.ok x (List.mem_cons_of_mem _ hx)
      have o1 : okR (pickR (fun i j => decide (j < i)) m r) := pick_ok r m okm okr
      have o2 : okR (pickR (fun i j => decide (i < j)) m r) := pick_ok r m okm okr
      refine ⟨_, rfl, l, ps, m, r, rfl, R3, l7', fun tt q1 q2 H4 ht4 r1 r2 s4 => ?_⟩
      generalize ex1 : pickR (fun i j => decide (j < i)) m r = x1 at o1 r1
      generalize ex2 : pickR (fun i j => decide (i < j)) m r = x2 at o2 r2
      refine ⟨tt, rfl, ⟨_, SqL.of ht4⟩, fun D hD => ?_⟩
      refine lc_list (xs := [.ref q1, .ref q2]) (fun j Hh => Hh D = some (.lst (([two x1.1 x1.2, two x2.1 x2.2].take j).map V.str)) ∧ Same H4 Hh) ⟨upd_same, same_new hD⟩ (fun j Hh _ ⟨_, s⟩ => SqL.of (s _ _ ht4)) ?_ ?_
      · rintro j v Hh hv ⟨g1, g2⟩
        obtain ⟨q, n, rfl, rq, on, et⟩ : ∃ (q : Addr) (n : Int × Int), v = .ref q ∧ RatAt C H4 q n.1 n.2 ∧ okR n ∧ [two x1.1 x1.2, two x2.1 x2.2][j]? = some (two n.1 n.2) := by
          rcases j with _ | _ | j
          · exact ⟨q1, x1, (Option.some.inj hv).symm, r1, o1, rfl⟩
          · exact ⟨q2, x2, (Option.some.inj hv).symm, r2, o2, rfl⟩
          · cases hv
        have j2 : j < 2 := (List.getElem?_eq_some_iff.mp et).1
        refine ⟨rfl, yes_go ⟨_, rfl, q, n.1, n.2, rfl, rq.same g2, on.2.2.1.log, on.2.2.2.log, fun Hy sy => ⟨_, sy _ _ g1, ?_, ?_, ?_⟩⟩⟩
        · rw [List.length_map, List.length_take, sizeLine_eq]
          omega
        · rw [take1 et, List.map_append]
          exact upd_same
        · intro b o e
          rw [upd_ne (ne_of_none e hD)]
          exact sy _ _ (g2 _ _ e)
      rintro H5 ⟨g1, g2⟩
      refine ⟨_, rfl, l, ps, m, r, rfl, R3.same (s4.trans g2), fun t6 H6 e6 s6 => ?_⟩
      rw [ex1, ex2] at e6
      have ls : Dp K H6 (.ref D) (.list [.str (two x1.1 x1.2), .str (two x2.1 x2.2)]) := .lst (SqL.of (s6 _ _ g1)) (.cons (.str _) (.cons (.str _) .nil))
      refine ⟨_, _, ls, .lst (SqL.of e6) (.cons (.str _) (.cons (.str _) .nil)), rfl, rfl, Nat.le_trans (Nat.min_le_right _ _) (by show _ ≤ 60; exact (by decide : (1 : Nat) + 0 ≤ 60)), _, rfl, ?_⟩
      have e : PyData.eqv (.list [.str (two x1.1 x1.2), .str (two x2.1 x2.2)]) (.list [.str (two x1.1 x1.2), .str (two x2.1 x2.2)]) = true := SeqAt.eqv_refl_plain _ rfl
      rw [e]
      refine iteF ?_
      have s36 := (s4.trans g2).trans s6
      have R6 := R3.same s36
      have p6 := pen_same p3 s36
      have t6' := t3.ext s36
      clear ls e g1 ht4 r1 r2
      obtain ⟨lp, hlp⟩ : ∃ lp, ps[ps.length - 1]? = some lp := ⟨_, List.getElem?_eq_getElem (by have := R6.len; rw [List.length_cons] at this; omega)⟩
      obtain ⟨⟨la, lb⟩, hln⟩ : ∃ x, (m :: r)[ps.length - 1]? = some x := ⟨_, List.getElem?_eq_getElem (by have := R6.len; rw [List.length_cons] at this ⊢; omega)⟩
      have lt6 := R6.at' _ _ _ hlp hln
      have lok := okn _ (List.mem_of_getElem? hln)
      have la6 : atI (ps.map V.ref) (-1 : Int) = some (.ref lp) := at_last (by rw [List.length_map, List.getElem?_map, hlp]; rfl)
      refine ⟨_, rfl, _, rfl, l, _, _, _, rfl, rfl, SqL.of R6.l, la6, ?_⟩
      have okl := lok.r
      have lA : (if la < 0 then -la else la).natAbs.log2 < 1920 := by
        have e : (if la < 0 then -la else la).natAbs = la.natAbs := by split <;> omega
        rw [e]
        exact okl.2.2.1.log
      have nA := num_len lA
      have nB := num_len okl.2.2.2.log
      refine ⟨_, rfl, lp, _, _, _, rfl, rfl, SqT.of lt6, at0, la, rfl, _, rfl, lA, ?_⟩
      refine ⟨_, _, rfl, ⟨by rw [sizeLine_eq]; exact Nat.le_trans nA (by decide), rfl⟩, _, rfl, lp, _, _, _, rfl, rfl, SqT.of lt6, at1, lb, rfl, okl.2.2.2.log, _, _, rfl, ⟨by rw [sizeLine_eq]; exact Nat.le_trans nB (by decide), rfl⟩, _, _, rfl, ?_⟩
      have fin : ∀ (w7 : Option V) (Hz : Hp), PenAt Hz pn (250 * i + 203) → LamX.Tabs TS Hz → ∃ v2 v3 v4 v5 v6 v7, [some (.ref sc), some (.ref pn), some (.int (0 + (i : Nat))), some (.ref l), w4, w5, some (.ref lp), w7, none, none] = [some (.ref sc), some (.ref pn), v2, v3, v4, v5, v6, v7, none, none] ∧ PenAt Hz pn (250 * (i + 1)) ∧ LamX.Tabs TS Hz := fun w7 Hz pz tz => ⟨_, _, _, _, _, _, rfl, pz.le (by omega), tz⟩
      refine ⟨_, rfl, _, _, rfl, rfl, _, rfl, ite2 (fun c8 => ?_) (fun c8 => iteF (fin _ _ (p6.le (by omega)) t6'))⟩
      refine ⟨_, rfl, _, rfl, pn, lp, 250 * i + 200, la, lb, rfl, p6, by omega, SqT.of lt6, lok, t6', fun H7 p7 t7 => ⟨_, rfl, iteF (fin _ _ p7 t7)⟩⟩
    · rintro σ H' ⟨v2, v3, v4, v5, v6, v7, rfl, hp, htb⟩
      refine ⟨_, rfl, (by show 1 ≤ sizeLine; decide), fun a1 k1 => ⟨(by show 1 ≤ sizeLine; decide), fun a2 k2 => fun a3 k3 => ⟨(by show 6 ≤ sizeLine; decide), fun l4 h4 => ?_⟩⟩⟩
      have q1 := same_new (o := .tup [.int 1]) k1
      have q2 := same_new (o := .lst [.int 1]) k2
      have q3 := same_new (o := .dK []) k3
      have od : OddL (upd (upd (upd H' a1 (.tup [.int 1])) a2 (.lst [.int 1])) a3 (.dK [])) a1 a2 a3 := ⟨q3 _ _ (q2 _ _ upd_same), q3 _ _ upd_same, upd_same⟩
      have s3 := (q1.trans q2).trans q3
      generalize upd (upd (upd H' a1 (.tup [.int 1])) a2 (.lst [.int 1])) a3 (.dK []) = H3 at od s3 h4 ⊢
      have s4 := same_new (o := .lst [.non, .bl true, .str "1", .ref a1, .ref a2, .ref a3]) h4
      have od4 := od.ext (ext_same s4)
      have p3 := pen_same hp s3
      have p4 := pen_same hp (s3.trans s4)
      have tb4 := htb.ext (s3.trans s4)
      refine ⟨pn, l4, _, _, rfl, upd_same, pen_ne p3 h4, (by show 0 < 6; decide), (by show 6 ≤ 1000; decide), p4, by omega, fun v H5 hv p5 u5 => ?_⟩
      have tb5 := tabs_but tb4 p4 u5
      have od5 : OddL H5 a1 a2 a3 := by
        obtain ⟨m1, m2, m3⟩ := od4.ne p4
        exact ⟨u5 _ _ od4.t m1, u5 _ _ od4.l m2, u5 _ _ od4.d m3⟩
      clear od od4 p3 p4 p5 u5 q1 q2 q3 s3 s4 hp htb tb4
      refine ⟨tb5, fun G x1 tb1 => ?_⟩
      refine ⟨rfl, (by show 0 ≤ 100; decide), .inr ⟨⟨[], rfl, (fun i v b e _ => by cases e), .inl rfl⟩, heardN fun t1 H6 s6 e6 => ⟨(by show 1 ≤ sizeLine; decide), fun L hL => ?_⟩⟩⟩
      have o6 := (od5.ext x1).ext (ext_same s6)
      have n1 := ne_of_none o6.t hL
      have n2 := ne_of_none o6.l hL
      have n3 := ne_of_none o6.d hL
      have s7 := same_new (o := .lst [.ref t1]) hL
      have o7 := o6.ext (ext_same s7)
      have N7 : NumL (upd H6 L (.lst [.ref t1])) L [t1] := ⟨upd_same, fun u hu => by rw [List.mem_singleton.mp hu]; exact s7 _ _ e6⟩
      have tb7 := (tb1.ext s6).ext s7
      generalize upd H6 L (.lst [.ref t1]) = H7 at o7 N7 tb7 ⊢
      clear s7 o6 s6 e6 hL x1 od5 tb1 tb5
      -- greatest of none
      refine ⟨_, rfl, .inl ⟨rfl, _, SqL.of N7.l⟩, tb7, fun G x1 tb1 => ?_⟩
      refine ⟨rfl, (by show 0 ≤ 100; decide), .inr ⟨⟨[], rfl, (fun i v b e _ => by cases e), .inl rfl⟩, heardN fun t2 H8 s8 e8 => ?_⟩⟩
      have N8 := (N7.ext x1).ext (ext_same s8)
      have o8 := ((o7.ext x1).ext (ext_same s8)).put (o := .lst ([t1].map V.ref ++ [.ref t2])) n1 n2 n3
      have tb8 := tabs_put (o := .lst ([t1].map V.ref ++ [.ref t2])) (tb1.ext s8) N8.l
      refine ⟨L, _, _, rfl, rfl, N8.l, (by show 1 < sizeLine; decide), ?_⟩
      have N9 := N8.put e8
      generalize upd H8 L (.lst ([t1].map V.ref ++ [.ref t2])) = H9 at N9 o8 tb8 ⊢
      clear N7 o7 tb7 x1 tb1 s8 e8 N8
      -- least with another
      refine ⟨_, rfl, .inl ⟨rfl, _, SqL.of N9.l⟩, tb8, fun G x1 tb1 => ?_⟩
      have o9 := o8.ext x1
      have one : ∀ Hz : Hp, Any C Hz (.int 1) true := fun Hz => .inl ⟨rfl, 1, 1, .inr ⟨rfl, rfl⟩⟩
      refine ⟨rfl, _, rfl, (by show 2 ≤ 100; decide), .inr ⟨⟨[true, false], rfl, (fun i u b e1 e2 => ?_), .inr rfl⟩, heardN fun t3 H10 s10 e10 => ?_⟩⟩
      · rcases i with _ | _ | i
        · cases e1
          cases e2
          exact one _
        · cases e1
          cases e2
          exact o9.any hv
        · cases e1
      have N10 := (N9.ext x1).ext (ext_same s10)
      have o10 := (o9.ext (ext_same s10)).put (o := .lst (([t1] ++ [t2]).map V.ref ++ [.ref t3])) n1 n2 n3
      have tb10 := tabs_put (o := .lst (([t1] ++ [t2]).map V.ref ++ [.ref t3])) (tb1.ext s10) N10.l
      refine ⟨L, _, _, rfl, rfl, N10.l, (by show 2 < sizeLine; decide), ?_⟩
      have N11 := N10.put e10
      generalize upd H10 L (.lst (([t1] ++ [t2]).map V.ref ++ [.ref t3])) = H11 at N11 o10 tb10 ⊢
      clear N9 o8 tb8 x1 tb1 s10 e10 N10 o9
      -- greatest with another
      refine ⟨_, rfl, .inl ⟨rfl, _, SqL.of N11.l⟩, tb10, fun G x1 tb1 => ?_⟩
      have o11 := o10.ext x1
      refine ⟨rfl, _, rfl, fun q dx hx hd ne => init_at (a := 1) (b := 2) (by decide) (by decide) hx hd ne fun H12 l12 s12 => ?_⟩
      have o12 := o11.ext (ext_same s12)
      refine ⟨(by show 2 ≤ 100; decide), .inr ⟨⟨[false, true], rfl, (fun i u b e1 e2 => ?_), .inr rfl⟩, heardN fun t4 H13 s13 e13 => ?_⟩⟩
      · rcases i with _ | _ | i
        · cases e1
          cases e2
          exact o12.any hv
        · cases e1
          cases e2
          exact .inl ⟨rfl, _, _, .inl ⟨q, rfl, l12⟩⟩
        · cases e1
      have N12 := ((N11.ext x1).ext (ext_same s12)).ext (ext_same s13)
      have tb12 := tabs_put (o := .lst (([t1] ++ [t2] ++ [t3]).map V.ref ++ [.ref t4])) ((tb1.ext s12).ext s13) N12.l
      refine ⟨L, _, _, rfl, rfl, N12.l, (by show 3 < sizeLine; decide), ?_⟩
      have N13 := N12.put e13
      generalize upd H13 L (.lst (([t1] ++ [t2] ++ [t3]).map V.ref ++ [.ref t4])) = H14 at N13 tb12 ⊢
      clear N11 o10 tb10 x1 tb1 s13 e13 N12 o11 o12 l12 s12
      -- all four
      refine ⟨_, rfl, (by show 2 ≤ sizeLine; decide), fun a5 k5 => ⟨(by show 1 ≤ sizeLine; decide), fun l6 k6 => ⟨l6, 4, _, rfl, rfl, upd_same, by decide, by decide, (by show 1 * 4 ≤ sizeLine; decide), fun p7 k7 => ?_⟩⟩⟩
      have z5 := same_new (o := .tup [.str "ratio", .str "numbers"]) k5
      have z6 := same_new (o := .lst [.ref a5]) k6
      have z7 := same_new (o := .lst (List.replicate (Int.toNat 4) [V.ref a5]).flatten) k7
      have N14 := N13.ext (ext_same ((z5.trans z6).trans z7))
      have tb13 := tb12.ext ((z5.trans z6).trans z7)
      have A7 := z7 _ _ (z6 _ _ (upd_same (H := H14) (a := a5) (o := .tup [.str "ratio", .str "numbers"])))
      have P7 : (upd (upd (upd H14 a5 (.tup [.str "ratio", .str "numbers"])) l6 (.lst [.ref a5])) p7 (.lst (List.replicate (Int.toNat 4) [V.ref a5]).flatten)) p7 = some (.lst [.ref a5, .ref a5, .ref a5, .ref a5]) := upd_same
      generalize upd (upd (upd H14 a5 (.tup [.str "ratio", .str "numbers"])) l6 (.lst [.ref a5])) p7 (.lst (List.replicate (Int.toNat 4) [V.ref a5]).flatten) = H15 at N14 tb13 A7 P7 ⊢
      have dL : Dp K H15 (.ref L) (.list [numD, numD, numD, numD]) := .lst (SqL.of N14.l) (.cons (num_dp (N14.all t1 (by simp))) (.cons (num_dp (N14.all t2 (by simp))) (.cons (num_dp (N14.all t3 (by simp))) (.cons (num_dp (N14.all t4 (by simp))) .nil))))
      have dP : Dp K H15 (.ref p7) (.list [numD, numD, numD, numD]) := .lst (SqL.of P7) (.cons (num_dp A7) (.cons (num_dp A7) (.cons (num_dp A7) (.cons (num_dp A7) .nil))))
      refine ⟨_, _, dL, dP, rfl, rfl, Nat.le_trans (Nat.min_le_right _ _) (by decide), _, rfl, ?_⟩
      have e : (!PyData.eqv (.list [numD, numD, numD, numD]) (.list [numD, numD, numD, numD])) = false := by decide +kernel
      rw [e]
      refine iteF ?_
      clear dL dP A7 P7 N14 N13 tb12 z5 z6 z7 k7 k6 k5
      -- least of seven
      refine ⟨rfl, fun q dx hx hd ne => init_at (a := 1) (b := 3) (by decide) (by decide) hx hd ne fun H16 l16 s16 => ?_⟩
      have ok13 : okR (1, 3) := ⟨by decide, by decide, by show (1 : Int).natAbs < 2 ^ 300; decide +kernel, by show (3 : Int).natAbs < 2 ^ 300; decide +kernel⟩
      refine ⟨(by show 7 ≤ 100; decide), .inl ⟨(9, 1), [(8, 1), (7, 1), (6, 1), (5, 1), (4, 1), (1, 3)], nums7 [9, 8, 7, 6, 5, 4] l16 ok13 (smalls (by decide)), fun q17 H17 r17 s17 => ?_⟩⟩
      have ep : pickR (fun i j => decide (j < i)) (9, 1) [(8, 1), (7, 1), (6, 1), (5, 1), (4, 1), (1, 3)] = (1, 3) := by decide
      rw [ep] at r17
      refine fun x18 dx18 hx18 hd18 ne18 => init_at (a := 1) (b := 3) (by decide) (by decide) hx18 hd18 ne18 fun H18 l18 s18 => ?_
      have r18 := r17.same s18
      obtain ⟨dy, ey⟩ := id r18
      refine ⟨q17, dy, _, _, rfl, ey, T.ty l18, T.sf, q17, 1, 3, _, rfl, r18, .inl ⟨_, _, .inl ⟨x18, rfl, l18⟩, fun H19 s19 => ⟨_, rfl, _, rfl, ?_⟩⟩⟩
      have ed : decide ((1 : Int) = lowT 1 3 ∧ (3 : Int) = lowB 1 3) = true := by decide
      rw [ed]
      refine iteF ?_
      have tb19 := (((tb13.ext s16).ext s17).ext s18).ext s19
      clear r18 r17 ey l18 l16 ep ed
      -- greatest of seven
      refine ⟨rfl, fun q dx hx hd ne => init_at (a := 13) (b := 2) (by decide) (by decide) hx hd ne fun H20 l20 s20 => ?_⟩
      have ok132 : okR (13, 2) := ⟨by decide, by decide, by show (13 : Int).natAbs < 2 ^ 300; decide +kernel, by show (2 : Int).natAbs < 2 ^ 300; decide +kernel⟩
      refine ⟨(by show 7 ≤ 100; decide), .inl ⟨(1, 1), [(2, 1), (3, 1), (4, 1), (5, 1), (6, 1), (13, 2)], nums7 [1, 2, 3, 4, 5, 6] l20 ok132 (smalls (by decide)), fun q21 H21 r21 s21 => ?_⟩⟩
      have ep : pickR (fun i j => decide (i < j)) (1, 1) [(2, 1), (3, 1), (4, 1), (5, 1), (6, 1), (13, 2)] = (13, 2) := by decide
      rw [ep] at r21
      refine fun x22 dx22 hx22 hd22 ne22 => init_at (a := 13) (b := 2) (by decide) (by decide) hx22 hd22 ne22 fun H22 l22 s22 => ?_
      have r22 := r21.same s22
      obtain ⟨dz, ez⟩ := id r22
      refine ⟨q21, dz, _, _, rfl, ez, T.ty l22, T.sf, q21, 13, 2, _, rfl, r22, .inl ⟨_, _, .inl ⟨x22, rfl, l22⟩, fun H23 s23 => ⟨_, rfl, _, rfl, ?_⟩⟩⟩
      have ed : decide ((13 : Int) = lowT 13 2 ∧ (2 : Int) = lowB 13 2) = true := by decide
      rw [ed]
      refine iteF ?_
      have tb23 := (((tb19.ext s20).ext s21).ext s22).ext s23
      clear r22 r21 ez l22 l20 ep ed
      -- texts too long
      have e0 : ("0" : Str).length = 1 := rfl
      have m060 : (mulS "0" (Int.toNat 60)).length ≤ 61 := by decide +kernel
      have f1 : ("1/1" : Str).length = 3 := rfl
      have f2 : ("1" : Str).length = 1 := rfl
      obtain ⟨y1, y2⟩ := far_none ("1/1" ++ mulS "0" (Int.toNat 60)) List.mem_cons_self
      obtain ⟨y3, y4⟩ := far_none ("1" ++ mulS "0" (Int.toNat 60)) (List.mem_cons_of_mem _ List.mem_cons_self)
      refine ⟨tb23, fun G x1 tb1 => ?_⟩
      refine ⟨rfl, "0", 60, rfl, rfl, by decide, by decide, by decide, by decide, (by rw [sizeLine_eq]; omega), "1/1", _, rfl, rfl, (by rw [f1, sizeLine_eq]; omega), ?_⟩
      refine ⟨_, rfl, .inl ⟨_, .str _⟩, y1, fun a' b' er _ _ _ _ _ _ _ _ => ?_, fun no => heardT fun t7 H24 s24 e24 => ?_⟩
      · have er : RT.readR (TL.tl ("1/1" ++ mulS "0" (Int.toNat 60))) = some (a', b') := er
        rw [y2] at er
        cases er
      refine ⟨(by show 3 ≤ sizeLine; decide), fun t8 h8 => ?_⟩
      have s8 := same_new (o := .tup [.str "text", .int 0, .int 0]) h8
      refine ⟨badD, badD, bad_dp (s8 _ _ e24), bad_dp upd_same, rfl, rfl, (Nat.le_trans (Nat.min_le_right _ _) (by decide)), _, rfl, ?_⟩
      have e : (!PyData.eqv badD badD) = false := by decide +kernel
      rw [e]
      refine iteF ?_
      have tb24 := (tb1.ext s24).ext s8
      refine ⟨tb24, fun G x1 tb1 => ?_⟩
      refine ⟨rfl, "0", 60, rfl, rfl, by decide, by decide, by decide, by decide, (by rw [sizeLine_eq]; omega), "1", _, rfl, rfl, (by rw [f2, sizeLine_eq]; omega), ?_⟩
      refine ⟨_, rfl, .inl ⟨_, .str _⟩, y3, fun a' b' er _ _ _ _ _ _ _ _ => ?_, fun no => heardT fun t7 H24 s24 e24 => ?_⟩
      · have er : RT.readR (TL.tl ("1" ++ mulS "0" (Int.toNat 60))) = some (a', b') := er
        rw [y4] at er
        cases er
      refine ⟨(by show 3 ≤ sizeLine; decide), fun t8 h8 => ?_⟩
      have s8 := same_new (o := .tup [.str "text", .int 0, .int 0]) h8
      refine ⟨badD, badD, bad_dp (s8 _ _ e24), bad_dp upd_same, rfl, rfl, (Nat.le_trans (Nat.min_le_right _ _) (by decide)), ?_⟩
      have e : PyData.eqv badD badD = true := SeqAt.eqv_refl_plain _ rfl
      rw [e]
      exact k _
end
end My
namespace My
open PySem PySem.Spec PyProof.Rows L2
theorem all_mk {l : PySem.W.OpenLaw} {w : World} {K : PySem.W.Frag} {h : Heap} {mg : Str → Option Value} {fa CE C CB fB CN CT fT : Addr} {tM : Tok} {c1 t1 : Addr} {e1 : Value} {dd1 : Option Addr} {vs1 : Array Value} {sx1 : Array (Option Value)} {c2 t2 : Addr} {e2 : Value} {dd2 : Option Addr} {vs2 : Array Value} {sx2 : Array (Option Value)} (hfa : mg "law" = some (.ref fa))
    (_gR : mg "Ratio" = some (.ref C))
    (_gB : mg "BadRatio" = some (.ref CB))
    (_gN : mg "NoDivisor" = some (.ref CN))
    (_gE : mg "ClipError" = some (.ref CE))
    (_iB : PySem.W.findIn K (.ref CB) "__init__" = some (some (.ref fB)))
    (_gT : mg "BadText" = some (.ref CT))
    (_gM : mg "MOST_DIGITS" = some (.int 60 tM))
    (_iT : PySem.W.findIn K (.ref CT) "__init__" = some (some (.ref fT)))
    (T : RTy l.prog K mg C CB fB CN CT fT tM)
    (mk : PySem.W.makesIn K C = true)
    (kp : PySem.W.keepIn K (.ref C) = true)
    (su : PySem.W.subIn K (.ref C) (.type "int") = some false)
    (ne0 : PySem.W.findIn K (.ref C) "__ne__" = some (some (.builtin "object.__ne__")))
    (A_init : HasD K C "__init__" "Ratio.__init__" s_init [.int 1] [])
    (A_isnum : HasS K C "is_number" "Ratio.is_number" s_isnum)
    (A_of : HasS K C "of" "Ratio.of" s_of)
    (A_whole0 : Has K mg "is_whole" s_whole0)
    (A_cd : Has K mg "common_divisor" s_cd)
    (A_partsof : Has K mg "parts_of" s_partsof)
    (A_pen : Has K mg "_law_pen" s_pen)
    (A_draw : Has K mg "_law_draw" s_draw)
    (A_pick : Has K mg "_law_pick" s_pick)
    (TW : WTx mg)
    (TH : HTx l.prog K mg CE CB fB CT fT)
    (A_least : HasS K C "least" "Ratio.least" s_least)
    (A_greatest : HasS K C "greatest" "Ratio.greatest" s_greatest)
    (A_read : HasCM K C "read" "Ratio.read" s_read)
    (A_eq : HasM K C "__eq__" "Ratio.__eq__" s_eq)
    (A_lt : HasM K C "__lt__" "Ratio.__lt__" s_lt)
    (A_le : HasM K C "__le__" "Ratio.__le__" s_le)
    (A_gt : HasM K C "__gt__" "Ratio.__gt__" s_gt)
    (A_ge : HasM K C "__ge__" "Ratio.__ge__" s_ge)
    (A_str : HasM K C "__str__" "Ratio.__str__" s_str)
    (A_figof : Has K mg "figures_of" s_figof)
    (A_heard : Has K mg "_law_heard" s_heard)
    (A_lwhole : Has K mg "_law_whole" s_lwhole)
    (A_pair : Has K mg "_law_pair" s_pair)
    (A_lowest : Has K mg "_law_lowest" s_lowest)
    (A_parts : Has K mg "_law_parts" s_parts)
    (A_lrow : Has K mg "_law_row" s_lrow)
    (A_twoR : Has K mg "_law_two_right" s_twoR)
    (A_ends : Has K mg "_law_ends" s_ends)
    (A_told : Has K mg "_law_told" s_told)
    (A_lline : Has K mg "_law_line" s_lline)
    (A_isline : Has K mg "_law_is_line" s_isline)
    (A_textsR : HasC K mg "_law_texts_right" s_textsR c1) (_p1 : K.lookup c1 = some ⟨e1, dd1, .fields vs1, sx1⟩) (_q1 : vs1[11]? = some (.ref t1)) (T1 : TabF K h (c1, t1))
    (A_law : HasC K mg "law" s_law c2) (_p2 : K.lookup c2 = some ⟨e2, dd2, .fields vs2, sx2⟩) (_q2 : vs2[11]? = some (.ref t2)) (T2 : TabF K h (c2, t2))
    (_n1_2 : ¬ t1 = t2)
    : LawG l w K 11 63 "_law_script" mg fa h := by
  obtain ⟨f_1, oc_1, od_1, kV_1, dc_1, pm_1, an_1, ct_1, sl_1, m_1, l_1, d_1, k_1⟩ := A_textsR.ex
  obtain ⟨f_2, oc_2, od_2, kV_2, dc_2, pm_2, an_2, ct_2, sl_2, m_2, l_2, d_2, k_2⟩ := A_law.ex
  have e := hfa.symm.trans m_2
  cases e
  obtain ⟨fh, fdh, hh, Fh⟩ := A_heard.ex
  refine ⟨PySem.W.fnOf "law" "law" (defArgs s_law) (defBody s_law) (defScope s_law) .none kV_2 dc_2 pm_2 an_2 (.ref c2) ct_2, [(c1, t1), (c2, t2)], spLaw K [(t1, (("_law_texts_right" : Str) ++ ".<locals>.") ++ "<lambda>"), (t2, (("law" : Str) ++ ".<locals>.") ++ "<lambda>")], fun p hp => ?_, fun s u => ?_, fun H a ns hn hb ht hs => ?_, fun base hK hN hT => ?_⟩
  · simp only [List.mem_cons, List.mem_nil_iff, or_false] at hp
    rcases hp with rfl | rfl
    · exact T1
    · exact T2
  · exact .of_eq rfl
  · refine ⟨a, ns, rfl, hs, fun p hp => ?_, fun _ => rfl⟩
    simp only [List.mem_cons, List.mem_nil_iff, or_false] at hp
    rcases hp with rfl | rfl
    · exact LamX.TabS.nil (ht (c1, t1) (.head _))
    · exact LamX.TabS.nil (ht (c2, t2) (.tail _ (.head _)))
  · have TB1 := hT (c1, t1) (.head _)
    have TB2 := hT (c2, t2) (.tail _ (.head _))
    have D_whole0 : DefAt l.prog w K mg base CX0 1 "is_whole" ["value"] (spWhole0 C) := def_at A_whole0 (fun f fd F => ok_whole0 F T.toRTx) fun _ _ _ _ _ _ us hl => match us, hl with | [_], _ => rfl
    have D_cd : DefAt l.prog w K mg base CX0 1 "common_divisor" ["one", "other"] spCd := def_at A_cd (fun f fd F => ok_cd F T.toBI) fun _ _ _ _ _ _ us hl => match us, hl with | [_, _], _ => rfl
    have D_partsof : DefAt l.prog w K mg base CX0 1 "parts_of" ["number"] (spParts0 C) := def_at A_partsof (fun f fd F => ok_partsof F T.toRTx) fun _ _ _ _ _ _ us hl => match us, hl with | [_], _ => rfl
    have D_pen : DefAt l.prog w K mg base CX0 1 "_law_pen" ["_law_script"] (spPen K) := def_at A_pen (fun f fd F => ok_pen F T.toBI) fun _ _ _ _ _ _ us hl => match us, hl with | [_], _ => rfl
    have D_draw : DefAt l.prog w K mg base CX0 1 "_law_draw" ["_law_pen_here", "_law_many"] spDraw := def_at A_draw (fun f fd F => ok_draw F T.toBI) fun _ _ _ _ _ _ us hl => match us, hl with | [_, _], _ => rfl
    have D_pick : DefAt l.prog w K mg base CX0 2 "_law_pick" ["_law_pen_here", "_law_some"] spPick := def_at A_pick (fun f fd F => ok_pick F T.toBI D_draw) fun _ _ _ _ _ _ us hl => match us, hl with | [_, _], _ => rfl
    have M_Ratio : MakeAt l.prog w K mg base (L2.CX l.prog w) 3 "Ratio" C ["self", "top", "bottom"] (spInit C CB CN) [] := make_all A_init T.gR mk kp (fun f fd F => ok_init F T.toRTx D_whole0 D_cd) (by simp) fun _ _ _ _ _ _ _ us its hl hi => match us, hl, its, hi with | [_, _, _], _, [_], _ => ⟨_, rfl, rfl⟩
    have M_Ratio1 : MakeAt l.prog w K mg base (L2.CX l.prog w) 3 "Ratio" C ["self", "top", "bottom"] (spInit C CB CN) [.int 1] := make_dfl (n := 2) A_init T.gR mk kp (fun f fd F => ok_init F T.toRTx D_whole0 D_cd) (by simp) rfl fun _ _ _ _ _ _ _ us its hl hi => match us, hl, its, hi with | [_, _], _, [_], _ => ⟨_, rfl, rfl⟩
    have S_is_number : StatAt l.prog w K mg base CX0 2 C "is_number" ["thing"] (spIsnum C) := stat_at A_isnum (fun f fd F => ok_isnum F T.toRTx D_whole0) fun _ _ _ _ _ _ us hl => match us, hl with | [_], _ => rfl
    have S_of : StatAt l.prog w K mg base (L2.CX l.prog w) 5 C "of" ["number"] (spOf C CB) := stat_at A_of (fun f fd F => ok_of F T.toRTx S_is_number D_partsof M_Ratio) fun _ _ _ _ _ _ us hl => match us, hl with | [_], _ => rfl
    have CE_eq : CmpAt l.prog w K mg base CX0 3 C "__eq__" ["self", "other"] (spEqR C) := cmp_at A_eq (fun f fd F => ok_eq F T.toRTx S_is_number D_partsof) fun _ _ _ _ _ _ us hl => match us, hl with | [_, _], _ => rfl
    have CE_lt : CmpAt l.prog w K mg base CX0 3 C "__lt__" ["self", "other"] (spOrdR C fun i j => decide (i < j)) := cmp_at A_lt (fun f fd F => ok_lt F T.toRTx S_is_number D_partsof) fun _ _ _ _ _ _ us hl => match us, hl with | [_, _], _ => rfl
    have CE_le : CmpAt l.prog w K mg base CX0 3 C "__le__" ["self", "other"] (spOrdR C fun i j => decide (i ≤ j)) := cmp_at A_le (fun f fd F => ok_le F T.toRTx S_is_number D_partsof) fun _ _ _ _ _ _ us hl => match us, hl with | [_, _], _ => rfl
    have CE_gt : CmpAt l.prog w K mg base CX0 3 C "__gt__" ["self", "other"] (spOrdR C fun i j => decide (j < i)) := cmp_at A_gt (fun f fd F => ok_gt F T.toRTx S_is_number D_partsof) fun _ _ _ _ _ _ us hl => match us, hl with | [_, _], _ => rfl
    have CE_ge : CmpAt l.prog w K mg base CX0 3 C "__ge__" ["self", "other"] (spOrdR C fun i j => decide (j ≤ i)) := cmp_at A_ge (fun f fd F => ok_ge F T.toRTx S_is_number D_partsof) fun _ _ _ _ _ _ us hl => match us, hl with | [_, _], _ => rfl
    have ST_str : CmpAt l.prog w K mg base CX0 1 C "__str__" ["self"] (spStrR C) := cmp_at A_str (fun f fd F => ok_str F T.toRTx) fun _ _ _ _ _ _ us hl => match us, hl with | [_], _ => rfl
    have D_figof : DefAt l.prog w K mg base CX0 1 "figures_of" ["text"] (spWord TX.dg) := def_at A_figof (fun f fd F => ok_figof F T.toFTx) fun _ _ _ _ _ _ us hl => match us, hl with | [_], _ => rfl
    have K_read : ClsAt l.prog w K mg base (L2.CX l.prog w) 6 C "read" (spReadR C CT) := cls_at A_read (fun f fd F => ok_read F T D_figof M_Ratio ST_str) fun _ _ _ _ _ _ us hl => match us, hl with | [_, _], _ => rfl
    have KK_read : ClsK l.prog w K mg base (L2.CX l.prog w) 6 C "read" ["cls", "text"] ["text"] (spReadR C CT) gApp := clsK_at (g := fun us ws => us ++ ws) A_read (fun f fd F => ok_read F T D_figof M_Ratio ST_str) (fun _ _ _ _ _ _ us ws h1 h2 => match us, h1, ws, h2 with | [_], _, [_], _ => rfl) app_rel
    have S_least : StatR l.prog w K mg base (L2.CX l.prog w) 7 C "least" (spEndR C CB fun i j => decide (j < i)) := by
      obtain ⟨f, fd, h1, F⟩ := A_least.ex
      obtain ⟨oc, od, kV, doc, pm, an, cdv, ct, osl, rfl, lk, hcd⟩ := F.ex
      exact ⟨f, h1, ok_least (fd := PySem.W.fnOf "" "" default [] default .none .none .none .none none .none .none) lk hcd T.toRTx S_is_number S_of CE_gt⟩
    have S_greatest : StatR l.prog w K mg base (L2.CX l.prog w) 7 C "greatest" (spEndR C CB fun i j => decide (i < j)) := by
      obtain ⟨f, fd, h1, F⟩ := A_greatest.ex
      obtain ⟨oc, od, kV, doc, pm, an, cdv, ct, osl, rfl, lk, hcd⟩ := F.ex
      exact ⟨f, h1, ok_greatest (fd := PySem.W.fnOf "" "" default [] default .none .none .none .none none .none .none) lk hcd T.toRTx S_is_number S_of CE_lt⟩
    have D_drawC : DefAt l.prog w K mg base CX0 1 "_law_draw" ["_law_pen_here", "_law_many"] spDrawC := def_at A_draw (fun f fd F => ok_drawC F T.toBI) fun _ _ _ _ _ _ us hl => match us, hl with | [_, _], _ => rfl
    have D_pickC : DefAt l.prog w K mg base CX0 2 "_law_pick" ["_law_pen_here", "_law_some"] spPickC := def_at A_pick (fun f fd F => ok_pickC F T.toBI D_drawC) fun _ _ _ _ _ _ us hl => match us, hl with | [_, _], _ => rfl
    have D_lwhole : DefAt l.prog w K mg base CX0 3 "_law_whole" ["_law_pen_here"] spWholeL := def_at A_lwhole (fun f fd F => ok_lwhole F T.toBI D_drawC D_pickC) fun _ _ _ _ _ _ us hl => match us, hl with | [_], _ => rfl
    have D_pair : DefAt l.prog w K mg base CX0 4 "_law_pair" ["_law_pen_here"] spPairL := def_at A_pair (fun f fd F => ok_pair F T.toBI D_drawC D_lwhole) fun _ _ _ _ _ _ us hl => match us, hl with | [_], _ => rfl
    have D_lowest : DefAt l.prog w K mg base CX0 1 "_law_lowest" ["_law_top", "_law_bottom"] spLowest := def_at A_lowest (fun f fd F => ok_lowest F T.toBI) fun _ _ _ _ _ _ us hl => match us, hl with | [_, _], _ => rfl
    have D_parts : DefG l.prog w K mg base CX0 1 "_law_parts" ["_law_ratio"] (spPartsL C) := def_atG A_parts (fun f fd F => ok_parts F T.toRTx) fun _ _ _ _ _ _ us hl => match us, hl with | [_], _ => rfl
    have D_lrow : DefAt l.prog w K mg base CX0 5 "_law_row" ["_law_pen_here"] spLrow := def_at A_lrow (fun f fd F => ok_lrow F TW D_drawC D_pair D_lowest) fun _ _ _ _ _ _ us hl => match us, hl with | [_], _ => rfl
    have D_twoR : DefG l.prog w K mg base CX0 6 "_law_two_right" ["_law_one", "_law_other"] (spTwoR K) := def_atG A_twoR (fun f fd F => ok_twoR F T.toRTx su M_Ratio CE_lt CE_le CE_gt CE_ge) fun _ _ _ _ _ _ us hl => match us, hl with | [_, _], _ => rfl
    have D_ends : DefG l.prog w K mg base CX0 1 "_law_ends" ["_law_row_here"] spEnds := def_atG A_ends (fun f fd F => ok_ends F T.toBI) fun _ _ _ _ _ _ us hl => match us, hl with | [_], _ => rfl
    have D_told : DefAt l.prog w K mg base CX0 8 "_law_told" ["_law_row_here"] (spTold C) := def_at A_told (fun f fd F => ok_told F T.toRTx M_Ratio S_least S_greatest) fun _ _ _ _ _ _ us hl => match us, hl with | [_], _ => rfl
    have D_lline : DefAt l.prog w K mg base CX0 1 "_law_line" ["_law_pair_here"] (spLlineR K) := def_at A_lline (fun f fd F => ok_lline F T) fun _ _ _ _ _ _ us hl => match us, hl with | [_], _ => rfl
    have D_isline : DefAt l.prog w K mg base CX0 2 "_law_is_line" ["_law_page"] spIsline := def_at A_isline (fun f fd F => ok_isline F T D_lowest) fun _ _ _ _ _ _ us hl => match us, hl with | [_], _ => rfl
    have DH : HeardAt K mg := ⟨⟨fh, fdh, Fh, hh, Fh.binds fun _ _ _ _ _ _ us hl => match us, hl with | [_], _ => rfl⟩⟩
    have un1 : ∀ p ∈ [(t1, (("_law_texts_right" : Str) ++ ".<locals>.") ++ "<lambda>"), (t2, (("law" : Str) ++ ".<locals>.") ++ "<lambda>")], p.1 = t1 → p.2 = (("_law_texts_right" : Str) ++ ".<locals>.") ++ "<lambda>" := by
      intro p hp e
      simp only [List.mem_cons, List.mem_nil_iff, or_false] at hp
      rcases hp with rfl | rfl
      · exact rfl
      · exact absurd e (Ne.symm _n1_2)
    have D_textsR : DefG l.prog w K mg base CX0 9 "_law_texts_right" ["_law_pen_here", "_law_pair_here"] (spTextsR K [(t1, (("_law_texts_right" : Str) ++ ".<locals>.") ++ "<lambda>"), (t2, (("law" : Str) ++ ".<locals>.") ++ "<lambda>")]) := ⟨f_1, _, ok_textsR ⟨⟨oc_1, od_1, kV_1, dc_1, pm_1, an_1, ct_1, sl_1, rfl, l_1, d_1⟩, k_1⟩ T TH DH ne0 TB1 (.head _) un1 D_draw D_pick D_lline D_isline M_Ratio M_Ratio1 K_read KK_read CE_eq ST_str, m_1, k_1, .all fun us hl => match us, hl with | [_, _], _ => rfl⟩
    have un2 : ∀ p ∈ [(t1, (("_law_texts_right" : Str) ++ ".<locals>.") ++ "<lambda>"), (t2, (("law" : Str) ++ ".<locals>.") ++ "<lambda>")], p.1 = t2 → p.2 = (("law" : Str) ++ ".<locals>.") ++ "<lambda>" := by
      intro p hp e
      simp only [List.mem_cons, List.mem_nil_iff, or_false] at hp
      rcases hp with rfl | rfl
      · exact absurd e _n1_2
      · exact rfl
    exact ok_law ⟨⟨oc_2, od_2, kV_2, dc_2, pm_2, an_2, ct_2, sl_2, rfl, l_2, d_2⟩, k_2⟩ T TW TH DH ne0 TB2 (.tail _ (.head _)) un2 D_pen D_pick D_lrow D_twoR D_told D_ends D_parts D_textsR M_Ratio K_read S_least S_greatest CE_eq
end My
open PySem PySem.W PyProof.Rows
set_option maxRecDepth 100000 in
set_option maxHeartbeats 0 in
theorem PySem.Challenge.cw_clipfades_k04_ratios_in_order_and_read_holds : PySem.Challenge.rw_clipfades_k04_ratios_in_order_and_read.Holds := by
  w_on; o_law; k_head; (case hw => w_witness2)
  k_fill
  refine My.walk_G (l := PySem.Challenge.rw_clipfades_k04_ratios_in_order_and_read) (n := 63) (k := 11) (x := "_law_script") rfl (by decide) rfl ⟨rfl, by decide, by decide⟩ (fun w h Y => by first | exact PySem.W.km_in_of Y | exact PySem.W.kIn_of Y) ?F
  case F =>
    intro w mg fa h Y KX G hmg tf
    have bi : My.BI mg := ⟨mg_none_of KX G (by k_is), mg_none_of KX G (by k_is), mg_none_of KX G (by k_is), mg_none_of KX G (by k_is), mg_none_of KX G (by k_is), mg_none_of KX G (by k_is), mg_none_of KX G (by k_is), mg_none_of KX G (by k_is)⟩
    refine' My.all_mk hmg ?gR ?gB ?gN ?gE ?iB ?gT ?gM ?iT ?T ?mk ?kp ?su ?ne0 ?A_init ?A_isnum ?A_of ?A_whole0 ?A_cd ?A_partsof ?A_pen ?A_draw ?A_pick ?TW ?TH ?A_least ?A_greatest ?A_read ?A_eq ?A_lt ?A_le ?A_gt ?A_ge ?A_str ?A_figof ?A_heard ?A_lwhole ?A_pair ?A_lowest ?A_parts ?A_lrow ?A_twoR ?A_ends ?A_told ?A_lline ?A_isline ?A_textsR ?p1 ?q1 ?T1 ?A_law ?p2 ?q2 ?T2 ?n1_2
    case gR => exact mg_of KX G (by k_is)
    case gB => exact mg_of KX G (by k_is)
    case gN => exact mg_of KX G (by k_is)
    case gE => exact mg_of KX G (by k_is)
    case iB => k_is
    case gT => exact mg_of KX G (by k_is)
    case gM => exact mg_of KX G (by k_is)
    case iT => k_is
    case T => exact ⟨⟨bi, ⟨by k_is, by k_is, by k_is, by k_is⟩, show PySem.W.findIn _ (.ref _) "top" = some none by k_is, show PySem.W.findIn _ (.ref _) "bottom" = some none by k_is, mg_of KX G (by k_is), by k_is, by k_is, by k_is, by k_is, by kernel_rfl,
      ⟨mg_of KX G (by k_is), ⟨⟨_, _, _, _, _, _, _, _, _, _, _, _, _, _, _, by k_is, by decide⟩, by k_is, by k_is, by k_is, by k_is⟩, ⟨by k_is, by k_is, by k_is, by k_is⟩, by k_is, My.nm_part, by k_is, by k_is,
      ⟨_, _, _, _, _, _, _, _, _, _, _, _, _, _, _, _, _, _, _, _, _, _, by k_is, by k_is, ⟨_, _, _, by k_is⟩, _, _, _, _, _, _, by k_is, rfl, by decide +kernel, rfl⟩, by ks_is, by k_is, by k_is, mg_none_of KX G (by k_is), by k_is, by decide +kernel⟩, ⟨mg_of KX G (by k_is), by k_exc, by k_is, by k_is, by k_is⟩, mg_none_of KX G (by k_is), mg_none_of KX G (by k_is), mg_none_of KX G (by k_is), by kernel_rfl, My.kinds7 (by kernel_rfl) (by k_is) (by kernel_rfl) (by k_is) (by kernel_rfl) (by k_is) (by kernel_rfl) (by k_is) (by kernel_rfl) (by k_is) (by kernel_rfl) (by k_is) (by kernel_rfl) (by k_is), by k_is⟩,
      mg_of KX G (by k_is), ⟨mg_of KX G (by k_is), ⟨⟨_, _, _, _, _, _, _, _, _, _, _, _, _, _, _, by k_is, by decide⟩, by k_is, by k_is, by k_is, by k_is⟩, ⟨by k_is, by k_is, by k_is, by k_is⟩, by k_is, by k_is, My.nm2_line_word, by k_is, by k_is,
      ⟨_, _, _, _, _, _, _, _, _, _, _, _, _, _, _, _, _, _, _, _, _, _, _, _, _, _, _, _, by k_is, by k_is, ⟨_, _, _, by k_is⟩, _, _, _, _, _, _, by k_is, rfl, by decide +kernel, rfl⟩, by ks_is, by k_is, by k_is, mg_none_of KX G (by k_is), by k_is, by decide +kernel⟩, by kernel_rfl⟩
    case mk => k_is
    case kp => k_is
    case su => k_is
    case ne0 => k_is
    case A_init => exact ⟨_, _, by k_is, by k_is, ⟨_, _, _, _, _, _, _, _, _, _, rfl, by k_is, by k_is, .inr ⟨by simp, _, _, [.int 1 _], _, rfl, by k_is, rfl, .cons ⟨_, rfl⟩ .nil⟩, .inl rfl⟩, by k_is⟩
    case A_isnum => exact ⟨_, _, ⟨by k_is, ⟨.type "type", _, _, by k_is, by k_is, by k_is⟩, by k_is⟩, L2.fun_mk (by k_is) (by k_is) (by k_is)⟩
    case A_of => exact ⟨_, _, ⟨by k_is, ⟨.type "type", _, _, by k_is, by k_is, by k_is⟩, by k_is⟩, L2.fun_mk (by k_is) (by k_is) (by k_is)⟩
    case A_whole0 => exact ⟨_, _, mg_of KX G (by k_is), L2.fun_mk (by k_is) (by k_is) (by k_is)⟩
    case A_cd => exact ⟨_, _, mg_of KX G (by k_is), L2.fun_mk (by k_is) (by k_is) (by k_is)⟩
    case A_partsof => exact ⟨_, _, mg_of KX G (by k_is), L2.fun_mk (by k_is) (by k_is) (by k_is)⟩
    case A_pen => exact ⟨_, _, mg_of KX G (by k_is), L2.fun_mk (by k_is) (by k_is) (by k_is)⟩
    case A_draw => exact ⟨_, _, mg_of KX G (by k_is), L2.fun_mk (by k_is) (by k_is) (by k_is)⟩
    case A_pick => exact ⟨_, _, mg_of KX G (by k_is), L2.fun_mk (by k_is) (by k_is) (by k_is)⟩
    case TW => exact ⟨bi, mg_none_of KX G (by k_is)⟩
    case TH => exact ⟨bi, mg_of KX G (by k_is), ⟨mg_of KX G (by k_is), ⟨⟨_, _, _, _, _, _, _, _, _, _, _, _, _, _, _, by k_is, by decide⟩, by k_is, by k_is, by k_is, by k_is⟩, ⟨by k_is, by k_is, by k_is, by k_is⟩, by k_is, My.nm_part, by k_is, by k_is,
      ⟨_, _, _, _, _, _, _, _, _, _, _, _, _, _, _, _, _, _, _, _, _, _, by k_is, by k_is, ⟨_, _, _, by k_is⟩, _, _, _, _, _, _, by k_is, rfl, by decide +kernel, rfl⟩, by ks_is, by k_is, by k_is, mg_none_of KX G (by k_is), by k_is, by decide +kernel⟩, ⟨mg_of KX G (by k_is), ⟨⟨_, _, _, _, _, _, _, _, _, _, _, _, _, _, _, by k_is, by decide⟩, by k_is, by k_is, by k_is, by k_is⟩, ⟨by k_is, by k_is, by k_is, by k_is⟩, by k_is, by k_is, My.nm2_line_word, by k_is, by k_is,
      ⟨_, _, _, _, _, _, _, _, _, _, _, _, _, _, _, _, _, _, _, _, _, _, _, _, _, _, _, _, by k_is, by k_is, ⟨_, _, _, by k_is⟩, _, _, _, _, _, _, by k_is, rfl, by decide +kernel, rfl⟩, by ks_is, by k_is, by k_is, mg_none_of KX G (by k_is), by k_is, by decide +kernel⟩, by kernel_rfl, by kernel_rfl, by kernel_rfl⟩
    case A_least => exact ⟨_, _, ⟨by k_is, ⟨.type "type", _, _, by k_is, by k_is, by k_is⟩, by k_is⟩, L2.fun_mk (by k_is) (by k_is) (by k_is)⟩
    case A_greatest => exact ⟨_, _, ⟨by k_is, ⟨.type "type", _, _, by k_is, by k_is, by k_is⟩, by k_is⟩, L2.fun_mk (by k_is) (by k_is) (by k_is)⟩
    case A_read => exact ⟨.type "type", _, _, _, ⟨by k_is, by k_is⟩, ⟨by k_is, ⟨_, by k_is⟩, by k_is⟩, L2.fun_mk (by k_is) (by k_is) (by k_is)⟩
    case A_eq => exact ⟨_, _, by k_is, by k_is, L2.fun_mk (by k_is) (by k_is) (by k_is)⟩
    case A_lt => exact ⟨_, _, by k_is, by k_is, L2.fun_mk (by k_is) (by k_is) (by k_is)⟩
    case A_le => exact ⟨_, _, by k_is, by k_is, L2.fun_mk (by k_is) (by k_is) (by k_is)⟩
    case A_gt => exact ⟨_, _, by k_is, by k_is, L2.fun_mk (by k_is) (by k_is) (by k_is)⟩
    case A_ge => exact ⟨_, _, by k_is, by k_is, L2.fun_mk (by k_is) (by k_is) (by k_is)⟩
    case A_str => exact ⟨_, _, by k_is, by k_is, L2.fun_mk (by k_is) (by k_is) (by k_is)⟩
    case A_figof => exact ⟨_, _, mg_of KX G (by k_is), L2.fun_mk (by k_is) (by k_is) (by k_is)⟩
    case A_heard => exact ⟨_, _, mg_of KX G (by k_is), L2.fun_mk (by k_is) (by k_is) (by k_is)⟩
    case A_lwhole => exact ⟨_, _, mg_of KX G (by k_is), L2.fun_mk (by k_is) (by k_is) (by k_is)⟩
    case A_pair => exact ⟨_, _, mg_of KX G (by k_is), L2.fun_mk (by k_is) (by k_is) (by k_is)⟩
    case A_lowest => exact ⟨_, _, mg_of KX G (by k_is), L2.fun_mk (by k_is) (by k_is) (by k_is)⟩
    case A_parts => exact ⟨_, _, mg_of KX G (by k_is), L2.fun_mk (by k_is) (by k_is) (by k_is)⟩
    case A_lrow => exact ⟨_, _, mg_of KX G (by k_is), L2.fun_mk (by k_is) (by k_is) (by k_is)⟩
    case A_twoR => exact ⟨_, _, mg_of KX G (by k_is), L2.fun_mk (by k_is) (by k_is) (by k_is)⟩
    case A_ends => exact ⟨_, _, mg_of KX G (by k_is), L2.fun_mk (by k_is) (by k_is) (by k_is)⟩
    case A_told => exact ⟨_, _, mg_of KX G (by k_is), L2.fun_mk (by k_is) (by k_is) (by k_is)⟩
    case A_lline => exact ⟨_, _, mg_of KX G (by k_is), L2.fun_mk (by k_is) (by k_is) (by k_is)⟩
    case A_isline => exact ⟨_, _, mg_of KX G (by k_is), L2.fun_mk (by k_is) (by k_is) (by k_is)⟩
    case A_textsR => exact ⟨_, _, _, _, _, _, _, _, _, mg_of KX G (by k_is), by k_is, by k_is, by k_is⟩
    (case p1 => k_is); (case q1 => rfl)
    case T1 => exact tf "_law_texts_right" _ _ (by decide +kernel) (by kernel_rfl) (by kernel_rfl)
    case A_law => exact ⟨_, _, _, _, _, _, _, _, _, mg_of KX G (by k_is), by k_is, by k_is, by k_is⟩
    (case p2 => k_is); (case q2 => rfl)
    case T2 => exact tf "law" _ _ (by decide +kernel) (by kernel_rfl) (by kernel_rfl)
    case n1_2 => decide
