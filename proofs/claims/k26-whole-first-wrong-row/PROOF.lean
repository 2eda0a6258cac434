import PyProof.Rows.All
import Wide.All
import OpenK.AllK
import Wide.FinOn
import HandS.Base
import HandS.Call
import HandS.List
import HandS.Exc
import HandS.ExcOwn
import HandS.More
import HandS.ClsMeth
import HandS.TryMany
import PyProof.RulesMatch
import KE.KStateDown
import KE.KExcSuper
import HandS.Words
import HandS.Defaults
import HandS.HeadHook1
import HandS.HeadHook2
import HandS.HeadHook3
import PySem.Challenge.RW_quietprobes_k26_whole_first_wrong_row
import HandS.Head0
import HandS.Head1
import HandS.Head2
import HandS.ForMost
import HandS.ForExc
import HandS.Evl
import HandS.Walk
import HandS.Steps
import HandS.TupAny
import HandS.IsInst
import HandS.Star
import HandS.DictComp
import HandS.Zip
import HandS.AnyAll
import HandS.Flow
import KE.DataEq
import HandS.Codes
import KE.KSuper
import HandS.ExcSuper
import KE.GoesMore
import KE.GoesZip
import KE.GoesEnum
import HandS.HeadEnd
set_option Elab.async false
set_option linter.all false
set_option maxRecDepth 100000
set_option maxHeartbeats 4000000
/-! own rules: match, subscript += of a list, static methods, several except clauses with names -/
namespace Q7
open PySem PySem.Spec PyProof.Rows L2

/-! ### match over texts -/
/-- a pattern that asks a text, by a test f -/
def PPat (X : Cx) (p : Pattern) (f : Str → Bool) : Prop :=
  ∀ (pins : List (Addr × Obj)) (s : Shared) (σ : L2.St) (H : Hp) (y : Str) (u : Value) (Q : Option (List (Str × Value)) → Shared → Prop), Inv X pins σ H s → RelV (.str y) u →
    (∀ s', Inv X pins σ H s' → Q (if f y = true then some [] else none) s') → wpAny (model X.prog X.w) X.A (matchPattern p X.env u) Q X.xe s
/-- a row of patterns -/
def PFst (X : Cx) (ps : List Pattern) (f : Str → Bool) : Prop :=
  ∀ (pins : List (Addr × Obj)) (s : Shared) (σ : L2.St) (H : Hp) (y : Str) (u : Value) (Q : Option (List (Str × Value)) → Shared → Prop), Inv X pins σ H s → RelV (.str y) u →
    (∀ s', Inv X pins σ H s' → Q (if f y = true then some [] else none) s') → wpAny (model X.prog X.w) X.A (matchFirst ps X.env u) Q X.xe s
section
variable {X : Cx}
theorem ppat_val {z : Str} {k : Nat} {p pos : Pos} : PPat X (.MatchValue (.Constant (.str z) k p) pos) (fun y => decide (y = z)) := by
  intro pins s σ H y u Q I r h
  refine wpAny_matchPattern_Value ?_
  refine thn ((pe_str (X := X) (x := z) (j := k) (pos := p)).run pins s σ H (fun v H' => v = .str z ∧ H' = H) I ⟨rfl, rfl⟩) fun x s1 ⟨v, H1, I1, r1, e1, e2⟩ => ?_
  subst e1 e2
  refine thn (op_eq pins s1 σ H1 (.str y) (.str z) u x (fun v H' => v = .bl (decide (y = z)) ∧ H' = H1) I1 r r1 ⟨rfl, ?_, rfl⟩) fun c s2 ⟨v2, H2, I2, r2, e3, e4⟩ => ?_
  · congr 1
    by_cases e : y = z
    · rw [decide_eq_true e, decide_eq_true (congrArg V.str e)]
    · rw [decide_eq_false e, decide_eq_false (fun q => e (V.str.inj q))]
  · subst e3 e4
    cases r2
    refine wpAny_truthy_bool ?_
    have g := h _ I2
    cases hd : decide (y = z) with
    | true =>
      simp only [hd, if_true] at g ⊢
      exact g
    | false =>
      simp only [hd, Bool.false_eq_true, if_false] at g ⊢
      exact g
theorem pfst_nil : PFst X [] (fun _ => false) := by
  intro pins s σ H y u Q I r h
  exact wpAny_matchFirst_nil (h s I)
theorem pfst_cons {p : Pattern} {ps : List Pattern} {f g : Str → Bool} (h1 : PPat X p f) (h2 : PFst X ps g) : PFst X (p :: ps) (fun y => f y || g y) := by
  intro pins s σ H y u Q I r h
  refine wpAny_matchFirst_cons (h1 pins s σ H y u _ I r fun s1 I1 => ?_)
  cases hf : f y with
  | true =>
    have z := h s1 I1
    simp only [hf, Bool.true_or, if_true] at z ⊢
    exact z
  | false =>
    simp only [Bool.false_eq_true, if_false]
    refine h2 pins s1 σ H y u Q I1 r fun s2 I2 => ?_
    have z := h s2 I2
    simp only [hf, Bool.false_or] at z
    exact z
theorem ppat_or {ps : List Pattern} {pos : Pos} {f : Str → Bool} (h1 : PFst X ps f) (hn : namesOfAll (ps.take 1) = [] := by rfl) : PPat X (.MatchOr ps pos) f := by
  intro pins s σ H y u Q I r h
  refine wpAny_matchPattern_Or (h1 pins s σ H y u _ I r fun s1 I1 => ?_)
  have z := h s1 I1
  cases hf : f y with
  | true =>
    simp only [hf, if_true, hn, List.filterMap_nil] at z ⊢
    exact z
  | false =>
    simp only [hf, Bool.false_eq_true, if_false] at z ⊢
    exact z
theorem ppat_any {pos : Pos} : PPat X (.MatchAs none none pos) (fun _ => true) := by
  intro pins s σ H y u Q I r h
  exact wpAny_matchPattern_Capture (h s I)
end
abbrev TC := Str → TS
structure PMs (X : Cx) (cs : List MatchCase) (t : TC) : Prop where
  run : ∀ (first : Bool) (pins : List (Addr × Obj)) (s : Shared) (σ : L2.St) (H : Hp) (y : Str) (u : Value) (D : Ends), Inv X pins σ H s → RelV (.str y) u → t y D σ H →
    wpAny (model X.prog X.w) X.A (matchCases cs X.env u first) (SP X pins D) X.xe s
def tMNil : TC := fun _ D σ H => D.nx σ H
def tMCase (f : Str → Bool) (tb : TS) (tr : TC) : TC := fun y D σ H => if f y = true then tb D σ H else tr y D σ H
def tMatch (te : TE) (t : TC) : TS := fun D σ H => te σ H fun x H1 => ∃ y, x = .str y ∧ t y D σ H1
section
variable {X : Cx}
theorem pm_nil : PMs X [] tMNil := ⟨fun _ _ _ σ H _ _ _ I _ h => wpAny_matchCases_nil ⟨σ, H, I, h⟩⟩
theorem pm_cons {p : Pattern} {body : List Stmt} {cs : List MatchCase} {f : Str → Bool} {tb : TS} {tr : TC} (h1 : PPat X p f) (hb : PSs X body tb) (hr : PMs X cs tr) : PMs X (⟨p, none, body⟩ :: cs) (tMCase f tb tr) := by
  refine ⟨fun first pins s σ H y u D I r h => ?_⟩
  refine wpAny_matchCases_cons (h1 pins s σ H y u _ I r fun s1 I1 => ?_)
  unfold tMCase at h
  cases hf : f y with
  | true =>
    rw [hf, if_pos rfl] at h
    simp only [if_true, List.map_nil]
    refine wpAny_assignInOrder_none ?_
    exact hb.run pins s1 σ H D I1 h
  | false =>
    rw [hf, if_neg Bool.false_ne_true] at h
    simp only [Bool.false_eq_true, if_false]
    exact hr.run false pins s1 σ H y u D I1 r h
theorem ps_match {e : Expr} {cs : List MatchCase} {pos : Pos} {te : TE} {t : TC} (he : PE X e te) (hm : PMs X cs t) : PS X (.Match e cs pos) (tMatch te t) := by
  refine ⟨fun pins s σ H D I h => ?_⟩
  refine wpAny_Match (thn (he.run pins s σ H _ I h) fun u s1 ⟨x, H1, I1, r1, y, ex, q⟩ => ?_)
  subst ex
  exact hm.run true pins s1 σ H1 y u D I1 r1 q
end

/-! ### xs[i], a list, by getItem (for xs[i] op= e) -/
theorem pget_list {X : Cx} : PGet X (fun o i H Q => ∃ p xs k v, o = .ref p ∧ i = .int k ∧ H p = some (.lst xs) ∧ 0 ≤ k ∧ xs[k.toNat]? = some v ∧ Q v H) := by
  intro pins s σ H o i ov iv Q I ro ri h
  obtain ⟨p, xs, k, v, rfl, rfl, hp, h0, hv, q⟩ := h
  obtain rfl : ov = Value.ref p := ro
  obtain ⟨t, rfl⟩ := ri
  obtain ⟨its, r, pl, hz⟩ := I.list (SqL.of hp)
  obtain ⟨u, eu, ru⟩ := r.get hv
  have hl := r.length
  have hn := line63
  have hlt := (List.getElem?_eq_some_iff.mp hv).1
  exact wpAny_getItem_list pl.isList h0 (by omega) (by simpa using eu) ⟨v, H, I, ru, q⟩

/-! ### static methods of a class -/
structure SMet (K : PySem.W.Frag) (C : Addr) (mc : Value) (m : Str) (p g : Addr) : Prop where
  at_ : PySem.W.findCls K (.ref C) mc m = some (.get (.builtin "staticmethod.__get__") (.ref p) .none (.ref C))
  rc : ∃ rest, PySem.W.recIn K p "staticmethod" = some (.ref g :: rest)
  kp : PySem.W.keepIn K (.ref g) = true
/-- C.m(e, ..), m a static method -/
def tSMeth (C : Addr) (sp : Sp) (E : XK) (ta : TE) (t : TA) : TE := fun σ H Q => ta σ H fun x H1 => x = .ref C ∧ t σ H1 fun vs H2 => sp vs H2 Q E
section
variable {X : Cx} {CX : CXT} {k : Nat} {C p g : Addr} {mc : Value} {sp : Sp} {E : XK} {o e : Expr} {es : List Expr} {m : Str} {pos apos : Pos} {ta : TE} {t : TA} {pl : Sem Bool}
theorem pe_smeth (he : PE X o ta) (r : ClX.CRead X.K C mc) (c : SMet X.K C mc m p g) (F : FnR X.prog X.w X.K X.mg X.base CX k g sp) (hr : Room k X.A) (hx : Passes CX X E) (ha : PA X (e :: es) t)
    (hst : starEach (e :: es) X.env = (false, eval e X.env) :: starEach es X.env := by rfl) (hpl : (backTo pos (starEach es X.env)).any (·.1) = false := by rfl)
    (ht : eval (.Call (.Attribute o m apos) (e :: es) [] pos) X.env = (do
      let ov ← eval o X.env
      standAt apos.atName
      let (f, first) ← holding [ov] (getMethod ov m pl)
      callWith pos f first (backTo pos (starEach (e :: es) X.env)) (backToKw pos (keywordEach [] X.env))) := by rfl) :
    PE X (.Call (.Attribute o m apos) (e :: es) [] pos) (tSMeth C sp E ta t) := by
  refine ⟨fun pins s σ H Q I h => ?_⟩
  refine PySem.W.methodCall_KW (pl := pl) (thn (he.run pins s σ H _ I h) fun u s1 ⟨x, H1, I1, rx, ex, q⟩ => ?_) ht
  subst ex
  obtain rfl : u = Value.ref C := rx
  obtain ⟨rest, hp⟩ := c.rc
  refine PySem.W.method_cls I1.kIn r.ga ?_
  refine PySem.W.cls_bind I1.kIn r.rd c.at_ ?_
  refine wpAny_call (PySem.W.sm_get (s := { s1 with toks := s1.toks + 1 }) I1.kIn hp (PySem.W.handed_on rfl ?_))
  have I2 : Inv X pins σ H1 { s1 with toks := s1.toks + 1 } := I1.tok _
  refine PySem.W.callWith_K (first := []) (h₀ := X.base) I.ok.mod.kin c.kp (thn (ha.run pos pins _ σ H1 _ I2 q) fun us s3 ⟨vs, H2, I3, rv, q2⟩ => ⟨I3.kIn, ?_⟩) hst hpl
  exact wpAny_call (run_fnR F hr hx I3 rv q2)
end

/-! ### several except clauses, with or without a name -/
/-- a clause: its class, whether it has a name (slot i), its suite -/
abbrev Cl := Value × Bool × (Addr → Value → Option Addr → TS)
def wMix (K : PySem.W.Frag) (i : Nat) (Wout : WX) (D : Ends) : List Cl → WX
  | [] => Wout
  | (c, true, ts) :: r => fun cls d σ H => ∃ b, PySem.W.exmOne K cls c = some b ∧ (b = true → ∀ a, H a = none → ts a cls d { nx := fun σ' H' => D.nx (σ'.set i none) H', rt := D.rt, bk := fun σ' H' => D.bk (σ'.set i none) H', ct := fun σ' H' => D.ct (σ'.set i none) H' } (σ.set i (some (.ref a))) H) ∧ (b = false → wMix K i Wout D r cls d σ H)
  | (c, false, ts) :: r => fun cls d σ H => ∃ b, PySem.W.exmOne K cls c = some b ∧ (b = true → ∀ a, H a = none → ts a cls d D σ H) ∧ (b = false → wMix K i Wout D r cls d σ H)
inductive HdsMix (X : Cx) (i : Nat) : List ExceptHandler → List Cl → Prop
  | nil : HdsMix X i [] []
  | plain {x : Str} {c : Value} {ts : Addr → Value → Option Addr → TS} {b₀ : Stmt} {suite : List Stmt} {np pos' : Pos} {hds : List ExceptHandler} {l : List Cl} (hc : Names X x c)
      (hsu : ∀ (a : Addr) (oe : Obj) (cls : Value) (d : Option Addr) (pn : List (Addr × Obj)), Zc cls d oe → (∃ vs, oe.data = .fields vs) → PSs (X.suite a ((a, oe) :: pn)) (b₀ :: suite) (ts a cls d)) (r : HdsMix X i hds l) :
      HdsMix X i (.ExceptHandler (some (.Name x np)) none (b₀ :: suite) pos' :: hds) ((c, false, ts) :: l)
  | named {x n : Str} {c : Value} {ts : Addr → Value → Option Addr → TS} {b₀ : Stmt} {suite : List Stmt} {np pos' : Pos} {hds : List ExceptHandler} {l : List Cl} (hi : X.N[i]? = some n) (hln : X.env.kindOf n = some .local) (hc : Names X x c)
      (hsu : ∀ (a : Addr) (oe : Obj) (cls : Value) (d : Option Addr) (pn : List (Addr × Obj)), Zc cls d oe → (∃ vs, oe.data = .fields vs) → PSs (X.suite a ((a, oe) :: pn)) (b₀ :: suite) (ts a cls d)) (r : HdsMix X i hds l) :
      HdsMix X i (.ExceptHandler (some (.Name x np)) (some n) (b₀ :: suite) pos' :: hds) ((c, true, ts) :: l)
section
variable {X : Cx} {i : Nat} {body : List Stmt} {h₀ : ExceptHandler} {hds : List ExceptHandler} {l : List Cl} {pos : Pos} {tb : WX → TS} {Wout : WX}
theorem ps_try_mix (hs : X.stack = X.env :: X.outer) (hf : X.env.frame = some X.env.locals) (hN : X.N.Nodup) (tk : Takes X Wout)
    (hb : ∀ (W : WX) (pn : List (Addr × Obj)) (xe : Value → Shared → Prop), Takes (X.tr pn xe) W → PassesOwn (model X.prog X.w) X.A X.env xe → PSs (X.tr pn xe) body (tb W))
    (hh : HdsMix X i (h₀ :: hds) l) : PS X (.Try body (h₀ :: hds) [] [] pos) (fun D σ H => tb (wMix X.K i Wout D l) D σ H) := by
  refine ⟨fun pins s σ H D I h => ?_⟩
  have ok := I.ok
  have hfr : X.A.frames = some (X.env :: X.outer) := by rw [ok.frames, hs]
  refine wpAny_Try_except ?_
  refine wpAny_mono ((hb (wMix X.K i Wout D l) (X.pn ++ pins) (fun e s₁ => wpAny (model X.prog X.w) X.A (noteFrame e X.env) (fun _ s₂ => wpAny (model X.prog X.w) X.A (setFlight e none) (fun _ s₃ =>
    wpAny (model X.prog X.w) X.A (handleBy e X.env (h₀ :: hds)) (SP X pins D) X.xe s₃) X.xe s₂) X.xe s₁) (fun u s' xx => ?_) PassesOwn.looking).run [] s σ H D (I.toTry _) h) (fun f s1 hsp => ?_) (fun e s1 he => he)
  · -- the catch
    obtain ⟨a, B, sI, pins', σ', H', cls, d, rfl, J', nb, up, sky, na, os, ag, w⟩ := xx
    have J : Inv X pins σ' H' sI := J'.ofTry ok
    have sky' : Sky B (X.env :: X.outer) a (Zc cls d) X.env.locals s'.heap := by rw [← hs]; exact sky
    show wpAny (model X.prog X.w) X.A (noteFrame (.ref a) X.env) _ _ _
    refine Sky.land Zc.steady hfr hf sky' fun h3 fl3 up3 => ?_
    have J3 : Inv X pins σ' H' { s' with heap := h3 } := J.landed nb fl3.1 (up.trans up3) os ag
    obtain ⟨oe3, vs3, he3, hz3, hd3⟩ := fl3.there
    have notFr : ∀ {h : Heap} {o : Obj} {vs : Array Value}, h.FunFrames B (X.env :: X.outer) → h.get? a = some o → o.data = .fields vs → a ∉ frs (X.env :: X.outer) := fun {h o vs} ff e dd hm => by
      obtain ⟨_, o', e', hnf⟩ := ff.mem hm
      rw [e] at e'; cases e'
      exact hnf _ dd
    have nfr := notFr fl3.2.2.1 he3 hd3
    have nL : a ≠ X.env.locals := fun z => nfr (List.mem_filterMap.mpr ⟨X.env, List.mem_cons_self, by rw [hf, z]⟩)
    have nF : a ∉ X.fs := fun hm => by
      obtain ⟨e, he, q⟩ := List.mem_filterMap.mp hm
      exact nfr (List.mem_filterMap.mpr ⟨e, List.mem_cons_of_mem _ he, q⟩)
    have S3 := J3.suite he3 hd3 na nL nF
    have go : ∀ {hds' : List ExceptHandler} {l' : List Cl}, HdsMix X i hds' l' → wMix X.K i Wout D l' cls d σ' H' →
        wpAny (model X.prog X.w) X.A (handleBy (.ref a) X.env hds') (SP X pins D) X.xe { s' with heap := h3 } := by
      intro hds' l' hk
      induction hk with
      | nil =>
        intro w
        refine wpAny_handleBy_nil ?_
        obtain ⟨k1, k2, k3, oe, vs, T, oT, ts', he, hz, hd, h1, hr⟩ := id fl3
        unfold PySem.passOn
        refine wpAny_bind (wpAny_field he hd h1 ?_)
        rw [if_neg (show ¬ ((Value.ref T == Value.none) = true) from by simp)]
        have fin : wpAny (model X.prog X.w) X.A (setFlight (.ref a) X.env.frame) (fun _ s4 => wpAny (model X.prog X.w) X.A (throw (.ref a) : Sem Flow) (SP X pins D) X.xe s4) X.xe { s' with heap := h3 } := by
          rw [hf]
          refine HandSPX.setFlight_upZ fl3 fun h4 hh4 up4 => wpAny_throw (tk _ _ ?_)
          exact ⟨a, B, sI, pins, σ', H', cls, d, rfl, J, nb, (up.trans up3).trans up4, .inr (.inr (by rw [hs]; exact hh4)), na, os, ag, w⟩
        first
          | exact wpAny_bind (wpAny_pure (wpAny_bind fin))
          | exact wpAny_bind fin
      | @plain x c ts b₀ suite np pos' hds2 l2 hc hsu r ih =>
        intro w
        obtain ⟨b, hb1, hyes, hno⟩ := w
        refine wpAny_handleBy_cons (codeAny_handlers_test ?_) (by intro q; cases q)
        have LT : PySem.W.Looks (model X.prog X.w) h3 (typeOf (.ref a)) cls := fun A Q E s k q => wpAny_typeOf_ref (k _ _ he3) (by rw [hz3.1]; exact q)
        have LM := PySem.W.exm_one (M := model X.prog X.w) (J3.kIn) LT hb1
        have test : ∀ {Q : Value → Shared → Prop} {E : Value → Shared → Prop}, Q c { s' with heap := h3 } → wpAny (model X.prog X.w) (X.A.mark (some (.ref a))) (eval (.Name x np) X.env) Q E { s' with heap := h3 } := fun {Q E} q => by
          obtain ⟨hg, hdbg, hm | ⟨hm, hv, hnn⟩⟩ := hc
          · exact ld_glob (X := X.suite a ((a, oe3) :: (X.pn ++ pins))) S3 hg hm q hdbg
          · exact ld_blt (X := X.suite a ((a, oe3) :: (X.pn ++ pins))) S3 hg hm hv q hnn hdbg
        refine test (LM.here ?_)
        cases b with
        | true =>
          refine codeAny_handlers_suite ?_
          refine HandSPX.lands_againZ fl3 fun h4 fl4 up4 => ?_
          have J4 : Inv X pins σ' H' { s' with heap := h4 } := J.landed nb fl4.1 ((up.trans up3).trans up4) os ag
          obtain ⟨oe4, vs4, he4, hz4, hd4⟩ := fl4.there
          have S4 := J4.suite he4 hd4 na nL nF
          refine wpAny_mono ((hsu a oe4 cls d (X.pn ++ pins) hz4 ⟨_, hd4⟩).run [] _ _ H' _ S4 (hyes rfl a na)) (fun f s6 hsp => ?_) (fun _ _ z => False.elim z)
          cases f with
          | next =>
            obtain ⟨σ6, H6, S6, q6⟩ := hsp
            exact ⟨_, _, S6.unsuite ok, q6⟩
          | brk =>
            obtain ⟨σ6, H6, S6, q6⟩ := hsp
            exact ⟨_, _, S6.unsuite ok, q6⟩
          | cont =>
            obtain ⟨σ6, H6, S6, q6⟩ := hsp
            exact ⟨_, _, S6.unsuite ok, q6⟩
          | ret u =>
            obtain ⟨v6, σ6, H6, S6, r6, q6⟩ := hsp
            exact ⟨_, _, _, S6.unsuite ok, r6, q6⟩
        | false =>
          show wpAny _ X.A (handleBy (.ref a) X.env hds2) _ _ _
          exact ih (hno rfl)
      | @named x n c ts b₀ suite np pos' hds2 l2 hi hln hc hsu r ih =>
        intro w
        obtain ⟨b, hb1, hyes, hno⟩ := w
        have hloc : Loc X.env.scope n := .inl hln
        refine wpAny_handleBy_cons (codeAny_handlers_test ?_) (by intro q; cases q)
        have LT : PySem.W.Looks (model X.prog X.w) h3 (typeOf (.ref a)) cls := fun A Q E s k q => wpAny_typeOf_ref (k _ _ he3) (by rw [hz3.1]; exact q)
        have LM := PySem.W.exm_one (M := model X.prog X.w) (J3.kIn) LT hb1
        have test : ∀ {Q : Value → Shared → Prop} {E : Value → Shared → Prop}, Q c { s' with heap := h3 } → wpAny (model X.prog X.w) (X.A.mark (some (.ref a))) (eval (.Name x np) X.env) Q E { s' with heap := h3 } := fun {Q E} q => by
          obtain ⟨hg, hdbg, hm | ⟨hm, hv, hnn⟩⟩ := hc
          · exact ld_glob (X := X.suite a ((a, oe3) :: (X.pn ++ pins))) S3 hg hm q hdbg
          · exact ld_blt (X := X.suite a ((a, oe3) :: (X.pn ++ pins))) S3 hg hm hv q hnn hdbg
        refine test (LM.here ?_)
        cases b with
        | true =>
          refine codeAny_handlers_suite_as ?_
          refine HandSPX.lands_againZ fl3 fun h4 fl4 up4 => ?_
          have J4 : Inv X pins σ' H' { s' with heap := h4 } := J.landed nb fl4.1 ((up.trans up3).trans up4) os ag
          obtain ⟨oe4, vs4, he4, hz4, hd4⟩ := fl4.there
          have S4 := J4.suite he4 hd4 na nL nF
          refine store_ok (X := X.suite a ((a, oe4) :: (X.pn ++ pins))) (v := .ref a) S4 hN hi hloc rfl (fun s5 S5 => ?_) (.inr hln)
          refine wpAny_mono ((hsu a oe4 cls d (X.pn ++ pins) hz4 ⟨_, hd4⟩).run [] s5 _ H' _ S5 (hyes rfl a na)) (fun f s6 hsp => ?_) (fun _ _ z => False.elim z)
          have end_ : ∀ {σ6 : L2.St} {H6 : Hp} {Q : Shared → Prop}, Inv (X.suite a ((a, oe4) :: (X.pn ++ pins))) [] σ6 H6 s6 → (∀ s7, Inv X pins (σ6.set i none) H6 s7 → Q s7) →
              wpAny (model X.prog X.w) X.A (do bindName X.env n .none; unbindBehindTheSuite X.env n pos') (fun _ s7 => Q s7) X.xe s6 := fun {σ6 H6 Q} S6 hq => gone_ok (S6.unsuite ok) hN hi hln hq
          cases f with
          | next =>
            obtain ⟨σ6, H6, S6, q6⟩ := hsp
            exact end_ S6 fun s7 J7 => ⟨_, _, J7, q6⟩
          | brk =>
            obtain ⟨σ6, H6, S6, q6⟩ := hsp
            exact end_ S6 fun s7 J7 => ⟨_, _, J7, q6⟩
          | cont =>
            obtain ⟨σ6, H6, S6, q6⟩ := hsp
            exact end_ S6 fun s7 J7 => ⟨_, _, J7, q6⟩
          | ret u =>
            obtain ⟨v6, σ6, H6, S6, r6, q6⟩ := hsp
            exact end_ S6 fun s7 J7 => ⟨_, _, _, J7, r6, q6⟩
        | false =>
          show wpAny _ X.A (handleBy (.ref a) X.env hds2) _ _ _
          exact ih (hno rfl)
    exact go hh w
  · cases f with
    | next =>
      obtain ⟨σ', H', J', q⟩ := hsp
      exact wpAny_execs_nil ⟨σ', H', J'.ofTry ok, q⟩
    | brk =>
      obtain ⟨σ', H', J', q⟩ := hsp
      exact ⟨σ', H', J'.ofTry ok, q⟩
    | cont =>
      obtain ⟨σ', H', J', q⟩ := hsp
      exact ⟨σ', H', J'.ofTry ok, q⟩
    | ret u =>
      obtain ⟨v, σ', H', J', r, q⟩ := hsp
      exact ⟨v, σ', H', J'.ofTry ok, r, q⟩
end
end Q7
/-! the text by places; what the top leaves, as facts; the Hook -/
namespace Q7
open PySem PySem.Spec PyProof.Rows L2
def top (i : Nat) : Stmt := PySem.Challenge.pw_quietprobes_k26_whole_first_wrong_row.main.body.getD i (.Pass ⟨0, 0, 0, 0⟩)
abbrev s_is_name : Stmt := top 20
abbrev s_need_names : Stmt := top 21
abbrev s_need_unlike : Stmt := top 22
abbrev s_need_things : Stmt := top 24
abbrev s_look_codes : Stmt := top 33
abbrev s_row_codes : Stmt := top 34
abbrev s_branch_codes : Stmt := top 35
abbrev s_head : Stmt := top 37
abbrev s_suits : Stmt := top 38
abbrev s_fits : Stmt := top 39
abbrev s_need_known : Stmt := top 40
abbrev s_is_look : Stmt := top 45
abbrev s_is_looks : Stmt := top 46
abbrev s_is_watcher : Stmt := top 47
abbrev s_is_row : Stmt := top 48
abbrev s_is_probe : Stmt := top 49
abbrev s_named : Stmt := top 50
abbrev s_need_row : Stmt := top 60
abbrev s_opened_behind : Stmt := top 61
abbrev s_need_parts : Stmt := top 62
abbrev s_jumps_of : Stmt := top 63
abbrev s_law_draw : Stmt := top 68
abbrev s_law_words : Stmt := top 69
abbrev s_law_word : Stmt := top 70
abbrev s_law_thing : Stmt := top 71
abbrev s_law_is_name : Stmt := top 72
abbrev s_law_are_names : Stmt := top 73
abbrev s_law_is_look : Stmt := top 74
abbrev s_law_is_watcher : Stmt := top 75
abbrev s_law_size_of : Stmt := top 76
abbrev s_law_is_row : Stmt := top 77
abbrev s_law_all_rows : Stmt := top 78
abbrev s_law_wide_probe : Stmt := top 79
abbrev s_law_pool : Stmt := top 80
abbrev s_law_names : Stmt := top 81
abbrev s_law_things : Stmt := top 82
abbrev s_law_kinds : Stmt := top 83
abbrev s_law_wide_rows : Stmt := top 84
abbrev s_law_wide_parts : Stmt := top 85
abbrev s_law_same : Stmt := top 86
abbrev s_law_try : Stmt := top 87
abbrev s_law_wide_look : Stmt := top 88
abbrev s_law_wide_deed : Stmt := top 89
abbrev s_law_wide_test : Stmt := top 90
abbrev s_law_wide_program : Stmt := top 91
abbrev s_law_kind_of : Stmt := top 92
abbrev s_law_wrong_name : Stmt := top 93
abbrev s_law_wrong_row : Stmt := top 94
abbrev s_law_due : Stmt := top 95
abbrev s_law_other_name : Stmt := top 96
abbrev s_law_other_names : Stmt := top 97
abbrev s_law_odd_row : Stmt := top 98
abbrev s_law : Stmt := top 99
abbrev s_Thing_init : Stmt := inClass (top 23) 1
abbrev s_Thing_feed : Stmt := inClass (top 23) 4
abbrev s_Thing_dice : Stmt := inClass (top 23) 5
abbrev s_Thing_source : Stmt := inClass (top 23) 6
abbrev s_Thing_flag : Stmt := inClass (top 23) 7
abbrev s_Thing_slot : Stmt := inClass (top 23) 8
abbrev s_Thing_field : Stmt := inClass (top 23) 9
abbrev s_Thing_table : Stmt := inClass (top 23) 10
abbrev s_Program_init : Stmt := inClass (top 66) 0
abbrev s_BadRow : Stmt := inClass (top 4) 0
abbrev s_NoThing : Stmt := inClass (top 7) 0
abbrev s_NoKey : Stmt := inClass (top 8) 0
abbrev s_NoPart : Stmt := inClass (top 9) 0
abbrev s_Twice : Stmt := inClass (top 12) 0
abbrev s_Unmatched : Stmt := inClass (top 13) 0
abbrev s_TooMany : Stmt := inClass (top 14) 0

/-! ### addresses -/
/-- the def behind a static method -/
def stA (K : PySem.W.Frag) (C m : Str) : Addr := match PySem.W.findIn K (.ref (He.ga K C)) m with
  | some (some (.ref p)) => (match PySem.W.recIn K p "staticmethod" with
    | some (.ref f :: _) => f
    | _ => 0)
  | _ => 0
/-- the i-th default of a method -/
def dfA (K : PySem.W.Frag) (C m : Str) (i : Nat) : Addr := match K.lookup (He.ma K (He.ga K C) m) with
  | some ⟨_, _, .func fd, _⟩ => (match fd.defaults with
    | .ref T => (match K.lookup T with
      | some ⟨_, _, .seq its _, _⟩ => (match its.toList[i]? with
        | some (.ref a) => a
        | _ => 0)
      | _ => 0)
    | _ => 0)
  | _ => 0
/-! ### defs -/
structure DefX where
  adr : PySem.W.Frag → Addr
  name : Str
  qual : Str
  params : Arguments
  body : List Stmt
  scope : Scope
  dfl : List He.Dv := []
  clo : List Str := []
abbrev FnX : Type := Option (Str × Str × Arguments × FuncBody × Scope × Addr × List Str × Addr)
def fnX (K : PySem.W.Frag) (a : Addr) : FnX := match K.lookup a with
  | some ⟨_, _, .func fd, _⟩ => some (fd.name, fd.qualname, fd.params, fd.body, fd.scope, fd.globals, fd.closure.map (·.1), fd.builtins)
  | _ => none
def DefX.val (d : DefX) : FnX := some (d.name, d.qual, d.params, .stmts d.body, d.scope, mainGlobals, d.clo, builtinsNs)
def DefX.dvs (K : PySem.W.Frag) (d : DefX) : List V := d.dfl.map (He.Dv.v K)
def DefX.ok (K : PySem.W.Frag) (d : DefX) : Bool := PySem.W.keepIn K (.ref (d.adr K)) && (match K.lookup (d.adr K) with
  | some ⟨_, _, .func fd, _⟩ => PySem.W.codeIn K fd.code d.qual && He.dflB K fd.defaults (d.dvs K)
  | _ => false)
theorem DefX.funD {K : PySem.W.Frag} {d : DefX} (hc : d.clo = []) (e : fnX K (d.adr K) = d.val) (c : d.ok K = true) : ∃ fd, FunD K d.name d.qual d.params d.body d.scope (d.dvs K) [] (d.adr K) fd := by
  obtain ⟨kp, c2⟩ := He.ba c
  unfold fnX at e
  cases q : K.lookup (d.adr K) with
  | none =>
    rw [q] at c2
    cases c2
  | some o =>
    obtain ⟨oc, od, dt, osl⟩ := o
    rw [q] at c2 e
    cases dt with
    | func fd =>
      obtain ⟨n1, n2, n3, n4, n5, n6, n7, n8, n9, n10, n11, n12, n13, n14, n15⟩ := fd
      have e2 : (some (n1, n2, n3, n4, n5, n6, n7.map (·.1), n15) : FnX) = some (d.name, d.qual, d.params, .stmts d.body, d.scope, mainGlobals, d.clo, builtinsNs) := e
      simp only [Option.some.injEq, Prod.mk.injEq] at e2
      obtain ⟨h1, h2, h3, h4, h5, h6, h7, h8⟩ := e2
      rw [hc] at h7
      have h7' : n7 = [] := List.map_eq_nil_iff.mp h7
      subst h1 h2 h3 h4 h5 h6 h7' h8
      obtain ⟨k1, k2⟩ := He.ba (show (PySem.W.codeIn K n13 d.qual && He.dflB K n8 (d.dvs K)) = true from c2)
      exact ⟨_, ⟨oc, od, n8, n9, n10, n11, n12, n13, n14, osl, rfl, q, k1, He.dflB_ok k2, .inl rfl⟩, kp⟩
    | _ => cases c2
/-! ### a written dict: text keys, tuples of texts -/
def entB (K : PySem.W.Frag) : List DictEntry → List (Str × List Str) → Bool
  | [], [] => true
  | e :: es, (k, vs) :: r => (match e.key, e.val with
    | .str x _, .ref t => decide (x = k) && (match K.lookup t with
      | some ⟨.type c, _, .seq its _, _⟩ => decide (c = "tuple") && (decide (its.size ≤ sizeLine) && He.relAll (vs.map V.str) its.toList)
      | _ => false)
    | _, _ => false) && entB K es r
  | _, _ => false
def tabB (K : PySem.W.Frag) (a : Addr) (kvs : List (Str × List Str)) : Bool := match K.lookup a with
  | some ⟨_, _, .dict es _, _⟩ => entB K es.toList kvs
  | _ => false
theorem entB_look {K : PySem.W.Frag} (H : Hp) (z : Str) : ∀ {es : List DictEntry} {kvs : List (Str × List Str)}, entB K es kvs = true →
    (match kvs.lookup z with
      | some vs => ∃ (e : DictEntry) (t : Addr), es.find? (·.key.isStr z) = some e ∧ e.val = .ref t ∧ SqT K H t (vs.map V.str)
      | none => es.find? (·.key.isStr z) = none) ∧ es.any (·.refKey) = false
  | [], [], _ => ⟨rfl, rfl⟩
  | [], _ :: _, h => by cases h
  | _ :: _, [], h => by cases h
  | e :: es, (k, vs) :: r, h => by
    obtain ⟨h1, h2⟩ := He.ba (show (_ && entB K es r) = true from h)
    obtain ⟨ih1, ih2⟩ := entB_look H z h2
    obtain ⟨eh, ek, ev⟩ := e
    cases ek with
    | str x tk =>
      cases ev with
      | ref t =>
        obtain ⟨h3, h4⟩ := He.ba (show (decide (x = k) && _) = true from h1)
        have ex : x = k := of_decide_eq_true h3
        subst ex
        have hT : SqT K H t (vs.map V.str) := by
          cases q : K.lookup t with
          | none =>
            rw [q] at h4
            cases h4
          | some o =>
            obtain ⟨oc, od, dt, osl⟩ := o
            rw [q] at h4
            cases oc with
            | type c =>
              cases dt with
              | seq its n =>
                obtain ⟨g1, g2⟩ := He.ba h4
                obtain ⟨g3, g4⟩ := He.ba g2
                exact .inr ⟨_, its, n, q, congrArg Value.type (of_decide_eq_true g1), rfl, of_decide_eq_true g3, He.relAll_ok g4⟩
              | _ => cases h4
            | _ => cases dt <;> cases h4
        refine ⟨?_, ?_⟩
        · rw [List.lookup_cons, List.find?_cons]
          have ek : ((⟨eh, .str x tk, .ref t⟩ : DictEntry).key.isStr z) = (x == z) := rfl
          simp only [ek]
          by_cases hz : z = x
          · subst hz
            simp only [beq_self_eq_true]
            exact ⟨_, t, rfl, rfl, hT⟩
          · have b1 : (z == x) = false := by simpa using hz
            have b2 : (x == z) = false := by simpa using fun q => hz q.symm
            simp only [b1, b2]
            exact ih1
        · rw [List.any_cons, ih2, Bool.or_false]
          rfl
      | _ => cases h1
    | _ => cases h1
theorem tab_some {K : PySem.W.Frag} {a : Addr} {kvs : List (Str × List Str)} (h : tabB K a kvs = true) {z : Str} {vs : List Str} (hz : kvs.lookup z = some vs) (H : Hp) : ∃ t, PySem.W.nsIn K a z = some (some (.ref t)) ∧ SqT K H t (vs.map V.str) := by
  unfold tabB at h
  cases q : K.lookup a with
  | none =>
    rw [q] at h
    cases h
  | some o =>
    obtain ⟨oc, od, dt, osl⟩ := o
    rw [q] at h
    cases dt with
    | dict es n =>
      obtain ⟨h1, _⟩ := entB_look H z (show entB K es.toList kvs = true from h)
      rw [hz] at h1
      obtain ⟨e, t, e1, e2, e3⟩ := h1
      refine ⟨t, ?_, e3⟩
      unfold PySem.W.nsIn
      rw [q]
      simp only [e1, e2]
    | _ => cases h
theorem tab_none {K : PySem.W.Frag} {a : Addr} {kvs : List (Str × List Str)} (h : tabB K a kvs = true) {z : Str} (hz : kvs.lookup z = none) : PySem.W.nsIn K a z = some none := by
  unfold tabB at h
  cases q : K.lookup a with
  | none =>
    rw [q] at h
    cases h
  | some o =>
    obtain ⟨oc, od, dt, osl⟩ := o
    rw [q] at h
    cases dt with
    | dict es n =>
      obtain ⟨h1, h2⟩ := entB_look (fun _ => none) z (show entB K es.toList kvs = true from h)
      rw [hz] at h1
      have h1' : es.toList.find? (·.key.isStr z) = none := h1
      unfold PySem.W.nsIn
      rw [q]
      simp only [h1', h2, Bool.false_eq_true, if_false]
    | _ => cases h
/-! ### static methods -/
def sttB (K : PySem.W.Frag) (x m : Str) : Bool := match PySem.W.findCls K (.ref (He.ga K x)) (.type "type") m with
  | some (.get g (.ref p) o t) => decide (g = .builtin "staticmethod.__get__") && (decide (o = .none) && (decide (t = .ref (He.ga K x)) && (match PySem.W.recIn K p "staticmethod" with
    | some (.ref f :: _) => decide (f = stA K x m)
    | _ => false)))
  | _ => false
theorem sttB_ok {K : PySem.W.Frag} {x m : Str} (h : sttB K x m = true) (hk : PySem.W.keepIn K (.ref (stA K x m)) = true) : ∃ p, SMet K (He.ga K x) (.type "type") m p (stA K x m) := by
  unfold sttB at h
  cases q : PySem.W.findCls K (.ref (He.ga K x)) (.type "type") m with
  | none =>
    rw [q] at h
    cases h
  | some c =>
    rw [q] at h
    cases c with
    | val v => cases h
    | get g a o t =>
      cases a with
      | ref p =>
        obtain ⟨h1, h2⟩ := He.ba h
        obtain ⟨h3, h4⟩ := He.ba h2
        obtain ⟨h5, h6⟩ := He.ba h4
        have e1 : g = .builtin "staticmethod.__get__" := of_decide_eq_true h1
        have e2 : o = .none := of_decide_eq_true h3
        have e3 : t = .ref (He.ga K x) := of_decide_eq_true h5
        subst e1 e2 e3
        cases r : PySem.W.recIn K p "staticmethod" with
        | none =>
          rw [r] at h6
          cases h6
        | some l =>
          rw [r] at h6
          cases l with
          | nil => cases h6
          | cons f rest =>
            cases f with
            | ref f =>
              have e4 : f = stA K x m := of_decide_eq_true h6
              subst e4
              exact ⟨p, q, ⟨rest, r⟩, hk⟩
            | _ => cases h6
      | _ => cases h
/-! ### error classes -/
def errB (K : PySem.W.Frag) (x f : Str) : Bool :=
  (match K.lookup (He.ga K x) with
    | some ⟨.type t, _, .cls cd, sl⟩ => decide (t = "type") && (match cd.mro, sl.toList with
      | .ref C' :: bm, [_, _, _, _, some (.builtin n), _] => decide (C' = He.ga K x) && (decide (n = "ValueError.__new__") && (!cd.hasDel && (cd.hasDict && PySem.HandSPX.refsVE bm)))
      | _, _ => false)
    | _ => false) &&
  (He.eqO (PySem.W.findIn K (.ref (He.ga K x)) "__setattr__") (some (some (.builtin "object.__setattr__"))) &&
  (He.eqO (PySem.W.findIn K (.ref (He.ga K x)) "__getattribute__") (some (some (.builtin "BaseException.__getattribute__"))) &&
  (He.eqO (PySem.W.findIn K (.ref (He.ga K x)) "__getattr__") (some none) &&
  (He.eqO (PySem.W.findIn K (.ref (He.ga K x)) f) (some none) &&
  (He.eqO (PySem.W.findIn K (.ref (He.ga K x)) "__init__") (some (some (.ref (He.ma K (He.ga K x) "__init__")))) &&
  (decide (PySem.W.typeIn K (.ref (He.ma K (He.ga K x) "__init__")) = some (.type "function")) &&
  (PySem.W.keepIn K (.ref (He.ga K x)) &&
  (decide (PySem.W.subIn K (.ref (He.ga K x)) (.type "BaseException") = some true) &&
  (decide (PySem.W.subIn K (.ref (He.ga K x)) (.type "ValueError") = some true) &&
  (decide (PySem.W.typeIn K (.ref (He.ga K x)) = some (.type "type")) &&
  (PySem.W.hasDictIn K (He.ga K x) &&
  (decide (PySem.W.mroIn K (He.ga K x) (.ref (He.ga K x)) = some true) &&
  (He.eqO (PySem.W.ks_superIn K (He.ga K x) (He.ga K x) "__init__") (some (some (.builtin "ValueError.__init__"))) &&
  (match K.lookup (He.ma K (He.ga K x) "__init__") with
    | some ⟨_, _, .func fd, _⟩ => decide (fd.defaults = .none) && (decide (fd.kwdefaults = .none) && ((match fd.code with
      | .ref cda => (match K.lookup cda with
        | some ⟨_, _, .fields vs, _⟩ => (match (vs[2]? : Option Value) with
          | some (Value.str file _) => decide (file = ("/claim/cut.py" : Str))
          | _ => false)
        | _ => false)
      | _ => false) && (match fd.closure with
      | [(_, cc)] => (match K.lookup cc with
        | some ⟨_, _, .cell (some (.ref D)), _⟩ => decide (D = He.ga K x)
        | _ => false)
      | _ => false)))
    | _ => false))))))))))))))

/-! ### the facts -/
def defsX : List DefX := [
  { adr := fun K => He.ga K "is_name", name := "is_name", qual := "is_name", params := defArgs s_is_name, body := defBody s_is_name, scope := defScope s_is_name, dfl := [] },
  { adr := fun K => He.ga K "need_names", name := "need_names", qual := "need_names", params := defArgs s_need_names, body := defBody s_need_names, scope := defScope s_need_names, dfl := [] },
  { adr := fun K => He.ga K "need_unlike", name := "need_unlike", qual := "need_unlike", params := defArgs s_need_unlike, body := defBody s_need_unlike, scope := defScope s_need_unlike, dfl := [] },
  { adr := fun K => He.ga K "need_things", name := "need_things", qual := "need_things", params := defArgs s_need_things, body := defBody s_need_things, scope := defScope s_need_things, dfl := [] },
  { adr := fun K => He.ga K "look_codes", name := "look_codes", qual := "look_codes", params := defArgs s_look_codes, body := defBody s_look_codes, scope := defScope s_look_codes, dfl := [] },
  { adr := fun K => He.ga K "row_codes", name := "row_codes", qual := "row_codes", params := defArgs s_row_codes, body := defBody s_row_codes, scope := defScope s_row_codes, dfl := [] },
  { adr := fun K => He.ga K "branch_codes", name := "branch_codes", qual := "branch_codes", params := defArgs s_branch_codes, body := defBody s_branch_codes, scope := defScope s_branch_codes, dfl := [] },
  { adr := fun K => He.ga K "head", name := "head", qual := "head", params := defArgs s_head, body := defBody s_head, scope := defScope s_head, dfl := [] },
  { adr := fun K => He.ga K "suits", name := "suits", qual := "suits", params := defArgs s_suits, body := defBody s_suits, scope := defScope s_suits, dfl := [] },
  { adr := fun K => He.ga K "fits", name := "fits", qual := "fits", params := defArgs s_fits, body := defBody s_fits, scope := defScope s_fits, dfl := [] },
  { adr := fun K => He.ga K "need_known", name := "need_known", qual := "need_known", params := defArgs s_need_known, body := defBody s_need_known, scope := defScope s_need_known, dfl := [] },
  { adr := fun K => He.ga K "is_look", name := "is_look", qual := "is_look", params := defArgs s_is_look, body := defBody s_is_look, scope := defScope s_is_look, dfl := [] },
  { adr := fun K => He.ga K "is_looks", name := "is_looks", qual := "is_looks", params := defArgs s_is_looks, body := defBody s_is_looks, scope := defScope s_is_looks, dfl := [] },
  { adr := fun K => He.ga K "is_watcher", name := "is_watcher", qual := "is_watcher", params := defArgs s_is_watcher, body := defBody s_is_watcher, scope := defScope s_is_watcher, dfl := [] },
  { adr := fun K => He.ga K "is_row", name := "is_row", qual := "is_row", params := defArgs s_is_row, body := defBody s_is_row, scope := defScope s_is_row, dfl := [] },
  { adr := fun K => He.ga K "is_probe", name := "is_probe", qual := "is_probe", params := defArgs s_is_probe, body := defBody s_is_probe, scope := defScope s_is_probe, dfl := [] },
  { adr := fun K => He.ga K "named", name := "named", qual := "named", params := defArgs s_named, body := defBody s_named, scope := defScope s_named, dfl := [] },
  { adr := fun K => He.ga K "need_row", name := "need_row", qual := "need_row", params := defArgs s_need_row, body := defBody s_need_row, scope := defScope s_need_row, dfl := [] },
  { adr := fun K => He.ga K "opened_behind", name := "opened_behind", qual := "opened_behind", params := defArgs s_opened_behind, body := defBody s_opened_behind, scope := defScope s_opened_behind, dfl := [] },
  { adr := fun K => He.ga K "need_parts", name := "need_parts", qual := "need_parts", params := defArgs s_need_parts, body := defBody s_need_parts, scope := defScope s_need_parts, dfl := [] },
  { adr := fun K => He.ga K "jumps_of", name := "jumps_of", qual := "jumps_of", params := defArgs s_jumps_of, body := defBody s_jumps_of, scope := defScope s_jumps_of, dfl := [] },
  { adr := fun K => He.ga K "_law_draw", name := "_law_draw", qual := "_law_draw", params := defArgs s_law_draw, body := defBody s_law_draw, scope := defScope s_law_draw, dfl := [] },
  { adr := fun K => He.ga K "_law_words", name := "_law_words", qual := "_law_words", params := defArgs s_law_words, body := defBody s_law_words, scope := defScope s_law_words, dfl := [] },
  { adr := fun K => He.ga K "_law_word", name := "_law_word", qual := "_law_word", params := defArgs s_law_word, body := defBody s_law_word, scope := defScope s_law_word, dfl := [] },
  { adr := fun K => He.ga K "_law_thing", name := "_law_thing", qual := "_law_thing", params := defArgs s_law_thing, body := defBody s_law_thing, scope := defScope s_law_thing, dfl := [] },
  { adr := fun K => He.ga K "_law_is_name", name := "_law_is_name", qual := "_law_is_name", params := defArgs s_law_is_name, body := defBody s_law_is_name, scope := defScope s_law_is_name, dfl := [] },
  { adr := fun K => He.ga K "_law_are_names", name := "_law_are_names", qual := "_law_are_names", params := defArgs s_law_are_names, body := defBody s_law_are_names, scope := defScope s_law_are_names, dfl := [] },
  { adr := fun K => He.ga K "_law_is_look", name := "_law_is_look", qual := "_law_is_look", params := defArgs s_law_is_look, body := defBody s_law_is_look, scope := defScope s_law_is_look, dfl := [] },
  { adr := fun K => He.ga K "_law_is_watcher", name := "_law_is_watcher", qual := "_law_is_watcher", params := defArgs s_law_is_watcher, body := defBody s_law_is_watcher, scope := defScope s_law_is_watcher, dfl := [] },
  { adr := fun K => He.ga K "_law_size_of", name := "_law_size_of", qual := "_law_size_of", params := defArgs s_law_size_of, body := defBody s_law_size_of, scope := defScope s_law_size_of, dfl := [] }]
def defsY : List DefX := [
  { adr := fun K => He.ga K "_law_is_row", name := "_law_is_row", qual := "_law_is_row", params := defArgs s_law_is_row, body := defBody s_law_is_row, scope := defScope s_law_is_row, dfl := [] },
  { adr := fun K => He.ga K "_law_all_rows", name := "_law_all_rows", qual := "_law_all_rows", params := defArgs s_law_all_rows, body := defBody s_law_all_rows, scope := defScope s_law_all_rows, dfl := [] },
  { adr := fun K => He.ga K "_law_wide_probe", name := "_law_wide_probe", qual := "_law_wide_probe", params := defArgs s_law_wide_probe, body := defBody s_law_wide_probe, scope := defScope s_law_wide_probe, dfl := [] },
  { adr := fun K => He.ga K "_law_pool", name := "_law_pool", qual := "_law_pool", params := defArgs s_law_pool, body := defBody s_law_pool, scope := defScope s_law_pool, dfl := [] },
  { adr := fun K => He.ga K "_law_names", name := "_law_names", qual := "_law_names", params := defArgs s_law_names, body := defBody s_law_names, scope := defScope s_law_names, dfl := [] },
  { adr := fun K => He.ga K "_law_things", name := "_law_things", qual := "_law_things", params := defArgs s_law_things, body := defBody s_law_things, scope := defScope s_law_things, dfl := [] },
  { adr := fun K => He.ga K "_law_kinds", name := "_law_kinds", qual := "_law_kinds", params := defArgs s_law_kinds, body := defBody s_law_kinds, scope := defScope s_law_kinds, dfl := [] },
  { adr := fun K => He.ga K "_law_wide_rows", name := "_law_wide_rows", qual := "_law_wide_rows", params := defArgs s_law_wide_rows, body := defBody s_law_wide_rows, scope := defScope s_law_wide_rows, dfl := [] },
  { adr := fun K => He.ga K "_law_wide_parts", name := "_law_wide_parts", qual := "_law_wide_parts", params := defArgs s_law_wide_parts, body := defBody s_law_wide_parts, scope := defScope s_law_wide_parts, dfl := [] },
  { adr := fun K => He.ga K "_law_same", name := "_law_same", qual := "_law_same", params := defArgs s_law_same, body := defBody s_law_same, scope := defScope s_law_same, dfl := [] },
  { adr := fun K => He.ga K "_law_try", name := "_law_try", qual := "_law_try", params := defArgs s_law_try, body := defBody s_law_try, scope := defScope s_law_try, dfl := [] },
  { adr := fun K => He.ga K "_law_wide_look", name := "_law_wide_look", qual := "_law_wide_look", params := defArgs s_law_wide_look, body := defBody s_law_wide_look, scope := defScope s_law_wide_look, dfl := [] },
  { adr := fun K => He.ga K "_law_wide_deed", name := "_law_wide_deed", qual := "_law_wide_deed", params := defArgs s_law_wide_deed, body := defBody s_law_wide_deed, scope := defScope s_law_wide_deed, dfl := [] },
  { adr := fun K => He.ga K "_law_wide_test", name := "_law_wide_test", qual := "_law_wide_test", params := defArgs s_law_wide_test, body := defBody s_law_wide_test, scope := defScope s_law_wide_test, dfl := [] },
  { adr := fun K => He.ga K "_law_wide_program", name := "_law_wide_program", qual := "_law_wide_program", params := defArgs s_law_wide_program, body := defBody s_law_wide_program, scope := defScope s_law_wide_program, dfl := [] },
  { adr := fun K => He.ga K "_law_kind_of", name := "_law_kind_of", qual := "_law_kind_of", params := defArgs s_law_kind_of, body := defBody s_law_kind_of, scope := defScope s_law_kind_of, dfl := [] },
  { adr := fun K => He.ga K "_law_wrong_name", name := "_law_wrong_name", qual := "_law_wrong_name", params := defArgs s_law_wrong_name, body := defBody s_law_wrong_name, scope := defScope s_law_wrong_name, dfl := [] },
  { adr := fun K => He.ga K "_law_wrong_row", name := "_law_wrong_row", qual := "_law_wrong_row", params := defArgs s_law_wrong_row, body := defBody s_law_wrong_row, scope := defScope s_law_wrong_row, dfl := [] },
  { adr := fun K => He.ga K "_law_due", name := "_law_due", qual := "_law_due", params := defArgs s_law_due, body := defBody s_law_due, scope := defScope s_law_due, dfl := [] },
  { adr := fun K => He.ga K "_law_other_name", name := "_law_other_name", qual := "_law_other_name", params := defArgs s_law_other_name, body := defBody s_law_other_name, scope := defScope s_law_other_name, dfl := [] },
  { adr := fun K => He.ga K "_law_other_names", name := "_law_other_names", qual := "_law_other_names", params := defArgs s_law_other_names, body := defBody s_law_other_names, scope := defScope s_law_other_names, dfl := [] },
  { adr := fun K => He.ga K "_law_odd_row", name := "_law_odd_row", qual := "_law_odd_row", params := defArgs s_law_odd_row, body := defBody s_law_odd_row, scope := defScope s_law_odd_row, dfl := [] },
  { adr := fun K => He.ga K "law", name := "law", qual := "law", params := defArgs s_law, body := defBody s_law, scope := defScope s_law, dfl := [] },
  { adr := fun K => He.ma K (He.ga K "Thing") "__init__", name := "__init__", qual := "Thing.__init__", params := defArgs s_Thing_init, body := defBody s_Thing_init, scope := defScope s_Thing_init, dfl := [.adr fun K => dfA K "Thing" "__init__" 0] },
  { adr := fun K => stA K "Thing" "feed", name := "feed", qual := "Thing.feed", params := defArgs s_Thing_feed, body := defBody s_Thing_feed, scope := defScope s_Thing_feed, dfl := [] },
  { adr := fun K => stA K "Thing" "dice", name := "dice", qual := "Thing.dice", params := defArgs s_Thing_dice, body := defBody s_Thing_dice, scope := defScope s_Thing_dice, dfl := [] },
  { adr := fun K => stA K "Thing" "source", name := "source", qual := "Thing.source", params := defArgs s_Thing_source, body := defBody s_Thing_source, scope := defScope s_Thing_source, dfl := [] },
  { adr := fun K => stA K "Thing" "flag", name := "flag", qual := "Thing.flag", params := defArgs s_Thing_flag, body := defBody s_Thing_flag, scope := defScope s_Thing_flag, dfl := [] },
  { adr := fun K => stA K "Thing" "slot", name := "slot", qual := "Thing.slot", params := defArgs s_Thing_slot, body := defBody s_Thing_slot, scope := defScope s_Thing_slot, dfl := [] },
  { adr := fun K => stA K "Thing" "field", name := "field", qual := "Thing.field", params := defArgs s_Thing_field, body := defBody s_Thing_field, scope := defScope s_Thing_field, dfl := [] },
  { adr := fun K => stA K "Thing" "table", name := "table", qual := "Thing.table", params := defArgs s_Thing_table, body := defBody s_Thing_table, scope := defScope s_Thing_table, dfl := [] },
  { adr := fun K => He.ma K (He.ga K "Program") "__init__", name := "__init__", qual := "Program.__init__", params := defArgs s_Program_init, body := defBody s_Program_init, scope := defScope s_Program_init, dfl := [] }]
def errsX : List DefX := [
  { adr := fun K => He.ma K (He.ga K "BadRow") "__init__", name := "__init__", qual := "BadRow.__init__", params := defArgs s_BadRow, body := defBody s_BadRow, scope := defScope s_BadRow, clo := ["__class__"] },
  { adr := fun K => He.ma K (He.ga K "NoThing") "__init__", name := "__init__", qual := "NoThing.__init__", params := defArgs s_NoThing, body := defBody s_NoThing, scope := defScope s_NoThing, clo := ["__class__"] },
  { adr := fun K => He.ma K (He.ga K "NoKey") "__init__", name := "__init__", qual := "NoKey.__init__", params := defArgs s_NoKey, body := defBody s_NoKey, scope := defScope s_NoKey, clo := ["__class__"] },
  { adr := fun K => He.ma K (He.ga K "NoPart") "__init__", name := "__init__", qual := "NoPart.__init__", params := defArgs s_NoPart, body := defBody s_NoPart, scope := defScope s_NoPart, clo := ["__class__"] },
  { adr := fun K => He.ma K (He.ga K "Twice") "__init__", name := "__init__", qual := "Twice.__init__", params := defArgs s_Twice, body := defBody s_Twice, scope := defScope s_Twice, clo := ["__class__"] },
  { adr := fun K => He.ma K (He.ga K "Unmatched") "__init__", name := "__init__", qual := "Unmatched.__init__", params := defArgs s_Unmatched, body := defBody s_Unmatched, scope := defScope s_Unmatched, clo := ["__class__"] },
  { adr := fun K => He.ma K (He.ga K "TooMany") "__init__", name := "__init__", qual := "TooMany.__init__", params := defArgs s_TooMany, body := defBody s_TooMany, scope := defScope s_TooMany, clo := ["__class__"] }]
def fnAll : List DefX := defsX ++ (defsY ++ errsX)
def fa0 : List He.Fa := [.glo "is_name", .glo "need_names", .glo "need_unlike", .glo "need_things", .glo "look_codes", .glo "row_codes", .glo "branch_codes", .glo "head", .glo "suits", .glo "fits", .glo "need_known", .glo "is_look", .glo "is_looks", .glo "is_watcher", .glo "is_row", .glo "is_probe", .glo "named", .glo "need_row", .glo "opened_behind", .glo "need_parts", .glo "jumps_of", .glo "_law_draw", .glo "_law_words", .glo "_law_word", .glo "_law_thing", .glo "_law_is_name", .glo "_law_are_names", .glo "_law_is_look", .glo "_law_is_watcher", .glo "_law_size_of", .glo "_law_is_row", .glo "_law_all_rows", .glo "_law_wide_probe", .glo "_law_pool", .glo "_law_names"]
def fa1 : List He.Fa := [.glo "_law_things", .glo "_law_kinds", .glo "_law_wide_rows", .glo "_law_wide_parts", .glo "_law_same", .glo "_law_try", .glo "_law_wide_look", .glo "_law_wide_deed", .glo "_law_wide_test", .glo "_law_wide_program", .glo "_law_kind_of", .glo "_law_wrong_name", .glo "_law_wrong_row", .glo "_law_due", .glo "_law_other_name", .glo "_law_other_names", .glo "_law_odd_row", .glo "law", .glo "Thing", .glo "Program", .glo "QuietError", .glo "BadRow", .glo "NoThing", .glo "NoKey", .glo "NoPart", .glo "Twice", .glo "Unmatched", .glo "TooMany", .glo "DEEDS", .glo "PLAIN", .glo "FREE", .glo "LOOKS", .glo "UNSAID", .glo "GATES", .glo "ASSERTED"]
def fa2 : List He.Fa := [.free "isinstance", .free "len", .free "all", .free "str", .free "tuple", .free "zip", .free "sum", .free "enumerate", .free "list", .free "range", .free "super", .free "int", .free "bool", .int "MOST_LETTERS" 8, .int "MOST_KEYS" 4, .int "MOST_THINGS" 8, .int "MOST_LOOKS" 6, .int "MOST_PARTS" 5, .int "MOST_ROWS" 60, .int "MOST_BLOCKS" 8, .str "LETTERS" "abcdefghijklmnopqrstuvwxyz", .cls "Thing", .mkr "Thing", .noat "Thing" "kind", .noat "Thing" "name", .noat "Thing" "parts", .cls "Program", .mkr "Program", .noat "Program" "things", .noat "Program" "parts", .noat "Program" "rows", .noat "Program" "probes", .noat "Program" "asserts", .noat "Program" "begins", .noat "Program" "onward"]
def fa3 : List He.Fa := [.noat "Program" "otherwise", .exm "BadRow" "BadRow" true, .exm "NoThing" "BadRow" false, .exm "NoThing" "NoThing" true, .exm "NoKey" "BadRow" false, .exm "NoKey" "NoThing" false, .exm "NoKey" "NoKey" true, .exm "Twice" "BadRow" false, .exm "Twice" "NoThing" false, .exm "Twice" "NoKey" false, .exm "Twice" "Twice" true, .exm "NoPart" "BadRow" false, .exm "NoPart" "NoThing" false, .exm "NoPart" "NoKey" false, .exm "NoPart" "Twice" false, .exm "NoPart" "NoPart" true, .exm "Unmatched" "BadRow" false, .exm "Unmatched" "NoThing" false, .exm "Unmatched" "NoKey" false, .exm "Unmatched" "Twice" false, .exm "Unmatched" "NoPart" false, .exm "Unmatched" "Unmatched" true, .exm "TooMany" "BadRow" false, .exm "TooMany" "NoThing" false, .exm "TooMany" "NoKey" false, .exm "TooMany" "Twice" false, .exm "TooMany" "NoPart" false, .exm "TooMany" "Unmatched" false, .exm "TooMany" "TooMany" true]
def faAll : List He.Fa := fa0 ++ (fa1 ++ (fa2 ++ (fa3)))
def deeds_ : List (Str × List Str) := [("take", ["feed"]), ("skip", ["feed"]), ("drain", ["feed"]), ("fetch", ["feed", "length"]), ("bind", ["feed", "feed"]), ("roll", ["dice"]), ("seed", ["dice"]), ("get", ["table", "key"]), ("peek", ["table", "key"]), ("has", ["table", "key"]), ("put", ["table", "key"]), ("fill", ["table", "key"]), ("drop", ["table", "key"]), ("size", ["table"]), ("keys", ["table"]), ("load", ["table", "keys"]), ("wipe", ["table"]), ("change", ["source"]), ("look", ["field"]), ("glance", ["field"]), ("renew", ["field"]), ("lift", ["flag"]), ("read", ["flag"]), ("watch", ["flag"]), ("keep", ["slot"]), ("copy", ["slot", "slot"]), ("tell", ["slot"]), ("bound", ["slot"]), ("mark", ["slot", "name"]), ("spy", ["thing"])]
def plain_ : List (Str × List Str) := [("fetch", ["feed"]), ("load", ["table"]), ("say", ["name"]), ("stop", []), ("call", ["name"]), ("else", []), ("end", [])]
def free_ : List Str := ["key", "name", "length", "keys"]
def looks_ : List Str := ["take", "drain", "roll", "get", "drop", "look", "renew", "read", "mark", "peek", "has", "size", "keys", "glance", "watch", "tell", "bound", "spy"]
def unsaid_ : List Str := ["has", "bound", "mark", "spy"]
def gates_ : List Str := ["always", "first", "later", "second"]
def asserted_ : List Str := ["has", "bound", "read", "watch"]
def tupTs (K : PySem.W.Frag) (x : Str) (vs : List Str) : Bool := He.tupB K x (vs.map He.Dv.str)
def exB : List (PySem.W.Frag → Bool) := [
  fun K => tabB K (He.ga K "DEEDS") deeds_,
  fun K => tabB K (He.ga K "PLAIN") plain_,
  fun K => tupTs K "FREE" free_,
  fun K => tupTs K "LOOKS" looks_,
  fun K => tupTs K "UNSAID" unsaid_,
  fun K => tupTs K "GATES" gates_,
  fun K => tupTs K "ASSERTED" asserted_,
  fun K => sttB K "Thing" "feed",
  fun K => sttB K "Thing" "dice",
  fun K => sttB K "Thing" "source",
  fun K => sttB K "Thing" "flag",
  fun K => sttB K "Thing" "slot",
  fun K => sttB K "Thing" "field",
  fun K => sttB K "Thing" "table",
  fun K => PySem.W.readsIn K (He.ga K "Thing") (.type "type"),
  fun K => He.eqO (PySem.W.specialIn K (.ref (He.ga K "Thing")) "__getattribute__") (some (some (.builtin "type.__getattribute__"))),
  fun K => He.eqO (PySem.W.nsIn K cStatics "thirdparty.any") (some none),
  fun K => errB K "BadRow" "number",
  fun K => errB K "NoThing" "name",
  fun K => errB K "NoKey" "key",
  fun K => errB K "NoPart" "name",
  fun K => errB K "Twice" "name",
  fun K => errB K "Unmatched" "number",
  fun K => errB K "TooMany" "limit",
  fun K => (match K.lookup (dfA K "Thing" "__init__" 0) with | some ⟨.type c, _, .seq its _, _⟩ => decide (c = "tuple") && its.isEmpty | _ => false),
  fun K => decide (PySem.W.exmOne K (.ref (He.ga K "BadRow")) (.ref (He.ga K "QuietError")) = some true),
  fun K => decide (PySem.W.exmOne K (.ref (He.ga K "NoThing")) (.ref (He.ga K "QuietError")) = some true),
  fun K => decide (PySem.W.exmOne K (.ref (He.ga K "NoKey")) (.ref (He.ga K "QuietError")) = some true),
  fun K => decide (PySem.W.exmOne K (.ref (He.ga K "NoPart")) (.ref (He.ga K "QuietError")) = some true),
  fun K => decide (PySem.W.exmOne K (.ref (He.ga K "Twice")) (.ref (He.ga K "QuietError")) = some true),
  fun K => decide (PySem.W.exmOne K (.ref (He.ga K "Unmatched")) (.ref (He.ga K "QuietError")) = some true),
  fun K => decide (PySem.W.exmOne K (.ref (He.ga K "TooMany")) (.ref (He.ga K "QuietError")) = some true)]

/-! ### what is looked at -/
def refsX (o : Obj) : List Addr := match o.data with
  | .seq its _ => its.toList.flatMap He.refV
  | .dict es _ => es.toList.flatMap fun e => He.refV e.val
  | .func fd => He.refV fd.code ++ (He.refV fd.defaults ++ fd.closure.map (·.2))
  | .cls cd => [cd.ns]
  | .fields vs => (match o.cls with
    | .type n => (match decide (n = "staticmethod") with
      | true => vs.toList.flatMap He.refV
      | false => [])
    | _ => [])
  | _ => []
def nextX (g : Addr → Option Obj) (as : List Addr) : List Addr := as.flatMap fun a => match g a with
  | some o => refsX o
  | none => []
def levX (g : Addr → Option Obj) : Nat → List Addr → List Addr
  | 0, as => as
  | n + 1, as => as ++ levX g n (nextX g as)
def frX (g : Addr → Option Obj) : PySem.W.Frag := He.frG g (cStatics :: levX g 5 [mainGlobals])
abbrev AlQ : Type := Bool × List FnX × List (Option (List (Option (Str × Int))))
def obsQ (K : PySem.W.Frag) : AlQ := ((faAll.all fun f => f.ok K) && ((fnAll.all fun d => d.ok K) && exB.all fun b => b K), fnAll.map fun d => fnX K (d.adr K), [He.dicW K (He.ga K "DEEDS"), He.dicW K (He.ga K "PLAIN")])
def valQ (w : World) : AlQ := (true, fnAll.map DefX.val, [some (He.keysIn w.params (deeds_.map (·.1))), some (He.keysIn w.params (plain_.map (·.1)))])
def SaysQ (w : World) (K : PySem.W.Frag) : Prop := obsQ K = valQ w
def hookQ : PySem.W.Hook where
  α := AlQ
  obs := fun s => obsQ (frX s.heap.get?)
  val := fun w => valQ w
  says := fun w h => ∃ K : PySem.W.Frag, K.In h ∧ SaysQ w K
  of := fun _ _ e => ⟨_, He.frG_in, e⟩
  keeps := fun _ _ _ ⟨K, hK, c⟩ k => ⟨K, PySem.W.Frag.In.keeps hK k, c⟩
/-- what the walkers lean on -/
structure Txt (w : World) (K : PySem.W.Frag) (mg : Str → Option Value) : Prop where
  c : SaysQ w K
  g : ∀ x r, PySem.W.nsIn K mainGlobals x = some r → mg x = r
section
variable {w : World} {K : PySem.W.Frag} {mg : Str → Option Value}
theorem Txt.fact (T : Txt w K mg) (i : Nat) {f : He.Fa} (h : faAll[i]? = some f) : f.ok K = true := by
  have c1 := (He.ba (show ((faAll.all fun f => f.ok K) && _) = true from congrArg (fun z : AlQ => z.1) T.c)).1
  exact List.all_eq_true.mp c1 f (List.mem_of_getElem? h)
theorem Txt.dok (T : Txt w K mg) (i : Nat) {d : DefX} (h : fnAll[i]? = some d) : d.ok K = true := by
  have c1 := (He.ba (show ((faAll.all fun f => f.ok K) && _) = true from congrArg (fun z : AlQ => z.1) T.c)).2
  have c2 := (He.ba (show ((fnAll.all fun d => d.ok K) && _) = true from c1)).1
  exact List.all_eq_true.mp c2 d (List.mem_of_getElem? h)
theorem Txt.exb (T : Txt w K mg) (i : Nat) {b : PySem.W.Frag → Bool} (h : exB[i]? = some b) : b K = true := by
  have c1 := (He.ba (show ((faAll.all fun f => f.ok K) && _) = true from congrArg (fun z : AlQ => z.1) T.c)).2
  have c2 := (He.ba (show ((fnAll.all fun d => d.ok K) && _) = true from c1)).2
  exact List.all_eq_true.mp c2 b (List.mem_of_getElem? h)
theorem Txt.fnx (T : Txt w K mg) (i : Nat) {d : DefX} (h : fnAll[i]? = some d) : fnX K (d.adr K) = d.val := by
  have e : fnAll.map (fun d => fnX K (d.adr K)) = fnAll.map DefX.val := congrArg (fun z : AlQ => z.2.1) T.c
  have e2 : (fnAll.map fun d => fnX K (d.adr K))[i]? = (fnAll.map DefX.val)[i]? := by rw [e]
  rw [List.getElem?_map, List.getElem?_map, h] at e2
  exact Option.some.inj e2
theorem Txt.fd (T : Txt w K mg) (i : Nat) {d : DefX} (h : fnAll[i]? = some d) (hc : d.clo = []) : ∃ fd, FunD K d.name d.qual d.params d.body d.scope (d.dvs K) [] (d.adr K) fd :=
  DefX.funD hc (T.fnx i h) (T.dok i h)
theorem Txt.glo (T : Txt w K mg) (i : Nat) {x : Str} (h : faAll[i]? = some (.glo x)) : mg x = some (.ref (He.ga K x)) := T.g x _ (He.eqO_ok (T.fact i h))
theorem Txt.free (T : Txt w K mg) (i : Nat) {x : Str} (h : faAll[i]? = some (.free x)) : mg x = none := T.g x _ (He.eqO_ok (T.fact i h))
theorem Txt.deeds (T : Txt w K mg) : ∃ es n, KDict K w (He.ga K "DEEDS") es n := by
  have e : [He.dicW K (He.ga K "DEEDS"), He.dicW K (He.ga K "PLAIN")] = [some (He.keysIn w.params (deeds_.map (·.1))), some (He.keysIn w.params (plain_.map (·.1)))] := congrArg (fun z : AlQ => z.2.2) T.c
  exact He.dicW_ok (List.cons.inj e).1
theorem Txt.plain (T : Txt w K mg) : ∃ es n, KDict K w (He.ga K "PLAIN") es n := by
  have e : [He.dicW K (He.ga K "DEEDS"), He.dicW K (He.ga K "PLAIN")] = [some (He.keysIn w.params (deeds_.map (·.1))), some (He.keysIn w.params (plain_.map (·.1)))] := congrArg (fun z : AlQ => z.2.2) T.c
  exact He.dicW_ok (List.cons.inj (List.cons.inj e).2).1
end

section
variable {w : World} {K : PySem.W.Frag} {mg : Str → Option Value}
theorem Txt.fds_is_name (T : Txt w K mg) : ∃ fd, FunD K "is_name" "is_name" (defArgs s_is_name) (defBody s_is_name) (defScope s_is_name) [] [] (He.ga K "is_name") fd := T.fd 0 rfl rfl
theorem Txt.kps_is_name (T : Txt w K mg) : PySem.W.keepIn K (.ref (He.ga K "is_name")) = true := (He.ba (T.dok 0 rfl)).1
theorem Txt.fds_need_names (T : Txt w K mg) : ∃ fd, FunD K "need_names" "need_names" (defArgs s_need_names) (defBody s_need_names) (defScope s_need_names) [] [] (He.ga K "need_names") fd := T.fd 1 rfl rfl
theorem Txt.kps_need_names (T : Txt w K mg) : PySem.W.keepIn K (.ref (He.ga K "need_names")) = true := (He.ba (T.dok 1 rfl)).1
theorem Txt.fds_need_unlike (T : Txt w K mg) : ∃ fd, FunD K "need_unlike" "need_unlike" (defArgs s_need_unlike) (defBody s_need_unlike) (defScope s_need_unlike) [] [] (He.ga K "need_unlike") fd := T.fd 2 rfl rfl
theorem Txt.kps_need_unlike (T : Txt w K mg) : PySem.W.keepIn K (.ref (He.ga K "need_unlike")) = true := (He.ba (T.dok 2 rfl)).1
theorem Txt.fds_need_things (T : Txt w K mg) : ∃ fd, FunD K "need_things" "need_things" (defArgs s_need_things) (defBody s_need_things) (defScope s_need_things) [] [] (He.ga K "need_things") fd := T.fd 3 rfl rfl
theorem Txt.kps_need_things (T : Txt w K mg) : PySem.W.keepIn K (.ref (He.ga K "need_things")) = true := (He.ba (T.dok 3 rfl)).1
theorem Txt.fds_look_codes (T : Txt w K mg) : ∃ fd, FunD K "look_codes" "look_codes" (defArgs s_look_codes) (defBody s_look_codes) (defScope s_look_codes) [] [] (He.ga K "look_codes") fd := T.fd 4 rfl rfl
theorem Txt.kps_look_codes (T : Txt w K mg) : PySem.W.keepIn K (.ref (He.ga K "look_codes")) = true := (He.ba (T.dok 4 rfl)).1
theorem Txt.fds_row_codes (T : Txt w K mg) : ∃ fd, FunD K "row_codes" "row_codes" (defArgs s_row_codes) (defBody s_row_codes) (defScope s_row_codes) [] [] (He.ga K "row_codes") fd := T.fd 5 rfl rfl
theorem Txt.kps_row_codes (T : Txt w K mg) : PySem.W.keepIn K (.ref (He.ga K "row_codes")) = true := (He.ba (T.dok 5 rfl)).1
theorem Txt.fds_branch_codes (T : Txt w K mg) : ∃ fd, FunD K "branch_codes" "branch_codes" (defArgs s_branch_codes) (defBody s_branch_codes) (defScope s_branch_codes) [] [] (He.ga K "branch_codes") fd := T.fd 6 rfl rfl
theorem Txt.kps_branch_codes (T : Txt w K mg) : PySem.W.keepIn K (.ref (He.ga K "branch_codes")) = true := (He.ba (T.dok 6 rfl)).1
theorem Txt.fds_head (T : Txt w K mg) : ∃ fd, FunD K "head" "head" (defArgs s_head) (defBody s_head) (defScope s_head) [] [] (He.ga K "head") fd := T.fd 7 rfl rfl
theorem Txt.kps_head (T : Txt w K mg) : PySem.W.keepIn K (.ref (He.ga K "head")) = true := (He.ba (T.dok 7 rfl)).1
theorem Txt.fds_suits (T : Txt w K mg) : ∃ fd, FunD K "suits" "suits" (defArgs s_suits) (defBody s_suits) (defScope s_suits) [] [] (He.ga K "suits") fd := T.fd 8 rfl rfl
theorem Txt.kps_suits (T : Txt w K mg) : PySem.W.keepIn K (.ref (He.ga K "suits")) = true := (He.ba (T.dok 8 rfl)).1
theorem Txt.fds_fits (T : Txt w K mg) : ∃ fd, FunD K "fits" "fits" (defArgs s_fits) (defBody s_fits) (defScope s_fits) [] [] (He.ga K "fits") fd := T.fd 9 rfl rfl
theorem Txt.kps_fits (T : Txt w K mg) : PySem.W.keepIn K (.ref (He.ga K "fits")) = true := (He.ba (T.dok 9 rfl)).1
theorem Txt.fds_need_known (T : Txt w K mg) : ∃ fd, FunD K "need_known" "need_known" (defArgs s_need_known) (defBody s_need_known) (defScope s_need_known) [] [] (He.ga K "need_known") fd := T.fd 10 rfl rfl
theorem Txt.kps_need_known (T : Txt w K mg) : PySem.W.keepIn K (.ref (He.ga K "need_known")) = true := (He.ba (T.dok 10 rfl)).1
theorem Txt.fds_is_look (T : Txt w K mg) : ∃ fd, FunD K "is_look" "is_look" (defArgs s_is_look) (defBody s_is_look) (defScope s_is_look) [] [] (He.ga K "is_look") fd := T.fd 11 rfl rfl
theorem Txt.kps_is_look (T : Txt w K mg) : PySem.W.keepIn K (.ref (He.ga K "is_look")) = true := (He.ba (T.dok 11 rfl)).1
theorem Txt.fds_is_looks (T : Txt w K mg) : ∃ fd, FunD K "is_looks" "is_looks" (defArgs s_is_looks) (defBody s_is_looks) (defScope s_is_looks) [] [] (He.ga K "is_looks") fd := T.fd 12 rfl rfl
theorem Txt.kps_is_looks (T : Txt w K mg) : PySem.W.keepIn K (.ref (He.ga K "is_looks")) = true := (He.ba (T.dok 12 rfl)).1
theorem Txt.fds_is_watcher (T : Txt w K mg) : ∃ fd, FunD K "is_watcher" "is_watcher" (defArgs s_is_watcher) (defBody s_is_watcher) (defScope s_is_watcher) [] [] (He.ga K "is_watcher") fd := T.fd 13 rfl rfl
theorem Txt.kps_is_watcher (T : Txt w K mg) : PySem.W.keepIn K (.ref (He.ga K "is_watcher")) = true := (He.ba (T.dok 13 rfl)).1
theorem Txt.fds_is_row (T : Txt w K mg) : ∃ fd, FunD K "is_row" "is_row" (defArgs s_is_row) (defBody s_is_row) (defScope s_is_row) [] [] (He.ga K "is_row") fd := T.fd 14 rfl rfl
theorem Txt.kps_is_row (T : Txt w K mg) : PySem.W.keepIn K (.ref (He.ga K "is_row")) = true := (He.ba (T.dok 14 rfl)).1
theorem Txt.fds_is_probe (T : Txt w K mg) : ∃ fd, FunD K "is_probe" "is_probe" (defArgs s_is_probe) (defBody s_is_probe) (defScope s_is_probe) [] [] (He.ga K "is_probe") fd := T.fd 15 rfl rfl
theorem Txt.kps_is_probe (T : Txt w K mg) : PySem.W.keepIn K (.ref (He.ga K "is_probe")) = true := (He.ba (T.dok 15 rfl)).1
theorem Txt.fds_named (T : Txt w K mg) : ∃ fd, FunD K "named" "named" (defArgs s_named) (defBody s_named) (defScope s_named) [] [] (He.ga K "named") fd := T.fd 16 rfl rfl
theorem Txt.kps_named (T : Txt w K mg) : PySem.W.keepIn K (.ref (He.ga K "named")) = true := (He.ba (T.dok 16 rfl)).1
theorem Txt.fds_need_row (T : Txt w K mg) : ∃ fd, FunD K "need_row" "need_row" (defArgs s_need_row) (defBody s_need_row) (defScope s_need_row) [] [] (He.ga K "need_row") fd := T.fd 17 rfl rfl
theorem Txt.kps_need_row (T : Txt w K mg) : PySem.W.keepIn K (.ref (He.ga K "need_row")) = true := (He.ba (T.dok 17 rfl)).1
theorem Txt.fds_opened_behind (T : Txt w K mg) : ∃ fd, FunD K "opened_behind" "opened_behind" (defArgs s_opened_behind) (defBody s_opened_behind) (defScope s_opened_behind) [] [] (He.ga K "opened_behind") fd := T.fd 18 rfl rfl
theorem Txt.kps_opened_behind (T : Txt w K mg) : PySem.W.keepIn K (.ref (He.ga K "opened_behind")) = true := (He.ba (T.dok 18 rfl)).1
theorem Txt.fds_need_parts (T : Txt w K mg) : ∃ fd, FunD K "need_parts" "need_parts" (defArgs s_need_parts) (defBody s_need_parts) (defScope s_need_parts) [] [] (He.ga K "need_parts") fd := T.fd 19 rfl rfl
theorem Txt.kps_need_parts (T : Txt w K mg) : PySem.W.keepIn K (.ref (He.ga K "need_parts")) = true := (He.ba (T.dok 19 rfl)).1
theorem Txt.fds_jumps_of (T : Txt w K mg) : ∃ fd, FunD K "jumps_of" "jumps_of" (defArgs s_jumps_of) (defBody s_jumps_of) (defScope s_jumps_of) [] [] (He.ga K "jumps_of") fd := T.fd 20 rfl rfl
theorem Txt.kps_jumps_of (T : Txt w K mg) : PySem.W.keepIn K (.ref (He.ga K "jumps_of")) = true := (He.ba (T.dok 20 rfl)).1
theorem Txt.fds_law_draw (T : Txt w K mg) : ∃ fd, FunD K "_law_draw" "_law_draw" (defArgs s_law_draw) (defBody s_law_draw) (defScope s_law_draw) [] [] (He.ga K "_law_draw") fd := T.fd 21 rfl rfl
theorem Txt.kps_law_draw (T : Txt w K mg) : PySem.W.keepIn K (.ref (He.ga K "_law_draw")) = true := (He.ba (T.dok 21 rfl)).1
theorem Txt.fds_law_words (T : Txt w K mg) : ∃ fd, FunD K "_law_words" "_law_words" (defArgs s_law_words) (defBody s_law_words) (defScope s_law_words) [] [] (He.ga K "_law_words") fd := T.fd 22 rfl rfl
theorem Txt.kps_law_words (T : Txt w K mg) : PySem.W.keepIn K (.ref (He.ga K "_law_words")) = true := (He.ba (T.dok 22 rfl)).1
theorem Txt.fds_law_word (T : Txt w K mg) : ∃ fd, FunD K "_law_word" "_law_word" (defArgs s_law_word) (defBody s_law_word) (defScope s_law_word) [] [] (He.ga K "_law_word") fd := T.fd 23 rfl rfl
theorem Txt.kps_law_word (T : Txt w K mg) : PySem.W.keepIn K (.ref (He.ga K "_law_word")) = true := (He.ba (T.dok 23 rfl)).1
theorem Txt.fds_law_thing (T : Txt w K mg) : ∃ fd, FunD K "_law_thing" "_law_thing" (defArgs s_law_thing) (defBody s_law_thing) (defScope s_law_thing) [] [] (He.ga K "_law_thing") fd := T.fd 24 rfl rfl
theorem Txt.kps_law_thing (T : Txt w K mg) : PySem.W.keepIn K (.ref (He.ga K "_law_thing")) = true := (He.ba (T.dok 24 rfl)).1
theorem Txt.fds_law_is_name (T : Txt w K mg) : ∃ fd, FunD K "_law_is_name" "_law_is_name" (defArgs s_law_is_name) (defBody s_law_is_name) (defScope s_law_is_name) [] [] (He.ga K "_law_is_name") fd := T.fd 25 rfl rfl
theorem Txt.kps_law_is_name (T : Txt w K mg) : PySem.W.keepIn K (.ref (He.ga K "_law_is_name")) = true := (He.ba (T.dok 25 rfl)).1
theorem Txt.fds_law_are_names (T : Txt w K mg) : ∃ fd, FunD K "_law_are_names" "_law_are_names" (defArgs s_law_are_names) (defBody s_law_are_names) (defScope s_law_are_names) [] [] (He.ga K "_law_are_names") fd := T.fd 26 rfl rfl
theorem Txt.kps_law_are_names (T : Txt w K mg) : PySem.W.keepIn K (.ref (He.ga K "_law_are_names")) = true := (He.ba (T.dok 26 rfl)).1
theorem Txt.fds_law_is_look (T : Txt w K mg) : ∃ fd, FunD K "_law_is_look" "_law_is_look" (defArgs s_law_is_look) (defBody s_law_is_look) (defScope s_law_is_look) [] [] (He.ga K "_law_is_look") fd := T.fd 27 rfl rfl
theorem Txt.kps_law_is_look (T : Txt w K mg) : PySem.W.keepIn K (.ref (He.ga K "_law_is_look")) = true := (He.ba (T.dok 27 rfl)).1
theorem Txt.fds_law_is_watcher (T : Txt w K mg) : ∃ fd, FunD K "_law_is_watcher" "_law_is_watcher" (defArgs s_law_is_watcher) (defBody s_law_is_watcher) (defScope s_law_is_watcher) [] [] (He.ga K "_law_is_watcher") fd := T.fd 28 rfl rfl
theorem Txt.kps_law_is_watcher (T : Txt w K mg) : PySem.W.keepIn K (.ref (He.ga K "_law_is_watcher")) = true := (He.ba (T.dok 28 rfl)).1
theorem Txt.fds_law_size_of (T : Txt w K mg) : ∃ fd, FunD K "_law_size_of" "_law_size_of" (defArgs s_law_size_of) (defBody s_law_size_of) (defScope s_law_size_of) [] [] (He.ga K "_law_size_of") fd := T.fd 29 rfl rfl
theorem Txt.kps_law_size_of (T : Txt w K mg) : PySem.W.keepIn K (.ref (He.ga K "_law_size_of")) = true := (He.ba (T.dok 29 rfl)).1
theorem Txt.fds_law_is_row (T : Txt w K mg) : ∃ fd, FunD K "_law_is_row" "_law_is_row" (defArgs s_law_is_row) (defBody s_law_is_row) (defScope s_law_is_row) [] [] (He.ga K "_law_is_row") fd := T.fd 30 rfl rfl
theorem Txt.kps_law_is_row (T : Txt w K mg) : PySem.W.keepIn K (.ref (He.ga K "_law_is_row")) = true := (He.ba (T.dok 30 rfl)).1
theorem Txt.fds_law_all_rows (T : Txt w K mg) : ∃ fd, FunD K "_law_all_rows" "_law_all_rows" (defArgs s_law_all_rows) (defBody s_law_all_rows) (defScope s_law_all_rows) [] [] (He.ga K "_law_all_rows") fd := T.fd 31 rfl rfl
theorem Txt.kps_law_all_rows (T : Txt w K mg) : PySem.W.keepIn K (.ref (He.ga K "_law_all_rows")) = true := (He.ba (T.dok 31 rfl)).1
theorem Txt.fds_law_wide_probe (T : Txt w K mg) : ∃ fd, FunD K "_law_wide_probe" "_law_wide_probe" (defArgs s_law_wide_probe) (defBody s_law_wide_probe) (defScope s_law_wide_probe) [] [] (He.ga K "_law_wide_probe") fd := T.fd 32 rfl rfl
theorem Txt.kps_law_wide_probe (T : Txt w K mg) : PySem.W.keepIn K (.ref (He.ga K "_law_wide_probe")) = true := (He.ba (T.dok 32 rfl)).1
theorem Txt.fds_law_pool (T : Txt w K mg) : ∃ fd, FunD K "_law_pool" "_law_pool" (defArgs s_law_pool) (defBody s_law_pool) (defScope s_law_pool) [] [] (He.ga K "_law_pool") fd := T.fd 33 rfl rfl
theorem Txt.kps_law_pool (T : Txt w K mg) : PySem.W.keepIn K (.ref (He.ga K "_law_pool")) = true := (He.ba (T.dok 33 rfl)).1
theorem Txt.fds_law_names (T : Txt w K mg) : ∃ fd, FunD K "_law_names" "_law_names" (defArgs s_law_names) (defBody s_law_names) (defScope s_law_names) [] [] (He.ga K "_law_names") fd := T.fd 34 rfl rfl
theorem Txt.kps_law_names (T : Txt w K mg) : PySem.W.keepIn K (.ref (He.ga K "_law_names")) = true := (He.ba (T.dok 34 rfl)).1
theorem Txt.fds_law_things (T : Txt w K mg) : ∃ fd, FunD K "_law_things" "_law_things" (defArgs s_law_things) (defBody s_law_things) (defScope s_law_things) [] [] (He.ga K "_law_things") fd := T.fd 35 rfl rfl
theorem Txt.kps_law_things (T : Txt w K mg) : PySem.W.keepIn K (.ref (He.ga K "_law_things")) = true := (He.ba (T.dok 35 rfl)).1
theorem Txt.fds_law_kinds (T : Txt w K mg) : ∃ fd, FunD K "_law_kinds" "_law_kinds" (defArgs s_law_kinds) (defBody s_law_kinds) (defScope s_law_kinds) [] [] (He.ga K "_law_kinds") fd := T.fd 36 rfl rfl
theorem Txt.kps_law_kinds (T : Txt w K mg) : PySem.W.keepIn K (.ref (He.ga K "_law_kinds")) = true := (He.ba (T.dok 36 rfl)).1
theorem Txt.fds_law_wide_rows (T : Txt w K mg) : ∃ fd, FunD K "_law_wide_rows" "_law_wide_rows" (defArgs s_law_wide_rows) (defBody s_law_wide_rows) (defScope s_law_wide_rows) [] [] (He.ga K "_law_wide_rows") fd := T.fd 37 rfl rfl
theorem Txt.kps_law_wide_rows (T : Txt w K mg) : PySem.W.keepIn K (.ref (He.ga K "_law_wide_rows")) = true := (He.ba (T.dok 37 rfl)).1
theorem Txt.fds_law_wide_parts (T : Txt w K mg) : ∃ fd, FunD K "_law_wide_parts" "_law_wide_parts" (defArgs s_law_wide_parts) (defBody s_law_wide_parts) (defScope s_law_wide_parts) [] [] (He.ga K "_law_wide_parts") fd := T.fd 38 rfl rfl
theorem Txt.kps_law_wide_parts (T : Txt w K mg) : PySem.W.keepIn K (.ref (He.ga K "_law_wide_parts")) = true := (He.ba (T.dok 38 rfl)).1
theorem Txt.fds_law_same (T : Txt w K mg) : ∃ fd, FunD K "_law_same" "_law_same" (defArgs s_law_same) (defBody s_law_same) (defScope s_law_same) [] [] (He.ga K "_law_same") fd := T.fd 39 rfl rfl
theorem Txt.kps_law_same (T : Txt w K mg) : PySem.W.keepIn K (.ref (He.ga K "_law_same")) = true := (He.ba (T.dok 39 rfl)).1
theorem Txt.fds_law_try (T : Txt w K mg) : ∃ fd, FunD K "_law_try" "_law_try" (defArgs s_law_try) (defBody s_law_try) (defScope s_law_try) [] [] (He.ga K "_law_try") fd := T.fd 40 rfl rfl
theorem Txt.kps_law_try (T : Txt w K mg) : PySem.W.keepIn K (.ref (He.ga K "_law_try")) = true := (He.ba (T.dok 40 rfl)).1
theorem Txt.fds_law_wide_look (T : Txt w K mg) : ∃ fd, FunD K "_law_wide_look" "_law_wide_look" (defArgs s_law_wide_look) (defBody s_law_wide_look) (defScope s_law_wide_look) [] [] (He.ga K "_law_wide_look") fd := T.fd 41 rfl rfl
theorem Txt.kps_law_wide_look (T : Txt w K mg) : PySem.W.keepIn K (.ref (He.ga K "_law_wide_look")) = true := (He.ba (T.dok 41 rfl)).1
theorem Txt.fds_law_wide_deed (T : Txt w K mg) : ∃ fd, FunD K "_law_wide_deed" "_law_wide_deed" (defArgs s_law_wide_deed) (defBody s_law_wide_deed) (defScope s_law_wide_deed) [] [] (He.ga K "_law_wide_deed") fd := T.fd 42 rfl rfl
theorem Txt.kps_law_wide_deed (T : Txt w K mg) : PySem.W.keepIn K (.ref (He.ga K "_law_wide_deed")) = true := (He.ba (T.dok 42 rfl)).1
theorem Txt.fds_law_wide_test (T : Txt w K mg) : ∃ fd, FunD K "_law_wide_test" "_law_wide_test" (defArgs s_law_wide_test) (defBody s_law_wide_test) (defScope s_law_wide_test) [] [] (He.ga K "_law_wide_test") fd := T.fd 43 rfl rfl
theorem Txt.kps_law_wide_test (T : Txt w K mg) : PySem.W.keepIn K (.ref (He.ga K "_law_wide_test")) = true := (He.ba (T.dok 43 rfl)).1
theorem Txt.fds_law_wide_program (T : Txt w K mg) : ∃ fd, FunD K "_law_wide_program" "_law_wide_program" (defArgs s_law_wide_program) (defBody s_law_wide_program) (defScope s_law_wide_program) [] [] (He.ga K "_law_wide_program") fd := T.fd 44 rfl rfl
theorem Txt.kps_law_wide_program (T : Txt w K mg) : PySem.W.keepIn K (.ref (He.ga K "_law_wide_program")) = true := (He.ba (T.dok 44 rfl)).1
theorem Txt.fds_law_kind_of (T : Txt w K mg) : ∃ fd, FunD K "_law_kind_of" "_law_kind_of" (defArgs s_law_kind_of) (defBody s_law_kind_of) (defScope s_law_kind_of) [] [] (He.ga K "_law_kind_of") fd := T.fd 45 rfl rfl
theorem Txt.kps_law_kind_of (T : Txt w K mg) : PySem.W.keepIn K (.ref (He.ga K "_law_kind_of")) = true := (He.ba (T.dok 45 rfl)).1
theorem Txt.fds_law_wrong_name (T : Txt w K mg) : ∃ fd, FunD K "_law_wrong_name" "_law_wrong_name" (defArgs s_law_wrong_name) (defBody s_law_wrong_name) (defScope s_law_wrong_name) [] [] (He.ga K "_law_wrong_name") fd := T.fd 46 rfl rfl
theorem Txt.kps_law_wrong_name (T : Txt w K mg) : PySem.W.keepIn K (.ref (He.ga K "_law_wrong_name")) = true := (He.ba (T.dok 46 rfl)).1
theorem Txt.fds_law_wrong_row (T : Txt w K mg) : ∃ fd, FunD K "_law_wrong_row" "_law_wrong_row" (defArgs s_law_wrong_row) (defBody s_law_wrong_row) (defScope s_law_wrong_row) [] [] (He.ga K "_law_wrong_row") fd := T.fd 47 rfl rfl
theorem Txt.kps_law_wrong_row (T : Txt w K mg) : PySem.W.keepIn K (.ref (He.ga K "_law_wrong_row")) = true := (He.ba (T.dok 47 rfl)).1
theorem Txt.fds_law_due (T : Txt w K mg) : ∃ fd, FunD K "_law_due" "_law_due" (defArgs s_law_due) (defBody s_law_due) (defScope s_law_due) [] [] (He.ga K "_law_due") fd := T.fd 48 rfl rfl
theorem Txt.kps_law_due (T : Txt w K mg) : PySem.W.keepIn K (.ref (He.ga K "_law_due")) = true := (He.ba (T.dok 48 rfl)).1
theorem Txt.fds_law_other_name (T : Txt w K mg) : ∃ fd, FunD K "_law_other_name" "_law_other_name" (defArgs s_law_other_name) (defBody s_law_other_name) (defScope s_law_other_name) [] [] (He.ga K "_law_other_name") fd := T.fd 49 rfl rfl
theorem Txt.kps_law_other_name (T : Txt w K mg) : PySem.W.keepIn K (.ref (He.ga K "_law_other_name")) = true := (He.ba (T.dok 49 rfl)).1
theorem Txt.fds_law_other_names (T : Txt w K mg) : ∃ fd, FunD K "_law_other_names" "_law_other_names" (defArgs s_law_other_names) (defBody s_law_other_names) (defScope s_law_other_names) [] [] (He.ga K "_law_other_names") fd := T.fd 50 rfl rfl
theorem Txt.kps_law_other_names (T : Txt w K mg) : PySem.W.keepIn K (.ref (He.ga K "_law_other_names")) = true := (He.ba (T.dok 50 rfl)).1
theorem Txt.fds_law_odd_row (T : Txt w K mg) : ∃ fd, FunD K "_law_odd_row" "_law_odd_row" (defArgs s_law_odd_row) (defBody s_law_odd_row) (defScope s_law_odd_row) [] [] (He.ga K "_law_odd_row") fd := T.fd 51 rfl rfl
theorem Txt.kps_law_odd_row (T : Txt w K mg) : PySem.W.keepIn K (.ref (He.ga K "_law_odd_row")) = true := (He.ba (T.dok 51 rfl)).1
theorem Txt.fds_law (T : Txt w K mg) : ∃ fd, FunD K "law" "law" (defArgs s_law) (defBody s_law) (defScope s_law) [] [] (He.ga K "law") fd := T.fd 52 rfl rfl
theorem Txt.kps_law (T : Txt w K mg) : PySem.W.keepIn K (.ref (He.ga K "law")) = true := (He.ba (T.dok 52 rfl)).1
theorem Txt.fds_Thing_init (T : Txt w K mg) : ∃ fd, FunD K "__init__" "Thing.__init__" (defArgs s_Thing_init) (defBody s_Thing_init) (defScope s_Thing_init) [.ref (dfA K "Thing" "__init__" 0)] [] (He.ma K (He.ga K "Thing") "__init__") fd := T.fd 53 rfl rfl
theorem Txt.kps_Thing_init (T : Txt w K mg) : PySem.W.keepIn K (.ref (He.ma K (He.ga K "Thing") "__init__")) = true := (He.ba (T.dok 53 rfl)).1
theorem Txt.fds_Thing_feed (T : Txt w K mg) : ∃ fd, FunD K "feed" "Thing.feed" (defArgs s_Thing_feed) (defBody s_Thing_feed) (defScope s_Thing_feed) [] [] (stA K "Thing" "feed") fd := T.fd 54 rfl rfl
theorem Txt.kps_Thing_feed (T : Txt w K mg) : PySem.W.keepIn K (.ref (stA K "Thing" "feed")) = true := (He.ba (T.dok 54 rfl)).1
theorem Txt.fds_Thing_dice (T : Txt w K mg) : ∃ fd, FunD K "dice" "Thing.dice" (defArgs s_Thing_dice) (defBody s_Thing_dice) (defScope s_Thing_dice) [] [] (stA K "Thing" "dice") fd := T.fd 55 rfl rfl
theorem Txt.kps_Thing_dice (T : Txt w K mg) : PySem.W.keepIn K (.ref (stA K "Thing" "dice")) = true := (He.ba (T.dok 55 rfl)).1
theorem Txt.fds_Thing_source (T : Txt w K mg) : ∃ fd, FunD K "source" "Thing.source" (defArgs s_Thing_source) (defBody s_Thing_source) (defScope s_Thing_source) [] [] (stA K "Thing" "source") fd := T.fd 56 rfl rfl
theorem Txt.kps_Thing_source (T : Txt w K mg) : PySem.W.keepIn K (.ref (stA K "Thing" "source")) = true := (He.ba (T.dok 56 rfl)).1
theorem Txt.fds_Thing_flag (T : Txt w K mg) : ∃ fd, FunD K "flag" "Thing.flag" (defArgs s_Thing_flag) (defBody s_Thing_flag) (defScope s_Thing_flag) [] [] (stA K "Thing" "flag") fd := T.fd 57 rfl rfl
theorem Txt.kps_Thing_flag (T : Txt w K mg) : PySem.W.keepIn K (.ref (stA K "Thing" "flag")) = true := (He.ba (T.dok 57 rfl)).1
theorem Txt.fds_Thing_slot (T : Txt w K mg) : ∃ fd, FunD K "slot" "Thing.slot" (defArgs s_Thing_slot) (defBody s_Thing_slot) (defScope s_Thing_slot) [] [] (stA K "Thing" "slot") fd := T.fd 58 rfl rfl
theorem Txt.kps_Thing_slot (T : Txt w K mg) : PySem.W.keepIn K (.ref (stA K "Thing" "slot")) = true := (He.ba (T.dok 58 rfl)).1
theorem Txt.fds_Thing_field (T : Txt w K mg) : ∃ fd, FunD K "field" "Thing.field" (defArgs s_Thing_field) (defBody s_Thing_field) (defScope s_Thing_field) [] [] (stA K "Thing" "field") fd := T.fd 59 rfl rfl
theorem Txt.kps_Thing_field (T : Txt w K mg) : PySem.W.keepIn K (.ref (stA K "Thing" "field")) = true := (He.ba (T.dok 59 rfl)).1
theorem Txt.fds_Thing_table (T : Txt w K mg) : ∃ fd, FunD K "table" "Thing.table" (defArgs s_Thing_table) (defBody s_Thing_table) (defScope s_Thing_table) [] [] (stA K "Thing" "table") fd := T.fd 60 rfl rfl
theorem Txt.kps_Thing_table (T : Txt w K mg) : PySem.W.keepIn K (.ref (stA K "Thing" "table")) = true := (He.ba (T.dok 60 rfl)).1
theorem Txt.fds_Program_init (T : Txt w K mg) : ∃ fd, FunD K "__init__" "Program.__init__" (defArgs s_Program_init) (defBody s_Program_init) (defScope s_Program_init) [] [] (He.ma K (He.ga K "Program") "__init__") fd := T.fd 61 rfl rfl
theorem Txt.kps_Program_init (T : Txt w K mg) : PySem.W.keepIn K (.ref (He.ma K (He.ga K "Program") "__init__")) = true := (He.ba (T.dok 61 rfl)).1
theorem Txt.g_is_name (T : Txt w K mg) : mg "is_name" = some (.ref (He.ga K "is_name")) := T.glo 0 rfl
theorem Txt.g_need_names (T : Txt w K mg) : mg "need_names" = some (.ref (He.ga K "need_names")) := T.glo 1 rfl
theorem Txt.g_need_unlike (T : Txt w K mg) : mg "need_unlike" = some (.ref (He.ga K "need_unlike")) := T.glo 2 rfl
theorem Txt.g_need_things (T : Txt w K mg) : mg "need_things" = some (.ref (He.ga K "need_things")) := T.glo 3 rfl
theorem Txt.g_look_codes (T : Txt w K mg) : mg "look_codes" = some (.ref (He.ga K "look_codes")) := T.glo 4 rfl
theorem Txt.g_row_codes (T : Txt w K mg) : mg "row_codes" = some (.ref (He.ga K "row_codes")) := T.glo 5 rfl
theorem Txt.g_branch_codes (T : Txt w K mg) : mg "branch_codes" = some (.ref (He.ga K "branch_codes")) := T.glo 6 rfl
theorem Txt.g_head (T : Txt w K mg) : mg "head" = some (.ref (He.ga K "head")) := T.glo 7 rfl
theorem Txt.g_suits (T : Txt w K mg) : mg "suits" = some (.ref (He.ga K "suits")) := T.glo 8 rfl
theorem Txt.g_fits (T : Txt w K mg) : mg "fits" = some (.ref (He.ga K "fits")) := T.glo 9 rfl
theorem Txt.g_need_known (T : Txt w K mg) : mg "need_known" = some (.ref (He.ga K "need_known")) := T.glo 10 rfl
theorem Txt.g_is_look (T : Txt w K mg) : mg "is_look" = some (.ref (He.ga K "is_look")) := T.glo 11 rfl
theorem Txt.g_is_looks (T : Txt w K mg) : mg "is_looks" = some (.ref (He.ga K "is_looks")) := T.glo 12 rfl
theorem Txt.g_is_watcher (T : Txt w K mg) : mg "is_watcher" = some (.ref (He.ga K "is_watcher")) := T.glo 13 rfl
theorem Txt.g_is_row (T : Txt w K mg) : mg "is_row" = some (.ref (He.ga K "is_row")) := T.glo 14 rfl
theorem Txt.g_is_probe (T : Txt w K mg) : mg "is_probe" = some (.ref (He.ga K "is_probe")) := T.glo 15 rfl
theorem Txt.g_named (T : Txt w K mg) : mg "named" = some (.ref (He.ga K "named")) := T.glo 16 rfl
theorem Txt.g_need_row (T : Txt w K mg) : mg "need_row" = some (.ref (He.ga K "need_row")) := T.glo 17 rfl
theorem Txt.g_opened_behind (T : Txt w K mg) : mg "opened_behind" = some (.ref (He.ga K "opened_behind")) := T.glo 18 rfl
theorem Txt.g_need_parts (T : Txt w K mg) : mg "need_parts" = some (.ref (He.ga K "need_parts")) := T.glo 19 rfl
theorem Txt.g_jumps_of (T : Txt w K mg) : mg "jumps_of" = some (.ref (He.ga K "jumps_of")) := T.glo 20 rfl
theorem Txt.g__law_draw (T : Txt w K mg) : mg "_law_draw" = some (.ref (He.ga K "_law_draw")) := T.glo 21 rfl
theorem Txt.g__law_words (T : Txt w K mg) : mg "_law_words" = some (.ref (He.ga K "_law_words")) := T.glo 22 rfl
theorem Txt.g__law_word (T : Txt w K mg) : mg "_law_word" = some (.ref (He.ga K "_law_word")) := T.glo 23 rfl
theorem Txt.g__law_thing (T : Txt w K mg) : mg "_law_thing" = some (.ref (He.ga K "_law_thing")) := T.glo 24 rfl
theorem Txt.g__law_is_name (T : Txt w K mg) : mg "_law_is_name" = some (.ref (He.ga K "_law_is_name")) := T.glo 25 rfl
theorem Txt.g__law_are_names (T : Txt w K mg) : mg "_law_are_names" = some (.ref (He.ga K "_law_are_names")) := T.glo 26 rfl
theorem Txt.g__law_is_look (T : Txt w K mg) : mg "_law_is_look" = some (.ref (He.ga K "_law_is_look")) := T.glo 27 rfl
theorem Txt.g__law_is_watcher (T : Txt w K mg) : mg "_law_is_watcher" = some (.ref (He.ga K "_law_is_watcher")) := T.glo 28 rfl
theorem Txt.g__law_size_of (T : Txt w K mg) : mg "_law_size_of" = some (.ref (He.ga K "_law_size_of")) := T.glo 29 rfl
theorem Txt.g__law_is_row (T : Txt w K mg) : mg "_law_is_row" = some (.ref (He.ga K "_law_is_row")) := T.glo 30 rfl
theorem Txt.g__law_all_rows (T : Txt w K mg) : mg "_law_all_rows" = some (.ref (He.ga K "_law_all_rows")) := T.glo 31 rfl
theorem Txt.g__law_wide_probe (T : Txt w K mg) : mg "_law_wide_probe" = some (.ref (He.ga K "_law_wide_probe")) := T.glo 32 rfl
theorem Txt.g__law_pool (T : Txt w K mg) : mg "_law_pool" = some (.ref (He.ga K "_law_pool")) := T.glo 33 rfl
theorem Txt.g__law_names (T : Txt w K mg) : mg "_law_names" = some (.ref (He.ga K "_law_names")) := T.glo 34 rfl
theorem Txt.g__law_things (T : Txt w K mg) : mg "_law_things" = some (.ref (He.ga K "_law_things")) := T.glo 35 rfl
theorem Txt.g__law_kinds (T : Txt w K mg) : mg "_law_kinds" = some (.ref (He.ga K "_law_kinds")) := T.glo 36 rfl
theorem Txt.g__law_wide_rows (T : Txt w K mg) : mg "_law_wide_rows" = some (.ref (He.ga K "_law_wide_rows")) := T.glo 37 rfl
theorem Txt.g__law_wide_parts (T : Txt w K mg) : mg "_law_wide_parts" = some (.ref (He.ga K "_law_wide_parts")) := T.glo 38 rfl
theorem Txt.g__law_same (T : Txt w K mg) : mg "_law_same" = some (.ref (He.ga K "_law_same")) := T.glo 39 rfl
theorem Txt.g__law_try (T : Txt w K mg) : mg "_law_try" = some (.ref (He.ga K "_law_try")) := T.glo 40 rfl
theorem Txt.g__law_wide_look (T : Txt w K mg) : mg "_law_wide_look" = some (.ref (He.ga K "_law_wide_look")) := T.glo 41 rfl
theorem Txt.g__law_wide_deed (T : Txt w K mg) : mg "_law_wide_deed" = some (.ref (He.ga K "_law_wide_deed")) := T.glo 42 rfl
theorem Txt.g__law_wide_test (T : Txt w K mg) : mg "_law_wide_test" = some (.ref (He.ga K "_law_wide_test")) := T.glo 43 rfl
theorem Txt.g__law_wide_program (T : Txt w K mg) : mg "_law_wide_program" = some (.ref (He.ga K "_law_wide_program")) := T.glo 44 rfl
theorem Txt.g__law_kind_of (T : Txt w K mg) : mg "_law_kind_of" = some (.ref (He.ga K "_law_kind_of")) := T.glo 45 rfl
theorem Txt.g__law_wrong_name (T : Txt w K mg) : mg "_law_wrong_name" = some (.ref (He.ga K "_law_wrong_name")) := T.glo 46 rfl
theorem Txt.g__law_wrong_row (T : Txt w K mg) : mg "_law_wrong_row" = some (.ref (He.ga K "_law_wrong_row")) := T.glo 47 rfl
theorem Txt.g__law_due (T : Txt w K mg) : mg "_law_due" = some (.ref (He.ga K "_law_due")) := T.glo 48 rfl
theorem Txt.g__law_other_name (T : Txt w K mg) : mg "_law_other_name" = some (.ref (He.ga K "_law_other_name")) := T.glo 49 rfl
theorem Txt.g__law_other_names (T : Txt w K mg) : mg "_law_other_names" = some (.ref (He.ga K "_law_other_names")) := T.glo 50 rfl
theorem Txt.g__law_odd_row (T : Txt w K mg) : mg "_law_odd_row" = some (.ref (He.ga K "_law_odd_row")) := T.glo 51 rfl
theorem Txt.g_law (T : Txt w K mg) : mg "law" = some (.ref (He.ga K "law")) := T.glo 52 rfl
theorem Txt.g_Thing (T : Txt w K mg) : mg "Thing" = some (.ref (He.ga K "Thing")) := T.glo 53 rfl
theorem Txt.g_Program (T : Txt w K mg) : mg "Program" = some (.ref (He.ga K "Program")) := T.glo 54 rfl
theorem Txt.g_QuietError (T : Txt w K mg) : mg "QuietError" = some (.ref (He.ga K "QuietError")) := T.glo 55 rfl
theorem Txt.g_BadRow (T : Txt w K mg) : mg "BadRow" = some (.ref (He.ga K "BadRow")) := T.glo 56 rfl
theorem Txt.g_NoThing (T : Txt w K mg) : mg "NoThing" = some (.ref (He.ga K "NoThing")) := T.glo 57 rfl
theorem Txt.g_NoKey (T : Txt w K mg) : mg "NoKey" = some (.ref (He.ga K "NoKey")) := T.glo 58 rfl
theorem Txt.g_NoPart (T : Txt w K mg) : mg "NoPart" = some (.ref (He.ga K "NoPart")) := T.glo 59 rfl
theorem Txt.g_Twice (T : Txt w K mg) : mg "Twice" = some (.ref (He.ga K "Twice")) := T.glo 60 rfl
theorem Txt.g_Unmatched (T : Txt w K mg) : mg "Unmatched" = some (.ref (He.ga K "Unmatched")) := T.glo 61 rfl
theorem Txt.g_TooMany (T : Txt w K mg) : mg "TooMany" = some (.ref (He.ga K "TooMany")) := T.glo 62 rfl
theorem Txt.g_DEEDS (T : Txt w K mg) : mg "DEEDS" = some (.ref (He.ga K "DEEDS")) := T.glo 63 rfl
theorem Txt.g_PLAIN (T : Txt w K mg) : mg "PLAIN" = some (.ref (He.ga K "PLAIN")) := T.glo 64 rfl
theorem Txt.g_FREE (T : Txt w K mg) : mg "FREE" = some (.ref (He.ga K "FREE")) := T.glo 65 rfl
theorem Txt.g_LOOKS (T : Txt w K mg) : mg "LOOKS" = some (.ref (He.ga K "LOOKS")) := T.glo 66 rfl
theorem Txt.g_UNSAID (T : Txt w K mg) : mg "UNSAID" = some (.ref (He.ga K "UNSAID")) := T.glo 67 rfl
theorem Txt.g_GATES (T : Txt w K mg) : mg "GATES" = some (.ref (He.ga K "GATES")) := T.glo 68 rfl
theorem Txt.g_ASSERTED (T : Txt w K mg) : mg "ASSERTED" = some (.ref (He.ga K "ASSERTED")) := T.glo 69 rfl
theorem Txt.n_isinstance (T : Txt w K mg) : mg "isinstance" = none := T.free 70 rfl
theorem Txt.n_len (T : Txt w K mg) : mg "len" = none := T.free 71 rfl
theorem Txt.n_all (T : Txt w K mg) : mg "all" = none := T.free 72 rfl
theorem Txt.n_str (T : Txt w K mg) : mg "str" = none := T.free 73 rfl
theorem Txt.n_tuple (T : Txt w K mg) : mg "tuple" = none := T.free 74 rfl
theorem Txt.n_zip (T : Txt w K mg) : mg "zip" = none := T.free 75 rfl
theorem Txt.n_sum (T : Txt w K mg) : mg "sum" = none := T.free 76 rfl
theorem Txt.n_enumerate (T : Txt w K mg) : mg "enumerate" = none := T.free 77 rfl
theorem Txt.n_list (T : Txt w K mg) : mg "list" = none := T.free 78 rfl
theorem Txt.n_range (T : Txt w K mg) : mg "range" = none := T.free 79 rfl
theorem Txt.n_super (T : Txt w K mg) : mg "super" = none := T.free 80 rfl
theorem Txt.n_int (T : Txt w K mg) : mg "int" = none := T.free 81 rfl
theorem Txt.n_bool (T : Txt w K mg) : mg "bool" = none := T.free 82 rfl
theorem Txt.int_ (T : Txt w K mg) (i : Nat) {x : Str} {n : Int} (h : faAll[i]? = some (.int x n)) : ∃ t, mg x = some (.int n t) := by
  have c2 : (match PySem.W.nsIn K mainGlobals x with
    | some (some (.int j _)) => decide (j = n)
    | _ => false) = true := T.fact i h
  cases e : PySem.W.nsIn K mainGlobals x with
  | none =>
    rw [e] at c2
    cases c2
  | some o =>
    rw [e] at c2
    cases o with
    | none => cases c2
    | some v =>
      cases v with
      | int j t =>
        have ej : j = n := of_decide_eq_true c2
        rw [ej] at e
        exact ⟨t, T.g x _ e⟩
      | _ => cases c2
theorem Txt.str_ (T : Txt w K mg) (i : Nat) {x z : Str} (h : faAll[i]? = some (.str x z)) : ∃ t, mg x = some (.str z t) := by
  have c2 : (match PySem.W.nsIn K mainGlobals x with
    | some (some (.str y _)) => decide (y = z)
    | _ => false) = true := T.fact i h
  cases e : PySem.W.nsIn K mainGlobals x with
  | none =>
    rw [e] at c2
    cases c2
  | some o =>
    rw [e] at c2
    cases o with
    | none => cases c2
    | some v =>
      cases v with
      | str y t =>
        have ej : y = z := of_decide_eq_true c2
        rw [ej] at e
        exact ⟨t, T.g x _ e⟩
      | _ => cases c2
theorem Txt.i_MOST_LETTERS (T : Txt w K mg) : ∃ t, mg "MOST_LETTERS" = some (.int 8 t) := T.int_ 83 rfl
theorem Txt.i_MOST_KEYS (T : Txt w K mg) : ∃ t, mg "MOST_KEYS" = some (.int 4 t) := T.int_ 84 rfl
theorem Txt.i_MOST_THINGS (T : Txt w K mg) : ∃ t, mg "MOST_THINGS" = some (.int 8 t) := T.int_ 85 rfl
theorem Txt.i_MOST_LOOKS (T : Txt w K mg) : ∃ t, mg "MOST_LOOKS" = some (.int 6 t) := T.int_ 86 rfl
theorem Txt.i_MOST_PARTS (T : Txt w K mg) : ∃ t, mg "MOST_PARTS" = some (.int 5 t) := T.int_ 87 rfl
theorem Txt.i_MOST_ROWS (T : Txt w K mg) : ∃ t, mg "MOST_ROWS" = some (.int 60 t) := T.int_ 88 rfl
theorem Txt.i_MOST_BLOCKS (T : Txt w K mg) : ∃ t, mg "MOST_BLOCKS" = some (.int 8 t) := T.int_ 89 rfl
theorem Txt.s_LETTERS (T : Txt w K mg) : ∃ t, mg "LETTERS" = some (.str "abcdefghijklmnopqrstuvwxyz" t) := T.str_ 90 rfl
theorem Txt.cls_Thing (T : Txt w K mg) : Cls K (He.ga K "Thing") := He.cls_ok (T.fact 91 rfl)
theorem Txt.mk_Thing (T : Txt w K mg) : Mk K (He.ga K "Thing") (He.ma K (He.ga K "Thing") "__init__") := He.mkr_ok (T.fact 92 rfl)
theorem Txt.na_Thing_kind (T : Txt w K mg) : NoAttr K (He.ga K "Thing") "kind" := He.noat_ok (T.fact 93 rfl)
theorem Txt.na_Thing_name (T : Txt w K mg) : NoAttr K (He.ga K "Thing") "name" := He.noat_ok (T.fact 94 rfl)
theorem Txt.na_Thing_parts (T : Txt w K mg) : NoAttr K (He.ga K "Thing") "parts" := He.noat_ok (T.fact 95 rfl)
theorem Txt.cls_Program (T : Txt w K mg) : Cls K (He.ga K "Program") := He.cls_ok (T.fact 96 rfl)
theorem Txt.mk_Program (T : Txt w K mg) : Mk K (He.ga K "Program") (He.ma K (He.ga K "Program") "__init__") := He.mkr_ok (T.fact 97 rfl)
theorem Txt.na_Program_things (T : Txt w K mg) : NoAttr K (He.ga K "Program") "things" := He.noat_ok (T.fact 98 rfl)
theorem Txt.na_Program_parts (T : Txt w K mg) : NoAttr K (He.ga K "Program") "parts" := He.noat_ok (T.fact 99 rfl)
theorem Txt.na_Program_rows (T : Txt w K mg) : NoAttr K (He.ga K "Program") "rows" := He.noat_ok (T.fact 100 rfl)
theorem Txt.na_Program_probes (T : Txt w K mg) : NoAttr K (He.ga K "Program") "probes" := He.noat_ok (T.fact 101 rfl)
theorem Txt.na_Program_asserts (T : Txt w K mg) : NoAttr K (He.ga K "Program") "asserts" := He.noat_ok (T.fact 102 rfl)
theorem Txt.na_Program_begins (T : Txt w K mg) : NoAttr K (He.ga K "Program") "begins" := He.noat_ok (T.fact 103 rfl)
theorem Txt.na_Program_onward (T : Txt w K mg) : NoAttr K (He.ga K "Program") "onward" := He.noat_ok (T.fact 104 rfl)
theorem Txt.na_Program_otherwise (T : Txt w K mg) : NoAttr K (He.ga K "Program") "otherwise" := He.noat_ok (T.fact 105 rfl)
theorem Txt.ex_BadRow_BadRow (T : Txt w K mg) : PySem.W.exmOne K (.ref (He.ga K "BadRow")) (.ref (He.ga K "BadRow")) = some true := He.exm_ok (T.fact 106 rfl)
theorem Txt.ex_NoThing_BadRow (T : Txt w K mg) : PySem.W.exmOne K (.ref (He.ga K "NoThing")) (.ref (He.ga K "BadRow")) = some false := He.exm_ok (T.fact 107 rfl)
theorem Txt.ex_NoThing_NoThing (T : Txt w K mg) : PySem.W.exmOne K (.ref (He.ga K "NoThing")) (.ref (He.ga K "NoThing")) = some true := He.exm_ok (T.fact 108 rfl)
theorem Txt.ex_NoKey_BadRow (T : Txt w K mg) : PySem.W.exmOne K (.ref (He.ga K "NoKey")) (.ref (He.ga K "BadRow")) = some false := He.exm_ok (T.fact 109 rfl)
theorem Txt.ex_NoKey_NoThing (T : Txt w K mg) : PySem.W.exmOne K (.ref (He.ga K "NoKey")) (.ref (He.ga K "NoThing")) = some false := He.exm_ok (T.fact 110 rfl)
theorem Txt.ex_NoKey_NoKey (T : Txt w K mg) : PySem.W.exmOne K (.ref (He.ga K "NoKey")) (.ref (He.ga K "NoKey")) = some true := He.exm_ok (T.fact 111 rfl)
theorem Txt.ex_Twice_BadRow (T : Txt w K mg) : PySem.W.exmOne K (.ref (He.ga K "Twice")) (.ref (He.ga K "BadRow")) = some false := He.exm_ok (T.fact 112 rfl)
theorem Txt.ex_Twice_NoThing (T : Txt w K mg) : PySem.W.exmOne K (.ref (He.ga K "Twice")) (.ref (He.ga K "NoThing")) = some false := He.exm_ok (T.fact 113 rfl)
theorem Txt.ex_Twice_NoKey (T : Txt w K mg) : PySem.W.exmOne K (.ref (He.ga K "Twice")) (.ref (He.ga K "NoKey")) = some false := He.exm_ok (T.fact 114 rfl)
theorem Txt.ex_Twice_Twice (T : Txt w K mg) : PySem.W.exmOne K (.ref (He.ga K "Twice")) (.ref (He.ga K "Twice")) = some true := He.exm_ok (T.fact 115 rfl)
theorem Txt.ex_NoPart_BadRow (T : Txt w K mg) : PySem.W.exmOne K (.ref (He.ga K "NoPart")) (.ref (He.ga K "BadRow")) = some false := He.exm_ok (T.fact 116 rfl)
theorem Txt.ex_NoPart_NoThing (T : Txt w K mg) : PySem.W.exmOne K (.ref (He.ga K "NoPart")) (.ref (He.ga K "NoThing")) = some false := He.exm_ok (T.fact 117 rfl)
theorem Txt.ex_NoPart_NoKey (T : Txt w K mg) : PySem.W.exmOne K (.ref (He.ga K "NoPart")) (.ref (He.ga K "NoKey")) = some false := He.exm_ok (T.fact 118 rfl)
theorem Txt.ex_NoPart_Twice (T : Txt w K mg) : PySem.W.exmOne K (.ref (He.ga K "NoPart")) (.ref (He.ga K "Twice")) = some false := He.exm_ok (T.fact 119 rfl)
theorem Txt.ex_NoPart_NoPart (T : Txt w K mg) : PySem.W.exmOne K (.ref (He.ga K "NoPart")) (.ref (He.ga K "NoPart")) = some true := He.exm_ok (T.fact 120 rfl)
theorem Txt.ex_Unmatched_BadRow (T : Txt w K mg) : PySem.W.exmOne K (.ref (He.ga K "Unmatched")) (.ref (He.ga K "BadRow")) = some false := He.exm_ok (T.fact 121 rfl)
theorem Txt.ex_Unmatched_NoThing (T : Txt w K mg) : PySem.W.exmOne K (.ref (He.ga K "Unmatched")) (.ref (He.ga K "NoThing")) = some false := He.exm_ok (T.fact 122 rfl)
theorem Txt.ex_Unmatched_NoKey (T : Txt w K mg) : PySem.W.exmOne K (.ref (He.ga K "Unmatched")) (.ref (He.ga K "NoKey")) = some false := He.exm_ok (T.fact 123 rfl)
theorem Txt.ex_Unmatched_Twice (T : Txt w K mg) : PySem.W.exmOne K (.ref (He.ga K "Unmatched")) (.ref (He.ga K "Twice")) = some false := He.exm_ok (T.fact 124 rfl)
theorem Txt.ex_Unmatched_NoPart (T : Txt w K mg) : PySem.W.exmOne K (.ref (He.ga K "Unmatched")) (.ref (He.ga K "NoPart")) = some false := He.exm_ok (T.fact 125 rfl)
theorem Txt.ex_Unmatched_Unmatched (T : Txt w K mg) : PySem.W.exmOne K (.ref (He.ga K "Unmatched")) (.ref (He.ga K "Unmatched")) = some true := He.exm_ok (T.fact 126 rfl)
theorem Txt.ex_TooMany_BadRow (T : Txt w K mg) : PySem.W.exmOne K (.ref (He.ga K "TooMany")) (.ref (He.ga K "BadRow")) = some false := He.exm_ok (T.fact 127 rfl)
theorem Txt.ex_TooMany_NoThing (T : Txt w K mg) : PySem.W.exmOne K (.ref (He.ga K "TooMany")) (.ref (He.ga K "NoThing")) = some false := He.exm_ok (T.fact 128 rfl)
theorem Txt.ex_TooMany_NoKey (T : Txt w K mg) : PySem.W.exmOne K (.ref (He.ga K "TooMany")) (.ref (He.ga K "NoKey")) = some false := He.exm_ok (T.fact 129 rfl)
theorem Txt.ex_TooMany_Twice (T : Txt w K mg) : PySem.W.exmOne K (.ref (He.ga K "TooMany")) (.ref (He.ga K "Twice")) = some false := He.exm_ok (T.fact 130 rfl)
theorem Txt.ex_TooMany_NoPart (T : Txt w K mg) : PySem.W.exmOne K (.ref (He.ga K "TooMany")) (.ref (He.ga K "NoPart")) = some false := He.exm_ok (T.fact 131 rfl)
theorem Txt.ex_TooMany_Unmatched (T : Txt w K mg) : PySem.W.exmOne K (.ref (He.ga K "TooMany")) (.ref (He.ga K "Unmatched")) = some false := He.exm_ok (T.fact 132 rfl)
theorem Txt.ex_TooMany_TooMany (T : Txt w K mg) : PySem.W.exmOne K (.ref (He.ga K "TooMany")) (.ref (He.ga K "TooMany")) = some true := He.exm_ok (T.fact 133 rfl)
theorem Txt.t_DEEDS (T : Txt w K mg) : tabB K (He.ga K "DEEDS") deeds_ = true := T.exb 0 rfl
theorem Txt.t_PLAIN (T : Txt w K mg) : tabB K (He.ga K "PLAIN") plain_ = true := T.exb 1 rfl
theorem Txt.t_FREE (T : Txt w K mg) (H : Hp) : SqT K H (He.ga K "FREE") (free_.map V.str) := by
  have h := He.tupB_ok (T.exb 2 rfl : tupTs K "FREE" free_ = true) H
  rw [List.map_map] at h
  exact h
theorem Txt.t_LOOKS (T : Txt w K mg) (H : Hp) : SqT K H (He.ga K "LOOKS") (looks_.map V.str) := by
  have h := He.tupB_ok (T.exb 3 rfl : tupTs K "LOOKS" looks_ = true) H
  rw [List.map_map] at h
  exact h
theorem Txt.t_UNSAID (T : Txt w K mg) (H : Hp) : SqT K H (He.ga K "UNSAID") (unsaid_.map V.str) := by
  have h := He.tupB_ok (T.exb 4 rfl : tupTs K "UNSAID" unsaid_ = true) H
  rw [List.map_map] at h
  exact h
theorem Txt.t_GATES (T : Txt w K mg) (H : Hp) : SqT K H (He.ga K "GATES") (gates_.map V.str) := by
  have h := He.tupB_ok (T.exb 5 rfl : tupTs K "GATES" gates_ = true) H
  rw [List.map_map] at h
  exact h
theorem Txt.t_ASSERTED (T : Txt w K mg) (H : Hp) : SqT K H (He.ga K "ASSERTED") (asserted_.map V.str) := by
  have h := He.tupB_ok (T.exb 6 rfl : tupTs K "ASSERTED" asserted_ = true) H
  rw [List.map_map] at h
  exact h
theorem Txt.sm_feed (T : Txt w K mg) : ∃ p, SMet K (He.ga K "Thing") (.type "type") "feed" p (stA K "Thing" "feed") := sttB_ok (T.exb 7 rfl) T.kps_Thing_feed
theorem Txt.sm_dice (T : Txt w K mg) : ∃ p, SMet K (He.ga K "Thing") (.type "type") "dice" p (stA K "Thing" "dice") := sttB_ok (T.exb 8 rfl) T.kps_Thing_dice
theorem Txt.sm_source (T : Txt w K mg) : ∃ p, SMet K (He.ga K "Thing") (.type "type") "source" p (stA K "Thing" "source") := sttB_ok (T.exb 9 rfl) T.kps_Thing_source
theorem Txt.sm_flag (T : Txt w K mg) : ∃ p, SMet K (He.ga K "Thing") (.type "type") "flag" p (stA K "Thing" "flag") := sttB_ok (T.exb 10 rfl) T.kps_Thing_flag
theorem Txt.sm_slot (T : Txt w K mg) : ∃ p, SMet K (He.ga K "Thing") (.type "type") "slot" p (stA K "Thing" "slot") := sttB_ok (T.exb 11 rfl) T.kps_Thing_slot
theorem Txt.sm_field (T : Txt w K mg) : ∃ p, SMet K (He.ga K "Thing") (.type "type") "field" p (stA K "Thing" "field") := sttB_ok (T.exb 12 rfl) T.kps_Thing_field
theorem Txt.sm_table (T : Txt w K mg) : ∃ p, SMet K (He.ga K "Thing") (.type "type") "table" p (stA K "Thing" "table") := sttB_ok (T.exb 13 rfl) T.kps_Thing_table
theorem Txt.cr_Thing (T : Txt w K mg) : ClX.CRead K (He.ga K "Thing") (.type "type") := ⟨T.exb 14 rfl, He.eqO_ok (T.exb 15 rfl)⟩
theorem Txt.third (T : Txt w K mg) : PySem.W.nsIn K cStatics "thirdparty.any" = some none := He.eqO_ok (T.exb 16 rfl)
theorem Txt.er_BadRow (T : Txt w K mg) : errB K "BadRow" "number" = true := T.exb 17 rfl
theorem Txt.er_NoThing (T : Txt w K mg) : errB K "NoThing" "name" = true := T.exb 18 rfl
theorem Txt.er_NoKey (T : Txt w K mg) : errB K "NoKey" "key" = true := T.exb 19 rfl
theorem Txt.er_NoPart (T : Txt w K mg) : errB K "NoPart" "name" = true := T.exb 20 rfl
theorem Txt.er_Twice (T : Txt w K mg) : errB K "Twice" "name" = true := T.exb 21 rfl
theorem Txt.er_Unmatched (T : Txt w K mg) : errB K "Unmatched" "number" = true := T.exb 22 rfl
theorem Txt.er_TooMany (T : Txt w K mg) : errB K "TooMany" "limit" = true := T.exb 23 rfl
theorem Txt.df_Thing (T : Txt w K mg) : (match K.lookup (dfA K "Thing" "__init__" 0) with | some ⟨.type c, _, .seq its _, _⟩ => decide (c = "tuple") && its.isEmpty | _ => false) = true := T.exb 24 rfl
theorem Txt.eq_BadRow (T : Txt w K mg) : PySem.W.exmOne K (.ref (He.ga K "BadRow")) (.ref (He.ga K "QuietError")) = some true := of_decide_eq_true (T.exb 25 rfl)
theorem Txt.eq_NoThing (T : Txt w K mg) : PySem.W.exmOne K (.ref (He.ga K "NoThing")) (.ref (He.ga K "QuietError")) = some true := of_decide_eq_true (T.exb 26 rfl)
theorem Txt.eq_NoKey (T : Txt w K mg) : PySem.W.exmOne K (.ref (He.ga K "NoKey")) (.ref (He.ga K "QuietError")) = some true := of_decide_eq_true (T.exb 27 rfl)
theorem Txt.eq_NoPart (T : Txt w K mg) : PySem.W.exmOne K (.ref (He.ga K "NoPart")) (.ref (He.ga K "QuietError")) = some true := of_decide_eq_true (T.exb 28 rfl)
theorem Txt.eq_Twice (T : Txt w K mg) : PySem.W.exmOne K (.ref (He.ga K "Twice")) (.ref (He.ga K "QuietError")) = some true := of_decide_eq_true (T.exb 29 rfl)
theorem Txt.eq_Unmatched (T : Txt w K mg) : PySem.W.exmOne K (.ref (He.ga K "Unmatched")) (.ref (He.ga K "QuietError")) = some true := of_decide_eq_true (T.exb 30 rfl)
theorem Txt.eq_TooMany (T : Txt w K mg) : PySem.W.exmOne K (.ref (He.ga K "TooMany")) (.ref (He.ga K "QuietError")) = some true := of_decide_eq_true (T.exb 31 rfl)
theorem Txt.fx_BadRow (T : Txt w K mg) : fnX K (He.ma K (He.ga K "BadRow") "__init__") = (some ((("__init__" : Str), ("BadRow.__init__" : Str), defArgs s_BadRow, FuncBody.stmts (defBody s_BadRow), defScope s_BadRow, mainGlobals, [("__class__" : Str)], builtinsNs)) : FnX) := T.fnx 62 rfl
theorem Txt.dx_BadRow (T : Txt w K mg) : ∃ d : DefX, d.adr = (fun K => He.ma K (He.ga K "BadRow") "__init__") ∧ d.qual = "BadRow.__init__" ∧ d.ok K = true := ⟨_, rfl, rfl, T.dok 62 (d := { adr := fun K => He.ma K (He.ga K "BadRow") "__init__", name := "__init__", qual := "BadRow.__init__", params := defArgs s_BadRow, body := defBody s_BadRow, scope := defScope s_BadRow, clo := ["__class__"] }) rfl⟩
theorem Txt.fx_NoThing (T : Txt w K mg) : fnX K (He.ma K (He.ga K "NoThing") "__init__") = (some ((("__init__" : Str), ("NoThing.__init__" : Str), defArgs s_NoThing, FuncBody.stmts (defBody s_NoThing), defScope s_NoThing, mainGlobals, [("__class__" : Str)], builtinsNs)) : FnX) := T.fnx 63 rfl
theorem Txt.dx_NoThing (T : Txt w K mg) : ∃ d : DefX, d.adr = (fun K => He.ma K (He.ga K "NoThing") "__init__") ∧ d.qual = "NoThing.__init__" ∧ d.ok K = true := ⟨_, rfl, rfl, T.dok 63 (d := { adr := fun K => He.ma K (He.ga K "NoThing") "__init__", name := "__init__", qual := "NoThing.__init__", params := defArgs s_NoThing, body := defBody s_NoThing, scope := defScope s_NoThing, clo := ["__class__"] }) rfl⟩
theorem Txt.fx_NoKey (T : Txt w K mg) : fnX K (He.ma K (He.ga K "NoKey") "__init__") = (some ((("__init__" : Str), ("NoKey.__init__" : Str), defArgs s_NoKey, FuncBody.stmts (defBody s_NoKey), defScope s_NoKey, mainGlobals, [("__class__" : Str)], builtinsNs)) : FnX) := T.fnx 64 rfl
theorem Txt.dx_NoKey (T : Txt w K mg) : ∃ d : DefX, d.adr = (fun K => He.ma K (He.ga K "NoKey") "__init__") ∧ d.qual = "NoKey.__init__" ∧ d.ok K = true := ⟨_, rfl, rfl, T.dok 64 (d := { adr := fun K => He.ma K (He.ga K "NoKey") "__init__", name := "__init__", qual := "NoKey.__init__", params := defArgs s_NoKey, body := defBody s_NoKey, scope := defScope s_NoKey, clo := ["__class__"] }) rfl⟩
theorem Txt.fx_NoPart (T : Txt w K mg) : fnX K (He.ma K (He.ga K "NoPart") "__init__") = (some ((("__init__" : Str), ("NoPart.__init__" : Str), defArgs s_NoPart, FuncBody.stmts (defBody s_NoPart), defScope s_NoPart, mainGlobals, [("__class__" : Str)], builtinsNs)) : FnX) := T.fnx 65 rfl
theorem Txt.dx_NoPart (T : Txt w K mg) : ∃ d : DefX, d.adr = (fun K => He.ma K (He.ga K "NoPart") "__init__") ∧ d.qual = "NoPart.__init__" ∧ d.ok K = true := ⟨_, rfl, rfl, T.dok 65 (d := { adr := fun K => He.ma K (He.ga K "NoPart") "__init__", name := "__init__", qual := "NoPart.__init__", params := defArgs s_NoPart, body := defBody s_NoPart, scope := defScope s_NoPart, clo := ["__class__"] }) rfl⟩
theorem Txt.fx_Twice (T : Txt w K mg) : fnX K (He.ma K (He.ga K "Twice") "__init__") = (some ((("__init__" : Str), ("Twice.__init__" : Str), defArgs s_Twice, FuncBody.stmts (defBody s_Twice), defScope s_Twice, mainGlobals, [("__class__" : Str)], builtinsNs)) : FnX) := T.fnx 66 rfl
theorem Txt.dx_Twice (T : Txt w K mg) : ∃ d : DefX, d.adr = (fun K => He.ma K (He.ga K "Twice") "__init__") ∧ d.qual = "Twice.__init__" ∧ d.ok K = true := ⟨_, rfl, rfl, T.dok 66 (d := { adr := fun K => He.ma K (He.ga K "Twice") "__init__", name := "__init__", qual := "Twice.__init__", params := defArgs s_Twice, body := defBody s_Twice, scope := defScope s_Twice, clo := ["__class__"] }) rfl⟩
theorem Txt.fx_Unmatched (T : Txt w K mg) : fnX K (He.ma K (He.ga K "Unmatched") "__init__") = (some ((("__init__" : Str), ("Unmatched.__init__" : Str), defArgs s_Unmatched, FuncBody.stmts (defBody s_Unmatched), defScope s_Unmatched, mainGlobals, [("__class__" : Str)], builtinsNs)) : FnX) := T.fnx 67 rfl
theorem Txt.dx_Unmatched (T : Txt w K mg) : ∃ d : DefX, d.adr = (fun K => He.ma K (He.ga K "Unmatched") "__init__") ∧ d.qual = "Unmatched.__init__" ∧ d.ok K = true := ⟨_, rfl, rfl, T.dok 67 (d := { adr := fun K => He.ma K (He.ga K "Unmatched") "__init__", name := "__init__", qual := "Unmatched.__init__", params := defArgs s_Unmatched, body := defBody s_Unmatched, scope := defScope s_Unmatched, clo := ["__class__"] }) rfl⟩
theorem Txt.fx_TooMany (T : Txt w K mg) : fnX K (He.ma K (He.ga K "TooMany") "__init__") = (some ((("__init__" : Str), ("TooMany.__init__" : Str), defArgs s_TooMany, FuncBody.stmts (defBody s_TooMany), defScope s_TooMany, mainGlobals, [("__class__" : Str)], builtinsNs)) : FnX) := T.fnx 68 rfl
theorem Txt.dx_TooMany (T : Txt w K mg) : ∃ d : DefX, d.adr = (fun K => He.ma K (He.ga K "TooMany") "__init__") ∧ d.qual = "TooMany.__init__" ∧ d.ok K = true := ⟨_, rfl, rfl, T.dok 68 (d := { adr := fun K => He.ma K (He.ga K "TooMany") "__init__", name := "__init__", qual := "TooMany.__init__", params := defArgs s_TooMany, body := defBody s_TooMany, scope := defScope s_TooMany, clo := ["__class__"] }) rfl⟩
end
end Q7
set_option maxHeartbeats 0
/-! the run of the top, by the kernel; twice, by the answer of one row -/
namespace Q7
open PySem PySem.W PySem.Calls PyProof.Rows
abbrev RR : OpenRow := OpenLaw.row PySem.Challenge.rw_quietprobes_k26_whole_first_wrong_row
abbrev qv : Program := view RR.prog [99]
def names0 : List PySem.Str := ["_wall", "QuietError", "BadName", "BadRow", "BadPlace", "BadText", "NoThing", "NoKey", "NoPart", "NoRow", "NoProbe", "Twice", "Unmatched", "TooMany", "LETTERS", "MOST_LETTERS", "MOST_KEYS", "MOST_THINGS", "is_name", "need_names", "need_unlike", "Thing", "need_things", "read_thing", "MOST_ITEMS", "FREE", "DEEDS", "LOOKS", "UNSAID", "PLAIN"]
def names1 : List PySem.Str := ["look_codes", "row_codes", "branch_codes", "is_integer", "head", "suits", "fits", "need_known", "GATES", "ASSERTED", "MOST_LOOKS", "is_look", "is_looks", "is_watcher", "is_row", "is_probe", "named", "looks_text", "row_text", "read_looks", "read_watcher", "read_row", "MOST_PARTS", "MOST_ROWS", "MOST_BLOCKS", "need_row", "opened_behind", "need_parts", "jumps_of", "read_part"]
def names2 : List PySem.Str := ["Program", "_law_draw", "_law_words", "_law_word", "_law_thing", "_law_is_name", "_law_are_names", "_law_is_look", "_law_is_watcher", "_law_size_of", "_law_is_row", "_law_all_rows", "_law_wide_probe", "_law_pool", "_law_names", "_law_things", "_law_kinds", "_law_wide_rows", "_law_wide_parts", "_law_same", "_law_try", "_law_wide_look", "_law_wide_deed", "_law_wide_test", "_law_wide_program", "_law_kind_of", "_law_wrong_name", "_law_wrong_row", "_law_due", "_law_other_name"]
def names3 : List PySem.Str := ["_law_other_names", "_law_odd_row"]
def names : List PySem.Str := names0 ++ (names1 ++ (names2 ++ (names3)))
def obT (s : SharedT) : AlQ := obsQ (frX (HandSHeadRun.getT s))
theorem obT_eq (s : SharedT) : obT s = hookQ.obs s.abs := by
  have e : HandSHeadRun.getT s = s.abs.heap.get? := funext (HandSHeadRun.getT_eq s)
  show obsQ (frX (HandSHeadRun.getT s)) = obsQ (frX s.abs.heap.get?)
  rw [e]
abbrev RunP (w : World) : Prop := HandSHeadRun.RunEq RR qv hookQ obT 20000 names w
theorem runF (w : World) : RunP (w.withFollow "special-get-raises" false) := by
  intro os
  kernel_rfl
theorem runT (w : World) : RunP (w.withFollow "special-get-raises" true) := by
  intro os
  kernel_rfl
theorem run (w : World) : RunP w := byRow2 "special-get-raises" runF runT w
end Q7
set_option maxHeartbeats 4000000
/-! calls of the text's defs; what a walk gives; comprehensions by filter and map -/
namespace Q7
open PySem PySem.Spec PyProof.Rows L2 Evl
theorem bo_isinstance : bootBuiltins "isinstance" = some (.builtin "isinstance") := by decide +kernel
theorem bo_all : bootBuiltins "all" = some (.builtin "all") := by decide +kernel
theorem bo_sum : bootBuiltins "sum" = some (.builtin "sum") := by decide +kernel
theorem bo_tuple : bootBuiltins "tuple" = some (.type "tuple") := by decide +kernel
theorem bo_list : bootBuiltins "list" = some (.type "list") := by decide +kernel
theorem bo_int : bootBuiltins "int" = some (.type "int") := by decide +kernel
theorem bo_str : bootBuiltins "str" = some (.type "str") := by decide +kernel
theorem bo_bool : bootBuiltins "bool" = some (.type "bool") := by decide +kernel
/-! ### a def, as callers see it -/
structure Dn (P : Program) (w : World) (K : PySem.W.Frag) (mg : Str → Option Value) (base : Heap) (CX : CXT) (k : Nat) (x : Str) (sp : Sp) : Prop where
  run : FnR P w K mg base CX k (He.ga K x) sp
  at_ : mg x = some (.ref (He.ga K x))
  kp : PySem.W.keepIn K (.ref (He.ga K x)) = true
def tCallR (sp : Sp) (E : XK) (t : TA) : TE := fun σ H Q => t σ H fun vs H1 => sp vs H1 Q E
section
variable {X : Cx} {CX : CXT} {k : Nat} {x : Str} {sp : Sp} {E : XK} {p pos : Pos} {e : Expr} {es : List Expr} {t : TA}
theorem pe_d (D : Dn X.prog X.w X.K X.mg X.base CX k x sp) (hr : Room k X.A) (hg : Gl X x) (hx : Passes CX X E) (ha : PA X (e :: es) t) (hdb : (x == ("__debug__" : Str)) = false := by decide)
    (he : starEach (e :: es) X.env = (false, eval e X.env) :: starEach es X.env := by rfl) (hpl : (backTo pos (starEach es X.env)).any (·.1) = false := by rfl) :
    PE X (.Call (.Name x p) (e :: es) [] pos) (tCallR sp E t) := by
  refine ⟨fun pins s σ H Q I h => ?_⟩
  refine wpAny_Call_Name_kw (ld_glob I hg D.at_ ?_ hdb)
  refine PySem.W.callWith_K (h₀ := X.base) I.ok.mod.kin D.kp (thn (ha.run pos pins s σ H _ I h) fun us s1 ⟨vs, H1, I1, r, q⟩ => ⟨I1.kIn, ?_⟩) he hpl
  exact wpAny_call (run_fnR D.run hr hx I1 r q)
/-- a raising def, called where the suite or def takes W -/
theorem pe_dx {W : WX} (D : Dn X.prog X.w X.K X.mg X.base (L2.CX X.prog X.w) k x sp) (hr : Room k X.A) (hg : Gl X x) (tk : Takes X W) (hW : ∀ cls d σ H, E cls d H → W cls d σ H) (ha : PA X (e :: es) t) (hdb : (x == ("__debug__" : Str)) = false := by decide)
    (he : starEach (e :: es) X.env = (false, eval e X.env) :: starEach es X.env := by rfl) (hpl : (backTo pos (starEach es X.env)).any (·.1) = false := by rfl) :
    PE X (.Call (.Name x p) (e :: es) [] pos) (tCallR sp E t) := pe_d D hr hg (passes_call tk hW) ha hdb he hpl
end
section
variable {P : Program} {w : World} {K : PySem.W.Frag} {mg : Str → Option Value} {base : Heap} {CX : CXT} {k : Nat} {x : Str} {sp sp' : Sp}
theorem Dn.imp (D : Dn P w K mg base CX k x sp) (h : ∀ vs H Q E, sp' vs H Q E → sp vs H Q E) : Dn P w K mg base CX k x sp' := ⟨D.run.imp h, D.at_, D.kp⟩
theorem Dn.mono {j : Nat} (D : Dn P w K mg base CX j x sp) (h : j ≤ k) : Dn P w K mg base CX k x sp := ⟨D.run.mono h, D.at_, D.kp⟩
/-- from the body -/
theorem mkD {N ps : List Str} {st : Stmt} (hf : ∃ fd, FunD K x x (defArgs st) (defBody st) (defScope st) [] [] (He.ga K x) fd) (at_ : mg x = some (.ref (He.ga K x))) (kp : PySem.W.keepIn K (.ref (He.ga K x)) = true) (S : FnScope N ps (defScope st))
    (hb : ∀ (kV doc pm : Value) (an : Option Addr) (cdv ct : Value) (us : List Value), us.length = ps.length → bindArgs (PySem.W.fnOf x x (defArgs st) (defBody st) (defScope st) .none kV doc pm an cdv ct) ⟨us, []⟩ = pure (ps.zip us))
    (len : ∀ vs H Q E, sp vs H Q E → vs.length = ps.length)
    (hbody : ∀ (cdv : Value) (A : Around) (outer : List Env) (s : Shared) (H : Hp) (vs : List V) (Q : VK) (E : XK), Room k (A.deeper (envOfC x (defScope st) s.heap.objs.size (He.ga K x) cdv)) → sp vs H Q E →
      ∃ t, PSs (cxOf CX P w K mg base N x (defScope st) (He.ga K x) cdv A outer s H E) (defBody st) t ∧ t { nx := fun _ H' => Q .non H', rt := Q } (start N vs) H) : Dn P w K mg base CX (k + 1) x sp := by
  obtain ⟨fd, F⟩ := hf
  refine ⟨((F.ok S len hbody).raw (F.bindsN hb) .nil).imp fun vs H Q E h => ?_, at_, kp⟩
  rw [List.append_nil]
  exact h
/-- the same, where nothing is raised -/
theorem mkD0 {N ps : List Str} {st : Stmt} (hf : ∃ fd, FunD K x x (defArgs st) (defBody st) (defScope st) [] [] (He.ga K x) fd) (at_ : mg x = some (.ref (He.ga K x))) (kp : PySem.W.keepIn K (.ref (He.ga K x)) = true) (S : FnScope N ps (defScope st))
    (hb : ∀ (kV doc pm : Value) (an : Option Addr) (cdv ct : Value) (us : List Value), us.length = ps.length → bindArgs (PySem.W.fnOf x x (defArgs st) (defBody st) (defScope st) .none kV doc pm an cdv ct) ⟨us, []⟩ = pure (ps.zip us))
    (len : ∀ vs H Q E, sp vs H Q E → vs.length = ps.length)
    (hbody : ∀ (cdv : Value) (A : Around) (outer : List Env) (s : Shared) (H : Hp) (vs : List V) (Q : VK) (E : XK), Room k (A.deeper (envOfC x (defScope st) s.heap.objs.size (He.ga K x) cdv)) → sp vs H Q E →
      ∃ t, PSs (cxOf CX0 P w K mg base N x (defScope st) (He.ga K x) cdv A outer s H E).nox (defBody st) t ∧ t { nx := fun _ H' => Q .non H', rt := Q } (start N vs) H) : Dn P w K mg base CX0 (k + 1) x sp :=
  mkD hf at_ kp S hb len fun cdv A outer s H vs Q E hr h => by
    obtain ⟨t, ht, q⟩ := hbody cdv A outer s H vs Q E hr h
    exact ⟨t, ht.nox, q⟩
end
/-! ### evaluations -/
section
variable {K : PySem.W.Frag} {σ : L2.St} {H H' : Hp} {ta tb te tx tl : TE} {t u : TT} {x y z v : V}
theorem EvU.mono {xs : List V} (e : Ex H H') (h : EvU te σ H xs) : EvU te σ H' xs := fun H1 a Q q => h H1 (e.trans a) Q q
theorem ev_d {sp : Sp} {vs : List V} {E : XK} {ta : TA} (h : EvA ta σ H vs) (hs : ∀ H1, Ex H H1 → ∀ Q : VK, (∀ H2, Ex H1 H2 → Q z H2) → sp vs H1 Q E) : Ev (tCallR sp E ta) σ H z := fun H1 e Q q =>
  h H1 e _ fun H2 e2 => hs H2 (e.trans e2) Q fun H3 e3 => q H3 (e2.trans e3)
theorem el_d {sp : Sp} {vs xs : List V} {E : XK} {ta : TA} (h : EvA ta σ H vs) (hs : ∀ H1, Ex H H1 → ∀ Q : VK, (∀ p H2, H1 p = none → Ex H1 H2 → H2 p = some (.lst xs) → Q (.ref p) H2) → sp vs H1 Q E) : EvL (tCallR sp E ta) σ H xs := fun H1 e Q q =>
  h H1 e _ fun H2 e2 => hs H2 (e.trans e2) Q fun p H3 hp e3 h3 => q p H3 (fresh_back e2 hp) (e2.trans e3) h3
theorem eu_d {sp : Sp} {vs xs : List V} {E : XK} {ta : TA} (h : EvA ta σ H vs) (hs : ∀ H1, Ex H H1 → ∀ Q : VK, (∀ p H2, H1 p = none → Ex H1 H2 → H2 p = some (.tup xs) → Q (.ref p) H2) → sp vs H1 Q E) : EvU (tCallR sp E ta) σ H xs := fun H1 e Q q =>
  h H1 e _ fun H2 e2 => hs H2 (e.trans e2) Q fun p H3 hp e3 h3 => q p H3 (fresh_back e2 hp) (e2.trans e3) h3
/-- a call whose one argument is a new tuple | list -/
theorem ev_dU {sp : Sp} {xs : List V} {E : XK} (h : EvU te σ H xs) (hs : ∀ p H1, Ex H H1 → H1 p = some (.tup xs) → ∀ Q : VK, (∀ H2, Ex H1 H2 → Q z H2) → sp [.ref p] H1 Q E) : Ev (tCallR sp E (tCons te tNil)) σ H z := fun H1 e Q q =>
  h H1 e _ fun p H2 _ e2 hp => hs p H2 (e.trans e2) hp Q fun H3 e3 => q H3 (e2.trans e3)
theorem ev_dL {sp : Sp} {xs : List V} {E : XK} (h : EvL te σ H xs) (hs : ∀ p H1, Ex H H1 → H1 p = some (.lst xs) → ∀ Q : VK, (∀ H2, Ex H1 H2 → Q z H2) → sp [.ref p] H1 Q E) : Ev (tCallR sp E (tCons te tNil)) σ H z := fun H1 e Q q =>
  h H1 e _ fun p H2 _ e2 hp => hs p H2 (e.trans e2) hp Q fun H3 e3 => q H3 (e2.trans e3)
/-- len, by what the kit's rule asks -/
theorem ev_lenL {p : Addr} {xs : List V} (ha : Ev ta σ H (.ref p)) (h : SqL K H p xs) : Ev (tCB (fun xs H Q => ∃ p ys, xs = [.ref p] ∧ (SqL K H p ys ∨ SqT K H p ys) ∧ Q (.int ys.length) H) (tCons ta tNil)) σ H (.int (xs.length : Int)) := fun H1 e Q q =>
  ha H1 e _ fun H2 e2 => ⟨p, xs, rfl, Or.inl (ex_l (e.trans e2) h), q H2 e2⟩
theorem ev_lenT {p : Addr} {xs : List V} (ha : Ev ta σ H (.ref p)) (h : SqT K H p xs) : Ev (tCB (fun xs H Q => ∃ p ys, xs = [.ref p] ∧ (SqL K H p ys ∨ SqT K H p ys) ∧ Q (.int ys.length) H) (tCons ta tNil)) σ H (.int (xs.length : Int)) := fun H1 e Q q =>
  ha H1 e _ fun H2 e2 => ⟨p, xs, rfl, Or.inr (ex_t (e.trans e2) h), q H2 e2⟩
theorem ev_lenNL {xs : List V} (ha : EvL ta σ H xs) : Ev (tCB (fun xs H Q => ∃ p ys, xs = [.ref p] ∧ (SqL K H p ys ∨ SqT K H p ys) ∧ Q (.int ys.length) H) (tCons ta tNil)) σ H (.int (xs.length : Int)) := fun H1 e Q q =>
  ha H1 e _ fun p H2 _ e2 h2 => ⟨p, xs, rfl, Or.inl (sq_of h2), q H2 e2⟩
theorem ev_lenS {w : Str} (ha : Ev ta σ H (.str w)) (h : w.length ≤ 100000) : Ev (tCB (fun xs H Q => ∃ z, xs = [.str z] ∧ z.length ≤ sizeLine ∧ Q (.int z.length) H) (tCons ta tNil)) σ H (.int (w.length : Int)) := fun H1 e Q q =>
  ha H1 e _ fun H2 e2 => ⟨w, rfl, sz_of h, q H2 e2⟩
/-- tuple(xs) of a new list; list(..) -/
theorem eu_tupleL {xs : List V} (ha : EvL ta σ H xs) : EvU (tCB (fun xs H Q => ∃ p ys, xs = [.ref p] ∧ ((SqL K H p ys ∧ ∀ l, H l = none → Q (.ref l) (upd H l (.tup ys))) ∨ (SqT K H p ys ∧ Q (.ref p) H))) (tCons ta tNil)) σ H xs := fun H1 e Q q =>
  ha H1 e _ fun p H2 _ e2 h2 => ⟨p, xs, rfl, Or.inl ⟨sq_of h2, fun l hl => q l _ (fresh_back e2 hl) (e2.trans (Ex.new hl)) upd_same⟩⟩
theorem eu_tupleAL {p : Addr} {xs : List V} (ha : Ev ta σ H (.ref p)) (h : SqL K H p xs) : EvU (tCB (fun xs H Q => ∃ p ys, xs = [.ref p] ∧ ((SqL K H p ys ∧ ∀ l, H l = none → Q (.ref l) (upd H l (.tup ys))) ∨ (SqT K H p ys ∧ Q (.ref p) H))) (tCons ta tNil)) σ H xs := fun H1 e Q q =>
  ha H1 e _ fun H2 e2 => ⟨p, xs, rfl, Or.inl ⟨ex_l (e.trans e2) h, fun l hl => q l _ (fresh_back e2 hl) (e2.trans (Ex.new hl)) upd_same⟩⟩
theorem el_listT {p : Addr} {xs : List V} (ha : Ev ta σ H (.ref p)) (h : SqT K H p xs) : EvL (tCB (fun xs H Q => ∃ p ys, xs = [.ref p] ∧ (SqL K H p ys ∨ SqT K H p ys) ∧ ∀ l, H l = none → Q (.ref l) (upd H l (.lst ys))) (tCons ta tNil)) σ H xs := fun H1 e Q q =>
  ha H1 e _ fun H2 e2 => ⟨p, xs, rfl, Or.inr (ex_t (e.trans e2) h), fun l hl => q l _ (fresh_back e2 hl) (e2.trans (Ex.new hl)) upd_same⟩
theorem el_listL {p : Addr} {xs : List V} (ha : Ev ta σ H (.ref p)) (h : SqL K H p xs) : EvL (tCB (fun xs H Q => ∃ p ys, xs = [.ref p] ∧ (SqL K H p ys ∨ SqT K H p ys) ∧ ∀ l, H l = none → Q (.ref l) (upd H l (.lst ys))) (tCons ta tNil)) σ H xs := fun H1 e Q q =>
  ha H1 e _ fun H2 e2 => ⟨p, xs, rfl, Or.inl (ex_l (e.trans e2) h), fun l hl => q l _ (fresh_back e2 hl) (e2.trans (Ex.new hl)) upd_same⟩
/-- all(new list of bools) -/
theorem ev_all {bs : List Bool} (ha : EvL ta σ H (bs.map V.bl)) : Ev (tCB (rAll K) (tCons ta tNil)) σ H (.bl (bs.all id)) := fun H1 e Q q =>
  ha H1 e _ fun p H2 _ e2 h2 => ⟨p, bs, rfl, sq_of h2, q H2 e2⟩
theorem ev_sum {ns : List Int} (ha : EvL ta σ H (ns.map V.int)) : Ev (tCB (rSum K) (tCons ta tNil)) σ H (.int ns.sum) := fun H1 e Q q =>
  ha H1 e _ fun p H2 _ e2 h2 => ⟨p, ns, rfl, sq_of h2, q H2 e2⟩
/-- isinstance(x, c): c a built-in type's name (a written value), t the value's type -/
theorem ev_isi {tn : String} {b : Bool} {tx : Value} (hx : Ev ta σ H x) (hc : Ev tb σ H (.ty tn)) (ht : ∀ H1, Ex H H1 → TyX K H1 x tx) (hk : PySem.W.kitOne K tx (.type tn) = some b) : Ev (tCB (rIsi K) (tCons ta (tCons tb tNil))) σ H (.bl b) := fun H1 e Q q =>
  hx H1 e _ fun H2 e2 => hc H2 (e.trans e2) _ fun H3 e3 => ⟨x, .ty tn, tx, .type tn, b, rfl, .ty tn, ht H3 ((e.trans e2).trans e3), hk, q H3 (e2.trans e3)⟩
theorem ev_str_in {c : Nat} {w : Str} (ha : Ev ta σ H (.str ⟨#[c]⟩)) (hb : Ev tb σ H (.str w)) : Ev (tOp (fun x y H Q => ∃ (c : Nat) (z : Str), x = .str ⟨#[c]⟩ ∧ y = .str z ∧ Q (.bl (decide (c ∈ z.cps.toList))) H) ta tb) σ H (.bl (decide (c ∈ w.cps.toList))) := fun H1 e Q q =>
  ha H1 e _ fun H2 e2 => hb H2 (e.trans e2) _ fun H3 e3 => ⟨c, w, rfl, rfl, q H3 (e2.trans e3)⟩
theorem ev_str_ni {c : Nat} {w : Str} (ha : Ev ta σ H (.str ⟨#[c]⟩)) (hb : Ev tb σ H (.str w)) : Ev (tOp (fun x y H Q => ∃ (c : Nat) (z : Str), x = .str ⟨#[c]⟩ ∧ y = .str z ∧ Q (.bl (!decide (c ∈ z.cps.toList))) H) ta tb) σ H (.bl (!decide (c ∈ w.cps.toList))) := fun H1 e Q q =>
  ha H1 e _ fun H2 e2 => hb H2 (e.trans e2) _ fun H3 e3 => ⟨c, w, rfl, rfl, q H3 (e2.trans e3)⟩
/-- a < b <= c, ints -/
theorem ev_chain {f g : Int → Int → Bool} {i j l : Int} (ha : Ev ta σ H (.int i)) (hb : Ev tb σ H (.int j)) (hc : Ev te σ H (.int l)) :
    Ev (tChain (rI0 fun i j => .bl (f i j)) (rI0 fun i j => .bl (g i j)) ta tb te) σ H (.bl (f i j && g j l)) := fun H1 e Q q =>
  ha H1 e _ fun H2 e2 => hb H2 (e.trans e2) _ fun H3 e3 => ⟨i, j, rfl, rfl, f i j, rfl, by
    cases hf : f i j with
    | true =>
      rw [if_pos rfl]
      refine hc H3 ((e.trans e2).trans e3) _ fun H4 e4 => ⟨j, l, rfl, rfl, ?_⟩
      have z := q H4 ((e2.trans e3).trans e4)
      rw [hf, Bool.true_and] at z
      exact z
    | false =>
      rw [if_neg Bool.false_ne_true]
      have z := q H3 (e2.trans e3)
      rw [hf, Bool.false_and] at z
      exact z⟩
theorem et_tru {b : Bool} (h : Ev te σ H x) (hb : ∀ H1, Ex H H1 → TruV K x H1 b) : EvT (fun σ H Q => te σ H fun x H' => ∃ k, TruV K x H' k ∧ Q k H') σ H b := fun H1 e Q q =>
  h H1 e _ fun H2 e2 => ⟨b, hb H2 (e.trans e2), q H2 e2⟩
theorem truL {a : Addr} {xs : List V} (h : SqL K H a xs) : ∀ H1, Ex H H1 → TruV K (.ref a) H1 (!xs.isEmpty) := fun H1 e => Or.inl ⟨xs, ex_l e h, rfl⟩
theorem truT {a : Addr} {xs : List V} (h : SqT K H a xs) : ∀ H1, Ex H H1 → TruV K (.ref a) H1 (!xs.isEmpty) := fun H1 e => Or.inr (Or.inl ⟨xs, ex_t e h, rfl⟩)
/-! ### what a walk gives -/
def EvI (wi : TI) (σ : L2.St) (H : Hp) (xs : List V) : Prop := ∀ H1, Ex H H1 → ∀ R : It → Hp → Prop, (∀ J H2, Ex H1 H2 → Walk J xs.length (fun H3 => Ex H2 H3) (YAt xs) → R J H2) → wi σ H1 R
theorem ei_list {a : Addr} {xs : List V} (h : Ev tl σ H (.ref a)) (hx : SqL K H a xs) : EvI (iList K tl) σ H xs := fun H1 e R k =>
  h H1 e _ fun H2 e2 => ⟨a, rfl, ⟨xs, ex_l (e.trans e2) hx⟩, k _ H2 e2 (walk_list.mono (fun H3 e3 => ex_l ((e.trans e2).trans e3) hx) fun _ _ _ _ _ _ y => y)⟩
theorem ei_listN {xs : List V} (h : EvL tl σ H xs) : EvI (iList K tl) σ H xs := fun H1 e R k =>
  h H1 e _ fun p H2 _ e2 hp => ⟨p, rfl, ⟨xs, sq_of hp⟩, k _ H2 e2 (walk_list.mono (fun H3 e3 => sq_of (e3 p _ hp)) fun _ _ _ _ _ _ y => y)⟩
theorem ei_tup {a : Addr} {xs : List V} (h : Ev tl σ H (.ref a)) (hx : SqT K H a xs) : EvI (iTup K tl) σ H xs := fun H1 e R k =>
  h H1 e _ fun H2 e2 => ⟨a, rfl, ⟨xs, ex_t (e.trans e2) hx⟩, k _ H2 e2 (walk_tup.mono (fun H3 e3 => ex_t ((e.trans e2).trans e3) hx) fun _ _ _ _ _ _ y => y)⟩
theorem ei_tupN {xs : List V} (h : EvU tl σ H xs) : EvI (iTup K tl) σ H xs := fun H1 e R k =>
  h H1 e _ fun p H2 _ e2 hp => ⟨p, rfl, ⟨xs, st_of hp⟩, k _ H2 e2 (walk_tup.mono (fun H3 e3 => st_of (e3 p _ hp)) fun _ _ _ _ _ _ y => y)⟩
/-- a text's signs -/
def signs (z : Str) : List V := z.cps.toList.map fun c => .str ⟨#[c]⟩
theorem ei_str {z : Str} (h : Ev tl σ H (.str z)) : EvI (iStr tl) σ H (signs z) := fun H1 e R k =>
  h H1 e _ fun H2 e2 => ⟨z, rfl, k _ H2 e2 (by
    have hl : (signs z).length = z.cps.size := by simp [signs]
    rw [hl]
    refine (walk_str (z := z)).mono (fun _ _ => True.intro) fun i H3 v H4 hi _ y => ?_
    obtain ⟨e1, c, hc, hv⟩ := y
    refine ⟨e1, ?_⟩
    subst hv
    simp only [signs, List.getElem?_map, Array.getElem?_toList, hc, Option.map_some])⟩
theorem ei_rng {ta : TA} {n : Nat} (h : EvA ta σ H [.int (n : Int)]) (hn : n ≤ 100000) : EvI (iRng1 ta) σ H ((List.range n).map fun i => V.int (i : Nat)) := fun H1 e R k =>
  h H1 e _ fun H2 e2 => ⟨(n : Int), rfl, by omega, by omega, k _ H2 e2 (by
    have hl : ((List.range n).map fun i => V.int (i : Nat)).length = n := by simp
    rw [hl]
    refine (walk_range (lo := 0) (n := n)).mono (fun _ _ => True.intro) fun i H3 v H4 hi _ y => ?_
    obtain ⟨e1, hv⟩ := y
    refine ⟨e1, ?_⟩
    subst hv
    simp [hi])⟩
/-- [te for x in ..  if t] -/
theorem el_lc {wi : TI} {xs : List V} {j : Nat} {vs : List Nat} (p : V → Bool) (g : V → V) (h : EvI wi σ H xs) (hz : xs.length ≤ 50000) (hw : ∀ x, wipe ((wipe σ vs).set j (some x)) vs = wipe σ vs)
    (ht : ∀ x, x ∈ xs → EvT t ((wipe σ vs).set j (some x)) H (p x)) (he : ∀ x, x ∈ xs → p x = true → Ev te ((wipe σ vs).set j (some x)) H (g x)) : EvL (tLc wi (gName j) t te vs) σ H ((xs.filter p).map g) := fun H0 e Q q =>
  h H0 e _ fun J H1 e1 w Dl hD => by
    have aux : ∀ i H', i < xs.length → ∀ x, xs[i]? = some x → (H1 Dl = none ∧ Ex H1 H' ∧ H' Dl = some (.lst (((xs.take i).filter p).map g))) →
        t ((wipe σ vs).set j (some x)) H' fun b H3 => if b = true then te ((wipe σ vs).set j (some x)) H3 fun y H4 => ∃ acc, H4 Dl = some (.lst acc) ∧ acc.length < sizeLine ∧ (H1 Dl = none ∧ Ex H1 (upd H4 Dl (.lst (acc ++ [y]))) ∧ (upd H4 Dl (.lst (acc ++ [y]))) Dl = some (.lst (((xs.take (i + 1)).filter p).map g)))
          else (H1 Dl = none ∧ Ex H1 H3 ∧ H3 Dl = some (.lst (((xs.take (i + 1)).filter p).map g))) := by
      intro i H' hi x hx ⟨p1, p2, p3⟩
      have hm : x ∈ xs := List.mem_of_getElem? hx
      refine ht x hm H' ((e.trans e1).trans p2) _ fun H3 e3 => ?_
      have htk : xs.take (i + 1) = xs.take i ++ [x] := by rw [List.take_add_one, hx] <;> rfl
      cases hp : p x with
      | true =>
        rw [if_pos rfl]
        refine he x hm hp H3 (((e.trans e1).trans p2).trans e3) _ fun H4 e4 => ⟨_, e4 Dl _ (e3 Dl _ p3), sz_lt ?_, p1, Ex.mut ((p2.trans e3).trans e4) p1, ?_⟩
        · rw [List.length_map]
          have h1 := List.length_filter_le p (xs.take i)
          have h2 := List.length_take_le i xs
          have h3 : (xs.take i).length ≤ xs.length := by
            rw [List.length_take]
            omega
          omega
        · rw [upd_same, htk, List.filter_append, List.map_append, List.filter_cons, if_pos hp] <;> rfl
      | false =>
        rw [if_neg Bool.false_ne_true]
        refine ⟨p1, p2.trans e3, ?_⟩
        rw [htk, List.filter_append, List.filter_cons, if_neg (by rw [hp]; decide), List.filter_nil, List.append_nil]
        exact e3 Dl _ p3
    refine lc_it w (fun i H' => H1 Dl = none ∧ Ex H1 H' ∧ H' Dl = some (.lst (((xs.take i).filter p).map g))) ⟨hD, Ex.new hD, upd_same⟩ (fun i H' _ p => p.2.1) (fun i x H' H2 hi pv y => ?_) (fun H' p => ?_)
    · obtain ⟨rfl, hx⟩ := y
      exact ⟨hw x, aux i _ hi x hx pv⟩
    · refine q Dl H' (fresh_back e1 p.1) (e1.trans p.2.1) ?_
      have z := p.2.2
      rw [List.take_length] at z
      exact z
theorem et_yes : EvT tYes σ H true := fun H1 _ _ q => q H1 (Ex.refl H1)
/-- [te for x in ..] -/
theorem el_map {wi : TI} {xs : List V} {j : Nat} {vs : List Nat} (g : V → V) (h : EvI wi σ H xs) (hz : xs.length ≤ 50000) (hw : ∀ x, wipe ((wipe σ vs).set j (some x)) vs = wipe σ vs)
    (he : ∀ x, x ∈ xs → Ev te ((wipe σ vs).set j (some x)) H (g x)) : EvL (tLc wi (gName j) tYes te vs) σ H (xs.map g) := by
  have z := el_lc (t := tYes) (te := te) (fun _ => true) g h hz hw (fun _ _ => et_yes) (fun x hx _ => he x hx)
  rw [List.filter_eq_self.mpr (fun _ _ => rfl)] at z
  exact z
end
/-! ### loops -/
section
variable {K : PySem.W.Frag} {σ : L2.St} {H H' : Hp} {D : Ends} {tu tz : TS} {g : TG}
/-- a for whose body only extends the heap (Pv: the slots) -/
theorem s_forP {wi : TI} {xs : List V} (h : EvI wi σ H xs) (Pv : Nat → L2.St → Hp → Prop) (h0 : ∀ H1, Ex H H1 → Pv 0 σ H1)
    (hs : ∀ H1, Ex H H1 → ∀ i x σ' H', xs[i]? = some x → Ex H1 H' → Pv i σ' H' → g x σ' H' fun σ2 H2 => tu { D with nx := fun σ3 H3 => Ex H1 H3 ∧ Pv (i + 1) σ3 H3, ct := fun σ3 H3 => Ex H1 H3 ∧ Pv (i + 1) σ3 H3, bk := D.nx } σ2 H2)
    (hd : ∀ σ' H', Ex H H' → Pv xs.length σ' H' → D.nx σ' H') : tFor wi g tu D σ H :=
  h H (Ex.refl H) _ fun J H1 e1 w => for_it w (fun i σ' H' => Ex H1 H' ∧ Pv i σ' H') ⟨Ex.refl H1, h0 H1 e1⟩ (fun _ _ _ _ p => p.1) (fun i x σ' H' H2 hi p y => by
    obtain ⟨rfl, hx⟩ := y
    exact hs H1 e1 i x σ' _ hx p.1 p.2) (fun σ' H' p => hd σ' H' (e1.trans p.1) p.2)
theorem q_forP {wi : TI} {xs : List V} (h : EvI wi σ H xs) (Pv : Nat → L2.St → Hp → Prop) (h0 : ∀ H1, Ex H H1 → Pv 0 σ H1)
    (hs : ∀ H1, Ex H H1 → ∀ i x σ' H', xs[i]? = some x → Ex H1 H' → Pv i σ' H' → g x σ' H' fun σ2 H2 => tu { D with nx := fun σ3 H3 => Ex H1 H3 ∧ Pv (i + 1) σ3 H3, ct := fun σ3 H3 => Ex H1 H3 ∧ Pv (i + 1) σ3 H3, bk := tz D } σ2 H2)
    (hd : ∀ σ' H', Ex H H' → Pv xs.length σ' H' → tz D σ' H') : tSeq (tFor wi g tu) tz D σ H := s_forP (D := { D with nx := tz D }) h Pv h0 hs hd
end
end Q7
/-! some tuple; written dicts; enumerate, zip of unlike kinds -/
namespace Q7
open PySem PySem.Spec PyProof.Rows L2 Evl
/-- d.get(e), d a written dict with text keys -/
def tKGet (K : PySem.W.Frag) (d : Addr) (td ty : TE) : TE := fun σ H Q => td σ H fun x H1 => x = .ref d ∧ ty σ H1 fun y H2 => ∃ (z : Str) (v : V), y = .str z ∧ (PySem.W.nsIn K d z = some none ∧ v = .non ∨ ∃ u, PySem.W.nsIn K d z = some (some u) ∧ RelV v u) ∧ Q v H2
section
variable {X : Cx} {o e : Expr} {apos cpos : Pos} {td ty : TE} {d : Addr} {es : Array DictEntry} {n : Nat}
theorem pe_kget (D : KDict X.K X.w d es n) (ho : PE X o td) (he : PE X e ty) (m : M1 X o "get" apos e cpos) : PE X (.Call (.Attribute o "get" apos) [e] [] cpos) (tKGet X.K d td ty) := by
  refine ⟨fun pins s σ H Q I h => ?_⟩
  refine wpAny_Call_method m.base m.few m.line PySem.F.plainAttrs_dict PySem.F.slot_dict_get PySem.F.type_dict_get (thn (ho.run pins s σ H _ I h) fun u s1 ⟨x, H1, I1, rx, ex, q1⟩ => ?_)
  subst ex
  obtain rfl : u = Value.ref d := rx
  refine ⟨kd_type D I1, fun b q => ?_, ?_⟩
  · cases q
    exact ⟨_, I1.kIn _ _ D.at_, rfl⟩
  rw [m.trees]
  refine Calls.callWith_builtin rfl (Calls.evalArgs_plain (Calls.spliced_cons (thn (he.run pins s1 σ H1 _ I1 q1) fun iv s2 ⟨y, H2, I2, ry, z, v, ey, hv, q2⟩ => Calls.spliced_nil ?_)))
  subst ey
  obtain ⟨t, rfl⟩ := ry
  have hm := PySem.W.mapOf_K (prog := X.prog) (w := X.w) I2.kIn D.at_ D.lit
  refine call_meetsIn PySem.F.slot_dict_get (kd_type D I2) PySem.F.entry_dict_get (PySem.F.args_dict_get_2 _ _) (meets_dict_get (PySem.strKind X.prog X.w) d (PySem.strKind_is X.prog X.w z t) D.low) ⟨_, hm, ?_⟩
  rcases hv with ⟨hn, hv⟩ | ⟨u, hn, hv⟩
  · subst hv
    rw [PySem.W.find_K D.at_ hn]
    exact ⟨.non, H2, I2.tok _, rfl, q2⟩
  · rw [PySem.W.find_K D.at_ hn]
    exact ⟨v, H2, I2.tok _, hv, q2⟩
end
abbrev rLenQ (K : PySem.W.Frag) : List V → Hp → VK → Prop := fun xs H Q => ∃ p ys, xs = [.ref p] ∧ (SqL K H p ys ∨ SqT K H p ys) ∧ Q (.int ys.length) H
abbrev rTupQ (K : PySem.W.Frag) : List V → Hp → VK → Prop := fun xs H Q => ∃ p ys, xs = [.ref p] ∧ ((SqL K H p ys ∧ ∀ l, H l = none → Q (.ref l) (upd H l (.tup ys))) ∨ (SqT K H p ys ∧ Q (.ref p) H))
abbrev rLstQ (K : PySem.W.Frag) : List V → Hp → VK → Prop := fun xs H Q => ∃ p ys, xs = [.ref p] ∧ (SqL K H p ys ∨ SqT K H p ys) ∧ ∀ l, H l = none → Q (.ref l) (upd H l (.lst ys))
/-! ### some tuple, old or new -/
section
variable {K : PySem.W.Frag} {σ : L2.St} {H H' : Hp} {ta tb te tx tl : TE} {t u : TT} {x y z v : V}
def EvS (K : PySem.W.Frag) (te : TE) (σ : L2.St) (H : Hp) (xs : List V) : Prop := ∀ H1, Ex H H1 → ∀ Q : VK, (∀ p H2, Ex H1 H2 → SqT K H2 p xs → Q (.ref p) H2) → te σ H1 Q
theorem EvS.mono {xs : List V} (e : Ex H H') (h : EvS K te σ H xs) : EvS K te σ H' xs := fun H1 a Q q => h H1 (e.trans a) Q q
theorem es_U {xs : List V} (h : EvU te σ H xs) : EvS K te σ H xs := fun H1 e Q q => h H1 e Q fun p H2 _ e2 hp => q p H2 e2 (st_of hp)
theorem es_T {a : Addr} {xs : List V} (h : Ev te σ H (.ref a)) (hx : SqT K H a xs) : EvS K te σ H xs := fun H1 e Q q => h H1 e Q fun H2 e2 => q a H2 e2 (ex_t (e.trans e2) hx)
theorem ei_tupS {xs : List V} (h : EvS K tl σ H xs) : EvI (iTup K tl) σ H xs := fun H1 e R k =>
  h H1 e _ fun p H2 e2 hp => ⟨p, rfl, ⟨xs, hp⟩, k _ H2 e2 (walk_tup.mono (fun H3 e3 => ex_t e3 hp) fun _ _ _ _ _ _ y => y)⟩
theorem cutV_all {xs : List V} {lo hi : Option Int} (h : HT.sIx xs.length 0 lo = 0 ∧ HT.sIx xs.length xs.length hi = xs.length) : cutV xs lo hi = xs := by
  unfold cutV
  rw [h.1, h.2, Nat.sub_zero, List.drop_zero]
  exact List.take_length
theorem cutV_from (xs : List V) (i : Nat) : cutV xs (some (i : Int)) none = xs.drop i := by
  unfold cutV
  rw [show HT.sIx xs.length 0 (some (i : Int)) = min i xs.length from HT.sIx_nat xs.length 0 i, HT.sIx_none]
  by_cases h : i ≤ xs.length
  · rw [Nat.min_eq_left h]
    exact List.take_of_length_le (by rw [List.length_drop] <;> omega)
  · rw [Nat.min_eq_right (by omega), Nat.sub_self, List.take_zero]
    exact (List.drop_eq_nil_of_le (by omega)).symm
theorem cutV_to (xs : List V) (i : Nat) : cutV xs none (some (i : Int)) = xs.take i := by
  unfold cutV
  rw [HT.sIx_none, show HT.sIx xs.length xs.length (some (i : Int)) = min i xs.length from HT.sIx_nat xs.length xs.length i, List.drop_zero, Nat.sub_zero]
  by_cases h : i ≤ xs.length
  · rw [Nat.min_eq_left h]
  · rw [Nat.min_eq_right (by omega), List.take_length, List.take_of_length_le (by omega)]
theorem cutV_mid (xs : List V) (i j : Nat) : cutV xs (some (i : Int)) (some (j : Int)) = (xs.take j).drop i := by
  unfold cutV
  rw [show HT.sIx xs.length 0 (some (i : Int)) = min i xs.length from HT.sIx_nat xs.length 0 i, show HT.sIx xs.length xs.length (some (j : Int)) = min j xs.length from HT.sIx_nat xs.length xs.length j, List.drop_take]
  by_cases h : i ≤ xs.length
  · by_cases h2 : j ≤ xs.length
    · rw [Nat.min_eq_left h, Nat.min_eq_left h2]
    · rw [Nat.min_eq_left h, Nat.min_eq_right (by omega), List.take_of_length_le (by rw [List.length_drop] <;> omega), List.take_of_length_le (by rw [List.length_drop] <;> omega)]
  · rw [Nat.min_eq_right (by omega : xs.length ≤ i), List.drop_eq_nil_of_le (Nat.le_refl _), List.drop_eq_nil_of_le (by omega : xs.length ≤ i), List.take_nil, List.take_nil]
/-- t[lo:hi] -/
theorem es_sl {tl th : TO} {a : Addr} {xs : List V} {lo hi : Option Int} (h : Ev te σ H (.ref a)) (h1 : EvO tl σ H lo) (h2 : EvO th σ H hi) (hs : SqT K H a xs) : EvS K (tSl (rSlA K) te tl th) σ H (cutV xs lo hi) := fun H1 e Q q =>
  h H1 e _ fun H2 e2 => h1 H2 (e.trans e2) _ fun H3 e3 => h2 H3 ((e.trans e2).trans e3) _ fun H4 e4 => by
    have e5 := (e2.trans e3).trans e4
    have hs4 := ex_t (e.trans e5) hs
    refine ⟨a, xs, rfl, hs4, fun hw => ?_, fun hw p hp => q p _ (e5.trans (Ex.new hp)) (st_of upd_same)⟩
    refine q a H4 e5 ?_
    rw [cutV_all hw]
    exact hs4
theorem eo_none : EvO tNoPart σ H none := fun H1 _ _ q => q H1 (Ex.refl H1)
theorem es_slS {tl th : TO} {xs : List V} {lo hi : Option Int} (h : EvS K te σ H xs) (h1 : EvO tl σ H lo) (h2 : EvO th σ H hi) : EvS K (tSl (rSlA K) te tl th) σ H (cutV xs lo hi) := fun H1 e Q q =>
  h H1 e _ fun a H2 e2 hs => h1 H2 (e.trans e2) _ fun H3 e3 => h2 H3 ((e.trans e2).trans e3) _ fun H4 e4 => by
    have e5 := (e2.trans e3).trans e4
    have hs4 := ex_t (e3.trans e4) hs
    refine ⟨a, xs, rfl, hs4, fun hw => ?_, fun hw p hp => q p _ (e5.trans (Ex.new hp)) (st_of upd_same)⟩
    refine q a H4 e5 ?_
    rw [cutV_all hw]
    exact hs4
/-- t + u -/
theorem es_cat {xs ys : List V} (ha : EvS K ta σ H xs) (hb : EvS K tb σ H ys) (hl : xs.length + ys.length ≤ 100000) : EvS K (tOp (rCatA K) ta tb) σ H (xs ++ ys) := fun H1 e Q q =>
  ha H1 e _ fun a H2 e2 h2 => hb H2 (e.trans e2) _ fun b H3 e3 h3 => by
    refine ⟨a, b, xs, ys, rfl, rfl, ex_t e3 h2, h3, sz_of hl, fun hx => ?_, fun hx hy => ?_, fun hx hy p hp => q p _ ((e2.trans e3).trans (Ex.new hp)) (st_of upd_same)⟩
    · refine q b H3 (e2.trans e3) ?_
      rw [hx]
      exact h3
    · refine q a H3 (e2.trans e3) ?_
      rw [hy, List.append_nil]
      exact ex_t e3 h2
theorem ev_lenS' {xs : List V} (ha : EvS K ta σ H xs) : Ev (tCB (fun xs H Q => ∃ p ys, xs = [.ref p] ∧ (SqL K H p ys ∨ SqT K H p ys) ∧ Q (.int ys.length) H) (tCons ta tNil)) σ H (.int (xs.length : Int)) := fun H1 e Q q =>
  ha H1 e _ fun p H2 e2 h2 => ⟨p, xs, rfl, Or.inr h2, q H2 e2⟩
theorem ev_dS {sp : Sp} {xs : List V} {E : XK} (h : EvS K te σ H xs) (hs : ∀ p H1, Ex H H1 → SqT K H1 p xs → ∀ Q : VK, (∀ H2, Ex H1 H2 → Q z H2) → sp [.ref p] H1 Q E) : Ev (tCallR sp E (tCons te tNil)) σ H z := fun H1 e Q q =>
  h H1 e _ fun p H2 e2 hp => hs p H2 (e.trans e2) hp Q fun H3 e3 => q H3 (e2.trans e3)
/-- f(tuple, v) -/
theorem ev_dSV {sp : Sp} {xs : List V} {E : XK} (h : EvS K te σ H xs) (hx : Ev tx σ H x) (hs : ∀ p H1, Ex H H1 → SqT K H1 p xs → ∀ Q : VK, (∀ H2, Ex H1 H2 → Q z H2) → sp [.ref p, x] H1 Q E) : Ev (tCallR sp E (tCons te (tCons tx tNil))) σ H z := fun H1 e Q q =>
  h H1 e _ fun p H2 e2 hp => hx H2 (e.trans e2) _ fun H3 e3 => hs p H3 ((e.trans e2).trans e3) (ex_t e3 hp) Q fun H4 e4 => q H4 ((e2.trans e3).trans e4)
theorem ev_inS {neg : Bool} {xs : List V} (ha : Ev ta σ H x) (hb : EvS K tb σ H xs) (hx : flatV x = true) (hf : xs.all flatV = true) : Ev (tOp (rIn K neg) ta tb) σ H (.bl (if neg then !inV x xs else inV x xs)) := fun H1 e Q q =>
  ha H1 e _ fun H2 e2 => hb H2 (e.trans e2) _ fun p H3 e3 hp => ⟨p, xs, rfl, Or.inr hp, hx, hf, q H3 (e2.trans e3)⟩
theorem ev_ixS {xs : List V} {i : Int} (ha : EvS K ta σ H xs) (hb : Ev tb σ H (.int i)) (h : atI xs i = some v) : Ev (tOp (rIxT K) ta tb) σ H v := fun H1 e Q q =>
  ha H1 e _ fun p H2 e2 hp => hb H2 (e.trans e2) _ fun H3 e3 => ⟨p, xs, i, v, rfl, rfl, ex_t e3 hp, h, q H3 (e2.trans e3)⟩
theorem ev_ixT {a : Addr} {xs : List V} {i : Int} (ha : Ev ta σ H (.ref a)) (hx : SqT K H a xs) (hb : Ev tb σ H (.int i)) (h : atI xs i = some v) : Ev (tOp (rIxT K) ta tb) σ H v := ev_ixS (es_T ha hx) hb h
theorem ev_ixL {a : Addr} {xs : List V} {i : Int} (ha : Ev ta σ H (.ref a)) (hx : SqL K H a xs) (hb : Ev tb σ H (.int i)) (h : atI xs i = some v) : Ev (tOp (rIxL K) ta tb) σ H v := ev_op ha hb (rv_ixL hx h)
theorem s_retS {D : Ends} {xs : List V} (h : EvS K te σ H xs) (k : ∀ p H1, Ex H H1 → SqT K H1 p xs → D.rt (.ref p) H1) : tRet te D σ H := h H (Ex.refl H) _ k
theorem q_asgS {D : Ends} {tz : TS} {i : Nat} {xs : List V} (h : EvS K te σ H xs) (k : ∀ p H1, Ex H H1 → SqT K H1 p xs → tz D (σ.set i (some (.ref p))) H1) : tSeq (tAsg te (gName i)) tz D σ H := h H (Ex.refl H) _ k
theorem ev_ifE {b : Bool} {v1 v2 : V} (h : EvT t σ H b) (h1 : b = true → Ev ta σ H v1) (h2 : b = false → Ev tb σ H v2) : Ev (tIf t ta tb) σ H (if b = true then v1 else v2) := by
  cases b with
  | true => exact ev_if h (fun _ => h1 rfl) (fun q => by cases q)
  | false => exact ev_if h (fun q => by cases q) (fun _ => h2 rfl)
/-- xs == [], xs a list of texts -/
def rEqE (K : PySem.W.Frag) : R2 := fun x y H Q => ∃ (a b : Addr) (zs : List Str), x = .ref a ∧ y = .ref b ∧ SqL K H a (zs.map V.str) ∧ SqL K H b [] ∧ Q (.bl (decide (zs = []))) H
theorem dp_strs {K : PySem.W.Frag} {H : Hp} : ∀ zs : List Str, DpAll K H (zs.map V.str) (zs.map PyData.str)
  | [] => .nil
  | z :: r => .cons (.str z) (dp_strs r)
theorem plain_strs : ∀ zs : List Str, PyData.plainAll (zs.map PyData.str) = true
  | [] => rfl
  | z :: r => by
    simp only [List.map_cons, PyData.plainAll, PyData.plain, plain_strs r, Bool.and_self]
theorem op_eqE {X : Cx} (hu : X.A.units + 2 < cLine) : OpR X (compareOp .Eq) (rEqE X.K) := by
  intro pins s σ H x y v u Q I rx ry h
  obtain ⟨a, b, zs, rfl, rfl, ha, hb, q⟩ := h
  obtain ⟨as, r1⟩ := Dp.reads I _ _ v (Dp.lst ha (dp_strs zs)) rx
  obtain ⟨bs, r2⟩ := Dp.reads I _ _ u (Dp.lst hb DpAll.nil) ry
  refine PySem.SeqAt.eq_plain r1 r2 (by simp only [PyData.plain, plain_strs]) rfl ?_ ?_
  · have e : (PyData.list []).depth = 1 := by simp only [PyData.depth, PyData.depthAll]
    rw [e]
    omega
  · have e : PyData.eqv (.list (zs.map PyData.str)) (.list []) = decide (zs = []) := by
      cases zs with
      | nil => simp [PyData.eqv, PyData.eqvAll]
      | cons z r => simp [PyData.eqv, PyData.eqvAll]
    rw [e]
    exact ⟨.bl _, H, I, rfl, q⟩
theorem ev_eqE {zs : List Str} (ha : EvL ta σ H (zs.map V.str)) : Ev (tOp (rEqE K) ta (tLst tNil)) σ H (.bl (decide (zs = []))) := fun H1 e Q q =>
  ha H1 e _ fun p H2 _ e2 hp => ⟨Nat.zero_le _, fun o ho => ⟨p, o, zs, rfl, rfl, sq_of (Ex.new ho p _ hp), sq_of upd_same, q _ (e2.trans (Ex.new ho))⟩⟩
/-- a text in a written row of texts -/
theorem inV_str (w : Str) : ∀ vs : List Str, inV (.str w) (vs.map V.str) = decide (w ∈ vs)
  | [] => by simp [inV]
  | a :: r => by
    have ih := inV_str w r
    have e1 : inV (.str w) ((a :: r).map V.str) = (eqV (.str a) (.str w) || inV (.str w) (r.map V.str)) := rfl
    rw [e1, ih]
    have e2 : eqV (.str a) (.str w) = decide (a = w) := by
      show (a == w) = decide (a = w)
      by_cases h : a = w
      · simp [h]
      · simp [h]
    rw [e2]
    by_cases h : a = w
    · subst h
      simp
    · by_cases h2 : w ∈ r
      · simp [h, h2]
      · have h3 : ¬ (w = a) := fun q => h q.symm
        simp [h, h2, h3]
theorem flat_strs : ∀ vs : List Str, (vs.map V.str).all flatV = true
  | [] => rfl
  | _ :: r => by
    have ih := flat_strs r
    simp only [List.map_cons, List.all_cons, ih, Bool.and_true]
    rfl
end
end Q7
/-! walks that give new pairs: zip, enumerate -/
namespace Q7
open PySem PySem.Spec PyProof.Rows L2 Evl
def YPs (ps : List (V × V)) : Nat → Hp → V → Hp → Prop := YPair (fun i => ps[i]?.map Prod.fst) (fun i => ps[i]?.map Prod.snd)
def EvP (wi : TI) (σ : L2.St) (H : Hp) (ps : List (V × V)) : Prop := ∀ H1, Ex H H1 → ∀ R : It → Hp → Prop, (∀ J H2, Ex H1 H2 → Walk J ps.length (fun H3 => Ex H2 H3) (YPs ps) → R J H2) → wi σ H1 R
section
variable {K : PySem.W.Frag} {σ : L2.St} {H H' : Hp} {ta tb te tx tl : TE} {t u : TT} {x y z v : V}
theorem walk_zipT {a b : Addr} {xs ys : List V} : Walk (RZ.ItzT K a b) (xs.zip ys).length (fun H => SqT K H a xs ∧ SqT K H b ys) (YPs (xs.zip ys)) := by
  refine ⟨fun i _ hi q => ?_, fun _ q => ⟨xs, ys, q.1, q.2, ?_⟩, fun i H v H' hi q y => ?_⟩
  · rw [List.length_zip] at hi
    have h1 : i < xs.length := by omega
    have h2 : i < ys.length := by omega
    exact ⟨xs, ys, xs[i], ys[i], q.1, q.2, by simp [h1], by simp [h2]⟩
  · rw [List.length_zip]
    omega
  · rw [List.length_zip] at hi
    obtain ⟨T, x, z, h1, h2, h3, h4, h5⟩ := y
    have e1 := h4 xs q.1
    have e2 := h5 ys q.2
    have hz : (xs.zip ys)[i]? = some (x, z) := List.getElem?_zip_eq_some.mpr ⟨e1, e2⟩
    refine ⟨T, x, z, h1, h2, h3, ?_, ?_⟩
    · show (xs.zip ys)[i]?.map Prod.fst = some x
      rw [hz] <;> rfl
    · show (xs.zip ys)[i]?.map Prod.snd = some z
      rw [hz] <;> rfl
theorem pair_at {ps : List (V × V)} {n : Nat} {a b : V} (ha : ps[n]?.map Prod.fst = some a) (hb : ps[n]?.map Prod.snd = some b) : ps[n]? = some (a, b) := by
  cases h : ps[n]? with
  | none =>
    rw [h] at ha
    cases ha
  | some p =>
    rw [h] at ha hb
    obtain ⟨x, y⟩ := p
    have e1 : x = a := Option.some.inj ha
    have e2 : y = b := Option.some.inj hb
    rw [e1, e2]
/-- zip(tuple, tuple) -/
theorem ep_zipTT {b : Addr} {xs ys : List V} (ha : EvS K ta σ H xs) (hb : Ev tb σ H (.ref b)) (hy : SqT K H b ys) : EvP (RZ.iZipA K (tCons ta (tCons tb tNil))) σ H (xs.zip ys) := fun H1 e R k =>
  ha H1 e _ fun a H2 e2 hx => hb H2 (e.trans e2) _ fun H3 e3 => by
    have hy3 := ex_t ((e.trans e2).trans e3) hy
    exact ⟨a, b, xs, ys, rfl, Or.inr ⟨ex_t e3 hx, hy3, k _ H3 (e2.trans e3) (walk_zipT.mono (fun H4 e4 => ⟨ex_t (e3.trans e4) hx, ex_t e4 hy3⟩) fun _ _ _ _ _ _ y => y)⟩⟩
/-- enumerate(list) -/
def enumV (xs : List V) : List (V × V) := xs.mapIdx fun i x => (.int (i : Nat), x)
theorem ep_enum {a : Addr} {xs : List V} (ha : Ev ta σ H (.ref a)) (hx : SqL K H a xs) : EvP (iEnum K (tCons ta tNil)) σ H (enumV xs) := fun H1 e R k =>
  ha H1 e _ fun H2 e2 => ⟨a, xs, rfl, ex_l (e.trans e2) hx, k _ H2 e2 (by
    have hl : (enumV xs).length = xs.length := by simp [enumV]
    rw [hl]
    refine (walk_enum (K := K) (a := a) (xs := xs)).mono (fun H3 e3 => ex_l ((e.trans e2).trans e3) hx) fun i H3 v H4 hi _ y => ?_
    obtain ⟨T, x, z, h1, h2, h3, h4, h5⟩ := y
    refine ⟨T, x, z, h1, h2, h3, ?_, ?_⟩
    · simp only [enumV, List.getElem?_mapIdx, h5, Option.map_some]
      exact h4
    · simp only [enumV, List.getElem?_mapIdx, h5, Option.map_some])⟩
/-- [te for a, b in ..] -/
theorem el_mapP {wi : TI} {ps : List (V × V)} {i j : Nat} {vs : List Nat} (g : V → V → V) (h : EvP wi σ H ps) (hz : ps.length ≤ 50000) (hw : ∀ x y, wipe (((wipe σ vs).set i (some x)).set j (some y)) vs = wipe σ vs)
    (he : ∀ p, p ∈ ps → Ev te (((wipe σ vs).set i (some p.1)).set j (some p.2)) H (g p.1 p.2)) : EvL (tLc wi (gTup K 2 (gCons (gName i) (gCons (gName j) gNil))) tYes te vs) σ H (ps.map fun p => g p.1 p.2) := fun H0 e Q q =>
  h H0 e _ fun J H1 e1 w Dl hD => by
    refine lc_it w (fun n H' => H1 Dl = none ∧ Ex H1 H' ∧ H' Dl = some (.lst ((ps.take n).map fun p => g p.1 p.2))) ⟨hD, Ex.new hD, upd_same⟩ (fun _ H' _ p => p.2.1) (fun n x H' H2 hi pv y => ?_) (fun H' p => ?_)
    · obtain ⟨T, a, b, rfl, hT, rfl, ha, hb⟩ := y
      obtain ⟨p1, p2, p3⟩ := pv
      have hp : ps[n]? = some (a, b) := pair_at ha hb
      have hm : (a, b) ∈ ps := List.mem_of_getElem? hp
      refine ⟨T, [a, b], rfl, st_of upd_same, rfl, a, [b], rfl, b, [], rfl, rfl, hw a b, ?_⟩
      refine et_yes (σ := ((wipe σ vs).set i (some a)).set j (some b)) (H := upd H' T (.tup [a, b])) _ (Ex.refl _) _ fun H3 e3 => ?_
      rw [if_pos rfl]
      have eT := (Ex.new (o := .tup [a, b]) hT).trans e3
      refine he (a, b) hm _ (((e.trans e1).trans p2).trans eT) _ fun H4 e4 => ⟨_, e4 Dl _ (eT Dl _ p3), sz_lt ?_, p1, Ex.mut ((p2.trans eT).trans e4) p1, ?_⟩
      · rw [List.length_map, List.length_take]
        omega
      · rw [upd_same, List.take_add_one, hp, List.map_append] <;> rfl
    · refine q Dl H' (fresh_back e1 p.1) (e1.trans p.2.1) ?_
      have z := p.2.2
      rw [List.take_length] at z
      exact z
/-- a for over pairs, the body only extends the heap -/
theorem s_forPP {D : Ends} {tu : TS} {g : TG} {wi : TI} {ps : List (V × V)} (h : EvP wi σ H ps) (Pv : Nat → L2.St → Hp → Prop) (h0 : ∀ H1, Ex H H1 → Pv 0 σ H1)
    (hs : ∀ H1, Ex H H1 → ∀ i x y T σ' H', ps[i]? = some (x, y) → Ex H1 H' → Pv i σ' H' → H' T = none → g (.ref T) σ' (upd H' T (.tup [x, y])) fun σ2 H2 => tu { D with nx := fun σ3 H3 => Ex H1 H3 ∧ Pv (i + 1) σ3 H3, ct := fun σ3 H3 => Ex H1 H3 ∧ Pv (i + 1) σ3 H3, bk := D.nx } σ2 H2)
    (hd : ∀ σ' H', Ex H H' → Pv ps.length σ' H' → D.nx σ' H') : tFor wi g tu D σ H :=
  h H (Ex.refl H) _ fun J H1 e1 w => for_it w (fun i σ' H' => Ex H1 H' ∧ Pv i σ' H') ⟨Ex.refl H1, h0 H1 e1⟩ (fun _ _ _ _ p => p.1) (fun i v σ' H' H2 hi p y => by
    obtain ⟨T, a, b, rfl, hT, rfl, ha, hb⟩ := y
    have hp : ps[i]? = some (a, b) := pair_at ha hb
    exact hs H1 e1 i a b T σ' H' hp p.1 p.2 hT) (fun σ' H' p => hd σ' H' (e1.trans p.1) p.2)
theorem q_forPP {D : Ends} {tu tz : TS} {g : TG} {wi : TI} {ps : List (V × V)} (h : EvP wi σ H ps) (Pv : Nat → L2.St → Hp → Prop) (h0 : ∀ H1, Ex H H1 → Pv 0 σ H1)
    (hs : ∀ H1, Ex H H1 → ∀ i x y T σ' H', ps[i]? = some (x, y) → Ex H1 H' → Pv i σ' H' → H' T = none → g (.ref T) σ' (upd H' T (.tup [x, y])) fun σ2 H2 => tu { D with nx := fun σ3 H3 => Ex H1 H3 ∧ Pv (i + 1) σ3 H3, ct := fun σ3 H3 => Ex H1 H3 ∧ Pv (i + 1) σ3 H3, bk := tz D } σ2 H2)
    (hd : ∀ σ' H', Ex H H' → Pv ps.length σ' H' → tz D σ' H') : tSeq (tFor wi g tu) tz D σ H := s_forPP (D := { D with nx := tz D }) h Pv h0 hs hd
/-- the pair's names -/
theorem g_pair {i j : Nat} {T : Addr} {a b : V} {Q : L2.St → Hp → Prop} (h : SqT K H T [a, b]) (q : Q ((σ.set i (some a)).set j (some b)) H) : gTup K 2 (gCons (gName i) (gCons (gName j) gNil)) (.ref T) σ H Q :=
  ⟨T, [a, b], rfl, h, rfl, a, [b], rfl, b, [], rfl, rfl, q⟩
end
end Q7
/-! names: is_name, _law_is_name, _law_are_names -/
namespace Q7
open PySem PySem.Spec PyProof.Rows L2 Evl
abbrev az : List Nat := ("abcdefghijklmnopqrstuvwxyz" : Str).cps.toList
/-- what both call a name -/
def okN (z : Str) : Bool := decide (1 ≤ z.length) && (decide (z.length ≤ 8) && z.cps.toList.all fun c => decide (c ∈ az))
theorem filter_nil_iff {α : Type} (p : α → Bool) : ∀ xs : List α, decide (xs.filter (fun x => !p x) = []) = xs.all p
  | [] => rfl
  | x :: r => by
    have ih := filter_nil_iff p r
    rw [List.filter_cons, List.all_cons]
    cases h : p x with
    | true =>
      rw [if_neg (by simp)]
      rw [ih, Bool.true_and]
    | false =>
      rw [if_pos (by simp), Bool.false_and]
      simp
section
variable {P : Program} {w : World} {K : PySem.W.Frag} {mg : Str → Option Value} {base : Heap}
/-- a promise: the value f, nothing changed -/
def spIsName : Sp := fun vs H Q _ => ∃ z : Str, vs = [.str z] ∧ z.length ≤ 100000 ∧ RetV (.bl (okN z)) H Q
theorem sc_is_name : FnScope ["value", "letter"] ["value"] (defScope s_is_name) := ⟨rfl, rfl, rfl, by decide +kernel, rfl, by decide +kernel, by decide +kernel⟩
theorem D_is_name (T : Txt w K mg) : Dn P w K mg base CX0 1 "is_name" spIsName := by
  refine mkD0 T.fds_is_name T.g_is_name T.kps_is_name sc_is_name (fun _ _ _ _ _ _ us hl => match us, hl with | [_], _ => rfl) (fun vs H Q E h => ?_) (fun cdv A outer s H vs Q E hr h => ?_)
  · obtain ⟨z, rfl, _⟩ := h
    rfl
  · obtain ⟨z, rfl, hz, q⟩ := h
    obtain ⟨_, GL_LETTERS⟩ := T.s_LETTERS
    obtain ⟨_, GL_MOST_LETTERS⟩ := T.i_MOST_LETTERS
    refine ⟨_, (pss_cons (ps_if (PW.pt (pw_or (pt_not (pt_val (pe_callB call_isi (by rfl) T.n_isinstance bo_isinstance (pa_cons (pv 0) (pa_cons (pe_bltn (v := .ty "str") (by rfl) T.n_str bo_str rfl) pa_nil))))) (pw_or1 (pt_not (pt_chain op_le op_le pe_int (pe_callB call_len_str (by rfl) T.n_len PySem.boot_len (pa_cons (pv 0) pa_nil)) (pe_glob (v := .int 8) (by rfl) GL_MOST_LETTERS ⟨_, rfl⟩)))))) (pss_one (ps_ret pe_bl)) pss_nil)
    (pss_one (ps_ret (pe_callB (cr_all rfl) (by rfl) T.n_all bo_all (pa_cons (pe_lc (own := [("letter", 1)]) (g := gName 1) (tt := tYes) rfl sc_is_name.nd (pi_str (pv 0)) (blkOk_by (own := [("letter", 1)]) (N := ["value", "letter"]) (sc := defScope s_is_name) (by decide +kernel)) (fun _ _ _ _ _ => (pg_name (i := 1) sc_is_name.nd rfl (Or.inl rfl))) (fun _ _ _ _ _ => pts_nil) (fun _ _ _ _ _ => (pe_cmpR op_in_sign (pv 1) (pe_glob (v := .str "abcdefghijklmnopqrstuvwxyz") (by rfl) GL_LETTERS ⟨_, rfl⟩) (by rfl)))) pa_nil))))), ?_⟩
    refine q_when (et_or (et_not (et_B (ev_isi (b := true) (ev_var rfl) ev_c (fun _ _ => .base (.str _)) (kit_ty (by decide +kernel))))) (fun _ => et_not (et_test (ev_chain ev_c (ev_lenS (ev_var rfl) hz) ev_c)))) (fun hb H1 e1 => s_ret ev_c (fun H2 e2 => ?_)) (fun hb H1 e1 => ?_)
    · have g : okN z = false := by
        unfold okN
        cases h1 : decide (1 ≤ z.length) <;> cases h2 : decide (z.length ≤ 8) <;> simp at h1 h2 hb ⊢ <;> omega
      rw [← g]
      exact q H2 (e1.trans e2)
    · refine s_ret (ev_all (bs := z.cps.toList.map fun c => decide (c ∈ az)) ?_) fun H2 e2 => ?_
      · have e : (z.cps.toList.map fun c => decide (c ∈ az)).map V.bl = (signs z).map fun v => match v with
            | .str w => .bl (match w.cps.toList with | [c] => decide (c ∈ az) | _ => false)
            | _ => .non := by
          unfold signs
          rw [List.map_map, List.map_map]
          rfl
        rw [e]
        refine el_map _ (ei_str (ev_var rfl)) (by
          have l8 : z.length ≤ 8 := by simp at hb; omega
          simp only [signs, List.length_map, Array.length_toList]
          exact Nat.le_trans l8 (by decide)) (fun _ => rfl) fun x hx => ?_
        obtain ⟨c, hc, rfl⟩ := List.mem_map.mp hx
        exact ev_str_in (ev_var rfl) ev_c
      · have g : okN z = ((z.cps.toList.map fun c => decide (c ∈ az)).all id) := by
          unfold okN
          rw [List.all_map]
          have h1 : decide (1 ≤ z.length) = true := by simp at hb ⊢; omega
          have h2 : decide (z.length ≤ 8) = true := by simp at hb ⊢; omega
          rw [h1, h2]
          rfl
        rw [← g]
        exact q H2 (e1.trans e2)
theorem sc__law_is_name : FnScope ["_law_value", "_law_letter"] ["_law_value"] (defScope s_law_is_name) := ⟨rfl, rfl, rfl, by decide +kernel, rfl, by decide +kernel, by decide +kernel⟩
theorem D__law_is_name (T : Txt w K mg) : Dn P w K mg base CX0 1 "_law_is_name" spIsName := by
  refine mkD0 T.fds_law_is_name T.g__law_is_name T.kps_law_is_name sc__law_is_name (fun _ _ _ _ _ _ us hl => match us, hl with | [_], _ => rfl) (fun vs H Q E h => ?_) (fun cdv A outer s H vs Q E hr h => ?_)
  · obtain ⟨z, rfl, _⟩ := h
    rfl
  · obtain ⟨z, rfl, hz, q⟩ := h
    have hu2 : (A.deeper (envOfC "_law_is_name" (defScope s_law_is_name) s.heap.objs.size (He.ga K "_law_is_name") cdv)).units + 2 < cLine := by
      have := hr.un
      omega
    refine ⟨_, (pss_cons (ps_if (PW.pt (pw_or (pt_not (pt_val (pe_callB call_isi (by rfl) T.n_isinstance bo_isinstance (pa_cons (pv 0) (pa_cons (pe_bltn (v := .ty "str") (by rfl) T.n_str bo_str rfl) pa_nil))))) (pw_or (pt_cmpR op_lt (pe_callB call_len_str (by rfl) T.n_len PySem.boot_len (pa_cons (pv 0) pa_nil)) pe_int (nomark _)) (pw_or1 (pt_cmpR op_gt (pe_callB call_len_str (by rfl) T.n_len PySem.boot_len (pa_cons (pv 0) pa_nil)) pe_int (nomark _)))))) (pss_one (ps_ret pe_bl)) pss_nil)
    (pss_one (ps_ret (pe_cmpR (op_eqE hu2) (pe_lc (own := [("_law_letter", 1)]) (g := gName 1) rfl sc__law_is_name.nd (pi_str (pv 0)) (blkOk_by (own := [("_law_letter", 1)]) (N := ["_law_value", "_law_letter"]) (sc := defScope s_law_is_name) (by decide +kernel)) (fun _ _ _ _ _ => (pg_name (i := 1) sc__law_is_name.nd rfl (Or.inl rfl))) (fun _ _ _ _ _ => (pts_one (pt_cmpR op_notIn_sign (pv 1) pe_str (by rfl)))) (fun _ _ _ _ _ => (pv 1))) (pe_lst pa_nil) (nomark _))))), ?_⟩
    refine q_when (et_or (et_not (et_B (ev_isi (b := true) (ev_var rfl) ev_c (fun _ _ => .base (.str _)) (kit_ty (by decide +kernel))))) (fun _ => et_or (et_test (ev_op (ev_lenS (ev_var rfl) hz) ev_c rv_I0)) (fun _ => et_test (ev_op (ev_lenS (ev_var rfl) hz) ev_c rv_I0)))) (fun hb H1 e1 => s_ret ev_c (fun H2 e2 => ?_)) (fun hb H1 e1 => ?_)
    · have g : okN z = false := by
        unfold okN
        cases h1 : decide (1 ≤ z.length) <;> cases h2 : decide (z.length ≤ 8) <;> simp at h1 h2 hb ⊢ <;> omega
      rw [← g]
      exact q H2 (e1.trans e2)
    · have l1 : 1 ≤ z.length ∧ z.length ≤ 8 := by simp at hb; omega
      refine s_ret (ev_eqE (zs := (z.cps.toList.filter fun c => !decide (c ∈ az)).map fun c => ⟨#[c]⟩) ?_) fun H2 e2 => ?_
      · have e : ((z.cps.toList.filter fun c => !decide (c ∈ az)).map fun c => (⟨#[c]⟩ : Str)).map V.str = ((signs z).filter fun v => match v with
            | .str w => (match w.cps.toList with | [c] => !decide (c ∈ az) | _ => false)
            | _ => false).map id := by
          unfold signs
          rw [List.map_id, List.filter_map, List.map_map]
          rfl
        rw [e]
        refine el_lc _ _ (ei_str (ev_var rfl)) (by
          simp only [signs, List.length_map, Array.length_toList]
          exact Nat.le_trans l1.2 (by decide)) (fun _ => rfl) (fun x hx => ?_) (fun x hx hp => ev_var rfl)
        obtain ⟨c, hc, rfl⟩ := List.mem_map.mp hx
        exact et_test (ev_str_ni (ev_var rfl) ev_c)
      · have g : okN z = decide (((z.cps.toList.filter fun c => !decide (c ∈ az)).map fun c => (⟨#[c]⟩ : Str)) = []) := by
          unfold okN
          have h1 : decide (1 ≤ z.length) = true := by simp; omega
          have h2 : decide (z.length ≤ 8) = true := by simp; omega
          rw [h1, h2, Bool.true_and, Bool.true_and, ← filter_nil_iff]
          simp only [List.map_eq_nil_iff]
        rw [← g]
        exact q H2 (e1.trans e2)
/-- texts of a size that the rules take -/
def Sh (ws : List Str) : Prop := ws.length ≤ 1000 ∧ ∀ w ∈ ws, w.length ≤ 100000
theorem Sh.tail {ws : List Str} {x : Str} (h : Sh (x :: ws)) : Sh ws := ⟨by have := h.1; rw [List.length_cons] at this; omega, fun y hy => h.2 y (List.mem_cons_of_mem _ hy)⟩
def spAre (K : PySem.W.Frag) : Sp := fun vs H Q _ => ∃ (a : Addr) (ws : List Str), vs = [.ref a] ∧ SqT K H a (ws.map V.str) ∧ Sh ws ∧ RetV (.bl (ws.all okN)) H Q
theorem sc__law_are_names : FnScope ["_law_words_here", "_law_word_here"] ["_law_words_here"] (defScope s_law_are_names) := ⟨rfl, rfl, rfl, by decide +kernel, rfl, by decide +kernel, by decide +kernel⟩
theorem D__law_are_names (T : Txt w K mg) (D__law_is_name : Dn P w K mg base CX0 1 "_law_is_name" spIsName) : Dn P w K mg base CX0 2 "_law_are_names" (spAre K) := by
  refine mkD0 T.fds_law_are_names T.g__law_are_names T.kps_law_are_names sc__law_are_names (fun _ _ _ _ _ _ us hl => match us, hl with | [_], _ => rfl) (fun vs H Q E h => ?_) (fun cdv A outer s H vs Q E hr h => ?_)
  · obtain ⟨a, ws, rfl, _⟩ := h
    rfl
  · obtain ⟨a, ws, rfl, ha, hs, q⟩ := h
    have hu2 : (A.deeper (envOfC "_law_are_names" (defScope s_law_are_names) s.heap.objs.size (He.ga K "_law_are_names") cdv)).units + 2 < cLine := by
      have := hr.un
      omega
    refine ⟨_, (pss_one (ps_ret (pe_cmpR (op_eqE hu2) (pe_lc (own := [("_law_word_here", 1)]) (g := gName 1) rfl sc__law_are_names.nd (pi_tup (pv 0)) (blkOk_by (own := [("_law_word_here", 1)]) (N := ["_law_words_here", "_law_word_here"]) (sc := defScope s_law_are_names) (by decide +kernel)) (fun _ _ _ _ _ => (pg_name (i := 1) sc__law_are_names.nd rfl (Or.inl rfl))) (fun _ _ _ _ _ => (pts_one (pt_not (pt_val (pe_d D__law_is_name (hr.mono (by decide)) (by rfl) pass0 (pa_cons (pv 1) pa_nil)))))) (fun _ _ _ _ _ => (pv 1))) (pe_lst pa_nil) (nomark _)))), ?_⟩
    refine s_ret (ev_eqE (zs := ws.filter fun w => !okN w) ?_) fun H2 e2 => ?_
    · have e : (ws.filter fun w => !okN w).map V.str = ((ws.map V.str).filter fun v => match v with
            | .str w => !okN w
            | _ => false).map id := by
        rw [List.map_id, List.filter_map]
        rfl
      rw [e]
      refine el_lc _ _ (ei_tup (ev_var rfl) ha) (by
        rw [List.length_map]
        exact Nat.le_trans hs.1 (by decide)) (fun _ => rfl) (fun x hx => ?_) (fun x hx hp => ev_var rfl)
      obtain ⟨c, hc, rfl⟩ := List.mem_map.mp hx
      exact et_not (et_B (ev_d (ea_cons (ev_var rfl) ea_nil) fun H1 e1 Q1 q1 => ⟨c, rfl, hs.2 c hc, q1⟩))
    · rw [filter_nil_iff]
      exact q H2 e2
end
end Q7
/-! codes: look_codes, row_codes, branch_codes, head, suits, fits, is_look, is_looks -/
namespace Q7
open PySem PySem.Spec PyProof.Rows L2 Evl
/-! ### the plain side -/
def lookC (w : Str) : Option (List Str) := if decide (w ∈ looks_) = true then (if decide (w = "mark") = true then some ["slot"] else deeds_.lookup w) else none
def rowC (w : Str) : Option (List Str) := match plain_.lookup w with
  | some cs => some cs
  | none => if decide (w ∈ unsaid_) = true then none else deeds_.lookup w
def brC (o w : Str) : Option (List Str) := if decide (w = "ask") = true then some ["name"] else if (decide (w = "take") || (decide (o = "if") && decide (w ∈ (["has", "read", "bound"] : List Str)))) = true then deeds_.lookup w else none
def fitsB (ws : List Str) : Option (List Str) → Bool
  | none => false
  | some cs => decide (ws.length = 1 + cs.length) && (ws.drop 1).all okN
def headOf : List Str → Str
  | [] => ""
  | w :: _ => w
/-- none of the codes that no row has -/
def CodesOk (o : Option (List Str)) : Prop := ∀ cs, o = some cs → cs.length ≤ 5 ∧ ∀ c ∈ cs, c ≠ "length" ∧ c ≠ "keys"
theorem looks_deeds : ∀ w ∈ looks_, (deeds_.lookup w).isSome = true := by decide +kernel
theorem lookup_mem {α : Type} : ∀ {l : List (Str × α)} {z : Str} {v : α}, l.lookup z = some v → (z, v) ∈ l
  | (k, v) :: r, z, u, h => by
    rw [List.lookup_cons] at h
    cases hb : z == k with
    | true =>
      rw [hb] at h
      have e : v = u := Option.some.inj h
      have e2 : z = k := by simpa using hb
      rw [e, e2]
      exact List.mem_cons_self
    | false =>
      rw [hb] at h
      exact List.mem_cons_of_mem _ (lookup_mem h)
theorem deeds_ok : ∀ p ∈ deeds_, p.1 = "fetch" ∨ p.1 = "load" ∨ (p.2.length ≤ 5 ∧ ∀ c ∈ p.2, c ≠ "length" ∧ c ≠ "keys") := by decide +kernel
theorem plain_ok : ∀ p ∈ plain_, p.2.length ≤ 5 ∧ ∀ c ∈ p.2, c ≠ "length" ∧ c ≠ "keys" := by decide +kernel
theorem lookC_ok (w : Str) : CodesOk (lookC w) := by
  intro cs h
  unfold lookC at h
  by_cases h1 : w ∈ looks_
  · rw [if_pos (decide_eq_true h1)] at h
    by_cases h2 : w = "mark"
    · rw [if_pos (decide_eq_true h2)] at h
      obtain rfl : (["slot"] : List Str) = cs := Option.some.inj h
      decide
    · rw [if_neg (by simpa using h2)] at h
      rcases deeds_ok _ (lookup_mem h) with e | e | e
      · exact absurd h1 (by rw [show w = "fetch" from e]; decide)
      · exact absurd h1 (by rw [show w = "load" from e]; decide)
      · exact e
  · rw [if_neg (by simpa using h1)] at h
    cases h
theorem rowC_ok (w : Str) : CodesOk (rowC w) := by
  intro cs h
  unfold rowC at h
  cases hp : plain_.lookup w with
  | some c =>
    rw [hp] at h
    obtain rfl : c = cs := Option.some.inj h
    exact plain_ok _ (lookup_mem hp)
  | none =>
    rw [hp] at h
    by_cases h2 : w ∈ unsaid_
    · simp only [decide_eq_true h2, if_true] at h
      cases h
    · simp only [decide_eq_false h2, Bool.false_eq_true, if_false] at h
      rcases deeds_ok _ (lookup_mem h) with e | e | e
      · rw [show w = "fetch" from e] at hp
        exact absurd hp (by decide)
      · rw [show w = "load" from e] at hp
        exact absurd hp (by decide)
      · exact e
theorem brC_ok (o w : Str) : CodesOk (brC o w) := by
  intro cs h
  unfold brC at h
  by_cases h1 : w = "ask"
  · rw [if_pos (decide_eq_true h1)] at h
    obtain rfl : (["name"] : List Str) = cs := Option.some.inj h
    decide
  · rw [if_neg (by simpa using h1)] at h
    split at h
    · rename_i h3
      rcases deeds_ok _ (lookup_mem h) with e | e | e
      · rw [show w = "fetch" from e, show decide ((("fetch" : Str)) = "take") = false from by decide, show decide ((("fetch" : Str)) ∈ (["has", "read", "bound"] : List Str)) = false from by decide, Bool.and_false, Bool.or_false] at h3
        cases h3
      · rw [show w = "load" from e, show decide ((("load" : Str)) = "take") = false from by decide, show decide ((("load" : Str)) ∈ (["has", "read", "bound"] : List Str)) = false from by decide, Bool.and_false, Bool.or_false] at h3
        cases h3
      · exact e
    · cases h
/-! ### codes as values -/
def CodeV (K : PySem.W.Frag) (H : Hp) (v : V) : Option (List Str) → Prop
  | none => v = .non
  | some cs => ∃ t, v = .ref t ∧ SqT K H t (cs.map V.str)
theorem CodeV.ex {K : PySem.W.Frag} {H H' : Hp} {v : V} {o : Option (List Str)} (e : Ex H H') (h : CodeV K H v o) : CodeV K H' v o := by
  cases o with
  | none => exact h
  | some cs =>
    obtain ⟨t, h1, h2⟩ := h
    exact ⟨t, h1, ex_t e h2⟩
def RetC (K : PySem.W.Frag) (o : Option (List Str)) (H : Hp) (Q : VK) : Prop := ∀ v H', Ex H H' → CodeV K H' v o → Q v H'
def EvC (K : PySem.W.Frag) (te : TE) (σ : L2.St) (H : Hp) (o : Option (List Str)) : Prop := ∀ H1, Ex H H1 → ∀ Q : VK, RetC K o H1 Q → te σ H1 Q
section
variable {K : PySem.W.Frag} {σ : L2.St} {H H' : Hp} {ta tb te tx tl : TE} {t u : TT} {x y z v : V}
theorem EvC.mono {o : Option (List Str)} (e : Ex H H') (h : EvC K te σ H o) : EvC K te σ H' o := fun H1 a Q q => h H1 (e.trans a) Q q
theorem ec_non : EvC K (tC .non) σ H none := fun H1 _ Q q => q .non H1 (Ex.refl H1) rfl
theorem ec_S {cs : List Str} (h : EvS K te σ H (cs.map V.str)) : EvC K te σ H (some cs) := fun H1 e Q q => h H1 e Q fun p H2 e2 hp => q (.ref p) H2 e2 ⟨p, rfl, hp⟩
theorem ec_is {o o' : Option (List Str)} (h : EvC K te σ H o) (e : o = o') : EvC K te σ H o' := by
  rw [← e]
  exact h
theorem ec_if {b : Bool} {o1 o2 : Option (List Str)} (h : EvT t σ H b) (h1 : b = true → EvC K ta σ H o1) (h2 : b = false → EvC K tb σ H o2) : EvC K (tIf t ta tb) σ H (if b = true then o1 else o2) := fun H1 e Q q => h H1 e _ fun H2 e2 => by
  cases b with
  | true =>
    refine iteT (h1 rfl H2 (e.trans e2) Q fun v H3 e3 hv => q v H3 (e2.trans e3) hv)
  | false =>
    refine iteF (h2 rfl H2 (e.trans e2) Q fun v H3 e3 hv => q v H3 (e2.trans e3) hv)
theorem s_retC {D : Ends} {o : Option (List Str)} (h : EvC K te σ H o) (k : RetC K o H D.rt) : tRet te D σ H := h H (Ex.refl H) _ k
theorem ec_d {sp : Sp} {vs : List V} {E : XK} {ta : TA} {o : Option (List Str)} (h : EvA ta σ H vs) (hs : ∀ H1, Ex H H1 → ∀ Q : VK, RetC K o H1 Q → sp vs H1 Q E) : EvC K (tCallR sp E ta) σ H o := fun H1 e Q q =>
  h H1 e _ fun H2 e2 => hs H2 (e.trans e2) Q fun v H3 e3 hv => q v H3 (e2.trans e3) hv
/-- f(tuple | text, codes) -/
theorem ev_dSC {sp : Sp} {xs : List V} {E : XK} {o : Option (List Str)} (h : EvS K te σ H xs) (hx : EvC K tx σ H o) (hs : ∀ p c H1, Ex H H1 → SqT K H1 p xs → CodeV K H1 c o → ∀ Q : VK, (∀ H2, Ex H1 H2 → Q z H2) → sp [.ref p, c] H1 Q E) : Ev (tCallR sp E (tCons te (tCons tx tNil))) σ H z := fun H1 e Q q =>
  h H1 e _ fun p H2 e2 hp => hx H2 (e.trans e2) _ fun c H3 e3 hc => hs p c H3 ((e.trans e2).trans e3) (ex_t e3 hp) hc Q fun H4 e4 => q H4 ((e2.trans e3).trans e4)
/-- d[word], d a written dict of tuples of texts -/
theorem es_kd {w : World} {d : Addr} {es : Array DictEntry} {n : Nat} {kvs : List (Str × List Str)} {z : Str} {vs : List Str} (D : KDict K w d es n) (hT : tabB K d kvs = true) (hz : kvs.lookup z = some vs) (ha : Ev ta σ H (.ref d)) (hb : Ev tb σ H (.str z)) :
    EvS K (tOp (rIxD K w) ta tb) σ H (vs.map V.str) := fun H1 e Q q =>
  ha H1 e _ fun H2 e2 => hb H2 (e.trans e2) _ fun H3 e3 => by
    obtain ⟨t, h1, h2⟩ := tab_some hT hz H3
    exact ⟨d, z, .ref t, rfl, rfl, ⟨es, n, .ref t, D.at_, D.lit, h1, rfl⟩, q t H3 (e2.trans e3) h2⟩
/-- d.get(word) -/
theorem ec_kget {d : Addr} {kvs : List (Str × List Str)} {z : Str} (hT : tabB K d kvs = true) (ha : Ev ta σ H (.ref d)) (hb : Ev tb σ H (.str z)) : EvC K (tKGet K d ta tb) σ H (kvs.lookup z) := fun H1 e Q q =>
  ha H1 e _ fun H2 e2 => ⟨rfl, hb H2 (e.trans e2) _ fun H3 e3 => by
    cases h : kvs.lookup z with
    | none =>
      rw [h] at q
      exact ⟨z, .non, rfl, Or.inl ⟨tab_none hT h, rfl⟩, q .non H3 (e2.trans e3) rfl⟩
    | some vs =>
      rw [h] at q
      obtain ⟨t, h1, h2⟩ := tab_some hT h H3
      exact ⟨z, .ref t, rfl, Or.inr ⟨.ref t, h1, rfl⟩, q (.ref t) H3 (e2.trans e3) ⟨t, rfl, h2⟩⟩⟩
theorem ev_inkd {d : Addr} {kvs : List (Str × List Str)} {z : Str} (hT : tabB K d kvs = true) (ha : Ev ta σ H (.str z)) (hb : Ev tb σ H (.ref d)) : Ev (tOp (fun x y H Q => ∃ (z : Str) (r : Option Value), x = .str z ∧ y = .ref d ∧ PySem.W.nsIn K d z = some r ∧ Q (.bl r.isSome) H) ta tb) σ H (.bl (kvs.lookup z).isSome) := fun H1 e Q q =>
  ha H1 e _ fun H2 e2 => hb H2 (e.trans e2) _ fun H3 e3 => by
    cases h : kvs.lookup z with
    | none =>
      rw [h] at q
      exact ⟨z, none, rfl, rfl, tab_none hT h, q H3 (e2.trans e3)⟩
    | some vs =>
      rw [h] at q
      obtain ⟨t, h1, h2⟩ := tab_some hT h H3
      exact ⟨z, some (.ref t), rfl, rfl, h1, q H3 (e2.trans e3)⟩
/-- x in a written row of texts -/
theorem ev_inG {z : Str} {a : Addr} {vs : List Str} (hG : ∀ H, SqT K H a (vs.map V.str)) (ha : Ev ta σ H (.str z)) (hb : Ev tb σ H (.ref a)) : Ev (tOp (rIn K false) ta tb) σ H (.bl (decide (z ∈ vs))) := by
  have h := ev_inS (neg := false) (K := K) ha (es_T hb (hG H)) rfl (flat_strs vs)
  rw [inV_str] at h
  exact h
theorem ev_niG {z : Str} {a : Addr} {vs : List Str} (hG : ∀ H, SqT K H a (vs.map V.str)) (ha : Ev ta σ H (.str z)) (hb : Ev tb σ H (.ref a)) : Ev (tOp (rIn K true) ta tb) σ H (.bl (!decide (z ∈ vs))) := by
  have h := ev_inS (neg := true) (K := K) ha (es_T hb (hG H)) rfl (flat_strs vs)
  rw [inV_str] at h
  exact h
/-- x in ('a', ..) -/
theorem ev_inD {z : Str} (vs : List Str) (ha : Ev ta σ H (.str z)) (hb : EvU tb σ H (vs.map V.str)) : Ev (tOp (rIn K false) ta tb) σ H (.bl (decide (z ∈ vs))) := by
  have h := ev_inS (neg := false) (K := K) ha (es_U hb) rfl (flat_strs vs)
  rw [inV_str] at h
  exact h
theorem ev_niD {z : Str} (vs : List Str) (ha : Ev ta σ H (.str z)) (hb : EvU tb σ H (vs.map V.str)) : Ev (tOp (rIn K true) ta tb) σ H (.bl (!decide (z ∈ vs))) := by
  have h := ev_inS (neg := true) (K := K) ha (es_U hb) rfl (flat_strs vs)
  rw [inV_str] at h
  exact h
theorem tyT {a : Addr} {xs : List V} (h : SqT K H a xs) : ∀ H1, Ex H H1 → TyX K H1 (.ref a) (.type "tuple") := fun H1 e => by
  rcases ex_t e h with (h | ⟨o, h⟩) | ⟨o, its, n, h1, h2, _⟩
  · exact .base (.tup h)
  · exact .fTuple h
  · exact .kTuple h1 h2
theorem ev_eqS {x y : Str} (ha : Ev ta σ H (.str x)) (hb : Ev tb σ H (.str y)) : Ev (tOp rEq ta tb) σ H (.bl (decide (x = y))) := by
  have h := ev_op ha hb (rv_eq rfl)
  have e : decide (V.str x = V.str y) = decide (x = y) := by
    by_cases h : x = y
    · rw [decide_eq_true h, decide_eq_true (congrArg V.str h)]
    · rw [decide_eq_false h, decide_eq_false (fun q => h (V.str.inj q))]
  rw [e] at h
  exact h
theorem ev_neS {x y : Str} (ha : Ev ta σ H (.str x)) (hb : Ev tb σ H (.str y)) : Ev (tOp rNe ta tb) σ H (.bl (!decide (x = y))) := by
  have h := ev_op ha hb (rv_ne rfl)
  have e : decide (V.str x = V.str y) = decide (x = y) := by
    by_cases h : x = y
    · rw [decide_eq_true h, decide_eq_true (congrArg V.str h)]
    · rw [decide_eq_false h, decide_eq_false (fun q => h (V.str.inj q))]
  rw [e] at h
  exact h
theorem ev_eqI {x y : Int} (ha : Ev ta σ H (.int x)) (hb : Ev tb σ H (.int y)) : Ev (tOp rEq ta tb) σ H (.bl (decide (x = y))) := by
  have h := ev_op ha hb (rv_eq rfl)
  have e : decide (V.int x = V.int y) = decide (x = y) := by
    by_cases h : x = y
    · rw [decide_eq_true h, decide_eq_true (congrArg V.int h)]
    · rw [decide_eq_false h, decide_eq_false (fun q => h (V.int.inj q))]
  rw [e] at h
  exact h
theorem ev_neI {x y : Int} (ha : Ev ta σ H (.int x)) (hb : Ev tb σ H (.int y)) : Ev (tOp rNe ta tb) σ H (.bl (!decide (x = y))) := by
  have h := ev_op ha hb (rv_ne rfl)
  have e : decide (V.int x = V.int y) = decide (x = y) := by
    by_cases h : x = y
    · rw [decide_eq_true h, decide_eq_true (congrArg V.int h)]
    · rw [decide_eq_false h, decide_eq_false (fun q => h (V.int.inj q))]
  rw [e] at h
  exact h
end
section
variable {P : Program} {w : World} {K : PySem.W.Frag} {mg : Str → Option Value} {base : Heap}
/-! ### the defs -/
def spLookC (K : PySem.W.Frag) : Sp := fun vs H Q _ => ∃ z : Str, vs = [.str z] ∧ RetC K (lookC z) H Q
theorem sc_look_codes : FnScope ["word"] ["word"] (defScope s_look_codes) := ⟨rfl, rfl, rfl, by decide +kernel, rfl, by decide +kernel, by decide +kernel⟩
theorem D_look_codes (T : Txt w K mg) : Dn P w K mg base CX0 1 "look_codes" (spLookC K) := by
  refine mkD0 T.fds_look_codes T.g_look_codes T.kps_look_codes sc_look_codes (fun _ _ _ _ _ _ us hl => match us, hl with | [_], _ => rfl) (fun vs H Q E h => ?_) (fun cdv A outer s H vs Q E hr h => ?_)
  · obtain ⟨z, rfl, _⟩ := h
    rfl
  · obtain ⟨z, rfl, q⟩ := h
    obtain ⟨_, _, KD⟩ := T.deeds
    refine ⟨_, (pss_cons (ps_if (pt_cmpR op_notIn_seq (pv 0) (pe_glob (v := .ref (He.ga K "LOOKS")) (by rfl) T.g_LOOKS rfl) (by rfl)) (pss_one (ps_ret pe_non)) pss_nil)
    (pss_one (ps_ret (pe_ifExp (pt_cmpR op_eq (pv 0) pe_str (nomark _)) (pe_tup (pa_cons pe_str pa_nil)) (pe_ix ix_kdict (pe_glob (v := .ref (He.ga K "DEEDS")) (by rfl) T.g_DEEDS rfl) (pv 0) (fun _ _ => rfl)))))), ?_⟩
    refine q_when (et_test (ev_niG T.t_LOOKS (ev_var rfl) ev_c)) (fun hb H1 e1 => s_ret ev_c fun H2 e2 => ?_) (fun hb H1 e1 => ?_)
    · have e : lookC z = none := by
        unfold lookC
        rw [if_neg (by simpa using hb)]
      exact q _ H2 (e1.trans e2) (by rw [e]; rfl)
    · have hm : z ∈ looks_ := by simpa using hb
      obtain ⟨vs, hv⟩ := Option.isSome_iff_exists.mp (looks_deeds z hm)
      refine s_retC (K := K) (ec_if (et_test (ev_eqS (ev_var rfl) ev_c)) (fun _ => ec_S (cs := ["slot"]) (es_U (eu_tup (ea_cons ev_c ea_nil) (by decide)))) (fun _ => ec_S (es_kd KD T.t_DEEDS hv ev_c (ev_var rfl)))) fun v H2 e2 hv2 => ?_
      have e : lookC z = if decide (z = "mark") = true then some (["slot"] : List Str) else some vs := by
        unfold lookC
        rw [if_pos (by simpa using hm), hv]
      exact q v H2 (e1.trans e2) (by rw [e]; exact hv2)
def spRowC (K : PySem.W.Frag) : Sp := fun vs H Q _ => ∃ z : Str, vs = [.str z] ∧ RetC K (rowC z) H Q
theorem sc_row_codes : FnScope ["word"] ["word"] (defScope s_row_codes) := ⟨rfl, rfl, rfl, by decide +kernel, rfl, by decide +kernel, by decide +kernel⟩
theorem D_row_codes (T : Txt w K mg) : Dn P w K mg base CX0 1 "row_codes" (spRowC K) := by
  refine mkD0 T.fds_row_codes T.g_row_codes T.kps_row_codes sc_row_codes (fun _ _ _ _ _ _ us hl => match us, hl with | [_], _ => rfl) (fun vs H Q E h => ?_) (fun cdv A outer s H vs Q E hr h => ?_)
  · obtain ⟨z, rfl, _⟩ := h
    rfl
  · obtain ⟨z, rfl, q⟩ := h
    obtain ⟨_, _, KD_DEEDS⟩ := T.deeds
    obtain ⟨_, _, KD_PLAIN⟩ := T.plain
    refine ⟨_, (pss_cons (ps_if (pt_cmpR (op_in_kd KD_PLAIN) (pv 0) (pe_glob (v := .ref (He.ga K "PLAIN")) (by rfl) T.g_PLAIN rfl) (by rfl)) (pss_one (ps_ret (pe_ix ix_kdict (pe_glob (v := .ref (He.ga K "PLAIN")) (by rfl) T.g_PLAIN rfl) (pv 0) (fun _ _ => rfl)))) pss_nil)
    (pss_one (ps_ret (pe_ifExp (pt_cmpR op_in_seq (pv 0) (pe_glob (v := .ref (He.ga K "UNSAID")) (by rfl) T.g_UNSAID rfl) (by rfl)) pe_non (pe_kget KD_DEEDS (pe_glob (v := .ref (He.ga K "DEEDS")) (by rfl) T.g_DEEDS rfl) (pv 0) ⟨rfl, rfl, rfl, rfl⟩))))), ?_⟩
    refine q_when (et_test (ev_inkd T.t_PLAIN (ev_var rfl) ev_c)) (fun hb H1 e1 => ?_) (fun hb H1 e1 => ?_)
    · obtain ⟨vs, hv⟩ := Option.isSome_iff_exists.mp hb
      refine s_retC (K := K) (ec_S (es_kd KD_PLAIN T.t_PLAIN hv ev_c (ev_var rfl))) fun v H2 e2 hv2 => q v H2 (e1.trans e2) ?_
      have e : rowC z = some vs := by
        unfold rowC
        rw [hv]
      rw [e]
      exact hv2
    · refine s_retC (K := K) (ec_if (et_test (ev_inG T.t_UNSAID (ev_var rfl) ev_c)) (fun _ => ec_non) (fun _ => ec_kget T.t_DEEDS ev_c (ev_var rfl))) fun v H2 e2 hv2 => q v H2 (e1.trans e2) ?_
      have e : rowC z = if decide (z ∈ unsaid_) = true then none else deeds_.lookup z := by
        unfold rowC
        cases h : plain_.lookup z with
        | none => rfl
        | some c =>
          rw [h] at hb
          cases hb
      rw [e]
      exact hv2
def spBrC (K : PySem.W.Frag) : Sp := fun vs H Q _ => ∃ o z : Str, vs = [.str o, .str z] ∧ RetC K (brC o z) H Q
theorem take_in : ∀ z : Str, (z = "take" ∨ z ∈ (["has", "read", "bound"] : List Str)) → (deeds_.lookup z).isSome = true := by
  intro z h
  rcases h with rfl | h
  · decide
  · exact (by decide +kernel : ∀ z ∈ (["has", "read", "bound"] : List Str), (deeds_.lookup z).isSome = true) z h
theorem sc_branch_codes : FnScope ["opener", "word"] ["opener", "word"] (defScope s_branch_codes) := ⟨rfl, rfl, rfl, by decide +kernel, rfl, by decide +kernel, by decide +kernel⟩
theorem D_branch_codes (T : Txt w K mg) : Dn P w K mg base CX0 1 "branch_codes" (spBrC K) := by
  refine mkD0 T.fds_branch_codes T.g_branch_codes T.kps_branch_codes sc_branch_codes (fun _ _ _ _ _ _ us hl => match us, hl with | [_, _], _ => rfl) (fun vs H Q E h => ?_) (fun cdv A outer s H vs Q E hr h => ?_)
  · obtain ⟨o, z, rfl, _⟩ := h
    rfl
  · obtain ⟨o, z, rfl, q⟩ := h
    obtain ⟨_, _, KD⟩ := T.deeds
    refine ⟨_, (pss_cons (ps_if (pt_cmpR op_eq (pv 1) pe_str (nomark _)) (pss_one (ps_ret (pe_tup (pa_cons pe_str pa_nil)))) pss_nil)
    (pss_cons (ps_if (PW.pt (pw_or (pt_cmpR op_eq (pv 1) pe_str (nomark _)) (pw_or1 (PW.pt (pw_and (pt_cmpR op_eq (pv 0) pe_str (nomark _)) (pw_and1 (pt_cmpR op_in_seq (pv 1) (pe_tup (pa_cons pe_str (pa_cons pe_str (pa_cons pe_str pa_nil)))) (by rfl)))))))) (pss_one (ps_ret (pe_ix ix_kdict (pe_glob (v := .ref (He.ga K "DEEDS")) (by rfl) T.g_DEEDS rfl) (pv 1) (fun _ _ => rfl)))) pss_nil)
    (pss_one (ps_ret pe_non)))), ?_⟩
    refine q_when (et_test (ev_eqS (ev_var rfl) ev_c)) (fun hb H1 e1 => ?_) (fun hb H1 e1 => ?_)
    · refine s_retC (K := K) (ec_S (cs := ["name"]) (es_U (eu_tup (ea_cons ev_c ea_nil) (by decide)))) fun v H2 e2 hv2 => q v H2 (e1.trans e2) ?_
      have e : brC o z = some (["name"] : List Str) := by
        unfold brC
        rw [if_pos hb]
      rw [e]
      exact hv2
    · refine q_when (et_or (et_test (ev_eqS (ev_var rfl) ev_c)) (fun _ => et_and (et_test (ev_eqS (ev_var rfl) ev_c)) (fun _ => et_test (ev_inD ["has", "read", "bound"] (ev_var rfl) (eu_tup (ea_cons ev_c (ea_cons ev_c (ea_cons ev_c ea_nil))) (by decide)))))) (fun hb2 H2 e2 => ?_) (fun hb2 H2 e2 => ?_)
      · have hi : (deeds_.lookup z).isSome = true := take_in z (by
          simp only [Bool.or_eq_true, Bool.and_eq_true, decide_eq_true_eq] at hb2
          rcases hb2 with h | h
          · exact Or.inl h
          · exact Or.inr (by simpa using h.2))
        obtain ⟨vs, hv⟩ := Option.isSome_iff_exists.mp hi
        refine s_retC (K := K) (ec_S (es_kd KD T.t_DEEDS hv ev_c (ev_var rfl))) fun v H3 e3 hv2 => q v H3 ((e1.trans e2).trans e3) ?_
        have e : brC o z = some vs := by
          unfold brC
          rw [if_neg (by rw [hb]; decide), if_pos hb2, hv]
        rw [e]
        exact hv2
      · refine s_ret ev_c fun H3 e3 => q .non H3 ((e1.trans e2).trans e3) ?_
        have e : brC o z = none := by
          unfold brC
          rw [if_neg (by rw [hb]; decide), if_neg (by rw [hb2]; decide)]
        rw [e]
        rfl
end
end Q7
/-! rows as data; head, suits, fits, is_look, is_looks, is_watcher, is_row, is_probe -/
namespace Q7
open PySem PySem.Spec PyProof.Rows L2 Evl
/-! ### rows -/
inductive R where
  | non | tru | lst
  | str (s : Str)
  | tup (ws : List Str)
  | pro (n g : Str) (as bs : List (List Str))
  | ass (n g : Str) (as : List (List Str)) (t : List Str)
def strsOf : List V → List Str
  | .str w :: r => w :: strsOf r
  | _ :: r => strsOf r
  | [] => []
theorem strsOf_map : ∀ ws : List Str, strsOf (ws.map V.str) = ws
  | [] => rfl
  | w :: r => by
    show w :: strsOf (r.map V.str) = w :: r
    rw [strsOf_map r]
def lkOf (H : Hp) : V → List Str
  | .ref a => (match H a with
    | some (.tup xs) => strsOf xs
    | _ => [])
  | _ => []
def LkV (H : Hp) (v : V) (ws : List Str) : Prop := ∃ a, v = .ref a ∧ H a = some (.tup (ws.map V.str))
theorem LkV.lk {H : Hp} {v : V} {ws : List Str} (h : LkV H v ws) : lkOf H v = ws := by
  obtain ⟨a, rfl, e⟩ := h
  show (match H a with
    | some (.tup xs) => strsOf xs
    | _ => []) = ws
  rw [e]
  exact strsOf_map ws
abbrev AllV (H : Hp) : List V → List (List Str) → Prop := Paired (LkV H)
theorem AllV.eq {H : Hp} {vs : List V} {as : List (List Str)} (h : AllV H vs as) : vs.map (lkOf H) = as := by
  induction h with
  | nil => rfl
  | cons a _ ih =>
    rw [List.map_cons, ih, a.lk]
theorem AllV.mem {H : Hp} {vs : List V} {as : List (List Str)} (h : AllV H vs as) : ∀ v ∈ vs, ∃ ws ∈ as, LkV H v ws := by
  induction h with
  | nil =>
    intro v hv
    cases hv
  | cons a _ ih =>
    intro v hv
    rcases List.mem_cons.mp hv with rfl | hv
    · exact ⟨_, List.mem_cons_self, a⟩
    · obtain ⟨ws, hm, hl⟩ := ih v hv
      exact ⟨ws, List.mem_cons_of_mem _ hm, hl⟩
/-- all stays but that lists may be other lists -/
def Kp (H H' : Hp) : Prop := (∀ b o, H b = some o → (∀ xs, o ≠ .lst xs) → H' b = some o) ∧ ∀ b xs, H b = some (.lst xs) → ∃ ys, H' b = some (.lst ys)
theorem Kp.refl (H : Hp) : Kp H H := ⟨fun _ _ h _ => h, fun _ _ h => ⟨_, h⟩⟩
theorem Kp.trans {H H1 H2 : Hp} (a : Kp H H1) (b : Kp H1 H2) : Kp H H2 := ⟨fun c o h n => b.1 c o (a.1 c o h n) n, fun c o h => by
  obtain ⟨ys, h1⟩ := a.2 c o h
  exact b.2 c ys h1⟩
theorem Kp.ex {H H' : Hp} (e : Ex H H') : Kp H H' := ⟨fun b o h _ => e b _ h, fun b xs h => ⟨xs, e b _ h⟩⟩
theorem Kp.tup {H H' : Hp} (k : Kp H H') {b : Addr} {xs : List V} (h : H b = some (.tup xs)) : H' b = some (.tup xs) := k.1 b _ h fun _ q => by cases q
/-- a list becomes another -/
theorem Kp.put {H : Hp} {a : Addr} {xs ys : List V} (h : H a = some (.lst xs)) : Kp H (upd H a (.lst ys)) := by
  refine ⟨fun b o hb n => ?_, fun b zs hb => ?_⟩
  · by_cases e : b = a
    · subst e
      rw [h] at hb
      exact absurd (Option.some.inj hb).symm (n xs)
    · rw [upd_ne e]
      exact hb
  · by_cases e : b = a
    · subst e
      exact ⟨ys, upd_same⟩
    · exact ⟨zs, by rw [upd_ne e]; exact hb⟩
theorem Kp.sqT {K : PySem.W.Frag} {H H' : Hp} (k : Kp H H') {a : Addr} {xs : List V} (h : SqT K H a xs) : SqT K H' a xs := by
  rcases h with (h | ⟨o, h⟩) | h
  · exact Or.inl (Or.inl (k.tup h))
  · exact Or.inl (Or.inr ⟨o, k.1 _ _ h fun _ q => by cases q⟩)
  · exact Or.inr h
theorem LkV.kp {H H' : Hp} {v : V} {ws : List Str} (k : Kp H H') (h : LkV H v ws) : LkV H' v ws := by
  obtain ⟨a, rfl, e⟩ := h
  exact ⟨a, rfl, k.tup e⟩
theorem AllV.kp {H H' : Hp} {vs : List V} {as : List (List Str)} (k : Kp H H') (h : AllV H vs as) : AllV H' vs as := by
  induction h with
  | nil => exact .nil
  | cons a _ ih => exact .cons (a.kp k) ih
def LksV (H : Hp) (v : V) (as : List (List Str)) : Prop := ∃ b vs, v = .ref b ∧ H b = some (.tup vs) ∧ AllV H vs as
theorem LksV.kp {H H' : Hp} {v : V} {as : List (List Str)} (k : Kp H H') (h : LksV H v as) : LksV H' v as := by
  obtain ⟨b, vs, rfl, e, a⟩ := h
  exact ⟨b, vs, rfl, k.tup e, a.kp k⟩
def RowV (H : Hp) (v : V) : R → Prop
  | .non => v = .non
  | .tru => v = .bl true
  | .lst => ∃ a xs, v = .ref a ∧ H a = some (.lst xs)
  | .str s => v = .str s
  | .tup ws => LkV H v ws
  | .pro n g as bs => ∃ a b c, v = .ref a ∧ H a = some (.tup [.str "probe", .str n, .str g, b, c]) ∧ LksV H b as ∧ LksV H c bs
  | .ass n g as t => ∃ a b c, v = .ref a ∧ H a = some (.tup [.str "assert", .str n, .str g, b, c]) ∧ LksV H b as ∧ LkV H c t
theorem RowV.kp {H H' : Hp} {v : V} {r : R} (k : Kp H H') (h : RowV H v r) : RowV H' v r := by
  cases r with
  | non => exact h
  | tru => exact h
  | lst =>
    obtain ⟨a, xs, h1, h2⟩ := h
    obtain ⟨ys, h3⟩ := k.2 _ _ h2
    exact ⟨a, ys, h1, h3⟩
  | str s => exact h
  | tup ws => exact LkV.kp k h
  | pro n g as bs =>
    obtain ⟨a, b, c, h1, h2, h3, h4⟩ := h
    exact ⟨a, b, c, h1, k.tup h2, h3.kp k, h4.kp k⟩
  | ass n g as t =>
    obtain ⟨a, b, c, h1, h2, h3, h4⟩ := h
    exact ⟨a, b, c, h1, k.tup h2, h3.kp k, h4.kp k⟩
/-- of a size that the rules take -/
def ROk : R → Prop
  | .tup ws => ws.length ≤ 4 ∧ Sh ws
  | .pro n g as bs => n.length ≤ 100000 ∧ g.length ≤ 100000 ∧ as.length ≤ 1000 ∧ bs.length ≤ 1000 ∧ (∀ l ∈ as, Sh l) ∧ ∀ l ∈ bs, Sh l
  | .ass n g as t => n.length ≤ 100000 ∧ g.length ≤ 100000 ∧ as.length ≤ 1000 ∧ (∀ l ∈ as, Sh l) ∧ Sh t
  | _ => True
/-! ### what the checks answer -/
def lookB (ws : List Str) : Bool := fitsB ws (lookC (headOf ws))
def watchB : R → Bool
  | .pro n g as bs => okN n && (decide (g ∈ gates_) && (as.all lookB && (bs.all lookB && decide (as.length + bs.length ≤ 6))))
  | .ass n g as t => okN n && (decide (g ∈ gates_) && (as.all lookB && (lookB t && (decide (headOf t ∈ asserted_) && decide (as.length ≤ 6)))))
  | _ => false
def tupB (ws : List Str) : Bool := match ws with
  | [] => false
  | w :: r => if w = "" then false else if w = "probe" ∨ w = "assert" then false else if w = "if" ∨ w = "while" then fitsB r (brC w (headOf r)) else fitsB (w :: r) (rowC w)
def rowB : R → Bool
  | .tup ws => tupB ws
  | .pro n g as bs => watchB (.pro n g as bs)
  | .ass n g as t => watchB (.ass n g as t)
  | _ => false
section
variable {K : PySem.W.Frag} {σ : L2.St} {H H' : Hp} {ta tb te tx tl : TE} {t u : TT} {x y z v : V}
theorem mcase_no {f : Str → Bool} {tb : TS} {tr : TC} {y : Str} {D : Ends} (h : f y = false) (q : tr y D σ H) : tMCase f tb tr y D σ H := by
  unfold tMCase
  rw [if_neg (by rw [h]; decide)]
  exact q
theorem mcase_yes {f : Str → Bool} {tb : TS} {tr : TC} {y : Str} {D : Ends} (h : f y = true) (q : tb D σ H) : tMCase f tb tr y D σ H := by
  unfold tMCase
  rw [if_pos h]
  exact q
theorem s_match {te : TE} {t : TC} {y : Str} {D : Ends} (h : Ev te σ H (.str y)) (k : ∀ H1, Ex H H1 → t y D σ H1) : tMatch te t D σ H := h H (Ex.refl H) _ fun H1 e1 => ⟨y, rfl, k H1 e1⟩
theorem q_match {te : TE} {t : TC} {tz : TS} {y : Str} {D : Ends} (h : Ev te σ H (.str y)) (k : ∀ H1, Ex H H1 → t y { D with nx := tz D } σ H1) : tSeq (tMatch te t) tz D σ H := s_match (D := { D with nx := tz D }) h k
theorem ev_isN (ha : Ev ta σ H x) : Ev (tOp (fun x y H Q => y = .non ∧ Q (.bl (decide (x = .non))) H) ta (tC .non)) σ H (.bl (decide (x = .non))) := fun H1 e Q q => ha H1 e _ fun H2 e2 => ⟨rfl, q H2 e2⟩
theorem ev_notN (ha : Ev ta σ H x) : Ev (tOp (fun x y H Q => y = .non ∧ Q (.bl (!decide (x = .non))) H) ta (tC .non)) σ H (.bl (!decide (x = .non))) := fun H1 e Q q => ha H1 e _ fun H2 e2 => ⟨rfl, q H2 e2⟩
theorem es_from {xs : List V} (i : Nat) {j : Int} (h : EvS K te σ H xs) (hj : j = (i : Int) := by rfl) : EvS K (tSl (rSlA K) te (tPart (tC (.int j))) tNoPart) σ H (xs.drop i) := by
  have z := es_slS h (eo_some (ev_c (v := .int j))) eo_none
  rw [show cutV xs (some j) none = xs.drop i by rw [hj]; exact cutV_from xs i] at z
  exact z
def vName (x _y : V) : V := match x with
  | V.str w => V.bl (okN w)
  | _ => V.non
theorem zip_all {α β : Type} (p : α → Bool) : ∀ (xs : List α) (ys : List β), xs.length = ys.length → ((xs.zip ys).map fun q => p q.1).all id = xs.all p
  | [], [], _ => rfl
  | x :: xs, y :: ys, h => by
    have ih := zip_all p xs ys (by simpa using h)
    simp only [List.zip_cons_cons, List.map_cons, List.all_cons, ih, id]
  | [], _ :: _, h => by simp at h
  | _ :: _, [], h => by simp at h
end
section
variable {P : Program} {w : World} {K : PySem.W.Frag} {mg : Str → Option Value} {base : Heap}
/-! ### head -/
def HdV (K : PySem.W.Frag) (H : Hp) (v : V) (hd : Str) : Prop :=
  (hd = "" ∧ (v = .non ∨ v = .bl true ∨ (∃ s, v = .str s) ∨ ∃ a xs, v = .ref a ∧ H a = some (.lst xs))) ∨ ∃ a xs, v = .ref a ∧ SqT K H a xs ∧ (xs = [] ∧ hd = "" ∨ ∃ w r, xs = .str w :: r ∧ hd = w)
theorem hd_strs {a : Addr} {ws : List Str} {H : Hp} (h : SqT K H a (ws.map V.str)) : HdV K H (.ref a) (headOf ws) := by
  refine Or.inr ⟨a, _, rfl, h, ?_⟩
  cases ws with
  | nil => exact Or.inl ⟨rfl, rfl⟩
  | cons w r => exact Or.inr ⟨w, _, rfl, rfl⟩
def spHead (K : PySem.W.Frag) : Sp := fun vs H Q _ => ∃ v hd, vs = [v] ∧ HdV K H v hd ∧ RetV (.str hd) H Q
theorem sc_head : FnScope ["value"] ["value"] (defScope s_head) := ⟨rfl, rfl, rfl, by decide +kernel, rfl, by decide +kernel, by decide +kernel⟩
theorem D_head (T : Txt w K mg) : Dn P w K mg base CX0 1 "head" (spHead K) := by
  refine mkD0 T.fds_head T.g_head T.kps_head sc_head (fun _ _ _ _ _ _ us hl => match us, hl with | [_], _ => rfl) (fun vs H Q E h => ?_) (fun cdv A outer s H vs Q E hr h => ?_)
  · obtain ⟨v, hd, rfl, _⟩ := h
    rfl
  · obtain ⟨v, hd, rfl, hv, q⟩ := h
    refine ⟨_, (pss_cons (ps_if (PW.pt (pw_and (pt_val (pe_callB call_isi (by rfl) T.n_isinstance bo_isinstance (pa_cons (pv 0) (pa_cons (pe_bltn (v := .ty "tuple") (by rfl) T.n_tuple bo_tuple rfl) pa_nil)))) (pw_and (pt_cmpR op_gt (pe_callB call_len_seq (by rfl) T.n_len PySem.boot_len (pa_cons (pv 0) pa_nil)) pe_int (nomark _)) (pw_and1 (pt_val (pe_callB call_isi (by rfl) T.n_isinstance bo_isinstance (pa_cons (pe_ix ix_tup (pv 0) pe_int (fun _ _ => rfl)) (pa_cons (pe_bltn (v := .ty "str") (by rfl) T.n_str bo_str rfl) pa_nil)))))))) (pss_one (ps_ret (pe_ix ix_tup (pv 0) pe_int (fun _ _ => rfl)))) pss_nil)
    (pss_one (ps_ret pe_str))), ?_⟩
    rcases hv with ⟨rfl, hv⟩ | ⟨a, xs, rfl, ha, hv⟩
    · have fin : ∀ {tx : Value}, (∀ H1, Ex H H1 → TyX K H1 v tx) → PySem.W.kitOne K tx (.type "tuple") = some false → _ := fun {tx} h1 h2 =>
        q_when (tz := tRet (tC (.str ""))) (D := { nx := fun _ H' => Q .non H', rt := Q }) (tu := tRet (tOp (rIxT K) (tVar 0) (tC (.int 0)))) (et_and (u := (tAnd (tTest (tOp (rI0 fun i j => .bl (decide (j < i))) (tCB (fun xs H Q => ∃ p ys, xs = [.ref p] ∧ (SqL K H p ys ∨ SqT K H p ys) ∧ Q (.int ys.length) H) (tCons (tVar 0) tNil)) (tC (.int 0)))) (tB (tCB (rIsi K) (tCons (tOp (rIxT K) (tVar 0) (tC (.int 0))) (tCons (tC (.ty "str")) tNil)))))) (et_B (ev_isi (b := false) (tn := "tuple") (σ := start ["value"] [v]) (ev_var (i := 0) rfl) ev_c h1 h2)) (fun z => (Bool.noConfusion z : EvT _ _ _ true))) (fun hb => Bool.noConfusion hb) (fun _ H1 e1 => s_ret ev_c fun H2 e2 => q H2 (e1.trans e2))
      rcases hv with rfl | rfl | ⟨s, rfl⟩ | ⟨a, xs, rfl, ha⟩
      · exact fin (fun _ _ => .base .non) (kit_ty (by decide +kernel))
      · exact fin (fun _ _ => .base (.bl true)) (kit_ty (by decide +kernel))
      · exact fin (fun _ _ => .base (.str s)) (kit_ty (by decide +kernel))
      · exact fin (fun _ e => .base (.lst (e a _ ha))) (kit_ty (by decide +kernel))
    · rcases hv with ⟨rfl, rfl⟩ | ⟨_, r, rfl, rfl⟩
      · refine q_when (et_and (et_B (ev_isi (b := true) (ev_var rfl) ev_c (tyT ha) (kit_ty (by decide +kernel)))) fun _ => et_and (b := true) (et_test (ev_op (ev_lenT (ev_var rfl) ha) ev_c rv_I0)) fun hb => ?_) (fun hb H1 e1 => ?_) (fun hb H1 e1 => s_ret ev_c fun H2 e2 => q H2 (e1.trans e2))
        · exact absurd hb (by decide)
        · exact absurd hb (by decide)
      · refine q_when (et_and (et_B (ev_isi (b := true) (ev_var rfl) ev_c (tyT ha) (kit_ty (by decide +kernel)))) fun _ => et_and (et_test (ev_op (ev_lenT (ev_var rfl) ha) ev_c rv_I0)) fun hb => et_B (ev_isi (b := true) (ev_ixT (ev_var rfl) ha ev_c (atI_nat (j := 0) rfl)) ev_c (fun _ _ => .base (.str _)) (kit_ty (by decide +kernel)))) (fun hb H1 e1 => s_ret (ev_ixT (ev_var rfl) (ex_t e1 ha) ev_c (atI_nat (j := 0) rfl)) fun H2 e2 => q H2 (e1.trans e2)) (fun hb H1 e1 => ?_)
        have h0 : decide ((0 : Int) < ((V.str hd :: r).length : Int)) = true := by simp <;> omega
        rw [h0] at hb
        exact absurd hb (by decide)
/-! ### suits, fits -/
def spSuits : Sp := fun vs H Q _ => ∃ z c : Str, vs = [.str z, .str c] ∧ (c ≠ "length" ∧ c ≠ "keys") ∧ z.length ≤ 100000 ∧ RetV (.bl (okN z)) H Q
theorem sc_suits : FnScope ["value", "code", "name"] ["value", "code"] (defScope s_suits) := ⟨rfl, rfl, rfl, by decide +kernel, rfl, by decide +kernel, by decide +kernel⟩
theorem D_suits (T : Txt w K mg) (D_is_name : Dn P w K mg base CX0 1 "is_name" spIsName) : Dn P w K mg base CX0 2 "suits" spSuits := by
  refine mkD0 T.fds_suits T.g_suits T.kps_suits sc_suits (fun _ _ _ _ _ _ us hl => match us, hl with | [_, _], _ => rfl) (fun vs H Q E h => ?_) (fun cdv A outer s H vs Q E hr h => ?_)
  · obtain ⟨z, c, rfl, _⟩ := h
    rfl
  · obtain ⟨z, c, rfl, ⟨h1, h2⟩, hz, q⟩ := h
    refine ⟨_, (pss_one (ps_match (pv 1) (pm_cons ppat_val pss_never
    (pm_cons ppat_val pss_never
    (pm_cons ppat_any (pss_one (ps_ret (pe_d D_is_name (hr.mono (by decide)) (by rfl) pass0 (pa_cons (pv 0) pa_nil))))
    pm_nil))))), ?_⟩
    refine s_match (ev_var (i := 1) rfl) fun H1 e1 => mcase_no (by simpa using h1) (mcase_no (by simpa using h2) (mcase_yes rfl ?_))
    exact s_ret (ev_d (ea_cons (ev_var rfl) ea_nil) fun H2 e2 Q2 q2 => ⟨z, rfl, hz, q2⟩) fun H3 e3 => q H3 (e1.trans e3)
def spFits (K : PySem.W.Frag) : Sp := fun vs H Q _ => ∃ a ws c o, vs = [.ref a, c] ∧ SqT K H a (ws.map V.str) ∧ Sh ws ∧ CodeV K H c o ∧ CodesOk o ∧ RetV (.bl (fitsB ws o)) H Q
theorem sc_fits : FnScope ["value", "codes", "part", "code"] ["value", "codes"] (defScope s_fits) := ⟨rfl, rfl, rfl, by decide +kernel, rfl, by decide +kernel, by decide +kernel⟩
theorem D_fits (T : Txt w K mg) (D_suits : Dn P w K mg base CX0 2 "suits" spSuits) : Dn P w K mg base CX0 3 "fits" (spFits K) := by
  refine mkD0 T.fds_fits T.g_fits T.kps_fits sc_fits (fun _ _ _ _ _ _ us hl => match us, hl with | [_, _], _ => rfl) (fun vs H Q E h => ?_) (fun cdv A outer s H vs Q E hr h => ?_)
  · obtain ⟨a, ws, c, o, rfl, _⟩ := h
    rfl
  · obtain ⟨a, ws, c, o, rfl, ha, hs, hc, hok, q⟩ := h
    refine ⟨_, (pss_cons (ps_if (PW.pt (pw_or (pt_cmpR op_isN (pv 1) pe_non (nomark _)) (pw_or1 (pt_cmpR op_ne (pe_callB call_len_seq (by rfl) T.n_len PySem.boot_len (pa_cons (pv 0) pa_nil)) (pe_op op_add pe_int (pe_callB call_len_seq (by rfl) T.n_len PySem.boot_len (pa_cons (pv 1) pa_nil))) (nomark _))))) (pss_one (ps_ret pe_bl)) pss_nil)
    (pss_one (ps_ret (pe_callB (cr_all rfl) (by rfl) T.n_all bo_all (pa_cons (pe_lc (own := [("part", 2), ("code", 3)]) (g := gTup K 2 (gCons (gName 2) (gCons (gName 3) gNil))) (tt := tYes) rfl sc_fits.nd (RZ.pi_zipA (by rfl) T.n_zip (pa_cons (pe_slice sl_tupA (pv 0) (po_some pe_int) po_none) (pa_cons (pv 1) pa_nil))) (blkOk_by (own := [("part", 2), ("code", 3)]) (N := ["value", "codes", "part", "code"]) (sc := defScope s_fits) (by decide +kernel)) (fun _ _ _ _ _ => (pg_tup rfl (pgs_cons (pg_name (i := 2) sc_fits.nd rfl (Or.inl rfl)) (pgs_cons (pg_name (i := 3) sc_fits.nd rfl (Or.inl rfl)) pgs_nil)))) (fun _ _ _ _ _ => pts_nil) (fun _ _ _ _ _ => (pe_d D_suits (hr.mono (by decide)) (by rfl) pass0 (pa_cons (pv 2) (pa_cons (pv 3) pa_nil))))) pa_nil))))), ?_⟩
    cases o with
    | none =>
      obtain rfl : c = .non := hc
      refine q_when (et_or (b := true) (et_test (ev_isN (ev_var rfl))) fun z => (Bool.noConfusion (show true = false from z))) (fun hb H1 e1 => s_ret ev_c fun H2 e2 => q H2 (e1.trans e2)) fun hb H1 e1 => Bool.noConfusion (show true = false from hb)
    | some cs =>
      obtain ⟨t, rfl, ht⟩ := hc
      obtain ⟨hl, hcs⟩ := hok cs rfl
      refine q_when (et_or (et_test (ev_isN (ev_var rfl))) fun _ => et_test (ev_neI (ev_lenT (ev_var rfl) ha) (ev_op ev_c (ev_lenT (ev_var rfl) ht) rv_I0))) (fun hb H1 e1 => s_ret ev_c fun H2 e2 => ?_) fun hb H1 e1 => ?_
      · have g : fitsB ws (some cs) = false := by
          show (decide (ws.length = 1 + cs.length) && (ws.drop 1).all okN) = false
          have e : decide (ws.length = 1 + cs.length) = false := by
            simp at hb ⊢
            omega
          rw [e]
          rfl
        rw [← g]
        exact q H2 (e1.trans e2)
      · have hlen : ws.length = 1 + cs.length := by
          simp at hb
          omega
        have hlen2 : (ws.drop 1).length = cs.length := by
          rw [List.length_drop]
          omega
        refine s_ret (ev_all (bs := ((ws.drop 1).zip cs).map fun p => okN p.1) ?_) fun H2 e2 => ?_
        · have e : (((ws.drop 1).zip cs).map fun p => okN p.1).map V.bl = ((((ws.map V.str).drop 1).zip (cs.map V.str))).map fun p => vName p.1 p.2 := by
            rw [← List.map_drop, List.zip_map, List.map_map, List.map_map]
            exact List.map_congr_left fun p _ => rfl
          rw [e]
          refine el_mapP (i := 2) (j := 3) (vs := [2, 3]) vName (ep_zipTT (es_from 1 (es_T (ev_var (i := 0) rfl) (ex_t e1 ha))) (ev_var (i := 1) rfl) (ex_t e1 ht)) (by
            rw [List.length_zip, List.length_drop, List.length_map]
            have := hs.1
            omega) (fun _ _ => rfl) fun p hp => ?_
          obtain ⟨x, y⟩ := p
          have hx := (List.of_mem_zip hp).1
          have hy := (List.of_mem_zip hp).2
          rw [← List.map_drop] at hx
          obtain ⟨z, hz, rfl⟩ := List.mem_map.mp hx
          obtain ⟨k, hk, rfl⟩ := List.mem_map.mp hy
          exact ev_d (ea_cons (ev_var rfl) (ea_cons (ev_var rfl) ea_nil)) fun H3 e3 Q3 q3 => ⟨z, k, rfl, hcs k hk, hs.2 z (List.mem_of_mem_drop hz), q3⟩
        · rw [zip_all okN _ _ hlen2]
          have g : fitsB ws (some cs) = (ws.drop 1).all okN := by
            show (decide (ws.length = 1 + cs.length) && (ws.drop 1).all okN) = _
            rw [decide_eq_true hlen, Bool.true_and]
          rw [← g]
          exact q H2 (e1.trans e2)
end
end Q7
/-! is_look, is_looks, is_watcher, is_row, is_probe, named -/
namespace Q7
open PySem PySem.Spec PyProof.Rows L2 Evl
section
variable {K : PySem.W.Frag} {σ : L2.St} {H H' : Hp} {ta tb te tx tl : TE} {t u : TT} {x y z v : V}
theorem mnil {y : Str} {D : Ends} (q : D.nx σ H) : tMNil y D σ H := q
/-- to some value -/
def EvN (te : TE) (σ : L2.St) (H : Hp) (S : V → Hp → Prop) : Prop := ∀ H1, Ex H H1 → ∀ Q : VK, (∀ y H2, Ex H1 H2 → S y H2 → Q y H2) → te σ H1 Q
theorem EvN.mono {S : V → Hp → Prop} (e : Ex H H') (h : EvN te σ H S) : EvN te σ H' S := fun H1 a Q q => h H1 (e.trans a) Q q
theorem Paired.snoc {α β : Type} {r : α → β → Prop} : ∀ {xs : List α} {ys : List β} {x : α} {y : β}, Paired r xs ys → r x y → Paired r (xs ++ [x]) (ys ++ [y])
  | [], _, _, _, h, k => by
    cases h
    exact .cons k .nil
  | _ :: _, _, _, _, h, k => by
    cases h with
    | cons a b => exact .cons a (Paired.snoc b k)
theorem Paired.app {α β : Type} {r : α → β → Prop} : ∀ {xs xs' : List α} {ys ys' : List β}, Paired r xs ys → Paired r xs' ys' → Paired r (xs ++ xs') (ys ++ ys')
  | [], _, _, _, h, k => by
    cases h
    exact k
  | _ :: _, _, _, _, h, k => by
    cases h with
    | cons a b => exact .cons a (Paired.app b k)
theorem Paired.imp {α β : Type} {r r' : α → β → Prop} (f : ∀ x y, r x y → r' x y) : ∀ {xs : List α} {ys : List β}, Paired r xs ys → Paired r' xs ys
  | [], _, h => by
    cases h
    exact .nil
  | _ :: _, _, h => by
    cases h with
    | cons a b => exact .cons (f _ _ a) (Paired.imp f b)
theorem en_map {wi : TI} {xs : List V} {j : Nat} {vs : List Nat} {S : V → V → Hp → Prop} (mono : ∀ x y H H', Kp H H' → S x y H → S x y H') (h : EvI wi σ H xs) (hz : xs.length ≤ 50000) (hw : ∀ x, wipe ((wipe σ vs).set j (some x)) vs = wipe σ vs)
    (he : ∀ x, x ∈ xs → EvN te ((wipe σ vs).set j (some x)) H (S x)) : EvN (tLc wi (gName j) tYes te vs) σ H (fun v H2 => ∃ p ys, v = .ref p ∧ H p = none ∧ H2 p = some (.lst ys) ∧ Paired (fun x y => S x y H2) xs ys) := fun H0 e Q q =>
  h H0 e _ fun J H1 e1 w Dl hD => by
    refine lc_it w (fun n H' => H1 Dl = none ∧ Ex H1 H' ∧ ∃ ys, H' Dl = some (.lst ys) ∧ ys.length = n ∧ Paired (fun x y => S x y H') (xs.take n) ys) ⟨hD, Ex.new hD, [], upd_same, rfl, .nil⟩ (fun _ H' _ p => p.2.1) (fun n x H' H2 hi pv y => ?_) (fun H' p => ?_)
    · obtain ⟨rfl, hx⟩ := y
      obtain ⟨p1, p2, ys, p3, hl, p4⟩ := pv
      have hm : x ∈ xs := List.mem_of_getElem? hx
      refine ⟨hw x, ?_⟩
      refine et_yes (σ := (wipe σ vs).set j (some x)) (H := H2) _ (Ex.refl _) _ fun H3 e3 => ?_
      rw [if_pos rfl]
      refine he x hm _ (((e.trans e1).trans p2).trans e3) _ fun y H4 e4 hS => ?_
      have hd := e4 Dl _ (e3 Dl _ p3)
      have kp := Kp.put (ys := ys ++ [y]) hd
      refine ⟨_, hd, sz_lt (by omega), p1, Ex.mut ((p2.trans e3).trans e4) p1, _, upd_same, by rw [List.length_append, hl] <;> rfl, ?_⟩
      have htk : xs.take (n + 1) = xs.take n ++ [x] := by rw [List.take_add_one, hx] <;> rfl
      rw [htk]
      exact Paired.snoc (Paired.imp (fun a b k => mono a b _ _ ((Kp.ex (e3.trans e4)).trans kp) k) p4) (mono x y _ _ kp hS)
    · obtain ⟨p1, p2, ys, p3, hl, p4⟩ := p
      rw [List.take_length] at p4
      exact q _ H' (e1.trans p2) ⟨Dl, ys, rfl, fresh_back (e.trans e1) p1, p3, p4⟩
theorem s_retN {D : Ends} {S : V → Hp → Prop} (h : EvN te σ H S) (k : ∀ y H1, Ex H H1 → S y H1 → D.rt y H1) : tRet te D σ H := h H (Ex.refl H) _ k
theorem q_asgN {D : Ends} {tz : TS} {i : Nat} {S : V → Hp → Prop} (h : EvN te σ H S) (k : ∀ y H1, Ex H H1 → S y H1 → tz D (σ.set i (some y)) H1) : tSeq (tAsg te (gName i)) tz D σ H := h H (Ex.refl H) _ k
end
section
variable {P : Program} {w : World} {K : PySem.W.Frag} {mg : Str → Option Value} {base : Heap}
def spIsLook (K : PySem.W.Frag) : Sp := fun vs H Q _ => ∃ a ws, vs = [.ref a] ∧ SqT K H a (ws.map V.str) ∧ Sh ws ∧ RetV (.bl (lookB ws)) H Q
theorem sc_is_look : FnScope ["row"] ["row"] (defScope s_is_look) := ⟨rfl, rfl, rfl, by decide +kernel, rfl, by decide +kernel, by decide +kernel⟩
theorem D_is_look (T : Txt w K mg) (D_head : Dn P w K mg base CX0 1 "head" (spHead K)) (D_look_codes : Dn P w K mg base CX0 1 "look_codes" (spLookC K)) (D_fits : Dn P w K mg base CX0 3 "fits" (spFits K)) : Dn P w K mg base CX0 4 "is_look" (spIsLook K) := by
  refine mkD0 T.fds_is_look T.g_is_look T.kps_is_look sc_is_look (fun _ _ _ _ _ _ us hl => match us, hl with | [_], _ => rfl) (fun vs H Q E h => ?_) (fun cdv A outer s H vs Q E hr h => ?_)
  · obtain ⟨a, ws, rfl, _⟩ := h
    rfl
  · obtain ⟨a, ws, rfl, ha, hs, q⟩ := h
    refine ⟨_, (pss_one (ps_ret (pe_d D_fits (hr.mono (by decide)) (by rfl) pass0 (pa_cons (pv 0) (pa_cons (pe_d D_look_codes (hr.mono (by decide)) (by rfl) pass0 (pa_cons (pe_d D_head (hr.mono (by decide)) (by rfl) pass0 (pa_cons (pv 0) pa_nil)) pa_nil)) pa_nil))))), ?_⟩
    refine s_ret (ev_dSC (o := lookC (headOf ws)) (es_T (ev_var rfl) ha) (ec_d (ea_cons (ev_d (z := .str (headOf ws)) (ea_cons (ev_var rfl) ea_nil) fun H1 e1 Q1 q1 => ⟨.ref a, headOf ws, rfl, hd_strs (ex_t e1 ha), q1⟩) ea_nil) fun H1 e1 Q1 q1 => ⟨headOf ws, rfl, q1⟩) fun p c H1 e1 hp hc Q1 q1 => ⟨p, ws, c, _, rfl, hp, hs, hc, lookC_ok _, q1⟩) fun H2 e2 => q H2 e2
def spIsLooks (K : PySem.W.Frag) : Sp := fun vs H Q _ => ∃ v as, vs = [v] ∧ LksV H v as ∧ as.length ≤ 1000 ∧ (∀ l ∈ as, Sh l) ∧ RetV (.bl (as.all lookB)) H Q
theorem sc_is_looks : FnScope ["rows", "row"] ["rows"] (defScope s_is_looks) := ⟨rfl, rfl, rfl, by decide +kernel, rfl, by decide +kernel, by decide +kernel⟩
theorem D_is_looks (T : Txt w K mg) (D_is_look : Dn P w K mg base CX0 4 "is_look" (spIsLook K)) : Dn P w K mg base CX0 5 "is_looks" (spIsLooks K) := by
  refine mkD0 T.fds_is_looks T.g_is_looks T.kps_is_looks sc_is_looks (fun _ _ _ _ _ _ us hl => match us, hl with | [_], _ => rfl) (fun vs H Q E h => ?_) (fun cdv A outer s H vs Q E hr h => ?_)
  · obtain ⟨v, as, rfl, _⟩ := h
    rfl
  · obtain ⟨v, as, rfl, ⟨b, us, rfl, hb, hA⟩, hl, hs, q⟩ := h
    refine ⟨_, (pss_one (ps_ret (pe_and (pe_callB call_isi (by rfl) T.n_isinstance bo_isinstance (pa_cons (pv 0) (pa_cons (pe_bltn (v := .ty "tuple") (by rfl) T.n_tuple bo_tuple rfl) pa_nil))) (pe_one (pe_callB (cr_all rfl) (by rfl) T.n_all bo_all (pa_cons (pe_lc (own := [("row", 1)]) (g := gName 1) (tt := tYes) rfl sc_is_looks.nd (pi_tup (pv 0)) (blkOk_by (own := [("row", 1)]) (N := ["rows", "row"]) (sc := defScope s_is_looks) (by decide +kernel)) (fun _ _ _ _ _ => (pg_name (i := 1) sc_is_looks.nd rfl (Or.inl rfl))) (fun _ _ _ _ _ => pts_nil) (fun _ _ _ _ _ => (pe_d D_is_look (hr.mono (by decide)) (by rfl) pass0 (pa_cons (pv 1) pa_nil)))) pa_nil)))))), ?_⟩
    have hbt : SqT K H b us := st_of hb
    have hlen : us.length = as.length := Paired.length hA
    refine s_ret (ev_andV (b := as.all lookB) (ev_isi (b := true) (ev_var rfl) ev_c (tyT hbt) (kit_ty (by decide +kernel))) fun _ => ?_) fun H2 e2 => ?_
    · have g : as.all lookB = (as.map lookB).all id := by
        rw [List.all_map]
        rfl
      rw [g]
      refine ev_all (bs := as.map lookB) ?_
      have e : (as.map lookB).map V.bl = us.map fun v => .bl (lookB (lkOf H v)) := by
        rw [← hA.eq, List.map_map, List.map_map]
        rfl
      rw [e]
      refine el_map _ (ei_tup (ev_var rfl) hbt) (by omega) (fun _ => rfl) fun x hx => ?_
      obtain ⟨ws, hm, hk⟩ := hA.mem x hx
      rw [hk.lk]
      obtain ⟨c, rfl, hc⟩ := hk
      exact ev_d (ea_cons (ev_var rfl) ea_nil) fun H1 e1 Q1 q1 => ⟨c, ws, rfl, st_of (e1 c _ hc), hs ws hm, q1⟩
    · rw [Bool.true_and]
      exact q H2 e2
/-- a row that is a tuple -/
def IsT : R → Prop
  | .tup _ => True
  | .pro _ _ _ _ => True
  | .ass _ _ _ _ => True
  | _ => False
def spIsW (K : PySem.W.Frag) : Sp := fun vs H Q _ => ∃ v r, vs = [v] ∧ RowV H v r ∧ ROk r ∧ IsT r ∧ RetV (.bl (watchB r)) H Q
theorem lksLen {H : Hp} {v : V} {as : List (List Str)} (h : LksV H v as) : ∃ b us, v = .ref b ∧ H b = some (.tup us) ∧ us.length = as.length := by
  obtain ⟨b, us, rfl, hb, hA⟩ := h
  exact ⟨b, us, rfl, hb, Paired.length hA⟩
theorem sc_is_watcher : FnScope ["row"] ["row"] (defScope s_is_watcher) := ⟨rfl, rfl, rfl, by decide +kernel, rfl, by decide +kernel, by decide +kernel⟩
theorem D_is_watcher (T : Txt w K mg) (D_is_name : Dn P w K mg base CX0 1 "is_name" spIsName) (D_is_look : Dn P w K mg base CX0 4 "is_look" (spIsLook K)) (D_is_looks : Dn P w K mg base CX0 5 "is_looks" (spIsLooks K)) : Dn P w K mg base CX0 6 "is_watcher" (spIsW K) := by
  refine mkD0 T.fds_is_watcher T.g_is_watcher T.kps_is_watcher sc_is_watcher (fun _ _ _ _ _ _ us hl => match us, hl with | [_], _ => rfl) (fun vs H Q E h => ?_) (fun cdv A outer s H vs Q E hr h => ?_)
  · obtain ⟨v, r, rfl, _⟩ := h
    rfl
  · obtain ⟨v, r, rfl, hv, hok, hT, q⟩ := h
    obtain ⟨_, GL_MOST_LOOKS⟩ := T.i_MOST_LOOKS
    refine ⟨_, (pss_cons (ps_if (PW.pt (pw_or (pt_cmpR op_ne (pe_callB call_len_seq (by rfl) T.n_len PySem.boot_len (pa_cons (pv 0) pa_nil)) pe_int (nomark _)) (pw_or (pt_not (pt_val (pe_d D_is_name (hr.mono (by decide)) (by rfl) pass0 (pa_cons (pe_ix ix_tup (pv 0) pe_int (fun _ _ => rfl)) pa_nil)))) (pw_or (pt_not (pt_val (pe_callB call_isi (by rfl) T.n_isinstance bo_isinstance (pa_cons (pe_ix ix_tup (pv 0) pe_int (fun _ _ => rfl)) (pa_cons (pe_bltn (v := .ty "str") (by rfl) T.n_str bo_str rfl) pa_nil))))) (pw_or1 (pt_cmpR op_notIn_seq (pe_ix ix_tup (pv 0) pe_int (fun _ _ => rfl)) (pe_glob (v := .ref (He.ga K "GATES")) (by rfl) T.g_GATES rfl) (by rfl))))))) (pss_one (ps_ret pe_bl)) pss_nil)
    (pss_cons (ps_if (pt_not (pt_val (pe_d D_is_looks (hr.mono (by decide)) (by rfl) pass0 (pa_cons (pe_ix ix_tup (pv 0) pe_int (fun _ _ => rfl)) pa_nil)))) (pss_one (ps_ret pe_bl)) pss_nil)
    (pss_cons (ps_if (pt_cmpR op_eq (pe_ix ix_tup (pv 0) pe_int (fun _ _ => rfl)) pe_str (nomark _)) (pss_one (ps_ret (pe_and (pe_d D_is_look (hr.mono (by decide)) (by rfl) pass0 (pa_cons (pe_ix ix_tup (pv 0) pe_int (fun _ _ => rfl)) pa_nil)) (pe_and (pe_cmpR op_in_seq (pe_ix ix_tup (pe_ix ix_tup (pv 0) pe_int (fun _ _ => rfl)) pe_int (fun _ _ => rfl)) (pe_glob (v := .ref (He.ga K "ASSERTED")) (by rfl) T.g_ASSERTED rfl) (by rfl)) (pe_one (pe_cmpR op_le (pe_callB call_len_seq (by rfl) T.n_len PySem.boot_len (pa_cons (pe_ix ix_tup (pv 0) pe_int (fun _ _ => rfl)) pa_nil)) (pe_glob (v := .int 6) (by rfl) GL_MOST_LOOKS ⟨_, rfl⟩) (nomark _))))))) pss_nil)
    (pss_one (ps_ret (pe_and (pe_d D_is_looks (hr.mono (by decide)) (by rfl) pass0 (pa_cons (pe_ix ix_tup (pv 0) pe_int (fun _ _ => rfl)) pa_nil)) (pe_one (pe_cmpR op_le (pe_op op_add (pe_callB call_len_seq (by rfl) T.n_len PySem.boot_len (pa_cons (pe_ix ix_tup (pv 0) pe_int (fun _ _ => rfl)) pa_nil)) (pe_callB call_len_seq (by rfl) T.n_len PySem.boot_len (pa_cons (pe_ix ix_tup (pv 0) pe_int (fun _ _ => rfl)) pa_nil))) (pe_glob (v := .int 6) (by rfl) GL_MOST_LOOKS ⟨_, rfl⟩) (nomark _))))))))), ?_⟩
    cases r with
    | non => exact hT.elim
    | tru => exact hT.elim
    | lst => exact hT.elim
    | str s => exact hT.elim
    | tup ws =>
      obtain ⟨a, rfl, ha⟩ := hv
      have h5 : decide (((ws.map V.str).length : Int) = 5) = false := by
        have := hok.1
        simp
        omega
      refine q_when (et_or (b := true) (et_test (ev_neI (ev_lenT (ev_var rfl) (st_of ha)) ev_c)) fun z => by rw [h5] at z; cases z) (fun hb H1 e1 => s_ret ev_c fun H2 e2 => q H2 (e1.trans e2)) fun hb H1 e1 => by
        rw [h5] at hb
        cases hb
    | pro n g as bs =>
      obtain ⟨a, b, c, rfl, ha, hB, hC⟩ := hv
      obtain ⟨hn, hg, hla, hlb, hsa, hsb⟩ := hok
      have hT : SqT K H a [.str "probe", .str n, .str g, b, c] := st_of ha
      obtain ⟨b', us, eb, hub, lub⟩ := lksLen hB
      obtain ⟨c', vs, ec, hvc, lvc⟩ := lksLen hC
      subst eb ec
      refine q_when (et_or (et_test (ev_neI (ev_lenT (ev_var rfl) hT) ev_c)) fun _ => et_or (et_not (et_B (ev_d (ea_cons (ev_ixT (ev_var rfl) hT ev_c (atI_nat (j := 1) rfl)) ea_nil) fun H1 e1 Q1 q1 => ⟨n, rfl, hn, q1⟩))) fun _ => et_or (et_not (et_B (ev_isi (b := true) (ev_ixT (ev_var rfl) hT ev_c (atI_nat (j := 2) rfl)) ev_c (fun _ _ => .base (.str _)) (kit_ty (by decide +kernel))))) fun _ => et_test (ev_niG T.t_GATES (ev_ixT (ev_var rfl) hT ev_c (atI_nat (j := 2) rfl)) ev_c)) (fun hb H1 e1 => s_ret ev_c fun H2 e2 => ?_) fun hb H1 e1 => ?_
      · have w : watchB (.pro n g as bs) = false := by
          show (okN n && _) = false
          cases h1 : okN n with
          | false => rfl
          | true =>
            have h2 : decide (g ∈ gates_) = false := by
              rw [h1] at hb
              simpa using hb
            rw [h2]
            rfl
        rw [← w]
        exact q H2 (e1.trans e2)
      · have h1 : okN n = true := by
          simp at hb
          exact hb.1
        have h2 : decide (g ∈ gates_) = true := by
          simp at hb
          simpa using hb.2
        have w : watchB (.pro n g as bs) = (as.all lookB && (bs.all lookB && decide (as.length + bs.length ≤ 6))) := by
          show (okN n && (decide (g ∈ gates_) && _)) = _
          rw [h1, h2]
          rfl
        have hT1 := ex_t e1 hT
        refine q_when (et_not (et_B (ev_d (z := .bl (as.all lookB)) (ea_cons (ev_ixT (ev_var rfl) hT1 ev_c (atI_nat (j := 3) rfl)) ea_nil) fun H2 e2 Q1 q1 => ⟨_, as, rfl, hB.kp (Kp.ex (e1.trans e2)), hla, hsa, q1⟩))) (fun hb H2 e2 => s_ret ev_c fun H3 e3 => ?_) fun hb H2 e2 => ?_
        · have w2 : watchB (.pro n g as bs) = false := by
            rw [w]
            simp only [Bool.not_eq_true'] at hb
            rw [hb]
            rfl
          rw [← w2]
          exact q H3 ((e1.trans e2).trans e3)
        · have h3 : as.all lookB = true := by simpa using hb
          have e12 := e1.trans e2
          have hT2 := ex_t e12 hT
          refine q_when (et_test (ev_eqS (ev_ixT (ev_var rfl) hT2 ev_c (atI_nat (j := 0) rfl)) ev_c)) (fun hb H3 e3 => absurd hb (by decide)) fun hb H3 e3 => ?_
          have e13 := e12.trans e3
          have hT3 := ex_t e13 hT
          refine s_ret (ev_andV (b := decide (as.length + bs.length ≤ 6)) (ev_d (z := .bl (bs.all lookB)) (ea_cons (ev_ixT (ev_var rfl) hT3 ev_c (atI_nat (j := 4) rfl)) ea_nil) fun H2 e2 Q1 q1 => ⟨_, bs, rfl, hC.kp (Kp.ex (e13.trans e2)), hlb, hsb, q1⟩) fun _ => ?_) fun H4 e4 => ?_
          · refine ev_is (ev_op (ev_op (ev_lenT (ev_ixT (ev_var rfl) hT3 ev_c (atI_nat (j := 3) rfl)) (st_of (e13 _ _ hub))) (ev_lenT (ev_ixT (ev_var rfl) hT3 ev_c (atI_nat (j := 4) rfl)) (st_of (e13 _ _ hvc))) rv_I0) ev_c rv_I0) ?_
            show V.bl (decide ((us.length : Int) + (vs.length : Int) ≤ 6)) = V.bl (decide (as.length + bs.length ≤ 6))
            rw [decide_eq_decide.mpr (by omega : (us.length : Int) + (vs.length : Int) ≤ 6 ↔ as.length + bs.length ≤ 6)]
          · have w2 : watchB (.pro n g as bs) = (bs.all lookB && decide (as.length + bs.length ≤ 6)) := by
              rw [w, h3]
              rfl
            rw [← w2]
            exact q H4 (e13.trans e4)
    | ass n g as t =>
      obtain ⟨a, b, c, rfl, ha, hB, hC⟩ := hv
      obtain ⟨hn, hg, hla, hsa, hst⟩ := hok
      have hT : SqT K H a [.str "assert", .str n, .str g, b, c] := st_of ha
      obtain ⟨b', us, eb, hub, lub⟩ := lksLen hB
      obtain ⟨c', ec, hvc⟩ := hC
      subst eb ec
      refine q_when (et_or (et_test (ev_neI (ev_lenT (ev_var rfl) hT) ev_c)) fun _ => et_or (et_not (et_B (ev_d (ea_cons (ev_ixT (ev_var rfl) hT ev_c (atI_nat (j := 1) rfl)) ea_nil) fun H1 e1 Q1 q1 => ⟨n, rfl, hn, q1⟩))) fun _ => et_or (et_not (et_B (ev_isi (b := true) (ev_ixT (ev_var rfl) hT ev_c (atI_nat (j := 2) rfl)) ev_c (fun _ _ => .base (.str _)) (kit_ty (by decide +kernel))))) fun _ => et_test (ev_niG T.t_GATES (ev_ixT (ev_var rfl) hT ev_c (atI_nat (j := 2) rfl)) ev_c)) (fun hb H1 e1 => s_ret ev_c fun H2 e2 => ?_) fun hb H1 e1 => ?_
      · have w : watchB (.ass n g as t) = false := by
          show (okN n && _) = false
          cases h1 : okN n with
          | false => rfl
          | true =>
            have h2 : decide (g ∈ gates_) = false := by
              rw [h1] at hb
              simpa using hb
            rw [h2]
            rfl
        rw [← w]
        exact q H2 (e1.trans e2)
      · have h1 : okN n = true := by
          simp at hb
          exact hb.1
        have h2 : decide (g ∈ gates_) = true := by
          simp at hb
          simpa using hb.2
        have w : watchB (.ass n g as t) = (as.all lookB && (lookB t && (decide (headOf t ∈ asserted_) && decide (as.length ≤ 6)))) := by
          show (okN n && (decide (g ∈ gates_) && _)) = _
          rw [h1, h2]
          rfl
        have hT1 := ex_t e1 hT
        refine q_when (et_not (et_B (ev_d (z := .bl (as.all lookB)) (ea_cons (ev_ixT (ev_var rfl) hT1 ev_c (atI_nat (j := 3) rfl)) ea_nil) fun H2 e2 Q1 q1 => ⟨_, as, rfl, hB.kp (Kp.ex (e1.trans e2)), hla, hsa, q1⟩))) (fun hb H2 e2 => s_ret ev_c fun H3 e3 => ?_) fun hb H2 e2 => ?_
        · have w2 : watchB (.ass n g as t) = false := by
            rw [w]
            simp only [Bool.not_eq_true'] at hb
            rw [hb]
            rfl
          rw [← w2]
          exact q H3 ((e1.trans e2).trans e3)
        · have h3 : as.all lookB = true := by simpa using hb
          have e12 := e1.trans e2
          have hT2 := ex_t e12 hT
          refine q_when (et_test (ev_eqS (ev_ixT (ev_var rfl) hT2 ev_c (atI_nat (j := 0) rfl)) ev_c)) (fun hb H3 e3 => ?_) fun hb H3 e3 => absurd hb (by decide)
          have e13 := e12.trans e3
          have hT3 := ex_t e13 hT
          have hc3 : SqT K H3 c' (t.map V.str) := st_of (e13 _ _ hvc)
          refine s_ret (ev_andV (b := decide (headOf t ∈ asserted_) && decide (as.length ≤ 6)) (ev_d (z := .bl (lookB t)) (ea_cons (ev_ixT (ev_var rfl) hT3 ev_c (atI_nat (j := 4) rfl)) ea_nil) fun H2 e2 Q1 q1 => ⟨c', t, rfl, ex_t e2 hc3, hst, q1⟩) fun hl => ?_) fun H4 e4 => ?_
          · obtain ⟨t0, tr, et⟩ : ∃ t0 tr, t = t0 :: tr := by
              cases t with
              | nil =>
                unfold lookB fitsB at hl
                cases hq : lookC (headOf []) with
                | none =>
                  rw [hq] at hl
                  cases hl
                | some cs =>
                  rw [hq] at hl
                  simp at hl
                  omega
              | cons t0 tr => exact ⟨t0, tr, rfl⟩
            subst et
            refine ev_andV (ev_inG T.t_ASSERTED (ev_ixT (ev_ixT (ev_var rfl) hT3 ev_c (atI_nat (j := 4) rfl)) hc3 ev_c (atI_nat (j := 0) rfl)) ev_c) fun _ => ?_
            refine ev_is (ev_op (ev_lenT (ev_ixT (ev_var rfl) hT3 ev_c (atI_nat (j := 3) rfl)) (st_of (e13 _ _ hub))) ev_c rv_I0) ?_
            show V.bl (decide ((us.length : Int) ≤ 6)) = V.bl (decide (as.length ≤ 6))
            rw [decide_eq_decide.mpr (by omega : (us.length : Int) ≤ 6 ↔ as.length ≤ 6)]
          · have w2 : watchB (.ass n g as t) = (lookB t && (decide (headOf t ∈ asserted_) && decide (as.length ≤ 6))) := by
              rw [w, h3]
              rfl
            rw [← w2]
            exact q H4 (e13.trans e4)
end
end Q7
/-! is_row, is_probe, named -/
namespace Q7
open PySem PySem.Spec PyProof.Rows L2 Evl
section
variable {P : Program} {w : World} {K : PySem.W.Frag} {mg : Str → Option Value} {base : Heap}
theorem HdV.ex {H H' : Hp} {v : V} {hd : Str} (e : Ex H H') (h : HdV K H v hd) : HdV K H' v hd := by
  rcases h with ⟨h1, h2⟩ | ⟨a, xs, h1, h2, h3⟩
  · refine Or.inl ⟨h1, ?_⟩
    rcases h2 with h2 | h2 | h2 | ⟨a, xs, h2, h3⟩
    · exact Or.inl h2
    · exact Or.inr (Or.inl h2)
    · exact Or.inr (Or.inr (Or.inl h2))
    · exact Or.inr (Or.inr (Or.inr ⟨a, xs, h2, e a _ h3⟩))
  · exact Or.inr ⟨a, xs, h1, ex_t e h2, h3⟩
def headR : R → Str
  | .tup ws => headOf ws
  | .pro _ _ _ _ => "probe"
  | .ass _ _ _ _ => "assert"
  | _ => ""
theorem rowHd {H : Hp} {v : V} {r : R} (h : RowV H v r) : HdV K H v (headR r) := by
  cases r with
  | non => exact Or.inl ⟨rfl, Or.inl h⟩
  | tru => exact Or.inl ⟨rfl, Or.inr (Or.inl h)⟩
  | lst => exact Or.inl ⟨rfl, Or.inr (Or.inr (Or.inr h))⟩
  | str s => exact Or.inl ⟨rfl, Or.inr (Or.inr (Or.inl ⟨s, h⟩))⟩
  | tup ws =>
    obtain ⟨a, rfl, ha⟩ := h
    exact hd_strs (st_of ha)
  | pro n g as bs =>
    obtain ⟨a, b, c, rfl, ha, _, _⟩ := h
    exact Or.inr ⟨a, _, rfl, st_of ha, Or.inr ⟨_, _, rfl, rfl⟩⟩
  | ass n g as t =>
    obtain ⟨a, b, c, rfl, ha, _, _⟩ := h
    exact Or.inr ⟨a, _, rfl, st_of ha, Or.inr ⟨_, _, rfl, rfl⟩⟩
theorem Sh.drop {ws : List Str} (h : Sh ws) (n : Nat) : Sh (ws.drop n) := ⟨by
  have := h.1
  rw [List.length_drop]
  omega, fun y hy => h.2 y (List.mem_of_mem_drop hy)⟩
def spIsRow (K : PySem.W.Frag) : Sp := fun vs H Q _ => ∃ v r, vs = [v] ∧ RowV H v r ∧ ROk r ∧ RetV (.bl (rowB r)) H Q
theorem sc_is_row : FnScope ["row"] ["row"] (defScope s_is_row) := ⟨rfl, rfl, rfl, by decide +kernel, rfl, by decide +kernel, by decide +kernel⟩
theorem D_is_row (T : Txt w K mg) (D_head : Dn P w K mg base CX0 1 "head" (spHead K)) (D_row_codes : Dn P w K mg base CX0 1 "row_codes" (spRowC K)) (D_branch_codes : Dn P w K mg base CX0 1 "branch_codes" (spBrC K)) (D_fits : Dn P w K mg base CX0 3 "fits" (spFits K))
    (D_is_watcher : Dn P w K mg base CX0 6 "is_watcher" (spIsW K)) : Dn P w K mg base CX0 7 "is_row" (spIsRow K) := by
  refine mkD0 T.fds_is_row T.g_is_row T.kps_is_row sc_is_row (fun _ _ _ _ _ _ us hl => match us, hl with | [_], _ => rfl) (fun vs H Q E h => ?_) (fun cdv A outer s H vs Q E hr h => ?_)
  · obtain ⟨v, r, rfl, _⟩ := h
    rfl
  · obtain ⟨v, r, rfl, hv, hok, q⟩ := h
    refine ⟨_, (pss_cons (ps_match (pe_d D_head (hr.mono (by decide)) (by rfl) pass0 (pa_cons (pv 0) pa_nil)) (pm_cons ppat_val (pss_one (ps_ret pe_bl))
    (pm_cons (ppat_or (pfst_cons ppat_val (pfst_cons ppat_val pfst_nil))) (pss_one (ps_ret (pe_d D_is_watcher (hr.mono (by decide)) (by rfl) pass0 (pa_cons (pv 0) pa_nil))))
    (pm_cons (ppat_or (pfst_cons ppat_val (pfst_cons ppat_val pfst_nil))) (pss_one (ps_ret (pe_d D_fits (hr.mono (by decide)) (by rfl) pass0 (pa_cons (pe_slice sl_tupA (pv 0) (po_some pe_int) po_none) (pa_cons (pe_d D_branch_codes (hr.mono (by decide)) (by rfl) pass0 (pa_cons (pe_ix ix_tup (pv 0) pe_int (fun _ _ => rfl)) (pa_cons (pe_d D_head (hr.mono (by decide)) (by rfl) pass0 (pa_cons (pe_slice sl_tupA (pv 0) (po_some pe_int) po_none) pa_nil)) pa_nil))) pa_nil)))))
    pm_nil))))
    (pss_one (ps_ret (pe_d D_fits (hr.mono (by decide)) (by rfl) pass0 (pa_cons (pv 0) (pa_cons (pe_d D_row_codes (hr.mono (by decide)) (by rfl) pass0 (pa_cons (pe_ix ix_tup (pv 0) pe_int (fun _ _ => rfl)) pa_nil)) pa_nil)))))), ?_⟩
    refine q_match (y := headR r) (ev_d (ea_cons (ev_var rfl) ea_nil) fun H1 e1 Q1 q1 => ⟨v, headR r, rfl, (rowHd hv).ex e1, q1⟩) fun H1 e1 => ?_
    cases r with
    | non => exact mcase_yes rfl (s_ret ev_c fun H2 e2 => q H2 (e1.trans e2))
    | tru => exact mcase_yes rfl (s_ret ev_c fun H2 e2 => q H2 (e1.trans e2))
    | lst => exact mcase_yes rfl (s_ret ev_c fun H2 e2 => q H2 (e1.trans e2))
    | str s => exact mcase_yes rfl (s_ret ev_c fun H2 e2 => q H2 (e1.trans e2))
    | pro n g as bs =>
      refine mcase_no (show decide (("probe" : Str) = "") = false by decide) (mcase_yes (show (decide (("probe" : Str) = "probe") || (decide (("probe" : Str) = "assert") || false)) = true by decide) ?_)
      exact s_ret (ev_d (ea_cons (ev_var rfl) ea_nil) fun H2 e2 Q1 q1 => ⟨v, _, rfl, hv.kp (Kp.ex (e1.trans e2)), hok, True.intro, q1⟩) fun H3 e3 => q H3 (e1.trans e3)
    | ass n g as t =>
      refine mcase_no (show decide (("assert" : Str) = "") = false by decide) (mcase_yes (show (decide (("assert" : Str) = "probe") || (decide (("assert" : Str) = "assert") || false)) = true by decide) ?_)
      exact s_ret (ev_d (ea_cons (ev_var rfl) ea_nil) fun H2 e2 Q1 q1 => ⟨v, _, rfl, hv.kp (Kp.ex (e1.trans e2)), hok, True.intro, q1⟩) fun H3 e3 => q H3 (e1.trans e3)
    | tup ws =>
      cases ws with
      | nil => exact mcase_yes rfl (s_ret ev_c fun H2 e2 => q H2 (e1.trans e2))
      | cons w0 r =>
        by_cases h0 : w0 = ""
        · refine mcase_yes (decide_eq_true h0) (s_ret ev_c fun H2 e2 => ?_)
          have w : rowB (.tup (w0 :: r)) = false := by
            show (if w0 = "" then false else _) = false
            rw [if_pos h0]
          rw [← w]
          exact q H2 (e1.trans e2)
        · refine mcase_no (decide_eq_false h0) ?_
          obtain ⟨hl4, hs⟩ := hok
          by_cases h1 : w0 = "probe" ∨ w0 = "assert"
          · refine mcase_yes ?_ (s_ret (ev_d (z := .bl false) (ea_cons (ev_var rfl) ea_nil) fun H2 e2 Q1 q1 => ⟨v, .tup (w0 :: r), rfl, RowV.kp (Kp.ex (e1.trans e2)) hv, ⟨hl4, hs⟩, True.intro, q1⟩) fun H3 e3 => ?_)
            · show (decide (w0 = "probe") || (decide (w0 = "assert") || false)) = true
              rcases h1 with rfl | rfl
              · decide
              · decide
            · have w : rowB (.tup (w0 :: r)) = false := by
                show (if w0 = "" then false else if w0 = "probe" ∨ w0 = "assert" then false else _) = false
                rw [if_neg h0, if_pos h1]
              rw [← w]
              exact q H3 (e1.trans e3)
          · have h1' := not_or.mp h1
            refine mcase_no (by
              show (decide (w0 = "probe") || (decide (w0 = "assert") || false)) = false
              rw [decide_eq_false h1'.1, decide_eq_false h1'.2]
              rfl) ?_
            obtain ⟨a, rfl, ha⟩ := hv
            have haT : SqT K H1 a (V.str w0 :: r.map V.str) := st_of (e1 a _ ha)
            by_cases h2 : w0 = "if" ∨ w0 = "while"
            · refine mcase_yes (by
                show (decide (w0 = "if") || (decide (w0 = "while") || false)) = true
                rcases h2 with rfl | rfl
                · decide
                · decide) ?_
              have hsl : EvS K (tSl (rSlA K) (tVar 0) (tPart (tC (.int 1))) tNoPart) (start ["row"] [V.ref a]) H1 (r.map V.str) := es_from (xs := V.str w0 :: r.map V.str) 1 (es_T (ev_var rfl) haT)
              refine s_ret (ev_dSC (z := .bl (fitsB r (brC w0 (headOf r)))) (o := brC w0 (headOf r)) hsl (ec_d (ea_cons (ev_ixT (ev_var rfl) haT ev_c (atI_nat (j := 0) rfl)) (ea_cons (ev_dS (z := .str (headOf r)) hsl fun p H2 e2 hp Q1 q1 => ⟨.ref p, headOf r, rfl, hd_strs hp, q1⟩) ea_nil)) fun H2 e2 Q1 q1 => ⟨w0, headOf r, rfl, q1⟩)
                fun p c H2 e2 hp hc Q1 q1 => ⟨p, r, c, _, rfl, hp, hs.tail, hc, brC_ok _ _, q1⟩) fun H3 e3 => ?_
              have w : rowB (.tup (w0 :: r)) = fitsB r (brC w0 (headOf r)) := by
                show (if w0 = "" then false else if w0 = "probe" ∨ w0 = "assert" then false else if w0 = "if" ∨ w0 = "while" then _ else _) = _
                rw [if_neg h0, if_neg h1, if_pos h2]
              rw [← w]
              exact q H3 (e1.trans e3)
            · have h2' := not_or.mp h2
              refine mcase_no (by
                show (decide (w0 = "if") || (decide (w0 = "while") || false)) = false
                rw [decide_eq_false h2'.1, decide_eq_false h2'.2]
                rfl) (mnil ?_)
              refine s_ret (ev_dSC (z := .bl (fitsB (w0 :: r) (rowC w0))) (o := rowC w0) (es_T (ev_var rfl) haT) (ec_d (ea_cons (ev_ixT (ev_var rfl) haT ev_c (atI_nat (j := 0) rfl)) ea_nil) fun H2 e2 Q1 q1 => ⟨w0, rfl, q1⟩)
                fun p c H2 e2 hp hc Q1 q1 => ⟨p, w0 :: r, c, _, rfl, hp, hs, hc, rowC_ok _, q1⟩) fun H3 e3 => ?_
              have w : rowB (.tup (w0 :: r)) = fitsB (w0 :: r) (rowC w0) := by
                show (if w0 = "" then false else if w0 = "probe" ∨ w0 = "assert" then false else if w0 = "if" ∨ w0 = "while" then _ else _) = _
                rw [if_neg h0, if_neg h1, if_neg h2]
              rw [← w]
              exact q H3 (e1.trans e3)
def probes2 : List Str := ["probe", "assert"]
def spIsProbe (K : PySem.W.Frag) : Sp := fun vs H Q _ => ∃ a w xs, vs = [.ref a] ∧ SqT K H a (.str w :: xs) ∧ RetV (.bl (decide (w ∈ probes2))) H Q
theorem sc_is_probe : FnScope ["row"] ["row"] (defScope s_is_probe) := ⟨rfl, rfl, rfl, by decide +kernel, rfl, by decide +kernel, by decide +kernel⟩
theorem D_is_probe (T : Txt w K mg) : Dn P w K mg base CX0 1 "is_probe" (spIsProbe K) := by
  refine mkD0 T.fds_is_probe T.g_is_probe T.kps_is_probe sc_is_probe (fun _ _ _ _ _ _ us hl => match us, hl with | [_], _ => rfl) (fun vs H Q E h => ?_) (fun cdv A outer s H vs Q E hr h => ?_)
  · obtain ⟨a, w, xs, rfl, _⟩ := h
    rfl
  · obtain ⟨a, w, xs, rfl, ha, q⟩ := h
    refine ⟨_, (pss_one (ps_ret (pe_cmpR op_in_seq (pe_ix ix_tup (pv 0) pe_int (fun _ _ => rfl)) (pe_tup (pa_cons pe_str (pa_cons pe_str pa_nil))) (by rfl)))), ?_⟩
    exact s_ret (ev_inD probes2 (ev_ixT (ev_var rfl) ha ev_c (atI_nat (j := 0) rfl)) (eu_tup (ea_cons ev_c (ea_cons ev_c ea_nil)) (by decide))) fun H2 e2 => q H2 e2
/-! ### named -/
def namedR : R → List (List Str × List Str)
  | .pro _ _ as bs => (as ++ bs).map fun l => (l, (lookC (headOf l)).getD [])
  | .ass _ _ as t => (as ++ [t]).map fun l => (l, (lookC (headOf l)).getD [])
  | .tup (w :: r) => if w = "if" ∨ w = "while" then [(r, (brC w (headOf r)).getD [])] else [(w :: r, (rowC w).getD [])]
  | _ => []
def NmV (K : PySem.W.Frag) (H : Hp) (v : V) (q : List Str × List Str) : Prop := ∃ T a c, v = .ref T ∧ H T = some (.tup [.ref a, .ref c]) ∧ SqT K H a (q.1.map V.str) ∧ SqT K H c (q.2.map V.str)
theorem NmV.kp {H H' : Hp} {v : V} {q : List Str × List Str} (k : Kp H H') (h : NmV K H v q) : NmV K H' v q := by
  obtain ⟨T, a, c, h1, h2, h3, h4⟩ := h
  exact ⟨T, a, c, h1, k.tup h2, k.sqT h3, k.sqT h4⟩
def spNamed (K : PySem.W.Frag) : Sp := fun vs H Q _ => ∃ v r, vs = [v] ∧ RowV H v r ∧ ROk r ∧ rowB r = true ∧ ∀ p H' xs, H p = none → Ex H H' → H' p = some (.lst xs) → Paired (NmV K H') xs (namedR r) → Q (.ref p) H'
theorem lookB_some {l : List Str} (h : lookB l = true) : ∃ w r cs, l = w :: r ∧ lookC w = some cs := by
  unfold lookB at h
  cases hq : lookC (headOf l) with
  | none =>
    rw [hq] at h
    cases h
  | some cs =>
    rw [hq] at h
    cases l with
    | nil =>
      simp [fitsB] at h
      omega
    | cons w r => exact ⟨w, r, cs, rfl, hq⟩
theorem fitsB_some {l : List Str} {o : Option (List Str)} (h : fitsB l o = true) : ∃ cs, o = some cs := by
  cases o with
  | none => cases h
  | some cs => exact ⟨cs, rfl⟩
theorem AllV.pair {H : Hp} {S : V → V → Prop} {F : List Str → List Str × List Str} {Rr : V → List Str × List Str → Prop} : ∀ {us : List V} {as : List (List Str)} {ys : List V}, AllV H us as → Paired S us ys → (∀ u y l, LkV H u l → l ∈ as → S u y → Rr y (F l)) → Paired Rr ys (as.map F)
  | [], _, _, h, k, f => by
    cases h
    cases k
    exact .nil
  | _ :: _, _, _, h, k, f => by
    cases h with
    | cons a b =>
      cases k with
      | cons c d => exact .cons (f _ _ _ a List.mem_cons_self c) (AllV.pair b d fun u y l h1 h2 h3 => f u y l h1 (List.mem_cons_of_mem _ h2) h3)
/-- (tuple | text row, codes) as a new pair -/
theorem en_pair {σ : L2.St} {H : Hp} {ta tb : TE} {xs : List Str} {cs : List Str} (ha : EvS K ta σ H (xs.map V.str)) (hb : EvC K tb σ H (some cs)) : EvN (tTup (tCons ta (tCons tb tNil))) σ H fun v H2 => NmV K H2 v (xs, cs) := fun H1 e Q q =>
  ha H1 e _ fun a H2 e2 h2 => hb H2 (e.trans e2) _ fun c H3 e3 hc => by
    obtain ⟨t, rfl, ht⟩ := hc
    exact ⟨by show 2 ≤ sizeLine; decide, fun p hp => q (.ref p) _ ((e2.trans e3).trans (Ex.new hp)) ⟨p, a, t, rfl, upd_same, ex_t (Ex.new hp) (ex_t e3 h2), ex_t (Ex.new hp) ht⟩⟩
/-- a new list of one such pair -/
theorem en_one {σ : L2.St} {H : Hp} {te : TE} {q : List Str × List Str} (h : EvN te σ H fun v H2 => NmV K H2 v q) : EvN (tLst (tCons te tNil)) σ H fun v H2 => ∃ p xs, v = .ref p ∧ H p = none ∧ H2 p = some (.lst xs) ∧ Paired (NmV K H2) xs [q] := fun H1 e Q k =>
  h H1 e _ fun y H2 e2 hy => ⟨by show 1 ≤ sizeLine; decide, fun p hp => k (.ref p) _ (e2.trans (Ex.new hp)) ⟨p, [y], rfl, fresh_back (e.trans e2) hp, upd_same, .cons (hy.kp (Kp.ex (Ex.new hp))) .nil⟩⟩
theorem sc_named : FnScope ["row", "looks", "look"] ["row"] (defScope s_named) := ⟨rfl, rfl, rfl, by decide +kernel, rfl, by decide +kernel, by decide +kernel⟩
theorem D_named (T : Txt w K mg) (D_is_probe : Dn P w K mg base CX0 1 "is_probe" (spIsProbe K)) (D_look_codes : Dn P w K mg base CX0 1 "look_codes" (spLookC K)) (D_row_codes : Dn P w K mg base CX0 1 "row_codes" (spRowC K)) (D_branch_codes : Dn P w K mg base CX0 1 "branch_codes" (spBrC K)) : Dn P w K mg base CX0 2 "named" (spNamed K) := by
  refine mkD0 T.fds_named T.g_named T.kps_named sc_named (fun _ _ _ _ _ _ us hl => match us, hl with | [_], _ => rfl) (fun vs H Q E h => ?_) (fun cdv A outer s H vs Q E hr h => ?_)
  · obtain ⟨v, r, rfl, _⟩ := h
    rfl
  · obtain ⟨v, r, rfl, hv, hok, hB, q⟩ := h
    refine ⟨_, (pss_cons (ps_if (pt_val (pe_d D_is_probe (hr.mono (by decide)) (by rfl) pass0 (pa_cons (pv 0) pa_nil))) (pss_cons (ps_set (i := 1) sc_named.nd rfl (Or.inl rfl) (pe_ifExp (pt_cmpR op_eq (pe_ix ix_tup (pv 0) pe_int (fun _ _ => rfl)) pe_str (nomark _)) (pe_lst (StX.pa_star (pe_ix ix_tup (pv 0) pe_int (fun _ _ => rfl)) (pa_cons (pe_ix ix_tup (pv 0) pe_int (fun _ _ => rfl)) pa_nil))) (pe_lst (StX.pa_star (pe_ix ix_tup (pv 0) pe_int (fun _ _ => rfl)) (StX.pa_star (pe_ix ix_tup (pv 0) pe_int (fun _ _ => rfl)) pa_nil)))))
    (pss_one (ps_ret (pe_lc (own := [("look", 2)]) (g := gName 2) (tt := tYes) rfl sc_named.nd (pi_list (pv 1)) (blkOk_by (own := [("look", 2)]) (N := ["row", "looks", "look"]) (sc := defScope s_named) (by decide +kernel)) (fun _ _ _ _ _ => (pg_name (i := 2) sc_named.nd rfl (Or.inl rfl))) (fun _ _ _ _ _ => pts_nil) (fun _ _ _ _ _ => (pe_tup (pa_cons (pv 2) (pa_cons (pe_d D_look_codes (hr.mono (by decide)) (by rfl) pass0 (pa_cons (pe_ix (r := rIxT K) ix_tup (pv 2) pe_int (fun _ _ => rfl)) pa_nil)) pa_nil)))))))) pss_nil)
    (pss_cons (ps_if (pt_cmpR op_in_seq (pe_ix ix_tup (pv 0) pe_int (fun _ _ => rfl)) (pe_tup (pa_cons pe_str (pa_cons pe_str pa_nil))) (by rfl)) (pss_one (ps_ret (pe_lst (pa_cons (pe_tup (pa_cons (pe_slice sl_tupA (pv 0) (po_some pe_int) po_none) (pa_cons (pe_d D_branch_codes (hr.mono (by decide)) (by rfl) pass0 (pa_cons (pe_ix ix_tup (pv 0) pe_int (fun _ _ => rfl)) (pa_cons (pe_ix ix_tup (pv 0) pe_int (fun _ _ => rfl)) pa_nil))) pa_nil))) pa_nil)))) pss_nil)
    (pss_one (ps_ret (pe_lst (pa_cons (pe_tup (pa_cons (pv 0) (pa_cons (pe_d D_row_codes (hr.mono (by decide)) (by rfl) pass0 (pa_cons (pe_ix ix_tup (pv 0) pe_int (fun _ _ => rfl)) pa_nil)) pa_nil))) pa_nil)))))), ?_⟩
    cases r with
    | non => cases hB
    | tru => cases hB
    | lst => cases hB
    | str s => cases hB
    | pro n g as bs =>
      obtain ⟨a, b, c, rfl, ha, hB1, hC1⟩ := hv
      obtain ⟨b', us, rfl, hub, hA⟩ := hB1
      obtain ⟨c', vs, rfl, hvc, hA2⟩ := hC1
      obtain ⟨hn, hg, hla, hlb, hsa, hsb⟩ := hok
      have hT : SqT K H a [.str "probe", .str n, .str g, .ref b', .ref c'] := st_of ha
      have hall : ∀ l ∈ as ++ bs, lookB l = true := by
        have h1 : watchB (.pro n g as bs) = true := hB
        unfold watchB at h1
        simp only [Bool.and_eq_true, List.all_eq_true] at h1
        intro l hl
        rcases List.mem_append.mp hl with hl | hl
        · exact h1.2.2.1 l hl
        · exact h1.2.2.2.1 l hl
      refine q_when (et_B (ev_d (z := .bl true) (ea_cons (ev_var rfl) ea_nil) fun H1 e1 Q1 q1 => ⟨a, "probe", _, rfl, ex_t e1 hT, q1⟩)) (fun hb H1 e1 => ?_) fun hb => by cases hb
      have hT1 := ex_t e1 hT
      refine q_asgL (xs := us ++ vs) (fun H2 e2 Q2 q2 => ?_) fun p H2 hp e2 h2 => ?_
      · refine et_test (ev_eqS (ev_ixT (ev_var rfl) hT1 ev_c (atI_nat (j := 0) rfl)) ev_c) H2 e2 _ fun H3 e3 => ?_
        refine iteF ?_
        have e23 := e2.trans e3
        refine ev_ixT (ev_var rfl) hT1 ev_c (atI_nat (j := 3) rfl) H3 e23 _ fun H4 e4 => ⟨b', us, rfl, Or.inl (st_of (((e1.trans e23).trans e4) _ _ hub)), ?_⟩
        refine ev_ixT (ev_var rfl) hT1 ev_c (atI_nat (j := 4) rfl) H4 (e23.trans e4) _ fun H5 e5 => ⟨c', vs, rfl, Or.inl (st_of ((((e1.trans e23).trans e4).trans e5) _ _ hvc)), ?_⟩
        have hz : (us ++ (vs ++ [])).length ≤ sizeLine := sz_of (by
          have l1 : us.length = as.length := Paired.length hA
          have l2 : vs.length = bs.length := Paired.length hA2
          simp only [List.append_nil, List.length_append]
          omega)
        refine ⟨hz, fun p hp => ?_⟩
        refine q2 p _ (fresh_back ((e3.trans e4).trans e5) hp) (((e3.trans e4).trans e5).trans (Ex.new hp)) ?_
        rw [upd_same, List.append_nil]
      · have e12 := e1.trans e2
        have hA12 : AllV H2 (us ++ vs) (as ++ bs) := (Paired.app (AllV.kp (Kp.ex e12) hA) (AllV.kp (Kp.ex e12) hA2))
        refine s_retN (S := fun v H3 => ∃ p ys, v = .ref p ∧ H2 p = none ∧ H3 p = some (.lst ys) ∧ Paired (fun x y => NmV K H3 y (lkOf H2 x, (lookC (headOf (lkOf H2 x))).getD [])) (us ++ vs) ys) (en_map (S := fun x y H3 => NmV K H3 y (lkOf H2 x, (lookC (headOf (lkOf H2 x))).getD [])) (fun x y H H' k h => h.kp k) (ei_list (ev_var rfl) (sq_of h2)) (by
          have l1 : us.length = as.length := Paired.length hA
          have l2 : vs.length = bs.length := Paired.length hA2
          rw [List.length_append]
          omega) (fun _ => rfl) fun x hx => ?_) fun y H3 e3 hy => ?_
        · obtain ⟨l, hm, hk⟩ := hA12.mem x hx
          rw [hk.lk]
          obtain ⟨w0, r0, cs, rfl, hcs⟩ := lookB_some (hall l hm)
          obtain ⟨d, rfl, hd⟩ := hk
          have hdT : SqT K H2 d (V.str w0 :: r0.map V.str) := st_of hd
          have e : (lookC (headOf (w0 :: r0))).getD [] = cs := by
            show (lookC w0).getD [] = cs
            rw [hcs]
            rfl
          rw [e]
          refine en_pair (xs := w0 :: r0) (es_T (ev_var rfl) hdT) (ec_is (ec_d (o := lookC w0) (ea_cons (ev_ixT (ev_var rfl) hdT ev_c (atI_nat (j := 0) rfl)) ea_nil) fun H1 e1 Q1 q1 => ⟨w0, rfl, q1⟩) hcs)
        · obtain ⟨p3, ys, rfl, hp3, hl, hP⟩ := hy
          exact q p3 H3 ys (fresh_back e12 hp3) (e12.trans e3) hl (AllV.pair hA12 hP fun u y l h1 h2 h3 => by
            rw [h1.lk] at h3
            exact h3)
    | ass n g as t =>
      obtain ⟨a, b, c, rfl, ha, hB1, hC1⟩ := hv
      obtain ⟨b', us, rfl, hub, hA⟩ := hB1
      obtain ⟨c', rfl, hvc⟩ := hC1
      obtain ⟨hn, hg, hla, hsa, hst⟩ := hok
      have hT : SqT K H a [.str "assert", .str n, .str g, .ref b', .ref c'] := st_of ha
      have hall : ∀ l ∈ as ++ [t], lookB l = true := by
        have h1 : watchB (.ass n g as t) = true := hB
        unfold watchB at h1
        simp only [Bool.and_eq_true, List.all_eq_true] at h1
        intro l hl
        rcases List.mem_append.mp hl with hl | hl
        · exact h1.2.2.1 l hl
        · rw [List.mem_singleton.mp hl]
          exact h1.2.2.2.1
      refine q_when (et_B (ev_d (z := .bl true) (ea_cons (ev_var rfl) ea_nil) fun H1 e1 Q1 q1 => ⟨a, "assert", _, rfl, ex_t e1 hT, q1⟩)) (fun hb H1 e1 => ?_) fun hb => by cases hb
      have hT1 := ex_t e1 hT
      refine q_asgL (xs := us ++ [.ref c']) (fun H2 e2 Q2 q2 => ?_) fun p H2 hp e2 h2 => ?_
      · refine et_test (ev_eqS (ev_ixT (ev_var rfl) hT1 ev_c (atI_nat (j := 0) rfl)) ev_c) H2 e2 _ fun H3 e3 => ?_
        refine iteT ?_
        have e23 := e2.trans e3
        refine ev_ixT (ev_var rfl) hT1 ev_c (atI_nat (j := 3) rfl) H3 e23 _ fun H4 e4 => ⟨b', us, rfl, Or.inl (st_of (((e1.trans e23).trans e4) _ _ hub)), ?_⟩
        refine ev_ixT (ev_var rfl) hT1 ev_c (atI_nat (j := 4) rfl) H4 (e23.trans e4) _ fun H5 e5 => ?_
        have hz : (us ++ [V.ref c']).length ≤ sizeLine := sz_of (by
          have l1 : us.length = as.length := Paired.length hA
          simp only [List.length_append, List.length_cons, List.length_nil]
          omega)
        exact ⟨hz, fun p hp => q2 p _ (fresh_back ((e3.trans e4).trans e5) hp) (((e3.trans e4).trans e5).trans (Ex.new hp)) upd_same⟩
      · have e12 := e1.trans e2
        have hA12 : AllV H2 (us ++ [.ref c']) (as ++ [t]) := Paired.snoc (AllV.kp (Kp.ex e12) hA) ⟨c', rfl, e12 _ _ hvc⟩
        refine s_retN (S := fun v H3 => ∃ p ys, v = .ref p ∧ H2 p = none ∧ H3 p = some (.lst ys) ∧ Paired (fun x y => NmV K H3 y (lkOf H2 x, (lookC (headOf (lkOf H2 x))).getD [])) (us ++ [.ref c']) ys) (en_map (S := fun x y H3 => NmV K H3 y (lkOf H2 x, (lookC (headOf (lkOf H2 x))).getD [])) (fun x y H H' k h => h.kp k) (ei_list (ev_var rfl) (sq_of h2)) (by
          have l1 : us.length = as.length := Paired.length hA
          simp only [List.length_append, List.length_cons, List.length_nil]
          omega) (fun _ => rfl) fun x hx => ?_) fun y H3 e3 hy => ?_
        · obtain ⟨l, hm, hk⟩ := hA12.mem x hx
          rw [hk.lk]
          obtain ⟨w0, r0, cs, rfl, hcs⟩ := lookB_some (hall l hm)
          obtain ⟨d, rfl, hd⟩ := hk
          have hdT : SqT K H2 d (V.str w0 :: r0.map V.str) := st_of hd
          have e : (lookC (headOf (w0 :: r0))).getD [] = cs := by
            show (lookC w0).getD [] = cs
            rw [hcs]
            rfl
          rw [e]
          refine en_pair (xs := w0 :: r0) (es_T (ev_var rfl) hdT) (ec_is (ec_d (o := lookC w0) (ea_cons (ev_ixT (ev_var rfl) hdT ev_c (atI_nat (j := 0) rfl)) ea_nil) fun H1 e1 Q1 q1 => ⟨w0, rfl, q1⟩) hcs)
        · obtain ⟨p3, ys, rfl, hp3, hl, hP⟩ := hy
          exact q p3 H3 ys (fresh_back e12 hp3) (e12.trans e3) hl (AllV.pair hA12 hP fun u y l h1 h2 h3 => by
            rw [h1.lk] at h3
            exact h3)
    | tup ws =>
      cases ws with
      | nil => cases hB
      | cons w0 r =>
        obtain ⟨a, rfl, ha⟩ := hv
        have hT : SqT K H a (V.str w0 :: r.map V.str) := st_of ha
        have hB' : (if w0 = "" then false else if w0 = "probe" ∨ w0 = "assert" then false else if w0 = "if" ∨ w0 = "while" then fitsB r (brC w0 (headOf r)) else fitsB (w0 :: r) (rowC w0)) = true := hB
        have h0 : ¬ w0 = "" := fun z => by
          rw [if_pos z] at hB'
          cases hB'
        rw [if_neg h0] at hB'
        have h1 : ¬ (w0 = "probe" ∨ w0 = "assert") := fun z => by
          rw [if_pos z] at hB'
          cases hB'
        rw [if_neg h1] at hB'
        have hnp : decide (w0 ∈ probes2) = false := by
          simpa [probes2] using h1
        refine q_when (et_B (ev_d (z := .bl (decide (w0 ∈ probes2))) (ea_cons (ev_var rfl) ea_nil) fun H1 e1 Q1 q1 => ⟨a, w0, _, rfl, ex_t e1 hT, q1⟩)) (fun hb => by
          rw [hnp] at hb
          cases hb) fun hb H1 e1 => ?_
        have hT1 := ex_t e1 hT
        refine q_when (et_test (ev_inD ["if", "while"] (ev_ixT (ev_var rfl) hT1 ev_c (atI_nat (j := 0) rfl)) (eu_tup (ea_cons ev_c (ea_cons ev_c ea_nil)) (by decide)))) (fun hb H2 e2 => ?_) fun hb H2 e2 => ?_
        · have h2 : w0 = "if" ∨ w0 = "while" := by simpa using hb
          rw [if_pos h2] at hB'
          obtain ⟨cs, hcs⟩ := fitsB_some hB'
          obtain ⟨r0, r1, rfl⟩ : ∃ r0 r1, r = r0 :: r1 := by
            rw [hcs] at hB'
            cases r with
            | nil =>
              simp [fitsB] at hB'
              omega
            | cons r0 r1 => exact ⟨r0, r1, rfl⟩
          have e12 := e1.trans e2
          have hT2 := ex_t e12 hT
          have hsl : EvS K (tSl (rSlA K) (tVar 0) (tPart (tC (.int 1))) tNoPart) (start ["row", "looks", "look"] [V.ref a]) H2 ((r0 :: r1).map V.str) := es_from (xs := V.str w0 :: (r0 :: r1).map V.str) 1 (es_T (ev_var rfl) hT2)
          refine s_retN (en_one (en_pair hsl (ec_is (ec_d (o := brC w0 r0) (ea_cons (ev_ixT (ev_var rfl) hT2 ev_c (atI_nat (j := 0) rfl)) (ea_cons (ev_ixT (ev_var rfl) hT2 ev_c (atI_nat (j := 1) rfl)) ea_nil)) fun H1 e1 Q1 q1 => ⟨w0, r0, rfl, q1⟩) hcs))) fun y H3 e3 hy => ?_
          obtain ⟨p3, ys, rfl, hp3, hl, hP⟩ := hy
          refine q p3 H3 ys (fresh_back e12 hp3) (e12.trans e3) hl ?_
          show Paired _ _ (if w0 = "if" ∨ w0 = "while" then _ else _)
          rw [if_pos h2]
          have e : (brC w0 (headOf (r0 :: r1))).getD [] = cs := by
            rw [show brC w0 (headOf (r0 :: r1)) = some cs from hcs]
            rfl
          rw [e]
          exact hP
        · have h2 : ¬ (w0 = "if" ∨ w0 = "while") := by simpa using hb
          rw [if_neg h2] at hB'
          obtain ⟨cs, hcs⟩ := fitsB_some hB'
          have e12 := e1.trans e2
          have hT2 := ex_t e12 hT
          refine s_retN (en_one (en_pair (xs := w0 :: r) (es_T (ev_var rfl) hT2) (ec_is (ec_d (o := rowC w0) (ea_cons (ev_ixT (ev_var rfl) hT2 ev_c (atI_nat (j := 0) rfl)) ea_nil) fun H1 e1 Q1 q1 => ⟨w0, rfl, q1⟩) hcs))) fun y H3 e3 hy => ?_
          obtain ⟨p3, ys, rfl, hp3, hl, hP⟩ := hy
          refine q p3 H3 ys (fresh_back e12 hp3) (e12.trans e3) hl ?_
          show Paired _ _ (if w0 = "if" ∨ w0 = "while" then _ else _)
          rw [if_neg h2]
          have e : (rowC w0).getD [] = cs := by
            rw [hcs]
            rfl
          rw [e]
          exact hP
end
end Q7
/-! the law's own checks: _law_is_look, _law_is_watcher, _law_size_of, _law_is_row: the same answers -/
namespace Q7
open PySem PySem.Spec PyProof.Rows L2 Evl
/-! ### plain -/
def four : List Str := ["get", "drop", "peek", "has"]
def single : List Str := ["take", "drain", "roll", "look", "renew", "read", "mark", "size", "keys", "glance", "watch", "tell", "bound", "spy"]
theorem lookC_len1 : ∀ w ∈ looks_, (match lookC w with | some cs => some cs.length | none => none) = if w ∈ four then some 2 else if w ∈ single then some 1 else none := by decide +kernel
theorem four_looks : ∀ w ∈ four ++ single, w ∈ looks_ := by decide +kernel
theorem lookC_len (w : Str) : (match lookC w with | some cs => some cs.length | none => none) = if w ∈ four then some 2 else if w ∈ single then some 1 else none := by
  by_cases h : w ∈ looks_
  · exact lookC_len1 w h
  · have h1 : ¬ w ∈ four := fun z => h (four_looks w (List.mem_append_left _ z))
    have h2 : ¬ w ∈ single := fun z => h (four_looks w (List.mem_append_right _ z))
    rw [if_neg h1, if_neg h2]
    have e : lookC w = none := by
      unfold lookC
      rw [if_neg (by simpa using h)]
    rw [e]
theorem lookB_eq (w : Str) (r : List Str) : lookB (w :: r) = if w ∈ four then decide (r.length = 2) && r.all okN else if w ∈ single then decide (r.length = 1) && r.all okN else false := by
  have h := lookC_len w
  unfold lookB
  show fitsB (w :: r) (lookC w) = _
  cases hc : lookC w with
  | none =>
    rw [hc] at h
    by_cases h1 : w ∈ four
    · rw [if_pos h1] at h
      cases h
    · rw [if_neg h1] at h
      by_cases h2 : w ∈ single
      · rw [if_pos h2] at h
        cases h
      · rw [if_neg h1, if_neg h2]
        rfl
  | some cs =>
    rw [hc] at h
    have e : fitsB (w :: r) (some cs) = (decide (r.length = cs.length) && r.all okN) := by
      show (decide ((w :: r).length = 1 + cs.length) && r.all okN) = _
      congr 1
      rw [List.length_cons]
      exact decide_eq_decide.mpr (by omega)
    rw [e]
    by_cases h1 : w ∈ four
    · rw [if_pos h1] at h ⊢
      rw [show cs.length = 2 from Option.some.inj h]
    · rw [if_neg h1] at h ⊢
      by_cases h2 : w ∈ single
      · rw [if_pos h2] at h ⊢
        rw [show cs.length = 1 from Option.some.inj h]
      · rw [if_neg h2] at h
        cases h
def ones : List Str := ["stop", "else", "end"]
def twos : List Str := ["take", "skip", "drain", "fetch", "roll", "seed", "size", "keys", "load", "wipe", "change", "look", "glance", "renew", "lift", "read", "watch", "keep", "tell", "say", "call"]
def threes : List Str := ["bind", "copy", "get", "peek", "put", "fill", "drop"]
def sizeL (w : Str) : Int := if w ∈ ones then 1 else if w ∈ twos then 2 else if w ∈ threes then 3 else 0
def rowKeys : List Str := plain_.map Prod.fst ++ deeds_.map Prod.fst
theorem rowC_size1 : ∀ w ∈ rowKeys, (match rowC w with | some cs => (1 : Int) + cs.length | none => 0) = sizeL w := by decide +kernel
theorem size_keys : ∀ w ∈ ones ++ (twos ++ threes), w ∈ rowKeys := by decide +kernel
theorem lookup_none {α : Type} : ∀ {l : List (Str × α)} {z : Str}, z ∉ l.map Prod.fst → l.lookup z = none
  | [], _, _ => rfl
  | (k, v) :: r, z, h => by
    rw [List.map_cons, List.mem_cons, not_or] at h
    rw [List.lookup_cons, show (z == k) = false by simpa using h.1]
    exact lookup_none h.2
theorem rowC_size (w : Str) : (match rowC w with | some cs => (1 : Int) + cs.length | none => 0) = sizeL w := by
  by_cases h : w ∈ rowKeys
  · exact rowC_size1 w h
  · have hp : w ∉ plain_.map Prod.fst := fun z => h (List.mem_append_left _ z)
    have hd : w ∉ deeds_.map Prod.fst := fun z => h (List.mem_append_right _ z)
    have e : rowC w = none := by
      unfold rowC
      rw [lookup_none hp, lookup_none hd]
      show (if decide (w ∈ unsaid_) = true then none else none) = none
      exact ite_self none
    rw [e]
    have h1 : ¬ w ∈ ones := fun z => h (size_keys w (List.mem_append_left _ z))
    have h2 : ¬ w ∈ twos := fun z => h (size_keys w (List.mem_append_right _ (List.mem_append_left _ z)))
    have h3 : ¬ w ∈ threes := fun z => h (size_keys w (List.mem_append_right _ (List.mem_append_right _ z)))
    unfold sizeL
    rw [if_neg h1, if_neg h2, if_neg h3]
theorem fitsRow_eq (w : Str) (r : List Str) : fitsB (w :: r) (rowC w) = (decide (((w :: r).length : Int) = sizeL w) && r.all okN) := by
  have h := rowC_size w
  cases hc : rowC w with
  | none =>
    rw [hc] at h
    have h' : (0 : Int) = sizeL w := h
    rw [← h']
    have e : decide (((w :: r).length : Int) = 0) = false := by
      rw [List.length_cons]
      exact decide_eq_false (by omega)
    rw [e]
    rfl
  | some cs =>
    rw [hc] at h
    have h' : (1 : Int) + cs.length = sizeL w := h
    show (decide ((w :: r).length = 1 + cs.length) && r.all okN) = _
    rw [← h']
    congr 1
    exact decide_eq_decide.mpr (by omega)
def rbh : List Str := ["read", "bound", "has"]
def askTake : List Str := ["ask", "take"]
def lawIf (w : Str) : List Str → Bool
  | x :: y :: z => (y :: z).all okN && (if (decide (w = "if") && decide (x ∈ rbh)) = true then decide ((((w :: x :: y :: z).length : Nat) : Int) = if decide (x = "has") = true then 4 else 3) else (decide (x ∈ askTake) && decide ((((w :: x :: y :: z).length : Nat) : Int) = 3)))
  | _ => false
theorem lawIf_eq (w x y : Str) (z : List Str) : lawIf w (x :: y :: z) = ((y :: z).all okN && (if (decide (w = "if") && decide (x ∈ rbh)) = true then decide ((((w :: x :: y :: z).length : Nat) : Int) = if decide (x = "has") = true then 4 else 3) else (decide (x ∈ askTake) && decide ((((w :: x :: y :: z).length : Nat) : Int) = 3)))) := rfl
theorem brC_len1 : ∀ x ∈ ("ask" : Str) :: "take" :: rbh, ∀ w ∈ (["if", "while"] : List Str), (match brC w x with | some cs => some cs.length | none => none) = if (decide (w = "if") && decide (x ∈ rbh)) = true then (some (if x = "has" then 2 else 1)) else if x ∈ askTake then some 1 else none := by decide +kernel
theorem brC_len (w x : Str) (hw : w = "if" ∨ w = "while") : (match brC w x with | some cs => some cs.length | none => none) = if (decide (w = "if") && decide (x ∈ rbh)) = true then (some (if x = "has" then 2 else 1)) else if x ∈ askTake then some 1 else none := by
  by_cases h : x ∈ ("ask" : Str) :: "take" :: rbh
  · exact brC_len1 x h w (by simpa using hw)
  · have h1 : ¬ x = "ask" := fun z => h (by rw [z]; decide)
    have h2 : ¬ x = "take" := fun z => h (by rw [z]; decide)
    have h3 : ¬ x ∈ rbh := fun z => h (List.mem_cons_of_mem _ (List.mem_cons_of_mem _ z))
    have h4 : ¬ x ∈ askTake := by simp [askTake, h1, h2]
    have h5 : ¬ x ∈ (["has", "read", "bound"] : List Str) := fun z => h3 (by
      simp only [rbh, List.mem_cons, List.not_mem_nil, or_false] at z ⊢
      rcases z with z | z | z
      · exact Or.inr (Or.inr z)
      · exact Or.inl z
      · exact Or.inr (Or.inl z))
    have e : brC w x = none := by
      unfold brC
      rw [if_neg (by simpa using h1), if_neg (by rw [decide_eq_false h2, decide_eq_false h5, Bool.and_false]; decide)]
    rw [e, decide_eq_false h3, Bool.and_false, if_neg Bool.false_ne_true, if_neg h4]
theorem fitsIf_eq (w : Str) (hw : w = "if" ∨ w = "while") (r : List Str) : fitsB r (brC w (headOf r)) = lawIf w r := by
  cases r with
  | nil =>
    have e : brC w (headOf []) = none := by
      have h := brC_len w "" hw
      rcases hw with rfl | rfl
      · decide +kernel
      · decide +kernel
    rw [e]
    rfl
  | cons x r2 =>
    have h := brC_len w x hw
    show fitsB (x :: r2) (brC w x) = _
    have key : fitsB (x :: r2) (brC w x) = (match (match brC w x with | some cs => some cs.length | none => none) with | some n => decide (r2.length = n) && r2.all okN | none => false) := by
      cases brC w x with
      | none => rfl
      | some cs =>
        show (decide ((x :: r2).length = 1 + cs.length) && r2.all okN) = (decide (r2.length = cs.length) && r2.all okN)
        congr 1
        rw [List.length_cons]
        exact decide_eq_decide.mpr (by omega)
    rw [key, h]
    cases r2 with
    | nil =>
      show _ = false
      by_cases c1 : (decide (w = "if") && decide (x ∈ rbh)) = true
      · rw [if_pos c1]
        by_cases c2 : x = "has"
        · rw [if_pos c2]
          rfl
        · rw [if_neg c2]
          rfl
      · rw [if_neg c1]
        by_cases c2 : x ∈ askTake
        · rw [if_pos c2]
          rfl
        · rw [if_neg c2]
    | cons y z =>
      show _ = ((y :: z).all okN && _)
      by_cases c1 : (decide (w = "if") && decide (x ∈ rbh)) = true
      · rw [if_pos c1, if_pos c1]
        by_cases c2 : x = "has"
        · rw [if_pos c2, if_pos (decide_eq_true c2), Bool.and_comm]
          simp only [List.length_cons]
          exact congrArg (fun b => b && (y :: z).all okN) (decide_eq_decide.mpr (by omega))
        · rw [if_neg c2, if_neg (by simpa using c2), Bool.and_comm]
          simp only [List.length_cons]
          exact congrArg (fun b => b && (y :: z).all okN) (decide_eq_decide.mpr (by omega))
      · rw [if_neg c1, if_neg c1]
        by_cases c2 : x ∈ askTake
        · rw [if_pos c2, decide_eq_true c2, Bool.true_and, Bool.and_comm]
          simp only [List.length_cons]
          exact congrArg (fun b => b && (y :: z).all okN) (decide_eq_decide.mpr (by omega))
        · rw [if_neg c2, decide_eq_false c2, Bool.false_and, Bool.and_false]
section
variable {K : PySem.W.Frag} {σ : L2.St} {H H' : Hp} {ta tb te tx tl : TE} {t u : TT} {x y z v : V}
theorem ev_inLs {z : Str} {a : Addr} {vs : List Str} (ha : Ev ta σ H (.str z)) (hb : Ev tb σ H (.ref a)) (hv : SqL K H a (vs.map V.str)) : Ev (tOp (rIn K false) ta tb) σ H (.bl (decide (z ∈ vs))) := fun H1 e Q q =>
  ha H1 e _ fun H2 e2 => hb H2 (e.trans e2) _ fun H3 e3 => ⟨a, _, rfl, Or.inl (ex_l ((e.trans e2).trans e3) hv), rfl, flat_strs vs, by
    have z := q H3 (e2.trans e3)
    rw [← inV_str] at z
    exact z⟩
theorem et_truNL {xs : List V} (h : EvL te σ H xs) : EvT (fun σ H Q => te σ H fun x H' => ∃ k, TruV K x H' k ∧ Q k H') σ H (!xs.isEmpty) := fun H1 e Q q =>
  h H1 e _ fun p H2 _ e2 hp => ⟨_, Or.inl ⟨xs, sq_of hp, rfl⟩, q H2 e2⟩
theorem es_ifE {b : Bool} {xs ys : List V} (h : EvT t σ H b) (h1 : b = true → EvS K ta σ H xs) (h2 : b = false → EvS K tb σ H ys) : EvS K (tIf t ta tb) σ H (if b = true then xs else ys) := fun H1 e Q q => h H1 e _ fun H2 e2 => by
  cases b with
  | true => exact iteT (h1 rfl H2 (e.trans e2) Q fun p H3 e3 hp => q p H3 (e2.trans e3) hp)
  | false => exact iteF (h2 rfl H2 (e.trans e2) Q fun p H3 e3 hp => q p H3 (e2.trans e3) hp)
end
section
variable {P : Program} {w : World} {K : PySem.W.Frag} {mg : Str → Option Value} {base : Heap}
theorem sc__law_is_look : FnScope ["_law_look", "_law_single"] ["_law_look"] (defScope s_law_is_look) := ⟨rfl, rfl, rfl, by decide +kernel, rfl, by decide +kernel, by decide +kernel⟩
theorem D__law_is_look (T : Txt w K mg) (D__law_is_name : Dn P w K mg base CX0 1 "_law_is_name" spIsName) (D__law_are_names : Dn P w K mg base CX0 2 "_law_are_names" (spAre K)) : Dn P w K mg base CX0 3 "_law_is_look" (spIsLook K) := by
  refine mkD0 T.fds_law_is_look T.g__law_is_look T.kps_law_is_look sc__law_is_look (fun _ _ _ _ _ _ us hl => match us, hl with | [_], _ => rfl) (fun vs H Q E h => ?_) (fun cdv A outer s H vs Q E hr h => ?_)
  · obtain ⟨a, ws, rfl, _⟩ := h
    rfl
  · obtain ⟨a, ws, rfl, ha, hs, q⟩ := h
    refine ⟨_, (pss_cons (ps_if (PW.pt (pw_or (pt_not (pt_val (pe_callB call_isi (by rfl) T.n_isinstance bo_isinstance (pa_cons (pv 0) (pa_cons (pe_bltn (v := .ty "tuple") (by rfl) T.n_tuple bo_tuple rfl) pa_nil))))) (pw_or (pt_cmpR op_lt (pe_callB call_len_seq (by rfl) T.n_len PySem.boot_len (pa_cons (pv 0) pa_nil)) pe_int (nomark _)) (pw_or1 (pt_not (pt_val (pe_callB call_isi (by rfl) T.n_isinstance bo_isinstance (pa_cons (pe_ix ix_tup (pv 0) pe_int (fun _ _ => rfl)) (pa_cons (pe_bltn (v := .ty "str") (by rfl) T.n_str bo_str rfl) pa_nil))))))))) (pss_one (ps_ret pe_bl)) pss_nil)
    (pss_cons (ps_if (pt_cmpR op_in_seq (pe_ix ix_tup (pv 0) pe_int (fun _ _ => rfl)) (pe_tup (pa_cons pe_str (pa_cons pe_str (pa_cons pe_str (pa_cons pe_str pa_nil))))) (by rfl)) (pss_one (ps_ret (pe_and (pe_cmpR op_eq (pe_callB call_len_seq (by rfl) T.n_len PySem.boot_len (pa_cons (pv 0) pa_nil)) pe_int (nomark _)) (pe_one (pe_d D__law_are_names (hr.mono (by decide)) (by rfl) pass0 (pa_cons (pe_slice sl_tupA (pv 0) (po_some pe_int) po_none) pa_nil)))))) pss_nil)
    (pss_cons (ps_set (i := 1) sc__law_is_look.nd rfl (Or.inl rfl) (pe_lst (pa_cons pe_str (pa_cons pe_str (pa_cons pe_str (pa_cons pe_str (pa_cons pe_str (pa_cons pe_str (pa_cons pe_str (pa_cons pe_str (pa_cons pe_str (pa_cons pe_str (pa_cons pe_str (pa_cons pe_str (pa_cons pe_str (pa_cons pe_str pa_nil))))))))))))))))
    (pss_one (ps_ret (pe_and (pe_cmpR op_in_seq (pe_ix ix_tup (pv 0) pe_int (fun _ _ => rfl)) (pv 1) (by rfl)) (pe_and (pe_cmpR op_eq (pe_callB call_len_seq (by rfl) T.n_len PySem.boot_len (pa_cons (pv 0) pa_nil)) pe_int (nomark _)) (pe_one (pe_d D__law_is_name (hr.mono (by decide)) (by rfl) pass0 (pa_cons (pe_ix ix_tup (pv 0) pe_int (fun _ _ => rfl)) pa_nil)))))))))), ?_⟩
    cases ws with
    | nil =>
      refine q_when (et_or (et_not (et_B (ev_isi (b := true) (ev_var rfl) ev_c (tyT ha) (kit_ty (by decide +kernel))))) fun _ => et_or (b := true) (et_test (ev_op (ev_lenT (ev_var rfl) ha) ev_c rv_I0)) fun z => absurd z (by decide)) (fun hb H1 e1 => s_ret ev_c fun H2 e2 => ?_) fun hb => absurd hb (by decide)
      have g : lookB [] = false := by decide +kernel
      rw [← g]
      exact q H2 (e1.trans e2)
    | cons w0 r =>
      refine q_when (et_or (et_not (et_B (ev_isi (b := true) (ev_var rfl) ev_c (tyT ha) (kit_ty (by decide +kernel))))) fun _ => et_or (et_test (ev_op (ev_lenT (ev_var rfl) ha) ev_c rv_I0)) fun _ => et_not (et_B (ev_isi (b := true) (ev_ixT (ev_var rfl) ha ev_c (atI_nat (j := 0) rfl)) ev_c (fun _ _ => .base (.str _)) (kit_ty (by decide +kernel))))) (fun hb H1 e1 => s_ret ev_c fun H2 e2 => ?_) fun hb H1 e1 => ?_
      · have hr0 : r = [] := by
          cases r with
          | nil => rfl
          | cons a b =>
            simp at hb
            omega
        have g : lookB (w0 :: r) = false := by
          rw [lookB_eq, hr0]
          by_cases h1 : w0 ∈ four
          · rw [if_pos h1]
            rfl
          · rw [if_neg h1]
            by_cases h2 : w0 ∈ single
            · rw [if_pos h2]
              rfl
            · rw [if_neg h2]
        rw [← g]
        exact q H2 (e1.trans e2)
      · have hr0 : ∃ r0 r1, r = r0 :: r1 := by
          cases r with
          | nil => simp at hb
          | cons a b => exact ⟨a, b, rfl⟩
        obtain ⟨r0, r1, rfl⟩ := hr0
        have ha1 := ex_t e1 ha
        refine q_when (et_test (ev_inD four (ev_ixT (ev_var rfl) ha1 ev_c (atI_nat (j := 0) rfl)) (eu_tup (by repeat' first | exact ea_nil | refine ea_cons ev_c ?_) (by decide)))) (fun hb H2 e2 => ?_) fun hb H2 e2 => ?_
        · have h4 : w0 ∈ four := by simpa using hb
          have ha2 := ex_t e2 ha1
          refine s_ret (ev_andV (ev_eqI (ev_lenT (ev_var rfl) ha2) ev_c) fun _ => ev_dS (z := .bl ((r0 :: r1).all okN)) (xs := (r0 :: r1).map V.str) (es_from (xs := V.str w0 :: (r0 :: r1).map V.str) 1 (es_T (ev_var rfl) ha2)) fun p H3 e3 hp Q3 q3 => ⟨p, r0 :: r1, rfl, hp, hs.tail, q3⟩) fun H3 e3 => ?_
          have g : lookB (w0 :: r0 :: r1) = (decide ((((w0 :: r0 :: r1).map V.str).length : Int) = 3) && (r0 :: r1).all okN) := by
            rw [lookB_eq, if_pos h4]
            congr 1
            simp only [List.length_map, List.length_cons]
            exact decide_eq_decide.mpr (by omega)
          have z := q H3 ((e1.trans e2).trans e3)
          rw [g] at z
          exact z
        · have h4 : ¬ w0 ∈ four := by simpa using hb
          refine q_asgL (xs := single.map V.str) (el_lst (by repeat' first | exact ea_nil | refine ea_cons ev_c ?_) (by decide)) fun p H3 hp e3 h3 => ?_
          have ha3 := ex_t (e2.trans e3) ha1
          refine s_ret (ev_andV (ev_inLs (ev_ixT (ev_var rfl) ha3 ev_c (atI_nat (j := 0) rfl)) (ev_var rfl) (sq_of h3)) fun _ => ev_andV (ev_eqI (ev_lenT (ev_var rfl) ha3) ev_c) fun _ => ev_d (z := .bl (okN r0)) (ea_cons (ev_ixT (ev_var rfl) ha3 ev_c (atI_nat (j := 1) rfl)) ea_nil) fun H4 e4 Q4 q4 => ⟨r0, rfl, hs.2 r0 (by simp), q4⟩) fun H4 e4 => ?_
          have g : lookB (w0 :: r0 :: r1) = (decide (w0 ∈ single) && (decide ((((w0 :: r0 :: r1).map V.str).length : Int) = 2) && okN r0)) := by
            rw [lookB_eq, if_neg h4]
            by_cases h5 : w0 ∈ single
            · rw [if_pos h5, decide_eq_true h5, Bool.true_and]
              cases r1 with
              | nil =>
                simp
              | cons a b =>
                have e1 : decide ((r0 :: a :: b).length = 1) = false := decide_eq_false (by simp)
                have e2 : decide ((((w0 :: r0 :: a :: b).map V.str).length : Int) = 2) = false := decide_eq_false (by simp; omega)
                rw [e1, e2]
                rfl
            · rw [if_neg h5, decide_eq_false h5]
              rfl
          have z := q H4 (((e1.trans e2).trans e3).trans e4)
          rw [g] at z
          exact z
def spSize : Sp := fun vs H Q _ => ∃ z : Str, vs = [.str z] ∧ RetV (.int (sizeL z)) H Q
theorem sc__law_size_of : FnScope ["_law_word_here", "_law_one"] ["_law_word_here"] (defScope s_law_size_of) := ⟨rfl, rfl, rfl, by decide +kernel, rfl, by decide +kernel, by decide +kernel⟩
theorem D__law_size_of (T : Txt w K mg) : Dn P w K mg base CX0 1 "_law_size_of" spSize := by
  refine mkD0 T.fds_law_size_of T.g__law_size_of T.kps_law_size_of sc__law_size_of (fun _ _ _ _ _ _ us hl => match us, hl with | [_], _ => rfl) (fun vs H Q E h => ?_) (fun cdv A outer s H vs Q E hr h => ?_)
  · obtain ⟨z, rfl, _⟩ := h
    rfl
  · obtain ⟨z, rfl, q⟩ := h
    refine ⟨_, (pss_cons (ps_set (i := 1) sc__law_size_of.nd rfl (Or.inl rfl) (pe_lst (pa_cons pe_str (pa_cons pe_str (pa_cons pe_str (pa_cons pe_str (pa_cons pe_str (pa_cons pe_str (pa_cons pe_str (pa_cons pe_str (pa_cons pe_str (pa_cons pe_str (pa_cons pe_str (pa_cons pe_str (pa_cons pe_str (pa_cons pe_str (pa_cons pe_str (pa_cons pe_str (pa_cons pe_str (pa_cons pe_str (pa_cons pe_str (pa_cons pe_str (pa_cons pe_str pa_nil)))))))))))))))))))))))
    (pss_cons (ps_if (pt_cmpR op_in_seq (pv 0) (pe_tup (pa_cons pe_str (pa_cons pe_str (pa_cons pe_str pa_nil)))) (by rfl)) (pss_one (ps_ret pe_int)) pss_nil)
    (pss_cons (ps_if (pt_cmpR op_in_seq (pv 0) (pv 1) (by rfl)) (pss_one (ps_ret pe_int)) pss_nil)
    (pss_one (ps_ret (pe_ifExp (pt_cmpR op_in_seq (pv 0) (pe_tup (pa_cons pe_str (pa_cons pe_str (pa_cons pe_str (pa_cons pe_str (pa_cons pe_str (pa_cons pe_str (pa_cons pe_str pa_nil)))))))) (by rfl)) pe_int pe_int)))))), ?_⟩
    refine q_asgL (xs := twos.map V.str) (el_lst (by repeat' first | exact ea_nil | refine ea_cons ev_c ?_) (by decide)) fun p H1 hp e1 h1 => ?_
    refine q_when (et_test (ev_inD ones (ev_var rfl) (eu_tup (by repeat' first | exact ea_nil | refine ea_cons ev_c ?_) (by decide)))) (fun hb H2 e2 => s_ret ev_c fun H3 e3 => ?_) fun hb H2 e2 => ?_
    · have g : sizeL z = 1 := by
        unfold sizeL
        rw [if_pos (by simpa using hb)]
      rw [← g]
      exact q H3 ((e1.trans e2).trans e3)
    · have n1 : ¬ z ∈ ones := by simpa using hb
      refine q_when (et_test (ev_inLs (ev_var rfl) (ev_var rfl) (sq_of (e2 _ _ h1)))) (fun hb H3 e3 => s_ret ev_c fun H4 e4 => ?_) fun hb H3 e3 => ?_
      · have g : sizeL z = 2 := by
          unfold sizeL
          rw [if_neg n1, if_pos (by simpa using hb)]
        rw [← g]
        exact q H4 (((e1.trans e2).trans e3).trans e4)
      · have n2 : ¬ z ∈ twos := by simpa using hb
        refine s_ret (ev_ifE (et_test (ev_inD threes (ev_var rfl) (eu_tup (by repeat' first | exact ea_nil | refine ea_cons ev_c ?_) (by decide)))) (fun _ => ev_c) fun _ => ev_c) fun H4 e4 => ?_
        have g : V.int (sizeL z) = if decide (z ∈ threes) = true then .int 3 else .int 0 := by
          unfold sizeL
          rw [if_neg n1, if_neg n2]
          by_cases h : z ∈ threes
          · rw [if_pos h, if_pos (decide_eq_true h)]
          · rw [if_neg h, if_neg (by simpa using h)]
        rw [← g]
        exact q H4 (((e1.trans e2).trans e3).trans e4)
end
end Q7
/-! _law_is_watcher, _law_is_row -/
namespace Q7
open PySem PySem.Spec PyProof.Rows L2 Evl
section
variable {P : Program} {w : World} {K : PySem.W.Frag} {mg : Str → Option Value} {base : Heap}
theorem bad_all {H : Hp} {us : List V} {as : List (List Str)} (h : AllV H us as) : (!((us.filter fun v => !lookB (lkOf H v)).map id).isEmpty) = !as.all lookB := by
  rw [← h.eq, List.map_id, List.all_map]
  congr 1
  have z := filter_nil_iff (fun v => lookB (lkOf H v)) us
  cases hq : us.filter fun v => !lookB (lkOf H v) with
  | nil =>
    rw [hq] at z
    simp only [decide_true] at z
    rw [List.isEmpty_nil, z]
    rfl
  | cons a b =>
    rw [hq] at z
    have e : decide (a :: b = []) = false := decide_eq_false (by simp)
    rw [e] at z
    rw [List.isEmpty_cons, z]
    rfl
theorem sc__law_is_watcher : FnScope ["_law_row", "_law_looks", "_law_look"] ["_law_row"] (defScope s_law_is_watcher) := ⟨rfl, rfl, rfl, by decide +kernel, rfl, by decide +kernel, by decide +kernel⟩
theorem D__law_is_watcher (T : Txt w K mg) (D__law_is_name : Dn P w K mg base CX0 1 "_law_is_name" spIsName) (D__law_is_look : Dn P w K mg base CX0 3 "_law_is_look" (spIsLook K)) : Dn P w K mg base CX0 4 "_law_is_watcher" (spIsW K) := by
  refine mkD0 T.fds_law_is_watcher T.g__law_is_watcher T.kps_law_is_watcher sc__law_is_watcher (fun _ _ _ _ _ _ us hl => match us, hl with | [_], _ => rfl) (fun vs H Q E h => ?_) (fun cdv A outer s H vs Q E hr h => ?_)
  · obtain ⟨v, r, rfl, _⟩ := h
    rfl
  · obtain ⟨v, r, rfl, hv, hok, hT, q⟩ := h
    refine ⟨_, (pss_cons (ps_if (PW.pt (pw_or (pt_cmpR op_ne (pe_callB call_len_seq (by rfl) T.n_len PySem.boot_len (pa_cons (pv 0) pa_nil)) pe_int (nomark _)) (pw_or (pt_not (pt_val (pe_d D__law_is_name (hr.mono (by decide)) (by rfl) pass0 (pa_cons (pe_ix ix_tup (pv 0) pe_int (fun _ _ => rfl)) pa_nil)))) (pw_or (pt_not (pt_val (pe_callB call_isi (by rfl) T.n_isinstance bo_isinstance (pa_cons (pe_ix ix_tup (pv 0) pe_int (fun _ _ => rfl)) (pa_cons (pe_bltn (v := .ty "tuple") (by rfl) T.n_tuple bo_tuple rfl) pa_nil))))) (pw_or1 (pt_not (pt_val (pe_callB call_isi (by rfl) T.n_isinstance bo_isinstance (pa_cons (pe_ix ix_tup (pv 0) pe_int (fun _ _ => rfl)) (pa_cons (pe_bltn (v := .ty "tuple") (by rfl) T.n_tuple bo_tuple rfl) pa_nil)))))))))) (pss_one (ps_ret pe_bl)) pss_nil)
    (pss_cons (ps_if (PW.pt (pw_or (pt_not (pt_val (pe_callB call_isi (by rfl) T.n_isinstance bo_isinstance (pa_cons (pe_ix ix_tup (pv 0) pe_int (fun _ _ => rfl)) (pa_cons (pe_bltn (v := .ty "str") (by rfl) T.n_str bo_str rfl) pa_nil))))) (pw_or1 (pt_cmpR op_notIn_seq (pe_ix ix_tup (pv 0) pe_int (fun _ _ => rfl)) (pe_tup (pa_cons pe_str (pa_cons pe_str (pa_cons pe_str (pa_cons pe_str pa_nil))))) (by rfl))))) (pss_one (ps_ret pe_bl)) pss_nil)
    (pss_cons (ps_set (i := 1) sc__law_is_watcher.nd rfl (Or.inl rfl) (pe_op op_catA (pe_ix ix_tup (pv 0) pe_int (fun _ _ => rfl)) (pe_ifExp (pt_cmpR op_eq (pe_ix ix_tup (pv 0) pe_int (fun _ _ => rfl)) pe_str (nomark _)) (pe_ix ix_tup (pv 0) pe_int (fun _ _ => rfl)) (pe_tup pa_nil))))
    (pss_cons (ps_if (PW.pt (pw_or (pt_cmpR op_gt (pe_callB call_len_seq (by rfl) T.n_len PySem.boot_len (pa_cons (pv 1) pa_nil)) pe_int (nomark _)) (pw_or1 (pt_truth (pe_lc (own := [("_law_look", 2)]) (g := gName 2) rfl sc__law_is_watcher.nd (pi_tup (pv 1)) (blkOk_by (own := [("_law_look", 2)]) (N := ["_law_row", "_law_looks", "_law_look"]) (sc := defScope s_law_is_watcher) (by decide +kernel)) (fun _ _ _ _ _ => (pg_name (i := 2) sc__law_is_watcher.nd rfl (Or.inl rfl))) (fun _ _ _ _ _ => (pts_one (pt_not (pt_val (pe_d D__law_is_look (hr.mono (by decide)) (by rfl) pass0 (pa_cons (pv 2) pa_nil)))))) (fun _ _ _ _ _ => (pv 2))) (fun _ => rfl))))) (pss_one (ps_ret pe_bl)) pss_nil)
    (pss_one (ps_ret (pe_or (pe_cmpR op_eq (pe_ix ix_tup (pv 0) pe_int (fun _ _ => rfl)) pe_str (nomark _)) (pe_one (pe_and (pe_d D__law_is_look (hr.mono (by decide)) (by rfl) pass0 (pa_cons (pe_ix ix_tup (pv 0) pe_int (fun _ _ => rfl)) pa_nil)) (pe_one (pe_cmpR op_in_seq (pe_ix ix_tup (pe_ix ix_tup (pv 0) pe_int (fun _ _ => rfl)) pe_int (fun _ _ => rfl)) (pe_tup (pa_cons pe_str (pa_cons pe_str (pa_cons pe_str (pa_cons pe_str pa_nil))))) (by rfl)))))))))))), ?_⟩
    cases r with
    | non => exact hT.elim
    | tru => exact hT.elim
    | lst => exact hT.elim
    | str s => exact hT.elim
    | tup ws =>
      obtain ⟨a, rfl, ha⟩ := hv
      have h5 : decide (((ws.map V.str).length : Int) = 5) = false := by
        have := hok.1
        simp
        omega
      refine q_when (et_or (b := true) (et_test (ev_neI (ev_lenT (ev_var rfl) (st_of ha)) ev_c)) fun z => by rw [h5] at z; cases z) (fun hb H1 e1 => s_ret ev_c fun H2 e2 => q H2 (e1.trans e2)) fun hb H1 e1 => by
        rw [h5] at hb
        cases hb
    | pro n g as bs =>
      obtain ⟨a, b, c, rfl, ha, hB, hC⟩ := hv
      obtain ⟨hn, hg, hla, hlb, hsa, hsb⟩ := hok
      have hT : SqT K H a [.str "probe", .str n, .str g, b, c] := st_of ha
      obtain ⟨b', us, eb, hub, hA⟩ := hB
      obtain ⟨c', vs, ec, hvc, hA2⟩ := hC
      subst eb ec
      have lu : us.length = as.length := Paired.length hA
      have lv : vs.length = bs.length := Paired.length hA2
      refine q_when (et_or (et_test (ev_neI (ev_lenT (ev_var rfl) hT) ev_c)) fun _ => et_or (et_not (et_B (ev_d (ea_cons (ev_ixT (ev_var rfl) hT ev_c (atI_nat (j := 1) rfl)) ea_nil) fun H1 e1 Q1 q1 => ⟨n, rfl, hn, q1⟩))) fun _ => et_or (et_not (et_B (ev_isi (b := true) (ev_ixT (ev_var rfl) hT ev_c (atI_nat (j := 3) rfl)) ev_c (tyT (st_of hub)) (kit_ty (by decide +kernel))))) fun _ => et_not (et_B (ev_isi (b := true) (ev_ixT (ev_var rfl) hT ev_c (atI_nat (j := 4) rfl)) ev_c (tyT (st_of hvc)) (kit_ty (by decide +kernel))))) (fun hb H1 e1 => s_ret ev_c fun H2 e2 => ?_) fun hb H1 e1 => ?_
      · have w : watchB (.pro n g as bs) = false := by
          show (okN n && _) = false
          have h1 : okN n = false := by simpa using hb
          rw [h1]
          rfl
        rw [← w]
        exact q H2 (e1.trans e2)
      · have h1 : okN n = true := by simpa using hb
        have hT1 := ex_t e1 hT
        refine q_when (et_or (et_not (et_B (ev_isi (b := true) (ev_ixT (ev_var rfl) hT1 ev_c (atI_nat (j := 2) rfl)) ev_c (fun _ _ => .base (.str _)) (kit_ty (by decide +kernel))))) fun _ => et_test (ev_niD gates_ (ev_ixT (ev_var rfl) hT1 ev_c (atI_nat (j := 2) rfl)) (eu_tup (by repeat' first | exact ea_nil | refine ea_cons ev_c ?_) (by decide)))) (fun hb H2 e2 => s_ret ev_c fun H3 e3 => ?_) fun hb H2 e2 => ?_
        · have w : watchB (.pro n g as bs) = false := by
            show (okN n && (decide (g ∈ gates_) && _)) = false
            have h2 : decide (g ∈ gates_) = false := by simpa using hb
            rw [h2, Bool.false_and, Bool.and_false]
          rw [← w]
          exact q H3 ((e1.trans e2).trans e3)
        · have h2 : decide (g ∈ gates_) = true := by
            simp at hb
            simpa using hb
          have w : watchB (.pro n g as bs) = (as.all lookB && (bs.all lookB && decide (as.length + bs.length ≤ 6))) := by
            show (okN n && (decide (g ∈ gates_) && _)) = _
            rw [h1, h2]
            rfl
          have e12 := e1.trans e2
          have hT2 := ex_t e12 hT
          refine q_asgS (K := K) (es_cat (es_T (ev_ixT (ev_var rfl) hT2 ev_c (atI_nat (j := 3) rfl)) (st_of (e12 _ _ hub))) (es_ifE (xs := vs) (ys := []) (et_test (ev_eqS (ev_ixT (ev_var rfl) hT2 ev_c (atI_nat (j := 0) rfl)) ev_c)) (fun _ => es_T (ev_ixT (ev_var rfl) hT2 ev_c (atI_nat (j := 4) rfl)) (st_of (e12 _ _ hvc))) (fun _ => es_U (eu_tup ea_nil (by decide)))) (by
              rw [if_pos (by decide)]
              omega)) fun p H3 e3 hp => ?_
          rw [if_pos (by decide)] at hp
          have e13 := e12.trans e3
          have hA3 : AllV H3 (us ++ vs) (as ++ bs) := Paired.app (AllV.kp (Kp.ex e13) hA) (AllV.kp (Kp.ex e13) hA2)
          refine q_when (et_or (et_test (ev_op (ev_lenT (ev_var rfl) hp) ev_c rv_I0)) fun _ => et_truNL (xs := ((us ++ vs).filter fun v => !lookB (lkOf H3 v)).map id) (el_lc _ _ (ei_tup (ev_var rfl) hp) (by
              rw [List.length_append]
              omega) (fun _ => rfl) (fun x hx => ?_) (fun x hx hpx => ev_var rfl))) (fun hb H4 e4 => s_ret ev_c fun H5 e5 => ?_) fun hb H4 e4 => ?_
          · obtain ⟨l, hm, hk⟩ := hA3.mem x hx
            rw [hk.lk]
            obtain ⟨d, rfl, hd⟩ := hk
            have hsl : Sh l := by
              rcases List.mem_append.mp hm with hm | hm
              · exact hsa l hm
              · exact hsb l hm
            exact et_not (et_B (ev_d (ea_cons (ev_var rfl) ea_nil) fun H6 e6 Q6 q6 => ⟨d, l, rfl, st_of (e6 _ _ hd), hsl, q6⟩))
          · rw [bad_all hA3] at hb
            have w2 : watchB (.pro n g as bs) = false := by
              rw [w]
              by_cases c1 : as.length + bs.length ≤ 6
              · have c2 : decide ((6 : Int) < ((us ++ vs).length : Int)) = false := decide_eq_false (by
                  rw [List.length_append]
                  omega)
                rw [c2, Bool.false_or, List.all_append] at hb
                cases k1 : as.all lookB with
                | false => rfl
                | true =>
                  rw [k1] at hb
                  simp only [Bool.true_and, Bool.not_eq_true'] at hb
                  rw [hb]
                  rfl
              · rw [decide_eq_false c1, Bool.and_false, Bool.and_false]
            rw [← w2]
            exact q H5 ((e13.trans e4).trans e5)
          · rw [bad_all hA3] at hb
            have c1 : as.length + bs.length ≤ 6 := by
              have c2 : decide ((6 : Int) < ((us ++ vs).length : Int)) = false := (Bool.or_eq_false_iff.mp hb).1
              have c3 := of_decide_eq_false c2
              rw [List.length_append] at c3
              omega
            have k1 : (as ++ bs).all lookB = true := by simpa using (Bool.or_eq_false_iff.mp hb).2
            rw [List.all_append] at k1
            have w2 : watchB (.pro n g as bs) = true := by
              rw [w, decide_eq_true c1, Bool.and_true]
              exact k1
            have hT4 := ex_t (e13.trans e4) hT
            refine s_ret (ev_orV (b := true) (ev_eqS (ev_ixT (ev_var rfl) hT4 ev_c (atI_nat (j := 0) rfl)) ev_c) fun z => absurd z (by decide)) fun H5 e5 => ?_
            have z := q H5 ((e13.trans e4).trans e5)
            rw [w2] at z
            exact z
    | ass n g as t =>
      obtain ⟨a, b, c, rfl, ha, hB, hC⟩ := hv
      obtain ⟨hn, hg, hla, hsa, hst⟩ := hok
      have hT : SqT K H a [.str "assert", .str n, .str g, b, c] := st_of ha
      obtain ⟨b', us, eb, hub, hA⟩ := hB
      obtain ⟨c', ec, hvc⟩ := hC
      subst eb ec
      have lu : us.length = as.length := Paired.length hA
      refine q_when (et_or (et_test (ev_neI (ev_lenT (ev_var rfl) hT) ev_c)) fun _ => et_or (et_not (et_B (ev_d (ea_cons (ev_ixT (ev_var rfl) hT ev_c (atI_nat (j := 1) rfl)) ea_nil) fun H1 e1 Q1 q1 => ⟨n, rfl, hn, q1⟩))) fun _ => et_or (et_not (et_B (ev_isi (b := true) (ev_ixT (ev_var rfl) hT ev_c (atI_nat (j := 3) rfl)) ev_c (tyT (st_of hub)) (kit_ty (by decide +kernel))))) fun _ => et_not (et_B (ev_isi (b := true) (ev_ixT (ev_var rfl) hT ev_c (atI_nat (j := 4) rfl)) ev_c (tyT (st_of hvc)) (kit_ty (by decide +kernel))))) (fun hb H1 e1 => s_ret ev_c fun H2 e2 => ?_) fun hb H1 e1 => ?_
      · have w : watchB (.ass n g as t) = false := by
          show (okN n && _) = false
          have h1 : okN n = false := by simpa using hb
          rw [h1]
          rfl
        rw [← w]
        exact q H2 (e1.trans e2)
      · have h1 : okN n = true := by simpa using hb
        have hT1 := ex_t e1 hT
        refine q_when (et_or (et_not (et_B (ev_isi (b := true) (ev_ixT (ev_var rfl) hT1 ev_c (atI_nat (j := 2) rfl)) ev_c (fun _ _ => .base (.str _)) (kit_ty (by decide +kernel))))) fun _ => et_test (ev_niD gates_ (ev_ixT (ev_var rfl) hT1 ev_c (atI_nat (j := 2) rfl)) (eu_tup (by repeat' first | exact ea_nil | refine ea_cons ev_c ?_) (by decide)))) (fun hb H2 e2 => s_ret ev_c fun H3 e3 => ?_) fun hb H2 e2 => ?_
        · have w : watchB (.ass n g as t) = false := by
            show (okN n && (decide (g ∈ gates_) && _)) = false
            have h2 : decide (g ∈ gates_) = false := by simpa using hb
            rw [h2, Bool.false_and, Bool.and_false]
          rw [← w]
          exact q H3 ((e1.trans e2).trans e3)
        · have h2 : decide (g ∈ gates_) = true := by
            simp at hb
            simpa using hb
          have w : watchB (.ass n g as t) = (as.all lookB && (lookB t && (decide (headOf t ∈ asserted_) && decide (as.length ≤ 6)))) := by
            show (okN n && (decide (g ∈ gates_) && _)) = _
            rw [h1, h2]
            rfl
          have e12 := e1.trans e2
          have hT2 := ex_t e12 hT
          refine q_asgS (K := K) (es_cat (es_T (ev_ixT (ev_var rfl) hT2 ev_c (atI_nat (j := 3) rfl)) (st_of (e12 _ _ hub))) (es_ifE (xs := t.map V.str) (ys := []) (et_test (ev_eqS (ev_ixT (ev_var rfl) hT2 ev_c (atI_nat (j := 0) rfl)) ev_c)) (fun _ => es_T (ev_ixT (ev_var rfl) hT2 ev_c (atI_nat (j := 4) rfl)) (st_of (e12 _ _ hvc))) (fun _ => es_U (eu_tup ea_nil (by decide)))) (by
              rw [if_neg (by decide)]
              show us.length + 0 ≤ 100000
              omega)) fun p H3 e3 hp => ?_
          rw [if_neg (by decide), List.append_nil] at hp
          have e13 := e12.trans e3
          have hA3 : AllV H3 us as := AllV.kp (Kp.ex e13) hA
          refine q_when (et_or (et_test (ev_op (ev_lenT (ev_var rfl) hp) ev_c rv_I0)) fun _ => et_truNL (xs := (us.filter fun v => !lookB (lkOf H3 v)).map id) (el_lc _ _ (ei_tup (ev_var rfl) hp) (by omega) (fun _ => rfl) (fun x hx => ?_) (fun x hx hpx => ev_var rfl))) (fun hb H4 e4 => s_ret ev_c fun H5 e5 => ?_) fun hb H4 e4 => ?_
          · obtain ⟨l, hm, hk⟩ := hA3.mem x hx
            rw [hk.lk]
            obtain ⟨d, rfl, hd⟩ := hk
            exact et_not (et_B (ev_d (ea_cons (ev_var rfl) ea_nil) fun H6 e6 Q6 q6 => ⟨d, l, rfl, st_of (e6 _ _ hd), hsa l hm, q6⟩))
          · rw [bad_all hA3] at hb
            have w2 : watchB (.ass n g as t) = false := by
              rw [w]
              by_cases c1 : as.length ≤ 6
              · have c2 : decide ((6 : Int) < (us.length : Int)) = false := decide_eq_false (by omega)
                rw [c2, Bool.false_or, Bool.not_eq_true'] at hb
                rw [hb]
                rfl
              · rw [decide_eq_false c1, Bool.and_false, Bool.and_false, Bool.and_false]
            rw [← w2]
            exact q H5 ((e13.trans e4).trans e5)
          · rw [bad_all hA3] at hb
            have c1 : as.length ≤ 6 := by
              have c2 : decide ((6 : Int) < (us.length : Int)) = false := (Bool.or_eq_false_iff.mp hb).1
              have c3 := of_decide_eq_false c2
              omega
            have k1 : as.all lookB = true := by simpa using (Bool.or_eq_false_iff.mp hb).2
            have w2 : watchB (.ass n g as t) = (lookB t && decide (headOf t ∈ asserted_)) := by
              rw [w, k1, decide_eq_true c1, Bool.and_true, Bool.true_and]
            have hT4 := ex_t (e13.trans e4) hT
            have hc4 : SqT K H4 c' (t.map V.str) := st_of ((e13.trans e4) _ _ hvc)
            refine s_ret (ev_orV (b := lookB t && decide (headOf t ∈ asserted_)) (ev_eqS (ev_ixT (ev_var rfl) hT4 ev_c (atI_nat (j := 0) rfl)) ev_c) fun z => ev_andV (ev_d (z := .bl (lookB t)) (ea_cons (ev_ixT (ev_var rfl) hT4 ev_c (atI_nat (j := 4) rfl)) ea_nil) fun H6 e6 Q6 q6 => ⟨c', t, rfl, ex_t e6 hc4, hst, q6⟩) fun hl => ?_) fun H5 e5 => ?_
            · obtain ⟨t0, tr, cs, rfl, _⟩ := lookB_some hl
              exact ev_inD asserted_ (ev_ixT (ev_ixT (ev_var rfl) hT4 ev_c (atI_nat (j := 4) rfl)) hc4 ev_c (atI_nat (j := 0) rfl)) (eu_tup (by repeat' first | exact ea_nil | refine ea_cons ev_c ?_) (by decide))
            · have z := q H5 ((e13.trans e4).trans e5)
              rw [w2] at z
              exact z
theorem sc__law_is_row : FnScope ["_law_row"] ["_law_row"] (defScope s_law_is_row) := ⟨rfl, rfl, rfl, by decide +kernel, rfl, by decide +kernel, by decide +kernel⟩
theorem D__law_is_row (T : Txt w K mg) (D__law_are_names : Dn P w K mg base CX0 2 "_law_are_names" (spAre K)) (D__law_size_of : Dn P w K mg base CX0 1 "_law_size_of" spSize) (D__law_is_watcher : Dn P w K mg base CX0 4 "_law_is_watcher" (spIsW K)) : Dn P w K mg base CX0 5 "_law_is_row" (spIsRow K) := by
  refine mkD0 T.fds_law_is_row T.g__law_is_row T.kps_law_is_row sc__law_is_row (fun _ _ _ _ _ _ us hl => match us, hl with | [_], _ => rfl) (fun vs H Q E h => ?_) (fun cdv A outer s H vs Q E hr h => ?_)
  · obtain ⟨v, r, rfl, _⟩ := h
    rfl
  · obtain ⟨v, r, rfl, hv, hok, q⟩ := h
    refine ⟨_, (pss_cons (ps_if (PW.pt (pw_or (pt_not (pt_val (pe_callB call_isi (by rfl) T.n_isinstance bo_isinstance (pa_cons (pv 0) (pa_cons (pe_bltn (v := .ty "tuple") (by rfl) T.n_tuple bo_tuple rfl) pa_nil))))) (pw_or (pt_cmpR op_lt (pe_callB call_len_seq (by rfl) T.n_len PySem.boot_len (pa_cons (pv 0) pa_nil)) pe_int (nomark _)) (pw_or1 (pt_not (pt_val (pe_callB call_isi (by rfl) T.n_isinstance bo_isinstance (pa_cons (pe_ix ix_tup (pv 0) pe_int (fun _ _ => rfl)) (pa_cons (pe_bltn (v := .ty "str") (by rfl) T.n_str bo_str rfl) pa_nil))))))))) (pss_one (ps_ret pe_bl)) pss_nil)
    (pss_cons (ps_if (pt_cmpR op_in_seq (pe_ix ix_tup (pv 0) pe_int (fun _ _ => rfl)) (pe_tup (pa_cons pe_str (pa_cons pe_str pa_nil))) (by rfl)) (pss_one (ps_ret (pe_d D__law_is_watcher (hr.mono (by decide)) (by rfl) pass0 (pa_cons (pv 0) pa_nil)))) pss_nil)
    (pss_cons (ps_if (pt_cmpR op_in_seq (pe_ix ix_tup (pv 0) pe_int (fun _ _ => rfl)) (pe_tup (pa_cons pe_str (pa_cons pe_str pa_nil))) (by rfl)) (pss_cons (ps_if (PW.pt (pw_or (pt_cmpR op_lt (pe_callB call_len_seq (by rfl) T.n_len PySem.boot_len (pa_cons (pv 0) pa_nil)) pe_int (nomark _)) (pw_or (pt_not (pt_val (pe_callB call_isi (by rfl) T.n_isinstance bo_isinstance (pa_cons (pe_ix ix_tup (pv 0) pe_int (fun _ _ => rfl)) (pa_cons (pe_bltn (v := .ty "str") (by rfl) T.n_str bo_str rfl) pa_nil))))) (pw_or1 (pt_not (pt_val (pe_d D__law_are_names (hr.mono (by decide)) (by rfl) pass0 (pa_cons (pe_slice sl_tupA (pv 0) (po_some pe_int) po_none) pa_nil)))))))) (pss_one (ps_ret pe_bl)) pss_nil)
    (pss_cons (ps_if (PW.pt (pw_and (pt_cmpR op_eq (pe_ix ix_tup (pv 0) pe_int (fun _ _ => rfl)) pe_str (nomark _)) (pw_and1 (pt_cmpR op_in_seq (pe_ix ix_tup (pv 0) pe_int (fun _ _ => rfl)) (pe_tup (pa_cons pe_str (pa_cons pe_str (pa_cons pe_str pa_nil)))) (by rfl))))) (pss_one (ps_ret (pe_cmpR op_eq (pe_callB call_len_seq (by rfl) T.n_len PySem.boot_len (pa_cons (pv 0) pa_nil)) (pe_ifExp (pt_cmpR op_eq (pe_ix ix_tup (pv 0) pe_int (fun _ _ => rfl)) pe_str (nomark _)) pe_int pe_int) (nomark _)))) pss_nil)
    (pss_one (ps_ret (pe_and (pe_cmpR op_in_seq (pe_ix ix_tup (pv 0) pe_int (fun _ _ => rfl)) (pe_tup (pa_cons pe_str (pa_cons pe_str pa_nil))) (by rfl)) (pe_one (pe_cmpR op_eq (pe_callB call_len_seq (by rfl) T.n_len PySem.boot_len (pa_cons (pv 0) pa_nil)) pe_int (nomark _)))))))) pss_nil)
    (pss_one (ps_ret (pe_and (pe_cmpR op_eq (pe_callB call_len_seq (by rfl) T.n_len PySem.boot_len (pa_cons (pv 0) pa_nil)) (pe_d D__law_size_of (hr.mono (by decide)) (by rfl) pass0 (pa_cons (pe_ix ix_tup (pv 0) pe_int (fun _ _ => rfl)) pa_nil)) (nomark _)) (pe_one (pe_d D__law_are_names (hr.mono (by decide)) (by rfl) pass0 (pa_cons (pe_slice sl_tupA (pv 0) (po_some pe_int) po_none) pa_nil))))))))), ?_⟩
    cases r with
    | non =>
      obtain rfl : v = .non := hv
      exact q_when (et_or (b := true) (et_not (et_B (ev_isi (b := false) (ev_var rfl) ev_c (fun _ _ => .base .non) (kit_ty (by decide +kernel))))) fun z => by cases z) (fun hb H1 e1 => s_ret ev_c fun H2 e2 => q H2 (e1.trans e2)) fun hb => by cases hb
    | tru =>
      obtain rfl : v = .bl true := hv
      exact q_when (et_or (b := true) (et_not (et_B (ev_isi (b := false) (ev_var rfl) ev_c (fun _ _ => .base (.bl true)) (kit_ty (by decide +kernel))))) fun z => by cases z) (fun hb H1 e1 => s_ret ev_c fun H2 e2 => q H2 (e1.trans e2)) fun hb => by cases hb
    | lst =>
      obtain ⟨a, xs, rfl, ha⟩ := hv
      exact q_when (et_or (b := true) (et_not (et_B (ev_isi (b := false) (ev_var rfl) ev_c (fun _ e => .base (.lst (e a _ ha))) (kit_ty (by decide +kernel))))) fun z => by cases z) (fun hb H1 e1 => s_ret ev_c fun H2 e2 => q H2 (e1.trans e2)) fun hb => by cases hb
    | str s =>
      obtain rfl : v = .str s := hv
      exact q_when (et_or (b := true) (et_not (et_B (ev_isi (b := false) (ev_var rfl) ev_c (fun _ _ => .base (.str s)) (kit_ty (by decide +kernel))))) fun z => by cases z) (fun hb H1 e1 => s_ret ev_c fun H2 e2 => q H2 (e1.trans e2)) fun hb => by cases hb
    | pro n g as bs =>
      obtain ⟨a, b, c, rfl, ha, hB, hC⟩ := id hv
      have hT : SqT K H a [.str "probe", .str n, .str g, b, c] := st_of ha
      refine q_when (et_or (et_not (et_B (ev_isi (b := true) (ev_var rfl) ev_c (tyT hT) (kit_ty (by decide +kernel))))) fun _ => et_or (et_test (ev_op (ev_lenT (ev_var rfl) hT) ev_c rv_I0)) fun _ => et_not (et_B (ev_isi (b := true) (ev_ixT (ev_var rfl) hT ev_c (atI_nat (j := 0) rfl)) ev_c (fun _ _ => .base (.str _)) (kit_ty (by decide +kernel))))) (fun hb => by simp at hb) fun hb H1 e1 => ?_
      have hT1 := ex_t e1 hT
      refine q_when (et_test (ev_inD probes2 (ev_ixT (ev_var rfl) hT1 ev_c (atI_nat (j := 0) rfl)) (eu_tup (ea_cons ev_c (ea_cons ev_c ea_nil)) (by decide)))) (fun hb H2 e2 => ?_) fun hb => absurd hb (by decide)
      exact s_ret (ev_d (ea_cons (ev_var rfl) ea_nil) fun H3 e3 Q3 q3 => ⟨_, .pro n g as bs, rfl, RowV.kp (Kp.ex ((e1.trans e2).trans e3)) hv, hok, True.intro, q3⟩) fun H3 e3 => q H3 ((e1.trans e2).trans e3)
    | ass n g as t =>
      obtain ⟨a, b, c, rfl, ha, hB, hC⟩ := id hv
      have hT : SqT K H a [.str "assert", .str n, .str g, b, c] := st_of ha
      refine q_when (et_or (et_not (et_B (ev_isi (b := true) (ev_var rfl) ev_c (tyT hT) (kit_ty (by decide +kernel))))) fun _ => et_or (et_test (ev_op (ev_lenT (ev_var rfl) hT) ev_c rv_I0)) fun _ => et_not (et_B (ev_isi (b := true) (ev_ixT (ev_var rfl) hT ev_c (atI_nat (j := 0) rfl)) ev_c (fun _ _ => .base (.str _)) (kit_ty (by decide +kernel))))) (fun hb => by simp at hb) fun hb H1 e1 => ?_
      have hT1 := ex_t e1 hT
      refine q_when (et_test (ev_inD probes2 (ev_ixT (ev_var rfl) hT1 ev_c (atI_nat (j := 0) rfl)) (eu_tup (ea_cons ev_c (ea_cons ev_c ea_nil)) (by decide)))) (fun hb H2 e2 => ?_) fun hb => absurd hb (by decide)
      exact s_ret (ev_d (ea_cons (ev_var rfl) ea_nil) fun H3 e3 Q3 q3 => ⟨_, .ass n g as t, rfl, RowV.kp (Kp.ex ((e1.trans e2).trans e3)) hv, hok, True.intro, q3⟩) fun H3 e3 => q H3 ((e1.trans e2).trans e3)
    | tup ws =>
      obtain ⟨a, rfl, ha⟩ := id hv
      cases ws with
      | nil =>
        have hT : SqT K H a ([] : List V) := st_of ha
        exact q_when (et_or (et_not (et_B (ev_isi (b := true) (ev_var rfl) ev_c (tyT hT) (kit_ty (by decide +kernel))))) fun _ => et_or (b := true) (et_test (ev_op (ev_lenT (ev_var rfl) hT) ev_c rv_I0)) fun z => absurd z (by decide)) (fun hb H1 e1 => s_ret ev_c fun H2 e2 => q H2 (e1.trans e2)) fun hb => absurd hb (by decide)
      | cons w0 r =>
        have hT : SqT K H a (V.str w0 :: r.map V.str) := st_of ha
        obtain ⟨hl4, hs⟩ := id hok
        refine q_when (et_or (et_not (et_B (ev_isi (b := true) (ev_var rfl) ev_c (tyT hT) (kit_ty (by decide +kernel))))) fun _ => et_or (et_test (ev_op (ev_lenT (ev_var rfl) hT) ev_c rv_I0)) fun _ => et_not (et_B (ev_isi (b := true) (ev_ixT (ev_var rfl) hT ev_c (atI_nat (j := 0) rfl)) ev_c (fun _ _ => .base (.str _)) (kit_ty (by decide +kernel))))) (fun hb => absurd hb (by
          have c : decide (((V.str w0 :: r.map V.str).length : Int) < 1) = false := decide_eq_false (by
            rw [List.length_cons]
            omega)
          rw [c]
          decide)) fun hb H1 e1 => ?_
        have hT1 := ex_t e1 hT
        refine q_when (et_test (ev_inD probes2 (ev_ixT (ev_var rfl) hT1 ev_c (atI_nat (j := 0) rfl)) (eu_tup (ea_cons ev_c (ea_cons ev_c ea_nil)) (by decide)))) (fun hb H2 e2 => ?_) fun hb H2 e2 => ?_
        · have h1 : w0 = "probe" ∨ w0 = "assert" := by simpa [probes2] using hb
          refine s_ret (ev_d (z := .bl false) (ea_cons (ev_var rfl) ea_nil) fun H3 e3 Q3 q3 => ⟨_, .tup (w0 :: r), rfl, RowV.kp (Kp.ex ((e1.trans e2).trans e3)) hv, hok, True.intro, q3⟩) fun H3 e3 => ?_
          have w : rowB (.tup (w0 :: r)) = false := by
            show (if w0 = "" then false else if w0 = "probe" ∨ w0 = "assert" then false else _) = false
            rw [if_pos h1]
            exact ite_self false
          rw [← w]
          exact q H3 ((e1.trans e2).trans e3)
        · have h1 : ¬ (w0 = "probe" ∨ w0 = "assert") := by simpa [probes2] using hb
          have hT2 := ex_t e2 hT1
          refine q_when (et_test (ev_inD ["if", "while"] (ev_ixT (ev_var rfl) hT2 ev_c (atI_nat (j := 0) rfl)) (eu_tup (ea_cons ev_c (ea_cons ev_c ea_nil)) (by decide)))) (fun hb H3 e3 => ?_) fun hb H3 e3 => ?_
          · have h2 : w0 = "if" ∨ w0 = "while" := by simpa using hb
            have h0 : ¬ w0 = "" := by
              rintro rfl
              rcases h2 with z | z
              · exact absurd z (by decide)
              · exact absurd z (by decide)
            have w : rowB (.tup (w0 :: r)) = lawIf w0 r := by
              show (if w0 = "" then false else if w0 = "probe" ∨ w0 = "assert" then false else if w0 = "if" ∨ w0 = "while" then _ else _) = _
              rw [if_neg h0, if_neg h1, if_pos h2]
              exact fitsIf_eq w0 h2 r
            have e13 := (e1.trans e2).trans e3
            have hT3 := ex_t e3 hT2
            obtain rfl | ⟨x, rfl⟩ | ⟨x, y, z, rfl⟩ : r = [] ∨ (∃ x, r = [x]) ∨ ∃ x y z, r = x :: y :: z := by
              cases r with
              | nil => exact Or.inl rfl
              | cons x r =>
                cases r with
                | nil => exact Or.inr (Or.inl ⟨x, rfl⟩)
                | cons y z => exact Or.inr (Or.inr ⟨x, y, z, rfl⟩)
            · refine q_when (et_or (b := true) (et_test (ev_op (ev_lenT (ev_var rfl) hT3) ev_c rv_I0)) fun z => by simp at z) (fun hb H4 e4 => s_ret ev_c fun H5 e5 => ?_) fun hb => by simp at hb
              have z := q H5 ((e13.trans e4).trans e5)
              rw [w] at z
              exact z
            · refine q_when (et_or (b := true) (et_test (ev_op (ev_lenT (ev_var rfl) hT3) ev_c rv_I0)) fun z => by simp at z) (fun hb H4 e4 => s_ret ev_c fun H5 e5 => ?_) fun hb => by simp at hb
              have z := q H5 ((e13.trans e4).trans e5)
              rw [w] at z
              exact z
            · have hsl : EvS K (tSl (rSlA K) (tVar 0) (tPart (tC (.int 2))) tNoPart) (start ["_law_row"] [V.ref a]) H3 ((y :: z).map V.str) := es_from (xs := V.str w0 :: V.str x :: (y :: z).map V.str) 2 (es_T (ev_var rfl) hT3)
              refine q_when (et_or (et_test (ev_op (ev_lenT (ev_var rfl) hT3) ev_c rv_I0)) fun _ => et_or (et_not (et_B (ev_isi (b := true) (ev_ixT (ev_var rfl) hT3 ev_c (atI_nat (j := 1) rfl)) ev_c (fun _ _ => .base (.str _)) (kit_ty (by decide +kernel))))) fun _ => et_not (et_B (ev_dS (z := .bl ((y :: z).all okN)) hsl fun p H6 e6 hp Q6 q6 => ⟨p, y :: z, rfl, hp, hs.tail.tail, q6⟩))) (fun hb H4 e4 => s_ret ev_c fun H5 e5 => ?_) fun hb H4 e4 => ?_
              · have c1 : (y :: z).all okN = false := by
                  have c : decide (((V.str w0 :: (x :: y :: z).map V.str).length : Int) < 3) = false := decide_eq_false (by
                    simp only [List.map_cons, List.length_cons]
                    omega)
                  rw [c] at hb
                  generalize (y :: z).all okN = b0 at hb ⊢
                  cases b0
                  · rfl
                  · simp at hb
                have zz := q H5 ((e13.trans e4).trans e5)
                rw [w, lawIf_eq] at zz
                rw [c1, Bool.false_and] at zz
                exact zz
              · have c1 : (y :: z).all okN = true := by
                  have c : decide (((V.str w0 :: (x :: y :: z).map V.str).length : Int) < 3) = false := decide_eq_false (by
                    simp only [List.map_cons, List.length_cons]
                    omega)
                  rw [c] at hb
                  generalize (y :: z).all okN = b0 at hb ⊢
                  cases b0
                  · simp at hb
                  · rfl
                have e14 := e13.trans e4
                have hT4 := ex_t e4 hT3
                have hlen : (V.str w0 :: (x :: y :: z).map V.str).length = (w0 :: x :: y :: z).length := by simp
                refine q_when (et_and (et_test (ev_eqS (ev_ixT (ev_var rfl) hT4 ev_c (atI_nat (j := 0) rfl)) ev_c)) fun _ => et_test (ev_inD rbh (ev_ixT (ev_var rfl) hT4 ev_c (atI_nat (j := 1) rfl)) (eu_tup (ea_cons ev_c (ea_cons ev_c (ea_cons ev_c ea_nil))) (by decide)))) (fun hb H5 e5 => ?_) fun hb H5 e5 => ?_
                · have hT5 := ex_t e5 hT4
                  refine s_ret (ev_eqI (ev_lenT (ev_var rfl) hT5) (ev_is (w := .int (if decide (x = "has") = true then 4 else 3)) (ev_ifE (et_test (ev_eqS (ev_ixT (ev_var rfl) hT5 ev_c (atI_nat (j := 1) rfl)) ev_c)) (fun _ => ev_c) fun _ => ev_c) (by
                    cases decide (x = "has") <;> rfl))) fun H6 e6 => ?_
                  have zz := q H6 ((e14.trans e5).trans e6)
                  rw [w, lawIf_eq] at zz
                  rw [c1, Bool.true_and, if_pos hb, ← hlen] at zz
                  exact zz
                · have hT5 := ex_t e5 hT4
                  refine s_ret (ev_andV (ev_inD askTake (ev_ixT (ev_var rfl) hT5 ev_c (atI_nat (j := 1) rfl)) (eu_tup (ea_cons ev_c (ea_cons ev_c ea_nil)) (by decide))) fun _ => ev_eqI (ev_lenT (ev_var rfl) hT5) ev_c) fun H6 e6 => ?_
                  have zz := q H6 ((e14.trans e5).trans e6)
                  rw [w, lawIf_eq] at zz
                  rw [c1, Bool.true_and, if_neg (by rw [hb]; decide), ← hlen] at zz
                  exact zz
          · have h2 : ¬ (w0 = "if" ∨ w0 = "while") := by simpa using hb
            have e13 := (e1.trans e2).trans e3
            have hT3 := ex_t e3 hT2
            have w : rowB (.tup (w0 :: r)) = (decide (((w0 :: r).length : Int) = sizeL w0) && r.all okN) := by
              show (if w0 = "" then false else if w0 = "probe" ∨ w0 = "assert" then false else if w0 = "if" ∨ w0 = "while" then _ else _) = _
              rw [if_neg h1, if_neg h2]
              by_cases h0 : w0 = ""
              · rw [if_pos h0, h0]
                have z : sizeL "" = 0 := by decide +kernel
                rw [z]
                have c : decide (((("" : Str) :: r).length : Int) = 0) = false := decide_eq_false (by
                  rw [List.length_cons]
                  omega)
                rw [c]
                rfl
              · rw [if_neg h0]
                exact fitsRow_eq w0 r
            have hlen : (V.str w0 :: r.map V.str).length = (w0 :: r).length := by simp
            refine s_ret (ev_andV (ev_eqI (ev_lenT (ev_var rfl) hT3) (ev_d (z := .int (sizeL w0)) (ea_cons (ev_ixT (ev_var rfl) hT3 ev_c (atI_nat (j := 0) rfl)) ea_nil) fun H6 e6 Q6 q6 => ⟨w0, rfl, q6⟩)) fun _ => ev_dS (z := .bl (r.all okN)) (xs := r.map V.str) (es_from (xs := V.str w0 :: r.map V.str) 1 (es_T (ev_var rfl) hT3)) fun p H6 e6 hp Q6 q6 => ⟨p, r, rfl, hp, hs.tail, q6⟩) fun H6 e6 => ?_
            have zz := q H6 (e13.trans e6)
            rw [w, ← hlen] at zz
            exact zz
end
end Q7
/-! the text's errors: class E(QuietError): def __init__(self, f): super().__init__('..'); self.f = f -/
namespace Q7
open PySem PySem.W PySem.Calls PyProof.Rows PySem.HandSPX
/-! ### the text of __init__ -/
def eA (f : PySem.Str) (p1 p2 : Pos) : Arguments := { posonlyargs := [], args := [{ arg := "self", annotation := none, pos := p1 }, { arg := f, annotation := none, pos := p2 }], vararg := none, kwonlyargs := [], kw_defaults := [], kwarg := none, defaults := [] }
def eB (f msg : PySem.Str) (j : Nat) (p0 p1 p2 p3 p4 p5 q1 q2 q3 q4 : Pos) : List Stmt :=
  [.Expr (.Call (.Attribute (.Call (.Name "super" p0) [] [] p1) "__init__" p2) [.Constant (.str msg) j p3] [] p4) p5, .Assign [.Attribute (.Name "self" q1) f q2] (.Name f q3) q4]
def eS (f : PySem.Str) : Scope := { kind := .function, names := [("self", .local), (f, .local), ("__class__", .free), ("super", .globalImplicit)], isGenerator := false, isCoroutine := false, more := [] }
def nmOk (f : PySem.Str) : Bool := !(f == "self") && (!("self" == f) && (!("super" == f) && (!("__class__" == f) && !(f == "__debug__"))))
def Bnd (f : PySem.Str) : Prop := ∀ (qual : PySem.Str) (body : List Stmt) (cl : List (PySem.Str × Addr)) (doc pm : Value) (an : Option Addr) (cdv ct x v : Value) (r1 r2 : Pos),
  bindArgs (W.fnX "__init__" qual (eA f r1 r2) body (eS f) cl .none .none doc pm an cdv ct) ⟨[x, v], []⟩ = pure [(("self" : PySem.Str), x), (f, v)]
theorem bnd_number : Bnd "number" := by
  intro qual body cl doc pm an cdv ct x v r1 r2
  first | rfl | with_unfolding_all rfl
theorem bnd_name : Bnd "name" := by
  intro qual body cl doc pm an cdv ct x v r1 r2
  first | rfl | with_unfolding_all rfl
theorem bnd_key : Bnd "key" := by
  intro qual body cl doc pm an cdv ct x v r1 r2
  first | rfl | with_unfolding_all rfl
theorem bnd_limit : Bnd "limit" := by
  intro qual body cl doc pm an cdv ct x v r1 r2
  first | rfl | with_unfolding_all rfl
/-- the call of super().__init__ is evaluated by parts (a matter of its places) -/
def SupEq (msg : PySem.Str) (j : Nat) (p0 p1 p2 p3 p4 : Pos) : Prop := ∃ pl : Sem Bool, ∀ env : Env, eval (.Call (.Attribute (.Call (.Name "super" p0) [] [] p1) "__init__" p2) [.Constant (.str msg) j p3] [] p4) env = (do
      let ov ← attributeBase (.Call (.Name "super" p0) [] [] p1) "__init__" env (eval (.Call (.Name "super" p0) [] [] p1) env)
      standAt p2.atName
      let (f, first) ← holding [ov] (getMethod ov "__init__" pl)
      callWith p4 f first (backTo p4 (starEach [.Constant (.str msg) j p3] env)) [])
/-- what the written part says of an error class at C, its __init__ at fI -/
structure ErrT (K : Frag) (mg : PySem.Str → Option Value) (x f : PySem.Str) (C fI : Addr) : Prop where
  gC : mg x = some (.ref C)
  cls : ∃ nm q N bs bm sn sub ab col dd k0 k1 k2 k3 k5, K.lookup C = some (excClassObj nm q C N bs bm true sn sub ab col dd k0 k1 k2 k3 k5 "ValueError.__new__") ∧ refsVE bm = true
  sa : findIn K (.ref C) "__setattr__" = some (some (.builtin "object.__setattr__"))
  ga : findIn K (.ref C) "__getattribute__" = some (some (.builtin "BaseException.__getattribute__"))
  gg : findIn K (.ref C) "__getattr__" = some none
  noN : findIn K (.ref C) f = some none
  iC : findIn K (.ref C) "__init__" = some (some (.ref fI))
  tC : typeIn K (.ref fI) = some (.type "function")
  kC : keepIn K (.ref C) = true
  exC : subIn K (.ref C) (.type "BaseException") = some true
  veC : subIn K (.ref C) (.type "ValueError") = some true
  tyC : typeIn K (.ref C) = some (.type "type")
  hdC : hasDictIn K C = true
  mrC : mroIn K C (.ref C) = some true
  suC : ks_superIn K C C "__init__" = some (some (.builtin "ValueError.__init__"))
  sup : mg "super" = none
  th : nsIn K cStatics "thirdparty.any" = some none
  nm : nmOk f = true
  bnd : Bnd f
  fn : ∃ (oc : Value) (od : Option Addr) (doc pm : Value) (an : Option Addr) (cda cc : Addr) (ct : Value) (osl : Array (Option Value)) (qual msg : PySem.Str) (j : Nat) (r1 r2 p0 p1 p2 p3 p4 p5 q1 q2 q3 q4 : Pos),
    K.lookup fI = some ⟨oc, od, .func (W.fnX "__init__" qual (eA f r1 r2) (eB f msg j p0 p1 p2 p3 p4 p5 q1 q2 q3 q4) (eS f) [("__class__", cc)] .none .none doc pm an (.ref cda) ct), osl⟩ ∧ codeIn K (.ref cda) qual = true ∧ SupEq msg j p0 p1 p2 p3 p4 ∧
    (∃ (ccl : Value) (cdd : Option Addr) (vs : Array Value) (ccs : Array (Option Value)) (tf : Tok), K.lookup cda = some ⟨ccl, cdd, .fields vs, ccs⟩ ∧ vs[2]? = some (.str "/claim/cut.py" tf)) ∧
    ∃ (cl : Value) (cld : Option Addr) (csl : Array (Option Value)), K.lookup cc = some ⟨cl, cld, .cell (some (.ref C)), csl⟩
/-- the program's file, and that it has no name super of its own -/
structure PF (P : Program) : Prop where
  file : ((P.main.file : PySem.Str) == ("/claim/cut.py" : PySem.Str)) = true
  nosup : (P.main.scope.names.lookup ("super" : PySem.Str)).isSome = false
section
variable {prog : Program} {w : World} {A : Around} {E : Value → Shared → Prop} {R : Result → Shared → Prop} {h : Heap} {g : Array GenState} {d : Drawn} {t : Nat} {os : OsState}
/-- the bound built-in __init__, called -/
theorem sup_call {C x u t0 : Addr} {rest : List Value} {Q : Value → Shared → Prop} {nm q : PySem.Str} {N : Addr} {bs bm : List Value} {hdct : Bool} {sn : List PySem.Str} {sub : List Value} {ab : Bool} {col : Option Bool} {dd : Option Addr} {k0 k1 k2 k3 k5 : Option Value}
    (hC : h.get? C = some (excClassObj nm q C N bs bm hdct sn sub ab col dd k0 k1 k2 k3 k5 "ValueError.__new__")) (he : h.get? x = some (excO C t0)) (hu : h.get? u = some (kxs_mw "ValueError.__init__" x)) (hz : rest.length ≤ sizeLine)
    (hq : ∀ h' t1, (∀ b o, b ≠ x → h.get? b = some o → h'.get? b = some o) → h'.get? x = some (excO C t1) → Q .none ⟨h', g, d, t, os⟩) :
    wpAny (model prog w) A (call (.ref u) rest) Q E ⟨h, g, d, t, os⟩ := by
  refine wpAny_call (codeAny_of_tree ?_)
  show wpAny _ A.in1 (callAny (.ref u) ⟨rest, []⟩) _ _ _
  simp only [callAny]
  refine wpAny_bind (wpAny_load hu ?_)
  simp only [kxs_mw, show (Value.type "method-wrapper" == Value.type "method" || Value.type "method-wrapper" == Value.type "builtin_function_or_method" || Value.type "method-wrapper" == Value.type "method-wrapper") = true by decide, if_true]
  refine KFB.if_so (by decide) ?_
  refine wpAny_bind (check_bound_init F.excBase_ValueError.toExcCallFacts hC he rfl ?_)
  refine wpAny_bind (wpAny_pure (wpAny_pure ?_))
  refine ⟨plainId_quiet F.excBase_ValueError.init.plain _, codeAny_builtin F.excBase_ValueError.initEntry ?_⟩
  exact exc_init_tree (cls := .ref C) (t0 := t0) (dv := none) (c2 := .none) (c3 := .none) (b4 := .bool false) he hz fun h' k e' _ => hq h' _ k e'
end
/-- what __init__ leaves of a fresh exception at x -/
structure InitEnd (f : PySem.Str) (h h' : Heap) (x C dx t1 : Addr) (v : Value) : Prop where
  keep : ∀ b o, b ≠ x → h.get? b = some o → h'.get? b = some o
  obj : h'.get? x = some { cls := .ref C, dict := some dx, data := .fields #[.ref t1, .none, .none, .none, .bool false, .none] }
  dbig : h.objs.size ≤ dx
  dne : dx ≠ x
  ns : h'.Ns1 dx (fun y => if y = f then some v else none)
/-- a made error -/
structure OwnMade (f : PySem.Str) (h h' : Heap) (e C d : Addr) (v : Value) : Prop where
  keep : ∀ b o, h.get? b = some o → h'.get? b = some o
  new : h.objs.size ≤ e
  obj : ∃ oe vs, h'.get? e = some oe ∧ oe.cls = .ref C ∧ oe.dict = some d ∧ oe.data = .fields vs ∧ vs[1]? = some .none
  dbig : h.objs.size ≤ d
  dne : d ≠ e
  ns : h'.Ns1 d (fun y => if y = f then some v else none)
section
variable {prog : Program} {w : World} {A : Around} {E : Value → Shared → Prop} {R : Result → Shared → Prop} {s : Shared} {K : Frag} {mg : PySem.Str → Option Value} {x0 f : PySem.Str} {C fI : Addr}
theorem nm_all (h : nmOk f = true) : (f == ("self" : PySem.Str)) = false ∧ (("self" : PySem.Str) == f) = false ∧ (("super" : PySem.Str) == f) = false ∧ (("__class__" : PySem.Str) == f) = false ∧ (f == ("__debug__" : PySem.Str)) = false := by
  unfold nmOk at h
  simp only [Bool.and_eq_true, Bool.not_eq_true'] at h
  exact ⟨h.1, h.2.1, h.2.2.1, h.2.2.2.1, h.2.2.2.2⟩
theorem eS_self : (eS f).names.lookup ("self" : PySem.Str) = some .local := rfl
theorem eS_f (h : nmOk f = true) : (eS f).names.lookup f = some .local := by
  obtain ⟨h1, _⟩ := nm_all h
  show List.lookup f [(("self" : PySem.Str), NameKind.local), (f, .local), ("__class__", .free), ("super", .globalImplicit)] = _
  simp only [List.lookup_cons, h1, beq_self_eq_true]
theorem eS_cls (h : nmOk f = true) : (eS f).names.lookup ("__class__" : PySem.Str) = some .free := by
  obtain ⟨_, _, _, h4, _⟩ := nm_all h
  show List.lookup ("__class__" : PySem.Str) [(("self" : PySem.Str), NameKind.local), (f, .local), ("__class__", .free), ("super", .globalImplicit)] = _
  simp only [List.lookup_cons, h4, beq_self_eq_true, show (("__class__" : PySem.Str) == "self") = false by decide]
theorem eS_sup (h : nmOk f = true) : (eS f).names.lookup ("super" : PySem.Str) = some .globalImplicit := by
  obtain ⟨_, _, h3, _⟩ := nm_all h
  show List.lookup ("super" : PySem.Str) [(("self" : PySem.Str), NameKind.local), (f, .local), ("__class__", .free), ("super", .globalImplicit)] = _
  simp only [List.lookup_cons, h3, beq_self_eq_true, show (("super" : PySem.Str) == "self") = false by decide, show (("super" : PySem.Str) == "__class__") = false by decide]
theorem err_init {mb : PySem.Str → Option Value} (T : ErrT K mg x0 f C fI) (HP : PF prog) {x t0 : Addr} {v : Value} (X : K.In s.heap) (G : s.heap.Ns mainGlobals mg) (B : s.heap.Ns builtinsNs mb) (hmb : mb "super" = bootBuiltins "super") (hlim : s.heap.NoLimit)
    (hx : s.heap.get? x = some (excO C t0)) (hnx : K.lookup x = none) (hroom : A.depth < recursionLimit)
    (hq : ∀ h' tk dx t1, InitEnd f s.heap h' x C dx t1 v → R (.ok (.ret .none)) { s with heap := h', toks := tk }) :
    codeAny (model prog w) A (.call (.ref fI) ⟨[.ref x, v], []⟩) R s := by
  obtain ⟨oc, od, doc, pm, an, cda, cc, ct, osl, qual, msg, j, r1, r2, p0, p1, p2, p3, p4, p5, q1, q2, q3, q4, ho, hcd, ⟨pl, hpl⟩, ⟨ccl, cdd, vs, ccs, tf, hcda, hvs⟩, cl, cld, csl, hcell⟩ := T.fn
  obtain ⟨nm, q, N, bs, bm, sn, sub, ab, col, dd, k0, k1, k2, k3, k5, hC, hbm⟩ := T.cls
  obtain ⟨n1, n2, n3, n4, n5⟩ := nm_all T.nm
  have hcl : clsIn K C = some { name := nm, bases := bs, mro := .ref C :: bm, ns := N, qualname := q, hasDict := true, slotNames := sn, subclasses := sub, abstract := ab, collection := col, hasDel := false } := by unfold clsIn; rw [hC] <;> rfl
  refine ks_codeAny_call_defAt (fd := W.fnX "__init__" qual (eA f r1 r2) (eB f msg j p0 p1 p2 p3 p4 p5 q1 q2 q3 q4) (eS f) [("__class__", cc)] .none .none doc pm an (.ref cda) ct) (body := eB f msg j p0 p1 p2 p3 p4 p5 q1 q2 q3 q4) (binds := [("self", .ref x), (f, v)]) hroom (X _ _ ho) rfl hlim (codeRec_of X hcd) rfl (BindsTo.of_eq (T.bnd _ _ _ _ _ _ _ _ _ _ _ _)) ?_ ?_ (fun h₀ hns hk => ?_)
  · intro y hy
    have hy' : y ∈ [(("self" : PySem.Str), NameKind.local), (f, .local), ("__class__", .free), ("super", .globalImplicit)] := hy
    simp only [List.mem_cons, List.not_mem_nil, or_false] at hy'
    rcases hy' with rfl | rfl | rfl | rfl <;> (intro z; cases z)
  · intro y hy
    simp only [List.mem_cons, List.not_mem_nil, or_false] at hy
    rcases hy with rfl | rfl
    · exact eS_self
    · exact eS_f T.nm
  have hxL : s.heap.objs.size ≠ x := Nat.ne_of_gt (Heap.lt_size hx)
  have X0 : K.In h₀ := X.keeps hk
  have hx0 := hk _ _ hx
  have hself : (List.lookup ("self" : PySem.Str) [(f, v), (("self" : PySem.Str), Value.ref x)]) = some (.ref x) := by simp only [List.lookup_cons, n2, beq_self_eq_true]
  have hf : (List.lookup f [(f, v), (("self" : PySem.Str), Value.ref x)]) = some v := by simp only [List.lookup_cons, beq_self_eq_true]
  -- super().__init__('..')
  refine ks_wpAt_execs_cons (ks_wpAt_Expr_any (ks_wpAt_MethodCall (he := hpl _) ?_))
  obtain ⟨cdD, hD1⟩ : ∃ cd : ClassData, (excClassObj nm q C N bs bm true sn sub ab col dd k0 k1 k2 k3 k5 "ValueError.__new__").data = .cls cd := ⟨_, rfl⟩
  have I0 : InstAt h₀ x (excO C t0) C none := ⟨hx0, rfl, rfl, trivial⟩
  refine ks_wpAt_super_base (of := ⟨oc, od, _, osl⟩) (eS_sup T.nm) (eS_cls T.nm) (by decide) rfl (X0 _ _ ho) rfl rfl rfl (X0 _ _ hcda) rfl hvs HP.file HP.nosup ?_
  refine ks_loadName_global rfl (eS_sup T.nm) (loadGlobal_builtin (G.keeps hk) T.sup (B.keeps hk) (hmb.trans (by decide +kernel)) ⟨rfl, ?_⟩)
  refine wpAny_loadName_free rfl (eS_cls T.nm) (c := cc) (by rfl) ⟨_, X0 _ _ hcell, rfl⟩ ?_
  refine wpAny_loadName_local rfl eS_self hns hself ?_
  refine ks_wpAny_isType_cls (X0 _ _ hC) hD1 ⟨rfl, ?_⟩
  refine ks_wpAny_call_super (X0 _ _ hC) hD1 hx0 rfl (fun c e => by cases e) (looks_mroIn X0 T.mrC) (fun h1 e1 k1' => ?_)
  have X1 : K.In h1 := X0.keeps k1'
  have hx1 := k1' _ _ hx0
  have I1 : InstAt h1 x (excO C t0) C none := ⟨hx1, rfl, rfl, trivial⟩
  have hm := T.suC
  unfold ks_superIn at hm
  rw [hcl] at hm
  refine kxs_getMethod kxs_ValueError e1 (looks_opaque X1 T.th) (l₀ := .ref C :: bm) ?_ rfl X1 hm (I1.type.andThen (looks_subIn X1 T.veC)) (ks_ne X1 I1 hcl) (by decide) ?_
  · exact fun A Q E s k q => wpAny_bind ((looks_clsIn X1 hcl) A _ E s k (wpAny_pure q))
  have k2' : ∀ b o, h1.get? b = some o → (h1.push (kxs_mw "ValueError.__init__" x)).get? b = some o := fun b o e => Heap.get?_push_of_some _ e
  have hu2 : (h1.push (kxs_mw "ValueError.__init__" x)).get? h1.objs.size = some (kxs_mw "ValueError.__init__" x) := Heap.get?_push_size _ rfl
  refine kxs_callWith (i := "ValueError.__init__") (x := x) rfl (evalArgs_plain (spliced_cons ?_))
  show wpAny _ _ (eval (.Constant (.str msg) j p3) _) _ _ _
  refine Constant_str (spliced_nil ⟨hu2, ?_⟩)
  refine sup_call (k2' _ _ ((X1 _ _ hC))) (k2' _ _ hx1) hu2 (by show 1 ≤ sizeLine; decide) fun h3 t1 k3' hx3 => ?_
  have k03 : ∀ b o, b ≠ x → h₀.get? b = some o → h3.get? b = some o := fun b o hb e => k3' b o hb (k2' b o (k1' b o e))
  have X3 : K.In h3 := fun a o e => k03 a o (fun z => by rw [z, hnx] at e; cases e) (X0 a o e)
  have hns3 : h3.Ns s.heap.objs.size (fun y => List.lookup y [(f, v), (("self" : PySem.Str), Value.ref x)]) := by
    obtain ⟨oL, es, ep, hL, r⟩ := hns
    exact ⟨oL, es, ep, k03 _ _ hxL hL, r⟩
  -- self.f = f
  refine ks_wpAt_execs_cons (wpAt_of_wpAny (plainObj_wpAny_Assign_Attribute ?_))
  refine wpAny_Name (wpAny_loadName_local rfl (eS_f T.nm) hns3 hf (wpAny_Name (wpAny_loadName_local rfl eS_self hns3 hself ?_) (by decide))) n5
  refine set_plain X3 (ox := excO C t1) (od := none) ⟨hx3, rfl, rfl, trivial⟩ T.sa ?_
  refine exc_osa X3 hx3 hcl (show refsVE (.ref C :: bm) = true from hbm) rfl T.noN (fun h4 tk4 dx k4 dn dne hx4 hn4 => ?_)
  refine wpAt_of_wpAny (wpAny_execs_nil (hq h4 tk4 dx t1 ⟨fun b o hb e => k4 b o hb (k03 b o hb (hk b o e)), hx4, ?_, dne, hn4⟩))
  have z : s.heap.objs.size < h3.objs.size := hns3.lt
  exact Nat.le_of_lt (Nat.lt_of_lt_of_le z dn)
end
end Q7
/-! the text's errors: raise E(e), e.f in a suite, the seven classes -/
namespace Q7
section
open PySem PySem.W PySem.Calls PyProof.Rows PySem.HandSPX
theorem one_sz (v : Value) : [v].length ≤ sizeLine := by
  rw [sizeLine_eq]
  exact (by decide : 1 ≤ 16777216)
variable {prog : Program} {w : World} {A : Around} {E : Value → Shared → Prop} {R : Result → Shared → Prop} {s : Shared} {K : Frag} {mg : PySem.Str → Option Value} {x0 f : PySem.Str} {C fI : Addr}
theorem err_made {mb : PySem.Str → Option Value} (T : ErrT K mg x0 f C fI) (HP : PF prog) {v : Value} (X : K.In s.heap) (G : s.heap.Ns mainGlobals mg) (B : s.heap.Ns builtinsNs mb) (hmb : mb "super" = bootBuiltins "super") (hlim : s.heap.NoLimit) (hroom : A.depth + 1 < recursionLimit)
    (hq : ∀ h' tk e d, OwnMade f s.heap h' e C d v → R (.ok (.ret (.ref e))) { s with heap := h', toks := tk }) :
    codeAny (model prog w) A (.call (.ref C) ⟨[v], []⟩) R s := by
  obtain ⟨nm, q, N, bs, bm, sn, sub, ab, col, dd, k0, k1, k2, k3, k5, hC, hbm⟩ := T.cls
  obtain ⟨hp, g, dr, tk, os⟩ := s
  have k : ∀ b o, hp.get? b = some o → ((hp.push (kdv_tup [v])).push (excO C hp.objs.size)).get? b = some o := fun b o e => Heap.get?_push_of_some _ (Heap.get?_push_of_some _ e)
  have hget : ((hp.push (kdv_tup [v])).push (excO C hp.objs.size)).get? (hp.objs.size + 1) = some (excO C hp.objs.size) := by heap_get
  have hnx : K.lookup (hp.objs.size + 1) = none := by
    cases e : K.lookup (hp.objs.size + 1) with
    | none => rfl
    | some o =>
      have z : hp.get? (hp.objs.size + 1) = some o := X _ _ e
      exact absurd (Nat.lt_of_succ_lt (Heap.lt_size z)) (Nat.lt_irrefl _)
  refine call_own F.excBase_ValueError (fun X => refsVE_contains X bm hbm) (X _ _ hC) (looks_findIn X T.iC) (fun self => bind_fn X self T.tC) (one_sz v) ?_
  refine err_init (s := ⟨(hp.push (kdv_tup [v])).push (excO C hp.objs.size), g, dr, tk, os⟩) T HP (X.keeps k) (G.keeps k) (B.keeps k) hmb (hlim.keeps k) hget hnx ?_ fun h' tk' dx t1 ⟨k', hx, dn, dne, hns⟩ => ?_
  · show A.depth + 1 < recursionLimit
    exact hroom
  · have old : ∀ b o, hp.get? b = some o → h'.get? b = some o := fun b o e => k' b o (Nat.ne_of_lt (Nat.lt_succ_of_lt (Heap.lt_size e))) (k b o e)
    have z : hp.objs.size + 1 + 1 ≤ dx := by
      first
        | (simpa only [Heap.size_push] using dn)
        | exact dn
        | (have q := dn; rw [Heap.size_push, Heap.size_push] at q; exact q)
    exact ⟨rfl, hq h' tk' (hp.objs.size + 1) dx ⟨old, Nat.le_succ _, ⟨_, _, hx, rfl, rfl, rfl, rfl⟩, Nat.le_trans (Nat.le_trans (Nat.le_succ _) (Nat.le_succ _)) z, dne, hns⟩⟩
end
section
open PySem PySem.Spec PyProof.Rows L2
theorem relO_one {v : V} {v' : Value} {f : Str} (r : RelV v v') (y : Str) : RelO (List.lookup y [(f, v)]) (if y = f then some v' else none) := by
  by_cases hw : y = f
  · subst hw
    rw [if_pos rfl]
    have q : List.lookup y [(y, v)] = some v := by simp [List.lookup]
    rw [q]
    exact r
  · rw [if_neg hw]
    have qw : (y == f) = false := by simpa using hw
    have q2 : List.lookup y [(f, v)] = none := by simp [List.lookup, qw]
    rw [q2]
    trivial
/-- E(e) -/
def tMkQ (C : Addr) (f : Str) (ta : TA) : L2.St → Hp → XK → Prop := fun σ H Q => ta σ H fun vs H1 => ∃ v, vs = [v] ∧ ∀ d, H1 d = none → Q (.ref C) (some d) (upd H1 d (.xd [(f, v)]))
variable {X : Cx} {x0 f : Str} {C fI : Addr}
theorem pmk_q {a : Expr} {ta : TA} {p pos : Pos} {k : Nat} (T : ErrT X.K X.mg x0 f C fI) (HP : PF X.prog) (hr : Room k X.A) (ha : PA X [a] ta) (hg : Gl X x0 := by rfl) (hdb : (x0 == ("__debug__" : Str)) = false := by decide)
    (he : starEach (a :: []) X.env = (false, eval a X.env) :: starEach [] X.env := by rfl) (hpl : (backTo pos (starEach [] X.env)).any (·.1) = false := by rfl) :
    PMk X (.Call (.Name x0 p) [a] [] pos) (tMkQ C f ta) := by
  intro pins s σ H Q I h
  refine wpAny_Call_Name_kw (ld_glob I hg T.gC ?_ hdb)
  refine PySem.W.callWith_K (h₀ := X.base) I.ok.mod.kin T.kC (thn (ha.run pos pins s σ H _ I h) fun us s1 hh => ?_) he hpl
  obtain ⟨vs, H1, I1, r1, v, ev, q1⟩ := hh
  subst ev
  refine ⟨I1.kIn, ?_⟩
  cases r1 with
  | cons rv rn =>
    rename_i v' us'
    cases rn
    show wpAny _ _ (call (.ref C) [v']) _ _ _
    have hlim := I1.nolimit
    obtain ⟨mb, hb1, hb2⟩ := I1.mod.blt
    have G1 := I1.mod.glob.keeps I1.bk
    have B1 := hb1.keeps I1.bk
    have K1 := I1.kIn
    obtain ⟨hp, g, dr, tk, os⟩ := s1
    refine wpAny_call (err_made T HP K1 G1 B1 (hb2 "super" (by decide)) hlim (by have := hr.dp; omega) fun h' tk' e d M => ?_)
    show MkP X pins σ Q (.ref e) ⟨h', g, dr, tk', os⟩
    obtain ⟨oe, fv, hoe, hc, hd, hdat, h1⟩ := M.obj
    have hns := M.ns
    obtain ⟨G', g1, g2⟩ := restrict h' fun b => decide (b ≠ e)
    have gk : ∀ b, b ≠ e → G'.get? b = h'.get? b := fun b hb => g1 b (decide_eq_true hb)
    have ge : G'.get? e = none := g2 e (by simp)
    have old : ∀ b o, hp.get? b = some o → G'.get? b = some o := fun b o q => (gk b (Nat.ne_of_lt (Nat.lt_of_lt_of_le (Heap.lt_size q) M.new))).trans (M.keep b o q)
    have ob : ObjOk X.prog X.w (upd H1 d (.xd [(f, v)])) G' d (.xd [(f, v)]) :=
      ⟨_, hns.at (fun o q => (gk d M.dne).trans q), fun y => relO_one rv y⟩
    have J : Inv X pins σ (upd H1 d (.xd [(f, v)])) ⟨G', g, dr, tk', os⟩ := I1.laid (t' := tk') old M.dbig ob
    refine ⟨e, oe, fv, ⟨G', g, dr, tk', os⟩, _, .ref C, some d, rfl, J, fun b o q => ?_, ge, hoe, ⟨hc, hd⟩, hdat, h1, ?_, rfl, I1.bare, raises_own T.exC T.tyC, q1 d (I1.hok.fresh M.dbig)⟩
    · by_cases hb : b = e
      · have q' : G'.get? b = some o := q
        rw [hb, ge] at q'; cases q'
      · exact (gk b hb).symm.trans q
    · rw [upd_ne (Ne.symm M.dne)]
      exact I1.hok.fresh M.new
/-- e.f, e the exception that the suite holds (at a; its class cls, its dict d) -/
def tByQ (C : Addr) (f : Str) (a : Addr) (cls : Value) (d : Option Addr) (te : TE) : TE := fun σ H Q => te σ H fun x H1 => x = .ref a ∧ cls = .ref C ∧ ∃ (dd : Addr) (v : V), d = some dd ∧ H1 dd = some (.xd [(f, v)]) ∧ Q v H1
theorem pe_byQ {a : Addr} {oe : Obj} {cls : Value} {d : Option Addr} {pn : List (Addr × Obj)} {e : Expr} {te : TE} {pos : Pos} (T : ErrT X.K X.mg x0 f C fI) (hz : Zc cls d oe) (hf : ∃ vs, oe.data = .fields vs) (he : PE (X.suite a ((a, oe) :: pn)) e te)
    (hb : attributeBase e f X.env (eval e X.env) = eval e X.env := by rfl) :
    PE (X.suite a ((a, oe) :: pn)) (.Attribute e f pos) (tByQ C f a cls d te) := by
  refine ⟨fun pins s σ H Q I h => ?_⟩
  refine attr_of hb (thn (he.run pins s σ H _ I h) fun u s1 hh => ?_)
  obtain ⟨x, H1, I1, rx, ex, ec, dd, v, ed, ea, q⟩ := hh
  subst ex
  obtain rfl : u = Value.ref a := rx
  subst ec
  subst ed
  obtain ⟨ha, _⟩ := I1.pin (a, oe) (List.mem_append_left _ List.mem_cons_self)
  obtain ⟨vs, hd⟩ := hf
  have hx : ObjOk X.prog X.w H1 s1.heap dd (.xd [(f, v)]) := I1.hok dd _ ea
  obtain ⟨mA, hns, hr⟩ := hx
  obtain ⟨od, ho, hl⟩ := lookIn_ns hns
  have l : List.lookup f [(f, v)] = some v := by simp [List.lookup]
  obtain ⟨u, hu, ru⟩ := RelO.some_of (v := v) (o := mA f) (by rw [← l]; exact hr f)
  have J : PySem.W.InstAt s1.heap a oe C (some od) := ⟨ha, hz.1, by unfold PySem.W.notCls; rw [hd] <;> rfl, by rw [hz.2]; exact ho⟩
  exact HandSPX.exc_get I1.kIn J T.ga T.gg T.exC (PySem.W.findObj_own T.hdC T.noN rfl (by rw [hl, hu])) (handed_of ru) ⟨v, H1, I1.tok _, ru, q⟩
end
/-! ### the seven classes -/
section
open PySem PySem.W PyProof.Rows PySem.HandSPX L2
variable {w : World} {K : Frag} {mg : PySem.Str → Option Value}
theorem errT_of {x f : PySem.Str} {st : Stmt} {qual msg : PySem.Str} {j : Nat} {r1 r2 p0 p1 p2 p3 p4 p5 q1 q2 q3 q4 : Pos} (hg : mg x = some (.ref (He.ga K x))) (hsup : mg "super" = none) (hth : nsIn K cStatics "thirdparty.any" = some none) (hb : errB K x f = true)
    (hx : fnX K (He.ma K (He.ga K x) "__init__") = (some ((("__init__" : PySem.Str), qual, defArgs st, FuncBody.stmts (defBody st), defScope st, mainGlobals, [("__class__" : PySem.Str)], builtinsNs)) : FnX))
    (hd : ∃ d : DefX, d.adr = (fun K => He.ma K (He.ga K x) "__init__") ∧ d.qual = qual ∧ d.ok K = true) (hA : defArgs st = eA f r1 r2) (hB : defBody st = eB f msg j p0 p1 p2 p3 p4 p5 q1 q2 q3 q4) (hS : defScope st = eS f) (hsp : SupEq msg j p0 p1 p2 p3 p4)
    (hn : nmOk f = true) (hbd : Bnd f) : ErrT K mg x f (He.ga K x) (He.ma K (He.ga K x) "__init__") := by
  unfold errB at hb
  obtain ⟨b1, hb⟩ := He.ba hb
  obtain ⟨b2, hb⟩ := He.ba hb
  obtain ⟨b3, hb⟩ := He.ba hb
  obtain ⟨b4, hb⟩ := He.ba hb
  obtain ⟨b5, hb⟩ := He.ba hb
  obtain ⟨b6, hb⟩ := He.ba hb
  obtain ⟨b7, hb⟩ := He.ba hb
  obtain ⟨b8, hb⟩ := He.ba hb
  obtain ⟨b9, hb⟩ := He.ba hb
  obtain ⟨b10, hb⟩ := He.ba hb
  obtain ⟨b11, hb⟩ := He.ba hb
  obtain ⟨b12, hb⟩ := He.ba hb
  obtain ⟨b13, hb⟩ := He.ba hb
  obtain ⟨b14, b15⟩ := He.ba hb
  refine ⟨hg, ?_, He.eqO_ok b2, He.eqO_ok b3, He.eqO_ok b4, He.eqO_ok b5, He.eqO_ok b6, of_decide_eq_true b7, b8, of_decide_eq_true b9, of_decide_eq_true b10, of_decide_eq_true b11, b12, of_decide_eq_true b13, He.eqO_ok b14, hsup, hth, hn, hbd, ?_⟩
  · cases hl : K.lookup (He.ga K x) with
    | none =>
      rw [hl] at b1
      cases b1
    | some o =>
      rw [hl] at b1
      obtain ⟨oc, od, dt, sl⟩ := o
      cases oc with
      | type t =>
        cases dt with
        | cls cd =>
          obtain ⟨c1, c2⟩ := He.ba b1
          obtain rfl : t = "type" := of_decide_eq_true c1
          obtain ⟨nm, bs, mro, ns, qn, hdct, sn, sub, ab, col, del⟩ := cd
          dsimp only at c2
          cases mro with
          | nil => cases c2
          | cons m0 bm =>
            cases m0 with
            | ref C' =>
              obtain ⟨sl⟩ := sl
              rcases sl with _ | ⟨k0, _ | ⟨k1, _ | ⟨k2, _ | ⟨k3, _ | ⟨k4, _ | ⟨k5, _ | ⟨k6, r⟩⟩⟩⟩⟩⟩⟩
              all_goals (try (exfalso; simp at c2; done))
              cases k4 with
              | none => cases c2
              | some v4 =>
                cases v4 with
                | builtin n =>
                  obtain ⟨d1, d2⟩ := He.ba c2
                  obtain ⟨d3, d4⟩ := He.ba d2
                  obtain ⟨d5, d6⟩ := He.ba d4
                  obtain ⟨d7, d8⟩ := He.ba d6
                  obtain rfl : C' = He.ga K x := of_decide_eq_true d1
                  obtain rfl : n = "ValueError.__new__" := of_decide_eq_true d3
                  have d5' : del = false := by simpa using d5
                  have d7' : hdct = true := d7
                  subst d5' d7'
                  exact ⟨nm, qn, ns, bs, bm, sn, sub, ab, col, od, k0, k1, k2, k3, k5, rfl, d8⟩
                | _ => cases c2
            | _ => cases c2
        | _ => cases b1
      | _ => cases b1
  · obtain ⟨dx, e1, e2, e3⟩ := hd
    obtain ⟨_, c2⟩ := He.ba e3
    rw [e1, e2] at c2
    unfold fnX at hx
    cases hl : K.lookup (He.ma K (He.ga K x) "__init__") with
    | none =>
      rw [hl] at b15
      cases b15
    | some o =>
      rw [hl] at b15 hx
      obtain ⟨oc, od, dt, sl⟩ := o
      cases dt with
      | func fd =>
        obtain ⟨n1, n2, n3, n4, n5, n6, n7, n8, n9, n10, n11, n12, n13, n14, n15⟩ := fd
        have e4 : (some (n1, n2, n3, n4, n5, n6, n7.map (·.1), n15) : FnX) = some (("__init__" : PySem.Str), qual, defArgs st, FuncBody.stmts (defBody st), defScope st, mainGlobals, [("__class__" : PySem.Str)], builtinsNs) := hx
        simp only [Option.some.injEq, Prod.mk.injEq] at e4
        obtain ⟨h1, h2, h3, h4, h5, h6, h7, h8⟩ := e4
        dsimp only at b15
        obtain ⟨f1, b15⟩ := He.ba b15
        obtain ⟨f2, b15⟩ := He.ba b15
        obtain ⟨f3, f4⟩ := He.ba b15
        have f1' : n8 = Value.none := of_decide_eq_true f1
        have f2' : n9 = Value.none := of_decide_eq_true f2
        have hcd : codeIn K n13 qual = true := by
          have c2' : (match K.lookup (He.ma K (He.ga K x) "__init__") with
            | some ⟨_, _, .func fd, _⟩ => codeIn K fd.code qual && He.dflB K fd.defaults (dx.dvs K)
            | _ => false) = true := c2
          rw [hl] at c2'
          exact (He.ba c2').1
        cases n13 with
        | ref cda =>
          cases n7 with
          | nil => simp at h7
          | cons c7 r7 =>
            cases r7 with
            | cons _ _ => simp at h7
            | nil =>
              obtain ⟨cn, cc⟩ := c7
              have h7' : cn = "__class__" := (List.cons.inj h7).1
              subst h1 h2 h6 h7' h8 f1' f2'
              rw [hA] at h3
              rw [hB] at h4
              rw [hS] at h5
              subst h3 h4 h5
              refine ⟨oc, od, n10, n11, n12, cda, cc, n14, sl, _, msg, j, r1, r2, p0, p1, p2, p3, p4, p5, q1, q2, q3, q4, rfl, hcd, hsp, ?_, ?_⟩
              · dsimp only at f3
                cases hk : K.lookup cda with
                | none =>
                  rw [hk] at f3
                  cases f3
                | some o2 =>
                  rw [hk] at f3
                  obtain ⟨o2c, o2d, o2t, o2s⟩ := o2
                  cases o2t with
                  | fields vs =>
                    dsimp only at f3
                    cases hv : (vs[2]? : Option Value) with
                    | none =>
                      rw [hv] at f3
                      cases f3
                    | some v2 =>
                      rw [hv] at f3
                      cases v2 with
                      | str file tf =>
                        have e5 : file = "/claim/cut.py" := of_decide_eq_true f3
                        subst e5
                        exact ⟨o2c, o2d, vs, o2s, tf, rfl, hv⟩
                      | _ => cases f3
                  | _ => cases f3
              · dsimp only at f4
                cases hk : K.lookup cc with
                | none =>
                  rw [hk] at f4
                  cases f4
                | some o2 =>
                  rw [hk] at f4
                  obtain ⟨o2c, o2d, o2t, o2s⟩ := o2
                  cases o2t with
                  | cell v2 =>
                    cases v2 with
                    | none => cases f4
                    | some v2 =>
                      cases v2 with
                      | ref D =>
                        have e5 : D = He.ga K x := of_decide_eq_true f4
                        subst e5
                        exact ⟨o2c, o2d, o2s, rfl⟩
                      | _ => cases f4
                  | _ => cases f4
        | _ => cases f3
      | _ => cases b15
end
section
open PySem PySem.W PyProof.Rows L2
variable {w : World} {K : Frag} {mg : PySem.Str → Option Value}
theorem Txt.BadRow (T : Txt w K mg) : ErrT K mg "BadRow" "number" (He.ga K "BadRow") (He.ma K (He.ga K "BadRow") "__init__") := errT_of (st := s_BadRow) T.g_BadRow T.n_super T.third T.er_BadRow T.fx_BadRow T.dx_BadRow rfl rfl rfl ⟨_, fun _ => rfl⟩ (by decide) bnd_number
theorem Txt.NoThing (T : Txt w K mg) : ErrT K mg "NoThing" "name" (He.ga K "NoThing") (He.ma K (He.ga K "NoThing") "__init__") := errT_of (st := s_NoThing) T.g_NoThing T.n_super T.third T.er_NoThing T.fx_NoThing T.dx_NoThing rfl rfl rfl ⟨_, fun _ => rfl⟩ (by decide) bnd_name
theorem Txt.NoKey (T : Txt w K mg) : ErrT K mg "NoKey" "key" (He.ga K "NoKey") (He.ma K (He.ga K "NoKey") "__init__") := errT_of (st := s_NoKey) T.g_NoKey T.n_super T.third T.er_NoKey T.fx_NoKey T.dx_NoKey rfl rfl rfl ⟨_, fun _ => rfl⟩ (by decide) bnd_key
theorem Txt.NoPart (T : Txt w K mg) : ErrT K mg "NoPart" "name" (He.ga K "NoPart") (He.ma K (He.ga K "NoPart") "__init__") := errT_of (st := s_NoPart) T.g_NoPart T.n_super T.third T.er_NoPart T.fx_NoPart T.dx_NoPart rfl rfl rfl ⟨_, fun _ => rfl⟩ (by decide) bnd_name
theorem Txt.Twice (T : Txt w K mg) : ErrT K mg "Twice" "name" (He.ga K "Twice") (He.ma K (He.ga K "Twice") "__init__") := errT_of (st := s_Twice) T.g_Twice T.n_super T.third T.er_Twice T.fx_Twice T.dx_Twice rfl rfl rfl ⟨_, fun _ => rfl⟩ (by decide) bnd_name
theorem Txt.Unmatched (T : Txt w K mg) : ErrT K mg "Unmatched" "number" (He.ga K "Unmatched") (He.ma K (He.ga K "Unmatched") "__init__") := errT_of (st := s_Unmatched) T.g_Unmatched T.n_super T.third T.er_Unmatched T.fx_Unmatched T.dx_Unmatched rfl rfl rfl ⟨_, fun _ => rfl⟩ (by decide) bnd_number
theorem Txt.TooMany (T : Txt w K mg) : ErrT K mg "TooMany" "limit" (He.ga K "TooMany") (He.ma K (He.ga K "TooMany") "__init__") := errT_of (st := s_TooMany) T.g_TooMany T.n_super T.third T.er_TooMany T.fx_TooMany T.dx_TooMany rfl rfl rfl ⟨_, fun _ => rfl⟩ (by decide) bnd_limit
end
end Q7
/-! walks that lean on a base heap alone: loops and comprehensions whose turns change what is not of the base -/
namespace Q7
open PySem PySem.Spec PyProof.Rows L2 Evl
def EvIb (wi : TI) (σ : L2.St) (H : Hp) (xs : List V) : Prop := ∀ H1, Ex H H1 → ∀ R : It → Hp → Prop, (∀ J H2, Ex H1 H2 → Walk J xs.length (fun H3 => Ex H H3) (YAt xs) → R J H2) → wi σ H1 R
def EvPb (wi : TI) (σ : L2.St) (H : Hp) (ps : List (V × V)) : Prop := ∀ H1, Ex H H1 → ∀ R : It → Hp → Prop, (∀ J H2, Ex H1 H2 → Walk J ps.length (fun H3 => Ex H H3) (YPs ps) → R J H2) → wi σ H1 R
section
variable {K : PySem.W.Frag} {σ : L2.St} {H H' H0 : Hp} {ta tb te tx tl : TE} {t u : TT} {x y z v : V}
theorem eb_list {a : Addr} {xs : List V} (h : Ev tl σ H (.ref a)) (hx : SqL K H a xs) : EvIb (iList K tl) σ H xs := fun H1 e R k =>
  h H1 e _ fun H2 e2 => ⟨a, rfl, ⟨xs, ex_l (e.trans e2) hx⟩, k _ H2 e2 (walk_list.mono (fun H3 e3 => ex_l e3 hx) fun _ _ _ _ _ _ y => y)⟩
theorem eb_tup {a : Addr} {xs : List V} (h : Ev tl σ H (.ref a)) (hx : SqT K H a xs) : EvIb (iTup K tl) σ H xs := fun H1 e R k =>
  h H1 e _ fun H2 e2 => ⟨a, rfl, ⟨xs, ex_t (e.trans e2) hx⟩, k _ H2 e2 (walk_tup.mono (fun H3 e3 => ex_t e3 hx) fun _ _ _ _ _ _ y => y)⟩
def nats (n : Nat) : List V := (List.range n).map fun i => V.int (i : Nat)
theorem eb_rng {ta : TA} {n : Nat} (h : EvA ta σ H [.int (n : Int)]) (hn : n ≤ 100000) : EvIb (iRng1 ta) σ H (nats n) := fun H1 e R k =>
  h H1 e _ fun H2 e2 => ⟨(n : Int), rfl, by omega, by omega, k _ H2 e2 (by
    have hl : (nats n).length = n := by simp [nats]
    rw [hl]
    refine (walk_range (lo := 0) (n := n)).mono (fun _ _ => True.intro) fun i H3 v H4 hi _ y => ?_
    obtain ⟨e1, hv⟩ := y
    refine ⟨e1, ?_⟩
    subst hv
    simp [nats, hi])⟩
theorem pb_enum {a : Addr} {xs : List V} (ha : Ev ta σ H (.ref a)) (hx : SqL K H a xs) : EvPb (iEnum K (tCons ta tNil)) σ H (enumV xs) := fun H1 e R k =>
  ha H1 e _ fun H2 e2 => ⟨a, xs, rfl, ex_l (e.trans e2) hx, k _ H2 e2 (by
    have hl : (enumV xs).length = xs.length := by simp [enumV]
    rw [hl]
    refine (walk_enum (K := K) (a := a) (xs := xs)).mono (fun H3 e3 => ex_l e3 hx) fun i H3 v H4 hi _ y => ?_
    obtain ⟨T, x, z, h1, h2, h3, h4, h5⟩ := y
    refine ⟨T, x, z, h1, h2, h3, ?_, ?_⟩
    · simp only [enumV, List.getElem?_mapIdx, h5, Option.map_some]
      exact h4
    · simp only [enumV, List.getElem?_mapIdx, h5, Option.map_some])⟩
/-- a for, its word Pv implying the base -/
theorem s_forB {D : Ends} {tu : TS} {g : TG} {wi : TI} {xs : List V} (h : EvIb wi σ H xs) (e0 : Ex H H0) (Pv : Nat → L2.St → Hp → Prop) (h0 : ∀ H1, Ex H0 H1 → Pv 0 σ H1) (hG : ∀ i σ' H', Pv i σ' H' → Ex H H')
    (hs : ∀ i x σ' H', xs[i]? = some x → Pv i σ' H' → g x σ' H' fun σ2 H2 => tu { D with nx := Pv (i + 1), ct := Pv (i + 1), bk := D.nx } σ2 H2) (hd : ∀ σ' H', Pv xs.length σ' H' → D.nx σ' H') : tFor wi g tu D σ H0 :=
  h H0 e0 _ fun J H1 e1 w => for_it w Pv (h0 H1 e1) (fun i σ' H' _ p => hG i σ' H' p) (fun i x σ' H' H2 hi p y => by
    obtain ⟨rfl, hx⟩ := y
    exact hs i x σ' _ hx p) hd
theorem q_forB {D : Ends} {tu tz : TS} {g : TG} {wi : TI} {xs : List V} (h : EvIb wi σ H xs) (e0 : Ex H H0) (Pv : Nat → L2.St → Hp → Prop) (h0 : ∀ H1, Ex H0 H1 → Pv 0 σ H1) (hG : ∀ i σ' H', Pv i σ' H' → Ex H H')
    (hs : ∀ i x σ' H', xs[i]? = some x → Pv i σ' H' → g x σ' H' fun σ2 H2 => tu { D with nx := Pv (i + 1), ct := Pv (i + 1), bk := tz D } σ2 H2) (hd : ∀ σ' H', Pv xs.length σ' H' → tz D σ' H') : tSeq (tFor wi g tu) tz D σ H0 := s_forB (D := { D with nx := tz D }) h e0 Pv h0 hG hs hd
/-- over pairs -/
theorem s_forPb {D : Ends} {tu : TS} {g : TG} {wi : TI} {ps : List (V × V)} (h : EvPb wi σ H ps) (e0 : Ex H H0) (Pv : Nat → L2.St → Hp → Prop) (h0 : ∀ H1, Ex H0 H1 → Pv 0 σ H1) (hG : ∀ i σ' H', Pv i σ' H' → Ex H H')
    (hs : ∀ i x y T σ' H', ps[i]? = some (x, y) → Pv i σ' H' → H' T = none → g (.ref T) σ' (upd H' T (.tup [x, y])) fun σ2 H2 => tu { D with nx := Pv (i + 1), ct := Pv (i + 1), bk := D.nx } σ2 H2) (hd : ∀ σ' H', Pv ps.length σ' H' → D.nx σ' H') : tFor wi g tu D σ H0 :=
  h H0 e0 _ fun J H1 e1 w => for_it w Pv (h0 H1 e1) (fun i σ' H' _ p => hG i σ' H' p) (fun i v σ' H' H2 hi p y => by
    obtain ⟨T, a, b, rfl, hT, rfl, ha, hb⟩ := y
    exact hs i a b T σ' H' (pair_at ha hb) p hT) hd
theorem q_forPb {D : Ends} {tu tz : TS} {g : TG} {wi : TI} {ps : List (V × V)} (h : EvPb wi σ H ps) (e0 : Ex H H0) (Pv : Nat → L2.St → Hp → Prop) (h0 : ∀ H1, Ex H0 H1 → Pv 0 σ H1) (hG : ∀ i σ' H', Pv i σ' H' → Ex H H')
    (hs : ∀ i x y T σ' H', ps[i]? = some (x, y) → Pv i σ' H' → H' T = none → g (.ref T) σ' (upd H' T (.tup [x, y])) fun σ2 H2 => tu { D with nx := Pv (i + 1), ct := Pv (i + 1), bk := tz D } σ2 H2) (hd : ∀ σ' H', Pv ps.length σ' H' → tz D σ' H') : tSeq (tFor wi g tu) tz D σ H0 := s_forPb (D := { D with nx := tz D }) h e0 Pv h0 hG hs hd
/-- an item is laid at the end of the list at Dl -/
def Made (Pv : Addr → Nat → List V → Hp → Prop) (Dl : Addr) (i : Nat) : VK := fun y H4 => ∃ acc, H4 Dl = some (.lst acc) ∧ acc.length < sizeLine ∧ ∃ a2, a2.length = i + 1 ∧ (upd H4 Dl (.lst (acc ++ [y]))) Dl = some (.lst a2) ∧ Pv Dl (i + 1) a2 (upd H4 Dl (.lst (acc ++ [y])))
theorem made {Pv : Addr → Nat → List V → Hp → Prop} {Dl : Addr} {i : Nat} {y : V} {H4 : Hp} {acc : List V} (h : H4 Dl = some (.lst acc)) (hl : acc.length = i) (hi : i ≤ 60000) (p : Pv Dl (i + 1) (acc ++ [y]) (upd H4 Dl (.lst (acc ++ [y])))) : Made Pv Dl i y H4 :=
  ⟨acc, h, sz_lt (by omega), acc ++ [y], by rw [List.length_append, hl] <;> rfl, upd_same, p⟩
/-- a comprehension, word for word: Pv by the turn, what is made, the heap -/
theorem c_lc {wi : TI} {xs : List V} {vs : List Nat} {j : Nat} {Q : VK} (h : EvIb wi σ H xs) (e0 : Ex H H0) (hw : ∀ x, wipe ((wipe σ vs).set j (some x)) vs = wipe σ vs) (Pv : Addr → Nat → List V → Hp → Prop) (h0 : ∀ Dl H1, Ex H0 H1 → H1 Dl = none → Pv Dl 0 [] (upd H1 Dl (.lst []))) (hG : ∀ Dl i acc H', Pv Dl i acc H' → Ex H H')
    (hs : ∀ Dl i x acc H', xs[i]? = some x → acc.length = i → H' Dl = some (.lst acc) → Pv Dl i acc H' → te ((wipe σ vs).set j (some x)) H' (Made Pv Dl i))
    (hd : ∀ Dl acc H', acc.length = xs.length → H' Dl = some (.lst acc) → Pv Dl xs.length acc H' → Q (.ref Dl) H') : tLc wi (gName j) tYes te vs σ H0 Q :=
  h H0 e0 _ fun J H1 e1 w Dl hD => by
    refine lc_it w (fun n H' => ∃ acc, acc.length = n ∧ H' Dl = some (.lst acc) ∧ Pv Dl n acc H') ⟨[], rfl, upd_same, h0 Dl H1 e1 hD⟩ (fun i H' _ p => by
      obtain ⟨acc, _, _, p⟩ := p
      exact hG _ _ _ _ p) (fun n x H' H2 hi pv y => ?_) (fun H' p => ?_)
    · obtain ⟨rfl, hx⟩ := y
      obtain ⟨acc, hl, hp, pv⟩ := pv
      refine ⟨hw x, ?_⟩
      unfold tYes
      dsimp only
      rw [if_pos rfl]
      exact hs Dl n x acc _ hx hl hp pv
    · obtain ⟨acc, hl, hp, pv⟩ := p
      exact hd Dl acc H' hl hp pv
end
end Q7
/-! a walk over a list or a tuple; defs at any address; star parameters; fields in blocks -/
namespace Q7
open PySem PySem.Spec PyProof.Rows L2 Evl
def iSeq (K : PySem.W.Frag) (tl : TE) : TI := fun σ H R => iList K tl σ H R ∨ iTup K tl σ H R
theorem pi_seq {X : Cx} {tg l : Expr} {tl : TE} (hl : PE X l tl) : PI X tg l (iSeq X.K tl) :=
  ⟨fun pins s σ H R I h => h.elim (fun h => (pi_list hl).run pins s σ H R I h) fun h => (pi_tup hl).run pins s σ H R I h⟩
section
variable {K : PySem.W.Frag} {σ : L2.St} {H : Hp} {tl : TE}
theorem eb_seqL {a : Addr} {xs : List V} (h : Ev tl σ H (.ref a)) (hx : SqL K H a xs) : EvIb (iSeq K tl) σ H xs := fun H1 e R k => Or.inl (eb_list h hx H1 e R k)
theorem eb_seqT {a : Addr} {xs : List V} (h : Ev tl σ H (.ref a)) (hx : SqT K H a xs) : EvIb (iSeq K tl) σ H xs := fun H1 e R k => Or.inr (eb_tup h hx H1 e R k)
theorem upd2 {H : Hp} {a : Addr} {x y : HO} : upd (upd H a x) a y = upd H a y := by
  funext b
  by_cases h : b = a
  · subst h
    rw [upd_same, upd_same]
  · rw [upd_ne h, upd_ne h, upd_ne h]
end
section
variable {P : Program} {w : World} {K : PySem.W.Frag} {mg : Str → Option Value} {base : Heap} {CX : CXT} {k : Nat} {x qual : Str} {sp sp' : Sp} {f : Addr}
/-- a def at f, no defaults -/
theorem mkF0 {N ps : List Str} {st : Stmt} (hf : ∃ fd, FunD K x qual (defArgs st) (defBody st) (defScope st) [] [] f fd) (S : FnScope N ps (defScope st))
    (hb : ∀ (kV doc pm : Value) (an : Option Addr) (cdv ct : Value) (us : List Value), us.length = ps.length → bindArgs (PySem.W.fnOf x qual (defArgs st) (defBody st) (defScope st) .none kV doc pm an cdv ct) ⟨us, []⟩ = pure (ps.zip us))
    (len : ∀ vs H Q E, sp vs H Q E → vs.length = ps.length)
    (hbody : ∀ (cdv : Value) (A : Around) (outer : List Env) (s : Shared) (H : Hp) (vs : List V) (Q : VK) (E : XK), Room k (A.deeper (envOfC qual (defScope st) s.heap.objs.size f cdv)) → sp vs H Q E →
      ∃ t, PSs (cxOf CX0 P w K mg base N qual (defScope st) f cdv A outer s H E).nox (defBody st) t ∧ t { nx := fun _ H' => Q .non H', rt := Q } (start N vs) H) : FnR P w K mg base CX0 (k + 1) f sp := by
  obtain ⟨fd, F⟩ := hf
  refine ((F.ok S len (CX := CX0) fun cdv A outer s H vs Q E hr h => ?_).raw (F.bindsN hb) .nil).imp fun vs H Q E h => ?_
  · obtain ⟨t, ht, q⟩ := hbody cdv A outer s H vs Q E hr h
    exact ⟨t, ht.nox, q⟩
  · rw [List.append_nil]
    exact h
/-- with a star parameter -/
theorem mkS {N ps : List Str} {pv : Str} {st : Stmt} (hf : ∃ fd, FunD K x qual (defArgs st) (defBody st) (defScope st) [] [] f fd) (S : FnScope N (ps ++ [pv]) (defScope st)) (hCX : StX.CXUp CX)
    (hb : ∀ (kV doc pm : Value) (an : Option Addr) (cdv ct : Value) (us rest : List Value), us.length = ps.length → bindArgs (PySem.W.fnOf x qual (defArgs st) (defBody st) (defScope st) .none kV doc pm an cdv ct) ⟨us ++ rest, []⟩ = (newTuple rest >>= fun t => pure (ps.zip us ++ [(pv, t)])))
    (hbody : ∀ (cdv : Value) (A : Around) (outer : List Env) (s : Shared) (H : Hp) (vs : List V) (Q : VK) (E : XK), Room k (A.deeper (envOfC qual (defScope st) s.heap.objs.size f cdv)) → sp vs H Q E →
      ∃ t, PSs (cxOf CX P w K mg base N qual (defScope st) f cdv A outer s H E) (defBody st) t ∧ t { nx := fun _ H' => Q .non H', rt := Q } (start N vs) H) :
    FnR P w K mg base CX (k + 1) f (fun vs H Q E => ∃ ws rest, vs = ws ++ rest ∧ ws.length = ps.length ∧ rest.length ≤ sizeLine ∧ ∀ p, H p = none → sp (ws ++ [V.ref p]) (upd H p (.tup rest)) Q E) := by
  obtain ⟨fd, F⟩ := hf
  obtain ⟨oc, od, dV, kV, doc, pm, an, cdv, ct, osl, rfl, lk, hcd, hD, hK⟩ := F.ex
  rcases hD with ⟨_, rfl⟩ | ⟨e, _⟩
  · exact StX.fn_star lk hcd S hCX (hb kV doc pm an cdv ct) fun A outer s H vs Q E hr h => hbody cdv A outer s H vs Q E hr h
  · exact absurd rfl e
end
/-- o.f inside a block (the reading told by K) -/
theorem pe_fldK {X : Cx} {K : PySem.W.Frag} {e : Expr} {f : Str} {pos : Pos} {ta : TE} (hK : X.K = K) (he : PE X e ta) (hb : attributeBase e f X.env (eval e X.env) = eval e X.env) : PE X (.Attribute e f pos) (tFld K ta f) := by
  subst hK
  exact pe_fld he hb
section
variable {K : PySem.W.Frag} {σ : L2.St} {H : Hp} {ta : TE} {v : V}
theorem ev_fld {f : Str} {a C dx : Addr} {fs : List (Str × V)} (h : Ev ta σ H (.ref a)) (ho : H a = some (.ins C dx fs)) (hc : Cls K C) (hn : NoAttr K C f) (hl : fs.lookup f = some v) : Ev (tFld K ta f) σ H v := fun H1 e Q q =>
  h H1 e _ fun H2 e2 => ⟨a, C, dx, fs, v, rfl, e2 _ _ (e _ _ ho), hc, hn, hl, q H2 e2⟩
end
end Q7
/-! need_names, need_unlike, the class Thing, _law_thing -/
namespace Q7
open PySem PySem.Spec PyProof.Rows L2 Evl
theorem nd_take : ∀ {ws : List Str} {i : Nat} {z : Str}, ws.Nodup → ws[i]? = some z → z ∉ ws.take i
  | [], i, z, _, h => by simp at h
  | a :: r, 0, z, _, _ => by simp
  | a :: r, i + 1, z, hnd, h => by
    rw [List.nodup_cons] at hnd
    have h' : r[i]? = some z := h
    rw [List.take_succ_cons, List.mem_cons, not_or]
    exact ⟨fun e => hnd.1 (by rw [← e]; exact List.mem_of_getElem? h'), nd_take hnd.2 h'⟩
structure TH where
  kind : Str
  name : Str
  parts : List Str
section
variable {P : Program} {w : World} {K : PySem.W.Frag} {mg : Str → Option Value} {base : Heap}
def spNeedNames (K : PySem.W.Frag) : Sp := fun vs H Q _ => ∃ a ws, vs = [.ref a] ∧ SqL K H a (ws.map V.str) ∧ Sh ws ∧ (∀ w ∈ ws, okN w = true) ∧ RetV .non H Q
theorem sc_need_names : FnScope ["values", "value"] ["values"] (defScope s_need_names) := ⟨rfl, rfl, rfl, by decide +kernel, rfl, by decide +kernel, by decide +kernel⟩
theorem D_need_names (T : Txt w K mg) (D_is_name : Dn P w K mg base CX0 1 "is_name" spIsName) : Dn P w K mg base CX0 2 "need_names" (spNeedNames K) := by
  refine mkD0 T.fds_need_names T.g_need_names T.kps_need_names sc_need_names (fun _ _ _ _ _ _ us hl => match us, hl with | [_], _ => rfl) (fun vs H Q E h => ?_) (fun cdv A outer s H vs Q E hr h => ?_)
  · obtain ⟨a, ws, rfl, _⟩ := h
    rfl
  · obtain ⟨a, ws, rfl, ha, hs, hok, q⟩ := h
    refine ⟨_, (pss_one (ps_for PassesOwn.never rfl (pi_list (pv 0)) (pg_name (i := 1) sc_need_names.nd rfl (Or.inl rfl))
    (pss_one (ps_if (pt_not (pt_val (pe_d D_is_name (hr.mono (by decide)) (by rfl) pass0 (pa_cons (pv 1) pa_nil)))) (pss_one ps_never) pss_nil)))), ?_⟩
    refine s_forB (eb_list (ev_var rfl) ha) (Ex.refl H) (fun i σ' H' => ∃ y, σ' = [some (.ref a), y] ∧ Ex H H') (fun H1 e1 => ⟨none, rfl, e1⟩) (fun i σ' H' p => p.elim fun _ p => p.2) (fun i x σ' H' hx pv => ?_) fun σ' H' p => ?_
    · obtain ⟨y, rfl, e⟩ := pv
      obtain ⟨z, hz, rfl⟩ := List.mem_map.mp (List.mem_of_getElem? hx)
      refine s_when (et_not (et_B (ev_d (z := .bl (okN z)) (ea_cons (ev_var (i := 1) rfl) ea_nil) fun H1 e1 Q1 q1 => ⟨z, rfl, hs.2 z hz, q1⟩))) (fun hb => ?_) fun hb H1 e1 => ⟨_, rfl, e.trans e1⟩
      rw [hok z hz] at hb
      cases hb
    · obtain ⟨y, rfl, e⟩ := p
      exact q H' e
def spNeedUnlike (K : PySem.W.Frag) : Sp := fun vs H Q _ => ∃ (a : Addr) (ws : List Str), vs = [.ref a] ∧ (SqL K H a (ws.map V.str) ∨ SqT K H a (ws.map V.str)) ∧ ws.length ≤ 1000 ∧ ws.Nodup ∧ RetV .non H Q
theorem sc_need_unlike : FnScope ["names", "seen", "name"] ["names"] (defScope s_need_unlike) := ⟨rfl, rfl, rfl, by decide +kernel, rfl, by decide +kernel, by decide +kernel⟩
theorem D_need_unlike (T : Txt w K mg) : Dn P w K mg base CX0 1 "need_unlike" (spNeedUnlike K) := by
  refine mkD0 T.fds_need_unlike T.g_need_unlike T.kps_need_unlike sc_need_unlike (fun _ _ _ _ _ _ us hl => match us, hl with | [_], _ => rfl) (fun vs H Q E h => ?_) (fun cdv A outer s H vs Q E hr h => ?_)
  · obtain ⟨a, ws, rfl, _⟩ := h
    rfl
  · obtain ⟨a, ws, rfl, ha, hl, hnd, q⟩ := h
    refine ⟨_, (pss_cons (ps_set (i := 1) sc_need_unlike.nd rfl (Or.inl rfl) (pe_lst pa_nil))
    (pss_one (ps_for PassesOwn.never rfl (pi_seq (pv 0)) (pg_name (i := 2) sc_need_unlike.nd rfl (Or.inl rfl))
    (pss_cons (ps_if (pt_cmpR op_in_seq (pv 2) (pv 1) (by rfl)) (pss_one ps_never) pss_nil)
    (pss_one (ps_expr (pe_bm PySem.F.plainAttrs_list PySem.F.slot_list_append PySem.F.type_list_append mt_append (pv 1) (pa_cons (pv 2) pa_nil)))))))), ?_⟩
    refine q_asgL (el_lst ea_nil (by decide)) fun p H1 hp e1 h1 => ?_
    have hw : EvIb (iSeq K (tVar 0)) ((start ["names", "seen", "name"] [V.ref a]).set 1 (some (.ref p))) H (ws.map V.str) := by
      rcases ha with ha | ha
      · exact eb_seqL (ev_var rfl) ha
      · exact eb_seqT (ev_var rfl) ha
    refine s_forB hw e1 (fun i σ' H' => ∃ y, σ' = [some (.ref a), some (.ref p), y] ∧ Ex H H' ∧ H' p = some (.lst ((ws.take i).map V.str))) (fun H2 e2 => ⟨none, rfl, e1.trans e2, e2 _ _ h1⟩) (fun i σ' H' p => p.elim fun _ p => p.2.1) (fun i x σ' H' hx pv => ?_) fun σ' H' p => ?_
    · obtain ⟨y, rfl, e, hpl⟩ := pv
      rw [List.getElem?_map] at hx
      obtain ⟨z, hz, rfl⟩ := Option.map_eq_some_iff.mp hx
      have hn : ¬ z ∈ ws.take i := nd_take hnd hz
      refine q_when (et_test (ev_op (r := rIn K false) (ev_var (i := 2) rfl) (ev_var (i := 1) rfl) (rv_isL (sq_of hpl) rfl (flat_strs _)))) (fun hb => ?_) fun hb H2 e2 => ?_
      · rw [inV_str] at hb
        exact absurd (of_decide_eq_true hb) hn
      · refine s_app (e2 _ _ hpl) (ev_var (i := 1) rfl) (ev_var (i := 2) rfl) (by
          rw [List.length_map, List.length_take]
          omega) fun H3 e3 => ⟨_, rfl, Ex.mut ((e.trans e2).trans e3) hp, ?_⟩
        rw [upd_same, List.take_add_one, hz, List.map_append] <;> rfl
    · obtain ⟨y, rfl, e, _⟩ := p
      exact q H' e
/-! ### Thing -/
def ThObj (K : PySem.W.Frag) (H : Hp) (v : V) (t : TH) : Prop := ∃ x dx b, v = .ref x ∧ H x = some (.ins (He.ga K "Thing") dx [("kind", .str t.kind), ("name", .str t.name), ("parts", .ref b)]) ∧ SqT K H b (t.parts.map V.str)
theorem ThObj.kp {H H' : Hp} {v : V} {t : TH} (k : Kp H H') (h : ThObj K H v t) : ThObj K H' v t := by
  obtain ⟨x, dx, b, h1, h2, h3⟩ := h
  exact ⟨x, dx, b, h1, k.1 _ _ h2 (fun _ q => by cases q), k.sqT h3⟩
def spThInit (K : PySem.W.Frag) : Sp := fun vs H Q _ => ∃ x dx k n p, vs = [.ref x, k, n, p] ∧ H x = some (.ins (He.ga K "Thing") dx []) ∧ Q .non (upd H x (.ins (He.ga K "Thing") dx [("kind", k), ("name", n), ("parts", p)]))
theorem sc_Thing___init__ : FnScope ["self", "kind", "name", "parts"] ["self", "kind", "name", "parts"] (defScope s_Thing_init) := ⟨rfl, rfl, rfl, by decide +kernel, rfl, by decide +kernel, by decide +kernel⟩
theorem F_Thing_init (T : Txt w K mg) : ∃ fd, FunD K "__init__" "Thing.__init__" (defArgs s_Thing_init) (defBody s_Thing_init) (defScope s_Thing_init) [.ref (dfA K "Thing" "__init__" 0)] [] (He.ma K (He.ga K "Thing") "__init__") fd ∧ FnOk P w K mg base CX0 1 (He.ma K (He.ga K "Thing") "__init__") fd ["self", "kind", "name", "parts"] (spThInit K) := by
  obtain ⟨fd, F⟩ := T.fds_Thing_init
  refine ⟨fd, F, F.ok sc_Thing___init__ (fun vs H Q E h => ?_) (fun cdv A outer s H vs Q E hr h => ?_)⟩
  · obtain ⟨x, dx, k, n, p, rfl, _⟩ := h
    rfl
  · obtain ⟨x, dx, k, n, p, rfl, hx, q⟩ := h
    refine ⟨_, PSs.nox (pss_cons (ps_fld (pv 0) (pv 1) rfl)
    (pss_cons (ps_fld (pv 0) (pv 2) rfl)
    (pss_one (ps_fld (pv 0) (pv 3) rfl)))), ?_⟩
    refine ⟨_, rfl, _, rfl, x, _, dx, [], rfl, hx, T.cls_Thing, T.na_Thing_kind, by decide, ?_⟩
    refine ⟨_, rfl, _, rfl, x, _, dx, [("kind", k)], rfl, upd_same, T.cls_Thing, T.na_Thing_name, by simp, ?_⟩
    refine ⟨_, rfl, _, rfl, x, _, dx, [("kind", k), ("name", n)], rfl, upd_same, T.cls_Thing, T.na_Thing_parts, by simp, ?_⟩
    rw [upd2, upd2]
    exact q
theorem FT3 (T : Txt w K mg) : FnR P w K mg base CX0 1 (He.ma K (He.ga K "Thing") "__init__") (spThInit K) := by
  obtain ⟨fd, F, G⟩ := F_Thing_init (P := P) (base := base) T
  obtain ⟨ds, h1, h2⟩ := F.binds1 (ps := ["self", "kind", "name", "parts"]) 4 1 (by intro z; cases z) rfl (fun T kV doc pm an cdv ct us its hu hi => by
    match us, hu, its, hi with
    | [_, _, _, _], _, [_], _ => exact ⟨_, rfl, rfl⟩)
  cases h1
  exact (G.raw h2 .nil).imp fun vs H Q E h => by
    rw [List.append_nil]
    exact h
theorem FT2 (T : Txt w K mg) : FnR P w K mg base CX0 1 (He.ma K (He.ga K "Thing") "__init__") (fun vs H Q E => spThInit K (vs ++ [.ref (dfA K "Thing" "__init__" 0)]) H Q E) := by
  obtain ⟨fd, F, G⟩ := F_Thing_init (P := P) (base := base) T
  obtain ⟨ds, h1, h2⟩ := F.binds1 (ps := ["self", "kind", "name", "parts"]) 3 0 (by intro z; cases z) rfl (fun T kV doc pm an cdv ct us its hu hi => by
    match us, hu, its, hi with
    | [_, _, _], _, [_], _ => exact ⟨_, rfl, rfl⟩)
  exact G.raw h2 h1
theorem dfT (T : Txt w K mg) (H : Hp) : SqT K H (dfA K "Thing" "__init__" 0) (([] : List Str).map V.str) := by
  have h := T.df_Thing
  cases q : K.lookup (dfA K "Thing" "__init__" 0) with
  | none =>
    rw [q] at h
    cases h
  | some o =>
    rw [q] at h
    obtain ⟨oc, od, dt, sl⟩ := o
    cases oc with
    | type c =>
      cases dt with
      | seq its n =>
        obtain ⟨h1, h2⟩ := He.ba h
        have e : its = #[] := by simpa using h2
        subst e
        exact .inr ⟨_, _, n, q, congrArg Value.type (of_decide_eq_true h1), rfl, by decide, .nil⟩
      | _ => cases h
    | _ => cases dt <;> cases h
/-- a new Thing -/
def RetTh (K : PySem.W.Frag) (t : TH) (H : Hp) (Q : VK) : Prop := ∀ y H', Ex H H' → ThObj K H' y t → Q y H'
theorem th_made {t : TH} {H1 H : Hp} {Q : VK} {x dx b : Addr} (e : Ex H H1) (q : RetTh K t H Q) (hx : H1 x = none) (hdx : H1 dx = none) (hne : dx ≠ x) (hb : SqT K H1 b (t.parts.map V.str)) :
    Q (.ref x) (upd (upd (upd H1 dx (.own x)) x (.ins (He.ga K "Thing") dx [])) x (.ins (He.ga K "Thing") dx [("kind", .str t.kind), ("name", .str t.name), ("parts", .ref b)])) := by
  rw [upd2]
  have e1 : Ex H1 (upd (upd H1 dx (.own x)) x (.ins (He.ga K "Thing") dx [("kind", .str t.kind), ("name", .str t.name), ("parts", .ref b)])) := Ex.mut (Ex.new hdx) hx
  exact q _ _ (e.trans e1) ⟨x, dx, b, rfl, upd_same, ex_t e1 hb⟩
def spTh1 (K : PySem.W.Frag) (kd : Str) : Sp := fun vs H Q _ => ∃ n, vs = [.str n] ∧ okN n = true ∧ n.length ≤ 100000 ∧ RetTh K ⟨kd, n, []⟩ H Q
theorem sh1 {n : Str} (h : n.length ≤ 100000) : Sh [n] := ⟨by simp, fun w hw => by rw [List.mem_singleton.mp hw]; exact h⟩
theorem sc_Thing_feed : FnScope ["name"] ["name"] (defScope s_Thing_feed) := ⟨rfl, rfl, rfl, by decide +kernel, rfl, by decide +kernel, by decide +kernel⟩
theorem F_feed (T : Txt w K mg) (D_need_names : Dn P w K mg base CX0 2 "need_names" (spNeedNames K)) : FnR P w K mg base CX0 4 (stA K "Thing" "feed") (spTh1 K "feed") := by
  have FT2 : FnR P w K mg base CX0 1 (He.ma K (He.ga K "Thing") "__init__") (fun vs H Q E => spThInit K (vs ++ [.ref (dfA K "Thing" "__init__" 0)]) H Q E) := FT2 T
  refine mkF0 T.fds_Thing_feed sc_Thing_feed (fun _ _ _ _ _ _ us hl => match us, hl with | [_], _ => rfl) (fun vs H Q E h => ?_) (fun cdv A outer s H vs Q E hr h => ?_)
  · obtain ⟨n, rfl, _⟩ := h
    rfl
  · obtain ⟨n, rfl, hn, hz, q⟩ := h
    refine ⟨_, (pss_cons (ps_expr (pe_d D_need_names (hr.mono (by decide)) (by rfl) pass0 (pa_cons (pe_lst (pa_cons (pv 0) pa_nil)) pa_nil)))
    (pss_one (ps_ret (StX.pe_makeR T.mk_Thing FT2 (hr.mono (by decide)) (by rfl) T.g_Thing pass0 (pa_cons pe_str (pa_cons (pv 0) pa_nil)))))), ?_⟩
    refine q_drop (ev_dL (z := .non) (xs := [n].map V.str) (el_lst (ea_cons (ev_var rfl) ea_nil) (by simp)) fun p H1 e1 hp Q1 q1 => ⟨p, [n], rfl, sq_of hp, sh1 hz, fun w hw => by rw [List.mem_singleton.mp hw]; exact hn, q1⟩) fun H1 e1 => ?_
    refine ⟨_, rfl, fun x dx hx hdx hne => ?_⟩
    refine ⟨x, dx, .str "feed", .str n, .ref (dfA K "Thing" "__init__" 0), rfl, upd_same, rfl, ?_⟩
    exact th_made (t := ⟨"feed", n, []⟩) e1 q hx hdx hne (dfT T H1)
theorem sc_Thing_dice : FnScope ["name"] ["name"] (defScope s_Thing_dice) := ⟨rfl, rfl, rfl, by decide +kernel, rfl, by decide +kernel, by decide +kernel⟩
theorem F_dice (T : Txt w K mg) (D_need_names : Dn P w K mg base CX0 2 "need_names" (spNeedNames K)) : FnR P w K mg base CX0 4 (stA K "Thing" "dice") (spTh1 K "dice") := by
  have FT2 : FnR P w K mg base CX0 1 (He.ma K (He.ga K "Thing") "__init__") (fun vs H Q E => spThInit K (vs ++ [.ref (dfA K "Thing" "__init__" 0)]) H Q E) := FT2 T
  refine mkF0 T.fds_Thing_dice sc_Thing_dice (fun _ _ _ _ _ _ us hl => match us, hl with | [_], _ => rfl) (fun vs H Q E h => ?_) (fun cdv A outer s H vs Q E hr h => ?_)
  · obtain ⟨n, rfl, _⟩ := h
    rfl
  · obtain ⟨n, rfl, hn, hz, q⟩ := h
    refine ⟨_, (pss_cons (ps_expr (pe_d D_need_names (hr.mono (by decide)) (by rfl) pass0 (pa_cons (pe_lst (pa_cons (pv 0) pa_nil)) pa_nil)))
    (pss_one (ps_ret (StX.pe_makeR T.mk_Thing FT2 (hr.mono (by decide)) (by rfl) T.g_Thing pass0 (pa_cons pe_str (pa_cons (pv 0) pa_nil)))))), ?_⟩
    refine q_drop (ev_dL (z := .non) (xs := [n].map V.str) (el_lst (ea_cons (ev_var rfl) ea_nil) (by simp)) fun p H1 e1 hp Q1 q1 => ⟨p, [n], rfl, sq_of hp, sh1 hz, fun w hw => by rw [List.mem_singleton.mp hw]; exact hn, q1⟩) fun H1 e1 => ?_
    refine ⟨_, rfl, fun x dx hx hdx hne => ?_⟩
    refine ⟨x, dx, .str "dice", .str n, .ref (dfA K "Thing" "__init__" 0), rfl, upd_same, rfl, ?_⟩
    exact th_made (t := ⟨"dice", n, []⟩) e1 q hx hdx hne (dfT T H1)
theorem sc_Thing_source : FnScope ["name"] ["name"] (defScope s_Thing_source) := ⟨rfl, rfl, rfl, by decide +kernel, rfl, by decide +kernel, by decide +kernel⟩
theorem F_source (T : Txt w K mg) (D_need_names : Dn P w K mg base CX0 2 "need_names" (spNeedNames K)) : FnR P w K mg base CX0 4 (stA K "Thing" "source") (spTh1 K "source") := by
  have FT2 : FnR P w K mg base CX0 1 (He.ma K (He.ga K "Thing") "__init__") (fun vs H Q E => spThInit K (vs ++ [.ref (dfA K "Thing" "__init__" 0)]) H Q E) := FT2 T
  refine mkF0 T.fds_Thing_source sc_Thing_source (fun _ _ _ _ _ _ us hl => match us, hl with | [_], _ => rfl) (fun vs H Q E h => ?_) (fun cdv A outer s H vs Q E hr h => ?_)
  · obtain ⟨n, rfl, _⟩ := h
    rfl
  · obtain ⟨n, rfl, hn, hz, q⟩ := h
    refine ⟨_, (pss_cons (ps_expr (pe_d D_need_names (hr.mono (by decide)) (by rfl) pass0 (pa_cons (pe_lst (pa_cons (pv 0) pa_nil)) pa_nil)))
    (pss_one (ps_ret (StX.pe_makeR T.mk_Thing FT2 (hr.mono (by decide)) (by rfl) T.g_Thing pass0 (pa_cons pe_str (pa_cons (pv 0) pa_nil)))))), ?_⟩
    refine q_drop (ev_dL (z := .non) (xs := [n].map V.str) (el_lst (ea_cons (ev_var rfl) ea_nil) (by simp)) fun p H1 e1 hp Q1 q1 => ⟨p, [n], rfl, sq_of hp, sh1 hz, fun w hw => by rw [List.mem_singleton.mp hw]; exact hn, q1⟩) fun H1 e1 => ?_
    refine ⟨_, rfl, fun x dx hx hdx hne => ?_⟩
    refine ⟨x, dx, .str "source", .str n, .ref (dfA K "Thing" "__init__" 0), rfl, upd_same, rfl, ?_⟩
    exact th_made (t := ⟨"source", n, []⟩) e1 q hx hdx hne (dfT T H1)
theorem sc_Thing_flag : FnScope ["name"] ["name"] (defScope s_Thing_flag) := ⟨rfl, rfl, rfl, by decide +kernel, rfl, by decide +kernel, by decide +kernel⟩
theorem F_flag (T : Txt w K mg) (D_need_names : Dn P w K mg base CX0 2 "need_names" (spNeedNames K)) : FnR P w K mg base CX0 4 (stA K "Thing" "flag") (spTh1 K "flag") := by
  have FT2 : FnR P w K mg base CX0 1 (He.ma K (He.ga K "Thing") "__init__") (fun vs H Q E => spThInit K (vs ++ [.ref (dfA K "Thing" "__init__" 0)]) H Q E) := FT2 T
  refine mkF0 T.fds_Thing_flag sc_Thing_flag (fun _ _ _ _ _ _ us hl => match us, hl with | [_], _ => rfl) (fun vs H Q E h => ?_) (fun cdv A outer s H vs Q E hr h => ?_)
  · obtain ⟨n, rfl, _⟩ := h
    rfl
  · obtain ⟨n, rfl, hn, hz, q⟩ := h
    refine ⟨_, (pss_cons (ps_expr (pe_d D_need_names (hr.mono (by decide)) (by rfl) pass0 (pa_cons (pe_lst (pa_cons (pv 0) pa_nil)) pa_nil)))
    (pss_one (ps_ret (StX.pe_makeR T.mk_Thing FT2 (hr.mono (by decide)) (by rfl) T.g_Thing pass0 (pa_cons pe_str (pa_cons (pv 0) pa_nil)))))), ?_⟩
    refine q_drop (ev_dL (z := .non) (xs := [n].map V.str) (el_lst (ea_cons (ev_var rfl) ea_nil) (by simp)) fun p H1 e1 hp Q1 q1 => ⟨p, [n], rfl, sq_of hp, sh1 hz, fun w hw => by rw [List.mem_singleton.mp hw]; exact hn, q1⟩) fun H1 e1 => ?_
    refine ⟨_, rfl, fun x dx hx hdx hne => ?_⟩
    refine ⟨x, dx, .str "flag", .str n, .ref (dfA K "Thing" "__init__" 0), rfl, upd_same, rfl, ?_⟩
    exact th_made (t := ⟨"flag", n, []⟩) e1 q hx hdx hne (dfT T H1)
theorem sc_Thing_slot : FnScope ["name"] ["name"] (defScope s_Thing_slot) := ⟨rfl, rfl, rfl, by decide +kernel, rfl, by decide +kernel, by decide +kernel⟩
theorem F_slot (T : Txt w K mg) (D_need_names : Dn P w K mg base CX0 2 "need_names" (spNeedNames K)) : FnR P w K mg base CX0 4 (stA K "Thing" "slot") (spTh1 K "slot") := by
  have FT2 : FnR P w K mg base CX0 1 (He.ma K (He.ga K "Thing") "__init__") (fun vs H Q E => spThInit K (vs ++ [.ref (dfA K "Thing" "__init__" 0)]) H Q E) := FT2 T
  refine mkF0 T.fds_Thing_slot sc_Thing_slot (fun _ _ _ _ _ _ us hl => match us, hl with | [_], _ => rfl) (fun vs H Q E h => ?_) (fun cdv A outer s H vs Q E hr h => ?_)
  · obtain ⟨n, rfl, _⟩ := h
    rfl
  · obtain ⟨n, rfl, hn, hz, q⟩ := h
    refine ⟨_, (pss_cons (ps_expr (pe_d D_need_names (hr.mono (by decide)) (by rfl) pass0 (pa_cons (pe_lst (pa_cons (pv 0) pa_nil)) pa_nil)))
    (pss_one (ps_ret (StX.pe_makeR T.mk_Thing FT2 (hr.mono (by decide)) (by rfl) T.g_Thing pass0 (pa_cons pe_str (pa_cons (pv 0) pa_nil)))))), ?_⟩
    refine q_drop (ev_dL (z := .non) (xs := [n].map V.str) (el_lst (ea_cons (ev_var rfl) ea_nil) (by simp)) fun p H1 e1 hp Q1 q1 => ⟨p, [n], rfl, sq_of hp, sh1 hz, fun w hw => by rw [List.mem_singleton.mp hw]; exact hn, q1⟩) fun H1 e1 => ?_
    refine ⟨_, rfl, fun x dx hx hdx hne => ?_⟩
    refine ⟨x, dx, .str "slot", .str n, .ref (dfA K "Thing" "__init__" 0), rfl, upd_same, rfl, ?_⟩
    exact th_made (t := ⟨"slot", n, []⟩) e1 q hx hdx hne (dfT T H1)
def spThF (K : PySem.W.Frag) : Sp := fun vs H Q _ => ∃ n o, vs = [.str n, .str o] ∧ okN n = true ∧ okN o = true ∧ n.length ≤ 100000 ∧ o.length ≤ 100000 ∧ RetTh K ⟨"field", n, [o]⟩ H Q
theorem sc_Thing_field : FnScope ["name", "over"] ["name", "over"] (defScope s_Thing_field) := ⟨rfl, rfl, rfl, by decide +kernel, rfl, by decide +kernel, by decide +kernel⟩
theorem F_field (T : Txt w K mg) (D_need_names : Dn P w K mg base CX0 2 "need_names" (spNeedNames K)) : FnR P w K mg base CX0 4 (stA K "Thing" "field") (spThF K) := by
  have FT3 : FnR P w K mg base CX0 1 (He.ma K (He.ga K "Thing") "__init__") (spThInit K) := FT3 T
  refine mkF0 T.fds_Thing_field sc_Thing_field (fun _ _ _ _ _ _ us hl => match us, hl with | [_, _], _ => rfl) (fun vs H Q E h => ?_) (fun cdv A outer s H vs Q E hr h => ?_)
  · obtain ⟨n, o, rfl, _⟩ := h
    rfl
  · obtain ⟨n, o, rfl, hn, ho, hz, hzo, q⟩ := h
    refine ⟨_, (pss_cons (ps_expr (pe_d D_need_names (hr.mono (by decide)) (by rfl) pass0 (pa_cons (pe_lst (pa_cons (pv 0) (pa_cons (pv 1) pa_nil))) pa_nil)))
    (pss_one (ps_ret (StX.pe_makeR T.mk_Thing FT3 (hr.mono (by decide)) (by rfl) T.g_Thing pass0 (pa_cons pe_str (pa_cons (pv 0) (pa_cons (pe_tup (pa_cons (pv 1) pa_nil)) pa_nil))))))), ?_⟩
    refine q_drop (ev_dL (z := .non) (xs := [n, o].map V.str) (el_lst (ea_cons (ev_var rfl) (ea_cons (ev_var rfl) ea_nil)) (by simp)) fun p H1 e1 hp Q1 q1 => ⟨p, [n, o], rfl, sq_of hp, ⟨by simp, fun w hw => by
      rcases List.mem_cons.mp hw with rfl | hw
      · exact hz
      · rw [List.mem_singleton.mp hw]
        exact hzo⟩, fun w hw => by
      rcases List.mem_cons.mp hw with rfl | hw
      · exact hn
      · rw [List.mem_singleton.mp hw]
        exact ho, q1⟩) fun H1 e1 => ?_
    refine ⟨_, rfl, _, rfl, by show 1 ≤ sizeLine; decide, fun b hb x dx hx hdx hne => ?_⟩
    refine ⟨x, dx, .str "field", .str n, .ref b, rfl, upd_same, rfl, ?_⟩
    exact th_made (t := ⟨"field", n, [o]⟩) (e1.trans (Ex.new hb)) q hx hdx hne (st_of upd_same)
def spThT (K : PySem.W.Frag) : Sp := fun vs H Q _ => ∃ (n : Str) (ks : List Str) (a : Addr), vs = [.str n, .ref a] ∧ SqT K H a (ks.map V.str) ∧ okN n = true ∧ (∀ k ∈ ks, okN k = true) ∧ n.length ≤ 100000 ∧ Sh ks ∧ ks.length ≤ 4 ∧ ks.Nodup ∧ RetTh K ⟨"table", n, ks⟩ H Q
theorem sc_Thing_table : FnScope ["name", "keys"] ["name", "keys"] (defScope s_Thing_table) := ⟨rfl, rfl, rfl, by decide +kernel, rfl, by decide +kernel, by decide +kernel⟩
theorem F_table (T : Txt w K mg) (D_need_names : Dn P w K mg base CX0 2 "need_names" (spNeedNames K)) (D_need_unlike : Dn P w K mg base CX0 1 "need_unlike" (spNeedUnlike K)) :
    FnR P w K mg base CX0 4 (stA K "Thing" "table") (fun vs H Q E => ∃ ws rest, vs = ws ++ rest ∧ ws.length = ["name"].length ∧ rest.length ≤ sizeLine ∧ ∀ p, H p = none → spThT K (ws ++ [V.ref p]) (upd H p (.tup rest)) Q E) := by
  have FT3 : FnR P w K mg base CX0 1 (He.ma K (He.ga K "Thing") "__init__") (spThInit K) := FT3 T
  refine mkS (ps := ["name"]) (pv := "keys") T.fds_Thing_table sc_Thing_table StX.cxUp_none (fun kV doc pm an cdv ct us rest hl => StX.bind_star1 (B := fun l => bindArgs (PySem.W.fnOf "table" "Thing.table" (defArgs s_Thing_table) (defBody s_Thing_table) (defScope s_Thing_table) .none kV doc pm an cdv ct) ⟨l, []⟩) (p1 := "name") (pv := "keys") (fun a => rfl) (fun a r rs => rfl) us rest hl) (fun cdv A outer s H vs Q E hr h => ?_)
  obtain ⟨n, ks, a, rfl, ha, hn, hks, hz, hsk, hl4, hnd, q⟩ := h
  obtain ⟨_, GL_MOST_KEYS⟩ := T.i_MOST_KEYS
  refine ⟨_, PSs.nox (pss_cons (ps_expr (pe_d D_need_names (hr.mono (by decide)) (by rfl) pass0 (pa_cons (pe_lst (pa_cons (pv 0) (StX.pa_star (pv 1) pa_nil))) pa_nil)))
    (pss_cons (ps_expr (pe_d D_need_unlike (hr.mono (by decide)) (by rfl) pass0 (pa_cons (pv 1) pa_nil)))
    (pss_cons (ps_if (pt_cmpR op_gt (pe_callB call_len_seq (by rfl) T.n_len PySem.boot_len (pa_cons (pv 1) pa_nil)) (pe_glob (v := .int 4) (by rfl) GL_MOST_KEYS ⟨_, rfl⟩) (nomark _)) (pss_one ps_never) pss_nil)
    (pss_one (ps_ret (StX.pe_makeR T.mk_Thing FT3 (hr.mono (by decide)) (by rfl) T.g_Thing pass0 (pa_cons pe_str (pa_cons (pv 0) (pa_cons (pv 1) pa_nil))))))))), ?_⟩
  refine q_drop (ev_dL (z := .non) (xs := (n :: ks).map V.str) ?_ fun p H1 e1 hp Q1 q1 => ⟨p, n :: ks, rfl, sq_of hp, ⟨by
    rw [List.length_cons]
    omega, fun w hw => by
      rcases List.mem_cons.mp hw with rfl | hw
      · exact hz
      · exact hsk.2 w hw⟩, fun w hw => by
      rcases List.mem_cons.mp hw with rfl | hw
      · exact hn
      · exact hks w hw, q1⟩) fun H1 e1 => ?_
  · intro H1 e1 Q1 q1
    refine ⟨_, rfl, _, rfl, a, ks.map V.str, rfl, Or.inl (ex_t e1 ha), ?_⟩
    refine ⟨sz_of (by simp; omega), fun p hp => q1 p _ hp (Ex.new hp) ?_⟩
    rw [upd_same, List.append_nil]
    rfl
  have ha1 := ex_t e1 ha
  refine q_drop (ev_d (z := .non) (ea_cons (ev_var rfl) ea_nil) fun H2 e2 Q2 q2 => ⟨a, ks, rfl, Or.inr (ex_t e2 ha1), by omega, hnd, q2⟩) fun H2 e2 => ?_
  have ha2 := ex_t e2 ha1
  refine q_when (et_test (ev_op (ev_lenT (ev_var rfl) ha2) ev_c rv_I0)) (fun hb => ?_) fun hb H3 e3 => ?_
  · have := of_decide_eq_true hb
    rw [List.length_map] at this
    omega
  · refine ⟨_, rfl, _, rfl, fun x dx hx hdx hne => ?_⟩
    refine ⟨x, dx, .str "table", .str n, .ref a, rfl, upd_same, rfl, ?_⟩
    exact th_made (t := ⟨"table", n, ks⟩) ((e1.trans e2).trans e3) q hx hdx hne (ex_t e3 ha2)
end
end Q7
/-! _law_thing, need_known, need_row, opened_behind -/
namespace Q7
open PySem PySem.Spec PyProof.Rows L2 Evl
/-! ### things -/
def ThTup (H : Hp) (v : V) (t : TH) : Prop := ∃ a b, v = .ref a ∧ H a = some (.tup [.str t.kind, .str t.name, .ref b]) ∧ H b = some (.tup (t.parts.map V.str))
theorem ThTup.kp {H H' : Hp} {v : V} {t : TH} (k : Kp H H') (h : ThTup H v t) : ThTup H' v t := by
  obtain ⟨a, b, h1, h2, h3⟩ := h
  exact ⟨a, b, h1, k.tup h2, k.tup h3⟩
def plainKinds : List Str := ["feed", "dice", "source", "flag", "slot"]
def ThOk (t : TH) : Prop := okN t.name = true ∧ (∀ p ∈ t.parts, okN p = true) ∧
  ((t.kind ∈ plainKinds ∧ t.parts = []) ∨ (t.kind = "field" ∧ ∃ o, t.parts = [o]) ∨ (t.kind = "table" ∧ ((∃ k, t.parts = [k]) ∨ ∃ k l, t.parts = [k, l] ∧ k ≠ l)))
theorem okN_len {z : Str} (h : okN z = true) : z.length ≤ 100000 := by
  unfold okN at h
  simp only [Bool.and_eq_true, decide_eq_true_eq] at h
  omega
/-! ### errors -/
def Er (K : PySem.W.Frag) (x f : Str) (v : V) (H : Hp) (E : XK) : Prop := ∀ d H', H d = none → Ex H H' → H' d = some (.xd [(f, v)]) → E (.ref (He.ga K x)) (some d) H'
theorem Er.go {K : PySem.W.Frag} {x f : Str} {v : V} {H H1 : Hp} {E : XK} {d : Addr} (q : Er K x f v H E) (e : Ex H H1) (hd : H1 d = none) : E (.ref (He.ga K x)) (some d) (upd H1 d (.xd [(f, v)])) := q d _ (fresh_back e hd) (e.trans (Ex.new hd)) upd_same
theorem Er.ex {K : PySem.W.Frag} {x f : Str} {v : V} {H H1 : Hp} {E : XK} (e : Ex H H1) (q : Er K x f v H E) : Er K x f v H1 E := fun d H' hd e' h => q d H' (fresh_back e hd) (e.trans e') h
abbrev Out := Option (Str × Str × V)
def eBadRow (n : Int) : Out := some ("BadRow", "number", .int n)
def eNoThing (z : Str) : Out := some ("NoThing", "name", .str z)
def eNoKey (z : Str) : Out := some ("NoKey", "key", .str z)
def eTwice (z : Str) : Out := some ("Twice", "name", .str z)
def eNoPart (z : Str) : Out := some ("NoPart", "name", .str z)
def eUnmatched (n : Int) : Out := some ("Unmatched", "number", .int n)
def eTooMany (n : Int) : Out := some ("TooMany", "limit", .int n)
def RetO (K : PySem.W.Frag) (o : Out) (H : Hp) (Q : VK) (E : XK) : Prop := match o with
  | none => RetV .non H Q
  | some (x, f, v) => Er K x f v H E
theorem RetO.ex {K : PySem.W.Frag} {o : Out} {H H1 : Hp} {Q : VK} {E : XK} (e : Ex H H1) (q : RetO K o H Q E) : RetO K o H1 Q E := by
  cases o with
  | none => exact fun H2 e2 => q H2 (e.trans e2)
  | some p => exact Er.ex e q
section
variable {P : Program} {w : World} {K : PySem.W.Frag} {mg : Str → Option Value} {base : Heap}
/-! ### _law_thing -/
def spLawThing (K : PySem.W.Frag) : Sp := fun vs H Q _ => ∃ v t, vs = [v] ∧ ThTup H v t ∧ ThOk t ∧ RetTh K t H Q
theorem RetTh.ex {t : TH} {H H1 : Hp} {Q : VK} (e : Ex H H1) (q : RetTh K t H Q) : RetTh K t H1 Q := fun y H' e' h => q y H' (e.trans e') h
theorem sc__law_thing : FnScope ["_law_thing_here", "_law_kind", "_law_name", "_law_parts"] ["_law_thing_here"] (defScope s_law_thing) := ⟨rfl, rfl, rfl, by decide +kernel, rfl, by decide +kernel, by decide +kernel⟩
theorem D__law_thing (T : Txt w K mg) (D_need_names : Dn P w K mg base CX0 2 "need_names" (spNeedNames K)) (D_need_unlike : Dn P w K mg base CX0 1 "need_unlike" (spNeedUnlike K)) : Dn P w K mg base CX0 5 "_law_thing" (spLawThing K) := by
  refine mkD0 T.fds_law_thing T.g__law_thing T.kps_law_thing sc__law_thing (fun _ _ _ _ _ _ us hl => match us, hl with | [_], _ => rfl) (fun vs H Q E h => ?_) (fun cdv A outer s H vs Q E hr h => ?_)
  · obtain ⟨v, t, rfl, _⟩ := h
    rfl
  · obtain ⟨v, t, rfl, ⟨a, b, rfl, ha, hb⟩, ⟨hn, hp, hk⟩, q⟩ := h
    obtain ⟨_, SM_feed⟩ := T.sm_feed
    obtain ⟨_, SM_dice⟩ := T.sm_dice
    obtain ⟨_, SM_source⟩ := T.sm_source
    obtain ⟨_, SM_flag⟩ := T.sm_flag
    obtain ⟨_, SM_slot⟩ := T.sm_slot
    obtain ⟨_, SM_field⟩ := T.sm_field
    obtain ⟨_, SM_table⟩ := T.sm_table
    have F_feed : FnR P w K mg base CX0 4 (stA K "Thing" "feed") (spTh1 K "feed") := F_feed T D_need_names
    have F_dice : FnR P w K mg base CX0 4 (stA K "Thing" "dice") (spTh1 K "dice") := F_dice T D_need_names
    have F_source : FnR P w K mg base CX0 4 (stA K "Thing" "source") (spTh1 K "source") := F_source T D_need_names
    have F_flag : FnR P w K mg base CX0 4 (stA K "Thing" "flag") (spTh1 K "flag") := F_flag T D_need_names
    have F_slot : FnR P w K mg base CX0 4 (stA K "Thing" "slot") (spTh1 K "slot") := F_slot T D_need_names
    have F_field : FnR P w K mg base CX0 4 (stA K "Thing" "field") (spThF K) := F_field T D_need_names
    have F_table := F_table (P := P) (base := base) T D_need_names D_need_unlike
    obtain ⟨kd, n, ps⟩ := t
    dsimp only at hn hp hk ha hb
    have hz := okN_len hn
    refine ⟨_, (pss_cons (ps_asg (pv 0) (pg_tup rfl (pgs_cons (pg_name (i := 1) sc__law_thing.nd rfl (Or.inl rfl)) (pgs_cons (pg_name (i := 2) sc__law_thing.nd rfl (Or.inl rfl)) (pgs_cons (pg_name (i := 3) sc__law_thing.nd rfl (Or.inl rfl)) pgs_nil)))))
    (pss_cons (ps_if (pt_cmpR op_eq (pv 1) pe_str (nomark _)) (pss_one (ps_ret (pe_smeth (pe_glob (v := .ref (He.ga K "Thing")) (by rfl) T.g_Thing rfl) T.cr_Thing SM_feed F_feed (hr.mono (by decide)) pass0 (pa_cons (pv 2) pa_nil)))) pss_nil)
    (pss_cons (ps_if (pt_cmpR op_eq (pv 1) pe_str (nomark _)) (pss_one (ps_ret (pe_smeth (pe_glob (v := .ref (He.ga K "Thing")) (by rfl) T.g_Thing rfl) T.cr_Thing SM_dice F_dice (hr.mono (by decide)) pass0 (pa_cons (pv 2) pa_nil)))) pss_nil)
    (pss_cons (ps_if (pt_cmpR op_eq (pv 1) pe_str (nomark _)) (pss_one (ps_ret (pe_smeth (pe_glob (v := .ref (He.ga K "Thing")) (by rfl) T.g_Thing rfl) T.cr_Thing SM_source F_source (hr.mono (by decide)) pass0 (pa_cons (pv 2) pa_nil)))) pss_nil)
    (pss_cons (ps_if (pt_cmpR op_eq (pv 1) pe_str (nomark _)) (pss_one (ps_ret (pe_smeth (pe_glob (v := .ref (He.ga K "Thing")) (by rfl) T.g_Thing rfl) T.cr_Thing SM_flag F_flag (hr.mono (by decide)) pass0 (pa_cons (pv 2) pa_nil)))) pss_nil)
    (pss_cons (ps_if (pt_cmpR op_eq (pv 1) pe_str (nomark _)) (pss_one (ps_ret (pe_smeth (pe_glob (v := .ref (He.ga K "Thing")) (by rfl) T.g_Thing rfl) T.cr_Thing SM_slot F_slot (hr.mono (by decide)) pass0 (pa_cons (pv 2) pa_nil)))) pss_nil)
    (pss_cons (ps_if (pt_cmpR op_eq (pv 1) pe_str (nomark _)) (pss_one (ps_ret (pe_smeth (pe_glob (v := .ref (He.ga K "Thing")) (by rfl) T.g_Thing rfl) T.cr_Thing SM_field F_field (hr.mono (by decide)) pass0 (pa_cons (pv 2) (pa_cons (pe_ix ix_tup (pv 3) pe_int (fun _ _ => rfl)) pa_nil))))) pss_nil)
    (pss_cons (ps_if (pt_cmpR op_eq (pe_callB call_len_seq (by rfl) T.n_len PySem.boot_len (pa_cons (pv 3) pa_nil)) pe_int (nomark _)) (pss_one (ps_ret (pe_smeth (pe_glob (v := .ref (He.ga K "Thing")) (by rfl) T.g_Thing rfl) T.cr_Thing SM_table F_table (hr.mono (by decide)) pass0 (pa_cons (pv 2) (pa_cons (pe_ix ix_tup (pv 3) pe_int (fun _ _ => rfl)) pa_nil))))) pss_nil)
    (pss_one (ps_ret (pe_smeth (pe_glob (v := .ref (He.ga K "Thing")) (by rfl) T.g_Thing rfl) T.cr_Thing SM_table F_table (hr.mono (by decide)) pass0 (pa_cons (pv 2) (pa_cons (pe_ix ix_tup (pv 3) pe_int (fun _ _ => rfl)) (pa_cons (pe_ix ix_tup (pv 3) pe_int (fun _ _ => rfl)) pa_nil)))))))))))))), ?_⟩
    refine ⟨_, rfl, a, _, rfl, st_of ha, rfl, _, _, rfl, _, _, rfl, _, _, rfl, rfl, ?_⟩
    refine q_when (et_test (ev_eqS (ev_var (i := 1) rfl) ev_c)) (fun hb1 H1 e1 => ?_) fun hb1 H1 e1 => ?_
    · obtain rfl : kd = "feed" := of_decide_eq_true hb1
      obtain rfl : ps = [] := by
        rcases hk with h | h | h
        · exact h.2
        · exact absurd h.1 (by decide)
        · exact absurd h.1 (by decide)
      exact ⟨rfl, _, rfl, n, rfl, hn, hz, q.ex e1⟩
    refine q_when (et_test (ev_eqS (ev_var (i := 1) rfl) ev_c)) (fun hb2 H2 e2 => ?_) fun hb2 H2 e2 => ?_
    · obtain rfl : kd = "dice" := of_decide_eq_true hb2
      obtain rfl : ps = [] := by
        rcases hk with h | h | h
        · exact h.2
        · exact absurd h.1 (by decide)
        · exact absurd h.1 (by decide)
      exact ⟨rfl, _, rfl, n, rfl, hn, hz, q.ex (e1.trans e2)⟩
    refine q_when (et_test (ev_eqS (ev_var (i := 1) rfl) ev_c)) (fun hb3 H3 e3 => ?_) fun hb3 H3 e3 => ?_
    · obtain rfl : kd = "source" := of_decide_eq_true hb3
      obtain rfl : ps = [] := by
        rcases hk with h | h | h
        · exact h.2
        · exact absurd h.1 (by decide)
        · exact absurd h.1 (by decide)
      exact ⟨rfl, _, rfl, n, rfl, hn, hz, q.ex ((e1.trans e2).trans e3)⟩
    refine q_when (et_test (ev_eqS (ev_var (i := 1) rfl) ev_c)) (fun hb4 H4 e4 => ?_) fun hb4 H4 e4 => ?_
    · obtain rfl : kd = "flag" := of_decide_eq_true hb4
      obtain rfl : ps = [] := by
        rcases hk with h | h | h
        · exact h.2
        · exact absurd h.1 (by decide)
        · exact absurd h.1 (by decide)
      exact ⟨rfl, _, rfl, n, rfl, hn, hz, q.ex (((e1.trans e2).trans e3).trans e4)⟩
    refine q_when (et_test (ev_eqS (ev_var (i := 1) rfl) ev_c)) (fun hb5 H5 e5 => ?_) fun hb5 H5 e5 => ?_
    · obtain rfl : kd = "slot" := of_decide_eq_true hb5
      obtain rfl : ps = [] := by
        rcases hk with h | h | h
        · exact h.2
        · exact absurd h.1 (by decide)
        · exact absurd h.1 (by decide)
      exact ⟨rfl, _, rfl, n, rfl, hn, hz, q.ex ((((e1.trans e2).trans e3).trans e4).trans e5)⟩
    have e15 := (((e1.trans e2).trans e3).trans e4).trans e5
    refine q_when (et_test (ev_eqS (ev_var (i := 1) rfl) ev_c)) (fun hb6 H6 e6 => ?_) fun hb6 H6 e6 => ?_
    · obtain rfl : kd = "field" := of_decide_eq_true hb6
      obtain ⟨o, rfl⟩ : ∃ o, ps = [o] := by
        rcases hk with h | h | h
        · exact absurd h.1 (by decide)
        · exact h.2
        · exact absurd h.1 (by decide)
      have hob := hp o (by simp)
      exact ⟨rfl, _, rfl, _, rfl, b, _, 0, .str o, rfl, rfl, st_of ((e15.trans e6) _ _ hb), atI_nat (j := 0) rfl, n, o, rfl, hn, hob, hz, okN_len hob, q.ex (e15.trans e6)⟩
    have hkT : kd = "table" ∧ ((∃ k, ps = [k]) ∨ ∃ k l, ps = [k, l] ∧ k ≠ l) := by
      rcases hk with h | h | h
      · have h1 := h.1
        simp only [plainKinds, List.mem_cons, List.not_mem_nil, or_false] at h1
        have b1 := of_decide_eq_false hb1
        have b2 := of_decide_eq_false hb2
        have b3 := of_decide_eq_false hb3
        have b4 := of_decide_eq_false hb4
        have b5 := of_decide_eq_false hb5
        rcases h1 with h1 | h1 | h1 | h1 | h1
        · exact absurd h1 b1
        · exact absurd h1 b2
        · exact absurd h1 b3
        · exact absurd h1 b4
        · exact absurd h1 b5
      · exact absurd h.1 (of_decide_eq_false hb6)
      · exact h
    obtain ⟨rfl, hps⟩ := hkT
    have e16 := e15.trans e6
    have hb16 : SqT K H6 b (ps.map V.str) := st_of (e16 _ _ hb)
    refine q_when (et_test (ev_eqI (ev_lenT (ev_var (i := 3) rfl) hb16) ev_c)) (fun hb7 H7 e7 => ?_) fun hb7 H7 e7 => ?_
    · have hlen := of_decide_eq_true hb7
      rw [List.length_map] at hlen
      obtain ⟨k, rfl⟩ : ∃ k, ps = [k] := by
        rcases hps with h | ⟨k, l, rfl, _⟩
        · exact h
        · exact absurd hlen (by simp)
      have hok := hp k (by simp)
      refine ⟨rfl, _, rfl, _, rfl, b, _, 0, .str k, rfl, rfl, ex_t e7 hb16, atI_nat (j := 0) rfl, [.str n], [.str k], rfl, rfl, sz_of (by simp), fun p hp0 => ⟨n, [k], p, rfl, st_of upd_same, hn, hp, hz, sh1 (okN_len hok), by simp, by simp, (q.ex (e16.trans e7)).ex (Ex.new hp0)⟩⟩
    · have hlen := of_decide_eq_false hb7
      rw [List.length_map] at hlen
      obtain ⟨k, l, rfl, hkl⟩ : ∃ k l, ps = [k, l] ∧ k ≠ l := by
        rcases hps with ⟨k, rfl⟩ | h
        · exact absurd rfl hlen
        · exact h
      have hok := hp k (by simp)
      have hol := hp l (by simp)
      refine ⟨rfl, _, rfl, _, rfl, b, _, 0, .str k, rfl, rfl, ex_t e7 hb16, atI_nat (j := 0) rfl, _, rfl, b, _, 1, .str l, rfl, rfl, ex_t e7 hb16, atI_nat (j := 1) rfl, [.str n], [.str k, .str l], rfl, rfl, sz_of (by simp), fun p hp0 => ⟨n, [k, l], p, rfl, st_of upd_same, hn, hp, hz, ⟨by simp, fun w hw => okN_len (hp w hw)⟩, by simp, by simpa using hkl, (q.ex (e16.trans e7)).ex (Ex.new hp0)⟩⟩
/-! ### need_known -/
def findT (ths : List TH) (z : Str) : Option TH := ths.find? fun t => decide (t.name = z)
def KnV (K : PySem.W.Frag) (H : Hp) (kvs : List (Key × V)) (ths : List TH) : Prop := ∀ z : Str, match findT ths z with
  | none => valV kvs (Sum.inr z) = none
  | some t => ∃ v, valV kvs (Sum.inr z) = some v ∧ ThObj K H v t
theorem KnV.kp {H H' : Hp} {kvs : List (Key × V)} {ths : List TH} (k : Kp H H') (h : KnV K H kvs ths) : KnV K H' kvs ths := fun z => by
  have h1 := h z
  cases hf : findT ths z with
  | none =>
    rw [hf] at h1
    exact h1
  | some t =>
    rw [hf] at h1
    obtain ⟨v, h2, h3⟩ := h1
    exact ⟨v, h2, h3.kp k⟩
def step1 (ths : List TH) (p : Str × Str) : Out := if p.2 ∈ free_ then none else match findT ths p.1 with
  | none => eNoThing p.1
  | some t => if p.2 = "thing" ∨ p.2 = t.kind then none else eNoThing p.1
def step2 (ths : List TH) (w1 : Str) (p : Str × Str) : Out := if p.2 = "key" then (match findT ths w1 with
  | none => none
  | some t => if p.1 ∈ t.parts then none else eNoKey p.1) else none
def knownR (ths : List TH) (ws cs : List Str) : Out := match ((ws.drop 1).zip cs).findSome? (step1 ths) with
  | some e => some e
  | none => ((ws.drop 1).zip cs).findSome? (step2 ths ((ws.drop 1).headD ""))
/-- a key stands behind the table that it is of -/
def KeyOk (cs : List Str) : Prop := ("key" : Str) ∈ cs → ∃ c r, cs = c :: r ∧ c ∉ free_
def spKnown (K : PySem.W.Frag) : Sp := fun vs H Q E => ∃ (d : Addr) (kvs : List (Key × V)) (ths : List TH) (a c : Addr) (ws cs : List Str), vs = [.ref d, .ref a, .ref c] ∧ H d = some (.dK kvs) ∧ KnV K H kvs ths ∧ SqT K H a (ws.map V.str) ∧ SqT K H c (cs.map V.str) ∧ ws.length = 1 + cs.length ∧ KeyOk cs ∧ ws.length ≤ 1000 ∧
  RetO K (knownR ths ws cs) H Q E
theorem zipV (xs ys : List Str) : (xs.map V.str).zip (ys.map V.str) = (xs.zip ys).map fun p => (V.str p.1, V.str p.2) := by
  rw [List.zip_map]
  rfl
theorem findSome_take {α β : Type} (f : α → Option β) : ∀ {l : List α} {i : Nat} {x : α} {b : β}, l[i]? = some x → (∀ (j : Nat) (y : α), j < i → l[j]? = some y → f y = none) → f x = some b → l.findSome? f = some b
  | [], i, x, b, h, _, _ => by simp at h
  | a :: r, 0, x, b, h, _, hf => by
    have e : a = x := Option.some.inj h
    rw [List.findSome?_cons, e, hf]
  | a :: r, i + 1, x, b, h, hn, hf => by
    rw [List.findSome?_cons, hn 0 a (by omega) rfl]
    exact findSome_take f h (fun j y hj hy => hn (j + 1) y (by omega) hy) hf
theorem findSome_none {α β : Type} (f : α → Option β) {l : List α} (h : ∀ (j : Nat) (y : α), l[j]? = some y → f y = none) : l.findSome? f = none := by
  rw [List.findSome?_eq_none_iff]
  intro x hx
  obtain ⟨j, hj⟩ := List.getElem?_of_mem hx
  exact h j x hj
theorem sc_need_known : FnScope ["known", "words", "codes", "word", "code"] ["known", "words", "codes"] (defScope s_need_known) := ⟨rfl, rfl, rfl, by decide +kernel, rfl, by decide +kernel, by decide +kernel⟩
theorem D_need_known (T : Txt w K mg) (HP : PF P) : Dn P w K mg base (L2.CX P w) 3 "need_known" (spKnown K) := by
  refine mkD T.fds_need_known T.g_need_known T.kps_need_known sc_need_known (fun _ _ _ _ _ _ us hl => match us, hl with | [_, _, _], _ => rfl) (fun vs H Q E h => ?_) (fun cdv A outer s H vs Q E hr h => ?_)
  · obtain ⟨d, kvs, ths, a, c, ws, cs, rfl, _⟩ := h
    rfl
  · obtain ⟨d, kvs, ths, a, c, ws, cs, rfl, hd, hk, ha, hc, hl, hko, hz, q⟩ := h
    have hu := hu_of hr
    refine ⟨_, (pss_cons (ps_for (passes_of rfl) rfl (RZ.pi_zipA (by rfl) T.n_zip (pa_cons (pe_slice sl_tupA (pv 1) (po_some pe_int) po_none) (pa_cons (pv 2) pa_nil))) (pg_tup rfl (pgs_cons (pg_name (i := 3) sc_need_known.nd rfl (Or.inl rfl)) (pgs_cons (pg_name (i := 4) sc_need_known.nd rfl (Or.inl rfl)) pgs_nil)))
    (pss_one (ps_if (pt_cmpR op_notIn_seq (pv 4) (pe_glob (v := .ref (He.ga K "FREE")) (by rfl) T.g_FREE rfl) (by rfl)) (pss_one (ps_if (PW.pt (pw_or (pt_cmp (pc_dnotin hu (pv 3) (pv 0))) (pw_or1 (pt_cmpR op_notIn_seq (pv 4) (pe_tup (pa_cons pe_str (pa_cons (pe_fld (pe_dget hu (pv 0) (pv 3) (fun _ _ => rfl)) rfl) pa_nil))) (by rfl))))) (pss_one (ps_raise rfl (takes_of rfl rfl rfl rfl) (pmk_q T.NoThing HP hr (pa_cons (pv 3) pa_nil)))) pss_nil)) pss_nil)))
    (pss_one (ps_for (passes_of rfl) rfl (RZ.pi_zipA (by rfl) T.n_zip (pa_cons (pe_slice sl_tupA (pv 1) (po_some pe_int) po_none) (pa_cons (pv 2) pa_nil))) (pg_tup rfl (pgs_cons (pg_name (i := 3) sc_need_known.nd rfl (Or.inl rfl)) (pgs_cons (pg_name (i := 4) sc_need_known.nd rfl (Or.inl rfl)) pgs_nil)))
    (pss_one (ps_if (PW.pt (pw_and (pt_cmpR op_eq (pv 4) pe_str (nomark _)) (pw_and1 (pt_cmpR op_notIn_seq (pv 3) (pe_fld (pe_dget hu (pv 0) (pe_ix ix_tup (pv 1) pe_int (fun _ _ => rfl)) (fun _ _ => rfl)) rfl) (by rfl))))) (pss_one (ps_raise rfl (takes_of rfl rfl rfl rfl) (pmk_q T.NoKey HP hr (pa_cons (pv 3) pa_nil)))) pss_nil))))), ?_⟩
    have hsl : ∀ {σ : L2.St} {H1 : Hp}, σ[1]? = some (some (.ref a)) → Ex H H1 → EvS K (tSl (rSlA K) (tVar 1) (tPart (tC (.int 1))) tNoPart) σ H1 ((ws.drop 1).map V.str) := fun {σ H1} hs e => by
      have z := es_from (K := K) 1 (es_T (te := tVar 1) (σ := σ) (ev_var hs) (ex_t e ha))
      rw [List.map_drop]
      exact z
    refine q_forPP (ep_zipTT (hsl (σ := start ["known", "words", "codes", "word", "code"] [.ref d, .ref a, .ref c]) rfl (Ex.refl H)) (ev_var (i := 2) rfl) hc) (fun i σ' => fun H' => (∃ y z, σ' = [some (.ref d), some (.ref a), some (.ref c), y, z]) ∧ ∀ j p, j < i → ((ws.drop 1).zip cs)[j]? = some p → step1 ths p = none) (fun H1 e1 => ⟨⟨none, none, rfl⟩, fun j p hj => absurd hj (Nat.not_lt_zero j)⟩) (fun H1 e1 i x y T0 σ' H' hx e2 pv hT => ?_) fun σ' H' e pv => ?_
    · obtain ⟨⟨y3, y4, rfl⟩, hprev⟩ := pv
      rw [zipV, List.getElem?_map] at hx
      obtain ⟨p, hp, hpe⟩ := Option.map_eq_some_iff.mp hx
      obtain ⟨wd, cd⟩ := p
      simp only [Prod.mk.injEq] at hpe
      obtain ⟨rfl, rfl⟩ := hpe
      refine g_pair (st_of upd_same) ?_
      have eT : Ex H (upd H' T0 (.tup [.str wd, .str cd])) := (e1.trans e2).trans (Ex.new hT)
      have eT1 : Ex H1 (upd H' T0 (.tup [.str wd, .str cd])) := e2.trans (Ex.new hT)
      have next : ∀ H3, Ex (upd H' T0 (.tup [.str wd, .str cd])) H3 → step1 ths (wd, cd) = none → Ex H1 H3 ∧ (∃ y z, ([some (.ref d), some (.ref a), some (.ref c), some (.str wd), some (.str cd)] : L2.St) = [some (.ref d), some (.ref a), some (.ref c), y, z]) ∧ ∀ j p, j < i + 1 → ((ws.drop 1).zip cs)[j]? = some p → step1 ths p = none := fun H3 e3 hs => by
        refine ⟨eT1.trans e3, ⟨_, _, rfl⟩, fun j p hj hjp => ?_⟩
        by_cases hji : j < i
        · exact hprev j p hji hjp
        · obtain rfl : j = i := by omega
          rw [hp] at hjp
          rw [← Option.some.inj hjp]
          exact hs
      have bad : ∀ H3, Ex (upd H' T0 (.tup [.str wd, .str cd])) H3 → step1 ths (wd, cd) = eNoThing wd → Er K "NoThing" "name" (.str wd) H3 E := fun H3 e3 hs => by
        have z : knownR ths ws cs = eNoThing wd := by
          unfold knownR
          rw [findSome_take (step1 ths) hp hprev hs]
          rfl
        rw [z] at q
        exact Er.ex (eT.trans e3) q
      refine s_when (et_test (ev_niG T.t_FREE (ev_var (i := 4) rfl) ev_c)) (fun hb H3 e3 => ?_) fun hb H3 e3 => next H3 e3 (by
        show (if cd ∈ free_ then none else _) = none
        rw [if_pos (by simpa using hb)])
      have nf : ¬ cd ∈ free_ := by simpa using hb
      have eH3 := eT.trans e3
      have hkz := hk wd
      cases hf : findT ths wd with
      | none =>
        rw [hf] at hkz
        have hs : step1 ths (wd, cd) = eNoThing wd := by
          show (if cd ∈ free_ then none else _) = _
          rw [if_neg nf, hf]
        refine s_when (et_or (b := true) (et_B (b := true) fun H4 e4 Q4 q4 => ⟨_, rfl, _, rfl, d, none, rfl, by
          have z := DGet.k (k := Sum.inr wd) ((eH3.trans e4) _ _ hd)
          rw [hkz] at z
          exact z, q4 H4 (Ex.refl H4)⟩) (fun z => by cases z)) (fun hb H4 e4 => ?_) fun hb => by cases hb
        exact ⟨_, rfl, .str wd, rfl, fun d2 hd2 => (bad H4 (e3.trans e4) hs).go (Ex.refl H4) hd2⟩
      | some t =>
        rw [hf] at hkz
        obtain ⟨v, hv, x, dx, b, rfl, hx, hbp⟩ := hkz
        refine s_when (et_or (et_B (b := false) fun H4 e4 Q4 q4 => ⟨_, rfl, _, rfl, d, some (.ref x), rfl, by
          have z := DGet.k (k := Sum.inr wd) ((eH3.trans e4) _ _ hd)
          rw [hv] at z
          exact z, q4 H4 (Ex.refl H4)⟩) (fun _ => et_test (ev_niD ["thing", t.kind] (ev_var (i := 4) rfl) (eu_tup (ea_cons ev_c (ea_cons (ev_fld (a := x) (fun H4 e4 Q4 q4 => ⟨_, rfl, _, rfl, d, _, rfl, by
          have z := DGet.k (k := Sum.inr wd) ((eH3.trans e4) _ _ hd)
          rw [hv] at z
          exact z, q4 H4 (Ex.refl H4)⟩) (eH3 _ _ hx) T.cls_Thing T.na_Thing_kind rfl) ea_nil)) (by simp))))) (fun hb H4 e4 => ?_) fun hb H4 e4 => ?_
        · have nk : ¬ (cd = "thing" ∨ cd = t.kind) := by simpa using hb
          have hs : step1 ths (wd, cd) = eNoThing wd := by
            show (if cd ∈ free_ then none else _) = _
            rw [if_neg nf, hf]
            show (if cd = "thing" ∨ cd = t.kind then none else _) = _
            rw [if_neg nk]
          exact ⟨_, rfl, .str wd, rfl, fun d2 hd2 => (bad H4 (e3.trans e4) hs).go (Ex.refl H4) hd2⟩
        · have nk : cd = "thing" ∨ cd = t.kind := by
            by_cases c1 : cd = "thing"
            · exact Or.inl c1
            · exact Or.inr (by
                simp [c1] at hb
                exact hb)
          refine next H4 (e3.trans e4) ?_
          show (if cd ∈ free_ then none else _) = _
          rw [if_neg nf, hf]
          show (if cd = "thing" ∨ cd = t.kind then none else _) = _
          rw [if_pos nk]
    · obtain ⟨⟨y3, y4, rfl⟩, hall⟩ := pv
      have hlz : (((ws.drop 1).map V.str).zip (cs.map V.str)).length = cs.length := by
        rw [List.length_zip, List.length_map, List.length_map, List.length_drop]
        omega
      have hfirst : ((ws.drop 1).zip cs).findSome? (step1 ths) = none := findSome_none _ fun j p hj => hall j p (by
        rw [hlz]
        have := (List.getElem?_eq_some_iff.mp hj).1
        rw [List.length_zip] at this
        omega) hj
      have hkr : knownR ths ws cs = ((ws.drop 1).zip cs).findSome? (step2 ths ((ws.drop 1).headD "")) := by
        unfold knownR
        rw [hfirst]
      rw [hkr] at q
      have ha' := ex_t e ha
      refine s_forPP (ep_zipTT (hsl (σ := [some (.ref d), some (.ref a), some (.ref c), y3, y4]) rfl e) (ev_var (i := 2) rfl) (ex_t e hc)) (fun i σ' => fun H' => (∃ y z, σ' = [some (.ref d), some (.ref a), some (.ref c), y, z]) ∧ ∀ j p, j < i → ((ws.drop 1).zip cs)[j]? = some p → step2 ths ((ws.drop 1).headD "") p = none) (fun H1 e1 => ⟨⟨_, _, rfl⟩, fun j p hj => absurd hj (Nat.not_lt_zero j)⟩) (fun H1 e1 i x y T0 σ' H'' hx e2 pv hT => ?_) fun σ' H'' e2 pv => ?_
      · obtain ⟨⟨z3, z4, rfl⟩, hprev⟩ := pv
        rw [zipV, List.getElem?_map] at hx
        obtain ⟨p, hp, hpe⟩ := Option.map_eq_some_iff.mp hx
        obtain ⟨wd, cd⟩ := p
        simp only [Prod.mk.injEq] at hpe
        obtain ⟨rfl, rfl⟩ := hpe
        refine g_pair (st_of upd_same) ?_
        have eT : Ex H (upd H'' T0 (.tup [.str wd, .str cd])) := ((e.trans e1).trans e2).trans (Ex.new hT)
        have eT1 : Ex H1 (upd H'' T0 (.tup [.str wd, .str cd])) := e2.trans (Ex.new hT)
        have next : ∀ H3, Ex (upd H'' T0 (.tup [.str wd, .str cd])) H3 → step2 ths ((ws.drop 1).headD "") (wd, cd) = none → Ex H1 H3 ∧ (∃ y z, ([some (.ref d), some (.ref a), some (.ref c), some (.str wd), some (.str cd)] : L2.St) = [some (.ref d), some (.ref a), some (.ref c), y, z]) ∧ ∀ j p, j < i + 1 → ((ws.drop 1).zip cs)[j]? = some p → step2 ths ((ws.drop 1).headD "") p = none := fun H3 e3 hs => by
          refine ⟨eT1.trans e3, ⟨_, _, rfl⟩, fun j p hj hjp => ?_⟩
          by_cases hji : j < i
          · exact hprev j p hji hjp
          · obtain rfl : j = i := by omega
            rw [hp] at hjp
            rw [← Option.some.inj hjp]
            exact hs
        by_cases hcd : cd = "key"
        · subst hcd
          have hmem : ("key" : Str) ∈ cs := (List.of_mem_zip (List.mem_of_getElem? hp)).2
          obtain ⟨c0, cr, rfl, hc0⟩ := hko hmem
          obtain ⟨w0, w1, wr, rfl⟩ : ∃ w0 w1 wr, ws = w0 :: w1 :: wr := by
            match ws, hl with
            | w0 :: w1 :: wr, _ => exact ⟨w0, w1, wr, rfl⟩
            | [_], h => simp at h
            | [], h => simp at h
          have h00 : step1 ths (w1, c0) = none := by
            refine hall 0 (w1, c0) ?_ rfl
            rw [hlz]
            simp
          have hf : ∃ t, findT ths w1 = some t := by
            have h00' : (if c0 ∈ free_ then none else match findT ths w1 with
              | none => eNoThing w1
              | some t => if c0 = "thing" ∨ c0 = t.kind then none else eNoThing w1) = none := h00
            rw [if_neg hc0] at h00'
            cases hq : findT ths w1 with
            | none =>
              rw [hq] at h00'
              cases h00'
            | some t => exact ⟨t, rfl⟩
          obtain ⟨t, hf⟩ := hf
          have hkz := hk w1
          rw [hf] at hkz
          obtain ⟨v, hv, x, dx, b, rfl, hx, hbp⟩ := hkz
          have hbp2 := ex_t eT hbp
          have haT := ex_t eT ha
          refine s_when (et_and (et_test (ev_eqS (ev_var (i := 4) rfl) ev_c)) fun _ => et_test (ev_is (ev_inS (K := K) (neg := true) (ev_var (i := 3) rfl) (es_T (a := b) (ev_fld (a := x) (fun H4 e4 Q4 q4 => by
            refine ⟨_, rfl, ?_⟩
            refine ev_ixT (a := a) (ev_var (i := 1) rfl) haT ev_c (atI_nat (j := 1) rfl) H4 e4 _ fun H5 e5 => ⟨d, _, rfl, ?_, q4 H5 e5⟩
            have z := DGet.k (k := Sum.inr w1) (((eT.trans e4).trans e5) _ _ hd)
            rw [hv] at z
            exact z) (eT _ _ hx) T.cls_Thing T.na_Thing_parts rfl) hbp2) rfl (flat_strs _)) (by rw [inV_str] <;> rfl : _ = V.bl (!decide (wd ∈ t.parts))))) (fun hb H4 e4 => ?_) fun hb H4 e4 => ?_
          · have nk : ¬ wd ∈ t.parts := by simpa using hb
            have hs : step2 ths (((w0 :: w1 :: wr).drop 1).headD "") (wd, "key") = eNoKey wd := by
              show (if ("key" : Str) = "key" then (match findT ths w1 with
                | none => none
                | some t => if wd ∈ t.parts then none else eNoKey wd) else none) = _
              rw [if_pos rfl, hf]
              show (if wd ∈ t.parts then none else _) = _
              rw [if_neg nk]
            rw [findSome_take _ hp hprev hs] at q
            exact ⟨_, rfl, .str wd, rfl, fun d2 hd2 => Er.go (Er.ex (eT.trans e4) q) (Ex.refl H4) hd2⟩
          · have nk : wd ∈ t.parts := by simpa using hb
            refine next H4 e4 ?_
            show (if ("key" : Str) = "key" then (match findT ths w1 with
              | none => none
              | some t => if wd ∈ t.parts then none else eNoKey wd) else none) = _
            rw [if_pos rfl, hf]
            show (if wd ∈ t.parts then none else _) = _
            rw [if_pos nk]
        · refine s_when (et_and (b := true) (et_test (ev_eqS (ev_var (i := 4) rfl) ev_c)) fun hb => absurd (of_decide_eq_true hb) hcd) (fun hb => absurd (of_decide_eq_true (by simpa using hb)) hcd) fun hb H4 e4 => next H4 e4 ?_
          show (if cd = "key" then _ else none) = none
          rw [if_neg hcd]
      · have h2 : ((ws.drop 1).zip cs).findSome? (step2 ths ((ws.drop 1).headD "")) = none := findSome_none _ fun j p hj => pv.2 j p (by
          rw [hlz]
          have := (List.getElem?_eq_some_iff.mp hj).1
          rw [List.length_zip] at this
          omega) hj
        rw [h2] at q
        exact q H'' (e.trans e2)
end
end Q7
/-! need_row, opened_behind -/
namespace Q7
open PySem PySem.Spec PyProof.Rows L2 Evl
/-! ### plain -/
def keyB (cs : List Str) : Bool := !decide (("key" : Str) ∈ cs) || (match cs with
  | c :: _ => !decide (c ∈ free_)
  | [] => false)
theorem keyB_ok {cs : List Str} (h : keyB cs = true) : KeyOk cs := by
  intro hm
  unfold keyB at h
  rw [decide_eq_true hm] at h
  cases cs with
  | nil => cases h
  | cons c r =>
    have h' : (!decide (c ∈ free_)) = true := h
    exact ⟨c, r, rfl, by simpa using h'⟩
theorem deeds_key : ∀ p ∈ deeds_, keyB p.2 = true := by decide +kernel
theorem plain_key : ∀ p ∈ plain_, keyB p.2 = true := by decide +kernel
theorem lookC_key {w : Str} {cs : List Str} (h : lookC w = some cs) : KeyOk cs := by
  unfold lookC at h
  by_cases h1 : w ∈ looks_
  · rw [if_pos (decide_eq_true h1)] at h
    by_cases h2 : w = "mark"
    · rw [if_pos (decide_eq_true h2)] at h
      obtain rfl : (["slot"] : List Str) = cs := Option.some.inj h
      exact keyB_ok (by decide)
    · rw [if_neg (by simpa using h2)] at h
      exact keyB_ok (deeds_key _ (lookup_mem h))
  · rw [if_neg (by simpa using h1)] at h
    cases h
theorem rowC_key {w : Str} {cs : List Str} (h : rowC w = some cs) : KeyOk cs := by
  unfold rowC at h
  cases hp : plain_.lookup w with
  | some c =>
    rw [hp] at h
    obtain rfl : c = cs := Option.some.inj h
    exact keyB_ok (plain_key _ (lookup_mem hp))
  | none =>
    rw [hp] at h
    by_cases h2 : w ∈ unsaid_
    · simp only [decide_eq_true h2, if_true] at h
      cases h
    · simp only [decide_eq_false h2, Bool.false_eq_true, if_false] at h
      exact keyB_ok (deeds_key _ (lookup_mem h))
theorem brC_key {o w : Str} {cs : List Str} (h : brC o w = some cs) : KeyOk cs := by
  unfold brC at h
  by_cases h1 : w = "ask"
  · rw [if_pos (decide_eq_true h1)] at h
    obtain rfl : (["name"] : List Str) = cs := Option.some.inj h
    exact keyB_ok (by decide)
  · rw [if_neg (by simpa using h1)] at h
    split at h
    · exact keyB_ok (deeds_key _ (lookup_mem h))
    · cases h
theorem fitsB_len {ws : List Str} {o : Option (List Str)} (h : fitsB ws o = true) : ∃ cs, o = some cs ∧ ws.length = 1 + cs.length := by
  obtain ⟨cs, rfl⟩ := fitsB_some h
  have h' : (decide (ws.length = 1 + cs.length) && (ws.drop 1).all okN) = true := h
  exact ⟨cs, rfl, of_decide_eq_true (Bool.and_eq_true_iff.mp h').1⟩
def NmOk (q : List Str × List Str) : Prop := q.1.length = 1 + q.2.length ∧ KeyOk q.2 ∧ q.1.length ≤ 1000
theorem lookB_nm {l : List Str} (h : lookB l = true) (hs : Sh l) : NmOk (l, (lookC (headOf l)).getD []) := by
  unfold lookB at h
  obtain ⟨cs, hcs, hl⟩ := fitsB_len h
  rw [hcs]
  exact ⟨hl, lookC_key hcs, hs.1⟩
/-- a good row of plain texts, told -/
theorem tupB_inv {w0 : Str} {r : List Str} (h : tupB (w0 :: r) = true) : ¬ w0 = "" ∧ ¬ (w0 = "probe" ∨ w0 = "assert") ∧ ((w0 = "if" ∨ w0 = "while") ∧ fitsB r (brC w0 (headOf r)) = true ∨ ¬ (w0 = "if" ∨ w0 = "while") ∧ fitsB (w0 :: r) (rowC w0) = true) := by
  have h' : (if w0 = "" then false else if w0 = "probe" ∨ w0 = "assert" then false else if w0 = "if" ∨ w0 = "while" then fitsB r (brC w0 (headOf r)) else fitsB (w0 :: r) (rowC w0)) = true := h
  have h0 : ¬ w0 = "" := fun z => by
    rw [if_pos z] at h'
    cases h'
  rw [if_neg h0] at h'
  have h1 : ¬ (w0 = "probe" ∨ w0 = "assert") := fun z => by
    rw [if_pos z] at h'
    cases h'
  rw [if_neg h1] at h'
  refine ⟨h0, h1, ?_⟩
  by_cases h2 : w0 = "if" ∨ w0 = "while"
  · rw [if_pos h2] at h'
    exact Or.inl ⟨h2, h'⟩
  · rw [if_neg h2] at h'
    exact Or.inr ⟨h2, h'⟩
theorem namedR_ok {r : R} (h : rowB r = true) (hok : ROk r) : ∀ q ∈ namedR r, NmOk q := by
  intro q hq
  cases r with
  | non => cases h
  | tru => cases h
  | lst => cases h
  | str s => cases h
  | pro n g as bs =>
    obtain ⟨l, hl, rfl⟩ := List.mem_map.mp hq
    have h1 : watchB (.pro n g as bs) = true := h
    unfold watchB at h1
    simp only [Bool.and_eq_true, List.all_eq_true] at h1
    rcases List.mem_append.mp hl with hl | hl
    · exact lookB_nm (h1.2.2.1 l hl) (hok.2.2.2.2.1 l hl)
    · exact lookB_nm (h1.2.2.2.1 l hl) (hok.2.2.2.2.2 l hl)
  | ass n g as t =>
    obtain ⟨l, hl, rfl⟩ := List.mem_map.mp hq
    have h1 : watchB (.ass n g as t) = true := h
    unfold watchB at h1
    simp only [Bool.and_eq_true, List.all_eq_true] at h1
    rcases List.mem_append.mp hl with hl | hl
    · exact lookB_nm (h1.2.2.1 l hl) (hok.2.2.2.1 l hl)
    · rw [List.mem_singleton.mp hl]
      exact lookB_nm h1.2.2.2.1 hok.2.2.2.2
  | tup ws =>
    cases ws with
    | nil => cases h
    | cons w0 r =>
      obtain ⟨_, _, h2⟩ := tupB_inv h
      have hq' : q ∈ (if w0 = "if" ∨ w0 = "while" then [(r, (brC w0 (headOf r)).getD [])] else [(w0 :: r, (rowC w0).getD [])]) := hq
      rcases h2 with ⟨h2, h3⟩ | ⟨h2, h3⟩
      · rw [if_pos h2] at hq'
        rw [List.mem_singleton.mp hq']
        obtain ⟨cs, hcs, hl⟩ := fitsB_len h3
        rw [hcs]
        exact ⟨hl, brC_key hcs, hok.2.tail.1⟩
      · rw [if_neg h2] at hq'
        rw [List.mem_singleton.mp hq']
        obtain ⟨cs, hcs, hl⟩ := fitsB_len h3
        rw [hcs]
        exact ⟨hl, rowC_key hcs, hok.2.1⟩
def tailR (later met : List Str) : R → Out
  | .pro n _ _ _ => if n ∈ met then eTwice n else none
  | .ass n _ _ _ => if n ∈ met then eTwice n else none
  | .tup (w :: x :: _) => if w = "call" then (if x ∈ later then none else eNoPart x) else none
  | _ => none
def rowR (ths : List TH) (n : Int) (later met : List Str) (r : R) : Out := if rowB r = true then (match (namedR r).findSome? (fun q => knownR ths q.1 q.2) with
  | some e => some e
  | none => tailR later met r) else eBadRow n
theorem call_len {r : List Str} (h : tupB ("call" :: r) = true) : ∃ x, r = [x] := by
  obtain ⟨_, _, h2⟩ := tupB_inv h
  rcases h2 with ⟨h2, _⟩ | ⟨_, h3⟩
  · exact absurd h2 (by decide)
  · rw [fitsRow_eq] at h3
    have h4 := of_decide_eq_true (Bool.and_eq_true_iff.mp h3).1
    rw [show sizeL "call" = 2 by decide +kernel] at h4
    match r, h4 with
    | [x], _ => exact ⟨x, rfl⟩
    | [], h => simp at h
    | _ :: _ :: _, h => simp at h; omega
theorem paired_at {α β : Type} {F : α → β → Prop} : ∀ {xs : List α} {ys : List β} {i : Nat} {x : α}, Paired F xs ys → xs[i]? = some x → ∃ y, ys[i]? = some y ∧ F x y
  | [], _, i, x, _, h => by simp at h
  | _ :: _, _, 0, x, hP, h => by
    cases hP with
    | cons a _ =>
      obtain rfl := Option.some.inj h
      exact ⟨_, rfl, a⟩
  | _ :: _, _, i + 1, x, hP, h => by
    cases hP with
    | cons _ b => exact paired_at (i := i) b h
section
variable {P : Program} {w : World} {K : PySem.W.Frag} {mg : Str → Option Value} {base : Heap}
def spNeedRow (K : PySem.W.Frag) : Sp := fun vs H Q E => ∃ (d : Addr) (kvs : List (Key × V)) (ths : List TH) (n : Int) (v : V) (r : R) (l m : Addr) (later met : List Str), vs = [.ref d, .int n, v, .ref l, .ref m] ∧ H d = some (.dK kvs) ∧ KnV K H kvs ths ∧ RowV H v r ∧ ROk r ∧ SqL K H l (later.map V.str) ∧ SqL K H m (met.map V.str) ∧
  RetO K (rowR ths n later met r) H Q E
theorem sc_need_row : FnScope ["known", "number", "row", "later", "met", "words", "codes"] ["known", "number", "row", "later", "met"] (defScope s_need_row) := ⟨rfl, rfl, rfl, by decide +kernel, rfl, by decide +kernel, by decide +kernel⟩
theorem D_need_row (T : Txt w K mg) (HP : PF P) (D_is_row : Dn P w K mg base CX0 7 "is_row" (spIsRow K)) (D_named : Dn P w K mg base CX0 2 "named" (spNamed K)) (D_is_probe : Dn P w K mg base CX0 1 "is_probe" (spIsProbe K)) (D_need_known : Dn P w K mg base (L2.CX P w) 3 "need_known" (spKnown K)) :
    Dn P w K mg base (L2.CX P w) 8 "need_row" (spNeedRow K) := by
  refine mkD T.fds_need_row T.g_need_row T.kps_need_row sc_need_row (fun _ _ _ _ _ _ us hl => match us, hl with | [_, _, _, _, _], _ => rfl) (fun vs H Q E h => ?_) (fun cdv A outer s H vs Q E hr h => ?_)
  · obtain ⟨d, kvs, ths, n, v, r, l, m, later, met, rfl, _⟩ := h
    rfl
  · obtain ⟨d, kvs, ths, n, v, r, l, m, later, met, rfl, hd, hk, hv, hok, hla, hme, q⟩ := h
    refine ⟨_, (pss_cons (ps_if (pt_not (pt_val (pe_d D_is_row (hr.mono (by decide)) (by rfl) pass0 (pa_cons (pv 2) pa_nil)))) (pss_one (ps_raise rfl (takes_of rfl rfl rfl rfl) (pmk_q T.BadRow HP hr (pa_cons (pv 1) pa_nil)))) pss_nil)
    (pss_cons (ps_for (passes_of rfl) rfl (pi_list (pe_d D_named (hr.mono (by decide)) (by rfl) pass0 (pa_cons (pv 2) pa_nil))) (pg_tup rfl (pgs_cons (pg_name (i := 5) sc_need_row.nd rfl (Or.inl rfl)) (pgs_cons (pg_name (i := 6) sc_need_row.nd rfl (Or.inl rfl)) pgs_nil)))
    (pss_one (ps_expr (pe_dx D_need_known (hr.mono (by decide)) (by rfl) (takes_of rfl rfl rfl rfl) (fun _ _ _ _ h => h) (pa_cons (pv 0) (pa_cons (pv 5) (pa_cons (pv 6) pa_nil)))))))
    (pss_cons (ps_if (PW.pt (pw_and (pt_val (pe_d D_is_probe (hr.mono (by decide)) (by rfl) pass0 (pa_cons (pv 2) pa_nil))) (pw_and1 (pt_cmpR op_in_seq (pe_ix ix_tup (pv 2) pe_int (fun _ _ => rfl)) (pv 4) (by rfl))))) (pss_one (ps_raise rfl (takes_of rfl rfl rfl rfl) (pmk_q T.Twice HP hr (pa_cons (pe_ix ix_tup (pv 2) pe_int (fun _ _ => rfl)) pa_nil)))) pss_nil)
    (pss_one (ps_if (PW.pt (pw_and (pt_cmpR op_eq (pe_ix ix_tup (pv 2) pe_int (fun _ _ => rfl)) pe_str (nomark _)) (pw_and1 (pt_cmpR op_notIn_seq (pe_ix ix_tup (pv 2) pe_int (fun _ _ => rfl)) (pv 3) (by rfl))))) (pss_one (ps_raise rfl (takes_of rfl rfl rfl rfl) (pmk_q T.NoPart HP hr (pa_cons (pe_ix ix_tup (pv 2) pe_int (fun _ _ => rfl)) pa_nil)))) pss_nil))))), ?_⟩
    refine q_when (et_not (et_B (ev_d (z := .bl (rowB r)) (ea_cons (ev_var (i := 2) rfl) ea_nil) fun H1 e1 Q1 q1 => ⟨v, r, rfl, hv.kp (Kp.ex e1), hok, q1⟩))) (fun hb H1 e1 => ?_) fun hb H1 e1 => ?_
    · have hB : ¬ rowB r = true := by simpa using hb
      have z : rowR ths n later met r = eBadRow n := by
        unfold rowR
        rw [if_neg hB]
      rw [z] at q
      exact ⟨_, rfl, .int n, rfl, fun d2 hd2 => Er.go (Er.ex e1 q) (Ex.refl H1) hd2⟩
    · have hB : rowB r = true := by simpa using hb
      have hrr : rowR ths n later met r = (match (namedR r).findSome? (fun q => knownR ths q.1 q.2) with
        | some e => some e
        | none => tailR later met r) := by
        unfold rowR
        rw [if_pos hB]
      refine ⟨_, rfl, v, r, rfl, hv.kp (Kp.ex e1), hok, hB, fun p H2 xs hp e2 hl hP => ⟨p, rfl, ⟨xs, sq_of hl⟩, ?_⟩⟩
      have e12 := e1.trans e2
      refine for_list (K := K) (a := p) (xs := xs) (fun i σ' H' => (∃ y z, σ' = [some (.ref d), some (.int n), some v, some (.ref l), some (.ref m), y, z]) ∧ Ex H2 H' ∧ ∀ j q, j < i → (namedR r)[j]? = some q → knownR ths q.1 q.2 = none) ⟨⟨none, none, rfl⟩, Ex.refl H2, fun j q hj => absurd hj (Nat.not_lt_zero j)⟩ (fun i σ' H' _ pv => sq_of (pv.2.1 _ _ hl)) (fun i x σ' H' hx pv => ?_) fun σ' H' pv => ?_
      · obtain ⟨⟨y, z, rfl⟩, e3, hprev⟩ := pv
        obtain ⟨qq, hqq, hnm⟩ : ∃ qq, (namedR r)[i]? = some qq ∧ NmV K H2 x qq := by
          exact paired_at hP hx
        obtain ⟨T0, a, c, rfl, hT0, ha, hc⟩ := hnm
        refine g_pair (st_of (e3 _ _ hT0)) ?_
        have hno := namedR_ok hB hok qq (List.mem_of_getElem? hqq)
        have e13 := e12.trans e3
        refine ⟨_, rfl, _, rfl, _, rfl, d, kvs, ths, a, c, qq.1, qq.2, rfl, e13 _ _ hd, hk.kp (Kp.ex e13), ex_t e3 ha, ex_t e3 hc, hno.1, hno.2.1, hno.2.2, ?_⟩
        cases hkr : knownR ths qq.1 qq.2 with
        | none =>
          intro H4 e4
          refine ⟨⟨_, _, rfl⟩, e3.trans e4, fun j q' hj hjq => ?_⟩
          by_cases hji : j < i
          · exact hprev j q' hji hjq
          · obtain rfl : j = i := by omega
            rw [hqq] at hjq
            rw [← Option.some.inj hjq]
            exact hkr
        | some e =>
          have z : rowR ths n later met r = some e := by
            rw [hrr, findSome_take (fun q => knownR ths q.1 q.2) hqq hprev hkr]
          rw [z] at q
          exact Er.ex e13 q
      · obtain ⟨⟨y, z, rfl⟩, e3, hall⟩ := pv
        have hlen : xs.length = (namedR r).length := Paired.length hP
        have hnone : (namedR r).findSome? (fun q => knownR ths q.1 q.2) = none := findSome_none _ fun j q' hj => hall j q' (by
          rw [hlen]
          exact (List.getElem?_eq_some_iff.mp hj).1) hj
        rw [hrr, hnone] at q
        have q' : RetO K (tailR later met r) H Q E := q
        have e13 := e12.trans e3
        have hme3 := ex_l e13 hme
        have hla3 := ex_l e13 hla
        dsimp only
        cases r with
        | non => cases hB
        | tru => cases hB
        | lst => cases hB
        | str s => cases hB
        | pro nm g as bs =>
          obtain ⟨a, b, c, rfl, ha, _, _⟩ := hv
          have hT : SqT K H' a [.str "probe", .str nm, .str g, b, c] := st_of (e13 _ _ ha)
          refine q_when (et_and (et_B (ev_d (z := .bl true) (ea_cons (ev_var (i := 2) rfl) ea_nil) fun H4 e4 Q4 q4 => ⟨a, "probe", _, rfl, ex_t e4 hT, q4⟩)) fun _ => et_test (ev_is (ev_op (r := rIn K false) (ev_ixT (ev_var (i := 2) rfl) hT ev_c (atI_nat (j := 1) rfl)) (ev_var (i := 4) rfl) (rv_isL hme3 rfl (flat_strs _))) (by rw [inV_str] : _ = V.bl (decide (nm ∈ met))))) (fun hb H4 e4 => ?_) fun hb H4 e4 => ?_
          · have hm : nm ∈ met := by simpa using hb
            have z : tailR later met (.pro nm g as bs) = eTwice nm := by
              show (if nm ∈ met then eTwice nm else none) = _
              rw [if_pos hm]
            rw [z] at q'
            refine ⟨_, rfl, a, _, 1, .str nm, rfl, rfl, ex_t e4 hT, atI_nat (j := 1) rfl, .str nm, rfl, fun d2 hd2 => Er.go (Er.ex (e13.trans e4) q') (Ex.refl H4) hd2⟩
          · have hm : ¬ nm ∈ met := by simpa using hb
            have z : tailR later met (.pro nm g as bs) = none := by
              show (if nm ∈ met then eTwice nm else none) = _
              rw [if_neg hm]
            rw [z] at q'
            have hT4 := ex_t e4 hT
            refine s_when (et_and (b := true) (et_test (ev_eqS (ev_ixT (ev_var (i := 2) rfl) hT4 ev_c (atI_nat (j := 0) rfl)) ev_c)) fun hb => absurd hb (by decide)) (fun hb => absurd hb (by decide)) fun hb H5 e5 => q' H5 ((e13.trans e4).trans e5)
        | ass nm g as t =>
          obtain ⟨a, b, c, rfl, ha, _, _⟩ := hv
          have hT : SqT K H' a [.str "assert", .str nm, .str g, b, c] := st_of (e13 _ _ ha)
          refine q_when (et_and (et_B (ev_d (z := .bl true) (ea_cons (ev_var (i := 2) rfl) ea_nil) fun H4 e4 Q4 q4 => ⟨a, "assert", _, rfl, ex_t e4 hT, q4⟩)) fun _ => et_test (ev_is (ev_op (r := rIn K false) (ev_ixT (ev_var (i := 2) rfl) hT ev_c (atI_nat (j := 1) rfl)) (ev_var (i := 4) rfl) (rv_isL hme3 rfl (flat_strs _))) (by rw [inV_str] : _ = V.bl (decide (nm ∈ met))))) (fun hb H4 e4 => ?_) fun hb H4 e4 => ?_
          · have hm : nm ∈ met := by simpa using hb
            have z : tailR later met (.ass nm g as t) = eTwice nm := by
              show (if nm ∈ met then eTwice nm else none) = _
              rw [if_pos hm]
            rw [z] at q'
            refine ⟨_, rfl, a, _, 1, .str nm, rfl, rfl, ex_t e4 hT, atI_nat (j := 1) rfl, .str nm, rfl, fun d2 hd2 => Er.go (Er.ex (e13.trans e4) q') (Ex.refl H4) hd2⟩
          · have hm : ¬ nm ∈ met := by simpa using hb
            have z : tailR later met (.ass nm g as t) = none := by
              show (if nm ∈ met then eTwice nm else none) = _
              rw [if_neg hm]
            rw [z] at q'
            have hT4 := ex_t e4 hT
            refine s_when (et_and (b := true) (et_test (ev_eqS (ev_ixT (ev_var (i := 2) rfl) hT4 ev_c (atI_nat (j := 0) rfl)) ev_c)) fun hb => absurd hb (by decide)) (fun hb => absurd hb (by decide)) fun hb H5 e5 => q' H5 ((e13.trans e4).trans e5)
        | tup ws =>
          obtain ⟨a, rfl, ha⟩ := hv
          cases ws with
          | nil => cases hB
          | cons w0 r0 =>
            obtain ⟨_, hnp, _⟩ := tupB_inv hB
            have hnp' : decide (w0 ∈ probes2) = false := by simpa [probes2] using hnp
            have hT : SqT K H' a (V.str w0 :: r0.map V.str) := st_of (e13 _ _ ha)
            refine q_when (et_and (b := true) (et_B (ev_d (z := .bl (decide (w0 ∈ probes2))) (ea_cons (ev_var (i := 2) rfl) ea_nil) fun H4 e4 Q4 q4 => ⟨a, w0, _, rfl, ex_t e4 hT, q4⟩)) fun hb => by rw [hnp'] at hb; cases hb) (fun hb => by rw [hnp'] at hb; cases hb) fun hb H4 e4 => ?_
            have hT4 := ex_t e4 hT
            by_cases hc : w0 = "call"
            · subst hc
              obtain ⟨x, rfl⟩ := call_len hB
              refine s_when (et_and (et_test (ev_eqS (ev_ixT (ev_var (i := 2) rfl) hT4 ev_c (atI_nat (j := 0) rfl)) ev_c)) fun _ => et_test (ev_is (ev_op (r := rIn K true) (ev_ixT (ev_var (i := 2) rfl) hT4 ev_c (atI_nat (j := 1) rfl)) (ev_var (i := 3) rfl) (rv_niL (ex_l e4 hla3) rfl (flat_strs _))) (by rw [inV_str] : _ = V.bl (!decide (x ∈ later))))) (fun hb H5 e5 => ?_) fun hb H5 e5 => ?_
              · have hm : ¬ x ∈ later := by simpa using hb
                have z : tailR later met (.tup ["call", x]) = eNoPart x := by
                  show (if ("call" : Str) = "call" then (if x ∈ later then none else eNoPart x) else none) = _
                  rw [if_pos rfl, if_neg hm]
                rw [z] at q'
                refine ⟨_, rfl, a, _, 1, .str x, rfl, rfl, ex_t e5 hT4, atI_nat (j := 1) rfl, .str x, rfl, fun d2 hd2 => Er.go (Er.ex ((e13.trans e4).trans e5) q') (Ex.refl H5) hd2⟩
              · have hm : x ∈ later := by simpa using hb
                have z : tailR later met (.tup ["call", x]) = none := by
                  show (if ("call" : Str) = "call" then (if x ∈ later then none else eNoPart x) else none) = _
                  rw [if_pos rfl, if_pos hm]
                rw [z] at q'
                exact q' H5 ((e13.trans e4).trans e5)
            · have z : tailR later met (.tup (w0 :: r0)) = none := by
                cases r0 with
                | nil => rfl
                | cons x r1 =>
                  show (if w0 = "call" then _ else none) = _
                  rw [if_neg hc]
              rw [z] at q'
              refine s_when (et_and (b := true) (et_test (ev_eqS (ev_ixT (ev_var (i := 2) rfl) hT4 ev_c (atI_nat (j := 0) rfl)) ev_c)) fun hb => absurd (of_decide_eq_true hb) hc) (fun hb => absurd (of_decide_eq_true (by simpa using hb)) hc) fun hb H5 e5 => q' H5 ((e13.trans e4).trans e5)
end
end Q7
/-! enumerate of a tuple; zip of a tuple and a list; a dict comprehension set on one line -/
namespace Q7
open PySem PySem.Spec PyProof.Rows L2 Evl
theorem meets_enumerate_new1 {v : Value} {o : Obj} {H : Heap → Prop} (B : Begins v o H) :
    Meets (Builtin.«enumerate.__new__» ⟨[.type "enumerate", v], []⟩) (fun _ R s => H s.heap ∧
      R (.ok (.ret (.ref (s.heap.push o).objs.size))) { s with heap := (s.heap.push o).push { cls := .type "enumerate", data := .fields #[.none, .bool false, .ref s.heap.objs.size, rawInt 0, .none, .none] } }) :=
  .of_wp fun prog w A R s h => by
    obtain ⟨hp, g, d, tk, os⟩ := s; obtain ⟨h1, h⟩ := h
    have hsub := sub_enumerate
    have q1 : ∀ {A' : Around} {E : Value → Shared → Prop} {Q : Value → Shared → Prop}, Q (.ref hp.objs.size) ⟨hp.push o, g, d, tk, os⟩ → wpAny (model prog w) A' (pyIter v) Q E ⟨hp, g, d, tk, os⟩ :=
      fun q => B.iter prog w _ _ ⟨hp, g, d, tk, os⟩ _ h1 q
    wp_walk using q1
    refine wpAny_stack_any fun st => wpAny_pure ?_
    split
    · rename_i c _ _ _ _ _
      cases (c == Value.type "enumerate")
      · wp_walk using q1
        exact ⟨_, rfl, h⟩
      · wp_walk using q1
        exact ⟨_, rfl, h⟩
    · wp_walk using q1
      exact ⟨_, rfl, h⟩
section
variable {prog : Program} {w : World} {A : Around} {E : Value → Shared → Prop} {s : Shared}
theorem enum_begins1 {v : Value} {o : Obj} {H : Heap → Prop} {Q : Value → Shared → Prop} (B : Begins v o H) (h1 : H s.heap)
    (h : ∀ h', IsEnum h' (s.heap.objs.size + 1) s.heap.objs.size 0 .none → h'.get? s.heap.objs.size = some o → h'.objs.size = s.heap.objs.size + 2 →
      (∀ b o, s.heap.get? b = some o → h'.get? b = some o) → Q (.ref (s.heap.objs.size + 1)) { s with heap := h' }) :
    wpAny (model prog w) A (call (.type "enumerate") [v]) Q E s := by
  refine callType_new F.called_enumerate (by decide) (F.typeCall_enumerate_1 _) (F.newCall_enumerate_1 _) (fun obj => F.args_object_init_2 obj _) F.entry_enumerate_new
    (meets_enumerate_new1 B) ⟨h1, ?_⟩
  have hz : (s.heap.push o).objs.size = s.heap.objs.size + 1 := Heap.size_push ..
  show _ ∧ _
  rw [hz]
  have he : IsEnum ((s.heap.push o).push { cls := .type "enumerate", data := .fields #[.none, .bool false, .ref s.heap.objs.size, rawInt 0, .none, .none] }) (s.heap.objs.size + 1) s.heap.objs.size 0 .none := by
    have := Heap.get?_push_size (s.heap.push o) (o := { cls := .type "enumerate", data := .fields #[.none, .bool false, .ref s.heap.objs.size, rawInt 0, .none, .none] }) rfl
    rw [hz] at this; exact this
  refine ⟨⟨_, he, rfl⟩, h _ he (Heap.get?_push_of_some _ (Heap.get?_push_size _ B.free)) (by rw [Heap.size_push, hz]) fun b o x => Heap.get?_push_of_some _ (Heap.get?_push_of_some _ x)⟩
end
/-- the tuple at a as it stands at each turn, each item in a new pair -/
def IteT (K : PySem.W.Frag) (a : Addr) : It :=
  ⟨fun i H => ∃ (xs : List V) (x : V), SqT K H a xs ∧ xs[i]? = some x, fun i H v H' => ∃ T x, v = .ref T ∧ H T = none ∧ H' = upd H T (.tup [.int (i : Nat), x]) ∧ ∀ xs, SqT K H a xs → xs[i]? = some x, fun i H => ∃ xs : List V, SqT K H a xs ∧ xs.length ≤ i⟩
theorem turn_enumT {P : Program} {w : World} {K : PySem.W.Frag} {elts : List Expr} {kk : Nat} {tpos : Pos} (a e it : Addr) (ha : a ≠ it) (hea : e ≠ a) :
    Turn P w K (.Tuple elts kk tpos) (IteT K a) [e, it] e (fun i h => (∃ old, IsEnum h e it ((i : Nat) : Int) old) ∧ h.IsTupleIter it a i ∧ e ≠ it) where
  mem := by simp
  obj := fun i h st b hb => by
    obtain ⟨⟨old, he⟩, ⟨o, ho, hc, hd⟩, _⟩ := st
    have e' : b = e ∨ b = it := by simpa using hb
    rcases e' with z | z
    · rw [z]; exact ⟨_, he, fun v q => nomatch q⟩
    · rw [z]; exact ⟨o, ho, fun v q => by rw [hd] at q; cases q⟩
  keep := fun i h h' st k => let ⟨⟨old, he⟩, hi, hne⟩ := st; ⟨⟨old, k e (by simp) _ he⟩, hi.at fun o q => k it (by simp) o q, hne⟩
  item := by
    intro X hP hw hK hc i pins s σ H E I hf st hg
    subst hP hw hK
    obtain ⟨⟨old, he⟩, hit, hne⟩ := st
    obtain ⟨xs, x, hq, hx⟩ := hg
    obtain ⟨its, rv, p, hz⟩ := I.tuple hq
    obtain ⟨u, hu, ru⟩ := rv.get hx
    have hel : e < s.heap.objs.size := Heap.lt_size he
    have hil : it < s.heap.objs.size := by obtain ⟨_, q, _⟩ := hit; exact Heap.lt_size q
    have D := Draws.tuple (prog := X.prog) (w := X.w) (A := X.A.in1) (I.ok.hd hc) it a ha its.toArray
    have hlt : i < its.toArray.size := by
      have := (List.getElem?_eq_some_iff.mp hu).1
      simpa using this
    refine wpAny_pyNext_enum_itemD D he ⟨hit, p⟩ hlt hne (by simp [hne, hea]) fun x' h' tk hP' ho hit' hT hsz hk => ?_
    obtain rfl : x' = u := by
      have h2 : its.toArray[i]? = some x' := hP'
      rw [List.getElem?_toArray, hu] at h2
      exact (Option.some.inj h2).symm
    refine ⟨_, rfl, wpAny_letOwnedTupleGo_enum (s := { s with heap := h', toks := tk + 1 }) ho fun h'' he' sb => ?_⟩
    have hT2 : h''.get? s.heap.objs.size = some { cls := .type "tuple", data := .seq #[.int i tk, x'] } := (sb.2 _ (Nat.ne_of_gt hel)).trans hT
    have new : ObjOk X.prog X.w (upd H s.heap.objs.size (.tup [.int (i : Nat), x])) h'' s.heap.objs.size (.tup [.int (i : Nat), x]) :=
      ⟨by show 2 ≤ sizeLine; decide, [.int i tk, x'], .cons ⟨_, rfl⟩ (.cons ru .nil), ⟨_, hT2, rfl, _, rfl⟩⟩
    have I1 : Inv X pins σ (upd H s.heap.objs.size (.tup [.int (i : Nat), x])) { s with heap := h'', toks := tk + 1 } :=
      I.turnedNew (ch := [e, it]) (fun b ob hb q => (sb.2 b (fun z => hb (by simp [z]))).trans (hk b ob (fun z => hb (by simp [z])) (fun z => hb (by simp [z])) q)) hf (Nat.le_refl _) new
    refine ⟨.ref s.heap.objs.size, _, I1, rfl, ⟨_, x, rfl, I.hok.fresh (Nat.le_refl _), rfl, fun ys hy => by rw [I.tuple_inj hy hq]; exact hx⟩, ⟨⟨x', ?_⟩, hit'.1.at fun o q => (sb.2 it (Ne.symm hne)).trans q, hne⟩, fun b hb => ?_⟩
    · have e1 : ((i + 1 : Nat) : Int) = (i : Int) + 1 := by omega
      rw [e1]; exact he'
    · have hb' : b < s.heap.objs.size := by
        have e' : b = e ∨ b = it := by simpa using hb
        rcases e' with z | z
        · rw [z]; exact hel
        · rw [z]; exact hil
      rw [upd_ne (Nat.ne_of_lt hb')]
      exact (hf b hb).1
  done := by
    intro X hP hw hK hc i pins s σ H E I hf st hg
    subst hP hw hK
    obtain ⟨⟨old, he⟩, hit, hne⟩ := st
    obtain ⟨xs, hq, hx⟩ := hg
    obtain ⟨its, rv, p, hz⟩ := I.tuple hq
    obtain ⟨f0, f1, f2, f3, f4, f5⟩ := hf it (by simp)
    have hl := rv.length
    have hT : s.TypeIs (.ref e) "enumerate" := ⟨_, he, rfl⟩
    unfold pyNext
    refine wpAny_bind (wpAny_attempt (wpAny_callSpecial?_slot (name := Str.ofString "__next__") hT F.slot_enumerate_next
      (wpAny_call_entry F.slot_enumerate_next hT F.entry_enumerate_next ?_ (F.args_enumerate_next_1 _))))
    show wpAny _ _ (field (.ref e) 2 >>= _) _ _ _
    refine wpAny_bind (wpAny_field he rfl (x := .ref it) rfl ?_)
    refine wpAny_bind (wpAny_nextOf_tuple_end (I.ok.hd hc) hit p (by simp; omega) fun h' x he' hx' => ?_)
    obtain ⟨o, ho, hc'⟩ := hx'
    refine wpAny_bind (wpAny_isInstance (T := "StopIteration") (b := true) ⟨o, ho, hc'⟩ isSubtype_stop ?_)
    exact wpAny_pure ⟨rfl, I.turned (t' := s.toks) (fun b o hb q => he' b o hb q) f0 f1 f3 f4 f5⟩
  self := fun A i s Q E st h => let ⟨⟨_, he⟩, _⟩ := st; wpAny_pyIter_enum he h
def iEnumT (K : PySem.W.Frag) (ta : TA) : TI := fun σ H R => ta σ H fun vs H1 => ∃ a xs, vs = [.ref a] ∧ SqT K H1 a xs ∧ R (IteT K a) H1
theorem pi_enumT {X : Cx} {e : Expr} {ta : TA} {p pos tpos : Pos} {elts : List Expr} {kk : Nat} (hg : Gl X "enumerate") (hm : X.mg "enumerate" = none) (ha : PA X [e] ta) (hs : starEach [e] X.env = [(false, eval e X.env)] := by rfl) :
    PI X (.Tuple elts kk tpos) (.Call (.Name "enumerate" p) [e] [] pos) (iEnumT X.K ta) := by
  refine ⟨fun pins s σ H R I h => ?_⟩
  refine Call_ (ld_blt I hg hm boot_enumerate (PyProof.Rows.callWith_type1 (thn (ha.run pos pins s σ H _ I h) fun us s1 ⟨vs, H1, I1, r1, q1⟩ => ?_) hs rfl))
  obtain ⟨a, xs, ex, hq, q⟩ := q1
  subst ex
  cases r1 with
  | cons r rr =>
    cases rr
    cases r
    obtain ⟨its, rv, p', hz⟩ := I1.tuple hq
    have hal : a < s1.heap.objs.size := by obtain ⟨_, q', _⟩ := id p'; exact Heap.lt_size q'
    refine enum_begins1 (begins_tuple a its.toArray) p' fun h' he hit hsz hk => wpAny_pyIter_enum he ?_
    have I2 : Inv X pins σ H1 { s1 with heap := h' } := I1.kept (t' := s1.toks) hk
    refine ⟨s1.heap.objs.size + 1, [s1.heap.objs.size + 1, s1.heap.objs.size], _, _, H1, rfl, I2, turn_enumT a (s1.heap.objs.size + 1) s1.heap.objs.size (Nat.ne_of_lt hal) (Nat.ne_of_gt (Nat.lt_succ_of_lt hal)), ⟨⟨.none, he⟩, ⟨_, hit, rfl, rfl⟩, Nat.succ_ne_self _⟩, fun b hb => ?_, q⟩
    have e' : b = s1.heap.objs.size + 1 ∨ b = s1.heap.objs.size := by simpa using hb
    have hle : s1.heap.objs.size ≤ b := by
      rcases e' with z | z
      · rw [z]; exact Nat.le_add_right _ _
      · rw [z]; exact Nat.le_refl _
    exact I1.fpOk hle (I1.hok.fresh hle)
/-! ### zip(tuple, list) -/
def ItzX (K : PySem.W.Frag) (a b : Addr) : It :=
  ⟨fun i H => ∃ (xs ys : List V) (x y : V), SqT K H a xs ∧ SqL K H b ys ∧ xs[i]? = some x ∧ ys[i]? = some y,
    fun i H v H' => ∃ T x y, v = .ref T ∧ H T = none ∧ H' = upd H T (.tup [x, y]) ∧ (∀ xs, SqT K H a xs → xs[i]? = some x) ∧ ∀ ys, SqL K H b ys → ys[i]? = some y,
    fun i H => ∃ xs ys : List V, SqT K H a xs ∧ SqL K H b ys ∧ i ≤ xs.length ∧ i ≤ ys.length ∧ (xs.length = i ∨ ys.length = i)⟩
theorem turn_zipX {P : Program} {w : World} {K : PySem.W.Frag} {elts : List Expr} {kk : Nat} {tpos : Pos} {a b z TI TO i1 i2 : Addr} (S : ZipSep2 z TI TO i1 i2 [i1, a] [i2, b]) (h1a : a ≠ i1) (h2b : b ≠ i2) :
    Turn P w K (.Tuple elts kk tpos) (ItzX K a b) [z, TI, TO, i1, i2] z (fun i h => IsZip h z TI TO .none ∧ IsTupOf2 h TI (.ref i1) (.ref i2) ∧ (∃ x y, IsTupOf2 h TO x y) ∧ h.IsTupleIter i1 a i ∧ h.IsListIter i2 b i) where
  mem := by simp
  obj := fun i h st c hc => by
    obtain ⟨hz, hTI, ⟨x, y, hTO⟩, ⟨o1, e1, _, d1⟩, ⟨o2, e2, _, d2⟩⟩ := st
    have e' : c = z ∨ c = TI ∨ c = TO ∨ c = i1 ∨ c = i2 := by simpa using hc
    rcases e' with q | q | q | q | q
    · rw [q]; exact ⟨_, hz, fun v q => nomatch q⟩
    · rw [q]; exact ⟨_, hTI, fun v q => nomatch q⟩
    · rw [q]; exact ⟨_, hTO, fun v q => nomatch q⟩
    · rw [q]; exact ⟨o1, e1, fun v q => by rw [d1] at q; cases q⟩
    · rw [q]; exact ⟨o2, e2, fun v q => by rw [d2] at q; cases q⟩
  keep := fun i h h' st k => by
    obtain ⟨hz, hTI, ⟨x, y, hTO⟩, h1, h2⟩ := st
    exact ⟨k z (by simp) _ hz, k TI (by simp) _ hTI, ⟨x, y, k TO (by simp) _ hTO⟩, h1.at fun o q => k i1 (by simp) o q, h2.at fun o q => k i2 (by simp) o q⟩
  item := by
    intro X hP hw hK hc i pins s σ H E I hf st hg
    subst hP hw hK
    obtain ⟨hz, hTI, ⟨x0, y0, hTO⟩, h1, h2⟩ := st
    obtain ⟨xs, ys, x, y, hqx, hqy, hx, hy⟩ := hg
    obtain ⟨its, rv, p, _⟩ := I.tuple hqx
    obtain ⟨its2, rv2, p2, _⟩ := I.list hqy
    obtain ⟨u, hu, ru⟩ := rv.get hx
    obtain ⟨u2, hu2, ru2⟩ := rv2.get hy
    have hzl : z < s.heap.objs.size := Heap.lt_size hz
    have D1 := Draws.tuple (prog := X.prog) (w := X.w) (A := X.A.in1) (I.ok.hd hc) i1 a h1a its.toArray
    have D2 := Draws.list (prog := X.prog) (w := X.w) (A := X.A.in1) (I.ok.hd hc) i2 b h2b its2.toArray
    have hlt1 : i < its.toArray.size := by
      have := (List.getElem?_eq_some_iff.mp hu).1
      simpa using this
    have hlt2 : i < its2.toArray.size := by
      have := (List.getElem?_eq_some_iff.mp hu2).1
      simpa using this
    refine wpAny_pyNext_zipD2_item S D1 D2 hz hTI hTO ⟨h1, p⟩ ⟨h2, p2.isList⟩ hlt1 hlt2 fun x1 x2 h' tk hP1 hP2 z' TO' h1' h2' hT hsz hk => ?_
    obtain rfl : x1 = u := by
      have h2 : its.toArray[i]? = some x1 := hP1
      rw [List.getElem?_toArray, hu] at h2
      exact (Option.some.inj h2).symm
    obtain rfl : x2 = u2 := by
      have h2 : its2.toArray[i]? = some x2 := hP2
      rw [List.getElem?_toArray, hu2] at h2
      exact (Option.some.inj h2).symm
    refine ⟨_, rfl, wpAny_letOwnedTupleGo_zip (s := { s with heap := h', toks := tk }) z' fun h'' z'' sb => ?_⟩
    have hT2 : h''.get? s.heap.objs.size = some { cls := .type "tuple", data := .seq #[x1, x2] } := (sb.2 _ (Nat.ne_of_gt hzl)).trans hT
    have new : ObjOk X.prog X.w (upd H s.heap.objs.size (.tup [x, y])) h'' s.heap.objs.size (.tup [x, y]) :=
      ⟨by show 2 ≤ sizeLine; decide, [x1, x2], .cons ru (.cons ru2 .nil), ⟨_, hT2, rfl, _, rfl⟩⟩
    have I1 : Inv X pins σ (upd H s.heap.objs.size (.tup [x, y])) { s with heap := h'', toks := tk } :=
      I.turnedNew (t' := tk) (ch := [z, TI, TO, i1, i2]) (fun c o hb q => (sb.2 c (fun q' => hb (by simp [q']))).trans (hk c o (fun q' => hb (by simp [q'])) (fun q' => hb (by simp [q'])) (fun q' => hb (by simp [q'])) (fun q' => hb (by simp [q'])) q)) hf (Nat.le_refl _) new
    have i1z : i1 ≠ z := S.zi1.symm
    have i2z : i2 ≠ z := S.zi2.symm
    refine ⟨.ref s.heap.objs.size, _, I1, rfl, ⟨_, x, y, rfl, I.hok.fresh (Nat.le_refl _), rfl, fun l hl => by rw [I.tuple_inj hl hqx]; exact hx, fun l hl => by rw [I.list_inj hl hqy]; exact hy⟩, ⟨z'', ?_, ⟨x1, x2, ?_⟩, ?_, ?_⟩, fun c hcm => ?_⟩
    · exact (sb.2 _ S.TIz).trans (hk _ _ S.TIz S.TITO S.TIi1 S.TIi2 hTI)
    · exact (sb.2 _ S.TOz).trans TO'
    · exact h1'.1.at fun o q => (sb.2 _ i1z).trans q
    · exact h2'.1.at fun o q => (sb.2 _ i2z).trans q
    · have hlt : c < s.heap.objs.size := by
        have e' : c = z ∨ c = TI ∨ c = TO ∨ c = i1 ∨ c = i2 := by simpa using hcm
        rcases e' with q | q | q | q | q
        · rw [q]; exact hzl
        · rw [q]; exact Heap.lt_size hTI
        · rw [q]; exact Heap.lt_size hTO
        · rw [q]; obtain ⟨_, e1, _⟩ := h1; exact Heap.lt_size e1
        · rw [q]; obtain ⟨_, e2, _⟩ := h2; exact Heap.lt_size e2
      rw [upd_ne (Nat.ne_of_lt hlt)]
      exact (hf c hcm).1
  done := by
    intro X hP hw hK hc i pins s σ H E I hf st hg
    subst hP hw hK
    obtain ⟨hz, hTI, ⟨x0, y0, hTO⟩, h1, h2⟩ := st
    obtain ⟨xs, ys, hqx, hqy, hi1, hi2, hend⟩ := hg
    obtain ⟨its, rv, p, _⟩ := I.tuple hqx
    obtain ⟨its2, rv2, p2, _⟩ := I.list hqy
    have l1 := rv.length
    have l2 := rv2.length
    have D1 := Draws.tuple (prog := X.prog) (w := X.w) (A := X.A.in1) (I.ok.hd hc) i1 a h1a its.toArray
    have D2 := Draws.list (prog := X.prog) (w := X.w) (A := X.A.in1) (I.ok.hd hc) i2 b h2b its2.toArray
    exact wpAny_pyNext_zipD2_end S D1 D2 hz hTI hTO ⟨h1, p⟩ ⟨h2, p2.isList⟩ (by simp; omega) (by simp; omega) (by simp; omega) fun h' tk hk => ⟨rfl, I.turnedL (t' := tk) (ch := [z, TI, TO, i1, i2]) (fun c o hb q =>
      hk c o (fun q' => hb (by simp [q'])) (fun q' => hb (by simp [q'])) (fun q' => hb (by simp [q'])) (fun q' => hb (by simp [q'])) q) hf⟩
  self := fun A i s Q E st h => wpAny_pyIter_zip st.1 h
def iZipX (K : PySem.W.Frag) (ta : TA) : TI := fun σ H R => ta σ H fun vs H1 => ∃ a b xs ys, vs = [.ref a, .ref b] ∧ SqT K H1 a xs ∧ SqL K H1 b ys ∧ R (ItzX K a b) H1
theorem pi_zipTL {X : Cx} {e e2 : Expr} {ta : TA} {p pos tpos : Pos} {elts : List Expr} {kk : Nat} (hg : Gl X "zip") (hm : X.mg "zip" = none) (ha : PA X [e, e2] ta)
    (hs : starEach [e, e2] X.env = (false, eval e X.env) :: starEach [e2] X.env := by rfl) (hpl : (backTo pos (starEach [e2] X.env)).any (·.1) = false := by rfl) :
    PI X (.Tuple elts kk tpos) (.Call (.Name "zip" p) [e, e2] [] pos) (iZipX X.K ta) := by
  refine ⟨fun pins s σ H R I h => ?_⟩
  refine Call_ (ld_blt I hg hm PyProof.Rows.boot_zip (PyProof.Rows.callWith_type1 (thn (ha.run pos pins s σ H _ I h) fun us s1 ⟨vs, H1, I1, r1, q1⟩ => ?_) hs hpl))
  obtain ⟨a, b, xs, ys, ex, hqx, hqy, q⟩ := q1
  subst ex
  cases r1 with
  | cons r rr =>
    cases rr with
    | cons r' rr =>
      cases rr
      cases r
      cases r'
      have fresh5 : ∀ c, c ∈ [s1.heap.objs.size + 4, s1.heap.objs.size + 2, s1.heap.objs.size + 3, s1.heap.objs.size, s1.heap.objs.size + 1] → FpOk X pins H1 c := fun c hcm => by
        have e' : c = s1.heap.objs.size + 4 ∨ c = s1.heap.objs.size + 2 ∨ c = s1.heap.objs.size + 3 ∨ c = s1.heap.objs.size ∨ c = s1.heap.objs.size + 1 := by simpa using hcm
        have hle : s1.heap.objs.size ≤ c := by
          rcases e' with z | z | z | z | z
          · rw [z]; exact Nat.le_add_right _ _
          · rw [z]; exact Nat.le_add_right _ _
          · rw [z]; exact Nat.le_add_right _ _
          · rw [z]; exact Nat.le_refl _
          · rw [z]; exact Nat.le_add_right _ _
        exact I1.fpOk hle (I1.hok.fresh hle)
      obtain ⟨its, rv, p1, _⟩ := I1.tuple hqx
      obtain ⟨its2, rv2, p2, _⟩ := I1.list hqy
      have hal : a < s1.heap.objs.size := by obtain ⟨_, q', _⟩ := id p1; exact Heap.lt_size q'
      have hbl : b < s1.heap.objs.size := p2.lt
      refine zip_begins2 (begins_tuple a its.toArray) (begins_list b its2.toArray) p1 p2.isList fun h' hz hTI hTO g1 g2 hsz hk => wpAny_pyIter_zip hz ?_
      have I2 : Inv X pins σ H1 { s1 with heap := h' } := I1.kept (t' := s1.toks) hk
      refine ⟨s1.heap.objs.size + 4, [s1.heap.objs.size + 4, s1.heap.objs.size + 2, s1.heap.objs.size + 3, s1.heap.objs.size, s1.heap.objs.size + 1], _, _, H1, rfl, I2, turn_zipX (a := a) (b := b) (zip_sep2 (fp1 := [a]) (fp2 := [b]) (fun c hc => ?_) (fun c hc => ?_)) (Nat.ne_of_lt hal) (Nat.ne_of_lt (Nat.lt_succ_of_lt hbl)), ⟨hz, hTI, ⟨_, _, hTO⟩, ⟨_, g1, rfl, rfl⟩, ⟨_, g2, rfl, rfl⟩⟩, fresh5, q⟩
      · rw [List.mem_singleton.mp hc]; exact hal
      · rw [List.mem_singleton.mp hc]; exact hbl
/-! ### name = {k: v for ..} on one line -/
theorem sw_trueD {kx vx : Expr} {gs : List Comprehension} {scope : Scope} {pos py : Pos} {y : Str} {l : Nat} {env : Env} (hk : env.scope.kind = .function) (hy : env.scope.names.lookup y = some .local) (hl : (py.line == pos.line) = true)
    (ha : (scope.names.any fun (n, k) => n == y && (k == .local || k == .cell)) = false) : swapsWith (.DictComp kx vx gs scope pos) (some (.Name y py)) l env = pure true := by
  have ky : env.kindOf y = some .local := hy
  have hb : env.blockKind = .function := by unfold Env.blockKind; rw [hk]; rfl
  unfold swapsWith
  simp only [hb, ky, ha, Expr.pos, hl]
  rfl
theorem ps_setDc {X : Cx} {i : Nat} {y : Str} {py : Pos} {kx vx tg iter : Expr} {ifs : List Expr} {scope : Scope} {own : List (Str × Nat)} {pos spos : Pos} {wi : TI} {g : TG} {tt : TT} {tk tv : TE} (hc : X.calm = true) (hN : X.N.Nodup) (hy : X.N[i]? = some y) (hyl : X.env.scope.names.lookup y = some .local)
    (hsw : swapsWith (.DictComp kx vx [⟨tg, iter, ifs, 0⟩] scope pos) (some (.Name y py)) spos.line X.env = pure true) (hi : PI X tg iter wi) (ok : BlkOk X.N X.env.scope scope own)
    (hg : ∀ (s : Shared) (H : Hp) (C : Addr) (cl : List (Str × Addr)) (fp : List Addr), PG (X.blk s H scope (compEnvC scope cl C X.env) fp) tg g) (ht : ∀ (s : Shared) (H : Hp) (C : Addr) (cl : List (Str × Addr)) (fp : List Addr), PTs (X.blk s H scope (compEnvC scope cl C X.env) fp) ifs tt)
    (hk : ∀ (s : Shared) (H : Hp) (C : Addr) (cl : List (Str × Addr)) (fp : List Addr), PE (X.blk s H scope (compEnvC scope cl C X.env) fp) kx tk)
    (he : ∀ (s : Shared) (H : Hp) (C : Addr) (cl : List (Str × Addr)) (fp : List Addr), PE (X.blk s H scope (compEnvC scope cl C X.env) fp) vx tv) (hs : ∀ x, foldedSetIterable iter X.env x = pure x := by intro _; rfl) :
    PS X (.Assign [.Name y py] (.DictComp kx vx [⟨tg, iter, ifs, 0⟩] scope pos) spos) (tAsg (tDc wi g tt tk tv (own.map (·.2))) (gName i)) := by
  refine ⟨fun pins s σ H D I h => ?_⟩
  rw [exec_Assign_Name_used _ _ _ _ hsw]
  refine wpAny_bind (wpAny_standAt (wpAny_bind ?_))
  show wpAny _ X.A (do let _ ← comprehension (.DictComp kx vx [⟨tg, iter, ifs, 0⟩] scope pos) scope X.env (firstIterPos [⟨tg, iter, ifs, 0⟩] pos) newDict false (eval iter X.env) (some (assign (.Name y py) X.env))) _ _ s
  have h : tDc wi g tt tk tv (own.map (·.2)) σ H (fun x H1 => gName i x σ H1 D.nx) := h
  refine wpAny_bind (thn (dc_core (Qf := fun _ s' => SP X pins D .next s') hc hN I hi ok hg ht hk he hs h fun L C s' m H' I' q hn f => ?_) fun _ s' hq => wpAny_pure (wpAny_pure hq))
  show wpAny _ _ (assign (.Name y py) X.env (.ref L)) _ _ _
  refine wpAny_assign_Name (store_ok2 (v := V.ref L) I' hN hy (.inl hyl) rfl (fun s2 I2 ⟨a, sb, ha⟩ => ?_) (.inr hyl))
  obtain ⟨f0, f1, f2, f3, f4, f5⟩ := f
  have haC : C ≠ a := by
    rcases ha with z | z
    · rw [z]; exact f1
    · exact fun e => f4 y a z e.symm
  refine ⟨m, hn.sameBut sb haC, fun h3 sb3 => ?_⟩
  exact ⟨_, H', I2.turned (t' := s2.toks) (fun b o hb e => (sb3.2 b hb).trans e) f0 f1 f3 f4 f5, q⟩
end Q7
/-! opened_behind, need_things -/
namespace Q7
open PySem PySem.Spec PyProof.Rows L2 Evl
theorem cutV_init (us : List V) (u : V) : cutV (us ++ [u]) none (some (-1)) = us := by
  unfold cutV
  have e : HT.sIx (us ++ [u]).length (us ++ [u]).length (some (-1)) = us.length := by
    have hl : (us ++ [u]).length = us.length + 1 := by simp
    rw [hl]
    show (if (-1 : Int) < 0 then ((-1 : Int) + ((us.length + 1 : Nat) : Int)).toNat else min (-1 : Int).toNat (us.length + 1)) = us.length
    rw [if_pos (by decide)]
    omega
  rw [HT.sIx_none, e, List.drop_zero, Nat.sub_zero, List.take_left']
  rfl
abbrev Blk := Int × Str
def BlV (H : Hp) (v : V) (b : Blk) : Prop := ∃ a, v = .ref a ∧ H a = some (.tup [.int b.1, .str b.2])
theorem BlV.kp {H H' : Hp} {v : V} {b : Blk} (k : Kp H H') (h : BlV H v b) : BlV H' v b := by
  obtain ⟨a, h1, h2⟩ := h
  exact ⟨a, h1, k.tup h2⟩
abbrev BlsV (H : Hp) : List V → List Blk → Prop := Paired (BlV H)
theorem BlsV.kp {H H' : Hp} {us : List V} {bl : List Blk} (k : Kp H H') (h : BlsV H us bl) : BlsV H' us bl := Paired.imp (fun _ _ z => z.kp k) h
theorem paired_concat {α β : Type} {F : α → β → Prop} {us : List α} {bl : List β} (h : Paired F us bl) : (us = [] ∧ bl = []) ∨ ∃ u0 u b0 b, us = u0 ++ [u] ∧ bl = b0 ++ [b] ∧ Paired F u0 b0 ∧ F u b := by
  induction h with
  | nil => exact Or.inl ⟨rfl, rfl⟩
  | @cons x y xs ys a t ih =>
    rcases ih with ⟨rfl, rfl⟩ | ⟨u0, u, b0, b, rfl, rfl, h1, h2⟩
    · exact Or.inr ⟨[], x, [], y, rfl, rfl, .nil, a⟩
    · exact Or.inr ⟨x :: u0, u, y :: b0, b, rfl, rfl, .cons a h1, h2⟩
def openE (bl : List Blk) (n : Int) (w : Str) : Out := if w = "if" ∨ w = "while" then (if bl.length = 8 then eTooMany 8 else none)
  else if w = "else" then (match bl.getLast? with
    | some b => if b.2 = "if" then none else eUnmatched n
    | none => eUnmatched n)
  else if w = "end" then (if bl = [] then eUnmatched n else none) else none
def openN (bl : List Blk) (n : Int) (w : Str) : List Blk := if w = "if" ∨ w = "while" then bl ++ [(n, w)]
  else if w = "else" then (match bl.getLast? with
    | some b => bl.dropLast ++ [(b.1, ("else" : Str))]
    | none => bl)
  else if w = "end" then bl.dropLast else bl
section
variable {P : Program} {w : World} {K : PySem.W.Frag} {mg : Str → Option Value} {base : Heap}
def spOpened (K : PySem.W.Frag) : Sp := fun vs H Q E => ∃ (o : Addr) (us : List V) (bl : List Blk) (n : Int) (w : Str), vs = [.ref o, .int n, .str w] ∧ SqL K H o us ∧ BlsV H us bl ∧ bl.length ≤ 8 ∧
  (match openE bl n w with
    | none => ∀ p H' us', (p = o ∨ H p = none) → Ex H H' → SqL K H' p us' → BlsV H' us' (openN bl n w) → Q (.ref p) H'
    | some (x, f, v) => Er K x f v H E)
theorem sc_opened_behind : FnScope ["opened", "number", "word"] ["opened", "number", "word"] (defScope s_opened_behind) := ⟨rfl, rfl, rfl, by decide +kernel, rfl, by decide +kernel, by decide +kernel⟩
theorem D_opened_behind (T : Txt w K mg) (HP : PF P) : Dn P w K mg base (L2.CX P w) 3 "opened_behind" (spOpened K) := by
  refine mkD T.fds_opened_behind T.g_opened_behind T.kps_opened_behind sc_opened_behind (fun _ _ _ _ _ _ us hl => match us, hl with | [_, _, _], _ => rfl) (fun vs H Q E h => ?_) (fun cdv A outer s H vs Q E hr h => ?_)
  · obtain ⟨o, us, bl, n, w, rfl, _⟩ := h
    rfl
  · obtain ⟨o, us, bl, n, wd, rfl, ho, hB, hl8, q⟩ := h
    obtain ⟨_, GL_MOST_BLOCKS⟩ := T.i_MOST_BLOCKS
    have hlen : us.length = bl.length := Paired.length hB
    refine ⟨_, (pss_cons (ps_match (pv 2) (pm_cons (ppat_or (pfst_cons ppat_val (pfst_cons ppat_val pfst_nil))) (pss_cons (ps_if (pt_cmpR op_eq (pe_callB call_len_seq (by rfl) T.n_len PySem.boot_len (pa_cons (pv 0) pa_nil)) (pe_glob (v := .int 8) (by rfl) GL_MOST_BLOCKS ⟨_, rfl⟩) (nomark _)) (pss_one (ps_raise rfl (takes_of rfl rfl rfl rfl) (pmk_q T.TooMany HP hr (pa_cons (pe_glob (v := .int 8) (by rfl) GL_MOST_BLOCKS ⟨_, rfl⟩) pa_nil)))) pss_nil)
    (pss_one (ps_ret (pe_lst (StX.pa_star (pv 0) (pa_cons (pe_tup (pa_cons (pv 1) (pa_cons (pv 2) pa_nil))) pa_nil))))))
    (pm_cons ppat_val (pss_cons (ps_if (PW.pt (pw_or (pt_not (pt_truth (pv 0) (fun _ => rfl))) (pw_or1 (pt_cmpR op_ne (pe_ix ix_tup (pe_ix ix_list (pv 0) (pe_un un_neg pe_int) (fun _ _ => rfl)) pe_int (fun _ _ => rfl)) pe_str (nomark _))))) (pss_one (ps_raise rfl (takes_of rfl rfl rfl rfl) (pmk_q T.Unmatched HP hr (pa_cons (pv 1) pa_nil)))) pss_nil)
    (pss_one (ps_ret (pe_lst (StX.pa_star (pe_slice sl_list (pv 0) po_none (po_some (pe_un un_neg pe_int))) (pa_cons (pe_tup (pa_cons (pe_ix ix_tup (pe_ix ix_list (pv 0) (pe_un un_neg pe_int) (fun _ _ => rfl)) pe_int (fun _ _ => rfl)) (pa_cons pe_str pa_nil))) pa_nil))))))
    (pm_cons ppat_val (pss_cons (ps_if (pt_not (pt_truth (pv 0) (fun _ => rfl))) (pss_one (ps_raise rfl (takes_of rfl rfl rfl rfl) (pmk_q T.Unmatched HP hr (pa_cons (pv 1) pa_nil)))) pss_nil)
    (pss_one (ps_ret (pe_slice sl_list (pv 0) po_none (po_some (pe_un un_neg pe_int))))))
    pm_nil))))
    (pss_one (ps_ret (pv 0)))), ?_⟩
    refine q_match (y := wd) (ev_var (i := 2) rfl) fun H1 e1 => ?_
    have ho1 := ex_l e1 ho
    by_cases h1 : wd = "if" ∨ wd = "while"
    · refine mcase_yes (by
        show (decide (wd = "if") || (decide (wd = "while") || false)) = true
        rcases h1 with rfl | rfl
        · decide
        · decide) ?_
      have eE : openE bl n wd = if bl.length = 8 then eTooMany 8 else none := by
        unfold openE
        rw [if_pos h1]
      refine q_when (et_test (ev_eqI (ev_lenL (ev_var (i := 0) rfl) ho1) ev_c)) (fun hb H2 e2 => ?_) fun hb H2 e2 => ?_
      · have h8 : bl.length = 8 := by
          have := of_decide_eq_true hb
          omega
        rw [eE, if_pos h8] at q
        exact ⟨.int 8, rfl, fun d2 hd2 => Er.go (Er.ex (e1.trans e2) q) (Ex.refl H2) hd2⟩
      · have h8 : ¬ bl.length = 8 := by
          have := of_decide_eq_false hb
          omega
        rw [eE, if_neg h8] at q
        have e12 := e1.trans e2
        refine ⟨_, rfl, o, us, rfl, Or.inr (ex_l e12 ho), _, rfl, _, rfl, (by show 2 ≤ sizeLine; decide), fun t ht => ⟨sz_of (by simp; omega), fun p hp => ?_⟩⟩
        have e3 := e12.trans (Ex.new (o := .tup [.int n, .str wd]) ht)
        refine q p _ (us ++ [.ref t]) (Or.inr (fresh_back e3 hp)) (e3.trans (Ex.new hp)) (sq_of upd_same) ?_
        unfold openN
        rw [if_pos h1]
        exact Paired.snoc (hB.kp (Kp.ex (e3.trans (Ex.new hp)))) ⟨t, rfl, Ex.new hp _ _ upd_same⟩
    · have h1' := not_or.mp h1
      refine mcase_no (by
        show (decide (wd = "if") || (decide (wd = "while") || false)) = false
        rw [decide_eq_false h1'.1, decide_eq_false h1'.2]
        rfl) ?_
      by_cases h2 : wd = "else"
      · subst h2
        refine mcase_yes rfl ?_
        have eE : openE bl n "else" = (match bl.getLast? with
            | some b => if b.2 = "if" then none else eUnmatched n
            | none => eUnmatched n) := by
          unfold openE
          rw [if_neg h1, if_pos rfl]
        rcases paired_concat hB with ⟨rfl, rfl⟩ | ⟨u0, u, b0, b, rfl, rfl, hB0, a, rfl, ha⟩
        · rw [eE] at q
          refine q_when (et_or (b := true) (et_not (et_tru (ev_var (i := 0) rfl) (truL ho1))) fun z => by cases z) (fun hb H2 e2 => ?_) fun hb => by cases hb
          exact ⟨_, rfl, .int n, rfl, fun d2 hd2 => Er.go (Er.ex (e1.trans e2) q) (Ex.refl H2) hd2⟩
        · have hT : ∀ {H2}, Ex H H2 → SqT K H2 a [.int b.1, .str b.2] := fun e => st_of (e _ _ ha)
          have hne : (!(u0 ++ [V.ref a]).isEmpty) = true := by simp
          have hlast : (b0 ++ [b]).getLast? = some b := by simp
          rw [hlast] at eE
          refine q_when (et_or (et_not (et_tru (ev_var (i := 0) rfl) (truL ho1))) fun _ => et_test (ev_neS (ev_ixT (ev_ixL (ev_var (i := 0) rfl) ho1 (ev_un ev_c ru_neg) (atI_last _ _)) (hT e1) ev_c (atI_nat (j := 1) rfl)) ev_c)) (fun hb H2 e2 => ?_) fun hb H2 e2 => ?_
          · have hni : ¬ b.2 = "if" := by
              rw [hne] at hb
              simpa using hb
            rw [eE] at q
            have q' : Er K "Unmatched" "number" (.int n) H E := by
              rw [show (match (some b : Option Blk) with
                | some b => if b.2 = "if" then none else eUnmatched n
                | none => eUnmatched n) = eUnmatched n from if_neg hni] at q
              exact q
            exact ⟨_, rfl, .int n, rfl, fun d2 hd2 => Er.go (Er.ex (e1.trans e2) q') (Ex.refl H2) hd2⟩
          · have hni : b.2 = "if" := by
              rw [hne] at hb
              simpa using hb
            rw [eE] at q
            rw [show (match (some b : Option Blk) with
                | some b => if b.2 = "if" then none else eUnmatched n
                | none => eUnmatched n) = none from if_pos hni] at q
            have e12 := e1.trans e2
            have hn : openN (b0 ++ [b]) n "else" = b0 ++ [(b.1, ("else" : Str))] := by
              unfold openN
              rw [if_neg h1, if_pos rfl, hlast]
              simp
            refine el_sl (K := K) (lo := none) (hi := some (-1)) (te := tVar 0) (tl := tNoPart) (σ := start ["opened", "number", "word"] [.ref o, .int n, .str "else"]) (ev_var (i := 0) rfl) eo_none (eo_some (ev_un ev_c ru_neg)) (ex_l e12 ho) H2 (Ex.refl H2) _ fun s3 H3 hs3 e3 h3 => ?_
            rw [cutV_init] at h3
            have e13 := e12.trans e3
            refine ⟨s3, u0, rfl, Or.inr (sq_of h3), ?_⟩
            refine ev_ixT (K := K) (σ := start ["opened", "number", "word"] [.ref o, .int n, .str "else"]) (ev_ixL (ev_var (i := 0) rfl) (ex_l e13 ho) (ev_un ev_c ru_neg) (atI_last _ _)) (hT e13) ev_c (atI_nat (j := 0) rfl) H3 (Ex.refl H3) _ fun H4 e4 => ⟨by show 2 ≤ sizeLine; decide, fun t ht => ⟨sz_of (by simp at hl8 ⊢; have := Paired.length hB0; omega), fun p hp => ?_⟩⟩
            have e5 := (e13.trans e4).trans (Ex.new (o := .tup [.int b.1, .str "else"]) ht)
            refine q p _ (u0 ++ [.ref t]) (Or.inr (fresh_back e5 hp)) (e5.trans (Ex.new hp)) (sq_of upd_same) ?_
            rw [hn]
            exact Paired.snoc (BlsV.kp (Kp.ex (e5.trans (Ex.new hp))) hB0) ⟨t, rfl, Ex.new hp _ _ upd_same⟩
      · refine mcase_no (decide_eq_false h2) ?_
        by_cases h3 : wd = "end"
        · subst h3
          refine mcase_yes rfl ?_
          have eE : openE bl n "end" = (if bl = [] then eUnmatched n else none) := by
            unfold openE
            rw [if_neg h1, if_neg h2, if_pos rfl]
          rcases paired_concat hB with ⟨rfl, rfl⟩ | ⟨u0, u, b0, b, rfl, rfl, hB0, a, rfl, ha⟩
          · rw [eE, if_pos rfl] at q
            refine q_when (et_not (et_tru (ev_var (i := 0) rfl) (truL ho1))) (fun hb H2 e2 => ?_) fun hb => by cases hb
            exact ⟨_, rfl, .int n, rfl, fun d2 hd2 => Er.go (Er.ex (e1.trans e2) q) (Ex.refl H2) hd2⟩
          · rw [eE, if_neg (by simp)] at q
            have hne : (!(u0 ++ [V.ref a]).isEmpty) = true := by simp
            refine q_when (et_not (et_tru (ev_var (i := 0) rfl) (truL ho1))) (fun hb => ?_) fun hb H2 e2 => ?_
            · rw [hne] at hb
              cases hb
            · have e12 := e1.trans e2
              refine s_retL (xs := u0) (by
                have z := el_sl (K := K) (lo := none) (hi := some (-1)) (te := tVar 0) (tl := tNoPart) (σ := start ["opened", "number", "word"] [.ref o, .int n, .str "end"]) (ev_var (i := 0) rfl) eo_none (eo_some (ev_un ev_c ru_neg)) (ex_l e12 ho)
                rw [cutV_init] at z
                exact z) fun p H3 hp e3 h3 => q p H3 u0 (Or.inr (fresh_back e12 hp)) (e12.trans e3) (sq_of h3) ?_
              have hn : openN (b0 ++ [b]) n "end" = b0 := by
                unfold openN
                rw [if_neg h1, if_neg h2, if_pos rfl]
                simp
              rw [hn]
              exact BlsV.kp (Kp.ex (e12.trans e3)) hB0
        · refine mcase_no (decide_eq_false h3) (mnil ?_)
          have eE : openE bl n wd = none := by
            unfold openE
            rw [if_neg h1, if_neg h2, if_neg h3]
          rw [eE] at q
          refine s_ret (ev_var (i := 0) rfl) fun H2 e2 => q o H2 us (Or.inl rfl) (e1.trans e2) (ex_l (e1.trans e2) ho) ?_
          have hn : openN bl n wd = bl := by
            unfold openN
            rw [if_neg h1, if_neg h2, if_neg h3]
          rw [hn]
          exact hB.kp (Kp.ex (e1.trans e2))
end
end Q7
/-! walks of enumerate(tuple), zip(tuple, list); comprehensions told by pairs; a dict comprehension -/
namespace Q7
open PySem PySem.Spec PyProof.Rows L2 Evl
section
variable {K : PySem.W.Frag} {σ : L2.St} {H H' H0 : Hp} {ta tb te tx tl tk tv : TE} {t u tt : TT} {x y z v : V}
theorem walk_enumT {a : Addr} {xs : List V} : Walk (IteT K a) xs.length (fun H => SqT K H a xs) (YPair (fun i => some (.int (i : Nat))) (fun i => xs[i]?)) := by
  refine ⟨fun i _ hi q => ⟨xs, xs[i], q, by simp [hi]⟩, fun _ q => ⟨xs, q, Nat.le_refl _⟩, fun i H v H' _ q y => ?_⟩
  obtain ⟨T, x, h1, h2, h3, h4⟩ := y
  exact ⟨T, .int (i : Nat), x, h1, h2, h3, rfl, h4 xs q⟩
theorem pb_enumT {a : Addr} {xs : List V} (ha : Ev ta σ H (.ref a)) (hx : SqT K H a xs) : EvPb (iEnumT K (tCons ta tNil)) σ H (enumV xs) := fun H1 e R k =>
  ha H1 e _ fun H2 e2 => ⟨a, xs, rfl, ex_t (e.trans e2) hx, k _ H2 e2 (by
    have hl : (enumV xs).length = xs.length := by simp [enumV]
    rw [hl]
    refine (walk_enumT (K := K) (a := a) (xs := xs)).mono (fun H3 e3 => ex_t e3 hx) fun i H3 v H4 hi _ y => ?_
    obtain ⟨T, x, z, h1, h2, h3, h4, h5⟩ := y
    refine ⟨T, x, z, h1, h2, h3, ?_, ?_⟩
    · simp only [enumV, List.getElem?_mapIdx, h5, Option.map_some]
      exact h4
    · simp only [enumV, List.getElem?_mapIdx, h5, Option.map_some])⟩
theorem enumV_at {xs : List V} {i : Nat} {x y : V} (h : (enumV xs)[i]? = some (x, y)) : x = .int (i : Nat) ∧ xs[i]? = some y := by
  simp only [enumV, List.getElem?_mapIdx] at h
  cases hx : xs[i]? with
  | none =>
    rw [hx] at h
    cases h
  | some z =>
    rw [hx] at h
    have h' := Option.some.inj h
    rw [Prod.mk.injEq] at h'
    exact ⟨h'.1.symm, by rw [h'.2]⟩
theorem walk_zipX {a b : Addr} {xs ys : List V} : Walk (ItzX K a b) (xs.zip ys).length (fun H => SqT K H a xs ∧ SqL K H b ys) (YPs (xs.zip ys)) := by
  refine ⟨fun i _ hi q => ?_, fun _ q => ⟨xs, ys, q.1, q.2, ?_⟩, fun i H v H' hi q y => ?_⟩
  · rw [List.length_zip] at hi
    have h1 : i < xs.length := by omega
    have h2 : i < ys.length := by omega
    exact ⟨xs, ys, xs[i], ys[i], q.1, q.2, by simp [h1], by simp [h2]⟩
  · rw [List.length_zip]
    omega
  · rw [List.length_zip] at hi
    obtain ⟨T, x, z, h1, h2, h3, h4, h5⟩ := y
    have e1 := h4 xs q.1
    have e2 := h5 ys q.2
    have hz : (xs.zip ys)[i]? = some (x, z) := List.getElem?_zip_eq_some.mpr ⟨e1, e2⟩
    refine ⟨T, x, z, h1, h2, h3, ?_, ?_⟩
    · show (xs.zip ys)[i]?.map Prod.fst = some x
      rw [hz] <;> rfl
    · show (xs.zip ys)[i]?.map Prod.snd = some z
      rw [hz] <;> rfl
/-- zip(tuple, list) -/
theorem ep_zipX {a b : Addr} {xs ys : List V} (ha : Ev ta σ H (.ref a)) (hb : Ev tb σ H (.ref b)) (hx : SqT K H a xs) (hy : SqL K H b ys) : EvP (iZipX K (tCons ta (tCons tb tNil))) σ H (xs.zip ys) := fun H1 e R k =>
  ha H1 e _ fun H2 e2 => hb H2 (e.trans e2) _ fun H3 e3 => by
    have hx3 := ex_t ((e.trans e2).trans e3) hx
    have hy3 := ex_l ((e.trans e2).trans e3) hy
    exact ⟨a, b, xs, ys, rfl, hx3, hy3, k _ H3 (e2.trans e3) (walk_zipX.mono (fun H4 e4 => ⟨ex_t e4 hx3, ex_l e4 hy3⟩) fun _ _ _ _ _ _ y => y)⟩
/-- a turn: the target bound, the test, what is made -/
def TgO (g : TG) (tt : TT) (te : TE) (vs : List Nat) (σ : L2.St) (H : Hp) (x : V) (y : Option V) : Prop := ∀ H1, Ex H H1 → ∃ σ2, wipe σ2 vs = wipe σ vs ∧ EvT tt σ2 H1 y.isSome ∧ (∀ v, y = some v → Ev te σ2 H1 v) ∧ ∀ R : L2.St → Hp → Prop, R σ2 H1 → g x (wipe σ vs) H1 R
theorem el_lcR {wi : TI} {g : TG} {xs : List V} {vs : List Nat} (ys : List (Option V)) (h : EvI wi σ H xs) (hz : xs.length ≤ 50000) (hp : Paired (TgO g tt te vs σ H) xs ys) : EvL (tLc wi g tt te vs) σ H (ys.filterMap id) := fun H0 e Q q =>
  h H0 e _ fun J H1 e1 w Dl hD => by
    have hlen : xs.length = ys.length := Paired.length hp
    refine lc_it w (fun i H' => H1 Dl = none ∧ Ex H1 H' ∧ H' Dl = some (.lst ((ys.take i).filterMap id))) ⟨hD, Ex.new hD, upd_same⟩ (fun i H' _ p => p.2.1) (fun i x H' H2 hi pv y => ?_) (fun H' p => ?_)
    · obtain ⟨rfl, hx⟩ := y
      obtain ⟨p1, p2, p3⟩ := pv
      obtain ⟨o, ho, hT⟩ := paired_at' hp hx
      obtain ⟨σ2, hw, ht, hv, hg⟩ := hT _ ((e.trans e1).trans p2)
      refine hg _ ⟨hw, ?_⟩
      refine ht _ (Ex.refl _) _ fun H3 e3 => ?_
      have htk : ys.take (i + 1) = ys.take i ++ [o] := by rw [List.take_add_one, ho] <;> rfl
      cases o with
      | none =>
        rw [if_neg (by decide)]
        refine ⟨p1, p2.trans e3, ?_⟩
        rw [htk, List.filterMap_append]
        show _ = some (HO.lst ((ys.take i).filterMap id ++ []))
        rw [List.append_nil]
        exact e3 _ _ p3
      | some v =>
        rw [if_pos (by rfl)]
        refine hv v rfl _ e3 _ fun H4 e4 => ⟨_, e4 _ _ (e3 _ _ p3), sz_lt ?_, p1, Ex.mut ((p2.trans e3).trans e4) p1, ?_⟩
        · have h1 := List.length_filterMap_le id (ys.take i)
          have h2 : (ys.take i).length ≤ ys.length := by
            rw [List.length_take]
            omega
          omega
        · rw [upd_same, htk, List.filterMap_append] <;> rfl
    · refine q Dl H' (fresh_back e1 p.1) (e1.trans p.2.1) ?_
      have z := p.2.2
      rw [hlen, List.take_length] at z
      exact z
where
  paired_at' {α β : Type} {F : α → β → Prop} : ∀ {xs : List α} {ys : List β} {i : Nat} {x : α}, Paired F xs ys → xs[i]? = some x → ∃ y, ys[i]? = some y ∧ F x y
    | [], _, i, x, _, h => by simp at h
    | _ :: _, _, 0, x, hP, h => by
      cases hP with
      | cons a _ =>
        obtain rfl := Option.some.inj h
        exact ⟨_, rfl, a⟩
    | _ :: _, _, i + 1, x, hP, h => by
      cases hP with
      | cons _ b => exact paired_at' (i := i) b h
theorem paired_map {α β γ : Type} {r : α → γ → Prop} {r' : α → β → Prop} {f : β → γ} (h : ∀ x y, r' x y → r x (f y)) : ∀ {xs : List α} {ys : List β}, Paired r' xs ys → Paired r xs (ys.map f)
  | [], _, q => by
    cases q
    exact .nil
  | _ :: _, _, q => by
    cases q with
    | cons a b => exact .cons (h _ _ a) (paired_map h b)
theorem filterMap_some {α : Type} : ∀ l : List α, (l.map some).filterMap id = l
  | [] => rfl
  | a :: r => by
    show a :: (r.map some).filterMap id = a :: r
    rw [filterMap_some r]
def Tg (g : TG) (te : TE) (vs : List Nat) (σ : L2.St) (H : Hp) (x y : V) : Prop := ∀ H1, Ex H H1 → ∃ σ2, wipe σ2 vs = wipe σ vs ∧ Ev te σ2 H1 y ∧ ∀ R : L2.St → Hp → Prop, R σ2 H1 → g x (wipe σ vs) H1 R
theorem el_mapR {wi : TI} {g : TG} {xs : List V} {vs : List Nat} (ys : List V) (h : EvI wi σ H xs) (hz : xs.length ≤ 50000) (hp : Paired (Tg g te vs σ H) xs ys) : EvL (tLc wi g tYes te vs) σ H ys := by
  have z := el_lcR (tt := tYes) (te := te) (g := g) (ys.map some) h hz (paired_map (f := some) (fun x y q H1 e => by
    obtain ⟨σ2, h1, h2, h3⟩ := q H1 e
    exact ⟨σ2, h1, et_yes, fun v hv => by
      rw [← Option.some.inj hv]
      exact h2, h3⟩) hp)
  rw [filterMap_some] at z
  exact z
/-- an entry is laid in the dict at Dl -/
def MadeD (Pv : Addr → Nat → List (Key × V) → Hp → Prop) (Dl : Addr) (i : Nat) (y : V) : VK := fun z H5 => ∃ kvs k, y = kV k ∧ H5 Dl = some (.dK kvs) ∧ kvs.length < sizeLine ∧ ∃ kv2, kv2.length ≤ i + 1 ∧ (upd H5 Dl (.dK (putK kvs k z))) Dl = some (.dK kv2) ∧ Pv Dl (i + 1) kv2 (upd H5 Dl (.dK (putK kvs k z)))
theorem madeD {Pv : Addr → Nat → List (Key × V) → Hp → Prop} {Dl : Addr} {i : Nat} {k : Key} {H5 : Hp} {kvs : List (Key × V)} (h : H5 Dl = some (.dK kvs)) (hl : kvs.length ≤ i) (hi : i ≤ 60000) (p : Pv Dl (i + 1) (putK kvs k z) (upd H5 Dl (.dK (putK kvs k z)))) : MadeD Pv Dl i (kV k) z H5 :=
  ⟨kvs, k, rfl, h, sz_lt (by omega), _, by
    have := length_putK kvs k z
    omega, upd_same, p⟩
/-- a dict comprehension, word for word -/
theorem c_dc {wi : TI} {xs : List V} {vs : List Nat} {j : Nat} {Q : VK} (h : EvIb wi σ H xs) (e0 : Ex H H0) (hw : ∀ x, wipe ((wipe σ vs).set j (some x)) vs = wipe σ vs) (Pv : Addr → Nat → List (Key × V) → Hp → Prop) (h0 : ∀ Dl H1, Ex H0 H1 → H1 Dl = none → Pv Dl 0 [] (upd H1 Dl (.dK []))) (hG : ∀ Dl i kvs H', Pv Dl i kvs H' → Ex H H')
    (hs : ∀ Dl i x kvs H', xs[i]? = some x → kvs.length ≤ i → H' Dl = some (.dK kvs) → Pv Dl i kvs H' → tk ((wipe σ vs).set j (some x)) H' fun y H4 => tv ((wipe σ vs).set j (some x)) H4 (MadeD Pv Dl i y))
    (hd : ∀ Dl kvs H', H' Dl = some (.dK kvs) → Pv Dl xs.length kvs H' → Q (.ref Dl) H') : tDc wi (gName j) tYes tk tv vs σ H0 Q :=
  h H0 e0 _ fun J H1 e1 w Dl hD => by
    refine ⟨fun i m H' => m = xs.length - i ∧ i ≤ xs.length ∧ ∃ kvs, kvs.length ≤ i ∧ H' Dl = some (.dK kvs) ∧ Pv Dl i kvs H', ⟨xs.length, by simp, Nat.zero_le _, [], Nat.le_refl _, upd_same, h0 Dl H1 e1 hD⟩, ?_⟩
    rintro i m H' ⟨rfl, hi, kvs, hkl, hk, pv⟩
    have q := hG _ _ _ _ pv
    by_cases hlt : i < xs.length
    · refine .inr ⟨w.goes i H' hlt q, fun H'' => ∃ kvs, kvs.length ≤ i + 1 ∧ H'' Dl = some (.dK kvs) ∧ Pv Dl (i + 1) kvs H'', fun H'' p' => ⟨xs.length - (i + 1), by omega, rfl, hlt, p'⟩, fun x H'' y => ?_⟩
      obtain ⟨rfl, hx⟩ := w.yields i H' x H'' hlt q y
      refine ⟨hw x, ?_⟩
      unfold tYes
      dsimp only
      rw [if_pos rfl]
      exact hs Dl i x kvs _ hx hkl hk pv
    · have e : i = xs.length := by omega
      subst e
      exact .inl ⟨w.stops _ q, hd Dl kvs _ hk pv⟩
end
end Q7
/-! need_things -/
namespace Q7
open PySem PySem.Spec PyProof.Rows L2 Evl
structure ThsOk (ths : List TH) : Prop where
  few : ths.length ≤ 8
  nd : (ths.map TH.name).Nodup
  ok : ∀ t ∈ ths, ThOk t
  up : ∀ (i : Nat) (t : TH), ths[i]? = some t → t.kind = "field" → ∃ o, t.parts = [o] ∧ ∃ (j : Nat) (u : TH), j < i ∧ ths[j]? = some u ∧ u.name = o ∧ (u.kind = "source" ∨ u.kind = "field")
abbrev ThsV (K : PySem.W.Frag) (H : Hp) : List V → List TH → Prop := Paired (ThObj K H)
theorem ThsV.kp {K : PySem.W.Frag} {H H' : Hp} {us : List V} {ths : List TH} (k : Kp H H') (h : ThsV K H us ths) : ThsV K H' us ths := Paired.imp (fun _ _ z => z.kp k) h
/-- kinds by name, told by the first i -/
def KdV (kvs : List (Key × V)) (ths : List TH) : Prop := ∀ z : Str, valV kvs (Sum.inr z) = (findT ths z).map fun t => .str t.kind
theorem findT_mem : ∀ {ths : List TH} {t : TH}, (ths.map TH.name).Nodup → t ∈ ths → findT ths t.name = some t
  | [], t, _, h => by cases h
  | a :: r, t, hn, h => by
    rw [List.map_cons, List.nodup_cons] at hn
    unfold findT
    rw [List.find?_cons]
    rcases List.mem_cons.mp h with e | h
    · rw [e]
      simp
    · have hne : ¬ a.name = t.name := fun e => hn.1 (by
        rw [e]
        exact List.mem_map_of_mem h)
      rw [decide_eq_false hne]
      exact findT_mem hn.2 h
theorem findT_snoc {ths : List TH} {t : TH} {z : Str} (h : t.name ∉ ths.map TH.name) : findT (ths ++ [t]) z = if z = t.name then some t else findT ths z := by
  unfold findT
  rw [List.find?_append]
  by_cases e : z = t.name
  · subst e
    rw [if_pos rfl]
    have h0 : ths.find? (fun u => decide (u.name = t.name)) = none := by
      rw [List.find?_eq_none]
      intro u hu hd
      exact h (by
        rw [← of_decide_eq_true hd]
        exact List.mem_map_of_mem hu)
    rw [h0]
    simp
  · rw [if_neg e]
    have h1 : [t].find? (fun u => decide (u.name = z)) = none := by
      rw [List.find?_eq_none]
      intro u hu hd
      rw [List.mem_singleton.mp hu] at hd
      exact e (of_decide_eq_true hd).symm
    rw [h1]
    simp
theorem take_snoc {α : Type} {l : List α} {i : Nat} {x : α} (h : l[i]? = some x) : l.take (i + 1) = l.take i ++ [x] := by
  rw [List.take_add_one, h]
  rfl
theorem nd_name {ths : List TH} {i : Nat} {t : TH} (hn : (ths.map TH.name).Nodup) (h : ths[i]? = some t) : t.name ∉ (ths.take i).map TH.name := by
  rw [List.map_take]
  refine nd_take hn ?_
  rw [List.getElem?_map, h]
  rfl
section
variable {P : Program} {w : World} {K : PySem.W.Frag} {mg : Str → Option Value} {base : Heap}
def spNeedThings (K : PySem.W.Frag) : Sp := fun vs H Q _ => ∃ (a : Addr) (us : List V) (ths : List TH), vs = [.ref a] ∧ SqL K H a us ∧ ThsV K H us ths ∧ ThsOk ths ∧ RetV .non H Q
def nameV (H : Hp) : V → V
  | .ref x => (match H x with
    | some (.ins _ _ fs) => (fs.lookup ("name" : Str)).getD .non
    | _ => .non)
  | _ => .non
theorem ThsV.names {K : PySem.W.Frag} {H : Hp} {us : List V} {ths : List TH} (h : ThsV K H us ths) : us.map (nameV H) = (ths.map TH.name).map V.str := by
  induction h with
  | nil => rfl
  | cons a _ ih =>
    rw [List.map_cons, List.map_cons, List.map_cons, ih]
    obtain ⟨x, dx, b, rfl, hx, _⟩ := a
    show (match _ with
      | some (HO.ins _ _ fs) => _
      | _ => _) :: _ = _
    rw [hx]
    rfl
theorem sc_need_things : FnScope ["things", "known", "thing"] ["things"] (defScope s_need_things) := ⟨rfl, rfl, rfl, by decide +kernel, rfl, by decide +kernel, by decide +kernel⟩
theorem D_need_things (T : Txt w K mg) (D_need_unlike : Dn P w K mg base CX0 1 "need_unlike" (spNeedUnlike K)) : Dn P w K mg base CX0 2 "need_things" (spNeedThings K) := by
  refine mkD0 T.fds_need_things T.g_need_things T.kps_need_things sc_need_things (fun _ _ _ _ _ _ us hl => match us, hl with | [_], _ => rfl) (fun vs H Q E h => ?_) (fun cdv A outer s H vs Q E hr h => ?_)
  · obtain ⟨a, us, ths, rfl, _⟩ := h
    rfl
  · obtain ⟨a, us, ths, rfl, ha, hv, hok, q⟩ := h
    have hu := hu_of hr
    obtain ⟨_, GL_MOST_THINGS⟩ := T.i_MOST_THINGS
    have hlen : us.length = ths.length := Paired.length hv
    refine ⟨_, (pss_cons (ps_expr (pe_d D_need_unlike (hr.mono (by decide)) (by rfl) pass0 (pa_cons (pe_lc (own := [("thing", 2)]) (g := gName 2) (tt := tYes) rfl sc_need_things.nd (pi_list (pv 0)) (blkOk_by (own := [("thing", 2)]) (N := ["things", "known", "thing"]) (sc := defScope s_need_things) (by decide +kernel)) (fun _ _ _ _ _ => (pg_name (i := 2) sc_need_things.nd rfl (Or.inl rfl))) (fun _ _ _ _ _ => pts_nil) (fun _ _ _ _ _ => (pe_fldK (K := K) rfl (pv 2) rfl))) pa_nil)))
    (pss_cons (ps_set (i := 1) sc_need_things.nd rfl (Or.inl rfl) pe_dnewK)
    (pss_cons (ps_for PassesOwn.never rfl (pi_list (pv 0)) (pg_name (i := 2) sc_need_things.nd rfl (Or.inl rfl))
    (pss_cons (ps_if (PW.pt (pw_and (pt_cmpR op_eq (pe_fld (pv 2) rfl) pe_str (nomark _)) (pw_and1 (pt_cmpR op_notIn_seq (pe_dget2 hu (pv 1) (pe_ix ix_tup (pe_fld (pv 2) rfl) pe_int (fun _ _ => rfl)) pe_str ⟨rfl, rfl, rfl, rfl⟩) (pe_tup (pa_cons pe_str (pa_cons pe_str pa_nil))) (by rfl))))) (pss_one ps_never) pss_nil)
    (pss_one (ps_dput hu (pv 1) (pe_fld (pv 2) rfl) (pe_fld (pv 2) rfl) rfl))))
    (pss_one (ps_if (pt_cmpR op_gt (pe_callB call_len_seq (by rfl) T.n_len PySem.boot_len (pa_cons (pv 0) pa_nil)) (pe_glob (v := .int 8) (by rfl) GL_MOST_THINGS ⟨_, rfl⟩) (nomark _)) (pss_one ps_never) pss_nil))))), ?_⟩
    refine q_drop (ev_dL (z := .non) (xs := (ths.map TH.name).map V.str) ?_ fun p H1 e1 hp Q1 q1 => ⟨p, ths.map TH.name, rfl, Or.inl (sq_of hp), by
      rw [List.length_map]
      have := hok.few
      omega, hok.nd, q1⟩) fun H1 e1 => ?_
    · rw [← hv.names]
      refine el_map _ (ei_list (ev_var (i := 0) rfl) ha) (by have := hok.few; omega) (fun _ => rfl) fun x hx => ?_
      obtain ⟨i, hi⟩ := List.getElem?_of_mem hx
      obtain ⟨t, ht, y, dx, b, rfl, hy, hb⟩ := paired_at hv hi
      refine ev_is (ev_fld (a := y) (ev_var rfl) hy T.cls_Thing T.na_Thing_name rfl) ?_
      show _ = nameV H (.ref y)
      unfold nameV
      dsimp only
      rw [hy]
      rfl
    intro d hd
    have hdH : H d = none := fresh_back e1 hd
    have e2 := e1.trans (Ex.new (o := .dK []) hd)
    refine q_forB (H := H) (eb_list (ev_var (i := 0) rfl) ha) e2 (fun i σ' H' => ∃ y kvs, σ' = [some (.ref a), some (.ref d), y] ∧ Ex H H' ∧ H' d = some (.dK kvs) ∧ kvs.length ≤ i ∧ KdV kvs (ths.take i)) (fun H3 e3 => ⟨none, [], rfl, e2.trans e3, e3 _ _ upd_same, Nat.le_refl _, fun z => rfl⟩) (fun i σ' H' pv => by
      obtain ⟨_, _, _, e, _⟩ := pv
      exact e) (fun i x σ' H' hx pv => ?_) fun σ' H' pv => ?_
    · obtain ⟨y, kvs, rfl, e, hk, hkl, hkd⟩ := pv
      obtain ⟨t, ht, x, dx, b, rfl, hxo, hb⟩ := paired_at hv hx
      have htok := hok.ok t (List.mem_of_getElem? ht)
      have hx' := e _ _ hxo
      have hb' := ex_t e hb
      refine q_when (et_and (et_test (ev_eqS (ev_fld (a := x) (ev_var (i := 2) rfl) hx' T.cls_Thing T.na_Thing_kind rfl) ev_c)) fun hkf => et_test (b := false) ?_) (fun hb => by
        rw [Bool.and_false] at hb
        cases hb) fun hb2 H3 e3 => ?_
      · obtain ⟨o, hpo, j, u, hj, huj, hun, huk⟩ := hok.up i t ht (of_decide_eq_true hkf)
        rw [hpo] at hb'
        have hfu : findT (ths.take i) o = some u := by
          have hm : u ∈ ths.take i := by
            refine List.mem_of_getElem? (i := j) ?_
            rw [List.getElem?_take, if_pos hj]
            exact huj
          rw [← hun]
          refine findT_mem ?_ hm
          rw [List.map_take]
          exact hok.nd.sublist (List.take_sublist _ _)
        have hval : valV kvs (Sum.inr o) = some (.str u.kind) := by
          rw [hkd o, hfu]
          rfl
        refine ev_is (ev_niD (z := u.kind) ["source", "field"] ?_ (eu_tup (ea_cons ev_c (ea_cons ev_c ea_nil)) (by simp))) ?_
        · intro H4 e4 Q4 q4
          refine ⟨_, rfl, d, rfl, Or.inl ⟨kvs, Or.inl (e4 _ _ hk)⟩, ?_⟩
          refine ev_ixT (K := K) (a := b) (v := .str o) (ev_fld (a := x) (ev_var (i := 2) rfl) (e4 _ _ hx') T.cls_Thing T.na_Thing_parts rfl) (ex_t e4 hb') ev_c (atI_nat (j := 0) rfl) H4 (Ex.refl H4) _ fun H5 e5 => ?_
          refine ⟨some (.str u.kind), ?_, q4 H5 e5⟩
          have z := DGet.k (k := Sum.inr o) ((e4.trans e5) _ _ hk)
          rw [hval] at z
          exact z
        · have : decide (u.kind ∈ (["source", "field"] : List Str)) = true := by
            rcases huk with h | h
            · rw [h]; decide
            · rw [h]; decide
          rw [this]
          rfl
      · have hk3 := e3 _ _ hk
        refine ev_fld (K := K) (a := x) (ev_var (i := 2) rfl) (e3 _ _ hx') T.cls_Thing T.na_Thing_kind rfl H3 (Ex.refl H3) _ fun H4 e4 => ⟨_, rfl, ?_⟩
        refine ev_fld (K := K) (a := x) (ev_var (i := 2) rfl) ((e3.trans e4) _ _ hx') T.cls_Thing T.na_Thing_name rfl H4 (Ex.refl H4) _ fun H5 e5 => ?_
        refine ⟨d, _, rfl, DPut.k (k := Sum.inr t.name) ((e4.trans e5) _ _ hk3) (sz_lt ?_), ?_⟩
        · have := hok.few
          have := (List.getElem?_eq_some_iff.mp hx).1
          omega
        · refine ⟨_, _, rfl, Ex.mut (((e.trans e3).trans e4).trans e5) hdH, upd_same, ?_, fun z => ?_⟩
          · have := length_putK kvs (Sum.inr t.name : Key) (.str t.kind)
            omega
          · rw [valV_put, take_snoc ht, findT_snoc (nd_name hok.nd ht), hkd z]
            by_cases hz : z = t.name
            · subst hz
              rw [if_pos rfl, if_pos rfl]
              rfl
            · rw [if_neg (fun q => hz (Sum.inr.inj q)), if_neg hz]
    · obtain ⟨y, kvs, rfl, e, _⟩ := pv
      dsimp only
      refine s_when (et_test (ev_op (ev_lenL (ev_var (i := 0) rfl) (ex_l e ha)) ev_c rv_I0)) (fun hb => ?_) fun hb H3 e3 => q H3 (e.trans e3)
      have h1 := of_decide_eq_true hb
      have := hok.few
      omega
end
end Q7
/-! need_parts -/
namespace Q7
open PySem PySem.Spec PyProof.Rows L2 Evl
abbrev Part := Str × List R
def PtV (H : Hp) (v : V) (p : Part) : Prop := ∃ t l xs, v = .ref t ∧ H t = some (.tup [.str p.1, .ref l]) ∧ H l = some (.lst xs) ∧ Paired (RowV H) xs p.2
abbrev PtsV (H : Hp) : List V → List Part → Prop := Paired (PtV H)
def probeN : R → List Str
  | .pro n _ _ _ => [n]
  | .ass n _ _ _ => [n]
  | _ => []
def rowsR (ths : List TH) (later : List Str) : Int → List Str → List Blk → List R → Except (Str × Str × V) (List Str × List Blk)
  | _, met, bl, [] => .ok (met, bl)
  | n, met, bl, r :: rs => match rowR ths n later met r with
    | some e => .error e
    | none => match openE bl n (headR r) with
      | some e => .error e
      | none => rowsR ths later (n + 1) (met ++ probeN r) (openN bl n (headR r)) rs
def partsR (ths : List TH) : Int → List Str → List Part → Out
  | _, _, [] => none
  | n, met, p :: ps => match rowsR ths (ps.map Prod.fst) n met [] p.2 with
    | .error e => some e
    | .ok (met', bl) => match bl.getLast? with
      | some b => eUnmatched b.1
      | none => partsR ths (n + (p.2.length : Nat)) met' ps
def sumR : List Part → Nat
  | [] => 0
  | p :: ps => p.2.length + sumR ps
structure PartsOk (ps : List Part) : Prop where
  some_ : ps ≠ []
  few : ps.length ≤ 5
  nm : ∀ p ∈ ps, okN p.1 = true
  nd : (ps.map Prod.fst).Nodup
  rows : ∀ p ∈ ps, ∀ r ∈ p.2, ROk r
  sum : sumR ps ≤ 60
theorem openN_len {bl : List Blk} {n : Int} {w : Str} (hl : bl.length ≤ 8) (h : openE bl n w = none) : (openN bl n w).length ≤ 8 := by
  unfold openE at h
  unfold openN
  by_cases h1 : w = "if" ∨ w = "while"
  · rw [if_pos h1] at h ⊢
    by_cases h8 : bl.length = 8
    · rw [if_pos h8] at h
      cases h
    · rw [List.length_append, List.length_singleton]
      omega
  · rw [if_neg h1] at h ⊢
    by_cases h2 : w = "else"
    · rw [if_pos h2]
      cases hb : bl.getLast? with
      | none => exact hl
      | some b =>
        show (bl.dropLast ++ [(b.1, ("else" : Str))]).length ≤ 8
        have hne : bl ≠ [] := fun z => by
          rw [z] at hb
          cases hb
        have := List.length_pos_iff.mpr hne
        rw [List.length_append, List.length_singleton, List.length_dropLast]
        omega
    · rw [if_neg h2]
      split
      · rw [List.length_dropLast]
        omega
      · exact hl
theorem sqL_upd {K : PySem.W.Frag} {H : Hp} {o m : Addr} {u : HO} {xs : List V} (h : SqL K H o xs) (hne : o ≠ m) : SqL K (upd H m u) o xs := by
  rcases h with (h | ⟨d, h⟩) | h
  · exact Or.inl (Or.inl (by
      rw [upd_ne hne]
      exact h))
  · exact Or.inl (Or.inr ⟨d, by
      rw [upd_ne hne]
      exact h⟩)
  · exact Or.inr h
theorem drop_at {α : Type} {l : List α} {i : Nat} {x : α} (h : l[i]? = some x) : l.drop i = x :: l.drop (i + 1) := by
  obtain ⟨hi, rfl⟩ := List.getElem?_eq_some_iff.mp h
  exact List.drop_eq_getElem_cons hi
section
variable {P : Program} {w : World} {K : PySem.W.Frag} {mg : Str → Option Value} {base : Heap}
theorem tg_pair1 {K : PySem.W.Frag} {i j : Nat} {te : TE} {vs : List Nat} {σ : L2.St} {H : Hp} {t : Addr} {a b y : V} (hT : SqT K H t [a, b]) (hw : wipe (((wipe σ vs).set i (some a)).set j (some b)) vs = wipe σ vs) (he : Ev te (((wipe σ vs).set i (some a)).set j (some b)) H y) :
    Tg (gTup K 2 (gCons (gName i) (gCons (gName j) gNil))) te vs σ H (.ref t) y := fun H1 e => ⟨_, hw, fun H2 e2 => he H2 (e.trans e2), fun _ r => g_pair (ex_t e hT) r⟩
theorem q_asgD {D : Ends} {tz : TS} {te : TE} {i : Nat} {σ : L2.St} {H : Hp} (k : te σ H fun x H1 => tz D (σ.set i (some x)) H1) : tSeq (tAsg te (gName i)) tz D σ H := k
/-- an if without an else, its two ends joined -/
theorem q_whenJ {D : Ends} {tz tu : TS} {t : TT} {σ : L2.St} {H : Hp} {b : Bool} (J : Hp → Prop) (h : EvT t σ H b) (k : ∀ HG, J HG → tz D σ HG) (h1 : b = true → (∀ HG, J HG → tz D σ HG) → ∀ H1, Ex H H1 → tu { D with nx := tz D } σ H1) (h2 : b = false → ∀ H1, Ex H H1 → J H1) : tSeq (tIfS t tu tNext) tz D σ H :=
  q_when h (fun hb H1 e1 => h1 hb k H1 e1) fun hb H1 e1 => k H1 (h2 hb H1 e1)
def spNeedParts (K : PySem.W.Frag) : Sp := fun vs H Q E => ∃ (a b : Addr) (us pvs : List V) (ths : List TH) (ps : List Part), vs = [.ref a, .ref b] ∧ SqL K H a us ∧ ThsV K H us ths ∧ ThsOk ths ∧ SqT K H b pvs ∧ PtsV H pvs ps ∧ PartsOk ps ∧ RetO K (partsR ths 0 [] ps) H Q E
theorem sc_need_parts : FnScope ["things", "parts", "names", "known", "met", "number", "at", "name", "rows", "opened", "row", "thing"] ["things", "parts"] (defScope s_need_parts) := ⟨rfl, rfl, rfl, by decide +kernel, rfl, by decide +kernel, by decide +kernel⟩
theorem D_need_parts (T : Txt w K mg) (HP : PF P) (D_need_names : Dn P w K mg base CX0 2 "need_names" (spNeedNames K)) (D_need_unlike : Dn P w K mg base CX0 1 "need_unlike" (spNeedUnlike K)) (D_is_probe : Dn P w K mg base CX0 1 "is_probe" (spIsProbe K)) (D_need_row : Dn P w K mg base (L2.CX P w) 8 "need_row" (spNeedRow K)) (D_opened_behind : Dn P w K mg base (L2.CX P w) 3 "opened_behind" (spOpened K)) :
    Dn P w K mg base (L2.CX P w) 9 "need_parts" (spNeedParts K) := by
  refine mkD T.fds_need_parts T.g_need_parts T.kps_need_parts sc_need_parts (fun _ _ _ _ _ _ us hl => match us, hl with | [_, _], _ => rfl) (fun vs H Q E h => ?_) (fun cdv A outer s H vs Q E hr h => ?_)
  · obtain ⟨a, b, us, pvs, ths, ps, rfl, _⟩ := h
    rfl
  · obtain ⟨a, b, us, pvs, ths, ps, rfl, ha, hv, hok, hb, hP, hpo, q⟩ := h
    obtain ⟨_, GL_MOST_PARTS⟩ := T.i_MOST_PARTS
    obtain ⟨_, GL_MOST_ROWS⟩ := T.i_MOST_ROWS
    have hlen : us.length = ths.length := Paired.length hv
    have hplen : pvs.length = ps.length := Paired.length hP
    refine ⟨_, (pss_cons (ps_if (pt_not (pt_truth (pv 1) (fun _ => rfl))) (pss_one ps_never) pss_nil)
    (pss_cons (ps_if (pt_cmpR op_gt (pe_callB call_len_seq (by rfl) T.n_len PySem.boot_len (pa_cons (pv 1) pa_nil)) (pe_glob (v := .int 5) (by rfl) GL_MOST_PARTS ⟨_, rfl⟩) (nomark _)) (pss_one ps_never) pss_nil)
    (pss_cons (ps_setLc (i := 2) (own := [("name", 7), ("rows", 8)]) (g := gTup K 2 (gCons (gName 7) (gCons (gName 8) gNil))) (tt := tYes) rfl sc_need_parts.nd rfl rfl (sw_true rfl rfl rfl (by decide +kernel)) (pi_tup (pv 1)) (blkOk_by (own := [("name", 7), ("rows", 8)]) (N := ["things", "parts", "names", "known", "met", "number", "at", "name", "rows", "opened", "row", "thing"]) (sc := defScope s_need_parts) (by decide +kernel)) (fun _ _ _ _ _ => (pg_tup rfl (pgs_cons (pg_name (i := 7) sc_need_parts.nd rfl (Or.inl rfl)) (pgs_cons (pg_name (i := 8) sc_need_parts.nd rfl (Or.inl rfl)) pgs_nil)))) (fun _ _ _ _ _ => pts_nil) (fun _ _ _ _ _ => (pv 7)))
    (pss_cons (ps_expr (pe_d D_need_names (hr.mono (by decide)) (by rfl) pass0 (pa_cons (pv 2) pa_nil)))
    (pss_cons (ps_expr (pe_d D_need_unlike (hr.mono (by decide)) (by rfl) pass0 (pa_cons (pv 2) pa_nil)))
    (pss_cons (ps_if (pt_cmpR op_gt (pe_callB (cr_sum rfl) (by rfl) T.n_sum bo_sum (pa_cons (pe_lc (own := [("name", 7), ("rows", 8)]) (g := gTup K 2 (gCons (gName 7) (gCons (gName 8) gNil))) (tt := tYes) rfl sc_need_parts.nd (pi_tup (pv 1)) (blkOk_by (own := [("name", 7), ("rows", 8)]) (N := ["things", "parts", "names", "known", "met", "number", "at", "name", "rows", "opened", "row", "thing"]) (sc := defScope s_need_parts) (by decide +kernel)) (fun _ _ _ _ _ => (pg_tup rfl (pgs_cons (pg_name (i := 7) sc_need_parts.nd rfl (Or.inl rfl)) (pgs_cons (pg_name (i := 8) sc_need_parts.nd rfl (Or.inl rfl)) pgs_nil)))) (fun _ _ _ _ _ => pts_nil) (fun _ _ _ _ _ => (pe_callB (r := rLenQ K) call_len_seq (by rfl) T.n_len PySem.boot_len (pa_cons (pv 8) pa_nil)))) pa_nil)) (pe_glob (v := .int 60) (by rfl) GL_MOST_ROWS ⟨_, rfl⟩) (nomark _)) (pss_one ps_never) pss_nil)
    (pss_cons (ps_setDc (i := 3) (own := [("thing", 11)]) (g := gName 11) (tt := tYes) rfl sc_need_parts.nd rfl rfl (sw_trueD rfl rfl rfl (by decide +kernel)) (pi_list (pv 0)) (blkOk_by (own := [("thing", 11)]) (N := ["things", "parts", "names", "known", "met", "number", "at", "name", "rows", "opened", "row", "thing"]) (sc := defScope s_need_parts) (by decide +kernel)) (fun _ _ _ _ _ => (pg_name (i := 11) sc_need_parts.nd rfl (Or.inl rfl))) (fun _ _ _ _ _ => pts_nil) (fun _ _ _ _ _ => (pe_fldK (K := K) rfl (pv 11) rfl)) (fun _ _ _ _ _ => (pv 11)))
    (pss_cons (ps_set (i := 4) sc_need_parts.nd rfl (Or.inl rfl) (pe_lst pa_nil))
    (pss_cons (ps_set (i := 5) sc_need_parts.nd rfl (Or.inl rfl) pe_int)
    (pss_one (ps_for (passes_of rfl) rfl (pi_enumT (by rfl) T.n_enumerate (pa_cons (pv 1) pa_nil)) (pg_tup rfl (pgs_cons (pg_name (i := 6) sc_need_parts.nd rfl (Or.inl rfl)) (pgs_cons (pg_tup rfl (pgs_cons (pg_name (i := 7) sc_need_parts.nd rfl (Or.inl rfl)) (pgs_cons (pg_name (i := 8) sc_need_parts.nd rfl (Or.inl rfl)) pgs_nil))) pgs_nil)))
    (pss_cons (ps_set (i := 9) sc_need_parts.nd rfl (Or.inl rfl) (pe_lst pa_nil))
    (pss_cons (ps_for (passes_of rfl) rfl (pi_list (pv 8)) (pg_name (i := 10) sc_need_parts.nd rfl (Or.inl rfl))
    (pss_cons (ps_expr (pe_dx D_need_row (hr.mono (by decide)) (by rfl) (takes_of rfl rfl rfl rfl) (fun _ _ _ _ h => h) (pa_cons (pv 3) (pa_cons (pv 5) (pa_cons (pv 10) (pa_cons (pe_slice sl_list (pv 2) (po_some (pe_op op_add (pv 6) pe_int)) po_none) (pa_cons (pv 4) pa_nil)))))))
    (pss_cons (ps_if (pt_val (pe_d D_is_probe (hr.mono (by decide)) (by rfl) pass0 (pa_cons (pv 10) pa_nil))) (pss_one (ps_expr (pe_bm PySem.F.plainAttrs_list PySem.F.slot_list_append PySem.F.type_list_append mt_append (pv 4) (pa_cons (pe_ix ix_tup (pv 10) pe_int (fun _ _ => rfl)) pa_nil)))) pss_nil)
    (pss_cons (ps_set (i := 9) sc_need_parts.nd rfl (Or.inl rfl) (pe_dx D_opened_behind (hr.mono (by decide)) (by rfl) (takes_of rfl rfl rfl rfl) (fun _ _ _ _ h => h) (pa_cons (pv 9) (pa_cons (pv 5) (pa_cons (pe_ix ix_tup (pv 10) pe_int (fun _ _ => rfl)) pa_nil)))))
    (pss_one (ps_aug (i := 5) sc_need_parts.nd rfl (Or.inl rfl) pe_int ip_add))))))
    (pss_one (ps_if (pt_truth (pv 9) (fun _ => rfl)) (pss_one (ps_raise rfl (takes_of rfl rfl rfl rfl) (pmk_q T.Unmatched HP hr (pa_cons (pe_ix ix_tup (pe_ix ix_list (pv 9) (pe_un un_neg pe_int) (fun _ _ => rfl)) pe_int (fun _ _ => rfl)) pa_nil)))) pss_nil))))))))))))))), ?_⟩
    refine q_when (et_not (et_tru (ev_var (i := 1) rfl) (truT hb))) (fun hb1 => ?_) fun hb1 H1 e1 => ?_
    · have : pvs = [] := by simpa using hb1
      rw [this] at hplen
      exact absurd (List.length_eq_zero_iff.mp hplen.symm) hpo.some_
    refine q_when (et_test (ev_op (ev_lenT (ev_var (i := 1) rfl) (ex_t e1 hb)) ev_c rv_I0)) (fun hb2 => ?_) fun hb2 H2 e2 => ?_
    · have := of_decide_eq_true hb2
      have := hpo.few
      omega
    have e12 := e1.trans e2
    refine q_asgL (xs := (ps.map Prod.fst).map V.str) (el_mapR _ (ei_tup (ev_var (i := 1) rfl) (ex_t e12 hb)) (by have := hpo.few; omega) ?_) fun nm H3 hnm e3 h3 => ?_
    · rw [List.map_map]
      refine paired_map (fun v p hp => ?_) hP
      obtain ⟨t, l, xs, rfl, ht, hl, hr⟩ := hp
      exact tg_pair1 (a := .str p.1) (b := .ref l) (st_of (e12 _ _ ht)) rfl (ev_var rfl)
    have e13 := e12.trans e3
    refine q_drop (ev_d (z := .non) (ea_cons (ev_var (i := 2) rfl) ea_nil) fun H4 e4 Q4 q4 => ⟨nm, ps.map Prod.fst, rfl, sq_of (e4 _ _ h3), ⟨by
      rw [List.length_map]
      have := hpo.few
      omega, fun z hz => by
      obtain ⟨p, hp, rfl⟩ := List.mem_map.mp hz
      exact okN_len (hpo.nm p hp)⟩, fun z hz => by
      obtain ⟨p, hp, rfl⟩ := List.mem_map.mp hz
      exact hpo.nm p hp, q4⟩) fun H4 e4 => ?_
    have h4 := e4 _ _ h3
    refine q_drop (ev_d (z := .non) (ea_cons (ev_var (i := 2) rfl) ea_nil) fun H5 e5 Q5 q5 => ⟨nm, ps.map Prod.fst, rfl, Or.inl (sq_of (e5 _ _ h4)), by
      rw [List.length_map]
      have := hpo.few
      omega, hpo.nd, q5⟩) fun H5 e5 => ?_
    have h5 := e5 _ _ h4
    have e15 := (e13.trans e4).trans e5
    refine q_when (et_test (ev_op (ev_sum (ns := ps.map fun p => (p.2.length : Int)) (el_mapR _ (ei_tup (ev_var (i := 1) rfl) (ex_t e15 hb)) (by have := hpo.few; omega) ?_)) ev_c rv_I0)) (fun hb3 => ?_) fun hb3 H6 e6 => ?_
    · rw [List.map_map]
      refine paired_map (fun v p hp => ?_) hP
      obtain ⟨t, l, xs, rfl, ht, hl, hr⟩ := hp
      refine tg_pair1 (a := .str p.1) (b := .ref l) (st_of (e15 _ _ ht)) rfl (ev_is (ev_lenL (ev_var rfl) (sq_of (e15 _ _ hl))) ?_)
      rw [show xs.length = p.2.length from Paired.length hr]
      rfl
    · have h60 := of_decide_eq_true hb3
      have hs : ((ps.map fun p => (p.2.length : Int)).sum) = ((sumR ps : Nat) : Int) := by
        have : ∀ l : List Part, ((l.map fun p => (p.2.length : Int)).sum) = ((sumR l : Nat) : Int) := by
          intro l
          induction l with
          | nil => rfl
          | cons p r ih =>
            rw [List.map_cons, List.sum_cons, ih]
            show _ = ((p.2.length + sumR r : Nat) : Int)
            omega
        exact this ps
      rw [hs] at h60
      have := hpo.sum
      omega
    have h6 := e6 _ _ h5
    have e16 := e15.trans e6
    refine q_asgD (c_dc (h := eb_list (H := H) (ev_var (i := 0) rfl) ha) e16 (fun _ => rfl) (fun Dl i kvs H' => H Dl = none ∧ H6 Dl = none ∧ Ex H6 H' ∧ KnV K H' kvs (ths.take i)) (fun Dl H7 e7 hDl => ⟨fresh_back (e16.trans e7) hDl, fresh_back e7 hDl, e7.trans (Ex.new hDl), fun z => rfl⟩) (fun Dl i kvs H' pv => e16.trans pv.2.2.1) (fun Dl i x kvs H' hx hkl hk pv => ?_) fun d kvs H7 hd pv => ?_)
    · obtain ⟨hDl, hD6, e7, hkn⟩ := pv
      obtain ⟨t, ht, x, dx, bb, rfl, hxo, hbb⟩ := paired_at hv hx
      refine ev_fld (K := K) (a := x) (v := .str t.name) (ev_var (i := 11) rfl) ((e16.trans e7) _ _ hxo) T.cls_Thing T.na_Thing_name rfl H' (Ex.refl H') _ fun H8 e8 => ?_
      refine ⟨_, rfl, ?_⟩
      refine madeD (k := Sum.inr t.name) (e8 _ _ hk) hkl (by have := hok.few; have := (List.getElem?_eq_some_iff.mp hx).1; omega) ⟨hDl, hD6, Ex.mut (e7.trans e8) hD6, ?_⟩
      have kp8 : Kp H (upd H8 Dl (.dK (putK kvs (Sum.inr t.name) (.ref x)))) := Kp.ex (Ex.mut ((e16.trans e7).trans e8) hDl)
      intro z
      have hz := hkn z
      rw [take_snoc ht, findT_snoc (nd_name hok.nd ht), valV_put]
      by_cases hzn : z = t.name
      · subst hzn
        rw [if_pos rfl, if_pos rfl]
        exact ⟨.ref x, rfl, ThObj.kp kp8 ⟨x, dx, bb, rfl, hxo, hbb⟩⟩
      · rw [if_neg hzn, if_neg (fun q => hzn (Sum.inr.inj q))]
        cases hf : findT (ths.take i) z with
        | none =>
          rw [hf] at hz
          exact hz
        | some u =>
          rw [hf] at hz
          obtain ⟨v, hv1, hv2⟩ := hz
          refine ⟨v, hv1, ?_⟩
          have hm : u ∈ ths := List.mem_of_mem_take (List.mem_of_find?_eq_some hf)
          obtain ⟨x2, dx2, b2, rfl, g1, g2⟩ := hv2
          refine ⟨x2, dx2, b2, rfl, ?_, ?_⟩
          · by_cases hne : x2 = Dl
            · rw [hne, hk] at g1
              cases g1
            · rw [upd_ne hne]
              exact e8 _ _ g1
          · rcases g2 with (g2 | ⟨o, g2⟩) | g2
            · refine Or.inl (Or.inl ?_)
              by_cases hne : b2 = Dl
              · rw [hne, hk] at g2
                cases g2
              · rw [upd_ne hne]
                exact e8 _ _ g2
            · refine Or.inl (Or.inr ⟨o, ?_⟩)
              by_cases hne : b2 = Dl
              · rw [hne, hk] at g2
                cases g2
              · rw [upd_ne hne]
                exact e8 _ _ g2
            · exact Or.inr g2
    obtain ⟨hdH, hd6, e7, hkn⟩ := pv
    rw [hlen, List.take_length] at hkn
    have h7 := e7 _ _ h6
    have e17 := e16.trans e7
    show tSeq _ _ _ _ H7
    refine q_asgL (el_lst ea_nil (by decide)) fun m H8 hm e8 h8 => ?_
    refine q_asg ev_c fun H9 e9 => ?_
    have e79 := e8.trans e9
    have hb7 := ex_t e17 hb
    have hP7 : PtsV H7 pvs ps := Paired.imp (fun v p hp => by
      obtain ⟨t, l, xs, rfl, ht, hl, hr⟩ := hp
      exact ⟨t, l, xs, rfl, e17 _ _ ht, e17 _ _ hl, Paired.imp (fun _ _ z => z.kp (Kp.ex e17)) hr⟩) hP
    refine s_forPb (H := H7) (pb_enumT (ev_var (i := 1) rfl) hb7) e79 (fun i σ' H' => ∃ (n : Int) (met : List Str) (y6 y7 y8 y9 y10 y11 : Option V), σ' = [some (.ref a), some (.ref b), some (.ref nm), some (.ref d), some (.ref m), some (.int n), y6, y7, y8, y9, y10, y11] ∧ Ex H7 H' ∧ H' m = some (.lst (met.map V.str)) ∧ partsR ths n met (ps.drop i) = partsR ths 0 [] ps ∧ met.length + sumR (ps.drop i) ≤ 60)
      (fun H10 e10 => ⟨0, [], none, none, none, none, none, none, rfl, e79.trans e10, e10 _ _ (e9 _ _ h8), rfl, by
        have := hpo.sum
        simpa using this⟩) (fun i σ' H' pv => by
      obtain ⟨_, _, _, _, _, _, _, _, _, e, _⟩ := pv
      exact e) (fun i x y T0 σ' H' hxy pv hT => ?_) fun σ' H' pv => ?_
    · obtain ⟨n, met, y6, y7, y8, y9, y10, y11, rfl, e, hme, hrest, hsum⟩ := pv
      have hxy' : (enumV pvs)[i]? = some (x, y) := hxy
      obtain ⟨rfl, hy⟩ := enumV_at hxy'
      obtain ⟨p, hp, t, l, xs, rfl, ht, hl, hr⟩ := paired_at hP7 hy
      have hpm := List.mem_of_getElem? hp
      have hmT : m ≠ T0 := fun z => by
        rw [z, hT] at hme
        cases hme
      have eT : Ex H7 (upd H' T0 (.tup [.int (i : Nat), .ref t])) := e.trans (Ex.new hT)
      have hme1 : (upd H' T0 (.tup [.int (i : Nat), .ref t])) m = some (.lst (met.map V.str)) := by
        rw [upd_ne hmT]
        exact hme
      refine ⟨T0, _, rfl, st_of upd_same, rfl, _, _, rfl, _, _, rfl, t, _, rfl, st_of (eT _ _ ht), rfl, _, _, rfl, _, _, rfl, rfl, rfl, ?_⟩
      generalize hHA : upd H' T0 (.tup [.int (i : Nat), .ref t]) = HA at eT hme1 ⊢
      have hm7 : H7 m = none := fresh_back (Ex.refl _) hm
      refine q_asgL (el_lst ea_nil (by decide)) fun o HB ho eB hB => ?_
      have hom : o ≠ m := fun z => by
        rw [z, hme1] at ho
        cases ho
      have hdrop := drop_at hp
      have hsum' : met.length + (p.2.length + sumR (ps.drop (i + 1))) ≤ 60 := by
        rw [hdrop] at hsum
        exact hsum
      have hparts : partsR ths n met (ps.drop i) = (match rowsR ths ((ps.drop (i + 1)).map Prod.fst) n met [] p.2 with
        | .error e => some e
        | .ok (met', bl) => match bl.getLast? with
          | some b => eUnmatched b.1
          | none => partsR ths (n + (p.2.length : Nat)) met' (ps.drop (i + 1))) := by
        rw [hdrop]
        rfl
      have hxl : xs.length = p.2.length := Paired.length hr
      refine q_forB (H := H7) (eb_list (ev_var (i := 8) rfl) (sq_of hl)) (eT.trans eB) (fun j σ' H' => ∃ (n' : Int) (met' : List Str) (o' : Addr) (us' : List V) (bl : List Blk) (z10 z11 : Option V), σ' = [some (.ref a), some (.ref b), some (.ref nm), some (.ref d), some (.ref m), some (.int n'), some (.int (i : Nat)), some (.str p.1), some (.ref l), some (.ref o'), z10, z11] ∧ Ex H7 H' ∧ H' m = some (.lst (met'.map V.str)) ∧ SqL K H' o' us' ∧ BlsV H' us' bl ∧ o' ≠ m ∧ bl.length ≤ 8 ∧
          rowsR ths ((ps.drop (i + 1)).map Prod.fst) n' met' bl (p.2.drop j) = rowsR ths ((ps.drop (i + 1)).map Prod.fst) n met [] p.2 ∧ met'.length + ((p.2.length - j) + sumR (ps.drop (i + 1))) ≤ 60 ∧ n' = n + (j : Nat))
        (fun HC eC => ⟨n, met, o, [], [], y10, y11, rfl, (eT.trans eB).trans eC, eC _ _ (eB _ _ hme1), sq_of (eC _ _ hB), .nil, hom, by decide, rfl, by simpa using hsum', by simp⟩) (fun j σ' H' pv => by
        obtain ⟨_, _, _, _, _, _, _, _, e, _⟩ := pv
        exact e) (fun j x σ' H' hx pv => ?_) fun σ' H' pv => ?_
      · obtain ⟨n', met', o', us', bl, z10, z11, rfl, eD, hmD, hoD, hBD, hne, hb8, hrr, hs60, hn'⟩ := pv
        obtain ⟨r, hrj, hrv⟩ := paired_at hr hx
        have hrok := hpo.rows p hpm r (List.mem_of_getElem? hrj)
        have hdropj := drop_at hrj
        have hjl := (List.getElem?_eq_some_iff.mp hrj).1
        have hrow : rowsR ths ((ps.drop (i + 1)).map Prod.fst) n' met' bl (p.2.drop j) = (match rowR ths n' ((ps.drop (i + 1)).map Prod.fst) met' r with
          | some e => .error e
          | none => match openE bl n' (headR r) with
            | some e => .error e
            | none => rowsR ths ((ps.drop (i + 1)).map Prod.fst) (n' + 1) (met' ++ probeN r) (openN bl n' (headR r)) (p.2.drop (j + 1))) := by
          rw [hdropj]
          rfl
        have bad : ∀ e, rowsR ths ((ps.drop (i + 1)).map Prod.fst) n met [] p.2 = .error e → partsR ths 0 [] ps = some e := fun e he => by
          rw [← hrest, hparts, he]
        -- the call of need_row
        refine ⟨_, rfl, _, rfl, _, rfl, ?_⟩
        refine el_sl (K := K) (lo := some (((i : Nat) : Int) + 1)) (hi := none) (ev_var (i := 2) rfl) (eo_some (ev_op (ev_var (i := 6) rfl) ev_c rv_I0)) eo_none (sq_of ((eD) _ _ h7)) H' (Ex.refl H') _ fun sl HE hsl eE hE => ?_
        have ecut : cutV ((ps.map Prod.fst).map V.str) (some (((i : Nat) : Int) + 1)) none = ((ps.drop (i + 1)).map Prod.fst).map V.str := by
          rw [show (((i : Nat) : Int) + 1) = ((i + 1 : Nat) : Int) by omega, cutV_from, ← List.map_drop, ← List.map_drop]
        rw [ecut] at hE
        have eDE := eD.trans eE
        refine ⟨_, rfl, d, kvs, ths, n', _, r, sl, m, _, met', rfl, (eDE) _ _ hd, hkn.kp (Kp.ex eDE), hrv.kp (Kp.ex (eDE)), hrok, sq_of hE, sq_of (eE _ _ hmD), ?_⟩
        cases hrR : rowR ths n' ((ps.drop (i + 1)).map Prod.fst) met' r with
        | some e =>
          rw [hrR] at hrow
          have z := bad e (by rw [← hrr, hrow])
          rw [z] at q
          exact Er.ex (e17.trans eDE) q
        | none =>
          rw [hrR] at hrow
          intro HF eF
          have hrB : rowB r = true := by
            unfold rowR at hrR
            by_cases hz : rowB r = true
            · exact hz
            · rw [if_neg hz] at hrR
              cases hrR
          have eDF := eDE.trans eF
          have hmF := eF _ _ (eE _ _ hmD)
          have hoF := ex_l (eE.trans eF) hoD
          have hBF := hBD.kp (Kp.ex (eE.trans eF))
          obtain ⟨w0, ra, rest, rfl, hT2, hhd, hpr⟩ : ∃ (w0 : Str) (ra : Addr) (rest : List V), x = .ref ra ∧ SqT K HF ra (.str w0 :: rest) ∧ headR r = w0 ∧ ((decide (w0 ∈ probes2) = true ∧ ∃ nmr tl, rest = .str nmr :: tl ∧ probeN r = [nmr]) ∨ (decide (w0 ∈ probes2) = false ∧ probeN r = [])) := by
            have hrvF := hrv.kp (Kp.ex eDF)
            cases r with
            | non => cases hrB
            | tru => cases hrB
            | lst => cases hrB
            | str s => cases hrB
            | pro nmr g as bs =>
              obtain ⟨ra, b1, c1, rfl, hra, _⟩ := hrvF
              exact ⟨"probe", ra, _, rfl, st_of hra, rfl, Or.inl ⟨rfl, nmr, _, rfl, rfl⟩⟩
            | ass nmr g as t =>
              obtain ⟨ra, b1, c1, rfl, hra, _⟩ := hrvF
              exact ⟨"assert", ra, _, rfl, st_of hra, rfl, Or.inl ⟨rfl, nmr, _, rfl, rfl⟩⟩
            | tup ws =>
              obtain ⟨ra, rfl, hra⟩ := hrvF
              cases ws with
              | nil => cases hrB
              | cons w0 r0 =>
                obtain ⟨_, hnp, _⟩ := tupB_inv hrB
                exact ⟨w0, ra, _, rfl, st_of hra, rfl, Or.inr ⟨by simpa [probes2] using hnp, rfl⟩⟩
          refine q_whenJ (b := decide (w0 ∈ probes2)) (fun HG => Ex H7 HG ∧ HG m = some (.lst ((met' ++ probeN r).map V.str)) ∧ SqL K HG o' us' ∧ BlsV HG us' bl ∧ SqT K HG ra (.str w0 :: rest)) (et_B (ev_d (ea_cons (ev_var (i := 10) rfl) ea_nil) fun H9 e9 Q9 q9 => ⟨ra, w0, rest, rfl, ex_t e9 hT2, q9⟩)) (fun HG hJ => ?_) (fun hb k HG eG => ?_) fun hb HG eG => ?_
          · obtain ⟨eG, hmG, hoG, hBG, hTG⟩ := hJ
            refine ⟨_, rfl, _, rfl, ?_⟩
            refine ev_ixT (K := K) (v := .str w0) (ev_var (i := 10) rfl) hTG ev_c (atI_nat (j := 0) rfl) HG (Ex.refl HG) _ fun HI eI => ?_
            refine ⟨o', us', bl, n', w0, rfl, ex_l eI hoG, hBG.kp (Kp.ex eI), hb8, ?_⟩
            rw [hhd] at hrow
            cases hoe : openE bl n' w0 with
            | some e =>
              rw [hoe] at hrow
              have z := bad e (by rw [← hrr, hrow])
              rw [z] at q
              exact Er.ex (e17.trans (eG.trans eI)) q
            | none =>
              rw [hoe] at hrow
              intro p2 HK us2 hp2 eK hsl2 hbl2
              have hmK := eK _ _ (eI _ _ hmG)
              refine s_aug (i := 5) (a := n') (b := 1) rfl ev_c fun HL eL => ?_
              refine ⟨n' + 1, met' ++ probeN r, p2, us2, openN bl n' w0, _, _, rfl, ((eG.trans eI).trans eK).trans eL, eL _ _ hmK, ex_l eL hsl2, hbl2.kp (Kp.ex eL), ?_, openN_len hb8 hoe, ?_, ?_, by rw [hn']; omega⟩
              · intro z
                rcases hp2 with h | h
                · exact hne (h ▸ z)
                · rw [z, eI _ _ hmG] at h
                  cases h
              · rw [← hrr, hrow]
              · have : (probeN r).length ≤ 1 := by
                  cases r <;> simp [probeN]
                rw [List.length_append]
                omega
          · rcases hpr with ⟨_, nmr, tl, rfl, hpn⟩ | ⟨h, _⟩
            · refine s_app (eG _ _ hmF) (ev_var (i := 4) rfl) (ev_ixT (K := K) (v := .str nmr) (ev_var (i := 10) rfl) (ex_t eG hT2) ev_c (atI_nat (j := 1) rfl)) (by
                rw [List.length_map]
                omega) fun HI eI => k _ ?_
              refine ⟨Ex.mut ((eDF.trans eG).trans eI) hm7, ?_, sqL_upd (ex_l (eG.trans eI) hoF) hne, ?_, ?_⟩
              · rw [upd_same, hpn, List.map_append] <;> rfl
              · exact hBF.kp ((Kp.ex (eG.trans eI)).trans (Kp.put (eI _ _ (eG _ _ hmF))))
              · exact ((Kp.ex (eG.trans eI)).trans (Kp.put (eI _ _ (eG _ _ hmF)))).sqT hT2
            · rw [h] at hb
              cases hb
          · rcases hpr with ⟨h, _⟩ | ⟨_, hpn⟩
            · rw [h] at hb
              cases hb
            · refine ⟨eDF.trans eG, ?_, ex_l eG hoF, hBF.kp (Kp.ex eG), ex_t eG hT2⟩
              rw [hpn, List.append_nil]
              exact eG _ _ hmF
      · obtain ⟨n', met', o', us', bl, z10, z11, rfl, eD, hmD, hoD, hBD, hne, hb8, hrr, hs60, hn'⟩ := pv
        rw [hxl, List.drop_length] at hrr
        have hrr' : rowsR ths ((ps.drop (i + 1)).map Prod.fst) n met [] p.2 = .ok (met', bl) := hrr.symm
        rw [hrr'] at hparts
        rcases paired_concat hBD with ⟨rfl, rfl⟩ | ⟨u0, u, b0, bb, rfl, rfl, hB0, ba, rfl, hba⟩
        · refine s_when (b := false) (et_tru (ev_var (i := 9) rfl) (truL hoD)) (fun hb => by cases hb) fun hb HE eE => ?_
          refine ⟨n', met', _, _, _, _, _, _, rfl, eD.trans eE, eE _ _ hmD, ?_, ?_⟩
          · rw [← hrest, hparts, hn', hxl]
            rfl
          · omega
        · have hne' : (!(u0 ++ [V.ref ba]).isEmpty) = true := by simp
          refine s_when (et_tru (ev_var (i := 9) rfl) (truL hoD)) (fun hb HE eE => ?_) fun hb => by
            rw [hne'] at hb
            cases hb
          have hlast : (b0 ++ [bb]).getLast? = some bb := by simp
          have z : partsR ths 0 [] ps = eUnmatched bb.1 := by
            rw [← hrest, hparts]
            show (match (b0 ++ [bb]).getLast? with
              | some b => eUnmatched b.1
              | none => _) = _
            rw [hlast]
          rw [z] at q
          have e1E := e17.trans (eD.trans eE)
          refine ev_ixT (K := K) (a := ba) (v := .int bb.1) (ev_ixL (K := K) (ev_var (i := 9) rfl) (ex_l eE hoD) (ev_un ev_c ru_neg) (atI_last _ _)) (st_of (eE _ _ hba)) ev_c (atI_nat (j := 0) rfl) HE (Ex.refl HE) _ fun HG eG => ⟨.int bb.1, rfl, fun d2 hd2 => Er.go (Er.ex (e1E.trans eG) q) (Ex.refl HG) hd2⟩
    · obtain ⟨n, met, y6, y7, y8, y9, y10, y11, rfl, e, hme, hrest, hsum⟩ := pv
      have hl : (enumV pvs).length = ps.length := by simp [enumV, hplen]
      rw [hl, List.drop_length] at hrest
      rw [← hrest] at q
      exact q H' (e17.trans e)
end
end Q7
/-! comprehensions with two fors; comprehensions that make new things; fields set on oneself -/
namespace Q7
open PySem PySem.Spec PyProof.Rows L2 Evl
theorem pi_tupK {X : Cx} {K : PySem.W.Frag} {tg l : Expr} {tl : TE} (hK : X.K = K) (hl : PE X l tl) : PI X tg l (iTup K tl) := by
  subst hK
  exact pi_tup hl
theorem pi_listK {X : Cx} {K : PySem.W.Frag} {tg l : Expr} {tl : TE} (hK : X.K = K) (hl : PE X l tl) : PI X tg l (iList K tl) := by
  subst hK
  exact pi_list hl
theorem paired_get {α β : Type} {F : α → β → Prop} : ∀ {xs : List α} {ys : List β} {i : Nat} {x : α}, Paired F xs ys → xs[i]? = some x → ∃ y, ys[i]? = some y ∧ F x y
  | [], _, i, x, _, h => by simp at h
  | _ :: _, _, 0, x, hP, h => by
    cases hP with
    | cons a _ =>
      obtain rfl := Option.some.inj h
      exact ⟨_, rfl, a⟩
  | _ :: _, _, i + 1, x, hP, h => by
    cases hP with
    | cons _ b => exact paired_get (i := i) b h
section
variable {K : PySem.W.Frag} {σ : L2.St} {H H' H0 : Hp} {ta tb te tx tl tk tv : TE} {t u tt : TT} {x y z v : V}
def Tg2 (g : TG) (wi1 : TI) (g1 : TG) (te : TE) (vs vs1 : List Nat) (σ : L2.St) (H : Hp) (x : V) (ys : List V) : Prop := ∀ H1, Ex H H1 → ∃ σ2, wipe σ2 vs = wipe σ vs ∧ (∀ R : L2.St → Hp → Prop, R σ2 H1 → g x (wipe σ vs) H1 R) ∧ ∃ xs1, EvIb wi1 σ2 H xs1 ∧ Paired (Tg g1 te vs1 σ2 H) xs1 ys
theorem take_add {α : Type} {l : List α} {i : Nat} {x : α} (h : l[i]? = some x) : l.take (i + 1) = l.take i ++ [x] := by
  rw [List.take_add_one, h]
  rfl
theorem flat_take_le : ∀ (l : List (List V)) (i : Nat), (l.take i).flatten.length ≤ l.flatten.length
  | _, 0 => Nat.zero_le _
  | [], _ + 1 => Nat.le_refl _
  | a :: r, i + 1 => by
    have := flat_take_le r i
    simp only [List.take_succ_cons, List.flatten_cons, List.length_append]
    omega
theorem el_lc2 {wi wi1 : TI} {g g1 : TG} {xs : List V} {vs vs1 : List Nat} (yss : List (List V)) (h : EvI wi σ H xs) (hz : yss.flatten.length ≤ 50000) (hp : Paired (Tg2 g wi1 g1 te vs vs1 σ H) xs yss) : EvL (tLc2 wi g tYes wi1 g1 tYes te vs vs1) σ H yss.flatten := fun H0 e Q q =>
  h H0 e _ fun J H1 e1 w Dl hD => by
    have hlen : xs.length = yss.length := Paired.length hp
    have eH1 : Ex H H1 := e.trans e1
    have hDH : H Dl = none := fresh_back eH1 hD
    refine ⟨fun i m H' => m = xs.length - i ∧ i ≤ xs.length ∧ Ex H1 H' ∧ H' Dl = some (.lst (yss.take i).flatten), ⟨xs.length, by simp, Nat.zero_le _, Ex.new hD, upd_same⟩, ?_⟩
    rintro i m H' ⟨rfl, hi, p2, p3⟩
    by_cases hlt : i < xs.length
    · refine .inr ⟨w.goes i H' hlt p2, fun H'' => Ex H1 H'' ∧ H'' Dl = some (.lst (yss.take (i + 1)).flatten), fun H'' p' => ⟨xs.length - (i + 1), by omega, rfl, hlt, p'⟩, fun x H'' y => ?_⟩
      obtain ⟨rfl, hx⟩ := w.yields i H' x H'' hlt p2 y
      obtain ⟨ys, hys, hT⟩ := paired_get hp hx
      obtain ⟨σ2, hw, hg, xs1, hI, hP1⟩ := hT _ (eH1.trans p2)
      have hl1 : xs1.length = ys.length := Paired.length hP1
      have hflat : (yss.take (i + 1)).flatten = (yss.take i).flatten ++ ys := by
        rw [take_add hys, List.flatten_append]
        simp
      have hle := flat_take_le yss (i + 1)
      rw [hflat, List.length_append] at hle
      refine hg _ ⟨hw, ?_⟩
      unfold tYes
      dsimp only
      rw [if_pos rfl]
      refine hI _ (eH1.trans p2) _ fun J1 H4 e4 w1 => ?_
      refine ⟨fun j k H5 => k = xs1.length - j ∧ j ≤ xs1.length ∧ Ex H1 H5 ∧ H5 Dl = some (.lst ((yss.take i).flatten ++ ys.take j)), ⟨xs1.length, by simp, Nat.zero_le _, p2.trans e4, by
        rw [List.take_zero, List.append_nil]
        exact e4 _ _ p3⟩, ?_⟩
      rintro j k H5 ⟨rfl, hj, r2, r3⟩
      by_cases hjl : j < xs1.length
      · refine .inr ⟨w1.goes j H5 hjl (eH1.trans r2), fun H6 => Ex H1 H6 ∧ H6 Dl = some (.lst ((yss.take i).flatten ++ ys.take (j + 1))), fun H6 p' => ⟨xs1.length - (j + 1), by omega, rfl, hjl, p'⟩, fun x1 H6 y1 => ?_⟩
        obtain ⟨rfl, hx1⟩ := w1.yields j H5 x1 H6 hjl (eH1.trans r2) y1
        obtain ⟨v1, hv1, hT1⟩ := paired_get hP1 hx1
        obtain ⟨σ3, hw3, hev, hg1⟩ := hT1 _ (eH1.trans r2)
        refine hg1 _ ⟨hw3, ?_⟩
        rw [if_pos rfl]
        refine hev _ (Ex.refl _) _ fun H7 e7 => ⟨_, e7 _ _ r3, sz_lt ?_, Ex.mut (r2.trans e7) hD, ?_⟩
        · rw [List.length_append, List.length_take]
          omega
        · rw [upd_same, take_add hv1, List.append_assoc]
      · have ej : j = xs1.length := by omega
        subst ej
        refine .inl ⟨w1.stops _ (eH1.trans r2), r2, ?_⟩
        rw [hflat, r3, hl1, List.take_length]
    · have ei : i = xs.length := by omega
      subst ei
      refine .inl ⟨w.stops _ p2, q Dl _ (fresh_back e1 hD) (e1.trans p2) ?_⟩
      rw [hlen, List.take_length] at p3
      exact p3
/-- a turn that makes something new -/
def TgN (g : TG) (te : TE) (vs : List Nat) (σ : L2.St) (H : Hp) (S : V → V → Hp → Prop) (x : V) : Prop := ∀ H1, Ex H H1 → ∃ σ2, wipe σ2 vs = wipe σ vs ∧ EvN te σ2 H1 (S x) ∧ ∀ R : L2.St → Hp → Prop, R σ2 H1 → g x (wipe σ vs) H1 R
theorem en_mapR {wi : TI} {g : TG} {xs : List V} {vs : List Nat} {S : V → V → Hp → Prop} (mono : ∀ x y H H', Kp H H' → S x y H → S x y H') (h : EvI wi σ H xs) (hz : xs.length ≤ 50000) (ht : ∀ x ∈ xs, TgN g te vs σ H S x) :
    EvN (tLc wi g tYes te vs) σ H (fun v H2 => ∃ p ys, v = .ref p ∧ H p = none ∧ H2 p = some (.lst ys) ∧ Paired (fun x y => S x y H2) xs ys) := fun H0 e Q q =>
  h H0 e _ fun J H1 e1 w Dl hD => by
    refine lc_it w (fun n H' => H1 Dl = none ∧ Ex H1 H' ∧ ∃ ys, H' Dl = some (.lst ys) ∧ ys.length = n ∧ Paired (fun x y => S x y H') (xs.take n) ys) ⟨hD, Ex.new hD, [], upd_same, rfl, .nil⟩ (fun _ H' _ p => p.2.1) (fun n x H' H2 hi pv y => ?_) (fun H' p => ?_)
    · obtain ⟨rfl, hx⟩ := y
      obtain ⟨p1, p2, ys, p3, hl, p4⟩ := pv
      obtain ⟨σ2, hw, he, hg⟩ := ht x (List.mem_of_getElem? hx) _ ((e.trans e1).trans p2)
      refine hg _ ⟨hw, ?_⟩
      unfold tYes
      dsimp only
      rw [if_pos rfl]
      refine he _ (Ex.refl _) _ fun y H4 e4 hS => ?_
      have hd := e4 Dl _ p3
      have kp := Kp.put (ys := ys ++ [y]) hd
      refine ⟨_, hd, sz_lt (by omega), p1, Ex.mut (p2.trans e4) p1, _, upd_same, by rw [List.length_append, hl] <;> rfl, ?_⟩
      rw [take_add hx]
      exact Paired.snoc (Paired.imp (fun a b k => mono a b _ _ ((Kp.ex e4).trans kp) k) p4) (mono x y _ _ kp hS)
    · obtain ⟨p1, p2, ys, p3, hl, p4⟩ := p
      rw [List.take_length] at p4
      exact q _ H' (e1.trans p2) ⟨Dl, ys, rfl, fresh_back (e.trans e1) p1, p3, p4⟩
/-- all but Dl stays -/
def KD (Dl : Addr) (H H' : Hp) : Prop := ∀ c o, c ≠ Dl → H c = some o → H' c = some o
/-- .. over pairs; the list that is made is at Dl -/
def TgNP (g : TG) (te : TE) (vs : List Nat) (σ : L2.St) (H : Hp) (S : Addr → V × V → V → Hp → Prop) (x : V × V) : Prop := ∀ H1 T Dl acc, Ex H H1 → H1 T = some (.tup [x.1, x.2]) → H1 Dl = some (.lst acc) → ∃ σ2, wipe σ2 vs = wipe σ vs ∧ EvN te σ2 H1 (S Dl x) ∧ ∀ R : L2.St → Hp → Prop, R σ2 H1 → g (.ref T) (wipe σ vs) H1 R
theorem en_mapP {wi : TI} {g : TG} {xs : List (V × V)} {vs : List Nat} {S : Addr → V × V → V → Hp → Prop} (mono : ∀ Dl x y H H', KD Dl H H' → S Dl x y H → S Dl x y H') (h : EvP wi σ H xs) (hz : xs.length ≤ 50000) (ht : ∀ x ∈ xs, TgNP g te vs σ H S x) :
    EvN (tLc wi g tYes te vs) σ H (fun v H2 => ∃ p ys, v = .ref p ∧ H p = none ∧ H2 p = some (.lst ys) ∧ Paired (fun x y => S p x y H2) xs ys) := fun H0 e Q q =>
  h H0 e _ fun J H1 e1 w Dl hD => by
    refine lc_it w (fun n H' => H1 Dl = none ∧ Ex H1 H' ∧ ∃ ys, H' Dl = some (.lst ys) ∧ ys.length = n ∧ Paired (fun x y => S Dl x y H') (xs.take n) ys) ⟨hD, Ex.new hD, [], upd_same, rfl, .nil⟩ (fun _ H' _ p => p.2.1) (fun n x H' H2 hi pv y => ?_) (fun H' p => ?_)
    · obtain ⟨T, a, b, rfl, hT, rfl, ha, hb⟩ := y
      obtain ⟨p1, p2, ys, p3, hl, p4⟩ := pv
      have hx := pair_at ha hb
      have eT : Ex H' (upd H' T (.tup [a, b])) := Ex.new hT
      obtain ⟨σ2, hw, he, hg⟩ := ht (a, b) (List.mem_of_getElem? hx) _ T Dl ys ((e.trans e1).trans (p2.trans eT)) upd_same (eT _ _ p3)
      refine hg _ ⟨hw, ?_⟩
      unfold tYes
      dsimp only
      rw [if_pos rfl]
      refine he _ (Ex.refl _) _ fun y H4 e4 hS => ?_
      have hd := e4 Dl _ (eT _ _ p3)
      have kp : KD Dl H4 (upd H4 Dl (.lst (ys ++ [y]))) := fun c o hc h => by
        rw [upd_ne hc]
        exact h
      refine ⟨_, hd, sz_lt (by omega), p1, Ex.mut ((p2.trans eT).trans e4) p1, _, upd_same, by rw [List.length_append, hl] <;> rfl, ?_⟩
      rw [take_add hx]
      exact Paired.snoc (Paired.imp (fun a b k => mono Dl a b _ _ (fun c o hc h => kp c o hc ((eT.trans e4) c o h)) k) p4) (mono Dl (a, b) y _ _ kp hS)
    · obtain ⟨p1, p2, ys, p3, hl, p4⟩ := p
      rw [List.take_length] at p4
      exact q _ H' (e1.trans p2) ⟨Dl, ys, rfl, fresh_back (e.trans e1) p1, p3, p4⟩
theorem en_U {xs : List V} (h : EvU te σ H xs) : EvN te σ H fun v H2 => ∃ p, v = .ref p ∧ H2 p = some (.tup xs) := fun H1 e Q q => h H1 e Q fun p H2 _ e2 h2 => q _ H2 e2 ⟨p, rfl, h2⟩
theorem en_L {xs : List V} (h : EvL te σ H xs) : EvN te σ H fun v H2 => ∃ p, v = .ref p ∧ H2 p = some (.lst xs) := fun H1 e Q q => h H1 e Q fun p H2 _ e2 h2 => q _ H2 e2 ⟨p, rfl, h2⟩
theorem EvN.imp {S S' : V → Hp → Prop} (h : EvN te σ H S) (k : ∀ v H', S v H' → S' v H') : EvN te σ H S' := fun H1 e Q q => h H1 e Q fun y H2 e2 s => q y H2 e2 (k y H2 s)
/-- tuple(new list), what is made told -/
theorem en_tupN {S : List V → Hp → Prop} (mono : ∀ ys H H', Kp H H' → S ys H → S ys H') (h : EvN ta σ H fun v H2 => ∃ p ys, v = .ref p ∧ H2 p = some (.lst ys) ∧ S ys H2) :
    EvN (tCB (rTupQ K) (tCons ta tNil)) σ H fun v H2 => ∃ p ys, v = .ref p ∧ H2 p = some (.tup ys) ∧ S ys H2 := fun H1 e Q q =>
  h H1 e _ fun y H2 e2 s => by
    obtain ⟨p, ys, rfl, hp, hS⟩ := s
    exact ⟨p, ys, rfl, Or.inl ⟨sq_of hp, fun l hl => q _ _ (e2.trans (Ex.new hl)) ⟨l, ys, rfl, upd_same, mono _ _ _ (Kp.ex (Ex.new hl)) hS⟩⟩⟩
/-! ### fields of oneself -/
/-- tuples and lists stay -/
def Tl (H H' : Hp) : Prop := (∀ c xs, H c = some (.tup xs) → H' c = some (.tup xs)) ∧ ∀ c xs, H c = some (.lst xs) → H' c = some (.lst xs)
def rm (H : Hp) (x : Addr) : Hp := fun c => if c = x then none else H c
theorem rm_same {x : Addr} : rm H x x = none := if_pos rfl
theorem rm_ne {x c : Addr} (h : c ≠ x) : rm H x c = H c := if_neg h
theorem rm_tl {x : Addr} {C dx : Addr} {fs : List (Str × V)} (h : H x = some (.ins C dx fs)) : Tl H (rm H x) := by
  refine ⟨fun c xs hc => ?_, fun c xs hc => ?_⟩
  · rw [rm_ne (fun z => by
      rw [z, h] at hc
      cases hc)]
    exact hc
  · rw [rm_ne (fun z => by
      rw [z, h] at hc
      cases hc)]
    exact hc
theorem rm_ex {x : Addr} {u : HO} : Ex (rm H x) (upd H x u) := fun c o hc => by
  by_cases h : c = x
  · rw [h, rm_same] at hc
    cases hc
  · rw [upd_ne h]
    rw [rm_ne h] at hc
    exact hc
theorem ex_rm {B : Hp} {x : Addr} (h : Ex B H) (hx : B x = none) : Ex B (rm H x) := fun c o hc => by
  rw [rm_ne (fun z => by
    rw [z, hx] at hc
    cases hc)]
  exact h c o hc
/-- self.f = e: B, what is there but oneself -/
theorem q_fldx {D : Ends} {tz : TS} {f : Str} {B : Hp} {x C dx : Addr} {fs : List (Str × V)} {S : V → Hp → Prop} (mono : ∀ v H H', Tl H H' → S v H → S v H') (hs : σ[0]? = some (some (.ref x))) (hB : Ex B H) (hx : B x = none) (hxo : H x = some (.ins C dx fs)) (hc : Cls K C) (hn : NoAttr K C f) (hl : fs.length < 1000)
    (hv : EvN te σ H S) (k : ∀ v B1, Ex B B1 → B1 x = none → S v B1 → ∀ H1, Ex B1 H1 → H1 x = some (.ins C dx (putF f v fs)) → tz D σ H1) : tSeq (sFld K (tVar 0) te f) tz D σ H :=
  hv H (Ex.refl H) _ fun v H1 e1 s => ⟨_, hs, x, C, dx, fs, rfl, e1 _ _ hxo, hc, hn, hl, k v (rm H1 x) (ex_rm (hB.trans e1) hx) rm_same (mono _ _ _ (rm_tl (e1 _ _ hxo)) s) _ rm_ex upd_same⟩
theorem s_fldx {D : Ends} {f : Str} {B : Hp} {x C dx : Addr} {fs : List (Str × V)} {S : V → Hp → Prop} (mono : ∀ v H H', Tl H H' → S v H → S v H') (hs : σ[0]? = some (some (.ref x))) (hB : Ex B H) (hx : B x = none) (hxo : H x = some (.ins C dx fs)) (hc : Cls K C) (hn : NoAttr K C f) (hl : fs.length < 1000)
    (hv : EvN te σ H S) (k : ∀ v B1, Ex B B1 → B1 x = none → S v B1 → ∀ H1, Ex B1 H1 → H1 x = some (.ins C dx (putF f v fs)) → D.nx σ H1) : sFld K (tVar 0) te f D σ H :=
  q_fldx (tz := fun D σ H => D.nx σ H) mono hs hB hx hxo hc hn hl hv k
theorem parts_flat : ∀ (l : List (List V)) (n : Nat), (∀ y ∈ l, y.length ≤ n) → l.flatten.length ≤ n * l.length
  | [], n, _ => Nat.zero_le _
  | a :: r, n, h => by
    have h1 := parts_flat r n fun y hy => h y (List.mem_cons_of_mem _ hy)
    have h2 := h a List.mem_cons_self
    rw [List.flatten_cons, List.length_append, List.length_cons, Nat.mul_succ]
    omega
end
theorem paired_join {α β γ : Type} {r : α → β → Prop} {r' : α → γ → Prop} {q : β → γ → Prop} (h : ∀ x y z, r x y → r' x z → q y z) : ∀ {xs : List α} {ys : List β} {zs : List γ}, Paired r xs ys → Paired r' xs zs → Paired q ys zs
  | [], _, _, h1, h2 => by
    cases h1
    cases h2
    exact .nil
  | _ :: _, _, _, h1, h2 => by
    cases h1 with
    | cons a b =>
      cases h2 with
      | cons c d => exact .cons (h _ _ _ a c) (paired_join h b d)
theorem paired_take {α β : Type} {r : α → β → Prop} : ∀ {xs : List α} {ys : List β} (k : Nat), Paired r xs ys → Paired r (xs.take k) (ys.take k)
  | _, _, 0, _ => by
    rw [List.take_zero, List.take_zero]
    exact .nil
  | _, _, k + 1, .nil => .nil
  | _, _, k + 1, .cons a b => .cons a (paired_take k b)
theorem paired_self {α : Type} {r : α → α → Prop} : ∀ {xs : List α}, (∀ x ∈ xs, r x x) → Paired r xs xs
  | [], _ => .nil
  | a :: l, h => .cons (h a List.mem_cons_self) (paired_self fun x hx => h x (List.mem_cons_of_mem _ hx))
section
variable {K : PySem.W.Frag} {σ : L2.St} {H : Hp} {te : TE} {tt : TT} {vs vs1 : List Nat} {i j k : Nat} {t : Addr} {a b c x : V}
theorem tg2_pair {wi1 : TI} {g1 : TG} {ys : List V} (hT : SqT K H t [a, b]) (hw : wipe (((wipe σ vs).set i (some a)).set j (some b)) vs = wipe σ vs) (xs1 : List V) (hI : EvIb wi1 (((wipe σ vs).set i (some a)).set j (some b)) H xs1) (hP : Paired (Tg g1 te vs1 (((wipe σ vs).set i (some a)).set j (some b)) H) xs1 ys) :
    Tg2 (gTup K 2 (gCons (gName i) (gCons (gName j) gNil))) wi1 g1 te vs vs1 σ H (.ref t) ys := fun H1 e => ⟨_, hw, fun R r => g_pair (ex_t e hT) r, xs1, hI, hP⟩
theorem tgN_pair {S : V → V → Hp → Prop} (hT : SqT K H t [a, b]) (hw : wipe (((wipe σ vs).set i (some a)).set j (some b)) vs = wipe σ vs) (he : ∀ H1, Ex H H1 → EvN te (((wipe σ vs).set i (some a)).set j (some b)) H1 (S (.ref t))) :
    TgN (gTup K 2 (gCons (gName i) (gCons (gName j) gNil))) te vs σ H S (.ref t) := fun H1 e => ⟨_, hw, he H1 e, fun R r => g_pair (ex_t e hT) r⟩
theorem tgO_name {y : Option V} (hw : wipe ((wipe σ vs).set i (some x)) vs = wipe σ vs) (ht : ∀ H1, Ex H H1 → EvT tt ((wipe σ vs).set i (some x)) H1 y.isSome) (hv : ∀ H1, Ex H H1 → ∀ v, y = some v → Ev te ((wipe σ vs).set i (some x)) H1 v) : TgO (gName i) tt te vs σ H x y :=
  fun H1 e => ⟨_, hw, ht H1 e, hv H1 e, fun R r => r⟩
theorem tgNP_pair3 {S : Addr → V × V → V → Hp → Prop} (hT : SqT K H t [a, b]) (hw : wipe ((((wipe σ vs).set i (some a)).set j (some b)).set k (some c)) vs = wipe σ vs)
    (he : ∀ H1 Dl acc, Ex H H1 → H1 Dl = some (.lst acc) → EvN te ((((wipe σ vs).set i (some a)).set j (some b)).set k (some c)) H1 (S Dl (.ref t, c))) :
    TgNP (gTup K 2 (gCons (gTup K 2 (gCons (gName i) (gCons (gName j) gNil))) (gCons (gName k) gNil))) te vs σ H S (.ref t, c) := fun H1 T0 Dl acc e hT0 hDl =>
  ⟨_, hw, he H1 Dl acc e hDl, fun R r => ⟨T0, _, rfl, st_of hT0, rfl, _, _, rfl, t, _, rfl, ex_t e hT, rfl, _, _, rfl, _, _, rfl, rfl, _, _, rfl, rfl, r⟩⟩
end
end Q7
/-! jumps_of -/
namespace Q7
open PySem PySem.Spec PyProof.Rows L2 Evl
theorem rowHead {K : PySem.W.Frag} {H : Hp} {v : V} {r : R} (hv : RowV H v r) (hB : rowB r = true) : ∃ (w0 : Str) (ra : Addr) (rest : List V), v = .ref ra ∧ H ra = some (.tup (.str w0 :: rest)) ∧ headR r = w0 ∧ ((decide (w0 ∈ probes2) = true ∧ ∃ nmr tl, rest = .str nmr :: tl ∧ probeN r = [nmr]) ∨ (decide (w0 ∈ probes2) = false ∧ probeN r = [])) := by
  cases r with
  | non => cases hB
  | tru => cases hB
  | lst => cases hB
  | str s => cases hB
  | pro nmr g as bs =>
    obtain ⟨ra, b1, c1, rfl, hra, _⟩ := hv
    exact ⟨"probe", ra, _, rfl, hra, rfl, Or.inl ⟨rfl, nmr, _, rfl, rfl⟩⟩
  | ass nmr g as t =>
    obtain ⟨ra, b1, c1, rfl, hra, _⟩ := hv
    exact ⟨"assert", ra, _, rfl, hra, rfl, Or.inl ⟨rfl, nmr, _, rfl, rfl⟩⟩
  | tup ws =>
    obtain ⟨ra, rfl, hra⟩ := hv
    cases ws with
    | nil => cases hB
    | cons w0 r0 =>
      obtain ⟨_, hnp, _⟩ := tupB_inv hB
      exact ⟨w0, ra, _, rfl, hra, rfl, Or.inr ⟨by simpa [probes2] using hnp, rfl⟩⟩
theorem rowR_B {ths : List TH} {n : Int} {later met : List Str} {r : R} (h : rowR ths n later met r = none) : rowB r = true := by
  unfold rowR at h
  by_cases hz : rowB r = true
  · exact hz
  · rw [if_neg hz] at h
    cases h
/-- one row passes -/
theorem rowsR_step {ths : List TH} {later : List Str} {n : Int} {met : List Str} {bl : List Blk} {r : R} {rs : List R} {out : List Str × List Blk} (h : rowsR ths later n met bl (r :: rs) = .ok out) :
    rowR ths n later met r = none ∧ openE bl n (headR r) = none ∧ rowsR ths later (n + 1) (met ++ probeN r) (openN bl n (headR r)) rs = .ok out := by
  have h' : (match rowR ths n later met r with
    | some e => .error e
    | none => match openE bl n (headR r) with
      | some e => .error e
      | none => rowsR ths later (n + 1) (met ++ probeN r) (openN bl n (headR r)) rs) = (.ok out : Except (Str × Str × V) (List Str × List Blk)) := h
  cases h1 : rowR ths n later met r with
  | some e =>
    rw [h1] at h'
    cases h'
  | none =>
    rw [h1] at h'
    cases h2 : openE bl n (headR r) with
    | some e =>
      rw [h2] at h'
      cases h'
    | none =>
      rw [h2] at h'
      exact ⟨rfl, rfl, h'⟩
/-- the rows pass, from some state -/
def Pass (m : Nat) (rows : List R) : Prop := ∃ ths later n met bl out, bl.length = m ∧ rowsR ths later n met bl rows = .ok out
def stepB (m : Nat) (w : Str) : Nat := if w = "if" ∨ w = "while" then m + 1 else if w = "else" then m else if w = "end" then m - 1 else m
theorem Pass.step {m : Nat} {r : R} {rs : List R} (h : Pass m (r :: rs)) : rowB r = true ∧ ((headR r = "else" ∨ headR r = "end") → 0 < m) ∧ Pass (stepB m (headR r)) rs := by
  obtain ⟨ths, later, n, met, bl, out, rfl, hr⟩ := h
  obtain ⟨h1, h2, h3⟩ := rowsR_step hr
  refine ⟨rowR_B h1, fun he => ?_, ths, later, _, _, _, out, ?_, h3⟩
  · refine List.length_pos_iff.mpr fun hz => ?_
    rw [hz] at h2
    unfold openE at h2
    rcases he with he | he
    · rw [he, if_neg (by decide), if_pos rfl] at h2
      cases h2
    · rw [he, if_neg (by decide), if_neg (by decide), if_pos rfl, if_pos rfl] at h2
      cases h2
  · unfold stepB openN
    by_cases c1 : headR r = "if" ∨ headR r = "while"
    · rw [if_pos c1, if_pos c1, List.length_append]
      rfl
    · rw [if_neg c1, if_neg c1]
      by_cases c2 : headR r = "else"
      · rw [if_pos c2, if_pos c2]
        cases hb : bl.getLast? with
        | none => rfl
        | some b =>
          show (bl.dropLast ++ [(b.1, ("else" : Str))]).length = _
          have hne : bl ≠ [] := fun z => by
            rw [z] at hb
            cases hb
          have := List.length_pos_iff.mpr hne
          rw [List.length_append, List.length_singleton, List.length_dropLast]
          omega
      · rw [if_neg c2, if_neg c2]
        by_cases c3 : headR r = "end"
        · rw [if_pos c3, if_pos c3, List.length_dropLast]
        · rw [if_neg c3, if_neg c3]
theorem Pass.all : ∀ {rows : List R} {m : Nat}, Pass m rows → ∀ r ∈ rows, rowB r = true
  | [], _, _, _, h => by cases h
  | a :: l, m, hp, r, h => by
    obtain ⟨h1, _, h2⟩ := hp.step
    rcases List.mem_cons.mp h with e | h
    · rw [e]
      exact h1
    · exact Pass.all h2 r h
/-- an opened block, as jumps_of keeps it -/
def JtV (i : Nat) (H : Hp) (v : V) : Prop := ∃ (t : Addr) (o : Nat) (m : V), v = .ref t ∧ H t = some (.tup [.int (o : Nat), m]) ∧ o < i ∧ (m = .non ∨ ∃ k : Nat, m = .int (k : Nat) ∧ k < i)
theorem JtV.kp {i j : Nat} {H H' : Hp} {v : V} (k : Kp H H') (hij : i ≤ j) (h : JtV i H v) : JtV j H' v := by
  obtain ⟨t, o, m, h1, h2, h3, h4⟩ := h
  refine ⟨t, o, m, h1, k.tup h2, by omega, ?_⟩
  rcases h4 with h4 | ⟨k, h4, h5⟩
  · exact Or.inl h4
  · exact Or.inr ⟨k, h4, by omega⟩
section
variable {P : Program} {w : World} {K : PySem.W.Frag} {mg : Str → Option Value} {base : Heap}
def spJumps (K : PySem.W.Frag) : Sp := fun vs H Q _ => ∃ (a : Addr) (bg : Int) (xs : List V) (rows : List R), vs = [.ref a, .int bg] ∧ SqT K H a xs ∧ Paired (RowV H) xs rows ∧ Pass 0 rows ∧ rows.length ≤ 60 ∧
  ∀ p o1 o2 H' l1 l2, H o1 = none → H o2 = none → Ex H H' → H' p = some (.tup [.ref o1, .ref o2]) → H' o1 = some (.lst l1) → H' o2 = some (.lst l2) → l1.length = rows.length → l2.length = rows.length → Q (.ref p) H'
theorem sc_jumps_of : FnScope ["rows", "begin", "onward", "otherwise", "opened", "at", "row", "opening", "middle"] ["rows", "begin"] (defScope s_jumps_of) := ⟨rfl, rfl, rfl, by decide +kernel, rfl, by decide +kernel, by decide +kernel⟩
theorem D_jumps_of (T : Txt w K mg) : Dn P w K mg base CX0 1 "jumps_of" (spJumps K) := by
  refine mkD0 T.fds_jumps_of T.g_jumps_of T.kps_jumps_of sc_jumps_of (fun _ _ _ _ _ _ us hl => match us, hl with | [_, _], _ => rfl) (fun vs H Q E h => ?_) (fun cdv A outer s H vs Q E hr h => ?_)
  · obtain ⟨a, bg, xs, rows, rfl, _⟩ := h
    rfl
  · obtain ⟨a, bg, xs, rows, rfl, ha, hR, hpass, h60, q⟩ := h
    have hlen : xs.length = rows.length := Paired.length hR
    refine ⟨_, (pss_cons (ps_setLc (i := 2) (own := [("at", 5)]) (g := gName 5) (tt := tYes) rfl sc_jumps_of.nd rfl rfl (sw_true rfl rfl rfl (by decide +kernel)) (pi_range1 (by rfl) T.n_range (pa_cons (pe_callB call_len_seq (by rfl) T.n_len PySem.boot_len (pa_cons (pv 0) pa_nil)) pa_nil)) (blkOk_by (own := [("at", 5)]) (N := ["rows", "begin", "onward", "otherwise", "opened", "at", "row", "opening", "middle"]) (sc := defScope s_jumps_of) (by decide +kernel)) (fun _ _ _ _ _ => (pg_name (i := 5) sc_jumps_of.nd rfl (Or.inl rfl))) (fun _ _ _ _ _ => pts_nil) (fun _ _ _ _ _ => (pe_op op_add (pe_op op_add (pv 1) (pv 5)) pe_int)))
    (pss_cons (ps_set (i := 3) sc_jumps_of.nd rfl (Or.inl rfl) (pe_callTy call_list_of (by rfl) T.n_list bo_list (pa_cons (pv 2) pa_nil)))
    (pss_cons (ps_set (i := 4) sc_jumps_of.nd rfl (Or.inl rfl) (pe_lst pa_nil))
    (pss_cons (ps_for PassesOwn.never rfl (pi_enumT (by rfl) T.n_enumerate (pa_cons (pv 0) pa_nil)) (pg_tup rfl (pgs_cons (pg_name (i := 5) sc_jumps_of.nd rfl (Or.inl rfl)) (pgs_cons (pg_name (i := 6) sc_jumps_of.nd rfl (Or.inl rfl)) pgs_nil)))
    (pss_one (ps_match (pe_ix ix_tup (pv 6) pe_int (fun _ _ => rfl)) (pm_cons (ppat_or (pfst_cons ppat_val (pfst_cons ppat_val pfst_nil))) (pss_one (ps_expr (pe_bm PySem.F.plainAttrs_list PySem.F.slot_list_append PySem.F.type_list_append mt_append (pv 4) (pa_cons (pe_tup (pa_cons (pv 5) (pa_cons pe_non pa_nil))) pa_nil))))
    (pm_cons ppat_val (pss_cons (ps_asg (pe_bm0 PySem.F.plainAttrs_list PySem.F.slot_list_pop PySem.F.type_list_pop mt_pop (pv 4)) (pg_tup rfl (pgs_cons (pg_name (i := 7) sc_jumps_of.nd rfl (Or.inl rfl)) (pgs_cons (pg_name (i := 8) sc_jumps_of.nd rfl (Or.inl rfl)) pgs_nil))))
    (pss_one (ps_expr (pe_bm PySem.F.plainAttrs_list PySem.F.slot_list_append PySem.F.type_list_append mt_append (pv 4) (pa_cons (pe_tup (pa_cons (pv 7) (pa_cons (pv 5) pa_nil))) pa_nil)))))
    (pm_cons ppat_val (pss_cons (ps_asg (pe_bm0 PySem.F.plainAttrs_list PySem.F.slot_list_pop PySem.F.type_list_pop mt_pop (pv 4)) (pg_tup rfl (pgs_cons (pg_name (i := 7) sc_jumps_of.nd rfl (Or.inl rfl)) (pgs_cons (pg_name (i := 8) sc_jumps_of.nd rfl (Or.inl rfl)) pgs_nil))))
    (pss_one (ps_if (pt_cmpR op_eq (pe_ix ix_tup (pe_ix ix_tup (pv 0) (pv 7) (fun _ _ => rfl)) pe_int (fun _ _ => rfl)) pe_str (nomark _)) (pss_cons (ps_asg (pe_op op_add (pv 1) (pv 7)) (pg_sub (pv 2) (pv 5) set_list (fun _ => rfl)))
    (pss_one (ps_asg (pe_op op_add (pe_op op_add (pv 1) (pv 5)) pe_int) (pg_sub (pv 3) (pv 7) set_list (fun _ => rfl))))) (pss_one (ps_if (pt_cmpR op_isN (pv 8) pe_non (nomark _)) (pss_one (ps_asg (pe_op op_add (pe_op op_add (pv 1) (pv 5)) pe_int) (pg_sub (pv 3) (pv 7) set_list (fun _ => rfl)))) (pss_cons (ps_asg (pe_op op_add (pe_op op_add (pv 1) (pv 8)) pe_int) (pg_sub (pv 3) (pv 7) set_list (fun _ => rfl)))
    (pss_one (ps_asg (pe_op op_add (pe_op op_add (pv 1) (pv 5)) pe_int) (pg_sub (pv 2) (pv 8) set_list (fun _ => rfl))))))))))
    pm_nil))))))
    (pss_one (ps_ret (pe_tup (pa_cons (pv 2) (pa_cons (pv 3) pa_nil))))))))), ?_⟩
    refine q_asgL (xs := (nats xs.length).map fun v => match v with
      | .int k => .int (bg + k + 1)
      | _ => .non) (el_map _ (ei_rng (n := xs.length) (ea_cons (ev_lenT (ev_var (i := 0) rfl) ha) ea_nil) (by omega)) (by unfold nats; rw [List.length_map, List.length_range]; omega) (fun _ => rfl) fun x hx => ?_) fun o1 H1 ho1 e1 h1 => ?_
    · obtain ⟨k, _, rfl⟩ := List.mem_map.mp hx
      exact ev_op (ev_op (ev_var (i := 1) rfl) (ev_var rfl) rv_I0) ev_c rv_I0
    have hl1 : ((nats xs.length).map fun v => match v with
      | .int k => V.int (bg + k + 1)
      | _ => .non).length = rows.length := by
      rw [List.length_map]
      unfold nats
      rw [List.length_map, List.length_range, hlen]
    generalize ((nats xs.length).map fun v => match v with
      | .int k => V.int (bg + k + 1)
      | _ => .non) = L1 at h1 hl1
    refine q_asgL (el_listL (ev_var (i := 2) rfl) (sq_of h1)) fun o2 H2 ho2 e2 h2 => ?_
    refine q_asgL (el_lst ea_nil (by decide)) fun op H3 hop e3 h3 => ?_
    have o1H : H o1 = none := ho1
    have o2H : H o2 = none := fresh_back e1 ho2
    have opH : H op = none := fresh_back (e1.trans e2) hop
    have n12 : o1 ≠ o2 := fun z => by
      rw [← z, h1] at ho2
      cases ho2
    have n1p : o1 ≠ op := fun z => by
      rw [← z, e2 _ _ h1] at hop
      cases hop
    have n2p : o2 ≠ op := fun z => by
      rw [← z, h2] at hop
      cases hop
    have e03 := (e1.trans e2).trans e3
    refine q_forPb (H := H) (pb_enumT (ev_var (i := 0) rfl) ha) e03 (fun i σ' H' => ∃ (l1 l2 us : List V) (y5 y6 y7 y8 : Option V), σ' = [some (.ref a), some (.int bg), some (.ref o1), some (.ref o2), some (.ref op), y5, y6, y7, y8] ∧ Ex H H' ∧ H' o1 = some (.lst l1) ∧ H' o2 = some (.lst l2) ∧ H' op = some (.lst us) ∧ l1.length = rows.length ∧ l2.length = rows.length ∧ us.length ≤ i ∧ (∀ v ∈ us, JtV i H' v) ∧ Pass us.length (rows.drop i))
      (fun H4 e4 => ⟨L1, L1, [], none, none, none, none, rfl, e03.trans e4, e4 _ _ (e3 _ _ (e2 _ _ h1)), e4 _ _ (e3 _ _ h2), e4 _ _ h3, hl1, hl1, Nat.le_refl _, (fun v hv => by cases hv), hpass⟩) (fun i σ' H' pv => by
      obtain ⟨_, _, _, _, _, _, _, _, e, _⟩ := pv
      exact e) (fun i x y T0 σ' H' hxy pv hT => ?_) fun σ' H' pv => ?_
    · obtain ⟨l1, l2, us, y5, y6, y7, y8, rfl, e, g1, g2, gp, k1, k2, kus, hj, hps⟩ := pv
      have hxy' : (enumV xs)[i]? = some (x, y) := hxy
      obtain ⟨rfl, hy⟩ := enumV_at hxy'
      obtain ⟨r, hr, hrv⟩ := paired_at hR hy
      have hil := (List.getElem?_eq_some_iff.mp hr).1
      rw [drop_at hr] at hps
      obtain ⟨hB, hpos, hps'⟩ := hps.step
      obtain ⟨w0, ra, rest, rfl, hra, hhd, _⟩ := rowHead (K := K) hrv hB
      have nT : ∀ {b : Addr} {u : HO}, H' b = some u → b ≠ T0 := fun hb z => by
        rw [z, hT] at hb
        cases hb
      have eT : Ex H' (upd H' T0 (.tup [.int (i : Nat), .ref ra])) := Ex.new hT
      refine g_pair (st_of upd_same) ?_
      generalize upd H' T0 (.tup [.int (i : Nat), .ref ra]) = HA at eT ⊢
      have eA := e.trans eT
      have hT2 : SqT K HA ra (.str w0 :: rest) := st_of (eA _ _ hra)
      refine s_match (y := w0) (ev_ixT (ev_var (i := 6) rfl) hT2 ev_c (atI_nat (j := 0) rfl)) fun HB eB => ?_
      have eAB := eT.trans eB
      have eHB := eA.trans eB
      have b1 := eAB _ _ g1
      have b2 := eAB _ _ g2
      have bp := eAB _ _ gp
      have hjB : ∀ v ∈ us, JtV i HB v := fun v hv => (hj v hv).kp (Kp.ex eAB) (Nat.le_refl _)
      rw [hhd] at hpos hps'
      by_cases c1 : w0 = "if" ∨ w0 = "while"
      · refine mcase_yes (by
          show (decide (w0 = "if") || (decide (w0 = "while") || false)) = true
          rcases c1 with rfl | rfl
          · decide
          · decide) ?_
        refine s_appU (ys := [.int (i : Nat), .non]) bp (ev_var (i := 4) rfl) (eu_tup (ea_cons (ev_var (i := 5) rfl) (ea_cons ev_c ea_nil)) (by simp)) (by omega) fun p HC hp eC hC => ?_
        have kC : Kp HC (upd HC op (.lst (us ++ [.ref p]))) := Kp.put (eC _ _ bp)
        refine ⟨l1, l2, us ++ [.ref p], _, _, _, _, rfl, Ex.mut (eHB.trans eC) opH, by rw [upd_ne n1p]; exact eC _ _ b1, by rw [upd_ne n2p]; exact eC _ _ b2, upd_same, k1, k2, by rw [List.length_append, List.length_singleton]; omega, fun v hv => ?_, ?_⟩
        · rcases List.mem_append.mp hv with hv | hv
          · exact (hjB v hv).kp ((Kp.ex eC).trans kC) (by omega)
          · rw [List.mem_singleton.mp hv]
            exact ⟨p, i, .non, rfl, kC.tup hC, by omega, Or.inl rfl⟩
        · unfold stepB at hps'
          rw [if_pos c1] at hps'
          rw [List.length_append]
          exact hps'
      · have c1' := not_or.mp c1
        refine mcase_no (by
          show (decide (w0 = "if") || (decide (w0 = "while") || false)) = false
          rw [decide_eq_false c1'.1, decide_eq_false c1'.2]
          rfl) ?_
        unfold stepB at hps'
        rw [if_neg c1] at hps'
        -- what is popped
        have pop : 0 < us.length → ∃ u0 t o m, us = u0 ++ [.ref t] ∧ HB t = some (.tup [.int (o : Nat), m]) ∧ o < i ∧ (m = .non ∨ ∃ k : Nat, m = .int (k : Nat) ∧ k < i) := fun h0 => by
          obtain ⟨u0, u, rfl⟩ : ∃ u0 u, us = u0 ++ [u] := ⟨us.dropLast, us.getLast (List.length_pos_iff.mp h0), (List.dropLast_concat_getLast _).symm⟩
          obtain ⟨t, o, m, rfl, h2, h3, h4⟩ := hjB u (by simp)
          exact ⟨u0, t, o, m, rfl, h2, h3, h4⟩
        by_cases c2 : w0 = "else"
        · subst c2
          refine mcase_yes rfl ?_
          rw [if_pos rfl] at hps'
          obtain ⟨u0, t, o, m, rfl, ht, hoi, hm⟩ := pop (hpos (Or.inl rfl))
          refine ⟨_, rfl, Or.inl ⟨rfl, _, sq_of bp⟩, op, _, .ref t, rfl, rfl, bp, by simp, ?_⟩
          rw [List.dropLast_concat]
          have kp1 : Kp HB (upd HB op (.lst u0)) := Kp.put bp
          refine g_pair (st_of (kp1.tup ht)) ?_
          refine s_appU (xs := u0) (ys := [.int (o : Nat), .int (i : Nat)]) upd_same (ev_var (i := 4) rfl) (eu_tup (ea_cons (ev_var (i := 7) rfl) (ea_cons (ev_var (i := 5) rfl) ea_nil)) (by simp)) (by rw [List.length_append] at kus; omega) fun p HC hp eC hC => ?_
          have kC : Kp HC (upd HC op (.lst (u0 ++ [.ref p]))) := Kp.put (eC _ _ upd_same)
          have kall := kp1.trans ((Kp.ex eC).trans kC)
          refine ⟨l1, l2, u0 ++ [.ref p], _, _, _, _, rfl, Ex.mut ((Ex.mut eHB opH).trans eC) opH, by rw [upd_ne n1p]; exact eC _ _ (by rw [upd_ne n1p]; exact b1), by rw [upd_ne n2p]; exact eC _ _ (by rw [upd_ne n2p]; exact b2), upd_same, k1, k2, by rw [List.length_append] at kus ⊢; simp at kus ⊢; omega, fun v hv => ?_, ?_⟩
          · rcases List.mem_append.mp hv with hv | hv
            · exact (hjB v (List.mem_append_left _ hv)).kp kall (by omega)
            · rw [List.mem_singleton.mp hv]
              exact ⟨p, o, .int (i : Nat), rfl, kC.tup hC, by omega, Or.inr ⟨i, rfl, by omega⟩⟩
          · rw [List.length_append] at hps' ⊢
            exact hps'
        · refine mcase_no (decide_eq_false c2) ?_
          rw [if_neg c2] at hps'
          by_cases c3 : w0 = "end"
          · subst c3
            refine mcase_yes rfl ?_
            rw [if_pos rfl] at hps'
            obtain ⟨u0, t, o, m, rfl, ht, hoi, hm⟩ := pop (hpos (Or.inr rfl))
            refine ⟨_, rfl, Or.inl ⟨rfl, _, sq_of bp⟩, op, _, .ref t, rfl, rfl, bp, by simp, ?_⟩
            rw [List.dropLast_concat]
            have kp1 : Kp HB (upd HB op (.lst u0)) := Kp.put bp
            refine g_pair (st_of (kp1.tup ht)) ?_
            -- the row that opened
            obtain ⟨x0, hx0⟩ : ∃ x0, xs[o]? = some x0 := ⟨_, List.getElem?_eq_getElem (by omega)⟩
            obtain ⟨r0, hr0, hrv0⟩ := paired_at hR hx0
            obtain ⟨w1, rb, rest1, rfl, hrb, _⟩ := rowHead (K := K) hrv0 (hpass.all r0 (List.mem_of_getElem? hr0))
            have kl : u0.length ≤ i := by
              rw [List.length_append] at kus
              omega
            have ho1l : o < l1.length := by omega
            have ho2l : o < l2.length := by omega
            have hi1l : i < l1.length := by omega
            have fin : ∀ HF l1' l2', Ex H HF → Kp HB HF → HF o1 = some (.lst l1') → HF o2 = some (.lst l2') → HF op = some (.lst u0) → l1'.length = rows.length → l2'.length = rows.length → ∃ (l1 l2 us : List V) (y5 y6 y7 y8 : Option V), ([some (.ref a), some (.int bg), some (.ref o1), some (.ref o2), some (.ref op), some (.int (i : Nat)), some (.ref ra), some (.int (o : Nat)), some m] : L2.St) = [some (.ref a), some (.int bg), some (.ref o1), some (.ref o2), some (.ref op), y5, y6, y7, y8] ∧ Ex H HF ∧ HF o1 = some (.lst l1) ∧ HF o2 = some (.lst l2) ∧ HF op = some (.lst us) ∧ l1.length = rows.length ∧ l2.length = rows.length ∧ us.length ≤ i + 1 ∧ (∀ v ∈ us, JtV (i + 1) HF v) ∧ Pass us.length (rows.drop (i + 1)) := fun HF l1' l2' eF kF f1 f2 f3 f4 f5 =>
              ⟨l1', l2', u0, _, _, _, _, rfl, eF, f1, f2, f3, f4, f5, by omega, fun v hv => (hjB v (List.mem_append_left _ hv)).kp kF (by omega), by
                rw [List.length_append] at hps'
                exact hps'⟩
            generalize hHC : upd HB op (.lst u0) = HC
            have eHC : Ex H HC := by
              rw [← hHC]
              exact Ex.mut eHB opH
            have kHC : Kp HB HC := by
              rw [← hHC]
              exact kp1
            have d1 : HC o1 = some (.lst l1) := by
              rw [← hHC, upd_ne n1p]
              exact b1
            have d2 : HC o2 = some (.lst l2) := by
              rw [← hHC, upd_ne n2p]
              exact b2
            have dp : HC op = some (.lst u0) := by
              rw [← hHC]
              exact upd_same
            refine s_if (et_test (ev_eqS (ev_ixT (ev_ixT (ev_var (i := 0) rfl) (ex_t eHC ha) (ev_var (i := 7) rfl) (atI_nat (j := o) hx0)) (st_of (eHC _ _ hrb)) ev_c (atI_nat (j := 0) rfl)) ev_c)) (fun hb HD eD => ?_) fun hb HD eD => ?_
            · refine q_setL (j := i) (v := .int (bg + (o : Nat))) (eD _ _ d1) (ev_op (ev_var (i := 1) rfl) (ev_var (i := 7) rfl) rv_I0) (ev_var (i := 2) rfl) (ev_var (i := 5) rfl) hi1l fun HE eE => ?_
              have g2' : (upd HE o1 (.lst (l1.set i (.int (bg + (o : Nat)))))) o2 = some (.lst l2) := by
                rw [upd_ne (Ne.symm n12)]
                exact eE _ _ (eD _ _ d2)
              have gp' : (upd HE o1 (.lst (l1.set i (.int (bg + (o : Nat)))))) op = some (.lst u0) := by
                rw [upd_ne (Ne.symm n1p)]
                exact eE _ _ (eD _ _ dp)
              have k2' := (kHC.trans (Kp.ex (eD.trans eE))).trans (Kp.put (ys := l1.set i (.int (bg + (o : Nat)))) (eE _ _ (eD _ _ d1)))
              refine s_setL (j := o) (v := .int (bg + (i : Nat) + 1)) g2' (ev_op (ev_op (ev_var (i := 1) rfl) (ev_var (i := 5) rfl) rv_I0) ev_c rv_I0) (ev_var (i := 3) rfl) (ev_var (i := 7) rfl) ho2l fun HF eF => ?_
              refine fin _ (l1.set i (.int (bg + (o : Nat)))) (l2.set o (.int (bg + (i : Nat) + 1))) (Ex.mut ((Ex.mut ((eHC.trans eD).trans eE) o1H).trans eF) o2H) (k2'.trans ((Kp.ex eF).trans (Kp.put (eF _ _ g2')))) ?_ upd_same ?_ (by rw [List.length_set]; exact k1) (by rw [List.length_set]; exact k2)
              · rw [upd_ne n12]
                exact eF _ _ upd_same
              · rw [upd_ne (Ne.symm n2p)]
                exact eF _ _ gp'
            · rcases hm with rfl | ⟨k, rfl, hki⟩
              · refine s_if (b := true) (et_test (ev_is (ev_isN (x := .non) (ev_var (i := 8) rfl)) rfl)) (fun hb2 HE eE => ?_) fun hb2 => by cases hb2
                refine s_setL (j := o) (v := .int (bg + (i : Nat) + 1)) ((eD.trans eE) _ _ d2) (ev_op (ev_op (ev_var (i := 1) rfl) (ev_var (i := 5) rfl) rv_I0) ev_c rv_I0) (ev_var (i := 3) rfl) (ev_var (i := 7) rfl) ho2l fun HF eF => ?_
                have eDF := (eD.trans eE).trans eF
                refine fin _ l1 (l2.set o (.int (bg + (i : Nat) + 1))) (Ex.mut (eHC.trans eDF) o2H) (kHC.trans ((Kp.ex eDF).trans (Kp.put (eDF _ _ d2)))) ?_ upd_same ?_ k1 (by rw [List.length_set]; exact k2)
                · rw [upd_ne n12]
                  exact eDF _ _ d1
                · rw [upd_ne (Ne.symm n2p)]
                  exact eDF _ _ dp
              · refine s_if (b := false) (et_test (ev_is (ev_isN (x := .int (k : Nat)) (ev_var (i := 8) rfl)) rfl)) (fun hb2 => by cases hb2) fun hb2 HE eE => ?_
                have eDE := eD.trans eE
                refine q_setL (j := o) (v := .int (bg + (k : Nat) + 1)) (eDE _ _ d2) (ev_op (ev_op (ev_var (i := 1) rfl) (ev_var (i := 8) rfl) rv_I0) ev_c rv_I0) (ev_var (i := 3) rfl) (ev_var (i := 7) rfl) ho2l fun HF eF => ?_
                have eDF := eDE.trans eF
                have g1' : (upd HF o2 (.lst (l2.set o (.int (bg + (k : Nat) + 1))))) o1 = some (.lst l1) := by
                  rw [upd_ne n12]
                  exact eDF _ _ d1
                have gp' : (upd HF o2 (.lst (l2.set o (.int (bg + (k : Nat) + 1))))) op = some (.lst u0) := by
                  rw [upd_ne (Ne.symm n2p)]
                  exact eDF _ _ dp
                have k2' := (kHC.trans (Kp.ex eDF)).trans (Kp.put (ys := l2.set o (.int (bg + (k : Nat) + 1))) (eDF _ _ d2))
                refine s_setL (j := k) (v := .int (bg + (i : Nat) + 1)) g1' (ev_op (ev_op (ev_var (i := 1) rfl) (ev_var (i := 5) rfl) rv_I0) ev_c rv_I0) (ev_var (i := 2) rfl) (ev_var (i := 8) rfl) (by omega) fun HG eG => ?_
                refine fin _ (l1.set k (.int (bg + (i : Nat) + 1))) (l2.set o (.int (bg + (k : Nat) + 1))) (Ex.mut ((Ex.mut (eHC.trans eDF) o2H).trans eG) o1H) (k2'.trans ((Kp.ex eG).trans (Kp.put (eG _ _ g1')))) upd_same ?_ ?_ (by rw [List.length_set]; exact k1) (by rw [List.length_set]; exact k2)
                · rw [upd_ne (Ne.symm n12)]
                  exact eG _ _ upd_same
                · rw [upd_ne (Ne.symm n1p)]
                  exact eG _ _ gp'
          · refine mcase_no (decide_eq_false c3) (mnil ?_)
            rw [if_neg c3] at hps'
            exact ⟨l1, l2, us, _, _, _, _, rfl, eHB, b1, b2, bp, k1, k2, by omega, fun v hv => (hjB v hv).kp (Kp.refl _) (by omega), hps'⟩
    · obtain ⟨l1, l2, us, y5, y6, y7, y8, rfl, e, g1, g2, gp, k1, k2, _⟩ := pv
      refine s_retU (eu_tup (ea_cons (ev_var (i := 2) rfl) (ea_cons (ev_var (i := 3) rfl) ea_nil)) (by simp)) fun p H4 hp e4 h4 => ?_
      exact q p o1 o2 H4 l1 l2 o1H o2H (e.trans e4) h4 (e4 _ _ g1) (e4 _ _ g2) k1 k2
end
end Q7
/-! Program.__init__ -/
namespace Q7
open PySem PySem.Spec PyProof.Rows L2 Evl
def allRows : List Part → List R
  | [] => []
  | p :: ps => p.2 ++ allRows ps
theorem allRows_len : ∀ ps : List Part, (allRows ps).length = sumR ps
  | [] => rfl
  | p :: ps => by
    show (p.2 ++ allRows ps).length = p.2.length + sumR ps
    rw [List.length_append, allRows_len ps]
theorem parts_split {H : Hp} : ∀ {pvs : List V} {ps : List Part}, PtsV H pvs ps → ∃ XS : List (List V), Paired (fun v xs => ∃ t l nm, v = .ref t ∧ H t = some (.tup [nm, .ref l]) ∧ H l = some (.lst xs)) pvs XS ∧ Paired (fun xs (p : Part) => Paired (RowV H) xs p.2) XS ps
  | [], _, .nil => ⟨[], .nil, .nil⟩
  | _ :: _, _, .cons a b => by
    obtain ⟨XS, h1, h2⟩ := parts_split b
    obtain ⟨t, l, xs, rfl, ht, hl, hr⟩ := a
    exact ⟨xs :: XS, .cons ⟨t, l, _, rfl, ht, hl⟩ h1, .cons hr h2⟩
theorem rows_flat {H : Hp} : ∀ {XS : List (List V)} {ps : List Part}, Paired (fun xs (p : Part) => Paired (RowV H) xs p.2) XS ps → Paired (RowV H) XS.flatten (allRows ps)
  | [], _, .nil => .nil
  | _ :: _, _, .cons a b => Paired.app a (rows_flat b)
theorem parts_pass {ths : List TH} : ∀ {ps : List Part} {n : Int} {met : List Str}, partsR ths n met ps = none → ∀ p ∈ ps, Pass 0 p.2
  | [], _, _, _, p, hp => by cases hp
  | a :: l, n, met, h, p, hp => by
    have h' : (match rowsR ths (l.map Prod.fst) n met [] a.2 with
      | .error e => some e
      | .ok (met', bl) => match bl.getLast? with
        | some b => eUnmatched b.1
        | none => partsR ths (n + (a.2.length : Nat)) met' l) = none := h
    cases hr : rowsR ths (l.map Prod.fst) n met [] a.2 with
    | error e =>
      rw [hr] at h'
      cases h'
    | ok out =>
      rw [hr] at h'
      rcases List.mem_cons.mp hp with rfl | hp
      · exact ⟨ths, _, n, met, [], out, rfl, hr⟩
      · obtain ⟨met', bl⟩ := out
        have h2 : (match bl.getLast? with
          | some b => eUnmatched b.1
          | none => partsR ths (n + (a.2.length : Nat)) met' l) = none := h'
        cases hb : bl.getLast? with
        | some b =>
          rw [hb] at h2
          cases h2
        | none =>
          rw [hb] at h2
          exact parts_pass h2 p hp
theorem all_rowB {ps : List Part} (h : ∀ p ∈ ps, Pass 0 p.2) : ∀ r ∈ allRows ps, rowB r = true := by
  induction ps with
  | nil =>
    intro r hr
    cases hr
  | cons a l ih =>
    intro r hr
    rcases List.mem_append.mp (show r ∈ a.2 ++ allRows l from hr) with hr | hr
    · exact (h a List.mem_cons_self).all r hr
    · exact ih (fun p hp => h p (List.mem_cons_of_mem _ hp)) r hr
theorem paired_and {α β : Type} {r : α → β → Prop} {p : β → Prop} : ∀ {xs : List α} {ys : List β}, Paired r xs ys → (∀ y ∈ ys, p y) → Paired (fun x y => r x y ∧ p y) xs ys
  | [], _, .nil, _ => .nil
  | _ :: _, _, .cons a b, h => .cons ⟨a, h _ List.mem_cons_self⟩ (paired_and b fun y hy => h y (List.mem_cons_of_mem _ hy))
def probeO (r : R) : Option V := (probeN r).head?.map V.str
def assO : R → Option V
  | .ass n _ _ _ => some (.str n)
  | _ => none
section
variable {P : Program} {w : World} {K : PySem.W.Frag} {mg : Str → Option Value} {base : Heap}
def NpV (H : Hp) (y : V) (xs : List V) : Prop := ∃ t u nm, y = .ref t ∧ H t = some (.tup [nm, .ref u]) ∧ H u = some (.tup xs)
theorem NpV.tl {H H' : Hp} {y : V} {xs : List V} (k : Tl H H') (h : NpV H y xs) : NpV H' y xs := by
  obtain ⟨t, u, nm, h1, h2, h3⟩ := h
  exact ⟨t, u, nm, h1, k.1 _ _ h2, k.1 _ _ h3⟩
theorem Tl.ex {H H' : Hp} (e : Ex H H') : Tl H H' := ⟨fun c xs h => e _ _ h, fun c xs h => e _ _ h⟩
theorem tg_self {i : Nat} {vs : List Nat} {σ : L2.St} {H : Hp} {x : V} (hw : wipe ((wipe σ vs).set i (some x)) vs = wipe σ vs) (hg : ((wipe σ vs).set i (some x))[i]? = some (some x)) : Tg (gName i) (tVar i) vs σ H x x := fun H1 e => ⟨_, hw, ev_var hg, fun R r => r⟩
def spProg (K : PySem.W.Frag) : Sp := fun vs H Q E => ∃ (x a b dx : Addr) (H0 : Hp) (us pvs : List V) (ths : List TH) (ps : List Part), vs = [.ref x, .ref a, .ref b] ∧ Ex H0 H ∧ H0 x = none ∧ H x = some (.ins (He.ga K "Program") dx []) ∧ SqL K H0 a us ∧ ThsV K H0 us ths ∧ ThsOk ths ∧ SqT K H0 b pvs ∧ PtsV H0 pvs ps ∧ PartsOk ps ∧
  (match partsR ths 0 [] ps with
    | none => ∀ H' fs rt vals, Ex H0 H' → H' x = some (.ins (He.ga K "Program") dx fs) → fs.lookup ("rows" : Str) = some (.ref rt) → H' rt = some (.tup vals) → Paired (RowV H') vals (allRows ps) → Q .non H'
    | some (c, f, v) => Er K c f v H0 E)
theorem sc_Program___init__ : FnScope ["self", "things", "parts", "jumps", "name", "rows", "row", "at", "begin", "onward", "otherwise", "number"] ["self", "things", "parts"] (defScope s_Program_init) := ⟨rfl, rfl, rfl, by decide +kernel, rfl, by decide +kernel, by decide +kernel⟩
theorem F_Program (T : Txt w K mg) (D_need_things : Dn P w K mg base CX0 2 "need_things" (spNeedThings K)) (D_need_parts : Dn P w K mg base (L2.CX P w) 9 "need_parts" (spNeedParts K)) (D_is_probe : Dn P w K mg base CX0 1 "is_probe" (spIsProbe K)) (D_jumps_of : Dn P w K mg base CX0 1 "jumps_of" (spJumps K)) :
    FnR P w K mg base (L2.CX P w) 10 (He.ma K (He.ga K "Program") "__init__") (fun vs H Q E => ∃ ws rest, vs = ws ++ rest ∧ ws.length = ["self", "things"].length ∧ rest.length ≤ sizeLine ∧ ∀ p, H p = none → spProg K (ws ++ [V.ref p]) (upd H p (.tup rest)) Q E) := by
  refine mkS (ps := ["self", "things"]) (pv := "parts") T.fds_Program_init sc_Program___init__ StX.cxUp (fun kV doc pm an cdv ct us rest hl => StX.bind_star2 (B := fun l => bindArgs (PySem.W.fnOf "__init__" "Program.__init__" (defArgs s_Program_init) (defBody s_Program_init) (defScope s_Program_init) .none kV doc pm an cdv ct) ⟨l, []⟩) (p1 := "self") (p2 := "things") (pv := "parts") (fun a b => rfl) (fun a b r rs => rfl) us rest hl) (fun cdv A outer s H vs Q E hr h => ?_)
  obtain ⟨x, a, b, dx, H0, us, pvs, ths, ps, rfl, hB, hx0, hxo, ha, hv, hok, hb, hP, hpo, q⟩ := h
  have hplen : pvs.length = ps.length := Paired.length hP
  have hfew := hpo.few
  refine ⟨_, (pss_cons (ps_expr (pe_d D_need_things (hr.mono (by decide)) (by rfl) pass0 (pa_cons (pv 1) pa_nil)))
    (pss_cons (ps_expr (pe_dx D_need_parts (hr.mono (by decide)) (by rfl) (takes_of rfl rfl rfl rfl) (fun _ _ _ _ h => h) (pa_cons (pv 1) (pa_cons (pv 2) pa_nil))))
    (pss_cons (ps_fld (pv 0) (pe_callTy call_tuple_of (by rfl) T.n_tuple bo_tuple (pa_cons (pv 1) pa_nil)) rfl)
    (pss_cons (ps_fld (pv 0) (pe_callTy call_tuple_of (by rfl) T.n_tuple bo_tuple (pa_cons (pe_lc (own := [("name", 4), ("rows", 5)]) (g := gTup K 2 (gCons (gName 4) (gCons (gName 5) gNil))) (tt := tYes) rfl sc_Program___init__.nd (pi_tup (pv 2)) (blkOk_by (own := [("name", 4), ("rows", 5)]) (N := ["self", "things", "parts", "jumps", "name", "rows", "row", "at", "begin", "onward", "otherwise", "number"]) (sc := defScope s_Program_init) (by decide +kernel)) (fun _ _ _ _ _ => (pg_tup rfl (pgs_cons (pg_name (i := 4) sc_Program___init__.nd rfl (Or.inl rfl)) (pgs_cons (pg_name (i := 5) sc_Program___init__.nd rfl (Or.inl rfl)) pgs_nil)))) (fun _ _ _ _ _ => pts_nil) (fun _ _ _ _ _ => (pe_tup (pa_cons (pv 4) (pa_cons (pe_callTy (r := rTupQ K) call_tuple_of (by rfl) T.n_tuple bo_tuple (pa_cons (pv 5) pa_nil)) pa_nil))))) pa_nil)) rfl)
    (pss_cons (ps_fld (pv 0) (pe_callTy call_tuple_of (by rfl) T.n_tuple bo_tuple (pa_cons (pe_lc2 (own := [("name", 4), ("rows", 5), ("row", 6)]) (vs1 := [6]) (g := gTup K 2 (gCons (gName 4) (gCons (gName 5) gNil))) (g1 := gName 6) (tt := tYes) (tt1 := tYes) rfl sc_Program___init__.nd (pi_tup (pe_fld (pv 0) rfl)) (blkOk_by (own := [("name", 4), ("rows", 5), ("row", 6)]) (N := ["self", "things", "parts", "jumps", "name", "rows", "row", "at", "begin", "onward", "otherwise", "number"]) (sc := defScope s_Program_init) (by decide +kernel)) (by decide) (fun _ _ _ _ _ => (pg_tup rfl (pgs_cons (pg_name (i := 4) sc_Program___init__.nd rfl (Or.inl rfl)) (pgs_cons (pg_name (i := 5) sc_Program___init__.nd rfl (Or.inl rfl)) pgs_nil)))) (fun _ _ _ _ _ => pts_nil) (fun _ _ _ _ _ => (pi_tupK (K := K) rfl (pv 5))) (fun _ _ _ _ _ => (pg_name (i := 6) sc_Program___init__.nd rfl (Or.inl rfl))) (fun _ _ _ _ _ => pts_nil) (fun _ _ _ _ _ => (pv 6))) pa_nil)) rfl)
    (pss_cons (ps_fld (pv 0) (pe_callTy call_tuple_of (by rfl) T.n_tuple bo_tuple (pa_cons (pe_lc (own := [("row", 6)]) (g := gName 6) rfl sc_Program___init__.nd (pi_tup (pe_fld (pv 0) rfl)) (blkOk_by (own := [("row", 6)]) (N := ["self", "things", "parts", "jumps", "name", "rows", "row", "at", "begin", "onward", "otherwise", "number"]) (sc := defScope s_Program_init) (by decide +kernel)) (fun _ _ _ _ _ => (pg_name (i := 6) sc_Program___init__.nd rfl (Or.inl rfl))) (fun _ _ _ _ _ => (pts_one (pt_val (pe_d D_is_probe (hr.mono (by decide)) (by rfl) pass0 (pa_cons (pv 6) pa_nil))))) (fun _ _ _ _ _ => (pe_ix (r := rIxT K) ix_tup (pv 6) pe_int (fun _ _ => rfl)))) pa_nil)) rfl)
    (pss_cons (ps_fld (pv 0) (pe_callTy call_tuple_of (by rfl) T.n_tuple bo_tuple (pa_cons (pe_lc (own := [("row", 6)]) (g := gName 6) rfl sc_Program___init__.nd (pi_tup (pe_fld (pv 0) rfl)) (blkOk_by (own := [("row", 6)]) (N := ["self", "things", "parts", "jumps", "name", "rows", "row", "at", "begin", "onward", "otherwise", "number"]) (sc := defScope s_Program_init) (by decide +kernel)) (fun _ _ _ _ _ => (pg_name (i := 6) sc_Program___init__.nd rfl (Or.inl rfl))) (fun _ _ _ _ _ => (pts_one (pt_cmpR op_eq (pe_ix (r := rIxT K) ix_tup (pv 6) pe_int (fun _ _ => rfl)) pe_str (nomark _)))) (fun _ _ _ _ _ => (pe_ix (r := rIxT K) ix_tup (pv 6) pe_int (fun _ _ => rfl)))) pa_nil)) rfl)
    (pss_cons (ps_fld (pv 0) (pe_lc (own := [("at", 7)]) (g := gName 7) (tt := tYes) rfl sc_Program___init__.nd (pi_range1 (by rfl) T.n_range (pa_cons (pe_op op_add (pe_callB call_len_seq (by rfl) T.n_len PySem.boot_len (pa_cons (pv 2) pa_nil)) pe_int) pa_nil)) (blkOk_by (own := [("at", 7)]) (N := ["self", "things", "parts", "jumps", "name", "rows", "row", "at", "begin", "onward", "otherwise", "number"]) (sc := defScope s_Program_init) (by decide +kernel)) (fun _ _ _ _ _ => (pg_name (i := 7) sc_Program___init__.nd rfl (Or.inl rfl))) (fun _ _ _ _ _ => pts_nil) (fun _ _ _ _ _ => (pe_callB (r := rSum K) (cr_sum rfl) (by rfl) T.n_sum bo_sum (pa_cons (pe_lc (own := [("name", 4), ("rows", 5)]) (g := gTup K 2 (gCons (gName 4) (gCons (gName 5) gNil))) (tt := tYes) rfl sc_Program___init__.nd (pi_tupK (K := K) rfl (pe_slice (r := rSlA K) sl_tupA (pv 2) po_none (po_some (pv 7)))) (blkOk_by (own := [("name", 4), ("rows", 5)]) (N := ["self", "things", "parts", "jumps", "name", "rows", "row", "at", "begin", "onward", "otherwise", "number"]) (sc := relS _ (defScope s_Program_init)) (by decide +kernel)) (fun _ _ _ _ _ => (pg_tup rfl (pgs_cons (pg_name (i := 4) sc_Program___init__.nd rfl (Or.inl rfl)) (pgs_cons (pg_name (i := 5) sc_Program___init__.nd rfl (Or.inl rfl)) pgs_nil)))) (fun _ _ _ _ _ => pts_nil) (fun _ _ _ _ _ => (pe_callB (r := rLenQ K) call_len_seq (by rfl) T.n_len PySem.boot_len (pa_cons (pv 5) pa_nil)))) pa_nil)))) rfl)
    (pss_cons (ps_setLc (i := 3) (own := [("name", 4), ("rows", 5), ("begin", 8)]) (g := gTup K 2 (gCons (gTup K 2 (gCons (gName 4) (gCons (gName 5) gNil))) (gCons (gName 8) gNil))) (tt := tYes) rfl sc_Program___init__.nd rfl rfl (sw_true rfl rfl rfl (by decide +kernel)) (pi_zipTL (by rfl) T.n_zip (pa_cons (pe_fld (pv 0) rfl) (pa_cons (pe_fld (pv 0) rfl) pa_nil))) (blkOk_by (own := [("name", 4), ("rows", 5), ("begin", 8)]) (N := ["self", "things", "parts", "jumps", "name", "rows", "row", "at", "begin", "onward", "otherwise", "number"]) (sc := defScope s_Program_init) (by decide +kernel)) (fun _ _ _ _ _ => (pg_tup rfl (pgs_cons (pg_tup rfl (pgs_cons (pg_name (i := 4) sc_Program___init__.nd rfl (Or.inl rfl)) (pgs_cons (pg_name (i := 5) sc_Program___init__.nd rfl (Or.inl rfl)) pgs_nil))) (pgs_cons (pg_name (i := 8) sc_Program___init__.nd rfl (Or.inl rfl)) pgs_nil)))) (fun _ _ _ _ _ => pts_nil) (fun _ _ _ _ _ => (pe_d D_jumps_of (hr.mono (by decide)) (by rfl) pass0 (pa_cons (pv 5) (pa_cons (pv 8) pa_nil)))))
    (pss_cons (ps_fld (pv 0) (pe_lc2 (own := [("onward", 9), ("otherwise", 10), ("number", 11)]) (vs1 := [11]) (g := gTup K 2 (gCons (gName 9) (gCons (gName 10) gNil))) (g1 := gName 11) (tt := tYes) (tt1 := tYes) rfl sc_Program___init__.nd (pi_list (pv 3)) (blkOk_by (own := [("onward", 9), ("otherwise", 10), ("number", 11)]) (N := ["self", "things", "parts", "jumps", "name", "rows", "row", "at", "begin", "onward", "otherwise", "number"]) (sc := defScope s_Program_init) (by decide +kernel)) (by decide) (fun _ _ _ _ _ => (pg_tup rfl (pgs_cons (pg_name (i := 9) sc_Program___init__.nd rfl (Or.inl rfl)) (pgs_cons (pg_name (i := 10) sc_Program___init__.nd rfl (Or.inl rfl)) pgs_nil)))) (fun _ _ _ _ _ => pts_nil) (fun _ _ _ _ _ => (pi_listK (K := K) rfl (pv 9))) (fun _ _ _ _ _ => (pg_name (i := 11) sc_Program___init__.nd rfl (Or.inl rfl))) (fun _ _ _ _ _ => pts_nil) (fun _ _ _ _ _ => (pv 11))) rfl)
    (pss_one (ps_fld (pv 0) (pe_lc2 (own := [("onward", 9), ("otherwise", 10), ("number", 11)]) (vs1 := [11]) (g := gTup K 2 (gCons (gName 9) (gCons (gName 10) gNil))) (g1 := gName 11) (tt := tYes) (tt1 := tYes) rfl sc_Program___init__.nd (pi_list (pv 3)) (blkOk_by (own := [("onward", 9), ("otherwise", 10), ("number", 11)]) (N := ["self", "things", "parts", "jumps", "name", "rows", "row", "at", "begin", "onward", "otherwise", "number"]) (sc := defScope s_Program_init) (by decide +kernel)) (by decide) (fun _ _ _ _ _ => (pg_tup rfl (pgs_cons (pg_name (i := 9) sc_Program___init__.nd rfl (Or.inl rfl)) (pgs_cons (pg_name (i := 10) sc_Program___init__.nd rfl (Or.inl rfl)) pgs_nil)))) (fun _ _ _ _ _ => pts_nil) (fun _ _ _ _ _ => (pi_listK (K := K) rfl (pv 10))) (fun _ _ _ _ _ => (pg_name (i := 11) sc_Program___init__.nd rfl (Or.inl rfl))) (fun _ _ _ _ _ => pts_nil) (fun _ _ _ _ _ => (pv 11))) rfl)))))))))))), ?_⟩
  refine q_drop (ev_d (z := .non) (ea_cons (ev_var (i := 1) rfl) ea_nil) fun H1 e1 Q1 q1 => ⟨a, us, ths, rfl, ex_l (hB.trans e1) ha, hv.kp (Kp.ex (hB.trans e1)), hok, q1⟩) fun H1 e1 => ?_
  have b1 := hB.trans e1
  refine ⟨_, rfl, _, rfl, a, b, us, pvs, ths, ps, rfl, ex_l b1 ha, hv.kp (Kp.ex b1), hok, ex_t b1 hb, Paired.imp (fun v p hp => by
    obtain ⟨t, l, xs, rfl, ht, hl, hr⟩ := hp
    exact ⟨t, l, xs, rfl, b1 _ _ ht, b1 _ _ hl, Paired.imp (fun _ _ z => z.kp (Kp.ex b1)) hr⟩) hP, hpo, ?_⟩
  cases hR : partsR ths 0 [] ps with
  | some e =>
    rw [hR] at q
    obtain ⟨c, f, v⟩ := e
    exact Er.ex b1 q
  | none =>
    rw [hR] at q
    intro H2 e2
    have b2 := b1.trans e2
    have x2 := e2 _ _ (e1 _ _ hxo)
    have hpass := parts_pass hR
    obtain ⟨XS, hXS, hrows⟩ := parts_split hP
    have hflat := rows_flat hrows
    have hflatB := paired_and hflat (all_rowB hpass)
    have hXl : XS.length = ps.length := Paired.length hrows
    have hfl : XS.flatten.length ≤ 60 := by
      rw [Paired.length hflat, allRows_len]
      exact hpo.sum
    -- self.things
    refine q_fldx (S := fun _ _ => True) (fun _ _ _ _ _ => trivial) rfl b2 hx0 x2 T.cls_Program T.na_Program_things (by decide) ((en_U (eu_tupleAL (ev_var (i := 1) rfl) (ex_l b2 ha))).imp fun _ _ _ => trivial) fun v1 B1 g1 hx1 _ H3 b3 x3 => ?_
    -- self.parts
    have hb1 := ex_t g1 hb
    refine q_fldx (S := fun v H => ∃ p ys, v = .ref p ∧ H p = some (.tup ys) ∧ Paired (NpV H) ys XS) (fun v H H' k h => by
      obtain ⟨p, ys, h1, h2, h3⟩ := h
      exact ⟨p, ys, h1, k.1 _ _ h2, Paired.imp (fun _ _ z => z.tl k) h3⟩) rfl b3 hx1 x3 T.cls_Program T.na_Program_parts (by show 1 < 1000; decide) ?_ fun v2 B2 g2 hx2 hS2 H4 b4 x4 => ?_
    · refine en_tupN (S := fun ys H => Paired (NpV H) ys XS) (fun ys H H' k h => Paired.imp (fun _ _ z => by
        obtain ⟨t, u, nm, h1, h2, h3⟩ := z
        exact ⟨t, u, nm, h1, k.tup h2, k.tup h3⟩) h) ?_
      refine (en_mapR (S := fun x y H => ∃ t0 l0 nm xs, x = .ref t0 ∧ H0 t0 = some (.tup [nm, .ref l0]) ∧ H0 l0 = some (.lst xs) ∧ NpV H y xs) (fun x y H H' k h => ?_) (ei_tup (ev_var (i := 2) rfl) (ex_t b3 hb1)) (by omega) fun v hv => ?_).imp fun v H' h => ?_
      · obtain ⟨t0, l0, nm, xs, h1, h2, h3, t, u, nm', h4, h5, h6⟩ := h
        exact ⟨t0, l0, nm, xs, h1, h2, h3, t, u, nm', h4, k.tup h5, k.tup h6⟩
      · obtain ⟨i, hi⟩ := List.getElem?_of_mem hv
        obtain ⟨p, hp, t, l, xs, rfl, ht, hl, hr⟩ := paired_get hP hi
        have hp60 : xs.length ≤ 100000 := by
          have h1 : xs.length = p.2.length := Paired.length hr
          have h2 : p.2.length ≤ sumR ps := by
            have : ∀ l : List Part, p ∈ l → p.2.length ≤ sumR l := by
              intro l
              induction l with
              | nil =>
                intro h
                cases h
              | cons a r ih =>
                intro h
                show p.2.length ≤ a.2.length + sumR r
                rcases List.mem_cons.mp h with rfl | h
                · omega
                · have := ih h
                  omega
            exact this ps (List.mem_of_getElem? hp)
          have := hpo.sum
          omega
        have b30 := g1.trans b3
        refine tgN_pair (a := .str p.1) (b := .ref l) (st_of (b30 _ _ ht)) rfl fun H5 e5 => ?_
        have b5 := b30.trans e5
        intro H6 e6 Q6 q6
        have b6 := b5.trans e6
        refine ⟨_, rfl, _, rfl, l, xs, rfl, Or.inl ⟨sq_of (b6 _ _ hl), fun lw hlw => ⟨by show 2 ≤ sizeLine; decide, fun tw htw => ?_⟩⟩⟩
        have e7 := (Ex.new (o := .tup xs) hlw).trans (Ex.new (o := .tup [.str p.1, .ref lw]) htw)
        exact q6 _ _ e7 ⟨t, l, .str p.1, xs, rfl, ht, hl, tw, lw, .str p.1, rfl, upd_same, Ex.new htw _ _ upd_same⟩
      · obtain ⟨p, ys, h1, _, h2, h3⟩ := h
        refine ⟨p, ys, h1, h2, paired_join (fun v y xs s f => ?_) h3 hXS⟩
        obtain ⟨t0, l0, nm, xs', rfl, s2, s3, s4⟩ := s
        obtain ⟨t1, l1, nm1, f1, f2, f3⟩ := f
        obtain rfl : t0 = t1 := by
          injection f1
        rw [s2] at f2
        simp only [Option.some.injEq, HO.tup.injEq, List.cons.injEq, V.ref.injEq, and_true] at f2
        rw [f2.2] at s3
        rw [s3] at f3
        simp only [Option.some.injEq, HO.lst.injEq] at f3
        rw [← f3]
        exact s4
    obtain ⟨pt, nps, rfl, hpt, hnps⟩ := hS2
    have hnl : nps.length = ps.length := by rw [Paired.length hnps, hXl]
    -- self.rows
    refine q_fldx (S := fun v H => ∃ p, v = .ref p ∧ H p = some (.tup XS.flatten)) (fun v H H' k h => by
      obtain ⟨p, h1, h2⟩ := h
      exact ⟨p, h1, k.1 _ _ h2⟩) rfl b4 hx2 x4 T.cls_Program T.na_Program_rows (by show 2 < 1000; decide) (en_U (eu_tupleL (el_lc2 XS (ei_tup (ev_fld (a := x) (ev_var (i := 0) rfl) x4 T.cls_Program T.na_Program_parts rfl) (st_of (b4 _ _ hpt))) (by omega) ?_))) fun v3 B3 g3 hx3 hS3 H5 b5 x5 => ?_
    · refine Paired.imp (fun y xs h => ?_) hnps
      obtain ⟨t, u, nm, rfl, ht, hu⟩ := h
      exact tg2_pair (a := nm) (b := .ref u) (st_of (b4 _ _ ht)) rfl xs (eb_tup (ev_var (i := 5) rfl) (st_of (b4 _ _ hu))) (paired_self fun x hx => tg_self rfl rfl)
    obtain ⟨rt, rfl, hrt⟩ := hS3
    have gB3 := (g1.trans g2).trans g3
    -- self.probes
    have rowsAt : ∀ {H6 : Hp}, Ex B3 H6 → Paired (fun v r => RowV H6 v r ∧ rowB r = true) XS.flatten (allRows ps) := fun e6 => Paired.imp (fun _ _ z => ⟨z.1.kp (Kp.ex (gB3.trans e6)), z.2⟩) hflatB
    refine q_fldx (S := fun _ _ => True) (fun _ _ _ _ _ => trivial) rfl b5 hx3 x5 T.cls_Program T.na_Program_probes (by show 3 < 1000; decide) ((en_U (eu_tupleL (el_lcR ((allRows ps).map probeO) (ei_tup (ev_fld (a := x) (ev_var (i := 0) rfl) x5 T.cls_Program T.na_Program_rows rfl) (st_of (b5 _ _ hrt))) (by omega) ?_))).imp fun _ _ _ => trivial) fun v4 B4 g4 hx4 _ H6 b6 x6 => ?_
    · refine paired_map (fun v r h => ?_) (rowsAt b5)
      obtain ⟨w0, ra, rest, rfl, hra, hhd, hpr⟩ := rowHead (K := K) h.1 h.2
      refine tgO_name rfl (fun H7 e7 => et_B (b := (probeO r).isSome) (ev_d (ea_cons (ev_var (i := 6) rfl) ea_nil) fun H8 e8 Q8 q8 => ⟨ra, w0, rest, rfl, st_of (e8 _ _ (e7 _ _ hra)), ?_⟩)) fun H7 e7 v hv => ?_
      · have : decide (w0 ∈ probes2) = (probeO r).isSome := by
          rcases hpr with ⟨h1, nm, tl, h2, h3⟩ | ⟨h1, h3⟩
          · rw [h1]
            unfold probeO
            rw [h3]
            rfl
          · rw [h1]
            unfold probeO
            rw [h3]
            rfl
        rw [this]
        exact q8
      · unfold probeO at hv
        rcases hpr with ⟨h1, nm, tl, h2, h3⟩ | ⟨h1, h3⟩
        · rw [h3] at hv
          rw [← Option.some.inj hv]
          subst h2
          exact ev_ixT (ev_var (i := 6) rfl) (st_of (e7 _ _ hra)) ev_c (atI_nat (j := 1) rfl)
        · rw [h3] at hv
          cases hv
    have hrt4 := g4 _ _ hrt
    -- self.asserts
    refine q_fldx (S := fun _ _ => True) (fun _ _ _ _ _ => trivial) rfl b6 hx4 x6 T.cls_Program T.na_Program_asserts (by show 4 < 1000; decide) ((en_U (eu_tupleL (el_lcR ((allRows ps).map assO) (ei_tup (ev_fld (a := x) (ev_var (i := 0) rfl) x6 T.cls_Program T.na_Program_rows rfl) (st_of (b6 _ _ hrt4))) (by omega) ?_))).imp fun _ _ _ => trivial) fun v5 B5 g5 hx5 _ H7 b7 x7 => ?_
    · refine paired_map (fun v r h => ?_) (rowsAt (g4.trans b6))
      obtain ⟨w0, ra, rest, rfl, hra, hw0, hrest⟩ : ∃ (w0 : Str) (ra : Addr) (rest : List V), v = .ref ra ∧ H6 ra = some (.tup (.str w0 :: rest)) ∧ decide (w0 = "assert") = (assO r).isSome ∧ ∀ z, assO r = some z → ∃ tl, rest = z :: tl := by
        have hv := h.1
        have hB := h.2
        cases r with
        | non => cases hB
        | tru => cases hB
        | lst => cases hB
        | str s => cases hB
        | pro nmr g as bs =>
          obtain ⟨ra, b1, c1, rfl, hra, _⟩ := hv
          exact ⟨"probe", ra, _, rfl, hra, rfl, fun z hz => by cases hz⟩
        | ass nmr g as t =>
          obtain ⟨ra, b1, c1, rfl, hra, _⟩ := hv
          exact ⟨"assert", ra, _, rfl, hra, rfl, fun z hz => by
            obtain rfl := Option.some.inj hz
            exact ⟨_, rfl⟩⟩
        | tup ws =>
          obtain ⟨ra, rfl, hra⟩ := hv
          cases ws with
          | nil => cases hB
          | cons w0 r0 =>
            obtain ⟨_, hnp, _⟩ := tupB_inv hB
            exact ⟨w0, ra, _, rfl, hra, decide_eq_false (not_or.mp hnp).2, fun z hz => by cases hz⟩
      refine tgO_name rfl (fun H8 e8 => ?_) fun H8 e8 v hv => ?_
      · rw [← hw0]
        exact et_test (ev_eqS (ev_ixT (ev_var (i := 6) rfl) (st_of (e8 _ _ hra)) ev_c (atI_nat (j := 0) rfl)) ev_c)
      · obtain ⟨tl, rfl⟩ := hrest v hv
        exact ev_ixT (ev_var (i := 6) rfl) (st_of (e8 _ _ hra)) ev_c (atI_nat (j := 1) rfl)
    -- self.begins
    have gB5 := (gB3.trans g4).trans g5
    have hb5 := ex_t gB5 hb
    let lens : List Int := ps.map fun p => (p.2.length : Int)
    let bgV : V → V := fun v => match v with
      | .int k => .int (lens.take k.toNat).sum
      | _ => .non
    refine q_fldx (S := fun v H => ∃ p, v = .ref p ∧ H p = some (.lst ((nats (ps.length + 1)).map bgV))) (fun v H H' k h => by
      obtain ⟨p, h1, h2⟩ := h
      exact ⟨p, h1, k.2 _ _ h2⟩) rfl b7 hx5 x7 T.cls_Program T.na_Program_begins (by show 5 < 1000; decide) (en_L (el_map bgV (ei_rng (n := ps.length + 1) (ea_cons (ev_is (ev_op (ev_lenT (ev_var (i := 2) rfl) (ex_t b7 hb5)) ev_c rv_I0) ?_) ea_nil) (by omega)) (by unfold nats; rw [List.length_map, List.length_range]; omega) (fun _ => rfl) fun v hv => ?_)) fun v6 B6 g6 hx6 hS6 H8 b8 x8 => ?_
    · rw [hplen]
      rfl
    · obtain ⟨k, hk, rfl⟩ := List.mem_map.mp hv
      show Ev _ _ _ (V.int (lens.take ((k : Nat) : Int).toNat).sum)
      rw [Int.toNat_natCast]
      have hcut := es_sl (K := K) (te := tVar 2) (σ := (wipe (start ["self", "things", "parts", "jumps", "name", "rows", "row", "at", "begin", "onward", "otherwise", "number"] [.ref x, .ref a, .ref b]) [7]).set 7 (some (.int (k : Nat)))) (ev_var (i := 2) rfl) eo_none (eo_some (ev_var (i := 7) (v := .int (k : Nat)) rfl)) (ex_t b7 hb5)
      rw [cutV_to] at hcut
      refine ev_sum (ns := lens.take k) (el_mapR _ (ei_tupS hcut) (by rw [List.length_take]; omega) ?_)
      rw [← List.map_take, List.map_map]
      refine paired_map (fun v p hp => ?_) (paired_take k hP)
      obtain ⟨t, l, xs, rfl, ht, hl, hr⟩ := hp
      refine tg_pair1 (a := .str p.1) (b := .ref l) (st_of ((gB5.trans b7) _ _ ht)) rfl (ev_is (ev_lenL (ev_var rfl) (sq_of ((gB5.trans b7) _ _ hl))) ?_)
      rw [show xs.length = p.2.length from Paired.length hr]
      rfl
    obtain ⟨bp, rfl, hbp⟩ := hS6
    have g26 := ((g3.trans g4).trans g5).trans g6
    have hpt6 := g26 _ _ hpt
    have hnps6 : Paired (NpV B6) nps XS := Paired.imp (fun _ _ z => z.tl (Tl.ex g26)) hnps
    -- jumps
    have gB6 := gB5.trans g6
    refine q_asgN (en_mapP (S := fun Dl _ y H => ∃ p o1 o2 l1 l2, y = .ref p ∧ p ≠ Dl ∧ o1 ≠ Dl ∧ o2 ≠ Dl ∧ H p = some (.tup [.ref o1, .ref o2]) ∧ H o1 = some (.lst l1) ∧ H o2 = some (.lst l2) ∧ l1.length ≤ 60 ∧ l2.length ≤ 60) (fun Dl z y H H' k h => ?_) (ep_zipX (ev_fld (a := x) (ev_var (i := 0) rfl) x8 T.cls_Program T.na_Program_parts rfl) (ev_fld (a := x) (ev_var (i := 0) rfl) x8 T.cls_Program T.na_Program_begins rfl) (st_of (b8 _ _ hpt6)) (sq_of (b8 _ _ hbp))) (by rw [List.length_zip]; omega) fun z hz => ?_) fun jv H9 e9 hS9 => ?_
    · obtain ⟨p, o1, o2, l1, l2, h1, n1, n2, n3, h2, h3, h4, h5⟩ := h
      exact ⟨p, o1, o2, l1, l2, h1, n1, n2, n3, k _ _ n1 h2, k _ _ n2 h3, k _ _ n3 h4, h5⟩
    · obtain ⟨y, bg⟩ := z
      have hy := (List.of_mem_zip hz).1
      have hbg := (List.of_mem_zip hz).2
      obtain ⟨k0, hk0, rfl⟩ := List.mem_map.mp hbg
      obtain ⟨k, _, rfl⟩ := List.mem_map.mp hk0
      obtain ⟨i, hi⟩ := List.getElem?_of_mem hy
      obtain ⟨xs, hxs, t, u, nm, rfl, ht, hu⟩ := paired_get hnps6 hi
      obtain ⟨p, hp, hr⟩ := paired_get hrows hxs
      have hpm := List.mem_of_getElem? hp
      have hp60 : p.2.length ≤ 60 := by
        have : ∀ l : List Part, p ∈ l → p.2.length ≤ sumR l := by
          intro l
          induction l with
          | nil =>
            intro h
            cases h
          | cons a r ih =>
            intro h
            show p.2.length ≤ a.2.length + sumR r
            rcases List.mem_cons.mp h with rfl | h
            · omega
            · have := ih h
              omega
        have := this ps hpm
        have := hpo.sum
        omega
      refine tgNP_pair3 (a := nm) (b := .ref u) (st_of (b8 _ _ ht)) rfl fun H10 Dl acc e10 hDl => ?_
      have b10 := b8.trans e10
      intro H11 e11 Q11 q11
      have b11 := b10.trans e11
      have hDl11 := e11 _ _ hDl
      refine ⟨_, rfl, _, rfl, u, _, xs, p.2, rfl, st_of (b11 _ _ hu), Paired.imp (fun _ _ z => z.kp (Kp.ex (gB6.trans b11))) hr, hpass p hpm, hp60, fun jp o1 o2 H12 l1 l2 n1 n2 e12 h1 h2 h3 h4 h5 => q11 _ _ e12 ⟨jp, o1, o2, l1, l2, rfl, fun z => ?_, fun z => ?_, fun z => ?_, h1, h2, h3, by omega, by omega⟩⟩
      · rw [z, e12 _ _ hDl11] at h1
        cases h1
      · rw [z, hDl11] at n1
        cases n1
      · rw [z, hDl11] at n2
        cases n2
    obtain ⟨jp, js, rfl, _, hjp, hjs⟩ := hS9
    have b9 := b8.trans e9
    have x9 := e9 _ _ x8
    -- the two lists of each
    obtain ⟨L1, L2, hL1, hL2, hl1, hl2, hll⟩ : ∃ L1 L2 : List (List V), Paired (fun y l1 => ∃ p o1 o2, y = .ref p ∧ H9 p = some (.tup [.ref o1, .ref o2]) ∧ H9 o1 = some (.lst l1)) js L1 ∧ Paired (fun y l2 => ∃ p o1 o2, y = .ref p ∧ H9 p = some (.tup [.ref o1, .ref o2]) ∧ H9 o2 = some (.lst l2)) js L2 ∧ (∀ l ∈ L1, l.length ≤ 60) ∧ (∀ l ∈ L2, l.length ≤ 60) ∧ True := by
      have : ∀ {zs : List (V × V)} {js : List V}, Paired (fun (_ : V × V) y => ∃ p o1 o2 l1 l2, y = .ref p ∧ p ≠ jp ∧ o1 ≠ jp ∧ o2 ≠ jp ∧ H9 p = some (.tup [.ref o1, .ref o2]) ∧ H9 o1 = some (.lst l1) ∧ H9 o2 = some (.lst l2) ∧ l1.length ≤ 60 ∧ l2.length ≤ 60) zs js → ∃ L1 L2 : List (List V), Paired (fun y l1 => ∃ p o1 o2, y = .ref p ∧ H9 p = some (.tup [.ref o1, .ref o2]) ∧ H9 o1 = some (.lst l1)) js L1 ∧ Paired (fun y l2 => ∃ p o1 o2, y = .ref p ∧ H9 p = some (.tup [.ref o1, .ref o2]) ∧ H9 o2 = some (.lst l2)) js L2 ∧ (∀ l ∈ L1, l.length ≤ 60) ∧ (∀ l ∈ L2, l.length ≤ 60) ∧ True := by
        intro zs js h
        induction h with
        | nil => exact ⟨[], [], .nil, .nil, (fun l hl => by cases hl), (fun l hl => by cases hl), trivial⟩
        | cons a _ ih =>
          obtain ⟨L1, L2, h1, h2, h3, h4, _⟩ := ih
          obtain ⟨p, o1, o2, l1, l2, rfl, _, _, _, k1, k2, k3, k4, k5⟩ := a
          refine ⟨l1 :: L1, l2 :: L2, .cons ⟨p, o1, o2, rfl, k1, k2⟩ h1, .cons ⟨p, o1, o2, rfl, k1, k3⟩ h2, fun l hl => ?_, fun l hl => ?_, trivial⟩
          · rcases List.mem_cons.mp hl with rfl | hl
            · exact k4
            · exact h3 l hl
          · rcases List.mem_cons.mp hl with rfl | hl
            · exact k5
            · exact h4 l hl
      exact this hjs
    have hjl : js.length ≤ 5 := by
      have h1 : (nps.zip ((nats (ps.length + 1)).map bgV)).length = js.length := Paired.length hjs
      rw [List.length_zip] at h1
      omega
    have hf1 := parts_flat L1 60 hl1
    have hf2 := parts_flat L2 60 hl2
    have hk1 : js.length = L1.length := Paired.length hL1
    have hk2 : js.length = L2.length := Paired.length hL2
    have nx : ∀ {c : Addr} {u : HO}, H9 c = some u → (∀ fs, u ≠ .ins (He.ga K "Program") dx fs) → c ≠ x := fun h n z => by
      rw [z, x9] at h
      exact n _ (Option.some.inj h).symm
    -- self.onward
    refine q_fldx (B := rm H9 x) (S := fun _ _ => True) (fun _ _ _ _ _ => trivial) rfl (fun c o h => ?_) rm_same x9 T.cls_Program T.na_Program_onward (by show 6 < 1000; decide) ((en_L (el_lc2 L1 (ei_list (ev_var (i := 3) rfl) (sq_of hjp)) (by omega) ?_)).imp fun _ _ _ => trivial) fun v7 B7 g7 hx7 _ H10 b10 x10 => ?_
    · by_cases hc : c = x
      · rw [hc, rm_same] at h
        cases h
      · rw [rm_ne hc] at h
        exact h
    · refine Paired.imp (fun y xs h => ?_) hL1
      obtain ⟨p, o1, o2, rfl, h1, h2⟩ := h
      exact tg2_pair (a := .ref o1) (b := .ref o2) (st_of h1) rfl xs (eb_list (ev_var (i := 9) rfl) (sq_of h2)) (paired_self fun x hx => tg_self rfl rfl)
    have u9 : ∀ {c : Addr} {u : HO}, H9 c = some u → (∀ fs, u ≠ .ins (He.ga K "Program") dx fs) → H10 c = some u := fun {c u} h n => b10 _ _ (g7 _ _ (by
      rw [rm_ne (nx h n)]
      exact h))
    have gL : Ex H0 B7 := fun c o h => g7 _ _ (by
      rw [rm_ne (fun z => by
        rw [z, hx0] at h
        cases h)]
      exact (gB6.trans b9) _ _ h)
    refine s_fldx (B := B7) (S := fun _ _ => True) (fun _ _ _ _ _ => trivial) rfl b10 hx7 x10 T.cls_Program T.na_Program_otherwise (by show 7 < 1000; decide) ((en_L (el_lc2 L2 (ei_list (ev_var (i := 3) rfl) (sq_of (u9 hjp (fun _ z => by cases z)))) (by omega) ?_)).imp fun _ _ _ => trivial) fun v8 B8 g8 hx8 _ H11 b11 x11 => ?_
    · refine Paired.imp (fun y xs h => ?_) hL2
      obtain ⟨p, o1, o2, rfl, h1, h2⟩ := h
      exact tg2_pair (a := .ref o1) (b := .ref o2) (st_of (u9 h1 (fun _ z => by cases z))) rfl xs (eb_list (ev_var (i := 10) rfl) (sq_of (u9 h2 (fun _ z => by cases z)))) (paired_self fun x hx => tg_self rfl rfl)
    have hrt11 : H11 rt = some (.tup XS.flatten) := (g8.trans b11) _ _ (g7 _ _ (by
      have h9 := (((g4.trans g5).trans g6).trans b9) _ _ hrt
      rw [rm_ne (nx h9 (fun _ z => by cases z))]
      exact h9))
    exact q H11 _ rt XS.flatten ((gL.trans g8).trans b11) x11 rfl hrt11 (Paired.imp (fun _ _ z => z.kp (Kp.ex ((gL.trans g8).trans b11))) hflat)
end
end Q7
/-! _law_words, _law_kind_of, _law_wrong_name -/
namespace Q7
open PySem PySem.Spec PyProof.Rows L2 Evl
def ownT : List (Str × List Str) := [("feed", ["take", "skip", "drain", "fetch", "bind"]), ("dice", ["roll", "seed"]), ("source", ["change"]), ("table", ["get", "peek", "put", "fill", "drop", "size", "keys", "load", "wipe"]), ("field", ["look", "glance", "renew"]), ("flag", ["lift", "read", "watch"]), ("slot", ["keep", "copy", "tell"])]
def seenT : List (Str × List Str) := [("feed", ["take", "drain", "spy"]), ("dice", ["roll", "spy"]), ("source", ["spy"]), ("table", ["get", "drop", "peek", "has", "size", "keys", "spy"]), ("field", ["look", "renew", "glance", "spy"]), ("flag", ["read", "watch", "spy"]), ("slot", ["mark", "tell", "bound", "spy"])]
def kinds7 : List Str := ["feed", "dice", "source", "table", "field", "flag", "slot"]
def wordsOf (k : Str) (b : Bool) : List Str := ((if b = true then seenT else ownT).lookup k).getD []
theorem valV_merge {k : Key} : ∀ {kvs acc : List (Key × V)}, (kvs.map Prod.fst).Nodup → valV (mergeK acc kvs) k = match valV kvs k with
    | some v => some v
    | none => valV acc k
  | [], acc, _ => rfl
  | p :: r, acc, h => by
    rw [List.map_cons, List.nodup_cons] at h
    show valV (mergeK (putK acc p.1 p.2) r) k = _
    rw [valV_merge h.2, valV_put]
    by_cases e : p.1 = k
    · rw [valV_pos e, if_pos e.symm]
      have : valV r k = none := by
        unfold valV
        have h0 : r.find? (fun kv => decide (kv.1 = k)) = none := by
          rw [List.find?_eq_none]
          intro x hx hd
          exact h.1 (by
            rw [e, ← of_decide_eq_true hd]
            exact List.mem_map_of_mem hx)
        rw [h0]
        rfl
      rw [this]
    · rw [valV_neg e, if_neg (fun z => e z.symm)]
section
variable {K : PySem.W.Frag} {σ : L2.St} {H H' H0 : Hp} {ta tb te tx tl tk tv : TE}
inductive DspOk (σ : L2.St) : List (TE × TE) → List (Str × List Str) → Prop
  | nil : DspOk σ [] []
  | cons {k : Str} {ws : List Str} {tk tv : TE} {trs : List (TE × TE)} {kvs : List (Str × List Str)} (hk : ∀ H, Ev tk σ H (.str k)) (hv : ∀ H, EvL tv σ H (ws.map V.str)) (r : DspOk σ trs kvs) : DspOk σ ((tk, tv) :: trs) ((k, ws) :: kvs)
/-- what a display's pairs are -/
def DspV (H0 H : Hp) (kv : Key × V) (e : Str × List Str) : Prop := kv.1 = Sum.inr e.1 ∧ ∃ a, kv.2 = .ref a ∧ H0 a = none ∧ H a = some (.lst (e.2.map V.str))
theorem dsp_walk {H0 : Hp} {p : Addr} : ∀ {trs : List (TE × TE)} {kvs : List (Str × List Str)}, DspOk σ trs kvs → ∀ H, Ex H0 H → ∀ Q : List (V × V) → Hp → Prop, (∀ (es : List (Key × V)) H2, Ex H H2 → Paired (DspV H0 H2) es kvs → Q (es.map fun kv => (kV kv.1, kv.2)) H2) → tPairs trs σ H Q
  | _, _, .nil, H, _, Q, q => q [] H (Ex.refl H) .nil
  | _, _, .cons (k := k) (ws := ws) hk hv r, H, e, Q, q => by
    refine hk H H (Ex.refl H) _ fun H1 e1 => ?_
    refine hv H1 H1 (Ex.refl H1) _ fun a H2 ha e2 h2 => ?_
    refine dsp_walk (p := p) r H2 ((e.trans e1).trans e2) _ fun es H3 e3 hP => ?_
    exact q ((Sum.inr k, .ref a) :: es) H3 ((e1.trans e2).trans e3) (.cons ⟨rfl, a, rfl, fresh_back (e.trans e1) ha, e3 _ _ h2⟩ hP)
theorem dsp_val {H0 H : Hp} {z : Str} : ∀ {es : List (Key × V)} {kvs : List (Str × List Str)}, Paired (DspV H0 H) es kvs → ∀ {ws : List Str}, kvs.lookup z = some ws → ∃ a, valV es (Sum.inr z) = some (.ref a) ∧ H0 a = none ∧ H a = some (.lst (ws.map V.str))
  | [], _, .nil, _, h => by cases h
  | p :: _, (k, w) :: _, .cons a b, ws, h => by
    obtain ⟨h1, ad, h2, h3, h4⟩ := a
    by_cases e : z = k
    · subst e
      rw [List.lookup_cons, beq_self_eq_true] at h
      obtain rfl : w = ws := Option.some.inj h
      exact ⟨ad, by rw [valV_pos h1, h2], h3, h4⟩
    · have e' : (z == k) = false := by
        cases hb : (z == k) with
        | false => rfl
        | true => exact absurd (eq_of_beq hb) e
      rw [List.lookup_cons, e'] at h
      obtain ⟨a2, g1, g2, g3⟩ := dsp_val b h
      refine ⟨a2, ?_, g2, g3⟩
      rw [valV_neg (by
        rw [h1]
        exact fun q => e (Sum.inr.inj q).symm)]
      exact g1
theorem dsp_keys {H0 H : Hp} : ∀ {es : List (Key × V)} {kvs : List (Str × List Str)}, Paired (DspV H0 H) es kvs → es.map Prod.fst = kvs.map fun e => (Sum.inr e.1 : Key)
  | _, _, .nil => rfl
  | _, _, .cons a b => by
    rw [List.map_cons, List.map_cons, dsp_keys b, a.1]
/-- a dict of texts' lists, laid out -/
theorem en_disp {trs : List (TE × TE)} {kvs : List (Str × List Str)} (h : DspOk σ trs kvs) (hn : (kvs.map Prod.fst).Nodup) (hl : kvs.length ≤ 15) : EvN (tDisp trs) σ H (fun v H2 => ∃ p es, v = .ref p ∧ H2 p = some (.dK es) ∧ ∀ z ws, kvs.lookup z = some ws → ∃ a, valV es (Sum.inr z) = some (.ref a) ∧ H a = none ∧ H2 a = some (.lst (ws.map V.str))) := fun H1 e Q q => by
  intro p hp
  have e1 := Ex.new (o := .dK []) hp
  refine dsp_walk (H0 := H1) (p := p) h _ e1 _ fun es H2 e2 hP => ⟨e2 _ _ upd_same, es, rfl, ?_, ?_⟩
  · rw [Paired.length hP]
    exact hl
  · refine q _ _ (Ex.mut (e1.trans e2) hp) ⟨p, _, rfl, upd_same, fun z ws hz => ?_⟩
    obtain ⟨a, h1, h2, h3⟩ := dsp_val hP hz
    refine ⟨a, ?_, fresh_back e h2, ?_⟩
    · rw [valV_merge, h1]
      rw [dsp_keys hP]
      have : kvs.map (fun e => (Sum.inr e.1 : Key)) = (kvs.map Prod.fst).map (Sum.inr : Str → Key) := by
        rw [List.map_map]
        rfl
      rw [this]
      exact List.Pairwise.map _ (fun a b hab hc => hab (Sum.inr.inj hc)) hn
    · rw [upd_ne (fun z => by
        rw [z, e2 _ _ upd_same] at h3
        cases h3)]
      exact h3
end
section
variable {P : Program} {w : World} {K : PySem.W.Frag} {mg : Str → Option Value} {base : Heap}
theorem words_at : ∀ k ∈ kinds7, ∀ b : Bool, (if b = true then seenT else ownT).lookup k = some (wordsOf k b) := by decide +kernel
def spWords (K : PySem.W.Frag) : Sp := fun vs H Q _ => ∃ (k : Str) (b : Bool), vs = [.str k, .bl b] ∧ k ∈ kinds7 ∧ RetL ((wordsOf k b).map V.str) H Q
theorem sc__law_words : FnScope ["_law_kind", "_law_of_probe", "_law_own", "_law_looks"] ["_law_kind", "_law_of_probe"] (defScope s_law_words) := ⟨rfl, rfl, rfl, by decide +kernel, rfl, by decide +kernel, by decide +kernel⟩
theorem D__law_words (T : Txt w K mg) : Dn P w K mg base CX0 1 "_law_words" (spWords K) := by
  refine mkD0 T.fds_law_words T.g__law_words T.kps_law_words sc__law_words (fun _ _ _ _ _ _ us hl => match us, hl with | [_, _], _ => rfl) (fun vs H Q E h => ?_) (fun cdv A outer s H vs Q E hr h => ?_)
  · obtain ⟨k, b, rfl, _⟩ := h
    rfl
  · obtain ⟨k, b, rfl, hk, q⟩ := h
    have hu := hu_of hr
    refine ⟨_, (pss_cons (ps_set (i := 2) sc__law_words.nd rfl (Or.inl rfl) (pe_disp (pps_cons pe_str (pe_lst (pa_cons pe_str (pa_cons pe_str (pa_cons pe_str (pa_cons pe_str (pa_cons pe_str pa_nil)))))) (pps_cons pe_str (pe_lst (pa_cons pe_str (pa_cons pe_str pa_nil))) (pps_cons pe_str (pe_lst (pa_cons pe_str pa_nil)) (pps_cons pe_str (pe_lst (pa_cons pe_str (pa_cons pe_str (pa_cons pe_str (pa_cons pe_str (pa_cons pe_str (pa_cons pe_str (pa_cons pe_str (pa_cons pe_str (pa_cons pe_str pa_nil)))))))))) (pps_cons pe_str (pe_lst (pa_cons pe_str (pa_cons pe_str (pa_cons pe_str pa_nil)))) (pps_cons pe_str (pe_lst (pa_cons pe_str (pa_cons pe_str (pa_cons pe_str pa_nil)))) (pps_cons pe_str (pe_lst (pa_cons pe_str (pa_cons pe_str (pa_cons pe_str pa_nil)))) pps_nil))))))) rfl rfl (by intro z; cases z) (by decide)))
    (pss_cons (ps_set (i := 3) sc__law_words.nd rfl (Or.inl rfl) (pe_disp (pps_cons pe_str (pe_lst (pa_cons pe_str (pa_cons pe_str (pa_cons pe_str pa_nil)))) (pps_cons pe_str (pe_lst (pa_cons pe_str (pa_cons pe_str pa_nil))) (pps_cons pe_str (pe_lst (pa_cons pe_str pa_nil)) (pps_cons pe_str (pe_lst (pa_cons pe_str (pa_cons pe_str (pa_cons pe_str (pa_cons pe_str (pa_cons pe_str (pa_cons pe_str (pa_cons pe_str pa_nil)))))))) (pps_cons pe_str (pe_lst (pa_cons pe_str (pa_cons pe_str (pa_cons pe_str (pa_cons pe_str pa_nil))))) (pps_cons pe_str (pe_lst (pa_cons pe_str (pa_cons pe_str (pa_cons pe_str pa_nil)))) (pps_cons pe_str (pe_lst (pa_cons pe_str (pa_cons pe_str (pa_cons pe_str (pa_cons pe_str pa_nil))))) pps_nil))))))) rfl rfl (by intro z; cases z) (by decide)))
    (pss_one (ps_ret (pe_ifExp (pt_val (pv 1)) (pe_dget hu (pv 3) (pv 0) (fun _ _ => rfl)) (pe_dget hu (pv 2) (pv 0) (fun _ _ => rfl))))))), ?_⟩
    have hw := words_at k hk b
    refine q_asgN (en_disp (kvs := ownT) (.cons (fun _ => ev_c) (fun _ => el_lst (ea_cons ev_c (ea_cons ev_c (ea_cons ev_c (ea_cons ev_c (ea_cons ev_c ea_nil))))) (by decide)) (.cons (fun _ => ev_c) (fun _ => el_lst (ea_cons ev_c (ea_cons ev_c ea_nil)) (by decide)) (.cons (fun _ => ev_c) (fun _ => el_lst (ea_cons ev_c ea_nil) (by decide))
      (.cons (fun _ => ev_c) (fun _ => el_lst (ea_cons ev_c (ea_cons ev_c (ea_cons ev_c (ea_cons ev_c (ea_cons ev_c (ea_cons ev_c (ea_cons ev_c (ea_cons ev_c (ea_cons ev_c ea_nil))))))))) (by decide)) (.cons (fun _ => ev_c) (fun _ => el_lst (ea_cons ev_c (ea_cons ev_c (ea_cons ev_c ea_nil))) (by decide))
      (.cons (fun _ => ev_c) (fun _ => el_lst (ea_cons ev_c (ea_cons ev_c (ea_cons ev_c ea_nil))) (by decide)) (.cons (fun _ => ev_c) (fun _ => el_lst (ea_cons ev_c (ea_cons ev_c (ea_cons ev_c ea_nil))) (by decide)) .nil))))))) (by decide +kernel) (by decide)) fun d1 H1 e1 h1 => ?_
    refine q_asgN (en_disp (kvs := seenT) (.cons (fun _ => ev_c) (fun _ => el_lst (ea_cons ev_c (ea_cons ev_c (ea_cons ev_c ea_nil))) (by decide)) (.cons (fun _ => ev_c) (fun _ => el_lst (ea_cons ev_c (ea_cons ev_c ea_nil)) (by decide)) (.cons (fun _ => ev_c) (fun _ => el_lst (ea_cons ev_c ea_nil) (by decide))
      (.cons (fun _ => ev_c) (fun _ => el_lst (ea_cons ev_c (ea_cons ev_c (ea_cons ev_c (ea_cons ev_c (ea_cons ev_c (ea_cons ev_c (ea_cons ev_c ea_nil))))))) (by decide)) (.cons (fun _ => ev_c) (fun _ => el_lst (ea_cons ev_c (ea_cons ev_c (ea_cons ev_c (ea_cons ev_c ea_nil)))) (by decide))
      (.cons (fun _ => ev_c) (fun _ => el_lst (ea_cons ev_c (ea_cons ev_c (ea_cons ev_c ea_nil))) (by decide)) (.cons (fun _ => ev_c) (fun _ => el_lst (ea_cons ev_c (ea_cons ev_c (ea_cons ev_c (ea_cons ev_c ea_nil)))) (by decide)) .nil))))))) (by decide +kernel) (by decide)) fun d2 H2 e2 h2 => ?_
    obtain ⟨p1, es1, rfl, hp1, hv1⟩ := h1
    obtain ⟨p2, es2, rfl, hp2, hv2⟩ := h2
    cases b with
    | true =>
      obtain ⟨a, g1, g2, g3⟩ := hv2 k _ hw
      refine ⟨_, rfl, true, rfl, ?_⟩
      refine ⟨_, rfl, _, rfl, p2, .ref a, rfl, ?_, q a H2 (fresh_back e1 g2) (e1.trans e2) g3⟩
      have z := DGet.k (k := Sum.inr k) hp2
      rw [g1] at z
      exact z
    | false =>
      obtain ⟨a, g1, g2, g3⟩ := hv1 k _ hw
      refine ⟨_, rfl, false, rfl, ?_⟩
      refine ⟨_, rfl, _, rfl, p1, .ref a, rfl, ?_, q a H2 g2 (e1.trans e2) (e2 _ _ g3)⟩
      have z := DGet.k (k := Sum.inr k) (e2 _ _ hp1)
      rw [g1] at z
      exact z
/-! ### kind_of -/
def kindT (w k : Str) : Bool := !decide (w = "spy") && decide (w ∈ wordsOf k false ++ wordsOf k true)
def kindOf (w : Str) : Str := (kinds7.find? (kindT w)).getD "any"
def spKindOf : Sp := fun vs H Q _ => ∃ w : Str, vs = [.str w] ∧ RetV (.str (kindOf w)) H Q
theorem find_take {α : Type} (f : α → Bool) : ∀ {l : List α} {i : Nat} {x : α}, l[i]? = some x → (∀ (j : Nat) (y : α), j < i → l[j]? = some y → f y = false) → f x = true → l.find? f = some x
  | [], i, x, h, _, _ => by simp at h
  | a :: r, 0, x, h, _, hf => by
    have e : a = x := Option.some.inj h
    rw [List.find?_cons, e, hf]
  | a :: r, i + 1, x, h, hn, hf => by
    rw [List.find?_cons, hn 0 a (by omega) rfl]
    exact find_take f h (fun j y hj hy => hn (j + 1) y (by omega) hy) hf
theorem find_no {α : Type} (f : α → Bool) {l : List α} (h : ∀ (j : Nat) (y : α), l[j]? = some y → f y = false) : l.find? f = none := by
  rw [List.find?_eq_none]
  intro x hx
  obtain ⟨j, hj⟩ := List.getElem?_of_mem hx
  rw [h j x hj]
  decide
theorem sc__law_kind_of : FnScope ["_law_word_here", "_law_kind"] ["_law_word_here"] (defScope s_law_kind_of) := ⟨rfl, rfl, rfl, by decide +kernel, rfl, by decide +kernel, by decide +kernel⟩
theorem D__law_kind_of (T : Txt w K mg) (D__law_words : Dn P w K mg base CX0 1 "_law_words" (spWords K)) : Dn P w K mg base CX0 2 "_law_kind_of" spKindOf := by
  refine mkD0 T.fds_law_kind_of T.g__law_kind_of T.kps_law_kind_of sc__law_kind_of (fun _ _ _ _ _ _ us hl => match us, hl with | [_], _ => rfl) (fun vs H Q E h => ?_) (fun cdv A outer s H vs Q E hr h => ?_)
  · obtain ⟨wd, rfl, _⟩ := h
    rfl
  · obtain ⟨wd, rfl, q⟩ := h
    refine ⟨_, (pss_cons (ps_for PassesOwn.never rfl (pi_list (pe_lst (pa_cons pe_str (pa_cons pe_str (pa_cons pe_str (pa_cons pe_str (pa_cons pe_str (pa_cons pe_str (pa_cons pe_str pa_nil))))))))) (pg_name (i := 1) sc__law_kind_of.nd rfl (Or.inl rfl))
    (pss_one (ps_if (PW.pt (pw_and (pt_cmpR op_ne (pv 0) pe_str (nomark _)) (pw_and1 (pt_cmpR op_in_seq (pv 0) (pe_op op_cat (pe_d D__law_words (hr.mono (by decide)) (by rfl) pass0 (pa_cons (pv 1) (pa_cons pe_bl pa_nil))) (pe_d D__law_words (hr.mono (by decide)) (by rfl) pass0 (pa_cons (pv 1) (pa_cons pe_bl pa_nil)))) (by rfl))))) (pss_one (ps_ret (pv 1))) pss_nil)))
    (pss_one (ps_ret pe_str))), ?_⟩
    refine q_forP (ei_listN (xs := kinds7.map V.str) (el_lst (ea_cons ev_c (ea_cons ev_c (ea_cons ev_c (ea_cons ev_c (ea_cons ev_c (ea_cons ev_c (ea_cons ev_c ea_nil))))))) (by decide))) (fun i σ' H' => (∃ y, σ' = [some (.str wd), y]) ∧ ∀ j k, j < i → kinds7[j]? = some k → kindT wd k = false) (fun H1 e1 => ⟨⟨none, rfl⟩, fun j p hj => absurd hj (Nat.not_lt_zero j)⟩) (fun H1 e1 i x σ' H' hx e2 pv => ?_) fun σ' H' e pv => ?_
    · obtain ⟨⟨y, rfl⟩, hprev⟩ := pv
      rw [List.getElem?_map] at hx
      obtain ⟨k, hk, rfl⟩ := Option.map_eq_some_iff.mp hx
      have hkm := List.mem_of_getElem? hk
      refine s_when (b := kindT wd k) (et_and (et_test (ev_neS (ev_var (i := 0) rfl) ev_c)) fun _ => et_test ?_) (fun hb H3 e3 => ?_) fun hb H3 e3 => ⟨e2.trans e3, ⟨_, rfl⟩, fun j k' hj hk' => ?_⟩
      · intro H3 e3 Q3 q3
        refine ⟨_, rfl, ?_⟩
        refine ⟨_, rfl, k, false, rfl, hkm, fun a1 H4 ha1 e4 h4 => ?_⟩
        refine ⟨_, rfl, k, true, rfl, hkm, fun a2 H5 ha2 e5 h5 => ?_⟩
        refine ⟨a1, a2, _, _, rfl, rfl, e5 _ _ h4, h5, ?_, fun p hp => ?_⟩
        · have : (wordsOf k false).length + (wordsOf k true).length ≤ 100 := (by decide +kernel : ∀ k ∈ kinds7, (wordsOf k false).length + (wordsOf k true).length ≤ 100) k hkm
          rw [List.length_map, List.length_map]
          exact sz_of (by omega)
        · rw [← List.map_append]
          refine ⟨p, _, rfl, Or.inl (sq_of upd_same), rfl, flat_strs _, ?_⟩
          have z := q3 _ ((e4.trans e5).trans (Ex.new (o := .lst ((wordsOf k false ++ wordsOf k true).map V.str)) hp))
          rw [inV_str]
          exact z
      · refine s_ret (ev_var (i := 1) rfl) fun H4 e4 => ?_
        have z : kindOf wd = k := by
          unfold kindOf
          rw [find_take (kindT wd) hk hprev hb]
          rfl
        rw [z] at q
        exact q H4 (((e1.trans e2).trans e3).trans e4)
      · by_cases hji : j < i
        · exact hprev j k' hji hk'
        · obtain rfl : j = i := by omega
          rw [hk] at hk'
          rw [← Option.some.inj hk']
          exact hb
    · refine s_ret ev_c fun H4 e4 => ?_
      have z : kindOf wd = "any" := by
        unfold kindOf
        rw [find_no (kindT wd) fun j k hj => pv.2 j k (by
          have := (List.getElem?_eq_some_iff.mp hj).1
          rw [List.length_map]
          exact this) hj]
        rfl
      rw [z] at q
      exact q H4 (e.trans e4)
end
end Q7
/-! _law_wrong_name -/
namespace Q7
open PySem PySem.Spec PyProof.Rows L2 Evl
def OutV (H : Hp) (v : V) : Out → Prop
  | none => v = .non
  | some (c, _, x) => ∃ a, v = .ref a ∧ H a = some (.tup [.str c, x])
def isK (kind name : Str) (t : TH) : Bool := decide (t.name = name) && decide (kind ∈ ([t.kind, "any"] : List Str))
def foundL (ths : List TH) (kind name : Str) : List TH := ths.filter (isK kind name)
def wn1 (ths : List TH) (kind : Str) (ws : List Str) (name : Str) : Out := match foundL ths kind name with
  | [] => eNoThing name
  | t :: _ => if kind = "table" ∧ ws.length = 3 ∧ ¬ (ws.getD 2 "") ∈ t.parts then eNoKey (ws.getD 2 "") else none
def namesW (ws : List Str) : List Str := if headOf ws ∈ (["bind", "copy"] : List Str) then ws.drop 1 else (ws.take 2).drop 1
def wrongN (ths : List TH) (ws : List Str) : Out := (namesW ws).findSome? (wn1 ths (kindOf (headOf ws)) ws)
theorem filt_pair {α : Type} {F : V → α → Prop} (c : α → Bool) : ∀ {vs : List V} {ts : List α}, Paired F vs ts → ∃ ys : List (Option V), Paired (fun v y => ∃ t, F v t ∧ y = if c t = true then some v else none) vs ys ∧ Paired F (ys.filterMap id) (ts.filter c)
  | [], [], .nil => ⟨[], .nil, .nil⟩
  | v :: _, t :: _, .cons a b => by
    obtain ⟨ys, h1, h2⟩ := filt_pair c b
    cases hc : c t with
    | true =>
      refine ⟨some v :: ys, .cons ⟨t, a, by rw [hc]; rfl⟩ h1, ?_⟩
      rw [List.filter_cons, if_pos hc]
      exact .cons a h2
    | false =>
      refine ⟨none :: ys, .cons ⟨t, a, by rw [hc]; rfl⟩ h1, ?_⟩
      rw [List.filter_cons, if_neg (by rw [hc]; decide)]
      exact h2
section
variable {P : Program} {w : World} {K : PySem.W.Frag} {mg : Str → Option Value} {base : Heap}
abbrev TupsV (H : Hp) : List V → List TH → Prop := Paired (ThTup H)
def spWrongName (K : PySem.W.Frag) : Sp := fun vs H Q _ => ∃ (a b : Addr) (tvs : List V) (ths : List TH) (ws : List Str), vs = [.ref a, .ref b] ∧ SqL K H a tvs ∧ TupsV H tvs ths ∧ ths.length ≤ 1000 ∧ SqT K H b (ws.map V.str) ∧ ws ≠ [] ∧ ws.length ≤ 1000 ∧
  ∀ v H', Ex H H' → OutV H' v (wrongN ths ws) → Q v H'
theorem sc__law_wrong_name : FnScope ["_law_things_here", "_law_words_here", "_law_kind", "_law_name", "_law_found", "_law_thing_here"] ["_law_things_here", "_law_words_here"] (defScope s_law_wrong_name) := ⟨rfl, rfl, rfl, by decide +kernel, rfl, by decide +kernel, by decide +kernel⟩
theorem D__law_wrong_name (T : Txt w K mg) (D__law_kind_of : Dn P w K mg base CX0 2 "_law_kind_of" spKindOf) : Dn P w K mg base CX0 3 "_law_wrong_name" (spWrongName K) := by
  refine mkD0 T.fds_law_wrong_name T.g__law_wrong_name T.kps_law_wrong_name sc__law_wrong_name (fun _ _ _ _ _ _ us hl => match us, hl with | [_, _], _ => rfl) (fun vs H Q E h => ?_) (fun cdv A outer s H vs Q E hr h => ?_)
  · obtain ⟨a, b, tvs, ths, ws, rfl, _⟩ := h
    rfl
  · obtain ⟨a, b, tvs, ths, ws, rfl, ha, hT, hz, hb, hne, hwz, q⟩ := h
    have htl : tvs.length = ths.length := Paired.length hT
    obtain ⟨w0, wr, rfl⟩ : ∃ w0 wr, ws = w0 :: wr := by
      cases ws with
      | nil => exact absurd rfl hne
      | cons w0 wr => exact ⟨w0, wr, rfl⟩
    refine ⟨_, (pss_cons (ps_set (i := 2) sc__law_wrong_name.nd rfl (Or.inr rfl) (pe_d D__law_kind_of (hr.mono (by decide)) (by rfl) pass0 (pa_cons (pe_ix ix_tup (pv 1) pe_int (fun _ _ => rfl)) pa_nil)))
    (pss_cons (ps_for PassesOwn.never rfl (pi_tup (pe_ifExp (pt_cmpR op_in_seq (pe_ix ix_tup (pv 1) pe_int (fun _ _ => rfl)) (pe_tup (pa_cons pe_str (pa_cons pe_str pa_nil))) (by rfl)) (pe_slice sl_tupA (pv 1) (po_some pe_int) po_none) (pe_slice sl_tupA (pv 1) (po_some pe_int) (po_some pe_int)))) (pg_name (i := 3) sc__law_wrong_name.nd rfl (Or.inr rfl))
    (pss_cons (ps_setLc (i := 4) (own := [("_law_thing_here", 5)]) (g := gName 5) rfl sc__law_wrong_name.nd rfl rfl (sw_true rfl rfl rfl (by decide +kernel)) (pi_list (pv 0)) (blkOk_by (own := [("_law_thing_here", 5)]) (N := ["_law_things_here", "_law_words_here", "_law_kind", "_law_name", "_law_found", "_law_thing_here"]) (sc := defScope s_law_wrong_name) (by decide +kernel)) (fun _ _ _ _ _ => (pg_name (i := 5) sc__law_wrong_name.nd rfl (Or.inl rfl))) (fun _ _ _ _ _ => (pts_one (PW.pt (pw_and (pt_cmpR op_eq (pe_ix (r := rIxT K) ix_tup (pv 5) pe_int (fun _ _ => rfl)) (pv 3) (nomark _)) (pw_and1 (pt_cmpR (r := rIn K false) op_in_seq (pv 2) (pe_tup (pa_cons (pe_ix (r := rIxT K) ix_tup (pv 5) pe_int (fun _ _ => rfl)) (pa_cons pe_str pa_nil))) (by rfl))))))) (fun _ _ _ _ _ => (pv 5)))
    (pss_cons (ps_if (pt_not (pt_truth (pv 4) (fun _ => rfl))) (pss_one (ps_ret (pe_tup (pa_cons pe_str (pa_cons (pv 3) pa_nil))))) pss_nil)
    (pss_one (ps_if (PW.pt (pw_and (pt_cmpR op_eq (pv 2) pe_str (nomark _)) (pw_and (pt_cmpR op_eq (pe_callB call_len_seq (by rfl) T.n_len PySem.boot_len (pa_cons (pv 1) pa_nil)) pe_int (nomark _)) (pw_and1 (pt_cmpR op_notIn_seq (pe_ix ix_tup (pv 1) pe_int (fun _ _ => rfl)) (pe_ix ix_tup (pe_ix ix_list (pv 4) pe_int (fun _ _ => rfl)) pe_int (fun _ _ => rfl)) (by rfl)))))) (pss_one (ps_ret (pe_tup (pa_cons pe_str (pa_cons (pe_ix ix_tup (pv 1) pe_int (fun _ _ => rfl)) pa_nil))))) pss_nil)))))
    (pss_one (ps_ret pe_non)))), ?_⟩
    have hbT : SqT K H b (V.str w0 :: wr.map V.str) := hb
    refine q_asg (v := .str (kindOf w0)) (ev_d (ea_cons (ev_ixT (ev_var (i := 1) rfl) hbT ev_c (atI_nat (j := 0) rfl)) ea_nil) fun H1 e1 Q1 q1 => ⟨w0, rfl, q1⟩) fun H1 e1 => ?_
    have hb1 := ex_t e1 hbT
    have hnm : EvS K (tIf (tTest (tOp (rIn K false) (tOp (rIxT K) (tVar 1) (tC (.int 0))) (tTup (tCons (tC (.str "bind")) (tCons (tC (.str "copy")) tNil))))) (tSl (rSlA K) (tVar 1) (tPart (tC (.int 1))) tNoPart) (tSl (rSlA K) (tVar 1) (tPart (tC (.int 1))) (tPart (tC (.int 2)))))
        ((start ["_law_things_here", "_law_words_here", "_law_kind", "_law_name", "_law_found", "_law_thing_here"] [.ref a, .ref b]).set 2 (some (.str (kindOf w0)))) H1 ((namesW (w0 :: wr)).map V.str) := by
      have e : (namesW (w0 :: wr)).map V.str = if decide (w0 ∈ (["bind", "copy"] : List Str)) = true then ((w0 :: wr).map V.str).drop 1 else (((w0 :: wr).map V.str).take 2).drop 1 := by
        unfold namesW
        by_cases h : w0 ∈ (["bind", "copy"] : List Str)
        · rw [if_pos (show headOf (w0 :: wr) ∈ _ from h), if_pos (decide_eq_true h), List.map_drop]
        · rw [if_neg (show ¬ headOf (w0 :: wr) ∈ _ from h), if_neg (by simpa using h), List.map_drop, List.map_take]
      rw [e]
      refine es_ifE (et_test (ev_inD ["bind", "copy"] (ev_ixT (ev_var (i := 1) rfl) hb1 ev_c (atI_nat (j := 0) rfl)) (eu_tup (ea_cons ev_c (ea_cons ev_c ea_nil)) (by decide)))) (fun _ => es_from 1 (es_T (ev_var (i := 1) rfl) hb1)) fun _ => ?_
      have z := es_sl (K := K) (te := tVar 1) (lo := some 1) (hi := some 2) (ev_var (i := 1) rfl) (eo_some ev_c) (eo_some ev_c) hb1 (σ := (start ["_law_things_here", "_law_words_here", "_law_kind", "_law_name", "_law_found", "_law_thing_here"] [.ref a, .ref b]).set 2 (some (.str (kindOf w0)))) (tl := tPart (tC (.int 1))) (th := tPart (tC (.int 2)))
      rw [show cutV (V.str w0 :: wr.map V.str) (some 1) (some 2) = (((w0 :: wr).map V.str).take 2).drop 1 from cutV_mid _ 1 2] at z
      exact z
    refine q_forP (ei_tupS hnm) (fun i σ' H' => (∃ y3 y4 y5, σ' = [some (.ref a), some (.ref b), some (.str (kindOf w0)), y3, y4, y5]) ∧ ∀ j n, j < i → (namesW (w0 :: wr))[j]? = some n → wn1 ths (kindOf w0) (w0 :: wr) n = none) (fun H2 e2 => ⟨⟨none, none, none, rfl⟩, fun j p hj => absurd hj (Nat.not_lt_zero j)⟩) (fun H2 e2 i x σ' H3 hx e3 pv => ?_) fun σ' H3 e3 pv => ?_
    · obtain ⟨⟨y3, y4, y5, rfl⟩, hprev⟩ := pv
      rw [List.getElem?_map] at hx
      obtain ⟨nm, hnmi, rfl⟩ := Option.map_eq_some_iff.mp hx
      have e13 := (e1.trans e2).trans e3
      obtain ⟨ys, hys, hfd⟩ := filt_pair (isK (kindOf w0) nm) (Paired.imp (fun _ _ z => z.kp (Kp.ex e13)) hT : TupsV H3 tvs ths)
      refine q_asgL (el_lcR ys (ei_list (ev_var (i := 0) rfl) (ex_l e13 ha)) (by omega) (Paired.imp (fun v y h => ?_) hys)) fun fl H4 hfl e4 h4 => ?_
      · obtain ⟨t, ⟨ta, tb, rfl, h1, h2⟩, rfl⟩ := h
        refine tgO_name rfl (fun H5 e5 => ?_) fun H5 e5 v hv => ?_
        · have z : (if isK (kindOf w0) nm t = true then some (V.ref ta) else none).isSome = (decide (t.name = nm) && decide (kindOf w0 ∈ ([t.kind, "any"] : List Str))) := by
            show _ = isK (kindOf w0) nm t
            cases isK (kindOf w0) nm t <;> rfl
          rw [z]
          refine et_and (et_test (ev_eqS (ev_ixT (ev_var (i := 5) rfl) (st_of (e5 _ _ h1)) ev_c (atI_nat (j := 1) rfl)) (ev_var (i := 3) rfl))) fun _ => et_test (ev_inD [t.kind, "any"] (ev_var (i := 2) rfl) (eu_tup (ea_cons (ev_ixT (ev_var (i := 5) rfl) (st_of (e5 _ _ h1)) ev_c (atI_nat (j := 0) rfl)) (ea_cons ev_c ea_nil)) (by simp)))
        · cases hk : isK (kindOf w0) nm t with
          | true =>
            rw [hk] at hv
            rw [← Option.some.inj hv]
            exact ev_var rfl
          | false =>
            rw [hk] at hv
            cases hv
      have e14 := e13.trans e4
      have hfd4 : TupsV H4 (ys.filterMap id) (foundL ths (kindOf w0) nm) := Paired.imp (fun _ _ z => z.kp (Kp.ex e4)) hfd
      cases hf : foundL ths (kindOf w0) nm with
      | nil =>
        rw [hf] at hfd4
        cases hyf : ys.filterMap id with
        | cons x r =>
          rw [hyf] at hfd4
          cases hfd4
        | nil =>
          rw [hyf] at h4
          refine q_when (b := true) (et_not (et_tru (b := false) (ev_var (i := 4) rfl) (truL (K := K) (sq_of h4)))) (fun _ H5 e5 => ?_) fun hb => by cases hb
          refine s_retU (eu_tup (ea_cons ev_c (ea_cons (ev_var (i := 3) rfl) ea_nil)) (by simp)) fun p H6 hp e6 h6 => q _ H6 ((e14.trans e5).trans e6) ?_
          have z : wrongN ths (w0 :: wr) = eNoThing nm := findSome_take _ hnmi hprev (by
            show wn1 ths (kindOf w0) (w0 :: wr) nm = _
            unfold wn1
            rw [hf]
            rfl)
          rw [z]
          exact ⟨p, rfl, h6⟩
      | cons t rest =>
        rw [hf] at hfd4
        cases hyf : ys.filterMap id with
        | nil =>
          rw [hyf] at hfd4
          cases hfd4
        | cons x r =>
          rw [hyf] at hfd4 h4
          cases hfd4 with
          | cons hx _ =>
          obtain ⟨ta, tb, rfl, g1, g2⟩ := hx
          refine q_when (b := false) (et_not (et_tru (b := true) (ev_var (i := 4) rfl) (truL (K := K) (sq_of h4)))) (fun hb => by cases hb) fun _ H5 e5 => ?_
          have e15 := e14.trans e5
          have hb5 := ex_t e15 hb
          have hwn : wn1 ths (kindOf w0) (w0 :: wr) nm = if kindOf w0 = "table" ∧ (w0 :: wr).length = 3 ∧ ¬ ((w0 :: wr).getD 2 "") ∈ t.parts then eNoKey ((w0 :: wr).getD 2 "") else none := by
            unfold wn1
            rw [hf]
          have next : ∀ H6, Ex H5 H6 → wn1 ths (kindOf w0) (w0 :: wr) nm = none → Ex H2 H6 ∧ (∃ y3 y4 y5', ([some (.ref a), some (.ref b), some (.str (kindOf w0)), some (.str nm), some (.ref fl), y5] : L2.St) = [some (.ref a), some (.ref b), some (.str (kindOf w0)), y3, y4, y5']) ∧ ∀ j n, j < i + 1 → (namesW (w0 :: wr))[j]? = some n → wn1 ths (kindOf w0) (w0 :: wr) n = none := fun H6 e6 hs => by
            refine ⟨((e3.trans e4).trans e5).trans e6, ⟨_, _, _, rfl⟩, fun j n hj hjn => ?_⟩
            by_cases hji : j < i
            · exact hprev j n hji hjn
            · obtain rfl : j = i := by omega
              rw [hnmi] at hjn
              rw [← Option.some.inj hjn]
              exact hs
          by_cases hk : kindOf w0 = "table"
          · by_cases hl : (w0 :: wr).length = 3
            · obtain ⟨w1, w2, rfl⟩ : ∃ w1 w2, wr = [w1, w2] := by
                match wr, hl with
                | [w1, w2], _ => exact ⟨w1, w2, rfl⟩
              have hb6 : SqT K H5 b [V.str w0, V.str w1, V.str w2] := hb5
              refine s_when (b := !decide (w2 ∈ t.parts)) (et_is (et_and (a := true) (et_test (ev_is (ev_eqS (ev_var (i := 2) rfl) ev_c) (by rw [decide_eq_true hk]))) fun _ => et_and (a := true) (et_test (ev_is (ev_eqI (ev_lenT (ev_var (i := 1) rfl) hb6) ev_c) rfl)) fun _ => et_test (ev_is (ev_inS (K := K) (neg := true) (ev_ixT (ev_var (i := 1) rfl) hb6 ev_c (atI_nat (j := 2) rfl)) (es_T (a := tb) (ev_ixT (ev_ixL (ev_var (i := 4) rfl) (sq_of (e5 _ _ h4)) ev_c (atI_nat (j := 0) rfl)) (st_of (e5 _ _ g1)) ev_c (atI_nat (j := 2) rfl)) (st_of (e5 _ _ g2))) rfl (flat_strs _)) (by rw [inV_str] <;> rfl : _ = V.bl (!decide (w2 ∈ t.parts))))) rfl) (fun hb H6 e6 => ?_) fun hb H6 e6 => next H6 e6 ?_
              · have nk : ¬ w2 ∈ t.parts := by simpa using hb
                refine s_retU (eu_tup (ea_cons ev_c (ea_cons (ev_ixT (ev_var (i := 1) rfl) (ex_t e6 hb6) ev_c (atI_nat (j := 2) rfl)) ea_nil)) (by simp)) fun p H7 hp e7 h7 => q _ H7 ((e15.trans e6).trans e7) ?_
                have z : wrongN ths [w0, w1, w2] = eNoKey w2 := findSome_take _ hnmi hprev (by
                  show wn1 ths (kindOf w0) [w0, w1, w2] nm = _
                  rw [hwn, if_pos ⟨hk, rfl, nk⟩]
                  rfl)
                rw [z]
                exact ⟨p, rfl, h7⟩
              · have nk : w2 ∈ t.parts := by simpa using hb
                rw [hwn, if_neg (fun z => z.2.2 nk)]
            · refine s_when (b := false) (et_is (et_and (a := true) (b := false) (et_test (ev_is (ev_eqS (ev_var (i := 2) rfl) ev_c) (by rw [decide_eq_true hk]))) fun _ => et_is (et_and (a := false) (b := true) (et_test (ev_is (ev_eqI (ev_lenT (ev_var (i := 1) rfl) hb5) ev_c) (by
                  rw [decide_eq_false]
                  rw [List.length_map]
                  omega))) fun z => by cases z) rfl) rfl) (fun hb => by cases hb) fun hb H6 e6 => next H6 e6 ?_
              rw [hwn, if_neg (fun z => hl z.2.1)]
          · refine s_when (b := false) (et_is (et_and (a := false) (b := true) (et_test (ev_is (ev_eqS (ev_var (i := 2) rfl) ev_c) (by rw [decide_eq_false hk]))) fun z => by cases z) rfl) (fun hb => by cases hb) fun hb H6 e6 => next H6 e6 ?_
            rw [hwn, if_neg (fun z => hk z.1)]
    · refine s_ret ev_c fun H4 e4 => q _ H4 ((e1.trans e3).trans e4) ?_
      have z : wrongN ths (w0 :: wr) = none := findSome_none _ fun j n hj => pv.2 j n (by
        have := (List.getElem?_eq_some_iff.mp hj).1
        rw [List.length_map]
        exact this) hj
      rw [z]
      rfl
end
end Q7
/-! plain: the names that a row asks for -/
namespace Q7
open PySem PySem.Spec PyProof.Rows L2 Evl
def bc2 : List Str := ["bind", "copy"]
def shape (w : Str) (cs : List Str) : Bool :=
  (decide (kindOf w ∈ kinds7) && (!decide (w ∈ bc2) && (decide (cs = [kindOf w]) || (decide (kindOf w = "table") && decide (cs = (["table", "key"] : List Str)))))) || ((decide (kindOf w ∈ kinds7) && (decide (w ∈ bc2) && decide (cs = [kindOf w, kindOf w]))) || (decide (kindOf w = "any") && (!decide (w ∈ bc2) && decide (cs = (["thing"] : List Str)))))
def frees : List Str := ["say", "stop", "call", "else", "end"]
theorem shape_look : ∀ w ∈ looks_, (match lookC w with
  | some cs => shape w cs
  | none => true) = true := by decide +kernel
theorem shape_row : ∀ w ∈ rowKeys, (match rowC w with
  | some cs => if w ∈ frees then decide (cs = [] ∨ cs = (["name"] : List Str)) else shape w cs
  | none => true) = true := by decide +kernel
theorem shape_br : ∀ w ∈ (["take", "has", "read", "bound"] : List Str), (match deeds_.lookup w with
  | some cs => shape w cs
  | none => true) = true := by decide +kernel
theorem kinds_plain : ∀ k ∈ kinds7, ¬ k ∈ free_ ∧ ¬ k = "thing" ∧ ¬ k = "key" ∧ ¬ k = "any" := by decide +kernel
theorem found_nd : ∀ {ths : List TH} {kind z : Str}, (ths.map TH.name).Nodup → foundL ths kind z = (match findT ths z with
    | none => []
    | some t => if kind = t.kind ∨ kind = "any" then [t] else [])
  | [], _, _, _ => rfl
  | t :: r, kind, z, h => by
    rw [List.map_cons, List.nodup_cons] at h
    have ih := found_nd (kind := kind) (z := z) h.2
    unfold foundL findT at ih ⊢
    rw [List.filter_cons, List.find?_cons]
    by_cases e : t.name = z
    · have hno : r.find? (fun u => decide (u.name = z)) = none := by
        rw [List.find?_eq_none]
        intro u hu hd
        exact h.1 (by
          rw [e, ← of_decide_eq_true hd]
          exact List.mem_map_of_mem hu)
      rw [hno] at ih
      rw [decide_eq_true e]
      dsimp only at ih ⊢
      rw [ih]
      have hk : isK kind z t = decide (kind = t.kind ∨ kind = "any") := by
        unfold isK
        rw [decide_eq_true e, Bool.true_and]
        exact decide_eq_decide.mpr (by simp)
      rw [hk]
      by_cases hc : kind = t.kind ∨ kind = "any"
      · rw [if_pos hc, decide_eq_true hc]
        rfl
      · rw [if_neg hc, decide_eq_false hc]
        rfl
    · have hk : isK kind z t = false := by
        unfold isK
        rw [decide_eq_false e, Bool.false_and]
      rw [hk, decide_eq_false e]
      exact ih
theorem wn_two {ths : List TH} {kind : Str} {w0 a nm : Str} : wn1 ths kind [w0, a] nm = match foundL ths kind nm with
    | [] => eNoThing nm
    | _ :: _ => none := by
  unfold wn1
  cases foundL ths kind nm with
  | nil => rfl
  | cons t r =>
    show (if kind = "table" ∧ [w0, a].length = 3 ∧ _ then _ else none) = none
    rw [if_neg (fun z => absurd z.2.1 (by simp))]
theorem findSome1 {α β : Type} {f : α → Option β} {a : α} : [a].findSome? f = f a := by
  rw [List.findSome?_cons]
  cases f a <;> rfl
theorem findSome2 {α β : Type} {f : α → Option β} {a b : α} : [a, b].findSome? f = match f a with
    | some x => some x
    | none => f b := by
  rw [List.findSome?_cons, findSome1]
  cases f a <;> rfl
theorem known_wrong {ths : List TH} {w : Str} {args cs : List Str} (hn : (ths.map TH.name).Nodup) (hl : args.length = cs.length) (hs : shape w cs = true) : knownR ths (w :: args) cs = wrongN ths (w :: args) := by
  unfold shape at hs
  simp only [Bool.or_eq_true, Bool.and_eq_true, decide_eq_true_eq, Bool.not_eq_true', decide_eq_false_iff_not] at hs
  rcases hs with ⟨hk, hb, hc⟩ | ⟨hk, hb, hc⟩ | ⟨hk, hb, hc⟩
  · obtain ⟨k1, k2, k3, k4⟩ := kinds_plain _ hk
    rcases hc with rfl | ⟨htab, rfl⟩
    · obtain ⟨a, rfl⟩ : ∃ a, args = [a] := by
        match args, hl with
        | [a], _ => exact ⟨a, rfl⟩
      have e1 : namesW [w, a] = [a] := by
        unfold namesW
        rw [if_neg (show ¬ headOf [w, a] ∈ (["bind", "copy"] : List Str) from hb)]
        rfl
      unfold wrongN
      rw [e1, findSome1, show headOf [w, a] = w from rfl, wn_two, found_nd hn]
      unfold knownR
      show (match [(a, kindOf w)].findSome? (step1 ths) with
        | some e => some e
        | none => [(a, kindOf w)].findSome? (step2 ths _)) = _
      rw [findSome1, findSome1]
      have s2 : ∀ z, step2 ths z (a, kindOf w) = none := fun z => by
        show (if kindOf w = "key" then _ else none) = none
        rw [if_neg k3]
      rw [s2]
      show (match (if kindOf w ∈ free_ then none else match findT ths a with
        | none => eNoThing a
        | some t => if kindOf w = "thing" ∨ kindOf w = t.kind then none else eNoThing a) with
        | some e => some e
        | none => none) = _
      rw [if_neg k1]
      cases findT ths a with
      | none => rfl
      | some t =>
        by_cases ht : kindOf w = t.kind
        · simp [ht]
        · simp [ht, k2, k4]
          rfl
    · obtain ⟨a, b, rfl⟩ : ∃ a b, args = [a, b] := by
        match args, hl with
        | [a, b], _ => exact ⟨a, b, rfl⟩
      have e1 : namesW [w, a, b] = [a] := by
        unfold namesW
        rw [if_neg (show ¬ headOf [w, a, b] ∈ (["bind", "copy"] : List Str) from hb)]
        rfl
      unfold wrongN
      rw [e1, findSome1, show headOf [w, a, b] = w from rfl, htab]
      unfold wn1
      rw [found_nd hn]
      unfold knownR
      show (match [(a, ("table" : Str)), (b, ("key" : Str))].findSome? (step1 ths) with
        | some e => some e
        | none => [(a, ("table" : Str)), (b, ("key" : Str))].findSome? (step2 ths a)) = _
      rw [findSome2, findSome2]
      have s1 : step1 ths (b, ("key" : Str)) = none := by
        show (if ("key" : Str) ∈ free_ then none else _) = none
        rw [if_pos (by decide)]
      have s2 : step2 ths a (a, ("table" : Str)) = none := by
        show (if ("table" : Str) = "key" then _ else none) = none
        rw [if_neg (by decide)]
      have s3 : step1 ths (a, ("table" : Str)) = match findT ths a with
        | none => eNoThing a
        | some t => if ("table" : Str) = "thing" ∨ ("table" : Str) = t.kind then none else eNoThing a := by
        show (if ("table" : Str) ∈ free_ then none else _) = _
        rw [if_neg (by decide)]
        try rfl
      have s4 : step2 ths a (b, ("key" : Str)) = match findT ths a with
        | none => none
        | some t => if b ∈ t.parts then none else eNoKey b := by
        show (if ("key" : Str) = "key" then _ else none) = _
        rw [if_pos rfl]
        try rfl
      rw [s1, s2, s3, s4]
      cases findT ths a with
      | none => rfl
      | some t =>
        by_cases ht : ("table" : Str) = t.kind
        · by_cases hbp : b ∈ t.parts
          · simp [← ht, hbp]
          · simp [← ht, hbp]
        · have nt : ¬ (("table" : Str) = "thing" ∨ ("table" : Str) = t.kind) := fun z => z.elim (by decide) ht
          have na : ¬ (("table" : Str) = t.kind ∨ ("table" : Str) = "any") := fun z => z.elim ht (by decide)
          dsimp only
          rw [if_neg nt, if_neg na]
          rfl
  · obtain ⟨k1, k2, k3, k4⟩ := kinds_plain _ hk
    subst hc
    obtain ⟨a, b, rfl⟩ : ∃ a b, args = [a, b] := by
      match args, hl with
      | [a, b], _ => exact ⟨a, b, rfl⟩
    have e1 : namesW [w, a, b] = [a, b] := by
      unfold namesW
      rw [if_pos (show headOf [w, a, b] ∈ (["bind", "copy"] : List Str) from hb)]
      rfl
    have ntab : ¬ kindOf w = "table" := by
      have : ∀ w ∈ bc2, ¬ kindOf w = "table" := by decide +kernel
      exact this w hb
    have hw : ∀ nm, wn1 ths (kindOf w) [w, a, b] nm = step1 ths (nm, kindOf w) := fun nm => by
      unfold wn1
      rw [found_nd hn]
      show _ = (if kindOf w ∈ free_ then none else match findT ths nm with
        | none => eNoThing nm
        | some t => if kindOf w = "thing" ∨ kindOf w = t.kind then none else eNoThing nm)
      rw [if_neg k1]
      cases findT ths nm with
      | none => rfl
      | some t =>
        by_cases ht : kindOf w = t.kind
        · dsimp only
          rw [if_pos (Or.inl ht), if_pos (Or.inr ht)]
          show (if kindOf w = "table" ∧ _ then _ else none) = none
          rw [if_neg (fun z => ntab z.1)]
        · have nt : ¬ (kindOf w = "thing" ∨ kindOf w = t.kind) := fun z => z.elim k2 ht
          have na : ¬ (kindOf w = t.kind ∨ kindOf w = "any") := fun z => z.elim ht k4
          dsimp only
          rw [if_neg nt, if_neg na]
    unfold wrongN knownR
    rw [e1, show headOf [w, a, b] = w from rfl, findSome2, hw, hw]
    show (match [(a, kindOf w), (b, kindOf w)].findSome? (step1 ths) with
      | some e => some e
      | none => [(a, kindOf w), (b, kindOf w)].findSome? (step2 ths a)) = _
    have s2 : ∀ z, step2 ths a (z, kindOf w) = none := fun z => by
      show (if kindOf w = "key" then _ else none) = none
      rw [if_neg k3]
    rw [findSome2, findSome2, s2, s2]
    cases step1 ths (a, kindOf w) with
    | some e => rfl
    | none =>
      dsimp only
      cases step1 ths (b, kindOf w) <;> rfl
  · subst hc
    obtain ⟨a, rfl⟩ : ∃ a, args = [a] := by
      match args, hl with
      | [a], _ => exact ⟨a, rfl⟩
    have e1 : namesW [w, a] = [a] := by
      unfold namesW
      rw [if_neg (show ¬ headOf [w, a] ∈ (["bind", "copy"] : List Str) from hb)]
      rfl
    unfold wrongN
    rw [e1, findSome1, show headOf [w, a] = w from rfl, wn_two, found_nd hn, hk]
    unfold knownR
    show (match [(a, ("thing" : Str))].findSome? (step1 ths) with
      | some e => some e
      | none => [(a, ("thing" : Str))].findSome? (step2 ths _)) = _
    rw [findSome1, findSome1]
    have s2 : ∀ z, step2 ths z (a, ("thing" : Str)) = none := fun z => by
      show (if ("thing" : Str) = "key" then _ else none) = none
      rw [if_neg (by decide)]
    rw [s2]
    have s1 : step1 ths (a, ("thing" : Str)) = match findT ths a with
      | none => eNoThing a
      | some t => none := by
      show (if ("thing" : Str) ∈ free_ then none else match findT ths a with
        | none => eNoThing a
        | some t => if ("thing" : Str) = "thing" ∨ ("thing" : Str) = t.kind then none else eNoThing a) = _
      rw [if_neg (by decide)]
      cases findT ths a with
      | none => rfl
      | some t =>
        dsimp only
        rw [if_pos (Or.inl rfl)]
    rw [s1]
    cases findT ths a with
    | none => rfl
    | some t =>
      dsimp only
      rw [if_pos (Or.inr rfl)]
theorem known_free {ths : List TH} {ws cs : List Str} (h : cs = [] ∨ cs = (["name"] : List Str)) : knownR ths ws cs = none := by
  unfold knownR
  rcases h with rfl | rfl
  · rw [List.zip_nil_right]
    rfl
  · cases ws.drop 1 with
    | nil => rfl
    | cons a r =>
      rw [show (a :: r).zip (["name"] : List Str) = [(a, ("name" : Str))] by rw [List.zip_cons_cons, List.zip_nil_right]]
      show (match [(a, ("name" : Str))].findSome? (step1 ths) with
        | some e => some e
        | none => [(a, ("name" : Str))].findSome? (step2 ths _)) = none
      rw [findSome1, findSome1]
      have s1 : step1 ths (a, ("name" : Str)) = none := by
        show (if ("name" : Str) ∈ free_ then none else _) = none
        rw [if_pos (by decide)]
      have s2 : ∀ z, step2 ths z (a, ("name" : Str)) = none := fun z => by
        show (if ("name" : Str) = "key" then _ else none) = none
        rw [if_neg (by decide)]
      rw [s1, s2]
/-- the words that the law looks up -/
def askedR : R → List (List Str)
  | .pro _ _ as bs => as ++ bs
  | .ass _ _ as t => as ++ [t]
  | .tup (w :: r) => if w = "if" ∨ w = "while" then (if headOf r = "ask" then [] else [r]) else if w ∈ frees then [] else [w :: r]
  | _ => []
theorem findSome_map {α β γ : Type} (f : α → β) (g : β → Option γ) : ∀ l : List α, (l.map f).findSome? g = l.findSome? fun x => g (f x)
  | [] => rfl
  | a :: r => by
    rw [List.map_cons, List.findSome?_cons, List.findSome?_cons, findSome_map f g r]
theorem findSome_congr {α β : Type} {f g : α → Option β} : ∀ {l : List α}, (∀ x ∈ l, f x = g x) → l.findSome? f = l.findSome? g
  | [], _ => rfl
  | a :: r, h => by
    rw [List.findSome?_cons, List.findSome?_cons, h a List.mem_cons_self, findSome_congr fun x hx => h x (List.mem_cons_of_mem _ hx)]
theorem look_kw {ths : List TH} (hn : (ths.map TH.name).Nodup) {l : List Str} (h : lookB l = true) : knownR ths l ((lookC (headOf l)).getD []) = wrongN ths l := by
  obtain ⟨w, r, cs, rfl, hcs⟩ := lookB_some h
  have h' : fitsB (w :: r) (lookC w) = true := h
  obtain ⟨cs', hcs', hl⟩ := fitsB_len h'
  have hm : w ∈ looks_ := by
    by_cases hm : w ∈ looks_
    · exact hm
    · unfold lookC at hcs
      rw [if_neg (by simpa using hm)] at hcs
      cases hcs
  have hs := shape_look w hm
  show knownR ths (w :: r) ((lookC w).getD []) = _
  rw [hcs'] at hs ⊢
  exact known_wrong hn (by
    rw [List.length_cons] at hl
    show r.length = cs'.length
    omega) hs
theorem lookup_key {α : Type} : ∀ {l : List (Str × α)} {z : Str} {v : α}, l.lookup z = some v → z ∈ l.map Prod.fst := fun h => List.mem_map.mpr ⟨_, lookup_mem h, rfl⟩
theorem named_asked {ths : List TH} (hn : (ths.map TH.name).Nodup) {r : R} (h : rowB r = true) : (namedR r).findSome? (fun q => knownR ths q.1 q.2) = (askedR r).findSome? (wrongN ths) := by
  cases r with
  | non => cases h
  | tru => cases h
  | lst => cases h
  | str s => cases h
  | pro n g as bs =>
    have h1 : watchB (.pro n g as bs) = true := h
    unfold watchB at h1
    simp only [Bool.and_eq_true, List.all_eq_true] at h1
    show ((as ++ bs).map _).findSome? _ = (as ++ bs).findSome? _
    rw [findSome_map]
    refine findSome_congr fun l hl => look_kw hn ?_
    rcases List.mem_append.mp hl with hl | hl
    · exact h1.2.2.1 l hl
    · exact h1.2.2.2.1 l hl
  | ass n g as t =>
    have h1 : watchB (.ass n g as t) = true := h
    unfold watchB at h1
    simp only [Bool.and_eq_true, List.all_eq_true] at h1
    show ((as ++ [t]).map _).findSome? _ = (as ++ [t]).findSome? _
    rw [findSome_map]
    refine findSome_congr fun l hl => look_kw hn ?_
    rcases List.mem_append.mp hl with hl | hl
    · exact h1.2.2.1 l hl
    · rw [List.mem_singleton.mp hl]
      exact h1.2.2.2.1
  | tup ws =>
    cases ws with
    | nil => cases h
    | cons w r =>
      obtain ⟨_, _, h2⟩ := tupB_inv h
      show (if w = "if" ∨ w = "while" then [(r, (brC w (headOf r)).getD [])] else [(w :: r, (rowC w).getD [])]).findSome? _ = (if w = "if" ∨ w = "while" then (if headOf r = "ask" then [] else [r]) else if w ∈ frees then [] else [w :: r]).findSome? _
      rcases h2 with ⟨h2, h3⟩ | ⟨h2, h3⟩
      · rw [if_pos h2, if_pos h2, findSome1]
        show knownR ths r ((brC w (headOf r)).getD []) = _
        obtain ⟨cs, hcs, hl⟩ := fitsB_len h3
        rw [hcs]
        by_cases ha : headOf r = "ask"
        · rw [if_pos ha]
          unfold brC at hcs
          rw [if_pos (decide_eq_true ha)] at hcs
          obtain rfl := Option.some.inj hcs
          exact known_free (Or.inr rfl)
        · rw [if_neg ha, findSome1]
          unfold brC at hcs
          rw [if_neg (by simpa using ha)] at hcs
          split at hcs
          · rename_i hc
            obtain ⟨x, r', rfl⟩ : ∃ x r', r = x :: r' := by
              cases r with
              | nil => exact absurd hl (by simp; omega)
              | cons x r' => exact ⟨x, r', rfl⟩
            have hm : x ∈ (["take", "has", "read", "bound"] : List Str) := by
              simp only [Bool.or_eq_true, Bool.and_eq_true, decide_eq_true_eq] at hc
              have hc' : x = "take" ∨ w = "if" ∧ x ∈ (["has", "read", "bound"] : List Str) := hc
              rcases hc' with hc' | ⟨_, hc'⟩
              · rw [hc']
                exact List.mem_cons_self
              · exact List.mem_cons_of_mem _ hc'
            have hs := shape_br x hm
            have hcs' : deeds_.lookup x = some cs := hcs
            rw [hcs'] at hs
            exact known_wrong hn (by
              rw [List.length_cons] at hl
              show r'.length = cs.length
              omega) hs
          · cases hcs
      · rw [if_neg h2, if_neg h2, findSome1]
        show knownR ths (w :: r) ((rowC w).getD []) = _
        obtain ⟨cs, hcs, hl⟩ := fitsB_len h3
        have hm : w ∈ rowKeys := by
          have hcs' := hcs
          unfold rowC at hcs'
          unfold rowKeys
          cases hp : plain_.lookup w with
          | some c => exact List.mem_append_left _ (lookup_key hp)
          | none =>
            rw [hp] at hcs'
            by_cases hu : w ∈ unsaid_
            · simp only [decide_eq_true hu, if_true] at hcs'
              cases hcs'
            · simp only [decide_eq_false hu, Bool.false_eq_true, if_false] at hcs'
              exact List.mem_append_right _ (lookup_key hcs')
        have hs := shape_row w hm
        rw [hcs] at hs ⊢
        dsimp only at hs
        by_cases hf : w ∈ frees
        · rw [if_pos hf] at hs ⊢
          exact known_free (of_decide_eq_true hs)
        · rw [if_neg hf] at hs ⊢
          rw [findSome1]
          exact known_wrong hn (by
            rw [List.length_cons] at hl
            show r.length = cs.length
            omega) hs
end Q7
/-! _law_wrong_row -/
namespace Q7
open PySem PySem.Spec PyProof.Rows L2 Evl
def stepR (ths : List TH) (n : Int) (later met : List Str) (bl : List Blk) (r : R) : Out := match rowR ths n later met r with
  | some e => some e
  | none => openE bl n (headR r)
def LbV (H : Hp) (v : V) (b : Blk) : Prop := ∃ a, v = .ref a ∧ H a = some (.lst [.int b.1, .str b.2])
section
variable {K : PySem.W.Frag} {σ : L2.St} {H H' : Hp} {ta tb te tx tl : TE} {t u : TT} {x y z v : V}
theorem q_ifJ {D : Ends} {tz tu tw : TS} {b : Bool} (J : L2.St → Hp → Prop) (h : EvT t σ H b) (k : ∀ σ' H', J σ' H' → tz D σ' H') (h1 : b = true → (∀ σ' H', J σ' H' → tz D σ' H') → ∀ H1, Ex H H1 → tu { D with nx := tz D } σ H1)
    (h2 : b = false → (∀ σ' H', J σ' H' → tz D σ' H') → ∀ H1, Ex H H1 → tw { D with nx := tz D } σ H1) : tSeq (tIfS t tu tw) tz D σ H := q_if h (fun hb H1 e1 => h1 hb k H1 e1) fun hb H1 e1 => h2 hb k H1 e1
theorem el_cat2 {xs ys : List V} (ha : EvL ta σ H xs) (hb : EvL tb σ H ys) (hl : xs.length + ys.length ≤ 100000) : EvL (tOp rCat ta tb) σ H (xs ++ ys) := fun H1 e Q q =>
  ha H1 e _ fun a H2 _ e2 h2 => hb H2 (e.trans e2) _ fun b H3 _ e3 h3 => ⟨a, b, xs, ys, rfl, rfl, e3 _ _ h2, h3, sz_of hl, fun p hp => q p _ (fresh_back (e2.trans e3) hp) ((e2.trans e3).trans (Ex.new hp)) upd_same⟩
theorem el_ifE {b : Bool} {xs ys : List V} (h : EvT t σ H b) (h1 : b = true → EvL ta σ H xs) (h2 : b = false → EvL tb σ H ys) : EvL (tIf t ta tb) σ H (if b = true then xs else ys) := fun H1 e Q q => h H1 e _ fun H2 e2 => by
  cases b with
  | true => exact iteT (h1 rfl H2 (e.trans e2) Q fun p H3 hp e3 hx => q p H3 (fresh_back e2 hp) (e2.trans e3) hx)
  | false => exact iteF (h2 rfl H2 (e.trans e2) Q fun p H3 hp e3 hx => q p H3 (fresh_back e2 hp) (e2.trans e3) hx)
theorem en_lst1S {xs : List V} (h : EvS K te σ H xs) : EvN (tLst (tCons te tNil)) σ H fun v H2 => ∃ l p, v = .ref l ∧ H2 l = some (.lst [.ref p]) ∧ SqT K H2 p xs := fun H1 e Q q =>
  h H1 e _ fun p H2 e2 hp => ⟨by show 1 ≤ sizeLine; decide, fun l hl => q _ _ (e2.trans (Ex.new hl)) ⟨l, p, rfl, upd_same, ex_t (Ex.new hl) hp⟩⟩
theorem en_ifT {b : Bool} {S : V → Hp → Prop} (h : EvT t σ H b) (h1 : b = true → EvN ta σ H S) (h2 : b = false → EvN tb σ H S) : EvN (tIf t ta tb) σ H S := fun H1 e Q q => h H1 e _ fun H2 e2 => by
  cases b with
  | true => exact iteT (h1 rfl H2 (e.trans e2) Q fun p H3 e3 hx => q p H3 (e2.trans e3) hx)
  | false => exact iteF (h2 rfl H2 (e.trans e2) Q fun p H3 e3 hx => q p H3 (e2.trans e3) hx)
theorem ev_dN {sp : Sp} {vs : List V} {E : XK} {ta : TA} {S : V → Hp → Prop} (h : EvA ta σ H vs) (hs : ∀ H1, Ex H H1 → ∀ Q : VK, (∀ y H2, Ex H1 H2 → S y H2 → Q y H2) → sp vs H1 Q E) : EvN (tCallR sp E ta) σ H S := fun H1 e Q q =>
  h H1 e _ fun H2 e2 => hs H2 (e.trans e2) Q fun y H3 e3 s => q y H3 (e2.trans e3) s
end
theorem s_asgN {D : Ends} {te : TE} {i : Nat} {σ : L2.St} {H : Hp} {S : V → Hp → Prop} (h : EvN te σ H S) (k : ∀ y H1, Ex H H1 → S y H1 → D.nx (σ.set i (some y)) H1) : tAsg te (gName i) D σ H := h H (Ex.refl H) _ k
def lastIf (bl : List Blk) : Bool := match bl.getLast? with
  | some b => decide (b.2 = "if")
  | none => false
theorem openE_law {bl : List Blk} {n : Int} {w : Str} (hl : bl.length ≤ 8) : openE bl n w = if ((decide (w = "end") && bl.isEmpty) || (decide (w = "else") && (bl.isEmpty || !lastIf bl))) = true then eUnmatched n else if (decide (w ∈ (["if", "while"] : List Str)) && decide (7 < bl.length)) = true then eTooMany 8 else none := by
  unfold openE
  by_cases h1 : w = "if" ∨ w = "while"
  · have n1 : ¬ w = "end" := fun z => by
      rw [z] at h1
      exact absurd h1 (by decide)
    have n2 : ¬ w = "else" := fun z => by
      rw [z] at h1
      exact absurd h1 (by decide)
    have m : w ∈ (["if", "while"] : List Str) := by simpa using h1
    rw [if_pos h1, decide_eq_false n1, decide_eq_false n2, decide_eq_true m]
    by_cases h8 : bl.length = 8
    · rw [if_pos h8, h8]
      rfl
    · rw [if_neg h8, decide_eq_false (by omega : ¬ 7 < bl.length)]
      rfl
  · have m : ¬ w ∈ (["if", "while"] : List Str) := by simpa using h1
    rw [if_neg h1, decide_eq_false m]
    by_cases h2 : w = "else"
    · subst h2
      rw [if_pos rfl]
      unfold lastIf
      cases bl with
      | nil => rfl
      | cons b0 r =>
        obtain ⟨x, hx⟩ : ∃ x, (b0 :: r).getLast? = some x := by
          cases hq : (b0 :: r).getLast? with
          | none => exact absurd (List.getLast?_eq_none_iff.mp hq) (by simp)
          | some x => exact ⟨x, rfl⟩
        rw [hx]
        by_cases h3 : x.2 = "if"
        · simp [h3]
        · simp [h3]
    · rw [if_neg h2, decide_eq_false h2]
      by_cases h3 : w = "end"
      · subst h3
        rw [if_pos rfl]
        cases bl <;> simp
      · rw [if_neg h3, decide_eq_false h3]
        rfl
def SkV (K : PySem.W.Frag) (H : Hp) (v : V) (ws : List Str) : Prop := ∃ a, v = .ref a ∧ SqT K H a (ws.map V.str)
/-- a good row's head and second place -/
theorem rowTail {K : PySem.W.Frag} {H : Hp} {v : V} {r : R} (later met : List Str) (hv : RowV H v r) (hB : rowB r = true) : ∃ (w0 : Str) (ra : Addr) (rest : List V) (nm : Str), v = .ref ra ∧ H ra = some (.tup (.str w0 :: rest)) ∧ headR r = w0 ∧ ((w0 = "call" ∨ w0 ∈ probes2) → ∃ tl, rest = .str nm :: tl) ∧
    tailR later met r = if w0 = "call" then (if nm ∈ later then none else eNoPart nm) else if w0 ∈ probes2 then (if nm ∈ met then eTwice nm else none) else none := by
  cases r with
  | non => cases hB
  | tru => cases hB
  | lst => cases hB
  | str s => cases hB
  | pro nm g as bs =>
    obtain ⟨ra, b1, c1, rfl, hra, _⟩ := hv
    refine ⟨"probe", ra, _, nm, rfl, hra, rfl, fun _ => ⟨_, rfl⟩, ?_⟩
    rw [if_neg (by decide), if_pos (by decide)]
    rfl
  | ass nm g as t =>
    obtain ⟨ra, b1, c1, rfl, hra, _⟩ := hv
    refine ⟨"assert", ra, _, nm, rfl, hra, rfl, fun _ => ⟨_, rfl⟩, ?_⟩
    rw [if_neg (by decide), if_pos (by decide)]
    rfl
  | tup ws =>
    obtain ⟨ra, rfl, hra⟩ := hv
    cases ws with
    | nil => cases hB
    | cons w0 r0 =>
      obtain ⟨_, hnp, _⟩ := tupB_inv hB
      have hnp' : ¬ w0 ∈ probes2 := by simpa [probes2] using hnp
      by_cases hc : w0 = "call"
      · subst hc
        obtain ⟨x, rfl⟩ := call_len hB
        refine ⟨"call", ra, _, x, rfl, hra, rfl, fun _ => ⟨_, rfl⟩, ?_⟩
        rw [if_pos rfl]
        show (if ("call" : Str) = "call" then (if x ∈ later then none else eNoPart x) else none) = _
        exact if_pos rfl
      · refine ⟨w0, ra, _, "", rfl, hra, rfl, fun z => z.elim (fun z => absurd z hc) (fun z => absurd z hnp'), ?_⟩
        rw [if_neg hc, if_neg hnp']
        cases r0 with
        | nil => rfl
        | cons x r1 =>
          show (if w0 = "call" then _ else none) = none
          rw [if_neg hc]
section
variable {P : Program} {w : World} {K : PySem.W.Frag} {mg : Str → Option Value} {base : Heap}
def spWrongRow (K : PySem.W.Frag) : Sp := fun vs H Q _ => ∃ (a pr la bk : Addr) (tvs bvs : List V) (ths : List TH) (v : V) (r : R) (n : Int) (met later : List Str) (bl : List Blk), vs = [.ref a, v, .int n, .ref pr, .ref la, .ref bk] ∧ SqL K H a tvs ∧ TupsV H tvs ths ∧ ths.length ≤ 1000 ∧ (ths.map TH.name).Nodup ∧ RowV H v r ∧ ROk r ∧
  SqL K H pr (met.map V.str) ∧ SqL K H la (later.map V.str) ∧ SqL K H bk bvs ∧ Paired (LbV H) bvs bl ∧ bl.length ≤ 8 ∧ ∀ y H', Ex H H' → OutV H' y (stepR ths n later met bl r) → Q y H'
theorem sc__law_wrong_row : FnScope ["_law_things_here", "_law_row", "_law_n", "_law_probes", "_law_later", "_law_blocks", "_law_asked", "_law_words_here", "_law_wrong"] ["_law_things_here", "_law_row", "_law_n", "_law_probes", "_law_later", "_law_blocks"] (defScope s_law_wrong_row) := ⟨rfl, rfl, rfl, by decide +kernel, rfl, by decide +kernel, by decide +kernel⟩
theorem D__law_wrong_row (T : Txt w K mg) (D__law_is_row : Dn P w K mg base CX0 5 "_law_is_row" (spIsRow K)) (D__law_wrong_name : Dn P w K mg base CX0 3 "_law_wrong_name" (spWrongName K)) : Dn P w K mg base CX0 6 "_law_wrong_row" (spWrongRow K) := by
  refine mkD0 T.fds_law_wrong_row T.g__law_wrong_row T.kps_law_wrong_row sc__law_wrong_row (fun _ _ _ _ _ _ us hl => match us, hl with | [_, _, _, _, _, _], _ => rfl) (fun vs H Q E h => ?_) (fun cdv A outer s H vs Q E hr h => ?_)
  · obtain ⟨a, pr, la, bk, tvs, bvs, ths, v, r, n, met, later, bl, rfl, _⟩ := h
    rfl
  · obtain ⟨a, pr, la, bk, tvs, bvs, ths, v, r, n, met, later, bl, rfl, ha, hT, hz, hn, hv, hok, hpr, hla, hbk, hB, hl8, q⟩ := h
    refine ⟨_, (pss_cons (ps_if (pt_not (pt_val (pe_d D__law_is_row (hr.mono (by decide)) (by rfl) pass0 (pa_cons (pv 1) pa_nil)))) (pss_one (ps_ret (pe_tup (pa_cons pe_str (pa_cons (pv 2) pa_nil))))) pss_nil)
    (pss_cons (ps_set (i := 6) sc__law_wrong_row.nd rfl (Or.inl rfl) (pe_lst pa_nil))
    (pss_cons (ps_if (pt_cmpR op_in_seq (pe_ix ix_tup (pv 1) pe_int (fun _ _ => rfl)) (pe_tup (pa_cons pe_str (pa_cons pe_str pa_nil))) (by rfl)) (pss_one (ps_set (i := 6) sc__law_wrong_row.nd rfl (Or.inl rfl) (pe_op op_cat (pe_callTy call_list_of (by rfl) T.n_list bo_list (pa_cons (pe_ix ix_tup (pv 1) pe_int (fun _ _ => rfl)) pa_nil)) (pe_ifExp (pt_cmpR op_eq (pe_ix ix_tup (pv 1) pe_int (fun _ _ => rfl)) pe_str (nomark _)) (pe_lst (pa_cons (pe_ix ix_tup (pv 1) pe_int (fun _ _ => rfl)) pa_nil)) (pe_callTy call_list_of (by rfl) T.n_list bo_list (pa_cons (pe_ix ix_tup (pv 1) pe_int (fun _ _ => rfl)) pa_nil)))))) (pss_one (ps_if (pt_cmpR op_in_seq (pe_ix ix_tup (pv 1) pe_int (fun _ _ => rfl)) (pe_tup (pa_cons pe_str (pa_cons pe_str pa_nil))) (by rfl)) (pss_one (ps_set (i := 6) sc__law_wrong_row.nd rfl (Or.inl rfl) (pe_ifExp (pt_cmpR op_ne (pe_ix ix_tup (pv 1) pe_int (fun _ _ => rfl)) pe_str (nomark _)) (pe_lst (pa_cons (pe_slice sl_tupA (pv 1) (po_some pe_int) po_none) pa_nil)) (pe_lst pa_nil)))) (pss_one (ps_if (pt_cmpR op_notIn_seq (pe_ix ix_tup (pv 1) pe_int (fun _ _ => rfl)) (pe_tup (pa_cons pe_str (pa_cons pe_str (pa_cons pe_str (pa_cons pe_str (pa_cons pe_str pa_nil)))))) (by rfl)) (pss_one (ps_set (i := 6) sc__law_wrong_row.nd rfl (Or.inl rfl) (pe_lst (pa_cons (pv 1) pa_nil)))) pss_nil)))))
    (pss_cons (ps_for PassesOwn.never rfl (pi_list (pv 6)) (pg_name (i := 7) sc__law_wrong_row.nd rfl (Or.inl rfl))
    (pss_cons (ps_set (i := 8) sc__law_wrong_row.nd rfl (Or.inl rfl) (pe_d D__law_wrong_name (hr.mono (by decide)) (by rfl) pass0 (pa_cons (pv 0) (pa_cons (pv 7) pa_nil))))
    (pss_one (ps_if (pt_cmpR op_notN (pv 8) pe_non (nomark _)) (pss_one (ps_ret (pv 8))) pss_nil))))
    (pss_cons (ps_if (PW.pt (pw_or (PW.pt (pw_and (pt_cmpR op_eq (pe_ix ix_tup (pv 1) pe_int (fun _ _ => rfl)) pe_str (nomark _)) (pw_and1 (pt_cmpR op_notIn_seq (pe_ix ix_tup (pv 1) pe_int (fun _ _ => rfl)) (pv 4) (by rfl))))) (pw_or1 (PW.pt (pw_and (pt_cmpR op_in_seq (pe_ix ix_tup (pv 1) pe_int (fun _ _ => rfl)) (pe_tup (pa_cons pe_str (pa_cons pe_str pa_nil))) (by rfl)) (pw_and1 (pt_cmpR op_in_seq (pe_ix ix_tup (pv 1) pe_int (fun _ _ => rfl)) (pv 3) (by rfl)))))))) (pss_one (ps_ret (pe_tup (pa_cons (pe_ifExp (pt_cmpR op_eq (pe_ix ix_tup (pv 1) pe_int (fun _ _ => rfl)) pe_str (nomark _)) pe_str pe_str) (pa_cons (pe_ix ix_tup (pv 1) pe_int (fun _ _ => rfl)) pa_nil))))) pss_nil)
    (pss_cons (ps_if (PW.pt (pw_or (PW.pt (pw_and (pt_cmpR op_eq (pe_ix ix_tup (pv 1) pe_int (fun _ _ => rfl)) pe_str (nomark _)) (pw_and1 (pt_not (pt_truth (pv 5) (fun _ => rfl)))))) (pw_or1 (PW.pt (pw_and (pt_cmpR op_eq (pe_ix ix_tup (pv 1) pe_int (fun _ _ => rfl)) pe_str (nomark _)) (pw_and1 (PW.pt (pw_or (pt_not (pt_truth (pv 5) (fun _ => rfl))) (pw_or1 (pt_cmpR op_ne (pe_ix ix_list (pe_ix ix_list (pv 5) (pe_un un_neg pe_int) (fun _ _ => rfl)) pe_int (fun _ _ => rfl)) pe_str (nomark _))))))))))) (pss_one (ps_ret (pe_tup (pa_cons pe_str (pa_cons (pv 2) pa_nil))))) pss_nil)
    (pss_cons (ps_if (PW.pt (pw_and (pt_cmpR op_in_seq (pe_ix ix_tup (pv 1) pe_int (fun _ _ => rfl)) (pe_tup (pa_cons pe_str (pa_cons pe_str pa_nil))) (by rfl)) (pw_and1 (pt_cmpR op_gt (pe_callB call_len_seq (by rfl) T.n_len PySem.boot_len (pa_cons (pv 5) pa_nil)) pe_int (nomark _))))) (pss_one (ps_ret (pe_tup (pa_cons pe_str (pa_cons pe_int pa_nil))))) pss_nil)
    (pss_one (ps_ret pe_non))))))))), ?_⟩
    refine q_when (et_not (et_B (ev_d (z := .bl (rowB r)) (ea_cons (ev_var (i := 1) rfl) ea_nil) fun H1 e1 Q1 q1 => ⟨v, r, rfl, hv.kp (Kp.ex e1), hok, q1⟩))) (fun hb H1 e1 => ?_) fun hb H1 e1 => ?_
    · have hnB : ¬ rowB r = true := by simpa using hb
      refine s_retU (eu_tup (ea_cons ev_c (ea_cons (ev_var (i := 2) rfl) ea_nil)) (by simp)) fun p H2 hp e2 h2 => q _ H2 (e1.trans e2) ?_
      have z : stepR ths n later met bl r = eBadRow n := by
        unfold stepR rowR
        rw [if_neg hnB]
        rfl
      rw [z]
      exact ⟨p, rfl, h2⟩
    have hrB : rowB r = true := by simpa using hb
    have hrow : rowR ths n later met r = (match (askedR r).findSome? (wrongN ths) with
      | some e => some e
      | none => tailR later met r) := by
      unfold rowR
      rw [if_pos hrB, named_asked hn hrB]
      try rfl
    refine q_asgL (el_lst ea_nil (by decide)) fun l0 H2 _ e2 h2 => ?_
    have e12 := e1.trans e2
    -- what is asked
    obtain ⟨w0, ra, rest, nm, rfl, hra, hhd, hnm, htl⟩ := rowTail (K := K) later met (hv.kp (Kp.ex e12)) hrB
    have hT2 : SqT K H2 ra (.str w0 :: rest) := st_of hra
    have hvr : RowV H2 (.ref ra) r := hv.kp (Kp.ex e12)
    refine q_ifJ (b := decide (w0 ∈ probes2)) (fun σ' H' => ∃ (al : Addr) (avs : List V), σ' = [some (.ref a), some (.ref ra), some (.int n), some (.ref pr), some (.ref la), some (.ref bk), some (.ref al), none, none] ∧ Ex H2 H' ∧ SqL K H' al avs ∧ Paired (SkV K H') avs (askedR r)) (et_test (ev_inD probes2 (ev_ixT (ev_var (i := 1) rfl) hT2 ev_c (atI_nat (j := 0) rfl)) (eu_tup (ea_cons ev_c (ea_cons ev_c ea_nil)) (by decide)))) (fun σ' H3 hJ => ?_) (fun hb k H3 e3 => ?_) fun hb k H3 e3 => ?_
    · obtain ⟨al, avs, rfl, e3, hal, hA⟩ := hJ
      have e13 := e12.trans e3
      have hall : ∀ ws ∈ askedR r, ws ≠ [] ∧ ws.length ≤ 1000 := by
        intro ws hws
        have hlk : ∀ l, lookB l = true → l ≠ [] := fun l hl z => by
          obtain ⟨w, r', cs, rfl, _⟩ := lookB_some hl
          cases z
        cases r with
        | non => cases hws
        | tru => cases hws
        | lst => cases hws
        | str s => cases hws
        | pro n' g as bs =>
          have h1 : watchB (.pro n' g as bs) = true := hrB
          unfold watchB at h1
          simp only [Bool.and_eq_true, List.all_eq_true] at h1
          rcases List.mem_append.mp hws with hl | hl
          · exact ⟨hlk _ (h1.2.2.1 ws hl), (hok.2.2.2.2.1 ws hl).1⟩
          · exact ⟨hlk _ (h1.2.2.2.1 ws hl), (hok.2.2.2.2.2 ws hl).1⟩
        | ass n' g as t =>
          have h1 : watchB (.ass n' g as t) = true := hrB
          unfold watchB at h1
          simp only [Bool.and_eq_true, List.all_eq_true] at h1
          rcases List.mem_append.mp hws with hl | hl
          · exact ⟨hlk _ (h1.2.2.1 ws hl), (hok.2.2.2.1 ws hl).1⟩
          · rw [List.mem_singleton.mp hl]
            exact ⟨hlk _ h1.2.2.2.1, hok.2.2.2.2.1⟩
        | tup ws0 =>
          cases ws0 with
          | nil => cases hws
          | cons w1 r1 =>
            have hws' : ws ∈ (if w1 = "if" ∨ w1 = "while" then (if headOf r1 = "ask" then [] else [r1]) else if w1 ∈ frees then [] else [w1 :: r1]) := hws
            have hl4 := hok.1
            by_cases c1 : w1 = "if" ∨ w1 = "while"
            · rw [if_pos c1] at hws'
              by_cases c2 : headOf r1 = "ask"
              · rw [if_pos c2] at hws'
                cases hws'
              · rw [if_neg c2] at hws'
                rw [List.mem_singleton.mp hws']
                refine ⟨fun z => ?_, by rw [List.length_cons] at hl4; omega⟩
                obtain ⟨_, _, h2⟩ := tupB_inv hrB
                rcases h2 with ⟨_, h3⟩ | ⟨h3, _⟩
                · obtain ⟨cs, _, hl⟩ := fitsB_len h3
                  rw [z] at hl
                  simp at hl
                  omega
                · exact h3 c1
            · rw [if_neg c1] at hws'
              by_cases c2 : w1 ∈ frees
              · rw [if_pos c2] at hws'
                cases hws'
              · rw [if_neg c2] at hws'
                rw [List.mem_singleton.mp hws']
                exact ⟨(fun z => by cases z), by omega⟩
      have haln : avs.length = (askedR r).length := Paired.length hA
      refine q_forP (ei_list (ev_var (i := 6) rfl) hal) (fun i σ' H' => (∃ y7 y8, σ' = [some (.ref a), some (.ref ra), some (.int n), some (.ref pr), some (.ref la), some (.ref bk), some (.ref al), y7, y8]) ∧ ∀ j ws, j < i → (askedR r)[j]? = some ws → wrongN ths ws = none) (fun H4 e4 => ⟨⟨none, none, rfl⟩, fun j p hj => absurd hj (Nat.not_lt_zero j)⟩) (fun H4 e4 i x σ' H5 hx e5 pv => ?_) fun σ' H4 e4 pv => ?_
      · obtain ⟨⟨y7, y8, rfl⟩, hprev⟩ := pv
        obtain ⟨ws, hws, wa, rfl, hwa⟩ := paired_get hA hx
        obtain ⟨hne, hwl⟩ := hall ws (List.mem_of_getElem? hws)
        have e35 := e4.trans e5
        have e15 := e13.trans e35
        refine q_asgN (S := fun y H' => OutV H' y (wrongN ths ws)) (ev_dN (ea_cons (ev_var (i := 0) rfl) (ea_cons (ev_var (i := 7) rfl) ea_nil)) fun H6 e6 Q6 q6 => ⟨a, wa, tvs, ths, ws, rfl, ex_l (e15.trans e6) ha, Paired.imp (fun _ _ z => z.kp (Kp.ex (e15.trans e6))) hT, hz, ex_t (e35.trans e6) hwa, hne, hwl, q6⟩) fun y H6 e6 hO => ?_
        cases hw : wrongN ths ws with
        | none =>
          rw [hw] at hO
          obtain rfl : y = .non := hO
          refine s_when (b := false) (et_test (ev_is (ev_notN (ev_var (i := 8) rfl)) rfl)) (fun hb => by cases hb) fun _ H7 e7 => ⟨(e5.trans e6).trans e7, ⟨_, _, rfl⟩, fun j ws' hj hws' => ?_⟩
          by_cases hji : j < i
          · exact hprev j ws' hji hws'
          · obtain rfl : j = i := by omega
            rw [hws] at hws'
            rw [← Option.some.inj hws']
            exact hw
        | some e =>
          rw [hw] at hO
          obtain ⟨c, f, xv⟩ := e
          obtain ⟨oa, rfl, hoa⟩ := hO
          refine s_when (b := true) (et_test (ev_is (ev_notN (x := .ref oa) (ev_var (i := 8) rfl)) rfl)) (fun _ H7 e7 => ?_) fun hb => by cases hb
          refine s_ret (ev_var (i := 8) rfl) fun H8 e8 => q _ H8 (((e15.trans e6).trans e7).trans e8) ?_
          have z : stepR ths n later met bl r = some (c, f, xv) := by
            unfold stepR
            rw [hrow, findSome_take (wrongN ths) hws hprev hw]
          rw [z]
          exact ⟨oa, rfl, (e7.trans e8) _ _ hoa⟩
      · obtain ⟨⟨y7, y8, rfl⟩, hall2⟩ := pv
        have hnone : (askedR r).findSome? (wrongN ths) = none := findSome_none _ fun j ws hj => hall2 j ws (by
          rw [haln]
          exact (List.getElem?_eq_some_iff.mp hj).1) hj
        rw [hnone] at hrow
        have hrow' : rowR ths n later met r = tailR later met r := hrow
        have e14 := e13.trans e4
        have hT4 := ex_t (e3.trans e4) hT2
        have hla4 := ex_l e14 hla
        have hpr4 := ex_l e14 hpr
        have hst : stepR ths n later met bl r = match tailR later met r with
          | some e => some e
          | none => openE bl n w0 := by
          unfold stepR
          rw [hrow', hhd]
        refine q_whenJ (b := (decide (w0 = "call") && !decide (nm ∈ later)) || (decide (w0 ∈ probes2) && decide (nm ∈ met))) (fun HG => Ex H4 HG ∧ stepR ths n later met bl r = openE bl n w0) (et_or (et_and (et_test (ev_eqS (ev_ixT (ev_var (i := 1) rfl) hT4 ev_c (atI_nat (j := 0) rfl)) ev_c)) fun hc => ?_) fun _ => et_and (et_test (ev_inD probes2 (ev_ixT (ev_var (i := 1) rfl) hT4 ev_c (atI_nat (j := 0) rfl)) (eu_tup (ea_cons ev_c (ea_cons ev_c ea_nil)) (by decide)))) fun hp => ?_) (fun HG hJ => ?_) (fun hb5 k HG eG => ?_) fun hb5 HG eG => ?_
        · obtain ⟨tl, rfl⟩ := hnm (Or.inl (of_decide_eq_true hc))
          exact et_test (ev_is (ev_op (r := rIn K true) (ev_ixT (ev_var (i := 1) rfl) hT4 ev_c (atI_nat (j := 1) rfl)) (ev_var (i := 4) rfl) (rv_niL hla4 rfl (flat_strs _))) (by rw [inV_str] : _ = V.bl (!decide (nm ∈ later))))
        · obtain ⟨tl, rfl⟩ := hnm (Or.inr (of_decide_eq_true hp))
          exact et_test (ev_is (ev_op (r := rIn K false) (ev_ixT (ev_var (i := 1) rfl) hT4 ev_c (atI_nat (j := 1) rfl)) (ev_var (i := 3) rfl) (rv_isL hpr4 rfl (flat_strs _))) (by rw [inV_str] : _ = V.bl (decide (nm ∈ met))))
        · obtain ⟨eG, hst2⟩ := hJ
          have e1G := e14.trans eG
          have hTG := ex_t eG hT4
          have hbG := ex_l e1G hbk
          rw [hst2, openE_law hl8] at q
          have hBl : bvs.length = bl.length := Paired.length hB
          have last : EvT (tOr (tAnd (tTest (tOp rEq (tOp (rIxT K) (tVar 1) (tC (.int 0))) (tC (.str "end")))) (tNot (fun σ H Q => tVar 5 σ H fun x H' => ∃ k, TruV K x H' k ∧ Q k H'))) (tAnd (tTest (tOp rEq (tOp (rIxT K) (tVar 1) (tC (.int 0))) (tC (.str "else")))) (tOr (tNot (fun σ H Q => tVar 5 σ H fun x H' => ∃ k, TruV K x H' k ∧ Q k H')) (tTest (tOp rNe (tOp (rIxL K) (tOp (rIxL K) (tVar 5) (tUn (rU fun i => .int (-i)) (tC (.int 1)))) (tC (.int 1))) (tC (.str "if")))))))
              [some (.ref a), some (.ref ra), some (.int n), some (.ref pr), some (.ref la), some (.ref bk), some (.ref al), y7, y8] HG ((decide (w0 = "end") && bl.isEmpty) || (decide (w0 = "else") && (bl.isEmpty || !lastIf bl))) := by
            have emp : bl.isEmpty = !(!bvs.isEmpty) := by
              rw [Bool.not_not]
              cases bl <;> cases bvs <;> simp at hBl <;> rfl
            refine et_or (et_and (et_test (ev_eqS (ev_ixT (ev_var (i := 1) rfl) hTG ev_c (atI_nat (j := 0) rfl)) ev_c)) fun _ => et_is (et_not (et_tru (ev_var (i := 5) rfl) (truL hbG))) emp.symm) fun _ => et_and (et_test (ev_eqS (ev_ixT (ev_var (i := 1) rfl) hTG ev_c (atI_nat (j := 0) rfl)) ev_c)) fun _ => et_or (et_is (et_not (et_tru (ev_var (i := 5) rfl) (truL hbG))) emp.symm) fun hne => ?_
            rcases paired_concat hB with ⟨rfl, rfl⟩ | ⟨u0, u, b0, bb, rfl, rfl, hB0, ba, rfl, hba⟩
            · cases hne
            · refine et_is (et_test (ev_neS (ev_ixL (ev_ixL (ev_var (i := 5) rfl) hbG (ev_un ev_c ru_neg) (atI_last _ _)) (sq_of (e1G _ _ hba)) ev_c (atI_nat (j := 1) rfl)) ev_c)) ?_
              unfold lastIf
              simp
          refine q_when last (fun hb6 H5 e5 => ?_) fun hb6 H5 e5 => ?_
          · rw [if_pos hb6] at q
            refine s_retU (eu_tup (ea_cons ev_c (ea_cons (ev_var (i := 2) rfl) ea_nil)) (by simp)) fun p H6 hp e6 h6 => q _ H6 ((e1G.trans e5).trans e6) ⟨p, rfl, h6⟩
          · rw [if_neg (by rw [hb6]; decide)] at q
            have hT5 := ex_t e5 hTG
            refine q_when (b := decide (w0 ∈ (["if", "while"] : List Str)) && decide (7 < bl.length)) (et_and (et_test (ev_inD ["if", "while"] (ev_ixT (ev_var (i := 1) rfl) hT5 ev_c (atI_nat (j := 0) rfl)) (eu_tup (ea_cons ev_c (ea_cons ev_c ea_nil)) (by decide)))) fun _ => et_test (ev_is (ev_op (ev_lenL (ev_var (i := 5) rfl) (ex_l e5 hbG)) ev_c rv_I0) ?_)) (fun hb7 H6 e6 => ?_) fun hb7 H6 e6 => ?_
            · rw [hBl]
              show V.bl (decide ((7 : Int) < (bl.length : Int))) = V.bl (decide (7 < bl.length))
              rw [decide_eq_decide.mpr (by omega : (7 : Int) < (bl.length : Int) ↔ 7 < bl.length)]
            · rw [if_pos hb7] at q
              refine s_retU (eu_tup (ea_cons ev_c (ea_cons ev_c ea_nil)) (by simp)) fun p H7 hp e7 h7 => q _ H7 (((e1G.trans e5).trans e6).trans e7) ⟨p, rfl, h7⟩
            · rw [if_neg (by rw [hb7]; decide)] at q
              exact s_ret ev_c fun H7 e7 => q _ H7 (((e1G.trans e5).trans e6).trans e7) rfl
        · have hTG := ex_t eG hT4
          obtain ⟨tl, rfl⟩ : ∃ tl, rest = .str nm :: tl := by
            refine hnm ?_
            simp only [Bool.or_eq_true, Bool.and_eq_true, decide_eq_true_eq] at hb5
            rcases hb5 with h | h
            · exact Or.inl h.1
            · exact Or.inr h.1
          refine s_retU (xs := [if decide (w0 = "call") = true then .str "NoPart" else .str "Twice", .str nm]) (eu_tup (ea_cons (ev_ifE (et_test (ev_eqS (ev_ixT (ev_var (i := 1) rfl) hTG ev_c (atI_nat (j := 0) rfl)) ev_c)) (fun _ => ev_c) fun _ => ev_c) (ea_cons (ev_ixT (ev_var (i := 1) rfl) hTG ev_c (atI_nat (j := 1) rfl)) ea_nil)) (by simp)) fun p H6 hp e6 h6 => q _ H6 ((e14.trans eG).trans e6) ?_
          rw [hst, htl]
          by_cases hc : w0 = "call"
          · subst hc
            have nl : ¬ nm ∈ later := by
              rw [show decide (("call" : Str) ∈ probes2) = false by decide, Bool.false_and, Bool.or_false] at hb5
              simpa using hb5
            rw [if_pos rfl, if_neg nl]
            exact ⟨p, rfl, h6⟩
          · rw [decide_eq_false hc] at hb5 h6
            have hp2 : w0 ∈ probes2 ∧ nm ∈ met := by simpa using hb5
            rw [if_neg hc, if_pos hp2.1, if_pos hp2.2]
            exact ⟨p, rfl, h6⟩
        · refine ⟨eG, ?_⟩
          have hno : tailR later met r = none := by
            rw [htl]
            by_cases hc : w0 = "call"
            · subst hc
              have nl : nm ∈ later := by
                rw [show decide (("call" : Str) ∈ probes2) = false by decide, Bool.false_and, Bool.or_false] at hb5
                simpa using hb5
              rw [if_pos rfl, if_pos nl]
            · rw [if_neg hc]
              by_cases hp : w0 ∈ probes2
              · rw [if_pos hp]
                rw [decide_eq_false hc, decide_eq_true hp] at hb5
                have nl : ¬ nm ∈ met := by simpa using hb5
                rw [if_neg nl]
              · rw [if_neg hp]
          rw [hst, hno]
    -- a probe or an assert
    · have hp : w0 ∈ probes2 := of_decide_eq_true hb
      have hT3 := ex_t e3 hT2
      have hv3 := hvr.kp (Kp.ex e3)
      cases r with
      | non => cases hrB
      | tru => cases hrB
      | lst => cases hrB
      | str s => cases hrB
      | tup ws =>
        cases ws with
        | nil => cases hrB
        | cons w1 r1 =>
          obtain ⟨_, hnp, _⟩ := tupB_inv hrB
          have : w1 = w0 := hhd
          rw [this] at hnp
          exact absurd hp (by simpa [probes2] using hnp)
      | pro n' g as bs =>
        obtain ⟨ra', b1, c1, hra', hro, ⟨b1', us, rfl, hub, hA⟩, ⟨c1', vs', rfl, hvb, hA2⟩⟩ := hv3
        obtain rfl : ra = ra' := by injection hra'
        have hT3' : SqT K H3 ra [.str "probe", .str n', .str g, .ref b1', .ref c1'] := st_of hro
        have hu1 : us.length = as.length := Paired.length hA
        have hu2 : vs'.length = bs.length := Paired.length hA2
        refine s_asgL (xs := us ++ vs') (el_cat2 (el_listT (ev_ixT (ev_var (i := 1) rfl) hT3' ev_c (atI_nat (j := 3) rfl)) (st_of hub)) (by
          refine (show EvL _ _ _ (if (false : Bool) = true then [] else vs') from el_ifE (et_test (ev_is (ev_eqS (ev_ixT (ev_var (i := 1) rfl) hT3' ev_c (atI_nat (j := 0) rfl)) ev_c) ?_)) (fun z => by cases z) (fun _ => el_listT (ev_ixT (ev_var (i := 1) rfl) hT3' ev_c (atI_nat (j := 4) rfl)) (st_of hvb)))
          rfl) (by
          have := hok.2.2.1
          have := hok.2.2.2.1
          omega)) fun al H4 _ e4 h4 => k _ _ ⟨al, us ++ vs', rfl, e3.trans e4, sq_of h4, ?_⟩
        have sk : ∀ {xs : List V} {ls : List (List Str)}, AllV H3 xs ls → Paired (SkV K H4) xs ls := fun h => Paired.imp (fun v l z => by
          obtain ⟨x, rfl, hx⟩ := z
          exact ⟨x, rfl, st_of (e4 _ _ hx)⟩) h
        exact Paired.app (sk hA) (sk hA2)
      | ass n' g as t =>
        obtain ⟨ra', b1, c1, hra', hro, ⟨b1', us, rfl, hub, hA⟩, ⟨c1', rfl, hvb⟩⟩ := hv3
        obtain rfl : ra = ra' := by injection hra'
        have hT3' : SqT K H3 ra [.str "assert", .str n', .str g, .ref b1', .ref c1'] := st_of hro
        have hu1 : us.length = as.length := Paired.length hA
        refine s_asgL (xs := us ++ [.ref c1']) (el_cat2 (el_listT (ev_ixT (ev_var (i := 1) rfl) hT3' ev_c (atI_nat (j := 3) rfl)) (st_of hub)) (by
          refine (show EvL _ _ _ (if (true : Bool) = true then [.ref c1'] else []) from el_ifE (et_test (ev_is (ev_eqS (ev_ixT (ev_var (i := 1) rfl) hT3' ev_c (atI_nat (j := 0) rfl)) ev_c) ?_)) (fun _ => el_lst (ea_cons (ev_ixT (ev_var (i := 1) rfl) hT3' ev_c (atI_nat (j := 4) rfl)) ea_nil) (by simp)) (fun z => by cases z))
          rfl) (by
          have := hok.2.2.1
          simp
          omega)) fun al H4 _ e4 h4 => k _ _ ⟨al, us ++ [.ref c1'], rfl, e3.trans e4, sq_of h4, ?_⟩
        refine Paired.app (Paired.imp (fun v l z => by
          obtain ⟨x, rfl, hx⟩ := z
          exact ⟨x, rfl, st_of (e4 _ _ hx)⟩) hA) (.cons ⟨c1', rfl, st_of (e4 _ _ hvb)⟩ .nil)
    -- a plain row
    · have hp : ¬ w0 ∈ probes2 := of_decide_eq_false hb
      obtain ⟨w1, r1, rfl⟩ : ∃ w1 r1, r = .tup (w1 :: r1) := by
        cases r with
        | non => cases hrB
        | tru => cases hrB
        | lst => cases hrB
        | str s => cases hrB
        | pro n' g as bs =>
          have : ("probe" : Str) = w0 := hhd
          exact absurd (this ▸ (by decide : ("probe" : Str) ∈ probes2)) hp
        | ass n' g as t =>
          have : ("assert" : Str) = w0 := hhd
          exact absurd (this ▸ (by decide : ("assert" : Str) ∈ probes2)) hp
        | tup ws =>
          cases ws with
          | nil => cases hrB
          | cons w1 r1 => exact ⟨w1, r1, rfl⟩
      obtain rfl : w1 = w0 := hhd
      obtain ⟨ra', hra', hro⟩ := hvr
      obtain rfl : ra = ra' := by injection hra'
      have hT3 : SqT K H3 ra (V.str w1 :: r1.map V.str) := st_of (e3 _ _ hro)
      have ask : askedR (.tup (w1 :: r1)) = if w1 = "if" ∨ w1 = "while" then (if headOf r1 = "ask" then [] else [r1]) else if w1 ∈ frees then [] else [w1 :: r1] := rfl
      refine s_if (b := decide (w1 ∈ (["if", "while"] : List Str))) (et_test (ev_inD ["if", "while"] (ev_ixT (ev_var (i := 1) rfl) hT3 ev_c (atI_nat (j := 0) rfl)) (eu_tup (ea_cons ev_c (ea_cons ev_c ea_nil)) (by decide)))) (fun hb2 H4 e4 => ?_) fun hb2 H4 e4 => ?_
      · have hif : w1 = "if" ∨ w1 = "while" := by simpa using hb2
        rw [if_pos hif] at ask
        obtain ⟨x, r2, rfl⟩ : ∃ x r2, r1 = x :: r2 := by
          obtain ⟨_, _, h2⟩ := tupB_inv hrB
          rcases h2 with ⟨_, h3⟩ | ⟨h3, _⟩
          · obtain ⟨cs, _, hl⟩ := fitsB_len h3
            cases r1 with
            | nil =>
              simp at hl
              omega
            | cons x r2 => exact ⟨x, r2, rfl⟩
          · exact absurd hif h3
        have hT4 : SqT K H4 ra (V.str w1 :: V.str x :: r2.map V.str) := ex_t e4 hT3
        have e34 := e3.trans e4
        by_cases hax : x = "ask"
        · rw [if_pos (show headOf (x :: r2) = "ask" from hax)] at ask
          refine s_asgN (S := fun v H' => ∃ l, v = .ref l ∧ H' l = some (.lst [])) (en_ifT (b := false) (et_test (ev_is (ev_neS (ev_ixT (ev_var (i := 1) rfl) hT4 ev_c (atI_nat (j := 1) rfl)) ev_c) (by rw [hax] <;> rfl))) (fun z => by cases z) fun _ => (en_L (el_lst ea_nil (by decide)))) fun y H5 e5 hS => ?_
          obtain ⟨l, rfl, hl⟩ := hS
          refine k _ _ ⟨l, [], rfl, e34.trans e5, sq_of hl, ?_⟩
          rw [ask]
          exact .nil
        · rw [if_neg (show ¬ headOf (x :: r2) = "ask" from hax)] at ask
          refine s_asgN (S := fun v H' => ∃ l p, v = .ref l ∧ H' l = some (.lst [.ref p]) ∧ SqT K H' p ((x :: r2).map V.str)) (en_ifT (b := true) (et_test (ev_is (ev_neS (ev_ixT (ev_var (i := 1) rfl) hT4 ev_c (atI_nat (j := 1) rfl)) ev_c) (by rw [decide_eq_false hax] <;> rfl))) (fun _ => en_lst1S (es_from 1 (es_T (ev_var (i := 1) rfl) hT4))) fun z => by cases z) fun y H5 e5 hS => ?_
          obtain ⟨l, p, rfl, hl, hpT⟩ := hS
          refine k _ _ ⟨l, [.ref p], rfl, e34.trans e5, sq_of hl, ?_⟩
          rw [ask]
          exact .cons ⟨p, rfl, hpT⟩ .nil
      · have hif : ¬ (w1 = "if" ∨ w1 = "while") := by simpa using hb2
        rw [if_neg hif] at ask
        have hT4 := ex_t e4 hT3
        have e34 := e3.trans e4
        refine s_when (et_test (ev_niD frees (ev_ixT (ev_var (i := 1) rfl) hT4 ev_c (atI_nat (j := 0) rfl)) (eu_tup (ea_cons ev_c (ea_cons ev_c (ea_cons ev_c (ea_cons ev_c (ea_cons ev_c ea_nil))))) (by decide)))) (fun hb3 H5 e5 => ?_) fun hb3 H5 e5 => ?_
        · have hf : ¬ w1 ∈ frees := by simpa using hb3
          rw [if_neg hf] at ask
          refine s_asgL (el_lst (ea_cons (ev_var (i := 1) rfl) ea_nil) (by simp)) fun l H6 _ e6 h6 => k _ _ ⟨l, [.ref ra], rfl, (e34.trans e5).trans e6, sq_of h6, ?_⟩
          rw [ask]
          exact .cons ⟨ra, rfl, ex_t (e5.trans e6) hT4⟩ .nil
        · have hf : w1 ∈ frees := by simpa using hb3
          rw [if_pos hf] at ask
          refine k _ _ ⟨l0, [], rfl, e34.trans e5, sq_of ((e34.trans e5) _ _ h2), ?_⟩
          rw [ask]
          exact .nil
end
end Q7
/-! _law_all_rows, _law_due -/
namespace Q7
open PySem PySem.Spec PyProof.Rows L2 Evl
section
variable {P : Program} {w : World} {K : PySem.W.Frag} {mg : Str → Option Value} {base : Heap}
def spAllRows (K : PySem.W.Frag) : Sp := fun vs H Q _ => ∃ (l : Addr) (pvs : List V) (ps : List Part), vs = [.ref l] ∧ SqL K H l pvs ∧ PtsV H pvs ps ∧ sumR ps ≤ 1000 ∧ ps.length ≤ 1000 ∧
  ∀ p H' vals, H p = none → Ex H H' → H' p = some (.lst vals) → Paired (RowV H') vals (allRows ps) → Q (.ref p) H'
theorem allRows_take {ps : List Part} {i : Nat} {p : Part} (h : ps[i]? = some p) : allRows (ps.take (i + 1)) = allRows (ps.take i) ++ p.2 := by
  have app : ∀ a b : List Part, allRows (a ++ b) = allRows a ++ allRows b := by
    intro a b
    induction a with
    | nil => rfl
    | cons x r ih =>
      show x.2 ++ allRows (r ++ b) = (x.2 ++ allRows r) ++ allRows b
      rw [ih, List.append_assoc]
  rw [take_add h, app]
  show allRows (ps.take i) ++ (p.2 ++ []) = _
  rw [List.append_nil]
theorem allRows_take_le : ∀ (ps : List Part) (i : Nat), (allRows (ps.take i)).length ≤ sumR ps
  | _, 0 => Nat.zero_le _
  | [], _ + 1 => Nat.le_refl _
  | p :: r, i + 1 => by
    have := allRows_take_le r i
    rw [List.take_succ_cons]
    show (p.2 ++ allRows (r.take i)).length ≤ p.2.length + sumR r
    rw [List.length_append]
    omega
theorem sc__law_all_rows : FnScope ["_law_parts", "_law_rows", "_law_name", "_law_part"] ["_law_parts"] (defScope s_law_all_rows) := ⟨rfl, rfl, rfl, by decide +kernel, rfl, by decide +kernel, by decide +kernel⟩
theorem D__law_all_rows (T : Txt w K mg) : Dn P w K mg base CX0 1 "_law_all_rows" (spAllRows K) := by
  refine mkD0 T.fds_law_all_rows T.g__law_all_rows T.kps_law_all_rows sc__law_all_rows (fun _ _ _ _ _ _ us hl => match us, hl with | [_], _ => rfl) (fun vs H Q E h => ?_) (fun cdv A outer s H vs Q E hr h => ?_)
  · obtain ⟨l, pvs, ps, rfl, _⟩ := h
    rfl
  · obtain ⟨l, pvs, ps, rfl, hl, hP, hs, hpl, q⟩ := h
    have hlen : pvs.length = ps.length := Paired.length hP
    refine ⟨_, (pss_cons (ps_set (i := 1) sc__law_all_rows.nd rfl (Or.inl rfl) (pe_lst pa_nil))
    (pss_cons (ps_for PassesOwn.never rfl (pi_list (pv 0)) (pg_tup rfl (pgs_cons (pg_name (i := 2) sc__law_all_rows.nd rfl (Or.inl rfl)) (pgs_cons (pg_name (i := 3) sc__law_all_rows.nd rfl (Or.inl rfl)) pgs_nil)))
    (pss_one (ps_set (i := 1) sc__law_all_rows.nd rfl (Or.inl rfl) (pe_op op_cat (pv 1) (pe_callTy call_list_of (by rfl) T.n_list bo_list (pa_cons (pv 3) pa_nil))))))
    (pss_one (ps_ret (pv 1))))), ?_⟩
    refine q_asgL (el_lst ea_nil (by decide)) fun r0 H1 hr0 e1 h1 => ?_
    refine q_forB (H := H) (eb_list (ev_var (i := 0) rfl) hl) e1 (fun i σ' H' => ∃ (ra : Addr) (vals : List V) (y2 y3 : Option V), σ' = [some (.ref l), some (.ref ra), y2, y3] ∧ Ex H H' ∧ H ra = none ∧ H' ra = some (.lst vals) ∧ Paired (RowV H') vals (allRows (ps.take i))) (fun H2 e2 => ⟨r0, [], none, none, rfl, e1.trans e2, hr0, e2 _ _ h1, .nil⟩) (fun i σ' H' pv => by
      obtain ⟨_, _, _, _, _, e, _⟩ := pv
      exact e) (fun i x σ' H' hx pv => ?_) fun σ' H' pv => ?_
    · obtain ⟨ra, vals, y2, y3, rfl, e, hra, hv, hR⟩ := pv
      obtain ⟨p, hp, t, lr, xs, rfl, ht, hlr, hr⟩ := paired_get hP hx
      refine g_pair (st_of (e _ _ ht)) ?_
      have hvl : vals.length = (allRows (ps.take i)).length := Paired.length hR
      have h1' := allRows_take_le ps i
      have h2' := allRows_take_le ps (i + 1)
      rw [allRows_take hp, List.length_append] at h2'
      have hxl : xs.length = p.2.length := Paired.length hr
      refine ⟨_, rfl, ?_⟩
      refine el_listL (K := K) (ev_var (i := 3) rfl) (sq_of (e _ _ hlr)) H' (Ex.refl H') _ fun nl H2 hnl e2 h2 => ?_
      refine ⟨ra, nl, vals, xs, rfl, rfl, e2 _ _ hv, h2, sz_of (by omega), fun na hna => ?_⟩
      have e3 := e2.trans (Ex.new (o := .lst (vals ++ xs)) hna)
      refine ⟨na, vals ++ xs, _, _, rfl, e.trans e3, fresh_back (e.trans e2) hna, upd_same, ?_⟩
      rw [allRows_take hp]
      exact Paired.app (Paired.imp (fun _ _ z => z.kp (Kp.ex e3)) hR) (Paired.imp (fun _ _ z => z.kp (Kp.ex (e.trans e3))) hr)
    · obtain ⟨ra, vals, y2, y3, rfl, e, hra, hv, hR⟩ := pv
      refine s_ret (ev_var (i := 1) rfl) fun H2 e2 => ?_
      rw [hlen, List.take_length] at hR
      exact q ra H2 vals hra (e.trans e2) (e2 _ _ hv) (Paired.imp (fun _ _ z => z.kp (Kp.ex e2)) hR)
/-! ### due -/
def DueV (H : Hp) (y : V) (ps : List Part) : Out → Prop
  | none => ∃ p rt vals, y = .ref p ∧ H p = some (.tup [.str "rows", .ref rt]) ∧ H rt = some (.tup vals) ∧ Paired (RowV H) vals (allRows ps)
  | some (c, _, x) => ∃ p, y = .ref p ∧ H p = some (.tup [.str c, x])
theorem q_parCL {D : Ends} {tz : TS} {i j : Nat} {v : V} {σ : L2.St} {H : Hp} (k : ∀ p H1, H p = none → Ex H H1 → H1 p = some (.lst []) → tz D ((σ.set i (some v)).set j (some (.ref p))) H1) : tSeq (tPar i j (tCons (tC v) (tCons (tLst tNil) tNil))) tz D σ H :=
  ⟨Nat.zero_le _, fun p hp => ⟨_, _, rfl, k p _ hp (Ex.new hp) upd_same⟩⟩
theorem q_parLL {D : Ends} {tz : TS} {i j : Nat} {σ : L2.St} {H : Hp} (k : ∀ p r H1, H p = none → H r = none → p ≠ r → Ex H H1 → H1 p = some (.lst []) → H1 r = some (.lst []) → tz D ((σ.set i (some (.ref p))).set j (some (.ref r))) H1) : tSeq (tPar i j (tCons (tLst tNil) (tCons (tLst tNil) tNil))) tz D σ H :=
  ⟨Nat.zero_le _, fun p hp => ⟨Nat.zero_le _, fun r hr => ⟨_, _, rfl, k p r _ hp (fresh_back (Ex.new hp) hr) (fun z => by
    rw [← z, upd_same] at hr
    cases hr) ((Ex.new hp).trans (Ex.new hr)) (Ex.new hr _ _ upd_same) upd_same⟩⟩⟩
theorem paired_drop {α β : Type} {r : α → β → Prop} : ∀ {xs : List α} {ys : List β} (k : Nat), Paired r xs ys → Paired r (xs.drop k) (ys.drop k)
  | _, _, 0, h => h
  | _, _, _ + 1, .nil => .nil
  | _, _, k + 1, .cons _ b => paired_drop k b
theorem ixN_last (n : Nat) : ixN (n + 1) (-1) = some n := by
  unfold ixN
  rw [if_neg (by decide), if_pos (by omega)]
  congr 1
  omega
def spDue (K : PySem.W.Frag) : Sp := fun vs H Q _ => ∃ (a l : Addr) (tvs pvs : List V) (ths : List TH) (ps : List Part), vs = [.ref a, .ref l] ∧ SqL K H a tvs ∧ TupsV H tvs ths ∧ ths.length ≤ 1000 ∧ (ths.map TH.name).Nodup ∧ SqL K H l pvs ∧ PtsV H pvs ps ∧ ps.length ≤ 5 ∧ sumR ps ≤ 60 ∧ (∀ p ∈ ps, ∀ r ∈ p.2, ROk r) ∧
  ∀ y H', Ex H H' → DueV H' y ps (partsR ths 0 [] ps) → Q y H'
def nb1 (bl : List Blk) (n : Int) (w : Str) : List Blk := if w ∈ (["if", "while"] : List Str) then bl ++ [(n, w)] else bl
def nb2 (bl : List Blk) (w : Str) : List Blk := if w = "else" then (match bl.getLast? with
  | some b => bl.dropLast ++ [(b.1, ("else" : Str))]
  | none => bl) else bl
def nb3 (bl : List Blk) (w : Str) : List Blk := if w = "end" then bl.dropLast else bl
theorem openN_nb (bl : List Blk) (n : Int) (w : Str) : openN bl n w = nb3 (nb2 (nb1 bl n w) w) w := by
  unfold openN nb1 nb2 nb3
  by_cases h1 : w = "if" ∨ w = "while"
  · have m : w ∈ (["if", "while"] : List Str) := by simpa using h1
    have n1 : ¬ w = "end" := fun z => by
      rw [z] at h1
      exact absurd h1 (by decide)
    have n2 : ¬ w = "else" := fun z => by
      rw [z] at h1
      exact absurd h1 (by decide)
    rw [if_pos h1, if_pos m, if_neg n1, if_neg n2]
  · have m : ¬ w ∈ (["if", "while"] : List Str) := by simpa using h1
    rw [if_neg h1, if_neg m]
    by_cases h2 : w = "else"
    · have n1 : ¬ w = "end" := fun z => by
        rw [z] at h2
        exact absurd h2 (by decide)
      rw [if_pos h2, if_neg n1, if_pos h2]
      try rfl
    · rw [if_neg h2, if_neg h2]
theorem lb_upd {H : Hp} {v : V} {b : Blk} {m : Addr} {u : HO} {ys : List V} (h : LbV H v b) (hm : H m = some (.lst ys)) (hy : ∀ x, ys.head? ≠ some (.int x)) : LbV (upd H m u) v b := by
  obtain ⟨a, rfl, ha⟩ := h
  refine ⟨a, rfl, ?_⟩
  rw [upd_ne (fun z => by
    rw [z, hm] at ha
    simp only [Option.some.injEq, HO.lst.injEq] at ha
    rw [ha] at hy
    exact hy _ rfl)]
  exact ha
theorem LbV.ex {H H' : Hp} {v : V} {b : Blk} (e : Ex H H') (h : LbV H v b) : LbV H' v b := by
  obtain ⟨a, h1, h2⟩ := h
  exact ⟨a, h1, e _ _ h2⟩
theorem lbs_head {H : Hp} {bvs : List V} {bl : List Blk} (h : Paired (LbV H) bvs bl) : ∀ x, bvs.head? ≠ some (.int x) := by
  cases h with
  | nil =>
    intro x z
    cases z
  | cons a _ =>
    obtain ⟨ad, rfl, _⟩ := a
    intro x z
    cases z
theorem strs_head (met : List Str) : ∀ x, (met.map V.str).head? ≠ some (.int x) := by
  cases met with
  | nil =>
    intro x z
    cases z
  | cons a r =>
    intro x z
    cases z
theorem rows_ok_step {ths : List TH} {later : List Str} {n : Int} {met : List Str} {bl : List Blk} {r : R} {rs : List R} : rowsR ths later n met bl (r :: rs) = (match stepR ths n later met bl r with
    | some e => .error e
    | none => rowsR ths later (n + 1) (met ++ probeN r) (openN bl n (headR r)) rs) := by
  unfold stepR
  show (match rowR ths n later met r with
    | some e => Except.error e
    | none => match openE bl n (headR r) with
      | some e => Except.error e
      | none => rowsR ths later (n + 1) (met ++ probeN r) (openN bl n (headR r)) rs) = _
  cases rowR ths n later met r with
  | some e => rfl
  | none => rfl
theorem sc__law_due : FnScope ["_law_things_here", "_law_parts", "_law_n", "_law_probes", "_law_k", "_law_blocks", "_law_row", "_law_wrong", "_law_name", "_law_rows"] ["_law_things_here", "_law_parts"] (defScope s_law_due) := ⟨rfl, rfl, rfl, by decide +kernel, rfl, by decide +kernel, by decide +kernel⟩
theorem D__law_due (T : Txt w K mg) (D__law_wrong_row : Dn P w K mg base CX0 6 "_law_wrong_row" (spWrongRow K)) (D__law_all_rows : Dn P w K mg base CX0 1 "_law_all_rows" (spAllRows K)) : Dn P w K mg base CX0 7 "_law_due" (spDue K) := by
  refine mkD0 T.fds_law_due T.g__law_due T.kps_law_due sc__law_due (fun _ _ _ _ _ _ us hl => match us, hl with | [_, _], _ => rfl) (fun vs H Q E h => ?_) (fun cdv A outer s H vs Q E hr h => ?_)
  · obtain ⟨a, l, tvs, pvs, ths, ps, rfl, _⟩ := h
    rfl
  · obtain ⟨a, l, tvs, pvs, ths, ps, rfl, ha, hT, hz, hn, hl, hP, hp5, hs60, hrok, q⟩ := h
    have hplen : pvs.length = ps.length := Paired.length hP
    refine ⟨_, (pss_cons (ps_par (i := 2) (j := 3) rfl sc__law_due.nd rfl rfl (by decide) rfl rfl (pa_cons pe_int (pa_cons (pe_lst pa_nil) pa_nil)) rfl)
    (pss_cons (ps_for PassesOwn.never rfl (pi_range1 (by rfl) T.n_range (pa_cons (pe_callB call_len_seq (by rfl) T.n_len PySem.boot_len (pa_cons (pv 1) pa_nil)) pa_nil)) (pg_name (i := 4) sc__law_due.nd rfl (Or.inl rfl))
    (pss_cons (ps_set (i := 5) sc__law_due.nd rfl (Or.inl rfl) (pe_lst pa_nil))
    (pss_cons (ps_for PassesOwn.never rfl (pi_list (pe_ix ix_tup (pe_ix ix_list (pv 1) (pv 4) (fun _ _ => rfl)) pe_int (fun _ _ => rfl))) (pg_name (i := 6) sc__law_due.nd rfl (Or.inl rfl))
    (pss_cons (ps_set (i := 7) sc__law_due.nd rfl (Or.inl rfl) (pe_d D__law_wrong_row (hr.mono (by decide)) (by rfl) pass0 (pa_cons (pv 0) (pa_cons (pv 6) (pa_cons (pv 2) (pa_cons (pv 3) (pa_cons (pe_lc (own := [("_law_name", 8), ("_law_rows", 9)]) (g := gTup K 2 (gCons (gName 8) (gCons (gName 9) gNil))) (tt := tYes) rfl sc__law_due.nd (pi_list (pe_slice sl_list (pv 1) (po_some (pe_op op_add (pv 4) pe_int)) po_none)) (blkOk_by (own := [("_law_name", 8), ("_law_rows", 9)]) (N := ["_law_things_here", "_law_parts", "_law_n", "_law_probes", "_law_k", "_law_blocks", "_law_row", "_law_wrong", "_law_name", "_law_rows"]) (sc := defScope s_law_due) (by decide +kernel)) (fun _ _ _ _ _ => (pg_tup rfl (pgs_cons (pg_name (i := 8) sc__law_due.nd rfl (Or.inl rfl)) (pgs_cons (pg_name (i := 9) sc__law_due.nd rfl (Or.inl rfl)) pgs_nil)))) (fun _ _ _ _ _ => pts_nil) (fun _ _ _ _ _ => (pv 8))) (pa_cons (pv 5) pa_nil))))))))
    (pss_cons (ps_if (pt_cmpR op_notN (pv 7) pe_non (nomark _)) (pss_one (ps_ret (pv 7))) pss_nil)
    (pss_cons (ps_if (pt_cmpR op_in_seq (pe_ix ix_tup (pv 6) pe_int (fun _ _ => rfl)) (pe_tup (pa_cons pe_str (pa_cons pe_str pa_nil))) (by rfl)) (pss_one (ps_expr (pe_bm PySem.F.plainAttrs_list PySem.F.slot_list_append PySem.F.type_list_append mt_append (pv 3) (pa_cons (pe_ix ix_tup (pv 6) pe_int (fun _ _ => rfl)) pa_nil)))) pss_nil)
    (pss_cons (ps_if (pt_cmpR op_in_seq (pe_ix ix_tup (pv 6) pe_int (fun _ _ => rfl)) (pe_tup (pa_cons pe_str (pa_cons pe_str pa_nil))) (by rfl)) (pss_one (ps_expr (pe_bm PySem.F.plainAttrs_list PySem.F.slot_list_append PySem.F.type_list_append mt_append (pv 5) (pa_cons (pe_lst (pa_cons (pv 2) (pa_cons (pe_ix ix_tup (pv 6) pe_int (fun _ _ => rfl)) pa_nil))) pa_nil)))) pss_nil)
    (pss_cons (ps_if (pt_cmpR op_eq (pe_ix ix_tup (pv 6) pe_int (fun _ _ => rfl)) pe_str (nomark _)) (pss_one (ps_asg (pe_lst (pa_cons (pe_ix ix_list (pe_ix ix_list (pv 5) (pe_un un_neg pe_int) (fun _ _ => rfl)) pe_int (fun _ _ => rfl)) (pa_cons pe_str pa_nil))) (pg_sub (pv 5) (pe_un un_neg pe_int) set_list (fun _ => rfl)))) pss_nil)
    (pss_cons (ps_if (pt_cmpR op_eq (pe_ix ix_tup (pv 6) pe_int (fun _ _ => rfl)) pe_str (nomark _)) (pss_one (ps_expr (pe_bm0 PySem.F.plainAttrs_list PySem.F.slot_list_pop PySem.F.type_list_pop mt_pop (pv 5)))) pss_nil)
    (pss_one (ps_aug (i := 2) sc__law_due.nd rfl (Or.inl rfl) pe_int ip_add)))))))))
    (pss_one (ps_if (pt_truth (pv 5) (fun _ => rfl)) (pss_one (ps_ret (pe_tup (pa_cons pe_str (pa_cons (pe_ix ix_list (pe_ix ix_list (pv 5) (pe_un un_neg pe_int) (fun _ _ => rfl)) pe_int (fun _ _ => rfl)) pa_nil))))) pss_nil)))))
    (pss_one (ps_ret (pe_tup (pa_cons pe_str (pa_cons (pe_callTy call_tuple_of (by rfl) T.n_tuple bo_tuple (pa_cons (pe_d D__law_all_rows (hr.mono (by decide)) (by rfl) pass0 (pa_cons (pv 1) pa_nil)) pa_nil)) pa_nil))))))), ?_⟩
    refine q_parCL fun pr H2 hpr e2 h2 => ?_
    have hprH : H pr = none := hpr
    refine q_forB (H := H) (eb_rng (n := ps.length) (ea_cons (ev_is (ev_lenL (ev_var (i := 1) rfl) hl) (by rw [hplen])) ea_nil) (by omega)) e2 (fun i σ' H' => ∃ (n : Int) (met : List Str) (y4 y5 y6 y7 y8 y9 : Option V), σ' = [some (.ref a), some (.ref l), some (.int n), some (.ref pr), y4, y5, y6, y7, y8, y9] ∧ Ex H H' ∧ H' pr = some (.lst (met.map V.str)) ∧ partsR ths n met (ps.drop i) = partsR ths 0 [] ps ∧ met.length + sumR (ps.drop i) ≤ 60)
      (fun H3 e3 => ⟨0, [], none, none, none, none, none, none, rfl, e2.trans e3, e3 _ _ h2, rfl, by simpa using hs60⟩) (fun i σ' H' pv => by
      obtain ⟨_, _, _, _, _, _, _, _, _, e, _⟩ := pv
      exact e) (fun i x σ' H' hx pv => ?_) fun σ' H' pv => ?_
    · obtain ⟨n, met, y4, y5, y6, y7, y8, y9, rfl, e, hme, hrest, hsum⟩ := pv
      obtain ⟨i', hi', rfl⟩ : ∃ i', i' < ps.length ∧ x = .int (i' : Nat) := by
        obtain ⟨k, hk, rfl⟩ := List.mem_map.mp (List.mem_of_getElem? hx)
        exact ⟨k, List.mem_range.mp hk, rfl⟩
      obtain rfl : i' = i := by
        unfold nats at hx
        rw [List.getElem?_map] at hx
        obtain ⟨k, hk, hke⟩ := Option.map_eq_some_iff.mp hx
        rw [List.getElem?_range] at hk
        · obtain rfl := Option.some.inj hk
          simp at hke
          omega
        · have := (List.getElem?_eq_some_iff.mp hk).1
          simpa using this
      obtain ⟨p, hp⟩ : ∃ p, ps[i']? = some p := ⟨_, List.getElem?_eq_getElem hi'⟩
      obtain ⟨pv0, hpv⟩ : ∃ v, pvs[i']? = some v := ⟨_, List.getElem?_eq_getElem (by omega)⟩
      obtain ⟨p', hp', t, lr, xs, rfl, ht, hlr, hr⟩ := paired_get hP hpv
      rw [hp] at hp'
      obtain rfl := Option.some.inj hp'
      have hpm := List.mem_of_getElem? hp
      have hdrop := drop_at hp
      have hsum' : met.length + (p.2.length + sumR (ps.drop (i' + 1))) ≤ 60 := by
        rw [hdrop] at hsum
        exact hsum
      have hparts : partsR ths n met (ps.drop i') = (match rowsR ths ((ps.drop (i' + 1)).map Prod.fst) n met [] p.2 with
        | .error e => some e
        | .ok (met', bl) => match bl.getLast? with
          | some b => eUnmatched b.1
          | none => partsR ths (n + (p.2.length : Nat)) met' (ps.drop (i' + 1))) := by
        rw [hdrop]
        rfl
      have hxl : xs.length = p.2.length := Paired.length hr
      refine q_asgL (el_lst ea_nil (by decide)) fun bk HB hbk eB hB => ?_
      have hbpr : bk ≠ pr := fun z => by
        rw [z, hme] at hbk
        cases hbk
      have hbH : H bk = none := fresh_back e hbk
      have eHB := e.trans eB
      refine q_forB (H := H) (fun H1 e1 R k => ?_) eHB (fun j σ' H' => ∃ (n' : Int) (met' : List Str) (bvs : List V) (bl : List Blk) (z6 z7 z8 z9 : Option V), σ' = [some (.ref a), some (.ref l), some (.int n'), some (.ref pr), some (.int (i' : Nat)), some (.ref bk), z6, z7, z8, z9] ∧ Ex H H' ∧ H' pr = some (.lst (met'.map V.str)) ∧ H' bk = some (.lst bvs) ∧ Paired (LbV H') bvs bl ∧ bl.length ≤ 8 ∧
          rowsR ths ((ps.drop (i' + 1)).map Prod.fst) n' met' bl (p.2.drop j) = rowsR ths ((ps.drop (i' + 1)).map Prod.fst) n met [] p.2 ∧ met'.length + ((p.2.length - j) + sumR (ps.drop (i' + 1))) ≤ 60 ∧ n' = n + (j : Nat)) (xs := xs)
        (fun HC eC => ⟨n, met, [], [], y6, y7, y8, y9, rfl, eHB.trans eC, eC _ _ (eB _ _ hme), eC _ _ hB, .nil, by decide, rfl, by simpa using hsum', by simp⟩) (fun j σ' H' pv => by
        obtain ⟨_, _, _, _, _, _, _, _, _, e, _⟩ := pv
        exact e) (fun j x σ' H' hx pv => ?_) fun σ' H' pv => ?_
      · -- the rows' walk
        refine eb_list (H := H) (a := lr) (ev_ixT (a := t) (ev_ixL (ev_var (i := 1) rfl) hl (ev_var (i := 4) rfl) (atI_nat (j := i') hpv)) (st_of ht) ev_c (atI_nat (j := 1) rfl)) (sq_of hlr) H1 e1 R k
      · obtain ⟨n', met', bvs, bl, z6, z7, z8, z9, rfl, eD, hmD, hbD, hLB, hb8, hrr, hs60', hn'⟩ := pv
        obtain ⟨r, hrj, hrv⟩ := paired_get hr hx
        have hrokr := hrok p hpm r (List.mem_of_getElem? hrj)
        have hdropj := drop_at hrj
        have hjl := (List.getElem?_eq_some_iff.mp hrj).1
        rw [hdropj, rows_ok_step] at hrr
        have bad : ∀ e, rowsR ths ((ps.drop (i' + 1)).map Prod.fst) n met [] p.2 = .error e → partsR ths 0 [] ps = some e := fun e he => by
          rw [← hrest, hparts, he]
        refine q_asgN (S := fun y H' => OutV H' y (stepR ths n' ((ps.drop (i' + 1)).map Prod.fst) met' bl r)) (fun H1 e1' Q1 q1 => ?_) fun y HE eE hO => ?_
        · refine ⟨_, rfl, _, rfl, _, rfl, _, rfl, ?_⟩
          have eD1 := eD.trans e1'
          refine el_mapR (((ps.drop (i' + 1)).map Prod.fst).map V.str) (ei_listN (K := K) (el_sl (lo := some (((i' : Nat) : Int) + 1)) (hi := none) (ev_var (i := 1) rfl) (eo_some (ev_op (ev_var (i := 4) rfl) ev_c rv_I0)) eo_none (ex_l eD1 hl))) ?_ ?_ H1 (Ex.refl H1) _ fun la H3 hla e3 h3 => ?_
          · rw [show (((i' : Nat) : Int) + 1) = ((i' + 1 : Nat) : Int) by omega, cutV_from, List.length_drop]
            omega
          · rw [show (((i' : Nat) : Int) + 1) = ((i' + 1 : Nat) : Int) by omega, cutV_from, List.map_map]
            have hPd : PtsV H (pvs.drop (i' + 1)) (ps.drop (i' + 1)) := paired_drop (i' + 1) hP
            refine paired_map (fun v p' hp' => ?_) hPd
            obtain ⟨t', l', xs', rfl, ht', hl', hr'⟩ := hp'
            exact tg_pair1 (a := .str p'.1) (b := .ref l') (st_of (eD1 _ _ ht')) rfl (ev_var rfl)
          · have eD3 := eD1.trans e3
            exact ⟨_, rfl, a, pr, la, bk, tvs, bvs, ths, x, r, n', met', _, bl, rfl, ex_l eD3 ha, Paired.imp (fun _ _ z => z.kp (Kp.ex eD3)) hT, hz, hn, hrv.kp (Kp.ex eD3), hrokr, sq_of ((e1'.trans e3) _ _ hmD), sq_of h3, sq_of ((e1'.trans e3) _ _ hbD), Paired.imp (fun _ _ z => z.ex (e1'.trans e3)) hLB, hb8, fun y H4 e4 hO => q1 y H4 (e3.trans e4) hO⟩
        · cases hst : stepR ths n' ((ps.drop (i' + 1)).map Prod.fst) met' bl r with
          | some er =>
            rw [hst] at hO hrr
            obtain ⟨c, f, xv⟩ := er
            obtain ⟨oa, rfl, hoa⟩ := hO
            refine q_when (b := true) (et_test (ev_is (ev_notN (x := .ref oa) (ev_var (i := 7) rfl)) rfl)) (fun _ HF eF => ?_) fun hb => by cases hb
            refine s_ret (ev_var (i := 7) rfl) fun HG eG => q _ HG (((eD.trans eE).trans eF).trans eG) ?_
            rw [bad (c, f, xv) hrr.symm]
            exact ⟨oa, rfl, (eF.trans eG) _ _ hoa⟩
          | none =>
            rw [hst] at hO hrr
            obtain rfl : y = .non := hO
            refine q_when (b := false) (et_test (ev_is (ev_notN (x := .non) (ev_var (i := 7) rfl)) rfl)) (fun hb => by cases hb) fun _ HF eF => ?_
            have hstep : rowR ths n' ((ps.drop (i' + 1)).map Prod.fst) met' r = none ∧ openE bl n' (headR r) = none := by
              unfold stepR at hst
              cases hq : rowR ths n' ((ps.drop (i' + 1)).map Prod.fst) met' r with
              | some e =>
                rw [hq] at hst
                cases hst
              | none =>
                rw [hq] at hst
                exact ⟨rfl, hst⟩
            have eDF := eD.trans (eE.trans eF)
            have hBr := rowR_B hstep.1
            obtain ⟨w0, ra, rest, rfl, hra, hhd, hpr2⟩ := rowHead (K := K) (hrv.kp (Kp.ex eDF)) hBr
            have hoe := hstep.2
            rw [hhd] at hoe hrr
            have sTF : SqT K HF ra (.str w0 :: rest) := st_of hra
            have hmF := (eE.trans eF) _ _ hmD
            have hbF := (eE.trans eF) _ _ hbD
            have hLF : Paired (LbV HF) bvs bl := Paired.imp (fun _ _ z => z.ex (eE.trans eF)) hLB
            -- probes
            refine q_whenJ (b := decide (w0 ∈ probes2)) (fun HG => Ex H HG ∧ HG pr = some (.lst ((met' ++ probeN r).map V.str)) ∧ (∃ bv, HG bk = some (.lst bv) ∧ Paired (LbV HG) bv bl) ∧ SqT K HG ra (.str w0 :: rest)) (et_test (ev_inD probes2 (ev_ixT (ev_var (i := 6) rfl) sTF ev_c (atI_nat (j := 0) rfl)) (eu_tup (ea_cons ev_c (ea_cons ev_c ea_nil)) (by decide)))) (fun HG hJ => ?_) (fun hb k HG eG => ?_) fun hb HG eG => ?_
            · obtain ⟨eG, hmG, ⟨bvG, hbG, hLG⟩, hTG⟩ := hJ
              -- a block opens
              refine q_whenJ (b := decide (w0 ∈ (["if", "while"] : List Str))) (fun HI => Ex H HI ∧ HI pr = some (.lst ((met' ++ probeN r).map V.str)) ∧ (∃ bv, HI bk = some (.lst bv) ∧ Paired (LbV HI) bv (nb1 bl n' w0)) ∧ SqT K HI ra (.str w0 :: rest)) (et_test (ev_inD ["if", "while"] (ev_ixT (ev_var (i := 6) rfl) hTG ev_c (atI_nat (j := 0) rfl)) (eu_tup (ea_cons ev_c (ea_cons ev_c ea_nil)) (by decide)))) (fun HI hJ => ?_) (fun hb k HI eI => ?_) fun hb HI eI => ?_
              · obtain ⟨eI, hmI, ⟨bvI, hbI, hLI⟩, hTI⟩ := hJ
                -- else
                refine q_whenJ (b := decide (w0 = "else")) (fun HJ => Ex H HJ ∧ HJ pr = some (.lst ((met' ++ probeN r).map V.str)) ∧ (∃ bv, HJ bk = some (.lst bv) ∧ Paired (LbV HJ) bv (nb2 (nb1 bl n' w0) w0)) ∧ SqT K HJ ra (.str w0 :: rest)) (et_test (ev_eqS (ev_ixT (ev_var (i := 6) rfl) hTI ev_c (atI_nat (j := 0) rfl)) ev_c)) (fun HJ hJ => ?_) (fun hb k HJ eJ => ?_) fun hb HJ eJ => ?_
                · obtain ⟨eJ, hmJ, ⟨bvJ, hbJ, hLJ⟩, hTJ⟩ := hJ
                  -- end
                  refine q_whenJ (b := decide (w0 = "end")) (fun HK => Ex H HK ∧ HK pr = some (.lst ((met' ++ probeN r).map V.str)) ∧ ∃ bv, HK bk = some (.lst bv) ∧ Paired (LbV HK) bv (openN bl n' w0)) (et_test (ev_eqS (ev_ixT (ev_var (i := 6) rfl) hTJ ev_c (atI_nat (j := 0) rfl)) ev_c)) (fun HK hJ => ?_) (fun hb k HK eK => ?_) fun hb HK eK => ?_
                  · obtain ⟨eK, hmK, bvK, hbK, hLK⟩ := hJ
                    refine s_aug (i := 2) (a := n') (b := 1) rfl ev_c fun HL eL => ?_
                    refine ⟨n' + 1, met' ++ probeN r, bvK, openN bl n' w0, _, _, _, _, rfl, eK.trans eL, eL _ _ hmK, eL _ _ hbK, Paired.imp (fun _ _ z => z.ex eL) hLK, openN_len hb8 hoe, hrr, ?_, by rw [hn']; omega⟩
                    have : (probeN r).length ≤ 1 := by
                      cases r <;> simp [probeN]
                    rw [List.length_append]
                    omega
                  · have hw := of_decide_eq_true hb
                    subst hw
                    have hbJ' := eK _ _ hbJ
                    have hnb : nb2 (nb1 bl n' "end") "end" = bl := by
                      unfold nb1 nb2
                      rw [if_neg (by decide), if_neg (by decide)]
                    rw [hnb] at hLJ
                    have hLJ' : Paired (LbV HK) bvJ bl := Paired.imp (fun _ _ z => z.ex eK) hLJ
                    have hne : bl ≠ [] := fun z => by
                      rw [z] at hoe
                      cases hoe
                    rcases paired_concat hLJ' with ⟨_, z⟩ | ⟨u0, u, b0, bb, rfl, rfl, hB0, hub⟩
                    · exact absurd z hne
                    · refine ⟨_, rfl, Or.inl ⟨rfl, _, sq_of hbJ'⟩, bk, _, u, rfl, rfl, hbJ', by simp, ?_⟩
                      rw [List.dropLast_concat]
                      refine k _ ⟨Ex.mut (eJ.trans eK) hbH, ?_, u0, upd_same, ?_⟩
                      · rw [upd_ne (Ne.symm hbpr)]
                        exact eK _ _ hmJ
                      · rw [openN_nb, hnb]
                        unfold nb3
                        rw [if_pos rfl, List.dropLast_concat]
                        exact Paired.imp (fun _ _ z => lb_upd z hbJ' (lbs_head hLJ')) hB0
                  · refine ⟨eJ.trans eK, eK _ _ hmJ, bvJ, eK _ _ hbJ, ?_⟩
                    rw [openN_nb]
                    unfold nb3
                    rw [if_neg (of_decide_eq_false hb)]
                    exact Paired.imp (fun _ _ z => z.ex eK) hLJ
                · have hw := of_decide_eq_true hb
                  subst hw
                  have hnb : nb1 bl n' "else" = bl := by
                    unfold nb1
                    rw [if_neg (by decide)]
                  rw [hnb] at hLI
                  have hLI' : Paired (LbV HJ) bvI bl := Paired.imp (fun _ _ z => z.ex eJ) hLI
                  have hbI' := eJ _ _ hbI
                  have hTJ := ex_t eJ hTI
                  have hne : bl ≠ [] := fun z => by
                    rw [z] at hoe
                    cases hoe
                  rcases paired_concat hLI' with ⟨_, z⟩ | ⟨u0, u, b0, bb, rfl, rfl, hB0, ba, rfl, hba⟩
                  · exact absurd z hne
                  · refine el_lst (vs := [.int bb.1, .str "else"]) (σ := [some (.ref a), some (.ref l), some (.int n'), some (.ref pr), some (.int (i' : Nat)), some (.ref bk), some (.ref ra), some .non, z8, z9]) (ea_cons (ev_ixL (K := K) (ev_ixL (K := K) (ev_var (i := 5) rfl) (sq_of hbI') (ev_un ev_c ru_neg) (atI_last _ _)) (sq_of hba) ev_c (atI_nat (j := 0) rfl)) (ea_cons ev_c ea_nil)) (by simp) HJ (Ex.refl HJ) _ fun na HL hna eL hL => ?_
                    have hbL := eL _ _ hbI'
                    have hnbk : na ≠ bk := fun z => by
                      rw [z, hbI'] at hna
                      cases hna
                    refine ⟨_, rfl, _, rfl, bk, _, -1, u0.length, rfl, rfl, hbL, by rw [List.length_append]; exact ixN_last _, k _ ?_⟩
                    · have hLL : Paired (LbV HL) u0 b0 := Paired.imp (fun _ _ z => z.ex eL) hB0
                      have hset : (u0 ++ [V.ref ba]).set u0.length (.ref na) = u0 ++ [.ref na] := by simp
                      rw [hset]
                      refine ⟨Ex.mut ((eI.trans eJ).trans eL) hbH, ?_, ⟨_, upd_same, ?_⟩, ((Kp.ex eL).trans (Kp.put hbL)).sqT hTJ⟩
                      · rw [upd_ne (Ne.symm hbpr)]
                        exact (eJ.trans eL) _ _ hmI
                      · have hb2 : nb2 (b0 ++ [bb]) "else" = b0 ++ [(bb.1, ("else" : Str))] := by
                          unfold nb2
                          rw [if_pos rfl]
                          simp
                        rw [hnb, hb2]
                        have hh : ∀ x, (u0 ++ [V.ref ba]).head? ≠ some (.int x) := lbs_head hLI'
                        refine Paired.snoc (Paired.imp (fun _ _ z => lb_upd z hbL hh) hLL) ⟨na, rfl, ?_⟩
                        rw [upd_ne hnbk]
                        exact hL
                · refine ⟨eI.trans eJ, eJ _ _ hmI, ⟨bvI, eJ _ _ hbI, ?_⟩, ex_t eJ hTI⟩
                  unfold nb2
                  rw [if_neg (of_decide_eq_false hb)]
                  exact Paired.imp (fun _ _ z => z.ex eJ) hLI
              · have hbG' := eI _ _ hbG
                have hLG' : Paired (LbV HI) bvG bl := Paired.imp (fun _ _ z => z.ex eI) hLG
                have hTI := ex_t eI hTG
                have hbl : bvG.length = bl.length := Paired.length hLG
                refine s_appL (ys := [.int n', .str w0]) hbG' (ev_var (i := 5) rfl) (el_lst (ea_cons (ev_var (i := 2) rfl) (ea_cons (ev_ixT (ev_var (i := 6) rfl) hTI ev_c (atI_nat (j := 0) rfl)) ea_nil)) (by simp)) (by omega) fun na HL hna eL hL => k _ ?_
                have hLL : Paired (LbV HL) bvG bl := Paired.imp (fun _ _ z => z.ex eL) hLG'
                refine ⟨Ex.mut ((eG.trans eI).trans eL) hbH, ?_, ⟨_, upd_same, ?_⟩, ?_⟩
                · rw [upd_ne (Ne.symm hbpr)]
                  exact (eI.trans eL) _ _ hmG
                · unfold nb1
                  rw [if_pos (of_decide_eq_true hb)]
                  refine Paired.snoc (Paired.imp (fun _ _ z => lb_upd z (eL _ _ hbG') (lbs_head hLL)) hLL) ⟨na, rfl, ?_⟩
                  rw [upd_ne (fun z => by
                    rw [z, hbG'] at hna
                    cases hna)]
                  exact hL
                · exact ((Kp.ex eL).trans (Kp.put (eL _ _ hbG'))).sqT hTI
              · refine ⟨eG.trans eI, eI _ _ hmG, ⟨bvG, eI _ _ hbG, ?_⟩, ex_t eI hTG⟩
                unfold nb1
                rw [if_neg (of_decide_eq_false hb)]
                exact Paired.imp (fun _ _ z => z.ex eI) hLG
            · rcases hpr2 with ⟨_, nmr, tl, rfl, hpn⟩ | ⟨h, _⟩
              · refine s_app (eG _ _ hmF) (ev_var (i := 3) rfl) (ev_ixT (K := K) (v := .str nmr) (ev_var (i := 6) rfl) (ex_t eG sTF) ev_c (atI_nat (j := 1) rfl)) (by
                  rw [List.length_map]
                  omega) fun HI eI => k _ ?_
                have hmI := eI _ _ (eG _ _ hmF)
                refine ⟨Ex.mut ((eDF.trans eG).trans eI) hprH, ?_, ⟨bvs, ?_, ?_⟩, ?_⟩
                · rw [upd_same, hpn, List.map_append] <;> rfl
                · rw [upd_ne hbpr]
                  exact eI _ _ (eG _ _ hbF)
                · exact Paired.imp (fun _ _ z => lb_upd (z.ex (eG.trans eI)) hmI (strs_head _)) hLF
                · exact ((Kp.ex (eG.trans eI)).trans (Kp.put hmI)).sqT sTF
              · rw [h] at hb
                cases hb
            · rcases hpr2 with ⟨h, _⟩ | ⟨_, hpn⟩
              · rw [h] at hb
                cases hb
              · refine ⟨eDF.trans eG, ?_, ⟨bvs, eG _ _ hbF, Paired.imp (fun _ _ z => z.ex eG) hLF⟩, ex_t eG sTF⟩
                rw [hpn, List.append_nil]
                exact eG _ _ hmF
      · obtain ⟨n', met', bvs, bl, z6, z7, z8, z9, rfl, eD, hmD, hbD, hLB, hb8, hrr, hs60', hn'⟩ := pv
        rw [hxl, List.drop_length] at hrr
        have hrr' : rowsR ths ((ps.drop (i' + 1)).map Prod.fst) n met [] p.2 = .ok (met', bl) := hrr.symm
        rw [hrr'] at hparts
        rcases paired_concat hLB with ⟨rfl, rfl⟩ | ⟨u0, u, b0, bb, rfl, rfl, hB0, ba, rfl, hba⟩
        · refine s_when (b := false) (et_tru (ev_var (i := 5) rfl) (truL (K := K) (sq_of hbD))) (fun hb => by cases hb) fun hb HE eE => ?_
          refine ⟨n', met', _, _, _, _, _, _, rfl, eD.trans eE, eE _ _ hmD, ?_, ?_⟩
          · rw [← hrest, hparts, hn', hxl]
            rfl
          · omega
        · have hne' : (!(u0 ++ [V.ref ba]).isEmpty) = true := by simp
          refine s_when (et_tru (ev_var (i := 5) rfl) (truL (K := K) (sq_of hbD))) (fun hb HE eE => ?_) fun hb => by
            rw [hne'] at hb
            cases hb
          have hlast : (b0 ++ [bb]).getLast? = some bb := by simp
          have z : partsR ths 0 [] ps = eUnmatched bb.1 := by
            rw [← hrest, hparts]
            show (match (b0 ++ [bb]).getLast? with
              | some b => eUnmatched b.1
              | none => _) = _
            rw [hlast]
          rw [z] at q
          refine s_retU (eu_tup (ea_cons ev_c (ea_cons (ev_ixL (ev_ixL (ev_var (i := 5) rfl) (sq_of (eE _ _ hbD)) (ev_un ev_c ru_neg) (atI_last _ _)) (sq_of (eE _ _ hba)) ev_c (atI_nat (j := 0) rfl)) ea_nil)) (by simp)) fun pt HF hpt eF hF => q _ HF ((eD.trans eE).trans eF) ⟨pt, rfl, hF⟩
    · obtain ⟨n, met, y4, y5, y6, y7, y8, y9, rfl, e, hme, hrest, hsum⟩ := pv
      have hl2 : (nats ps.length).length = ps.length := by
        unfold nats
        rw [List.length_map, List.length_range]
      rw [hl2, List.drop_length] at hrest
      rw [← hrest] at q
      have hPe : PtsV H' pvs ps := Paired.imp (fun v p hp => by
        obtain ⟨t, l, xs, rfl, ht, hl, hr⟩ := hp
        exact ⟨t, l, xs, rfl, e _ _ ht, e _ _ hl, Paired.imp (fun _ _ z => z.kp (Kp.ex e)) hr⟩) hP
      refine ⟨_, rfl, l, pvs, ps, rfl, ex_l e hl, hPe, by omega, by omega, fun al H4 vals hal e4 h4 hR => ⟨al, vals, rfl, Or.inl ⟨sq_of h4, fun rt hrt => ⟨by show 2 ≤ sizeLine; decide, fun pt hpt => ?_⟩⟩⟩⟩
      have e5 := (Ex.new (o := .tup vals) hrt).trans (Ex.new (o := .tup [.str "rows", .ref rt]) hpt)
      exact q _ _ ((e.trans e4).trans e5) ⟨pt, rt, vals, rfl, upd_same, Ex.new hpt _ _ upd_same, Paired.imp (fun _ _ z => z.kp (Kp.ex e5)) hR⟩
end
end Q7
/-! _law_same -/
namespace Q7
open PySem PySem.Spec PyProof.Rows L2 Evl
/-- the same tree, n levels deep -/
def SmV (H : Hp) : Nat → V → V → Prop
  | 0, x, y => (∃ z : Str, x = .str z ∧ y = .str z) ∨ ∃ i : Int, x = .int i ∧ y = .int i
  | n + 1, x, y => ((∃ z : Str, x = .str z ∧ y = .str z) ∨ ∃ i : Int, x = .int i ∧ y = .int i) ∨ ∃ a b xs ys, x = .ref a ∧ y = .ref b ∧ H a = some (.tup xs) ∧ H b = some (.tup ys) ∧ xs.length ≤ 1000 ∧ Paired (SmV H n) xs ys
theorem SmV.kp {H H' : Hp} (k : Kp H H') : ∀ {n : Nat} {x y : V}, SmV H n x y → SmV H' n x y
  | 0, _, _, h => h
  | n + 1, _, _, h => by
    rcases h with h | ⟨a, b, xs, ys, h1, h2, h3, h4, h5, h6⟩
    · exact Or.inl h
    · exact Or.inr ⟨a, b, xs, ys, h1, h2, k.tup h3, k.tup h4, h5, Paired.imp (fun _ _ z => SmV.kp k z) h6⟩
section
variable {P : Program} {w : World} {K : PySem.W.Frag} {mg : Str → Option Value} {base : Heap}
def spS : Nat → Sp
  | 0 => fun _ _ _ _ => False
  | n + 1 => fun vs H Q _ => ∃ x y, vs = [x, y] ∧ SmV H n x y ∧ RetV (.bl true) H Q
theorem sc__law_same : FnScope ["_law_actual", "_law_due_here", "_law_k"] ["_law_actual", "_law_due_here"] (defScope s_law_same) := ⟨rfl, rfl, rfl, by decide +kernel, rfl, by decide +kernel, by decide +kernel⟩
theorem D__law_same (T : Txt w K mg) : ∀ n, Dn P w K mg base CX0 n "_law_same" (spS n)
  | 0 => ⟨fun _ _ _ _ _ _ _ _ _ _ _ h => h.elim, T.g__law_same, T.kps_law_same⟩
  | n + 1 => by
    have D__law_same := D__law_same T n
    refine mkD0 T.fds_law_same T.g__law_same T.kps_law_same sc__law_same (fun _ _ _ _ _ _ us hl => match us, hl with | [_, _], _ => rfl) (fun vs H Q E h => ?_) (fun cdv A outer s H vs Q E hr h => ?_)
    · obtain ⟨x, y, rfl, _⟩ := h
      rfl
    · obtain ⟨x, y, rfl, hs, q⟩ := h
      refine ⟨_, (pss_cons (ps_if (pt_cmpR op_isN (pv 1) pe_non (nomark _)) (pss_one (ps_ret (pe_cmpR op_isN (pv 0) pe_non (nomark _)))) pss_nil)
    (pss_cons (ps_if (PW.pt (pw_or (pt_val (pe_callB call_isi (by rfl) T.n_isinstance bo_isinstance (pa_cons (pv 1) (pa_cons (pe_bltn (v := .ty "bool") (by rfl) T.n_bool bo_bool rfl) pa_nil)))) (pw_or1 (pt_val (pe_callB call_isi (by rfl) T.n_isinstance bo_isinstance (pa_cons (pv 1) (pa_cons (pe_bltn (v := .ty "str") (by rfl) T.n_str bo_str rfl) pa_nil))))))) (pss_cons (ps_if (PW.pt (pw_or (pt_cmpR op_ne (pe_callB call_isi (by rfl) T.n_isinstance bo_isinstance (pa_cons (pv 0) (pa_cons (pe_bltn (v := .ty "bool") (by rfl) T.n_bool bo_bool rfl) pa_nil))) (pe_callB call_isi (by rfl) T.n_isinstance bo_isinstance (pa_cons (pv 1) (pa_cons (pe_bltn (v := .ty "bool") (by rfl) T.n_bool bo_bool rfl) pa_nil))) (nomark _)) (pw_or1 (pt_cmpR op_ne (pe_callB call_isi (by rfl) T.n_isinstance bo_isinstance (pa_cons (pv 0) (pa_cons (pe_bltn (v := .ty "str") (by rfl) T.n_str bo_str rfl) pa_nil))) (pe_callB call_isi (by rfl) T.n_isinstance bo_isinstance (pa_cons (pv 1) (pa_cons (pe_bltn (v := .ty "str") (by rfl) T.n_str bo_str rfl) pa_nil))) (nomark _))))) (pss_one (ps_ret pe_bl)) pss_nil)
    (pss_one (ps_ret (pe_cmpR op_eq (pv 0) (pv 1) (nomark _))))) pss_nil)
    (pss_cons (ps_if (pt_val (pe_callB call_isi (by rfl) T.n_isinstance bo_isinstance (pa_cons (pv 1) (pa_cons (pe_bltn (v := .ty "int") (by rfl) T.n_int bo_int rfl) pa_nil)))) (pss_one (ps_ret (pe_and (pe_callB call_isi (by rfl) T.n_isinstance bo_isinstance (pa_cons (pv 0) (pa_cons (pe_bltn (v := .ty "int") (by rfl) T.n_int bo_int rfl) pa_nil))) (pe_and (pe_not (pe_callB call_isi (by rfl) T.n_isinstance bo_isinstance (pa_cons (pv 0) (pa_cons (pe_bltn (v := .ty "bool") (by rfl) T.n_bool bo_bool rfl) pa_nil)))) (pe_one (pe_cmpR op_eq (pv 0) (pv 1) (nomark _))))))) pss_nil)
    (pss_cons (ps_if (PW.pt (pw_and (pt_val (pe_callB call_isi (by rfl) T.n_isinstance bo_isinstance (pa_cons (pv 1) (pa_cons (pe_bltn (v := .ty "list") (by rfl) T.n_list bo_list rfl) pa_nil)))) (pw_and1 (pt_not (pt_val (pe_callB call_isi (by rfl) T.n_isinstance bo_isinstance (pa_cons (pv 0) (pa_cons (pe_bltn (v := .ty "list") (by rfl) T.n_list bo_list rfl) pa_nil)))))))) (pss_one (ps_ret pe_bl)) pss_nil)
    (pss_cons (ps_if (PW.pt (pw_and (pt_val (pe_callB call_isi (by rfl) T.n_isinstance bo_isinstance (pa_cons (pv 1) (pa_cons (pe_bltn (v := .ty "tuple") (by rfl) T.n_tuple bo_tuple rfl) pa_nil)))) (pw_and1 (pt_not (pt_val (pe_callB call_isi (by rfl) T.n_isinstance bo_isinstance (pa_cons (pv 0) (pa_cons (pe_bltn (v := .ty "tuple") (by rfl) T.n_tuple bo_tuple rfl) pa_nil)))))))) (pss_one (ps_ret pe_bl)) pss_nil)
    (pss_cons (ps_if (pt_cmpR op_ne (pe_callB call_len_seq (by rfl) T.n_len PySem.boot_len (pa_cons (pv 0) pa_nil)) (pe_callB call_len_seq (by rfl) T.n_len PySem.boot_len (pa_cons (pv 1) pa_nil)) (nomark _)) (pss_one (ps_ret pe_bl)) pss_nil)
    (pss_cons (ps_for PassesOwn.never rfl (pi_range1 (by rfl) T.n_range (pa_cons (pe_callB call_len_seq (by rfl) T.n_len PySem.boot_len (pa_cons (pv 1) pa_nil)) pa_nil)) (pg_name (i := 2) sc__law_same.nd rfl (Or.inl rfl))
    (pss_one (ps_if (pt_not (pt_val (pe_d D__law_same (hr.mono (Nat.le_refl _)) (by rfl) pass0 (pa_cons (pe_ix ix_tup (pv 0) (pv 2) (fun _ _ => rfl)) (pa_cons (pe_ix ix_tup (pv 1) (pv 2) (fun _ _ => rfl)) pa_nil))))) (pss_one (ps_ret pe_bl)) pss_nil)))
    (pss_one (ps_ret pe_bl))))))))), ?_⟩
      have isi : ∀ {tn : String} {b : Bool} {tx : Value} {i : Nat} {v : V} {σ : L2.St} {H1 : Hp}, σ[i]? = some (some v) → (∀ H2, Ex H1 H2 → TyX K H2 v tx) → PySem.W.kitOne K tx (.type tn) = some b → Ev (tCB (rIsi K) (tCons (tVar i) (tCons (tC (.ty tn)) tNil))) σ H1 (.bl b) := fun h1 h2 h3 => ev_isi (ev_var h1) ev_c h2 h3
      have cases3 : (∃ z : Str, x = .str z ∧ y = .str z) ∨ (∃ i : Int, x = .int i ∧ y = .int i) ∨ ∃ (m : Nat) (a b : Addr) (xs ys : List V), n = m + 1 ∧ x = .ref a ∧ y = .ref b ∧ H a = some (.tup xs) ∧ H b = some (.tup ys) ∧ xs.length ≤ 1000 ∧ Paired (SmV H m) xs ys := by
        cases n with
        | zero =>
          rcases hs with h | h
          · exact Or.inl h
          · exact Or.inr (Or.inl h)
        | succ m =>
          rcases hs with (h | h) | ⟨a, b, xs, ys, h⟩
          · exact Or.inl h
          · exact Or.inr (Or.inl h)
          · exact Or.inr (Or.inr ⟨m, a, b, xs, ys, rfl, h⟩)
      rcases cases3 with ⟨z, rfl, rfl⟩ | ⟨i, rfl, rfl⟩ | ⟨m, a, b, xs, ys, rfl, rfl, rfl, ha, hb, hl, hP⟩
      · refine q_when (b := false) (et_test (ev_is (ev_isN (x := .str z) (ev_var (i := 1) rfl)) rfl)) (fun hb => by cases hb) fun _ H1 e1 => ?_
        refine q_when (b := true) (et_or (a := false) (et_B (isi rfl (fun _ _ => .base (.str _)) (kit_ty (by decide +kernel)))) fun _ => et_B (isi (b := true) rfl (fun _ _ => .base (.str _)) (kit_ty (by decide +kernel)))) (fun _ H2 e2 => ?_) fun hb => by cases hb
        refine q_when (b := false) (et_or (a := false) (et_test (ev_is (ev_op (isi (b := false) rfl (fun _ _ => .base (.str _)) (kit_ty (by decide +kernel))) (isi (b := false) rfl (fun _ _ => .base (.str _)) (kit_ty (by decide +kernel))) (rv_ne rfl)) rfl)) fun _ => et_test (ev_is (ev_op (isi (b := true) rfl (fun _ _ => .base (.str _)) (kit_ty (by decide +kernel))) (isi (b := true) rfl (fun _ _ => .base (.str _)) (kit_ty (by decide +kernel))) (rv_ne rfl)) rfl)) (fun hb => by cases hb) fun _ H3 e3 => ?_
        exact s_ret (ev_is (ev_eqS (ev_var (i := 0) rfl) (ev_var (i := 1) rfl)) (by simp)) fun H4 e4 => q H4 (((e1.trans e2).trans e3).trans e4)
      · refine q_when (b := false) (et_test (ev_is (ev_isN (x := .int i) (ev_var (i := 1) rfl)) rfl)) (fun hb => by cases hb) fun _ H1 e1 => ?_
        refine q_when (b := false) (et_or (a := false) (et_B (isi rfl (fun _ _ => .base (.int _)) (kit_ty (by decide +kernel)))) fun _ => et_B (isi (b := false) rfl (fun _ _ => .base (.int _)) (kit_ty (by decide +kernel)))) (fun hb => by cases hb) fun _ H2 e2 => ?_
        refine q_when (b := true) (et_B (isi (b := true) rfl (fun _ _ => .base (.int _)) (kit_ty (by decide +kernel)))) (fun _ H3 e3 => ?_) fun hb => by cases hb
        refine s_ret (ev_is (ev_andV (a := true) (b := true) (isi (b := true) rfl (fun _ _ => .base (.int _)) (kit_ty (by decide +kernel))) fun _ => ev_is (ev_andV (a := true) (b := true) (ev_is (ev_notV (a := false) (isi (b := false) rfl (fun _ _ => .base (.int _)) (kit_ty (by decide +kernel)))) rfl) fun _ => ev_is (ev_eqI (ev_var (i := 0) rfl) (ev_var (i := 1) rfl)) (by simp)) rfl) rfl) fun H4 e4 => q H4 (((e1.trans e2).trans e3).trans e4)
      · have hlen : xs.length = ys.length := Paired.length hP
        have hat : SqT K H a xs := st_of ha
        have hbt : SqT K H b ys := st_of hb
        refine q_when (b := false) (et_test (ev_is (ev_isN (x := .ref b) (ev_var (i := 1) rfl)) rfl)) (fun hb => by cases hb) fun _ H1 e1 => ?_
        have hb1 := ex_t e1 hbt
        refine q_when (b := false) (et_or (a := false) (et_B (isi (b := false) rfl (tyT hb1) (kit_ty (by decide +kernel)))) fun _ => et_B (isi (b := false) rfl (tyT hb1) (kit_ty (by decide +kernel)))) (fun hb => by cases hb) fun _ H2 e2 => ?_
        have hb2 := ex_t e2 hb1
        refine q_when (b := false) (et_B (isi (b := false) rfl (tyT hb2) (kit_ty (by decide +kernel)))) (fun hb => by cases hb) fun _ H3 e3 => ?_
        have hb3 := ex_t e3 hb2
        refine q_when (b := false) (et_is (et_and (a := false) (b := true) (et_B (isi (b := false) rfl (tyT hb3) (kit_ty (by decide +kernel)))) fun hb => by cases hb) rfl) (fun hb => by cases hb) fun _ H4 e4 => ?_
        have hb4 := ex_t e4 hb3
        have e14 := ((e1.trans e2).trans e3).trans e4
        refine q_when (b := false) (et_is (et_and (a := true) (b := false) (et_B (isi (b := true) rfl (tyT hb4) (kit_ty (by decide +kernel)))) fun _ => et_is (et_not (a := true) (et_B (isi (b := true) rfl (tyT (ex_t e14 hat)) (kit_ty (by decide +kernel))))) rfl) rfl) (fun hb => by cases hb) fun _ H5 e5 => ?_
        have e15 := e14.trans e5
        refine q_when (b := false) (et_test (ev_is (ev_neI (ev_lenT (ev_var (i := 0) rfl) (ex_t e15 hat)) (ev_lenT (ev_var (i := 1) rfl) (ex_t e15 hbt))) (by rw [hlen]; simp))) (fun hb => by cases hb) fun _ H6 e6 => ?_
        have e16 := e15.trans e6
        refine q_forB (H := H) (eb_rng (n := ys.length) (ea_cons (ev_lenT (ev_var (i := 1) rfl) hbt) ea_nil) (by omega)) e16 (fun i σ' H' => ∃ z, σ' = [some (.ref a), some (.ref b), z] ∧ Ex H H') (fun H7 e7 => ⟨none, rfl, e16.trans e7⟩) (fun i σ' H' pv => pv.elim fun _ p => p.2) (fun i x σ' H' hx pv => ?_) fun σ' H' pv => ?_
        · obtain ⟨z, rfl, e⟩ := pv
          obtain ⟨k, hk, rfl⟩ : ∃ k, k < ys.length ∧ x = .int (k : Nat) := by
            obtain ⟨k, hk, rfl⟩ := List.mem_map.mp (List.mem_of_getElem? hx)
            exact ⟨k, List.mem_range.mp hk, rfl⟩
          have hxk : xs[k]? = some xs[k] := List.getElem?_eq_getElem (by omega)
          obtain ⟨yk, hyk, hsm⟩ := paired_get hP hxk
          refine s_when (b := false) (et_is (et_not (a := true) (et_B (ev_d (z := .bl true) (ea_cons (ev_ixT (ev_var (i := 0) rfl) (ex_t e hat) (ev_var (i := 2) rfl) (atI_nat (j := k) hxk)) (ea_cons (ev_ixT (ev_var (i := 1) rfl) (ex_t e hbt) (ev_var (i := 2) rfl) (atI_nat (j := k) hyk)) ea_nil)) fun H7 e7 Q7 q7 => ⟨_, _, rfl, SmV.kp (Kp.ex (e.trans e7)) hsm, q7⟩))) rfl) (fun hb => by cases hb) fun _ H7 e7 => ⟨_, rfl, e.trans e7⟩
        · obtain ⟨z, rfl, e⟩ := pv
          exact s_ret ev_c fun H7 e7 => q H7 (e.trans e7)
end
end Q7
/-! _law_wide_program -/
namespace Q7
open PySem PySem.Spec PyProof.Rows L2 Evl
/-- a turn that makes something new; the list that is made is at Dl -/
def TgND (g : TG) (te : TE) (vs : List Nat) (σ : L2.St) (H : Hp) (S : Addr → V → V → Hp → Prop) (x : V) : Prop := ∀ H1 Dl acc, Ex H H1 → H1 Dl = some (.lst acc) → ∃ σ2, wipe σ2 vs = wipe σ vs ∧ EvN te σ2 H1 (S Dl x) ∧ ∀ R : L2.St → Hp → Prop, R σ2 H1 → g x (wipe σ vs) H1 R
theorem en_mapD {σ : L2.St} {H : Hp} {te : TE} {wi : TI} {g : TG} {xs : List V} {vs : List Nat} {S : Addr → V → V → Hp → Prop} (mono : ∀ Dl x y H H', KD Dl H H' → S Dl x y H → S Dl x y H') (h : EvI wi σ H xs) (hz : xs.length ≤ 50000) (ht : ∀ x ∈ xs, TgND g te vs σ H S x) :
    EvN (tLc wi g tYes te vs) σ H (fun v H2 => ∃ p ys, v = .ref p ∧ H p = none ∧ H2 p = some (.lst ys) ∧ Paired (fun x y => S p x y H2) xs ys) := fun H0 e Q q =>
  h H0 e _ fun J H1 e1 w Dl hD => by
    refine lc_it w (fun n H' => H1 Dl = none ∧ Ex H1 H' ∧ ∃ ys, H' Dl = some (.lst ys) ∧ ys.length = n ∧ Paired (fun x y => S Dl x y H') (xs.take n) ys) ⟨hD, Ex.new hD, [], upd_same, rfl, .nil⟩ (fun _ H' _ p => p.2.1) (fun n x H' H2 hi pv y => ?_) (fun H' p => ?_)
    · obtain ⟨rfl, hx⟩ := y
      obtain ⟨p1, p2, ys, p3, hl, p4⟩ := pv
      obtain ⟨σ2, hw, he, hg⟩ := ht x (List.mem_of_getElem? hx) _ Dl ys ((e.trans e1).trans p2) p3
      refine hg _ ⟨hw, ?_⟩
      unfold tYes
      dsimp only
      rw [if_pos rfl]
      refine he _ (Ex.refl _) _ fun y H4 e4 hS => ?_
      have hd := e4 Dl _ p3
      have kp : KD Dl H4 (upd H4 Dl (.lst (ys ++ [y]))) := fun c o hc h => by
        rw [upd_ne hc]
        exact h
      refine ⟨_, hd, sz_lt (by omega), p1, Ex.mut (p2.trans e4) p1, _, upd_same, by rw [List.length_append, hl] <;> rfl, ?_⟩
      rw [take_add hx]
      exact Paired.snoc (Paired.imp (fun a b k => mono Dl a b _ _ (fun c o hc h => kp c o hc (e4 c o h)) k) p4) (mono Dl x y _ _ kp hS)
    · obtain ⟨p1, p2, ys, p3, hl, p4⟩ := p
      rw [List.take_length] at p4
      exact q _ H' (e1.trans p2) ⟨Dl, ys, rfl, fresh_back (e.trans e1) p1, p3, p4⟩
theorem tgND_pair {K : PySem.W.Frag} {σ : L2.St} {H : Hp} {te : TE} {vs : List Nat} {i j : Nat} {t : Addr} {a b : V} {S : Addr → V → V → Hp → Prop} (hT : SqT K H t [a, b]) (hw : wipe (((wipe σ vs).set i (some a)).set j (some b)) vs = wipe σ vs) (he : ∀ H1 Dl acc, Ex H H1 → H1 Dl = some (.lst acc) → EvN te (((wipe σ vs).set i (some a)).set j (some b)) H1 (S Dl (.ref t))) :
    TgND (gTup K 2 (gCons (gName i) (gCons (gName j) gNil))) te vs σ H S (.ref t) := fun H1 Dl acc e hDl => ⟨_, hw, he H1 Dl acc e hDl, fun R r => g_pair (ex_t e hT) r⟩
theorem strs_inj : ∀ {a b : List Str}, a.map V.str = b.map V.str → a = b
  | [], [], _ => rfl
  | [], _ :: _, h => by cases h
  | _ :: _, [], h => by cases h
  | x :: r, y :: s, h => by
    simp only [List.map_cons, List.cons.injEq, V.str.injEq] at h
    rw [h.1, strs_inj h.2]
theorem ThTup.inj {H : Hp} {v : V} {t u : TH} (h : ThTup H v t) (k : ThTup H v u) : t = u := by
  obtain ⟨a, b, h1, h2, h3⟩ := h
  obtain ⟨a', b', k1, k2, k3⟩ := k
  rw [h1] at k1
  obtain rfl : a = a' := by injection k1
  rw [h2] at k2
  simp only [Option.some.injEq, HO.tup.injEq, List.cons.injEq, V.str.injEq, V.ref.injEq, and_true] at k2
  obtain ⟨e1, e2, e3⟩ := k2
  rw [← e3, h3] at k3
  simp only [Option.some.injEq, HO.tup.injEq] at k3
  have e4 := strs_inj k3
  cases t
  cases u
  simp only at e1 e2 e4
  rw [e1, e2, e4]
section
variable {P : Program} {w : World} {K : PySem.W.Frag} {mg : Str → Option Value} {base : Heap}
/-- the program that is made, or the error -/
def RetProg (K : PySem.W.Frag) (ps : List Part) (o : Out) (H : Hp) (Q : VK) (E : XK) : Prop := match o with
  | none => ∀ x H' dx fs rt vals, Ex H H' → H' x = some (.ins (He.ga K "Program") dx fs) → fs.lookup ("rows" : Str) = some (.ref rt) → H' rt = some (.tup vals) → Paired (RowV H') vals (allRows ps) → Q (.ref x) H'
  | some (c, f, v) => Er K c f v H E
def spWide (K : PySem.W.Frag) : Sp := fun vs H Q E => ∃ (a l : Addr) (tvs pvs : List V) (ths : List TH) (ps : List Part), vs = [.ref a, .ref l] ∧ SqL K H a tvs ∧ TupsV H tvs ths ∧ ThsOk ths ∧ SqL K H l pvs ∧ PtsV H pvs ps ∧ PartsOk ps ∧ ps.length ≤ 2 ∧ RetProg K ps (partsR ths 0 [] ps) H Q E
/-- Program(given, *parts), the parts laid -/
theorem mk_prog {Q : VK} {E : XK} {g : Addr} {gvs pvs : List V} {ths : List TH} {ps : List Part} {H1 : Hp} (hg : SqL K H1 g gvs) (hv : ThsV K H1 gvs ths) (hok : ThsOk ths) (hP : PtsV H1 pvs ps) (hpo : PartsOk ps) (q : RetProg K ps (partsR ths 0 [] ps) H1 Q E) :
    ∀ x dx, H1 x = none → H1 dx = none → dx ≠ x → ∃ ws rest, (V.ref x :: V.ref g :: pvs) = ws ++ rest ∧ ws.length = ["self", "things"].length ∧ rest.length ≤ sizeLine ∧ ∀ p, (upd (upd H1 dx (.own x)) x (.ins (He.ga K "Program") dx [])) p = none →
      spProg K (ws ++ [V.ref p]) (upd (upd (upd H1 dx (.own x)) x (.ins (He.ga K "Program") dx [])) p (.tup rest)) (fun v H2 => v = .non ∧ Q (.ref x) H2) E := by
  intro x dx hx hdx hne
  have hpl : pvs.length = ps.length := Paired.length hP
  refine ⟨[.ref x, .ref g], pvs, rfl, rfl, sz_of (by have := hpo.few; omega), fun p hp => ?_⟩
  have hpx : p ≠ x := fun z => by
    rw [z, upd_same] at hp
    cases hp
  have hpd : p ≠ dx := fun z => by
    rw [z, upd_ne hne, upd_same] at hp
    cases hp
  have hp1 : H1 p = none := by
    rw [upd_ne hpx, upd_ne hpd] at hp
    exact hp
  have e0 : Ex H1 (upd H1 p (.tup pvs)) := Ex.new hp1
  refine ⟨x, g, p, dx, upd H1 p (.tup pvs), gvs, pvs, ths, ps, rfl, ?_, ?_, ?_, ex_l e0 hg, hv.kp (Kp.ex e0), hok, st_of upd_same, Paired.imp (fun v p hp => by
    obtain ⟨t, l, xs, rfl, ht, hl, hr⟩ := hp
    exact ⟨t, l, xs, rfl, e0 _ _ ht, e0 _ _ hl, Paired.imp (fun _ _ z => z.kp (Kp.ex e0)) hr⟩) hP, hpo, ?_⟩
  · intro c o hc
    by_cases h : c = p
    · rw [h, upd_same] at hc ⊢
      exact hc
    · rw [upd_ne h] at hc ⊢
      rw [upd_ne (fun z => by
        rw [z, hx] at hc
        cases hc), upd_ne (fun z => by
        rw [z, hdx] at hc
        cases hc)]
      exact hc
  · rw [upd_ne (Ne.symm hpx)]
    exact hx
  · rw [upd_ne (Ne.symm hpx), upd_same]
  · unfold RetProg at q
    cases hR : partsR ths 0 [] ps with
    | none =>
      rw [hR] at q
      exact fun H' fs rt vals e h1 h2 h3 h4 => ⟨rfl, q x H' dx fs rt vals (e0.trans e) h1 h2 h3 h4⟩
    | some er =>
      rw [hR] at q
      obtain ⟨c, f, v⟩ := er
      exact Er.ex e0 q
theorem sc__law_wide_program : FnScope ["_law_things_here", "_law_parts", "_law_given", "_law_lists", "_law_thing_here", "_law_name", "_law_rows"] ["_law_things_here", "_law_parts"] (defScope s_law_wide_program) := ⟨rfl, rfl, rfl, by decide +kernel, rfl, by decide +kernel, by decide +kernel⟩
theorem D__law_wide_program (T : Txt w K mg) (D__law_thing : Dn P w K mg base CX0 5 "_law_thing" (spLawThing K)) (FP : FnR P w K mg base (L2.CX P w) 10 (He.ma K (He.ga K "Program") "__init__") (fun vs H Q E => ∃ ws rest, vs = ws ++ rest ∧ ws.length = ["self", "things"].length ∧ rest.length ≤ sizeLine ∧ ∀ p, H p = none → spProg K (ws ++ [V.ref p]) (upd H p (.tup rest)) Q E)) :
    Dn P w K mg base (L2.CX P w) 12 "_law_wide_program" (spWide K) := by
  refine mkD T.fds_law_wide_program T.g__law_wide_program T.kps_law_wide_program sc__law_wide_program (fun _ _ _ _ _ _ us hl => match us, hl with | [_, _], _ => rfl) (fun vs H Q E h => ?_) (fun cdv A outer s H vs Q E hr h => ?_)
  · obtain ⟨a, l, tvs, pvs, ths, ps, rfl, _⟩ := h
    rfl
  · obtain ⟨a, l, tvs, pvs, ths, ps, rfl, ha, hT, hok, hl, hP, hpo, h2, q⟩ := h
    have htl : tvs.length = ths.length := Paired.length hT
    have hpl : pvs.length = ps.length := Paired.length hP
    have hfew := hok.few
    refine ⟨_, (pss_cons (ps_setLc (i := 2) (own := [("_law_thing_here", 4)]) (g := gName 4) (tt := tYes) rfl sc__law_wide_program.nd rfl rfl (sw_true rfl rfl rfl (by decide +kernel)) (pi_list (pv 0)) (blkOk_by (own := [("_law_thing_here", 4)]) (N := ["_law_things_here", "_law_parts", "_law_given", "_law_lists", "_law_thing_here", "_law_name", "_law_rows"]) (sc := defScope s_law_wide_program) (by decide +kernel)) (fun _ _ _ _ _ => (pg_name (i := 4) sc__law_wide_program.nd rfl (Or.inl rfl))) (fun _ _ _ _ _ => pts_nil) (fun _ _ _ _ _ => (pe_d D__law_thing (hr.mono (by decide)) (by rfl) pass0 (pa_cons (pv 4) pa_nil))))
    (pss_cons (ps_setLc (i := 3) (own := [("_law_name", 5), ("_law_rows", 6)]) (g := gTup K 2 (gCons (gName 5) (gCons (gName 6) gNil))) (tt := tYes) rfl sc__law_wide_program.nd rfl rfl (sw_true rfl rfl rfl (by decide +kernel)) (pi_list (pv 1)) (blkOk_by (own := [("_law_name", 5), ("_law_rows", 6)]) (N := ["_law_things_here", "_law_parts", "_law_given", "_law_lists", "_law_thing_here", "_law_name", "_law_rows"]) (sc := defScope s_law_wide_program) (by decide +kernel)) (fun _ _ _ _ _ => (pg_tup rfl (pgs_cons (pg_name (i := 5) sc__law_wide_program.nd rfl (Or.inl rfl)) (pgs_cons (pg_name (i := 6) sc__law_wide_program.nd rfl (Or.inl rfl)) pgs_nil)))) (fun _ _ _ _ _ => pts_nil) (fun _ _ _ _ _ => (pe_tup (pa_cons (pv 5) (pa_cons (pe_callTy (r := rLstQ K) call_list_of (by rfl) T.n_list bo_list (pa_cons (pv 6) pa_nil)) pa_nil)))))
    (pss_one (ps_ret (pe_ifExp (pt_cmpR op_eq (pe_callB call_len_seq (by rfl) T.n_len PySem.boot_len (pa_cons (pv 3) pa_nil)) pe_int (nomark _)) (StX.pe_makeR T.mk_Program FP (hr.mono (by decide)) (by rfl) T.g_Program (passes_call (takes_of rfl rfl rfl rfl) (fun _ _ _ _ h => h)) (pa_cons (pv 2) (pa_cons (pe_ix ix_list (pv 3) pe_int (fun _ _ => rfl)) pa_nil))) (StX.pe_makeR T.mk_Program FP (hr.mono (by decide)) (by rfl) T.g_Program (passes_call (takes_of rfl rfl rfl rfl) (fun _ _ _ _ h => h)) (pa_cons (pv 2) (pa_cons (pe_ix ix_list (pv 3) pe_int (fun _ _ => rfl)) (pa_cons (pe_ix ix_list (pv 3) pe_int (fun _ _ => rfl)) pa_nil))))))))), ?_⟩
    refine q_asgN (en_map (S := fun x y H => ∃ t, ThTup H x t ∧ ThObj K H y t) (fun x y H H' k h => by
      obtain ⟨t, h1, h2⟩ := h
      exact ⟨t, h1.kp k, h2.kp k⟩) (ei_list (ev_var (i := 0) rfl) ha) (by omega) (fun _ => rfl) fun x hx => ?_) fun gv H1 e1 hS => ?_
    · obtain ⟨i, hi⟩ := List.getElem?_of_mem hx
      obtain ⟨t, ht, hxt⟩ := paired_get hT hi
      intro H1 e1 Q1 q1
      exact ⟨_, rfl, _, t, rfl, hxt.kp (Kp.ex e1), hok.ok t (List.mem_of_getElem? ht), fun y H2 e2 hy => q1 y H2 e2 ⟨t, hxt.kp (Kp.ex (e1.trans e2)), hy⟩⟩
    obtain ⟨g, gvs, rfl, _, hg, hgp⟩ := hS
    have hv : ThsV K H1 gvs ths := paired_join (fun x y t s f => by
      obtain ⟨t', h1, h2⟩ := s
      rw [f.inj h1]
      exact h2) hgp (Paired.imp (fun _ _ z => z.kp (Kp.ex e1)) hT)
    refine q_asgN (en_mapD (S := fun Dl x y H' => ∃ t0 l0 nm xs t l', x = .ref t0 ∧ H t0 = some (.tup [nm, .ref l0]) ∧ H l0 = some (.lst xs) ∧ y = .ref t ∧ t ≠ Dl ∧ l' ≠ Dl ∧ H' t = some (.tup [nm, .ref l']) ∧ H' l' = some (.lst xs)) (fun Dl x y H H' k h => ?_) (ei_list (ev_var (i := 1) rfl) (ex_l e1 hl)) (by omega) fun v hvm => ?_) fun lv H2 e2 hS2 => ?_
    · obtain ⟨t0, l0, nm, xs, t, l', h1, h2, h3, h4, n1, n2, h5, h6⟩ := h
      exact ⟨t0, l0, nm, xs, t, l', h1, h2, h3, h4, n1, n2, k _ _ n1 h5, k _ _ n2 h6⟩
    · obtain ⟨i, hi⟩ := List.getElem?_of_mem hvm
      obtain ⟨p, hp, t, lr, xs, rfl, ht, hlr, hr⟩ := paired_get hP hi
      refine tgND_pair (a := .str p.1) (b := .ref lr) (st_of (e1 _ _ ht)) rfl fun H3 Dl acc e3 hDl => ?_
      intro H4 e4 Q4 q4
      have hDl4 := e4 _ _ hDl
      refine ⟨_, rfl, ?_⟩
      refine el_listL (K := K) (ev_var (i := 6) rfl) (sq_of ((e1.trans (e3.trans e4)) _ _ hlr)) H4 (Ex.refl H4) _ fun nl H5 hnl e5 h5 => ⟨by show 2 ≤ sizeLine; decide, fun tw htw => ?_⟩
      have e6 := e5.trans (Ex.new (o := .tup [.str p.1, .ref nl]) htw)
      refine q4 _ _ e6 ⟨t, lr, .str p.1, xs, tw, nl, rfl, ht, hlr, rfl, fun z => ?_, fun z => ?_, upd_same, Ex.new htw _ _ h5⟩
      · rw [z, e5 _ _ hDl4] at htw
        cases htw
      · rw [z, hDl4] at hnl
        cases hnl
    obtain ⟨ll, lvs, rfl, _, hll, hlp⟩ := hS2
    have e12 := e1.trans e2
    have hP2 : PtsV H2 lvs ps := paired_join (fun x y p s f => by
      obtain ⟨t0, l0, nm, xs, t, l', rfl, h2, h3, rfl, _, _, h5, h6⟩ := s
      obtain ⟨t1, l1, xs1, k1, k2, k3, k4⟩ := f
      obtain rfl : t0 = t1 := by injection k1
      rw [h2] at k2
      simp only [Option.some.injEq, HO.tup.injEq, List.cons.injEq, V.ref.injEq, and_true] at k2
      rw [k2.2] at h3
      rw [h3] at k3
      simp only [Option.some.injEq, HO.lst.injEq] at k3
      subst k3
      exact ⟨t, l', xs, rfl, by rw [h5, k2.1], h6, Paired.imp (fun _ _ z => z.kp (Kp.ex e12)) k4⟩) hlp hP
    have hll2 : lvs.length = ps.length := Paired.length hP2
    have q2 : RetProg K ps (partsR ths 0 [] ps) H2 Q E := by
      unfold RetProg at q ⊢
      cases hR : partsR ths 0 [] ps with
      | none =>
        rw [hR] at q
        exact fun x H' dx fs rt vals e => q x H' dx fs rt vals (e12.trans e)
      | some er =>
        rw [hR] at q
        obtain ⟨c, f, v⟩ := er
        exact Er.ex e12 q
    have qx : ∀ {H3 : Hp}, Ex H2 H3 → RetProg K ps (partsR ths 0 [] ps) H3 Q E := fun {H3} e3 => by
      unfold RetProg at q2 ⊢
      cases hR : partsR ths 0 [] ps with
      | none =>
        rw [hR] at q2
        exact fun x H' dx fs rt vals e => q2 x H' dx fs rt vals (e3.trans e)
      | some er =>
        rw [hR] at q2
        obtain ⟨c, f, v⟩ := er
        exact Er.ex e3 q2
    have hPx : ∀ {H3 : Hp}, Ex H2 H3 → PtsV H3 lvs ps := fun {H3} e3 => Paired.imp (fun v p hp => by
      obtain ⟨t, l, xs, rfl, ht, hl, hr⟩ := hp
      exact ⟨t, l, xs, rfl, e3 _ _ ht, e3 _ _ hl, Paired.imp (fun _ _ z => z.kp (Kp.ex e3)) hr⟩) hP2
    have hsome := hpo.some_
    refine (et_test (ev_eqI (ev_lenL (K := K) (ev_var (i := 3) rfl) (sq_of hll)) ev_c) : EvT _ [some (.ref a), some (.ref l), some (.ref g), some (.ref ll), none, none, none] H2 _) H2 (Ex.refl H2) _ fun H3 e3 => ?_
    have hg3 := ex_l (e2.trans e3) (sq_of (K := K) hg)
    have hv3 := hv.kp (Kp.ex (e2.trans e3))
    have hll3 := e3 _ _ hll
    by_cases h1 : lvs.length = 1
    · rw [show decide ((lvs.length : Int) = 1) = true by simp [h1]]
      refine iteT ?_
      obtain ⟨v1, rfl⟩ : ∃ v1, lvs = [v1] := List.length_eq_one_iff.mp h1
      refine ⟨_, rfl, _, rfl, ll, _, 0, v1, rfl, rfl, sq_of hll3, atI_nat (j := 0) rfl, ?_⟩
      exact mk_prog hg3 hv3 hok (hPx e3) hpo (qx e3)
    · rw [show decide ((lvs.length : Int) = 1) = false by simp; omega]
      refine iteF ?_
      obtain ⟨v1, v2, rfl⟩ : ∃ v1 v2, lvs = [v1, v2] := by
        match lvs, hll2, h1 with
        | [], h, _ => exact absurd (List.length_eq_zero_iff.mp h.symm) hsome
        | [_], _, h => exact absurd rfl h
        | [v1, v2], _, _ => exact ⟨v1, v2, rfl⟩
        | _ :: _ :: _ :: _, h, _ =>
          simp at h
          omega
      refine ⟨_, rfl, _, rfl, ll, _, 0, v1, rfl, rfl, sq_of hll3, atI_nat (j := 0) rfl, _, rfl, ll, _, 1, v2, rfl, rfl, sq_of hll3, atI_nat (j := 1) rfl, ?_⟩
      exact mk_prog hg3 hv3 hok (hPx e3) hpo (qx e3)
end
end Q7
/-! _law_try -/
namespace Q7
open PySem PySem.Spec PyProof.Rows L2 Evl
theorem takes_len {X : Cx} {W : WX} (n : Nat) (hn : X.N.length = n) (t : Takes X W) : Takes X (fun cls d σ H => σ.length = n → W cls d σ H) := fun u s' ⟨a, B, sI, pins, σ, H, cls, d, e, I, nb, up, sky, na, os, ag, w⟩ =>
  t u s' ⟨a, B, sI, pins, σ, H, cls, d, e, I, nb, up, sky, na, os, ag, w (by rw [I.len, hn])⟩
def sevenE : List (Str × Str) := [("BadRow", "number"), ("NoThing", "name"), ("NoKey", "key"), ("Twice", "name"), ("NoPart", "name"), ("Unmatched", "number"), ("TooMany", "limit")]
def OkO (o : Out) : Prop := ∀ c f v, o = some (c, f, v) → (c, f) ∈ sevenE
theorem ok_none : OkO none := fun _ _ _ h => by cases h
theorem ok_some {c f : Str} {v : V} (h : (c, f) ∈ sevenE) : OkO (some (c, f, v)) := fun c' f' v' e => by
  simp only [Option.some.injEq, Prod.mk.injEq] at e
  rw [← e.1, ← e.2.1]
  exact h
theorem ok_find {α : Type} {g : α → Out} (h : ∀ x, OkO (g x)) (l : List α) : OkO (l.findSome? g) := fun c f v e => by
  obtain ⟨x, _, hx⟩ := List.exists_of_findSome?_eq_some e
  exact h x c f v hx
theorem ok_step1 (ths : List TH) (p : Str × Str) : OkO (step1 ths p) := by
  unfold step1
  split
  · exact ok_none
  · split
    · exact ok_some (by decide)
    · split
      · exact ok_none
      · exact ok_some (by decide)
theorem ok_step2 (ths : List TH) (w : Str) (p : Str × Str) : OkO (step2 ths w p) := by
  unfold step2
  split
  · split
    · exact ok_none
    · split
      · exact ok_none
      · exact ok_some (by decide)
  · exact ok_none
theorem ok_known (ths : List TH) (ws cs : List Str) : OkO (knownR ths ws cs) := by
  unfold knownR
  split
  · rename_i e he
    rw [← he]
    exact ok_find (ok_step1 ths) _
  · exact ok_find (ok_step2 ths _) _
theorem ok_tail (later met : List Str) (r : R) : OkO (tailR later met r) := by
  unfold tailR
  split
  · split
    · exact ok_some (by decide)
    · exact ok_none
  · split
    · exact ok_some (by decide)
    · exact ok_none
  · split
    · split
      · exact ok_none
      · exact ok_some (by decide)
    · exact ok_none
  · exact ok_none
theorem ok_row (ths : List TH) (n : Int) (later met : List Str) (r : R) : OkO (rowR ths n later met r) := by
  unfold rowR
  split
  · split
    · rename_i e he
      rw [← he]
      exact ok_find (fun (q : List Str × List Str) => ok_known ths q.1 q.2) _
    · exact ok_tail _ _ _
  · exact ok_some (by decide)
theorem ok_open (bl : List Blk) (n : Int) (w : Str) : OkO (openE bl n w) := by
  unfold openE
  split
  · split
    · exact ok_some (by decide)
    · exact ok_none
  · split
    · split
      · split
        · exact ok_none
        · exact ok_some (by decide)
      · exact ok_some (by decide)
    · split
      · split
        · exact ok_some (by decide)
        · exact ok_none
      · exact ok_none
theorem ok_rows (ths : List TH) (later : List Str) : ∀ (rs : List R) (n : Int) (met : List Str) (bl : List Blk) (e : Str × Str × V), rowsR ths later n met bl rs = .error e → (e.1, e.2.1) ∈ sevenE
  | [], _, _, _, _, h => by cases h
  | r :: rs, n, met, bl, e, h => by
    rw [rows_ok_step] at h
    unfold stepR at h
    cases h1 : rowR ths n later met r with
    | some x =>
      rw [h1] at h
      obtain rfl : x = e := by injection h
      obtain ⟨c, f, v⟩ := x
      exact ok_row _ _ _ _ _ c f v h1
    | none =>
      rw [h1] at h
      cases h2 : openE bl n (headR r) with
      | some x =>
        have h' : (match openE bl n (headR r) with
          | some e => Except.error e
          | none => rowsR ths later (n + 1) (met ++ probeN r) (openN bl n (headR r)) rs) = .error e := h
        rw [h2] at h'
        obtain rfl : x = e := by injection h'
        obtain ⟨c, f, v⟩ := x
        exact ok_open _ _ _ c f v h2
      | none =>
        have h' : (match openE bl n (headR r) with
          | some e => Except.error e
          | none => rowsR ths later (n + 1) (met ++ probeN r) (openN bl n (headR r)) rs) = .error e := h
        rw [h2] at h'
        exact ok_rows ths later rs _ _ _ e h'
theorem ok_parts (ths : List TH) : ∀ (ps : List Part) (n : Int) (met : List Str), OkO (partsR ths n met ps)
  | [], _, _ => ok_none
  | p :: ps, n, met => by
    show OkO (match rowsR ths (ps.map Prod.fst) n met [] p.2 with
      | .error e => some e
      | .ok (met', bl) => match bl.getLast? with
        | some b => eUnmatched b.1
        | none => partsR ths (n + (p.2.length : Nat)) met' ps)
    cases h : rowsR ths (ps.map Prod.fst) n met [] p.2 with
    | error e =>
      obtain ⟨c, f, v⟩ := e
      exact ok_some (ok_rows _ _ _ _ _ _ _ h)
    | ok out =>
      obtain ⟨met', bl⟩ := out
      dsimp only
      cases bl.getLast? with
      | some b => exact ok_some (by decide)
      | none => exact ok_parts ths ps _ _
section
variable {P : Program} {w : World} {K : PySem.W.Frag} {mg : Str → Option Value} {base : Heap}
def spTry (K : PySem.W.Frag) : Sp := fun vs H Q _ => ∃ (a l : Addr) (tvs pvs : List V) (ths : List TH) (ps : List Part), vs = [.ref a, .ref l] ∧ SqL K H a tvs ∧ TupsV H tvs ths ∧ ThsOk ths ∧ SqL K H l pvs ∧ PtsV H pvs ps ∧ PartsOk ps ∧ ps.length ≤ 2 ∧ ∀ y H', Ex H H' → DueV H' y ps (partsR ths 0 [] ps) → Q y H'
theorem sc__law_try : FnScope ["_law_things_here", "_law_parts", "e"] ["_law_things_here", "_law_parts"] (defScope s_law_try) := ⟨rfl, rfl, rfl, by decide +kernel, rfl, by decide +kernel, by decide +kernel⟩
/-- the suite of except C as e: return (C, e.f) -/
def tHand (K : PySem.W.Frag) (c f : Str) : Addr → Value → Option Addr → TS := fun a cls d => tRet (tTup (tCons (tC (.str c)) (tCons (tByQ (He.ga K c) f a cls d (tVar 2)) tNil)))
theorem hand_ok {K : PySem.W.Frag} {c f : Str} {a dd : Addr} {v : V} {σ : L2.St} {H H0 : Hp} {D : Ends} (hs : σ.length = 3) (hd : H dd = some (.xd [(f, v)])) (k : ∀ p H', Ex H H' → H' p = some (.tup [.str c, v]) → D.rt (.ref p) H') :
    tHand K c f a (.ref (He.ga K c)) (some dd) { nx := fun σ' H' => D.nx (σ'.set 2 none) H', rt := D.rt, bk := fun σ' H' => D.bk (σ'.set 2 none) H', ct := fun σ' H' => D.ct (σ'.set 2 none) H' } (σ.set 2 (some (.ref a))) H := by
  refine ⟨.ref a, ?_, rfl, rfl, dd, v, rfl, hd, by show 2 ≤ sizeLine; decide, fun p hp => k p _ (Ex.new hp) upd_same⟩
  rw [List.getElem?_set_self]
  omega
theorem D__law_try (T : Txt w K mg) (HP : PF P) (D__law_wide_program : Dn P w K mg base (L2.CX P w) 12 "_law_wide_program" (spWide K)) : Dn P w K mg base CX0 13 "_law_try" (spTry K) := by
  refine mkD0 T.fds_law_try T.g__law_try T.kps_law_try sc__law_try (fun _ _ _ _ _ _ us hl => match us, hl with | [_, _], _ => rfl) (fun vs H Q E h => ?_) (fun cdv A outer s H vs Q E hr h => ?_)
  · obtain ⟨a, l, tvs, pvs, ths, ps, rfl, _⟩ := h
    rfl
  · obtain ⟨a, l, tvs, pvs, ths, ps, rfl, ha, hT, hok, hl, hP, hpo, h2, q⟩ := h
    refine ⟨_, pss_one (ps_try_mix (i := 2) (l := [(.ref (He.ga K "BadRow"), true, tHand K "BadRow" "number"), (.ref (He.ga K "NoThing"), true, tHand K "NoThing" "name"), (.ref (He.ga K "NoKey"), true, tHand K "NoKey" "key"), (.ref (He.ga K "Twice"), true, tHand K "Twice" "name"), (.ref (He.ga K "NoPart"), true, tHand K "NoPart" "name"), (.ref (He.ga K "Unmatched"), true, tHand K "Unmatched" "number"), (.ref (He.ga K "TooMany"), true, tHand K "TooMany" "limit"), (.ref (He.ga K "QuietError"), false, fun _ _ _ => tRet (tC .non))])
      (tb := fun W => tRet (tTup (tCons (tC (.str "rows")) (tCons (tFld K (tCallR (spWide K) (fun cls d H => ∀ σ, σ.length = 3 → W cls d σ H) (tCons (tVar 0) (tCons (tVar 1) tNil))) "rows") tNil))))
      rfl rfl sc__law_try.nd takes_none5
      (fun W pn xe tk hp => pss_one (ps_ret (pe_tup (pa_cons pe_str (pa_cons (pe_fld (pe_dx D__law_wide_program (hr.mono (by decide)) (by rfl) (takes_len 3 rfl tk) (fun cls d σ H h => h σ) (pa_cons (pv 0) (pa_cons (pv 1) pa_nil))) rfl) pa_nil)))))
      (.named rfl rfl ⟨by rfl, by decide, Or.inl T.g_BadRow⟩ (fun a oe cls d pn hz hf => pss_one (ps_ret (pe_tup (pa_cons pe_str (pa_cons (pe_byQ T.BadRow hz hf (pv 2)) pa_nil)))))
      (.named rfl rfl ⟨by rfl, by decide, Or.inl T.g_NoThing⟩ (fun a oe cls d pn hz hf => pss_one (ps_ret (pe_tup (pa_cons pe_str (pa_cons (pe_byQ T.NoThing hz hf (pv 2)) pa_nil)))))
      (.named rfl rfl ⟨by rfl, by decide, Or.inl T.g_NoKey⟩ (fun a oe cls d pn hz hf => pss_one (ps_ret (pe_tup (pa_cons pe_str (pa_cons (pe_byQ T.NoKey hz hf (pv 2)) pa_nil)))))
      (.named rfl rfl ⟨by rfl, by decide, Or.inl T.g_Twice⟩ (fun a oe cls d pn hz hf => pss_one (ps_ret (pe_tup (pa_cons pe_str (pa_cons (pe_byQ T.Twice hz hf (pv 2)) pa_nil)))))
      (.named rfl rfl ⟨by rfl, by decide, Or.inl T.g_NoPart⟩ (fun a oe cls d pn hz hf => pss_one (ps_ret (pe_tup (pa_cons pe_str (pa_cons (pe_byQ T.NoPart hz hf (pv 2)) pa_nil)))))
      (.named rfl rfl ⟨by rfl, by decide, Or.inl T.g_Unmatched⟩ (fun a oe cls d pn hz hf => pss_one (ps_ret (pe_tup (pa_cons pe_str (pa_cons (pe_byQ T.Unmatched hz hf (pv 2)) pa_nil)))))
      (.named rfl rfl ⟨by rfl, by decide, Or.inl T.g_TooMany⟩ (fun a oe cls d pn hz hf => pss_one (ps_ret (pe_tup (pa_cons pe_str (pa_cons (pe_byQ T.TooMany hz hf (pv 2)) pa_nil)))))
      (.plain ⟨by rfl, by decide, Or.inl T.g_QuietError⟩ (fun a oe cls d pn hz hf => pss_one (ps_ret pe_non)) .nil))))))))), ?_⟩
    refine ⟨_, rfl, _, rfl, a, l, tvs, pvs, ths, ps, rfl, ha, hT, hok, hl, hP, hpo, h2, ?_⟩
    unfold RetProg
    cases hR : partsR ths 0 [] ps with
    | none =>
      rw [hR] at q
      intro x H' dx fs rt vals e h1 h2 h3 h4
      refine ⟨x, _, dx, fs, .ref rt, rfl, h1, T.cls_Program, T.na_Program_rows, h2, by show 2 ≤ sizeLine; decide, fun p hp => q _ _ (e.trans (Ex.new hp)) ⟨p, rt, vals, rfl, upd_same, Ex.new hp _ _ h3, Paired.imp (fun _ _ z => z.kp (Kp.ex (Ex.new hp))) h4⟩⟩
    | some er =>
      obtain ⟨c, f, v⟩ := er
      have hc := ok_parts ths ps 0 [] c f v hR
      rw [hR] at q
      show Er K c f v H _
      intro d H' hd e hdv σ hσ
      have fin : ∀ p H'', Ex H' H'' → H'' p = some (.tup [.str c, v]) → Q (.ref p) H'' := fun p H'' e2 hp => q _ _ (e.trans e2) ⟨p, rfl, hp⟩
      have go : ∀ {a : Addr}, H' a = none → _ := fun {a} _ => hand_ok (K := K) (c := c) (f := f) (a := a) (D := { nx := fun _ H' => Q .non H', rt := Q }) (H0 := H) hσ hdv fin
      simp only [sevenE, List.mem_cons, Prod.mk.injEq, List.not_mem_nil, or_false] at hc
      have nt : ∀ {A : Prop}, (false = true → A) := fun h => by cases h
      have nf : ∀ {A : Prop}, (true = false → A) := fun h => by cases h
      rcases hc with ⟨rfl, rfl⟩ | ⟨rfl, rfl⟩ | ⟨rfl, rfl⟩ | ⟨rfl, rfl⟩ | ⟨rfl, rfl⟩ | ⟨rfl, rfl⟩ | ⟨rfl, rfl⟩
      · exact ⟨true, T.ex_BadRow_BadRow, fun _ a ha => go ha, nf⟩
      · exact ⟨false, T.ex_NoThing_BadRow, nt, fun _ => ⟨true, T.ex_NoThing_NoThing, fun _ a ha => go ha, nf⟩⟩
      · exact ⟨false, T.ex_NoKey_BadRow, nt, fun _ => ⟨false, T.ex_NoKey_NoThing, nt, fun _ => ⟨true, T.ex_NoKey_NoKey, fun _ a ha => go ha, nf⟩⟩⟩
      · exact ⟨false, T.ex_Twice_BadRow, nt, fun _ => ⟨false, T.ex_Twice_NoThing, nt, fun _ => ⟨false, T.ex_Twice_NoKey, nt, fun _ => ⟨true, T.ex_Twice_Twice, fun _ a ha => go ha, nf⟩⟩⟩⟩
      · exact ⟨false, T.ex_NoPart_BadRow, nt, fun _ => ⟨false, T.ex_NoPart_NoThing, nt, fun _ => ⟨false, T.ex_NoPart_NoKey, nt, fun _ => ⟨false, T.ex_NoPart_Twice, nt, fun _ => ⟨true, T.ex_NoPart_NoPart, fun _ a ha => go ha, nf⟩⟩⟩⟩⟩
      · exact ⟨false, T.ex_Unmatched_BadRow, nt, fun _ => ⟨false, T.ex_Unmatched_NoThing, nt, fun _ => ⟨false, T.ex_Unmatched_NoKey, nt, fun _ => ⟨false, T.ex_Unmatched_Twice, nt, fun _ => ⟨false, T.ex_Unmatched_NoPart, nt, fun _ => ⟨true, T.ex_Unmatched_Unmatched, fun _ a ha => go ha, nf⟩⟩⟩⟩⟩⟩
      · exact ⟨false, T.ex_TooMany_BadRow, nt, fun _ => ⟨false, T.ex_TooMany_NoThing, nt, fun _ => ⟨false, T.ex_TooMany_NoKey, nt, fun _ => ⟨false, T.ex_TooMany_Twice, nt, fun _ => ⟨false, T.ex_TooMany_NoPart, nt, fun _ => ⟨false, T.ex_TooMany_Unmatched, nt, fun _ => ⟨true, T.ex_TooMany_TooMany, fun _ a ha => go ha, nf⟩⟩⟩⟩⟩⟩⟩
end
end Q7
/-! the pool, and evaluations that draw -/
namespace Q7
open PySem PySem.Spec PyProof.Rows L2 Evl
/-- the pool at p, its script at q; n: the draws so far at most -/
def Pool (H : Hp) (p q : Addr) (n : Nat) : Prop := p ≠ q ∧ ∃ (cells : List Int) (code cnt seed : Int), H p = some (.lst [.ref q, .int code, .int cnt, .int seed]) ∧ H q = some (.lst (cells.map V.int)) ∧ 0 ≤ code ∧ 0 ≤ cnt ∧ cnt ≤ n ∧ 0 ≤ seed
/-- all but the pool and its script stays -/
def Fr (p q : Addr) (H H' : Hp) : Prop := ∀ c o, c ≠ p → c ≠ q → H c = some o → H' c = some o
/-- what is there beside the pool -/
def bs (p q : Addr) (H : Hp) : Hp := fun c => if c = p ∨ c = q then none else H c
section
variable {p q : Addr} {H H' H1 H2 : Hp} {n m : Nat}
theorem Fr.refl : Fr p q H H := fun _ _ _ _ h => h
theorem Fr.trans (a : Fr p q H H1) (b : Fr p q H1 H2) : Fr p q H H2 := fun c o h1 h2 h => b c o h1 h2 (a c o h1 h2 h)
theorem Fr.ex (e : Ex H H') : Fr p q H H' := fun c o _ _ h => e c o h
theorem bs_p : bs p q H p = none := if_pos (Or.inl rfl)
theorem bs_q : bs p q H q = none := if_pos (Or.inr rfl)
theorem bs_ne {c : Addr} (h1 : c ≠ p) (h2 : c ≠ q) : bs p q H c = H c := if_neg (not_or.mpr ⟨h1, h2⟩)
theorem bs_some {c : Addr} {o : HO} (h : bs p q H c = some o) : c ≠ p ∧ c ≠ q ∧ H c = some o := by
  unfold bs at h
  by_cases hc : c = p ∨ c = q
  · rw [if_pos hc] at h
    cases h
  · rw [if_neg hc] at h
    exact ⟨(not_or.mp hc).1, (not_or.mp hc).2, h⟩
theorem bs_ex : Ex (bs p q H) H := fun c o h => (bs_some h).2.2
theorem Fr.bs (f : Fr p q H H') : Ex (bs p q H) H' := fun c o h => by
  obtain ⟨h1, h2, h3⟩ := bs_some h
  exact f c o h1 h2 h3
theorem Pool.ex (e : Ex H H') (h : Pool H p q n) : Pool H' p q n := by
  obtain ⟨h1, cells, code, cnt, seed, h2, h3, h4⟩ := h
  exact ⟨h1, cells, code, cnt, seed, e _ _ h2, e _ _ h3, h4⟩
theorem Pool.le (h : Pool H p q n) (l : n ≤ m) : Pool H p q m := by
  obtain ⟨h1, cells, code, cnt, seed, h2, h3, h4, h5, h6, h7⟩ := h
  exact ⟨h1, cells, code, cnt, seed, h2, h3, h4, h5, by omega, h7⟩
/-- a write beside the pool -/
theorem Pool.put {a : Addr} {u : HO} (h : Pool H p q n) (h1 : a ≠ p) (h2 : a ≠ q) : Pool (upd H a u) p q n := by
  obtain ⟨h0, cells, code, cnt, seed, g1, g2, g3⟩ := h
  exact ⟨h0, cells, code, cnt, seed, by rw [upd_ne (Ne.symm h1)]; exact g1, by rw [upd_ne (Ne.symm h2)]; exact g2, g3⟩
theorem Pool.kp {m : Nat} (f : Fr p q H H') (h : Pool H p q n) (h' : Pool H' p q m) : Kp H H' := by
  obtain ⟨h0, cells, code, cnt, seed, g1, g2, g3⟩ := h
  obtain ⟨_, cells', code', cnt', seed', k1, k2, k3⟩ := h'
  refine ⟨fun b o hb ho => ?_, fun b xs hb => ?_⟩
  · refine f b o (fun z => ?_) (fun z => ?_) hb
    · rw [z, g1] at hb
      exact ho _ (Option.some.inj hb).symm
    · rw [z, g2] at hb
      exact ho _ (Option.some.inj hb).symm
  · by_cases e1 : b = p
    · rw [e1]
      exact ⟨_, k1⟩
    · by_cases e2 : b = q
      · rw [e2]
        exact ⟨_, k2⟩
      · exact ⟨xs, f b _ e1 e2 hb⟩
/-- what is new is not the pool -/
theorem Pool.ne {a : Addr} (h : Pool H p q n) (ha : H a = none) : a ≠ p ∧ a ≠ q := by
  obtain ⟨_, cells, code, cnt, seed, g1, g2, _⟩ := h
  refine ⟨fun z => ?_, fun z => ?_⟩
  · rw [z, g1] at ha
    cases ha
  · rw [z, g2] at ha
    cases ha
theorem Pool.tup {a : Addr} {xs : List V} (h : Pool H p q n) (ha : H a = some (.tup xs)) : a ≠ p ∧ a ≠ q := by
  obtain ⟨_, cells, code, cnt, seed, g1, g2, _⟩ := h
  refine ⟨fun z => ?_, fun z => ?_⟩
  · rw [z, g1] at ha
    cases ha
  · rw [z, g2] at ha
    cases ha
end
end Q7
/-! _law_draw -/
namespace Q7
open PySem PySem.Spec PyProof.Rows L2 Evl
section
variable {P : Program} {w : World} {K : PySem.W.Frag} {mg : Str → Option Value} {base : Heap}
def spDraw : Sp := fun vs H Q _ => ∃ (p q : Addr) (n : Nat) (m : Int), vs = [.ref p, .int m] ∧ Pool H p q n ∧ n + 1 ≤ 1000000000000 ∧ 0 < m ∧ m ≤ 1000 ∧ ∀ (d : Int) H', 0 ≤ d → d < m → Fr p q H H' → Pool H' p q (n + 1) → Q (.int d) H'
theorem sc__law_draw : FnScope ["_law_pool_here", "_law_many", "_law_cell", "_law_code", "_law_digit", "_law_far", "_law_mixed"] ["_law_pool_here", "_law_many"] (defScope s_law_draw) := ⟨rfl, rfl, rfl, by decide +kernel, rfl, by decide +kernel, by decide +kernel⟩
theorem D__law_draw (T : Txt w K mg) : Dn P w K mg base CX0 1 "_law_draw" spDraw := by
  refine mkD0 T.fds_law_draw T.g__law_draw T.kps_law_draw sc__law_draw (fun _ _ _ _ _ _ us hl => match us, hl with | [_, _], _ => rfl) (fun vs H Q E h => ?_) (fun cdv A outer s H vs Q E hr h => ?_)
  · obtain ⟨p, q, n, m, rfl, _⟩ := h
    rfl
  · obtain ⟨p, q, n, m, rfl, ⟨hpq, cells, code, cnt, seed, hp, hq, hc, hk, hkn, hs⟩, hn, hm, hm2, k0⟩ := h
    refine ⟨_, (pss_cons (ps_augS (pv 0) pe_int pget_list pe_int ip_add set_list)
    (pss_cons (ps_if (PW.pt (pw_and (pt_cmpR op_eq (pe_ix ix_list (pv 0) pe_int (fun _ _ => rfl)) pe_int (nomark _)) (pw_and1 (pt_truth (pe_ix ix_list (pv 0) pe_int (fun _ _ => rfl)) (fun _ => rfl))))) (pss_cons (ps_set (i := 2) sc__law_draw.nd rfl (Or.inl rfl) (pe_callTy call_int1 (by rfl) T.n_int bo_int (pa_cons (pe_bm PySem.F.plainAttrs_list PySem.F.slot_list_pop PySem.F.type_list_pop mt_popAt (pe_ix ix_list (pv 0) pe_int (fun _ _ => rfl)) (pa_cons pe_int pa_nil)) pa_nil)))
    (pss_cons (ps_set (i := 3) sc__law_draw.nd rfl (Or.inl rfl) (pe_ifExp (pt_cmpR op_ge (pv 2) pe_int (nomark _)) (pe_op op_mul pe_int (pv 2)) (pe_op op_sub (pe_un un_neg pe_int) (pe_op op_mul pe_int (pv 2)))))
    (pss_one (ps_if (pt_cmpR op_ge (pv 3) (pe_op op_pow pe_int pe_int) (nomark _)) (pss_one (ps_asg (pv 3) (pg_sub (pv 0) pe_int set_list (fun _ => rfl)))) (pss_one (ps_asg (pe_op op_mod (pe_callTy call_int1 (by rfl) T.n_int bo_int (pa_cons (pe_op op_add (pe_op op_add (pe_op op_mul (pe_ix ix_list (pv 0) pe_int (fun _ _ => rfl)) pe_int) (pe_op op_mul (pv 3) pe_int)) pe_int) pa_nil)) pe_int) (pg_sub (pv 0) pe_int set_list (fun _ => rfl)))))))) pss_nil)
    (pss_cons (ps_if (pt_cmpR op_gt (pe_ix ix_list (pv 0) pe_int (fun _ _ => rfl)) pe_int (nomark _)) (pss_cons (ps_set (i := 4) sc__law_draw.nd rfl (Or.inl rfl) (pe_op op_mod (pe_callTy call_int1 (by rfl) T.n_int bo_int (pa_cons (pe_ix ix_list (pv 0) pe_int (fun _ _ => rfl)) pa_nil)) (pv 1)))
    (pss_cons (ps_asg (pe_op op_fdiv (pe_ix ix_list (pv 0) pe_int (fun _ _ => rfl)) (pv 1)) (pg_sub (pv 0) pe_int set_list (fun _ => rfl)))
    (pss_one (ps_ret (pv 4))))) pss_nil)
    (pss_cons (ps_if (pt_cmpR op_eq (pe_ix ix_list (pv 0) pe_int (fun _ _ => rfl)) pe_int (nomark _)) (pss_one (ps_ret pe_int)) pss_nil)
    (pss_cons (ps_set (i := 5) sc__law_draw.nd rfl (Or.inl rfl) (pe_op op_add (pe_op op_mul (pe_ix ix_list (pv 0) pe_int (fun _ _ => rfl)) pe_int) (pe_op op_mul (pe_op op_mul (pe_ix ix_list (pv 0) pe_int (fun _ _ => rfl)) (pe_ix ix_list (pv 0) pe_int (fun _ _ => rfl))) pe_int)))
    (pss_cons (ps_set (i := 6) sc__law_draw.nd rfl (Or.inl rfl) (pe_op op_mod (pe_callTy call_int1 (by rfl) T.n_int bo_int (pa_cons (pe_op op_add (pe_op op_mul (pe_ix ix_list (pv 0) pe_int (fun _ _ => rfl)) pe_int) (pv 5)) pa_nil)) pe_int))
    (pss_one (ps_ret (pe_op op_mod (pe_op op_mod (pe_callTy call_int1 (by rfl) T.n_int bo_int (pa_cons (pe_op op_fdiv (pe_op op_mul (pv 6) pe_int) pe_int) pa_nil)) pe_int) (pv 1)))))))))), ?_⟩
    -- one more draw
    refine ⟨_, rfl, p, _, 2, _, rfl, rfl, hp, by decide, rfl, cnt, 1, rfl, rfl, p, _, 2, 2, rfl, rfl, hp, rfl, ?_⟩
    show tSeq _ _ _ _ (upd H p (.lst [.ref q, .int code, .int (cnt + 1), .int seed]))
    have f1 : Fr p q H (upd H p (.lst [.ref q, .int code, .int (cnt + 1), .int seed])) := fun c o h1 h2 h => by
      rw [upd_ne h1]
      exact h
    have hp1 : (upd H p (.lst [.ref q, .int code, .int (cnt + 1), .int seed])) p = some (.lst [.ref q, .int code, .int (cnt + 1), .int seed]) := upd_same
    have hq1 : (upd H p (.lst [.ref q, .int code, .int (cnt + 1), .int seed])) q = some (.lst (cells.map V.int)) := by
      rw [upd_ne (Ne.symm hpq)]
      exact hq
    generalize upd H p (.lst [.ref q, .int code, .int (cnt + 1), .int seed]) = H1 at f1 hp1 hq1 ⊢
    refine q_ifJ (tw := tNext) (b := decide (code = 0) && !(cells.map V.int).isEmpty) (fun σ' H' => ∃ (cells' : List Int) (code' seed' : Int) (y2 y3 : Option V), σ' = [some (.ref p), some (.int m), y2, y3, none, none, none] ∧ Fr p q H H' ∧ H' p = some (.lst [.ref q, .int code', .int (cnt + 1), .int seed']) ∧ H' q = some (.lst (cells'.map V.int)) ∧ 0 ≤ code' ∧ 0 ≤ seed') (et_and (et_test (ev_eqI (ev_ixL (ev_var (i := 0) rfl) (sq_of hp1) ev_c (atI_nat (j := 1) rfl)) ev_c)) fun _ => et_tru (ev_ixL (ev_var (i := 0) rfl) (sq_of hp1) ev_c (atI_nat (j := 0) rfl)) (truL (sq_of hq1))) (fun σ' H2 hJ => ?_) (fun hb k H2 e2 => ?_) fun hb k H2 e2 => k _ _ ⟨cells, code, seed, none, none, rfl, f1.trans (Fr.ex e2), e2 _ _ hp1, e2 _ _ hq1, hc, hs⟩
    · obtain ⟨cells', code', seed', y2, y3, rfl, f2, hp2, hq2, hc2, hs2⟩ := hJ
      have pool : ∀ {H3 : Hp} {code3 : Int}, H3 p = some (.lst [.ref q, .int code3, .int (cnt + 1), .int seed']) → H3 q = some (.lst (cells'.map V.int)) → 0 ≤ code3 → Pool H3 p q (n + 1) := fun h1 h2 h3 => ⟨hpq, cells', _, cnt + 1, seed', h1, h2, h3, by omega, by omega, hs2⟩
      refine q_when (et_test (ev_op (ev_ixL (ev_var (i := 0) rfl) (sq_of hp2) ev_c (atI_nat (j := 1) rfl)) ev_c rv_I0)) (fun hb H3 e3 => ?_) fun hb H3 e3 => ?_
      · have hp3 := e3 _ _ hp2
        refine q_asg (v := .int (code' % m)) (ev_op (fun H4 e4 Q4 q4 => ev_ixL (K := K) (ev_var (i := 0) rfl) (sq_of hp3) ev_c (atI_nat (j := 1) rfl) H4 e4 _ fun H5 e5 => Or.inl ⟨code', rfl, q4 H5 e5⟩) (ev_var (i := 1) rfl) (rv_I hm)) fun H4 e4 => ?_
        have hp4 := e4 _ _ hp3
        refine q_setL (j := 1) (v := .int (code' / m)) hp4 (ev_op (ev_ixL (ev_var (i := 0) rfl) (sq_of hp4) ev_c (atI_nat (j := 1) rfl)) (ev_var (i := 1) rfl) (rv_I ⟨hm, by omega⟩)) (ev_var (i := 0) rfl) ev_c (by simp) fun H5 e5 => ?_
        refine s_ret (ev_var (i := 4) rfl) fun H6 e6 => ?_
        refine k0 _ H6 (Int.emod_nonneg _ (by omega)) (Int.emod_lt_of_pos _ hm) (((f2.trans (Fr.ex (e3.trans (e4.trans e5)))).trans (fun c o h1 h2 h => by
          rw [upd_ne h1]
          exact h)).trans (Fr.ex e6)) ((pool (H3 := upd H5 p (.lst ([V.ref q, V.int code', V.int (cnt + 1), V.int seed'].set 1 (V.int (code' / m))))) (code3 := code' / m) upd_same (by
          rw [upd_ne (Ne.symm hpq)]
          exact (e3.trans (e4.trans e5)) _ _ hq2) (Int.ediv_nonneg hc2 (by omega))).ex e6)
      · have hp3 := e3 _ _ hp2
        have hq3 := e3 _ _ hq2
        refine q_when (et_test (ev_eqI (ev_ixL (ev_var (i := 0) rfl) (sq_of hp3) ev_c (atI_nat (j := 3) rfl)) ev_c)) (fun hb2 H4 e4 => ?_) fun hb2 H4 e4 => ?_
        · exact s_ret ev_c fun H5 e5 => k0 0 H5 (by decide) hm (f2.trans (Fr.ex ((e3.trans e4).trans e5))) ((pool hp2 hq2 hc2).ex ((e3.trans e4).trans e5))
        · have hp4 := e4 _ _ hp3
          have at2 : ∀ {σ' : L2.St} {H6 : Hp}, σ'[0]? = some (some (.ref p)) → Ex H4 H6 → Ev (tOp (rIxL K) (tVar 0) (tC (.int 2))) σ' H6 (.int (cnt + 1)) := fun h e => ev_ixL (ev_var h) (sq_of (e _ _ hp4)) ev_c (atI_nat (j := 2) rfl)
          refine q_asg (v := .int ((cnt + 1) * 40692 + (cnt + 1) * (cnt + 1) * 3)) (ev_op (ev_op (at2 rfl (Ex.refl _)) ev_c (rv_I (Or.inr (by decide)))) (ev_op (ev_op (at2 rfl (Ex.refl _)) (at2 rfl (Ex.refl _)) (rv_I (Or.inl (by omega)))) ev_c (rv_I (Or.inr (by decide)))) rv_I0) fun H5 e5 => ?_
          have hp5 := e5 _ _ hp4
          refine q_asg (v := .int ((seed' * 16807 + ((cnt + 1) * 40692 + (cnt + 1) * (cnt + 1) * 3)) % 2147483647)) (ev_op (fun H6 e6 Q6 q6 => ev_op (ev_op (ev_ixL (K := K) (ev_var (i := 0) rfl) (sq_of hp5) ev_c (atI_nat (j := 3) rfl)) ev_c (rv_I (Or.inr (by decide)))) (ev_var (i := 5) rfl) rv_I0 H6 e6 _ fun H7 e7 => Or.inl ⟨_, rfl, q6 H7 e7⟩) ev_c (rv_I (by decide))) fun H6 e6 => ?_
          refine s_ret (ev_op (ev_op (fun H7 e7 Q7 q7 => ev_op (ev_op (ev_var (i := 6) rfl) ev_c (rv_I (Or.inr (by decide)))) ev_c (rv_I ⟨by decide, by decide⟩) H7 e7 _ fun H8 e8 => Or.inl ⟨_, rfl, q7 H8 e8⟩) ev_c (rv_I (by decide))) (ev_var (i := 1) rfl) (rv_I hm)) fun H7 e7 => ?_
          have eall := (((e3.trans e4).trans e5).trans e6).trans e7
          exact k0 _ H7 (Int.emod_nonneg _ (by omega)) (Int.emod_lt_of_pos _ hm) (f2.trans (Fr.ex eall)) ((pool hp2 hq2 hc2).ex eall)
    · have hp2 := e2 _ _ hp1
      have hq2 := e2 _ _ hq1
      have f2 := f1.trans (Fr.ex e2)
      obtain ⟨c0, cr, rfl⟩ : ∃ c0 cr, cells = c0 :: cr := by
        cases cells with
        | nil => simp at hb
        | cons c0 cr => exact ⟨c0, cr, rfl⟩
      refine ⟨_, rfl, p, _, 0, .ref q, rfl, rfl, sq_of hp2, atI_nat (j := 0) rfl, Or.inl ⟨rfl, _, sq_of hq2⟩, q, _, 0, 0, .int c0, rfl, rfl, hq2, by decide, by decide, ?_, rfl, Or.inl ⟨c0, rfl, ?_⟩⟩
      · exact (ixN_seq (show ixN _ 0 = some 0 from ixN_nat (j := 0) (by simp))).1
      · have f3 : Fr p q H (upd H2 q (.lst (cr.map V.int))) := f2.trans fun c o h1 h2 h => by
          rw [upd_ne h2]
          exact h
        have hp3 : (upd H2 q (.lst (cr.map V.int))) p = some (.lst [.ref q, .int code, .int (cnt + 1), .int seed]) := by
          rw [upd_ne hpq]
          exact hp2
        have hq3 : (upd H2 q (.lst (cr.map V.int))) q = some (.lst (cr.map V.int)) := upd_same
        show tSeq _ _ _ _ (upd H2 q (.lst (cr.map V.int)))
        generalize upd H2 q (.lst (cr.map V.int)) = H3 at f3 hp3 hq3 ⊢
        obtain ⟨code2, hc2, hcv⟩ : ∃ code2 : Int, 0 ≤ code2 ∧ code2 = if 0 ≤ c0 then 2 * c0 else -1 - 2 * c0 := ⟨_, by split <;> omega, rfl⟩
        refine q_asg (v := .int code2) (ev_if (b := decide (0 ≤ c0)) (et_test (ev_op (ev_var (i := 2) (v := .int c0) rfl) ev_c rv_I0)) (fun h => ev_is (ev_op ev_c (ev_var (i := 2) (v := .int c0) rfl) (rv_I (Or.inl (by decide)))) (by rw [hcv, if_pos (of_decide_eq_true h)])) fun h => ev_is (ev_op (ev_un ev_c ru_neg) (ev_op ev_c (ev_var (i := 2) (v := .int c0) rfl) (rv_I (Or.inl (by decide)))) rv_I0) (by rw [hcv, if_neg (of_decide_eq_false h)])) fun H4 e4 => ?_
        have hp4 := e4 _ _ hp3
        have hq4 := e4 _ _ hq3
        have f4 := f3.trans (Fr.ex e4)
        refine s_if (b := decide ((10 : Int) ^ (18 : Int).toNat ≤ code2)) (et_test (ev_op (ev_var (i := 3) (v := .int code2) rfl) (ev_op ev_c ev_c (rv_I ⟨by decide, by decide, by decide⟩)) rv_I0)) (fun hb2 H5 e5 => ?_) fun hb2 H5 e5 => ?_
        · refine s_setL (j := 1) (v := .int code2) (e5 _ _ hp4) (ev_var (i := 3) rfl) (ev_var (i := 0) rfl) ev_c (by simp) fun H6 e6 => k _ _ ⟨cr, code2, seed, _, _, rfl, (f4.trans (Fr.ex (e5.trans e6))).trans (fun c o h1 h2 h => by
            rw [upd_ne h1]
            exact h), upd_same, by
            rw [upd_ne (Ne.symm hpq)]
            exact (e5.trans e6) _ _ hq4, hc2, hs⟩
        · have hp5 := e5 _ _ hp4
          refine s_setL (j := 3) (v := .int ((seed * 48271 + code2 * 69621 + 11) % 2147483629)) hp5 (ev_op (fun H6 e6 Q6 q6 => ev_op (ev_op (ev_op (ev_ixL (K := K) (ev_var (i := 0) rfl) (sq_of hp5) ev_c (atI_nat (j := 3) rfl)) ev_c (rv_I (Or.inr (by decide)))) (ev_op (ev_var (i := 3) (v := .int code2) rfl) ev_c (rv_I (Or.inr (by decide)))) rv_I0) ev_c rv_I0 H6 e6 _ fun H7 e7 => Or.inl ⟨_, rfl, q6 H7 e7⟩) ev_c (rv_I (by decide))) (ev_var (i := 0) rfl) ev_c (by simp) fun H6 e6 => k _ _ ⟨cr, code, _, _, _, rfl, (f4.trans (Fr.ex (e5.trans e6))).trans (fun c o h1 h2 h => by
            rw [upd_ne h1]
            exact h), upd_same, by
            rw [upd_ne (Ne.symm hpq)]
            exact (e5.trans e6) _ _ hq4, hc, Int.emod_nonneg _ (by decide)⟩
end
end Q7
/-! evaluations that draw -/
namespace Q7
open PySem PySem.Spec PyProof.Rows L2 Evl
def Lim : Nat := 1000000000000
/-- te, with at most c draws, comes to some S -/
def EvG (p q : Addr) (c : Nat) (te : TE) (σ : L2.St) (H : Hp) (S : V → Hp → Prop) : Prop :=
  ∀ H1 n, Fr p q H H1 → Pool H1 p q n → n + c ≤ Lim → ∀ Q : VK, (∀ y H2, Fr p q H1 H2 → Pool H2 p q (n + c) → S y H2 → Q y H2) → te σ H1 Q
section
variable {K : PySem.W.Frag} {p q : Addr} {c c2 : Nat} {σ : L2.St} {H H' : Hp} {ta tb te tm : TE} {S S' : V → Hp → Prop} {x y v : V}
theorem EvG.mono (f : Fr p q H H') (h : EvG p q c te σ H S) : EvG p q c te σ H' S := fun H1 n f1 P1 hl Q k => h H1 n (f.trans f1) P1 hl Q k
theorem EvG.imp (h : EvG p q c te σ H S) (k : ∀ v H1, Fr p q H H1 → S v H1 → S' v H1) : EvG p q c te σ H S' := fun H1 n f1 P1 hl Q k1 => h H1 n f1 P1 hl Q fun y H2 f2 P2 s => k1 y H2 f2 P2 (k y H2 (f1.trans f2) s)
theorem EvG.le (h : EvG p q c te σ H S) (l : c ≤ c2) : EvG p q c2 te σ H S := fun H1 n f1 P1 hl Q k1 => h H1 n f1 P1 (by omega) Q fun y H2 f2 P2 s => k1 y H2 f2 (P2.le (by omega)) s
/-- an expression that draws nothing -/
theorem eg_ev (h : Ev te σ (bs p q H) v) : EvG p q 0 te σ H (fun y _ => y = v) := fun H1 n f1 P1 hl Q k => h H1 f1.bs Q fun H2 e2 => k v H2 (Fr.ex e2) (P1.ex e2) rfl
theorem eg_L {xs : List V} (h : EvL te σ (bs p q H) xs) : EvG p q 0 te σ H (fun y H2 => ∃ a, y = .ref a ∧ a ≠ p ∧ a ≠ q ∧ H2 a = some (.lst xs)) := fun H1 n f1 P1 hl Q k => h H1 f1.bs Q fun a H2 ha e2 h2 => k _ H2 (Fr.ex e2) (P1.ex e2) ⟨a, rfl, (P1.ne ha).1, (P1.ne ha).2, h2⟩
theorem eg_U {xs : List V} (h : EvU te σ (bs p q H) xs) : EvG p q 0 te σ H (fun y H2 => ∃ a, y = .ref a ∧ H2 a = some (.tup xs)) := fun H1 n f1 P1 hl Q k => h H1 f1.bs Q fun a H2 ha e2 h2 => k _ H2 (Fr.ex e2) (P1.ex e2) ⟨a, rfl, h2⟩
/-- a draw -/
theorem eg_draw {E : XK} {m : Nat} (hp : Ev ta σ (bs p q H) (.ref p)) (hm : Ev tm σ (bs p q H) (.int (m : Int))) (h0 : 0 < m) (h1 : m ≤ 1000) : EvG p q 1 (tCallR spDraw E (tCons ta (tCons tm tNil))) σ H (fun y _ => ∃ d : Nat, y = .int (d : Nat) ∧ d < m) := fun H1 n f1 P1 hl Q k =>
  hp H1 f1.bs _ fun H2 e2 => hm H2 (fun a o h => e2 _ _ (f1.bs _ _ h)) _ fun H3 e3 => ⟨p, q, n, (m : Int), rfl, P1.ex (e2.trans e3), hl, by omega, by omega, fun d H4 d0 d1 f4 P4 => by
    obtain ⟨k', rfl⟩ : ∃ k' : Nat, d = (k' : Nat) := ⟨d.toNat, by omega⟩
    exact k _ H4 ((Fr.ex (e2.trans e3)).trans f4) P4 ⟨k', rfl, by omega⟩⟩
/-- an operator, the first side without draws -/
theorem eg_op1 {r : R2} {S2 : V → Hp → Prop} (ha : Ev ta σ (bs p q H) x) (hb : EvG p q c tb σ H S2) (hr : ∀ y H2 n, Fr p q H H2 → Pool H2 p q n → S2 y H2 → ∃ z, (∀ Q : VK, Q z H2 → r x y H2 Q) ∧ S z H2) : EvG p q c (tOp r ta tb) σ H S := fun H1 n f1 P1 hl Q k =>
  ha H1 f1.bs _ fun H2 e2 => hb H2 n (f1.trans (Fr.ex e2)) (P1.ex e2) hl _ fun y H3 f3 P3 s => by
    obtain ⟨z, h1, h2⟩ := hr y H3 _ ((f1.trans (Fr.ex e2)).trans f3) P3 s
    exact h1 _ (k z H3 ((Fr.ex e2).trans f3) P3 h2)
/-- .. a new list on the first side -/
theorem eg_opL {r : R2} {xs : List V} {S2 : V → Hp → Prop} (ha : EvL ta σ (bs p q H) xs) (hb : EvG p q c tb σ H S2) (hr : ∀ a y H2, H2 a = some (.lst xs) → S2 y H2 → ∃ z, (∀ Q : VK, Q z H2 → r (.ref a) y H2 Q) ∧ S z H2) : EvG p q c (tOp r ta tb) σ H S := fun H1 n f1 P1 hl Q k =>
  ha H1 f1.bs _ fun a H2 ha2 e2 h2 => hb H2 n (f1.trans (Fr.ex e2)) (P1.ex e2) hl _ fun y H3 f3 P3 s => by
    obtain ⟨z, h1, h4⟩ := hr a y H3 (f3 _ _ (P1.ne ha2).1 (P1.ne ha2).2 h2) s
    exact h1 _ (k z H3 ((Fr.ex e2).trans f3) P3 h4)
/-- a call of a def that draws -/
theorem eg_call {sp : Sp} {vs : List V} {E : XK} {t : TA} (h : EvA t σ (bs p q H) vs) (hs : ∀ H1 n, Fr p q H H1 → Pool H1 p q n → n + c ≤ Lim → ∀ Q : VK, (∀ y H2, Fr p q H1 H2 → Pool H2 p q (n + c) → S y H2 → Q y H2) → sp vs H1 Q E) : EvG p q c (tCallR sp E t) σ H S := fun H1 n f1 P1 hl Q k =>
  h H1 f1.bs _ fun H2 e2 => hs H2 n (f1.trans (Fr.ex e2)) (P1.ex e2) hl Q fun y H3 f3 P3 s => k y H3 ((Fr.ex e2).trans f3) P3 s
theorem q_asgG {D : Ends} {tz : TS} {i : Nat} {n : Nat} (h : EvG p q c te σ H S) (P0 : Pool H p q n) (hl : n + c ≤ Lim) (k : ∀ y H1, Fr p q H H1 → Pool H1 p q (n + c) → S y H1 → tz D (σ.set i (some y)) H1) : tSeq (tAsg te (gName i)) tz D σ H := h H n Fr.refl P0 hl _ k
theorem s_asgG {D : Ends} {i : Nat} {n : Nat} (h : EvG p q c te σ H S) (P0 : Pool H p q n) (hl : n + c ≤ Lim) (k : ∀ y H1, Fr p q H H1 → Pool H1 p q (n + c) → S y H1 → D.nx (σ.set i (some y)) H1) : tAsg te (gName i) D σ H := h H n Fr.refl P0 hl _ k
theorem s_retG {D : Ends} {n : Nat} (h : EvG p q c te σ H S) (P0 : Pool H p q n) (hl : n + c ≤ Lim) (k : ∀ y H1, Fr p q H H1 → Pool H1 p q (n + c) → S y H1 → D.rt y H1) : tRet te D σ H := h H n Fr.refl P0 hl _ k
/-- [te for k in range(m)], each turn with at most c draws; m drawn or told -/
theorem eg_rng {ta : TA} {vs : List Nat} {j N c0 : Nat} {C : Nat → Prop} (mono : ∀ v H H', Kp H H' → S v H → S v H') (hC : ∀ k, C k → k ≤ N) (hN : N ≤ 1000)
    (ha : ∀ H1 n, Fr p q H H1 → Pool H1 p q n → n + c0 ≤ Lim → ∀ Q : List V → Hp → Prop, (∀ (k : Nat) H2, Fr p q H1 H2 → Pool H2 p q (n + c0) → C k → Q [.int (k : Nat)] H2) → ta σ H1 Q) (hw : ∀ x, wipe ((wipe σ vs).set j (some x)) vs = wipe σ vs)
    (he : ∀ (i : Nat), i < N → EvG p q c te ((wipe σ vs).set j (some (.int (i : Nat)))) H S) :
    EvG p q (c0 + N * c) (tLc (iRng1 ta) (gName j) tYes te vs) σ H (fun v H2 => ∃ a ys k, v = .ref a ∧ a ≠ p ∧ a ≠ q ∧ H a = none ∧ H2 a = some (.lst ys) ∧ ys.length = k ∧ C k ∧ ∀ y ∈ ys, S y H2) := fun H1 n f1 P1 hl Q k0 =>
  ha H1 n f1 P1 (by omega) _ fun k H2 f2 P2 hk => ⟨(k : Int), rfl, by omega, by have := hC k hk; omega, fun Dl hD => by
    have hne := P2.ne hD
    have hDH : H Dl = none := by
      cases hh : H Dl with
      | none => rfl
      | some o =>
        have := (f1.trans f2) Dl o hne.1 hne.2 hh
        rw [hD] at this
        cases this
    have hkN := hC k hk
    rw [show ((k : Nat) : Int).toNat = k from Int.toNat_natCast k]
    refine lc_it (walk_range (lo := 0) (n := k)) (fun i H' => Fr p q H2 H' ∧ Pool H' p q (n + c0 + i * c) ∧ ∃ ys, H' Dl = some (.lst ys) ∧ ys.length = i ∧ ∀ y ∈ ys, S y H') ⟨Fr.ex (Ex.new hD), by
      have := P2.ex (Ex.new (o := .lst []) hD)
      simpa using this, [], upd_same, rfl, fun y hy => by cases hy⟩ (fun _ _ _ _ => trivial) (fun i x H' H3 hi pv y => ?_) (fun H' pv => ?_)
    · obtain ⟨rfl, hx⟩ := y
      obtain ⟨f3, P3, ys, hy, hyl, hyS⟩ := pv
      have hx' : x = .int (i : Nat) := by
        rw [hx]
        show V.int (0 + (i : Nat)) = _
        rw [Int.zero_add]
      subst hx'
      refine ⟨hw _, ?_⟩
      unfold tYes
      dsimp only
      rw [if_pos rfl]
      have hlim : (n + c0 + i * c) + c ≤ Lim := by
        have h1 : (i + 1) * c ≤ N * c := Nat.mul_le_mul_right c (by omega)
        have h2 : (i + 1) * c = i * c + c := Nat.succ_mul i c
        omega
      refine he i (by omega) _ _ ((f1.trans f2).trans f3) P3 hlim _ fun y H4 f4 P4 s => ?_
      have hy4 := f4 _ _ hne.1 hne.2 hy
      have kp4 := P3.kp f4 P4
      have kpd := Kp.put (ys := ys ++ [y]) hy4
      refine ⟨ys, hy4, sz_lt (by omega), ?_, ?_, ys ++ [y], upd_same, by rw [List.length_append, hyl] <;> rfl, fun z hz => ?_⟩
      · intro c' o h1 h2 h
        by_cases e : c' = Dl
        · rw [e, hD] at h
          cases h
        · rw [upd_ne e]
          exact (f3.trans f4) c' o h1 h2 h
      · have P5 := P4.put (u := .lst (ys ++ [y])) hne.1 hne.2
        refine P5.le ?_
        rw [Nat.succ_mul]
        omega
      · rcases List.mem_append.mp hz with hz | hz
        · exact mono z _ _ (kp4.trans kpd) (hyS z hz)
        · rw [List.mem_singleton.mp hz]
          exact mono y _ _ kpd s
    · obtain ⟨f3, P3, ys, hy, hyl, hyS⟩ := pv
      have hle : k * c ≤ N * c := Nat.mul_le_mul_right c hkN
      exact k0 _ H' (f2.trans f3) (P3.le (by omega)) ⟨Dl, ys, k, rfl, hne.1, hne.2, hDH, hy, hyl, hk, hyS⟩⟩
end
end Q7
/-! _law_word, _law_names -/
namespace Q7
open PySem PySem.Spec PyProof.Rows L2 Evl
/-- all letters -/
def Low (z : Str) : Prop := ∀ c ∈ z.cps.toList, c ∈ az
theorem low_cat {a b : Str} (h1 : Low a) (h2 : Low b) : Low (a ++ b) := fun c hc => by
  have : c ∈ a.cps.toList ++ b.cps.toList := by
    rw [← Array.toList_append]
    exact hc
  rcases List.mem_append.mp this with h | h
  · exact h1 c h
  · exact h2 c h
theorem len_cat (a b : Str) : (a ++ b).length = a.length + b.length := by
  show (a.cps ++ b.cps).size = _
  rw [Array.size_append]
  rfl
theorem okN_low {z : Str} (h : Low z) (h1 : 1 ≤ z.length) (h8 : z.length ≤ 8) : okN z = true := by
  unfold okN
  rw [decide_eq_true h1, decide_eq_true h8]
  simp only [Bool.true_and, List.all_eq_true, decide_eq_true_eq]
  exact h
def empS : Str := ""
theorem join_low : ∀ {ys : List Str}, (∀ y ∈ ys, y.length = 1 ∧ Low y) → (Txt.join empS ys).length = ys.length ∧ Low (Txt.join empS ys) := by
  intro ys h
  have e : Txt.join empS ys = Str.join empS ys := StrLaws.glued_eq_join empS ys
  rw [e]
  induction ys with
  | nil => exact ⟨rfl, fun c hc => by cases hc⟩
  | cons x r ih =>
    have hx := h x List.mem_cons_self
    have ih' := ih (fun y hy => h y (List.mem_cons_of_mem _ hy)) (StrLaws.glued_eq_join empS r)
    cases r with
    | nil => exact ⟨by rw [show Str.join empS [x] = x from rfl, hx.1] <;> rfl, hx.2⟩
    | cons y s =>
      rw [show Str.join empS (x :: y :: s) = x ++ empS ++ Str.join empS (y :: s) from rfl]
      refine ⟨?_, low_cat (low_cat hx.2 (fun c hc => by cases hc)) ih'.2⟩
      rw [len_cat, len_cat, hx.1, ih'.1]
      show 1 + 0 + (y :: s).length = (x :: y :: s).length
      simp
      omega
section
variable {P : Program} {w : World} {K : PySem.W.Frag} {mg : Str → Option Value} {base : Heap}
abbrev alpha : Str := "abcdefghijklmnopqrstuvwxyz"
theorem alpha_at {d : Nat} (h : d < 26) : ∃ c, atI alpha.cps.toList (d : Int) = some c ∧ c ∈ az := by
  have : ∀ d : Fin 26, ∃ c, atI alpha.cps.toList ((d.val : Nat) : Int) = some c ∧ c ∈ az := by decide +kernel
  exact this ⟨d, h⟩
/-- a letter drawn -/
def OneV (v : V) : Prop := ∃ z : Str, v = .str z ∧ z.length = 1 ∧ Low z
theorem eg_letter {p q : Addr} {ta tl : TE} {E : XK} {σ : L2.St} {H : Hp} (hl : Ev tl σ (bs p q H) (.str alpha)) (hp : Ev ta σ (bs p q H) (.ref p)) : EvG p q 1 (tOp rIxS tl (tCallR spDraw E (tCons ta (tCons (tC (.int 26)) tNil)))) σ H (fun y _ => OneV y) :=
  eg_op1 hl (eg_draw (m := 26) hp ev_c (by decide) (by decide)) fun y H2 n f P hy => by
    obtain ⟨d, rfl, hd⟩ := hy
    obtain ⟨c, hc, hz⟩ := alpha_at hd
    exact ⟨.str ⟨#[c]⟩, fun Q q => ⟨alpha, d, c, rfl, rfl, sz_of (by decide), hc, q⟩, ⟨#[c]⟩, rfl, rfl, fun c' hc' => by
      have : c' = c := by simpa using hc'
      rw [this]
      exact hz⟩
theorem ones_strs : ∀ {ys : List V}, (∀ y ∈ ys, OneV y) → ∃ zs : List Str, ys = zs.map V.str ∧ ∀ z ∈ zs, z.length = 1 ∧ Low z
  | [], _ => ⟨[], rfl, fun z hz => by cases hz⟩
  | y :: r, h => by
    obtain ⟨zs, e, hz⟩ := ones_strs fun x hx => h x (List.mem_cons_of_mem _ hx)
    obtain ⟨z, e1, h1, h2⟩ := h y List.mem_cons_self
    refine ⟨z :: zs, by rw [List.map_cons, ← e, e1], fun x hx => ?_⟩
    rcases List.mem_cons.mp hx with rfl | hx
    · exact ⟨h1, h2⟩
    · exact hz x hx
/-- ''.join([..]) of k letters -/
theorem eg_join {p q : Addr} {c : Nat} {te : TE} {σ : L2.St} {H : Hp} {C : Nat → Prop} (hC : ∀ k, C k → k ≤ 1000) (h : EvG p q c te σ H (fun v H2 => ∃ a ys k, v = .ref a ∧ a ≠ p ∧ a ≠ q ∧ H a = none ∧ H2 a = some (.lst ys) ∧ ys.length = k ∧ C k ∧ ∀ y ∈ ys, OneV y)) :
    EvG p q c (tM1 (fun x xs H Q => ∃ a p, ∃ ys : List Str, x = .str a ∧ xs = [.ref p] ∧ (SqL K H p (ys.map V.str) ∨ SqT K H p (ys.map V.str)) ∧ (ys.map (·.length)).sum + ys.length * a.length ≤ 16777216 ∧ Q (.str (Txt.join a ys)) H) (tC (.str "")) te) σ H (fun v _ => ∃ z : Str, v = .str z ∧ C z.length ∧ Low z) := fun H1 n f1 P1 hl Q k =>
  ⟨⟨_, rfl⟩, h H1 n f1 P1 hl _ fun y H2 f2 P2 s => by
    obtain ⟨a, ys, k', rfl, h1, h2, h3, h4, h5, h6, h7⟩ := s
    obtain ⟨zs, rfl, hz⟩ := ones_strs h7
    have hj := join_low hz
    rw [List.length_map] at h5
    refine ⟨"", a, zs, rfl, rfl, Or.inl (sq_of h4), ?_, k _ H2 f2 P2 ⟨_, rfl, ?_, hj.2⟩⟩
    · have hs : (zs.map (·.length)).sum = zs.length := by
        have : ∀ l : List Str, (∀ z ∈ l, z.length = 1 ∧ Low z) → (l.map (·.length)).sum = l.length := by
          intro l
          induction l with
          | nil => intro _; rfl
          | cons x r ih =>
            intro hl
            rw [List.map_cons, List.sum_cons, ih (fun z hz => hl z (List.mem_cons_of_mem _ hz)), (hl x List.mem_cons_self).1, List.length_cons]
            omega
        exact this zs hz
      rw [hs]
      have := hC k' h6
      show zs.length + zs.length * 0 ≤ _
      omega
    · show C (Txt.join empS zs).length
      rw [hj.1, h5]
      exact h6⟩
theorem tcons1 {p q : Addr} {c : Nat} {te : TE} {σ : L2.St} {H : Hp} {S : V → Hp → Prop} (h : EvG p q c te σ H S) (H1 : Hp) (n : Nat) (f : Fr p q H H1) (P1 : Pool H1 p q n) (hl : n + c ≤ Lim) {Q : List V → Hp → Prop} (k : ∀ y H2, Fr p q H1 H2 → Pool H2 p q (n + c) → S y H2 → Q [y] H2) : tCons te tNil σ H1 Q := h H1 n f P1 hl _ k
def spWord : Sp := fun vs H Q _ => ∃ (p q : Addr) (n : Nat), vs = [.ref p] ∧ Pool H p q n ∧ n + 9 ≤ Lim ∧ ∀ (z : Str) H', okN z = true → Fr p q H H' → Pool H' p q (n + 9) → Q (.str z) H'
theorem sc__law_word : FnScope ["_law_pool_here", "_law_letters", "_law_k"] ["_law_pool_here"] (defScope s_law_word) := ⟨rfl, rfl, rfl, by decide +kernel, rfl, by decide +kernel, by decide +kernel⟩
theorem D__law_word (T : Txt w K mg) (D__law_draw : Dn P w K mg base CX0 1 "_law_draw" spDraw) : Dn P w K mg base CX0 2 "_law_word" spWord := by
  refine mkD0 T.fds_law_word T.g__law_word T.kps_law_word sc__law_word (fun _ _ _ _ _ _ us hl => match us, hl with | [_], _ => rfl) (fun vs H Q E h => ?_) (fun cdv A outer s H vs Q E hr h => ?_)
  · obtain ⟨p, q, n, rfl, _⟩ := h
    rfl
  · obtain ⟨p, q, n, rfl, P0, hl, k⟩ := h
    refine ⟨_, (pss_cons (ps_set (i := 1) sc__law_word.nd rfl (Or.inr rfl) pe_str)
    (pss_one (ps_ret (pe_join pe_str (pe_lc (own := [("_law_k", 2)]) (g := gName 2) (tt := tYes) rfl sc__law_word.nd (pi_range1 (by rfl) T.n_range (pa_cons (pe_op op_add pe_int (pe_d D__law_draw (hr.mono (by decide)) (by rfl) pass0 (pa_cons (pv 0) (pa_cons pe_int pa_nil)))) pa_nil)) (blkOk_by (own := [("_law_k", 2)]) (N := ["_law_pool_here", "_law_letters", "_law_k"]) (sc := defScope s_law_word) (by decide +kernel)) (fun _ _ _ _ _ => (pg_name (i := 2) sc__law_word.nd rfl (Or.inl rfl))) (fun _ _ _ _ _ => pts_nil) (fun _ _ _ _ _ => (pe_ix ix_str (pv 1) (pe_d D__law_draw (hr.mono (by decide)) (by rfl) pass0 (pa_cons (pv 0) (pa_cons pe_int pa_nil))) (fun _ _ => rfl)))))))), ?_⟩
    refine q_asg ev_c fun H1 e1 => ?_
    refine s_retG (p := p) (q := q) (c := 1 + 8 * 1) (H := H1) (S := fun v _ => ∃ z : Str, v = .str z ∧ (1 ≤ z.length ∧ z.length ≤ 8) ∧ Low z) (eg_join (C := fun k => 1 ≤ k ∧ k ≤ 8) (fun k h => by omega) (eg_rng (N := 8) (c := 1) (c0 := 1) (S := fun y _ => OneV y) (C := fun k => 1 ≤ k ∧ k ≤ 8) (fun _ _ _ _ h => h) (fun k h => h.2) (by decide) (fun H2 m f2 P2 hl2 Q2 k2 => ?_) (fun _ => rfl) fun i hi => eg_letter (ev_var rfl) (ev_var rfl))) (P0.ex e1) hl fun y H2 f2 P2 s => ?_
    · refine tcons1 (eg_op1 (r := rI0 fun i j => .int (i + j)) (x := .int 1) (S := fun y _ => ∃ d : Nat, y = .int ((1 + d : Nat) : Int) ∧ d < 8) ev_c (eg_draw (m := 8) (ev_var rfl) ev_c (by decide) (by decide)) fun y H3 m' f3 P3 hy => ?_ : EvG p q 1 _ _ H1 _) H2 m f2 P2 hl2 fun y H3 f3 P3 hy => ?_
      · obtain ⟨d, rfl, hd⟩ := hy
        exact ⟨.int (1 + (d : Nat)), fun Q q => ⟨1, d, rfl, rfl, q⟩, d, by simp, hd⟩
      · obtain ⟨d, rfl, hd⟩ := hy
        exact k2 (1 + d) H3 f3 P3 ⟨by omega, by omega⟩
    · obtain ⟨z, rfl, hz, hlow⟩ := s
      exact k z H2 (okN_low hlow hz.1 hz.2) ((Fr.ex e1).trans f2) P2
end
end Q7
/-! _law_names -/
namespace Q7
open PySem PySem.Spec PyProof.Rows L2 Evl
/-- the sign that tells a name: its first or its last -/
def markS (front : Bool) (z : Str) : Option Nat := if front = true then z.cps.toList.head? else z.cps.toList.getLast?
theorem nodup_of_map {α β : Type} (f : α → β) : ∀ {l : List α}, (l.map f).Nodup → l.Nodup
  | [], _ => List.nodup_nil
  | a :: r, h => by
    rw [List.map_cons, List.nodup_cons] at h
    rw [List.nodup_cons]
    exact ⟨fun hm => h.1 (List.mem_map_of_mem hm), nodup_of_map f h.2⟩
theorem az_nd (m : Nat) : ((az.take m).map some).Nodup := by
  have h : (az.map some).Nodup := by decide +kernel
  rw [List.map_take]
  exact h.sublist (List.take_sublist _ _)
theorem az_len : az.length = 26 := by decide +kernel
section
variable {P : Program} {w : World} {K : PySem.W.Frag} {mg : Str → Option Value} {base : Heap}
def spNames : Sp := fun vs H Q _ => ∃ (p q : Addr) (n m : Nat), vs = [.ref p, .int (m : Nat)] ∧ Pool H p q n ∧ n + 100 ≤ Lim ∧ m ≤ 12 ∧
  ∀ (a : Addr) (ws : List Str) H', H a = none → H' a = some (.lst (ws.map V.str)) → ws.length = m → (∀ z ∈ ws, okN z = true) → ws.Nodup → Fr p q H H' → Pool H' p q (n + 100) → Q (.ref a) H'
theorem sc__law_names : FnScope ["_law_pool_here", "_law_many", "_law_letters", "_law_size", "_law_front", "_law_names_here", "_law_k", "_law_word_here", "_law_j"] ["_law_pool_here", "_law_many"] (defScope s_law_names) := ⟨rfl, rfl, rfl, by decide +kernel, rfl, by decide +kernel, by decide +kernel⟩
theorem D__law_names (T : Txt w K mg) (D__law_draw : Dn P w K mg base CX0 1 "_law_draw" spDraw) : Dn P w K mg base CX0 2 "_law_names" spNames := by
  refine mkD0 T.fds_law_names T.g__law_names T.kps_law_names sc__law_names (fun _ _ _ _ _ _ us hl => match us, hl with | [_, _], _ => rfl) (fun vs H Q E h => ?_) (fun cdv A outer s H vs Q E hr h => ?_)
  · obtain ⟨p, q, n, m, rfl, _⟩ := h
    rfl
  · obtain ⟨p, q, n, m, rfl, P0, hl, hm, k⟩ := h
    refine ⟨_, (pss_cons (ps_set (i := 2) sc__law_names.nd rfl (Or.inr rfl) pe_str)
    (pss_cons (ps_set (i := 3) sc__law_names.nd rfl (Or.inl rfl) (pe_d D__law_draw (hr.mono (by decide)) (by rfl) pass0 (pa_cons (pv 0) (pa_cons pe_int pa_nil))))
    (pss_cons (ps_set (i := 4) sc__law_names.nd rfl (Or.inl rfl) (pe_d D__law_draw (hr.mono (by decide)) (by rfl) pass0 (pa_cons (pv 0) (pa_cons pe_int pa_nil))))
    (pss_cons (ps_set (i := 5) sc__law_names.nd rfl (Or.inl rfl) (pe_lst pa_nil))
    (pss_cons (ps_for PassesOwn.never rfl (pi_range1 (by rfl) T.n_range (pa_cons (pv 1) pa_nil)) (pg_name (i := 6) sc__law_names.nd rfl (Or.inl rfl))
    (pss_cons (ps_set (i := 7) sc__law_names.nd rfl (Or.inl rfl) (pe_join pe_str (pe_lc (own := [("_law_j", 8)]) (g := gName 8) (tt := tYes) rfl sc__law_names.nd (pi_range1 (by rfl) T.n_range (pa_cons (pv 3) pa_nil)) (blkOk_by (own := [("_law_j", 8)]) (N := ["_law_pool_here", "_law_many", "_law_letters", "_law_size", "_law_front", "_law_names_here", "_law_k", "_law_word_here", "_law_j"]) (sc := defScope s_law_names) (by decide +kernel)) (fun _ _ _ _ _ => (pg_name (i := 8) sc__law_names.nd rfl (Or.inl rfl))) (fun _ _ _ _ _ => pts_nil) (fun _ _ _ _ _ => (pe_ix ix_str (pv 2) (pe_d D__law_draw (hr.mono (by decide)) (by rfl) pass0 (pa_cons (pv 0) (pa_cons pe_int pa_nil))) (fun _ _ => rfl))))))
    (pss_one (ps_expr (pe_bm PySem.F.plainAttrs_list PySem.F.slot_list_append PySem.F.type_list_append mt_append (pv 5) (pa_cons (pe_ifExp (pt_truth (pv 4) (fun _ => rfl)) (pe_op op_add_str (pe_ix ix_str (pv 2) (pv 6) (fun _ _ => rfl)) (pv 7)) (pe_op op_add_str (pv 7) (pe_ix ix_str (pv 2) (pv 6) (fun _ _ => rfl)))) pa_nil))))))
    (pss_one (ps_ret (pv 5)))))))), ?_⟩
    refine q_asg ev_c fun H1 e1 => ?_
    refine q_asgG (p := p) (q := q) (c := 1) (H := H1) (eg_draw (m := 8) (ev_var rfl) ev_c (by decide) (by decide)) (P0.ex e1) (by unfold Lim at *; omega) fun y H2 f2 P2 hy => ?_
    obtain ⟨sz, rfl, hsz⟩ := hy
    refine q_asgG (p := p) (q := q) (c := 1) (H := H2) (eg_draw (m := 2) (ev_var rfl) ev_c (by decide) (by decide)) P2 (by unfold Lim at *; omega) fun y H3 f3 P3 hy => ?_
    obtain ⟨fr, rfl, hfr⟩ := hy
    have f13 : Fr p q H H3 := ((Fr.ex e1).trans f2).trans f3
    refine q_asgL (el_lst ea_nil (by decide)) fun l H4 hl0 e4 h4 => ?_
    have hlne := P3.ne hl0
    have hlH : H l = none := by
      cases hh : H l with
      | none => rfl
      | some o =>
        have := f13 l o hlne.1 hlne.2 hh
        rw [hl0] at this
        cases this
    refine q_forB (H := bs p q H) (eb_rng (n := m) (ea_cons (ev_var (i := 1) rfl) ea_nil) (by omega)) ((f13.trans (Fr.ex e4)).bs) (fun i σ' H' => ∃ (ws : List Str) (y6 y7 y8 : Option V), σ' = [some (.ref p), some (.int (m : Nat)), some (.str alpha), some (.int (sz : Nat)), some (.int (fr : Nat)), some (.ref l), y6, y7, y8] ∧ Fr p q H H' ∧ Pool H' p q (n + 2 + i * 8) ∧ H' l = some (.lst (ws.map V.str)) ∧ ws.map (markS (decide (¬ fr = 0))) = (az.take i).map some ∧ ws.length = i ∧ ∀ z ∈ ws, okN z = true)
      (fun H5 e5 => ⟨[], none, none, none, rfl, (f13.trans (Fr.ex e4)).trans (Fr.ex e5), by
        have := (P3.ex e4).ex e5
        simpa using this, e5 _ _ h4, rfl, rfl, fun z hz => by cases hz⟩) (fun i σ' H' pv => by
      obtain ⟨_, _, _, _, _, f, _⟩ := pv
      exact f.bs) (fun i x σ' H' hx pv => ?_) fun σ' H' pv => ?_
    · obtain ⟨ws, y6, y7, y8, rfl, f, Pi, hw, hmk, hwl, hok⟩ := pv
      have hil : i < m := by
        have := (List.getElem?_eq_some_iff.mp hx).1
        simpa [nats] using this
      obtain rfl : x = .int (i : Nat) := by
        simp [nats, hil] at hx
        exact hx.symm
      refine q_asgG (p := p) (q := q) (c := 0 + 7 * 1) (H := H') (S := fun v _ => ∃ z : Str, v = .str z ∧ z.length = sz ∧ Low z) (eg_join (C := fun k => k = sz) (fun k h => by omega) (eg_rng (N := 7) (c := 1) (c0 := 0) (S := fun y _ => OneV y) (C := fun k => k = sz) (fun _ _ _ _ h => h) (fun k h => by omega) (by decide) (fun H5 m' f5 P5 hl5 Q5 k5 => ⟨_, rfl, k5 sz H5 Fr.refl P5 rfl⟩) (fun _ => rfl) fun i hi => eg_letter (ev_var rfl) (ev_var rfl))) Pi (by unfold Lim at *; omega) fun y H5 f5 P5 s => ?_
      obtain ⟨z, rfl, hz, hlow⟩ := s
      have hw5 := f5 _ _ hlne.1 hlne.2 hw
      obtain ⟨c, hc, hca, hcz⟩ : ∃ c, atI alpha.cps.toList ((i : Nat) : Int) = some c ∧ az[i]? = some c ∧ c ∈ az := by
        have hi26 : i < az.length := by
          rw [az_len]
          omega
        exact ⟨az[i], atI_nat (List.getElem?_eq_getElem hi26), List.getElem?_eq_getElem hi26, List.getElem_mem hi26⟩
      have hlc : Low (⟨#[c]⟩ : Str) := fun c' hc' => by
        have : c' = c := by simpa using hc'
        rw [this]
        exact hcz
      have hsn : (⟨#[c]⟩ : Str).length = 1 := rfl
      have at_ : ∀ {σ' : L2.St}, σ'[2]? = some (some (.str alpha)) → σ'[6]? = some (some (.int (i : Nat))) → Ev (tOp rIxS (tVar 2) (tVar 6)) σ' H5 (.str ⟨#[c]⟩) := fun h1 h2 => ev_op (ev_var h1) (ev_var h2) (rv_ixS (by decide) hc)
      have fin : ∀ (nm : Str) H6, Ex H5 H6 → nm.length = 1 + sz → Low nm → markS (decide (¬ fr = 0)) nm = some c → ∃ (ws' : List Str) (y6 y7 y8' : Option V), ([some (.ref p), some (.int (m : Nat)), some (.str alpha), some (.int (sz : Nat)), some (.int (fr : Nat)), some (.ref l), some (.int (i : Nat)), some (.str z), y8] : L2.St) = [some (.ref p), some (.int (m : Nat)), some (.str alpha), some (.int (sz : Nat)), some (.int (fr : Nat)), some (.ref l), y6, y7, y8'] ∧ Fr p q H (upd H6 l (.lst (ws.map V.str ++ [.str nm]))) ∧ Pool (upd H6 l (.lst (ws.map V.str ++ [.str nm]))) p q (n + 2 + (i + 1) * 8) ∧ (upd H6 l (.lst (ws.map V.str ++ [.str nm]))) l = some (.lst (ws'.map V.str)) ∧ ws'.map (markS (decide (¬ fr = 0))) = (az.take (i + 1)).map some ∧ ws'.length = i + 1 ∧ ∀ z ∈ ws', okN z = true := fun nm H6 e6 hn1 hn2 hn3 => by
        refine ⟨ws ++ [nm], _, _, _, rfl, ?_, ((P5.ex e6).put hlne.1 hlne.2).le (by omega), ?_, ?_, ?_, fun z' hz' => ?_⟩
        · intro c' o h1 h2 h
          by_cases e : c' = l
          · rw [e, hlH] at h
            cases h
          · rw [upd_ne e]
            exact ((f.trans f5).trans (Fr.ex e6)) c' o h1 h2 h
        · rw [upd_same, List.map_append] <;> rfl
        · rw [List.map_append, hmk, take_add hca, List.map_append]
          show _ ++ [markS _ nm] = _
          rw [hn3]
          rfl
        · rw [List.length_append, hwl]
          rfl
        · rcases List.mem_append.mp hz' with h | h
          · exact hok z' h
          · rw [List.mem_singleton.mp h]
            exact okN_low hn2 (by omega) (by omega)
      by_cases h0 : fr = 0
      · refine s_app hw5 (ev_var (i := 5) rfl) (v := .str (z ++ ⟨#[c]⟩)) (ev_if (b := false) (et_tru (ev_var (i := 4) rfl) fun H6 e6 => ?_) (fun z => by cases z) fun _ => ?_) (by rw [List.length_map]; omega) fun H6 e6 => fin _ H6 e6 ?_ (low_cat hlow hlc) ?_
        · show false = (((fr : Nat) : Int) != 0)
          rw [h0]
          rfl
        · intro H6 e6 Q6 q6
          exact (ev_op (ev_var (i := 7) rfl) (at_ rfl rfl) (rv_val fun H7 e7 Q7 q7 => ⟨z, ⟨#[c]⟩, rfl, rfl, sz_of (by rw [hz, hsn]; omega), q7⟩)) H6 e6 Q6 q6
        · rw [len_cat, hz, hsn]
          omega
        · unfold markS
          rw [if_neg (by simpa using h0)]
          show (z.cps ++ #[c]).toList.getLast? = some c
          simp
      · refine s_app hw5 (ev_var (i := 5) rfl) (v := .str (⟨#[c]⟩ ++ z)) (ev_if (b := true) (et_tru (ev_var (i := 4) rfl) fun H6 e6 => ?_) (fun _ => ?_) fun z => by cases z) (by rw [List.length_map]; omega) fun H6 e6 => fin _ H6 e6 ?_ (low_cat hlc hlow) ?_
        · show true = (((fr : Nat) : Int) != 0)
          have h1 : ((fr : Nat) : Int) ≠ 0 := by omega
          exact (bne_iff_ne.mpr h1).symm
        · intro H6 e6 Q6 q6
          exact (ev_op (at_ rfl rfl) (ev_var (i := 7) rfl) (rv_val fun H7 e7 Q7 q7 => ⟨⟨#[c]⟩, z, rfl, rfl, sz_of (by rw [hz, hsn]; omega), q7⟩)) H6 e6 Q6 q6
        · rw [len_cat, hz, hsn]
        · unfold markS
          rw [if_pos (by simpa using h0)]
          show (#[c] ++ z.cps).toList.head? = some c
          simp
    · obtain ⟨ws, y6, y7, y8, rfl, f, Pi, hw, hmk, hwl, hok⟩ := pv
      have hnl : (nats m).length = m := by simp [nats]
      rw [hnl] at hmk hwl Pi
      refine s_ret (ev_var (i := 5) rfl) fun H5 e5 => k l ws H5 hlH (e5 _ _ hw) hwl hok (nodup_of_map _ (by rw [hmk]; exact az_nd m)) (f.trans (Fr.ex e5)) ((Pi.ex e5).le (by omega))
end
end Q7
/-! _law_kinds -/
namespace Q7
open PySem PySem.Spec PyProof.Rows L2 Evl
section
variable {K : PySem.W.Frag} {p q : Addr} {σ : L2.St} {H : Hp} {tu tz : TS} {D : Ends} {c0 n : Nat}
/-- for k in range(m), m drawn -/
theorem s_forDr {ta : TA} {j N : Nat} {C : Nat → Prop} (hC : ∀ k, C k → k ≤ N) (hN : N ≤ 1000) (P0 : Pool H p q n) (hl : n + c0 ≤ Lim)
    (ha : ∀ H1 n, Fr p q H H1 → Pool H1 p q n → n + c0 ≤ Lim → ∀ Q : List V → Hp → Prop, (∀ (k : Nat) H2, Fr p q H1 H2 → Pool H2 p q (n + c0) → C k → Q [.int (k : Nat)] H2) → ta σ H1 Q)
    (Pv : Nat → Nat → L2.St → Hp → Prop) (h0 : ∀ k H1, Fr p q H H1 → Pool H1 p q (n + c0) → C k → Pv k 0 σ H1)
    (hs : ∀ k i σ' H', C k → i < k → Pv k i σ' H' → tu { D with nx := Pv k (i + 1), ct := Pv k (i + 1), bk := D.nx } (σ'.set j (some (.int (i : Nat)))) H') (hd : ∀ k σ' H', C k → Pv k k σ' H' → D.nx σ' H') : tFor (iRng1 ta) (gName j) tu D σ H :=
  ha H n Fr.refl P0 hl _ fun k H2 f2 P2 hk => ⟨(k : Int), rfl, by omega, by have := hC k hk; omega, by
    rw [show ((k : Nat) : Int).toNat = k from Int.toNat_natCast k]
    refine for_it (walk_range (lo := 0) (n := k)) (Pv k) (h0 k H2 f2 P2 hk) (fun _ _ _ _ _ => trivial) (fun i x σ' H' H3 hi pv y => ?_) (fun σ' H' pv => hd k σ' H' hk pv)
    obtain ⟨rfl, hx⟩ := y
    have hx' : x = .int (i : Nat) := by
      rw [hx]
      show V.int (0 + (i : Nat)) = _
      rw [Int.zero_add]
    subst hx'
    exact hs k i σ' _ hk hi pv⟩
theorem q_forDr {ta : TA} {j N : Nat} {C : Nat → Prop} (hC : ∀ k, C k → k ≤ N) (hN : N ≤ 1000) (P0 : Pool H p q n) (hl : n + c0 ≤ Lim)
    (ha : ∀ H1 n, Fr p q H H1 → Pool H1 p q n → n + c0 ≤ Lim → ∀ Q : List V → Hp → Prop, (∀ (k : Nat) H2, Fr p q H1 H2 → Pool H2 p q (n + c0) → C k → Q [.int (k : Nat)] H2) → ta σ H1 Q)
    (Pv : Nat → Nat → L2.St → Hp → Prop) (h0 : ∀ k H1, Fr p q H H1 → Pool H1 p q (n + c0) → C k → Pv k 0 σ H1)
    (hs : ∀ k i σ' H', C k → i < k → Pv k i σ' H' → tu { D with nx := Pv k (i + 1), ct := Pv k (i + 1), bk := tz D } (σ'.set j (some (.int (i : Nat)))) H') (hd : ∀ k σ' H', C k → Pv k k σ' H' → tz D σ' H') : tSeq (tFor (iRng1 ta) (gName j) tu) tz D σ H := s_forDr (D := { D with nx := tz D }) hC hN P0 hl ha Pv h0 hs hd
/-- 1 + a draw, as an argument -/
theorem arg_1draw {E : XK} {ta tm : TE} {m : Nat} (hp : Ev ta σ (bs p q H) (.ref p)) (hm : Ev tm σ (bs p q H) (.int (m : Int))) (h0 : 0 < m) (h1 : m ≤ 1000) :
    ∀ H1 n, Fr p q H H1 → Pool H1 p q n → n + 1 ≤ Lim → ∀ Q : List V → Hp → Prop, (∀ (k : Nat) H2, Fr p q H1 H2 → Pool H2 p q (n + 1) → (1 ≤ k ∧ k ≤ m) → Q [.int (k : Nat)] H2) → tCons (tOp (rI0 fun i j => .int (i + j)) (tC (.int 1)) (tCallR spDraw E (tCons ta (tCons tm tNil)))) tNil σ H1 Q := fun H1 n f1 P1 hl Q k =>
  tcons1 (eg_op1 (r := rI0 fun i j => .int (i + j)) (x := .int 1) (S := fun y _ => ∃ d : Nat, y = .int ((1 + d : Nat) : Int) ∧ d < m) ev_c (eg_draw (m := m) hp hm h0 h1) fun y H3 m' f3 P3 hy => by
    obtain ⟨d, rfl, hd⟩ := hy
    exact ⟨.int (1 + (d : Nat)), fun Q q => ⟨1, d, rfl, rfl, q⟩, d, by simp, hd⟩ : EvG p q 1 _ _ H _) H1 n f1 P1 hl fun y H3 f3 P3 hy => by
    obtain ⟨d, rfl, hd⟩ := hy
    exact k (1 + d) H3 f3 P3 ⟨by omega, by omega⟩
end
/-- fields stand behind a source -/
def KOk (ks : List Str) : Prop := ∀ (i : Nat), ks[i]? = some ("field" : Str) → ("source" : Str) ∈ ks.take i
theorem KOk.snoc {ks : List Str} {k : Str} (h : KOk ks) (hk : k = "field" → ("source" : Str) ∈ ks) : KOk (ks ++ [k]) := fun i hi => by
  by_cases hlt : i < ks.length
  · rw [List.getElem?_append_left hlt] at hi
    have h1 := h i hi
    rw [List.take_append_of_le_length (by omega)]
    exact h1
  · have hil : i = ks.length := by
      have := (List.getElem?_eq_some_iff.mp hi).1
      rw [List.length_append, List.length_singleton] at this
      omega
    subst hil
    rw [List.getElem?_append_right (Nat.le_refl _), Nat.sub_self] at hi
    have hk' : k = "field" := Option.some.inj hi
    rw [List.take_left']
    · exact hk hk'
    · rfl
section
variable {P : Program} {w : World} {K : PySem.W.Frag} {mg : Str → Option Value} {base : Heap}
def kinds7b : List Str := ["feed", "table", "dice", "source", "field", "flag", "slot"]
def spKinds : Sp := fun vs H Q _ => ∃ (p q : Addr) (n : Nat), vs = [.ref p, .int 6] ∧ Pool H p q n ∧ n + 20 ≤ Lim ∧
  ∀ (a : Addr) (ks : List Str) H', H a = none → H' a = some (.lst (ks.map V.str)) → 1 ≤ ks.length → ks.length ≤ 6 → (∀ k ∈ ks, k ∈ kinds7b) → KOk ks → Fr p q H H' → Pool H' p q (n + 20) → Q (.ref a) H'
theorem sc__law_kinds : FnScope ["_law_pool_here", "_law_most", "_law_kinds_here", "_law_k", "_law_kind"] ["_law_pool_here", "_law_most"] (defScope s_law_kinds) := ⟨rfl, rfl, rfl, by decide +kernel, rfl, by decide +kernel, by decide +kernel⟩
theorem D__law_kinds (T : Txt w K mg) (D__law_draw : Dn P w K mg base CX0 1 "_law_draw" spDraw) : Dn P w K mg base CX0 2 "_law_kinds" spKinds := by
  refine mkD0 T.fds_law_kinds T.g__law_kinds T.kps_law_kinds sc__law_kinds (fun _ _ _ _ _ _ us hl => match us, hl with | [_, _], _ => rfl) (fun vs H Q E h => ?_) (fun cdv A outer s H vs Q E hr h => ?_)
  · obtain ⟨p, q, n, rfl, _⟩ := h
    rfl
  · obtain ⟨p, q, n, rfl, P0, hl, k0⟩ := h
    refine ⟨_, (pss_cons (ps_set (i := 2) sc__law_kinds.nd rfl (Or.inl rfl) (pe_lst pa_nil))
    (pss_cons (ps_for PassesOwn.never rfl (pi_range1 (by rfl) T.n_range (pa_cons (pe_op op_add pe_int (pe_d D__law_draw (hr.mono (by decide)) (by rfl) pass0 (pa_cons (pv 0) (pa_cons (pv 1) pa_nil)))) pa_nil)) (pg_name (i := 3) sc__law_kinds.nd rfl (Or.inl rfl))
    (pss_cons (ps_set (i := 4) sc__law_kinds.nd rfl (Or.inl rfl) (pe_ix ix_list (pe_lst (pa_cons pe_str (pa_cons pe_str (pa_cons pe_str (pa_cons pe_str (pa_cons pe_str (pa_cons pe_str (pa_cons pe_str pa_nil)))))))) (pe_d D__law_draw (hr.mono (by decide)) (by rfl) pass0 (pa_cons (pv 0) (pa_cons pe_int pa_nil))) (fun _ _ => rfl)))
    (pss_cons (ps_if (PW.pt (pw_and (pt_cmpR op_eq (pv 4) pe_str (nomark _)) (pw_and1 (pt_cmpR op_notIn_seq pe_str (pv 2) (by rfl))))) (pss_one (ps_set (i := 4) sc__law_kinds.nd rfl (Or.inl rfl) pe_str)) pss_nil)
    (pss_one (ps_expr (pe_bm PySem.F.plainAttrs_list PySem.F.slot_list_append PySem.F.type_list_append mt_append (pv 2) (pa_cons (pv 4) pa_nil)))))))
    (pss_one (ps_ret (pv 2))))), ?_⟩
    refine q_asgL (el_lst ea_nil (by decide)) fun l H1 hlH e1 h1 => ?_
    have hlne := P0.ne hlH
    refine q_forDr (p := p) (q := q) (n := n) (c0 := 1) (N := 6) (C := fun k => 1 ≤ k ∧ k ≤ 6) (fun k h => h.2) (by decide) (P0.ex e1) (by omega) (arg_1draw (m := 6) (ev_var rfl) (ev_var rfl) (by decide) (by decide)) (fun kk i σ' H' => ∃ (ks : List Str) (y3 y4 : Option V), σ' = [some (.ref p), some (.int 6), some (.ref l), y3, y4] ∧ Fr p q H H' ∧ Pool H' p q (n + 1 + i * 1) ∧ H' l = some (.lst (ks.map V.str)) ∧ ks.length = i ∧ (∀ k ∈ ks, k ∈ kinds7b) ∧ KOk ks)
      (fun k H2 f2 P2 hk => ⟨[], none, none, rfl, (Fr.ex e1).trans f2, P2.le (by omega), f2 _ _ hlne.1 hlne.2 h1, rfl, (fun z hz => by cases hz), fun i hi => by cases hi⟩) (fun kk i σ' H' hk hi pv => ?_) fun kk σ' H' hk pv => ?_
    · obtain ⟨ks, y3, y4, rfl, f, Pi, hw, hwl, hok, hko⟩ := pv
      refine q_asgG (p := p) (q := q) (c := 1) (H := H') (S := fun v _ => ∃ k : Str, v = .str k ∧ k ∈ kinds7b) (eg_opL (xs := kinds7b.map V.str) (el_lst (ea_cons ev_c (ea_cons ev_c (ea_cons ev_c (ea_cons ev_c (ea_cons ev_c (ea_cons ev_c (ea_cons ev_c ea_nil))))))) (by decide)) (eg_draw (m := 7) (ev_var rfl) ev_c (by decide) (by decide)) fun a y H2 ha hy => ?_) Pi (by unfold Lim at *; omega) fun y H2 f2 P2 hy => ?_
      · obtain ⟨d, rfl, hd⟩ := hy
        have hd7 : d < kinds7b.length := hd
        refine ⟨.str kinds7b[d], fun Q q => ⟨a, _, d, _, rfl, rfl, sq_of ha, atI_nat (j := d) ?_, q⟩, _, rfl, List.getElem_mem hd7⟩
        rw [List.getElem?_map, List.getElem?_eq_getElem hd7]
        rfl
      · obtain ⟨k, rfl, hk7⟩ := hy
        have hw2 := f2 _ _ hlne.1 hlne.2 hw
        refine q_ifJ (tw := tNext) (b := decide (k = "field") && !decide (("source" : Str) ∈ ks)) (fun σ' H3 => ∃ k' : Str, σ' = [some (.ref p), some (.int 6), some (.ref l), some (.int (i : Nat)), some (.str k')] ∧ Ex H2 H3 ∧ k' ∈ kinds7b ∧ (k' = "field" → ("source" : Str) ∈ ks)) (et_and (et_test (ev_eqS (ev_var (i := 4) rfl) ev_c)) fun _ => et_test (ev_is (ev_op (r := rIn K true) ev_c (ev_var (i := 2) rfl) (rv_niL (sq_of hw2) rfl (flat_strs _))) (by rw [inV_str] : _ = V.bl (!decide (("source" : Str) ∈ ks))))) (fun σ' H3 hJ => ?_) (fun hb kj H3 e3 => ?_) fun hb kj H3 e3 => kj _ _ ⟨k, rfl, e3, hk7, fun hf => ?_⟩
        · obtain ⟨k', rfl, e3, h3, h4⟩ := hJ
          refine s_app (e3 _ _ hw2) (ev_var (i := 2) rfl) (ev_var (i := 4) (v := .str k') rfl) (by rw [List.length_map]; omega) fun H4 e4 => ?_
          refine ⟨ks ++ [k'], _, _, rfl, ?_, ((P2.ex (e3.trans e4)).put hlne.1 hlne.2).le (by omega), by rw [upd_same, List.map_append] <;> rfl, by rw [List.length_append, hwl] <;> rfl, fun z hz => ?_, hko.snoc h4⟩
          · intro c' o h1 h2 h
            by_cases e : c' = l
            · rw [e, hlH] at h
              cases h
            · rw [upd_ne e]
              exact ((f.trans f2).trans (Fr.ex (e3.trans e4))) c' o h1 h2 h
          · rcases List.mem_append.mp hz with h | h
            · exact hok z h
            · rw [List.mem_singleton.mp h]
              exact h3
        · refine s_asg ev_c fun H4 e4 => kj _ _ ⟨"source", rfl, e3.trans e4, by decide, fun z => absurd z (by decide)⟩
        · rw [decide_eq_true hf] at hb
          simpa using hb
    · obtain ⟨ks, y3, y4, rfl, f, Pi, hw, hwl, hok, hko⟩ := pv
      refine s_ret (ev_var (i := 2) rfl) fun H5 e5 => k0 l ks H5 hlH (e5 _ _ hw) (by omega) (by omega) hok hko (f.trans (Fr.ex e5)) ((Pi.ex e5).le (by omega))
end
end Q7
/-! _law_things -/
namespace Q7
open PySem PySem.Spec PyProof.Rows L2 Evl
section
variable {K : PySem.W.Frag} {p q : Addr} {σ : L2.St} {H : Hp} {c : Nat} {te ta tm : TE}
/-- tuple(a new list) -/
theorem eg_tup {S : List V → Hp → Prop} (mono : ∀ xs H H', Ex H H' → S xs H → S xs H') (h : EvG p q c te σ H fun v H2 => ∃ a xs, v = .ref a ∧ H2 a = some (.lst xs) ∧ S xs H2) : EvG p q c (tCB (rTupQ K) (tCons te tNil)) σ H fun v H2 => ∃ a xs, v = .ref a ∧ H2 a = some (.tup xs) ∧ S xs H2 := fun H1 n f1 P1 hl Q k =>
  h H1 n f1 P1 hl _ fun y H2 f2 P2 s => by
    obtain ⟨a, xs, rfl, ha, hs⟩ := s
    exact ⟨a, xs, rfl, Or.inl ⟨sq_of ha, fun l hl' => k _ _ (f2.trans (Fr.ex (Ex.new hl'))) (P2.ex (Ex.new hl')) ⟨l, xs, rfl, upd_same, mono _ _ _ (Ex.new hl') hs⟩⟩⟩
/-- names, 1 or 2 of them -/
theorem eg_names12 {E E2 : XK} (hp : Ev ta σ (bs p q H) (.ref p)) : EvG p q 101 (tCallR spNames E (tCons ta (tCons (tOp (rI0 fun i j => .int (i + j)) (tC (.int 1)) (tCallR spDraw E2 (tCons ta (tCons (tC (.int 2)) tNil)))) tNil))) σ H fun v H2 => ∃ a xs, v = .ref a ∧ H2 a = some (.lst xs) ∧ ∃ ws : List Str, xs = ws.map V.str ∧ (ws.length = 1 ∨ ws.length = 2) ∧ (∀ z ∈ ws, okN z = true) ∧ ws.Nodup := fun H1 n f1 P1 hl Q k =>
  hp H1 f1.bs _ fun H2 e2 => arg_1draw (m := 2) hp ev_c (by decide) (by decide) H2 n (f1.trans (Fr.ex e2)) (P1.ex e2) (by omega) _ fun m H3 f3 P3 hm => ⟨p, q, n + 1, m, rfl, P3, by omega, by omega, fun a ws H4 ha hw h1 h2 h3 f4 P4 => k _ H4 (((Fr.ex e2).trans f3).trans f4) (P4.le (by omega)) ⟨a, _, rfl, hw, ws, rfl, by omega, h2, h3⟩⟩
end
section
variable {P : Program} {w : World} {K : PySem.W.Frag} {mg : Str → Option Value} {base : Heap}
def spThings : Sp := fun vs H Q _ => ∃ (p q ka : Addr) (n : Nat) (ks : List Str), vs = [.ref p, .ref ka] ∧ Pool H p q n ∧ n + 1000 ≤ Lim ∧ ka ≠ p ∧ ka ≠ q ∧ H ka = some (.lst (ks.map V.str)) ∧ 1 ≤ ks.length ∧ ks.length ≤ 6 ∧ (∀ k ∈ ks, k ∈ kinds7b) ∧ KOk ks ∧
  ∀ (a : Addr) (tvs : List V) (ths : List TH) H', H a = none → H' a = some (.lst tvs) → TupsV H' tvs ths → ThsOk ths → 1 ≤ ths.length → ths.length ≤ 6 → Fr p q H H' → Pool H' p q (n + 1000) → Q (.ref a) H'
/-- what stands so far -/
structure Grow (ks ns : List Str) (i : Nat) (ths : List TH) : Prop where
  len : ths.length = i
  nm : ths.map TH.name = ns.take i
  kd : ths.map TH.kind = ks.take i
  ok : ∀ t ∈ ths, ThOk t
  up : ∀ (j : Nat) (t : TH), ths[j]? = some t → t.kind = "field" → ∃ o, t.parts = [o] ∧ ∃ (l : Nat) (u : TH), l < j ∧ ths[l]? = some u ∧ u.name = o ∧ (u.kind = "source" ∨ u.kind = "field")
theorem Grow.snoc {ks ns : List Str} {i : Nat} {ths : List TH} {k z : Str} {ps : List Str} (g : Grow ks ns i ths) (hk : ks[i]? = some k) (hz : ns[i]? = some z) (ht : ThOk ⟨k, z, ps⟩) (hu : k = "field" → ∃ o, ps = [o] ∧ ∃ (l : Nat) (u : TH), ths[l]? = some u ∧ u.name = o ∧ (u.kind = "source" ∨ u.kind = "field")) : Grow ks ns (i + 1) (ths ++ [⟨k, z, ps⟩]) := by
  refine ⟨by rw [List.length_append, g.len] <;> rfl, by rw [List.map_append, g.nm, take_add hz] <;> rfl, by rw [List.map_append, g.kd, take_add hk] <;> rfl, fun t h => ?_, fun j t hj hf => ?_⟩
  · rcases List.mem_append.mp h with h | h
    · exact g.ok t h
    · rw [List.mem_singleton.mp h]
      exact ht
  · by_cases hlt : j < ths.length
    · rw [List.getElem?_append_left hlt] at hj
      obtain ⟨o, h1, l, u, h2, h3, h4⟩ := g.up j t hj hf
      exact ⟨o, h1, l, u, h2, by rw [List.getElem?_append_left (by omega)]; exact h3, h4⟩
    · have hjl : j = ths.length := by
        have := (List.getElem?_eq_some_iff.mp hj).1
        rw [List.length_append, List.length_singleton] at this
        omega
      subst hjl
      rw [List.getElem?_append_right (Nat.le_refl _), Nat.sub_self] at hj
      obtain rfl : TH.mk k z ps = t := Option.some.inj hj
      obtain ⟨o, h1, l, u, h2, h3⟩ := hu hf
      have hl := (List.getElem?_eq_some_iff.mp h2).1
      exact ⟨o, h1, l, u, hl, by rw [List.getElem?_append_left hl]; exact h2, h3⟩
theorem sc__law_things : FnScope ["_law_pool_here", "_law_kinds_here", "_law_names_here", "_law_things_here", "_law_k", "_law_parts", "_law_below", "_law_thing_here"] ["_law_pool_here", "_law_kinds_here"] (defScope s_law_things) := ⟨rfl, rfl, rfl, by decide +kernel, rfl, by decide +kernel, by decide +kernel⟩
theorem D__law_things (T : Txt w K mg) (D__law_draw : Dn P w K mg base CX0 1 "_law_draw" spDraw) (D__law_names : Dn P w K mg base CX0 2 "_law_names" spNames) : Dn P w K mg base CX0 3 "_law_things" spThings := by
  refine mkD0 T.fds_law_things T.g__law_things T.kps_law_things sc__law_things (fun _ _ _ _ _ _ us hl => match us, hl with | [_, _], _ => rfl) (fun vs H Q E h => ?_) (fun cdv A outer s H vs Q E hr h => ?_)
  · obtain ⟨p, q, ka, n, ks, rfl, _⟩ := h
    rfl
  · obtain ⟨p, q, ka, n, ks, rfl, P0, hl, hkp, hkq, hka, hk1, hk6, hkk, hko, k0⟩ := h
    refine ⟨_, (pss_cons (ps_set (i := 2) sc__law_things.nd rfl (Or.inl rfl) (pe_d D__law_names (hr.mono (by decide)) (by rfl) pass0 (pa_cons (pv 0) (pa_cons (pe_callB call_len_seq (by rfl) T.n_len PySem.boot_len (pa_cons (pv 1) pa_nil)) pa_nil))))
    (pss_cons (ps_set (i := 3) sc__law_things.nd rfl (Or.inl rfl) (pe_lst pa_nil))
    (pss_cons (ps_for PassesOwn.never rfl (pi_range1 (by rfl) T.n_range (pa_cons (pe_callB call_len_seq (by rfl) T.n_len PySem.boot_len (pa_cons (pv 1) pa_nil)) pa_nil)) (pg_name (i := 4) sc__law_things.nd rfl (Or.inl rfl))
    (pss_cons (ps_set (i := 5) sc__law_things.nd rfl (Or.inl rfl) (pe_tup pa_nil))
    (pss_cons (ps_if (pt_cmpR op_eq (pe_ix ix_list (pv 1) (pv 4) (fun _ _ => rfl)) pe_str (nomark _)) (pss_one (ps_set (i := 5) sc__law_things.nd rfl (Or.inl rfl) (pe_callTy call_tuple_of (by rfl) T.n_tuple bo_tuple (pa_cons (pe_d D__law_names (hr.mono (by decide)) (by rfl) pass0 (pa_cons (pv 0) (pa_cons (pe_op op_add pe_int (pe_d D__law_draw (hr.mono (by decide)) (by rfl) pass0 (pa_cons (pv 0) (pa_cons pe_int pa_nil)))) pa_nil))) pa_nil)))) pss_nil)
    (pss_cons (ps_if (pt_cmpR op_eq (pe_ix ix_list (pv 1) (pv 4) (fun _ _ => rfl)) pe_str (nomark _)) (pss_cons (ps_setLc (i := 6) (own := [("_law_thing_here", 7)]) (g := gName 7) rfl sc__law_things.nd rfl rfl (sw_true rfl rfl rfl (by decide +kernel)) (pi_list (pv 3)) (blkOk_by (own := [("_law_thing_here", 7)]) (N := ["_law_pool_here", "_law_kinds_here", "_law_names_here", "_law_things_here", "_law_k", "_law_parts", "_law_below", "_law_thing_here"]) (sc := defScope s_law_things) (by decide +kernel)) (fun _ _ _ _ _ => (pg_name (i := 7) sc__law_things.nd rfl (Or.inl rfl))) (fun _ _ _ _ _ => (pts_one (pt_cmpR (r := rIn K false) op_in_seq (pe_ix (r := rIxT K) ix_tup (pv 7) pe_int (fun _ _ => rfl)) (pe_tup (pa_cons pe_str (pa_cons pe_str pa_nil))) (by rfl)))) (fun _ _ _ _ _ => (pe_ix (r := rIxT K) ix_tup (pv 7) pe_int (fun _ _ => rfl))))
    (pss_one (ps_set (i := 5) sc__law_things.nd rfl (Or.inl rfl) (pe_tup (pa_cons (pe_ix ix_list (pv 6) (pe_d D__law_draw (hr.mono (by decide)) (by rfl) pass0 (pa_cons (pv 0) (pa_cons (pe_callB call_len_seq (by rfl) T.n_len PySem.boot_len (pa_cons (pv 6) pa_nil)) pa_nil))) (fun _ _ => rfl)) pa_nil))))) pss_nil)
    (pss_one (ps_expr (pe_bm PySem.F.plainAttrs_list PySem.F.slot_list_append PySem.F.type_list_append mt_append (pv 3) (pa_cons (pe_tup (pa_cons (pe_ix ix_list (pv 1) (pv 4) (fun _ _ => rfl)) (pa_cons (pe_ix ix_list (pv 2) (pv 4) (fun _ _ => rfl)) (pa_cons (pv 5) pa_nil)))) pa_nil))))))))
    (pss_one (ps_ret (pv 3)))))), ?_⟩
    refine q_asgG (p := p) (q := q) (n := n) (c := 100) (H := H) (S := fun v H2 => ∃ (a : Addr) (ws : List Str), v = .ref a ∧ a ≠ p ∧ a ≠ q ∧ H2 a = some (.lst (ws.map V.str)) ∧ ws.length = ks.length ∧ (∀ z ∈ ws, okN z = true) ∧ ws.Nodup) (eg_call (vs := [.ref p, .int (ks.length : Nat)]) (ea_cons (ev_var rfl) (ea_cons (ev_is (ev_lenL (K := K) (p := ka) (xs := ks.map V.str) (ev_var (i := 1) rfl) (sq_of (by rw [bs_ne hkp hkq]; exact hka))) (by rw [List.length_map])) ea_nil)) fun H1 n' f1 P1 hl1 Q1 k1 => ⟨p, q, n', ks.length, rfl, P1, hl1, by omega, fun a ws H2 ha hw h1 h2 h3 f2 P2 => k1 _ H2 f2 P2 ⟨a, ws, rfl, (P1.ne ha).1, (P1.ne ha).2, hw, h1, h2, h3⟩⟩) P0 (by omega) fun y H1 f1 P1 hy => ?_
    obtain ⟨na, ns, rfl, hnp, hnq, hna, hnl, hnok, hnnd⟩ := hy
    refine q_asgL (el_lst ea_nil (by decide)) fun tl H2 htl1 e2 h2 => ?_
    have htn := P1.ne htl1
    have htlH : H tl = none := by
      cases hh : H tl with
      | none => rfl
      | some o =>
        have := f1 tl o htn.1 htn.2 hh
        rw [htl1] at this
        cases this
    have hka1 := f1 _ _ hkp hkq hka
    have kaB : (bs p q H1) ka = some (.lst (ks.map V.str)) := by
      rw [bs_ne hkp hkq]
      exact hka1
    have naB : (bs p q H1) na = some (.lst (ns.map V.str)) := by
      rw [bs_ne hnp hnq]
      exact hna
    refine q_forB (H := bs p q H1) (eb_rng (n := ks.length) (ea_cons (ev_is (ev_lenL (K := K) (p := ka) (xs := ks.map V.str) (ev_var (i := 1) rfl) (sq_of kaB)) (by rw [List.length_map])) ea_nil) (by omega)) (Fr.bs (Fr.ex e2)) (fun i σ' H' => ∃ (tvs : List V) (ths : List TH) (y4 y5 y6 y7 : Option V), σ' = [some (.ref p), some (.ref ka), some (.ref na), some (.ref tl), y4, y5, y6, y7] ∧ Fr p q H1 H' ∧ Pool H' p q (n + 100 + i * 110) ∧ H' tl = some (.lst tvs) ∧ TupsV H' tvs ths ∧ Grow ks ns i ths)
      (fun H3 e3 => ⟨[], [], none, none, none, none, rfl, (Fr.ex e2).trans (Fr.ex e3), ((P1.ex e2).ex e3).le (by omega), e3 _ _ h2, .nil, rfl, rfl, rfl, (fun t h => by cases h), fun j t h => by cases h⟩) (fun i σ' H' pv => by
      obtain ⟨_, _, _, _, _, _, _, f, _⟩ := pv
      exact f.bs) (fun i x σ' H' hx pv => ?_) fun σ' H' pv => ?_
    · obtain ⟨tvs, ths, y4, y5, y6, y7, rfl, f, Pi, hw, hT, hg⟩ := pv
      have hil : i < ks.length := by
        have := (List.getElem?_eq_some_iff.mp hx).1
        simpa [nats] using this
      obtain rfl : x = .int (i : Nat) := by
        simp [nats, hil] at hx
        exact hx.symm
      obtain ⟨kd, hkd⟩ : ∃ kd, ks[i]? = some kd := ⟨_, List.getElem?_eq_getElem hil⟩
      obtain ⟨nm, hnm⟩ : ∃ nm, ns[i]? = some nm := ⟨_, List.getElem?_eq_getElem (by omega)⟩
      have hkd7 := hkk kd (List.mem_of_getElem? hkd)
      have hnmok := hnok nm (List.mem_of_getElem? hnm)
      have hkdV : (ks.map V.str)[i]? = some (.str kd) := by
        rw [List.getElem?_map, hkd]
        rfl
      have hnmV : (ns.map V.str)[i]? = some (.str nm) := by
        rw [List.getElem?_map, hnm]
        rfl
      have hka' := f _ _ hkp hkq hka1
      have hna' := f _ _ hnp hnq hna
      have htlen : tvs.length = ths.length := Paired.length hT
      -- parts = ()
      refine q_asgU (eu_tup ea_nil (by decide)) fun pt0 H3 hpt0 e3 h3 => ?_
      have kdAt : ∀ {σ' : L2.St} {Hx : Hp}, σ'[1]? = some (some (.ref ka)) → σ'[4]? = some (some (.int (i : Nat))) → Hx ka = some (.lst (ks.map V.str)) → Ev (tOp (rIxL K) (tVar 1) (tVar 4)) σ' Hx (.str kd) := fun h1 h2 h3 => ev_ixL (ev_var h1) (sq_of h3) (ev_var h2) (atI_nat (j := i) hkdV)
      -- a table's keys
      refine q_ifJ (tw := tNext) (b := decide (kd = "table")) (fun σ' H4 => ∃ (pt : Addr) (ps : List Str) (y6 y7 : Option V), σ' = [some (.ref p), some (.ref ka), some (.ref na), some (.ref tl), some (.int (i : Nat)), some (.ref pt), y6, y7] ∧ Fr p q H' H4 ∧ Pool H4 p q (n + 100 + i * 110 + 101) ∧ H4 pt = some (.tup (ps.map V.str)) ∧ (kd = "table" → (ps.length = 1 ∨ ps.length = 2) ∧ (∀ z ∈ ps, okN z = true) ∧ ps.Nodup) ∧ (¬ kd = "table" → ps = [])) (et_test (ev_eqS (kdAt rfl rfl (e3 _ _ hka')) ev_c)) (fun σ' H4 hJ => ?_) (fun hb k H4 e4 => ?_) fun hb k H4 e4 => k _ _ ⟨pt0, [], y6, y7, rfl, (Fr.ex e3).trans (Fr.ex e4), ((Pi.ex e3).ex e4).le (by omega), e4 _ _ h3, fun z => absurd z (of_decide_eq_false hb), fun _ => rfl⟩
      · obtain ⟨pt, ps, y6, y7, rfl, f4, P4, hpt, htab, hntab⟩ := hJ
        have hka4 := f4 _ _ hkp hkq hka'
        have hna4 := f4 _ _ hnp hnq hna'
        have hw4 := f4 _ _ htn.1 htn.2 hw
        have kp4 := Pi.kp f4 P4
        have hT4 : TupsV H4 tvs ths := Paired.imp (fun _ _ z => z.kp kp4) hT
        have thok : ¬ kd = "field" → ThOk ⟨kd, nm, ps⟩ := fun hnf => by
          by_cases ht : kd = "table"
          · obtain ⟨h1, h2, h3'⟩ := htab ht
            refine ⟨hnmok, h2, Or.inr (Or.inr ⟨ht, ?_⟩)⟩
            rcases h1 with h1 | h1
            · obtain ⟨k, rfl⟩ := List.length_eq_one_iff.mp h1
              exact Or.inl ⟨k, rfl⟩
            · obtain ⟨k, l, rfl⟩ : ∃ k l, ps = [k, l] := by
                match ps, h1 with
                | [k, l], _ => exact ⟨k, l, rfl⟩
              refine Or.inr ⟨k, l, rfl, fun z => ?_⟩
              rw [z] at h3'
              simp at h3'
          · rw [hntab ht]
            refine ⟨hnmok, (fun z hz => by cases hz), Or.inl ⟨?_, rfl⟩⟩
            have : ∀ k ∈ kinds7b, ¬ k = "field" → ¬ k = "table" → k ∈ plainKinds := by decide +kernel
            exact this kd hkd7 hnf ht
        refine q_ifJ (tw := tNext) (b := decide (kd = "field")) (fun σ' H5 => ∃ (pt : Addr) (ps : List Str) (y6 y7 : Option V), σ' = [some (.ref p), some (.ref ka), some (.ref na), some (.ref tl), some (.int (i : Nat)), some (.ref pt), y6, y7] ∧ Fr p q H' H5 ∧ Pool H5 p q (n + 100 + i * 110 + 102) ∧ H5 pt = some (.tup (ps.map V.str)) ∧ ThOk ⟨kd, nm, ps⟩ ∧ (kd = "field" → ∃ o, ps = [o] ∧ ∃ (l : Nat) (u : TH), ths[l]? = some u ∧ u.name = o ∧ (u.kind = "source" ∨ u.kind = "field"))) (et_test (ev_eqS (kdAt rfl rfl hka4) ev_c)) (fun σ' H5 hJ => ?_) (fun hb k H5 e5 => ?_) fun hb k H5 e5 => k _ _ ⟨pt, ps, y6, y7, rfl, f4.trans (Fr.ex e5), (P4.ex e5).le (by omega), e5 _ _ hpt, thok (of_decide_eq_false hb), fun z => absurd z (of_decide_eq_false hb)⟩
        · obtain ⟨pt, ps, y6, y7, rfl, f5, P5, hpt, hok, hup⟩ := hJ
          have hka5 := f5 _ _ hkp hkq hka'
          have hna5 := f5 _ _ hnp hnq hna'
          have hw5 := f5 _ _ htn.1 htn.2 hw
          have kp5 := Pi.kp f5 P5
          refine s_appU (ys := [.str kd, .str nm, .ref pt]) hw5 (ev_var (i := 3) rfl) (eu_tup (ea_cons (kdAt rfl rfl hka5) (ea_cons (ev_ixL (ev_var (i := 2) rfl) (sq_of hna5) (ev_var (i := 4) rfl) (atI_nat (j := i) hnmV)) (ea_cons (ev_var (i := 5) rfl) ea_nil))) (by simp)) (by rw [htlen, hg.len]; omega) fun ta H6 hta e6 h6 => ?_
          have hw6 := e6 _ _ hw5
          have kpd : Kp H6 (upd H6 tl (.lst (tvs ++ [.ref ta]))) := Kp.put hw6
          refine ⟨tvs ++ [.ref ta], ths ++ [⟨kd, nm, ps⟩], _, _, _, _, rfl, ?_, ((P5.ex e6).put htn.1 htn.2).le (by omega), upd_same, Paired.snoc (Paired.imp (fun _ _ z => z.kp (kp5.trans ((Kp.ex e6).trans kpd))) hT) ⟨ta, pt, rfl, kpd.tup h6, kpd.tup (e6 _ _ hpt)⟩, hg.snoc hkd hnm hok hup⟩
          intro c' o h1 h2 h
          by_cases e : c' = tl
          · rw [e] at h
            have : H1 tl = none := htl1
            rw [this] at h
            cases h
          · rw [upd_ne e]
            exact ((f.trans f5).trans (Fr.ex e6)) c' o h1 h2 h
        · have hf := of_decide_eq_true hb
          have hw5 := e5 _ _ hw4
          have hT5 : TupsV H5 tvs ths := Paired.imp (fun _ _ z => z.kp (Kp.ex e5)) hT4
          let cT : TH → Bool := fun t => decide (t.kind ∈ (["source", "field"] : List Str))
          have hfm : ∀ l : List TH, (l.map fun t => if cT t = true then some (V.str t.name) else none).filterMap id = ((l.filter cT).map TH.name).map V.str := by
            intro l
            induction l with
            | nil => rfl
            | cons t r ih =>
              rw [List.map_cons, List.filter_cons]
              cases hc : cT t with
              | true =>
                rw [if_pos rfl, if_pos rfl]
                show V.str t.name :: _ = V.str t.name :: _
                rw [ih]
              | false =>
                rw [if_neg (by decide), if_neg (by decide)]
                exact ih
          refine q_asgL (el_lcR (ths.map fun t => if cT t = true then some (V.str t.name) else none) (ei_list (ev_var (i := 3) rfl) (sq_of hw5)) (by rw [htlen, hg.len]; omega) (paired_map (fun v t h => ?_) hT5)) fun bl H6 hbl e6 h6 => ?_
          · obtain ⟨ta, tb, rfl, h1, h2⟩ := h
            refine tgO_name rfl (fun H7 e7 => ?_) fun H7 e7 v hv => ?_
            · have z : (if cT t = true then some (V.str t.name) else none).isSome = decide (t.kind ∈ (["source", "field"] : List Str)) := by
                show _ = cT t
                cases cT t <;> rfl
              rw [z]
              exact et_test (ev_inD ["source", "field"] (ev_ixT (ev_var (i := 7) rfl) (st_of (e7 _ _ h1)) ev_c (atI_nat (j := 0) rfl)) (eu_tup (ea_cons ev_c (ea_cons ev_c ea_nil)) (by simp)))
            · cases hk : cT t with
              | true =>
                rw [hk] at hv
                rw [← Option.some.inj hv]
                exact ev_ixT (ev_var (i := 7) rfl) (st_of (e7 _ _ h1)) ev_c (atI_nat (j := 1) rfl)
              | false =>
                rw [hk] at hv
                cases hv
          rw [hfm] at h6
          have P6 := (P4.ex e5).ex e6
          have hbn := (P4.ex e5).ne hbl
          have hsrc : ("source" : Str) ∈ ths.map TH.kind := by
            rw [hg.kd]
            exact hko i (by rw [hkd, hf])
          have hbpos : 0 < ((ths.filter cT).map TH.name).length := by
            obtain ⟨t, ht, hts⟩ := List.mem_map.mp hsrc
            rw [List.length_map]
            refine List.length_pos_iff.mpr fun z => ?_
            have : t ∈ ths.filter cT := List.mem_filter.mpr ⟨ht, decide_eq_true (by rw [hts]; decide)⟩
            rw [z] at this
            cases this
          have hb6 : ((ths.filter cT).map TH.name).length ≤ 6 := by
            rw [List.length_map]
            have := List.length_filter_le cT ths
            have := hg.len
            omega
          refine (eg_op1 (r := rIxL K) (x := .ref bl) (S := fun y _ => ∃ o : Str, y = .str o ∧ o ∈ (ths.filter cT).map TH.name) (ev_var (i := 6) rfl) (eg_draw (m := ((ths.filter cT).map TH.name).length) (ev_var (i := 0) rfl) (ev_is (ev_lenL (K := K) (p := bl) (xs := ((ths.filter cT).map TH.name).map V.str) (ev_var (i := 6) rfl) (sq_of (by rw [bs_ne hbn.1 hbn.2]; exact h6))) (by rw [List.length_map])) hbpos (by omega)) (fun y H7 m7 f7 P7 hy => ?_) : EvG p q 1 _ _ H6 _) H6 _ Fr.refl P6 (by unfold Lim at *; omega) _ fun y H7 f7 P7 hy => ?_
          · obtain ⟨d, rfl, hd⟩ := hy
            refine ⟨.str ((ths.filter cT).map TH.name)[d], fun Q q => ⟨bl, _, d, _, rfl, rfl, sq_of (f7 _ _ hbn.1 hbn.2 h6), atI_nat (j := d) ?_, q⟩, _, rfl, List.getElem_mem hd⟩
            rw [List.getElem?_map, List.getElem?_eq_getElem hd]
            rfl
          · obtain ⟨o, rfl, ho⟩ := hy
            obtain ⟨t, htm, rfl⟩ := List.mem_map.mp ho
            obtain ⟨ht1, ht2⟩ := List.mem_filter.mp htm
            obtain ⟨l, hl'⟩ := List.getElem?_of_mem ht1
            refine ⟨by show 1 ≤ sizeLine; decide, fun pp hpp => k _ _ ⟨pp, [t.name], _, _, rfl, (((f4.trans (Fr.ex e5)).trans (Fr.ex e6)).trans f7).trans (Fr.ex (Ex.new hpp)), (P7.ex (Ex.new hpp)).le (by omega), upd_same, ⟨hnmok, fun z hz => ?_, Or.inr (Or.inl ⟨hf, _, rfl⟩)⟩, fun _ => ⟨_, rfl, l, t, hl', rfl, ?_⟩⟩⟩
            · rw [List.mem_singleton.mp hz]
              exact (hg.ok t ht1).1
            · have := of_decide_eq_true ht2
              simpa using this
      · refine s_asgG (p := p) (q := q) (n := n + 100 + i * 110) (c := 101) (H := H4) (eg_tup (S := fun xs _ => ∃ ws : List Str, xs = ws.map V.str ∧ (ws.length = 1 ∨ ws.length = 2) ∧ (∀ z ∈ ws, okN z = true) ∧ ws.Nodup) (fun _ _ _ _ h => h) (eg_names12 (ev_var rfl))) ((Pi.ex e3).ex e4) (by unfold Lim at *; omega) fun y H5 f5 P5 hy => ?_
        obtain ⟨pt, xs, rfl, hpt, ws, rfl, h1, h2, h3'⟩ := hy
        exact k _ _ ⟨pt, ws, y6, y7, rfl, ((Fr.ex e3).trans (Fr.ex e4)).trans f5, P5, hpt, fun _ => ⟨h1, h2, h3'⟩, fun z => absurd (of_decide_eq_true hb) z⟩
    · obtain ⟨tvs, ths, y4, y5, y6, y7, rfl, f, Pi, hw, hT, hg⟩ := pv
      have hnl2 : (nats ks.length).length = ks.length := by simp [nats]
      rw [hnl2] at hg Pi
      have hnm := hg.nm
      rw [show ks.length = ns.length from hnl.symm, List.take_length] at hnm
      refine s_ret (ev_var (i := 3) rfl) fun H5 e5 => k0 tl tvs ths H5 htlH (e5 _ _ hw) (Paired.imp (fun _ _ z => z.kp (Kp.ex e5)) hT) ⟨by rw [hg.len]; omega, by rw [hnm]; exact hnnd, hg.ok, hg.up⟩ (by rw [hg.len]; exact hk1) (by rw [hg.len]; exact hk6) ((f1.trans f).trans (Fr.ex e5)) ((Pi.ex e5).le (by omega))
end
end Q7
/-! _law_wide_look -/
namespace Q7
open PySem PySem.Spec PyProof.Rows L2 Evl
/-- the things, as the generators have them -/
structure ThE (H : Hp) (p q a : Addr) (tvs : List V) (ths : List TH) : Prop where
  np : a ≠ p
  nq : a ≠ q
  at_ : H a = some (.lst tvs)
  tv : TupsV H tvs ths
  ok : ∀ t ∈ ths, ThOk t
  pos : 1 ≤ ths.length
  few : ths.length ≤ 6
theorem ThE.go {H H' : Hp} {p q a : Addr} {tvs : List V} {ths : List TH} {n m : Nat} (e : ThE H p q a tvs ths) (f : Fr p q H H') (P0 : Pool H p q n) (P1 : Pool H' p q m) : ThE H' p q a tvs ths :=
  ⟨e.np, e.nq, f _ _ e.np e.nq e.at_, Paired.imp (fun _ _ z => z.kp (P0.kp f P1)) e.tv, e.ok, e.pos, e.few⟩
section
variable {K : PySem.W.Frag} {p q : Addr} {σ : L2.St} {H : Hp} {te tp : TE} {E : XK}
/-- xs[draw(len(xs))] -/
theorem eg_pickL {a : Addr} {xs : List V} (hp : Ev tp σ (bs p q H) (.ref p)) (hx : Ev te σ (bs p q H) (.ref a)) (h1 : a ≠ p) (h2 : a ≠ q) (ha : H a = some (.lst xs)) (h0 : 0 < xs.length) (hz : xs.length ≤ 1000) :
    EvG p q 1 (tOp (rIxL K) te (tCallR spDraw E (tCons tp (tCons (tCB (rLenQ K) (tCons te tNil)) tNil)))) σ H (fun y _ => y ∈ xs) :=
  eg_op1 (r := rIxL K) (x := .ref a) hx (eg_draw (m := xs.length) hp (ev_lenL (K := K) (p := a) (xs := xs) hx (sq_of (by rw [bs_ne h1 h2]; exact ha))) h0 hz) fun y H2 n f2 P2 hy => by
    obtain ⟨d, rfl, hd⟩ := hy
    exact ⟨xs[d], fun Q k => ⟨a, xs, d, _, rfl, rfl, sq_of (f2 _ _ h1 h2 ha), atI_nat (j := d) (List.getElem?_eq_getElem hd), k⟩, List.getElem_mem hd⟩
theorem eg_pickT {a : Addr} {xs : List V} (hp : Ev tp σ (bs p q H) (.ref p)) (hx : Ev te σ (bs p q H) (.ref a)) (h1 : a ≠ p) (h2 : a ≠ q) (ha : H a = some (.tup xs)) (h0 : 0 < xs.length) (hz : xs.length ≤ 1000) :
    EvG p q 1 (tOp (rIxT K) te (tCallR spDraw E (tCons tp (tCons (tCB (rLenQ K) (tCons te tNil)) tNil)))) σ H (fun y _ => y ∈ xs) :=
  eg_op1 (r := rIxT K) (x := .ref a) hx (eg_draw (m := xs.length) hp (ev_lenT (K := K) (p := a) (xs := xs) hx (st_of (by rw [bs_ne h1 h2]; exact ha))) h0 hz) fun y H2 n f2 P2 hy => by
    obtain ⟨d, rfl, hd⟩ := hy
    exact ⟨xs[d], fun Q k => ⟨a, xs, d, _, rfl, rfl, st_of (f2 _ _ h1 h2 ha), atI_nat (j := d) (List.getElem?_eq_getElem hd), k⟩, List.getElem_mem hd⟩
end
section
variable {P : Program} {w : World} {K : PySem.W.Frag} {mg : Str → Option Value} {base : Heap}
/-- a look, of two or three words -/
def LookR (H : Hp) (v : V) (ws : List Str) : Prop := LkV H v ws ∧ 2 ≤ ws.length ∧ ws.length ≤ 3 ∧ Sh ws
def spGLook (c : Nat) : Sp := fun vs H Q _ => ∃ (p q a : Addr) (n : Nat) (tvs : List V) (ths : List TH), vs = [.ref p, .ref a] ∧ Pool H p q n ∧ n + c ≤ Lim ∧ ThE H p q a tvs ths ∧ ∀ y ws H', LookR H' y ws → Fr p q H H' → Pool H' p q (n + c) → Q y H'
theorem words_len : ∀ k ∈ kinds7b, ∀ b : Bool, 0 < (wordsOf k b).length ∧ (wordsOf k b).length ≤ 20 ∧ ∀ z ∈ wordsOf k b, z.length ≤ 10 := by decide +kernel
theorem kinds_7 : ∀ k ∈ kinds7b, k ∈ kinds7 := by decide +kernel
theorem ThOk.kind {t : TH} (h : ThOk t) : t.kind ∈ kinds7b := by
  obtain ⟨_, _, h⟩ := h
  rcases h with ⟨h, _⟩ | ⟨h, _⟩ | ⟨h, _⟩
  · exact (by decide +kernel : ∀ k ∈ plainKinds, k ∈ kinds7b) _ h
  · rw [h]
    decide +kernel
  · rw [h]
    decide +kernel
/-- a word with a key: of tables alone -/
theorem keyed_table : ∀ k ∈ kinds7b, ∀ b : Bool, ∀ z ∈ wordsOf k b, z ∈ (["get", "drop", "peek", "has", "put", "fill"] : List Str) → k = "table" := by decide +kernel
theorem sh_cons {z : Str} {ws : List Str} (h : z.length ≤ 100000) (hs : Sh ws) (hl : ws.length ≤ 900) : Sh (z :: ws) := ⟨by rw [List.length_cons]; omega, fun w hw => by
  rcases List.mem_cons.mp hw with rfl | hw
  · exact h
  · exact hs.2 w hw⟩
theorem sh_nil : Sh [] := ⟨by simp, fun w hw => by cases hw⟩
theorem sc__law_wide_look : FnScope ["_law_pool_here", "_law_things_here", "_law_kind", "_law_x", "_law_parts", "_law_words_here", "_law_word_here"] ["_law_pool_here", "_law_things_here"] (defScope s_law_wide_look) := ⟨rfl, rfl, rfl, by decide +kernel, rfl, by decide +kernel, by decide +kernel⟩
theorem D__law_wide_look (T : Txt w K mg) (D__law_draw : Dn P w K mg base CX0 1 "_law_draw" spDraw) (D__law_words : Dn P w K mg base CX0 1 "_law_words" (spWords K)) : Dn P w K mg base CX0 2 "_law_wide_look" (spGLook 3) := by
  refine mkD0 T.fds_law_wide_look T.g__law_wide_look T.kps_law_wide_look sc__law_wide_look (fun _ _ _ _ _ _ us hl => match us, hl with | [_, _], _ => rfl) (fun vs H Q E h => ?_) (fun cdv A outer s H vs Q E hr h => ?_)
  · obtain ⟨p, q, a, n, tvs, ths, rfl, _⟩ := h
    rfl
  · obtain ⟨p, q, a, n, tvs, ths, rfl, P0, hl, hE, k0⟩ := h
    refine ⟨_, (pss_cons (ps_asg (pe_ix ix_list (pv 1) (pe_d D__law_draw (hr.mono (by decide)) (by rfl) pass0 (pa_cons (pv 0) (pa_cons (pe_callB call_len_seq (by rfl) T.n_len PySem.boot_len (pa_cons (pv 1) pa_nil)) pa_nil))) (fun _ _ => rfl)) (pg_tup rfl (pgs_cons (pg_name (i := 2) sc__law_wide_look.nd rfl (Or.inl rfl)) (pgs_cons (pg_name (i := 3) sc__law_wide_look.nd rfl (Or.inl rfl)) (pgs_cons (pg_name (i := 4) sc__law_wide_look.nd rfl (Or.inl rfl)) pgs_nil)))))
    (pss_cons (ps_set (i := 5) sc__law_wide_look.nd rfl (Or.inl rfl) (pe_d D__law_words (hr.mono (by decide)) (by rfl) pass0 (pa_cons (pv 2) (pa_cons pe_bl pa_nil))))
    (pss_cons (ps_set (i := 6) sc__law_wide_look.nd rfl (Or.inl rfl) (pe_ix ix_list (pv 5) (pe_d D__law_draw (hr.mono (by decide)) (by rfl) pass0 (pa_cons (pv 0) (pa_cons (pe_callB call_len_seq (by rfl) T.n_len PySem.boot_len (pa_cons (pv 5) pa_nil)) pa_nil))) (fun _ _ => rfl)))
    (pss_one (ps_ret (pe_ifExp (pt_cmpR op_in_seq (pv 6) (pe_tup (pa_cons pe_str (pa_cons pe_str (pa_cons pe_str (pa_cons pe_str pa_nil))))) (by rfl)) (pe_tup (pa_cons (pv 6) (pa_cons (pv 3) (pa_cons (pe_ix ix_tup (pv 4) (pe_d D__law_draw (hr.mono (by decide)) (by rfl) pass0 (pa_cons (pv 0) (pa_cons (pe_callB call_len_seq (by rfl) T.n_len PySem.boot_len (pa_cons (pv 4) pa_nil)) pa_nil))) (fun _ _ => rfl)) pa_nil)))) (pe_tup (pa_cons (pv 6) (pa_cons (pv 3) pa_nil))))))))), ?_⟩
    have htl : tvs.length = ths.length := Paired.length hE.tv
    have hpos := hE.pos
    have hfew := hE.few
    refine (eg_pickL (K := K) (a := a) (xs := tvs) (ev_var (i := 0) rfl) (ev_var (i := 1) rfl) hE.np hE.nq hE.at_ (by omega) (by omega) : EvG p q 1 _ (start ["_law_pool_here", "_law_things_here", "_law_kind", "_law_x", "_law_parts", "_law_words_here", "_law_word_here"] [.ref p, .ref a]) H _) H n Fr.refl P0 (by omega) _ fun y H1 f1 P1 hy => ?_
    obtain ⟨i, hi⟩ := List.getElem?_of_mem hy
    have hE1 := hE.go f1 P0 P1
    obtain ⟨t, ht, ta, tb, rfl, g1, g2⟩ := paired_get hE1.tv hi
    have htok := hE.ok t (List.mem_of_getElem? ht)
    have hk := htok.kind
    refine ⟨ta, _, rfl, st_of g1, rfl, _, _, rfl, _, _, rfl, _, _, rfl, rfl, ?_⟩
    refine q_asgL (xs := (wordsOf t.kind true).map V.str) (el_d (ea_cons (ev_var (i := 2) rfl) (ea_cons ev_c ea_nil)) fun H2 e2 Q2 q2 => ⟨t.kind, true, rfl, kinds_7 _ hk, q2⟩) fun wl H2 hwl e2 h2 => ?_
    have hwn := P1.ne hwl
    obtain ⟨hw0, hw1, hw2⟩ := words_len _ hk true
    refine q_asgG (p := p) (q := q) (n := n + 1) (c := 1) (H := H2) (eg_pickL (K := K) (a := wl) (ev_var (i := 0) rfl) (ev_var (i := 5) rfl) hwn.1 hwn.2 h2 (by rw [List.length_map]; exact hw0) (by rw [List.length_map]; omega)) (P1.ex e2) (by omega) fun y H3 f3 P3 hy => ?_
    obtain ⟨wd, hwd, rfl⟩ := List.mem_map.mp hy
    have hwdl := hw2 wd hwd
    have kp3 := P1.kp ((Fr.ex e2).trans f3) P3
    have g23 := kp3.tup g2
    have hnl := okN_len htok.1
    have f13 := (f1.trans (Fr.ex e2)).trans f3
    refine (et_test (ev_inD (K := K) ["get", "drop", "peek", "has"] (ev_var (i := 6) (v := .str wd) rfl) (eu_tup (ea_cons ev_c (ea_cons ev_c (ea_cons ev_c (ea_cons ev_c ea_nil)))) (by simp))) : EvT _ [some (.ref p), some (.ref a), some (.str t.kind), some (.str t.name), some (.ref tb), some (.ref wl), some (.str wd)] H3 _) H3 (Ex.refl H3) _ fun H4 e4 => ?_
    have P4 := P3.ex e4
    have g24 := e4 _ _ g23
    by_cases hkd : wd ∈ (["get", "drop", "peek", "has"] : List Str)
    · rw [decide_eq_true hkd]
      refine iteT ?_
      have htab : t.kind = "table" := keyed_table _ hk true wd hwd ((by decide +kernel : ∀ z ∈ (["get", "drop", "peek", "has"] : List Str), z ∈ (["get", "drop", "peek", "has", "put", "fill"] : List Str)) wd hkd)
      have hps : 0 < t.parts.length ∧ t.parts.length ≤ 2 := by
        obtain ⟨_, _, h⟩ := htok
        rcases h with ⟨h, _⟩ | ⟨h, _⟩ | ⟨_, ⟨k, h⟩ | ⟨k, l, h, _⟩⟩
        · rw [htab] at h
          exact absurd h (by decide +kernel)
        · rw [htab] at h
          exact absurd h (by decide)
        · rw [h]
          simp
        · rw [h]
          simp
      refine ⟨_, rfl, _, rfl, ?_⟩
      have tn := P4.tup g24
      refine (eg_pickT (K := K) (a := tb) (xs := t.parts.map V.str) (ev_var (i := 0) rfl) (ev_var (i := 4) rfl) tn.1 tn.2 g24 (by rw [List.length_map]; exact hps.1) (by rw [List.length_map]; omega) : EvG p q 1 _ [some (.ref p), some (.ref a), some (.str t.kind), some (.str t.name), some (.ref tb), some (.ref wl), some (.str wd)] H4 _) H4 (n + 1 + 1) Fr.refl P4 (by omega) _ fun y H5 f5 P5 hy => ⟨by show 3 ≤ sizeLine; decide, fun pp hpp => ?_⟩
      obtain ⟨kz, hkz, rfl⟩ := List.mem_map.mp hy
      have hkl := okN_len (htok.2.1 kz hkz)
      exact k0 _ [wd, t.name, kz] _ ⟨⟨pp, rfl, upd_same⟩, by simp, by simp, sh_cons (by omega) (sh_cons hnl (sh_cons hkl sh_nil (by simp)) (by simp)) (by simp)⟩ (((f13.trans (Fr.ex e4)).trans f5).trans (Fr.ex (Ex.new hpp))) (P5.ex (Ex.new hpp))
    · rw [decide_eq_false hkd]
      refine iteF ?_
      refine ⟨_, rfl, _, rfl, by show 2 ≤ sizeLine; decide, fun pp hpp => ?_⟩
      exact k0 _ [wd, t.name] _ ⟨⟨pp, rfl, upd_same⟩, by simp, by simp, sh_cons (by omega) (sh_cons hnl sh_nil (by simp)) (by simp)⟩ ((f13.trans (Fr.ex e4)).trans (Fr.ex (Ex.new hpp))) ((P4.ex (Ex.new hpp)).le (by omega))
end
end Q7
/-! _law_wide_deed -/
namespace Q7
open PySem PySem.Spec PyProof.Rows L2 Evl
section
variable {P : Program} {w : World} {K : PySem.W.Frag} {mg : Str → Option Value} {base : Heap}
theorem names_filter (c : TH → Bool) (l : List TH) : (l.map fun t => if c t = true then some (V.str t.name) else none).filterMap id = ((l.filter c).map TH.name).map V.str := by
  induction l with
  | nil => rfl
  | cons t r ih =>
    rw [List.map_cons, List.filter_cons]
    cases hc : c t with
    | true =>
      rw [if_pos rfl, if_pos rfl]
      show V.str t.name :: _ = V.str t.name :: _
      rw [ih]
    | false =>
      rw [if_neg (by decide), if_neg (by decide)]
      exact ih
theorem sc__law_wide_deed : FnScope ["_law_pool_here", "_law_things_here", "_law_kind", "_law_x", "_law_parts", "_law_words_here", "_law_word_here", "_law_like", "_law_other"] ["_law_pool_here", "_law_things_here"] (defScope s_law_wide_deed) := ⟨rfl, rfl, rfl, by decide +kernel, rfl, by decide +kernel, by decide +kernel⟩
theorem D__law_wide_deed (T : Txt w K mg) (D__law_draw : Dn P w K mg base CX0 1 "_law_draw" spDraw) (D__law_words : Dn P w K mg base CX0 1 "_law_words" (spWords K)) : Dn P w K mg base CX0 2 "_law_wide_deed" (spGLook 3) := by
  refine mkD0 T.fds_law_wide_deed T.g__law_wide_deed T.kps_law_wide_deed sc__law_wide_deed (fun _ _ _ _ _ _ us hl => match us, hl with | [_, _], _ => rfl) (fun vs H Q E h => ?_) (fun cdv A outer s H vs Q E hr h => ?_)
  · obtain ⟨p, q, a, n, tvs, ths, rfl, _⟩ := h
    rfl
  · obtain ⟨p, q, a, n, tvs, ths, rfl, P0, hl, hE, k0⟩ := h
    refine ⟨_, (pss_cons (ps_asg (pe_ix ix_list (pv 1) (pe_d D__law_draw (hr.mono (by decide)) (by rfl) pass0 (pa_cons (pv 0) (pa_cons (pe_callB call_len_seq (by rfl) T.n_len PySem.boot_len (pa_cons (pv 1) pa_nil)) pa_nil))) (fun _ _ => rfl)) (pg_tup rfl (pgs_cons (pg_name (i := 2) sc__law_wide_deed.nd rfl (Or.inr rfl)) (pgs_cons (pg_name (i := 3) sc__law_wide_deed.nd rfl (Or.inl rfl)) (pgs_cons (pg_name (i := 4) sc__law_wide_deed.nd rfl (Or.inl rfl)) pgs_nil)))))
    (pss_cons (ps_set (i := 5) sc__law_wide_deed.nd rfl (Or.inl rfl) (pe_d D__law_words (hr.mono (by decide)) (by rfl) pass0 (pa_cons (pv 2) (pa_cons pe_bl pa_nil))))
    (pss_cons (ps_set (i := 6) sc__law_wide_deed.nd rfl (Or.inl rfl) (pe_ix ix_list (pv 5) (pe_d D__law_draw (hr.mono (by decide)) (by rfl) pass0 (pa_cons (pv 0) (pa_cons (pe_callB call_len_seq (by rfl) T.n_len PySem.boot_len (pa_cons (pv 5) pa_nil)) pa_nil))) (fun _ _ => rfl)))
    (pss_cons (ps_if (pt_cmpR op_in_seq (pv 6) (pe_tup (pa_cons pe_str (pa_cons pe_str (pa_cons pe_str (pa_cons pe_str (pa_cons pe_str pa_nil)))))) (by rfl)) (pss_one (ps_ret (pe_tup (pa_cons (pv 6) (pa_cons (pv 3) (pa_cons (pe_ix ix_tup (pv 4) (pe_d D__law_draw (hr.mono (by decide)) (by rfl) pass0 (pa_cons (pv 0) (pa_cons (pe_callB call_len_seq (by rfl) T.n_len PySem.boot_len (pa_cons (pv 4) pa_nil)) pa_nil))) (fun _ _ => rfl)) pa_nil)))))) pss_nil)
    (pss_cons (ps_setLc (i := 7) (own := [("_law_other", 8)]) (g := gName 8) rfl sc__law_wide_deed.nd rfl rfl (sw_true rfl rfl rfl (by decide +kernel)) (pi_list (pv 1)) (blkOk_by (own := [("_law_other", 8)]) (N := ["_law_pool_here", "_law_things_here", "_law_kind", "_law_x", "_law_parts", "_law_words_here", "_law_word_here", "_law_like", "_law_other"]) (sc := defScope s_law_wide_deed) (by decide +kernel)) (fun _ _ _ _ _ => (pg_name (i := 8) sc__law_wide_deed.nd rfl (Or.inl rfl))) (fun _ _ _ _ _ => (pts_one (pt_cmpR op_eq (pe_ix (r := rIxT K) ix_tup (pv 8) pe_int (fun _ _ => rfl)) (pv 2) (nomark _)))) (fun _ _ _ _ _ => (pe_ix (r := rIxT K) ix_tup (pv 8) pe_int (fun _ _ => rfl))))
    (pss_one (ps_ret (pe_ifExp (pt_cmpR op_in_seq (pv 6) (pe_tup (pa_cons pe_str (pa_cons pe_str pa_nil))) (by rfl)) (pe_tup (pa_cons (pv 6) (pa_cons (pv 3) (pa_cons (pe_ix ix_list (pv 7) (pe_d D__law_draw (hr.mono (by decide)) (by rfl) pass0 (pa_cons (pv 0) (pa_cons (pe_callB call_len_seq (by rfl) T.n_len PySem.boot_len (pa_cons (pv 7) pa_nil)) pa_nil))) (fun _ _ => rfl)) pa_nil)))) (pe_tup (pa_cons (pv 6) (pa_cons (pv 3) pa_nil))))))))))), ?_⟩
    have htl : tvs.length = ths.length := Paired.length hE.tv
    have hpos := hE.pos
    have hfew := hE.few
    refine (eg_pickL (K := K) (a := a) (xs := tvs) (ev_var (i := 0) rfl) (ev_var (i := 1) rfl) hE.np hE.nq hE.at_ (by omega) (by omega) : EvG p q 1 _ (start ["_law_pool_here", "_law_things_here", "_law_kind", "_law_x", "_law_parts", "_law_words_here", "_law_word_here", "_law_like", "_law_other"] [.ref p, .ref a]) H _) H n Fr.refl P0 (by omega) _ fun y H1 f1 P1 hy => ?_
    obtain ⟨i, hi⟩ := List.getElem?_of_mem hy
    have hE1 := hE.go f1 P0 P1
    obtain ⟨t, ht, ta, tb, rfl, g1, g2⟩ := paired_get hE1.tv hi
    have htok := hE.ok t (List.mem_of_getElem? ht)
    have hk := htok.kind
    refine ⟨ta, _, rfl, st_of g1, rfl, _, _, rfl, _, _, rfl, _, _, rfl, rfl, ?_⟩
    refine q_asgL (xs := (wordsOf t.kind false).map V.str) (el_d (ea_cons (ev_var (i := 2) rfl) (ea_cons ev_c ea_nil)) fun H2 e2 Q2 q2 => ⟨t.kind, false, rfl, kinds_7 _ hk, q2⟩) fun wl H2 hwl e2 h2 => ?_
    have hwn := P1.ne hwl
    obtain ⟨hw0, hw1, hw2⟩ := words_len _ hk false
    refine q_asgG (p := p) (q := q) (n := n + 1) (c := 1) (H := H2) (eg_pickL (K := K) (a := wl) (ev_var (i := 0) rfl) (ev_var (i := 5) rfl) hwn.1 hwn.2 h2 (by rw [List.length_map]; exact hw0) (by rw [List.length_map]; omega)) (P1.ex e2) (by omega) fun y H3 f3 P3 hy => ?_
    obtain ⟨wd, hwd, rfl⟩ := List.mem_map.mp hy
    have hwdl := hw2 wd hwd
    have kp3 := P1.kp ((Fr.ex e2).trans f3) P3
    have g23 := kp3.tup g2
    have hnl := okN_len htok.1
    have f13 := (f1.trans (Fr.ex e2)).trans f3
    have tn := P3.tup g23
    refine q_when (et_test (ev_inD (K := K) ["get", "peek", "put", "fill", "drop"] (ev_var (i := 6) (v := .str wd) rfl) (eu_tup (ea_cons ev_c (ea_cons ev_c (ea_cons ev_c (ea_cons ev_c (ea_cons ev_c ea_nil))))) (by simp)))) (fun hb H4 e4 => ?_) fun hb H4 e4 => ?_
    · have hkd : wd ∈ (["get", "peek", "put", "fill", "drop"] : List Str) := of_decide_eq_true hb
      have P4 := P3.ex e4
      have g24 := e4 _ _ g23
      have htab : t.kind = "table" := keyed_table _ hk false wd hwd ((by decide +kernel : ∀ z ∈ (["get", "peek", "put", "fill", "drop"] : List Str), z ∈ (["get", "drop", "peek", "has", "put", "fill"] : List Str)) wd hkd)
      have hps : 0 < t.parts.length ∧ t.parts.length ≤ 2 := by
        obtain ⟨_, _, h⟩ := htok
        rcases h with ⟨h, _⟩ | ⟨h, _⟩ | ⟨_, ⟨k, h⟩ | ⟨k, l, h, _⟩⟩
        · rw [htab] at h
          exact absurd h (by decide +kernel)
        · rw [htab] at h
          exact absurd h (by decide)
        · rw [h]
          simp
        · rw [h]
          simp
      refine ⟨_, rfl, _, rfl, ?_⟩
      refine (eg_pickT (K := K) (a := tb) (xs := t.parts.map V.str) (ev_var (i := 0) rfl) (ev_var (i := 4) rfl) tn.1 tn.2 g24 (by rw [List.length_map]; exact hps.1) (by rw [List.length_map]; omega) : EvG p q 1 _ [some (.ref p), some (.ref a), some (.str t.kind), some (.str t.name), some (.ref tb), some (.ref wl), some (.str wd), none, none] H4 _) H4 (n + 1 + 1) Fr.refl P4 (by omega) _ fun y H5 f5 P5 hy => ⟨by show 3 ≤ sizeLine; decide, fun pp hpp => ?_⟩
      obtain ⟨kz, hkz, rfl⟩ := List.mem_map.mp hy
      have hkl := okN_len (htok.2.1 kz hkz)
      exact k0 _ [wd, t.name, kz] _ ⟨⟨pp, rfl, upd_same⟩, by simp, by simp, sh_cons (by omega) (sh_cons hnl (sh_cons hkl sh_nil (by simp)) (by simp)) (by simp)⟩ (((f13.trans (Fr.ex e4)).trans f5).trans (Fr.ex (Ex.new hpp))) (P5.ex (Ex.new hpp))
    · have P4 := P3.ex e4
      have hE4 := hE.go (f13.trans (Fr.ex e4)) P0 P4
      let cT : TH → Bool := fun u => decide (u.kind = t.kind)
      refine q_asgL (el_lcR (ths.map fun u => if cT u = true then some (V.str u.name) else none) (ei_list (ev_var (i := 1) rfl) (sq_of hE4.at_)) (by omega) (paired_map (fun v u h => ?_) hE4.tv)) fun bl H5 hbl e5 h5 => ?_
      · obtain ⟨ua, ub, rfl, h1, h2⟩ := h
        refine tgO_name rfl (fun H7 e7 => ?_) fun H7 e7 v hv => ?_
        · have z : (if cT u = true then some (V.str u.name) else none).isSome = decide (u.kind = t.kind) := by
            show _ = cT u
            cases cT u <;> rfl
          rw [z]
          exact et_test (ev_eqS (ev_ixT (ev_var (i := 8) rfl) (st_of (e7 _ _ h1)) ev_c (atI_nat (j := 0) rfl)) (ev_var (i := 2) rfl))
        · cases hk : cT u with
          | true =>
            rw [hk] at hv
            rw [← Option.some.inj hv]
            exact ev_ixT (ev_var (i := 8) rfl) (st_of (e7 _ _ h1)) ev_c (atI_nat (j := 1) rfl)
          | false =>
            rw [hk] at hv
            cases hv
      rw [names_filter] at h5
      have P5 := P4.ex e5
      have hbn := P4.ne hbl
      have hbpos : 0 < ((ths.filter cT).map TH.name).length := by
        rw [List.length_map]
        refine List.length_pos_iff.mpr fun z => ?_
        have : t ∈ ths.filter cT := List.mem_filter.mpr ⟨List.mem_of_getElem? ht, decide_eq_true rfl⟩
        rw [z] at this
        cases this
      have hb6 : ((ths.filter cT).map TH.name).length ≤ 6 := by
        rw [List.length_map]
        have := List.length_filter_le cT ths
        omega
      refine (et_test (ev_inD (K := K) ["bind", "copy"] (ev_var (i := 6) (v := .str wd) rfl) (eu_tup (ea_cons ev_c (ea_cons ev_c ea_nil)) (by simp))) : EvT _ [some (.ref p), some (.ref a), some (.str t.kind), some (.str t.name), some (.ref tb), some (.ref wl), some (.str wd), some (.ref bl), none] H5 _) H5 (Ex.refl H5) _ fun H6 e6 => ?_
      have P6 := P5.ex e6
      have h6 := e6 _ _ h5
      have f16 := ((f13.trans (Fr.ex e4)).trans (Fr.ex e5)).trans (Fr.ex e6)
      by_cases hbc : wd ∈ (["bind", "copy"] : List Str)
      · rw [decide_eq_true hbc]
        refine iteT ⟨_, rfl, _, rfl, ?_⟩
        refine (eg_pickL (K := K) (a := bl) (xs := ((ths.filter cT).map TH.name).map V.str) (ev_var (i := 0) rfl) (ev_var (i := 7) rfl) hbn.1 hbn.2 h6 (by rw [List.length_map]; exact hbpos) (by rw [List.length_map]; omega) : EvG p q 1 _ [some (.ref p), some (.ref a), some (.str t.kind), some (.str t.name), some (.ref tb), some (.ref wl), some (.str wd), some (.ref bl), none] H6 _) H6 (n + 1 + 1) Fr.refl P6 (by omega) _ fun y H7 f7 P7 hy => ⟨by show 3 ≤ sizeLine; decide, fun pp hpp => ?_⟩
        obtain ⟨kz, hkz, rfl⟩ := List.mem_map.mp hy
        obtain ⟨u, hu, rfl⟩ := List.mem_map.mp hkz
        have hkl := okN_len (hE.ok u (List.mem_filter.mp hu).1).1
        exact k0 _ [wd, t.name, u.name] _ ⟨⟨pp, rfl, upd_same⟩, by simp, by simp, sh_cons (by omega) (sh_cons hnl (sh_cons hkl sh_nil (by simp)) (by simp)) (by simp)⟩ ((f16.trans f7).trans (Fr.ex (Ex.new hpp))) (P7.ex (Ex.new hpp))
      · rw [decide_eq_false hbc]
        refine iteF ⟨_, rfl, _, rfl, by show 2 ≤ sizeLine; decide, fun pp hpp => ?_⟩
        exact k0 _ [wd, t.name] _ ⟨⟨pp, rfl, upd_same⟩, by simp, by simp, sh_cons (by omega) (sh_cons hnl sh_nil (by simp)) (by simp)⟩ (f16.trans (Fr.ex (Ex.new hpp))) ((P6.ex (Ex.new hpp)).le (by omega))
end
end Q7
/-! _law_wide_test -/
namespace Q7
open PySem PySem.Spec PyProof.Rows L2 Evl
section
variable {P : Program} {w : World} {K : PySem.W.Frag} {mg : Str → Option Value} {base : Heap}
theorem LookR.kp {H H' : Hp} {v : V} {ws : List Str} (k : Kp H H') (h : LookR H v ws) : LookR H' v ws := ⟨h.1.kp k, h.2⟩
def spGTest : Sp := fun vs H Q _ => ∃ (p q a : Addr) (n : Nat) (tvs : List V) (ths : List TH) (b : Bool), vs = [.ref p, .ref a, .bl b] ∧ Pool H p q n ∧ n + 10 ≤ Lim ∧ ThE H p q a tvs ths ∧ ∀ y ws H', LookR H' y ws → Fr p q H H' → Pool H' p q (n + 10) → Q y H'
theorem sc__law_wide_test : FnScope ["_law_pool_here", "_law_things_here", "_law_is_while", "_law_tests", "_law_kind", "_law_x", "_law_parts"] ["_law_pool_here", "_law_things_here", "_law_is_while"] (defScope s_law_wide_test) := ⟨rfl, rfl, rfl, by decide +kernel, rfl, by decide +kernel, by decide +kernel⟩
theorem D__law_wide_test (T : Txt w K mg) (D__law_draw : Dn P w K mg base CX0 1 "_law_draw" spDraw) (D__law_word : Dn P w K mg base CX0 2 "_law_word" spWord) : Dn P w K mg base CX0 3 "_law_wide_test" spGTest := by
  refine mkD0 T.fds_law_wide_test T.g__law_wide_test T.kps_law_wide_test sc__law_wide_test (fun _ _ _ _ _ _ us hl => match us, hl with | [_, _, _], _ => rfl) (fun vs H Q E h => ?_) (fun cdv A outer s H vs Q E hr h => ?_)
  · obtain ⟨p, q, a, n, tvs, ths, b, rfl, _⟩ := h
    rfl
  · obtain ⟨p, q, a, n, tvs, ths, b, rfl, P0, hl, hE, k0⟩ := h
    refine ⟨_, (pss_cons (ps_set (i := 3) sc__law_wide_test.nd rfl (Or.inl rfl) (pe_lst (pa_cons (pe_tup (pa_cons pe_str (pa_cons (pe_d D__law_word (hr.mono (by decide)) (by rfl) pass0 (pa_cons (pv 0) pa_nil)) pa_nil))) pa_nil)))
    (pss_cons (ps_for PassesOwn.never rfl (pi_list (pv 1)) (pg_tup rfl (pgs_cons (pg_name (i := 4) sc__law_wide_test.nd rfl (Or.inl rfl)) (pgs_cons (pg_name (i := 5) sc__law_wide_test.nd rfl (Or.inl rfl)) (pgs_cons (pg_name (i := 6) sc__law_wide_test.nd rfl (Or.inl rfl)) pgs_nil))))
    (pss_cons (ps_if (pt_cmpR op_eq (pv 4) pe_str (nomark _)) (pss_one (ps_expr (pe_bm PySem.F.plainAttrs_list PySem.F.slot_list_append PySem.F.type_list_append mt_append (pv 3) (pa_cons (pe_tup (pa_cons pe_str (pa_cons (pv 5) pa_nil))) pa_nil)))) pss_nil)
    (pss_cons (ps_if (PW.pt (pw_and (pt_cmpR op_in_seq (pv 4) (pe_tup (pa_cons pe_str (pa_cons pe_str pa_nil))) (by rfl)) (pw_and1 (pt_not (pt_val (pv 2)))))) (pss_one (ps_expr (pe_bm PySem.F.plainAttrs_list PySem.F.slot_list_append PySem.F.type_list_append mt_append (pv 3) (pa_cons (pe_tup (pa_cons (pe_ifExp (pt_cmpR op_eq (pv 4) pe_str (nomark _)) pe_str pe_str) (pa_cons (pv 5) pa_nil))) pa_nil)))) pss_nil)
    (pss_one (ps_if (PW.pt (pw_and (pt_cmpR op_eq (pv 4) pe_str (nomark _)) (pw_and1 (pt_not (pt_val (pv 2)))))) (pss_one (ps_expr (pe_bm PySem.F.plainAttrs_list PySem.F.slot_list_append PySem.F.type_list_append mt_append (pv 3) (pa_cons (pe_tup (pa_cons pe_str (pa_cons (pv 5) (pa_cons (pe_ix ix_tup (pv 6) pe_int (fun _ _ => rfl)) pa_nil)))) pa_nil)))) pss_nil)))))
    (pss_one (ps_ret (pe_ix ix_list (pv 3) (pe_d D__law_draw (hr.mono (by decide)) (by rfl) pass0 (pa_cons (pv 0) (pa_cons (pe_callB call_len_seq (by rfl) T.n_len PySem.boot_len (pa_cons (pv 3) pa_nil)) pa_nil))) (fun _ _ => rfl)))))), ?_⟩
    have htl : tvs.length = ths.length := Paired.length hE.tv
    have hpos := hE.pos
    have hfew := hE.few
    -- the first test
    refine ⟨_, rfl, p, q, n, rfl, P0, by omega, fun z H1 hz f1 P1 => ⟨by show 2 ≤ sizeLine; decide, fun t0 ht0 => ⟨by show 1 ≤ sizeLine; decide, fun tl htl0 => ?_⟩⟩⟩
    have hta := P1.ne ht0
    have e1 := (Ex.new (o := .tup [.str "ask", .str z]) ht0).trans (Ex.new (o := .lst [.ref t0]) htl0)
    show tSeq _ _ _ _ (upd (upd H1 t0 (.tup [.str "ask", .str z])) tl (.lst [.ref t0]))
    have g0 : (upd (upd H1 t0 (.tup [.str "ask", .str z])) tl (.lst [.ref t0])) t0 = some (.tup [.str "ask", .str z]) := Ex.new htl0 _ _ upd_same
    have gl : (upd (upd H1 t0 (.tup [.str "ask", .str z])) tl (.lst [.ref t0])) tl = some (.lst [.ref t0]) := upd_same
    have htl1 : H1 tl = none := fresh_back (Ex.new ht0) htl0
    have htn := P1.ne htl1
    have htlH : H tl = none := by
      cases hh : H tl with
      | none => rfl
      | some o =>
        have := f1 tl o htn.1 htn.2 hh
        rw [htl1] at this
        cases this
    generalize upd (upd H1 t0 (.tup [.str "ask", .str z])) tl (.lst [.ref t0]) = H2 at e1 g0 gl ⊢
    have f2 : Fr p q H H2 := f1.trans (Fr.ex e1)
    have P2 := P1.ex e1
    have hE2 := hE.go f2 P0 P2
    refine q_forB (H := bs p q H) (eb_list (ev_var (i := 1) rfl) (sq_of (by rw [bs_ne hE.np hE.nq]; exact hE.at_))) f2.bs (fun i σ' H' => ∃ (xs : List V) (y4 y5 y6 : Option V), σ' = [some (.ref p), some (.ref a), some (.bl b), some (.ref tl), y4, y5, y6] ∧ Fr p q H H' ∧ Pool H' p q (n + 9) ∧ H' tl = some (.lst xs) ∧ 1 ≤ xs.length ∧ xs.length ≤ 1 + 3 * i ∧ ∀ x ∈ xs, ∃ ws, LookR H' x ws)
      (fun H3 e3 => ⟨[.ref t0], none, none, none, rfl, f2.trans (Fr.ex e3), P2.ex e3, e3 _ _ gl, by simp, by simp, fun x hx => ⟨["ask", z], ⟨t0, List.mem_singleton.mp hx, e3 _ _ g0⟩, by simp, by simp, sh_cons (by decide) (sh_cons (okN_len hz) sh_nil (by simp)) (by simp)⟩⟩) (fun i σ' H' pv => by
      obtain ⟨_, _, _, _, _, f, _⟩ := pv
      exact f.bs) (fun i x σ' H' hx pv => ?_) fun σ' H' pv => ?_
    · obtain ⟨xs, y4, y5, y6, rfl, f, Pi, hw, hx1, hx2, hxs⟩ := pv
      have hil := (List.getElem?_eq_some_iff.mp hx).1
      have hEi := hE.go f P0 Pi
      obtain ⟨t, ht, ta, tb, rfl, g1, g2⟩ := paired_get hEi.tv hx
      have htok := hE.ok t (List.mem_of_getElem? ht)
      have hnl := okN_len htok.1
      refine ⟨ta, _, rfl, st_of g1, rfl, _, _, rfl, _, _, rfl, _, _, rfl, rfl, ?_⟩
      let J : Nat → Hp → Prop := fun m HG => ∃ xs : List V, Fr p q H HG ∧ Pool HG p q (n + 9) ∧ HG tb = some (.tup (t.parts.map V.str)) ∧ HG tl = some (.lst xs) ∧ 1 ≤ xs.length ∧ xs.length ≤ m ∧ ∀ x ∈ xs, ∃ ws, LookR HG x ws
      have put : ∀ {m : Nat} {HG HL : Hp} {na : Addr} {xs : List V} {ws : List Str}, Fr p q H HG → Pool HG p q (n + 9) → HG tb = some (.tup (t.parts.map V.str)) → HG tl = some (.lst xs) → 1 ≤ xs.length → xs.length ≤ m → (∀ x ∈ xs, ∃ ws, LookR HG x ws) → Ex HG HL → HL na = some (.tup (ws.map V.str)) → 2 ≤ ws.length → ws.length ≤ 3 → Sh ws → J (m + 1) (upd HL tl (.lst (xs ++ [.ref na]))) := fun {m HG HL na xs ws} f' P' hb' h1 h2 h3 h4 eL hna w1 w2 w3 => by
        have hl' := eL _ _ h1
        have kpd : Kp HL (upd HL tl (.lst (xs ++ [.ref na]))) := Kp.put hl'
        refine ⟨xs ++ [.ref na], ?_, (P'.ex eL).put htn.1 htn.2, kpd.tup (eL _ _ hb'), upd_same, by rw [List.length_append]; omega, by rw [List.length_append, List.length_singleton]; omega, fun x hx => ?_⟩
        · intro c' o q1 q2 hh
          by_cases e : c' = tl
          · rw [e, htlH] at hh
            cases hh
          · rw [upd_ne e]
            exact (f'.trans (Fr.ex eL)) c' o q1 q2 hh
        · rcases List.mem_append.mp hx with hx | hx
          · obtain ⟨ws', hws'⟩ := h4 x hx
            exact ⟨ws', hws'.kp ((Kp.ex eL).trans kpd)⟩
          · rw [List.mem_singleton.mp hx]
            exact ⟨ws, ⟨na, rfl, kpd.tup hna⟩, w1, w2, w3⟩
      have stay : ∀ {m : Nat} {HG HL : Hp}, J m HG → Ex HG HL → J (m + 1) HL := fun {m HG HL} h e => by
        obtain ⟨xs, f', P', hb', h1, h2, h3, h4⟩ := h
        exact ⟨xs, f'.trans (Fr.ex e), P'.ex e, e _ _ hb', e _ _ h1, h2, by omega, fun x hx => by
          obtain ⟨ws', hws'⟩ := h4 x hx
          exact ⟨ws', hws'.kp (Kp.ex e)⟩⟩
      have j0 : J (1 + 3 * i) H' := ⟨xs, f, Pi, g2, hw, hx1, hx2, hxs⟩
      refine q_whenJ (b := decide (t.kind = "feed")) (J (1 + 3 * i + 1)) (et_test (ev_eqS (ev_var (i := 4) rfl) ev_c)) (fun HG hJ => ?_) (fun hb k HG eG => ?_) fun hb HG eG => stay j0 eG
      · refine q_whenJ (b := decide (t.kind ∈ (["flag", "slot"] : List Str)) && !b) (J (1 + 3 * i + 1 + 1)) (et_and (et_test (ev_inD ["flag", "slot"] (ev_var (i := 4) rfl) (eu_tup (ea_cons ev_c (ea_cons ev_c ea_nil)) (by simp)))) fun _ => et_not (et_B (ev_var (i := 2) rfl))) (fun HI hJ2 => ?_) (fun hb k HI eI => ?_) fun hb HI eI => stay hJ eI
        · refine s_when (b := decide (t.kind = "table") && !b) (et_and (et_test (ev_eqS (ev_var (i := 4) rfl) ev_c)) fun _ => et_not (et_B (ev_var (i := 2) rfl))) (fun hb HK eK => ?_) fun hb HK eK => ?_
          · have htab : t.kind = "table" := by
              simp only [Bool.and_eq_true, decide_eq_true_eq] at hb
              exact hb.1
            obtain ⟨k1, kr, hpk⟩ : ∃ k1 kr, t.parts = k1 :: kr := by
              obtain ⟨_, _, h⟩ := htok
              rcases h with ⟨h, _⟩ | ⟨h, _⟩ | ⟨_, ⟨k, h⟩ | ⟨k, l, h, _⟩⟩
              · rw [htab] at h
                exact absurd h (by decide +kernel)
              · rw [htab] at h
                exact absurd h (by decide)
              · exact ⟨k, [], h⟩
              · exact ⟨k, [l], h⟩
            have hkl := okN_len (htok.2.1 k1 (by rw [hpk]; exact List.mem_cons_self))
            obtain ⟨xs', f', P', hb', h1, h2, h3, h4⟩ := hJ2
            have hbK : HK tb = some (.tup (V.str k1 :: kr.map V.str)) := by
              have := eK _ _ hb'
              rw [hpk] at this
              exact this
            refine s_appU (ys := [.str "has", .str t.name, .str k1]) (eK _ _ h1) (ev_var (i := 3) rfl) (eu_tup (ea_cons ev_c (ea_cons (ev_var (i := 5) rfl) (ea_cons (ev_ixT (ev_var (i := 6) rfl) (st_of hbK) ev_c (atI_nat (j := 0) rfl)) ea_nil))) (by simp)) (by omega) fun na HL hna eL hL => ?_
            obtain ⟨xs2, r1, r2, r3, r4, r5, r6, r7⟩ := put (ws := ["has", t.name, k1]) f' P' hb' h1 h2 h3 h4 (eK.trans eL) hL (by simp) (by simp) (sh_cons (by decide) (sh_cons hnl (sh_cons hkl sh_nil (by simp)) (by simp)) (by simp))
            exact ⟨xs2, _, _, _, rfl, r1, r2, r4, r5, by omega, r7⟩
          · obtain ⟨xs2, r1, r2, r3, r4, r5, r6, r7⟩ := stay hJ2 eK
            exact ⟨xs2, _, _, _, rfl, r1, r2, r4, r5, by omega, r7⟩
        · obtain ⟨xs', f', P', hb', h1, h2, h3, h4⟩ := hJ
          refine s_appU (ys := [if decide (t.kind = "flag") = true then .str "read" else .str "bound", .str t.name]) (eI _ _ h1) (ev_var (i := 3) rfl) (eu_tup (ea_cons (ev_ifE (et_test (ev_eqS (ev_var (i := 4) rfl) ev_c)) (fun _ => ev_c) fun _ => ev_c) (ea_cons (ev_var (i := 5) rfl) ea_nil)) (by simp)) (by omega) fun na HL hna eL hL => k _ ?_
          by_cases hfl : t.kind = "flag"
          · rw [decide_eq_true hfl] at hL
            exact put (ws := ["read", t.name]) f' P' hb' h1 h2 h3 h4 (eI.trans eL) hL (by simp) (by simp) (sh_cons (by decide) (sh_cons hnl sh_nil (by simp)) (by simp))
          · rw [decide_eq_false hfl] at hL
            exact put (ws := ["bound", t.name]) f' P' hb' h1 h2 h3 h4 (eI.trans eL) hL (by simp) (by simp) (sh_cons (by decide) (sh_cons hnl sh_nil (by simp)) (by simp))
      · refine s_appU (ys := [.str "take", .str t.name]) (eG _ _ hw) (ev_var (i := 3) rfl) (eu_tup (ea_cons ev_c (ea_cons (ev_var (i := 5) rfl) ea_nil)) (by simp)) (by omega) fun na HL hna eL hL => k _ ?_
        exact put (ws := ["take", t.name]) f Pi g2 hw hx1 hx2 hxs (eG.trans eL) hL (by simp) (by simp) (sh_cons (by decide) (sh_cons hnl sh_nil (by simp)) (by simp))
    · obtain ⟨xs, y4, y5, y6, rfl, f, Pi, hw, hx1, hx2, hxs⟩ := pv
      refine s_retG (p := p) (q := q) (n := n + 9) (c := 1) (H := H') (eg_pickL (K := K) (a := tl) (xs := xs) (ev_var (i := 0) rfl) (ev_var (i := 3) rfl) htn.1 htn.2 hw (by omega) (by omega)) Pi (by omega) fun y H3 f3 P3 hy => ?_
      obtain ⟨ws, hws⟩ := hxs y hy
      exact k0 y ws H3 (hws.kp (Pi.kp f3 P3)) (f.trans f3) P3
end
end Q7
/-! more evaluations that draw -/
namespace Q7
open PySem PySem.Spec PyProof.Rows L2 Evl
section
variable {p q : Addr} {H H' H1 H2 : Hp} {n m : Nat}
theorem Fr.nn {c : Addr} (f : Fr p q H H') (P : Pool H' p q n) (h : H' c = none) : H c = none := by
  have hn := P.ne h
  cases hh : H c with
  | none => rfl
  | some o =>
    have := f c o hn.1 hn.2 hh
    rw [h] at this
    cases this
/-- a write at what was not there -/
theorem Fr.put {a : Addr} {u : HO} (f : Fr p q H H') (h : H a = none) : Fr p q H (upd H' a u) := fun c o h1 h2 hh => by
  by_cases e : c = a
  · rw [e, h] at hh
    cases hh
  · rw [upd_ne e]
    exact f c o h1 h2 hh
end
theorem paired_mem {α β : Type} {r : α → β → Prop} : ∀ {xs : List α} {ys : List β}, Paired r xs ys → ∀ {y : β}, y ∈ ys → ∃ x, x ∈ xs ∧ r x y
  | _, _, .nil, _, h => by cases h
  | _, _, .cons a b, y, h => by
    rcases List.mem_cons.mp h with rfl | h
    · exact ⟨_, List.mem_cons_self, a⟩
    · obtain ⟨x, h1, h2⟩ := paired_mem b h
      exact ⟨x, List.mem_cons_of_mem _ h1, h2⟩
/-- arguments that draw -/
def EvGA (p q : Addr) (c : Nat) (ta : TA) (σ : L2.St) (H : Hp) (S : List V → Hp → Prop) : Prop :=
  ∀ H1 n, Fr p q H H1 → Pool H1 p q n → n + c ≤ Lim → ∀ Q : List V → Hp → Prop, (∀ y H2, Fr p q H1 H2 → Pool H2 p q (n + c) → S y H2 → Q y H2) → ta σ H1 Q
/-- a test that draws -/
def EvGT (p q : Addr) (c : Nat) (tt : TT) (σ : L2.St) (H : Hp) (C : Bool → Prop) : Prop :=
  ∀ H1 n, Fr p q H H1 → Pool H1 p q n → n + c ≤ Lim → ∀ Q : Bool → Hp → Prop, (∀ b H2, Fr p q H1 H2 → Pool H2 p q (n + c) → C b → Q b H2) → tt σ H1 Q
section
variable {K : PySem.W.Frag} {p q : Addr} {c c1 c2 : Nat} {σ : L2.St} {H H' : Hp} {ta tb te tm : TE} {tr : TA} {t u : TT} {S S1 S2 : V → Hp → Prop} {SA : List V → Hp → Prop} {C C1 C2 : Bool → Prop} {x y v : V}
theorem ga_nil : EvGA p q 0 tNil σ H (fun vs _ => vs = []) := fun H1 n f1 P1 hl Q k => k _ _ Fr.refl P1 rfl
theorem ga_v (h : Ev te σ (bs p q H) v) (hr : EvGA p q c tr σ H SA) : EvGA p q c (tCons te tr) σ H (fun vs H2 => ∃ r, vs = v :: r ∧ SA r H2) := fun H1 n f1 P1 hl Q k =>
  h H1 f1.bs _ fun H2 e2 => hr H2 n (f1.trans (Fr.ex e2)) (P1.ex e2) hl _ fun r H3 f3 P3 s => k _ H3 ((Fr.ex e2).trans f3) P3 ⟨r, rfl, s⟩
theorem ga_g (h : EvG p q c1 te σ H S) (mono : ∀ y H H', Kp H H' → S y H → S y H') (hr : EvGA p q c2 tr σ H SA) : EvGA p q (c1 + c2) (tCons te tr) σ H (fun vs H2 => ∃ y r, vs = y :: r ∧ S y H2 ∧ SA r H2) := fun H1 n f1 P1 hl Q k =>
  h H1 n f1 P1 (by omega) _ fun y H2 f2 P2 s => hr H2 (n + c1) (f1.trans f2) P2 (by omega) _ fun r H3 f3 P3 s3 => k _ H3 (f2.trans f3) (P3.le (by omega)) ⟨y, r, rfl, mono _ _ _ (P2.kp f3 P3) s, s3⟩
theorem ga_1 (h : EvG p q c te σ H S) : EvGA p q c (tCons te tNil) σ H (fun vs H2 => ∃ y, vs = [y] ∧ S y H2) := fun H1 n f1 P1 hl Q k =>
  h H1 n f1 P1 hl _ fun y H2 f2 P2 s => k _ H2 f2 P2 ⟨y, rfl, s⟩
theorem ga_a {vs : List V} (h : EvA tr σ (bs p q H) vs) : EvGA p q 0 tr σ H (fun ws _ => ws = vs) := fun H1 n f1 P1 hl Q k =>
  h H1 f1.bs _ fun H2 e2 => k _ H2 (Fr.ex e2) (P1.ex e2) rfl
theorem EvGA.imp {SB : List V → Hp → Prop} (h : EvGA p q c tr σ H SA) (k : ∀ v H1, Fr p q H H1 → SA v H1 → SB v H1) : EvGA p q c tr σ H SB := fun H1 n f1 P1 hl Q k1 => h H1 n f1 P1 hl Q fun y H2 f2 P2 s => k1 y H2 f2 P2 (k y H2 (f1.trans f2) s)
/-- a tuple of them -/
theorem eg_tupA (h : EvGA p q c tr σ H SA) (hl : ∀ vs H2, SA vs H2 → vs.length ≤ 100000) (mono : ∀ vs H H', Ex H H' → SA vs H → SA vs H') : EvG p q c (tTup tr) σ H (fun v H2 => ∃ a xs, v = .ref a ∧ H2 a = some (.tup xs) ∧ SA xs H2) := fun H1 n f1 P1 hl1 Q k =>
  h H1 n f1 P1 hl1 _ fun vs H2 f2 P2 s => ⟨sz_of (hl _ _ s), fun a ha => k _ _ (f2.trans (Fr.ex (Ex.new ha))) (P2.ex (Ex.new ha)) ⟨a, vs, rfl, upd_same, mono _ _ _ (Ex.new ha) s⟩⟩
/-- a call with such arguments -/
theorem eg_callA {sp : Sp} {E : XK} (h : EvGA p q c1 tr σ H SA) (hs : ∀ vs H1 n, Fr p q H H1 → Pool H1 p q n → n + c2 ≤ Lim → SA vs H1 → ∀ Q : VK, (∀ y H2, Fr p q H1 H2 → Pool H2 p q (n + c2) → S y H2 → Q y H2) → sp vs H1 Q E) : EvG p q (c1 + c2) (tCallR sp E tr) σ H S := fun H1 n f1 P1 hl Q k =>
  h H1 n f1 P1 (by omega) _ fun vs H2 f2 P2 s => hs vs H2 (n + c1) (f1.trans f2) P2 (by omega) s Q fun y H3 f3 P3 s3 => k y H3 (f2.trans f3) (P3.le (by omega)) s3
/-- an operator: the first side draws -/
theorem eg_op2 {r : R2} (ha : EvG p q c ta σ H S1) (hb : Ev tb σ (bs p q H) y) (hr : ∀ x H2 n, Fr p q H H2 → Pool H2 p q n → S1 x H2 → ∃ z, (∀ Q : VK, Q z H2 → r x y H2 Q) ∧ S z H2) (mono : ∀ y H H', Kp H H' → S1 y H → S1 y H') : EvG p q c (tOp r ta tb) σ H S := fun H1 n f1 P1 hl Q k =>
  ha H1 n f1 P1 hl _ fun x H2 f2 P2 s => hb H2 (f1.trans f2).bs _ fun H3 e3 => by
    obtain ⟨z, h1, h2⟩ := hr x H3 _ ((f1.trans f2).trans (Fr.ex e3)) (P2.ex e3) (mono _ _ _ (Kp.ex e3) s)
    exact h1 _ (k z H3 (f2.trans (Fr.ex e3)) (P2.ex e3) h2)
theorem eg_if (h : EvGT p q c1 t σ H C) (h1 : C true → EvG p q c2 ta σ H S) (h2 : C false → EvG p q c2 tb σ H S) : EvG p q (c1 + c2) (tIf t ta tb) σ H S := fun H1 n f1 P1 hl Q k =>
  h H1 n f1 P1 (by omega) _ fun b H2 f2 P2 hc => by
    cases b with
    | true => exact iteT (h1 hc H2 (n + c1) (f1.trans f2) P2 (by omega) Q fun y H3 f3 P3 s => k y H3 (f2.trans f3) (P3.le (by omega)) s)
    | false => exact iteF (h2 hc H2 (n + c1) (f1.trans f2) P2 (by omega) Q fun y H3 f3 P3 s => k y H3 (f2.trans f3) (P3.le (by omega)) s)
/-- draw(..) == k -/
theorem gt_draw {E : XK} {m : Nat} {k : Int} (hp : Ev ta σ (bs p q H) (.ref p)) (hm : Ev tm σ (bs p q H) (.int (m : Int))) (h0 : 0 < m) (h1 : m ≤ 1000) : EvGT p q 1 (tTest (tOp rEq (tCallR spDraw E (tCons ta (tCons tm tNil))) (tC (.int k)))) σ H (fun _ => True) := fun H1 n f1 P1 hl Q k1 =>
  eg_draw (E := E) hp hm h0 h1 H1 n f1 P1 hl _ fun y H2 f2 P2 hy => by
    obtain ⟨d, rfl, _⟩ := hy
    exact ⟨rfl, _, rfl, k1 _ H2 f2 P2 trivial⟩
/-- bool(draw(..)) -/
theorem gt_dtru {E : XK} {m : Nat} (hp : Ev ta σ (bs p q H) (.ref p)) (hm : Ev tm σ (bs p q H) (.int (m : Int))) (h0 : 0 < m) (h1 : m ≤ 1000) : EvGT p q 1 (fun σ H Q => tCallR spDraw E (tCons ta (tCons tm tNil)) σ H fun x H' => ∃ k, TruV K x H' k ∧ Q k H') σ H (fun _ => True) := fun H1 n f1 P1 hl Q k1 =>
  eg_draw (E := E) hp hm h0 h1 H1 n f1 P1 hl _ fun y H2 f2 P2 hy => by
    obtain ⟨d, rfl, _⟩ := hy
    exact ⟨_, rfl, k1 _ H2 f2 P2 trivial⟩
theorem gt_t {b : Bool} (h : EvT t σ (bs p q H) b) : EvGT p q 0 t σ H (fun k => k = b) := fun H1 n f1 P1 hl Q k => h H1 f1.bs _ fun H2 e2 => k b H2 (Fr.ex e2) (P1.ex e2) rfl
theorem gt_and {a : Bool} (h : EvT t σ (bs p q H) a) (h2 : a = true → EvGT p q c u σ H C) : EvGT p q c (tAnd t u) σ H (fun b => b = true → a = true ∧ C true) := fun H1 n f1 P1 hl Q k => h H1 f1.bs _ fun H2 e2 => by
  cases a with
  | true => exact iteT (h2 rfl H2 n (f1.trans (Fr.ex e2)) (P1.ex e2) hl Q fun b H3 f3 P3 hc => k b H3 ((Fr.ex e2).trans f3) P3 fun hb => ⟨rfl, hb ▸ hc⟩)
  | false => exact iteF (k false H2 (Fr.ex e2) ((P1.ex e2).le (by omega)) fun hb => by cases hb)
theorem q_whenG {D : Ends} {tu tz : TS} {n : Nat} (h : EvGT p q c t σ H C) (P0 : Pool H p q n) (hl : n + c ≤ Lim) (k1 : ∀ H1, Fr p q H H1 → Pool H1 p q (n + c) → C true → tu { D with nx := tz D } σ H1) (k2 : ∀ H1, Fr p q H H1 → Pool H1 p q (n + c) → C false → tz D σ H1) : tSeq (tIfS t tu tNext) tz D σ H :=
  h H n Fr.refl P0 hl _ fun b H1 f1 P1 hc => by
    cases b with
    | true => exact iteT (k1 H1 f1 P1 hc)
    | false => exact iteF (k2 H1 f1 P1 hc)
/-- l.append(e) -/
theorem s_appG {D : Ends} {l : Addr} {xs : List V} {n : Nat} (hl : H l = some (.lst xs)) (hlp : l ≠ p) (hlq : l ≠ q) (ha : Ev ta σ H (.ref l)) (h : EvG p q c te σ H S) (P0 : Pool H p q n) (hlim : n + c ≤ Lim) (hz : xs.length < 100000) (k : ∀ y H1, Fr p q H H1 → Pool H1 p q (n + c) → S y H1 → D.nx σ (upd H1 l (.lst (xs ++ [y])))) :
    tDrop (tBM K "list" rAppend ta (tCons te tNil)) D σ H := ha H (Ex.refl H) _ fun H1 e1 =>
  ⟨Or.inl ⟨rfl, xs, sq_of (e1 l _ hl)⟩, h H1 n (Fr.ex e1) (P0.ex e1) hlim _ fun y H2 f2 P2 s => ⟨l, xs, y, rfl, rfl, f2 _ _ hlp hlq (e1 l _ hl), sz_lt hz, k y H2 ((Fr.ex e1).trans f2) P2 s⟩⟩
/-- a list and a new one -/
theorem en_catN {l : Addr} {xs : List V} (SL : List V → Hp → Prop) (mono : ∀ ys H H', Ex H H' → SL ys H → SL ys H') (ha : Ev ta σ H (.ref l)) (hx : H l = some (.lst xs)) (hb : EvN tb σ H fun v H2 => ∃ a ys, v = .ref a ∧ H2 a = some (.lst ys) ∧ xs.length + ys.length ≤ 100000 ∧ SL ys H2) :
    EvN (tOp rCat ta tb) σ H fun v H2 => ∃ a ys, v = .ref a ∧ H a = none ∧ H2 a = some (.lst (xs ++ ys)) ∧ SL ys H2 := fun H1 e Q k =>
  ha H1 e _ fun H2 e2 => hb H2 (e.trans e2) _ fun y H3 e3 s => by
    obtain ⟨a, ys, rfl, h1, h2, h3⟩ := s
    exact ⟨l, a, xs, ys, rfl, rfl, e3 _ _ (e2 _ _ (e _ _ hx)), h1, sz_of h2, fun b hb => k _ _ ((e2.trans e3).trans (Ex.new hb)) ⟨b, ys, rfl, fresh_back ((e.trans e2).trans e3) hb, upd_same, mono _ _ _ (Ex.new hb) h3⟩⟩
theorem en_lst2 {xs ys : List V} (h1 : EvU ta σ H xs) (h2 : EvU tb σ H ys) : EvN (tLst (tCons ta (tCons tb tNil))) σ H fun v H2 => ∃ a zs, v = .ref a ∧ H2 a = some (.lst zs) ∧ ∃ b d, zs = [.ref b, .ref d] ∧ H2 b = some (.tup xs) ∧ H2 d = some (.tup ys) := fun H1 e Q k =>
  h1 H1 e _ fun b H2 _ e2 hb => h2 H2 (e.trans e2) _ fun d H3 _ e3 hd => ⟨by show 2 ≤ sizeLine; decide, fun a ha => k _ _ ((e2.trans e3).trans (Ex.new ha)) ⟨a, _, rfl, upd_same, b, d, rfl, Ex.new ha _ _ (e3 _ _ hb), Ex.new ha _ _ hd⟩⟩
end
end Q7
/-! _law_wide_probe -/
namespace Q7
open PySem PySem.Spec PyProof.Rows L2 Evl
def SLook (v : V) (H : Hp) : Prop := ∃ ws, LookR H v ws
theorem SLook.kp (v : V) (H H' : Hp) (k : Kp H H') (h : SLook v H) : SLook v H' := by
  obtain ⟨ws, h⟩ := h
  exact ⟨ws, h.kp k⟩
theorem looks_all {H : Hp} : ∀ {ys : List V}, (∀ y ∈ ys, SLook y H) → ∃ as, AllV H ys as ∧ (∀ l ∈ as, Sh l) ∧ ∀ l ∈ as, 2 ≤ l.length ∧ l.length ≤ 3
  | [], _ => ⟨[], .nil, (fun l hl => by cases hl), fun l hl => by cases hl⟩
  | y :: r, h => by
    obtain ⟨as, h1, h2, h3⟩ := looks_all fun x hx => h x (List.mem_cons_of_mem _ hx)
    obtain ⟨ws, hw⟩ := h y List.mem_cons_self
    refine ⟨ws :: as, .cons hw.1 h1, fun l hl => ?_, fun l hl => ?_⟩
    · rcases List.mem_cons.mp hl with rfl | hl
      · exact hw.2.2.2
      · exact h2 l hl
    · rcases List.mem_cons.mp hl with rfl | hl
      · exact ⟨hw.2.1, hw.2.2.1⟩
      · exact h3 l hl
/-- looks, few, of two or three words -/
def FewL (as : List (List Str)) : Prop := as.length ≤ 6 ∧ ∀ l ∈ as, 2 ≤ l.length ∧ l.length ≤ 3
def IsPA (nm : Str) : R → Prop
  | .pro n _ as bs => n = nm ∧ FewL as ∧ FewL bs
  | .ass n _ as t => n = nm ∧ FewL as ∧ 2 ≤ t.length ∧ t.length ≤ 3
  | _ => False
section
variable {P : Program} {w : World} {K : PySem.W.Frag} {mg : Str → Option Value} {base : Heap}
def spGProbe : Sp := fun vs H Q _ => ∃ (p q a : Addr) (n : Nat) (tvs : List V) (ths : List TH) (nm : Str), vs = [.ref p, .ref a, .str nm] ∧ nm.length ≤ 100000 ∧ Pool H p q n ∧ n + 100 ≤ Lim ∧ ThE H p q a tvs ths ∧ ∀ y r H', RowV H' y r → ROk r → IsPA nm r → Fr p q H H' → Pool H' p q (n + 100) → Q y H'
theorem eg_ifT {p q : Addr} {c : Nat} {t : TT} {ta tb : TE} {σ : L2.St} {H : Hp} {S : V → Hp → Prop} (h : EvT t σ (bs p q H) true) (h1 : EvG p q c ta σ H S) : EvG p q c (tIf t ta tb) σ H S := fun H1 n f1 P1 hl Q k => h H1 f1.bs _ fun H2 e2 => iteT (h1 H2 n (f1.trans (Fr.ex e2)) (P1.ex e2) hl Q fun y H3 f3 P3 s => k y H3 ((Fr.ex e2).trans f3) P3 s)
/-- tuple([a look for k in range(m)]) -/
theorem eg_looks {p q a : Addr} {n0 : Nat} {tvs : List V} {ths : List TH} {E : XK} {σ : L2.St} {H : Hp} {tp tt ti : TE} {j m : Nat} {vs : List Nat} (P0 : Pool H p q n0) (hE : ThE H p q a tvs ths) (hm : m ≤ 6) (hi : Ev ti σ (bs p q H) (.int (m : Nat))) (hw : ∀ x, wipe ((wipe σ vs).set j (some x)) vs = wipe σ vs)
    (hp : ∀ x, Ev tp ((wipe σ vs).set j (some x)) (bs p q H) (.ref p)) (ha : ∀ x, Ev tt ((wipe σ vs).set j (some x)) (bs p q H) (.ref a)) :
    EvG p q 18 (tCB (rTupQ K) (tCons (tLc (iRng1 (tCons ti tNil)) (gName j) tYes (tCallR (spGLook 3) E (tCons tp (tCons tt tNil))) vs) tNil)) σ H (fun v H2 => ∃ b us, v = .ref b ∧ H2 b = some (.tup us) ∧ us.length = m ∧ ∀ y ∈ us, SLook y H2) := by
  have h1 := eg_rng (te := tCallR (spGLook 3) E (tCons tp (tCons tt tNil))) (σ := σ) (H := H) (p := p) (q := q) (c := 3) (c0 := 0) (N := 6) (j := j) (vs := vs) (S := SLook) (C := fun k => k = m) (ta := tCons ti tNil) SLook.kp (fun k h => by omega) (by decide) (fun H1 n f1 P1 hl Q k => hi H1 f1.bs _ fun H2 e2 => k m H2 (Fr.ex e2) (P1.ex e2) rfl) hw fun i hi' => eg_call (ea_cons (hp _) (ea_cons (ha _) ea_nil)) fun H1 n f1 P1 hl Q k => ⟨p, q, a, n, tvs, ths, rfl, P1, hl, hE.go f1 P0 P1, fun y ws H2 hws f2 P2 => k y H2 f2 P2 ⟨ws, hws⟩⟩
  refine (eg_tup (K := K) (S := fun us H2 => us.length = m ∧ ∀ y ∈ us, SLook y H2) (fun xs H H' e h => ⟨h.1, fun y hy => SLook.kp y _ _ (Kp.ex e) (h.2 y hy)⟩) (h1.imp fun v H2 f2 s => ?_)).imp fun v H2 f2 s => ?_
  · obtain ⟨b, ys, k, rfl, _, _, _, hb, hl, hk, hS⟩ := s
    exact ⟨b, ys, rfl, hb, by omega, hS⟩
  · obtain ⟨b, us, rfl, hb, hl, hS⟩ := s
    exact ⟨b, us, rfl, hb, hl, hS⟩
theorem sc__law_wide_probe : FnScope ["_law_pool_here", "_law_things_here", "_law_name", "_law_gate", "_law_many", "_law_args", "_law_tests", "_law_kind", "_law_x", "_law_parts", "_law_more", "_law_k", "_law_key"] ["_law_pool_here", "_law_things_here", "_law_name"] (defScope s_law_wide_probe) := ⟨rfl, rfl, rfl, by decide +kernel, rfl, by decide +kernel, by decide +kernel⟩
theorem D__law_wide_probe (T : Txt w K mg) (D__law_draw : Dn P w K mg base CX0 1 "_law_draw" spDraw) (D__law_wide_look : Dn P w K mg base CX0 2 "_law_wide_look" (spGLook 3)) : Dn P w K mg base CX0 3 "_law_wide_probe" spGProbe := by
  refine mkD0 T.fds_law_wide_probe T.g__law_wide_probe T.kps_law_wide_probe sc__law_wide_probe (fun _ _ _ _ _ _ us hl => match us, hl with | [_, _, _], _ => rfl) (fun vs H Q E h => ?_) (fun cdv A outer s H vs Q E hr h => ?_)
  · obtain ⟨p, q, a, n, tvs, ths, nm, rfl, _⟩ := h
    rfl
  · obtain ⟨p, q, a, n, tvs, ths, nm, rfl, hnm, P0, hl, hE, k0⟩ := h
    refine ⟨_, (pss_cons (ps_set (i := 3) sc__law_wide_probe.nd rfl (Or.inl rfl) (pe_ix ix_list (pe_lst (pa_cons pe_str (pa_cons pe_str (pa_cons pe_str (pa_cons pe_str pa_nil))))) (pe_d D__law_draw (hr.mono (by decide)) (by rfl) pass0 (pa_cons (pv 0) (pa_cons pe_int pa_nil))) (fun _ _ => rfl)))
    (pss_cons (ps_set (i := 4) sc__law_wide_probe.nd rfl (Or.inl rfl) (pe_ifExp (pt_truth (pv 1) (fun _ => rfl)) (pe_d D__law_draw (hr.mono (by decide)) (by rfl) pass0 (pa_cons (pv 0) (pa_cons pe_int pa_nil))) pe_int))
    (pss_cons (ps_set (i := 5) sc__law_wide_probe.nd rfl (Or.inl rfl) (pe_callTy call_tuple_of (by rfl) T.n_tuple bo_tuple (pa_cons (pe_lc (own := [("_law_k", 11)]) (g := gName 11) (tt := tYes) rfl sc__law_wide_probe.nd (pi_range1 (by rfl) T.n_range (pa_cons (pv 4) pa_nil)) (blkOk_by (own := [("_law_k", 11)]) (N := ["_law_pool_here", "_law_things_here", "_law_name", "_law_gate", "_law_many", "_law_args", "_law_tests", "_law_kind", "_law_x", "_law_parts", "_law_more", "_law_k", "_law_key"]) (sc := defScope s_law_wide_probe) (by decide +kernel)) (fun _ _ _ _ _ => (pg_name (i := 11) sc__law_wide_probe.nd rfl (Or.inl rfl))) (fun _ _ _ _ _ => pts_nil) (fun _ _ _ _ _ => (pe_d D__law_wide_look (hr.mono (by decide)) (by rfl) pass0 (pa_cons (pv 0) (pa_cons (pv 1) pa_nil))))) pa_nil)))
    (pss_cons (ps_set (i := 6) sc__law_wide_probe.nd rfl (Or.inl rfl) (pe_lst pa_nil))
    (pss_cons (ps_for PassesOwn.never rfl (pi_list (pv 1)) (pg_tup rfl (pgs_cons (pg_name (i := 7) sc__law_wide_probe.nd rfl (Or.inl rfl)) (pgs_cons (pg_name (i := 8) sc__law_wide_probe.nd rfl (Or.inr rfl)) (pgs_cons (pg_name (i := 9) sc__law_wide_probe.nd rfl (Or.inl rfl)) pgs_nil))))
    (pss_cons (ps_if (pt_cmpR op_eq (pv 7) pe_str (nomark _)) (pss_one (ps_set (i := 6) sc__law_wide_probe.nd rfl (Or.inl rfl) (pe_op op_cat (pv 6) (pe_lst (pa_cons (pe_tup (pa_cons pe_str (pa_cons (pv 8) pa_nil))) (pa_cons (pe_tup (pa_cons pe_str (pa_cons (pv 8) pa_nil))) pa_nil)))))) pss_nil)
    (pss_cons (ps_if (pt_cmpR op_eq (pv 7) pe_str (nomark _)) (pss_one (ps_expr (pe_bm PySem.F.plainAttrs_list PySem.F.slot_list_append PySem.F.type_list_append mt_append (pv 6) (pa_cons (pe_tup (pa_cons pe_str (pa_cons (pv 8) pa_nil))) pa_nil)))) pss_nil)
    (pss_one (ps_if (pt_cmpR op_eq (pv 7) pe_str (nomark _)) (pss_one (ps_set (i := 6) sc__law_wide_probe.nd rfl (Or.inl rfl) (pe_op op_cat (pv 6) (pe_lc (own := [("_law_key", 12)]) (g := gName 12) (tt := tYes) rfl sc__law_wide_probe.nd (pi_tup (pv 9)) (blkOk_by (own := [("_law_key", 12)]) (N := ["_law_pool_here", "_law_things_here", "_law_name", "_law_gate", "_law_many", "_law_args", "_law_tests", "_law_kind", "_law_x", "_law_parts", "_law_more", "_law_k", "_law_key"]) (sc := defScope s_law_wide_probe) (by decide +kernel)) (fun _ _ _ _ _ => (pg_name (i := 12) sc__law_wide_probe.nd rfl (Or.inl rfl))) (fun _ _ _ _ _ => pts_nil) (fun _ _ _ _ _ => (pe_tup (pa_cons pe_str (pa_cons (pv 8) (pa_cons (pv 12) pa_nil))))))))) pss_nil)))))
    (pss_cons (ps_if (PW.pt (pw_and (pt_truth (pv 6) (fun _ => rfl)) (pw_and1 (pt_cmpR op_eq (pe_d D__law_draw (hr.mono (by decide)) (by rfl) pass0 (pa_cons (pv 0) (pa_cons pe_int pa_nil))) pe_int (nomark _))))) (pss_one (ps_ret (pe_tup (pa_cons pe_str (pa_cons (pv 2) (pa_cons (pv 3) (pa_cons (pv 5) (pa_cons (pe_ix ix_list (pv 6) (pe_d D__law_draw (hr.mono (by decide)) (by rfl) pass0 (pa_cons (pv 0) (pa_cons (pe_callB call_len_seq (by rfl) T.n_len PySem.boot_len (pa_cons (pv 6) pa_nil)) pa_nil))) (fun _ _ => rfl)) pa_nil)))))))) pss_nil)
    (pss_cons (ps_set (i := 10) sc__law_wide_probe.nd rfl (Or.inl rfl) (pe_ifExp (pt_truth (pv 1) (fun _ => rfl)) (pe_d D__law_draw (hr.mono (by decide)) (by rfl) pass0 (pa_cons (pv 0) (pa_cons (pe_op op_sub pe_int (pv 4)) pa_nil))) pe_int))
    (pss_one (ps_ret (pe_tup (pa_cons pe_str (pa_cons (pv 2) (pa_cons (pv 3) (pa_cons (pv 5) (pa_cons (pe_callTy call_tuple_of (by rfl) T.n_tuple bo_tuple (pa_cons (pe_lc (own := [("_law_k", 11)]) (g := gName 11) (tt := tYes) rfl sc__law_wide_probe.nd (pi_range1 (by rfl) T.n_range (pa_cons (pv 10) pa_nil)) (blkOk_by (own := [("_law_k", 11)]) (N := ["_law_pool_here", "_law_things_here", "_law_name", "_law_gate", "_law_many", "_law_args", "_law_tests", "_law_kind", "_law_x", "_law_parts", "_law_more", "_law_k", "_law_key"]) (sc := defScope s_law_wide_probe) (by decide +kernel)) (fun _ _ _ _ _ => (pg_name (i := 11) sc__law_wide_probe.nd rfl (Or.inl rfl))) (fun _ _ _ _ _ => pts_nil) (fun _ _ _ _ _ => (pe_d D__law_wide_look (hr.mono (by decide)) (by rfl) pass0 (pa_cons (pv 0) (pa_cons (pv 1) pa_nil))))) pa_nil)) pa_nil))))))))))))))), ?_⟩
    have htl : tvs.length = ths.length := Paired.length hE.tv
    have hpos := hE.pos
    have hfew := hE.few
    -- the gate
    refine q_asgG (p := p) (q := q) (n := n) (c := 1) (H := H) (S := fun v _ => ∃ g : Str, v = .str g ∧ g ∈ gates_) (eg_opL (xs := gates_.map V.str) (el_lst (ea_cons ev_c (ea_cons ev_c (ea_cons ev_c (ea_cons ev_c ea_nil)))) (by decide)) (eg_draw (m := 4) (ev_var rfl) ev_c (by decide) (by decide)) fun a y H2 ha hy => ?_) P0 (by omega) fun y H1 f1 P1 hy => ?_
    · obtain ⟨d, rfl, hd⟩ := hy
      have hd4 : d < gates_.length := hd
      refine ⟨.str gates_[d], fun Q q => ⟨a, _, d, _, rfl, rfl, sq_of ha, atI_nat (j := d) ?_, q⟩, _, rfl, List.getElem_mem hd4⟩
      rw [List.getElem?_map, List.getElem?_eq_getElem hd4]
      rfl
    obtain ⟨g, rfl, hg⟩ := hy
    have hgl : g.length ≤ 100000 := by
      have : ∀ z ∈ gates_, z.length ≤ 100000 := by decide +kernel
      exact this g hg
    have hE1 := hE.go f1 P0 P1
    have hthings : ∀ {σ' : L2.St} {Hx : Hp}, σ'[1]? = some (some (.ref a)) → Hx a = some (.lst tvs) → EvT (fun σ H Q => tVar 1 σ H fun x H' => ∃ k, TruV K x H' k ∧ Q k H') σ' Hx true := fun h1 h2 => et_is (et_tru (ev_var h1) (truL (sq_of h2))) (by
      cases tvs with
      | nil => simp at htl; omega
      | cons x r => rfl)
    have aB : ∀ {Hx : Hp}, Hx a = some (.lst tvs) → (bs p q Hx) a = some (.lst tvs) := fun h => by
      rw [bs_ne hE.np hE.nq]
      exact h
    refine q_asgG (p := p) (q := q) (n := n + 1) (c := 1) (H := H1) (eg_ifT (hthings rfl (aB hE1.at_)) (eg_draw (m := 7) (ev_var rfl) ev_c (by decide) (by decide))) P1 (by omega) fun y H2 f2 P2 hy => ?_
    obtain ⟨m, rfl, hm⟩ := hy
    have hE2 := hE1.go f2 P1 P2
    refine q_asgG (p := p) (q := q) (n := n + 1 + 1) (c := 18) (H := H2) (eg_looks (m := m) P2 hE2 (by omega) (ev_var rfl) (fun _ => rfl) (fun _ => ev_var rfl) fun _ => ev_var rfl) P2 (by omega) fun y H3 f3 P3 hy => ?_
    obtain ⟨b, us, rfl, hb, hul, hus⟩ := hy
    have hE3 := hE2.go f3 P2 P3
    refine q_asgL (el_lst ea_nil (by decide)) fun tl0 H4 htl0 e4 h4 => ?_
    have P4 := P3.ex e4
    have hE4 := hE3.go (Fr.ex e4) P3 P4
    have hn0 := P3.ne htl0
    -- the tests there are
    refine q_forB (H := bs p q H3) (eb_list (ev_var (i := 1) rfl) (sq_of (aB hE3.at_))) (Fr.bs (Fr.ex e4)) (fun i σ' H' => ∃ (tl : Addr) (xs : List V) (y7 y8 y9 y10 y11 y12 : Option V), σ' = [some (.ref p), some (.ref a), some (.str nm), some (.str g), some (.int (m : Nat)), some (.ref b), some (.ref tl), y7, y8, y9, y10, y11, y12] ∧ Fr p q H3 H' ∧ Pool H' p q (n + 1 + 1 + 18) ∧ H3 tl = none ∧ H' tl = some (.lst xs) ∧ xs.length ≤ 5 * i ∧ ∀ x ∈ xs, SLook x H')
      (fun H5 e5 => ⟨tl0, [], none, none, none, none, none, none, rfl, (Fr.ex e4).trans (Fr.ex e5), P4.ex e5, htl0, e5 _ _ h4, by simp, fun x hx => by cases hx⟩) (fun i σ' H' pv => by
      obtain ⟨_, _, _, _, _, _, _, _, _, f, _⟩ := pv
      exact f.bs) (fun i x σ' H' hx pv => ?_) fun σ' H' pv => ?_
    · obtain ⟨tl, xs, y7, y8, y9, y10, y11, y12, rfl, f, Pi, htl, hw, hxl, hxs⟩ := pv
      have hEi := hE3.go f P3 Pi
      have hil := (List.getElem?_eq_some_iff.mp hx).1
      obtain ⟨t, ht, ta, tb, rfl, g1, g2⟩ := paired_get hEi.tv hx
      have htok := hE.ok t (List.mem_of_getElem? ht)
      have hnl := okN_len htok.1
      refine ⟨ta, _, rfl, st_of g1, rfl, _, _, rfl, _, _, rfl, _, _, rfl, rfl, ?_⟩
      let J : Nat → L2.St → Hp → Prop := fun m' σ' HG => ∃ (tl : Addr) (xs : List V) (y10 y11 y12 : Option V), σ' = [some (.ref p), some (.ref a), some (.str nm), some (.str g), some (.int (m : Nat)), some (.ref b), some (.ref tl), some (.str t.kind), some (.str t.name), some (.ref tb), y10, y11, y12] ∧ Fr p q H3 HG ∧ Pool HG p q (n + 1 + 1 + 18) ∧ HG tb = some (.tup (t.parts.map V.str)) ∧ H3 tl = none ∧ HG tl = some (.lst xs) ∧ xs.length ≤ m' ∧ ∀ x ∈ xs, SLook x HG
      have stay : ∀ {m1 m2 : Nat} {σ' : L2.St} {HG HL : Hp}, J m1 σ' HG → Ex HG HL → m1 ≤ m2 → J m2 σ' HL := fun {m1 m2 σ' HG HL} h e l => by
        obtain ⟨tl, xs, z1, z2, z3, hσ, f', P', hb', h0, h1, h2, h3⟩ := h
        exact ⟨tl, xs, z1, z2, z3, hσ, f'.trans (Fr.ex e), P'.ex e, e _ _ hb', h0, e _ _ h1, by omega, fun x hx => SLook.kp x _ _ (Kp.ex e) (h3 x hx)⟩
      have cat : ∀ {m1 m2 : Nat} {HG HL : Hp} {nl : Addr} {xs ys : List V} {z1 z2 z3 : Option V}, Fr p q H3 HG → Pool HG p q (n + 1 + 1 + 18) → HG tb = some (.tup (t.parts.map V.str)) → xs.length ≤ m1 → (∀ x ∈ xs, SLook x HG) → Ex HG HL → HG nl = none → HL nl = some (.lst (xs ++ ys)) → m1 + ys.length ≤ m2 → (∀ y ∈ ys, SLook y HL) → J m2 [some (.ref p), some (.ref a), some (.str nm), some (.str g), some (.int (m : Nat)), some (.ref b), some (.ref nl), some (.str t.kind), some (.str t.name), some (.ref tb), z1, z2, z3] HL := fun {m1 m2 HG HL nl xs ys z1 z2 z3} f' P' hb' h1 h2 e h3 h4 h5 h6 =>
        ⟨nl, xs ++ ys, z1, z2, z3, rfl, f'.trans (Fr.ex e), P'.ex e, e _ _ hb', f'.nn P' h3, h4, by rw [List.length_append]; omega, fun x hx => by
          rcases List.mem_append.mp hx with hx | hx
          · exact SLook.kp x _ _ (Kp.ex e) (h2 x hx)
          · exact h6 x hx⟩
      have j0 : J (5 * i) [some (.ref p), some (.ref a), some (.str nm), some (.str g), some (.int (m : Nat)), some (.ref b), some (.ref tl), some (.str t.kind), some (.str t.name), some (.ref tb), y10, y11, y12] H' := ⟨tl, xs, _, _, _, rfl, f, Pi, g2, htl, hw, hxl, hxs⟩
      refine q_ifJ (tw := tNext) (b := decide (t.kind = "flag")) (J (5 * i + 2)) (et_test (ev_eqS (ev_var (i := 7) rfl) ev_c)) (fun σ1 HG hJ => ?_) (fun hb k HG eG => ?_) fun hb k HG eG => k _ _ (stay j0 eG (by omega))
      · obtain ⟨tl, xs, z1, z2, z3, rfl, f', P', hb', h0, h1, h2, h3⟩ := hJ
        have tn := P3.ne h0
        refine q_ifJ (tw := tNext) (b := decide (t.kind = "slot")) (J (5 * i + 3)) (et_test (ev_eqS (ev_var (i := 7) rfl) ev_c)) (fun σ1 HI hJ => ?_) (fun hb k HI eI => ?_) fun hb k HI eI => k _ _ (stay ⟨tl, xs, z1, z2, z3, rfl, f', P', hb', h0, h1, h2, h3⟩ eI (by omega))
        · obtain ⟨tl, xs, z1, z2, z3, rfl, f', P', hb', h0, h1, h2, h3⟩ := hJ
          refine s_when (b := decide (t.kind = "table")) (et_test (ev_eqS (ev_var (i := 7) rfl) ev_c)) (fun hb HK eK => ?_) fun hb HK eK => ?_
          · have htab := of_decide_eq_true hb
            have hps : t.parts.length ≤ 2 := by
              obtain ⟨_, _, h⟩ := htok
              rcases h with ⟨h, _⟩ | ⟨h, _⟩ | ⟨_, ⟨k, h⟩ | ⟨k, l, h, _⟩⟩
              · rw [htab] at h
                exact absurd h (by decide +kernel)
              · rw [htab] at h
                exact absurd h (by decide)
              · rw [h]
                simp
              · rw [h]
                simp
            refine s_asgN (en_catN (l := tl) (xs := xs) (fun ys H => ys.length ≤ 2 ∧ ∀ y ∈ ys, SLook y H) (fun ys H H' e h => ⟨h.1, fun y hy => SLook.kp y _ _ (Kp.ex e) (h.2 y hy)⟩) (ev_var (i := 6) rfl) (eK _ _ h1) ((en_mapR (S := fun x y H => SLook y H) (fun _ y H H' kp h => SLook.kp y _ _ kp h) (ei_tup (ev_var (i := 9) rfl) (st_of (eK _ _ hb'))) (by rw [List.length_map]; omega) (fun x hx => ?_)).imp fun v HL s => ?_)) fun y HL eL s => ?_
            · obtain ⟨kz, hkz, rfl⟩ := List.mem_map.mp hx
              have hkl := okN_len (htok.2.1 kz hkz)
              refine fun H5 e5 => ⟨_, ?_, ?_, fun R r => r⟩
              · rfl
              · refine (en_U (eu_tup (ea_cons ev_c (ea_cons (ev_var (i := 8) rfl) (ea_cons (ev_var (i := 12) rfl) ea_nil))) (by simp))).imp fun v H6 s => ?_
                obtain ⟨pp, rfl, hpp⟩ := s
                exact ⟨["has", t.name, kz], ⟨pp, rfl, hpp⟩, by simp, by simp, sh_cons (by decide) (sh_cons hnl (sh_cons hkl sh_nil (by simp)) (by simp)) (by simp)⟩
            · obtain ⟨pl, ys, rfl, _, hpl, hpy⟩ := s
              have hyl := Paired.length hpy
              rw [List.length_map] at hyl
              exact ⟨pl, ys, rfl, hpl, by omega, by omega, fun y hy => by
                obtain ⟨x, _, hx⟩ := paired_mem hpy hy
                exact hx⟩
            · obtain ⟨nl, ys, rfl, hnl0, hnl1, hyl, hys⟩ := s
              obtain ⟨tl2, xs2, r1, r2, r3, r4, r5, r6, r7, r8, r9, r10, r11⟩ := cat (m2 := 5 * i + 5) (z1 := z1) (z2 := z2) (z3 := z3) (f'.trans (Fr.ex eK)) (P'.ex eK) (eK _ _ hb') h2 (fun x hx => SLook.kp x _ _ (Kp.ex eK) (h3 x hx)) eL hnl0 hnl1 (by omega) hys
              exact ⟨tl2, xs2, _, _, _, _, _, _, r4, r5, r6, r8, r9, by omega, r11⟩
          · exact ⟨tl, xs, _, _, _, _, _, _, rfl, f'.trans (Fr.ex eK), P'.ex eK, h0, eK _ _ h1, by omega, fun x hx => SLook.kp x _ _ (Kp.ex eK) (h3 x hx)⟩
        · refine s_appU (ys := [.str "bound", .str t.name]) (eI _ _ h1) (ev_var (i := 6) rfl) (eu_tup (ea_cons ev_c (ea_cons (ev_var (i := 8) rfl) ea_nil)) (by simp)) (by omega) fun na HL hna eL hL => k _ _ ?_
          have kpd : Kp HL (upd HL tl (.lst (xs ++ [.ref na]))) := Kp.put (eL _ _ (eI _ _ h1))
          refine ⟨tl, xs ++ [.ref na], z1, z2, z3, rfl, (f'.trans (Fr.ex (eI.trans eL))).put h0, (P'.ex (eI.trans eL)).put tn.1 tn.2, kpd.tup (eL _ _ (eI _ _ hb')), h0, upd_same, by rw [List.length_append, List.length_singleton]; omega, fun x hx => ?_⟩
          rcases List.mem_append.mp hx with hx | hx
          · exact SLook.kp x _ _ ((Kp.ex (eI.trans eL)).trans kpd) (h3 x hx)
          · rw [List.mem_singleton.mp hx]
            exact ⟨["bound", t.name], ⟨na, rfl, kpd.tup hL⟩, by simp, by simp, sh_cons (by decide) (sh_cons hnl sh_nil (by simp)) (by simp)⟩
      · refine s_asgN (en_catN (l := tl) (xs := xs) (fun ys H => ys.length = 2 ∧ ∀ y ∈ ys, SLook y H) (fun ys H H' e h => ⟨h.1, fun y hy => SLook.kp y _ _ (Kp.ex e) (h.2 y hy)⟩) (ev_var (i := 6) rfl) (eG _ _ hw) ((en_lst2 (xs := [.str "read", .str t.name]) (ys := [.str "watch", .str t.name]) (eu_tup (ea_cons ev_c (ea_cons (ev_var (i := 8) rfl) ea_nil)) (by simp)) (eu_tup (ea_cons ev_c (ea_cons (ev_var (i := 8) rfl) ea_nil)) (by simp))).imp fun v HL s => ?_)) fun y HL eL s => ?_
        · obtain ⟨pl, zs, rfl, hpl, b1, b2, rfl, hb1, hb2⟩ := s
          refine ⟨pl, _, rfl, hpl, by simp; omega, rfl, fun y hy => ?_⟩
          rcases List.mem_cons.mp hy with rfl | hy
          · exact ⟨["read", t.name], ⟨b1, rfl, hb1⟩, by simp, by simp, sh_cons (by decide) (sh_cons hnl sh_nil (by simp)) (by simp)⟩
          · rw [List.mem_singleton.mp hy]
            exact ⟨["watch", t.name], ⟨b2, rfl, hb2⟩, by simp, by simp, sh_cons (by decide) (sh_cons hnl sh_nil (by simp)) (by simp)⟩
        · obtain ⟨nl, ys, rfl, hnl0, hnl1, hyl, hys⟩ := s
          exact k _ _ (cat (f.trans (Fr.ex eG)) (Pi.ex eG) (eG _ _ g2) hxl (fun x hx => SLook.kp x _ _ (Kp.ex eG) (hxs x hx)) eL hnl0 hnl1 (by omega) hys)
    · obtain ⟨tl, xs, y7, y8, y9, y10, y11, y12, rfl, f, Pi, htl0, hw, hxl, hxs⟩ := pv
      have tn := P3.ne htl0
      have hEi := hE3.go f P3 Pi
      have hwB : (bs p q H') tl = some (.lst xs) := by
        rw [bs_ne tn.1 tn.2]
        exact hw
      refine q_whenG (p := p) (q := q) (n := n + 1 + 1 + 18) (c := 1) (H := H') (gt_and (a := !xs.isEmpty) (et_is (et_tru (ev_var (i := 6) rfl) (truL (sq_of hwB))) (by cases xs <;> rfl)) fun _ => gt_draw (m := 2) (ev_var (i := 0) rfl) ev_c (by decide) (by decide)) Pi (by omega) (fun H5 f5 P5 hc => ?_) fun H5 f5 P5 hc => ?_
      · have hx0 : 0 < xs.length := by
          obtain ⟨h, _⟩ := hc rfl
          cases xs with
          | nil => cases h
          | cons x r => simp
        have hw5 := f5 _ _ tn.1 tn.2 hw
        refine s_retG (p := p) (q := q) (n := n + 1 + 1 + 18 + 1) (c := 1) (H := H5) (eg_tupA (ga_v ev_c (ga_v (ev_var (i := 2) rfl) (ga_v (ev_var (i := 3) rfl) (ga_v (ev_var (i := 5) rfl) (ga_1 (eg_pickL (K := K) (a := tl) (xs := xs) (ev_var (i := 0) rfl) (ev_var (i := 6) rfl) tn.1 tn.2 hw5 hx0 (by omega))))))) (fun vs H2 h => by
          obtain ⟨_, rfl, _, rfl, _, rfl, _, rfl, y, rfl, _⟩ := h
          simp) fun _ _ _ _ h => h) P5 (by omega) fun y H6 f6 P6 s => ?_
        obtain ⟨ra, zs, rfl, hra, _, rfl, _, rfl, _, rfl, _, rfl, y, rfl, hy⟩ := s
        obtain ⟨ws, hws⟩ := hxs y hy
        have kp6 := Pi.kp (f5.trans f6) P6
        have kp36 := P3.kp ((f.trans f5).trans f6) P6
        obtain ⟨as, has, hsh, hlk⟩ := looks_all fun y hy => SLook.kp y _ _ kp36 (hus y hy)
        have hal := Paired.length has
        exact k0 _ (.ass nm g as ws) H6 ⟨ra, .ref b, y, rfl, hra, ⟨b, us, rfl, kp36.tup hb, has⟩, (hws.kp kp6).1⟩ ⟨hnm, hgl, by omega, hsh, hws.2.2.2⟩ ⟨rfl, ⟨by omega, hlk⟩, hws.2.1, hws.2.2.1⟩ ((((f1.trans f2).trans f3).trans f).trans (f5.trans f6)) (P6.le (by omega))
      · have hE5 := hEi.go f5 Pi P5
        refine q_asgG (p := p) (q := q) (n := n + 1 + 1 + 18 + 1) (c := 1) (H := H5) (eg_ifT (hthings rfl (aB hE5.at_)) (eg_draw (m := 7 - m) (ev_var (i := 0) rfl) (ev_is (ev_op ev_c (ev_var (i := 4) rfl) rv_I0) (by congr 1; omega)) (by omega) (by omega))) P5 (by omega) fun y H6 f6 P6 hy => ?_
        obtain ⟨d, rfl, hd⟩ := hy
        have hE6 := hE5.go f6 P5 P6
        refine s_retG (p := p) (q := q) (n := n + 1 + 1 + 18 + 1 + 1) (c := 18) (H := H6) (eg_tupA (ga_v ev_c (ga_v (ev_var (i := 2) rfl) (ga_v (ev_var (i := 3) rfl) (ga_v (ev_var (i := 5) rfl) (ga_1 (eg_looks (K := K) (m := d) P6 hE6 (by omega) (ev_var (i := 10) rfl) (fun _ => rfl) (fun _ => ev_var rfl) fun _ => ev_var rfl)))))) (fun vs H2 h => by
          obtain ⟨_, rfl, _, rfl, _, rfl, _, rfl, y, rfl, _⟩ := h
          simp) fun vs H H' e h => by
          obtain ⟨_, rfl, _, rfl, _, rfl, _, rfl, y, rfl, b2, us2, rfl, h1, h2, h3⟩ := h
          exact ⟨_, rfl, _, rfl, _, rfl, _, rfl, _, rfl, b2, us2, rfl, e _ _ h1, h2, fun y hy => SLook.kp y _ _ (Kp.ex e) (h3 y hy)⟩) P6 (by omega) fun y H7 f7 P7 s => ?_
        obtain ⟨ra, zs, rfl, hra, _, rfl, _, rfl, _, rfl, _, rfl, y, rfl, b2, us2, rfl, hb2, hu2, hus2⟩ := s
        have f57 := (f5.trans f6).trans f7
        have kp37 := P3.kp (f.trans f57) P7
        obtain ⟨as, has, hsh, hlk⟩ := looks_all fun y hy => SLook.kp y _ _ kp37 (hus y hy)
        obtain ⟨bs', hbs, hsh2, hlk2⟩ := looks_all hus2
        have hal := Paired.length has
        have hbl := Paired.length hbs
        exact k0 _ (.pro nm g as bs') H7 ⟨ra, .ref b, .ref b2, rfl, hra, ⟨b, us, rfl, kp37.tup hb, has⟩, ⟨b2, us2, rfl, hb2, hbs⟩⟩ ⟨hnm, hgl, by omega, by omega, hsh, hsh2⟩ ⟨rfl, ⟨by omega, hlk⟩, by omega, hlk2⟩ ((((f1.trans f2).trans f3).trans f).trans f57) (P7.le (by omega))
end
end Q7
/-! _law_wide_rows -/
namespace Q7
open PySem PySem.Spec PyProof.Rows L2 Evl
/-- rows as the generators make them -/
def GR : R → Prop
  | .tup ws => ∃ w r, ws = w :: r ∧ (r = [] → ¬ w ∈ (["probe", "assert"] : List Str))
  | .pro _ _ _ _ => True
  | .ass _ _ _ _ => True
  | _ => False
/-- all but the pool, its script and one list stays -/
def Fn (p q c : Addr) (H H' : Hp) : Prop := ∀ d o, d ≠ p → d ≠ q → d ≠ c → H d = some o → H' d = some o
section
variable {p q c : Addr} {H H' H1 H2 : Hp} {n m : Nat}
theorem Fn.of (f : Fr p q H H') : Fn p q c H H' := fun d o h1 h2 _ h => f d o h1 h2 h
theorem Fn.trans (a : Fn p q c H H1) (b : Fn p q c H1 H2) : Fn p q c H H2 := fun d o h1 h2 h3 h => b d o h1 h2 h3 (a d o h1 h2 h3 h)
theorem Fn.put {a : Addr} {u : HO} (f : Fn p q c H H') (h : H a = none) : Fn p q c H (upd H' a u) := fun d o h1 h2 h3 hh => by
  by_cases e : d = a
  · rw [e, h] at hh
    cases hh
  · rw [upd_ne e]
    exact f d o h1 h2 h3 hh
theorem Fn.own {u : HO} (f : Fn p q c H H') : Fn p q c H (upd H' c u) := fun d o h1 h2 h3 hh => by
  rw [upd_ne h3]
  exact f d o h1 h2 h3 hh
theorem Fn.kp {xs ys : List V} (f : Fn p q c H H') (P0 : Pool H p q n) (P1 : Pool H' p q m) (h0 : H c = some (.lst xs)) (h1 : H' c = some (.lst ys)) : Kp H H' := by
  obtain ⟨_, cells, code, cnt, seed, g1, g2, _⟩ := P0
  obtain ⟨_, cells', code', cnt', seed', k1, k2, _⟩ := P1
  refine ⟨fun b o hb ho => ?_, fun b zs hb => ?_⟩
  · refine f b o (fun z => ?_) (fun z => ?_) (fun z => ?_) hb
    · rw [z, g1] at hb
      exact ho _ (Option.some.inj hb).symm
    · rw [z, g2] at hb
      exact ho _ (Option.some.inj hb).symm
    · rw [z, h0] at hb
      exact ho _ (Option.some.inj hb).symm
  · by_cases e1 : b = p
    · rw [e1]
      exact ⟨_, k1⟩
    · by_cases e2 : b = q
      · rw [e2]
        exact ⟨_, k2⟩
      · by_cases e3 : b = c
        · rw [e3]
          exact ⟨_, h1⟩
        · exact ⟨zs, f b _ e1 e2 e3 hb⟩
theorem ThE.put {a : Addr} {tvs : List V} {ths : List TH} {xs ys : List V} (e : ThE H p q a tvs ths) (h : c ≠ a) (hc : H c = some (.lst xs)) : ThE (upd H c (.lst ys)) p q a tvs ths :=
  ⟨e.np, e.nq, by rw [upd_ne (Ne.symm h)]; exact e.at_, Paired.imp (fun _ _ z => z.kp (Kp.put hc)) e.tv, e.ok, e.pos, e.few⟩
/-- where things lie -/
structure Ds (p q a na la rt bt : Addr) (H0 : Hp) : Prop where
  np : na ≠ p
  nq : na ≠ q
  an : na ≠ a
  lp : la ≠ p
  lq : la ≠ q
  ln : la ≠ na
  rp : rt ≠ p
  rq : rt ≠ q
  ra : rt ≠ a
  rn : rt ≠ na
  rl : rt ≠ la
  bp : bt ≠ p
  bq : bt ≠ q
  ba : bt ≠ a
  bn : bt ≠ na
  bl : bt ≠ la
  rb : rt ≠ bt
  r0 : H0 rt = none
  b0 : H0 bt = none
/-- what stands: rows, blocks, the names left -/
structure Rs (p q a na la rt bt : Addr) (H0 : Hp) (tvs : List V) (ths : List TH) (lts : List Str) (n : Nat) (vals : List V) (rs : List R) (bls nms : List Str) (H : Hp) : Prop where
  fr : Fn p q na H0 H
  po : Pool H p q n
  th : ThE H p q a tvs ths
  la : H la = some (.lst (lts.map V.str))
  na : H na = some (.lst (nms.map V.str))
  rt : H rt = some (.lst vals)
  bt : H bt = some (.lst (bls.map V.str))
  rv : Paired (RowV H) vals rs
  ok : ∀ r ∈ rs, ROk r ∧ GR r
  nm : ∀ z ∈ nms, z.length ≤ 100000
variable {a na la rt bt : Addr} {H0 : Hp} {tvs : List V} {ths : List TH} {lts : List Str} {vals : List V} {rs : List R} {bls nms : List Str}
theorem Rs.go (d : Ds p q a na la rt bt H0) (s : Rs p q a na la rt bt H0 tvs ths lts n vals rs bls nms H) (f : Fr p q H H') (P : Pool H' p q m) : Rs p q a na la rt bt H0 tvs ths lts m vals rs bls nms H' :=
  ⟨s.fr.trans (Fn.of f), P, s.th.go f s.po P, f _ _ d.lp d.lq s.la, f _ _ d.np d.nq s.na, f _ _ d.rp d.rq s.rt, f _ _ d.bp d.bq s.bt, Paired.imp (fun _ _ z => z.kp (s.po.kp f P)) s.rv, s.ok, s.nm⟩
theorem Rs.row {y : V} {r : R} (d : Ds p q a na la rt bt H0) (s : Rs p q a na la rt bt H0 tvs ths lts n vals rs bls nms H) (hy : RowV H y r) (hr : ROk r) (hg : GR r) : Rs p q a na la rt bt H0 tvs ths lts n (vals ++ [y]) (rs ++ [r]) bls nms (upd H rt (.lst (vals ++ [y]))) := by
  have kp : Kp H (upd H rt (.lst (vals ++ [y]))) := Kp.put s.rt
  refine ⟨s.fr.put d.r0, s.po.put d.rp d.rq, s.th.put d.ra s.rt, ?_, ?_, upd_same, ?_, Paired.snoc (Paired.imp (fun _ _ z => z.kp kp) s.rv) (hy.kp kp), fun r' h => ?_, s.nm⟩
  · rw [upd_ne (Ne.symm d.rl)]
    exact s.la
  · rw [upd_ne (Ne.symm d.rn)]
    exact s.na
  · rw [upd_ne (Ne.symm d.rb)]
    exact s.bt
  · rcases List.mem_append.mp h with h | h
    · exact s.ok r' h
    · rw [List.mem_singleton.mp h]
      exact ⟨hr, hg⟩
theorem Rs.blk {bls' : List Str} {xs : List V} (d : Ds p q a na la rt bt H0) (s : Rs p q a na la rt bt H0 tvs ths lts n vals rs bls nms H) (hx : xs = bls'.map V.str) : Rs p q a na la rt bt H0 tvs ths lts n vals rs bls' nms (upd H bt (.lst xs)) := by
  subst hx
  have kp : Kp H (upd H bt (.lst (bls'.map V.str))) := Kp.put s.bt
  refine ⟨s.fr.put d.b0, s.po.put d.bp d.bq, s.th.put d.ba s.bt, ?_, ?_, ?_, upd_same, Paired.imp (fun _ _ z => z.kp kp) s.rv, s.ok, s.nm⟩
  · rw [upd_ne (Ne.symm d.bl)]
    exact s.la
  · rw [upd_ne (Ne.symm d.bn)]
    exact s.na
  · rw [upd_ne d.rb]
    exact s.rt
theorem Rs.nam {nms' : List Str} {xs : List V} (d : Ds p q a na la rt bt H0) (s : Rs p q a na la rt bt H0 tvs ths lts n vals rs bls nms H) (hx : xs = nms'.map V.str) (hn : ∀ z ∈ nms', z.length ≤ 100000) : Rs p q a na la rt bt H0 tvs ths lts n vals rs bls nms' (upd H na (.lst xs)) := by
  subst hx
  have kp : Kp H (upd H na (.lst (nms'.map V.str))) := Kp.put s.na
  refine ⟨s.fr.own, s.po.put d.np d.nq, s.th.put d.an s.na, ?_, upd_same, ?_, ?_, Paired.imp (fun _ _ z => z.kp kp) s.rv, s.ok, hn⟩
  · rw [upd_ne d.ln]
    exact s.la
  · rw [upd_ne d.rn]
    exact s.rt
  · rw [upd_ne d.bn]
    exact s.bt
end
section
variable {K : PySem.W.Frag} {p q : Addr} {c : Nat} {σ : L2.St} {H : Hp} {ta tb te : TE}
/-- (..) + a tuple that is drawn -/
theorem eg_catA {xs : List V} {S : List V → Hp → Prop} (mono : ∀ ys H H', Ex H H' → S ys H → S ys H') (ha : EvU ta σ (bs p q H) xs) (hx : xs ≠ []) (hb : EvG p q c tb σ H fun v H2 => ∃ b ys, v = .ref b ∧ H2 b = some (.tup ys) ∧ ys ≠ [] ∧ xs.length + ys.length ≤ 100000 ∧ S ys H2) :
    EvG p q c (tOp (rCatA K) ta tb) σ H fun v H2 => ∃ b ys, v = .ref b ∧ H2 b = some (.tup (xs ++ ys)) ∧ S ys H2 := fun H1 n f1 P1 hl Q k =>
  ha H1 f1.bs _ fun l H2 hl0 e2 h2 => hb H2 n (f1.trans (Fr.ex e2)) (P1.ex e2) hl _ fun y H3 f3 P3 s => by
    obtain ⟨b, ys, rfl, g1, g2, g3, g4⟩ := s
    have hne := P1.ne hl0
    exact ⟨l, b, xs, ys, rfl, rfl, st_of (f3 _ _ hne.1 hne.2 h2), st_of g1, sz_of g3, fun z => absurd z hx, fun _ z => absurd z g2, fun _ _ t ht => k _ _ (((Fr.ex e2).trans f3).trans (Fr.ex (Ex.new ht))) (P3.ex (Ex.new ht)) ⟨t, ys, rfl, upd_same, mono _ _ _ (Ex.new ht) g4⟩⟩
end
section
variable {P : Program} {w : World} {K : PySem.W.Frag} {mg : Str → Option Value} {base : Heap}
def spGRows : Sp := fun vs H Q _ => ∃ (p q a na la : Addr) (n M : Nat) (tvs : List V) (ths : List TH) (lts nms : List Str), vs = [.ref p, .ref a, .ref na, .ref la, .int (M : Nat)] ∧ Pool H p q n ∧ n + 10000 ≤ Lim ∧ M ≤ 55 ∧ ThE H p q a tvs ths ∧ na ≠ p ∧ na ≠ q ∧ na ≠ a ∧ la ≠ p ∧ la ≠ q ∧ la ≠ na ∧ H la = some (.lst (lts.map V.str)) ∧ H na = some (.lst (nms.map V.str)) ∧ lts.length ≤ 100 ∧ (∀ z ∈ lts, z.length ≤ 100000) ∧ (∀ z ∈ nms, z.length ≤ 100000) ∧
  ∀ (l : Addr) (vals : List V) (rs : List R) (nms' : List Str) H', H l = none → H' l = some (.lst vals) → Paired (RowV H') vals rs → rs.length ≤ M → (∀ r ∈ rs, ROk r ∧ GR r) → Fn p q na H H' → Pool H' p q (n + 10000) → H' na = some (.lst (nms'.map V.str)) → (∀ z ∈ nms', z.length ≤ 100000) → Q (.ref l) H'
def lastIs (ws : List Str) (z : Str) : Bool := match ws.getLast? with
  | some b => decide (b = z)
  | none => false
theorem et_lastIs {σ : L2.St} {H : Hp} {i : Nat} {a : Addr} {ws : List Str} {z : Str} (h : σ[i]? = some (some (.ref a))) (hx : H a = some (.lst (ws.map V.str))) : EvT (tAnd (fun σ H Q => tVar i σ H fun x H' => ∃ k, TruV K x H' k ∧ Q k H') (tTest (tOp rEq (tOp (rIxL K) (tVar i) (tUn (rU fun i => .int (-i)) (tC (.int 1)))) (tC (.str z))))) σ H (lastIs ws z) := by
  rcases List.eq_nil_or_concat ws with rfl | ⟨b0, bx, rfl⟩
  · exact et_is (et_and (b := true) (et_tru (ev_var h) (truL (sq_of hx))) fun z => by cases z) rfl
  · rw [List.concat_eq_append] at hx ⊢
    have hx' : H a = some (.lst (b0.map V.str ++ [.str bx])) := by
      rw [hx, List.map_append]
      rfl
    refine et_is (et_and (et_tru (ev_var h) (truL (sq_of hx'))) fun _ => et_test (ev_eqS (ev_ixL (K := K) (ev_var h) (sq_of hx') (ev_un ev_c ru_neg) (atI_last _ _)) ev_c)) ?_
    unfold lastIs
    rw [List.getLast?_append]
    have : (!(b0.map V.str ++ [V.str bx]).isEmpty) = true := by simp
    rw [this]
    simp
theorem last_some {ws : List Str} (h : ws.isEmpty = false) : ∃ b0 bx, ws = b0 ++ [bx] := by
  rcases List.eq_nil_or_concat ws with rfl | ⟨b0, bx, rfl⟩
  · cases h
  · exact ⟨b0, bx, List.concat_eq_append⟩
theorem paired_const {α β : Type} {r : α → β → Prop} {z : β} : ∀ {ys : List α}, (∀ y ∈ ys, r y z) → Paired r ys (List.replicate ys.length z)
  | [], _ => .nil
  | y :: l, h => .cons (h y List.mem_cons_self) (paired_const fun x hx => h x (List.mem_cons_of_mem _ hx))
theorem map_nonempty {ws : List Str} (h : (!(ws.map V.str).isEmpty) = true) : ws.isEmpty = false := by
  cases ws with
  | nil => cases h
  | cons x r => rfl
theorem gr_look {w : Str} {ws : List Str} (h : 1 ≤ ws.length) : GR (.tup (w :: ws)) := ⟨w, ws, rfl, fun z => by
  rw [z] at h
  simp at h⟩
theorem gr_own {ws : List Str} (h : 2 ≤ ws.length) : GR (.tup ws) := by
  cases ws with
  | nil => simp at h
  | cons w r => exact gr_look (by simp at h; omega)
theorem sc__law_wide_rows : FnScope ["_law_pool_here", "_law_things_here", "_law_names_here", "_law_later", "_law_many", "_law_rows", "_law_blocks", "_law_k", "_law_pick", "_law_left", "_law_block"] ["_law_pool_here", "_law_things_here", "_law_names_here", "_law_later", "_law_many"] (defScope s_law_wide_rows) := ⟨rfl, rfl, rfl, by decide +kernel, rfl, by decide +kernel, by decide +kernel⟩
theorem D__law_wide_rows (T : Txt w K mg) (D__law_draw : Dn P w K mg base CX0 1 "_law_draw" spDraw) (D__law_word : Dn P w K mg base CX0 2 "_law_word" spWord) (D__law_wide_probe : Dn P w K mg base CX0 3 "_law_wide_probe" spGProbe) (D__law_wide_test : Dn P w K mg base CX0 3 "_law_wide_test" spGTest) (D__law_wide_deed : Dn P w K mg base CX0 2 "_law_wide_deed" (spGLook 3)) : Dn P w K mg base CX0 4 "_law_wide_rows" spGRows := by
  refine mkD0 T.fds_law_wide_rows T.g__law_wide_rows T.kps_law_wide_rows sc__law_wide_rows (fun _ _ _ _ _ _ us hl => match us, hl with | [_, _, _, _, _], _ => rfl) (fun vs H Q E h => ?_) (fun cdv A outer s H vs Q E hr h => ?_)
  · obtain ⟨p, q, a, na, la, n, M, tvs, ths, lts, nms, rfl, _⟩ := h
    rfl
  · obtain ⟨p, q, a, na, la, n, M, tvs, ths, lts, nms, rfl, P0, hl, hM, hE, hnp, hnq, hna, hlp, hlq, hln, hla, hnm, hlt9, hltl, hnml, k0⟩ := h
    refine ⟨_, (pss_cons (ps_par (i := 5) (j := 6) rfl sc__law_wide_rows.nd rfl rfl (by decide) rfl rfl (pa_cons (pe_lst pa_nil) (pa_cons (pe_lst pa_nil) pa_nil)) rfl)
    (pss_cons (ps_for PassesOwn.never rfl (pi_range1 (by rfl) T.n_range (pa_cons (pe_d D__law_draw (hr.mono (by decide)) (by rfl) pass0 (pa_cons (pv 0) (pa_cons (pe_op op_add (pv 4) pe_int) pa_nil))) pa_nil)) (pg_name (i := 7) sc__law_wide_rows.nd rfl (Or.inl rfl))
    (pss_cons (ps_set (i := 8) sc__law_wide_rows.nd rfl (Or.inl rfl) (pe_d D__law_draw (hr.mono (by decide)) (by rfl) pass0 (pa_cons (pv 0) (pa_cons pe_int pa_nil))))
    (pss_cons (ps_set (i := 9) sc__law_wide_rows.nd rfl (Or.inl rfl) (pe_op op_sub (pe_op op_sub (pv 4) (pe_callB call_len_seq (by rfl) T.n_len PySem.boot_len (pa_cons (pv 5) pa_nil))) (pe_callB call_len_seq (by rfl) T.n_len PySem.boot_len (pa_cons (pv 6) pa_nil))))
    (pss_one (ps_if (PW.pt (pw_and (pt_cmpR op_lt (pv 8) pe_int (nomark _)) (pw_and (pt_cmpR op_lt (pe_callB call_len_seq (by rfl) T.n_len PySem.boot_len (pa_cons (pv 6) pa_nil)) pe_int (nomark _)) (pw_and1 (pt_cmpR op_gt (pv 9) pe_int (nomark _)))))) (pss_cons (ps_expr (pe_bm PySem.F.plainAttrs_list PySem.F.slot_list_append PySem.F.type_list_append mt_append (pv 6) (pa_cons (pe_ix ix_list (pe_lst (pa_cons pe_str (pa_cons pe_str (pa_cons pe_str pa_nil)))) (pv 8) (fun _ _ => rfl)) pa_nil)))
    (pss_one (ps_expr (pe_bm PySem.F.plainAttrs_list PySem.F.slot_list_append PySem.F.type_list_append mt_append (pv 5) (pa_cons (pe_op op_catA (pe_tup (pa_cons (pe_ix ix_list (pv 6) (pe_un un_neg pe_int) (fun _ _ => rfl)) pa_nil)) (pe_d D__law_wide_test (hr.mono (by decide)) (by rfl) pass0 (pa_cons (pv 0) (pa_cons (pv 1) (pa_cons (pe_cmpR op_eq (pv 8) pe_int (nomark _)) pa_nil))))) pa_nil))))) (pss_one (ps_if (PW.pt (pw_and (pt_cmpR op_eq (pv 8) pe_int (nomark _)) (pw_and1 (pt_truth (pv 6) (fun _ => rfl))))) (pss_cons (ps_expr (pe_bm0 PySem.F.plainAttrs_list PySem.F.slot_list_pop PySem.F.type_list_pop mt_pop (pv 6)))
    (pss_one (ps_expr (pe_bm PySem.F.plainAttrs_list PySem.F.slot_list_append PySem.F.type_list_append mt_append (pv 5) (pa_cons (pe_tup (pa_cons pe_str pa_nil)) pa_nil))))) (pss_one (ps_if (pt_cmpR op_gt (pv 9) pe_int (nomark _)) (pss_one (ps_if (PW.pt (pw_and (pt_cmpR op_eq (pv 8) pe_int (nomark _)) (pw_and (pt_truth (pv 6) (fun _ => rfl)) (pw_and1 (pt_cmpR op_eq (pe_ix ix_list (pv 6) (pe_un un_neg pe_int) (fun _ _ => rfl)) pe_str (nomark _)))))) (pss_cons (ps_asg pe_str (pg_sub (pv 6) (pe_un un_neg pe_int) set_list (fun _ => rfl)))
    (pss_one (ps_expr (pe_bm PySem.F.plainAttrs_list PySem.F.slot_list_append PySem.F.type_list_append mt_append (pv 5) (pa_cons (pe_tup (pa_cons pe_str pa_nil)) pa_nil))))) (pss_one (ps_if (PW.pt (pw_and (pt_cmpR op_in_seq (pv 8) (pe_tup (pa_cons pe_int (pa_cons pe_int pa_nil))) (by rfl)) (pw_and1 (pt_truth (pv 3) (fun _ => rfl))))) (pss_one (ps_expr (pe_bm PySem.F.plainAttrs_list PySem.F.slot_list_append PySem.F.type_list_append mt_append (pv 5) (pa_cons (pe_tup (pa_cons pe_str (pa_cons (pe_ix ix_list (pv 3) (pe_d D__law_draw (hr.mono (by decide)) (by rfl) pass0 (pa_cons (pv 0) (pa_cons (pe_callB call_len_seq (by rfl) T.n_len PySem.boot_len (pa_cons (pv 3) pa_nil)) pa_nil))) (fun _ _ => rfl)) pa_nil))) pa_nil)))) (pss_one (ps_if (PW.pt (pw_and (pt_cmpR op_in_seq (pv 8) (pe_tup (pa_cons pe_int (pa_cons pe_int (pa_cons pe_int pa_nil)))) (by rfl)) (pw_and1 (pt_truth (pv 2) (fun _ => rfl))))) (pss_one (ps_expr (pe_bm PySem.F.plainAttrs_list PySem.F.slot_list_append PySem.F.type_list_append mt_append (pv 5) (pa_cons (pe_d D__law_wide_probe (hr.mono (by decide)) (by rfl) pass0 (pa_cons (pv 0) (pa_cons (pv 1) (pa_cons (pe_bm PySem.F.plainAttrs_list PySem.F.slot_list_pop PySem.F.type_list_pop mt_popAt (pv 2) (pa_cons pe_int pa_nil)) pa_nil)))) pa_nil)))) (pss_one (ps_if (pt_cmpR op_eq (pv 8) pe_int (nomark _)) (pss_one (ps_expr (pe_bm PySem.F.plainAttrs_list PySem.F.slot_list_append PySem.F.type_list_append mt_append (pv 5) (pa_cons (pe_ifExp (pt_cmpR op_eq (pe_d D__law_draw (hr.mono (by decide)) (by rfl) pass0 (pa_cons (pv 0) (pa_cons pe_int pa_nil))) pe_int (nomark _)) (pe_tup (pa_cons pe_str pa_nil)) (pe_tup (pa_cons pe_str (pa_cons (pe_d D__law_word (hr.mono (by decide)) (by rfl) pass0 (pa_cons (pv 0) pa_nil)) pa_nil)))) pa_nil)))) (pss_one (ps_expr (pe_bm PySem.F.plainAttrs_list PySem.F.slot_list_append PySem.F.type_list_append mt_append (pv 5) (pa_cons (pe_d D__law_wide_deed (hr.mono (by decide)) (by rfl) pass0 (pa_cons (pv 0) (pa_cons (pv 1) pa_nil))) pa_nil)))))))))))) pss_nil)))))))))
    (pss_one (ps_ret (pe_op op_cat (pv 5) (pe_lc (own := [("_law_block", 10)]) (g := gName 10) (tt := tYes) rfl sc__law_wide_rows.nd (pi_list (pv 6)) (blkOk_by (own := [("_law_block", 10)]) (N := ["_law_pool_here", "_law_things_here", "_law_names_here", "_law_later", "_law_many", "_law_rows", "_law_blocks", "_law_k", "_law_pick", "_law_left", "_law_block"]) (sc := defScope s_law_wide_rows) (by decide +kernel)) (fun _ _ _ _ _ => (pg_name (i := 10) sc__law_wide_rows.nd rfl (Or.inl rfl))) (fun _ _ _ _ _ => pts_nil) (fun _ _ _ _ _ => (pe_tup (pa_cons pe_str pa_nil))))))))), ?_⟩
    refine q_parLL (i := 5) (j := 6) fun rt bt H1 hrt hbt hne e1 h1 h2 => ?_
    have rn := P0.ne hrt
    have bn := P0.ne hbt
    have nz : ∀ {Hx : Hp} {c d : Addr} {o : HO}, Hx c = none → Hx d = some o → c ≠ d := fun h1 h2 z => by
      rw [z, h2] at h1
      cases h1
    have d : Ds p q a na la rt bt H := ⟨hnp, hnq, hna, hlp, hlq, hln, rn.1, rn.2, nz hrt hE.at_, nz hrt hnm, nz hrt hla, bn.1, bn.2, nz hbt hE.at_, nz hbt hnm, nz hbt hla, hne, hrt, hbt⟩
    have s0 : Rs p q a na la rt bt H tvs ths lts n [] [] [] nms H1 := ⟨Fn.of (Fr.ex e1), P0.ex e1, hE.go (Fr.ex e1) P0 (P0.ex e1), e1 _ _ hla, e1 _ _ hnm, h1, h2, .nil, (fun r h => by cases h), hnml⟩
    refine q_forDr (N := 55) (C := fun k => k ≤ M) (c0 := 1) (fun k h => by omega) (by decide) s0.po (by omega) (fun H2 n2 f2 P2 hl2 Q k => tcons1 (eg_draw (H := H1) (m := M + 1) (ev_var (i := 0) rfl) (ev_is (ev_op (ev_var (i := 4) rfl) ev_c rv_I0) (by simp)) (by omega) (by omega)) H2 n2 f2 P2 hl2 fun y H3 f3 P3 hy => by
      obtain ⟨d, rfl, hd⟩ := hy
      exact k d H3 f3 P3 (by omega)) (fun _ i σ' H' => ∃ (vals : List V) (rs : List R) (bls nms' : List Str) (y7 y8 y9 y10 : Option V), σ' = [some (.ref p), some (.ref a), some (.ref na), some (.ref la), some (.int (M : Nat)), some (.ref rt), some (.ref bt), y7, y8, y9, y10] ∧ Rs p q a na la rt bt H tvs ths lts (n + 1 + i * 120) vals rs bls nms' H' ∧ vals.length + bls.length ≤ M)
      (fun k H2 f2 P2 hk => ⟨[], [], [], nms, none, none, none, none, rfl, (s0.go d f2 P2), by simp⟩) (fun k i σ' H' hk hik pv => ?_) fun k σ' H' hk pv => ?_
    · obtain ⟨vals, rs, bls, nms', y7, y8, y9, y10, rfl, s, hlen⟩ := pv
      have hi55 : i < 55 := by omega
      refine q_asgG (p := p) (q := q) (c := 1) (H := H') (eg_draw (m := 14) (ev_var (i := 0) rfl) ev_c (by decide) (by decide)) s.po (by omega) fun y H2 f2 P2 hy => ?_
      obtain ⟨pk, rfl, hpk⟩ := hy
      have s2 := s.go d f2 P2
      refine q_asg (ev_op (ev_op (ev_var (i := 4) rfl) (ev_lenL (K := K) (ev_var (i := 5) rfl) (sq_of s2.rt)) rv_I0) (ev_lenL (K := K) (ev_var (i := 6) rfl) (sq_of s2.bt)) rv_I0) fun H3 e3 => ?_
      rw [List.length_map]
      have s3 := s2.go d (Fr.ex e3) (s2.po.ex e3)
      have fin : ∀ {vals' : List V} {rs' : List R} {bls' nms'' : List Str} {m : Nat} {z8 z9 : Option V} {HX : Hp}, Rs p q a na la rt bt H tvs ths lts m vals' rs' bls' nms'' HX → m ≤ n + 1 + (i + 1) * 120 → vals'.length + bls'.length ≤ M → ∃ (vals : List V) (rs : List R) (bls nms' : List Str) (y7 y8 y9 y10' : Option V), ([some (.ref p), some (.ref a), some (.ref na), some (.ref la), some (.int (M : Nat)), some (.ref rt), some (.ref bt), some (.int (i : Nat)), z8, z9, y10] : L2.St) = [some (.ref p), some (.ref a), some (.ref na), some (.ref la), some (.int (M : Nat)), some (.ref rt), some (.ref bt), y7, y8, y9, y10'] ∧ Rs p q a na la rt bt H tvs ths lts (n + 1 + (i + 1) * 120) vals rs bls nms' HX ∧ vals.length + bls.length ≤ M := fun {vals' rs' bls' nms'' m z8 z9 HX} h1 h2 h3 =>
        ⟨vals', rs', bls', nms'', _, _, _, _, rfl, ⟨h1.fr, h1.po.le h2, h1.th, h1.la, h1.na, h1.rt, h1.bt, h1.rv, h1.ok, h1.nm⟩, h3⟩
      refine s_if (et_and (et_test (ev_op (ev_var (i := 8) rfl) ev_c rv_I0)) fun _ => et_and (et_test (ev_op (ev_lenL (K := K) (ev_var (i := 6) rfl) (sq_of s3.bt)) ev_c rv_I0)) fun _ => et_test (ev_op (ev_var (i := 9) rfl) ev_c rv_I0)) (fun hb H4 e4 => ?_) fun hb H4 e4 => ?_
      · simp only [Bool.and_eq_true, decide_eq_true_eq, List.length_map] at hb
        obtain ⟨hb1, hb2, hb3⟩ := hb
        have s4 := s3.go d (Fr.ex e4) (s3.po.ex e4)
        obtain ⟨bw, hat, hbl, hbw⟩ : ∃ bw : Str, atI [V.str "if", .str "while", .str "if"] ((pk : Nat) : Int) = some (.str bw) ∧ bw.length ≤ 100000 ∧ ¬ bw ∈ (["probe", "assert"] : List Str) := by
          match pk, hb1 with
          | 0, _ => exact ⟨"if", rfl, by decide, by decide⟩
          | 1, _ => exact ⟨"while", rfl, by decide, by decide⟩
          | 2, _ => exact ⟨"if", rfl, by decide, by decide⟩
          | (k + 3), h => omega
        refine q_app s4.bt (ev_var (i := 6) rfl) (ev_opL1 (el_lst (ea_cons ev_c (ea_cons ev_c (ea_cons ev_c ea_nil))) (by decide)) (fun H5 e5 => ev_var (i := 8) rfl) fun pp H5 hpp e5 => rv_ixL (K := K) (sq_of hpp) hat) (by rw [List.length_map]; omega) fun H5 e5 => ?_
        have s5 := (s4.go d (Fr.ex e5) (s4.po.ex e5)).blk (bls' := bls ++ [bw]) (xs := bls.map V.str ++ [.str bw]) d (by rw [List.map_append]; rfl)
        generalize upd H5 bt (.lst (bls.map V.str ++ [.str bw])) = H6 at s5 ⊢
        have hbt6 : (bs p q H6) bt = some (.lst (bls.map V.str ++ [.str bw])) := by
          rw [bs_ne d.bp d.bq, s5.bt, List.map_append]
          rfl
        refine s_appG (p := p) (q := q) (c := 10) (S := fun v H2 => ∃ ws, LkV H2 v ws ∧ ROk (.tup ws) ∧ GR (.tup ws)) s5.rt d.rp d.rq (ev_var (i := 5) rfl) ((eg_catA (K := K) (xs := [.str bw]) (S := fun ys _ => ∃ ws : List Str, ys = ws.map V.str ∧ 2 ≤ ws.length ∧ ws.length ≤ 3 ∧ Sh ws) (fun _ _ _ _ h => h) (eu_tup (ea_cons (ev_ixL (K := K) (ev_var (i := 6) rfl) (sq_of hbt6) (ev_un ev_c ru_neg) (atI_last _ _)) ea_nil) (by simp)) (by simp) (eg_call (ea_cons (ev_var (i := 0) rfl) (ea_cons (ev_var (i := 1) rfl) (ea_cons (ev_op (ev_var (i := 8) rfl) ev_c (rv_eq rfl)) ea_nil))) fun H7 n7 f7 P7 hl7 Q k => ⟨p, q, a, n7, tvs, ths, _, rfl, P7, hl7, s5.th.go f7 s5.po P7, fun y ws H8 hws f8 P8 => k y H8 f8 P8 ?_⟩)).imp fun v H7 f7 hs => ?_) s5.po (by omega) (by omega) fun y H7 f7 P7 hs => ?_
        · obtain ⟨b, ys, rfl, hb, ws, rfl, w1, w2, w3⟩ := hs
          exact ⟨bw :: ws, ⟨b, rfl, hb⟩, ⟨by simp; omega, sh_cons hbl w3 (by omega)⟩, gr_look (by omega)⟩
        · obtain ⟨ws, g1, g2, g3⟩ := hs
          exact fin ((s5.go d f7 P7).row d (r := .tup ws) g1 g2 g3) (by omega) (by simp; omega)
        · obtain ⟨⟨b, rfl, hb⟩, w1, w2, w3⟩ := hws
          refine ⟨b, _, rfl, hb, fun z => ?_, by simp; omega, ws, rfl, w1, w2, w3⟩
          have := congrArg List.length z
          simp at this
          rw [this] at w1
          simp at w1
      · clear hb
        have s4 := s3.go d (Fr.ex e4) (s3.po.ex e4)
        refine s_if (et_and (et_test (ev_op (ev_var (i := 8) rfl) ev_c (rv_eq rfl))) fun _ => et_tru (ev_var (i := 6) rfl) (truL (sq_of s4.bt))) (fun hb H5 e5 => ?_) fun hb H5 e5 => ?_
        · have s5 := s4.go d (Fr.ex e5) (s4.po.ex e5)
          rw [Bool.and_eq_true] at hb
          obtain ⟨b0, bx, rfl⟩ := last_some (map_nonempty hb.2)
          refine ⟨_, rfl, Or.inl ⟨rfl, _, sq_of s5.bt⟩, bt, _, .str bx, rfl, rfl, s5.bt, by simp, ?_⟩
          have s6 := s5.blk (bls' := b0) (xs := ((b0 ++ [bx]).map V.str).dropLast) d (by simp)
          generalize upd H5 bt (.lst ((b0 ++ [bx]).map V.str).dropLast) = H6 at s6 ⊢
          have hv : vals.length < 100000 := by omega
          refine s_appU (ys := [.str "end"]) s6.rt (ev_var (i := 5) rfl) (eu_tup (ea_cons ev_c ea_nil) (by simp)) hv fun t H7 ht e7 h7 => ?_
          exact fin ((s6.go d (Fr.ex e7) (s6.po.ex e7)).row d (r := .tup ["end"]) ⟨t, rfl, h7⟩ ⟨by simp, sh_cons (by decide) sh_nil (by simp)⟩ ⟨"end", [], rfl, fun _ => by decide⟩) (by omega) (by simp at hlen ⊢; omega)
        · clear hb
          have s5 := s4.go d (Fr.ex e5) (s4.po.ex e5)
          refine s_when (et_test (ev_op (ev_var (i := 9) rfl) ev_c rv_I0)) (fun hb H6 e6 => ?_) fun hb H6 e6 => fin (s5.go d (Fr.ex e6) (s5.po.ex e6)) (by omega) hlen
          have hleft : vals.length + bls.length < M := by
            simp only [decide_eq_true_eq] at hb
            omega
          clear hb
          have s6 := s5.go d (Fr.ex e6) (s5.po.ex e6)
          refine s_if (et_and (et_test (ev_op (ev_var (i := 8) rfl) ev_c (rv_eq rfl))) fun _ => et_lastIs (K := K) (i := 6) rfl s6.bt) (fun hb H7 e7 => ?_) fun hb H7 e7 => ?_
          · have s7 := s6.go d (Fr.ex e7) (s6.po.ex e7)
            rw [Bool.and_eq_true] at hb
            obtain ⟨b0, bx, rfl⟩ : ∃ b0 bx, bls = b0 ++ [bx] := by
              cases bls with
              | nil => cases hb.2
              | cons x r => exact last_some rfl
            refine ⟨_, rfl, 1, rfl, bt, _, -1, b0.length, rfl, rfl, s7.bt, by simp [ixN_last], ?_⟩
            have s8 := s7.blk (bls' := b0 ++ [("else" : Str)]) (xs := ((b0 ++ [bx]).map V.str).set b0.length (.str "else")) d (by simp)
            generalize upd H7 bt (.lst (((b0 ++ [bx]).map V.str).set b0.length (.str "else"))) = H8 at s8 ⊢
            have hv : vals.length < 100000 := by omega
            refine s_appU (ys := [.str "else"]) s8.rt (ev_var (i := 5) rfl) (eu_tup (ea_cons ev_c ea_nil) (by simp)) hv fun t H9 ht e9 h9 => ?_
            exact fin ((s8.go d (Fr.ex e9) (s8.po.ex e9)).row d (r := .tup ["else"]) ⟨t, rfl, h9⟩ ⟨by simp, sh_cons (by decide) sh_nil (by simp)⟩ ⟨"else", [], rfl, fun _ => by decide⟩) (by omega) (by simp at hleft ⊢; omega)
          · clear hb
            have s7 := s6.go d (Fr.ex e7) (s6.po.ex e7)
            have hv : vals.length < 100000 := by omega
            refine s_if (et_and (et_test (ev_inU (K := K) (ev_var (i := 8) rfl) (eu_tup (ea_cons ev_c (ea_cons ev_c ea_nil)) (by simp)) rfl rfl)) fun _ => et_tru (ev_var (i := 3) rfl) (truL (sq_of s7.la))) (fun hb H8 e8 => ?_) fun hb H8 e8 => ?_
            · have s8 := s7.go d (Fr.ex e8) (s7.po.ex e8)
              rw [Bool.and_eq_true] at hb
              have hl0 : 0 < lts.length := by
                have := map_nonempty hb.2
                cases lts with
                | nil => cases this
                | cons x r => simp
              refine s_appG (p := p) (q := q) (c := 1) s8.rt d.rp d.rq (ev_var (i := 5) rfl) (eg_tupA (ga_v ev_c (ga_1 (eg_pickL (K := K) (a := la) (xs := lts.map V.str) (ev_var (i := 0) rfl) (ev_var (i := 3) rfl) d.lp d.lq s8.la (by rw [List.length_map]; exact hl0) (by rw [List.length_map]; omega)))) (fun vs H2 h => by
                obtain ⟨_, rfl, y, rfl, _⟩ := h
                simp) fun _ _ _ _ h => h) s8.po (by omega) hv fun y H9 f9 P9 hs => ?_
              obtain ⟨t, _, rfl, ht, _, rfl, y, rfl, hy⟩ := hs
              obtain ⟨z, hz, rfl⟩ := List.mem_map.mp hy
              exact fin ((s8.go d f9 P9).row d (r := .tup ["call", z]) ⟨t, rfl, ht⟩ ⟨by simp, sh_cons (by decide) (sh_cons (hltl z hz) sh_nil (by simp)) (by simp)⟩ (gr_own (by simp))) (by omega) (by simp; omega)
            · clear hb
              have s8 := s7.go d (Fr.ex e8) (s7.po.ex e8)
              refine s_if (et_and (et_test (ev_inU (K := K) (ev_var (i := 8) rfl) (eu_tup (ea_cons ev_c (ea_cons ev_c (ea_cons ev_c ea_nil))) (by simp)) rfl rfl)) fun _ => et_tru (ev_var (i := 2) rfl) (truL (sq_of s8.na))) (fun hb H9 e9 => ?_) fun hb H9 e9 => ?_
              · have s9 := s8.go d (Fr.ex e9) (s8.po.ex e9)
                rw [Bool.and_eq_true] at hb
                have hne := map_nonempty hb.2
                cases nms' with
                | nil => cases hne
                | cons z nr =>
                  refine ⟨_, rfl, Or.inl ⟨rfl, _, sq_of s9.rt⟩, _, rfl, _, rfl, _, rfl, Or.inl ⟨rfl, _, sq_of s9.na⟩, na, _, 0, 0, .str z, rfl, rfl, s9.na, by decide, by decide, by simp [seqIndex?], rfl, ?_⟩
                  have s10 := s9.nam (nms' := nr) (xs := (((z :: nr).map V.str).eraseIdx 0)) d rfl fun x hx => s9.nm x (List.mem_cons_of_mem _ hx)
                  generalize upd H9 na (.lst (((z :: nr).map V.str).eraseIdx 0)) = H10 at s10 ⊢
                  refine ⟨p, q, a, _, tvs, ths, z, rfl, s9.nm z List.mem_cons_self, s10.po, by omega, s10.th, fun y r H11 hy hok hpa f11 P11 => ?_⟩
                  have s11 := s10.go d f11 P11
                  refine ⟨rt, vals, y, rfl, rfl, s11.rt, sz_lt hv, fin (s11.row d hy hok ?_) (by omega) (by simp; omega)⟩
                  cases r with
                  | pro _ _ _ _ => trivial
                  | ass _ _ _ _ => trivial
                  | non => cases hpa
                  | tru => cases hpa
                  | lst => cases hpa
                  | str _ => cases hpa
                  | tup _ => cases hpa
              · clear hb
                have s9 := s8.go d (Fr.ex e9) (s8.po.ex e9)
                refine s_if (et_test (ev_op (ev_var (i := 8) rfl) ev_c (rv_eq rfl))) (fun hb H10 e10 => ?_) fun hb H10 e10 => ?_
                · have s10 := s9.go d (Fr.ex e10) (s9.po.ex e10)
                  refine s_appG (p := p) (q := q) (c := 1 + 9) (S := fun v H2 => ∃ ws, LkV H2 v ws ∧ ROk (.tup ws) ∧ GR (.tup ws)) s10.rt d.rp d.rq (ev_var (i := 5) rfl) (eg_if (C := fun _ => True) (gt_draw (m := 3) (ev_var (i := 0) rfl) ev_c (by decide) (by decide)) (fun _ => ((eg_U (eu_tup (ea_cons ev_c ea_nil) (by simp))).imp fun v H2 f2 s => ?_).le (by omega)) fun _ => (eg_tupA (ga_v ev_c (ga_1 (eg_call (c := 9) (S := fun y _ => ∃ z : Str, y = .str z ∧ okN z = true) (vs := [.ref p]) (ea_cons (ev_var (i := 0) rfl) ea_nil) fun H6 n6 f6 P6 hl6 Q k => ⟨p, q, n6, rfl, P6, hl6, fun z H7 hz f7 P7 => k _ H7 f7 P7 ⟨z, rfl, hz⟩⟩))) (fun vs H2 h => by
                    obtain ⟨_, rfl, y, rfl, _⟩ := h
                    simp) fun _ _ _ _ h => h).imp fun v H2 f2 s => ?_) s10.po (by omega) hv fun y H11 f11 P11 hs => ?_
                  · obtain ⟨t, rfl, ht⟩ := s
                    exact ⟨["stop"], ⟨t, rfl, ht⟩, ⟨by simp, sh_cons (by decide) sh_nil (by simp)⟩, "stop", [], rfl, fun _ => by decide⟩
                  · obtain ⟨t, _, rfl, ht, _, rfl, y, rfl, z, rfl, hz⟩ := s
                    exact ⟨["say", z], ⟨t, rfl, ht⟩, ⟨by simp, sh_cons (by decide) (sh_cons (okN_len hz) sh_nil (by simp)) (by simp)⟩, gr_own (by simp)⟩
                  · obtain ⟨ws, g1, g2, g3⟩ := hs
                    exact fin ((s10.go d f11 P11).row d (r := .tup ws) g1 g2 g3) (by omega) (by simp; omega)
                · have s10 := s9.go d (Fr.ex e10) (s9.po.ex e10)
                  refine s_appG (p := p) (q := q) (c := 3) (S := fun v H2 => ∃ ws, LookR H2 v ws) s10.rt d.rp d.rq (ev_var (i := 5) rfl) (eg_call (vs := [.ref p, .ref a]) (ea_cons (ev_var (i := 0) rfl) (ea_cons (ev_var (i := 1) rfl) ea_nil)) fun H6 n6 f6 P6 hl6 Q k => ⟨p, q, a, n6, tvs, ths, rfl, P6, hl6, s10.th.go f6 s10.po P6, fun y ws H7 hws f7 P7 => k y H7 f7 P7 ⟨ws, hws⟩⟩) s10.po (by omega) hv fun y H11 f11 P11 hs => ?_
                  obtain ⟨ws, g1, g2, g3, g4⟩ := hs
                  exact fin ((s10.go d f11 P11).row d (r := .tup ws) g1 ⟨by omega, g4⟩ (gr_own g2)) (by omega) (by simp; omega)
    · obtain ⟨vals, rs, bls, nms', y7, y8, y9, y10, rfl, s, hlen⟩ := pv
      refine (en_catN (l := rt) (xs := vals) (fun ys H2 => ys.length = bls.length ∧ ∀ y ∈ ys, LkV H2 y ["end"]) (fun ys H1 H2 e h => ⟨h.1, fun y hy => (h.2 y hy).kp (Kp.ex e)⟩) (ev_var (i := 5) rfl) s.rt ((en_mapR (S := fun x y H => LkV H y ["end"]) (fun _ _ _ _ k h => h.kp k) (ei_list (ev_var (i := 6) rfl) (sq_of s.bt)) (by rw [List.length_map]; omega) (fun x hx H5 e5 => ⟨_, ?_, ?_, fun R r => r⟩)).imp fun v H5 hs => ?_)) H' (Ex.refl H') _ fun y H5 e5 hs => ?_
      · rfl
      · exact (en_U (eu_tup (ea_cons ev_c ea_nil) (by simp))).imp fun v H6 hs => hs
      · obtain ⟨t, ys, rfl, _, ht, hp⟩ := hs
        have hl := Paired.length hp
        rw [List.length_map] at hl
        exact ⟨t, ys, rfl, ht, by omega, by omega, fun y hy => by
          obtain ⟨x, _, hx⟩ := paired_mem hp hy
          exact hx⟩
      · obtain ⟨t, ys, rfl, ht0, ht1, hyl, hys⟩ := hs
        have s5 := s.go d (Fr.ex e5) (s.po.ex e5)
        have hrl := Paired.length s.rv
        have htn := s.po.ne ht0
        have htna : t ≠ na := nz ht0 s.na
        refine k0 t (vals ++ ys) (rs ++ List.replicate ys.length (.tup ["end"])) nms' H5 ?_ ht1 (Paired.app s5.rv (paired_const (r := RowV H5) (z := .tup ["end"]) hys)) (by rw [List.length_append, List.length_replicate]; omega) (fun r hr => ?_) s5.fr (s5.po.le (by omega)) s5.na s5.nm
        · cases hh : H t with
          | none => rfl
          | some o =>
            have := s.fr t o htn.1 htn.2 htna hh
            rw [ht0] at this
            cases this
        · rcases List.mem_append.mp hr with hr | hr
          · exact s5.ok r hr
          · rw [(List.mem_replicate.mp hr).2]
            exact ⟨⟨by simp, sh_cons (by decide) sh_nil (by simp)⟩, "end", [], rfl, fun _ => by decide⟩
end
end Q7
/-! _law_wide_parts -/
namespace Q7
open PySem PySem.Spec PyProof.Rows L2 Evl
/-- a part; its list of rows is none of A -/
def PtG (A : List Addr) (H : Hp) (v : V) (pt : Part) : Prop := ∃ t l xs, v = .ref t ∧ H t = some (.tup [.str pt.1, .ref l]) ∧ ¬ l ∈ A ∧ H l = some (.lst xs) ∧ Paired (RowV H) xs pt.2
theorem PtG.go {A : List Addr} {H H' : Hp} {v : V} {pt : Part} (k : Kp H H') (f : ∀ c o, ¬ c ∈ A → H c = some o → H' c = some o) (h : PtG A H v pt) : PtG A H' v pt := by
  obtain ⟨t, l, xs, rfl, h1, h2, h3, h4⟩ := h
  exact ⟨t, l, xs, rfl, k.tup h1, h2, f _ _ h2 h3, Paired.imp (fun _ _ z => z.kp k) h4⟩
theorem PtG.sub {A B : List Addr} {H : Hp} {v : V} {pt : Part} (s : ∀ c ∈ B, c ∈ A) (h : PtG A H v pt) : PtG B H v pt := by
  obtain ⟨t, l, xs, h0, h1, h2, h3⟩ := h
  exact ⟨t, l, xs, h0, h1, fun z => h2 (s _ z), h3⟩
theorem PtG.v {A : List Addr} {H : Hp} {v : V} {pt : Part} (h : PtG A H v pt) : PtV H v pt := by
  obtain ⟨t, l, xs, h0, h1, h2, h3⟩ := h
  exact ⟨t, l, xs, h0, h1, h3⟩
theorem sumR_app : ∀ a b : List Part, sumR (a ++ b) = sumR a + sumR b
  | [], b => by
    show sumR b = 0 + sumR b
    omega
  | p :: r, b => by
    show p.2.length + sumR (r ++ b) = p.2.length + sumR r + sumR b
    rw [sumR_app r b]
    omega
theorem ThE.goN {H H' : Hp} {p q a c : Addr} {tvs : List V} {ths : List TH} {n m : Nat} {xs ys : List V} (e : ThE H p q a tvs ths) (f : Fn p q c H H') (P0 : Pool H p q n) (P1 : Pool H' p q m) (h0 : H c = some (.lst xs)) (h1 : H' c = some (.lst ys)) (hc : c ≠ a) : ThE H' p q a tvs ths :=
  ⟨e.np, e.nq, f _ _ e.np e.nq (Ne.symm hc) e.at_, Paired.imp (fun _ _ z => z.kp (f.kp P0 P1 h0 h1)) e.tv, e.ok, e.pos, e.few⟩
section
variable {P : Program} {w : World} {K : PySem.W.Frag} {mg : Str → Option Value} {base : Heap}
def spGParts : Sp := fun vs H Q _ => ∃ (p q a : Addr) (n : Nat) (tvs : List V) (ths : List TH), vs = [.ref p, .ref a, .int 2, .int 55] ∧ Pool H p q n ∧ n + 30000 ≤ Lim ∧ ThE H p q a tvs ths ∧
  ∀ (l : Addr) (pvs : List V) (ps : List Part) H', H l = none → H' l = some (.lst pvs) → Paired (PtG [p, q] H') pvs ps → 1 ≤ ps.length → ps.length ≤ 2 → (∀ pt ∈ ps, okN pt.1 = true) → (ps.map Prod.fst).Nodup → sumR ps ≤ 55 → (∀ pt ∈ ps, ∀ r ∈ pt.2, ROk r ∧ GR r) → Fr p q H H' → Pool H' p q (n + 30000) → Q (.ref l) H'
theorem sc__law_wide_parts : FnScope ["_law_pool_here", "_law_things_here", "_law_most", "_law_room", "_law_many", "_law_titles", "_law_names_here", "_law_k"] ["_law_pool_here", "_law_things_here", "_law_most", "_law_room"] (defScope s_law_wide_parts) := ⟨rfl, rfl, rfl, by decide +kernel, rfl, by decide +kernel, by decide +kernel⟩
theorem D__law_wide_parts (T : Txt w K mg) (D__law_draw : Dn P w K mg base CX0 1 "_law_draw" spDraw) (D__law_names : Dn P w K mg base CX0 2 "_law_names" spNames) (D__law_wide_rows : Dn P w K mg base CX0 4 "_law_wide_rows" spGRows) : Dn P w K mg base CX0 5 "_law_wide_parts" spGParts := by
  refine mkD0 T.fds_law_wide_parts T.g__law_wide_parts T.kps_law_wide_parts sc__law_wide_parts (fun _ _ _ _ _ _ us hl => match us, hl with | [_, _, _, _], _ => rfl) (fun vs H Q E h => ?_) (fun cdv A outer s H vs Q E hr h => ?_)
  · obtain ⟨p, q, a, n, tvs, ths, rfl, _⟩ := h
    rfl
  · obtain ⟨p, q, a, n, tvs, ths, rfl, P0, hl, hE, k0⟩ := h
    refine ⟨_, (pss_cons (ps_set (i := 4) sc__law_wide_parts.nd rfl (Or.inr rfl) (pe_op op_add pe_int (pe_d D__law_draw (hr.mono (by decide)) (by rfl) pass0 (pa_cons (pv 0) (pa_cons (pv 2) pa_nil)))))
    (pss_cons (ps_set (i := 5) sc__law_wide_parts.nd rfl (Or.inr rfl) (pe_d D__law_names (hr.mono (by decide)) (by rfl) pass0 (pa_cons (pv 0) (pa_cons (pv 4) pa_nil))))
    (pss_cons (ps_set (i := 6) sc__law_wide_parts.nd rfl (Or.inr rfl) (pe_d D__law_names (hr.mono (by decide)) (by rfl) pass0 (pa_cons (pv 0) (pa_cons pe_int pa_nil))))
    (pss_one (ps_ret (pe_lc (own := [("_law_k", 7)]) (g := gName 7) (tt := tYes) rfl sc__law_wide_parts.nd (pi_range1 (by rfl) T.n_range (pa_cons (pv 4) pa_nil)) (blkOk_by (own := [("_law_k", 7)]) (N := ["_law_pool_here", "_law_things_here", "_law_most", "_law_room", "_law_many", "_law_titles", "_law_names_here", "_law_k"]) (sc := defScope s_law_wide_parts) (by decide +kernel)) (fun _ _ _ _ _ => (pg_name (i := 7) sc__law_wide_parts.nd rfl (Or.inl rfl))) (fun _ _ _ _ _ => pts_nil) (fun _ _ _ _ _ => (pe_tup (pa_cons (pe_ix (r := rIxL K) ix_list (pv 5) (pv 7) (fun _ _ => rfl)) (pa_cons (pe_d D__law_wide_rows (hr.mono (by decide)) (by rfl) pass0 (pa_cons (pv 0) (pa_cons (pv 1) (pa_cons (pv 6) (pa_cons (pe_slice (r := rSlL K) sl_list (pv 5) (po_some (pe_op op_add (pv 7) pe_int)) po_none) (pa_cons (pe_op op_fdiv (pv 3) (pv 4)) pa_nil)))))) pa_nil)))))))))), ?_⟩
    refine q_asgG (p := p) (q := q) (n := n) (c := 1) (H := H) (S := fun v _ => ∃ m : Nat, v = .int (m : Nat) ∧ 1 ≤ m ∧ m ≤ 2) (eg_op1 ev_c (eg_draw (m := 2) (ev_var (i := 0) rfl) (ev_var (i := 2) rfl) (by decide) (by decide)) fun y H1 n1 f1 P1 hy => ?_) P0 (by omega) fun y H1 f1 P1 hy => ?_
    · obtain ⟨d, rfl, hd⟩ := hy
      exact ⟨.int (1 + (d : Nat)), fun Q q => ⟨1, d, rfl, rfl, q⟩, 1 + d, by simp, by omega, by omega⟩
    obtain ⟨m, rfl, hm1, hm2⟩ := hy
    refine q_asgG (p := p) (q := q) (n := n + 1) (c := 100) (H := H1) (S := fun v H2 => ∃ (ta : Addr) (ts : List Str), v = .ref ta ∧ H1 ta = none ∧ H2 ta = some (.lst (ts.map V.str)) ∧ ts.length = m ∧ (∀ z ∈ ts, okN z = true) ∧ ts.Nodup) (eg_call (vs := [.ref p, .int (m : Nat)]) (ea_cons (ev_var (i := 0) rfl) (ea_cons (ev_var (i := 4) rfl) ea_nil)) fun H2 n2 f2 P2 hl2 Q k => ⟨p, q, n2, m, rfl, P2, hl2, by omega, fun ta ts H3 g1 g2 g3 g4 g5 f3 P3 => k _ H3 f3 P3 ⟨ta, ts, rfl, f2.nn P2 g1, g2, g3, g4, g5⟩⟩) P1 (by omega) fun y H2 f2 P2 hy => ?_
    obtain ⟨ta, ts, rfl, hta0, hta, htl, htok, htnd⟩ := hy
    refine q_asgG (p := p) (q := q) (n := n + 1 + 100) (c := 100) (H := H2) (S := fun v H3 => ∃ (na : Addr) (nms : List Str), v = .ref na ∧ H2 na = none ∧ H3 na = some (.lst (nms.map V.str)) ∧ ∀ z ∈ nms, okN z = true) (eg_call (vs := [.ref p, .int (12 : Nat)]) (ea_cons (ev_var (i := 0) rfl) (ea_cons ev_c ea_nil)) fun H3 n2 f3 P3 hl2 Q k => ⟨p, q, n2, 12, rfl, P3, hl2, by omega, fun na nms H4 g1 g2 g3 g4 g5 f4 P4 => k _ H4 f4 P4 ⟨na, nms, rfl, f3.nn P3 g1, g2, g4⟩⟩) P2 (by omega) fun y H3 f3 P3 hy => ?_
    obtain ⟨na, nms, rfl, hna0, hna, hnok⟩ := hy
    have nz : ∀ {Hx : Hp} {c d : Addr} {o : HO}, Hx c = none → Hx d = some o → c ≠ d := fun h1 h2 z => by
      rw [z, h2] at h1
      cases h1
    have htn := P1.ne hta0
    have hnn := P2.ne hna0
    have hnt : na ≠ ta := nz hna0 hta
    have hta3 := f3 _ _ htn.1 htn.2 hta
    have f12 := f1.trans f2
    have f13 := f12.trans f3
    have hE2 := hE.go f12 P0 P2
    have hE3 := hE2.go f3 P2 P3
    have hnaA : na ≠ a := nz hna0 hE2.at_
    refine ⟨_, rfl, (m : Int), rfl, by omega, by omega, fun Dl hD => ?_⟩
    have hDn := P3.ne hD
    have hDna : Dl ≠ na := nz hD hna
    rw [show ((m : Nat) : Int).toNat = m from Int.toNat_natCast m]
    refine lc_it (walk_range (lo := 0) (n := m)) (fun i H' => Fn p q na H3 H' ∧ Pool H' p q (n + 201 + i * 10000) ∧ (∃ nms' : List Str, H' na = some (.lst (nms'.map V.str)) ∧ ∀ z ∈ nms', z.length ≤ 100000) ∧ ∃ (pvs : List V) (ps : List Part), H' Dl = some (.lst pvs) ∧ pvs.length = i ∧ Paired (PtG [p, q, na, Dl] H') pvs ps ∧ ps.map Prod.fst = ts.take i ∧ sumR ps ≤ i * (55 / m) ∧ ∀ pt ∈ ps, ∀ r ∈ pt.2, ROk r ∧ GR r) ⟨Fn.of (Fr.ex (Ex.new hD)), (P3.ex (Ex.new hD)).le (by omega), ⟨nms, Ex.new hD _ _ hna, fun z hz => by have := okN_len (hnok z hz); omega⟩, [], [], upd_same, rfl, .nil, rfl, Nat.zero_le _, fun pt h => by cases h⟩ (fun _ _ _ _ => trivial) (fun i x Hy H' hi pv y => ?_) (fun H' pv => ?_)
    · obtain ⟨rfl, hx⟩ := y
      obtain ⟨f4, P4, ⟨nms', hna4, hnms4⟩, pvs, ps, hDl4, hpl, hP, hfst, hsum, hrok⟩ := pv
      have hx' : x = .int (i : Nat) := by
        rw [hx]
        show V.int (0 + (i : Nat)) = _
        rw [Int.zero_add]
      subst hx'
      refine ⟨rfl, ?_⟩
      unfold tYes
      dsimp only
      rw [if_pos rfl]
      obtain ⟨ti, hti⟩ : ∃ ti, ts[i]? = some ti := ⟨_, List.getElem?_eq_getElem (by omega)⟩
      have htiV : (ts.map V.str)[i]? = some (.str ti) := by
        rw [List.getElem?_map, hti]
        rfl
      have hta4 := f4 _ _ htn.1 htn.2 (Ne.symm hnt) hta3
      have hE4 := hE3.goN f4 P3 P4 hna hna4 hnaA
      have hi2 : i < 2 := by omega
      refine (ev_ixL (K := K) (ev_var (i := 5) rfl) (sq_of hta4) (ev_var (i := 7) rfl) (atI_nat (j := i) htiV) : Ev _ [some (.ref p), some (.ref a), some (.int 2), some (.int 55), some (.int (m : Nat)), some (.ref ta), some (.ref na), some (.int (i : Nat))] H' _) H' (Ex.refl H') _ fun H5 e5 => ?_
      refine ⟨_, rfl, _, rfl, _, rfl, ?_⟩
      refine (el_sl (ev_var (i := 5) rfl) (eo_some (ev_op (ev_var (i := 7) rfl) ev_c rv_I0)) eo_none (sq_of (e5 _ _ hta4)) : EvL _ [some (.ref p), some (.ref a), some (.int 2), some (.int 55), some (.int (m : Nat)), some (.ref ta), some (.ref na), some (.int (i : Nat))] H5 _) H5 (Ex.refl H5) _ fun la H6 hla0 e6 hla => ?_
      have hcut : cutV (ts.map V.str) (some ((i : Nat) + 1 : Int)) none = (ts.drop (i + 1)).map V.str := by
        rw [show ((i : Nat) + 1 : Int) = ((i + 1 : Nat) : Int) from rfl, cutV_from, List.map_drop]
      rw [hcut] at hla
      refine (ev_op (ev_var (i := 3) rfl) (ev_var (i := 4) rfl) (rv_I ⟨by omega, by omega⟩) : Ev _ [some (.ref p), some (.ref a), some (.int 2), some (.int 55), some (.int (m : Nat)), some (.ref ta), some (.ref na), some (.int (i : Nat))] H6 _) H6 (Ex.refl H6) _ fun H7 e7 => ?_
      have e57 := (e5.trans e6).trans e7
      have P7 := P4.ex e57
      have hna7 := e57 _ _ hna4
      have hln := (P4.ex e5).ne hla0
      refine ⟨p, q, a, na, la, n + 201 + i * 10000, 55 / m, tvs, ths, ts.drop (i + 1), nms', ?_, P7, by omega, by
        have := Nat.div_le_self 55 m
        omega, hE4.go (Fr.ex e57) P4 P7, hnn.1, hnn.2, hnaA, hln.1, hln.2, nz hla0 (e5 _ _ hna4), e7 _ _ hla, hna7, by rw [List.length_drop]; omega, fun z hz => by have := okN_len (htok z (List.mem_of_mem_drop hz)); omega, hnms4, fun l vals rs nms'' H8 hl0 hl1 hrv hrl hrk f8 P8 hna8 hnms8 => ?_⟩
      · rcases (by omega : m = 1 ∨ m = 2) with rfl | rfl <;> rfl
      refine ⟨by show 2 ≤ sizeLine; decide, fun t ht => ?_⟩
      have hD7 := e57 _ _ hDl4
      have hD8 := f8 _ _ hDn.1 hDn.2 hDna hD7
      have hD9 := Ex.new (o := .tup [.str ti, .ref l]) ht _ _ hD8
      have hln := P7.ne hl0
      have hlna : l ≠ na := nz hl0 hna7
      have hlD : l ≠ Dl := nz hl0 hD7
      have kp9 : Kp H8 (upd H8 t (.tup [.str ti, .ref l])) := Kp.ex (Ex.new ht)
      have kp10 : Kp (upd H8 t (.tup [.str ti, .ref l])) (upd (upd H8 t (.tup [.str ti, .ref l])) Dl (.lst (pvs ++ [.ref t]))) := Kp.put hD9
      have kpA := ((Kp.ex e57).trans (f8.kp P7 P8 hna7 hna8)).trans (kp9.trans kp10)
      have fA : ∀ c o, ¬ c ∈ [p, q, na, Dl] → H' c = some o → (upd (upd H8 t (.tup [.str ti, .ref l])) Dl (.lst (pvs ++ [.ref t]))) c = some o := fun c o hc h => by
        simp only [List.mem_cons, List.mem_nil_iff, not_or, or_false] at hc
        obtain ⟨c1, c2, c3, c4⟩ := hc
        rw [upd_ne c4]
        exact Ex.new ht _ _ (f8 _ _ c1 c2 c3 (e57 _ _ h))
      refine ⟨pvs, hD9, sz_lt (by omega), ?_, ?_, ⟨nms'', ?_, hnms8⟩, pvs ++ [.ref t], ps ++ [(ti, rs)], upd_same, by rw [List.length_append, hpl] <;> rfl, Paired.snoc (Paired.imp (fun _ _ z => z.go kpA fA) hP) ⟨t, l, vals, rfl, kp10.tup upd_same, ?_, ?_, Paired.imp (fun _ _ z => z.kp (kp9.trans kp10)) hrv⟩, ?_, ?_, fun pt hpt => ?_⟩
      · exact ((f4.trans (Fn.of (Fr.ex e57))).trans (f8.trans (Fn.of (Fr.ex (Ex.new ht))))).put hD
      · exact ((P8.ex (Ex.new ht)).put hDn.1 hDn.2).le (by rw [Nat.succ_mul]; omega)
      · rw [upd_ne (Ne.symm hDna)]
        exact Ex.new ht _ _ hna8
      · simp only [List.mem_cons, List.mem_nil_iff, not_or, or_false]
        exact ⟨hln.1, hln.2, hlna, hlD⟩
      · rw [upd_ne hlD]
        exact Ex.new ht _ _ hl1
      · rw [List.map_append, hfst, take_add hti]
        rfl
      · rw [sumR_app, Nat.succ_mul]
        show sumR ps + (rs.length + 0) ≤ _
        omega
      · rcases List.mem_append.mp hpt with h | h
        · exact hrok pt h
        · rw [List.mem_singleton.mp h]
          exact hrk
    · obtain ⟨f4, P4, ⟨nms', hna4, hnms4⟩, pvs, ps, hDl4, hpl, hP, hfst, hsum, hrok⟩ := pv
      have hpsl := Paired.length hP
      rw [show m = ts.length from htl.symm, List.take_length] at hfst
      refine k0 Dl pvs ps H' (f13.nn P3 hD) hDl4 (Paired.imp (fun _ _ z => z.sub (by simp)) hP) (by omega) (by omega) (fun pt hpt => htok _ (by rw [← hfst]; exact List.mem_map_of_mem hpt)) (by rw [hfst]; exact htnd) ?_ hrok ?_ (P4.le (by omega))
      · rcases (by omega : m = 1 ∨ m = 2) with h | h <;> subst h <;> simp at hsum <;> omega
      · intro c o h1 h2 h
        have hc2 := f12 c o h1 h2 h
        exact f4 c o h1 h2 (Ne.symm (nz hna0 hc2)) (f3 c o h1 h2 hc2)
end
end Q7
/-! _law_pool, _law_other_name, _law_other_names -/
namespace Q7
open PySem PySem.Spec PyProof.Rows L2 Evl
section
variable {K : PySem.W.Frag} {p q : Addr} {c : Nat} {σ : L2.St} {H : Hp} {ta tb te : TE}
/-- a slice that is not the whole -/
theorem eu_sl {tl th : TO} {a : Addr} {xs : List V} {lo hi : Option Int} (h : Ev te σ H (.ref a)) (h1 : EvO tl σ H lo) (h2 : EvO th σ H hi) (hs : SqT K H a xs) (hn : ¬ (HT.sIx xs.length 0 lo = 0 ∧ HT.sIx xs.length xs.length hi = xs.length)) : EvU (tSl (rSlA K) te tl th) σ H (cutV xs lo hi) := fun H1 e Q k =>
  h H1 e _ fun H2 e2 => h1 H2 (e.trans e2) _ fun H3 e3 => h2 H3 ((e.trans e2).trans e3) _ fun H4 e4 => ⟨a, xs, rfl, ex_t (((e.trans e2).trans e3).trans e4) hs, fun z => absurd z hn, fun _ t ht => k t _ (fresh_back ((e2.trans e3).trans e4) ht) (((e2.trans e3).trans e4).trans (Ex.new ht)) upd_same⟩
/-- two new tuples, the first not empty -/
theorem eu_cat {xs ys : List V} (ha : EvU ta σ H xs) (hb : EvU tb σ H ys) (hx : xs ≠ []) (hl : xs.length + ys.length ≤ 100000) : EvU (tOp (rCatA K) ta tb) σ H (xs ++ ys) := fun H1 e Q k =>
  ha H1 e _ fun a H2 ha0 e2 h2 => hb H2 (e.trans e2) _ fun b H3 hb0 e3 h3 => ⟨a, b, xs, ys, rfl, rfl, st_of (e3 _ _ h2), st_of h3, sz_of hl, fun z => absurd z hx, fun _ z => by
    subst z
    rw [List.append_nil] at k
    exact k a H3 ha0 (e2.trans e3) (e3 _ _ h2), fun _ _ t ht => k t _ (fresh_back (e2.trans e3) ht) ((e2.trans e3).trans (Ex.new ht)) upd_same⟩
theorem sIx_to {n j : Nat} (hj : j < n) : ¬ (HT.sIx n 0 none = 0 ∧ HT.sIx n n (some ((j : Nat) : Int)) = n) := fun h => by
  have h2 := h.2
  rw [HT.sIx_nat] at h2
  omega
theorem sIx_from {n j : Nat} (hj : 0 < j) (hn : 0 < n) : ¬ (HT.sIx n 0 (some ((j : Nat) : Int)) = 0 ∧ HT.sIx n n none = n) := fun h => by
  have h1 := h.1
  rw [HT.sIx_nat] at h1
  omega
theorem sIx_init {n : Nat} (hn : 0 < n) : ¬ (HT.sIx n 0 none = 0 ∧ HT.sIx n n (some (-1)) = n) := fun h => by
  have h2 : (if (-1 : Int) < 0 then (-1 + (n : Int)).toNat else min (-1 : Int).toNat n) = n := h.2
  rw [if_pos (by decide)] at h2
  omega
end
section
variable {P : Program} {w : World} {K : PySem.W.Frag} {mg : Str → Option Value} {base : Heap}
def spPool (K : PySem.W.Frag) : Sp := fun vs H Q _ => ∃ (s : Addr) (cells : List Int), vs = [.ref s] ∧ SqL K H s (cells.map V.int) ∧ ∀ (p q : Addr) H', H p = none → Ex H H' → Pool H' p q 0 → Q (.ref p) H'
theorem sc__law_pool : FnScope ["_law_script"] ["_law_script"] (defScope s_law_pool) := ⟨rfl, rfl, rfl, by decide +kernel, rfl, by decide +kernel, by decide +kernel⟩
theorem D__law_pool (T : Txt w K mg) : Dn P w K mg base CX0 1 "_law_pool" (spPool K) := by
  refine mkD0 T.fds_law_pool T.g__law_pool T.kps_law_pool sc__law_pool (fun _ _ _ _ _ _ us hl => match us, hl with | [_], _ => rfl) (fun vs H Q E h => ?_) (fun cdv A outer s H vs Q E hr h => ?_)
  · obtain ⟨s, cells, rfl, _⟩ := h
    rfl
  · obtain ⟨s, cells, rfl, hs, k0⟩ := h
    refine ⟨_, (pss_one (ps_ret (pe_lst (pa_cons (pe_callTy call_list_of (by rfl) T.n_list bo_list (pa_cons (pe_slice sl_list (pv 0) po_none (po_some pe_int)) pa_nil)) (pa_cons pe_int (pa_cons pe_int (pa_cons pe_int pa_nil))))))), ?_⟩
    have hcut : cutV (cells.map V.int) none (some ((63 : Nat) : Int)) = (cells.take 63).map V.int := by
      rw [cutV_to, List.map_take]
    refine (el_sl (K := K) (ev_var (i := 0) rfl) eo_none (eo_some ev_c) hs : EvL _ [some (.ref s)] H _) H (Ex.refl H) _ fun a1 H1 ha1 e1 h1 => ?_
    rw [show ((63 : Int)) = ((63 : Nat) : Int) from rfl, hcut] at h1
    refine ⟨a1, _, rfl, Or.inl (sq_of h1), fun q hq => ⟨by show 4 ≤ sizeLine; decide, fun p hp => ?_⟩⟩
    have e2 : Ex H1 (upd H1 q (.lst ((cells.take 63).map V.int))) := Ex.new hq
    have hpq : p ≠ q := fun z => by
      rw [z] at hp
      rw [upd_same] at hp
      cases hp
    refine k0 p q _ (fresh_back (e1.trans e2) hp) ((e1.trans e2).trans (Ex.new hp)) ⟨hpq, cells.take 63, 0, 0, 0, upd_same, ?_, by omega, by omega, by omega, by omega⟩
    exact Ex.new hp _ _ upd_same
def spGOther : Sp := fun vs H Q _ => ∃ (p q a : Addr) (n : Nat) (tvs : List V) (ths : List TH) (v : V) (ws : List Str), vs = [.ref p, .ref a, v] ∧ Pool H p q n ∧ n + 20 ≤ Lim ∧ ThE H p q a tvs ths ∧ LookR H v ws ∧ ∀ y ws' H', LookR H' y ws' → Fr p q H H' → Pool H' p q (n + 20) → Q y H'
theorem sc__law_other_name : FnScope ["_law_pool_here", "_law_things_here", "_law_words_here", "_law_x"] ["_law_pool_here", "_law_things_here", "_law_words_here"] (defScope s_law_other_name) := ⟨rfl, rfl, rfl, by decide +kernel, rfl, by decide +kernel, by decide +kernel⟩
theorem D__law_other_name (T : Txt w K mg) (D__law_draw : Dn P w K mg base CX0 1 "_law_draw" spDraw) (D__law_word : Dn P w K mg base CX0 2 "_law_word" spWord) : Dn P w K mg base CX0 3 "_law_other_name" spGOther := by
  refine mkD0 T.fds_law_other_name T.g__law_other_name T.kps_law_other_name sc__law_other_name (fun _ _ _ _ _ _ us hl => match us, hl with | [_, _, _], _ => rfl) (fun vs H Q E h => ?_) (fun cdv A outer s H vs Q E hr h => ?_)
  · obtain ⟨p, q, a, n, tvs, ths, v, ws, rfl, _⟩ := h
    rfl
  · obtain ⟨p, q, a, n, tvs, ths, v, ws, rfl, P0, hl, hE, hlk, k0⟩ := h
    refine ⟨_, (pss_cons (ps_set (i := 3) sc__law_other_name.nd rfl (Or.inl rfl) (pe_ifExp (pt_truth (pe_d D__law_draw (hr.mono (by decide)) (by rfl) pass0 (pa_cons (pv 0) (pa_cons pe_int pa_nil))) (fun _ => rfl)) (pe_ix ix_tup (pe_ix ix_list (pv 1) (pe_d D__law_draw (hr.mono (by decide)) (by rfl) pass0 (pa_cons (pv 0) (pa_cons (pe_callB call_len_seq (by rfl) T.n_len PySem.boot_len (pa_cons (pv 1) pa_nil)) pa_nil))) (fun _ _ => rfl)) pe_int (fun _ _ => rfl)) (pe_d D__law_word (hr.mono (by decide)) (by rfl) pass0 (pa_cons (pv 0) pa_nil))))
    (pss_one (ps_ret (pe_ifExp (pt_truth (pe_d D__law_draw (hr.mono (by decide)) (by rfl) pass0 (pa_cons (pv 0) (pa_cons pe_int pa_nil))) (fun _ => rfl)) (pe_op op_catA (pe_slice sl_tupA (pv 2) po_none (po_some (pe_un un_neg pe_int))) (pe_tup (pa_cons (pv 3) pa_nil))) (pe_op op_catA (pe_op op_catA (pe_slice sl_tupA (pv 2) po_none (po_some pe_int)) (pe_tup (pa_cons (pv 3) pa_nil))) (pe_slice sl_tupA (pv 2) (po_some pe_int) po_none)))))), ?_⟩
    have htl : tvs.length = ths.length := Paired.length hE.tv
    have hpos := hE.pos
    have hfew := hE.few
    refine q_asgG (p := p) (q := q) (n := n) (c := 1 + 9) (H := H) (S := fun y _ => ∃ z : Str, y = .str z ∧ z.length ≤ 100000) (eg_if (C := fun _ => True) (gt_dtru (m := 2) (ev_var (i := 0) rfl) ev_c (by decide) (by decide)) (fun _ => (eg_op2 (S1 := fun y _ => y ∈ tvs) (eg_pickL (K := K) (a := a) (xs := tvs) (ev_var (i := 0) rfl) (ev_var (i := 1) rfl) hE.np hE.nq hE.at_ (by omega) (by omega)) ev_c (fun y H2 m f2 P2 hy => ?_) fun _ _ _ _ h => h).le (by omega)) fun _ => eg_call (vs := [.ref p]) (ea_cons (ev_var (i := 0) rfl) ea_nil) fun H6 n6 f6 P6 hl6 Q k => ⟨p, q, n6, rfl, P6, hl6, fun z H7 hz f7 P7 => k _ H7 f7 P7 ⟨z, rfl, by have := okN_len hz; omega⟩⟩) P0 (by omega) fun y H1 f1 P1 hy => ?_
    · obtain ⟨i, hi⟩ := List.getElem?_of_mem hy
      obtain ⟨t, ht, ta, tb, rfl, g1, g2⟩ := paired_get (hE.go f2 P0 P2).tv hi
      have htok := hE.ok t (List.mem_of_getElem? ht)
      have hnl := okN_len htok.1
      exact ⟨.str t.name, fun Q q => ⟨ta, _, 1, _, rfl, rfl, st_of g1, atI_nat (j := 1) rfl, q⟩, t.name, rfl, by omega⟩
    obtain ⟨x, rfl, hx⟩ := hy
    have hlk1 := hlk.kp (P0.kp f1 P1)
    obtain ⟨⟨b, rfl, hb⟩, hw2, hw3, hsh⟩ := hlk1
    have hbn := P1.tup hb
    have hbB : (bs p q H1) b = some (.tup (ws.map V.str)) := by
      rw [bs_ne hbn.1 hbn.2]
      exact hb
    have hwl : (ws.map V.str).length = ws.length := List.length_map _
    obtain ⟨w0, u, hwu⟩ : ∃ w0 u, ws = w0 ++ [u] := by
      cases ws with
      | nil => simp at hw2
      | cons x r => exact last_some rfl
    have hw0l : ws.length = w0.length + 1 := by rw [hwu, List.length_append] <;> rfl
    have hc1 : cutV (ws.map V.str) none (some (-1)) = w0.map V.str := by
      rw [hwu, List.map_append]
      exact cutV_init _ _
    have hc2 : cutV (ws.map V.str) none (some ((1 : Nat) : Int)) = (ws.take 1).map V.str := by rw [cutV_to, List.map_take]
    have hc3 : cutV (ws.map V.str) (some ((2 : Nat) : Int)) none = (ws.drop 2).map V.str := by rw [cutV_from, List.map_drop]
    have ne_of : ∀ {zs : List V}, 0 < zs.length → zs ≠ [] := fun h z => by
      rw [z] at h
      simp at h
    refine s_retG (p := p) (q := q) (n := n + (1 + 9)) (c := 1 + 0) (H := H1) (S := fun y H2 => ∃ ws', LookR H2 y ws') (eg_if (C := fun _ => True) (gt_dtru (m := 2) (ev_var (i := 0) rfl) ev_c (by decide) (by decide)) (fun _ => (eg_U (eu_cat (K := K) (eu_sl (K := K) (ev_var (i := 2) rfl) eo_none (eo_some (ev_un ev_c ru_neg)) (st_of hbB) (sIx_init (by omega))) (eu_tup (ea_cons (ev_var (i := 3) rfl) ea_nil) (by simp)) (ne_of (by rw [hc1, List.length_map]; omega)) (by rw [hc1, List.length_map]; simp; omega))).imp fun v H2 f2 s => ?_) fun _ => (eg_U (eu_cat (K := K) (eu_cat (K := K) (eu_sl (K := K) (ev_var (i := 2) rfl) eo_none (eo_some (i := ((1 : Nat) : Int)) ev_c) (st_of hbB) (sIx_to (by omega))) (eu_tup (ea_cons (ev_var (i := 3) rfl) ea_nil) (by simp)) (ne_of (by rw [hc2, List.length_map, List.length_take]; omega)) (by rw [hc2, List.length_map, List.length_take]; simp; omega)) (eu_sl (K := K) (ev_var (i := 2) rfl) (eo_some (i := ((2 : Nat) : Int)) ev_c) eo_none (st_of hbB) (sIx_from (by omega) (by omega))) (ne_of (by simp)) (by rw [hc2, hc3, List.length_append, List.length_map, List.length_map, List.length_take, List.length_drop]; simp; omega))).imp fun v H2 f2 s => ?_) P1 (by omega) fun y H2 f2 P2 hy => ?_
    · obtain ⟨t, rfl, ht⟩ := s
      rw [hc1] at ht
      refine ⟨w0 ++ [x], ⟨t, rfl, ?_⟩, by rw [List.length_append, List.length_singleton]; omega, by rw [List.length_append, List.length_singleton]; omega, by rw [List.length_append, List.length_singleton]; omega, fun z hz => ?_⟩
      · rw [ht, List.map_append]
        rfl
      · rcases List.mem_append.mp hz with hz | hz
        · exact hsh.2 z (by rw [hwu]; exact List.mem_append_left _ hz)
        · rw [List.mem_singleton.mp hz]
          exact hx
    · obtain ⟨t, rfl, ht⟩ := s
      rw [hc2, hc3] at ht
      have hlen : (ws.take 1 ++ [x] ++ ws.drop 2).length = ws.length := by
        rw [List.length_append, List.length_append, List.length_take, List.length_drop, List.length_singleton]
        omega
      refine ⟨ws.take 1 ++ [x] ++ ws.drop 2, ⟨t, rfl, ?_⟩, by omega, by omega, by have := hsh.1; omega, fun z hz => ?_⟩
      · rw [ht, List.map_append, List.map_append]
        rfl
      · rcases List.mem_append.mp hz with hz | hz
        · rcases List.mem_append.mp hz with hz | hz
          · exact hsh.2 z (List.mem_of_mem_take hz)
          · rw [List.mem_singleton.mp hz]
            exact hx
        · exact hsh.2 z (List.mem_of_mem_drop hz)
    · obtain ⟨ws', hws'⟩ := hy
      exact k0 y ws' H2 hws' (f1.trans f2) (P2.le (by omega))
def spGOthers : Sp := fun vs H Q _ => ∃ (p q a b : Addr) (n : Nat) (tvs : List V) (ths : List TH) (us : List V), vs = [.ref p, .ref a, .ref b] ∧ Pool H p q n ∧ n + 200 ≤ Lim ∧ ThE H p q a tvs ths ∧ H b = some (.tup us) ∧ us.length ≤ 6 ∧ (∀ y ∈ us, SLook y H) ∧ ∀ (t : Addr) (us' : List V) H', H' t = some (.tup us') → us'.length ≤ 6 → (∀ y ∈ us', SLook y H') → Fr p q H H' → Pool H' p q (n + 200) → Q (.ref t) H'
theorem sc__law_other_names : FnScope ["_law_pool_here", "_law_things_here", "_law_looks", "_law_bent", "_law_look"] ["_law_pool_here", "_law_things_here", "_law_looks"] (defScope s_law_other_names) := ⟨rfl, rfl, rfl, by decide +kernel, rfl, by decide +kernel, by decide +kernel⟩
theorem D__law_other_names (T : Txt w K mg) (D__law_draw : Dn P w K mg base CX0 1 "_law_draw" spDraw) (D__law_other_name : Dn P w K mg base CX0 3 "_law_other_name" spGOther) : Dn P w K mg base CX0 4 "_law_other_names" spGOthers := by
  refine mkD0 T.fds_law_other_names T.g__law_other_names T.kps_law_other_names sc__law_other_names (fun _ _ _ _ _ _ us hl => match us, hl with | [_, _, _], _ => rfl) (fun vs H Q E h => ?_) (fun cdv A outer s H vs Q E hr h => ?_)
  · obtain ⟨p, q, a, b, n, tvs, ths, us, rfl, _⟩ := h
    rfl
  · obtain ⟨p, q, a, b, n, tvs, ths, us, rfl, P0, hl, hE, hb, hul, hus, k0⟩ := h
    refine ⟨_, (pss_cons (ps_set (i := 3) sc__law_other_names.nd rfl (Or.inl rfl) (pe_lst pa_nil))
    (pss_cons (ps_for PassesOwn.never rfl (pi_tup (pv 2)) (pg_name (i := 4) sc__law_other_names.nd rfl (Or.inl rfl))
    (pss_one (ps_expr (pe_bm PySem.F.plainAttrs_list PySem.F.slot_list_append PySem.F.type_list_append mt_append (pv 3) (pa_cons (pe_ifExp (pt_cmpR op_eq (pe_d D__law_draw (hr.mono (by decide)) (by rfl) pass0 (pa_cons (pv 0) (pa_cons pe_int pa_nil))) pe_int (nomark _)) (pe_d D__law_other_name (hr.mono (by decide)) (by rfl) pass0 (pa_cons (pv 0) (pa_cons (pv 1) (pa_cons (pv 4) pa_nil)))) (pv 4)) pa_nil)))))
    (pss_one (ps_ret (pe_callTy call_tuple_of (by rfl) T.n_tuple bo_tuple (pa_cons (pv 3) pa_nil)))))), ?_⟩
    have hbn := P0.tup hb
    refine q_asgL (el_lst ea_nil (by decide)) fun tl H1 htl e1 h1 => ?_
    have tn := P0.ne htl
    refine q_forB (H := bs p q H) (eb_tup (ev_var (i := 2) rfl) (st_of (by rw [bs_ne hbn.1 hbn.2]; exact hb))) (Fr.bs (Fr.ex e1)) (fun i σ' H' => ∃ (xs : List V) (y4 : Option V), σ' = [some (.ref p), some (.ref a), some (.ref b), some (.ref tl), y4] ∧ Fr p q H H' ∧ Pool H' p q (n + i * 21) ∧ H' tl = some (.lst xs) ∧ xs.length = i ∧ ∀ x ∈ xs, SLook x H')
      (fun H2 e2 => ⟨[], none, rfl, (Fr.ex e1).trans (Fr.ex e2), (P0.ex (e1.trans e2)).le (by omega), e2 _ _ h1, rfl, fun x h => by cases h⟩) (fun i σ' H' pv => by
      obtain ⟨_, _, _, f, _⟩ := pv
      exact f.bs) (fun i x σ' H' hx pv => ?_) fun σ' H' pv => ?_
    · obtain ⟨xs, y4, rfl, f, Pi, hw, hxl, hxs⟩ := pv
      have hil := (List.getElem?_eq_some_iff.mp hx).1
      obtain ⟨ws, hws⟩ := SLook.kp x _ _ (P0.kp f Pi) (hus x (List.mem_of_getElem? hx))
      have hEi := hE.go f P0 Pi
      refine s_appG (p := p) (q := q) (n := n + i * 21) (c := 1 + 20) (H := H') (S := SLook) hw tn.1 tn.2 (ev_var (i := 3) rfl) (eg_if (C := fun _ => True) (gt_draw (m := 3) (ev_var (i := 0) rfl) ev_c (by decide) (by decide)) (fun _ => eg_call (vs := [.ref p, .ref a, x]) (ea_cons (ev_var (i := 0) rfl) (ea_cons (ev_var (i := 1) rfl) (ea_cons (ev_var (i := 4) rfl) ea_nil))) fun H6 n6 f6 P6 hl6 Q k => ⟨p, q, a, n6, tvs, ths, x, ws, rfl, P6, hl6, hEi.go f6 Pi P6, hws.kp (Pi.kp f6 P6), fun y ws' H7 hws' f7 P7 => k y H7 f7 P7 ⟨ws', hws'⟩⟩) fun _ => fun H6 n6 f6 P6 hl6 Q k => ⟨_, rfl, k x H6 Fr.refl (P6.le (by omega)) ⟨ws, hws.kp (Pi.kp f6 P6)⟩⟩) Pi (by omega) (by omega) fun y H5 f5 P5 hy => ?_
      have hw5 := f5 _ _ tn.1 tn.2 hw
      have kpd : Kp H5 (upd H5 tl (.lst (xs ++ [y]))) := Kp.put hw5
      refine ⟨xs ++ [y], _, rfl, (f.trans f5).put htl, (P5.put tn.1 tn.2).le (by omega), upd_same, by rw [List.length_append, hxl] <;> rfl, fun z hz => ?_⟩
      rcases List.mem_append.mp hz with hz | hz
      · exact SLook.kp z _ _ ((Pi.kp f5 P5).trans kpd) (hxs z hz)
      · rw [List.mem_singleton.mp hz]
        exact SLook.kp y _ _ kpd hy
    · obtain ⟨xs, y4, rfl, f, Pi, hw, hxl, hxs⟩ := pv
      refine ⟨_, rfl, tl, xs, rfl, Or.inl ⟨sq_of hw, fun t ht => ?_⟩⟩
      exact k0 t xs _ upd_same (by omega) (fun y hy => SLook.kp y _ _ (Kp.ex (Ex.new ht)) (hxs y hy)) (f.trans (Fr.ex (Ex.new ht))) ((Pi.ex (Ex.new ht)).le (by omega))
end
end Q7
/-! _law_odd_row -/
namespace Q7
open PySem PySem.Spec PyProof.Rows L2 Evl
/-- the parts, as the generators have them -/
structure PsE (H : Hp) (p q l : Addr) (pvs : List V) (ps : List Part) : Prop where
  np : l ≠ p
  nq : l ≠ q
  at_ : H l = some (.lst pvs)
  pv : Paired (PtG [p, q] H) pvs ps
  pos : 1 ≤ ps.length
  few : ps.length ≤ 2
  ok : ∀ pt ∈ ps, okN pt.1 = true
  sum : sumR ps ≤ 55
  rows : ∀ pt ∈ ps, ∀ r ∈ pt.2, ROk r ∧ GR r
theorem PsE.go {H H' : Hp} {p q l : Addr} {pvs : List V} {ps : List Part} {n m : Nat} (e : PsE H p q l pvs ps) (f : Fr p q H H') (P0 : Pool H p q n) (P1 : Pool H' p q m) : PsE H' p q l pvs ps :=
  ⟨e.np, e.nq, f _ _ e.np e.nq e.at_, Paired.imp (fun _ _ z => z.go (P0.kp f P1) fun c o hc h => by
    simp only [List.mem_cons, List.mem_nil_iff, not_or, or_false] at hc
    exact f c o hc.1 hc.2 h) e.pv, e.pos, e.few, e.ok, e.sum, e.rows⟩
def rowNm : R → Option Str
  | .pro n _ _ _ => some n
  | .ass n _ _ _ => some n
  | .tup (w :: z :: _) => if w ∈ (["probe", "assert"] : List Str) then some z else none
  | _ => none
theorem rowNm_map : ∀ l : List R, (l.map fun r => (rowNm r).map V.str).filterMap id = (l.filterMap rowNm).map V.str
  | [] => rfl
  | r :: l => by
    have ih := rowNm_map l
    rw [List.map_cons, List.filterMap_cons, List.filterMap_cons]
    cases rowNm r with
    | none => exact ih
    | some z => exact congrArg (V.str z :: ·) ih
theorem rowNm_len {r : R} {z : Str} (h : ROk r) (e : rowNm r = some z) : z.length ≤ 100000 := by
  cases r with
  | pro n g as bs =>
    rw [← Option.some.inj e]
    exact h.1
  | ass n g as t =>
    rw [← Option.some.inj e]
    exact h.1
  | tup ws =>
    match ws, e with
    | w :: x :: l, e =>
      have e' : (if w ∈ (["probe", "assert"] : List Str) then some x else none) = some z := e
      by_cases hw : w ∈ (["probe", "assert"] : List Str)
      · rw [if_pos hw] at e'
        rw [← Option.some.inj e']
        exact h.2.2 x (List.mem_cons_of_mem _ List.mem_cons_self)
      · rw [if_neg hw] at e'
        cases e'
  | non => cases e
  | tru => cases e
  | lst => cases e
  | str _ => cases e
theorem row_shape {H : Hp} {v : V} {r : R} (h : RowV H v r) (hg : GR r) : ∃ (t : Addr) (w : Str) (xs : List V), v = .ref t ∧ H t = some (.tup (.str w :: xs)) ∧ ((rowNm r).map V.str).isSome = decide (w ∈ (["probe", "assert"] : List Str)) ∧ ∀ z, rowNm r = some z → ∃ ys, xs = .str z :: ys := by
  cases r with
  | pro n g as bs =>
    obtain ⟨t, b, c, rfl, ht, _⟩ := h
    exact ⟨t, "probe", _, rfl, ht, (by decide : true = decide (("probe" : Str) ∈ (["probe", "assert"] : List Str))), fun z hz => ⟨[.str g, b, c], by rw [← Option.some.inj hz]⟩⟩
  | ass n g as ws =>
    obtain ⟨t, b, c, rfl, ht, _⟩ := h
    exact ⟨t, "assert", _, rfl, ht, (by decide : true = decide (("assert" : Str) ∈ (["probe", "assert"] : List Str))), fun z hz => ⟨[.str g, b, c], by rw [← Option.some.inj hz]⟩⟩
  | tup ws =>
    obtain ⟨w, l, rfl, hw⟩ := hg
    obtain ⟨t, rfl, ht⟩ := h
    refine ⟨t, w, l.map V.str, rfl, ht, ?_, fun z hz => ?_⟩
    · cases l with
      | nil =>
        rw [decide_eq_false (hw rfl)]
        rfl
      | cons z l =>
        show ((if w ∈ (["probe", "assert"] : List Str) then some z else none).map V.str).isSome = _
        by_cases hm : w ∈ (["probe", "assert"] : List Str)
        · rw [if_pos hm, decide_eq_true hm]
          rfl
        · rw [if_neg hm, decide_eq_false hm]
          rfl
    · cases l with
      | nil => cases hz
      | cons x l =>
        have e' : (if w ∈ (["probe", "assert"] : List Str) then some x else none) = some z := hz
        by_cases hm : w ∈ (["probe", "assert"] : List Str)
        · rw [if_pos hm] at e'
          exact ⟨l.map V.str, by rw [← Option.some.inj e'] <;> rfl⟩
        · rw [if_neg hm] at e'
          cases e'
  | non => cases hg
  | tru => cases hg
  | lst => cases hg
  | str _ => cases hg
theorem mem_rows {r : R} : ∀ {ps : List Part}, r ∈ allRows ps → ∃ pt ∈ ps, r ∈ pt.2
  | p :: ps, h => by
    rcases List.mem_append.mp (show r ∈ p.2 ++ allRows ps from h) with h | h
    · exact ⟨p, List.mem_cons_self, h⟩
    · obtain ⟨pt, h1, h2⟩ := mem_rows h
      exact ⟨pt, List.mem_cons_of_mem _ h1, h2⟩
theorem looks_of {H : Hp} {us : List V} {as : List (List Str)} (h : AllV H us as) (hf : FewL as) (hs : ∀ l ∈ as, Sh l) : us.length ≤ 6 ∧ ∀ y ∈ us, SLook y H := by
  refine ⟨by have := Paired.length h; have := hf.1; omega, fun y hy => ?_⟩
  obtain ⟨ws, hw, hl⟩ := h.mem y hy
  exact ⟨ws, hl, (hf.2 ws hw).1, (hf.2 ws hw).2, hs ws hw⟩
/-- a probe, as it lies -/
def PaV (H : Hp) (y : V) : Prop := ∃ (t : Addr) (k nm g : Str) (b : Addr) (us : List V) (cv : V), y = .ref t ∧ H t = some (.tup [.str k, .str nm, .str g, .ref b, cv]) ∧ nm.length ≤ 100000 ∧ g.length ≤ 100000 ∧ H b = some (.tup us) ∧ us.length ≤ 6 ∧ (∀ y ∈ us, SLook y H) ∧
  ((k = "probe" ∧ ∃ c us2, cv = .ref c ∧ H c = some (.tup us2) ∧ us2.length ≤ 6 ∧ ∀ y ∈ us2, SLook y H) ∨ (k = "assert" ∧ SLook cv H))
theorem pa_shape {H : Hp} {y : V} {r : R} {nm : Str} (h : RowV H y r) (ho : ROk r) (hp : IsPA nm r) : PaV H y := by
  cases r with
  | pro n g as bs =>
    obtain ⟨t, b, c, rfl, ht, ⟨b1, us, rfl, hb, ha⟩, c1, us2, rfl, hc, ha2⟩ := h
    obtain ⟨o1, o2, o3, o4, o5, o6⟩ := ho
    obtain ⟨_, f1, f2⟩ := hp
    obtain ⟨l1, l2⟩ := looks_of ha f1 o5
    obtain ⟨l3, l4⟩ := looks_of ha2 f2 o6
    exact ⟨t, "probe", n, g, b1, us, .ref c1, rfl, ht, o1, o2, hb, l1, l2, Or.inl ⟨rfl, c1, us2, rfl, hc, l3, l4⟩⟩
  | ass n g as ws =>
    obtain ⟨t, b, c, rfl, ht, ⟨b1, us, rfl, hb, ha⟩, hc⟩ := h
    obtain ⟨o1, o2, o3, o4, o5⟩ := ho
    obtain ⟨_, f1, f2, f3⟩ := hp
    obtain ⟨l1, l2⟩ := looks_of ha f1 o4
    exact ⟨t, "assert", n, g, b1, us, c, rfl, ht, o1, o2, hb, l1, l2, Or.inr ⟨rfl, ws, hc, f2, f3, o5⟩⟩
  | non => cases hp
  | tru => cases hp
  | lst => cases hp
  | str _ => cases hp
  | tup _ => cases hp
theorem PaV.kp {H H' : Hp} {y : V} (k : Kp H H') (h : PaV H y) : PaV H' y := by
  obtain ⟨t, kd, nm, g, b, us, cv, rfl, h1, h2, h3, h4, h5, h6, h7⟩ := h
  refine ⟨t, kd, nm, g, b, us, cv, rfl, k.tup h1, h2, h3, k.tup h4, h5, fun y hy => SLook.kp y _ _ k (h6 y hy), ?_⟩
  rcases h7 with ⟨e, c, us2, rfl, h8, h9, h10⟩ | ⟨e, h8⟩
  · exact Or.inl ⟨e, c, us2, rfl, k.tup h8, h9, fun y hy => SLook.kp y _ _ k (h10 y hy)⟩
  · exact Or.inr ⟨e, SLook.kp _ _ _ k h8⟩
section
variable {P : Program} {w : World} {K : PySem.W.Frag} {mg : Str → Option Value} {base : Heap}
theorem eu_is {te : TE} {σ : L2.St} {H : Hp} {xs ys : List V} (h : EvU te σ H xs) (e : xs = ys) : EvU te σ H ys := by
  subst e
  exact h
theorem lc_src {g : TG} {tt : TT} {te tl : TE} {vs : List Nat} {σ : L2.St} {H : Hp} {Q : VK} (h : tl σ H fun x H1 => tLc (iList K (tC x)) g tt te vs σ H1 Q) : tLc (iList K tl) g tt te vs σ H Q := h
def spGOdd : Sp := fun vs H Q _ => ∃ (p q a l : Addr) (n : Nat) (tvs : List V) (ths : List TH) (pvs : List V) (ps : List Part), vs = [.ref p, .ref a, .ref l] ∧ Pool H p q n ∧ n + 1000 ≤ Lim ∧ ThE H p q a tvs ths ∧ PsE H p q l pvs ps ∧ ∀ y r H', RowV H' y r → ROk r → Fr p q H H' → Pool H' p q (n + 1000) → Q y H'
theorem sc__law_odd_row : FnScope ["_law_pool_here", "_law_things_here", "_law_parts", "_law_pick", "_law_probes", "_law_row", "_law_args", "_law_word_here", "_law_deed"] ["_law_pool_here", "_law_things_here", "_law_parts"] (defScope s_law_odd_row) := ⟨rfl, rfl, rfl, by decide +kernel, rfl, by decide +kernel, by decide +kernel⟩
theorem D__law_odd_row (T : Txt w K mg) (D__law_draw : Dn P w K mg base CX0 1 "_law_draw" spDraw) (D__law_all_rows : Dn P w K mg base CX0 1 "_law_all_rows" (spAllRows K)) (D__law_wide_probe : Dn P w K mg base CX0 3 "_law_wide_probe" spGProbe) (D__law_wide_test : Dn P w K mg base CX0 3 "_law_wide_test" spGTest) (D__law_wide_deed : Dn P w K mg base CX0 2 "_law_wide_deed" (spGLook 3)) (D__law_other_name : Dn P w K mg base CX0 3 "_law_other_name" spGOther) (D__law_other_names : Dn P w K mg base CX0 4 "_law_other_names" spGOthers) : Dn P w K mg base CX0 5 "_law_odd_row" spGOdd := by
  refine mkD0 T.fds_law_odd_row T.g__law_odd_row T.kps_law_odd_row sc__law_odd_row (fun _ _ _ _ _ _ us hl => match us, hl with | [_, _, _], _ => rfl) (fun vs H Q E h => ?_) (fun cdv A outer s H vs Q E hr h => ?_)
  · obtain ⟨p, q, a, l, n, tvs, ths, pvs, ps, rfl, _⟩ := h
    rfl
  · obtain ⟨p, q, a, l, n, tvs, ths, pvs, ps, rfl, P0, hl, hE, hF, k0⟩ := h
    refine ⟨_, (pss_cons (ps_set (i := 3) sc__law_odd_row.nd rfl (Or.inl rfl) (pe_d D__law_draw (hr.mono (by decide)) (by rfl) pass0 (pa_cons (pv 0) (pa_cons pe_int pa_nil))))
    (pss_cons (ps_set (i := 4) sc__law_odd_row.nd rfl (Or.inl rfl) (pe_op op_cat (pe_lst (pa_cons pe_str pa_nil)) (pe_lc (own := [("_law_row", 5)]) (g := gName 5) rfl sc__law_odd_row.nd (pi_list (pe_d D__law_all_rows (hr.mono (by decide)) (by rfl) pass0 (pa_cons (pv 2) pa_nil))) (blkOk_by (own := [("_law_row", 5)]) (N := ["_law_pool_here", "_law_things_here", "_law_parts", "_law_pick", "_law_probes", "_law_row", "_law_args", "_law_word_here", "_law_deed"]) (sc := defScope s_law_odd_row) (by decide +kernel)) (fun _ _ _ _ _ => (pg_name (i := 5) sc__law_odd_row.nd rfl (Or.inl rfl))) (fun _ _ _ _ _ => (pts_one (pt_cmpR (r := rIn K false) op_in_seq (pe_ix (r := rIxT K) ix_tup (pv 5) pe_int (fun _ _ => rfl)) (pe_tup (pa_cons pe_str (pa_cons pe_str pa_nil))) (by rfl)))) (fun _ _ _ _ _ => (pe_ix (r := rIxT K) ix_tup (pv 5) pe_int (fun _ _ => rfl))))))
    (pss_cons (ps_set (i := 5) sc__law_odd_row.nd rfl (Or.inl rfl) (pe_d D__law_wide_probe (hr.mono (by decide)) (by rfl) pass0 (pa_cons (pv 0) (pa_cons (pv 1) (pa_cons (pe_ix ix_list (pv 4) (pe_d D__law_draw (hr.mono (by decide)) (by rfl) pass0 (pa_cons (pv 0) (pa_cons (pe_callB call_len_seq (by rfl) T.n_len PySem.boot_len (pa_cons (pv 4) pa_nil)) pa_nil))) (fun _ _ => rfl)) pa_nil)))))
    (pss_cons (ps_if (pt_cmpR op_eq (pv 3) pe_int (nomark _)) (pss_one (ps_ret (pe_ix ix_list (pe_lst (pa_cons pe_non (pa_cons (pe_tup pa_nil) (pa_cons (pe_lst (pa_cons pe_str pa_nil)) (pa_cons pe_str (pa_cons (pe_tup (pa_cons pe_str (pa_cons pe_str pa_nil))) (pa_cons (pe_tup (pa_cons pe_str (pa_cons pe_str pa_nil))) (pa_cons pe_bl pa_nil)))))))) (pe_d D__law_draw (hr.mono (by decide)) (by rfl) pass0 (pa_cons (pv 0) (pa_cons pe_int pa_nil))) (fun _ _ => rfl)))) pss_nil)
    (pss_cons (ps_if (pt_cmpR op_lt (pv 3) pe_int (nomark _)) (pss_cons (ps_set (i := 6) sc__law_odd_row.nd rfl (Or.inl rfl) (pe_d D__law_other_names (hr.mono (by decide)) (by rfl) pass0 (pa_cons (pv 0) (pa_cons (pv 1) (pa_cons (pe_ix ix_tup (pv 5) pe_int (fun _ _ => rfl)) pa_nil)))))
    (pss_cons (ps_if (pt_cmpR op_eq (pe_ix ix_tup (pv 5) pe_int (fun _ _ => rfl)) pe_str (nomark _)) (pss_one (ps_ret (pe_op op_catA (pe_slice sl_tupA (pv 5) po_none (po_some pe_int)) (pe_tup (pa_cons (pv 6) (pa_cons (pe_d D__law_other_name (hr.mono (by decide)) (by rfl) pass0 (pa_cons (pv 0) (pa_cons (pv 1) (pa_cons (pe_ix ix_tup (pv 5) pe_int (fun _ _ => rfl)) pa_nil)))) pa_nil)))))) pss_nil)
    (pss_one (ps_ret (pe_op op_catA (pe_slice sl_tupA (pv 5) po_none (po_some pe_int)) (pe_tup (pa_cons (pv 6) (pa_cons (pe_d D__law_other_names (hr.mono (by decide)) (by rfl) pass0 (pa_cons (pv 0) (pa_cons (pv 1) (pa_cons (pe_ix ix_tup (pv 5) pe_int (fun _ _ => rfl)) pa_nil)))) pa_nil)))))))) pss_nil)
    (pss_cons (ps_if (pt_cmpR op_eq (pv 3) pe_int (nomark _)) (pss_one (ps_ret (pe_tup (pa_cons pe_str (pa_cons (pe_ix ix_tup (pe_ix ix_list (pv 2) (pe_d D__law_draw (hr.mono (by decide)) (by rfl) pass0 (pa_cons (pv 0) (pa_cons (pe_callB call_len_seq (by rfl) T.n_len PySem.boot_len (pa_cons (pv 2) pa_nil)) pa_nil))) (fun _ _ => rfl)) pe_int (fun _ _ => rfl)) pa_nil))))) pss_nil)
    (pss_cons (ps_if (pt_cmpR op_eq (pv 3) pe_int (nomark _)) (pss_one (ps_ret (pe_ix ix_list (pe_lst (pa_cons (pe_tup (pa_cons pe_str pa_nil)) (pa_cons (pe_tup (pa_cons pe_str pa_nil)) (pa_cons (pe_tup (pa_cons pe_str (pa_cons pe_str (pa_cons pe_str pa_nil)))) (pa_cons (pe_tup (pa_cons pe_str (pa_cons pe_str (pa_cons pe_str pa_nil)))) pa_nil))))) (pe_d D__law_draw (hr.mono (by decide)) (by rfl) pass0 (pa_cons (pv 0) (pa_cons pe_int pa_nil))) (fun _ _ => rfl)))) pss_nil)
    (pss_cons (ps_if (pt_cmpR op_eq (pv 3) pe_int (nomark _)) (pss_cons (ps_set (i := 7) sc__law_odd_row.nd rfl (Or.inl rfl) (pe_ix ix_list (pe_lst (pa_cons pe_str (pa_cons pe_str pa_nil))) (pe_d D__law_draw (hr.mono (by decide)) (by rfl) pass0 (pa_cons (pv 0) (pa_cons pe_int pa_nil))) (fun _ _ => rfl)))
    (pss_one (ps_ret (pe_op op_catA (pe_tup (pa_cons (pv 7) pa_nil)) (pe_d D__law_other_name (hr.mono (by decide)) (by rfl) pass0 (pa_cons (pv 0) (pa_cons (pv 1) (pa_cons (pe_d D__law_wide_test (hr.mono (by decide)) (by rfl) pass0 (pa_cons (pv 0) (pa_cons (pv 1) (pa_cons (pe_cmpR op_eq (pv 7) pe_str (nomark _)) pa_nil)))) pa_nil)))))))) pss_nil)
    (pss_cons (ps_set (i := 8) sc__law_odd_row.nd rfl (Or.inl rfl) (pe_d D__law_wide_deed (hr.mono (by decide)) (by rfl) pass0 (pa_cons (pv 0) (pa_cons (pv 1) pa_nil))))
    (pss_one (ps_ret (pe_ifExp (pt_cmpR op_eq (pv 3) pe_int (nomark _)) (pe_op op_catA (pe_slice sl_tupA (pv 8) po_none (po_some pe_int)) (pe_slice sl_tupA (pv 8) (po_some pe_int) po_none)) (pe_d D__law_other_name (hr.mono (by decide)) (by rfl) pass0 (pa_cons (pv 0) (pa_cons (pv 1) (pa_cons (pv 8) pa_nil)))))))))))))))), ?_⟩
    have nz : ∀ {Hx : Hp} {c d : Addr} {o : HO}, Hx c = none → Hx d = some o → c ≠ d := fun h1 h2 z => by
      rw [z, h2] at h1
      cases h1
    refine q_asgG (p := p) (q := q) (c := 1) (H := H) (eg_draw (m := 8) (ev_var (i := 0) rfl) ev_c (by decide) (by decide)) P0 (by omega) fun y H1 f1 P1 hy => ?_
    obtain ⟨pk, rfl, hpk⟩ := hy
    have hE1 := hE.go f1 P0 P1
    have hF1 := hF.go f1 P0 P1
    refine q_asgD ?_
    refine (el_lst (vs := [.str "first"]) (ea_cons ev_c ea_nil) (by simp) : EvL _ [some (.ref p), some (.ref a), some (.ref l), some (.int (pk : Nat)), none, none, none, none, none] H1 _) H1 (Ex.refl H1) _ fun fa H2 hfa e2 h2 => ?_
    have hF2 := hF1.go (Fr.ex e2) P1 (P1.ex e2)
    refine lc_src (K := K) ?_
    refine ⟨_, rfl, l, pvs, ps, rfl, sq_of hF2.at_, Paired.imp (fun _ _ z => z.v) hF2.pv, by have := hF.sum; omega, by have := hF.few; omega, fun ra H3 vals hra e3 h3 hvals => ?_⟩
    have hrows : ∀ r ∈ allRows ps, ROk r ∧ GR r := fun r hr => by
      obtain ⟨pt, h1, h2⟩ := mem_rows hr
      exact hF.rows pt h1 r h2
    have hlenr : (allRows ps).length ≤ 55 := by
      rw [allRows_len]
      exact hF.sum
    have hvl : vals.length = (allRows ps).length := Paired.length hvals
    refine el_lcR (H := H3) (σ := [some (.ref p), some (.ref a), some (.ref l), some (.int (pk : Nat)), none, none, none, none, none]) ((allRows ps).map fun r => (rowNm r).map V.str) (ei_list (K := K) (xs := vals) ev_c (sq_of h3)) (by omega) (paired_map (r' := fun v r => RowV H3 v r ∧ (ROk r ∧ GR r)) (fun v r hr => ?_) (paired_and hvals hrows)) H3 (Ex.refl H3) _ fun nb H4 hnb e4 h4 => ?_
    · obtain ⟨hv, ho, hg⟩ := hr
      obtain ⟨t, w, xs, rfl, ht, hs, hz⟩ := row_shape hv hg
      refine tgO_name rfl (fun H7 e7 => ?_) fun H7 e7 v' hv' => ?_
      · exact et_is (et_test (ev_inD ["probe", "assert"] (ev_ixT (K := K) (ev_var (i := 5) rfl) (st_of (e7 _ _ ht)) ev_c (atI_nat (j := 0) rfl)) (eu_tup (ea_cons ev_c (ea_cons ev_c ea_nil)) (by simp)))) hs.symm
      · cases hn : rowNm r with
        | none =>
          rw [hn] at hv'
          cases hv'
        | some z =>
          rw [hn] at hv'
          obtain ⟨ys, rfl⟩ := hz z hn
          rw [← Option.some.inj hv']
          exact ev_ixT (K := K) (ev_var (i := 5) rfl) (st_of (e7 _ _ ht)) ev_c (atI_nat (j := 1) rfl)
    rw [rowNm_map] at h4
    have hnl : ((allRows ps).filterMap rowNm).length ≤ 55 := Nat.le_trans (List.length_filterMap_le _ _) hlenr
    refine ⟨fa, nb, _, _, rfl, rfl, (e3.trans e4) _ _ h2, h4, sz_of ?_, fun pl hpl => ?_⟩
    · rw [List.length_map]
      simp
      omega
    obtain ⟨pn, hpn, hpn0, hpnl, hpnk⟩ : ∃ pn : List Str, [V.str "first"] ++ ((allRows ps).filterMap rowNm).map V.str = pn.map V.str ∧ 0 < pn.length ∧ pn.length ≤ 60 ∧ ∀ z ∈ pn, z.length ≤ 100000 := by
      refine ⟨"first" :: (allRows ps).filterMap rowNm, rfl, by simp, by rw [List.length_cons]; omega, fun z hz => ?_⟩
      rcases List.mem_cons.mp hz with rfl | hz
      · decide
      · obtain ⟨r, hr, e⟩ := List.mem_filterMap.mp hz
        exact rowNm_len (hrows r hr).1 e
    rw [hpn]
    have e5 : Ex H1 (upd H4 pl (.lst (pn.map V.str))) := ((e2.trans e3).trans e4).trans (Ex.new hpl)
    have h5 : (upd H4 pl (.lst (pn.map V.str))) pl = some (.lst (pn.map V.str)) := upd_same
    have pln := P1.ne (fresh_back ((e2.trans e3).trans e4) hpl)
    generalize upd H4 pl (.lst (pn.map V.str)) = H5 at e5 h5 ⊢
    have P5 := P1.ex e5
    have hE5 := hE1.go (Fr.ex e5) P1 P5
    have hF5 := hF1.go (Fr.ex e5) P1 P5
    refine q_asgG (p := p) (q := q) (n := n + 1) (c := 1 + 100) (H := H5) (S := fun v H => PaV H v) (eg_callA (ga_v (ev_var (i := 0) rfl) (ga_v (ev_var (i := 1) rfl) (ga_1 (eg_pickL (K := K) (a := pl) (xs := pn.map V.str) (ev_var (i := 0) rfl) (ev_var (i := 4) rfl) pln.1 pln.2 h5 (by rw [List.length_map]; exact hpn0) (by rw [List.length_map]; omega))))) fun vs H6 n6 f6 P6 hl6 s Q k => ?_) P5 (by omega) fun y H6 f6 P6 hy => ?_
    · obtain ⟨_, rfl, _, rfl, y, rfl, hy⟩ := s
      obtain ⟨nm, hnm, rfl⟩ := List.mem_map.mp hy
      exact ⟨p, q, a, n6, tvs, ths, nm, rfl, hpnk nm hnm, P6, hl6, hE5.go f6 P5 P6, fun y r H7 h1 h2 h3 f7 P7 => k y H7 f7 P7 (pa_shape h1 h2 h3)⟩
    have hE6 := hE5.go f6 P5 P6
    have hF6 := hF5.go f6 P5 P6
    have f16 : Fr p q H H6 := (f1.trans (Fr.ex e5)).trans f6
    clear h5 hpn hnl hvals h4 h3 h2 hE5 hF5 hE1 hF1 hF2
    refine q_when (et_test (ev_op (ev_var (i := 3) rfl) ev_c (rv_eq rfl))) (fun hb H7 e7 => ?_) fun hb H7 e7 => ?_
    · clear hb
      refine ⟨Nat.zero_le _, fun t1 h1 => ⟨by show 1 ≤ sizeLine; decide, fun l1 hl1 => ⟨by show 2 ≤ sizeLine; decide, fun t2 h2 => ⟨by show 2 ≤ sizeLine; decide, fun t3 h3 => ⟨by show 7 ≤ sizeLine; decide, fun ll hll => ?_⟩⟩⟩⟩⟩
      have E1 : Ex H7 (upd H7 t1 (.tup [])) := Ex.new h1
      have E2 := Ex.new (o := .lst [.str "stop"]) hl1
      have E3 := Ex.new (o := .tup [.str "say", .str "A"]) h2
      have E4 := Ex.new (o := .tup [.str "probe", .str "a"]) h3
      have E5 := Ex.new (o := .lst [.non, .ref t1, .ref l1, .str "stop", .ref t2, .ref t3, .bl true]) hll
      have E45 := E4.trans E5
      have E35 := E3.trans E45
      have E25 := E2.trans E35
      have E75 := (e7.trans E1).trans E25
      have g1 := E25 _ _ (upd_same : (upd H7 t1 (.tup [])) t1 = some (.tup []))
      have gl := E35 l1 (.lst [.str "stop"]) upd_same
      have g2 := E45 t2 (.tup [.str "say", .str "A"]) upd_same
      have g3 := E5 t3 (.tup [.str "probe", .str "a"]) upd_same
      have nl := (P6.ex (e7.trans E1)).ne hl1
      have nn := P6.ne (fresh_back (((e7.trans E1).trans (E2.trans E3)).trans E4) hll)
      have PX := P6.ex E75
      refine (eg_draw (m := 7) (ev_var (i := 0) rfl) ev_c (by decide) (by decide) : EvG p q 1 _ [some (.ref p), some (.ref a), some (.ref l), some (.int (pk : Nat)), some (.ref pl), some y, none, none, none] _ _) _ _ Fr.refl PX (by omega) _ fun y H8 f8 P8 hy => ?_
      obtain ⟨d, rfl, hd⟩ := hy
      have gll := f8 ll (.lst [.non, .ref t1, .ref l1, .str "stop", .ref t2, .ref t3, .bl true]) nn.1 nn.2 upd_same
      have fin : ∀ (v : V) (r : R), RowV H8 v r → ROk r → Q v H8 := fun v r h1 h2 => k0 v r H8 h1 h2 ((f16.trans (Fr.ex E75)).trans f8) (P8.le (by omega))
      have kp8 := PX.kp f8 P8
      rcases (by omega : d = 0 ∨ d = 1 ∨ d = 2 ∨ d = 3 ∨ d = 4 ∨ d = 5 ∨ d = 6) with rfl | rfl | rfl | rfl | rfl | rfl | rfl
      · exact ⟨ll, _, _, _, rfl, rfl, sq_of gll, rfl, fin _ .non rfl trivial⟩
      · exact ⟨ll, _, _, _, rfl, rfl, sq_of gll, rfl, fin _ (.tup []) ⟨t1, rfl, kp8.tup g1⟩ ⟨by simp, sh_nil⟩⟩
      · exact ⟨ll, _, _, _, rfl, rfl, sq_of gll, rfl, fin _ .lst ⟨l1, _, rfl, f8 _ _ nl.1 nl.2 gl⟩ trivial⟩
      · exact ⟨ll, _, _, _, rfl, rfl, sq_of gll, rfl, fin _ (.str "stop") rfl trivial⟩
      · exact ⟨ll, _, _, _, rfl, rfl, sq_of gll, rfl, fin _ (.tup ["say", "A"]) ⟨t2, rfl, kp8.tup g2⟩ ⟨by simp, sh_cons (by decide) (sh_cons (by decide) sh_nil (by simp)) (by simp)⟩⟩
      · exact ⟨ll, _, _, _, rfl, rfl, sq_of gll, rfl, fin _ (.tup ["probe", "a"]) ⟨t3, rfl, kp8.tup g3⟩ ⟨by simp, sh_cons (by decide) (sh_cons (by decide) sh_nil (by simp)) (by simp)⟩⟩
      · exact ⟨ll, _, _, _, rfl, rfl, sq_of gll, rfl, fin _ .tru rfl trivial⟩
    clear hb
    have P7 := P6.ex e7
    have hE7 := hE6.go (Fr.ex e7) P6 P7
    have hF7 := hF6.go (Fr.ex e7) P6 P7
    have hy7 := hy.kp (Kp.ex e7)
    refine q_when (et_test (ev_op (ev_var (i := 3) rfl) ev_c rv_I0)) (fun hb H8 e8 => ?_) fun hb H8 e8 => ?_
    · clear hb
      have P8 := P7.ex e8
      have hE8 := hE7.go (Fr.ex e8) P7 P8
      have hy8 := hy7.kp (Kp.ex e8)
      have f18 : Fr p q H H8 := f16.trans (Fr.ex (e7.trans e8))
      obtain ⟨t, kd, nm, g, b, us, cv, rfl, ht, hnm, hg, hb, hul, hus, hcv⟩ := hy8
      have htn := P8.tup ht
      refine q_asgG (p := p) (q := q) (c := 200) (H := H8) (S := fun v H => ∃ (t' : Addr) (us' : List V), v = .ref t' ∧ H t' = some (.tup us') ∧ us'.length ≤ 6 ∧ ∀ y ∈ us', SLook y H) (eg_call (ea_cons (ev_var (i := 0) rfl) (ea_cons (ev_var (i := 1) rfl) (ea_cons (ev_ixT (K := K) (ev_var (i := 5) rfl) (st_of (by rw [bs_ne htn.1 htn.2]; exact ht)) ev_c (atI_nat (j := 3) rfl)) ea_nil))) fun H9 n9 f9 P9 hl9 Q k => ⟨p, q, a, b, n9, tvs, ths, us, rfl, P9, hl9, hE8.go f9 P8 P9, (P8.kp f9 P9).tup hb, hul, fun y hy => SLook.kp y _ _ (P8.kp f9 P9) (hus y hy), fun t' us' H10 h1 h2 h3 f10 P10 => k _ H10 f10 P10 ⟨t', us', rfl, h1, h2, h3⟩⟩) P8 (by omega) fun y H9 f9 P9 hy => ?_
      obtain ⟨t', us', rfl, ht', hul', hus'⟩ := hy
      have kp9 := P8.kp f9 P9
      have ht9 := kp9.tup ht
      have hcut3 : cutV [.str kd, .str nm, .str g, .ref b, cv] none (some ((3 : Nat) : Int)) = [.str kd, .str nm, .str g] := by
        rw [cutV_to]
        rfl
      refine q_when (et_test (ev_eqS (ev_ixT (K := K) (ev_var (i := 5) rfl) (st_of ht9) ev_c (atI_nat (j := 0) rfl)) ev_c)) (fun hk H10 e10 => ?_) fun hk H10 e10 => ?_
      · have hk' := of_decide_eq_true hk
        have hcv' : SLook cv H8 := by
          rcases hcv with ⟨h, _⟩ | ⟨_, h⟩
          · rw [hk'] at h
            exact absurd h (by decide)
          · exact h
        subst hk'
        have P10 := P9.ex e10
        have hE10 := (hE8.go f9 P8 P9).go (Fr.ex e10) P9 P10
        have ht10 := e10 _ _ ht9
        have htB : (bs p q H10) t = some (.tup [.str "assert", .str nm, .str g, .ref b, cv]) := by
          rw [bs_ne htn.1 htn.2]
          exact ht10
        have hcv10 := SLook.kp cv _ _ (kp9.trans (Kp.ex e10)) hcv'
        obtain ⟨cws, hcws⟩ := hcv10
        refine s_retG (p := p) (q := q) (c := 20) (H := H10) (eg_catA (K := K) (xs := [.str "assert", .str nm, .str g]) (S := fun ys H => ∃ y, ys = [.ref t', y] ∧ SLook y H) (fun ys H H' e h => by
          obtain ⟨y, h1, h2⟩ := h
          exact ⟨y, h1, SLook.kp y _ _ (Kp.ex e) h2⟩) (eu_is (eu_sl (K := K) (ev_var (i := 5) rfl) eo_none (eo_some (i := ((3 : Nat) : Int)) ev_c) (st_of htB) (sIx_to (by simp))) hcut3) (by simp) ((eg_tupA (ga_v (ev_var (i := 6) rfl) (ga_1 (eg_call (S := SLook) (ea_cons (ev_var (i := 0) rfl) (ea_cons (ev_var (i := 1) rfl) (ea_cons (ev_ixT (K := K) (ev_var (i := 5) rfl) (st_of htB) ev_c (atI_nat (j := 4) rfl)) ea_nil))) fun H6 n6 f6 P6 hl6 Q k => ⟨p, q, a, n6, tvs, ths, cv, cws, rfl, P6, hl6, hE10.go f6 P10 P6, hcws.kp (P10.kp f6 P6), fun y ws' H7 hws' f7 P7 => k y H7 f7 P7 ⟨ws', hws'⟩⟩))) (fun vs H2 h => by
          obtain ⟨_, rfl, y, rfl, _⟩ := h
          simp) fun vs H H' e h => by
          obtain ⟨_, rfl, y, rfl, h⟩ := h
          exact ⟨_, rfl, y, rfl, SLook.kp y _ _ (Kp.ex e) h⟩).imp fun v H2 f2 s => by
          obtain ⟨t2, _, rfl, ht2, _, rfl, y, rfl, h⟩ := s
          exact ⟨t2, _, rfl, ht2, by simp, by simp, y, rfl, h⟩)) P10 (by omega) fun y H11 f11 P11 hs => ?_
        obtain ⟨t3, ys, rfl, ht3, z, rfl, ws', hws'⟩ := hs
        have kp911 := (Kp.ex e10).trans (P10.kp f11 P11)
        obtain ⟨as, has, hsh, hlk⟩ := looks_all fun y hy => SLook.kp y _ _ kp911 (hus' y hy)
        have hal := Paired.length has
        exact k0 _ (.ass nm g as ws') H11 ⟨t3, _, _, rfl, ht3, ⟨t', us', rfl, kp911.tup ht', has⟩, hws'.1⟩ ⟨hnm, hg, by omega, hsh, hws'.2.2.2⟩ (((f18.trans f9).trans (Fr.ex e10)).trans f11) (P11.le (by omega))
      · have hk' := of_decide_eq_false hk
        obtain ⟨hkp, c, us2, rfl, hc, hul2, hus2⟩ : kd = "probe" ∧ ∃ c us2, cv = .ref c ∧ H8 c = some (.tup us2) ∧ us2.length ≤ 6 ∧ ∀ y ∈ us2, SLook y H8 := by
          rcases hcv with h | ⟨h, _⟩
          · exact h
          · exact absurd h hk'
        subst hkp
        have P10 := P9.ex e10
        have hE10 := (hE8.go f9 P8 P9).go (Fr.ex e10) P9 P10
        have ht10 := e10 _ _ ht9
        have htB : (bs p q H10) t = some (.tup [.str "probe", .str nm, .str g, .ref b, .ref c]) := by
          rw [bs_ne htn.1 htn.2]
          exact ht10
        have kp10 := kp9.trans (Kp.ex e10)
        refine s_retG (p := p) (q := q) (c := 200) (H := H10) (eg_catA (K := K) (xs := [.str "probe", .str nm, .str g]) (S := fun ys H => ∃ t2 us2, ys = [.ref t', .ref t2] ∧ H t2 = some (.tup us2) ∧ us2.length ≤ 6 ∧ ∀ y ∈ us2, SLook y H) (fun ys H H' e h => by
          obtain ⟨t2, us2, h1, h2, h3, h4⟩ := h
          exact ⟨t2, us2, h1, e _ _ h2, h3, fun y hy => SLook.kp y _ _ (Kp.ex e) (h4 y hy)⟩) (eu_is (eu_sl (K := K) (ev_var (i := 5) rfl) eo_none (eo_some (i := ((3 : Nat) : Int)) ev_c) (st_of htB) (sIx_to (by simp))) hcut3) (by simp) ((eg_tupA (ga_v (ev_var (i := 6) rfl) (ga_1 (eg_call (S := fun v H => ∃ t2 us2, v = .ref t2 ∧ H t2 = some (.tup us2) ∧ us2.length ≤ 6 ∧ ∀ y ∈ us2, SLook y H) (ea_cons (ev_var (i := 0) rfl) (ea_cons (ev_var (i := 1) rfl) (ea_cons (ev_ixT (K := K) (ev_var (i := 5) rfl) (st_of htB) ev_c (atI_nat (j := 4) rfl)) ea_nil))) fun H6 n6 f6 P6 hl6 Q k => ⟨p, q, a, c, n6, tvs, ths, us2, rfl, P6, hl6, hE10.go f6 P10 P6, (kp10.trans (P10.kp f6 P6)).tup hc, hul2, fun y hy => SLook.kp y _ _ (kp10.trans (P10.kp f6 P6)) (hus2 y hy), fun t2 us3 H7 h1 h2 h3 f7 P7 => k _ H7 f7 P7 ⟨t2, us3, rfl, h1, h2, h3⟩⟩))) (fun vs H2 h => by
          obtain ⟨_, rfl, y, rfl, _⟩ := h
          simp) fun vs H H' e h => by
          obtain ⟨_, rfl, y, rfl, t2, us2, rfl, h2, h3, h4⟩ := h
          exact ⟨_, rfl, _, rfl, t2, us2, rfl, e _ _ h2, h3, fun y hy => SLook.kp y _ _ (Kp.ex e) (h4 y hy)⟩).imp fun v H2 f2 s => by
          obtain ⟨t3, _, rfl, ht3, _, rfl, y, rfl, t2, us2, rfl, h2, h3, h4⟩ := s
          exact ⟨t3, _, rfl, ht3, by simp, by simp, t2, us2, rfl, h2, h3, h4⟩)) P10 (by omega) fun y H11 f11 P11 hs => ?_
        obtain ⟨t3, ys, rfl, ht3, t2, us3, rfl, h2, h3, h4⟩ := hs
        have kp911 := (Kp.ex e10).trans (P10.kp f11 P11)
        obtain ⟨as, has, hsh, hlk⟩ := looks_all fun y hy => SLook.kp y _ _ kp911 (hus' y hy)
        obtain ⟨bs', hbs, hsh2, hlk2⟩ := looks_all h4
        have hal := Paired.length has
        have hbl := Paired.length hbs
        exact k0 _ (.pro nm g as bs') H11 ⟨t3, _, _, rfl, ht3, ⟨t', us', rfl, kp911.tup ht', has⟩, ⟨t2, us3, rfl, h2, hbs⟩⟩ ⟨hnm, hg, by omega, by omega, hsh, hsh2⟩ (((f18.trans f9).trans (Fr.ex e10)).trans f11) (P11.le (by omega))
    clear hb
    have P8 := P7.ex e8
    have hE8 := hE7.go (Fr.ex e8) P7 P8
    have hF8 := hF7.go (Fr.ex e8) P7 P8
    have f18 : Fr p q H H8 := f16.trans (Fr.ex (e7.trans e8))
    refine q_when (et_test (ev_op (ev_var (i := 3) rfl) ev_c (rv_eq rfl))) (fun hb H9 e9 => ?_) fun hb H9 e9 => ?_
    · clear hb
      have P9 := P8.ex e9
      have hF9 := hF8.go (Fr.ex e9) P8 P9
      have hpl := Paired.length hF9.pv
      have hpos := hF9.pos
      have hfew := hF9.few
      refine s_retG (p := p) (q := q) (c := 1) (H := H9) (eg_tupA (ga_v ev_c (ga_1 (eg_op2 (S := fun y _ => ∃ z : Str, y = .str z ∧ z.length ≤ 100000) (S1 := fun y _ => y ∈ pvs) (eg_pickL (K := K) (a := l) (xs := pvs) (ev_var (i := 0) rfl) (ev_var (i := 2) rfl) hF9.np hF9.nq hF9.at_ (by omega) (by omega)) ev_c (fun y H2 m f2 P2 hy => ?_) fun _ _ _ _ h => h))) (fun vs H2 h => by
        obtain ⟨_, rfl, y, rfl, _⟩ := h
        simp) fun _ _ _ _ h => h) P9 (by omega) fun y H10 f10 P10 hs => ?_
      · obtain ⟨i, hi⟩ := List.getElem?_of_mem hy
        obtain ⟨pt, hpt, t, l2, xs, rfl, g1, _⟩ := paired_get (hF9.go f2 P9 P2).pv hi
        exact ⟨.str pt.1, fun Q q => ⟨t, _, 0, _, rfl, rfl, st_of g1, atI_nat (j := 0) rfl, q⟩, pt.1, rfl, by have := okN_len (hF9.ok pt (List.mem_of_getElem? hpt)); omega⟩
      · obtain ⟨t, _, rfl, ht, _, rfl, y, rfl, z, rfl, hz⟩ := hs
        exact k0 _ (.tup ["call", z]) H10 ⟨t, rfl, ht⟩ ⟨by simp, sh_cons (by decide) (sh_cons hz sh_nil (by simp)) (by simp)⟩ ((f18.trans (Fr.ex e9)).trans f10) (P10.le (by omega))
    clear hb
    have P9 := P8.ex e9
    have hE9 := hE8.go (Fr.ex e9) P8 P9
    have f19 : Fr p q H H9 := f18.trans (Fr.ex e9)
    refine q_when (et_test (ev_op (ev_var (i := 3) rfl) ev_c (rv_eq rfl))) (fun hb H10 e10 => ?_) fun hb H10 e10 => ?_
    · clear hb
      refine ⟨by show 1 ≤ sizeLine; decide, fun t1 h1 => ⟨by show 1 ≤ sizeLine; decide, fun t2 h2 => ⟨by show 3 ≤ sizeLine; decide, fun t3 h3 => ⟨by show 3 ≤ sizeLine; decide, fun t4 h4 => ⟨by show 4 ≤ sizeLine; decide, fun ll hll => ?_⟩⟩⟩⟩⟩
      have E1 : Ex H10 (upd H10 t1 (.tup [.str "else"])) := Ex.new h1
      have E2 := Ex.new (o := .tup [.str "end"]) h2
      have E3 := Ex.new (o := .tup [.str "while", .str "ask", .str "more"]) h3
      have E4 := Ex.new (o := .tup [.str "if", .str "ask", .str "more"]) h4
      have E5 := Ex.new (o := .lst [.ref t1, .ref t2, .ref t3, .ref t4]) hll
      have E45 := E4.trans E5
      have E35 := E3.trans E45
      have E25 := E2.trans E35
      have E75 := (e10.trans E1).trans E25
      have g1 := E25 _ _ (upd_same : (upd H10 t1 (.tup [.str "else"])) t1 = some (.tup [.str "else"]))
      have g2 := E35 t2 (.tup [.str "end"]) upd_same
      have g3 := E45 t3 (.tup [.str "while", .str "ask", .str "more"]) upd_same
      have g4 := E5 t4 (.tup [.str "if", .str "ask", .str "more"]) upd_same
      have nn := P9.ne (fresh_back (((e10.trans E1).trans (E2.trans E3)).trans E4) hll)
      have PX := P9.ex E75
      refine (eg_draw (m := 4) (ev_var (i := 0) rfl) ev_c (by decide) (by decide) : EvG p q 1 _ [some (.ref p), some (.ref a), some (.ref l), some (.int (pk : Nat)), some (.ref pl), some y, none, none, none] _ _) _ _ Fr.refl PX (by omega) _ fun y H8 f8 P8 hy => ?_
      obtain ⟨d, rfl, hd⟩ := hy
      have gll := f8 ll (.lst [.ref t1, .ref t2, .ref t3, .ref t4]) nn.1 nn.2 upd_same
      have fin : ∀ (v : V) (r : R), RowV H8 v r → ROk r → Q v H8 := fun v r h1 h2 => k0 v r H8 h1 h2 ((f19.trans (Fr.ex E75)).trans f8) (P8.le (by omega))
      have kp8 := PX.kp f8 P8
      rcases (by omega : d = 0 ∨ d = 1 ∨ d = 2 ∨ d = 3) with rfl | rfl | rfl | rfl
      · exact ⟨ll, _, _, _, rfl, rfl, sq_of gll, rfl, fin _ (.tup ["else"]) ⟨t1, rfl, kp8.tup g1⟩ ⟨by simp, sh_cons (by decide) sh_nil (by simp)⟩⟩
      · exact ⟨ll, _, _, _, rfl, rfl, sq_of gll, rfl, fin _ (.tup ["end"]) ⟨t2, rfl, kp8.tup g2⟩ ⟨by simp, sh_cons (by decide) sh_nil (by simp)⟩⟩
      · exact ⟨ll, _, _, _, rfl, rfl, sq_of gll, rfl, fin _ (.tup ["while", "ask", "more"]) ⟨t3, rfl, kp8.tup g3⟩ ⟨by simp, sh_cons (by decide) (sh_cons (by decide) (sh_cons (by decide) sh_nil (by simp)) (by simp)) (by simp)⟩⟩
      · exact ⟨ll, _, _, _, rfl, rfl, sq_of gll, rfl, fin _ (.tup ["if", "ask", "more"]) ⟨t4, rfl, kp8.tup g4⟩ ⟨by simp, sh_cons (by decide) (sh_cons (by decide) (sh_cons (by decide) sh_nil (by simp)) (by simp)) (by simp)⟩⟩
    clear hb
    have P10 := P9.ex e10
    have hE10 := hE9.go (Fr.ex e10) P9 P10
    have f110 : Fr p q H H10 := f19.trans (Fr.ex e10)
    refine q_when (et_test (ev_op (ev_var (i := 3) rfl) ev_c (rv_eq rfl))) (fun hb H11 e11 => ?_) fun hb H11 e11 => ?_
    · clear hb
      have P11 := P10.ex e11
      have hE11 := hE10.go (Fr.ex e11) P10 P11
      refine q_asgG (p := p) (q := q) (c := 1) (H := H11) (S := fun v _ => ∃ z : Str, v = .str z ∧ z.length ≤ 100000) (eg_opL (xs := [.str "if", .str "while"]) (el_lst (ea_cons ev_c (ea_cons ev_c ea_nil)) (by decide)) (eg_draw (m := 2) (ev_var (i := 0) rfl) ev_c (by decide) (by decide)) fun a y H2 ha hy => ?_) P11 (by omega) fun y H12 f12 P12 hy => ?_
      · obtain ⟨d, rfl, hd⟩ := hy
        rcases (by omega : d = 0 ∨ d = 1) with rfl | rfl
        · exact ⟨.str "if", fun Q q => ⟨a, _, 0, _, rfl, rfl, sq_of ha, rfl, q⟩, _, rfl, by decide⟩
        · exact ⟨.str "while", fun Q q => ⟨a, _, 1, _, rfl, rfl, sq_of ha, rfl, q⟩, _, rfl, by decide⟩
      obtain ⟨wd, rfl, hwd⟩ := hy
      have hE12 := hE11.go f12 P11 P12
      refine s_retG (p := p) (q := q) (c := 10 + 20) (H := H12) (eg_catA (K := K) (xs := [.str wd]) (S := fun ys _ => ∃ ws : List Str, ys = ws.map V.str ∧ 2 ≤ ws.length ∧ ws.length ≤ 3 ∧ Sh ws) (fun _ _ _ _ h => h) (eu_tup (ea_cons (ev_var (i := 7) rfl) ea_nil) (by simp)) (by simp) (eg_callA (ga_v (ev_var (i := 0) rfl) (ga_v (ev_var (i := 1) rfl) (ga_1 (eg_call (S := SLook) (c := 10) (ea_cons (ev_var (i := 0) rfl) (ea_cons (ev_var (i := 1) rfl) (ea_cons (ev_op (ev_var (i := 7) rfl) ev_c (rv_eq rfl)) ea_nil))) fun H7 n7 f7 P7 hl7 Q k => ⟨p, q, a, n7, tvs, ths, _, rfl, P7, hl7, hE12.go f7 P12 P7, fun y ws H8 hws f8 P8 => k y H8 f8 P8 ⟨ws, hws⟩⟩)))) fun vs H6 n6 f6 P6 hl6 s Q k => ?_)) P12 (by omega) fun y H13 f13 P13 hs => ?_
      · obtain ⟨_, rfl, _, rfl, y, rfl, ws, hws⟩ := s
        refine ⟨p, q, a, n6, tvs, ths, y, ws, rfl, P6, hl6, hE12.go f6 P12 P6, hws, fun y ws' H7 hws' f7 P7 => k y H7 f7 P7 ?_⟩
        obtain ⟨⟨b, rfl, hb⟩, w1, w2, w3⟩ := hws'
        refine ⟨b, _, rfl, hb, fun z => ?_, by simp; omega, ws', rfl, w1, w2, w3⟩
        have := congrArg List.length z
        simp at this
        rw [this] at w1
        simp at w1
      · obtain ⟨t, ys, rfl, ht, ws, rfl, w1, w2, w3⟩ := hs
        exact k0 _ (.tup (wd :: ws)) H13 ⟨t, rfl, ht⟩ ⟨by simp; omega, sh_cons hwd w3 (by omega)⟩ (((f110.trans (Fr.ex e11)).trans f12).trans f13) (P13.le (by omega))
    clear hb
    have P11 := P10.ex e11
    have hE11 := hE10.go (Fr.ex e11) P10 P11
    have f111 : Fr p q H H11 := f110.trans (Fr.ex e11)
    refine q_asgG (p := p) (q := q) (c := 3) (H := H11) (S := SLook) (eg_call (vs := [.ref p, .ref a]) (ea_cons (ev_var (i := 0) rfl) (ea_cons (ev_var (i := 1) rfl) ea_nil)) fun H6 n6 f6 P6 hl6 Q k => ⟨p, q, a, n6, tvs, ths, rfl, P6, hl6, hE11.go f6 P11 P6, fun y ws H7 hws f7 P7 => k y H7 f7 P7 ⟨ws, hws⟩⟩) P11 (by omega) fun y H12 f12 P12 hy => ?_
    obtain ⟨ws, hws⟩ := hy
    have hE12 := hE11.go f12 P11 P12
    have hws0 := hws
    obtain ⟨⟨b, rfl, hb⟩, w1, w2, w3⟩ := hws
    have hbn := P12.tup hb
    have hbB : (bs p q H12) b = some (.tup (ws.map V.str)) := by
      rw [bs_ne hbn.1 hbn.2]
      exact hb
    have hwl : (ws.map V.str).length = ws.length := List.length_map _
    have hc2 : cutV (ws.map V.str) none (some ((1 : Nat) : Int)) = (ws.take 1).map V.str := by rw [cutV_to, List.map_take]
    have hc3 : cutV (ws.map V.str) (some ((2 : Nat) : Int)) none = (ws.drop 2).map V.str := by rw [cutV_from, List.map_drop]
    refine s_retG (p := p) (q := q) (c := 0 + 20) (H := H12) (S := fun y H2 => ∃ ws', LkV H2 y ws' ∧ ws'.length ≤ 4 ∧ Sh ws') (eg_if (gt_t (et_test (ev_op (ev_var (i := 3) rfl) ev_c (rv_eq rfl)))) (fun _ => ((eg_U (eu_cat (K := K) (eu_is (eu_sl (K := K) (ev_var (i := 8) rfl) eo_none (eo_some (i := ((1 : Nat) : Int)) ev_c) (st_of hbB) (sIx_to (by omega))) hc2) (eu_is (eu_sl (K := K) (ev_var (i := 8) rfl) (eo_some (i := ((2 : Nat) : Int)) ev_c) eo_none (st_of hbB) (sIx_from (by omega) (by omega))) hc3) (fun z => ?_) ?_)).imp fun v H2 f2 s => ?_).le (by omega)) fun _ => eg_call (ea_cons (ev_var (i := 0) rfl) (ea_cons (ev_var (i := 1) rfl) (ea_cons (ev_var (i := 8) rfl) ea_nil))) fun H6 n6 f6 P6 hl6 Q k => ⟨p, q, a, n6, tvs, ths, .ref b, ws, rfl, P6, hl6, hE12.go f6 P12 P6, hws0.kp (P12.kp f6 P6), fun y ws' H7 hws' f7 P7 => k y H7 f7 P7 ⟨ws', hws'.1, by have := hws'.2.2.1; omega, hws'.2.2.2⟩⟩) P12 (by omega) fun y H13 f13 P13 hs => ?_
    · have := congrArg List.length z
      rw [List.length_map, List.length_take, List.length_nil] at this
      omega
    · rw [List.length_map, List.length_map, List.length_take, List.length_drop]
      omega
    · obtain ⟨t, rfl, ht⟩ := s
      refine ⟨ws.take 1 ++ ws.drop 2, ⟨t, rfl, ?_⟩, ?_, ?_, fun z hz => ?_⟩
      · rw [ht, List.map_append]
      · rw [List.length_append, List.length_take, List.length_drop]
        omega
      · rw [List.length_append, List.length_take, List.length_drop]
        omega
      · rcases List.mem_append.mp hz with hz | hz
        · exact w3.2 z (List.mem_of_mem_take hz)
        · exact w3.2 z (List.mem_of_mem_drop hz)
    · obtain ⟨ws', g1, g2, g3⟩ := hs
      exact k0 y (.tup ws') H13 g1 ⟨g2, g3⟩ ((f111.trans f12).trans f13) (P13.le (by omega))
end
end Q7
/-! both answers are the same tree -/
namespace Q7
open PySem PySem.Spec PyProof.Rows L2 Evl
/-- an error's field: a text or a number -/
def IsE (o : Out) : Prop := ∀ c f x, o = some (c, f, x) → (∃ z : Str, x = .str z) ∨ ∃ i : Int, x = .int i
theorem isE_none : IsE none := fun c f x h => by cases h
theorem isE_str {c f : Str} {z : Str} : IsE (some (c, f, .str z)) := fun c' f' x h => by
  cases h
  exact Or.inl ⟨z, rfl⟩
theorem isE_int {c f : Str} {i : Int} : IsE (some (c, f, .int i)) := fun c' f' x h => by
  cases h
  exact Or.inr ⟨i, rfl⟩
theorem isE_some {α : Type} {g : α → Out} (h : ∀ a, IsE (g a)) : ∀ l : List α, IsE (l.findSome? g)
  | [] => isE_none
  | a :: l => by
    rw [List.findSome?_cons]
    cases hg : g a with
    | none => exact isE_some h l
    | some e =>
      show IsE (some e)
      rw [← hg]
      exact h a
theorem isE_step1 (ths : List TH) (p : Str × Str) : IsE (step1 ths p) := by
  unfold step1
  by_cases h : p.2 ∈ free_
  · rw [if_pos h]
    exact isE_none
  · rw [if_neg h]
    cases findT ths p.1 with
    | none => exact isE_str
    | some t =>
      show IsE (if p.2 = "thing" ∨ p.2 = t.kind then none else eNoThing p.1)
      by_cases h2 : p.2 = "thing" ∨ p.2 = t.kind
      · rw [if_pos h2]
        exact isE_none
      · rw [if_neg h2]
        exact isE_str
theorem isE_step2 (ths : List TH) (w : Str) (p : Str × Str) : IsE (step2 ths w p) := by
  unfold step2
  by_cases h : p.2 = "key"
  · rw [if_pos h]
    cases findT ths w with
    | none => exact isE_none
    | some t =>
      show IsE (if p.1 ∈ t.parts then none else eNoKey p.1)
      by_cases h2 : p.1 ∈ t.parts
      · rw [if_pos h2]
        exact isE_none
      · rw [if_neg h2]
        exact isE_str
  · rw [if_neg h]
    exact isE_none
theorem isE_known (ths : List TH) (ws cs : List Str) : IsE (knownR ths ws cs) := by
  unfold knownR
  cases h : ((ws.drop 1).zip cs).findSome? (step1 ths) with
  | none => exact isE_some (isE_step2 ths _) _
  | some e =>
    show IsE (some e)
    rw [← h]
    exact isE_some (isE_step1 ths) _
theorem isE_tail (later met : List Str) (r : R) : IsE (tailR later met r) := by
  cases r with
  | pro n g as bs =>
    show IsE (if n ∈ met then eTwice n else none)
    by_cases h : n ∈ met
    · rw [if_pos h]
      exact isE_str
    · rw [if_neg h]
      exact isE_none
  | ass n g as bs =>
    show IsE (if n ∈ met then eTwice n else none)
    by_cases h : n ∈ met
    · rw [if_pos h]
      exact isE_str
    · rw [if_neg h]
      exact isE_none
  | tup ws =>
    match ws with
    | [] => exact isE_none
    | [_] => exact isE_none
    | w :: x :: l =>
      show IsE (if w = "call" then (if x ∈ later then none else eNoPart x) else none)
      by_cases h : w = "call"
      · rw [if_pos h]
        by_cases h2 : x ∈ later
        · rw [if_pos h2]
          exact isE_none
        · rw [if_neg h2]
          exact isE_str
      · rw [if_neg h]
        exact isE_none
  | non => exact isE_none
  | tru => exact isE_none
  | lst => exact isE_none
  | str _ => exact isE_none
theorem isE_row (ths : List TH) (n : Int) (later met : List Str) (r : R) : IsE (rowR ths n later met r) := by
  unfold rowR
  by_cases h : rowB r = true
  · rw [if_pos h]
    cases h2 : (namedR r).findSome? (fun q => knownR ths q.1 q.2) with
    | none => exact isE_tail _ _ _
    | some e =>
      show IsE (some e)
      rw [← h2]
      exact isE_some (fun q => isE_known ths _ _) _
  · rw [if_neg h]
    exact isE_int
theorem isE_open (bl : List Blk) (n : Int) (w : Str) : IsE (openE bl n w) := by
  unfold openE
  by_cases h1 : w = "if" ∨ w = "while"
  · rw [if_pos h1]
    by_cases h2 : bl.length = 8
    · rw [if_pos h2]
      exact isE_int
    · rw [if_neg h2]
      exact isE_none
  · rw [if_neg h1]
    by_cases h2 : w = "else"
    · rw [if_pos h2]
      cases bl.getLast? with
      | none => exact isE_int
      | some b =>
        show IsE (if b.2 = "if" then none else eUnmatched n)
        by_cases h3 : b.2 = "if"
        · rw [if_pos h3]
          exact isE_none
        · rw [if_neg h3]
          exact isE_int
    · rw [if_neg h2]
      by_cases h3 : w = "end"
      · rw [if_pos h3]
        by_cases h4 : bl = []
        · rw [if_pos h4]
          exact isE_int
        · rw [if_neg h4]
          exact isE_none
      · rw [if_neg h3]
        exact isE_none
theorem isE_rows (ths : List TH) (later : List Str) : ∀ (rs : List R) (n : Int) (met : List Str) (bl : List Blk) (e : Str × Str × V), rowsR ths later n met bl rs = .error e → IsE (some e)
  | [], n, met, bl, e, h => by
    unfold rowsR at h
    cases h
  | r :: rs, n, met, bl, e, h => by
    unfold rowsR at h
    cases h1 : rowR ths n later met r with
    | some e1 =>
      rw [h1] at h
      have : e1 = e := by
        injection h
      rw [← this, ← h1]
      exact isE_row _ _ _ _ _
    | none =>
      rw [h1] at h
      dsimp only at h
      cases h2 : openE bl n (headR r) with
      | some e1 =>
        rw [h2] at h
        have : e1 = e := by
          injection h
        rw [← this, ← h2]
        exact isE_open _ _ _
      | none =>
        rw [h2] at h
        exact isE_rows ths later rs _ _ _ _ h
theorem isE_parts (ths : List TH) : ∀ (ps : List Part) (n : Int) (met : List Str), IsE (partsR ths n met ps)
  | [], n, met => by
    unfold partsR
    exact isE_none
  | p :: ps, n, met => by
    unfold partsR
    cases h : rowsR ths (ps.map Prod.fst) n met [] p.2 with
    | error e => exact isE_rows _ _ _ _ _ _ _ h
    | ok x =>
      obtain ⟨met', bl⟩ := x
      dsimp only
      cases bl.getLast? with
      | some b => exact isE_int
      | none => exact isE_parts ths ps _ _
theorem rows_ok (ths : List TH) (later : List Str) : ∀ (rs : List R) (n : Int) (met : List Str) (bl : List Blk) (x : List Str × List Blk), rowsR ths later n met bl rs = .ok x → ∀ r ∈ rs, rowB r = true
  | [], _, _, _, _, _, r, h => by cases h
  | r0 :: rs, n, met, bl, x, h, r, hr => by
    unfold rowsR at h
    cases h1 : rowR ths n later met r0 with
    | some e1 =>
      rw [h1] at h
      cases h
    | none =>
      rw [h1] at h
      dsimp only at h
      cases h2 : openE bl n (headR r0) with
      | some e1 =>
        rw [h2] at h
        cases h
      | none =>
        rw [h2] at h
        rcases List.mem_cons.mp hr with rfl | hr
        · unfold rowR at h1
          by_cases hb : rowB r = true
          · exact hb
          · rw [if_neg hb] at h1
            cases h1
        · exact rows_ok ths later rs _ _ _ _ h r hr
theorem parts_ok (ths : List TH) : ∀ (ps : List Part) (n : Int) (met : List Str), partsR ths n met ps = none → ∀ r ∈ allRows ps, rowB r = true
  | [], _, _, _, r, h => by cases h
  | p :: ps, n, met, h, r, hr => by
    unfold partsR at h
    cases h1 : rowsR ths (ps.map Prod.fst) n met [] p.2 with
    | error e =>
      rw [h1] at h
      cases h
    | ok x =>
      obtain ⟨met', bl⟩ := x
      rw [h1] at h
      dsimp only at h
      cases h2 : bl.getLast? with
      | some b =>
        rw [h2] at h
        cases h
      | none =>
        rw [h2] at h
        rcases List.mem_append.mp (show r ∈ p.2 ++ allRows ps from hr) with hr | hr
        · exact rows_ok _ _ _ _ _ _ _ h1 r hr
        · exact parts_ok ths ps _ _ h r hr
theorem paired_on {α β γ : Type} {r : α → γ → Prop} {r' : β → γ → Prop} {q : α → β → Prop} : ∀ {xs : List α} {ys : List β} {zs : List γ}, (∀ x y z, z ∈ zs → r x z → r' y z → q x y) → Paired r xs zs → Paired r' ys zs → Paired q xs ys
  | _, _, _, _, .nil, .nil => .nil
  | _, _, _, h, .cons a b, .cons a' b' => .cons (h _ _ _ List.mem_cons_self a a') (paired_on (fun x y z hz => h x y z (List.mem_cons_of_mem _ hz)) b b')
theorem sm_strs {H : Hp} {n : Nat} : ∀ ws : List Str, Paired (SmV H n) (ws.map V.str) (ws.map V.str)
  | [] => .nil
  | w :: r => .cons (by
    cases n with
    | zero => exact Or.inl ⟨w, rfl, rfl⟩
    | succ n => exact Or.inl (Or.inl ⟨w, rfl, rfl⟩)) (sm_strs r)
theorem sm_str {H : Hp} {n : Nat} (z : Str) : SmV H n (.str z) (.str z) := by
  cases n with
  | zero => exact Or.inl ⟨z, rfl, rfl⟩
  | succ n => exact Or.inl (Or.inl ⟨z, rfl, rfl⟩)
theorem sm_int {H : Hp} {n : Nat} (z : Int) : SmV H n (.int z) (.int z) := by
  cases n with
  | zero => exact Or.inr ⟨z, rfl, rfl⟩
  | succ n => exact Or.inl (Or.inr ⟨z, rfl, rfl⟩)
theorem sm_lk {H : Hp} {n : Nat} {x y : V} {ws : List Str} (h1 : LkV H x ws) (h2 : LkV H y ws) (hs : Sh ws) : SmV H (n + 1) x y := by
  obtain ⟨a, rfl, ha⟩ := h1
  obtain ⟨b, rfl, hb⟩ := h2
  exact Or.inr ⟨a, b, _, _, rfl, rfl, ha, hb, by rw [List.length_map]; exact hs.1, sm_strs ws⟩
theorem sm_lks {H : Hp} {n : Nat} {x y : V} {as : List (List Str)} (h1 : LksV H x as) (h2 : LksV H y as) (hl : as.length ≤ 1000) (hs : ∀ l ∈ as, Sh l) : SmV H (n + 2) x y := by
  obtain ⟨a, us, rfl, ha, hu⟩ := h1
  obtain ⟨b, vs, rfl, hb, hv⟩ := h2
  refine Or.inr ⟨a, b, us, vs, rfl, rfl, ha, hb, by have := Paired.length hu; omega, paired_on (r := LkV H) (r' := LkV H) (fun x y z hz h1 h2 => sm_lk h1 h2 (hs z hz)) hu hv⟩
theorem sm_row {H : Hp} {x y : V} {r : R} (h1 : RowV H x r) (h2 : RowV H y r) (hb : rowB r = true) (ho : ROk r) : SmV H 3 x y := by
  cases r with
  | tup ws => exact sm_lk h1 h2 ho.2
  | pro n g as bs =>
    obtain ⟨a, b, c, rfl, ha, hb1, hc1⟩ := h1
    obtain ⟨a', b', c', rfl, ha', hb1', hc1'⟩ := h2
    obtain ⟨o1, o2, o3, o4, o5, o6⟩ := ho
    exact Or.inr ⟨a, a', _, _, rfl, rfl, ha, ha', by simp, .cons (sm_str _) (.cons (sm_str _) (.cons (sm_str _) (.cons (sm_lks hb1 hb1' o3 o5) (.cons (sm_lks hc1 hc1' o4 o6) .nil))))⟩
  | ass n g as ws =>
    obtain ⟨a, b, c, rfl, ha, hb1, hc1⟩ := h1
    obtain ⟨a', b', c', rfl, ha', hb1', hc1'⟩ := h2
    obtain ⟨o1, o2, o3, o4, o5⟩ := ho
    exact Or.inr ⟨a, a', _, _, rfl, rfl, ha, ha', by simp, .cons (sm_str _) (.cons (sm_str _) (.cons (sm_str _) (.cons (sm_lks hb1 hb1' o3 o4) (.cons (sm_lk hc1 hc1' o5) .nil))))⟩
  | non => cases hb
  | tru => cases hb
  | lst => cases hb
  | str _ => cases hb
theorem DueV.kp {H H' : Hp} {y : V} {ps : List Part} {o : Out} (k : Kp H H') (h : DueV H y ps o) : DueV H' y ps o := by
  cases o with
  | none =>
    obtain ⟨p, rt, vals, rfl, h1, h2, h3⟩ := h
    exact ⟨p, rt, vals, rfl, k.tup h1, k.tup h2, Paired.imp (fun _ _ z => z.kp k) h3⟩
  | some e =>
    obtain ⟨c, f, x⟩ := e
    obtain ⟨p, rfl, h1⟩ := h
    exact ⟨p, rfl, k.tup h1⟩
theorem sm_due {H : Hp} {x y : V} {ps : List Part} {ths : List TH} (h1 : DueV H x ps (partsR ths 0 [] ps)) (h2 : DueV H y ps (partsR ths 0 [] ps)) (ho : ∀ p ∈ ps, ∀ r ∈ p.2, ROk r) (hs : sumR ps ≤ 60) : SmV H 5 x y := by
  cases hp : partsR ths 0 [] ps with
  | none =>
    rw [hp] at h1 h2
    obtain ⟨a, rt, vals, rfl, ha, hr, hv⟩ := h1
    obtain ⟨a', rt', vals', rfl, ha', hr', hv'⟩ := h2
    have hok := parts_ok ths ps _ _ hp
    have hl := Paired.length hv
    rw [allRows_len] at hl
    refine Or.inr ⟨a, a', _, _, rfl, rfl, ha, ha', by simp, .cons (sm_str _) (.cons ?_ .nil)⟩
    refine Or.inr ⟨rt, rt', vals, vals', rfl, rfl, hr, hr', by omega, paired_on (r := RowV H) (r' := RowV H) (fun x y z hz h1 h2 => ?_) hv hv'⟩
    obtain ⟨pt, g1, g2⟩ := mem_rows hz
    exact sm_row h1 h2 (hok z hz) (ho pt g1 z g2)
  | some e =>
    obtain ⟨c, f, v⟩ := e
    have he := isE_parts ths ps _ _ _ _ _ hp
    rw [hp] at h1 h2
    obtain ⟨a, rfl, ha⟩ := h1
    obtain ⟨a', rfl, ha'⟩ := h2
    refine Or.inr ⟨a, a', _, _, rfl, rfl, ha, ha', by simp, .cons (sm_str _) (.cons ?_ .nil)⟩
    rcases he with ⟨z, rfl⟩ | ⟨i, rfl⟩
    · exact sm_str _
    · exact sm_int _
end Q7
/-! law -/
namespace Q7
open PySem PySem.Spec PyProof.Rows L2 Evl
theorem paired_erase {α β : Type} {r : α → β → Prop} : ∀ {xs : List α} {ys : List β} (k : Nat), Paired r xs ys → Paired r (xs.eraseIdx k) (ys.eraseIdx k)
  | _, _, _, .nil => .nil
  | _, _, 0, .cons _ b => b
  | _, _, k + 1, .cons a b => .cons a (paired_erase k b)
theorem paired_set {α β : Type} {r : α → β → Prop} {x : α} {y : β} (h : r x y) : ∀ {xs : List α} {ys : List β} (k : Nat), Paired r xs ys → Paired r (xs.set k x) (ys.set k y)
  | _, _, _, .nil => .nil
  | _, _, 0, .cons _ b => .cons h b
  | _, _, k + 1, .cons a b => .cons a (paired_set h k b)
theorem mem_set {α : Type} {x z : α} : ∀ {xs : List α} {k : Nat}, z ∈ xs.set k x → z ∈ xs ∨ z = x
  | [], _, h => by cases h
  | a :: r, 0, h => by
    rcases List.mem_cons.mp h with h | h
    · exact Or.inr h
    · exact Or.inl (List.mem_cons_of_mem _ h)
  | a :: r, k + 1, h => by
    rcases List.mem_cons.mp h with h | h
    · rw [h]
      exact Or.inl List.mem_cons_self
    · rcases mem_set h with h | h
      · exact Or.inl (List.mem_cons_of_mem _ h)
      · exact Or.inr h
/-- a part that is worked at -/
structure En where
  t : Addr
  l : Addr
  nm : Str
  xs : List V
  rs : List R
def EnOk (H3 H : Hp) (w : Addr) (e : En) : Prop := H e.t = some (.tup [.str e.nm, .ref e.l]) ∧ H e.l = some (.lst e.xs) ∧ Paired (RowV H) e.xs e.rs ∧ (∀ r ∈ e.rs, ROk r) ∧ H3 e.l = none ∧ e.l ≠ w
def EnsOk (H3 H : Hp) (w : Addr) (es : List En) : Prop := (es.map En.l).Nodup ∧ ∀ e ∈ es, EnOk H3 H w e
def sumE : List En → Nat
  | [] => 0
  | e :: es => e.rs.length + sumE es
theorem sumE_app : ∀ a b : List En, sumE (a ++ b) = sumE a + sumE b
  | [], b => by
    show sumE b = 0 + sumE b
    omega
  | e :: r, b => by
    show e.rs.length + sumE (r ++ b) = e.rs.length + sumE r + sumE b
    rw [sumE_app r b]
    omega
theorem sumE_part : ∀ es : List En, sumR (es.map fun e => (e.nm, e.rs)) = sumE es
  | [] => rfl
  | e :: r => by
    show e.rs.length + sumR (r.map fun e => (e.nm, e.rs)) = e.rs.length + sumE r
    rw [sumE_part r]
theorem EnOk.kp {H3 H H' : Hp} {w : Addr} {e : En} (k : Kp H H') (hl : H' e.l = some (.lst e.xs)) (h : EnOk H3 H w e) : EnOk H3 H' w e :=
  ⟨k.tup h.1, hl, Paired.imp (fun _ _ z => z.kp k) h.2.2.1, h.2.2.2⟩
theorem EnsOk.go {p q w : Addr} {H3 H H' : Hp} {es : List En} {n0 n m : Nat} (P3 : Pool H3 p q n0) (h : EnsOk H3 H w es) (f : Fr p q H H') (P0 : Pool H p q n) (P1 : Pool H' p q m) : EnsOk H3 H' w es :=
  ⟨h.1, fun e he => by
    have h1 := h.2 e he
    have hn := P3.ne h1.2.2.2.2.1
    exact h1.kp (P0.kp f P1) (f _ _ hn.1 hn.2 h1.2.1)⟩
theorem EnsOk.wr {w : Addr} {H3 H : Hp} {es : List En} {e : En} {xs' : List V} {rs' : List R} (h : EnsOk H3 H w es) (he : e ∈ es) (hv : Paired (RowV H) xs' rs') (ho : ∀ r ∈ rs', ROk r) :
    ∃ es' : List En, EnsOk H3 (upd H e.l (.lst xs')) w es' ∧ es'.map En.t = es.map En.t ∧ es'.map En.nm = es.map En.nm ∧ sumE es' + e.rs.length = sumE es + rs'.length := by
  obtain ⟨a, b, rfl⟩ := List.append_of_mem he
  have he1 := h.2 e he
  have kp : Kp H (upd H e.l (.lst xs')) := Kp.put he1.2.1
  have hnd := h.1
  rw [List.map_append, List.map_cons] at hnd
  have hnd' := List.nodup_append.mp hnd
  have hne : ∀ e' ∈ a ++ b, e'.l ≠ e.l := fun e' h' z => by
    rcases List.mem_append.mp h' with h' | h'
    · exact hnd'.2.2 e'.l (List.mem_map_of_mem h') e.l List.mem_cons_self z
    · exact (List.nodup_cons.mp hnd'.2.1).1 (by rw [← z]; exact List.mem_map_of_mem h')
  refine ⟨a ++ ⟨e.t, e.l, e.nm, xs', rs'⟩ :: b, ⟨?_, fun e' h' => ?_⟩, ?_, ?_, ?_⟩
  · rw [List.map_append, List.map_cons]
    exact hnd
  · have oth : e' ∈ a ++ b → EnOk H3 (upd H e.l (.lst xs')) w e' := fun hm => by
      have h1 := h.2 e' (by
        rcases List.mem_append.mp hm with hm | hm
        · exact List.mem_append_left _ hm
        · exact List.mem_append_right _ (List.mem_cons_of_mem _ hm))
      exact h1.kp kp (by rw [upd_ne (hne e' hm)]; exact h1.2.1)
    rcases List.mem_append.mp h' with h' | h'
    · exact oth (List.mem_append_left _ h')
    · rcases List.mem_cons.mp h' with rfl | h'
      · exact ⟨kp.tup he1.1, upd_same, Paired.imp (fun _ _ z => z.kp kp) hv, ho, he1.2.2.2.2⟩
      · exact oth (List.mem_append_right _ h')
  · rw [List.map_append, List.map_append, List.map_cons, List.map_cons]
  · rw [List.map_append, List.map_append, List.map_cons, List.map_cons]
  · rw [sumE_app, sumE_app]
    show sumE a + (rs'.length + sumE b) + e.rs.length = sumE a + (e.rs.length + sumE b) + rs'.length
    omega
theorem EnsOk.len {w : Addr} {H3 H : Hp} {es : List En} {e : En} (h : EnsOk H3 H w es) (he : e ∈ es) : e.xs.length = e.rs.length ∧ e.rs.length ≤ sumE es := by
  refine ⟨Paired.length (h.2 e he).2.2.1, ?_⟩
  obtain ⟨a, b, rfl⟩ := List.append_of_mem he
  rw [sumE_app]
  show _ ≤ sumE a + (e.rs.length + sumE b)
  omega
theorem EnsOk.pts {w : Addr} {H3 H : Hp} : ∀ {es : List En}, (∀ e ∈ es, EnOk H3 H w e) → PtsV H (es.map fun e => V.ref e.t) (es.map fun e => (e.nm, e.rs))
  | [], _ => .nil
  | e :: r, h => .cons (by
    obtain ⟨h1, h2, h3, _⟩ := h e List.mem_cons_self
    exact ⟨e.t, e.l, e.xs, rfl, h1, h2, h3⟩) (EnsOk.pts fun x hx => h x (List.mem_cons_of_mem _ hx))
section
variable {P : Program} {w : World} {K : PySem.W.Frag} {mg : Str → Option Value} {base : Heap}
def spLaw (K : PySem.W.Frag) : Sp := fun vs H Q _ => ∃ (s : Addr) (cells : List Int), vs = [.ref s] ∧ SqL K H s (cells.map V.int) ∧ ∀ H', Q (.bl true) H'
theorem sc_law : FnScope ["_law_script", "_law_pool_here", "_law_things_here", "_law_parts", "_law_whole", "_law_turn", "_law_name", "_law_rows", "_law_at", "_law_pick"] ["_law_script"] (defScope s_law) := ⟨rfl, rfl, rfl, by decide +kernel, rfl, by decide +kernel, by decide +kernel⟩
theorem D_law (T : Txt w K mg) (D__law_draw : Dn P w K mg base CX0 1 "_law_draw" spDraw) (D__law_pool : Dn P w K mg base CX0 1 "_law_pool" (spPool K)) (D__law_things : Dn P w K mg base CX0 3 "_law_things" spThings) (D__law_kinds : Dn P w K mg base CX0 2 "_law_kinds" spKinds) (D__law_wide_parts : Dn P w K mg base CX0 5 "_law_wide_parts" spGParts) (D__law_odd_row : Dn P w K mg base CX0 5 "_law_odd_row" spGOdd)
    (D__law_same : Dn P w K mg base CX0 6 "_law_same" (spS 6)) (D__law_try : Dn P w K mg base CX0 13 "_law_try" (spTry K)) (D__law_due : Dn P w K mg base CX0 7 "_law_due" (spDue K)) (F : FunD K "law" "law" (defArgs s_law) (defBody s_law) (defScope s_law) [] [] (He.ga K "law") fd) : FnOk P w K mg base CX0 14 (He.ga K "law") fd ["_law_script"] (spLaw K) := by
  refine F.ok sc_law (fun vs H Q E h => ?_) (fun cdv A outer s H vs Q E hr h => ?_)
  · obtain ⟨s, cells, rfl, _⟩ := h
    rfl
  · obtain ⟨s, cells, rfl, hs, k0⟩ := h
    refine ⟨_, PSs.nox ((pss_cons (ps_set (i := 1) sc_law.nd rfl (Or.inl rfl) (pe_d D__law_pool (hr.mono (by decide)) (by rfl) pass0 (pa_cons (pv 0) pa_nil)))
    (pss_cons (ps_set (i := 2) sc_law.nd rfl (Or.inl rfl) (pe_d D__law_things (hr.mono (by decide)) (by rfl) pass0 (pa_cons (pv 1) (pa_cons (pe_d D__law_kinds (hr.mono (by decide)) (by rfl) pass0 (pa_cons (pv 1) (pa_cons pe_int pa_nil))) pa_nil))))
    (pss_cons (ps_set (i := 3) sc_law.nd rfl (Or.inl rfl) (pe_d D__law_wide_parts (hr.mono (by decide)) (by rfl) pass0 (pa_cons (pv 1) (pa_cons (pv 2) (pa_cons pe_int (pa_cons pe_int pa_nil))))))
    (pss_cons (ps_setLc (i := 4) (own := [("_law_name", 6), ("_law_rows", 7)]) (g := gTup K 2 (gCons (gName 6) (gCons (gName 7) gNil))) (tt := tYes) rfl sc_law.nd rfl rfl (sw_true rfl rfl rfl (by decide +kernel)) (pi_list (pv 3)) (blkOk_by (own := [("_law_name", 6), ("_law_rows", 7)]) (N := ["_law_script", "_law_pool_here", "_law_things_here", "_law_parts", "_law_whole", "_law_turn", "_law_name", "_law_rows", "_law_at", "_law_pick"]) (sc := defScope s_law) (by decide +kernel)) (fun _ _ _ _ _ => (pg_tup rfl (pgs_cons (pg_name (i := 6) sc_law.nd rfl (Or.inl rfl)) (pgs_cons (pg_name (i := 7) sc_law.nd rfl (Or.inl rfl)) pgs_nil)))) (fun _ _ _ _ _ => pts_nil) (fun _ _ _ _ _ => (pe_tup (pa_cons (pv 6) (pa_cons (pe_callTy (r := rLstQ K) call_list_of (by rfl) T.n_list bo_list (pa_cons (pv 7) pa_nil)) pa_nil)))))
    (pss_cons (ps_for PassesOwn.never rfl (pi_range1 (by rfl) T.n_range (pa_cons (pe_d D__law_draw (hr.mono (by decide)) (by rfl) pass0 (pa_cons (pv 1) (pa_cons pe_int pa_nil))) pa_nil)) (pg_name (i := 5) sc_law.nd rfl (Or.inl rfl))
    (pss_cons (ps_asg (pe_ix ix_list (pv 4) (pe_d D__law_draw (hr.mono (by decide)) (by rfl) pass0 (pa_cons (pv 1) (pa_cons (pe_callB call_len_seq (by rfl) T.n_len PySem.boot_len (pa_cons (pv 4) pa_nil)) pa_nil))) (fun _ _ => rfl)) (pg_tup rfl (pgs_cons (pg_name (i := 6) sc_law.nd rfl (Or.inl rfl)) (pgs_cons (pg_name (i := 7) sc_law.nd rfl (Or.inl rfl)) pgs_nil))))
    (pss_cons (ps_set (i := 8) sc_law.nd rfl (Or.inl rfl) (pe_d D__law_draw (hr.mono (by decide)) (by rfl) pass0 (pa_cons (pv 1) (pa_cons (pe_op op_add (pe_callB call_len_seq (by rfl) T.n_len PySem.boot_len (pa_cons (pv 7) pa_nil)) pe_int) pa_nil))))
    (pss_cons (ps_set (i := 9) sc_law.nd rfl (Or.inl rfl) (pe_d D__law_draw (hr.mono (by decide)) (by rfl) pass0 (pa_cons (pv 1) (pa_cons pe_int pa_nil))))
    (pss_one (ps_if (PW.pt (pw_and (pt_cmpR op_eq (pv 9) pe_int (nomark _)) (pw_and1 (pt_cmpR op_lt (pv 8) (pe_callB call_len_seq (by rfl) T.n_len PySem.boot_len (pa_cons (pv 7) pa_nil)) (nomark _))))) (pss_one (ps_expr (pe_bm PySem.F.plainAttrs_list PySem.F.slot_list_pop PySem.F.type_list_pop mt_popAt (pv 7) (pa_cons (pv 8) pa_nil)))) (pss_one (ps_if (PW.pt (pw_and (pt_cmpR op_eq (pv 9) pe_int (nomark _)) (pw_and1 (pt_cmpR op_lt (pv 8) (pe_callB call_len_seq (by rfl) T.n_len PySem.boot_len (pa_cons (pv 7) pa_nil)) (nomark _))))) (pss_one (ps_asg (pe_d D__law_odd_row (hr.mono (by decide)) (by rfl) pass0 (pa_cons (pv 1) (pa_cons (pv 2) (pa_cons (pv 3) pa_nil)))) (pg_sub (pv 7) (pv 8) set_list (fun _ => rfl)))) (pss_one (ps_expr (pe_bm PySem.F.plainAttrs_list PySem.F.slot_list_insert PySem.F.type_list_insert mt_insert (pv 7) (pa_cons (pv 8) (pa_cons (pe_d D__law_odd_row (hr.mono (by decide)) (by rfl) pass0 (pa_cons (pv 1) (pa_cons (pv 2) (pa_cons (pv 3) pa_nil)))) pa_nil)))))))))))))
    (pss_one (ps_ret (pe_d D__law_same (hr.mono (by decide)) (by rfl) pass0 (pa_cons (pe_d D__law_try (hr.mono (by decide)) (by rfl) pass0 (pa_cons (pv 2) (pa_cons (pv 4) pa_nil))) (pa_cons (pe_d D__law_due (hr.mono (by decide)) (by rfl) pass0 (pa_cons (pv 2) (pa_cons (pv 4) pa_nil))) pa_nil))))))))))), ?_⟩
    have nz : ∀ {Hx : Hp} {c d : Addr} {o : HO}, Hx c = none → Hx d = some o → c ≠ d := fun h1 h2 z => by
      rw [z, h2] at h1
      cases h1
    refine q_asgD ?_
    refine ⟨_, rfl, s, cells, rfl, hs, fun p q H0 hp0 e0 P0 => ?_⟩
    refine q_asgG (p := p) (q := q) (n := 0) (c := 20 + 1000) (H := H0) (S := fun v H => ∃ (a : Addr) (tvs : List V) (ths : List TH), v = .ref a ∧ ThE H p q a tvs ths ∧ ThsOk ths) (eg_callA (ga_v (ev_var (i := 1) rfl) (ga_1 (eg_call (c := 20) (S := fun v H => ∃ (ka : Addr) (ks : List Str), v = .ref ka ∧ ka ≠ p ∧ ka ≠ q ∧ H ka = some (.lst (ks.map V.str)) ∧ 1 ≤ ks.length ∧ ks.length ≤ 6 ∧ (∀ k ∈ ks, k ∈ kinds7b) ∧ KOk ks) (vs := [.ref p, .int 6]) (ea_cons (ev_var (i := 1) rfl) (ea_cons ev_c ea_nil)) fun H1 n1 f1 P1 hl1 Q k => ⟨p, q, n1, rfl, P1, hl1, fun ka ks H2 g1 g2 g3 g4 g5 g6 f2 P2 => k _ H2 f2 P2 ⟨ka, ks, rfl, (P1.ne g1).1, (P1.ne g1).2, g2, g3, g4, g5, g6⟩⟩))) fun vs H1 n1 f1 P1 hl1 sv Q k => ?_) P0 (by unfold Lim; omega) fun y H1 f1 P1 hy => ?_
    · obtain ⟨_, rfl, y, rfl, ka, ks, rfl, g0, g1, g2, g3, g4, g5, g6⟩ := sv
      exact ⟨p, q, ka, n1, ks, rfl, P1, hl1, g0, g1, g2, g3, g4, g5, g6, fun a tvs ths H2 k1 k2 k3 k4 k5 k6 f2 P2 => k _ H2 f2 P2 ⟨a, tvs, ths, rfl, ⟨(P1.ne k1).1, (P1.ne k1).2, k2, k3, k4.ok, k5, k6⟩, k4⟩⟩
    obtain ⟨a, tvs, ths, rfl, hE1, hths⟩ := hy
    refine q_asgG (p := p) (q := q) (c := 30000) (H := H1) (S := fun v H => ∃ (l : Addr) (pvs : List V) (ps : List Part), v = .ref l ∧ PsE H p q l pvs ps ∧ (ps.map Prod.fst).Nodup) (eg_call (vs := [.ref p, .ref a, .int 2, .int 55]) (ea_cons (ev_var (i := 1) rfl) (ea_cons (ev_var (i := 2) rfl) (ea_cons ev_c (ea_cons ev_c ea_nil)))) fun H2 n2 f2 P2 hl2 Q k => ⟨p, q, a, n2, tvs, ths, rfl, P2, hl2, hE1.go f2 P1 P2, fun l pvs ps H3 g1 g2 g3 g4 g5 g6 g7 g8 g9 f3 P3 => k _ H3 f3 P3 ⟨l, pvs, ps, rfl, ⟨(P2.ne g1).1, (P2.ne g1).2, g2, g3, g4, g5, g6, g8, g9⟩, g7⟩⟩) P1 (by unfold Lim; omega) fun y H3 f3 P3 hy => ?_
    obtain ⟨l, pvs, ps, rfl, hF3, hnd⟩ := hy
    have hE3 := hE1.go f3 P1 P3
    have hpvl : pvs.length = ps.length := Paired.length hF3.pv
    have hpos := hF3.pos
    have hfew := hF3.few
    have hsum := hF3.sum
    -- the parts anew
    refine q_asgD ?_
    refine (ei_list (K := K) (xs := pvs) (ev_var (i := 3) rfl) (sq_of hF3.at_) : EvI _ [some (.ref s), some (.ref p), some (.ref a), some (.ref l), none, none, none, none, none, none] H3 pvs) H3 (Ex.refl H3) _ fun J H4 e4 wk => fun Dl hD => ?_
    refine lc_it wk (fun i H' => Ex H4 H' ∧ ∃ es : List En, H' Dl = some (.lst (es.map fun e => V.ref e.t)) ∧ es.length = i ∧ EnsOk H3 H' Dl es ∧ es.map (fun e => (e.nm, e.rs)) = ps.take i) ⟨Ex.new hD, [], upd_same, rfl, ⟨List.nodup_nil, fun e h => by cases h⟩, rfl⟩ (fun _ _ _ p => p.1) (fun i x Hy H' hi pv y => ?_) (fun H' pv => ?_)
    · obtain ⟨rfl, hx⟩ := y
      obtain ⟨e5, es, hes, hesl, hen, hmap⟩ := pv
      have e35 := e4.trans e5
      obtain ⟨pt, hpt, t0, l0, xs, rfl, ht0, _, hl0, hrv⟩ := paired_get (hF3.go (Fr.ex e35) P3 (P3.ex e35)).pv hx
      refine ⟨t0, _, rfl, st_of ht0, rfl, _, _, rfl, _, _, rfl, rfl, ?_⟩
      refine ⟨rfl, ?_⟩
      unfold tYes
      dsimp only
      rw [if_pos rfl]
      refine ⟨_, rfl, _, rfl, l0, xs, rfl, Or.inl (sq_of hl0), fun nl hnl => ⟨by show 2 ≤ sizeLine; decide, fun t ht => ?_⟩⟩
      have E1 : Ex H' (upd H' nl (.lst xs)) := Ex.new hnl
      have E2 := Ex.new (o := .tup [.str pt.1, .ref nl]) ht
      have E12 := E1.trans E2
      have hD2 := E12 _ _ hes
      have kp3 : Kp (upd (upd H' nl (.lst xs)) t (.tup [.str pt.1, .ref nl])) (upd (upd (upd H' nl (.lst xs)) t (.tup [.str pt.1, .ref nl])) Dl (.lst (es.map (fun e => V.ref e.t) ++ [.ref t]))) := Kp.put hD2
      have kpA := (Kp.ex E12).trans kp3
      have hnD : nl ≠ Dl := nz hnl hes
      have hptm := List.mem_of_getElem? hpt
      refine ⟨_, hD2, sz_lt (by rw [List.length_map]; omega), (e5.trans E12).mut hD, es ++ [⟨t, nl, pt.1, xs, pt.2⟩], ?_, by rw [List.length_append, hesl] <;> rfl, ⟨?_, fun e he => ?_⟩, ?_⟩
      · rw [upd_same, List.map_append]
        rfl
      · rw [List.map_append, List.map_cons, List.map_nil]
        refine List.nodup_append.mpr ⟨hen.1, by simp, fun c hc c' hc' => ?_⟩
        rw [List.mem_singleton.mp hc']
        obtain ⟨e, he, rfl⟩ := List.mem_map.mp hc
        exact Ne.symm (nz hnl (hen.2 e he).2.1)
      · rcases List.mem_append.mp he with he | he
        · have h1 := hen.2 e he
          exact h1.kp kpA (by rw [upd_ne h1.2.2.2.2.2]; exact E12 _ _ h1.2.1)
        · rw [List.mem_singleton.mp he]
          exact ⟨kp3.tup upd_same, by
            show (upd (upd (upd H' nl (.lst xs)) t (.tup [.str pt.1, .ref nl])) Dl _) nl = _
            rw [upd_ne hnD]
            exact E2 _ _ upd_same, Paired.imp (fun _ _ z => z.kp kpA) hrv, fun r hr => (hF3.rows pt hptm r hr).1, fresh_back e35 hnl, hnD⟩
      · rw [List.map_append, hmap, take_add hpt]
        rfl
    obtain ⟨e5, es, hes, hesl, hen, hmap⟩ := pv
    rw [hpvl, List.take_length] at hmap
    have e35 := e4.trans e5
    have P5 := P3.ex e35
    have hDl3 : H3 Dl = none := fresh_back e4 hD
    have hDn := P3.ne hDl3
    have hnm : es.map En.nm = ps.map Prod.fst := by
      rw [← hmap, List.map_map]
      rfl
    have hsE : sumE es ≤ 55 := by
      rw [← sumE_part, hmap]
      exact hsum
    have hel : es.length = ps.length := by
      rw [← hmap, List.length_map]
    refine q_forDr (N := 4) (C := fun k => k < 5) (c0 := 1) (fun k h => by omega) (by decide) P5 (by unfold Lim; omega) (fun H6 n6 f6 P6 hl6 Q k => tcons1 (eg_draw (H := H') (m := 5) (ev_var (i := 1) rfl) ev_c (by decide) (by decide)) H6 n6 f6 P6 hl6 fun y H7 f7 P7 hy => by
      obtain ⟨d, rfl, hd⟩ := hy
      exact k d H7 f7 P7 hd) (fun _ i σ' H' => ∃ (es : List En) (y5 y6 y7 y8 y9 : Option V), σ' = [some (.ref s), some (.ref p), some (.ref a), some (.ref l), some (.ref Dl), y5, y6, y7, y8, y9] ∧ Fr p q H3 H' ∧ Pool H' p q (31021 + i * 1100) ∧ H' Dl = some (.lst (es.map fun e => V.ref e.t)) ∧ EnsOk H3 H' Dl es ∧ es.map En.nm = ps.map Prod.fst ∧ sumE es ≤ 55 + i)
      (fun k H6 f6 P6 hk => ⟨es, none, none, none, none, none, rfl, (Fr.ex e35).trans f6, P6.le (by omega), f6 _ _ hDn.1 hDn.2 hes, hen.go P3 f6 P5 P6, hnm, by omega⟩) (fun k i σ' H6 hk hik pv => ?_) fun k σ' H6 hk pv => ?_
    · obtain ⟨es, y5, y6, y7, y8, y9, rfl, f6, P6, hes, hen, hnm, hsE⟩ := pv
      have hel : es.length = ps.length := by
        have := congrArg List.length hnm
        rw [List.length_map, List.length_map] at this
        exact this
      have hi4 : i < 5 := by omega
      refine (eg_pickL (K := K) (a := Dl) (xs := es.map fun e => V.ref e.t) (ev_var (i := 1) rfl) (ev_var (i := 4) rfl) hDn.1 hDn.2 hes (by rw [List.length_map]; omega) (by rw [List.length_map]; omega) : EvG p q 1 _ [some (.ref s), some (.ref p), some (.ref a), some (.ref l), some (.ref Dl), some (.int (i : Nat)), y6, y7, y8, y9] H6 _) H6 _ Fr.refl P6 (by unfold Lim; omega) _ fun y H7 f7 P7 hy => ?_
      obtain ⟨e, he, rfl⟩ := List.mem_map.mp hy
      have hen7 := hen.go P3 f7 P6 P7
      obtain ⟨g1, g2, g3, g4, g5, g6⟩ := hen7.2 e he
      have hln := P3.ne g5
      refine ⟨e.t, _, rfl, st_of g1, rfl, _, _, rfl, _, _, rfl, rfl, ?_⟩
      have hlB : (bs p q H7) e.l = some (.lst e.xs) := by
        rw [bs_ne hln.1 hln.2]
        exact g2
      obtain ⟨hlen1, hlen2⟩ := hen7.len he
      refine q_asgG (p := p) (q := q) (c := 1) (H := H7) (eg_draw (m := e.xs.length + 1) (ev_var (i := 1) rfl) (ev_is (ev_op (ev_lenL (K := K) (ev_var (i := 7) rfl) (sq_of hlB)) ev_c rv_I0) (by simp)) (by omega) (by omega)) P7 (by unfold Lim; omega) fun y H8 f8 P8 hy => ?_
      obtain ⟨at', rfl, hat⟩ := hy
      refine q_asgG (p := p) (q := q) (c := 1) (H := H8) (eg_draw (m := 3) (ev_var (i := 1) rfl) ev_c (by decide) (by decide)) P8 (by unfold Lim; omega) fun y H9 f9 P9 hy => ?_
      obtain ⟨pk, rfl, hpk⟩ := hy
      have f39 := ((f6.trans f7).trans f8).trans f9
      have hen9 := (hen7.go P3 f8 P7 P8).go P3 f9 P8 P9
      have g29 := (hen9.2 e he).2.1
      have hes9 := f9 _ _ hDn.1 hDn.2 (f8 _ _ hDn.1 hDn.2 (f7 _ _ hDn.1 hDn.2 hes))
      have fin : ∀ {HX : Hp} {n : Nat} {xs' : List V} {rs' : List R}, Fr p q H9 HX → Pool HX p q n → n ≤ 31021 + (i + 1) * 1100 → Paired (RowV HX) xs' rs' → (∀ r ∈ rs', ROk r) → rs'.length ≤ e.rs.length + 1 → ∃ (es : List En) (y5 y6' y7' y8' y9' : Option V), ([some (.ref s), some (.ref p), some (.ref a), some (.ref l), some (.ref Dl), some (.int (i : Nat)), some (.str e.nm), some (.ref e.l), some (.int (at' : Nat)), some (.int (pk : Nat))] : L2.St) = [some (.ref s), some (.ref p), some (.ref a), some (.ref l), some (.ref Dl), y5, y6', y7', y8', y9'] ∧ Fr p q H3 (upd HX e.l (.lst xs')) ∧ Pool (upd HX e.l (.lst xs')) p q (31021 + (i + 1) * 1100) ∧ (upd HX e.l (.lst xs')) Dl = some (.lst (es.map fun e => V.ref e.t)) ∧ EnsOk H3 (upd HX e.l (.lst xs')) Dl es ∧ es.map En.nm = ps.map Prod.fst ∧ sumE es ≤ 55 + (i + 1) := fun {HX n xs' rs'} fX PX hn hv ho hl' => by
        obtain ⟨es', r1, r2, r3, r4⟩ := (hen9.go P3 fX P9 PX).wr he hv ho
        refine ⟨es', _, _, _, _, _, rfl, (f39.trans fX).put g5, (PX.put hln.1 hln.2).le hn, ?_, r1, r3.trans hnm, by omega⟩
        rw [upd_ne (Ne.symm g6), fX _ _ hDn.1 hDn.2 hes9]
        have : es'.map (fun e => V.ref e.t) = es.map fun e => V.ref e.t := by
          have := congrArg (List.map V.ref) r2
          rw [List.map_map, List.map_map] at this
          exact this
        rw [this]
      have hlB9 : EvT (tTest (tOp (rI0 fun i j => .bl (decide (i < j))) (tVar 8) (tCB (rLenQ K) (tCons (tVar 7) tNil)))) [some (.ref s), some (.ref p), some (.ref a), some (.ref l), some (.ref Dl), some (.int (i : Nat)), some (.str e.nm), some (.ref e.l), some (.int (at' : Nat)), some (.int (pk : Nat))] H9 (decide ((at' : Int) < (e.xs.length : Nat))) := et_test (ev_op (ev_var (i := 8) rfl) (ev_lenL (K := K) (ev_var (i := 7) rfl) (sq_of g29)) rv_I0)
      have kp79 := (P7.kp f8 P8).trans (P8.kp f9 P9)
      have hrv9 : Paired (RowV H9) e.xs e.rs := (hen9.2 e he).2.2.1
      have hE9 := hE3.go f39 P3 P9
      have hF9 := hF3.go f39 P3 P9
      refine s_if (et_and (et_test (ev_op (ev_var (i := 9) rfl) ev_c (rv_eq rfl))) fun _ => hlB9) (fun hb H10 e10 => ?_) fun hb H10 e10 => ?_
      · rw [Bool.and_eq_true] at hb
        have hlt : at' < e.xs.length := by
          have := of_decide_eq_true hb.2
          omega
        have g10 := e10 _ _ g29
        refine ⟨_, rfl, Or.inl ⟨rfl, _, sq_of g10⟩, _, rfl, e.l, e.xs, (at' : Int), at', e.xs[at'], rfl, rfl, g10, by omega, by omega, ?_, List.getElem?_eq_getElem hlt, ?_⟩
        · unfold seqIndex?
          simp
          omega
        · exact fin (Fr.ex e10) (P9.ex e10) (by omega) (paired_erase at' (Paired.imp (fun _ _ z => z.kp (Kp.ex e10)) hrv9)) (fun r hr => g4 r (List.mem_of_mem_eraseIdx hr)) (by
            have := List.length_eraseIdx_le e.rs at'
            omega)
      · have P10 := P9.ex e10
        have g10 := e10 _ _ g29
        have hE10 := hE9.go (Fr.ex e10) P9 P10
        have hF10 := hF9.go (Fr.ex e10) P9 P10
        have hrv10 := Paired.imp (fun _ _ z => RowV.kp (Kp.ex e10) z) hrv9
        refine s_if (et_and (et_test (ev_op (ev_var (i := 9) rfl) ev_c (rv_eq rfl))) fun _ => hlB9.mono e10) (fun hb H11 e11 => ?_) fun hb H11 e11 => ?_
        · rw [Bool.and_eq_true] at hb
          have hlt : at' < e.xs.length := by
            have := of_decide_eq_true hb.2
            omega
          have P11 := P10.ex e11
          refine ⟨_, rfl, _, rfl, _, rfl, p, q, a, l, _, tvs, ths, pvs, ps, rfl, P11, by unfold Lim; omega, hE10.go (Fr.ex e11) P10 P11, hF10.go (Fr.ex e11) P10 P11, fun y r H12 hy ho f12 P12 => ?_⟩
          have g12 := f12 _ _ hln.1 hln.2 (e11 _ _ g10)
          refine ⟨_, rfl, _, rfl, e.l, e.xs, (at' : Int), at', rfl, rfl, g12, ixN_nat hlt, ?_⟩
          refine fin ((Fr.ex (e10.trans e11)).trans f12) P12 (by omega) (paired_set hy at' (Paired.imp (fun _ _ z => RowV.kp ((Kp.ex e11).trans (P11.kp f12 P12)) z) hrv10)) (fun r' hr' => ?_) (by rw [List.length_set]; omega)
          rcases mem_set hr' with h | h
          · exact g4 r' h
          · rw [h]
            exact ho
        · have P11 := P10.ex e11
          refine ⟨_, rfl, Or.inl ⟨rfl, _, sq_of (e11 _ _ g10)⟩, _, rfl, _, rfl, _, rfl, _, rfl, p, q, a, l, _, tvs, ths, pvs, ps, rfl, P11, by unfold Lim; omega, hE10.go (Fr.ex e11) P10 P11, hF10.go (Fr.ex e11) P10 P11, fun y r H12 hy ho f12 P12 => ?_⟩
          have g12 := f12 _ _ hln.1 hln.2 (e11 _ _ g10)
          refine ⟨e.l, e.xs, (at' : Int), y, rfl, rfl, g12, sz_lt (by omega), by omega, by omega, ?_⟩
          have hrv12 := Paired.imp (fun _ _ z => RowV.kp ((Kp.ex e11).trans (P11.kp f12 P12)) z) hrv10
          refine fin (rs' := e.rs.take (at' : Int).toNat ++ [r] ++ e.rs.drop (at' : Int).toNat) ((Fr.ex (e10.trans e11)).trans f12) P12 (by omega) (Paired.app (Paired.app (paired_take _ hrv12) (.cons hy .nil)) (paired_drop _ hrv12)) (fun r' hr' => ?_) (by
            rw [List.length_append, List.length_append, List.length_take, List.length_drop, List.length_singleton]
            omega)
          rcases List.mem_append.mp hr' with h | h
          · rcases List.mem_append.mp h with h | h
            · exact g4 r' (List.mem_of_mem_take h)
            · rw [List.mem_singleton.mp h]
              exact ho
          · exact g4 r' (List.mem_of_mem_drop h)
    · obtain ⟨es, y5, y6, y7, y8, y9, rfl, f6, P6, hes, hen, hnm, hsE⟩ := pv
      have hel : es.length = ps.length := by
        have := congrArg List.length hnm
        rw [List.length_map, List.length_map] at this
        exact this
      have hE6 := hE3.go f6 P3 P6
      let qs : List Part := es.map fun e => (e.nm, e.rs)
      have hqf : qs.map Prod.fst = ps.map Prod.fst := by
        rw [← hnm]
        show (es.map fun e => (e.nm, e.rs)).map Prod.fst = _
        rw [List.map_map]
        rfl
      have hql : qs.length = ps.length := by
        show (es.map fun e => (e.nm, e.rs)).length = _
        rw [List.length_map]
        exact hel
      have hrk : ∀ pt ∈ qs, ∀ r ∈ pt.2, ROk r := fun pt hpt r hr => by
        obtain ⟨e, he, rfl⟩ := List.mem_map.mp hpt
        exact (hen.2 e he).2.2.2.1 r hr
      have hsq : sumR qs ≤ 60 := by
        show sumR (es.map fun e => (e.nm, e.rs)) ≤ 60
        rw [sumE_part]
        omega
      have hqV : PtsV H6 (es.map fun e => V.ref e.t) qs := EnsOk.pts hen.2
      refine ⟨_, rfl, _, rfl, a, Dl, tvs, es.map (fun e => V.ref e.t), ths, qs, rfl, sq_of hE6.at_, hE6.tv, hths, sq_of hes, hqV, ⟨fun z => ?_, by omega, fun pt hpt => ?_, by rw [hqf]; exact hnd, hrk, hsq⟩, by omega, fun y1 H7 e7 hd1 => ?_⟩
      · rw [z] at hql
        simp at hql
        omega
      · have hm : pt.1 ∈ qs.map Prod.fst := List.mem_map_of_mem hpt
        rw [hqf] at hm
        obtain ⟨pt', h1, h2⟩ := List.mem_map.mp hm
        rw [← h2]
        exact hF3.ok pt' h1
      have P7 := P6.ex e7
      have hE7 := hE6.go (Fr.ex e7) P6 P7
      have hen7 := hen.go P3 (Fr.ex e7) P6 P7
      refine ⟨_, rfl, _, rfl, a, Dl, tvs, es.map (fun e => V.ref e.t), ths, qs, rfl, sq_of hE7.at_, hE7.tv, by have := hE7.few; omega, hths.nd, sq_of (e7 _ _ hes), EnsOk.pts hen7.2, by omega, hsq, hrk, fun y2 H8 e8 hd2 => ?_⟩
      exact ⟨y1, y2, rfl, sm_due (hd1.kp (Kp.ex e8)) hd2 hrk hsq, fun H9 e9 => k0 H9⟩
end
end Q7
set_option maxHeartbeats 0
/-! all together -/
namespace Q7
open PySem PySem.Spec PyProof.Rows L2
theorem law_ok {P : Program} {w : World} {K : PySem.W.Frag} {mg : Str → Option Value} {base : Heap} {fd : FuncData} (HP : PF P) (T : Txt w K mg) (F : FunD K "law" "law" (defArgs s_law) (defBody s_law) (defScope s_law) [] [] (He.ga K "law") fd) : FnOk P w K mg base CX0 14 (He.ga K "law") fd ["_law_script"] (spLaw K) := by
  have D_is_name := D_is_name (P := P) (base := base) T
  have D__law_is_name := D__law_is_name (P := P) (base := base) T
  have D__law_are_names := D__law_are_names (P := P) (base := base) T D__law_is_name
  have D_look_codes := D_look_codes (P := P) (base := base) T
  have D_row_codes := D_row_codes (P := P) (base := base) T
  have D_branch_codes := D_branch_codes (P := P) (base := base) T
  have D_head := D_head (P := P) (base := base) T
  have D_suits := D_suits (P := P) (base := base) T D_is_name
  have D_fits := D_fits (P := P) (base := base) T D_suits
  have D_is_look := D_is_look (P := P) (base := base) T D_head D_look_codes D_fits
  have D_is_looks := D_is_looks (P := P) (base := base) T D_is_look
  have D_is_watcher := D_is_watcher (P := P) (base := base) T D_is_name D_is_look D_is_looks
  have D_is_row := D_is_row (P := P) (base := base) T D_head D_row_codes D_branch_codes D_fits D_is_watcher
  have D_is_probe := D_is_probe (P := P) (base := base) T
  have D_named := D_named (P := P) (base := base) T D_is_probe D_look_codes D_row_codes D_branch_codes
  have D__law_is_look := D__law_is_look (P := P) (base := base) T D__law_is_name D__law_are_names
  have D__law_size_of := D__law_size_of (P := P) (base := base) T
  have D__law_is_watcher := D__law_is_watcher (P := P) (base := base) T D__law_is_name D__law_is_look
  have D__law_is_row := D__law_is_row (P := P) (base := base) T D__law_are_names D__law_size_of D__law_is_watcher
  have D_need_names := D_need_names (P := P) (base := base) T D_is_name
  have D_need_unlike := D_need_unlike (P := P) (base := base) T
  have D__law_thing := D__law_thing (P := P) (base := base) T D_need_names D_need_unlike
  have D_need_known := D_need_known (P := P) (base := base) T HP
  have D_need_row := D_need_row (P := P) (base := base) T HP D_is_row D_named D_is_probe D_need_known
  have D_opened_behind := D_opened_behind (P := P) (base := base) T HP
  have D_need_things := D_need_things (P := P) (base := base) T D_need_unlike
  have D_need_parts := D_need_parts (P := P) (base := base) T HP D_need_names D_need_unlike D_is_probe D_need_row D_opened_behind
  have D_jumps_of := D_jumps_of (P := P) (base := base) T
  have FP := F_Program (P := P) (base := base) T D_need_things D_need_parts D_is_probe D_jumps_of
  have D__law_words := D__law_words (P := P) (base := base) T
  have D__law_kind_of := D__law_kind_of (P := P) (base := base) T D__law_words
  have D__law_wrong_name := D__law_wrong_name (P := P) (base := base) T D__law_kind_of
  have D__law_wrong_row := D__law_wrong_row (P := P) (base := base) T D__law_is_row D__law_wrong_name
  have D__law_all_rows := D__law_all_rows (P := P) (base := base) T
  have D__law_due := D__law_due (P := P) (base := base) T D__law_wrong_row D__law_all_rows
  have D__law_wide_program := D__law_wide_program (P := P) (base := base) T D__law_thing FP
  have D__law_try := D__law_try (P := P) (base := base) T HP D__law_wide_program
  have D__law_draw := D__law_draw (P := P) (base := base) T
  have D__law_word := D__law_word (P := P) (base := base) T D__law_draw
  have D__law_names := D__law_names (P := P) (base := base) T D__law_draw
  have D__law_kinds := D__law_kinds (P := P) (base := base) T D__law_draw
  have D__law_things := D__law_things (P := P) (base := base) T D__law_draw D__law_names
  have D__law_wide_look := D__law_wide_look (P := P) (base := base) T D__law_draw D__law_words
  have D__law_wide_deed := D__law_wide_deed (P := P) (base := base) T D__law_draw D__law_words
  have D__law_wide_test := D__law_wide_test (P := P) (base := base) T D__law_draw D__law_word
  have D__law_wide_probe := D__law_wide_probe (P := P) (base := base) T D__law_draw D__law_wide_look
  have D__law_wide_rows := D__law_wide_rows (P := P) (base := base) T D__law_draw D__law_word D__law_wide_probe D__law_wide_test D__law_wide_deed
  have D__law_wide_parts := D__law_wide_parts (P := P) (base := base) T D__law_draw D__law_names D__law_wide_rows
  have D__law_pool := D__law_pool (P := P) (base := base) T
  have D__law_other_name := D__law_other_name (P := P) (base := base) T D__law_draw D__law_word
  have D__law_other_names := D__law_other_names (P := P) (base := base) T D__law_draw D__law_other_name
  have D__law_odd_row := D__law_odd_row (P := P) (base := base) T D__law_draw D__law_all_rows D__law_wide_probe D__law_wide_test D__law_wide_deed D__law_other_name D__law_other_names
  exact D_law T D__law_draw D__law_pool D__law_things D__law_kinds D__law_wide_parts D__law_odd_row (D__law_same T 6) D__law_try D__law_due F
theorem txt_of {w : World} {K : PySem.W.Frag} {h : Heap} {mg : Str → Option Value} (X : K.In h) (G : h.Ns mainGlobals mg) (c : SaysQ w K) : Txt w K mg := ⟨c, fun x r e => by
  cases r with
  | none => exact PySem.W.mg_none_of X G e
  | some v => exact PySem.W.mg_of X G e⟩
theorem pf : PF (PySem.Challenge.rw_quietprobes_k26_whole_first_wrong_row).prog := ⟨by decide +kernel, by decide +kernel⟩
end Q7
open PySem PySem.W PySem.Calls PyProof.Rows
theorem PySem.Challenge.cw_quietprobes_k26_whole_first_wrong_row_holds : PySem.Challenge.rw_quietprobes_k26_whole_first_wrong_row.Holds := by
  w_on; o_law
  refine HandSHeadRun.head_any (r := OpenLaw.row PySem.Challenge.rw_quietprobes_k26_whole_first_wrong_row) (q := Q7.qv) (H := Q7.hookQ) (ob := Q7.obT) (M := 20000) (loose := Q7.names) (d := HandSHeadRun.topDef (OpenLaw.row PySem.Challenge.rw_quietprobes_k26_whole_first_wrong_row).prog 99) (kwd := []) Q7.obT_eq
    (by kernel_rfl) (fun s => by kernel_rfl) Q7.run (by kernel_rfl) (by kernel_rfl) (by kernel_rfl) (by rfl) (by first | assumption | decide +kernel) (by decide +kernel) ⟨rfl, rfl, rfl, rfl, rfl, by decide +kernel⟩ ?hw ?hc
  case hw => w_witness2
  case hc =>
    refine L2.walk_ofE (l := PySem.Challenge.rw_quietprobes_k26_whole_first_wrong_row) (n := 63) (k := 14) (x := "_law_script") (CX := L2.CX0) rfl (by decide) (by kernel_rfl) ⟨rfl, by decide, by decide⟩ ?F (fun _ _ _ _ z => z)
    intro w mg fa h Y G hmg0
    obtain ⟨K, KX, c⟩ := Y
    have T := Q7.txt_of KX G c
    have hmg : mg ("law" : PySem.Str) = some (.ref fa) := by
      have e : (HandSHeadRun.topDef (OpenLaw.row PySem.Challenge.rw_quietprobes_k26_whole_first_wrong_row).prog 99).name = ("law" : PySem.Str) := by kernel_rfl
      rw [← e]
      exact hmg0
    have e := hmg.symm.trans T.g_law
    cases e
    obtain ⟨fd, F⟩ := T.fds_law
    have b := L2.FunD.bindsA (ps := ["_law_script"]) F fun _ _ _ _ _ _ us hl => match us, hl with | [_], _ => rfl
    exact ⟨K, fd, Q7.spLaw K, KX, fun s v => b s [v] rfl, fun H a ns hl _ hS => ⟨a, ns, rfl, hS, fun _ => rfl⟩, fun base _ _ => Q7.law_ok Q7.pf T F⟩
