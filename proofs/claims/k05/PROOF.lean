import PyProof.Rows.All
import Wide.All
import OpenK.AllK
import Wide.FinOn
import KE.KExcIs
import HandS.Base
import HandS.Call
import HandS.Exc
import HandS.IsInst
import HandS.ExcField
import HandS.CallSlots
import HandS.Defaults
import HandS.ExcInit
import HandS.Ends
import HandS.ClsMeth
import KE.KExcInit
import HandS.ForMost
import HandS.ExcOwn
import HandS.TryOnly
import HandS.TupMul
import HandS.Wide
import HandS.TupAny
import HandS.TupLe
import HandS.Walk
import HandS.WideBits
import HandS.Deep
import PyProof.ReprRoads
import KE.SortData
import HandS.Set
import HandS.SetFor
import HandS.Strs
import HandS.Flow
import HandS.Style
import HandS.OwnEq
import KE.GoesMore
import KE.GoesEnumKw
import HandS.Comp
import HandS.Zip
import HandS.List
import HandS.HeadEnd
import HandS.MakeKw
import HandS.HeadHook1
import HandS.HeadHook2
import PyProof.StrLawsIn
import HandS.Head0
import HandS.Head1
import HandS.Head2
import HandS.Words
import KE.KStateDown
import Lean
import PyProof.ReprLen
import HandS.Text
import PySem.Challenge.RW_postalike_k05_states_asked_by_turns
set_option Elab.async false
set_option linter.all false
set_option maxRecDepth 100000
set_option maxHeartbeats 0
/-! AMv: caught exceptions as values: tracked behind the suite. -/
namespace XvS
open PySem PySem.Spec PyProof.Rows L2

/-- at a: an exception of the class at C, its dict at d -/
def exv (a C : Addr) (d : Option Addr) : HO := .ext fun h => ∃ oe vs, h.get? a = some oe ∧ oe.cls = .ref C ∧ oe.dict = d ∧ oe.data = .fields vs
theorem exv_ok {P : Program} {w : World} {H : Hp} {h : Heap} {a C : Addr} {d : Option Addr} {oe : Obj} (e : h.get? a = some oe) (hz : Zc (.ref C) d oe) (hf : ∃ vs, oe.data = .fields vs) : ObjOk P w H h a (exv a C d) := by
  obtain ⟨vs, hd⟩ := hf
  exact ⟨⟨oe, vs, e, hz.1, hz.2, hd⟩, ⟨oe, e⟩, fun h1 h2 ⟨oe, vs, e1, r⟩ k => ⟨oe, vs, k _ e1, r⟩⟩
/-- what the class must have -/
structure XvC (K : PySem.W.Frag) (C : Addr) : Prop where
  cl : (PySem.W.clsIn K C).isSome = true
  ga : PySem.W.findIn K (.ref C) "__getattribute__" = some (some (.builtin "BaseException.__getattribute__"))
  gg : PySem.W.findIn K (.ref C) "__getattr__" = some none
  exC : PySem.W.subIn K (.ref C) (.type "BaseException") = some true
  hdC : PySem.W.hasDictIn K C = true
  ha : PySem.W.findIn K (.ref C) "__class__" = some (some (.builtin "object.__class__"))
  hn : PySem.W.specialIn K (.builtin "object.__class__") "__get__" = some (some (.builtin "getset_descriptor.__get__"))
  ht : PySem.W.takesIn K (.builtin "object.__class__") = some true
  hm : PySem.W.mroIn K C (.type "object") = some true
def xvB (K : PySem.W.Frag) (C : Addr) : Bool := (PySem.W.clsIn K C).isSome && (decide (PySem.W.findIn K (.ref C) "__getattribute__" = some (some (.builtin "BaseException.__getattribute__"))) && (decide (PySem.W.findIn K (.ref C) "__getattr__" = some none) &&
  (decide (PySem.W.subIn K (.ref C) (.type "BaseException") = some true) && (PySem.W.hasDictIn K C && (decide (PySem.W.findIn K (.ref C) "__class__" = some (some (.builtin "object.__class__"))) &&
  (decide (PySem.W.specialIn K (.builtin "object.__class__") "__get__" = some (some (.builtin "getset_descriptor.__get__"))) && (decide (PySem.W.takesIn K (.builtin "object.__class__") = some true) && decide (PySem.W.mroIn K C (.type "object") = some true))))))))
theorem xvB_ok {K : PySem.W.Frag} {C : Addr} (h : xvB K C = true) : XvC K C := by
  unfold xvB at h
  simp only [Bool.and_eq_true, decide_eq_true_eq] at h
  obtain ⟨h1, h2, h3, h4, h5, h6, h7, h8, h9⟩ := h
  exact ⟨h1, h2, h3, h4, h5, h6, h7, h8, h9⟩
/-- its own dict, if it has one -/
def XD (H : Hp) (d : Option Addr) (fs : List (Str × V)) : Prop := (d = none ∧ fs = []) ∨ ∃ dx, d = some dx ∧ Rd H dx (.xd fs)
section
variable {X : Cx} {pins : List (Addr × Obj)} {σ : L2.St} {H : Hp} {s : Shared} {a C : Addr} {d : Option Addr} {fs : List (Str × V)}
theorem xv_inst (I : Inv X pins σ H s) (e : Rd H a (exv a C d)) (hd : XD H d fs) : ∃ oe od, PySem.W.InstAt s.heap a oe C od ∧ (∀ f v, fs.lookup f = some v → ∃ o u, od = some o ∧ PySem.W.lookIn f o = some (some u) ∧ RelV v u) := by
  obtain ⟨⟨oe, vs, ha, hc, hdd, hf⟩, _⟩ := e.ok I.hok
  have nc : PySem.W.notCls oe = true := by unfold PySem.W.notCls; rw [hf] <;> rfl
  rcases hd with ⟨rfl, rfl⟩ | ⟨dx, rfl, ex⟩
  · exact ⟨oe, none, ⟨ha, hc, nc, by rw [hdd]; trivial⟩, fun f v l => by cases l⟩
  · obtain ⟨mA, hns, hr⟩ := ex.ok I.hok
    obtain ⟨od, ho, hl⟩ := lookIn_ns hns
    refine ⟨oe, some od, ⟨ha, hc, nc, by rw [hdd]; exact ho⟩, fun f v l => ?_⟩
    obtain ⟨u, hu, ru⟩ := RelO.some_of (v := v) (o := mA f) (by rw [← l]; exact hr f)
    exact ⟨od, u, rfl, by rw [hl, hu], ru⟩
end
/-- isinstance(e, c), e such an exception -/
def rIsV (K : PySem.W.Frag) : List V → Hp → VK → Prop := fun xs H Q => ∃ (a C : Addr) (d : Option Addr) (fs : List (Str × V)) (c : V) (u : Value) (b : Bool), xs = [.ref a, c] ∧ ClsV c u ∧ XvC K C ∧ Rd H a (exv a C d) ∧ XD H d fs ∧ PySem.W.kitOne K (.ref C) u = some b ∧ Q (.bl b) H
theorem call_isV {X : Cx} : CallR X (.builtin "isinstance") (rIsV X.K) := by
  intro pins s σ H xs us Q I r h
  obtain ⟨a, C, d, fs, c, u, b, rfl, k, T, e, hd, eb, q⟩ := h
  obtain ⟨u1, u2, rfl, r1, r2⟩ := vals2 r
  have e2 := k.eq r2
  subst e2
  obtain rfl : u1 = Value.ref a := r1
  obtain ⟨oe, od, J, _⟩ := xv_inst I e hd
  exact PySem.W.kia_one (PySem.W.kitx_exc T.cl T.ga T.gg T.exC T.ha T.hn T.ht T.hm) I.kIn J eb (fun z => nomatch z) fun tk => ⟨.bl b, H, I.tok tk, rfl, q⟩
/-- o.f: of an own instance, or of such an exception -/
def tAny (K : PySem.W.Frag) (f : Str) (te : TE) : TE := fun σ H Q => te σ H fun x H1 =>
  (∃ (a C dx : Addr) (fs : List (Str × V)) (v : V), x = .ref a ∧ H1 a = some (.ins C dx fs) ∧ Cls K C ∧ NoAttr K C f ∧ fs.lookup f = some v ∧ Q v H1) ∨
  ∃ (a C : Addr) (d : Option Addr) (fs : List (Str × V)) (v : V), x = .ref a ∧ Rd H1 a (exv a C d) ∧ XD H1 d fs ∧ XvC K C ∧ PySem.W.findIn K (.ref C) f = some none ∧ fs.lookup f = some v ∧ Q v H1
theorem pe_any {X : Cx} {e : Expr} {te : TE} {f : Str} {pos : Pos} (he : PE X e te) (hb : attributeBase e f X.env (eval e X.env) = eval e X.env) : PE X (.Attribute e f pos) (tAny X.K f te) := by
  refine ⟨fun pins s σ H Q I h => ?_⟩
  refine attr_of hb (thn (he.run pins s σ H _ I h) fun u s1 ⟨x, H1, I1, rx, hh⟩ => ?_)
  rcases hh with ⟨a, C, dx, fs, v, ex, ea, c, n, l, q⟩ | ⟨a, C, d, fs, v, ex, ea, hd, T, hno, l, q⟩
  · subst ex
    obtain rfl : u = Value.ref a := rx
    exact getattr_ok I1 ea c n l fun u' s2 I2 ru => ⟨v, H1, I2, ru, q⟩
  · subst ex
    obtain rfl : u = Value.ref a := rx
    obtain ⟨oe, od, J, hl⟩ := xv_inst I1 ea hd
    obtain ⟨o, u, rfl, lk, ru⟩ := hl f v l
    exact HandSPX.exc_get I1.kIn J T.ga T.gg T.exC (PySem.W.findObj_own T.hdC hno rfl lk) (handed_of ru) ⟨v, H1, I1.tok _, ru, q⟩
/-! ### an exception comes under the tracked ones -/
section
variable {X : Cx} {pins : List (Addr × Obj)} {σ : L2.St} {H : Hp} {s : Shared}
theorem track {a C : Addr} {d : Option Addr} {oe : Obj} (I : Inv X pins σ H s) (e : s.heap.get? a = some oe) (hz : Zc (.ref C) d oe) (hf : ∃ vs, oe.data = .fields vs) (na : H a = none) (nL : a ≠ X.env.locals)
    (np : ∀ p ∈ X.pn ++ pins, p.1 ≠ a) (n0 : ∀ o, X.s_0.heap.get? a = some o → a ∈ X.ex) : Inv X pins σ (upd H a (exv a C d)) s := by
  have hne : ∀ {b : Addr} {o : HO}, H b = some o → b ≠ a := fun q => ne_of_none q na
  refine ⟨I.ok, I.os, I.bare, ?_, I.loc, I.cell, ?_, ?_, ?_, ?_, I.len⟩
  · refine ⟨I.base.keep, I.base.slot, fun b o q n hx => ?_, I.base.there, fun b xs q => ?_, fun b o u q => ?_, fun b ps q => ?_⟩
    · have hb : b ≠ a := fun z => by
        subst z
        exact hx (n0 o q)
      rw [upd_ne hb]
      exact I.base.free b o q n hx
    · have := I.base.tups b xs q
      rw [upd_ne (hne this)]
      exact this
    · have := I.base.frzs b o u q
      rw [upd_ne (hne this)]
      exact this
    · obtain ⟨m, h2⟩ := I.base.tbls b ps q
      exact ⟨m, by rw [upd_ne (hne h2)]; exact h2⟩
  · rw [upd_ne (Ne.symm nL)]
    exact I.free
  · intro x c ec
    obtain ⟨v, hc⟩ := I.cell x c ec
    have hb : c ≠ a := fun z => by
      subst z
      obtain ⟨vs, hd⟩ := hf
      obtain ⟨o, h1, h2⟩ := hc
      rw [e] at h1
      cases h1
      rw [hd] at h2
      cases h2
    rw [upd_ne hb]
    exact I.freeC x c ec
  · intro p hp
    obtain ⟨h1, h2, h3⟩ := I.pin p hp
    exact ⟨h1, by rw [upd_ne (np p hp)]; exact h2, h3⟩
  · intro b o q
    by_cases hb : b = a
    · subst hb
      rw [upd_same] at q
      cases q
      exact exv_ok e hz hf
    · rw [upd_ne hb] at q
      exact (I.hok b o q).stay (fun c v _ z => z) (fun c z => by rw [upd_ne (hne z)]; exact z) fun c xs z => by rw [upd_ne (hne z)]; exact z
end
/-! ### except x as n, the exception tracked behind the suite -/
def wAsV (K : PySem.W.Frag) (c : Value) (i : Nat) (ts : Addr → Value → Option Addr → TS) (Wout : WX) (D : Ends) : WX := fun cls d σ H =>
  ∃ b, PySem.W.exmOne K cls c = some b ∧ (b = true → ∀ a, H a = none → ∃ C, cls = .ref C ∧
      ts a cls d { nx := fun σ' H' => D.nx (σ'.set i none) (upd H' a (exv a C d)), rt := D.rt, bk := fun σ' H' => D.bk (σ'.set i none) H', ct := fun σ' H' => D.ct (σ'.set i none) H' } (σ.set i (some (.ref a))) H) ∧
    (b = false → Wout cls d σ H)
section
variable {X : Cx} {x n : Str} {c : Value} {i : Nat} {body suite : List Stmt} {b₀ : Stmt} {np pos pos' : Pos} {tb : WX → TS} {ts : Addr → Value → Option Addr → TS} {Wout : WX}
theorem ps_try_asv (hs : X.stack = X.env :: X.outer) (hf : X.env.frame = some X.env.locals) (hN : X.N.Nodup) (hi : X.N[i]? = some n) (hln : X.env.kindOf n = some .local) (hc : Names X x c) (tk : Takes X Wout)
    (hb : ∀ (W : WX) (pn : List (Addr × Obj)) (xe : Value → Shared → Prop), Takes (X.tr pn xe) W → PassesOwn (model X.prog X.w) X.A X.env xe → PSs (X.tr pn xe) body (tb W))
    (hsu : ∀ (a : Addr) (oe : Obj) (cls : Value) (d : Option Addr) (pn : List (Addr × Obj)), Zc cls d oe → (∃ vs, oe.data = .fields vs) → PSs (X.suite a ((a, oe) :: pn)) (b₀ :: suite) (ts a cls d)) :
    PS X (.Try body [.ExceptHandler (some (.Name x np)) (some n) (b₀ :: suite) pos'] [] [] pos) (fun D σ H => tb (wAsV X.K c i ts Wout D) D σ H) := by
  refine ⟨fun pins s σ H D I h => ?_⟩
  have ok := I.ok
  have hloc : Loc X.env.scope n := .inl hln
  have hfr : X.A.frames = some (X.env :: X.outer) := by rw [ok.frames, hs]
  refine wpAny_Try_except (wpAny_mono ((hb (wAsV X.K c i ts Wout D) (X.pn ++ pins) (fun e s₁ => wpAny (model X.prog X.w) X.A (noteFrame e X.env) (fun _ s₂ => wpAny (model X.prog X.w) X.A (setFlight e none) (fun _ s₃ =>
    wpAny (model X.prog X.w) X.A (handleBy e X.env [.ExceptHandler (some (.Name x np)) (some n) (b₀ :: suite) pos']) (SP X pins D) X.xe s₃) X.xe s₂) X.xe s₁) (fun u s' xx => ?_) PassesOwn.looking).run [] s σ H D (I.toTry _) h) (fun f s1 hsp => ?_) (fun e s1 he => he))
  · obtain ⟨a, B, sI, pins', σ', H', cls, d, rfl, J', nb, up, sky, na, os, ag, b, hb1, hyes, hno⟩ := xx
    have J : Inv X pins σ' H' sI := J'.ofTry ok
    have sky' : Sky B (X.env :: X.outer) a (Zc cls d) X.env.locals s'.heap := by rw [← hs]; exact sky
    show wpAny (model X.prog X.w) X.A (noteFrame (.ref a) X.env) _ _ _
    refine Sky.land Zc.steady hfr hf sky' fun h3 fl3 up3 => ?_
    have J3 : Inv X pins σ' H' { s' with heap := h3 } := J.landed nb fl3.1 (up.trans up3) os ag
    obtain ⟨oe3, vs3, he3, hz3, hd3⟩ := fl3.there
    have nfr : a ∉ frs (X.env :: X.outer) := fun hm => by
      obtain ⟨_, o', e', hnf⟩ := fl3.2.2.1.mem hm
      rw [he3] at e'
      cases e'
      exact hnf _ hd3
    have nL : a ≠ X.env.locals := fun z => nfr (List.mem_filterMap.mpr ⟨X.env, List.mem_cons_self, by rw [hf, z]⟩)
    have nF : a ∉ X.fs := fun hm => by
      obtain ⟨e, he, q⟩ := List.mem_filterMap.mp hm
      exact nfr (List.mem_filterMap.mpr ⟨e, List.mem_cons_of_mem _ he, q⟩)
    have nI : ∀ o, sI.heap.get? a ≠ some o := fun o e => by
      have z := nb a o e (by rw [hs]; exact nfr)
      rw [fl3.2.1] at z
      cases z
    have n0 : ∀ o, X.s_0.heap.get? a = some o → a ∈ X.ex := fun o e => by
      refine Classical.byContradiction fun hx => ?_
      obtain ⟨o', e'⟩ := J.base.there a o e hx
      exact nI o' e'
    have npn : ∀ p ∈ X.pn ++ pins, p.1 ≠ a := fun p hp z => nI _ (by
      have e' := (J.pin p hp).1
      rw [z] at e'
      exact e')
    have S3 := J3.suite he3 hd3 na nL nF
    refine wpAny_handleBy_cons (codeAny_handlers_test ?_) (by intro q; cases q)
    have LT : PySem.W.Looks (model X.prog X.w) h3 (typeOf (.ref a)) cls := fun A Q E s k q => wpAny_typeOf_ref (k _ _ he3) (by rw [hz3.1]; exact q)
    have LM := PySem.W.exm_one (M := model X.prog X.w) (J3.kIn) LT hb1
    have test : ∀ {Q : Value → Shared → Prop} {E : Value → Shared → Prop}, Q c { s' with heap := h3 } → wpAny (model X.prog X.w) (X.A.mark (some (.ref a))) (eval (.Name x np) X.env) Q E { s' with heap := h3 } := fun {Q E} q => by
      obtain ⟨hg, hdbg, hm | ⟨hm, hv, hnn⟩⟩ := hc
      · exact ld_glob (X := X.suite a ((a, oe3) :: (X.pn ++ pins))) S3 hg hm q hdbg
      · exact ld_blt (X := X.suite a ((a, oe3) :: (X.pn ++ pins))) S3 hg hm hv q hnn hdbg
    refine test (LM.here ?_)
    cases b with
    | true =>
      obtain ⟨C, rfl, hts⟩ := hyes rfl a na
      refine codeAny_handlers_suite_as ?_
      refine HandSPX.lands_againZ fl3 fun h4 fl4 up4 => ?_
      have J4 : Inv X pins σ' H' { s' with heap := h4 } := J.landed nb fl4.1 ((up.trans up3).trans up4) os ag
      obtain ⟨oe4, vs4, he4, hz4, hd4⟩ := fl4.there
      have S4 := J4.suite he4 hd4 na nL nF
      refine store_ok (X := X.suite a ((a, oe4) :: (X.pn ++ pins))) (v := .ref a) S4 hN hi hloc rfl (fun s5 S5 => ?_) (.inr hln)
      refine wpAny_mono ((hsu a oe4 (.ref C) d (X.pn ++ pins) hz4 ⟨_, hd4⟩).run [] s5 _ H' _ S5 hts) (fun f s6 hsp => ?_) (fun _ _ z => False.elim z)
      have gone : ∀ {σ6 : L2.St} {H6 : Hp} {Q : Shared → Prop}, Inv X pins σ6 H6 s6 → (∀ s7, Inv X pins (σ6.set i none) H6 s7 → Q s7) →
          wpAny (model X.prog X.w) X.A (do bindName X.env n .none; unbindBehindTheSuite X.env n pos') (fun _ s7 => Q s7) X.xe s6 := fun {σ6 H6 Q} J6 hq => gone_ok J6 hN hi hln hq
      cases f with
      | next =>
        obtain ⟨σ6, H6, S6, q6⟩ := hsp
        obtain ⟨p1, p2, p3, _⟩ := S6.pin (a, oe4) (List.mem_append_left _ List.mem_cons_self)
        exact gone (track (S6.unsuite ok) p1 hz4 ⟨_, hd4⟩ p2 nL npn n0) fun s7 J7 => ⟨_, _, J7, q6⟩
      | brk =>
        obtain ⟨σ6, H6, S6, q6⟩ := hsp
        exact gone (S6.unsuite ok) fun s7 J7 => ⟨_, _, J7, q6⟩
      | cont =>
        obtain ⟨σ6, H6, S6, q6⟩ := hsp
        exact gone (S6.unsuite ok) fun s7 J7 => ⟨_, _, J7, q6⟩
      | ret u =>
        obtain ⟨v6, σ6, H6, S6, r6, q6⟩ := hsp
        exact gone (S6.unsuite ok) fun s7 J7 => ⟨_, _, _, J7, r6, q6⟩
    | false =>
      show wpAny _ X.A (handleBy (.ref a) X.env []) _ _ _
      refine wpAny_handleBy_nil ?_
      obtain ⟨k1, k2, k3, oe, vs, T, oT, ts', he, hz, hd, h1, hr⟩ := id fl3
      unfold PySem.passOn
      refine wpAny_bind (wpAny_field he hd h1 ?_)
      rw [if_neg (show ¬ ((Value.ref T == Value.none) = true) from by simp)]
      have fin : wpAny (model X.prog X.w) X.A (setFlight (.ref a) X.env.frame) (fun _ s4 => wpAny (model X.prog X.w) X.A (throw (.ref a) : Sem Flow) (SP X pins D) X.xe s4) X.xe { s' with heap := h3 } := by
        rw [hf]
        refine HandSPX.setFlight_upZ fl3 fun h4 hh4 up4 => wpAny_throw (tk _ _ ?_)
        exact ⟨a, B, sI, pins, σ', H', cls, d, rfl, J, nb, (up.trans up3).trans up4, .inr (.inr (by rw [hs]; exact hh4)), na, os, ag, hno rfl⟩
      first
        | exact wpAny_bind (wpAny_pure (wpAny_bind fin))
        | exact wpAny_bind fin
  · cases f with
    | next =>
      obtain ⟨σ', H', J', q⟩ := hsp
      exact wpAny_execs_nil ⟨σ', H', J'.ofTry ok, q⟩
    | brk =>
      obtain ⟨σ', H', J', q⟩ := hsp
      exact ⟨σ', H', J'.ofTry ok, q⟩
    | cont =>
      obtain ⟨σ', H', J', q⟩ := hsp
      exact ⟨σ', H', J'.ofTry ok, q⟩
    | ret u =>
      obtain ⟨v, σ', H', J', r, q⟩ := hsp
      exact ⟨v, σ', H', J'.ofTry ok, r, q⟩
end
end XvS
/-! AMgd: defs' promises where it is known that no repr is under way. -/
namespace AM
open PySem PySem.Spec PyProof.Rows L2

/-- room, and no guard is under way -/
structure Room (k : Nat) (A : Around) : Prop where
  rm : L2.Room k A
  gd : A.guards = some []
namespace Room
variable {j k : Nat} {A : Around}
theorem un (r : AM.Room k A) : A.units + 16 * k + 200 < cLine := r.rm.un
theorem units (r : AM.Room k A) : A.units + 64 < cLine := r.rm.units
theorem mono (r : AM.Room k A) (h : j ≤ k) : AM.Room j A := ⟨r.rm.mono h, r.gd⟩
theorem deeper (r : AM.Room (k + 1) A) (env : PySem.Env) : AM.Room k (A.deeper env) := ⟨r.rm.deeper env, r.gd⟩
theorem make (r : AM.Room (k + 1) A) (C : Addr) (us : List Value) (kw : List (Str × Value)) : AM.Room k (A.under (.builtin "type.__call__" ⟨.ref C :: us, kw⟩)) := ⟨r.rm.make C us kw, by simp [Around.under, Code.guards, Code.isGuard, guardIds, pushGuards, r.gd]⟩
end Room
/-- a def keeps its promise where no guard is under way -/
structure FnOk (P : Program) (w : World) (K : PySem.W.Frag) (mg : Str → Option Value) (base : Heap) (C : CXT) (k : Nat) (f : Addr) (fd : FuncData) (ps : List Str) (sp : Sp) : Prop where
  len : ∀ vs H Q E, sp vs H Q E → vs.length = ps.length
  run : ∀ (A : Around) (out : List PySem.Env) (s : Shared) (H : Hp) (ar : Args) (us : List Value) (vs : List V) (Q : VK) (E : XK),
    AM.Room k A → Env0 P w K mg base A out s H → BindsTo s fd ar (ps.zip us) → Vals vs us → sp vs H Q E → codeAny (model P w) A (.call (.ref f) ar) (CR C out P w H s Q E) s
theorem FnOk.mono {P : Program} {w : World} {K : PySem.W.Frag} {mg : Str → Option Value} {base : Heap} {C : CXT} {j k : Nat} {f : Addr} {fd : FuncData} {ps : List Str} {sp : Sp} (F : AM.FnOk P w K mg base C j f fd ps sp) (h : j ≤ k) : AM.FnOk P w K mg base C k f fd ps sp where
  len := F.len
  run := fun A out s H ar us vs Q E r => F.run A out s H ar us vs Q E (r.mono h)
section
variable {X : Cx} {C : CXT} {k : Nat} {f : Addr} {fd : FuncData} {ps : List Str} {sp : Sp} {dvs : List V} {ds : List Value} {x : Str}
/-- what a call of a def leaves, at the caller -/
theorem call_end {pins : List (Addr × Obj)} {σ : L2.St} {H : Hp} {s : Shared} {Q : VK} {E : XK} (hx : PassesAt C X σ E) (I : Inv X pins σ H s) {ar : Args} (h : codeAny (model X.prog X.w) X.A (.call (.ref f) ar) (CR C X.stack X.prog X.w H s Q E) s) :
    codeAny (model X.prog X.w) X.A (.call (.ref f) ar) (wants (EP X pins σ Q) X.xe) s :=
  codeAny_mono h fun r t c => match r, c with
    | .error e, c => hx pins H s e t I c
    | .ok (.ret _), c => I.after c
    | .ok .next, c => False.elim c
    | .ok .brk, c => False.elim c
    | .ok .cont, c => False.elim c
/-- a def is called, its arguments bound somehow -/
theorem run_to {pins : List (Addr × Obj)} {σ : L2.St} {H : Hp} {s : Shared} {Q : VK} {E : XK} {ps' : List Value} {us : List Value} {kw : List (Str × Value)} {vs : List V} (F : AM.FnOk X.prog X.w X.K X.mg X.base C k f fd ps sp) (hr : AM.Room k X.A) (hx : PassesAt C X σ E)
    (I : Inv X pins σ H s) (hb : BindsTo s fd ⟨us, kw⟩ (ps.zip ps')) (r : Vals vs ps') (h : sp vs H Q E) : wpAny (model X.prog X.w) X.A (call (.ref f) us kw) (EP X pins σ Q) X.xe s :=
  wpAny_call (call_end hx I (F.run X.A X.stack s H ⟨us, kw⟩ ps' vs Q E hr I.env0 hb r h))
theorem run_fnSD {E : L2.St → XK} {pins : List (Addr × Obj)} {σ : L2.St} {H : Hp} {s : Shared} {Q : VK} {us : List Value} {vs : List V} (F : AM.FnOk X.prog X.w X.K X.mg X.base C k f fd ps sp) (hr : AM.Room k X.A) (hb : Binds X.K fd ps ds) (hd : Vals dvs ds)
    (hx : PassesAt C X σ (E σ)) (I : Inv X pins σ H s) (r : Vals vs us) (h : sp (vs ++ dvs) H Q (E σ)) : wpAny (model X.prog X.w) X.A (call (.ref f) us) (EP X pins σ Q) X.xe s := by
  have rr := r.append hd
  exact run_to F hr hx I (hb s us I.kIn (rr.length.symm.trans (F.len _ _ _ _ h))) rr h
theorem run_fnS {E : L2.St → XK} {pins : List (Addr × Obj)} {σ : L2.St} {H : Hp} {s : Shared} {Q : VK} {us : List Value} {vs : List V} (F : AM.FnOk X.prog X.w X.K X.mg X.base C k f fd ps sp) (hr : AM.Room k X.A) (hb : Binds X.K fd ps [])
    (hx : PassesAt C X σ (E σ)) (I : Inv X pins σ H s) (r : Vals vs us) (h : sp vs H Q (E σ)) : wpAny (model X.prog X.w) X.A (call (.ref f) us) (EP X pins σ Q) X.xe s :=
  run_fnSD (dvs := []) F hr hb .nil hx I r (by rw [List.append_nil]; exact h)
theorem pe_callSD {E : L2.St → XK} {p pos : Pos} {e : Expr} {es : List Expr} {t : TA} (F : AM.FnOk X.prog X.w X.K X.mg X.base C k f fd ps sp) (hr : AM.Room k X.A) (hg : Gl X x) (hm : X.mg x = some (.ref f)) (hk : PySem.W.keepIn X.K (.ref f) = true) (hb : Binds X.K fd ps ds)
    (hd : Vals dvs ds) (hx : ∀ σ, PassesAt C X σ (E σ)) (ha : PA X (e :: es) t) (hdb : (x == ("__debug__" : Str)) = false) (he : starEach (e :: es) X.env = (false, eval e X.env) :: starEach es X.env) (hpl : (backTo pos (starEach es X.env)).any (·.1) = false) :
    PE X (.Call (.Name x p) (e :: es) [] pos) (tCallSD sp dvs E t) where
  run := fun pins s σ H Q I h => wpAny_Call_Name_kw (ld_glob I hg hm (PySem.W.callWith_K (h₀ := X.base) I.ok.mod.kin hk (thn (ha.run pos pins s σ H _ I h) fun us s1 ⟨vs, H1, I1, r, q⟩ => ⟨I1.kIn, run_fnSD F hr hb hd (hx σ) I1 r q⟩) he hpl) hdb)
/-- own exceptions made by an __init__ that keeps its promise here -/
theorem len_of {vs : List V} {H : Hp} {Q : VK} {E : XK} (F : AM.FnOk X.prog X.w X.K X.mg X.base C k f fd ps sp) (h : sp vs H Q E) {us : List Value} (r : Vals vs us) : us.length = ps.length := r.length.symm.trans (F.len _ _ _ _ h)
end
section
variable {P : Program} {w : World} {K : PySem.W.Frag} {mg : Str → Option Value} {base : Heap}
/-- a def by its body -/
theorem fn_def {C : CXT} {k : Nat} {x qual : Str} {params : Arguments} {body : List Stmt} {sc : Scope} {dvs : List V} {kws : List (Str × V)} {f : Addr} {fd : FuncData} {N ps : List Str} {sp : Sp} (F : FunD K x qual params body sc dvs kws f fd) (S : FnScope N ps sc) (len : ∀ vs H Q E, sp vs H Q E → vs.length = ps.length)
    (hB : ∀ (cdv : Value) (A : Around) (out : List PySem.Env) (s : Shared) (H : Hp) (vs : List V) (Q : VK) (E : XK), AM.Room k (A.deeper (envOfC qual sc s.heap.objs.size f cdv)) → sp vs H Q E →
      ∃ t, PSs (cxOf C P w K mg base N qual sc f cdv A out s H E) body t ∧ t { nx := fun _ H2 => Q .non H2, rt := Q } (start N vs) H) : AM.FnOk P w K mg base C (k + 1) f fd ps sp := by
  obtain ⟨oc, od, dV, kV, doc, pm, an, cdv, ct, osl, rfl, lk, hcd, _, _⟩ := F.ex
  refine ⟨len, fun A out s H ar us vs Q E hr e0 hb r hsp => ?_⟩
  have hl := len _ _ _ _ hsp
  have old : ∀ b o, base.get? b = some o → s.heap.get? b = some o := fun b o e => (e0.bs b o e).1
  have KX := e0.mod.kin.keeps old
  have par : ∀ y ∈ ps.zip us, sc.names.lookup y.1 = some .local ∨ (sc.names.lookup y.1 = some .cell ∧ ((cellsFrom (s.heap.objs.size + 1) sc.names []).lookup y.1).isSome = true) := by
    rintro ⟨n, v⟩ hy
    exact (S.par n (List.of_mem_zip hy).1).imp id fun q => ⟨q, PySem.W.cellsFrom_some _ _ _ (.inl q)⟩
  have go := hb (model P w) A
  refine codeAny_call_function hr.rm.depth (KX _ _ lk) rfl S.co S.gen rfl (PySem.W.codeRec_of KX hcd) (hb _ _ _ _ (wpAny_newFunctionEnv_cells S.kind par fun env he s1 x => ?_))
  subst he
  have I : Inv (cxOf C P w K mg base N qual sc f cdv A out s H E) [] (start N vs) H s1 := inv_start S hr.rm.hd e0 hl r x
  refine ⟨(e0.mod.nolimit.keeps old).keeps x.toInCall.keep, codeAny_func ?_⟩
  obtain ⟨t, ht, hq⟩ := hB cdv A out s H vs Q E (hr.deeper _) hsp
  exact wpAny_mono (ht.run [] s1 (start N vs) H _ I hq) (fun fl t2 g => match fl, g with
    | .ret u, ⟨v, _, H2, J, rv, q⟩ => ⟨v, H2, J.os, J.bare, J.base, J.hok, rv, q⟩
    | .next, ⟨_, H2, J, q⟩ => ⟨V.non, H2, J.os, J.bare, J.base, J.hok, rfl, q⟩
    | .brk, ⟨_, _, _, q⟩ => False.elim q
    | .cont, ⟨_, _, _, q⟩ => False.elim q) fun _ _ g => g
end
/-! ### the law's call -/
section
variable {P : Program} {w : World} {K : PySem.W.Frag} {mg mb : Str → Option Value} {C : CXT} {k : Nat} {fa a : Addr} {fd : FuncData} {x : Str} {sp : Sp} {s : Shared} {vs : List Value} {ns : List Int}
theorem law_at {H : Hp} (KX : K.In s.heap) (hns : s.heap.Ns mainGlobals mg) (hb : s.heap.Ns builtinsNs mb) (hbb : ∀ x : Str, x ≠ "__name__" → mb x = bootBuiltins x) (hlim : s.heap.NoLimit) (hg : s.gens = #[])
    (ha : s.heap.get? a = some { cls := .type "list", data := .seq vs.toArray }) (hr : AM.Room k callerA) (F : ∀ base : Heap, K.In base → base.Ns mainGlobals mg → AM.FnOk P w K mg base C k fa fd [x] sp) (hbind : ∀ (s : Shared) (u : Value), BindsTo s fd ⟨[u], []⟩ [(x, u)])
    (hC : ∀ H e t, C [] H s (fun _ _ _ => False) e t → False) (hO : Only H) (hok : HOk P w H s.heap) (hA : ∀ b, H b ≠ none → b = a) (hK : H a ≠ none → K.lookup a = none) (hsp : sp [.ref a] H (fun v _ => v = .bl true) fun _ _ _ => False) :
    codeAny (model P w) callerA (.call (.ref fa) ⟨[.ref a], []⟩) (fun r t => r = .ok (.ret (.bool true)) ∧ OldK s.heap t.heap ∧ t.os = s.os ∧ AllBare t.gens) s := by
  have no : ∀ {b : Addr}, b ≠ a → H b = none := fun {b} z => Classical.byContradiction fun q => z (hA b q)
  have hide : ∀ {b : Addr} {m : Str → Option Value}, s.heap.Ns b m → (hidT s.heap H).Ns b m := fun {b m} ⟨o, es, ep, e, d, r⟩ => ⟨o, es, ep, hidT_get e (no fun z => by
    rw [z, ha] at e
    cases e
    cases (show Data.seq vs.toArray _ = Data.dict es ep from d)), d, r⟩
  have kin : K.In (hidT s.heap H) := fun b o e => hidT_get (KX b o e) (Classical.byContradiction fun q => by
    have z := hA b q
    rw [z] at e q
    rw [hK q] at e
    cases e)
  have E0 : Env0 P w K mg (hidT s.heap H) callerA [] s H :=
    { frames := rfl, mod := ⟨kin, hide hns, ⟨mb, hide hb, hbb⟩, hlim.imp fun mc q => ⟨hide q.1, q.2⟩⟩, bs := fun b o e => of_hidT e, bsz := Nat.le_of_eq (hidT_size _ _), funs := trivial, frf := fun b q => (by cases q), hok := hok, bare := .of_eq hg }
  refine codeAny_mono ((F _ kin (hide hns)).run callerA [] s H ⟨[.ref a], []⟩ [.ref a] [.ref a] _ _ hr E0 (hbind s (.ref a)) (.cons rfl .nil) hsp) fun r t h => ?_
  match r, h with
  | .error e, h => exact (hC H e t h).elim
  | .ok (.ret u), ⟨_, H', os, bare, un, hok', rv, rfl⟩ =>
    cases (show u = Value.bool true from rv)
    refine ⟨rfl, OldK.of_keep fun b o e => ?_, os, bare⟩
    rcases hO b with z | ⟨o2, xs, z⟩
    · exact un.keep b o e z (fun q => by cases q) (fun q => by cases q)
    · have y1 := (hok b _ z).1
      rw [e] at y1
      cases y1
      exact (hok' b _ (un.frzs b _ _ z)).1
  | .ok .next, h => exact False.elim h
  | .ok .brk, h => exact False.elim h
  | .ok .cont, h => exact False.elim h
end
/-- a law's end: what is asked of its def -/
theorem walk_end {l : PySem.W.OpenLaw} {n k : Nat} {q : Program} {loose : List Str} {XP : (Str → Option Value) → Heap → Prop} {YP : World → Heap → Prop} {d : DefRec} {C : CXT} {x : Str} (hn : l.most = some n) (hn2 : n ≤ sizeLine) (hdf : d.params.defaults = []) (hr : AM.Room k callerA)
    (F : ∀ (w : World) (mg : Str → Option Value) (fa : Addr) (h : Heap), YP w h → h.Ns mainGlobals mg → mg d.name = some (.ref fa) → ∃ (K : PySem.W.Frag) (fd : FuncData) (sp : Sp), K.In h ∧ (∀ (s : Shared) (u : Value), BindsTo s fd ⟨[u], []⟩ [(x, u)]) ∧
      (∀ (H : Hp) (a : Addr) (ns : List Int), ns.length ≤ n → SqL K H a (ns.map V.int) → sp [.ref a] H (fun v _ => v = .bl true) fun _ _ _ => False) ∧ ∀ base : Heap, K.In base → base.Ns mainGlobals mg → AM.FnOk l.prog w K mg base C k fa fd [x] sp)
    (hC : ∀ (H : Hp) (s : Shared) (e : Value) (t : Shared), C [] H s (fun _ _ _ => False) e t → False) : PySem.W.WalkO q loose XP YP l.row.toRowW d [] (fun f vs => PySem.call f vs) := by
  refine Att.attach_call hn hdf fun w s₀ s mg mb fa o pm cd doc a vs ns G Y _ _ _ hmg ha hi hl hg => ?_
  obtain ⟨K, fd, sp, KX, hb, hsp, hF⟩ := F w mg fa _ Y G.T.g hmg
  have sz : ns.length ≤ sizeLine := Nat.le_trans hl hn2
  have at_ := fun {H : Hp} => law_at (H := H) KX G.T.g G.T.b G.T.builtins G.T.nolimit hg ha hr hF hb (fun H e t => hC H s e t)
  cases hk : K.lookup a with
  | some o =>
    obtain rfl : o = _ := Option.some.inj ((KX a o hk).symm.trans ha)
    exact at_ (H := fun _ => none) (fun _ => .inl rfl) (fun b u z => by cases z) (fun b z => absurd rfl z) (fun z => absurd rfl z)
      (hsp _ a ns hl (.inr ⟨_, vs.toArray, _, hk, rfl, rfl, rfl, by simpa [hi.length] using sz, by simpa using vals_ints hi⟩))
  | none =>
    let H : Hp := fun b => if b = a then some (.frz { cls := .type "list", data := .seq vs.toArray } (.lst (ns.map V.int))) else none
    have Ha : H a = some (.frz { cls := .type "list", data := .seq vs.toArray } (.lst (ns.map V.int))) := if_pos rfl
    have Hb : ∀ b, H b ≠ none → b = a := fun b z => Classical.byContradiction fun q => z (if_neg q)
    refine at_ (H := H) (fun b => ?_) (fun b u z => ?_) Hb (fun _ => hk) (hsp H a ns hl (.inl (.inr ⟨_, Ha⟩)))
    · by_cases q : b = a
      · exact .inr ⟨_, _, by rw [q]; exact Ha⟩
      · exact .inl (if_neg q)
    · have e := Hb b (by rw [z]; simp)
      subst e
      cases Ha.symm.trans z
      exact ⟨ha, by simpa using sz, vs, _, vals_ints hi, ha⟩
end AM
/-! AMx0: own exception classes with a field, over ValueError, LookupError, ArithmeticError. -/
namespace AM
open PySem PySem.Spec PyProof.Rows L2
open Builtin Builtin.ObjectAttr

/-- the built-in below an own exception class -/
inductive EB where
  | ve | le | ae
namespace EB
def nm : EB → String
  | ve => "ValueError"
  | le => "LookupError"
  | ae => "ArithmeticError"
def nw : EB → String
  | ve => "ValueError.__new__"
  | le => "LookupError.__new__"
  | ae => "ArithmeticError.__new__"
def ini : EB → String
  | ve => "ValueError.__init__"
  | le => "LookupError.__init__"
  | ae => "ArithmeticError.__init__"
def bm (b : EB) : List Value := [.type b.nm, .type "Exception", .type "BaseException", .type "object"]
theorem base : ∀ b : EB, ExcBaseFacts b.nm b.nw b.ini b.bm
  | ve => F.excBase_ValueError
  | le => F.excBase_LookupError
  | ae => F.excBase_ArithmeticError
theorem pass (v : Value) : ∀ b : EB, refuseLoop v "__setattr__" b.bm = pure ()
  | ve => F.store_ValueError.passes v
  | le => F.store_LookupError.passes v
  | ae => F.store_ArithmeticError.passes v
theorem obj : ∀ b : EB, b.bm.contains (.type "object") = true
  | ve => by decide +kernel
  | le => by decide +kernel
  | ae => by decide +kernel
end EB
/-- what the written part says of such a class -/
structure OexG (K : PySem.W.Frag) (b : EB) (C : Addr) : Prop where
  cls : ∃ nm q N bs bm sn sub ab col dd k0 k1 k2 k3 k5, K.lookup C = some (excClassObj nm q C N bs bm true sn sub ab col dd k0 k1 k2 k3 k5 b.nw) ∧ PySem.W.excTail b.bm bm = true
  st : PySem.W.findIn K (.ref C) "__setattr__" = some (some (.builtin "object.__setattr__"))
  ex : PySem.W.subIn K (.ref C) (.type "BaseException") = some true
  ty : PySem.W.typeIn K (.ref C) = some (.type "type")
  kp : PySem.W.keepIn K (.ref C) = true
section
variable {prog : Program} {w : World} {A : Around} {E : Value → Shared → Prop} {R : Result → Shared → Prop} {hp : Heap} {g : Array GenState} {d : Drawn} {t : Nat} {os : OsState}
/-- the first field of an exception: its dict comes -/
theorem first_field {K : PySem.W.Frag} {f : Str} {tk : Tok} {v : Value} {x C : Addr} {fv : Array Value} {cd : ClassData} (X : K.In hp) (hx : hp.get? x = some { cls := .ref C, data := .fields fv }) (hcd : PySem.W.clsIn K C = some cd) (m1 : cd.mro.isEmpty = false)
    (m2 : cd.mro.contains (.type "object") = true) (m3 : refuseLoop (.ref x) "__setattr__" cd.mro = pure ()) (hd : cd.hasDict = true) (ha : PySem.W.findIn K (.ref C) f = some none)
    (fin : ∀ h2 t2 dx, (∀ b o, b ≠ x → hp.get? b = some o → h2.get? b = some o) → hp.objs.size ≤ dx → dx ≠ x → h2.get? x = some { cls := .ref C, dict := some dx, data := .fields fv } → h2.Ns1 dx (fun y => if y = f then some v else none) →
      R (.ok (.ret .none)) ⟨h2, g, d, t2, os⟩) : codeAny (model prog w) A (.call (.builtin "object.__setattr__") ⟨[.ref x, .str f tk, v], []⟩) R ⟨hp, g, d, t, os⟩ := by
  have at_ : PySem.W.InstAt hp x { cls := .ref C, data := .fields fv } C none := ⟨hx, rfl, rfl, trivial⟩
  have ne : x ≠ hp.objs.size := Nat.ne_of_lt (Heap.lt_size hx)
  have sb : PySem.W.Looks (model prog w) hp (isInstance (.ref x) (.type "object")) true := at_.type.andThen (PySem.W.looks_mroIn X (by
    unfold PySem.W.mroIn
    rw [hcd, Option.bind_some, m1, m2]
    rfl))
  have SF := PySem.F.store_object
  refine codeAny_call_builtin SF.slot.plain SF.entry (@PySem.W.check_slot (model prog w) _ _ ⟨hp, g, d, t, os⟩ "object.__setattr__" "object" "__setattr__" (.ref x) [.str f tk, v] [] _ SF.kind SF.split sb (SF.args _ _ v) ?_)
  have look : PySem.W.Looks (model prog w) hp (classData C) cd := PySem.W.looks_clsIn X hcd
  have mr : PySem.W.Looks (model prog w) hp (mroOf (.ref C)) cd.mro := look.andThen .now
  have tk0 : PySem.W.Looks (model prog w) hp (storeTaker? none) none := .now
  rw [PySem.W.osa_eq, refuse_eq]
  refine wpAny_bind (wpAny_bind (at_.type.at (wpAny_bind (mr.at ?_))))
  rw [m3]
  refine wpAny_pure (wpAny_bind (at_.type.at (wpAny_bind ((PySem.W.looks_findIn X ha).at (wpAny_bind (tk0.at ?_))))))
  show wpAny _ _ (storeInOwnDict (.ref x) (.ref C) (.str f tk) f v false) _ _ _
  obtain ⟨_, _, _, _, _, hasD, _, _, _, _, _⟩ := cd
  cases (show hasD = true from hd)
  unfold storeInOwnDict ownDictForStores
  repeat (first | with_reducible refine PySem.HandSPX.store_in_new ?_ ?_ | with_reducible refine wpAny_loadPart_at hx ?_ | with_reducible refine look.at ?_ | wp_step)
  · exact ⟨_, #[], _, (Heap.get?_update_ne _ _ _ _ ne.symm).trans (Heap.get?_push_at rfl rfl), rfl, fun e he => absurd he (by simp), fun _ => rfl⟩
  · intro h2 t2 hn hs
    refine fin h2 t2 hp.objs.size (fun b o hb ho => ?_) (Nat.le_refl _) ne.symm ?_ hn
    · rw [hs.2 b (Nat.ne_of_lt (Heap.lt_size ho)), Heap.get?_update_ne _ _ _ _ hb]
      exact Heap.get?_push_of_some _ ho
    · rw [hs.2 x ne]
      exact Heap.get?_update_self _ (Heap.get?_push_of_some _ hx) rfl
end
section
variable {X : Cx} {b : EB} {pins : List (Addr × Obj)} {σ : L2.St} {H : Hp} {s : Shared} {a C : Addr} {f : Str} {y : V} {u : Value} {E : Value → Shared → Prop} {A : Around}
theorem OexG.fits (T : OexG X.K b C) : ∃ cd : ClassData, PySem.W.clsIn X.K C = some cd ∧ cd.mro.isEmpty = false ∧ cd.mro.contains (.type "object") = true ∧ (∀ v, refuseLoop v "__setattr__" cd.mro = pure ()) ∧ cd.hasDict = true := by
  obtain ⟨nm, q, N, bs, bm, sn, sub, ab, col, dd, k0, k1, k2, k3, k5, e, tl⟩ := T.cls
  have tl2 : PySem.W.excTail b.bm (.ref C :: bm) = true := tl
  refine ⟨{ name := nm, bases := bs, mro := .ref C :: bm, ns := N, qualname := q, hasDict := true, slotNames := sn, subclasses := sub, abstract := ab, collection := col, hasDel := false }, ?_, rfl, ?_, fun v => PySem.W.excTail_pass v (b.pass v) _ tl2, rfl⟩
  · unfold PySem.W.clsIn
    rw [e] <;> rfl
  · exact (PySem.W.excTail_contains "object" _ tl2).trans b.obj
/-- self.f = y, nothing kept as yet -/
theorem set_first {Q : Unit → Shared → Prop} (T : OexG X.K b C) (I : Inv X pins σ H s) (e : H a = some (exo a C none)) (no : PySem.W.findIn X.K (.ref C) f = some none) (ry : RelV y u)
    (k : ∀ dx s2, H dx = none → dx ≠ a → Inv X pins σ (upd (upd H dx (exd dx [(f, y)])) a (exo a C (some dx))) s2 → Q () s2) : wpAny (model X.prog X.w) A (setAttr (.ref a) f u) Q E s := by
  obtain ⟨cd, c1, c2, c3, c4, c5⟩ := T.fits
  obtain ⟨t1, ho⟩ := exo_at I.hok e
  obtain ⟨hp, g, d, t, os⟩ := s
  refine PySem.W.set_plain I.kIn (ox := { cls := .ref C, dict := none, data := .fields #[.ref t1, .none, .none, .none, .bool false, .none] }) (od := none) ⟨ho, rfl, rfl, trivial⟩ T.st ?_
  refine first_field I.kIn ho c1 c2 c3 (c4 _) c5 no fun h2 t2 dx kept hle hne hx hn => ?_
  have nd : H dx = none := I.hok.fresh hle
  have old : ∀ {c : Addr} {o : Obj}, hp.get? c = some o → c ≠ dx := fun q => Nat.ne_of_lt (Nat.lt_of_lt_of_le (Heap.lt_size q) hle)
  have off : ∀ {c : Addr}, H c = none → c ≠ a := fun n z => by rw [z, e] at n; cases n
  refine k dx _ nd hne (I.un (t' := t2) (H' := upd (upd H dx (exd dx [(f, y)])) a (exo a C (some dx))) { keep := ?_, slot := ?_, free := ?_, there := ?_, tups := ?_, frzs := ?_, tbls := ?_ } fun c o q => ?_)
  · exact fun c o q n _ _ => kept c o (off n) q
  · exact fun c o q n _ _ => ⟨o.slots, kept c o (off n) q⟩
  · intro c o q n _
    rw [upd_ne (off n), upd_ne (old q)]
    exact n
  · intro c o q _
    by_cases hc : c = a
    · subst hc
      exact ⟨_, hx⟩
    · exact ⟨o, kept c o hc q⟩
  · intro c xs q
    rw [upd_ne (at_ne e q exo_tup), upd_ne (ne_of_none q nd)]
    exact q
  · intro c o v q
    rw [upd_ne (at_ne e q exo_frz), upd_ne (ne_of_none q nd)]
    exact q
  · intro c ps q
    refine ⟨#[], ?_⟩
    rw [upd_ne (at_ne e q exo_tbl), upd_ne (ne_of_none q nd), q, Array.append_empty]
  · by_cases hc : c = a
    · subst hc
      rw [upd_same] at q
      cases q
      exact exo_ok hx
    rw [upd_ne hc] at q
    by_cases hd : c = dx
    · subst hd
      rw [upd_same] at q
      cases q
      exact exd_ok hn (relO_put (fs := []) ry fun _ => True.intro)
    rw [upd_ne hd] at q
    refine (I.hok c o q).stay (fun z v hz ez => kept z v ?_ ez) (fun z hz => ?_) fun z xs hz => ?_
    · rcases hz with rfl | hz
      · exact hc
      · exact at_ne e hz exo_own
    · rw [upd_ne (at_ne e hz exo_own), upd_ne (ne_of_none hz nd)]
      exact hz
    · rw [upd_ne (at_ne e hz exo_tup), upd_ne (ne_of_none hz nd)]
      exact hz
/-- the built-in's __init__ of it -/
theorem base_init {us : List Value} {Q : Value → Shared → Prop} (T : OexG X.K b C) (I : Inv X pins σ H s) (e : H a = some (exo a C none)) (hl : us.length ≤ sizeLine) (k : ∀ s2, Inv X pins σ H s2 → Q .none s2) :
    wpAny (model X.prog X.w) A (call (.builtin b.ini) (.ref a :: us)) Q E s := by
  obtain ⟨_, _, _, _, bm, _, _, _, _, _, _, _, _, _, _, eC, tl⟩ := T.cls
  obtain ⟨t1, ho⟩ := exo_at I.hok e
  obtain ⟨hp, g, d, t, os⟩ := s
  refine wpAny_call (PySem.HandSPX.init_base b.base (fun Y => PySem.W.excTail_contains Y bm tl) (I.kIn _ _ eC) ho hl fun h2 t2 kept hx => k _ ?_)
  have same : upd H a (exo a C none) = H := funext fun c => by
    by_cases hc : c = a
    · rw [hc, upd_same, e]
    · exact upd_ne hc
  have J := I.write (t' := t) (x := a) (e := a) (o := exo a C none) (by rw [e]; trivial) (.inl rfl) kept ⟨_, hx⟩ (exo_ok hx)
  rwa [same] at J
end
/-! ### C(v) -/
def tMkG (C : Addr) (sp : Sp) (ta : TA) : L2.St → Hp → XK → Prop := fun σ H Q => ta σ H fun vs H1 => vs.length ≤ 1000 ∧ ∀ a, H1 a = none → sp (.ref a :: vs) (upd H1 a (exo a C none))
  (fun v H2 => v = .non ∧ ∃ (d : Addr) (fs : List (Str × V)), H2 a = some (exo a C (some d)) ∧ H2 d = some (exd d fs) ∧ H1 d = none ∧ Q (.ref C) (some d) (upd (L2.del H2 a) d (.xd fs))) (fun _ _ _ => False)
theorem pmk_own {X : Cx} {b : EB} {CX : CXT} {x : Str} {C fI : Addr} {k : Nat} {fd : FuncData} {ps : List Str} {sp : Sp} {e : Expr} {es : List Expr} {ta : TA} {p pos : Pos} (T : OexG X.K b C) (iC : PySem.W.findIn X.K (.ref C) "__init__" = some (some (.ref fI))) (tI : PySem.W.typeIn X.K (.ref fI) = some (.type "function"))
    (F1 : L2.FnOk X.prog X.w X.K X.mg X.base CX k fI fd ps sp) (hr : L2.Room (k + 1) X.A) (hb : Binds X.K fd ps []) (hx : Passes CX X (fun _ _ _ => False)) (hg : Gl X x) (hm : X.mg x = some (.ref C)) (ha : PA X (e :: es) ta) (hdb : (x == ("__debug__" : Str)) = false)
    (he : starEach (e :: es) X.env = (false, eval e X.env) :: starEach es X.env) (hpl : (backTo pos (starEach es X.env)).any (·.1) = false) : PMk X (.Call (.Name x p) (e :: es) [] pos) (tMkG C sp ta) := by
  intro pins s σ H Q I h
  obtain ⟨_, _, _, _, bm, _, _, _, _, _, _, _, _, _, _, eC, tl⟩ := T.cls
  refine wpAny_Call_Name_kw (ld_glob I hg hm (PySem.W.callWith_K (h₀ := X.base) I.ok.mod.kin T.kp (thn (ha.run pos pins s σ H _ I h) fun us s1 ⟨vs, H1, I1, r1, hz, q1⟩ => ⟨I1.kIn, ?_⟩) he hpl) hdb)
  show wpAny _ _ (call (.ref C) us) _ _ _
  obtain ⟨hp, g, dr, tk, os⟩ := s1
  let h3 : Heap := (hp.push (PySem.W.kdv_tup us)).push (PySem.HandSPX.excO C hp.objs.size)
  have new : H1 (hp.objs.size + 1) = none := I1.hok.fresh (Nat.le_succ _)
  have kept : ∀ c o, hp.get? c = some o → h3.get? c = some o := fun c o z => Heap.get?_push_of_some _ (Heap.get?_push_of_some _ z)
  have got : h3.get? (hp.objs.size + 1) = some (PySem.HandSPX.excO C hp.objs.size) := by
    show ((hp.push (PySem.W.kdv_tup us)).push (PySem.HandSPX.excO C hp.objs.size)).get? (hp.objs.size + 1) = _
    heap_get
  have I2 : Inv X pins σ (upd H1 (hp.objs.size + 1) (exo (hp.objs.size + 1) C none)) ⟨h3, g, dr, tk, os⟩ := I1.laid (t' := tk) (a := hp.objs.size + 1) (h' := h3) kept (Nat.le_succ _) (exo_ok got)
  have r2 : Vals (V.ref (hp.objs.size + 1) :: vs) (Value.ref (hp.objs.size + 1) :: us) := .cons rfl r1
  have hq := q1 (hp.objs.size + 1) new
  have b2 := hb ⟨h3, g, dr, tk, os⟩ (Value.ref (hp.objs.size + 1) :: us) I2.kIn (by
    rw [List.append_nil, ← r2.length]
    exact F1.len _ _ _ _ hq)
  rw [List.append_nil] at b2
  have hus : us.length ≤ sizeLine := by rw [← r1.length, sizeLine_eq]; omega
  refine wpAny_call (PySem.HandSPX.call_own b.base (fun Y => PySem.W.excTail_contains Y bm tl) (I1.kIn _ _ eC) (PySem.W.looks_findIn I1.kIn iC) (fun v => PySem.W.bind_fn I1.kIn v tI) hus
    (codeAny_mono (F1.run _ X.stack _ _ ⟨Value.ref (hp.objs.size + 1) :: us, []⟩ _ _ _ (fun _ _ _ => False) (hr.make C us []) (I2.env0.make C us []) b2 r2 hq) fun r t2 z => ?_))
  match r, z with
  | .error er, z => exact hx pins σ _ _ er t2 I2 z
  | .ok (.ret v), ⟨_, H2, os2, bare2, un2, hok2, rv, ev, dx, fs, ea, ed, hd1, q2⟩ =>
    subst ev
    obtain ⟨h4, g2, d2, tk2, os3⟩ := t2
    exact ⟨rv, mk_end (raises_own T.ex T.ty) I1 (Nat.le_succ _) kept un2 hok2 os2 bare2 ea ed hd1 q2⟩
  | .ok .next, z => exact False.elim z
  | .ok .brk, z => exact False.elim z
  | .ok .cont, z => exact False.elim z
end AM
/-! AMa: the abstract machine's values, and how they lie in the tracked heap. -/
namespace AM
open PySem PySem.Spec PyProof.Rows L2

/-- a value of the abstract machine: tuples are trees; lst, dic: a list, a dict that is never changed again; xo: a caught exception, its class, its attributes; ref: an object of the machine's own heap; glo: a def or class of the module -/
inductive AV where
  | non | bl (b : Bool) | int (i : Int) | str (s : Str) | ty (n : String)
  | tup (xs : List AV) | lst (xs : List AV) | dic (ks : List Key) (vs : List AV)
  | ext (xs : List AV) | ref (n : Nat) | glo (x : Str) | xo (c : Str) (fs : List (Str × AV))
/-- an object of the machine's heap -/
inductive AO where
  | lst (xs : List AV) | dic (ks : List Key) (vs : List AV) | ins (c : Str) (fs : List (Str × AV))
abbrev AH := List AO
abbrev Env := List (Option AV)
inductive Res (α : Type) where
  | ok (a : α) (h : AH) | exc (c : Str) (fs : List (Str × AV)) (h : AH) | stk
def Res.bind {α β : Type} (r : Res α) (f : α → AH → Res β) : Res β := match r with
  | .ok a h => f a h
  | .exc c fs h => .exc c fs h
  | .stk => .stk
/-- an expression's meaning -/
abbrev ME := AM.Env → AH → Res AV
abbrev MEs := AM.Env → AH → Res (List AV)
def retM (v : AV) : ME := fun _ h => .ok v h
def bindM (m : ME) (f : AV → ME) : ME := fun ρ h => (m ρ h).bind fun v h1 => f v ρ h1

/-! ### how they lie -/
/-- what is fixed: the written part, where the module's defs and classes stand; hid: objects in the making that no value of the machine's shows -/
structure Gh where
  K : PySem.W.Frag
  ga : Str → Option Addr
  hid : List Addr
def Gh.hide (G : Gh) (l : List Addr) : Gh := { G with hid := l }
/-- neither the machine's own nor hidden -/
def Off_ (G : Gh) (ι : List Addr) (a : Addr) : Prop := a ∉ ι ∧ a ∉ G.hid
/-- at a stands u, and the machine's own objects (at ι) are others -/
def Fz (G : Gh) (ι : List Addr) (H : Hp) (a : Addr) (u : HO) : Prop := Off_ G ι a ∧ Rd H a u
def RL (G : Gh) (ι : List Addr) (H : Hp) (a : Addr) (xs : List V) : Prop := Off_ G ι a ∧ H a = some (.lst xs)
def RE_ (G : Gh) (ι : List Addr) (H : Hp) (a : Addr) (xs : List V) : Prop :=
  Fz G ι H a (.lst xs) ∨ ∃ (o : Obj) (its : Array Value) (n : Nat), G.K.lookup a = some o ∧ o.cls = .type "list" ∧ o.dict = none ∧ o.data = .seq its n ∧ its.size ≤ sizeLine ∧ Vals xs its.toList
def RT (G : Gh) (ι : List Addr) (H : Hp) (a : Addr) (xs : List V) : Prop :=
  Fz G ι H a (.tup xs) ∨ ∃ (o : Obj) (its : Array Value) (n : Nat), G.K.lookup a = some o ∧ o.cls = .type "tuple" ∧ o.data = .seq its n ∧ its.size ≤ sizeLine ∧ Vals xs its.toList
theorem RL.sq {G : Gh} {ι : List Addr} {H : Hp} {a : Addr} {xs : List V} (r : RL G ι H a xs) : SqL G.K H a xs := .inl (.inl r.2)
theorem RE_.sq {G : Gh} {ι : List Addr} {H : Hp} {a : Addr} {xs : List V} (r : RE_ G ι H a xs) : SqL G.K H a xs := by
  rcases r with r | r
  · exact .inl r.2
  · exact .inr r
theorem RT.sq {G : Gh} {ι : List Addr} {H : Hp} {a : Addr} {xs : List V} (r : RT G ι H a xs) : SqT G.K H a xs := by
  rcases r with r | r
  · exact .inl r.2
  · exact .inr r
/-- an exception's own dict, if it has one -/
def Xd (G : Gh) (ι : List Addr) (H : Hp) (d : Option Addr) (fs : List (Str × V)) : Prop := (d = none ∧ fs = []) ∨ ∃ dx, d = some dx ∧ Fz G ι H dx (.xd fs)
mutual
inductive RV (G : Gh) (ι : List Addr) (H : Hp) : AV → V → Prop
  | non : RV G ι H .non .non
  | bl (b : Bool) : RV G ι H (.bl b) (.bl b)
  | int (i : Int) : RV G ι H (.int i) (.int i)
  | str (s : Str) : RV G ι H (.str s) (.str s)
  | ty (n : String) : RV G ι H (.ty n) (.ty n)
  | tup {xs : List AV} {a : Addr} {vs : List V} : RT G ι H a vs → RVs G ι H xs vs → RV G ι H (.tup xs) (.ref a)
  | lst {xs : List AV} {a : Addr} {vs : List V} : RL G ι H a vs → RVs G ι H xs vs → RV G ι H (.lst xs) (.ref a)
  | ext {xs : List AV} {a : Addr} {vs : List V} : RE_ G ι H a vs → RVs G ι H xs vs → RV G ι H (.ext xs) (.ref a)
  | dic {ks : List Key} {xs : List AV} {a : Addr} {kvs : List (Key × V)} : Fz G ι H a (.dK kvs) → kvs.map (·.1) = ks → RVs G ι H xs (kvs.map (·.2)) → RV G ι H (.dic ks xs) (.ref a)
  | ref {n : Nat} {a : Addr} : ι[n]? = some a → RV G ι H (.ref n) (.ref a)
  | glo {x : Str} {a : Addr} : G.ga x = some a → RV G ι H (.glo x) (.ref a)
  | xo {c : Str} {xs : List (Str × AV)} {a C : Addr} {d : Option Addr} {vs : List (Str × V)} : G.ga c = some C → Fz G ι H a (XvS.exv a C d) → Xd G ι H d vs → RFs G ι H xs vs → RV G ι H (.xo c xs) (.ref a)
inductive RVs (G : Gh) (ι : List Addr) (H : Hp) : List AV → List V → Prop
  | nil : RVs G ι H [] []
  | cons {x : AV} {v : V} {xs : List AV} {vs : List V} : RV G ι H x v → RVs G ι H xs vs → RVs G ι H (x :: xs) (v :: vs)
inductive RFs (G : Gh) (ι : List Addr) (H : Hp) : List (Str × AV) → List (Str × V) → Prop
  | nil : RFs G ι H [] []
  | cons {f : Str} {x : AV} {v : V} {xs : List (Str × AV)} {vs : List (Str × V)} : RV G ι H x v → RFs G ι H xs vs → RFs G ι H ((f, x) :: xs) ((f, v) :: vs)
end
def RO (G : Gh) (ι : List Addr) (H : Hp) : AO → HO → Prop
  | .lst xs, u => ∃ vs, u = .lst vs ∧ RVs G ι H xs vs
  | .dic ks xs, u => ∃ kvs : List (Key × V), u = .dK kvs ∧ kvs.map (·.1) = ks ∧ RVs G ι H xs (kvs.map (·.2))
  | .ins c fs, u => ∃ C dx fs', u = .ins C dx fs' ∧ G.ga c = some C ∧ RFs G ι H fs fs'
structure RH (G : Gh) (ι : List Addr) (H : Hp) (h : AH) : Prop where
  len : ι.length = h.length
  nd : ι.Nodup
  hd : ∀ a ∈ G.hid, a ∉ ι ∧ ∃ o, H a = some o
  at_ : ∀ (n : Nat) (o : AO) (a : Addr), h[n]? = some o → ι[n]? = some a → ∃ u, H a = some u ∧ RO G ι H o u
def RS (G : Gh) (ι : List Addr) (H : Hp) (ρ : AM.Env) (σ : L2.St) : Prop :=
  ρ.length = σ.length ∧ ∀ (i : Nat) (v : AV), ρ[i]? = some (some v) → ∃ u, σ[i]? = some (some u) ∧ RV G ι H v u
/-- from one state to a later one: new objects may have come; what isn't the machine's own stands -/
def Ext (ι : List Addr) (H : Hp) (ι' : List Addr) (H' : Hp) : Prop := ∃ nw, ι' = ι ++ nw ∧ ∀ a o, a ∉ ι → H a = some o → H' a = some o ∧ a ∉ nw

section
variable {G : Gh} {ι ι1 ι2 : List Addr} {H H1 H2 : Hp}
theorem Ext.refl : Ext ι H ι H := ⟨[], by simp, fun a o _ e => ⟨e, by simp⟩⟩
theorem Ext.trans (a : Ext ι H ι1 H1) (b : Ext ι1 H1 ι2 H2) : Ext ι H ι2 H2 := by
  obtain ⟨n1, rfl, k1⟩ := a
  obtain ⟨n2, rfl, k2⟩ := b
  refine ⟨n1 ++ n2, by simp, fun a o ha e => ?_⟩
  obtain ⟨e1, m1⟩ := k1 a o ha e
  obtain ⟨e2, m2⟩ := k2 a o (by simp [ha, m1]) e1
  exact ⟨e2, by simp [m1, m2]⟩
theorem Fz.mono {a : Addr} {u : HO} (x : Ext ι H ι1 H1) (f : Fz G ι H a u) : Fz G ι1 H1 a u := by
  obtain ⟨nw, rfl, k⟩ := x
  obtain ⟨⟨h1, h0⟩, h2⟩ := f
  rcases h2 with h2 | ⟨o, h2⟩
  · obtain ⟨e, m⟩ := k a _ h1 h2
    exact ⟨⟨by simp [h1, m], h0⟩, .inl e⟩
  · obtain ⟨e, m⟩ := k a _ h1 h2
    exact ⟨⟨by simp [h1, m], h0⟩, .inr ⟨o, e⟩⟩
theorem RL.mono {a : Addr} {xs : List V} (x : Ext ι H ι1 H1) (r : RL G ι H a xs) : RL G ι1 H1 a xs := by
  obtain ⟨nw, rfl, k⟩ := x
  obtain ⟨⟨h1, h0⟩, h2⟩ := r
  obtain ⟨e, m⟩ := k a _ h1 h2
  exact ⟨⟨by simp [h1, m], h0⟩, e⟩
theorem RE_.mono {a : Addr} {xs : List V} (x : Ext ι H ι1 H1) (r : RE_ G ι H a xs) : RE_ G ι1 H1 a xs := by
  rcases r with r | r
  · exact .inl (r.mono x)
  · exact .inr r
theorem RT.mono {a : Addr} {xs : List V} (x : Ext ι H ι1 H1) (r : RT G ι H a xs) : RT G ι1 H1 a xs := by
  rcases r with r | r
  · exact .inl (r.mono x)
  · exact .inr r
theorem Xd.mono {d : Option Addr} {fs : List (Str × V)} (x : Ext ι H ι1 H1) (r : Xd G ι H d fs) : Xd G ι1 H1 d fs := by
  rcases r with r | ⟨dx, e, r⟩
  · exact .inl r
  · exact .inr ⟨dx, e, r.mono x⟩
theorem Ext.ix {n : Nat} {a : Addr} (x : Ext ι H ι1 H1) (e : ι[n]? = some a) : ι1[n]? = some a := by
  obtain ⟨nw, rfl, _⟩ := x
  obtain ⟨h, e'⟩ := List.getElem?_eq_some_iff.mp e
  rw [List.getElem?_append_left h]
  exact e
mutual
theorem RV.mono (x : Ext ι H ι1 H1) : ∀ {v : AV} {u : V}, RV G ι H v u → RV G ι1 H1 v u
  | _, _, .non => .non
  | _, _, .bl b => .bl b
  | _, _, .int i => .int i
  | _, _, .str s => .str s
  | _, _, .ty n => .ty n
  | _, _, .tup t r => .tup (t.mono x) (RVs.mono x r)
  | _, _, .lst t r => .lst (t.mono x) (RVs.mono x r)
  | _, _, .ext t r => .ext (t.mono x) (RVs.mono x r)
  | _, _, .dic f e r => .dic (f.mono x) e (RVs.mono x r)
  | _, _, .ref e => .ref (x.ix e)
  | _, _, .glo e => .glo e
  | _, _, .xo e f d r => .xo e (f.mono x) (d.mono x) (RFs.mono x r)
theorem RVs.mono (x : Ext ι H ι1 H1) : ∀ {v : List AV} {u : List V}, RVs G ι H v u → RVs G ι1 H1 v u
  | _, _, .nil => .nil
  | _, _, .cons r t => .cons (RV.mono x r) (RVs.mono x t)
theorem RFs.mono (x : Ext ι H ι1 H1) : ∀ {v : List (Str × AV)} {u : List (Str × V)}, RFs G ι H v u → RFs G ι1 H1 v u
  | _, _, .nil => .nil
  | _, _, .cons r t => .cons (RV.mono x r) (RFs.mono x t)
end
theorem RO.mono (x : Ext ι H ι1 H1) {o : AO} {u : HO} (r : RO G ι H o u) : RO G ι1 H1 o u := by
  cases o with
  | lst xs => obtain ⟨vs, e, q⟩ := r; exact ⟨vs, e, q.mono x⟩
  | dic ks xs => obtain ⟨kvs, e, e2, q⟩ := r; exact ⟨kvs, e, e2, q.mono x⟩
  | ins c fs => obtain ⟨C, dx, fs', e, e2, q⟩ := r; exact ⟨C, dx, fs', e, e2, q.mono x⟩
theorem RS.mono {ρ : AM.Env} {σ : L2.St} (x : Ext ι H ι1 H1) (r : RS G ι H ρ σ) : RS G ι1 H1 ρ σ :=
  ⟨r.1, fun i v e => by
    obtain ⟨u, e1, q⟩ := r.2 i v e
    exact ⟨u, e1, q.mono x⟩⟩
theorem RVs.length : ∀ {xs : List AV} {vs : List V}, RVs G ι H xs vs → xs.length = vs.length
  | _, _, .nil => rfl
  | _, _, .cons _ t => by simp [RVs.length t]
theorem RVs.get : ∀ {xs : List AV} {vs : List V} {i : Nat} {x : AV}, RVs G ι H xs vs → xs[i]? = some x → ∃ v, vs[i]? = some v ∧ RV G ι H x v
  | _, _, _, _, .nil, e => by simp at e
  | _, _, 0, _, .cons r _, e => by simp at e; subst e; exact ⟨_, rfl, r⟩
  | _, _, i + 1, x, .cons _ t, e => by
    obtain ⟨v, e1, r⟩ := RVs.get (i := i) (x := x) t (by simpa using e)
    exact ⟨v, by simpa using e1, r⟩
theorem RVs.getV : ∀ {xs : List AV} {vs : List V} {i : Nat} {v : V}, RVs G ι H xs vs → vs[i]? = some v → ∃ x, xs[i]? = some x ∧ RV G ι H x v
  | _, _, _, _, .nil, e => by simp at e
  | _, _, 0, _, .cons r _, e => by simp at e; subst e; exact ⟨_, rfl, r⟩
  | _, _, i + 1, v, .cons _ t, e => by
    obtain ⟨x, e1, r⟩ := RVs.getV (i := i) (v := v) t (by simpa using e)
    exact ⟨x, by simpa using e1, r⟩
theorem RVs.append : ∀ {xs ys : List AV} {vs ws : List V}, RVs G ι H xs vs → RVs G ι H ys ws → RVs G ι H (xs ++ ys) (vs ++ ws)
  | _, _, _, _, .nil, s => s
  | _, _, _, _, .cons r t, s => .cons r (RVs.append t s)
theorem RVs.drop : ∀ {xs : List AV} {vs : List V} (n : Nat), RVs G ι H xs vs → RVs G ι H (xs.drop n) (vs.drop n)
  | _, _, 0, r => by simpa using r
  | _, _, _ + 1, .nil => by simpa using RVs.nil
  | _, _, n + 1, .cons _ t => by simpa using RVs.drop n t
theorem RVs.take : ∀ {xs : List AV} {vs : List V} (n : Nat), RVs G ι H xs vs → RVs G ι H (xs.take n) (vs.take n)
  | _, _, 0, _ => by simpa using RVs.nil
  | _, _, _ + 1, .nil => by simpa using RVs.nil
  | _, _, n + 1, .cons r t => by simpa using RVs.cons r (RVs.take n t)
theorem RVs.set {x : AV} {v : V} (r : RV G ι H x v) : ∀ {xs : List AV} {vs : List V} (i : Nat), RVs G ι H xs vs → RVs G ι H (xs.set i x) (vs.set i v)
  | _, _, _, .nil => by simpa using RVs.nil
  | _, _, 0, .cons _ t => by simpa using RVs.cons r t
  | _, _, i + 1, .cons q t => by simpa using RVs.cons q (RVs.set r i t)
theorem RVs.bls : ∀ {bs : List Bool} {vs : List V}, RVs G ι H (bs.map AV.bl) vs → vs = bs.map V.bl
  | [], _, .nil => rfl
  | b :: bs, _, .cons r t => by cases r; rw [RVs.bls t]; rfl
theorem RVs.ints : ∀ {bs : List Int} {vs : List V}, RVs G ι H (bs.map AV.int) vs → vs = bs.map V.int
  | [], _, .nil => rfl
  | b :: bs, _, .cons r t => by cases r; rw [RVs.ints t]; rfl
theorem RVs.strs : ∀ {bs : List Str} {vs : List V}, RVs G ι H (bs.map AV.str) vs → vs = bs.map V.str
  | [], _, .nil => rfl
  | b :: bs, _, .cons r t => by cases r; rw [RVs.strs t]; rfl
theorem RVs.ofInts : ∀ (bs : List Int), RVs G ι H (bs.map AV.int) (bs.map V.int)
  | [] => .nil
  | b :: bs => .cons (.int b) (RVs.ofInts bs)
theorem RVs.ofStrs : ∀ (bs : List Str), RVs G ι H (bs.map AV.str) (bs.map V.str)
  | [] => .nil
  | b :: bs => .cons (.str b) (RVs.ofStrs bs)
/-- a new object that the machine leaves as it is -/
theorem Ext.fresh {p : Addr} {u : HO} (n : H p = none) : Ext ι H ι (upd H p u) :=
  ⟨[], by simp, fun a o _ e => ⟨by rw [upd_ne (ne_of_none e n)]; exact e, by simp⟩⟩
theorem RH.in_ {h : AH} (r : RH G ι H h) {a : Addr} (ha : a ∈ ι) : ∃ (n : Nat) (o : AO) (u : HO), ι[n]? = some a ∧ h[n]? = some o ∧ H a = some u ∧ RO G ι H o u := by
  obtain ⟨n, hn, e⟩ := List.mem_iff_getElem.mp ha
  have hn2 : n < h.length := by rw [← r.len]; exact hn
  have e1 : ι[n]? = some a := by rw [List.getElem?_eq_getElem hn, e]
  obtain ⟨u, e2, q⟩ := r.at_ n h[n] a (by simp [hn2]) e1
  exact ⟨n, _, u, e1, by simp [hn2], e2, q⟩
theorem RH.notin {h : AH} (r : RH G ι H h) {p : Addr} (n : H p = none) : p ∉ ι := fun hp => by
  obtain ⟨_, _, u, _, _, e, _⟩ := r.in_ hp
  rw [n] at e
  cases e
theorem RH.off {h : AH} (r : RH G ι H h) {p : Addr} (n : H p = none) : Off_ G ι p := ⟨r.notin n, fun z => by
  obtain ⟨_, o, e⟩ := r.hd p z
  rw [n] at e
  cases e⟩
theorem RH.fresh {h : AH} (r : RH G ι H h) {p : Addr} {u : HO} (n : H p = none) : RH G ι (upd H p u) h :=
  ⟨r.len, r.nd, fun a ha => by
    obtain ⟨h1, o, e⟩ := r.hd a ha
    exact ⟨h1, o, by rw [upd_ne (ne_of_none e n)]; exact e⟩, fun i o a e1 e2 => by
    obtain ⟨v, e3, q⟩ := r.at_ i o a e1 e2
    exact ⟨v, by rw [upd_ne (ne_of_none e3 n)]; exact e3, q.mono (Ext.fresh n)⟩⟩
theorem Fz.new {h : AH} (r : RH G ι H h) {p : Addr} {u : HO} (n : H p = none) : Fz G ι (upd H p u) p u := ⟨r.off n, .inl upd_same⟩
theorem RL.new {h : AH} (r : RH G ι H h) {p : Addr} {vs : List V} (n : H p = none) : RL G ι (upd H p (.lst vs)) p vs := ⟨r.off n, upd_same⟩
theorem RT.new {h : AH} (r : RH G ι H h) {p : Addr} {vs : List V} (n : H p = none) : RT G ι (upd H p (.tup vs)) p vs := .inl (Fz.new r n)
/-- a new object of the machine's own -/
theorem Ext.alloc {h : AH} (r : RH G ι H h) {p : Addr} {u : HO} (n : H p = none) : Ext ι H (ι ++ [p]) (upd H p u) :=
  ⟨[p], rfl, fun a o ha e => ⟨by rw [upd_ne (ne_of_none e n)]; exact e, by simpa using ne_of_none e n⟩⟩
theorem RH.alloc {h : AH} (r : RH G ι H h) {p : Addr} {u : HO} {o : AO} (n : H p = none) (q : RO G ι H o u) : RH G (ι ++ [p]) (upd H p u) (h ++ [o]) := by
  have x : Ext ι H (ι ++ [p]) (upd H p u) := Ext.alloc r n
  refine ⟨by simp [r.len], ?_, fun a ha => ?_, fun i o' a e1 e2 => ?_⟩
  rotate_left
  · obtain ⟨h1, o, e⟩ := r.hd a ha
    exact ⟨by simpa [h1] using ne_of_none e n, o, by rw [upd_ne (ne_of_none e n)]; exact e⟩
  rotate_left
  · rw [List.nodup_append]
    refine ⟨r.nd, by simp, fun a ha b hb => ?_⟩
    have hb' : b = p := by simpa using hb
    rw [hb']
    intro z
    exact r.notin n (z ▸ ha)
  · by_cases hi : i < ι.length
    · rw [List.getElem?_append_left hi] at e2
      rw [List.getElem?_append_left (by rw [← r.len]; exact hi)] at e1
      obtain ⟨v, e3, q'⟩ := r.at_ i o' a e1 e2
      exact ⟨v, by rw [upd_ne (ne_of_none e3 n)]; exact e3, q'.mono x⟩
    · have hi2 : i = ι.length := by
        have := (List.getElem?_eq_some_iff.mp e2).1
        simp at this
        omega
      subst hi2
      rw [List.getElem?_append_right (Nat.le_refl _)] at e2
      rw [List.getElem?_append_right (by rw [← r.len]; exact Nat.le_refl _), r.len] at e1
      simp at e1 e2
      subst e1 e2
      exact ⟨u, upd_same, q.mono x⟩
/-- an object of the machine's own is changed -/
theorem Ext.write {n : Nat} {a : Addr} {u : HO} (e : ι[n]? = some a) : Ext ι H ι (upd H a u) :=
  ⟨[], by simp, fun b o hb q => ⟨by
    have hne : b ≠ a := fun z => hb (by rw [z]; exact List.mem_of_getElem? e)
    rw [upd_ne hne]; exact q, by simp⟩⟩
theorem RH.write {h : AH} (r : RH G ι H h) {n : Nat} {a : Addr} {u : HO} {o : AO} (e : ι[n]? = some a) (q : RO G ι H o u) : RH G ι (upd H a u) (h.set n o) := by
  have x : Ext ι H ι (upd H a u) := Ext.write e
  refine ⟨by simp [r.len], r.nd, fun b hb => ?_, fun i o' b e1 e2 => ?_⟩
  · obtain ⟨h1, o, e3⟩ := r.hd b hb
    have hne : b ≠ a := fun z => h1 (by rw [z]; exact List.mem_of_getElem? e)
    exact ⟨h1, o, by rw [upd_ne hne]; exact e3⟩
  by_cases hi : i = n
  · subst hi
    rw [e] at e2
    cases e2
    have hl : i < h.length := by rw [← r.len]; exact (List.getElem?_eq_some_iff.mp e).1
    rw [List.getElem?_set_self hl] at e1
    cases e1
    exact ⟨u, upd_same, q.mono x⟩
  · rw [List.getElem?_set_ne (Ne.symm hi)] at e1
    obtain ⟨v, e3, q'⟩ := r.at_ i o' b e1 e2
    refine ⟨v, ?_, q'.mono x⟩
    rw [upd_ne]
    · exact e3
    · intro z
      subst z
      exact hi (nodup_ix' r.nd e2 e)
where
  nodup_ix' {l : List Addr} (hN : l.Nodup) {i j : Nat} {x : Addr} (a : l[i]? = some x) (b : l[j]? = some x) : i = j := by
    obtain ⟨h1, e1⟩ := List.getElem?_eq_some_iff.mp a
    obtain ⟨h2, e2⟩ := List.getElem?_eq_some_iff.mp b
    exact (List.getElem_inj hN).mp (e1.trans e2.symm)
end
/-! ### from one look at the heap to another -/
structure Mv (G : Gh) (ι : List Addr) (H : Hp) (G' : Gh) (ι' : List Addr) (H' : Hp) : Prop where
  K : G'.K = G.K
  ga : G'.ga = G.ga
  ix : ∀ (n : Nat) (a : Addr), ι[n]? = some a → ι'[n]? = some a
  at_ : ∀ a o, Off_ G ι a → H a = some o → H' a = some o ∧ Off_ G' ι' a
section
variable {G G' : Gh} {ι ι' : List Addr} {H H' : Hp}
theorem Fz.move {a : Addr} {u : HO} (x : Mv G ι H G' ι' H') (f : Fz G ι H a u) : Fz G' ι' H' a u := by
  obtain ⟨h1, h2⟩ := f
  rcases h2 with h2 | ⟨o, h2⟩
  · obtain ⟨e, m⟩ := x.at_ a _ h1 h2
    exact ⟨m, .inl e⟩
  · obtain ⟨e, m⟩ := x.at_ a _ h1 h2
    exact ⟨m, .inr ⟨o, e⟩⟩
theorem Xd.move {d : Option Addr} {fs : List (Str × V)} (x : Mv G ι H G' ι' H') (r : Xd G ι H d fs) : Xd G' ι' H' d fs := by
  rcases r with r | ⟨dx, e, r⟩
  · exact .inl r
  · exact .inr ⟨dx, e, r.move x⟩
theorem RL.move {a : Addr} {xs : List V} (x : Mv G ι H G' ι' H') (f : RL G ι H a xs) : RL G' ι' H' a xs := by
  obtain ⟨e, m⟩ := x.at_ a _ f.1 f.2
  exact ⟨m, e⟩
theorem RE_.move {a : Addr} {xs : List V} (x : Mv G ι H G' ι' H') (r : RE_ G ι H a xs) : RE_ G' ι' H' a xs := by
  rcases r with r | r
  · exact .inl (r.move x)
  · exact .inr (by rw [x.K]; exact r)
theorem RT.move {a : Addr} {xs : List V} (x : Mv G ι H G' ι' H') (r : RT G ι H a xs) : RT G' ι' H' a xs := by
  rcases r with r | r
  · exact .inl (r.move x)
  · exact .inr (by rw [x.K]; exact r)
mutual
theorem RV.move (x : Mv G ι H G' ι' H') : ∀ {v : AV} {u : V}, RV G ι H v u → RV G' ι' H' v u
  | _, _, .non => .non
  | _, _, .bl b => .bl b
  | _, _, .int i => .int i
  | _, _, .str s => .str s
  | _, _, .ty n => .ty n
  | _, _, .tup t r => .tup (t.move x) (RVs.move x r)
  | _, _, .lst t r => .lst (t.move x) (RVs.move x r)
  | _, _, .ext t r => .ext (t.move x) (RVs.move x r)
  | _, _, .dic f e r => .dic (f.move x) e (RVs.move x r)
  | _, _, .ref e => .ref (x.ix _ _ e)
  | _, _, .glo e => .glo (by rw [x.ga]; exact e)
  | _, _, .xo e f d r => .xo (by rw [x.ga]; exact e) (f.move x) (d.move x) (RFs.move x r)
theorem RVs.move (x : Mv G ι H G' ι' H') : ∀ {v : List AV} {u : List V}, RVs G ι H v u → RVs G' ι' H' v u
  | _, _, .nil => .nil
  | _, _, .cons r t => .cons (RV.move x r) (RVs.move x t)
theorem RFs.move (x : Mv G ι H G' ι' H') : ∀ {v : List (Str × AV)} {u : List (Str × V)}, RFs G ι H v u → RFs G' ι' H' v u
  | _, _, .nil => .nil
  | _, _, .cons r t => .cons (RV.move x r) (RFs.move x t)
end
theorem RO.move (x : Mv G ι H G' ι' H') {o : AO} {u : HO} (r : RO G ι H o u) : RO G' ι' H' o u := by
  cases o with
  | lst xs => obtain ⟨vs, e, q⟩ := r; exact ⟨vs, e, q.move x⟩
  | dic ks xs => obtain ⟨kvs, e, e2, q⟩ := r; exact ⟨kvs, e, e2, q.move x⟩
  | ins c fs => obtain ⟨C, dx, fs', e, e2, q⟩ := r; exact ⟨C, dx, fs', e, by rw [x.ga]; exact e2, q.move x⟩
theorem RS.move {ρ : AM.Env} {σ : L2.St} (x : Mv G ι H G' ι' H') (r : RS G ι H ρ σ) : RS G' ι' H' ρ σ :=
  ⟨r.1, fun i v e => by
    obtain ⟨u, e1, q⟩ := r.2 i v e
    exact ⟨u, e1, q.move x⟩⟩
/-- one object more is hidden: it is new -/
theorem Mv.hide {D : Addr} (n : H D = none) : Mv G ι H (G.hide (D :: G.hid)) ι H := ⟨rfl, rfl, fun _ _ e => e, fun a o h e => ⟨e, h.1, by
  show a ∉ D :: G.hid
  simp only [List.mem_cons, not_or]
  exact ⟨ne_of_none e n, h.2⟩⟩⟩
theorem Mv.show_ {D : Addr} : Mv (G.hide (D :: G.hid)) ι H G ι H := ⟨rfl, rfl, fun _ _ e => e, fun a o h e => ⟨e, h.1, fun z => h.2 (List.mem_cons_of_mem D z)⟩⟩
/-- a hidden object is changed -/
theorem Mv.hidW {D : Addr} {u : HO} (hD : D ∈ G.hid) : Mv G ι H G ι (upd H D u) := ⟨rfl, rfl, fun _ _ e => e, fun a o h e => ⟨by
  rw [upd_ne fun z => h.2 (by rw [z]; exact hD)]
  exact e, h⟩⟩
theorem RH.hidW {h : AH} {D : Addr} {u : HO} (r : RH G ι H h) (hD : D ∈ G.hid) : RH G ι (upd H D u) h := by
  refine ⟨r.len, r.nd, fun a ha => ⟨(r.hd a ha).1, ?_⟩, fun n o a e1 e2 => ?_⟩
  · by_cases z : a = D
    · rw [z]; exact ⟨u, upd_same⟩
    · rw [upd_ne z]; exact (r.hd a ha).2
  · obtain ⟨v, e3, q⟩ := r.at_ n o a e1 e2
    refine ⟨v, ?_, q.move (Mv.hidW hD)⟩
    rw [upd_ne]
    · exact e3
    · intro z
      subst z
      exact (r.hd _ hD).1 (List.mem_of_getElem? e2)
theorem RH.hide {h : AH} {D : Addr} {u : HO} (r : RH G ι H h) (n : H D = none) : RH (G.hide (D :: G.hid)) ι (upd H D u) h := by
  have x : Mv G ι H (G.hide (D :: G.hid)) ι (upd H D u) := ⟨rfl, rfl, fun _ _ e => e, fun a o h e => ⟨by rw [upd_ne (ne_of_none e n)]; exact e, ((Mv.hide n).at_ a o h e).2⟩⟩
  refine ⟨r.len, r.nd, fun a ha => ?_, fun k o a e1 e2 => ?_⟩
  · rcases List.mem_cons.mp (show a ∈ D :: G.hid from ha) with z | z
    · subst z
      exact ⟨r.notin n, u, upd_same⟩
    · obtain ⟨h1, o, e⟩ := r.hd a z
      exact ⟨h1, o, by rw [upd_ne (ne_of_none e n)]; exact e⟩
  · obtain ⟨v, e3, q⟩ := r.at_ k o a e1 e2
    exact ⟨v, by rw [upd_ne (ne_of_none e3 n)]; exact e3, q.move x⟩
theorem RH.show_ {h : AH} {D : Addr} (r : RH (G.hide (D :: G.hid)) ι H h) : RH G ι H h :=
  ⟨r.len, r.nd, fun a ha => r.hd a (List.mem_cons_of_mem D ha), fun n o a e1 e2 => by
    obtain ⟨v, e3, q⟩ := r.at_ n o a e1 e2
    exact ⟨v, e3, q.move Mv.show_⟩⟩
end
end AM
/-! AMb: judgements by the machine's meanings; operators by values. -/
namespace AM
open PySem PySem.Spec PyProof.Rows L2

/-- an exception that flies: its class, its own dict -/
def RX (G : Gh) (ι : List Addr) (H : Hp) (c : Str) (fs : List (Str × AV)) (C : Addr) (d : Option Addr) : Prop :=
  G.ga c = some C ∧ ((d = none ∧ fs = []) ∨ ∃ dx fs', d = some dx ∧ Fz G ι H dx (.xd fs') ∧ RFs G ι H fs fs')
/-- what is wanted behind an end of the machine -/
def Post {α β : Type} (G : Gh) (R : List Addr → Hp → α → β → Prop) (W : WX) (σ : L2.St) (ι : List Addr) (H : Hp) (Q : β → Hp → Prop) : Res α → Prop
  | .ok a h' => ∀ ι' H' u, Ext ι H ι' H' → RH G ι' H' h' → R ι' H' a u → Q u H'
  | .exc c fs h' => ∀ ι' H' C d, Ext ι H ι' H' → RH G ι' H' h' → RX G ι' H' c fs C d → W (.ref C) d σ H'
  | .stk => False
section
variable {α β γ δ : Type} {G : Gh} {R : List Addr → Hp → α → β → Prop} {R' : List Addr → Hp → γ → δ → Prop} {W : WX} {σ : L2.St} {ι ι1 : List Addr} {H H1 : Hp} {Q : β → Hp → Prop} {Q' : δ → Hp → Prop}
theorem Post.ext (x : Ext ι H ι1 H1) {r : Res α} (p : Post G R W σ ι H Q r) : Post G R W σ ι1 H1 Q r := by
  cases r with
  | ok a h => exact fun ι' H' u x' => p ι' H' u (x.trans x')
  | exc c fs h => exact fun ι' H' C d x' => p ι' H' C d (x.trans x')
  | stk => exact p
theorem Post.bind {r : Res α} {f : α → AH → Res γ} {K : β → Hp → Prop} (p : Post G R' W σ ι H Q' (r.bind f))
    (k : ∀ ι1 H1 a u h1, Ext ι H ι1 H1 → RH G ι1 H1 h1 → R ι1 H1 a u → Post G R' W σ ι1 H1 Q' (f a h1) → K u H1) : Post G R W σ ι H K r := by
  cases r with
  | ok a h => exact fun ι' H' u x rh r => k ι' H' a u h x rh r (Post.ext x p)
  | exc c fs h => exact p
  | stk => exact p
theorem Post.bindE {r : Res α} {f : α → AH → Res γ} {K : β → Hp → Prop} (p : Post G R' W σ ι H Q' (r.bind f))
    (k : ∀ ι1 H1 a u h1, r = .ok a h1 → Ext ι H ι1 H1 → RH G ι1 H1 h1 → R ι1 H1 a u → Post G R' W σ ι1 H1 Q' (f a h1) → K u H1) : Post G R W σ ι H K r := by
  cases r with
  | ok a h => exact fun ι' H' u x rh r => k ι' H' a u h rfl x rh r (Post.ext x p)
  | exc c fs h => exact p
  | stk => exact p
/-- an end at once -/
theorem Post.now {a : α} {u : β} {h : AH} (p : Post G R W σ ι H Q (.ok a h)) (rh : RH G ι H h) (r : R ι H a u) : Q u H := p ι H u Ext.refl rh r
theorem Post.at {a : α} {u : β} {h : AH} (p : Post G R W σ ι H Q (.ok a h)) (x : Ext ι H ι1 H1) (rh : RH G ι1 H1 h) (r : R ι1 H1 a u) : Q u H1 := p ι1 H1 u x rh r
end
/-- readings by the machine's meanings -/
def RE (G : Gh) (W : WX) (m : ME) : TE := fun σ H Q => ∃ ι ρ h, RH G ι H h ∧ RS G ι H ρ σ ∧ Post G (RV G) W σ ι H Q (m ρ h)
def RA (G : Gh) (W : WX) (m : MEs) : TA := fun σ H Q => ∃ ι ρ h, RH G ι H h ∧ RS G ι H ρ σ ∧ Post G (RVs G) W σ ι H Q (m ρ h)
def RB : List Addr → Hp → Bool → Bool → Prop := fun _ _ a b => a = b
def RTt (G : Gh) (W : WX) (m : AM.Env → AH → Res Bool) : TT := fun σ H Q => ∃ ι ρ h, RH G ι H h ∧ RS G ι H ρ σ ∧ Post G RB W σ ι H Q (m ρ h)
theorem PE_imp {X : Cx} {e : Expr} {t t' : TE} (h : PE X e t) (i : ∀ σ H Q, t' σ H Q → t σ H Q) : PE X e t' := ⟨fun pins s σ H Q I q => h.run pins s σ H Q I (i σ H Q q)⟩
theorem PT_imp {X : Cx} {e : Expr} {t t' : TT} (h : PT X e t) (i : ∀ σ H Q, t' σ H Q → t σ H Q) : PT X e t' := ⟨fun pins s σ H Q I q => h.run pins s σ H Q I (i σ H Q q)⟩
theorem PW_imp {X : Cx} {e : Expr} {t t' : TT} (h : PW X e t) (i : ∀ σ H Q, t' σ H Q → t σ H Q) : PW X e t' := ⟨fun w pins s σ H Q I q => h.run w pins s σ H Q I (i σ H Q q)⟩
theorem PA_imp {X : Cx} {e : List Expr} {t t' : TA} (h : PA X e t) (i : ∀ σ H Q, t' σ H Q → t σ H Q) : PA X e t' := ⟨fun pos pins s σ H Q I q => h.run pos pins s σ H Q I (i σ H Q q)⟩
theorem PS_imp {X : Cx} {e : Stmt} {t t' : TS} (h : PS X e t) (i : ∀ D σ H, t' D σ H → t D σ H) : PS X e t' := ⟨fun pins s σ H D I q => h.run pins s σ H D I (i D σ H q)⟩
theorem PSs_imp {X : Cx} {e : List Stmt} {t t' : TS} (h : PSs X e t) (i : ∀ D σ H, t' D σ H → t D σ H) : PSs X e t' := ⟨fun pins s σ H D I q => h.run pins s σ H D I (i D σ H q)⟩
theorem PE_stk {X : Cx} {e : Expr} {G : Gh} {W : WX} {m : ME} (hm : ∀ ρ h, m ρ h = .stk) : PE X e (RE G W m) := ⟨fun pins s σ H Q I q => by
  obtain ⟨ι, ρ, h, _, _, p⟩ := q
  rw [hm] at p
  exact p.elim⟩

/-! ### operators by values -/
/-- a two-place operator of the machine -/
abbrev Op2 := AV → AV → AH → Res AV
/-- what a rule's reading r asks is answered by the machine's f -/
def OpAns (G : Gh) (f : Op2) (r : R2) : Prop := ∀ (W : WX) (σ : L2.St) (ι : List Addr) (H : Hp) (h : AH) (v w : AV) (u1 u2 : V) (Q : VK), RH G ι H h → RV G ι H v u1 → RV G ι H w u2 → Post G (RV G) W σ ι H Q (f v w h) → r u1 u2 H Q
def bin2 (a b : ME) (f : Op2) : ME := fun ρ h => (a ρ h).bind fun v h1 => (b ρ h1).bind fun w h2 => f v w h2
section
variable {X : Cx} {G : Gh} {W : WX} {a b : Expr} {ma mb : ME} {f : Op2} {r : R2} {pos : Pos}
theorem RE.two {tt : TE} (i : ∀ σ H Q, RE G W ma σ H (fun x H1 => RE G W mb σ H1 fun y H2 => r x y H2 Q) → tt σ H Q) (ans : OpAns G f r) : ∀ σ H Q, RE G W (bin2 ma mb f) σ H Q → tt σ H Q := fun σ H Q ⟨ι, ρ, h, rh, rs, p⟩ =>
  i σ H Q ⟨ι, ρ, h, rh, rs, Post.bind p fun ι1 H1 v u1 h1 x1 rh1 rv1 p1 => ⟨ι1, ρ, h1, rh1, rs.mono x1, Post.bind p1 fun ι2 H2 w u2 h2 x2 rh2 rv2 p2 => ans W σ ι2 H2 h2 v w u1 u2 Q rh2 (rv1.mono x2) rv2 p2⟩⟩
theorem re_op {op : Operator} (ho : OpR X (binaryOp op) r) (ans : OpAns G f r) (ha : PE X a (RE G W ma)) (hb : PE X b (RE G W mb)) : PE X (.BinOp a op b pos) (RE G W (bin2 ma mb f)) :=
  PE_imp (pe_op ho ha hb) (RE.two (fun _ _ _ z => z) ans)
theorem re_cmp {op : CmpOp} (ho : OpR X (compareOp op) r) (ans : OpAns G f r) (hm : behindInMarks op b = false) (ha : PE X a (RE G W ma)) (hb : PE X b (RE G W mb)) : PE X (.Compare a [op] [b] pos) (RE G W (bin2 ma mb f)) :=
  PE_imp (pe_cmpR ho ha hb hm) (RE.two (fun _ _ _ z => z) ans)
end
section
variable {G : Gh} {f f' : Op2} {r r' : R2}
theorem OpAns.or (h : ∀ v w, f v w = f' v w ∨ f v w = fun _ => .stk) : True := trivial
end
/-! ### the operators -/
def lenOk (n : Nat) : Bool := Nat.ble n sizeLine
theorem lenOk_le {n : Nat} (h : lenOk n = true) : n ≤ sizeLine := Nat.le_of_ble_eq_true h
/-- + -/
def addO : Op2 := fun v w h => match v, w with
  | .int i, .int j => .ok (.int (i + j)) h
  | .str x, .str y => if lenOk (x.length + y.length) then .ok (.str (x ++ y)) h else .stk
  | .tup xs, .tup ys => if lenOk (xs.length + ys.length) then .ok (.tup (xs ++ ys)) h else .stk
  | .lst xs, .lst ys => if lenOk (xs.length + ys.length) then .ok (.lst (xs ++ ys)) h else .stk
  | _, _ => .stk
def subO : Op2 := fun v w h => match v, w with
  | .int i, .int j => .ok (.int (i - j)) h
  | _, _ => .stk
instance {x : Str} {n : Int} : Decidable (MulOk x n) := by unfold MulOk; infer_instance
def rMulS : R2 := fun x y H Q => ∃ a n, x = .str a ∧ y = .int n ∧ MulOk a n ∧ Q (.str (Txt.mul a n)) H
theorem op_mulS {X : Cx} : OpR X (binaryOp .Mult) rMulS := by
  intro pins s σ H x y v u Q I rx ry h
  obtain ⟨a, n, rfl, rfl, hm, q⟩ := h
  obtain ⟨t, rfl⟩ := rx
  obtain ⟨t', rfl⟩ := ry
  exact SB.mul hm fun t2 k => ⟨.str _, H, I.tok _, ⟨_, rfl⟩, q⟩
theorem tuple_mul0 (l : Addr) (items : Array Value) (n : Nat) (dd : Option Addr) (sl : Array (Option Value)) (x : Int) (u : Tok) (c0 : (decide (x < -(2 ^ 63)) || decide (x ≥ 2 ^ 63)) = false) (c1 : (items.isEmpty || x == 1) = true) :
    Meets (Builtin.«tuple.__mul__» ⟨[.ref l, .int x u], []⟩) (fun _ R s => s.heap.get? l = some { cls := .type "tuple", dict := dd, data := .seq items n, slots := sl } ∧ R (.ok (.ret (Value.ref l))) s) :=
  .of_wp fun prog w A R s h => by
    obtain ⟨hp, g, d, tk, os⟩ := s
    obtain ⟨hl, h⟩ := h
    have f1 := AutoSeq1.idx_int
    wp_walk using wpAny_loadPart' hl
    repeat (first
      | (refine wpAny_ite_false (decide_eq_false (by rw [c0]; exact Bool.false_ne_true)) ?_; wp_walk using wpAny_loadPart' hl)
      | (refine wpAny_ite_true (decide_eq_true c1) ?_; wp_walk using wpAny_loadPart' hl))
    exact ⟨_, rfl, h⟩
/-- () * k -/
def rRep0 (K : PySem.W.Frag) : R2 := fun x y H Q => ∃ l k, x = .ref l ∧ y = .int k ∧ SqT K H l [] ∧ 2 ≤ k ∧ k ≤ 1000 ∧ Q (.ref l) H
theorem op_rep0 {X : Cx} : OpR X (binaryOp .Mult) (rRep0 X.K) := by
  intro pins s σ H x y v u Q I rx ry h
  obtain ⟨l, k, rfl, rfl, hT, h1, h2, q⟩ := h
  cases rx
  obtain ⟨t, rfl⟩ := ry
  obtain ⟨its, r, ⟨⟨cls, dd, data, sl⟩, ho, hc, n, hd⟩, hs⟩ := I.tuple hT
  simp only at hc hd
  subst hc hd
  cases r
  have c0 : (decide (k < -(2 ^ 63)) || decide (k ≥ 2 ^ 63)) = false := by
    rw [decide_eq_false (by omega), decide_eq_false (by omega)] <;> rfl
  refine wpAny_binaryOp_repeat_ref (T := "tuple") (U := "int") (by decide) ⟨_, ho, rfl⟩ (fun s' => typeIs_int s' k t) noFill_tuple_mul F.fills_int_mul F.slot_int_rmul repeat_tuple F.slot_int_index.lookup
    (call_meets F.slot_int_rmul (typeIs_int s k t) F.entry_int_rmul (F.args_int_rmul_2 _ _) (int_rmul_tuple k t l _ n dd sl)
      ⟨ho, rfl, ⟨_, ho, rfl⟩, call_meets F.slot_tuple_mul ⟨_, ho, rfl⟩ F.entry_tuple_mul (F.args_tuple_mul_2 _ _) (tuple_mul0 l _ n dd sl k t c0 rfl) ⟨ho, ?_⟩⟩)
  exact ⟨.ref l, _, I, rfl, q⟩
theorem RVs.flat {G : Gh} {ι : List Addr} {H : Hp} {xs : List AV} {vs : List V} (r : RVs G ι H xs vs) : ∀ k : Nat, RVs G ι H (List.replicate k xs).flatten (List.replicate k vs).flatten
  | 0 => .nil
  | k + 1 => by
    rw [List.replicate_succ, List.replicate_succ, List.flatten_cons, List.flatten_cons]
    exact r.append (RVs.flat r k)
instance {xs : List AV} : Decidable (xs = []) := match xs with
  | [] => isTrue rfl
  | _ :: _ => isFalse (by simp)
def mulO : Op2 := fun v w h => match v, w with
  | .int i, .int j => if i.natAbs.log2 + j.natAbs.log2 < 1000000 then .ok (.int (i * j)) h else .stk
  | .str x, .int n => if MulOk x n then .ok (.str (Txt.mul x n)) h else .stk
  | .lst xs, .int k => if xs.length ≤ 1000 ∧ 0 ≤ k ∧ k ≤ 1000 then .ok (.lst (List.replicate k.toNat xs).flatten) h else .stk
  | .tup xs, .int k => if xs = [] ∧ 2 ≤ k ∧ k ≤ 1000 then .ok (.tup []) h else if xs.length ≤ 1000 ∧ 2 ≤ k ∧ k ≤ 1000 then .ok (.tup (List.replicate k.toNat xs).flatten) h else .stk
  | _, _ => .stk
def modO : Op2 := fun v w h => match v, w with
  | .int i, .int j => if 0 < j then .ok (.int (i % j)) h else .stk
  | _, _ => .stk
def divO : Op2 := fun v w h => match v, w with
  | .int i, .int j => if 0 < j ∧ j.natAbs.log2 < 9000 then .ok (.int (i / j)) h else .stk
  | _, _ => .stk
def powO : Op2 := fun v w h => match v, w with
  | .int i, .int j => if 0 ≤ j ∧ j ≤ 1000000 ∧ i.natAbs < 2 ^ 64 then .ok (.int (i ^ j.toNat)) h else .stk
  | _, _ => .stk
def binO (op : Operator) : Op2 := match op with
  | .Add => addO | .Sub => subO | .Mult => mulO | .Mod => modO | .FloorDiv => divO | .Pow => powO
  | _ => fun _ _ _ => .stk
section
variable {X : Cx} {G : Gh}
theorem inv_int {ι : List Addr} {H : Hp} {i : Int} {u : V} (r : RV G ι H (.int i) u) : u = .int i := by cases r; rfl
theorem inv_str {ι : List Addr} {H : Hp} {i : Str} {u : V} (r : RV G ι H (.str i) u) : u = .str i := by cases r; rfl
theorem ans_int {g : Int → Int → V} {k : Int → Int → AV} {c : Int → Int → Bool} (hg : ∀ ι H i j, RV G ι H (k i j) (g i j)) :
    OpAns G (fun v w h => match v, w with | .int i, .int j => if c i j = true then .ok (k i j) h else .stk | _, _ => .stk) (rI (fun i j => c i j = true) g) := by
  intro W σ ι H h v w u1 u2 Q rh r1 r2 p
  cases r1 with
  | int i => cases r2 with
    | int j =>
      by_cases q : c i j = true
      · have p : Post G (RV G) W σ ι H Q (if c i j = true then .ok (k i j) h else .stk) := p
        rw [if_pos q] at p
        exact ⟨i, j, rfl, rfl, q, p.now rh (hg ι H i j)⟩
      · have p : Post G (RV G) W σ ι H Q (if c i j = true then .ok (k i j) h else .stk) := p
        rw [if_neg q] at p
        exact p.elim
    | _ => exact p.elim
  | _ => exact False.elim (by cases r2 <;> exact p)
theorem ans_add : OpAns G addO (fun x y H Q => rI0 (fun i j => .int (i + j)) x y H Q ∨ (∃ i j, x = .str i ∧ y = .str j ∧ i.length + j.length ≤ sizeLine ∧ Q (.str (i ++ j)) H) ∨ rCatA G.K x y H Q ∨ rCat x y H Q) := by
  intro W σ ι H h v w u1 u2 Q rh r1 r2 p
  cases r1 with
  | int i => cases r2 with
    | int j => exact .inl ⟨i, j, rfl, rfl, p.now rh (.int _)⟩
    | _ => exact p.elim
  | str x => cases r2 with
    | str y =>
      by_cases q : lenOk (x.length + y.length) = true
      · have p : Post G (RV G) W σ ι H Q (if lenOk (x.length + y.length) = true then .ok (.str (x ++ y)) h else .stk) := p
        rw [if_pos q] at p
        exact .inr (.inl ⟨x, y, rfl, rfl, lenOk_le q, p.now rh (.str _)⟩)
      · have p : Post G (RV G) W σ ι H Q (if lenOk (x.length + y.length) = true then .ok (.str (x ++ y)) h else .stk) := p
        rw [if_neg q] at p
        exact p.elim
    | _ => exact p.elim
  | @tup xs a vs t1 q1 => cases r2 with
    | @tup ys b ws t2 q2 =>
      by_cases q : lenOk (xs.length + ys.length) = true
      · have p : Post G (RV G) W σ ι H Q (if lenOk (xs.length + ys.length) = true then .ok (.tup (xs ++ ys)) h else .stk) := p
        rw [if_pos q] at p
        refine .inr (.inr (.inl ⟨a, b, vs, ws, rfl, rfl, t1.sq, t2.sq, by rw [← q1.length, ← q2.length]; exact lenOk_le q, fun e => ?_, fun e1 e2 => ?_, fun e1 e2 pp np => ?_⟩))
        · subst e
          cases q1
          exact p.now rh (.tup t2 q2)
        · subst e2
          cases q2
          rw [List.append_nil] at p
          exact p.now rh (.tup t1 q1)
        · exact p.at (Ext.fresh np) (rh.fresh np) (.tup (RT.new rh np) ((q1.append q2).mono (Ext.fresh np)))
      · have p : Post G (RV G) W σ ι H Q (if lenOk (xs.length + ys.length) = true then .ok (.tup (xs ++ ys)) h else .stk) := p
        rw [if_neg q] at p
        exact p.elim
    | _ => exact p.elim
  | @lst xs a vs t1 q1 => cases r2 with
    | @lst ys b ws t2 q2 =>
      by_cases q : lenOk (xs.length + ys.length) = true
      · have p : Post G (RV G) W σ ι H Q (if lenOk (xs.length + ys.length) = true then .ok (.lst (xs ++ ys)) h else .stk) := p
        rw [if_pos q] at p
        refine .inr (.inr (.inr ⟨a, b, vs, ws, rfl, rfl, t1.2, t2.2, by rw [← q1.length, ← q2.length]; exact lenOk_le q, fun pp np => ?_⟩))
        exact p.at (Ext.fresh np) (rh.fresh np) (.lst (RL.new rh np) ((q1.append q2).mono (Ext.fresh np)))
      · have p : Post G (RV G) W σ ι H Q (if lenOk (xs.length + ys.length) = true then .ok (.lst (xs ++ ys)) h else .stk) := p
        rw [if_neg q] at p
        exact p.elim
    | _ => exact p.elim
  | _ => exact False.elim (by cases r2 <;> exact p)
theorem opR_add (hK : X.K = G.K) : OpR X (binaryOp .Add) (fun x y H Q => rI0 (fun i j => .int (i + j)) x y H Q ∨ (∃ i j, x = .str i ∧ y = .str j ∧ i.length + j.length ≤ sizeLine ∧ Q (.str (i ++ j)) H) ∨ rCatA G.K x y H Q ∨ rCat x y H Q) :=
  op_add.or (op_add_str.or ((hK ▸ op_catA : OpR X (binaryOp .Add) (rCatA G.K)).or op_cat))
instance {i j : Int} : Decidable (CMulW i j) := inferInstanceAs (Decidable (i.natAbs.log2 + j.natAbs.log2 < 1000000))
instance {i j : Int} : Decidable (CDivW i j) := inferInstanceAs (Decidable (0 < j ∧ j.natAbs.log2 < 9000))
instance {i j : Int} : Decidable (CPow i j) := inferInstanceAs (Decidable (0 ≤ j ∧ j ≤ 1000000 ∧ i.natAbs < 2 ^ 64))
/-- an operator on ints under a test -/
theorem re_int {f : Op2} {g : Int → Int → Int} {C : Int → Int → Prop} [∀ i j, Decidable (C i j)]
    (hf : ∀ i j h, f (.int i) (.int j) h = if C i j then .ok (.int (g i j)) h else .stk) (hn : ∀ v w h, (∀ i j, ¬ (v = .int i ∧ w = .int j)) → f v w h = .stk) : OpAns G f (rI C fun i j => .int (g i j)) := by
  intro W σ ι H h v w u1 u2 Q rh r1 r2 p
  by_cases z : ∃ i j, v = .int i ∧ w = .int j
  · obtain ⟨i, j, rfl, rfl⟩ := z
    rw [hf] at p
    rw [inv_int r1, inv_int r2]
    by_cases q : C i j
    · rw [if_pos q] at p
      exact ⟨i, j, rfl, rfl, q, p.now rh (.int _)⟩
    · rw [if_neg q] at p
      exact p.elim
  · rw [hn v w h fun i j e => z ⟨i, j, e⟩] at p
    exact p.elim
theorem notInts {f : Op2} (h1 : ∀ v w h, (∀ i, v ≠ .int i) → f v w h = .stk) (h2 : ∀ i w h, (∀ j, w ≠ .int j) → f (.int i) w h = .stk) : ∀ v w h, (∀ i j, ¬ (v = .int i ∧ w = .int j)) → f v w h = .stk := fun v w h z => by
  by_cases q : ∃ i, v = .int i
  · obtain ⟨i, rfl⟩ := q
    exact h2 i w h fun j e => z i j ⟨rfl, e⟩
  · exact h1 v w h fun i e => q ⟨i, e⟩
def binB (op : Operator) : Bool := match op with
  | .Add => true | .Sub => true | .Mult => true | .Mod => true | .FloorDiv => true | .Pow => true
  | _ => false
theorem ans_binO {op : Operator} (hK : X.K = G.K) (hb : binB op = true) : ∃ r, OpR X (binaryOp op) r ∧ OpAns G (binO op) r := by
  cases op with
  | Add => exact ⟨_, opR_add hK, ans_add⟩
  | Sub => exact ⟨_, op_sub, fun W σ ι H h v w u1 u2 Q rh r1 r2 p => by
      cases r1 with
      | int i => cases r2 with
        | int j => exact ⟨i, j, rfl, rfl, p.now rh (.int _)⟩
        | _ => exact p.elim
      | _ => exact False.elim (by cases r2 <;> exact p)⟩
  | Mult =>
    refine ⟨_, (op_mulW (X := X)).or (op_mulS.or ((hK ▸ op_rep0 : OpR X (binaryOp .Mult) (rRep0 G.K)).or ((hK ▸ op_repT : OpR X (binaryOp .Mult) (rRepT G.K)).or op_rep))), fun W σ ι H h v w u1 u2 Q rh r1 r2 p => ?_⟩
    cases r1 with
    | int i => cases r2 with
      | int j =>
        have p : Post G (RV G) W σ ι H Q (if i.natAbs.log2 + j.natAbs.log2 < 1000000 then .ok (.int (i * j)) h else .stk) := p
        by_cases q : i.natAbs.log2 + j.natAbs.log2 < 1000000
        · rw [if_pos q] at p
          exact .inl ⟨i, j, rfl, rfl, q, p.now rh (.int _)⟩
        · rw [if_neg q] at p
          exact p.elim
      | _ => exact p.elim
    | str x => cases r2 with
      | int j =>
        have p : Post G (RV G) W σ ι H Q (if MulOk x j then .ok (.str (Txt.mul x j)) h else .stk) := p
        by_cases q : MulOk x j
        · rw [if_pos q] at p
          exact .inr (.inl ⟨x, j, rfl, rfl, q, p.now rh (.str _)⟩)
        · rw [if_neg q] at p
          exact p.elim
      | _ => exact p.elim
    | @tup xs a vs t1 q1 => cases r2 with
      | int k =>
        have p2 : Post G (RV G) W σ ι H Q (if xs = [] ∧ 2 ≤ k ∧ k ≤ 1000 then .ok (.tup []) h else if xs.length ≤ 1000 ∧ 2 ≤ k ∧ k ≤ 1000 then .ok (.tup (List.replicate k.toNat xs).flatten) h else .stk) := p
        by_cases c : xs = [] ∧ 2 ≤ k ∧ k ≤ 1000
        · rw [if_pos c] at p2
          obtain ⟨rfl, c1, c2⟩ := c
          cases q1
          exact .inr (.inr (.inl ⟨a, k, rfl, rfl, t1.sq, c1, c2, p2.now rh (.tup t1 .nil)⟩))
        · rw [if_neg c] at p2
          by_cases c2 : xs.length ≤ 1000 ∧ 2 ≤ k ∧ k ≤ 1000
          · rw [if_pos c2] at p2
            have hne : vs ≠ [] := fun e => by
              subst e
              cases q1
              exact c ⟨rfl, c2.2⟩
            exact .inr (.inr (.inr (.inl ⟨a, k, vs, rfl, rfl, t1.sq, hne, c2.2.1, c2.2.2, by rw [← q1.length]; exact c2.1, fun pp np => p2.at (Ext.fresh np) (rh.fresh np) (.tup (RT.new rh np) ((q1.flat k.toNat).mono (Ext.fresh np)))⟩)))
          · rw [if_neg c2] at p2
            exact p2.elim
      | _ => exact p.elim
    | @lst xs a vs t1 q1 => cases r2 with
      | int k =>
        have p2 : Post G (RV G) W σ ι H Q (if xs.length ≤ 1000 ∧ 0 ≤ k ∧ k ≤ 1000 then .ok (.lst (List.replicate k.toNat xs).flatten) h else .stk) := p
        by_cases c : xs.length ≤ 1000 ∧ 0 ≤ k ∧ k ≤ 1000
        · rw [if_pos c] at p2
          obtain ⟨c1, c2, c3⟩ := c
          refine .inr (.inr (.inr (.inr ⟨a, k, vs, rfl, rfl, t1.2, by omega, by omega, ?_, fun pp np => p2.at (Ext.fresh np) (rh.fresh np) (.lst (RL.new rh np) ((q1.flat k.toNat).mono (Ext.fresh np)))⟩)))
          rw [← q1.length, sizeLine_eq]
          have : xs.length * k.toNat ≤ 1000 * 1000 := Nat.mul_le_mul c1 (by omega)
          omega
        · rw [if_neg c] at p2
          exact p2.elim
      | _ => exact p.elim
    | _ => exact False.elim (by cases r2 <;> exact p)
  | Mod => exact ⟨_, op_mod (X := X), re_int (C := fun _ j => 0 < j) (fun i j h => rfl) (notInts (fun v w h z => by cases v <;> first | rfl | exact absurd rfl (z _)) (fun i w h z => by cases w <;> first | rfl | exact absurd rfl (z _)))⟩
  | FloorDiv => exact ⟨_, op_fdivW (X := X), re_int (C := CDivW) (fun i j h => rfl) (notInts (fun v w h z => by cases v <;> first | rfl | exact absurd rfl (z _)) (fun i w h z => by cases w <;> first | rfl | exact absurd rfl (z _)))⟩
  | Pow => exact ⟨_, op_pow (X := X), re_int (C := CPow) (fun i j h => rfl) (notInts (fun v w h z => by cases v <;> first | rfl | exact absurd rfl (z _)) (fun i w h z => by cases w <;> first | rfl | exact absurd rfl (z _)))⟩
  | _ => cases hb
end
end AM
/-! AMc: comparisons, calls of built-ins, displays, by values. -/
namespace AM
open PySem PySem.Spec PyProof.Rows L2

/-! ### data -/
mutual
def toD : AV → Option PyData
  | .non => some .none
  | .bl b => some (.bool b)
  | .int i => some (.int i)
  | .str s => some (.str s)
  | .tup xs => match toDs xs with
    | some ds => some (.tuple ds)
    | none => none
  | .lst xs => match toDs xs with
    | some ds => some (.list ds)
    | none => none
  | .ext xs => match toDs xs with
    | some ds => some (.list ds)
    | none => none
  | .ty _ => none
  | .dic _ _ => none
  | .ref _ => none
  | .glo _ => none
  | .xo _ _ => none
def toDs : List AV → Option (List PyData)
  | [] => some []
  | x :: xs => match toD x, toDs xs with
    | some d, some ds => some (d :: ds)
    | _, _ => none
end
section
variable {G : Gh} {ι : List Addr} {H : Hp}
mutual
theorem toD_ok : ∀ (v : AV) (u : V) (d : PyData), RV G ι H v u → toD v = some d → Dp G.K H u d
  | .non, _, d, r, e => by cases r; cases (Option.some.inj (show some PyData.none = some d from e)); exact .non
  | .bl b, _, d, r, e => by cases r; cases (Option.some.inj (show some (PyData.bool b) = some d from e)); exact .bl b
  | .int b, _, d, r, e => by cases r; cases (Option.some.inj (show some (PyData.int b) = some d from e)); exact .int b
  | .str b, _, d, r, e => by cases r; cases (Option.some.inj (show some (PyData.str b) = some d from e)); exact .str b
  | .tup xs, _, d, r, e => by
    cases r with
    | tup t q =>
      unfold toD at e
      cases q2 : toDs xs with
      | none => rw [q2] at e; cases e
      | some ds =>
        rw [q2] at e
        cases e
        exact .tup t.sq (toDs_ok xs _ ds q q2)
  | .lst xs, _, d, r, e => by
    cases r with
    | lst t q =>
      unfold toD at e
      cases q2 : toDs xs with
      | none => rw [q2] at e; cases e
      | some ds =>
        rw [q2] at e
        cases e
        exact .lst t.sq (toDs_ok xs _ ds q q2)
  | .ext xs, _, d, r, e => by
    cases r with
    | ext t q =>
      unfold toD at e
      cases q2 : toDs xs with
      | none => rw [q2] at e; cases e
      | some ds =>
        rw [q2] at e
        cases e
        exact .lst t.sq (toDs_ok xs _ ds q q2)
  | .ty _, _, _, _, e => by unfold toD at e; cases e
  | .dic _ _, _, _, _, e => by unfold toD at e; cases e
  | .ref _, _, _, _, e => by unfold toD at e; cases e
  | .glo _, _, _, _, e => by unfold toD at e; cases e
  | .xo _ _, _, _, _, e => by unfold toD at e; cases e
theorem toDs_ok : ∀ (v : List AV) (u : List V) (d : List PyData), RVs G ι H v u → toDs v = some d → DpAll G.K H u d
  | [], _, d, r, e => by
    cases r
    unfold toDs at e
    cases e
    exact .nil
  | x :: xs, _, d, r, e => by
    cases r with
    | cons r t =>
      unfold toDs at e
      cases q1 : toD x with
      | none => rw [q1] at e; cases e
      | some d1 =>
        cases q2 : toDs xs with
        | none => rw [q1, q2] at e; cases e
        | some ds =>
          rw [q1, q2] at e
          cases e
          exact .cons (toD_ok x _ d1 r q1) (toDs_ok xs _ ds t q2)
end
end
/-- == -/
def eqB (v w : AV) : Option Bool := match v, w with
  | .str x, .str y => some (decide (x = y))
  | v, w => match toD v, toD w with
    | some d, some e => if SeqAt.shaped d && SeqAt.shaped e then some (PyData.eqv d e) else none
    | _, _ => none
def resB (o : Option Bool) (h : AH) : Res AV := match o with
  | some b => .ok (.bl b) h
  | none => .stk
def resBn (o : Option Bool) (h : AH) : Res AV := match o with
  | some b => .ok (.bl (!b)) h
  | none => .stk
def eqO : Op2 := fun v w h => resB (eqB v w) h
def neO : Op2 := fun v w h => resBn (eqB v w) h
theorem eqB_cases {v w : AV} {b : Bool} (e : eqB v w = some b) : (∃ x y, v = .str x ∧ w = .str y ∧ b = decide (x = y)) ∨ ∃ d d', toD v = some d ∧ toD w = some d' ∧ SeqAt.shaped d = true ∧ SeqAt.shaped d' = true ∧ b = PyData.eqv d d' := by
  unfold eqB at e
  split at e
  · exact .inl ⟨_, _, rfl, rfl, (Option.some.inj e).symm⟩
  · rename_i v' w' _
    cases q1 : toD v with
    | none => rw [q1] at e; cases e
    | some d =>
      cases q2 : toD w with
      | none => rw [q1, q2] at e; cases e
      | some d' =>
        rw [q1, q2] at e
        by_cases c : (SeqAt.shaped d && SeqAt.shaped d') = true
        · have e : (if (SeqAt.shaped d && SeqAt.shaped d') = true then some (PyData.eqv d d') else none) = some b := e
          rw [if_pos c] at e
          obtain ⟨c1, c2⟩ := Bool.and_eq_true_iff.mp c
          exact .inr ⟨d, d', rfl, rfl, c1, c2, (Option.some.inj e).symm⟩
        · have e : (if (SeqAt.shaped d && SeqAt.shaped d') = true then some (PyData.eqv d d') else none) = some b := e
          rw [if_neg c] at e
          cases e
section
variable {G : Gh}
theorem ans_eq : OpAns G eqO (fun x y H Q => rEq x y H Q ∨ rEqD G.K x y H Q) := by
  intro W σ ι H h v w u1 u2 Q rh r1 r2 p
  have p : Post G (RV G) W σ ι H Q (resB (eqB v w) h) := p
  cases e : eqB v w with
  | none => rw [e] at p; exact p.elim
  | some b =>
    rw [e] at p
    have q := Post.now (a := AV.bl b) p rh (.bl b)
    rcases eqB_cases e with ⟨x, y, rfl, rfl, rfl⟩ | ⟨d, d', e1, e2, s1, s2, rfl⟩
    · rw [inv_str r1, inv_str r2]
      refine .inl ⟨rfl, ?_⟩
      have z : decide (V.str x = V.str y) = decide (x = y) := by rw [dec_str]; exact Bool.beq_eq_decide_eq x y
      rw [z]
      exact q
    · exact .inr ⟨d, d', toD_ok v u1 d r1 e1, toD_ok w u2 d' r2 e2, s1, s2, q⟩
theorem ans_ne : OpAns G neO (fun x y H Q => rNe x y H Q ∨ rNeD G.K x y H Q) := by
  intro W σ ι H h v w u1 u2 Q rh r1 r2 p
  have p : Post G (RV G) W σ ι H Q (resBn (eqB v w) h) := p
  cases e : eqB v w with
  | none => rw [e] at p; exact p.elim
  | some b =>
    rw [e] at p
    have q := Post.now (a := AV.bl (!b)) p rh (.bl (!b))
    rcases eqB_cases e with ⟨x, y, rfl, rfl, rfl⟩ | ⟨d, d', e1, e2, s1, s2, rfl⟩
    · rw [inv_str r1, inv_str r2]
      refine .inl ⟨rfl, ?_⟩
      have z : decide (V.str x = V.str y) = decide (x = y) := by rw [dec_str]; exact Bool.beq_eq_decide_eq x y
      rw [z]
      exact q
    · exact .inr ⟨d, d', toD_ok v u1 d r1 e1, toD_ok w u2 d' r2 e2, s1, s2, q⟩
end
/-! ### < and its kin -/
def ltO : Op2 := fun v w h => match v, w with
  | .int i, .int j => .ok (.bl (decide (i < j))) h
  | .str x, .str y => .ok (.bl (decide (x.cps.toList < y.cps.toList))) h
  | _, _ => .stk
def leO : Op2 := fun v w h => match v, w with
  | .int i, .int j => .ok (.bl (decide (i ≤ j))) h
  | _, _ => .stk
def gtO : Op2 := fun v w h => match v, w with
  | .int i, .int j => .ok (.bl (decide (j < i))) h
  | _, _ => .stk
def geO : Op2 := fun v w h => match v, w with
  | .int i, .int j => .ok (.bl (decide (j ≤ i))) h
  | _, _ => .stk
def isO : Op2 := fun v w h => match w with
  | .non => (match v with
    | .non => .ok (.bl true) h
    | .glo _ => .stk
    | _ => .ok (.bl false) h)
  | .bl b => (match v with
    | .bl a => .ok (.bl (decide (a = b))) h
    | _ => .stk)
  | _ => .stk
def isNotO : Op2 := fun v w h => match w with
  | .non => (match v with
    | .non => .ok (.bl false) h
    | .glo _ => .stk
    | _ => .ok (.bl true) h)
  | .bl b => (match v with
    | .bl a => .ok (.bl (!decide (a = b))) h
    | _ => .stk)
  | _ => .stk
/-- in -/
def inB (v w : AV) : Option Bool := match w with
  | .str z => (match v with
    | .str x => some (!(Builtin.Str.occurrences z x 0 z.length 1).isEmpty)
    | _ => none)
  | .lst xs => (match toD v, toDs xs with
    | some d, some ds => if SeqAt.shaped d && SeqAt.shaped (.list ds) then some (ds.any fun z => PyData.eqv z d) else none
    | _, _ => none)
  | _ => none
/-- an own list is asked as it stands -/
def frz (w : AV) (h : AH) : AV := match w with
  | .ref n => (match h[n]? with
    | some (.lst xs) => .lst xs
    | _ => w)
  | _ => w
def inO : Op2 := fun v w h => resB (inB v (frz w h)) h
def notInO : Op2 := fun v w h => resBn (inB v (frz w h)) h
section
variable {X : Cx} {G : Gh}
theorem ans_ltI : OpAns G ltO (fun x y H Q => rI0 (fun i j => .bl (decide (i < j))) x y H Q ∨ ∃ i j, x = .str i ∧ y = .str j ∧ Q (.bl (decide (i.cps.toList < j.cps.toList))) H) := by
  intro W σ ι H h v w u1 u2 Q rh r1 r2 p
  cases r1 with
  | int i => cases r2 with
    | int j => exact .inl ⟨i, j, rfl, rfl, p.now rh (.bl _)⟩
    | _ => exact p.elim
  | str i => cases r2 with
    | str j => exact .inr ⟨i, j, rfl, rfl, p.now rh (.bl _)⟩
    | _ => exact p.elim
  | _ => exact False.elim (by cases r2 <;> exact p)
theorem ans_leI : OpAns G leO (rI0 fun i j => .bl (decide (i ≤ j))) := by
  intro W σ ι H h v w u1 u2 Q rh r1 r2 p
  cases r1 with
  | int i => cases r2 with
    | int j => exact ⟨i, j, rfl, rfl, p.now rh (.bl _)⟩
    | _ => exact p.elim
  | _ => exact False.elim (by cases r2 <;> exact p)
theorem ans_gtI : OpAns G gtO (rI0 fun i j => .bl (decide (j < i))) := by
  intro W σ ι H h v w u1 u2 Q rh r1 r2 p
  cases r1 with
  | int i => cases r2 with
    | int j => exact ⟨i, j, rfl, rfl, p.now rh (.bl _)⟩
    | _ => exact p.elim
  | _ => exact False.elim (by cases r2 <;> exact p)
theorem ans_geI : OpAns G geO (rI0 fun i j => .bl (decide (j ≤ i))) := by
  intro W σ ι H h v w u1 u2 Q rh r1 r2 p
  cases r1 with
  | int i => cases r2 with
    | int j => exact ⟨i, j, rfl, rfl, p.now rh (.bl _)⟩
    | _ => exact p.elim
  | _ => exact False.elim (by cases r2 <;> exact p)
def rIsA : R2 := fun x y H Q => (y = .non ∧ Q (.bl (decide (x = .non))) H) ∨ ∃ a b, x = .bl a ∧ y = .bl b ∧ Q (.bl (decide (a = b))) H
def rIsNotA : R2 := fun x y H Q => (y = .non ∧ Q (.bl (!decide (x = .non))) H) ∨ ∃ a b, x = .bl a ∧ y = .bl b ∧ Q (.bl (!decide (a = b))) H
theorem ans_is : OpAns G isO rIsA := by
  intro W σ ι H h v w u1 u2 Q rh r1 r2 p
  cases r2 with
  | non => cases r1 with
    | non => exact .inl ⟨rfl, p.now rh (.bl _)⟩
    | glo => exact p.elim
    | _ => exact .inl ⟨rfl, p.now rh (.bl false)⟩
  | bl b => cases r1 with
    | bl a => exact .inr ⟨a, b, rfl, rfl, p.now rh (.bl _)⟩
    | _ => exact p.elim
  | _ => exact p.elim
theorem ans_isNot : OpAns G isNotO rIsNotA := by
  intro W σ ι H h v w u1 u2 Q rh r1 r2 p
  cases r2 with
  | non => cases r1 with
    | non => exact .inl ⟨rfl, p.now rh (.bl _)⟩
    | glo => exact p.elim
    | _ => exact .inl ⟨rfl, p.now rh (.bl true)⟩
  | bl b => cases r1 with
    | bl a => exact .inr ⟨a, b, rfl, rfl, p.now rh (.bl _)⟩
    | _ => exact p.elim
  | _ => exact p.elim
theorem inB_cases {v w : AV} {b : Bool} (e : inB v w = some b) : (∃ x z, v = .str x ∧ w = .str z ∧ b = !(Builtin.Str.occurrences z x 0 z.length 1).isEmpty) ∨
    ∃ xs d ds, w = .lst xs ∧ toD v = some d ∧ toDs xs = some ds ∧ SeqAt.shaped d = true ∧ SeqAt.shaped (.list ds) = true ∧ b = ds.any fun z => PyData.eqv z d := by
  unfold inB at e
  split at e
  · split at e
    · exact .inl ⟨_, _, rfl, rfl, (Option.some.inj e).symm⟩
    · cases e
  · rename_i xs
    cases q1 : toD v with
    | none => rw [q1] at e; cases e
    | some d =>
      cases q2 : toDs xs with
      | none => rw [q1, q2] at e; cases e
      | some ds =>
        rw [q1, q2] at e
        have e : (if (SeqAt.shaped d && SeqAt.shaped (.list ds)) = true then some (ds.any fun z => PyData.eqv z d) else none) = some b := e
        by_cases c : (SeqAt.shaped d && SeqAt.shaped (.list ds)) = true
        · rw [if_pos c] at e
          obtain ⟨c1, c2⟩ := Bool.and_eq_true_iff.mp c
          exact .inr ⟨xs, d, ds, rfl, rfl, q2, c1, c2, (Option.some.inj e).symm⟩
        · rw [if_neg c] at e
          cases e
  · cases e
def rInA (K : PySem.W.Frag) : R2 := fun x y H Q => (∃ i j, x = .str i ∧ y = .str j ∧ Q (.bl (!(Builtin.Str.occurrences j i 0 j.length 1).isEmpty)) H) ∨ rInD K x y H Q
def rNotInA (K : PySem.W.Frag) : R2 := fun x y H Q => (∃ i j, x = .str i ∧ y = .str j ∧ Q (.bl (!(!(Builtin.Str.occurrences j i 0 j.length 1).isEmpty))) H) ∨ rNotInD K x y H Q
theorem lst_list {ι : List Addr} {H : Hp} {xs : List AV} {u : V} {ds : List PyData} (r : RV G ι H (.lst xs) u) (e : toDs xs = some ds) : Dp G.K H u (.list ds) := by
  refine toD_ok (.lst xs) u (.list ds) r ?_
  unfold toD
  rw [e]
theorem frz_list {ι : List Addr} {H : Hp} {h : AH} {w : AV} {xs : List AV} {u : V} {ds : List PyData} (rh : RH G ι H h) (r : RV G ι H w u) (e : frz w h = .lst xs) (e2 : toDs xs = some ds) : Dp G.K H u (.list ds) := by
  unfold frz at e
  split at e
  · rename_i n
    split at e
    · rename_i ys q
      cases e
      cases r with
      | @ref _ a ea =>
        obtain ⟨o, hu, ro⟩ := rh.at_ n _ _ q ea
        obtain ⟨vs, rfl, rv⟩ := ro
        exact .lst (.inl (.inl hu)) (toDs_ok _ _ _ rv e2)
    · cases e
  · subst e
    exact lst_list r e2
theorem frz_str {ι : List Addr} {H : Hp} {h : AH} {w : AV} {z : Str} {u : V} (r : RV G ι H w u) (e : frz w h = .str z) : u = .str z := by
  unfold frz at e
  split at e
  · split at e <;> cases e
  · subst e
    exact inv_str r
theorem ans_in : OpAns G inO (rInA G.K) := by
  intro W σ ι H h v w u1 u2 Q rh r1 r2 p
  have p : Post G (RV G) W σ ι H Q (resB (inB v (frz w h)) h) := p
  cases e : inB v (frz w h) with
  | none => rw [e] at p; exact p.elim
  | some b =>
    rw [e] at p
    have q := Post.now (a := AV.bl b) p rh (.bl b)
    rcases inB_cases e with ⟨x, z, rfl, ez, rfl⟩ | ⟨xs, d, ds, ez, e1, e2, s1, s2, rfl⟩
    · rw [inv_str r1, frz_str r2 ez]
      exact .inl ⟨x, z, rfl, rfl, q⟩
    · exact .inr ⟨d, ds, toD_ok v u1 d r1 e1, frz_list rh r2 ez e2, s1, s2, q⟩
theorem ans_notIn : OpAns G notInO (rNotInA G.K) := by
  intro W σ ι H h v w u1 u2 Q rh r1 r2 p
  have p : Post G (RV G) W σ ι H Q (resBn (inB v (frz w h)) h) := p
  cases e : inB v (frz w h) with
  | none => rw [e] at p; exact p.elim
  | some b =>
    rw [e] at p
    have q := Post.now (a := AV.bl (!b)) p rh (.bl (!b))
    rcases inB_cases e with ⟨x, z, rfl, ez, rfl⟩ | ⟨xs, d, ds, ez, e1, e2, s1, s2, rfl⟩
    · rw [inv_str r1, frz_str r2 ez]
      exact .inl ⟨x, z, rfl, rfl, q⟩
    · exact .inr ⟨d, ds, toD_ok v u1 d r1 e1, frz_list rh r2 ez e2, s1, s2, q⟩
def cmpO (op : CmpOp) : Op2 := match op with
  | .Eq => eqO | .NotEq => neO | .Lt => ltO | .LtE => leO | .Gt => gtO | .GtE => geO | .Is => isO | .IsNot => isNotO | .In => inO | .NotIn => notInO
theorem ans_cmpO (hK : X.K = G.K) (hu : X.A.units + 65 < cLine) (op : CmpOp) : ∃ r, OpR X (compareOp op) r ∧ OpAns G (cmpO op) r := by
  have hu64 : X.A.units + 64 < cLine := by omega
  cases op with
  | Eq => exact ⟨_, op_eq.or (hK ▸ op_eqD hu64), ans_eq⟩
  | NotEq => exact ⟨_, op_ne.or (hK ▸ op_neD hu64), ans_ne⟩
  | Lt => exact ⟨_, op_lt.or op_lt_str, ans_ltI⟩
  | LtE => exact ⟨_, op_le, ans_leI⟩
  | Gt => exact ⟨_, op_gt, ans_gtI⟩
  | GtE => exact ⟨_, op_ge, ans_geI⟩
  | Is => exact ⟨_, op_isN.or op_is_bl, ans_is⟩
  | IsNot => exact ⟨_, op_notN.or op_isnot_bl, ans_isNot⟩
  | In => exact ⟨_, op_in_str.or (hK ▸ op_inD hu), ans_in⟩
  | NotIn => exact ⟨_, op_notin_str.or (hK ▸ op_notInD hu), ans_notIn⟩
end
end AM
/-! AMd: calls of built-ins, subscripts, slices, truth, by values. -/
namespace AM
open PySem PySem.Spec PyProof.Rows L2

abbrev OpN := List AV → AH → Res AV
def CallAns (G : Gh) (f : OpN) (r : List V → Hp → VK → Prop) : Prop := ∀ (W : WX) (σ : L2.St) (ι : List Addr) (H : Hp) (h : AH) (vs : List AV) (us : List V) (Q : VK), RH G ι H h → RVs G ι H vs us → Post G (RV G) W σ ι H Q (f vs h) → r us H Q
theorem CallR.or {X : Cx} {f : Value} {r r' : List V → Hp → VK → Prop} (a : CallR X f r) (b : CallR X f r') : CallR X f (fun xs H Q => r xs H Q ∨ r' xs H Q) := fun pins s σ H xs us Q I rv q => by
  rcases q with q | q
  · exact a pins s σ H xs us Q I rv q
  · exact b pins s σ H xs us Q I rv q
section
variable {G : Gh} {ι : List Addr} {H : Hp} {W : WX} {σ : L2.St} {Q : VK} {h : AH}
theorem inv1 {x : AV} {us : List V} (r : RVs G ι H [x] us) : ∃ u, us = [u] ∧ RV G ι H x u := by
  cases r with
  | cons r t => cases t; exact ⟨_, rfl, r⟩
theorem inv2 {x y : AV} {us : List V} (r : RVs G ι H [x, y] us) : ∃ u w, us = [u, w] ∧ RV G ι H x u ∧ RV G ι H y w := by
  cases r with
  | cons r t =>
    obtain ⟨w, rfl, q⟩ := inv1 t
    exact ⟨_, w, rfl, r, q⟩
theorem ifP {α : Type} {c : Prop} [Decidable c] {R : List Addr → Hp → AV → V → Prop} {x : Res AV} (p : Post G R W σ ι H Q (if c then x else .stk)) : c ∧ Post G R W σ ι H Q x := by
  by_cases q : c
  · rw [if_pos q] at p
    exact ⟨q, p⟩
  · rw [if_neg q] at p
    exact p.elim
end

/-! ### len, all, any, sum -/
def lenA (v : AV) (h : AH) : Option Nat := match v with
  | .str z => if lenOk z.length then some z.length else none
  | .tup xs => some xs.length
  | .lst xs => some xs.length
  | .ext xs => some xs.length
  | .ref n => (match h[n]? with
    | some (.lst xs) => some xs.length
    | _ => none)
  | _ => none
def lenF : OpN := fun vs h => match vs with
  | [v] => (match lenA v h with
    | some n => .ok (.int n) h
    | none => .stk)
  | _ => .stk
theorem lenA_ok {G : Gh} {ι : List Addr} {H : Hp} {h : AH} {v : AV} {u : V} {n : Nat} (rh : RH G ι H h) (r : RV G ι H v u) (e : lenA v h = some n) : LenV G.K u H n := by
  cases r with
  | str z =>
    have e : (if lenOk z.length then some z.length else none) = some n := e
    by_cases c : lenOk z.length = true
    · rw [if_pos c] at e
      exact ⟨lenOk_le c, (Option.some.inj e).symm⟩
    · rw [if_neg c] at e
      cases e
  | tup t q => exact .inr ⟨_, t.sq, by rw [← q.length]; exact (Option.some.inj e).symm⟩
  | lst t q => exact .inl ⟨_, t.sq, by rw [← q.length]; exact (Option.some.inj e).symm⟩
  | ext t q => exact .inl ⟨_, t.sq, by rw [← q.length]; exact (Option.some.inj e).symm⟩
  | @ref k a ea =>
    have e : (match h[k]? with | some (.lst xs) => some xs.length | _ => none) = some n := e
    split at e
    · rename_i xs q
      obtain ⟨u, hu, ro⟩ := rh.at_ k _ a q ea
      obtain ⟨vs, rfl, rv⟩ := ro
      exact .inl ⟨vs, SqL.of hu, by rw [← rv.length]; exact (Option.some.inj e).symm⟩
    · cases e
  | _ => cases e
def blsOf : List AV → Option (List Bool)
  | [] => some []
  | .bl b :: r => (blsOf r).map (b :: ·)
  | _ :: _ => none
def intsOf : List AV → Option (List Int)
  | [] => some []
  | .int b :: r => (intsOf r).map (b :: ·)
  | _ :: _ => none
def strsOf : List AV → Option (List Str)
  | [] => some []
  | .str b :: r => (strsOf r).map (b :: ·)
  | _ :: _ => none
theorem blsOf_ok : ∀ {xs : List AV} {bs : List Bool}, blsOf xs = some bs → xs = bs.map AV.bl
  | [], bs, e => by cases e; rfl
  | .bl b :: r, bs, e => by
    unfold blsOf at e
    obtain ⟨bs', e1, rfl⟩ := Option.map_eq_some_iff.mp e
    rw [blsOf_ok e1]; rfl
  | .non :: _, _, e => by cases e
  | .int _ :: _, _, e => by cases e
  | .str _ :: _, _, e => by cases e
  | .ty _ :: _, _, e => by cases e
  | .tup _ :: _, _, e => by cases e
  | .lst _ :: _, _, e => by cases e
  | .dic _ _ :: _, _, e => by cases e
  | .ext _ :: _, _, e => by cases e
  | .ref _ :: _, _, e => by cases e
  | .glo _ :: _, _, e => by cases e
  | .xo _ _ :: _, _, e => by cases e
theorem intsOf_ok : ∀ {xs : List AV} {bs : List Int}, intsOf xs = some bs → xs = bs.map AV.int
  | [], bs, e => by cases e; rfl
  | .int b :: r, bs, e => by
    unfold intsOf at e
    obtain ⟨bs', e1, rfl⟩ := Option.map_eq_some_iff.mp e
    rw [intsOf_ok e1]; rfl
  | .non :: _, _, e => by cases e
  | .bl _ :: _, _, e => by cases e
  | .str _ :: _, _, e => by cases e
  | .ty _ :: _, _, e => by cases e
  | .tup _ :: _, _, e => by cases e
  | .lst _ :: _, _, e => by cases e
  | .dic _ _ :: _, _, e => by cases e
  | .ext _ :: _, _, e => by cases e
  | .ref _ :: _, _, e => by cases e
  | .glo _ :: _, _, e => by cases e
  | .xo _ _ :: _, _, e => by cases e
theorem strsOf_ok : ∀ {xs : List AV} {bs : List Str}, strsOf xs = some bs → xs = bs.map AV.str
  | [], bs, e => by cases e; rfl
  | .str b :: r, bs, e => by
    unfold strsOf at e
    obtain ⟨bs', e1, rfl⟩ := Option.map_eq_some_iff.mp e
    rw [strsOf_ok e1]; rfl
  | .non :: _, _, e => by cases e
  | .bl _ :: _, _, e => by cases e
  | .int _ :: _, _, e => by cases e
  | .ty _ :: _, _, e => by cases e
  | .tup _ :: _, _, e => by cases e
  | .lst _ :: _, _, e => by cases e
  | .dic _ _ :: _, _, e => by cases e
  | .ext _ :: _, _, e => by cases e
  | .ref _ :: _, _, e => by cases e
  | .glo _ :: _, _, e => by cases e
  | .xo _ _ :: _, _, e => by cases e
theorem blsOf_map (bs : List Bool) : blsOf (bs.map AV.bl) = some bs := by
  induction bs with
  | nil => rfl
  | cons b r ih => show (blsOf (r.map AV.bl)).map (b :: ·) = _; rw [ih]; rfl
theorem intsOf_map (bs : List Int) : intsOf (bs.map AV.int) = some bs := by
  induction bs with
  | nil => rfl
  | cons b r ih => show (intsOf (r.map AV.int)).map (b :: ·) = _; rw [ih]; rfl
theorem strsOf_map (bs : List Str) : strsOf (bs.map AV.str) = some bs := by
  induction bs with
  | nil => rfl
  | cons b r ih => show (strsOf (r.map AV.str)).map (b :: ·) = _; rw [ih]; rfl
/-- the items of a list that is never changed again -/
def lstOf : AV → Option (List AV)
  | .lst xs => some xs
  | .ext xs => some xs
  | _ => none
theorem lstOf_ok {G : Gh} {ι : List Addr} {H : Hp} {v : AV} {u : V} {xs : List AV} (r : RV G ι H v u) (e : lstOf v = some xs) : ∃ a vs, u = .ref a ∧ SqL G.K H a vs ∧ RVs G ι H xs vs := by
  cases r with
  | lst t q => cases e; exact ⟨_, _, rfl, t.sq, q⟩
  | ext t q => cases e; exact ⟨_, _, rfl, t.sq, q⟩
  | _ => cases e
def onLst (g : List AV → Option AV) : OpN := fun vs h => match vs with
  | [v] => (match (lstOf v).bind g with
    | some w => .ok w h
    | none => .stk)
  | _ => .stk
def allF : OpN := onLst fun xs => (blsOf xs).map fun bs => .bl (bs.all id)
def anyF : OpN := onLst fun xs => (blsOf xs).map fun bs => .bl (bs.any id)
def sumF : OpN := onLst fun xs => (intsOf xs).map fun bs => .int bs.sum
theorem onLst_inv {G : Gh} {g : List AV → Option AV} {W : WX} {σ : L2.St} {ι : List Addr} {H : Hp} {h : AH} {vs : List AV} {us : List V} {Q : VK} (r : RVs G ι H vs us) (p : Post G (RV G) W σ ι H Q (onLst g vs h)) :
    ∃ v u xs w, vs = [v] ∧ us = [u] ∧ RV G ι H v u ∧ lstOf v = some xs ∧ g xs = some w ∧ Post G (RV G) W σ ι H Q (.ok w h) := by
  match vs, r, p with
  | [v], r, p =>
    obtain ⟨u, rfl, q⟩ := inv1 r
    have p : Post G (RV G) W σ ι H Q (match (lstOf v).bind g with | some w => .ok w h | none => .stk) := p
    cases e : lstOf v with
    | none => rw [e] at p; exact p.elim
    | some xs =>
      rw [e] at p
      have p : Post G (RV G) W σ ι H Q (match g xs with | some w => .ok w h | none => .stk) := p
      cases e2 : g xs with
      | none => rw [e2] at p; exact p.elim
      | some w =>
        rw [e2] at p
        exact ⟨v, u, xs, w, rfl, rfl, q, e, e2, p⟩
  | [], _, p => exact p.elim
  | _ :: _ :: _, _, p => exact p.elim
section
variable {G : Gh}
theorem ans_len : CallAns G lenF (fun xs H Q => ∃ x n, xs = [x] ∧ LenV G.K x H n ∧ Q (.int n) H) := by
  intro W σ ι H h vs us Q rh r p
  match vs, r, p with
  | [v], r, p =>
    obtain ⟨u, rfl, q⟩ := inv1 r
    have p : Post G (RV G) W σ ι H Q (match lenA v h with | some n => .ok (.int n) h | none => .stk) := p
    cases e : lenA v h with
    | none => rw [e] at p; exact p.elim
    | some n =>
      rw [e] at p
      exact ⟨u, n, rfl, lenA_ok rh q e, Post.now (a := AV.int n) p rh (.int _)⟩
  | [], _, p => exact p.elim
  | _ :: _ :: _, _, p => exact p.elim
theorem ans_all : CallAns G allF (rAll G.K) := by
  intro W σ ι H h vs us Q rh r p
  obtain ⟨v, u, xs, w, rfl, rfl, rv, e1, e2, p⟩ := onLst_inv r p
  obtain ⟨bs, e3, rfl⟩ := Option.map_eq_some_iff.mp e2
  obtain ⟨a, ws, rfl, sq, q⟩ := lstOf_ok rv e1
  rw [blsOf_ok e3] at q
  rw [q.bls] at sq
  exact ⟨a, bs, rfl, sq, p.now rh (.bl _)⟩
theorem ans_any : CallAns G anyF (rAny G.K) := by
  intro W σ ι H h vs us Q rh r p
  obtain ⟨v, u, xs, w, rfl, rfl, rv, e1, e2, p⟩ := onLst_inv r p
  obtain ⟨bs, e3, rfl⟩ := Option.map_eq_some_iff.mp e2
  obtain ⟨a, ws, rfl, sq, q⟩ := lstOf_ok rv e1
  rw [blsOf_ok e3] at q
  rw [q.bls] at sq
  exact ⟨a, bs, rfl, sq, p.now rh (.bl _)⟩
theorem ans_sum : CallAns G sumF (rSum G.K) := by
  intro W σ ι H h vs us Q rh r p
  obtain ⟨v, u, xs, w, rfl, rfl, rv, e1, e2, p⟩ := onLst_inv r p
  obtain ⟨bs, e3, rfl⟩ := Option.map_eq_some_iff.mp e2
  obtain ⟨a, ws, rfl, sq, q⟩ := lstOf_ok rv e1
  rw [intsOf_ok e3] at q
  rw [q.ints] at sq
  exact ⟨a, bs, rfl, sq, p.now rh (.int _)⟩
end
/-! ### ints -/
def absF : OpN := fun vs h => match vs with
  | [.int i] => .ok (.int (if i < 0 then -i else i)) h
  | _ => .stk
def maxF : OpN := fun vs h => match vs with
  | [.int i, .int j] => .ok (.int (if j > i then j else i)) h
  | _ => .stk
def minF : OpN := fun vs h => match vs with
  | [.int i, .int j] => .ok (.int (if j < i then j else i)) h
  | _ => .stk
def divmodF : OpN := fun vs h => match vs with
  | [.int i, .int j] => if 0 < j ∧ Builtin.divisionGoesByPylong i j = false then .ok (.tup [.int (i / j), .int (i % j)]) h else .stk
  | _ => .stk
def strF : OpN := fun vs h => match vs with
  | [.int i] => if i.natAbs.log2 < 1920 then .ok (.str (toString i)) h else .stk
  | _ => .stk
def intF : OpN := fun vs h => match vs with
  | [.int i] => .ok (.int i) h
  | [.bl k] => .ok (.int (if k then 1 else 0)) h
  | _ => .stk
def tupleF : OpN := fun vs h => match vs with
  | [.tup xs] => .ok (.tup xs) h
  | [.lst xs] => .ok (.tup xs) h
  | [.ref n] => (match h[n]? with
    | some (.lst xs) => .ok (.tup xs) h
    | _ => .stk)
  | _ => .stk
def listF : OpN := fun vs h => match vs with
  | [.tup xs] => .ok (.lst xs) h
  | [.lst xs] => .ok (.lst xs) h
  | [.ref n] => (match h[n]? with
    | some (.lst xs) => .ok (.lst xs) h
    | _ => .stk)
  | _ => .stk
section
variable {G : Gh}
theorem ans_abs : CallAns G absF (fun xs H Q => ∃ i, xs = [.int i] ∧ Q (.int (if i < 0 then -i else i)) H) := by
  intro W σ ι H h vs us Q rh r p
  unfold absF at p
  split at p
  · obtain ⟨u, rfl, q⟩ := inv1 r
    rw [inv_int q]
    exact ⟨_, rfl, p.now rh (.int _)⟩
  · exact p.elim
theorem ans_max : CallAns G maxF (fun xs H Q => ∃ i j, xs = [.int i, .int j] ∧ Q (.int (if j > i then j else i)) H) := by
  intro W σ ι H h vs us Q rh r p
  unfold maxF at p
  split at p
  · obtain ⟨u, w, rfl, q1, q2⟩ := inv2 r
    rw [inv_int q1, inv_int q2]
    exact ⟨_, _, rfl, p.now rh (.int _)⟩
  · exact p.elim
theorem ans_min : CallAns G minF (fun xs H Q => ∃ i j, xs = [.int i, .int j] ∧ Q (.int (if j < i then j else i)) H) := by
  intro W σ ι H h vs us Q rh r p
  unfold minF at p
  split at p
  · obtain ⟨u, w, rfl, q1, q2⟩ := inv2 r
    rw [inv_int q1, inv_int q2]
    exact ⟨_, _, rfl, p.now rh (.int _)⟩
  · exact p.elim
theorem ans_divmod : CallAns G divmodF (fun xs H Q => ∃ i j, xs = [.int i, .int j] ∧ CDivP i j ∧ ∀ p, H p = none → Q (.ref p) (upd H p (.tup [.int (i / j), .int (i % j)]))) := by
  intro W σ ι H h vs us Q rh r p
  unfold divmodF at p
  split at p
  · obtain ⟨u, w, rfl, q1, q2⟩ := inv2 r
    rw [inv_int q1, inv_int q2]
    obtain ⟨c, p⟩ := ifP (α := AV) p
    exact ⟨_, _, rfl, c, fun pp np => p.at (Ext.fresh np) (rh.fresh np) (.tup (RT.new rh np) (.cons (.int _) (.cons (.int _) .nil)))⟩
  · exact p.elim
theorem ans_str : CallAns G strF (fun xs H Q => ∃ i, xs = [.int i] ∧ i.natAbs.log2 < 1920 ∧ Q (.str (toString i)) H) := by
  intro W σ ι H h vs us Q rh r p
  unfold strF at p
  split at p
  · obtain ⟨u, rfl, q⟩ := inv1 r
    rw [inv_int q]
    obtain ⟨c, p⟩ := ifP (α := AV) p
    exact ⟨_, rfl, c, p.now rh (.str _)⟩
  · exact p.elim
theorem ans_int1 : CallAns G intF (fun xs H Q => (∃ i, xs = [.int i] ∧ Q (.int i) H) ∨ ∃ k, xs = [.bl k] ∧ Q (.int (if k then 1 else 0)) H) := by
  intro W σ ι H h vs us Q rh r p
  unfold intF at p
  split at p
  · obtain ⟨u, rfl, q⟩ := inv1 r
    rw [inv_int q]
    exact .inl ⟨_, rfl, p.now rh (.int _)⟩
  · obtain ⟨u, rfl, q⟩ := inv1 r
    cases q
    exact .inr ⟨_, rfl, p.now rh (.int _)⟩
  · exact p.elim
theorem refLst {ι : List Addr} {H : Hp} {h : AH} {n : Nat} {u : V} {xs : List AV} (rh : RH G ι H h) (r : RV G ι H (.ref n) u) (e : h[n]? = some (.lst xs)) : ∃ a vs, u = .ref a ∧ ι[n]? = some a ∧ H a = some (.lst vs) ∧ RVs G ι H xs vs := by
  cases r with
  | ref ea =>
    obtain ⟨u, hu, ro⟩ := rh.at_ n _ _ e ea
    obtain ⟨vs, rfl, rv⟩ := ro
    exact ⟨_, vs, rfl, ea, hu, rv⟩
theorem ans_tuple : CallAns G tupleF (fun xs H Q => ∃ p ys, xs = [.ref p] ∧ ((SqL G.K H p ys ∧ ∀ l, H l = none → Q (.ref l) (upd H l (.tup ys))) ∨ (SqT G.K H p ys ∧ Q (.ref p) H))) := by
  intro W σ ι H h vs us Q rh r p
  unfold tupleF at p
  split at p
  · obtain ⟨u, rfl, q⟩ := inv1 r
    cases q with
    | tup t q => exact ⟨_, _, rfl, .inr ⟨t.sq, p.now rh (.tup t q)⟩⟩
  · obtain ⟨u, rfl, q⟩ := inv1 r
    cases q with
    | lst t q => exact ⟨_, _, rfl, .inl ⟨t.sq, fun l nl => p.at (Ext.fresh nl) (rh.fresh nl) (.tup (RT.new rh nl) (q.mono (Ext.fresh nl)))⟩⟩
  · split at p
    · rename_i e
      obtain ⟨u, rfl, q⟩ := inv1 r
      obtain ⟨a, ws, rfl, _, hu, rv⟩ := refLst rh q e
      exact ⟨_, _, rfl, .inl ⟨SqL.of hu, fun l nl => p.at (Ext.fresh nl) (rh.fresh nl) (.tup (RT.new rh nl) (rv.mono (Ext.fresh nl)))⟩⟩
    · exact p.elim
  · exact p.elim
theorem ans_list : CallAns G listF (fun xs H Q => ∃ p ys, xs = [.ref p] ∧ (SqL G.K H p ys ∨ SqT G.K H p ys) ∧ ∀ l, H l = none → Q (.ref l) (upd H l (.lst ys))) := by
  intro W σ ι H h vs us Q rh r p
  unfold listF at p
  split at p
  · obtain ⟨u, rfl, q⟩ := inv1 r
    cases q with
    | tup t q => exact ⟨_, _, rfl, .inr t.sq, fun l nl => p.at (Ext.fresh nl) (rh.fresh nl) (.lst (RL.new rh nl) (q.mono (Ext.fresh nl)))⟩
  · obtain ⟨u, rfl, q⟩ := inv1 r
    cases q with
    | lst t q => exact ⟨_, _, rfl, .inl t.sq, fun l nl => p.at (Ext.fresh nl) (rh.fresh nl) (.lst (RL.new rh nl) (q.mono (Ext.fresh nl)))⟩
  · split at p
    · rename_i e
      obtain ⟨u, rfl, q⟩ := inv1 r
      obtain ⟨a, ws, rfl, _, hu, rv⟩ := refLst rh q e
      exact ⟨_, _, rfl, .inl (SqL.of hu), fun l nl => p.at (Ext.fresh nl) (rh.fresh nl) (.lst (RL.new rh nl) (rv.mono (Ext.fresh nl)))⟩
    · exact p.elim
  · exact p.elim
end
/-! ### repr of data -/
def reprF : OpN := fun vs h => match vs with
  | [v] => (match toD v with
    | some d => if SeqAt.shaped d && d.showable && lenOk d.shown.length then .ok (.str d.shown) h else .stk
    | none => .stk)
  | _ => .stk
def rRepr (K : PySem.W.Frag) : List V → Hp → VK → Prop := fun xs H Q => ∃ x d, xs = [x] ∧ Dp K H x d ∧ SeqAt.shaped d = true ∧ d.showable = true ∧ d.shown.length ≤ sizeLine ∧ Q (.str d.shown) H
theorem call_repr {X : Cx} (hg : X.A.guards = some []) (hu : X.A.units + 65 < cLine) : CallR X (.builtin "repr") (rRepr X.K) := by
  intro pins s σ H xs us Q I r h
  obtain ⟨x, d, rfl, hd, hs, hw, hz, q⟩ := h
  cases r with
  | @cons _ u _ _ ru rn =>
    cases rn
    obtain ⟨as, rd⟩ := Dp.reads I d x u hd ru
    have hc := SeqAt.canLay_of_shaped hs
    have hdep : d.depth ≤ 64 := by
      have z : (d.canLay0 && decide (d.depth ≤ 64)) = true := hs
      exact of_decide_eq_true (Bool.and_eq_true_iff.mp z).2
    have fin : ∀ (h2 : Heap) (t2 : Nat) (tk : Tok), (∀ b o, s.heap.get? b = some o → h2.get? b = some o) → EP X pins σ Q (.str d.shown tk) { s with heap := h2, toks := t2 } := fun h2 t2 tk k => ⟨.str d.shown, H, I.kept k, ⟨_, rfl⟩, q⟩
    have far : ∀ a : Addr, u = .ref a → wpAny (model X.prog X.w) X.A (call (.builtin "repr") [u]) (EP X pins σ Q) X.xe s := fun a e => by
      subst e
      exact repr_of_reads' rd hw (PyData.noDict_hsm (PyData.hasDict_of_canLay d hc)) hg (by omega) (fun _ _ z => z) (fun h2 tk t2 k => fin h2 t2 tk k) hz
    cases rd with
    | none => simp only [PyData.shown] at fin; exact PySem.P.repr_of_none (fin s.heap _ _ fun _ _ z => z)
    | bool b => simp only [PyData.shown] at fin; exact PySem.P.repr_of_bool (fin s.heap _ _ fun _ _ z => z)
    | int i t => simp only [PyData.shown] at fin; exact PySem.P.repr_of_int (by simpa only [PyData.showable, decide_eq_true_eq] using hw) (fin s.heap _ _ fun _ _ z => z)
    | str z t => simp only [PyData.shown] at fin hz; exact PySem.P.repr_of_str (fin s.heap _ _ fun _ _ z => z) hz
    | list => exact far _ rfl
    | tuple => exact far _ rfl
    | dict => exact far _ rfl
theorem ans_repr {G : Gh} : CallAns G reprF (rRepr G.K) := by
  intro W σ ι H h vs us Q rh r p
  unfold reprF at p
  split at p
  · rename_i v
    obtain ⟨u, rfl, q⟩ := inv1 r
    split at p
    · rename_i d e
      obtain ⟨c, p⟩ := ifP (α := AV) p
      simp only [Bool.and_eq_true] at c
      exact ⟨u, d, rfl, toD_ok v u d q e, c.1.1, c.1.2, lenOk_le c.2, p.now rh (.str _)⟩
    · exact p.elim
  · exact p.elim
/-! ### isinstance -/
def tyNm (v : AV) (h : AH) : Option String := match v with
  | .non => some "NoneType"
  | .bl _ => some "bool"
  | .int _ => some "int"
  | .str _ => some "str"
  | .tup _ => some "tuple"
  | .lst _ => some "list"
  | .ext _ => some "list"
  | .dic _ _ => some "dict"
  | .ref n => (match h[n]? with
    | some (.lst _) => some "list"
    | some (.dic _ _) => some "dict"
    | _ => none)
  | _ => none
def isiF : OpN := fun vs h => match vs with
  | [v, .ty n] => (match (tyNm v h).bind fun t => kitB t n with
    | some b => .ok (.bl b) h
    | none => .stk)
  | _ => .stk
theorem tyNm_ok {G : Gh} {ι : List Addr} {H : Hp} {h : AH} {v : AV} {u : V} {n : String} (rh : RH G ι H h) (r : RV G ι H v u) (e : tyNm v h = some n) : TyX G.K H u (.type n) := by
  cases r with
  | non => cases e; exact .base .non
  | bl b => cases e; exact .base (.bl b)
  | int b => cases e; exact .base (.int b)
  | str b => cases e; exact .base (.str b)
  | tup t q =>
    cases e
    rcases t with ⟨_, t | ⟨o, t⟩⟩ | ⟨o, its, n, h1, h2, _⟩
    · exact .base (.tup t)
    · exact .fTuple t
    · exact .kTuple h1 h2
  | lst t q => cases e; exact .base (.lst t.2)
  | ext t q =>
    cases e
    rcases t with ⟨_, t | ⟨o, t⟩⟩ | ⟨o, its, n, h1, h2, _⟩
    · exact .base (.lst t)
    · exact .base (.frz t)
    · exact .kList h1 h2
  | dic t _ _ =>
    cases e
    rcases t with ⟨_, t | ⟨o, t⟩⟩
    · exact .base (.dK t)
    · exact .fDict t
  | @ref k a ea =>
    have e : (match h[k]? with | some (.lst _) => some "list" | some (.dic _ _) => some "dict" | _ => none) = some n := e
    split at e
    · rename_i xs q
      obtain ⟨u, hu, ro⟩ := rh.at_ k _ a q ea
      obtain ⟨vs, rfl, rv⟩ := ro
      cases e
      exact .base (.lst hu)
    · rename_i ks xs q
      obtain ⟨u, hu, ro⟩ := rh.at_ k _ a q ea
      obtain ⟨vs, rfl, rv⟩ := ro
      cases e
      exact .base (.dK hu)
    · cases e
  | _ => cases e
theorem ans_isi {G : Gh} : CallAns G isiF (rIsi G.K) := by
  intro W σ ι H h vs us Q rh r p
  unfold isiF at p
  split at p
  · rename_i v n
    obtain ⟨u, w, rfl, q1, q2⟩ := inv2 r
    cases q2
    cases e : tyNm v h with
    | none => rw [e] at p; exact p.elim
    | some t =>
      rw [e] at p
      have p : Post G (RV G) W σ ι H Q (match kitB t n with | some b => .ok (.bl b) h | none => .stk) := p
      cases e2 : kitB t n with
      | none => rw [e2] at p; exact p.elim
      | some b =>
        rw [e2] at p
        exact ⟨_, _, _, _, b, rfl, .ty n, tyNm_ok rh q1 e, kit_ty e2, p.now rh (.bl b)⟩
  · exact p.elim

/-! ### isinstance by names of types: built-in ones, the module's -/
inductive TN where
  | ty (n : String) | own (x : Str)
  deriving DecidableEq
def TNv (G : Gh) : TN → Value → Prop
  | .ty n, u => u = .type n
  | .own x, u => ∃ C, G.ga x = some C ∧ u = .ref C
def clT : AV → Option TN
  | .ty n => some (.ty n)
  | .glo x => some (.own x)
  | _ => none
def tyT (xv inc : Str → Bool) (v : AV) (h : AH) : Option TN := match v with
  | .xo c _ => if xv c then some (.own c) else none
  | .ref n => (match h[n]? with
    | some (.ins c _) => if inc c then some (.own c) else none
    | _ => (tyNm v h).map .ty)
  | v => (tyNm v h).map .ty
def isiT (isi : TN → TN → Option Bool) : TN → TN → Option Bool
  | .ty a, .ty b => kitB a b
  | t, u => isi t u
def isiG (isi : TN → TN → Option Bool) (xv inc : Str → Bool) : OpN := fun vs h => match vs with
  | [v, w] => (match clT w with
    | none => .stk
    | some u => (match tyT xv inc v h with
      | none => .stk
      | some t => (match isiT isi t u with
        | some b => .ok (.bl b) h
        | none => .stk)))
  | _ => .stk
/-- what an own class must have, so that isinstance asks its instances rightly -/
structure InC (K : PySem.W.Frag) (C : Addr) : Prop where
  cl : Cls K C
  ha : PySem.W.findIn K (.ref C) "__class__" = some (some (.builtin "object.__class__"))
  hn : PySem.W.specialIn K (.builtin "object.__class__") "__get__" = some (some (.builtin "getset_descriptor.__get__"))
  htk : PySem.W.takesIn K (.builtin "object.__class__") = some true
  hm : PySem.W.mroIn K C (.type "object") = some true
theorem Xd.xd {G : Gh} {ι : List Addr} {H : Hp} {d : Option Addr} {fs : List (Str × V)} (r : Xd G ι H d fs) : XvS.XD H d fs := by
  rcases r with r | ⟨dx, e, r⟩
  · exact .inl r
  · exact .inr ⟨dx, e, r.2⟩
theorem clT_ok {G : Gh} {ι : List Addr} {H : Hp} {w : AV} {c : V} {u : TN} (r : RV G ι H w c) (e : clT w = some u) : ∃ vu, ClsV c vu ∧ TNv G u vu := by
  cases r with
  | ty n => cases e; exact ⟨_, .ty n, rfl⟩
  | @glo x a ea => cases e; exact ⟨_, .own a, a, ea, rfl⟩
  | _ => cases e
theorem isiT_ok {G : Gh} {isi : TN → TN → Option Bool} (HI : ∀ t u b, isi t u = some b → ∀ vt vu, TNv G t vt → TNv G u vu → PySem.W.kitOne G.K vt vu = some b) {t u : TN} {b : Bool} (e : isiT isi t u = some b) {vt vu : Value} (h1 : TNv G t vt) (h2 : TNv G u vu) : PySem.W.kitOne G.K vt vu = some b := by
  cases t with
  | ty a => cases u with
    | ty b' =>
      cases h1
      cases h2
      exact kit_ty e
    | own y => exact HI _ _ _ e _ _ h1 h2
  | own x => exact HI _ _ _ e _ _ h1 h2
theorem ans_isiG {G : Gh} {isi : TN → TN → Option Bool} {xv inc : Str → Bool} (HI : ∀ t u b, isi t u = some b → ∀ vt vu, TNv G t vt → TNv G u vu → PySem.W.kitOne G.K vt vu = some b)
    (HX : ∀ c C, xv c = true → G.ga c = some C → XvS.XvC G.K C) (HC : ∀ c C, inc c = true → G.ga c = some C → InC G.K C) : CallAns G (isiG isi xv inc) (fun xs H Q => rIsi G.K xs H Q ∨ XvS.rIsV G.K xs H Q) := by
  intro W σ ι H h vs us Q rh r p
  match vs, r, p with
  | [v, w], r, p =>
    obtain ⟨u, c, rfl, q1, q2⟩ := inv2 r
    have p : Post G (RV G) W σ ι H Q (match clT w with | none => .stk | some u => (match tyT xv inc v h with | none => .stk | some t => (match isiT isi t u with | some b => .ok (.bl b) h | none => .stk))) := p
    cases e1 : clT w with
    | none => rw [e1] at p; exact p.elim
    | some un =>
      rw [e1] at p
      obtain ⟨vu, k, hu⟩ := clT_ok q2 e1
      have p : Post G (RV G) W σ ι H Q (match tyT xv inc v h with | none => .stk | some t => (match isiT isi t un with | some b => .ok (.bl b) h | none => .stk)) := p
      cases e2 : tyT xv inc v h with
      | none => rw [e2] at p; exact p.elim
      | some t =>
        rw [e2] at p
        have p : Post G (RV G) W σ ι H Q (match isiT isi t un with | some b => .ok (.bl b) h | none => .stk) := p
        cases e3 : isiT isi t un with
        | none => rw [e3] at p; exact p.elim
        | some b =>
          rw [e3] at p
          have fin := p.now rh (.bl b)
          have plain : ∀ n, tyNm v h = some n → t = .ty n → rIsi G.K [u, c] H Q := fun n en et => by
            subst et
            exact ⟨u, c, _, vu, b, rfl, k, tyNm_ok rh q1 en, isiT_ok HI e3 rfl hu, fin⟩
          have viaNm : (tyNm v h).map TN.ty = some t → rIsi G.K [u, c] H Q := fun z => by
            obtain ⟨n, en, et⟩ := Option.map_eq_some_iff.mp z
            exact plain n en et.symm
          cases v with
          | xo cc fs =>
            have e2 : (if xv cc then some (TN.own cc) else none) = some t := e2
            by_cases z : xv cc = true
            · rw [if_pos z] at e2
              cases e2
              cases q1 with
              | @xo _ _ a C d vs eg ef ed rf => exact .inr ⟨a, C, d, vs, c, vu, b, rfl, k, HX cc C z eg, ef.2, ed.xd, isiT_ok HI e3 ⟨C, eg, rfl⟩ hu, fin⟩
            · rw [if_neg z] at e2; cases e2
          | ref n =>
            have e2 : (match h[n]? with | some (.ins c _) => if inc c then some (TN.own c) else none | _ => (tyNm (.ref n) h).map .ty) = some t := e2
            cases q1 with
            | @ref _ a ia =>
              cases ho : h[n]? with
              | none => rw [ho] at e2; exact .inl (viaNm e2)
              | some o =>
                cases o with
                | ins cc fs =>
                  rw [ho] at e2
                  have e2 : (if inc cc then some (TN.own cc) else none) = some t := e2
                  by_cases z : inc cc = true
                  · rw [if_pos z] at e2
                    cases e2
                    obtain ⟨uo, hu1, C, dx, gs, rfl, g, rf⟩ := rh.at_ n _ a ho ia
                    have T := HC cc C z g
                    exact .inl ⟨_, c, _, vu, b, rfl, k, .base (.ins hu1 T.cl T.ha T.hn T.htk T.hm), isiT_ok HI e3 ⟨C, g, rfl⟩ hu, fin⟩
                  · rw [if_neg z] at e2; cases e2
                | lst xs => rw [ho] at e2; exact .inl (viaNm e2)
                | dic ks xs => rw [ho] at e2; exact .inl (viaNm e2)
          | _ => exact .inl (viaNm e2)
  | [], _, p => exact p.elim
  | [_], _, p => exact p.elim
  | _ :: _ :: _ :: _, _, p => exact p.elim

/-! ### subscripts, slices, truth -/
def idxO : Op2 := fun v w h => match w with
  | .int i => (match v with
    | .tup xs => (match atI xs i with
      | some x => .ok x h
      | none => .stk)
    | .lst xs => (match atI xs i with
      | some x => .ok x h
      | none => .stk)
    | .ext xs => (match atI xs i with
      | some x => .ok x h
      | none => .stk)
    | .str z => if lenOk z.length then (match atI z.cps.toList i with
      | some c => .ok (.str ⟨#[c]⟩) h
      | none => .stk) else .stk
    | .ref n => (match h[n]? with
      | some (.lst xs) => (match atI xs i with
        | some x => .ok x h
        | none => .stk)
      | _ => .stk)
    | _ => .stk)
  | _ => .stk
theorem atI_rel {G : Gh} {ι : List Addr} {H : Hp} {xs : List AV} {vs : List V} {i : Int} {x : AV} (r : RVs G ι H xs vs) (e : atI xs i = some x) : ∃ v, atI vs i = some v ∧ RV G ι H x v := by
  unfold atI at e ⊢
  rw [← r.length]
  cases q : ixN xs.length i with
  | none => rw [q] at e; cases e
  | some j =>
    rw [q] at e
    exact r.get (i := j) e
theorem ans_idx {G : Gh} : OpAns G idxO (rIx G.K) := by
  intro W σ ι H h v w u1 u2 Q rh r1 r2 p
  unfold idxO at p
  split at p
  · rename_i i
    rw [inv_int r2]
    split at p
    · split at p
      · rename_i e
        cases r1 with
        | tup t q =>
          obtain ⟨y, e2, ry⟩ := atI_rel q e
          exact .inr (.inl ⟨_, _, i, y, rfl, rfl, t.sq, e2, p.now rh ry⟩)
      · exact p.elim
    · split at p
      · rename_i e
        cases r1 with
        | lst t q =>
          obtain ⟨y, e2, ry⟩ := atI_rel q e
          exact .inl ⟨_, _, i, y, rfl, rfl, t.sq, e2, p.now rh ry⟩
      · exact p.elim
    · split at p
      · rename_i e
        cases r1 with
        | ext t q =>
          obtain ⟨y, e2, ry⟩ := atI_rel q e
          exact .inl ⟨_, _, i, y, rfl, rfl, t.sq, e2, p.now rh ry⟩
      · exact p.elim
    · obtain ⟨c, p⟩ := ifP (α := AV) p
      split at p
      · rename_i e
        rw [inv_str r1]
        exact .inr (.inr ⟨_, i, _, rfl, rfl, lenOk_le c, e, p.now rh (.str _)⟩)
      · exact p.elim
    · split at p
      · rename_i e0
        split at p
        · rename_i e
          obtain ⟨a, ws, rfl, _, hu, rv⟩ := refLst rh r1 e0
          obtain ⟨y, e2, ry⟩ := atI_rel rv e
          exact .inl ⟨_, _, i, y, rfl, rfl, SqL.of hu, e2, p.now rh ry⟩
        · exact p.elim
      · exact p.elim
    · exact p.elim
  · exact p.elim
/-- the items of xs[lo:hi] -/
def cutA {α : Type} (xs : List α) (lo hi : Option Int) : List α := (xs.drop (HT.sIx xs.length 0 lo)).take (HT.sIx xs.length xs.length hi - HT.sIx xs.length 0 lo)
def sliceF (v : AV) (lo hi : Option Int) (h : AH) : Res AV := match v with
  | .tup xs => .ok (.tup (cutA xs lo hi)) h
  | .lst xs => .ok (.lst (cutA xs lo hi)) h
  | .ext xs => .ok (.lst (cutA xs lo hi)) h
  | .str z => if lenOk z.length then .ok (.str (cutS z lo hi)) h else .stk
  | .ref n => (match h[n]? with
    | some (.lst xs) => .ok (.lst (cutA xs lo hi)) h
    | _ => .stk)
  | _ => .stk
def rSlAny (K : PySem.W.Frag) : V → Option Int → Option Int → Hp → VK → Prop := fun x lo hi H Q => rSlA K x lo hi H Q ∨ rSlL K x lo hi H Q ∨ rSlS x lo hi H Q
theorem cut_rel {G : Gh} {ι : List Addr} {H : Hp} {xs : List AV} {vs : List V} (r : RVs G ι H xs vs) (lo hi : Option Int) : RVs G ι H (cutA xs lo hi) (cutV vs lo hi) := by
  unfold cutA cutV
  rw [← r.length]
  exact (r.drop _).take _
theorem ans_slice {G : Gh} {W : WX} {σ : L2.St} {ι : List Addr} {H : Hp} {h : AH} {v : AV} {u : V} {lo hi : Option Int} {Q : VK} (rh : RH G ι H h) (r : RV G ι H v u) (p : Post G (RV G) W σ ι H Q (sliceF v lo hi h)) : rSlAny G.K u lo hi H Q := by
  unfold sliceF at p
  split at p
  · rename_i xs
    cases r with
    | @tup _ a vs t q =>
      refine .inl ⟨_, _, rfl, t.sq, fun c => ?_, fun c pp np => p.at (Ext.fresh np) (rh.fresh np) (.tup (RT.new rh np) ((cut_rel q lo hi).mono (Ext.fresh np)))⟩
      have e : cutA xs lo hi = xs := by
        unfold cutA
        rw [q.length, c.1, c.2]
        simp [← q.length]
      rw [e] at p
      exact p.now rh (.tup t q)
  · cases r with
    | lst t q => exact .inr (.inl ⟨_, _, rfl, t.sq, fun pp np => p.at (Ext.fresh np) (rh.fresh np) (.lst (RL.new rh np) ((cut_rel q lo hi).mono (Ext.fresh np)))⟩)
  · cases r with
    | ext t q => exact .inr (.inl ⟨_, _, rfl, t.sq, fun pp np => p.at (Ext.fresh np) (rh.fresh np) (.lst (RL.new rh np) ((cut_rel q lo hi).mono (Ext.fresh np)))⟩)
  · obtain ⟨c, p⟩ := ifP (α := AV) p
    rw [inv_str r]
    exact .inr (.inr ⟨_, rfl, lenOk_le c, p.now rh (.str _)⟩)
  · split at p
    · rename_i e
      obtain ⟨a, ws, rfl, _, hu, rv⟩ := refLst rh r e
      exact .inr (.inl ⟨_, _, rfl, SqL.of hu, fun pp np => p.at (Ext.fresh np) (rh.fresh np) (.lst (RL.new rh np) ((cut_rel rv lo hi).mono (Ext.fresh np)))⟩)
    · exact p.elim
  · exact p.elim
def truA (v : AV) (h : AH) : Option Bool := match v with
  | .non => some false
  | .bl b => some b
  | .int i => some (i != 0)
  | .str z => if lenOk z.length then some ((z.length : Int) != 0) else none
  | .tup xs => some (!xs.isEmpty)
  | .lst xs => some (!xs.isEmpty)
  | .ext xs => some (!xs.isEmpty)
  | .ref n => (match h[n]? with
    | some (.lst xs) => some (!xs.isEmpty)
    | _ => none)
  | _ => none
theorem isEmpty_rel {G : Gh} {ι : List Addr} {H : Hp} {xs : List AV} {vs : List V} (r : RVs G ι H xs vs) : xs.isEmpty = vs.isEmpty := by
  cases r <;> rfl
theorem truA_ok {G : Gh} {ι : List Addr} {H : Hp} {h : AH} {v : AV} {u : V} {b : Bool} (rh : RH G ι H h) (r : RV G ι H v u) (e : truA v h = some b) : TruV G.K u H b := by
  cases r with
  | non => cases e; rfl
  | bl b => cases e; rfl
  | int i => cases e; rfl
  | str z =>
    have e : (if lenOk z.length then some ((z.length : Int) != 0) else none) = some b := e
    by_cases c : lenOk z.length = true
    · rw [if_pos c] at e
      exact ⟨lenOk_le c, (Option.some.inj e).symm⟩
    · rw [if_neg c] at e
      cases e
  | tup t q => cases e; exact .inr (.inl ⟨_, t.sq, by rw [isEmpty_rel q]⟩)
  | lst t q => cases e; exact .inl ⟨_, t.sq, by rw [isEmpty_rel q]⟩
  | ext t q => cases e; exact .inl ⟨_, t.sq, by rw [isEmpty_rel q]⟩
  | @ref k a ea =>
    have e : (match h[k]? with | some (.lst xs) => some (!xs.isEmpty) | _ => none) = some b := e
    split at e
    · rename_i xs q
      obtain ⟨u, hu, ro⟩ := rh.at_ k _ a q ea
      obtain ⟨vs, rfl, rv⟩ := ro
      cases e
      exact .inl ⟨vs, SqL.of hu, by rw [isEmpty_rel rv]⟩
    · cases e
  | _ => cases e
end AM
/-! AMu: sets of texts, any number: set(xs), sorted(set(xs)). -/
namespace TxS
open PySem PySem.Spec PyProof.Rows L2

/-- the text of an entry -/
def txt (v : Value) : Str := match v with
  | .str x _ => x
  | _ => Str.empty
def kE (e : Int × Value) : Str := txt e.2
def GdE (w : World) (e : Int × Value) : Prop := ∃ x tk, e.2 = Value.str x tk ∧ e.1 = hashStr w x
/-- the set of texts at a -/
def SetX (w : World) (h : Heap) (a : Addr) (S : Str → Prop) (n : Nat) : Prop :=
  ∃ o es ep t, h.get? a = some o ∧ o.ExactSet ∧ o.data = .set es ep t ∧ (∀ e ∈ es.toList, GdE w e) ∧ (es.toList.map kE).Nodup ∧ (∀ k, S k ↔ k ∈ es.toList.map kE) ∧
    es.size < scanBound ∧ t.fits es.size = true ∧ es.size = n ∧ Ris t.place.toList ∧ (w.params.followText "set-order" = true ∨ t.led = true)
section
variable {P : Program} {w : World} {h h' : Heap} {a : Addr} {S S' : Str → Prop} {n : Nat}
theorem SetX.move (R : SetX w h a S n) (k : ∀ o, h.get? a = some o → h'.get? a = some o) : SetX w h' a S n := by
  obtain ⟨o, es, ep, t, ho, r⟩ := R
  exact ⟨o, es, ep, t, k o ho, r⟩
theorem SetX.same (R : SetX w h a S n) (e : ∀ k, S' k ↔ S k) : SetX w h a S' n := by
  rw [show S' = S from funext fun k => propext (e k)]
  exact R
theorem gd_elems {l : List (Int × Value)} (g : ∀ e ∈ l, GdE w e) : ElemsOf (strKind P w) l := by
  intro e he
  obtain ⟨x, tk, h1, h2⟩ := g e he
  refine ⟨⟨x, ?_, h2⟩, ?_⟩
  · rw [h1]
    exact strKind_is P w x tk
  · rw [h1]
    rfl
theorem gd_is {e : Int × Value} (g : GdE w e) (k : Str) : (strKind P w).is k e.2 = true ↔ kE e = k := by
  obtain ⟨x, tk, h1, _⟩ := g
  unfold kE
  rw [h1]
  constructor
  · intro z
    exact (strKind P w).inj _ _ _ (strKind_is P w x tk) z
  · intro z
    have z : x = k := z
    rw [z]
    exact strKind_is P w k tk
theorem gd_mem {l : List (Int × Value)} (g : ∀ e ∈ l, GdE w e) (k : Str) : k ∈ l.map kE ↔ ∃ e ∈ l, (strKind P w).is k e.2 = true := by
  rw [List.mem_map]
  exact ⟨fun ⟨e, he, q⟩ => ⟨e, he, (gd_is (g e he) k).2 q⟩, fun ⟨e, he, q⟩ => ⟨e, he, (gd_is (g e he) k).1 q⟩⟩
end
section
variable {P : Program} {w : World} {A : Around} {E : Value → Shared → Prop} {s : Shared} {a : Addr} {S : Str → Prop} {n : Nat}
/-- the entry laid, the table laid anew where it is too full -/
theorem add_tail {g : Bool → Sem Unit} (hg : ∀ (b : Bool) (s₁ : Shared) (Q' : Unit → Shared → Prop), Q' () s₁ → wpAny (model P w) A (g b) Q' E s₁)
    {o : Obj} {es : Array (Int × Value)} {ep : Nat} {t : SetTable} (ho : s.heap.get? a = some o) (hex : o.ExactSet) (hd : o.data = .set es ep t)
    {es1 : Array (Int × Value)} {t2 : SetTable} {S' : Str → Prop} (g1 : ∀ e ∈ es1.toList, GdE w e) (nd1 : (es1.toList.map kE).Nodup) (m1 : ∀ k, S' k ↔ k ∈ es1.toList.map kE)
    (hb1 : es1.size < scanBound) (hf2 : t2.fits es1.size = true) (hr : Ris t2.place.toList) (hl : w.params.followText "set-order" = true ∨ t2.led = true) {wd : Bool} {R : Option Bool → Shared → Prop}
    (hR : ∀ h', Heap.SameBut a s.heap h' → SetX w h' a S' es1.size → R (some true) { s with heap := h' }) :
    wpAny (model P w) A (do
        storeSet a es1 t2
        if (!wd && t2.tooFull) = true then do
            g (relayAll t2 es1 (SetTable.grown es1.size)).2.2
            storeSet a (relayAll t2 es1 (SetTable.grown es1.size)).1 (relayAll t2 es1 (SetTable.grown es1.size)).2.1
            pure (some true)
          else pure (some true)) R E s := by
  have ho1 := store_at (es' := es1) (t' := t2) ho hd
  have sb1 := Heap.SameBut.update s.heap a (Obj.putSet es1 t2)
  refine wpAny_bind (wpAny_storeSet_of ho hd ?_ (fits_of_scanBound hb1))
  split
  · have pm := relayAll_perm t2 es1 (SetTable.grown es1.size)
    have hf3 := relayAll_fits t2 es1 (SetTable.grown es1.size)
    have hr3 := relayAll_ris t2 es1 (SetTable.grown es1.size)
    have hl3 := relayAll_led t2 es1 (SetTable.grown es1.size)
    revert pm hf3 hr3 hl3
    generalize relayAll t2 es1 (SetTable.grown es1.size) = Z
    obtain ⟨es2, t3, gave⟩ := Z
    intro pm hf3 hr3 hl3
    have hsz : es2.size = es1.size := by
      have := pm.length_eq
      simpa using this
    refine wpAny_bind (hg _ _ _ (wpAny_bind (wpAny_storeSet_of ho1 rfl (wpAny_pure (hR _ (sb1.trans (Heap.SameBut.update _ a _)) ?_)) (fits_of_scanBound (by rw [hsz]; exact hb1)))))
    exact ⟨_, es2, _, t3, store_at (es' := es2) (t' := t3) ho1 rfl, hex, rfl, fun e he => g1 e (pm.mem_iff.mp he), (pm.map kE).nodup_iff.mpr nd1, fun k => (m1 k).trans (pm.map kE).mem_iff.symm,
      by rw [hsz]; exact hb1, hf3, hsz, hr3, hl.imp id fun z => by rw [hl3]; exact z⟩
  · exact wpAny_pure (hR _ sb1 ⟨_, es1, _, t2, ho1, hex, rfl, g1, nd1, m1, hb1, hf2, rfl, hr, hl⟩)
/-- a text comes into the set, or stands there -/
theorem add_one {x : Str} {tk : Tok} {Q : Bool → Shared → Prop} (R : SetX w s.heap a S n) (room : n + 1 < scanBound)
    (hQ : ∀ b h' n', n' ≤ n + 1 → Heap.SameBut a s.heap h' → SetX w h' a (fun j => S j ∨ j = x) n' → Q b { s with heap := h' }) :
    wpAny (model P w) A (setAddHashed a (.str x tk) ((strKind P w).hash x)) Q E s := by
  obtain ⟨o, es, ep, t, ho, hex, hd, g, nd, hm, hb, hf, hn, hr, hl⟩ := R
  have hkey : (strKind P w).is x (.str x tk) = true := strKind_is P w x tk
  have hsc : (Value.str x tk).scannable = true := rfl
  have hel : ElemsOf (strKind P w) es.toList := gd_elems g
  unfold setAddHashed setAddHashedIn
  refine wpAny_holding (wpAny_bind (wpAny_setState_of ho hd hf ?_))
  dsimp only
  rw [byScan_of hsc hb hel, if_pos rfl]
  unfold setAddByScan
  refine wpAny_bind (wpAny_bind (wpAny_rule (wpAny_bind (wpAny_setScan_of hkey ho hd hf hel ?_))))
  cases hfi : List.findIdx? (fun e => (strKind P w).is x e.2) es.toList with
  | some j =>
    obtain ⟨hj, pj, _⟩ := List.findIdx?_eq_some_iff_getElem.mp hfi
    have hx : S x := (hm x).2 ((gd_mem (P := P) (w := w) g x).2 ⟨es.toList[j], List.getElem_mem hj, pj⟩)
    refine wpAny_pure (wpAny_pure (hQ _ s.heap n (Nat.le_succ n) (Heap.SameBut.refl a s.heap) ⟨o, es, ep, t, ho, hex, hd, g, nd, fun i => ?_, hb, hf, hn, hr, hl⟩))
    rw [← hm i]
    exact ⟨fun z => z.elim id fun e => e ▸ hx, .inl⟩
  | none =>
    have hnk : x ∉ es.toList.map kE := fun z => by
      obtain ⟨e, he, q⟩ := (gd_mem (P := P) (w := w) g x).1 z
      rw [List.findIdx?_eq_none_iff.mp hfi e he] at q
      cases q
    have hgw : ∀ (b : Bool) {s₁ : Shared} {Q' : Unit → Shared → Prop}, Q' () s₁ → wpAny (model P w) A (match b with | true => rule "set.scan.the-table-gave-way" | false => pure ()) Q' E s₁ := by
      intro b s₁ Q' q
      cases b
      · exact wpAny_pure q
      · exact wpAny_rule q
    have pm := layNew_perm t es ((strKind P w).hash x) (.str x tk)
    have hf1 := layNew_fits t es ((strKind P w).hash x) (.str x tk)
    have hr1 := layNew_ris t es ((strKind P w).hash x) (.str x tk) hr
    have hl1 := layNew_led t es ((strKind P w).hash x) (.str x tk)
    dsimp only
    revert pm hf1 hr1 hl1
    generalize layNew t es ((strKind P w).hash x) (.str x tk) = Z
    obtain ⟨es1, t1, wd, gave⟩ := Z
    intro pm hf1 hr1 hl1
    dsimp only at pm hf1 hr1 hl1 ⊢
    rw [Array.toList_push] at pm
    have pc : es1.toList.Perm (((strKind P w).hash x, Value.str x tk) :: es.toList) := pm.trans (List.perm_append_singleton _ _)
    have pk : (es1.toList.map kE).Perm (x :: es.toList.map kE) := pc.map kE
    have g1 : ∀ e ∈ es1.toList, GdE w e := fun e he => by
      rcases List.mem_cons.mp (pc.mem_iff.mp he) with z | z
      · exact ⟨x, tk, by rw [z], by rw [z]; rfl⟩
      · exact g e z
    have nd1 : (es1.toList.map kE).Nodup := pk.nodup_iff.mpr (List.nodup_cons.mpr ⟨hnk, nd⟩)
    have m1 : ∀ i, (S i ∨ i = x) ↔ i ∈ es1.toList.map kE := fun i => by
      rw [hm i, pk.mem_iff, List.mem_cons]
      exact Or.comm
    have hsz : es1.size = n + 1 := by
      have := pc.length_eq
      simp at this
      omega
    have hb1 : es1.size < scanBound := by rw [hsz]; exact room
    have hled : w.params.followText "set-order" = true ∨ t1.led = true := hl.imp id fun z => by rw [hl1]; exact z
    have fin : ∀ b h', Heap.SameBut a s.heap h' → SetX w h' a (fun j => S j ∨ j = x) es1.size → Q b { s with heap := h' } := fun b h' sb r => hQ b h' _ (by omega) sb r
    have hg2 : ∀ (b : Bool) (s₁ : Shared) (Q' : Unit → Shared → Prop), Q' () s₁ → wpAny (model P w) A (match b with | true => rule "set.add.the-table-gave-way" | false => pure ()) Q' E s₁ := by
      intro b s₁ Q' q
      cases b
      · exact wpAny_pure q
      · exact wpAny_rule q
    refine wpAny_bind (hgw _ ?_)
    split
    · refine wpAny_bind ?_
      rw [hashByValue_scannable 8 hsc]
      refine wpAny_pure ?_
      refine add_tail ?_ ho hex hd g1 nd1 m1 hb1 ?_ ?_ ?_ ?_
      · intro b s₁ Q' q; cases b <;> first | exact wpAny_pure q | exact wpAny_rule q
      · split
        · exact hf1
        · exact SetTable.fits_plain_off hf1
      · split <;> exact hr1
      · split <;> exact hled
      · intro h' sb r
        exact wpAny_pure (fin _ h' sb r)
    · refine wpAny_bind (wpAny_pure ?_)
      rw [if_pos rfl]
      refine add_tail ?_ ho hex hd g1 nd1 m1 hb1 hf1 hr1 hled ?_
      · intro b s₁ Q' q; cases b <;> first | exact wpAny_pure q | exact wpAny_rule q
      · intro h' sb r
        exact wpAny_pure (fin _ h' sb r)
end
end TxS
/-! AMu2: sets of texts: set(xs), sorted(..). -/
namespace TxS
open PySem PySem.Spec PyProof.Rows L2

theorem strs_item : ∀ {vs : List Value} {xs : List Str}, StrsAre vs xs → ∀ (i : Nat) (v : Value), vs[i]? = some v → ∃ y t, v = .str y t ∧ xs[i]? = some y
  | _, _, .nil, _, _, h => by simp at h
  | _, _, .cons y t _, 0, v, h => ⟨y, t, by simpa using h.symm, rfl⟩
  | _, _, .cons _ _ r, i + 1, v, h => by
    obtain ⟨y, t, e1, e2⟩ := strs_item r i v (by simpa using h)
    exact ⟨y, t, e1, by simpa using e2⟩
theorem strs_len : ∀ {vs : List Value} {xs : List Str}, StrsAre vs xs → vs.length = xs.length
  | _, _, .nil => rfl
  | _, _, .cons _ _ r => by simp [strs_len r]
def newO (w : World) : Obj := { cls := .type "set", dict := none, data := .set #[] 0 (.fresh 0 0 (!w.params.followText "set-order")) }
theorem setX_new {w : World} {h : Heap} {a : Addr} {S : Str → Prop} (ho : h.get? a = some (newO w)) (hS : ∀ k, ¬ S k) : SetX w h a S 0 :=
  ⟨_, #[], 0, _, ho, ⟨rfl, rfl, rfl⟩, rfl, fun e he => by simp at he, by simp, fun k => by simp [hS k], by decide, by rfl, rfl, List.Pairwise.nil, by
    show _ ∨ (!w.params.followText "set-order") = true
    cases w.params.followText "set-order"
    · exact .inr rfl
    · exact .inl rfl⟩
section
variable {P : Program} {w : World} {A : Around} {E : Value → Shared → Prop} {s : Shared}
theorem upd_loop {I : Addr} {fp wr : List Addr} {G : Array GenState → Array GenState → Prop} {n : Nat} {Pv : Nat → Value → Prop} {St : Nat → Shared → Prop} {R : Result → Shared → Prop}
    (W : WalksS P w A.in1 I fp wr G n Pv St) (D : Addr) (hD : D ∉ fp) (xs : List Str) (hn : n = xs.length) (hb : xs.length + 1 < scanBound) (hval : ∀ i v, Pv i v → ∃ y t, v = .str y t ∧ xs[i]? = some y) :
    ∀ (k i : Nat) (s : Shared), n - i = k → i ≤ n → St i s → (∃ c, c ≤ i ∧ SetX w s.heap D (fun j => j ∈ xs.take i) c) →
      (∀ s' c, Moved (D :: wr) G s s' → c ≤ n → SetX w s'.heap D (fun j => j ∈ xs) c → R (.ok (.ret .none)) s') →
      codeAny (model P w) A (.builtin "set.update.loop" ⟨[.ref D, .ref I], []⟩) R s := by
  have hDw : D ∉ wr := fun h => hD (W.sub _ h)
  have hsub : ∀ b ∈ wr, b ∈ D :: wr := fun b hb => List.mem_cons_of_mem _ hb
  intro k
  induction k with
  | zero =>
    intro i s hk' hi hst ⟨c, hc, hS⟩ hR
    obtain rfl : i = n := by omega
    rw [List.take_of_length_le (by omega)] at hS
    refine codeAny_builtin F.entry_set_update_loop ?_
    rw [Around.under_plainId F.plain_set_update_loop _]
    show wpAny _ A.in1 (pyNext (.ref I) >>= _) _ _ s
    refine wpAny_bind (W.done s _ _ hst fun s' hm => ?_)
    show wpAny _ A.in1 (ret Value.none) _ _ s'
    exact wpAny_pure (hR s' c (hm.mono hsub) hc (hS.move fun o e => hm.heap D o hDw e))
  | succ k ih =>
    intro i s hk' hi hst ⟨c, hc, hS⟩ hR
    have hlt : i < n := by omega
    refine codeAny_builtin F.entry_set_update_loop ?_
    rw [Around.under_plainId F.plain_set_update_loop _]
    show wpAny _ A.in1 (pyNext (.ref I) >>= _) _ _ s
    refine wpAny_bind (W.item i s _ _ hlt hst fun v s' hP hst' hm => ?_)
    obtain ⟨y, t, rfl, hy⟩ := hval i v hP
    have hS' : SetX w s'.heap D (fun j => j ∈ xs.take i) c := hS.move fun o e => hm.heap D o hDw e
    show wpAny _ A.in1 (holding [Value.str y t] (setAdd D (.str y t)) >>= _) _ _ s'
    refine wpAny_bind (wpAny_holding ?_)
    unfold setAdd
    refine wpAny_holding (wpAny_bind ((strKind P w).pyHash (k := y) (strKind_is _ _ _ _) ?_))
    refine add_one (s := { s' with toks := s'.toks + 1 }) hS' (by omega) fun b h' c' hc' hsb hS2 => ?_
    have hS3 : SetX w h' D (fun j => j ∈ xs.take (i + 1)) c' := hS2.same fun j => by
      rw [List.take_add_one, hy]
      simp [List.mem_append]
    refine wpAny_pure ⟨plainId_quiet F.plain_set_update_loop _, ih (i + 1) _ (by omega) hlt (W.frame _ s' _ _ hst' (Nat.le_succ _) fun b hb o e => ?_) ⟨c', by omega, hS3⟩ fun s'' c2 hm'' hc'' hS'' => ?_⟩
    · rw [hsb.2 b fun h : b = D => hD (by rw [← h]; exact hb)]
      exact e
    · refine hR s'' c2 (Moved.trans W.gtrans ((hm.mono hsub).then_heap (Nat.le_succ _) fun b o hb e => ?_) hm'') hc'' hS''
      rw [hsb.2 b fun h : b = D => hb (by rw [h]; exact List.mem_cons_self)]
      exact e
set_option maxRecDepth 100000 in
set_option maxHeartbeats 8000000 in
/-- set(xs) of a list of texts -/
theorem call_set {l : Addr} {items : Array Value} (xs : List Str) {Q : Value → Shared → Prop} (hh : A.handled = none) (hl : s.heap.IsList l items) (hit : StrsAre items.toList xs) (hb : xs.length + 1 < scanBound)
    (h : ∀ (h' : Heap) (tk c : Nat), SetX w h' s.heap.objs.size (fun j => j ∈ xs) c → c ≤ xs.length → (∀ b o, s.heap.get? b = some o → h'.get? b = some o) → Q (.ref s.heap.objs.size) { s with heap := h', toks := tk }) :
    wpAny (model P w) A (call (.type "set") [.ref l]) Q E s := by
  have hisz : items.size = xs.length := by
    have q := strs_len hit
    rwa [Array.length_toList] at q
  obtain ⟨c, tl, hmro⟩ := F.called_set.mro
  have hmade := F.called_set.made
  have hsub := F.called_set.sub
  refine wpAny_call (codeAny_of_tree ?_)
  show wpAny _ _ (callAny (.type "set") _) _ _ _
  refine wpAny_pure ⟨Code.quiet_builtin _ (by decide +kernel), codeAny_builtin F.entry_type_call ?_⟩
  rw [Around.under_plain (weight_type_call_type "set" [.ref l] []) rfl]
  have h1 := F.called_set.notType
  have h2 := F.called_set.canCreate
  have hct := F.typeCall_set_1 (.ref l)
  repeat (any_goals (first | assumption | wp_step))
  refine codeAny_mono (code_set_led1 (.ref l) (E := E) (Q₁ := fun obj s₁ => obj = .ref s.heap.objs.size ∧ s₁ = { s with heap := s.heap.push (newO w) }) ⟨rfl, rfl⟩) fun r s₁ hr => ?_
  cases r with
  | error e => exact hr
  | ok fl =>
    cases fl with
    | ret obj =>
      obtain ⟨rfl, rfl⟩ := hr
      have hS : (s.heap.push (newO w)).get? s.heap.objs.size = some (newO w) := Heap.get?_push_size _ rfl
      have hT : Shared.TypeIs { s with heap := s.heap.push (newO w) } (.ref s.heap.objs.size) "set" := ⟨_, hS, rfl⟩
      have hli := F.called_set.init.lookup
      have hbi := F.called_set.init.bind (.ref s.heap.objs.size)
      repeat (any_goals (first | assumption | wp_step))
      refine codeAny_mono (codeAny_call_builtin (R := wants (fun r s₂ => r = .none ∧ ∃ h' tk c, s₂ = { s with heap := h', toks := tk } ∧ SetX w h' s.heap.objs.size (fun j => j ∈ xs) c ∧ c ≤ xs.length ∧
          (∀ b o, s.heap.get? b = some o → h'.get? b = some o)) E) F.called_set.init.plain F.entry_set_init (check_set_init_1 hT ?_)) fun r₂ s₂ hr₂ => ?_
      · obtain ⟨ol, hol, hcl, nl, hdl⟩ := hl
        obtain ⟨ocls, odict, odata, oslots⟩ := ol
        simp only at hcl hdl
        subst hcl; subst hdl
        have hol' : (s.heap.push (newO w)).get? l = some { cls := .type "list", dict := odict, data := .seq items nl, slots := oslots } := Heap.get?_push_of_some _ hol
        have hsls := F.sub_list_set
        have hslf := F.sub_list_frozenset
        have hne : (Value.type "list" == Value.type "dict") = false := by decide
        have hl1 : (s.heap.push (newO w)).IsList l items := ⟨_, hol', rfl, nl, rfl⟩
        unfold Builtin.«set.__init__» noKeywords Builtin.Frozenset.updateFrom
        generalize hPI : pyIter = PI
        wp_walk
        subst hPI
        refine wpAny_pyIter_list hl1 (wpAny_bind (wpAny_runValue ?_))
        have hlS : l < s.heap.objs.size := Heap.lt_size hol
        have hh3 : A.in1.in1.in1.handled = none := by simp [hh]
        have hz1 : (s.heap.push (newO w)).objs.size = s.heap.objs.size + 1 := Heap.size_push ..
        have hneI : l ≠ (s.heap.push (newO w)).objs.size := by
          rw [hz1]
          exact Nat.ne_of_lt (Nat.lt_succ_of_lt hlS)
        have hSf : s.heap.objs.size ∉ [(s.heap.push (newO w)).objs.size, l] := by
          simp only [List.mem_cons, List.not_mem_nil, or_false, not_or]
          rw [hz1]
          exact ⟨Nat.ne_of_lt (Nat.lt_succ_self _), Nat.ne_of_gt hlS⟩
        have hval : ∀ (i : Nat) (v : Value), items[i]? = some v → ∃ y t, v = .str y t ∧ xs[i]? = some y := fun i v hv => strs_item hit i v (by rw [Array.getElem?_toList]; exact hv)
        refine upd_loop ((Walks.list hh3 _ l hneI items).toS) s.heap.objs.size hSf xs hisz hb hval (items.size - 0) 0 _ (by omega) (Nat.zero_le _)
          ⟨⟨_, Heap.get?_push_size _ rfl, rfl, rfl⟩, (hl1.push _)⟩ ⟨0, Nat.le_refl 0, setX_new (Heap.get?_push_of_some _ hS) (fun k => by simp)⟩ ?hR
        case hR =>
          intro s' c' hm hc' hS'
          obtain ⟨h', g2, d', tk', os'⟩ := s'
          have eg : g2 = s.gens := hm.gens
          have ed : d' = s.drawn := hm.drawn
          have eo : os' = s.os := hm.os
          subst eg; subst ed; subst eo
          show wpAny _ _ _ _ _ _
          refine wpAny_pure ?_
          show wpAny _ _ (ret Value.none) _ _ _
          refine wpAny_pure ⟨rfl, h', tk', c', rfl, hS', by omega, fun b o e => ?_⟩
          have hb0 : b < s.heap.objs.size := Heap.lt_size e
          refine hm.heap b o ?_ (Heap.get?_push_of_some _ (Heap.get?_push_of_some _ e))
          simp only [List.mem_cons, List.not_mem_nil, or_false, not_or]
          refine ⟨Nat.ne_of_lt hb0, ?_⟩
          show b ≠ (s.heap.push (newO w)).objs.size
          rw [hz1]
          exact Nat.ne_of_lt (Nat.lt_succ_of_lt hb0)
      · cases r₂ with
        | error e => exact hr₂
        | ok fl₂ =>
          cases fl₂ with
          | ret r =>
            obtain ⟨rfl, h', tk, c', rfl, hS', hc', hk'⟩ := hr₂
            repeat (any_goals (first | assumption | wp_step))
            exact h _ _ _ hS' hc' hk'
          | _ => exact hr₂.elim
    | _ => exact hr.elim
/-! ### sorted -/
def leS (x y : Str) : Bool := decide (x.cps.toList ≤ y.cps.toList)
theorem strs_txt : ∀ (l : List Value), (∀ v ∈ l, ∃ x tk, v = Value.str x tk) → StrsAre l (l.map txt)
  | [], _ => .nil
  | v :: l, h => by
    obtain ⟨x, tk, rfl⟩ := h v List.mem_cons_self
    exact .cons x tk (strs_txt l fun u hu => h u (List.mem_cons_of_mem _ hu))
theorem each_strs : ∀ {vs : List Value} {xs : List Str}, StrsAre vs xs → W.EachIs (fun v b => ∃ t, v = .str b t) vs xs
  | _, _, .nil => .nil
  | _, _, .cons y t r => .cons ⟨t, rfl⟩ (each_strs r)
theorem strs_each : ∀ {vs : List Value} {xs : List Str}, W.EachIs (fun v b => ∃ t, v = .str b t) vs xs → StrsAre vs xs
  | _, _, .nil => .nil
  | _, _, .cons ⟨t, e⟩ r => by rw [e]; exact .cons _ t (strs_each r)
theorem sorted_ok {a : Addr} {S : Str → Prop} {n : Nat} {Q : Value → Shared → Prop} (R : SetX w s.heap a S n) (hh : A.handled = none) (hu : A.units + 3 < cLine)
    (hQ : ∀ s' p (out : Array Value) (c : Nat) (xs : List Str), (∀ b o, s.heap.get? b = some o → s'.heap.get? b = some o) → s'.gens = s.gens → s'.os = s.os → s.heap.objs.size ≤ p →
      s'.heap.get? p = some (seqObj "list" out c) → StrsAre out.toList (xs.mergeSort leS) → xs.Nodup → (∀ k, k ∈ xs ↔ S k) → xs.length = n → Q (.ref p) s') :
    wpAny (model P w) A (call (.builtin "sorted") [.ref a]) Q E s := by
  obtain ⟨o, es, ep, t, ho, hex, hd, g, nd, hm, hb, hf, hn, hr, hl⟩ := R
  refine Calls.call_function_entry kind_sorted plain_sorted entry_sorted (args_sorted1 _) ?_
  unfold Builtin.«sorted»
  refine wpAny_bind (m := checkCount "sorted" 1 1 _) (wpAny_pure ?_)
  refine wpAny_bind (collect_set (A := A.in1) hh ⟨o, ho, hex.1, hd⟩ hf hb hr hl fun s1 vs k1 hz g1 o1 pm => ?_)
  have hvl : vs.length = n := by
    have := pm.length_eq
    simp at this
    omega
  have hsz : vs.length ≤ sizeLine := by
    have := fits_of_scanBound hb
    omega
  have hI : StrsAre vs (vs.map txt) := strs_txt vs fun v hv => by
    obtain ⟨e, he, q⟩ := List.mem_map.mp (pm.mem_iff.mp hv)
    obtain ⟨x, tk, h1, _⟩ := g e he
    exact ⟨x, tk, by rw [← q]; exact h1⟩
  have pk : (vs.map txt).Perm (es.toList.map kE) := by
    have q := pm.map txt
    rw [List.map_map] at q
    exact q
  refine wpAny_bind (wpAny_newList ?_ hsz)
  have hoL : (s1.heap.push (seqObj "list" vs.toArray 0)).get? s1.heap.objs.size = some (seqObj "list" vs.toArray 0) := Heap.get?_push_size _ rfl
  have er : W.EachIs (fun v b => ∃ as, Reads (s1.heap.push (seqObj "list" vs.toArray 0)) v (PyData.str b) as ∧ s1.heap.objs.size ∉ as) vs (vs.map txt) := (each_strs hI).mono fun v b ⟨t, e⟩ => ⟨[], by rw [e]; exact .str _ _, by simp⟩
  refine wpAny_bind (wpAny_holding (W.list_sort_data (s := { s1 with heap := s1.heap.push (seqObj "list" vs.toArray 0) }) hoL (each_strs hI) er (W.AllAlike.of fun b b' => by simp [W.alike]) (W.Sortable.others fun b => ⟨by simp, by simp⟩) (by simpa using hsz) (fun b _ => ?_) fun out hlo eo => ?_))
  · show A.in1.units + 1 + (PyData.str b).depth < cLine
    have e : A.in1.units ≤ A.units + 1 := by
      show A.in1.units ≤ _
      simp [Around.in1]
    simp only [PyData.depth]
    omega
  · obtain ⟨c, hc⟩ := sortedHeap_at (vs := vs) (out := out.toArray) hoL
    have e2 : W.dataLe false PyData.str = leS := W.dataLe_str (fun b => b)
    rw [e2] at eo
    refine wpAny_pure ⟨_, rfl, hQ _ s1.heap.objs.size out.toArray c (vs.map txt) (fun b u e => ?_) g1 o1 hz hc (strs_each eo) (pk.nodup_iff.mpr nd) (fun k => by rw [pk.mem_iff, hm k]) (by simpa using hvl)⟩
    have q := k1 b u e
    have hlt := Heap.lt_size q
    show (sortedHeap (s1.heap.push (seqObj "list" vs.toArray 0)) s1.heap.objs.size vs out.toArray).get? b = some u
    rw [sortedHeap_old (Nat.ne_of_lt hlt) (by rw [size_push']; exact Nat.lt_succ_of_lt hlt)]
    exact Heap.get?_push_of_some _ q
end
end TxS
/-! AMu3: sets of texts by the tracked heap. -/
namespace TxS
open PySem PySem.Spec PyProof.Rows L2

/-! ### the order -/
theorem leS_trans (x y z : Str) (a : leS x y = true) (b : leS y z = true) : leS x z = true := by
  unfold leS at *
  exact decide_eq_true (List.le_trans (of_decide_eq_true a) (of_decide_eq_true b))
theorem leS_total (x y : Str) : (leS x y || leS y x) = true := by
  unfold leS
  rw [Bool.or_eq_true, decide_eq_true_eq, decide_eq_true_eq]
  exact List.le_total _ _
theorem leS_anti {x y : Str} (a : leS x y = true) (b : leS y x = true) : x = y := by
  unfold leS at *
  have e := List.le_antisymm (of_decide_eq_true a) (of_decide_eq_true b)
  cases x
  cases y
  exact congrArg Str.mk (Array.toList_inj.mp e)
/-- sorted(set(ys)) -/
def dedS : List Str → List Str
  | [] => []
  | x :: r => if x ∈ r then dedS r else x :: dedS r
theorem dedS_mem {k : Str} : ∀ {ys : List Str}, k ∈ dedS ys ↔ k ∈ ys
  | [] => Iff.rfl
  | x :: r => by
    unfold dedS
    by_cases c : x ∈ r
    · rw [if_pos c, dedS_mem, List.mem_cons]
      exact ⟨.inr, fun h => h.elim (fun e => e ▸ c) id⟩
    · rw [if_neg c, List.mem_cons, List.mem_cons, dedS_mem]
theorem dedS_nodup : ∀ ys : List Str, (dedS ys).Nodup
  | [] => List.nodup_nil
  | x :: r => by
    unfold dedS
    by_cases c : x ∈ r
    · rw [if_pos c]
      exact dedS_nodup r
    · rw [if_neg c, List.nodup_cons, dedS_mem]
      exact ⟨c, dedS_nodup r⟩
def sortS (ys : List Str) : List Str := (dedS ys).mergeSort leS
theorem sortS_mem {ys : List Str} {k : Str} : k ∈ sortS ys ↔ k ∈ ys := by
  unfold sortS
  rw [(List.mergeSort_perm _ _).mem_iff, dedS_mem]
theorem sortS_nodup (ys : List Str) : (sortS ys).Nodup := by
  unfold sortS
  rw [(List.mergeSort_perm _ _).nodup_iff]
  exact dedS_nodup _
theorem sortS_le (ys : List Str) : (sortS ys).Pairwise fun x y => leS x y = true := List.pairwise_mergeSort leS_trans leS_total _
theorem perm_of_mem {xs ys : List Str} (hx : xs.Nodup) (hy : ys.Nodup) (h : ∀ k, k ∈ xs ↔ k ∈ ys) : xs.Perm ys := (List.perm_ext_iff_of_nodup hx hy).mpr h
theorem sort_uniq {xs ys : List Str} (hx : xs.Nodup) (h : ∀ k, k ∈ xs ↔ k ∈ ys) : xs.mergeSort leS = sortS ys := by
  refine List.Perm.eq_of_pairwise (le := fun x y => leS x y = true) (fun a b _ _ h1 h2 => leS_anti h1 h2) (List.pairwise_mergeSort leS_trans leS_total _) (sortS_le ys) ?_
  refine perm_of_mem ?_ (sortS_nodup ys) fun k => ?_
  · rw [(List.mergeSort_perm _ _).nodup_iff]
    exact hx
  · rw [(List.mergeSort_perm _ _).mem_iff, sortS_mem, h]

/-- the set of texts at a, tracked -/
def SetXO (w : World) (a : Addr) (S : Str → Prop) (n : Nat) : HO := .ext fun h => SetX w h a S n
section
variable {X : Cx}
theorem setXO_new {w : World} {P : Program} {H : Hp} {h : Heap} {a : Addr} {S : Str → Prop} {n : Nat} (R : SetX w h a S n) : ObjOk P w H h a (SetXO w a S n) := by
  have ⟨o, _, _, _, ho, _⟩ := R
  exact ⟨R, ⟨o, ho⟩, fun h1 h2 p k => SetX.move p k⟩
theorem strs_of_vals : ∀ {xs : List Str} {us : List Value}, Vals (xs.map V.str) us → StrsAre us xs
  | [], _, .nil => .nil
  | x :: xs, _, .cons r t => by
    obtain ⟨tk, e⟩ := r
    rw [e]
    exact .cons x tk (strs_of_vals t)
theorem vals_of_strs : ∀ {us : List Value} {xs : List Str}, StrsAre us xs → Vals (xs.map V.str) us
  | _, _, .nil => .nil
  | _, _, .cons x t r => .cons ⟨t, rfl⟩ (vals_of_strs r)
def rSetX (K : PySem.W.Frag) (w : World) : List V → Hp → VK → Prop := fun xs H Q => ∃ (l : Addr) (ys : List Str), xs = [V.ref l] ∧ SqL K H l (ys.map V.str) ∧ ys.length ≤ 1000 ∧
  ∀ a c, H a = none → c ≤ ys.length → Q (.ref a) (upd H a (SetXO w a (fun j => j ∈ ys) c))
theorem cr_setX (hc : X.calm = true) : CallR X (.type "set") (rSetX X.K X.w) := by
  intro pins s σ H xs us Q I r h
  obtain ⟨l, ys, rfl, hl, hn, q⟩ := h
  rw [Vals.ref1 r]
  obtain ⟨its, rv, pl, hz⟩ := I.list hl
  have hn0 : H s.heap.objs.size = none := I.hok.fresh (Nat.le_refl _)
  refine call_set (P := X.prog) (w := X.w) ys (I.ok.hd hc) pl.isList (by simpa using strs_of_vals rv) (by unfold scanBound; omega) fun h' tk c R hc' k => ?_
  exact ⟨.ref s.heap.objs.size, upd H s.heap.objs.size (SetXO X.w s.heap.objs.size (fun j => j ∈ ys) c), I.laid (t' := tk) k (Nat.le_refl _) (setXO_new R), rfl, q _ c hn0 hc'⟩
def rSortX (w : World) : List V → Hp → VK → Prop := fun vs H Q => ∃ (a : Addr) (ys : List Str) (n : Nat), vs = [V.ref a] ∧ H a = some (SetXO w a (fun j => j ∈ ys) n) ∧ n ≤ 1000 ∧
  ∀ p, H p = none → Q (.ref p) (upd H p (.lst ((sortS ys).map V.str)))
theorem cr_sortX (hc : X.calm = true) (hu : X.A.units + 64 < cLine) : CallR X (.builtin "sorted") (rSortX X.w) := by
  intro pins s σ H vs us Q I r h
  obtain ⟨a, ys, n, rfl, ha, h1, q⟩ := h
  have R : SetX X.w s.heap a (fun j => j ∈ ys) n := (I.hok a _ ha).1
  rw [Vals.ref1 r]
  refine sorted_ok R (I.ok.hd hc) (by omega) fun s' p out c xs k g o hp hg hi nd hm hl => ?_
  rw [sort_uniq nd hm] at hi
  have hlx : (sortS ys).length = n := by
    rw [← hl]
    unfold sortS
    rw [List.length_mergeSort]
    refine (perm_of_mem ?_ nd fun k => ?_).length_eq
    · exact dedS_nodup _
    · rw [dedS_mem, hm]
  have hlen : ((sortS ys).map V.str).length ≤ sizeLine := by rw [List.length_map, hlx, sizeLine_eq]; omega
  have hn : H p = none := I.hok.fresh hp
  have J : Inv X pins σ (upd H p (.lst ((sortS ys).map V.str))) { s with heap := s'.heap, gens := s'.gens, drawn := s'.drawn, toks := s'.toks } :=
    I.call (ch := []) (Un.laid k hp hn) (I.hok.laid k hp ⟨hlen, out.toList, c, vals_of_strs hi, hg⟩) (by rw [g]; exact I.bare) (fun _ z => nomatch z)
  have e : s' = { s with heap := s'.heap, gens := s'.gens, drawn := s'.drawn, toks := s'.toks } := by
    cases s'
    cases s
    cases o
    rfl
  rw [e]
  exact ⟨.ref p, _, J, rfl, q p hn⟩
end
end TxS
/-! AMe: the machine's meaning of expressions. -/
namespace AM
open PySem PySem.Spec PyProof.Rows L2

/-- what is known where an expression stands: the def's slots, the block's scope, the module's names, the built-ins not hidden, the defs' parameters, how keywords bind, which list displays are the machine's own objects -/
structure DC where
  N : List Str
  sc : Scope
  glob : Str → Option AV
  free : Str → Bool
  fn : Str → Option (List Str)
  kw : Str → Nat → List Str → Option (List Nat)
  hp : Pos → Bool
  exc : Str → Option Str
  hx : Str → Bool
  exm : Str → Str → Option Bool
  mak : Str → Option Nat
  fld : Str → Str → Bool
  isi : TN → TN → Option Bool
  xv : Str → Bool
  inc : Str → Bool
  xf : Str → Str → Bool
  mkw : Str → Nat → List Str → Option (List Nat × List AV)
  meth : Str → Str → Option (Str × Nat)
def visB (sc : Scope) (x : Str) : Bool := match sc.names.lookup x with
  | some .local => true
  | some .cell => true
  | some .free => true
  | _ => false
def glB (sc : Scope) (x : Str) : Bool := match sc.names.lookup x with
  | some .globalImplicit => true
  | _ => false
def locB (sc : Scope) (x : Str) : Bool := match sc.names.lookup x with
  | some .local => true
  | some .cell => true
  | _ => false
def dun (x : Str) : Bool := (x == ("__debug__" : Str)) || (x == ("__classdict__" : Str)) || (x == ("__name__" : Str))
def idxOf (x : Str) : List Str → Option Nat
  | [] => none
  | y :: r => if y = x then some 0 else (idxOf x r).map (· + 1)
/-- the built-in types as values -/
def btyOf (x : Str) : Option String :=
  if x = "str" then some "str" else if x = "int" then some "int" else if x = "bool" then some "bool" else if x = "tuple" then some "tuple" else if x = "list" then some "list" else if x = "dict" then some "dict" else if x = "ValueError" then some "ValueError" else if x = "LookupError" then some "LookupError" else if x = "ArithmeticError" then some "ArithmeticError" else none
def constM : Const → ME
  | .none => retM .non
  | .bool b => retM (.bl b)
  | .int i => retM (.int i)
  | .str s => retM (.str s)
  | _ => fun _ _ => .stk
def slotM (i : Nat) : ME := fun ρ h => match ρ[i]? with
  | some (some v) => .ok v h
  | _ => .stk
def nameM (d : DC) (x : Str) : ME :=
  if dun x then fun _ _ => .stk else
  if visB d.sc x then (match idxOf x d.N with
    | some i => slotM i
    | none => fun _ _ => .stk)
  else if glB d.sc x then (match d.glob x with
    | some v => retM v
    | none => if d.free x then (match btyOf x with
      | some n => retM (.ty n)
      | none => fun _ _ => .stk) else fun _ _ => .stk)
  else fun _ _ => .stk
def isStar : Expr → Bool
  | .Starred _ _ => true
  | _ => false
def isSl : Expr → Bool
  | .Slice _ _ _ _ => true
  | _ => false
/-- tests read otherwise than by their value's truth -/
def isTst : Expr → Bool
  | .UnaryOp .Not _ _ => true
  | .BoolOp _ _ _ => true
  | .IfExp _ _ _ _ => true
  | .Compare _ _ _ _ => true
  | _ => false
def isIf : Expr → Bool
  | .IfExp _ _ _ _ => true
  | _ => false
def evsM (f : Expr → ME) : List Expr → MEs
  | [] => fun _ h => .ok [] h
  | e :: es => if isStar e then fun _ _ => .stk else fun ρ h => (f e ρ h).bind fun v h1 => (evsM f es ρ h1).bind fun vs h2 => .ok (v :: vs) h2
def plainAll (es : List Expr) : Bool := es.all fun e => !isStar e
def argsM (f : Expr → ME) (es : List Expr) : MEs := if plainAll es then evsM f es else fun _ _ => .stk
/-- a value's truth -/
def truR (v : AV) (h : AH) : Res Bool := match truA v h with
  | some b => .ok b h
  | none => .stk
def tstM (m : ME) : AM.Env → AH → Res Bool := fun ρ h => (m ρ h).bind truR
def notM (m : ME) : ME := fun ρ h => (m ρ h).bind fun v h1 => (truR v h1).bind fun b h2 => .ok (.bl (!b)) h2
def negM (m : ME) : ME := fun ρ h => (m ρ h).bind fun v h1 => match v with
  | .int i => .ok (.int (-i)) h1
  | _ => .stk
def andM (a b : ME) : ME := fun ρ h => (a ρ h).bind fun v h1 => (truR v h1).bind fun t h2 => if t then b ρ h2 else .ok v h2
def orM (a b : ME) : ME := fun ρ h => (a ρ h).bind fun v h1 => (truR v h1).bind fun t h2 => if t then .ok v h2 else b ρ h2
def boolM (f : Expr → ME) (op : BoolOp) : List Expr → ME
  | [] => fun _ _ => .stk
  | [e] => if isIf e then fun _ _ => .stk else f e
  | e :: es => if isIf e then fun _ _ => .stk else match op with
    | .And => andM (f e) (boolM f op es)
    | .Or => orM (f e) (boolM f op es)
def chainM (a b c : ME) (f g : Op2) : ME := fun ρ h => (a ρ h).bind fun v h1 => (b ρ h1).bind fun w h2 => (f v w h2).bind fun t h3 => match t with
  | .bl true => (c ρ h3).bind fun z h4 => g w z h4
  | .bl false => .ok (.bl false) h3
  | _ => .stk
def iteM (c : AM.Env → AH → Res Bool) (a b : ME) : ME := fun ρ h => (c ρ h).bind fun t h1 => if t then a ρ h1 else b ρ h1
def tupM (es : MEs) : ME := fun ρ h => (es ρ h).bind fun vs h1 => if lenOk vs.length then .ok (.tup vs) h1 else .stk
def lstM (es : MEs) : ME := fun ρ h => (es ρ h).bind fun vs h1 => if lenOk vs.length then .ok (.lst vs) h1 else .stk
/-- a list that is the machine's own object -/
def newM (es : MEs) : ME := fun ρ h => (es ρ h).bind fun vs h1 => if lenOk vs.length then .ok (.ref h1.length) (h1 ++ [.lst vs]) else .stk
def partM (f : Expr → ME) : Option Expr → AM.Env → AH → Res (Option Int)
  | none => fun _ h => .ok none h
  | some e => fun ρ h => (f e ρ h).bind fun v h1 => match v with
    | .int i => .ok (some i) h1
    | _ => .stk
def sliceM (m : ME) (lo hi : AM.Env → AH → Res (Option Int)) : ME := fun ρ h => (m ρ h).bind fun v h1 => (lo ρ h1).bind fun l h2 => (hi ρ h2).bind fun u h3 => sliceF v l u h3
/-- xs[::-1] -/
def revF (v : AV) (h : AH) : Res AV := match v with
  | .lst xs => .ok (.lst xs.reverse) h
  | .ext xs => .ok (.lst xs.reverse) h
  | .tup xs => .ok (.tup xs.reverse) h
  | .ref n => (match h[n]? with
    | some (.lst xs) => .ok (.lst xs.reverse) h
    | _ => .stk)
  | _ => .stk
def revM (m : ME) : ME := fun ρ h => (m ρ h).bind revF
/-- sorted(set(xs)) of texts -/
def sortSetF (v : AV) (h : AH) : Res AV := match v with
  | .lst xs => (match strsOf xs with
    | some ys => if ys.length ≤ 1000 then .ok (.lst ((TxS.sortS ys).map .str)) h else .stk
    | none => .stk)
  | .ref n => (match h[n]? with
    | some (.lst xs) => (match strsOf xs with
      | some ys => if ys.length ≤ 1000 then .ok (.lst ((TxS.sortS ys).map .str)) h else .stk
      | none => .stk)
    | _ => .stk)
  | _ => .stk
def sortSetM (m : ME) : ME := fun ρ h => (m ρ h).bind sortSetF
/-- a built-in that is called by its name -/
inductive Bif where
  | len | all | any | sum | abs | max | min | divmod | isinstance | str | int | tuple | list | repr
def bifOf (x : Str) : Option Bif :=
  if x = "len" then some .len else if x = "all" then some .all else if x = "any" then some .any else if x = "sum" then some .sum else if x = "abs" then some .abs else
  if x = "max" then some .max else if x = "min" then some .min else if x = "divmod" then some .divmod else if x = "isinstance" then some .isinstance else
  if x = "str" then some .str else if x = "int" then some .int else if x = "tuple" then some .tuple else if x = "list" then some .list else if x = "repr" then some .repr else none
def bifF : Bif → OpN
  | .len => lenF | .all => allF | .any => anyF | .sum => sumF | .abs => absF | .max => maxF | .min => minF | .divmod => divmodF | .isinstance => isiF
  | .str => strF | .int => intF | .tuple => tupleF | .list => listF | .repr => reprF
def callM (f : OpN) (es : MEs) : ME := fun ρ h => (es ρ h).bind fun vs h1 => f vs h1
def pick {α : Type} (ord : List Nat) (l : List α) : List α := ord.filterMap fun i => l[i]?
def kwNames (kws : List Keyword) : List Str := kws.filterMap (·.arg)
def callKM (f : OpN) (ord : List Nat) (es ks : MEs) : ME := fun ρ h => (es ρ h).bind fun vs h1 => (ks ρ h1).bind fun zs h2 => f (pick ord (vs ++ zs)) h2
def kwsM (f : Expr → ME) : List Keyword → MEs
  | [] => fun _ h => .ok [] h
  | k :: ks => fun ρ h => (f k.value ρ h).bind fun v h1 => (kwsM f ks ρ h1).bind fun vs h2 => .ok (v :: vs) h2
/-- a class called with keywords, with defaults left out: dv the defaults -/
def callMK (f : OpN) (ord : List Nat) (dv : List AV) (es ks : MEs) : ME := fun ρ h => (es ρ h).bind fun vs h1 => (ks ρ h1).bind fun zs h2 => f (vs ++ pick ord (zs ++ dv)) h2
def ucM (f : Expr → ME) (d : DC) (F : Str → OpN) (x : Str) (args : List Expr) (kws : List Keyword) : ME :=
  if dun x || !(glB d.sc x) then fun _ _ => .stk else
  match kws with
  | [] => (match d.fn x with
    | some ps => if Nat.beq args.length ps.length then callM (F x) (argsM f args) else fun _ _ => .stk
    | none => (match d.mak x with
      | some n => if Nat.beq args.length n then callM (F x) (argsM f args) else (match d.mkw x args.length [] with
        | some od => callMK (F x) od.1 od.2 (argsM f args) (kwsM f [])
        | none => fun _ _ => .stk)
      | none => if d.free x then (if x = "isinstance" then (if args.isEmpty then fun _ _ => .stk else callM (isiG d.isi d.xv d.inc) (argsM f args)) else match bifOf x with
        | some b => if args.isEmpty then fun _ _ => .stk else callM (bifF b) (argsM f args)
        | none => fun _ _ => .stk) else fun _ _ => .stk))
  | _ :: _ => if kws.all (·.arg.isSome) then (match d.kw x args.length (kwNames kws) with
    | some ord => callKM (F x) ord (argsM f args) (kwsM f kws)
    | none => (match d.mkw x args.length (kwNames kws) with
      | some od => callMK (F x) od.1 od.2 (argsM f args) (kwsM f kws)
      | none => fun _ _ => .stk)) else fun _ _ => .stk
/-- a receiver that super() is not -/
def plainO : Expr → Bool
  | .Call (.Name x _) [] [] _ => x != ("super" : Str)
  | .Call _ [] [] _ => false
  | _ => true
/-- o.f of an own object, of a caught exception -/
def fldM (d : DC) (f : Str) (m : ME) : ME := fun ρ h => (m ρ h).bind fun v h1 => match v with
  | .ref n => (match h1[n]? with
    | some (.ins c fs) => if d.fld c f then (match fs.lookup f with
      | some w => .ok w h1
      | none => .stk) else .stk
    | _ => .stk)
  | .xo c fs => if d.xf c f then (match fs.lookup f with
    | some w => .ok w h1
    | none => .stk) else .stk
  | _ => .stk
def putA (f : Str) (v : AV) : List (Str × AV) → List (Str × AV)
  | [] => [(f, v)]
  | (g, x) :: r => if g = f then (g, v) :: r else (g, x) :: putA f v r
/-! ### methods of texts -/
inductive Smt where
  | upper | join
def smtOf (x : Str) : Option Smt := if x = "upper" then some .upper else if x = "join" then some .join else none
def upperF : AV → OpN := fun v vs h => match v, vs with
  | .str a, [] => if a.length ≤ 5592405 then .ok (.str (Txt.upper a)) h else .stk
  | _, _ => .stk
def joinF : AV → OpN := fun v vs h => match v, vs with
  | .str a, [w] => (match w with
    | .lst xs => (match strsOf xs with
      | some ys => if (ys.map (·.length)).sum + ys.length * a.length ≤ 16777216 then .ok (.str (Txt.join a ys)) h else .stk
      | none => .stk)
    | .tup xs => (match strsOf xs with
      | some ys => if (ys.map (·.length)).sum + ys.length * a.length ≤ 16777216 then .ok (.str (Txt.join a ys)) h else .stk
      | none => .stk)
    | _ => .stk)
  | _, _ => .stk
def smt0 (f : AV → OpN) (o : ME) : ME := fun ρ h => (o ρ h).bind fun v h1 => match v with
  | .str _ => f v [] h1
  | _ => .stk
def smt1 (f : AV → OpN) (o e : ME) : ME := fun ρ h => (o ρ h).bind fun v h1 => match v with
  | .str _ => (e ρ h1).bind fun w h2 => f v [w] h2
  | _ => .stk
def smtM (f : Expr → ME) (m : Smt) (o : Expr) (args : List Expr) : ME := match args with
  | [] => (match m with
    | .upper => smt0 upperF (f o)
    | _ => fun _ _ => .stk)
  | [e] => if isStar e then fun _ _ => .stk else (match m with
    | .join => smt1 joinF (f o) (f e)
    | _ => fun _ _ => .stk)
  | _ => fun _ _ => .stk
/-- o.append(e) of a list of the machine's own -/
def appM (o e : ME) : ME := fun ρ h => (o ρ h).bind fun v h1 => match v with
  | .ref n => (match h1[n]? with
    | some (.lst _) => (e ρ h1).bind fun w h2 => (match h2[n]? with
      | some (.lst xs) => if xs.length < sizeLine then .ok .non (h2.set n (.lst (xs ++ [w]))) else .stk
      | _ => .stk)
    | _ => .stk)
  | _ => .stk
def appA (f : Expr → ME) (o : Expr) (args : List Expr) : ME := match args with
  | [e] => if isStar e then fun _ _ => .stk else appM (f o) (f e)
  | _ => fun _ _ => .stk
/-! ### methods of lists: count, index of flat items -/
def flV : AV → Option V
  | .non => some .non
  | .bl b => some (.bl b)
  | .int i => some (.int i)
  | .str x => some (.str x)
  | _ => none
def flVs : List AV → Option (List V)
  | [] => some []
  | x :: xs => (flV x).bind fun v => (flVs xs).map fun vs => v :: vs
inductive Lmt where
  | count | index
def lmtOf (x : Str) : Option Lmt := if x = "count" then some .count else if x = "index" then some .index else none
def lmtF (m : Lmt) (v w : AV) : OpN := fun _ h => match v with
  | .lst xs => (match flVs xs, flV w with
    | some vs, some y => (match m with
      | .count => .ok (.int (vs.countP (fun z => L2.eqV z y) : Nat)) h
      | .index => (match vs.findIdx? (fun z => L2.eqV z y) with
        | some j => .ok (.int (j : Nat)) h
        | none => .stk))
    | _, _ => .stk)
  | _ => .stk
def lmtM (f : Expr → ME) (m : Lmt) (o : Expr) (args : List Expr) : ME := match args with
  | [e] => if isStar e then fun _ _ => .stk else fun ρ h => (f o ρ h).bind fun v h1 => (match v with
    | .lst _ => (f e ρ h1).bind fun w h2 => lmtF m v w [] h2
    | _ => .stk)
  | _ => fun _ _ => .stk
def noX {α : Type} : Res α → Res α
  | .ok a h => .ok a h
  | _ => .stk
/-! ### own == -/
def isIns (v : AV) (h : AH) : Bool := match v with
  | .ref i => (match h[i]? with
    | some (.ins _ _) => true
    | _ => false)
  | _ => false
def sameC (c : Str) (w : AV) (h : AH) : Bool := match w with
  | .ref j => (match h[j]? with
    | some (.ins c' _) => decide (c = c')
    | _ => false)
  | _ => false
def sameR : AV → AV → Bool
  | .ref i, .ref j => Nat.beq i j
  | _, _ => false
/-- v == w, v an own object, by its class's own == -/
def own1 (F : Str → OpN) (me : Str → Str → Option (Str × Nat)) (v w : AV) (h : AH) : Res Bool := match v with
  | .ref i => (match h[i]? with
    | some (.ins c _) => (match me c "__eq__" with
      | some kn => if Nat.beq 1 kn.2 && sameC c w h then (noX (F kn.1 [v, w] h)).bind fun r h1 => (match r with
        | .bl b => .ok b h1
        | _ => .stk) else .stk
      | none => .stk)
    | _ => .stk)
  | _ => .stk
/-- item by item, all alike -/
def eqsM (F : Str → OpN) (me : Str → Str → Option (Str × Nat)) : List AV → List AV → AH → Res Bool
  | [], [], h => .ok true h
  | x :: xs, y :: ys, h => if isIns x h && isIns y h then (if sameR x y then eqsM F me xs ys h else (own1 F me x y h).bind fun b h1 => if b then eqsM F me xs ys h1 else .stk) else .stk
  | _, _, _ => .stk
def hasIns (xs : List AV) (h : AH) : Bool := match xs with
  | x :: _ => isIns x h
  | [] => false
def boolR (r : Res Bool) : Res AV := r.bind fun b h => .ok (.bl b) h
def eqG (F : Str → OpN) (me : Str → Str → Option (Str × Nat)) : Op2 := fun v w h => if isIns v h then boolR (own1 F me v w h) else match v, w with
  | .lst xs, .lst ys => if hasIns xs h then boolR (eqsM F me xs ys h) else eqO (.lst xs) (.lst ys) h
  | v, w => eqO v w h
/-- own: where the place is marked -/
def cmpG (F : Str → OpN) (d : DC) (own : Bool) (op : CmpOp) : Op2 := if own then (match op with
  | .Eq => eqG F d.meth
  | op => cmpO op) else cmpO op
/-! ### own methods -/
def mthM (F : Str → OpN) (d : DC) (m : Str) (o : ME) (n : Nat) (es : MEs) : ME := fun ρ h => (o ρ h).bind fun v h1 => match v with
  | .ref i => (match h1[i]? with
    | some (.ins c fs) => (match d.meth c m with
      | some kn => if Nat.beq n kn.2 && (fs.lookup m).isNone then (es ρ h1).bind fun vs h2 => F kn.1 (v :: vs) h2 else .stk
      | none => .stk)
    | _ => .stk)
  | _ => .stk
/-! ### targets of fors -/
def bindTs (f : Expr → AV → AM.Env → Option AM.Env) : List Expr → List AV → AM.Env → Option AM.Env
  | [], [], ρ => some ρ
  | e :: es, v :: vs, ρ => if isStar e then none else (f e v ρ).bind fun ρ1 => bindTs f es vs ρ1
  | _, _, _ => none
/-- a name, or a tuple of such -/
def bindT (d : DC) : Nat → Expr → AV → AM.Env → Option AM.Env
  | 0, _, _, _ => none
  | n + 1, e, v, ρ => match e with
    | .Name x _ => if locB d.sc x then (idxOf x d.N).map fun i => ρ.set i (some v) else none
    | .Tuple es _ _ => (match v with
      | .tup xs => bindTs (bindT d n) es xs ρ
      | _ => none)
    | _ => none
def tslotsL (f : Expr → List Nat) : List Expr → List Nat
  | [] => []
  | e :: es => f e ++ tslotsL f es
def tslots (d : DC) : Nat → Expr → List Nat
  | 0, _ => []
  | n + 1, e => match e with
    | .Name x _ => (idxOf x d.N).toList
    | .Tuple es _ _ => tslotsL (tslots d n) es
    | _ => []
/-! ### what a for walks -/
def signs (z : Str) : List AV := z.cps.toList.map fun c => .str ⟨#[c]⟩
def itemsOf (v : AV) : Option (List AV) := match v with
  | .lst xs => some xs
  | .ext xs => some xs
  | .tup xs => some xs
  | .str z => some (signs z)
  | _ => none
def itemsR (v : AV) (h : AH) : Res (List AV) := match itemsOf v with
  | some xs => .ok xs h
  | none => .stk
def ranges (lo : Int) (n : Nat) : List AV := (List.range n).map fun i => .int (lo + (i : Nat))
def rangesC (lo c : Int) (n : Nat) : List AV := (List.range n).map fun i => .int (lo + (i : Nat) * c)
def small62 (i : Int) : Bool := decide (-(2 ^ 62) ≤ i) && decide (i < 2 ^ 62)
def rangeR : List AV → AH → Res (List AV) := fun vs h => match vs with
  | [.int j] => if small62 j then .ok (ranges 0 j.toNat) h else .stk
  | [.int i, .int j] => if small62 i && small62 j then .ok (ranges i (j - i).toNat) h else .stk
  | [.int i, .int j, .int c] => if decide (c ≠ 0) && decide (c.natAbs < 1073741824) && Builtin.Range.small i j c && decide (0 ≤ Builtin.Range.rangeSize i j c) then .ok (rangesC i c (Builtin.Range.rangeSize i j c).toNat) h else .stk
  | _ => .stk
def enumI : Nat → List AV → List AV
  | _, [] => []
  | i, x :: xs => .tup [.int (i : Nat), x] :: enumI (i + 1) xs
def zipI : List AV → List AV → List AV
  | x :: xs, y :: ys => .tup [x, y] :: zipI xs ys
  | _, _ => []
def enumR : List AV → AH → Res (List AV) := fun vs h => match vs with
  | [v] => (match lstOf v with
    | some xs => .ok (enumI 0 xs) h
    | none => (match v with
      | .tup xs => .ok (enumI 0 xs) h
      | .str z => if z.cps.all (· < 128) then .ok (enumI 0 (signs z)) h else .stk
      | _ => .stk))
  | _ => .stk
/-- zip(.., strict=True) of two lists, two tuples -/
def zipR : List AV → AH → Res (List AV) := fun vs h => match vs with
  | [v, w] => (match v, w with
    | .lst xs, .lst ys => if xs.length = ys.length then .ok (zipI xs ys) h else .stk
    | .tup xs, .tup ys => if xs.length = ys.length then .ok (zipI xs ys) h else .stk
    | _, _ => .stk)
  | _ => .stk
/-- zip(a, b) of two lists, two tuples -/
def zipQ : List AV → AH → Res (List AV) := fun vs h => match vs with
  | [v, w] => (match v, w with
    | .lst xs, .lst ys => .ok (zipI xs ys) h
    | .tup xs, .tup ys => .ok (zipI xs ys) h
    | _, _ => .stk)
  | _ => .stk
def isTup : Expr → Bool
  | .Tuple _ _ _ => true
  | _ => false
def isSet : Expr → Bool
  | .Set _ _ _ => true
  | _ => false
/-- the items of the iterable, tg the target -/
def itM (f : Expr → ME) (d : DC) (tg it : Expr) : AM.Env → AH → Res (List AV) :=
  if isSet it then fun _ _ => .stk else
  match it with
  | .Call (.Name x _) args [] _ =>
    if x = "range" then (if glB d.sc x && d.free x && (Nat.beq args.length 1 || Nat.beq args.length 2 || Nat.beq args.length 3) then fun ρ h => (argsM f args ρ h).bind rangeR else fun _ _ => .stk)
    else if x = "enumerate" then (if glB d.sc x && d.free x && isTup tg && Nat.beq args.length 1 then fun ρ h => (argsM f args ρ h).bind enumR else fun _ _ => .stk)
    else if x = "zip" then (if glB d.sc x && d.free x && isTup tg && Nat.beq args.length 2 then fun ρ h => (argsM f args ρ h).bind zipQ else fun _ _ => .stk)
    else fun ρ h => (f it ρ h).bind itemsR
  | .Call (.Name x _) [e, e2] [⟨some kw, .Constant (.bool true) _ _, _⟩] _ =>
    if x = "zip" ∧ kw = "strict" then (if glB d.sc x && d.free x && isTup tg && !isStar e && !isStar e2 then fun ρ h => (evsM f [e, e2] ρ h).bind zipR else fun _ _ => .stk)
    else fun ρ h => (f it ρ h).bind itemsR
  | _ => fun ρ h => (f it ρ h).bind itemsR
/-! ### comprehensions -/
def wipeA (ρ : AM.Env) : List Nat → AM.Env
  | [] => ρ
  | v :: vs => (wipeA ρ vs).set v none
/-- [elt for target in items if ..]: ρ the names with the block's own ones forgotten -/
def compL (asg : AV → AM.Env → Option AM.Env) (test : AM.Env → AH → Res Bool) (elt : ME) (ρ : AM.Env) : List AV → List AV → AH → Res (List AV)
  | [], acc, h => .ok acc h
  | a :: r, acc, h => match asg a ρ with
    | none => .stk
    | some ρ1 => (noX (test ρ1 h)).bind fun b h1 => if b then (noX (elt ρ1 h1)).bind fun v h2 => if acc.length < sizeLine then compL asg test elt ρ r (acc ++ [v]) h2 else .stk else compL asg test elt ρ r acc h1
def testsM (f : Expr → ME) : List Expr → AM.Env → AH → Res Bool
  | [] => fun _ h => .ok true h
  | [e] => if isIf e then fun _ _ => .stk else tstM (f e)
  | _ => fun _ _ => .stk
/-- the block's own names with their slots -/
def ownOf (N : List Str) (sc : Scope) : List (Str × Nat) := sc.names.filterMap fun y => match y.2 with
  | .local => (idxOf y.1 N).map fun i => (y.1, i)
  | .cell => (idxOf y.1 N).map fun i => (y.1, i)
  | _ => none
def subB (xs ys : List Nat) : Bool := xs.all fun x => ys.any fun y => Nat.beq x y
def compM (f fi : Expr → ME) (d : DC) (n : Nat) (elt tg it : Expr) (ifs : List Expr) (sc : Scope) : ME := fun ρ h =>
  let own := (ownOf d.N sc).map (·.2)
  if blkC d.N d.sc sc (ownOf d.N sc) && subB (tslots { d with sc := sc } n tg) own then
    (itM f d tg it ρ h).bind fun xs h1 => (compL (bindT { d with sc := sc } n tg) (testsM fi ifs) (fi elt) (wipeA ρ own) xs [] h1).bind fun ys h2 => .ok (.lst ys) h2
  else .stk
/-- the items of the own list n, asked at each turn: m turns at most -/
def compLD (n : Nat) (asg : AV → AM.Env → Option AM.Env) (test : AM.Env → AH → Res Bool) (elt : ME) (ρ : AM.Env) : Nat → Nat → List AV → AH → Res (List AV)
  | 0, i, acc, h => (match h[n]? with
    | some (.lst ys) => if ys.length ≤ i then .ok acc h else .stk
    | _ => .stk)
  | m + 1, i, acc, h => (match h[n]? with
    | some (.lst ys) => (match ys[i]? with
      | none => .ok acc h
      | some a => (match asg a ρ with
        | none => .stk
        | some ρ1 => (noX (test ρ1 h)).bind fun b h1 => if b then (noX (elt ρ1 h1)).bind fun v h2 => if acc.length < sizeLine then compLD n asg test elt ρ m (i + 1) (acc ++ [v]) h2 else .stk else compLD n asg test elt ρ m (i + 1) acc h1))
    | _ => .stk)
def compOM (fi : Expr → ME) (d : DC) (n : Nat) (elt tg : Expr) (it : ME) (ifs : List Expr) (sc : Scope) : ME := fun ρ h =>
  let own := (ownOf d.N sc).map (·.2)
  if blkC d.N d.sc sc (ownOf d.N sc) && subB (tslots { d with sc := sc } n tg) own then
    (it ρ h).bind fun v h1 => (match v with
      | .ref k => (match h1[k]? with
        | some (.lst xs) => (compLD k (bindT { d with sc := sc } n tg) (testsM fi ifs) (fi elt) (wipeA ρ own) xs.length 0 [] h1).bind fun ys h2 => .ok (.lst ys) h2
        | _ => .stk)
      | _ => .stk)
  else .stk
/-- the iterable is marked as an own list -/
def isOwn (d : DC) : Expr → Bool
  | .Name _ p => d.hp p
  | .Call _ _ _ p => d.hp p
  | _ => false
/-! ### all expressions -/
def ev (F : Str → OpN) : Nat → DC → Expr → ME
  | 0, _, _ => fun _ _ => .stk
  | n + 1, d, e => match e with
    | .Constant c _ _ => constM c
    | .Name x _ => nameM d x
    | .BinOp a op b _ => if binB op then bin2 (ev F n d a) (ev F n d b) (binO op) else fun _ _ => .stk
    | .UnaryOp .USub a _ => negM (ev F n d a)
    | .Dict [] [] _ => fun _ h => .ok (.dic [] []) h
    | .UnaryOp .Not a _ => if isIf a then fun _ _ => .stk else notM (ev F n d a)
    | .Compare a [op] [b] pos => if behindInMarks op b then fun _ _ => .stk else bin2 (ev F n d a) (ev F n d b) (cmpG F d (d.hp pos) op)
    | .Compare a [op, op'] [b, c] pos => if lastMarks [op, op'] [b, c] then fun _ _ => .stk else chainM (ev F n d a) (ev F n d b) (ev F n d c) (cmpG F d (d.hp pos) op) (cmpG F d (d.hp pos) op')
    | .BoolOp op es _ => boolM (ev F n d) op es
    | .IfExp c a b _ => if isIf c then fun _ _ => .stk else iteM (tstM (ev F n d c)) (ev F n d a) (ev F n d b)
    | .Tuple es _ _ => tupM (evsM (ev F n d) es)
    | .List es pos => if d.hp pos then newM (evsM (ev F n d) es) else lstM (evsM (ev F n d) es)
    | .Subscript a i _ => (match i with
      | .Slice none none (some (.UnaryOp .USub (.Constant (.int 1) _ _) _)) _ => revM (ev F n d a)
      | .Slice lo hi none _ => sliceM (ev F n d a) (partM (ev F n d) lo) (partM (ev F n d) hi)
      | _ => if isSl i then fun _ _ => .stk else bin2 (ev F n d a) (ev F n d i) idxO)
    | .Attribute o f _ => if plainO o then fldM d f (ev F n d o) else fun _ _ => .stk
    | .Call (.Name x _) [.Call (.Name y p2) [e] [] p3] [] _ => if x = "sorted" ∧ y = "set" then (if glB d.sc x && d.free x && glB d.sc y && d.free y && !isStar e then sortSetM (ev F n d e) else fun _ _ => .stk) else ucM (ev F n d) d F x [.Call (.Name y p2) [e] [] p3] []
    | .Call (.Name x _) args kws _ => ucM (ev F n d) d F x args kws
    | .Call (.Attribute o m apos) args [] pos => (match smtOf m with
      | some s => if (apos.endLine == pos.line) && plainO o then smtM (ev F n d) s o args else fun _ _ => .stk
      | none => if (apos.endLine == pos.line) && plainO o then (if m = "append" then appA (ev F n d) o args else (match lmtOf m with
        | some l => lmtM (ev F n d) l o args
        | none => if plainAll args && Nat.ble args.length 28 then mthM F d m (ev F n d o) args.length (evsM (ev F n d) args) else fun _ _ => .stk)) else fun _ _ => .stk)
    | .ListComp elt [⟨tg, it, ifs, 0⟩] sc _ => if isOwn d it then compOM (ev F n { d with sc := sc }) d n elt tg (ev F n d it) ifs sc else compM (ev F n d) (ev F n { d with sc := sc }) d n elt tg it ifs sc
    | _ => fun _ _ => .stk
end AM
/-! AMrv: t[::-1] of a tuple. -/
namespace XvS
open PySem PySem.Spec PyProof.Rows L2 HT

theorem adjust_rev (n : Nat) : Builtin.Slice.sliceAdjust none none (-1) (n : Int) = ((n : Int) - 1, -1) := by
  unfold Builtin.Slice.sliceAdjust
  simp
theorem places_rev (n : Nat) : Builtin.Slice.slicePlaces ((n : Int) - 1) (-1) (-1) = n := by
  unfold Builtin.Slice.slicePlaces
  simp
  split <;> omega
theorem pick_rev (xs : Array Value) : ((List.range xs.size).filterMap fun (m : Nat) => xs[(((xs.size : Nat) : Int) - 1 + (m : Int) * (-1)).toNat]?).toArray = xs.toList.reverse.toArray := by
  have e : ((List.range xs.size).filterMap fun (m : Nat) => xs[(((xs.size : Nat) : Int) - 1 + (m : Int) * (-1)).toNat]?) = ((List.range xs.size).map (fun k => xs.size - 1 - k)).filterMap (xs[·]?) := by
    rw [List.filterMap_map]
    congr 1
    funext m
    show xs[(((xs.size : Nat) : Int) - 1 + (m : Int) * (-1)).toNat]? = xs[xs.size - 1 - m]?
    have e2 : (((xs.size : Nat) : Int) - 1 + (m : Int) * (-1)).toNat = xs.size - 1 - m := by omega
    rw [e2]
  rw [e, PySem.W.krv_range, List.filterMap_reverse, PySem.W.krv_all]
section
variable {prog : Program} {w : World} {A : Around} {E : Value → Shared → Prop} {s : Shared}
theorem sliceApplied_rev {sl : Addr} {vl vu vs : Value} {n : Nat} {Q : Int × Int × Nat → Shared → Prop} (hs : s.heap.IsSliceOf sl vl vu vs) (pl : IsPart vl none) (pu : IsPart vu none) (ps : IsPart vs (some (-1)))
    (h : Q ((n : Int) - 1, -1, n) s) : wpAny (model prog w) A (Builtin.Slice.sliceApplied (.ref sl) (pure (n : Int))) Q E s := by
  obtain ⟨os, hos, hcs, hds⟩ := id hs
  unfold Builtin.Slice.sliceApplied Builtin.Slice.sliceFields
  refine wpAny_bind (wpAny_bind (wpAny_field hos hds (x := vl) rfl (wpAny_bind (wpAny_field hos hds (x := vu) rfl (wpAny_bind (wpAny_field hos hds (x := vs) rfl (wpAny_pure ?_)))))))
  refine wpAny_bind (slicePart_ ps ?_)
  show wpAny _ _ (if ((-1 : Int) == 0) = true then _ else _) _ _ s
  rw [if_neg (by decide)]
  refine wpAny_bind (slicePart_ pl (wpAny_bind (slicePart_ pu (wpAny_bind (wpAny_pure ?_)))))
  show wpAny _ _ (match Builtin.Slice.sliceAdjust none none (-1) (n : Int) with | (lo, hi) => pure (lo, (-1 : Int), Builtin.Slice.slicePlaces lo hi (-1))) _ _ s
  rw [adjust_rev n]
  show wpAny _ _ (pure ((n : Int) - 1, (-1 : Int), Builtin.Slice.slicePlaces ((n : Int) - 1) (-1) (-1))) _ _ s
  rw [places_rev]
  exact wpAny_pure h
theorem getItem_tuple_rev {t sl : Addr} {items : Array Value} {vl vu vs : Value} {Q : Value → Shared → Prop} (ht : IsTup s.heap t items) (hs : s.heap.IsSliceOf sl vl vu vs) (pl : IsPart vl none) (pu : IsPart vu none) (ps : IsPart vs (some (-1)))
    (h : Q (.ref s.heap.objs.size) { s with heap := s.heap.push { cls := .type "tuple", data := .seq items.toList.reverse.toArray } }) (hsz : items.size ≤ sizeLine) : wpAny (model prog w) A (getItem (.ref t) (.ref sl)) Q E s := by
  have hdrop : sizeOk (.seq items.toList.reverse.toArray) := by
    show items.toList.reverse.toArray.size ≤ sizeLine
    rw [List.size_toArray, List.length_reverse, Array.length_toList]
    exact hsz
  obtain ⟨os, hos, hcs, hds⟩ := id hs
  have hTs : s.TypeIs (.ref sl) "slice" := ⟨os, hos, hcs⟩
  unfold getItem
  try with_reducible refine wpAny_holding ?_
  first | refine wpAny_bind (wpAny_pure ?_) | skip
  refine wpAny_bind (wpAny_sequenceKey ht.typeIs (by decide) ?_)
  refine wpAny_bind (wpAny_callSpecial?_slot (name := Str.ofString "__getitem__") ht.typeIs PyProof.Rows.slot_tuple_getitem
    (wpAny_call_entry PyProof.Rows.slot_tuple_getitem ht.typeIs entry_tuple_getitem ?_ (args_tuple_getitem _ _)))
  show wpAny _ _ (Builtin.Tuple.tupleItemsOf (.ref t) >>= _) _ _ s
  refine wpAny_bind (tupleItemsOf_ ht ?_)
  refine wpAny_bind (wpAny_typeOf hTs ?_)
  rw [if_pos (by decide)]
  refine wpAny_bind (sliceApplied_rev hs pl pu ps ?_)
  have hno : ¬ ((((items.size : Nat) : Int) - 1 == 0 && (-1 : Int) == 1 && items.size == items.size) = true) := by
    simp
  show wpAny _ _ (if (((items.size : Nat) : Int) - 1 == 0 && (-1 : Int) == 1 && items.size == items.size) = true then _ else _) _ _ s
  rw [if_neg hno, pick_rev items]
  first
    | exact wpAny_bind (m := Builtin.Tuple.tupleExact _) (wpAny_newObj_type (wpAny_pure ⟨_, rfl, wpAny_pure h⟩) hdrop)
    | exact wpAny_bind (m := Builtin.Tuple.tupleExact _) (wpAny_newObj_type (wpAny_bind (wpAny_pure (wpAny_pure ⟨_, rfl, wpAny_pure h⟩))) hdrop)
    | exact wpAny_bind (wpAny_bind (m := Builtin.Tuple.tupleExact _) (wpAny_newObj_type (wpAny_pure (wpAny_pure ⟨_, rfl, wpAny_pure h⟩)) hdrop))
    | exact wpAny_bind (wpAny_bind (m := Builtin.Tuple.tupleExact _) (wpAny_newObj_type (wpAny_pure ⟨_, rfl, wpAny_pure h⟩) hdrop))
end
/-! ### xs[::-1] of a list, a tuple -/
def tRevA (K : PySem.W.Frag) (te : TE) : TE := fun σ H Q => te σ H fun x H1 => (∃ a xs, x = .ref a ∧ SqL K H1 a xs ∧ ∀ p, H1 p = none → Q (.ref p) (upd H1 p (.lst xs.reverse))) ∨ ∃ a xs, x = .ref a ∧ SqT K H1 a xs ∧ ∀ p, H1 p = none → Q (.ref p) (upd H1 p (.tup xs.reverse))
theorem pe_revA {X : Cx} {e : Expr} {te : TE} {k : Nat} {p1 p2 p3 pos : Pos} (he : PE X e te) : PE X (.Subscript e (.Slice none none (some (.UnaryOp .USub (.Constant (.int 1) k p1) p2)) p3) pos) (tRevA X.K te) := by
  refine ⟨fun pins s σ H Q I h => ?_⟩
  refine Subscript_ (thn (he.run pins s σ H _ I h) fun v s1 ⟨x, H1, I1, r1, q1⟩ => ?_)
  have hst : PO X (some (.UnaryOp .USub (.Constant (.int 1) k p1) p2)) (tPart (tUn (rU fun i => .int (-i)) (tC (.int 1)))) := po_some (pe_un un_neg pe_int)
  refine wpAny_Slice (thn (po_none.run pins s1 σ H1 (fun o H2 => o = none ∧ H2 = H1) I1 ⟨rfl, rfl⟩) fun vl s2 ⟨l, H2, I2, pl, el, e2⟩ => ?_)
  subst el e2
  refine thn (po_none.run pins s2 σ H2 (fun o H3 => o = none ∧ H3 = H2) I2 ⟨rfl, rfl⟩) fun vu s3 ⟨u, H3, I3, pu, eu, e3⟩ => ?_
  subst eu e3
  refine thn (hst.run pins s3 σ H3 (fun o H4 => o = some (-1) ∧ H4 = H3) I3 ⟨1, rfl, -1, rfl, rfl, rfl⟩) fun vs s4 ⟨o, H4, I4, ps, eo, e4⟩ => ?_
  subst eo e4
  have I5 : Inv X pins σ H4 { s4 with heap := s4.heap.push { cls := .type "slice", data := .fields #[vl, vu, vs] } } := I4.kept (t' := s4.toks) fun b ob q => Heap.get?_push_of_some _ q
  rcases q1 with ⟨a, xs, ex, hx, q⟩ | ⟨a, xs, ex, hx, q⟩
  · subst ex
    cases r1
    obtain ⟨its, r, ht, hz⟩ := I5.list hx
    have hlen := r.length
    show wpAny (model X.prog X.w) X.A (subscriptTail e (.Slice none none (some (.UnaryOp .USub (.Constant (.int 1) k p1) p2)) p3) (.ref a) (.ref s4.heap.objs.size)) (EP X pins σ Q) X.xe { s4 with heap := s4.heap.push { cls := .type "slice", data := .fields #[vl, vu, vs] } }
    refine tail_any (ops := [.ref a, .ref s4.heap.objs.size]) ht.isList.typeIs (PySem.slot_list_getitem.lookup) ?_ (by with_unfolding_all rfl)
    refine wpAny_getItem_list_slice ht.isList (Heap.IsSliceOf.new _ vl vu vs) pl pu ps (by decide) ?_ (by rw [List.size_toArray]; omega)
    rw [PySem.W.krv_pick]
    refine ⟨.ref _, _, I5.laid (t' := s4.toks) (o := .lst xs.reverse) (fun b ob q => Heap.get?_push_of_some _ q) (Nat.le_refl _) ?_, rfl, q _ (I5.hok.fresh (Nat.le_refl _))⟩
    exact ⟨by rw [List.length_reverse]; exact hz, _, 0, r.reverse, Heap.get?_push_size _ rfl⟩
  · subst ex
    cases r1
    obtain ⟨its, r, ht, hz⟩ := I5.tuple hx
    have hlen := r.length
    show wpAny (model X.prog X.w) X.A (subscriptTail e (.Slice none none (some (.UnaryOp .USub (.Constant (.int 1) k p1) p2)) p3) (.ref a) (.ref s4.heap.objs.size)) (EP X pins σ Q) X.xe { s4 with heap := s4.heap.push { cls := .type "slice", data := .fields #[vl, vu, vs] } }
    refine tail_any (ops := [.ref a, .ref s4.heap.objs.size]) ht.typeIs (PyProof.Rows.slot_tuple_getitem.lookup) ?_ (by with_unfolding_all rfl)
    refine getItem_tuple_rev ht (Heap.IsSliceOf.new _ vl vu vs) pl pu ps ?_ (by rw [List.size_toArray]; omega)
    refine ⟨.ref _, _, I5.laid (t' := s4.toks) (o := .tup xs.reverse) (fun b ob q => Heap.get?_push_of_some _ q) (Nat.le_refl _) ?_, rfl, q _ (I5.hok.fresh (Nat.le_refl _))⟩
    exact ⟨by rw [List.length_reverse]; exact hz, _, r.reverse, IsTup.new _ _⟩
end XvS
/-! AMf: the meaning of expressions is what the model does. -/
namespace AM
open PySem PySem.Spec PyProof.Rows L2

structure XOk (X : Cx) (G : Gh) (d : DC) : Prop where
  N : X.N = d.N
  nd : d.N.Nodup
  K : X.K = G.K
  calm : X.calm = true
  hu : X.A.units + 65 < cLine
  gd : X.A.guards = some []
  vis : ∀ x, visB d.sc x = true → Vis X.env.scope x
  loc : ∀ x, locB d.sc x = true → Loc X.env.scope x ∧ (X.fn x = true ∨ X.env.scope.names.lookup x = some .local)
  gl : ∀ x, glB d.sc x = true → Gl X x
  cf : ∀ x, (d.sc.names.lookup x = some .cell ∨ d.sc.names.lookup x = some .free) → (X.env.scope.names.lookup x = some .cell ∨ X.env.scope.names.lookup x = some .free)
  free : ∀ x, d.free x = true → X.mg x = none
  glob : ∀ x v, d.glob x = some v → ∃ (u : Value) (w : V), X.mg x = some u ∧ RelV w u ∧ ∀ l ι H, RV (G.hide l) ι H v w
/-- a def's promise by the machine's meaning -/
def spA (G : Gh) (n : Nat) (f : OpN) : Sp := fun vs H Q E => ∃ l ι h avs, RH (G.hide l) ι H h ∧ RVs (G.hide l) ι H avs vs ∧ avs.length = n ∧ Post (G.hide l) (RV (G.hide l)) (fun C d _ H => E C d H) [] ι H Q (f avs h)
/-- what an __init__ of one attribute does -/
def spX (C : Addr) (f : Str) : Sp := fun vs H Q _ => ∃ (e : Addr) (y : V), vs = [.ref e, y] ∧ H e = some (exo e C none) ∧ ∀ dx, H dx = none → dx ≠ e → Q .non (upd (upd H dx (exd dx [(f, y)])) e (exo e C (some dx)))
/-- a class whose exceptions are made with one value, kept as f -/
structure ExcAt (X : Cx) (G : Gh) (x f : Str) : Prop where
  ex : ∃ (b : EB) (C fI : Addr) (fd : FuncData) (ps : List Str) (k : Nat), X.mg x = some (.ref C) ∧ G.ga x = some C ∧ OexG X.K b C ∧ PySem.W.findIn X.K (.ref C) "__init__" = some (some (.ref fI)) ∧ PySem.W.typeIn X.K (.ref fI) = some (.type "function") ∧
    L2.FnOk X.prog X.w X.K X.mg X.base (L2.CX X.prog X.w) k fI fd ps (spX C f) ∧ L2.Room (k + 1) X.A ∧ Binds X.K fd ps []
/-- making by the class's own __init__ -/
def mkF (x : Str) (Fi : OpN) : OpN := fun avs h => (Fi (.ref h.length :: avs) (h ++ [.ins x []])).bind fun v h1 => match v with
  | .non => .ok (.ref h.length) h1
  | _ => .stk
structure MkAt (X : Cx) (G : Gh) (x : Str) (n : Nat) (Fx : OpN) : Prop where
  ex : ∃ (C fI : Addr) (fd : FuncData) (ps : List Str) (k : Nat) (Fi : OpN), X.mg x = some (.ref C) ∧ G.ga x = some C ∧ Mk X.K C fI ∧ FnOk X.prog X.w X.K X.mg X.base (L2.CX X.prog X.w) k fI fd ps (spA G (n + 1) Fi) ∧ Room (k + 1) X.A ∧ Binds X.K fd ps [] ∧ Fx = mkF x Fi
/-- a name of an except clause -/
def HxAt (K : PySem.W.Frag) (mg : Str → Option Value) (ga : Str → Option Addr) (exm : Str → Str → Option Bool) (x : Str) : Prop := ∃ c : Value, (mg x = some c ∨ (mg x = none ∧ bootBuiltins x = some c)) ∧ ∀ y b C, exm y x = some b → ga y = some C → PySem.W.exmOne K (.ref C) c = some b
/-- a class called with n values and keywords ks; dv: the defaults that fill up -/
structure MkwAt (X : Cx) (G : Gh) (x : Str) (n : Nat) (ks : List Str) (ord : List Nat) (dv : List AV) (Fx : OpN) : Prop where
  ex : ∃ (C fI : Addr) (fd : FuncData) (ps : List Str) (k m : Nat) (Fi : OpN) (g : List Value → List Value → List Value) (gV : List V → List V → List V), X.mg x = some (.ref C) ∧ G.ga x = some C ∧ Mk X.K C fI ∧ FnOk X.prog X.w X.K X.mg X.base (L2.CX X.prog X.w) k fI fd ps (spA G (m + 1) Fi) ∧ Room (k + 1) X.A ∧
    KBn X.K fd ps (n + 1) ks g gV ∧ (∀ (l ι : List Addr) (H : Hp) (a : Addr) (avs azs : List AV) (vs zs : List V), avs.length = n → azs.length = ks.length → RVs (G.hide l) ι H avs vs → RVs (G.hide l) ι H azs zs → ∃ ws, gV (.ref a :: vs) zs = .ref a :: ws ∧ RVs (G.hide l) ι H ((avs ++ pick ord (azs ++ dv))) ws ∧ ws.length = m) ∧ Fx = mkF x Fi
/-- a method m of the class at C -/
structure MethAt (X : Cx) (G : Gh) (C : Addr) (m : Str) (n : Nat) (Fm : OpN) : Prop where
  ex : ∃ (f : Addr) (fd : FuncData) (ps : List Str) (k : Nat), Cls X.K C ∧ Meth X.K C m f ∧ FnOk X.prog X.w X.K X.mg X.base (L2.CX X.prog X.w) k f fd ps (spA G (n + 1) Fm) ∧ Room (k + 1) X.A ∧ Binds X.K fd ps []
structure FOk (X : Cx) (G : Gh) (d : DC) (F : Str → OpN) : Prop where
  pos : ∀ x ps, d.fn x = some ps → ∃ (f : Addr) (fd : FuncData) (k : Nat), X.mg x = some (.ref f) ∧ PySem.W.keepIn X.K (.ref f) = true ∧ FnOk X.prog X.w X.K X.mg X.base (L2.CX X.prog X.w) k f fd ps (spA G ps.length (F x)) ∧ Room k X.A ∧ Binds X.K fd ps []
  kw : ∀ x n ks ord, d.kw x n ks = some ord → ∃ (f : Addr) (fd : FuncData) (k : Nat) (ps : List Str), X.mg x = some (.ref f) ∧ PySem.W.keepIn X.K (.ref f) = true ∧ FnOk X.prog X.w X.K X.mg X.base (L2.CX X.prog X.w) k f fd ps (spA G ps.length (F x)) ∧ Room k X.A ∧ (∀ i ∈ ord, i < n + ks.length) ∧ ord.length = ps.length ∧
    ∀ (s : Shared) (us ws : List Value), X.K.In s.heap → us.length = n → ws.length = ks.length → (pick ord (us ++ ws)).length = ps.length → BindsTo s fd ⟨us, ks.zip ws⟩ (ps.zip (pick ord (us ++ ws)))
  exc : ∀ x f, d.exc x = some f → ExcAt X G x f
  hx : ∀ x, d.hx x = true → HxAt X.K X.mg G.ga d.exm x
  mak : ∀ x n, d.mak x = some n → MkAt X G x n (F x)
  fld : ∀ c f C, d.fld c f = true → G.ga c = some C → Cls X.K C ∧ NoAttr X.K C f
  isi : ∀ t u b, d.isi t u = some b → ∀ vt vu, TNv G t vt → TNv G u vu → PySem.W.kitOne X.K vt vu = some b
  xv : ∀ c C, d.xv c = true → G.ga c = some C → XvS.XvC X.K C
  inc : ∀ c C, d.inc c = true → G.ga c = some C → InC X.K C
  xf : ∀ c f C, d.xf c f = true → G.ga c = some C → XvS.XvC X.K C ∧ PySem.W.findIn X.K (.ref C) f = some none
  mkw : ∀ x n ks od, d.mkw x n ks = some od → MkwAt X G x n ks od.1 od.2 (F x)
  meth : ∀ c m kn C, d.meth c m = some kn → G.ga c = some C → MethAt X G C m kn.2 (F kn.1)
theorem Post.slots {α β : Type} {G : Gh} {R : List Addr → Hp → α → β → Prop} {W W' : WX} {σ σ' : L2.St} {ι : List Addr} {H : Hp} {Q : β → Hp → Prop} {r : Res α} (p : Post G R W σ ι H Q r) (i : ∀ C d H, W C d σ H → W' C d σ' H) : Post G R W' σ' ι H Q r := by
  cases r with
  | ok a h => exact p
  | exc c fs h => exact fun ι' H' C d x rh rx => i _ _ _ (p ι' H' C d x rh rx)
  | stk => exact p
theorem RVs.vals_len {G : Gh} {ι : List Addr} {H : Hp} {xs : List AV} {vs : List V} (r : RVs G ι H xs vs) : vs.length = xs.length := r.length.symm
theorem pick_rel {G : Gh} {ι : List Addr} {H : Hp} {xs : List AV} {vs : List V} (r : RVs G ι H xs vs) : ∀ ord : List Nat, RVs G ι H (pick ord xs) (pick ord vs)
  | [] => .nil
  | i :: ord => by
    have ih := pick_rel r ord
    unfold pick at ih ⊢
    rw [List.filterMap_cons, List.filterMap_cons]
    cases e : xs[i]? with
    | none =>
      have e2 : vs[i]? = none := by
        have h1 := List.getElem?_eq_none_iff.mp e
        exact List.getElem?_eq_none_iff.mpr (by rw [← r.length]; exact h1)
      rw [e2]
      exact ih
    | some x =>
      obtain ⟨v, e2, q⟩ := r.get e
      rw [e2]
      exact .cons q ih
theorem pick_vals {xs : List V} {us : List Value} (r : Vals xs us) : ∀ ord : List Nat, Vals (pick ord xs) (pick ord us)
  | [] => .nil
  | i :: ord => by
    have ih := pick_vals r ord
    unfold pick at ih ⊢
    rw [List.filterMap_cons, List.filterMap_cons]
    cases e : xs[i]? with
    | none =>
      rw [r.none_of e]
      exact ih
    | some x =>
      obtain ⟨v, e2, q⟩ := r.get e
      rw [e2]
      exact .cons q ih
theorem idxOf_ok {x : Str} : ∀ {N : List Str} {i : Nat}, idxOf x N = some i → N[i]? = some x
  | [], _, e => by cases e
  | y :: r, i, e => by
    unfold idxOf at e
    by_cases c : y = x
    · rw [if_pos c] at e
      cases e
      rw [c]
      rfl
    · rw [if_neg c] at e
      obtain ⟨j, e1, rfl⟩ := Option.map_eq_some_iff.mp e
      simpa using idxOf_ok e1
theorem btyOf_ok {x : Str} {n : String} (e : btyOf x = some n) : bootBuiltins x = some (.type n) := by
  unfold btyOf at e
  repeat (split at e; · rename_i c; cases e; rw [c]; decide +kernel)
  cases e
theorem dun_no {x : Str} (h : ¬ dun x = true) : (x == ("__debug__" : Str)) = false ∧ (x == ("__classdict__" : Str)) = false ∧ x ≠ "__name__" := by
  unfold dun at h
  rw [Bool.or_eq_true, Bool.or_eq_true, not_or, not_or] at h
  obtain ⟨⟨h1, h2⟩, h3⟩ := h
  refine ⟨by simpa using h1, by simpa using h2, fun z => h3 ?_⟩
  rw [z]
  decide +kernel
section
variable {X : Cx} {G : Gh} {d : DC} {W : WX} {F : Str → OpN}
theorem pe_dead {e : Expr} : PE X e (RE G W fun _ _ => .stk) := PE_stk fun _ _ => rfl
theorem re_const {c : Const} {k : Nat} {pos : Pos} : PE X (.Constant c k pos) (RE G W (constM c)) := by
  cases c with
  | none => exact PE_imp pe_non fun σ H Q ⟨ι, ρ, h, rh, rs, p⟩ => Post.now (a := AV.non) p rh .non
  | bool b => exact PE_imp pe_bl fun σ H Q ⟨ι, ρ, h, rh, rs, p⟩ => Post.now (a := AV.bl b) p rh (.bl b)
  | int b => exact PE_imp pe_int fun σ H Q ⟨ι, ρ, h, rh, rs, p⟩ => Post.now (a := AV.int b) p rh (.int b)
  | str b => exact PE_imp pe_str fun σ H Q ⟨ι, ρ, h, rh, rs, p⟩ => Post.now (a := AV.str b) p rh (.str b)
  | _ => exact pe_dead
theorem re_name (ok : XOk X G d) {x : Str} {pos : Pos} : PE X (.Name x pos) (RE G W (nameM d x)) := by
  unfold nameM
  by_cases c0 : dun x = true
  · rw [if_pos c0]; exact pe_dead
  rw [if_neg c0]
  obtain ⟨n1, n2, n3⟩ := dun_no c0
  by_cases c1 : visB d.sc x = true
  · rw [if_pos c1]
    cases e : idxOf x d.N with
    | none => exact pe_dead
    | some i =>
      refine PE_imp (pe_var (i := i) (by rw [ok.N]; exact idxOf_ok e) (ok.vis x c1) n1 n2) fun σ H Q ⟨ι, ρ, h, rh, rs, p⟩ => ?_
      have p : Post G (RV G) W σ ι H Q (match ρ[i]? with | some (some v) => .ok v h | _ => .stk) := p
      split at p
      · rename_i v q
        obtain ⟨u, e1, r⟩ := rs.2 i v q
        exact ⟨u, e1, p.now rh r⟩
      · exact p.elim
  · rw [if_neg c1]
    by_cases c2 : glB d.sc x = true
    · rw [if_pos c2]
      cases e : d.glob x with
      | some v =>
        obtain ⟨u, w, hm, r, rv⟩ := ok.glob x v e
        exact PE_imp (pe_glob (ok.gl x c2) hm r n1) fun σ H Q ⟨ι, ρ, h, rh, rs, p⟩ => Post.now (a := v) p rh (rv G.hid ι H)
      | none =>
        by_cases c3 : d.free x = true
        · show PE X (.Name x pos) (RE G W (if d.free x then _ else _))
          rw [if_pos c3]
          cases e2 : btyOf x with
          | none => exact pe_dead
          | some n => exact PE_imp (pe_bltn (v := .ty n) (ok.gl x c2) (ok.free x c3) (btyOf_ok e2) rfl n3 n1) fun σ H Q ⟨ι, ρ, h, rh, rs, p⟩ => Post.now (a := AV.ty n) p rh (.ty n)
        · show PE X (.Name x pos) (RE G W (if d.free x then _ else _))
          rw [if_neg c3]
          exact pe_dead
    · rw [if_neg c2]
      exact pe_dead
theorem starEach_plain {e : Expr} {es : List Expr} {env : PySem.Env} (h : isStar e = false) : starEach (e :: es) env = (false, eval e env) :: starEach es env := by
  cases e <;> first | rfl | cases h
theorem pa_dead {es : List Expr} : PA X es (RA G W fun _ _ => .stk) := ⟨fun pos pins s σ H Q I ⟨_, _, _, _, _, p⟩ => p.elim⟩
theorem ra_evs {f : Expr → ME} : ∀ es : List Expr, (∀ e ∈ es, PE X e (RE G W (f e))) → PA X es (RA G W (evsM f es))
  | [], _ => PA_imp pa_nil fun σ H Q ⟨ι, ρ, h, rh, rs, p⟩ => Post.now (a := []) p rh .nil
  | e :: es, hf => by
    unfold evsM
    by_cases c : isStar e = true
    · rw [if_pos c]; exact pa_dead
    · rw [if_neg c]
      have he := hf e (List.mem_cons_self ..)
      have ht := ra_evs es fun x hx => hf x (List.mem_cons_of_mem _ hx)
      refine PA_imp (pa_cons he ht (starEach_plain (by simpa using c))) fun σ H Q ⟨ι, ρ, h, rh, rs, p⟩ => ⟨ι, ρ, h, rh, rs, Post.bind p fun ι1 H1 v u h1 x1 rh1 r1 p1 => ⟨ι1, ρ, h1, rh1, rs.mono x1, Post.bind p1 fun ι2 H2 vs us h2 x2 rh2 r2 p2 => ?_⟩⟩
      exact Post.now (a := v :: vs) p2 rh2 (.cons (r1.mono x2) r2)
theorem backTo_any {env : PySem.Env} {pos : Pos} : ∀ {es : List Expr}, (∀ e ∈ es, isStar e = false) → (backTo pos (starEach es env)).any (·.1) = false
  | [], _ => rfl
  | e :: es, h => by
    rw [starEach_plain (h e (List.mem_cons_self ..))]
    have ih := backTo_any (env := env) (pos := pos) fun x hx => h x (List.mem_cons_of_mem e hx)
    unfold backTo at ih ⊢
    rw [List.map_cons, List.any_cons, ih]
    rfl
theorem plainAll_ok {es : List Expr} (h : plainAll es = true) : ∀ e ∈ es, isStar e = false := fun e he => by
  have q := List.all_eq_true.mp h e he
  simpa using q
theorem isTrue_plain {e : Expr} {env : PySem.Env} (h : isTst e = false) : ∀ whole, isTrue e env whole = (do let v ← whole; standAt e.pos; holding [v] (truthy v)) := by
  intro whole
  cases e with
  | UnaryOp op a pos => cases op <;> first | rfl | cases h
  | BoolOp _ _ _ => cases h
  | IfExp _ _ _ _ => cases h
  | Compare _ _ _ _ => cases h
  | _ => rfl
theorem truR_inv {σ : L2.St} {ι : List Addr} {H : Hp} {h : AH} {v : AV} {α β : Type} {R : List Addr → Hp → α → β → Prop} {Q : β → Hp → Prop} {f : Bool → AH → Res α} (p : Post G R W σ ι H Q ((truR v h).bind f)) : ∃ b, truA v h = some b ∧ Post G R W σ ι H Q (f b h) := by
  unfold truR at p
  cases e : truA v h with
  | none => rw [e] at p; exact p.elim
  | some b => rw [e] at p; exact ⟨b, rfl, p⟩
theorem rt_plain (ok : XOk X G d) {e : Expr} {m : ME} (he : PE X e (RE G W m)) (h : isTst e = false) : PT X e (RTt G W (tstM m)) :=
  PT_imp (pt_truth he (isTrue_plain h)) fun σ H Q ⟨ι, ρ, hh, rh, rs, p⟩ => ⟨ι, ρ, hh, rh, rs, Post.bind p fun ι1 H1 v u h1 x1 rh1 r1 p1 => by
    unfold truR at p1
    cases q : truA v h1 with
    | none => rw [q] at p1; exact p1.elim
    | some b =>
      rw [q] at p1
      exact ⟨b, by rw [ok.K]; exact truA_ok rh1 r1 q, Post.now (a := b) p1 rh1 rfl⟩⟩
theorem re_not (ok : XOk X G d) {a : Expr} {m : ME} {pos : Pos} (ha : PE X a (RE G W m)) : PE X (.UnaryOp .Not a pos) (RE G W (notM m)) :=
  PE_imp (pe_notT ha) fun σ H Q ⟨ι, ρ, hh, rh, rs, p⟩ => ⟨ι, ρ, hh, rh, rs, Post.bind p fun ι1 H1 v u h1 x1 rh1 r1 p1 => by
    obtain ⟨b, q, p2⟩ := truR_inv p1
    exact ⟨b, by rw [ok.K]; exact truA_ok rh1 r1 q, Post.now (a := AV.bl (!b)) p2 rh1 (.bl _)⟩⟩
theorem re_neg {a : Expr} {m : ME} {pos : Pos} (ha : PE X a (RE G W m)) : PE X (.UnaryOp .USub a pos) (RE G W (negM m)) :=
  PE_imp (pe_un un_neg ha) fun σ H Q ⟨ι, ρ, hh, rh, rs, p⟩ => ⟨ι, ρ, hh, rh, rs, Post.bind p fun ι1 H1 v u h1 x1 rh1 r1 p1 => by
    split at p1
    · rename_i i
      rw [inv_int r1]
      exact ⟨i, rfl, p1.now rh1 (.int _)⟩
    · exact p1.elim⟩
theorem re_dic0 {pos : Pos} : PE X (.Dict [] [] pos) (RE G W fun _ h => .ok (.dic [] []) h) :=
  PE_imp pe_dnewK fun σ H Q ⟨ι, ρ, hh, rh, rs, p⟩ pp np => p.at (Ext.fresh np) (rh.fresh np) (.dic (Fz.new rh np) rfl .nil)
theorem re_and (ok : XOk X G d) {a b : Expr} {rest : List Expr} {m m2 : ME} {pos : Pos} (ha : PE X a (RE G W m)) (hb : PE X (.BoolOp .And (b :: rest) pos) (RE G W m2)) : PE X (.BoolOp .And (a :: b :: rest) pos) (RE G W (andM m m2)) :=
  PE_imp (pe_andT ha hb) fun σ H Q ⟨ι, ρ, hh, rh, rs, p⟩ => ⟨ι, ρ, hh, rh, rs, Post.bind p fun ι1 H1 v u h1 x1 rh1 r1 p1 => by
    obtain ⟨t, q, p2⟩ := truR_inv p1
    refine ⟨t, by rw [ok.K]; exact truA_ok rh1 r1 q, ?_⟩
    cases t with
    | true => exact iteT ⟨ι1, ρ, h1, rh1, rs.mono x1, p2⟩
    | false => exact iteF (Post.now (a := v) p2 rh1 r1)⟩
theorem re_or (ok : XOk X G d) {a b : Expr} {rest : List Expr} {m m2 : ME} {pos : Pos} (ha : PE X a (RE G W m)) (hb : PE X (.BoolOp .Or (b :: rest) pos) (RE G W m2)) : PE X (.BoolOp .Or (a :: b :: rest) pos) (RE G W (orM m m2)) :=
  PE_imp (pe_orT ha hb) fun σ H Q ⟨ι, ρ, hh, rh, rs, p⟩ => ⟨ι, ρ, hh, rh, rs, Post.bind p fun ι1 H1 v u h1 x1 rh1 r1 p1 => by
    obtain ⟨t, q, p2⟩ := truR_inv p1
    refine ⟨t, by rw [ok.K]; exact truA_ok rh1 r1 q, ?_⟩
    cases t with
    | false => exact iteF ⟨ι1, ρ, h1, rh1, rs.mono x1, p2⟩
    | true => exact iteT (Post.now (a := v) p2 rh1 r1)⟩
theorem re_bool (ok : XOk X G d) {f : Expr → ME} {op : BoolOp} {pos : Pos} : ∀ es : List Expr, (∀ e ∈ es, PE X e (RE G W (f e))) → PE X (.BoolOp op es pos) (RE G W (boolM f op es))
  | [], _ => pe_dead
  | [e], hf => by
    unfold boolM
    by_cases c : isIf e = true
    · rw [if_pos c]; exact pe_dead
    · rw [if_neg c]; exact pe_one (hf e (List.mem_cons_self ..))
  | e :: e2 :: es, hf => by
    have he := hf e (List.mem_cons_self ..)
    have ht := re_bool ok (op := op) (pos := pos) (e2 :: es) fun x hx => hf x (List.mem_cons_of_mem _ hx)
    unfold boolM
    by_cases c : isIf e = true
    · rw [if_pos c]; exact pe_dead
    · rw [if_neg c]
      cases op with
      | And => exact re_and ok he ht
      | Or => exact re_or ok he ht
theorem rt_bool (ok : XOk X G d) {f : Expr → ME} {op : BoolOp} {pos : Pos} : ∀ es : List Expr, (∀ e ∈ es, isIf e = false → PT X e (RTt G W (tstM (f e)))) → PW X (.BoolOp op es pos) (RTt G W (tstM (boolM f op es)))
  | [], _ => ⟨fun w pins s σ H Q I ⟨_, _, _, _, _, p⟩ => p.elim⟩
  | [e], hf => by
    unfold boolM
    by_cases c : isIf e = true
    · rw [if_pos c]; exact ⟨fun w pins s σ H Q I ⟨_, _, _, _, _, p⟩ => p.elim⟩
    · rw [if_neg c]
      cases op with
      | And => exact pw_and1 (hf e (List.mem_cons_self ..) (by simpa using c))
      | Or => exact pw_or1 (hf e (List.mem_cons_self ..) (by simpa using c))
  | e :: e2 :: es, hf => by
    have ht := rt_bool ok (op := op) (pos := pos) (e2 :: es) fun x hx => hf x (List.mem_cons_of_mem _ hx)
    unfold boolM
    by_cases c : isIf e = true
    · rw [if_pos c]; exact ⟨fun w pins s σ H Q I ⟨_, _, _, _, _, p⟩ => p.elim⟩
    · rw [if_neg c]
      have he := hf e (List.mem_cons_self ..) (by simpa using c)
      cases op with
      | And =>
        refine PW_imp (pw_and he ht) fun σ H Q ⟨ι, ρ, hh, rh, rs, p⟩ => ⟨ι, ρ, hh, rh, rs, ?_⟩
        have e1 : tstM (andM (f e) (boolM f .And (e2 :: es))) ρ hh = (tstM (f e) ρ hh).bind fun t h1 => if t then tstM (boolM f .And (e2 :: es)) ρ h1 else .ok false h1 := by
          unfold tstM andM
          cases q : f e ρ hh with
          | ok v h1 =>
            show ((truR v h1).bind _).bind truR = (truR v h1).bind _
            unfold truR
            cases q2 : truA v h1 with
            | none => rfl
            | some t =>
              cases t with
              | true => rfl
              | false =>
                show truR v h1 = Res.ok false h1
                unfold truR
                rw [q2]
          | exc _ _ _ => rfl
          | stk => rfl
        have p : Post G RB W σ ι H Q (tstM (andM (f e) (boolM f .And (e2 :: es))) ρ hh) := p
        rw [e1] at p
        refine Post.bind p fun ι1 H1 t u h1 x1 rh1 r1 p1 => ?_
        have r1 : t = u := r1
        subst r1
        cases t with
        | true => exact iteT ⟨ι1, ρ, h1, rh1, rs.mono x1, p1⟩
        | false => exact iteF (Post.now (a := false) p1 rh1 rfl)
      | Or =>
        refine PW_imp (pw_or he ht) fun σ H Q ⟨ι, ρ, hh, rh, rs, p⟩ => ⟨ι, ρ, hh, rh, rs, ?_⟩
        have e1 : tstM (orM (f e) (boolM f .Or (e2 :: es))) ρ hh = (tstM (f e) ρ hh).bind fun t h1 => if t then .ok true h1 else tstM (boolM f .Or (e2 :: es)) ρ h1 := by
          unfold tstM orM
          cases q : f e ρ hh with
          | ok v h1 =>
            show ((truR v h1).bind _).bind truR = (truR v h1).bind _
            unfold truR
            cases q2 : truA v h1 with
            | none => rfl
            | some t =>
              cases t with
              | false => rfl
              | true =>
                show truR v h1 = Res.ok true h1
                unfold truR
                rw [q2]
          | exc _ _ _ => rfl
          | stk => rfl
        have p : Post G RB W σ ι H Q (tstM (orM (f e) (boolM f .Or (e2 :: es))) ρ hh) := p
        rw [e1] at p
        refine Post.bind p fun ι1 H1 t u h1 x1 rh1 r1 p1 => ?_
        have r1 : t = u := r1
        subst r1
        cases t with
        | false => exact iteF ⟨ι1, ρ, h1, rh1, rs.mono x1, p1⟩
        | true => exact iteT (Post.now (a := true) p1 rh1 rfl)
theorem rt_not (ok : XOk X G d) {a : Expr} {m : ME} {pos : Pos} (ha : PT X a (RTt G W (tstM m))) : PT X (.UnaryOp .Not a pos) (RTt G W (tstM (notM m))) :=
  PT_imp (pt_not ha) fun σ H Q ⟨ι, ρ, hh, rh, rs, p⟩ => ⟨ι, ρ, hh, rh, rs, by
    have e1 : tstM (notM m) ρ hh = (tstM m ρ hh).bind fun t h1 => .ok (!t) h1 := by
      unfold tstM notM
      cases q : m ρ hh with
      | ok v h1 =>
        show ((truR v h1).bind _).bind truR = (truR v h1).bind _
        unfold truR
        cases q2 : truA v h1 <;> rfl
      | exc _ _ _ => rfl
      | stk => rfl
    have p : Post G RB W σ ι H Q (tstM (notM m) ρ hh) := p
    rw [e1] at p
    exact Post.bind p fun ι1 H1 t u h1 x1 rh1 r1 p1 => by
      have r1 : t = u := r1
      subst r1
      exact Post.now (a := !t) p1 rh1 rfl⟩
end
end AM
/-! AMf2: own ==; comparisons. -/
namespace AM
open PySem PySem.Spec PyProof.Rows L2
/-! ### own == -/
theorem Room.in1 {k : Nat} {A : Around} (r : AM.Room (k + 1) A) : AM.Room k A.in1 := ⟨r.rm.in1, r.gd⟩
section
variable {X : Cx} {G : Gh} {d : DC} {F : Str → OpN} {pins : List (Addr × Obj)} {σ : L2.St} {s : Shared}
theorem cmp_own {A : Around} {k : Nat} {C f a b dx dy : Addr} {fd : FuncData} {ps : List Str} {Fm : OpN} {H : Hp} {fs gs : List (Str × V)} {Q : Bool → Hp → Prop} (FF : AM.FnOk X.prog X.w X.K X.mg X.base (L2.CX X.prog X.w) k f fd ps (spA G 2 Fm)) (hr : AM.Room k A) (hfr : A.frames = X.A.frames)
    (hm : Meth X.K C "__eq__" f) (hb : Binds X.K fd ps []) (I : Inv X pins σ H s) (ea : H a = some (.ins C dx fs)) (eb : H b = some (.ins C dy gs)) (hsp : spA G 2 Fm [.ref a, .ref b] H (fun v H2 => ∃ t, v = .bl t ∧ Q t H2) (fun _ _ _ => False)) :
    wpAny (model X.prog X.w) A (richCompare .Eq (.ref a) (.ref b)) (fun r s2 => ∃ t H2, r = .bool t ∧ Inv X pins σ H2 s2 ∧ Q t H2) X.xe s := by
  obtain ⟨_, J, _⟩ := ins_get I.hok ea
  obtain ⟨_, J2, _⟩ := ins_get I.hok eb
  obtain ⟨od, J, _⟩ := J.look
  obtain ⟨_, J2, _⟩ := J2.look
  obtain ⟨m, fr⟩ := I.fr
  have E0 : Env0 X.prog X.w X.K X.mg X.base A X.stack s H := by
    obtain ⟨q1, q2, q3, q4, q5, q6, q7, q8⟩ := I.env0
    exact ⟨hfr.trans q1, q2, q3, q4, q5, q6, q7, q8⟩
  have l2 : [Value.ref a, Value.ref b].length = ps.length := (F2 FF hsp : _)
  have bd := hb s [.ref a, .ref b] I.kIn (by rw [List.append_nil]; exact l2)
  rw [List.append_nil] at bd
  refine PySem.W.cmp_K (op := .Eq) (tb := .ref C) (Q := fun r s2 => ∃ t H2, r = .bool t ∧ Inv X pins σ H2 s2 ∧ Q t H2) (by have := hr.units; omega) fr I.ok.mod.kin J J2.type (by simp [PySem.W.notFirst]) hm.at_ hm.fn ?_
  have r2 : Vals [V.ref a, V.ref b] [Value.ref a, Value.ref b] := .cons rfl (.cons rfl .nil)
  refine wpAny_call (codeAny_mono (FF.run A X.stack s H ⟨[.ref a, .ref b], []⟩ _ _ _ _ hr E0 bd r2 hsp) fun r t c => ?_)
  match r, c with
  | .error e, ⟨_, _, _, _, _, _, _, _, _, _, _, _, z⟩ => exact z.elim
  | .ok (.ret u), c =>
    obtain ⟨z, H2, J3, rz, t2, e, q⟩ := I.after c
    subst e
    obtain rfl : u = Value.bool t2 := rz
    exact ⟨t2, H2, rfl, J3, q⟩
  | .ok .next, c => exact False.elim c
  | .ok .brk, c => exact False.elim c
  | .ok .cont, c => exact False.elim c
where
  F2 {k : Nat} {f : Addr} {fd : FuncData} {ps : List Str} {sp : Sp} {H : Hp} {Q : VK} {E : XK} {a b : Addr} (FF : AM.FnOk X.prog X.w X.K X.mg X.base (L2.CX X.prog X.w) k f fd ps sp) (h : sp [.ref a, .ref b] H Q E) : [Value.ref a, Value.ref b].length = ps.length := FF.len _ _ _ _ h
/-- one pair -/
theorem own1_ok (fo : FOk X G d F) (okK : X.K = G.K) {A : Around} (hA : A = X.A ∨ A = X.A.in1) {v w : AV} {u1 u2 : V} {h h' : AH} {t : Bool} {ι : List Addr} {H : Hp} (rh : RH G ι H h) (r1 : RV G ι H v u1) (r2 : RV G ι H w u2) (I : Inv X pins σ H s) (e : own1 F d.meth v w h = .ok t h') :
    ∃ a b, u1 = .ref a ∧ u2 = .ref b ∧ wpAny (model X.prog X.w) A (richCompare .Eq (.ref a) (.ref b)) (fun r s2 => r = .bool t ∧ ∃ ι2 H2, Ext ι H ι2 H2 ∧ RH G ι2 H2 h' ∧ Inv X pins σ H2 s2) X.xe s := by
  cases v with
  | ref i =>
    unfold own1 at e
    dsimp only at e
    split at e
    · rename_i c fs hi
      split at e
      · rename_i kn hk
        by_cases c0 : (Nat.beq 1 kn.2 && sameC c w h) = true
        · rw [if_pos c0] at e
          obtain ⟨n1, sc⟩ := Bool.and_eq_true_iff.mp c0
          cases w with
          | ref j =>
            unfold sameC at sc
            dsimp only at sc
            split at sc
            · rename_i c' gs hj
              obtain rfl : c = c' := of_decide_eq_true sc
              cases r1 with
              | @ref _ a ea => cases r2 with
                | @ref _ b eb =>
                  obtain ⟨o1, h1, q1⟩ := rh.at_ i _ a hi ea
                  obtain ⟨o2, h2, q2⟩ := rh.at_ j _ b hj eb
                  obtain ⟨C, dx, fs', rfl, g1, _⟩ := q1
                  obtain ⟨C', dy, gs', rfl, g2, _⟩ := q2
                  obtain rfl : C = C' := Option.some.inj (g1.symm.trans g2)
                  obtain ⟨f, fd, ps, k, _, hm, FF, hr, hb⟩ := (fo.meth c "__eq__" kn C hk g1).ex
                  refine ⟨a, b, rfl, rfl, ?_⟩
                  have hn : kn.2 = 1 := (Nat.eq_of_beq_eq_true n1).symm
                  rw [hn] at FF
                  cases eF : F kn.1 [.ref i, .ref j] h with
                  | ok r h1' =>
                    rw [eF] at e
                    have e : (match r with | .bl b => Res.ok b h1' | _ => .stk) = .ok t h' := e
                    split at e
                    · cases e
                      have hr' : AM.Room k A := by
                        rcases hA with rfl | rfl
                        · exact hr.mono (Nat.le_succ k)
                        · exact hr.in1
                      have hf' : A.frames = X.A.frames := by rcases hA with rfl | rfl <;> rfl
                      refine wpAny_mono (cmp_own (Q := fun t2 H2 => t2 = t ∧ ∃ ι2, Ext ι H ι2 H2 ∧ RH G ι2 H2 h') FF hr' hf' hm hb I h1 h2 ⟨G.hid, ι, h, [.ref i, .ref j], rh, .cons (.ref ea) (.cons (.ref eb) .nil), rfl, ?_⟩) (fun r s2 ⟨t2, H2, er, J, et, ι2, x, rh2⟩ => ⟨by rw [er, et], ι2, H2, x, rh2, J⟩) fun _ _ z => z
                      rw [eF]
                      intro ι2 H2 u x rh2 rv
                      cases rv
                      exact ⟨t, rfl, rfl, ι2, x, rh2⟩
                    · cases e
                  | exc _ _ _ => rw [eF] at e; cases e
                  | stk => rw [eF] at e; cases e
            · cases sc
          | _ => cases sc
        · rw [if_neg c0] at e
          cases e
      · cases e
    · cases e
  | _ => cases e
theorem isIns_ref {v : AV} {h : AH} (e : isIns v h = true) : ∃ n, v = .ref n := by
  cases v with
  | ref n => exact ⟨n, rfl⟩
  | _ => cases e
/-- the items of two frozen lists, one pair after another -/
theorem eqs_ok (fo : FOk X G d F) (okK : X.K = G.K) (hu : X.A.units + 65 < cLine) {a b : Addr} {xs ys : List AV} {vs ws : List V} {h h' : AH} {ι : List Addr} {H : Hp} (rh : RH G ι H h) (ta : RL G ι H a vs) (tb : RL G ι H b ws) (ra : RVs G ι H xs vs) (rb : RVs G ι H ys ws) (I : Inv X pins σ H s) {t : Bool} (e : eqsM F d.meth xs ys h = .ok t h') :
    wpAny (model X.prog X.w) X.A (richCompare .Eq (.ref a) (.ref b)) (fun r s2 => r = .bool t ∧ ∃ ι2 H2, Ext ι H ι2 H2 ∧ RH G ι2 H2 h' ∧ Inv X pins σ H2 s2) X.xe s := by
  have len : ∀ {xs ys : List AV} {h h' : AH}, eqsM F d.meth xs ys h = .ok t h' → xs.length = ys.length ∧ t = true := by
    intro xs
    induction xs with
    | nil =>
      intro ys h h' e
      cases ys with
      | nil => cases e; exact ⟨rfl, rfl⟩
      | cons _ _ => cases e
    | cons x xs ih =>
      intro ys h h' e
      cases ys with
      | nil => cases e
      | cons y ys =>
        unfold eqsM at e
        split at e
        · split at e
          · obtain ⟨l, q⟩ := ih e
            exact ⟨by simp [l], q⟩
          · cases e1 : own1 F d.meth x y h with
            | ok b h1 =>
              rw [e1] at e
              have e : (if b then eqsM F d.meth xs ys h1 else .stk) = .ok t h' := e
              split at e
              · obtain ⟨l, q⟩ := ih e
                exact ⟨by simp [l], q⟩
              · cases e
            | exc _ _ _ => rw [e1] at e; cases e
            | stk => rw [e1] at e; cases e
        · cases e
  obtain ⟨hl, rfl⟩ := len e
  let J : Nat → Shared → Prop := fun i s2 => ∃ ι1 H1 h1, Ext ι H ι1 H1 ∧ RH G ι1 H1 h1 ∧ Inv X pins σ H1 s2 ∧ eqsM F d.meth (xs.drop i) (ys.drop i) h1 = .ok true h'
  have hvl : vs.length = ws.length := by rw [← ra.length, ← rb.length, hl]
  refine GQ.rc_listG (N := vs.length) (by omega) J (fun i s2 q => ?_) (fun s2 q => ⟨rfl, ?_⟩) ⟨ι, H, h, Ext.refl, rh, I, e⟩
  · obtain ⟨ι1, H1, h1, x1, rh1, I1, e1⟩ := q
    obtain ⟨_, its, n1, rv1, g1⟩ := I1.hok a _ (ta.mono x1).2
    obtain ⟨_, jts, n2, rv2, g2⟩ := I1.hok b _ (tb.mono x1).2
    refine ⟨its.toArray, jts.toArray, n1, n2, g1, g2, by rw [List.size_toArray, rv1.length], by rw [List.size_toArray, ← rv2.length, hvl], fun k1 k2 => ?_⟩
    have i1 : i < vs.length := by rw [rv1.length]; simpa using k1
    have i2 : i < ws.length := by rw [rv2.length]; simpa using k2
    have j1 : i < xs.length := by rw [ra.length]; exact i1
    have j2 : i < ys.length := by rw [rb.length]; exact i2
    obtain ⟨u, hu1, ru⟩ := rv1.get (List.getElem?_eq_getElem i1)
    obtain ⟨u', hu2, ru'⟩ := rv2.get (List.getElem?_eq_getElem i2)
    obtain ⟨v1, q1, qa⟩ := (ra.mono x1).get (List.getElem?_eq_getElem j1)
    obtain ⟨v2, q2, qb⟩ := (rb.mono x1).get (List.getElem?_eq_getElem j2)
    rw [List.getElem?_eq_getElem i1] at q1
    rw [List.getElem?_eq_getElem i2] at q2
    obtain rfl := Option.some.inj q1
    obtain rfl := Option.some.inj q2
    have b1 : its.toArray[i] = u := by
      have : its[i]? = some its.toArray[i] := by simp at k1 ⊢
      rw [hu1] at this
      exact (Option.some.inj this).symm
    have b2 : jts.toArray[i] = u' := by
      have : jts[i]? = some jts.toArray[i] := by simp at k2 ⊢
      rw [hu2] at this
      exact (Option.some.inj this).symm
    rw [b1, b2]
    rw [List.drop_eq_getElem_cons j1, List.drop_eq_getElem_cons j2] at e1
    unfold eqsM at e1
    split at e1
    · rename_i both
      split at e1
      · rename_i sr
        -- the same object
        obtain ⟨n, en, em⟩ : ∃ n, xs[i] = .ref n ∧ ys[i] = .ref n := by
          unfold sameR at sr
          split at sr
          · rename_i n m e3 e4
            exact ⟨n, e3, by rw [e4, Nat.eq_of_beq_eq_true sr]⟩
          · cases sr
        rw [en] at qa
        rw [em] at qb
        generalize vs[i] = z1 at qa ru
        generalize ws[i] = z2 at qb ru'
        cases qa with
        | ref k3 => cases qb with
          | ref k4 =>
            obtain rfl := Option.some.inj (k3.symm.trans k4)
            cases ru
            cases ru'
            exact SeqAt.EqAt.same (A := X.A.in1) (s := s2) (.ref _) X.prog X.w X.xe _ ⟨rfl, ι1, H1, h1, x1, rh1, I1, e1⟩
      · rename_i nsr
        cases eo : own1 F d.meth xs[i] ys[i] h1 with
        | ok bb h2 =>
          rw [eo] at e1
          have e1 : (if bb then eqsM F d.meth (xs.drop (i + 1)) (ys.drop (i + 1)) h2 else .stk) = .ok true h' := e1
          split at e1
          · rename_i hbb
            subst hbb
            obtain ⟨p, p', z1, z2, wp⟩ := own1_ok fo okK (.inr rfl) rh1 qa qb I1 eo
            rw [z1] at ru qa
            rw [z2] at ru' qb
            cases ru
            cases ru'
            have hne : p ≠ p' := fun z => by
              subst z
              obtain ⟨y1, y2⟩ := Bool.and_eq_true_iff.mp both
              obtain ⟨n, hx⟩ := isIns_ref y1
              obtain ⟨m, hy⟩ := isIns_ref y2
              rw [hx] at qa
              rw [hy] at qb
              cases qa with
              | ref k3 => cases qb with
                | ref k4 =>
                  have : n = m := nodup_ix rh1.nd k3 k4
                  rw [hx, hy, this] at nsr
                  exact nsr (by unfold sameR; simp)
            refine GQ.eqBool_refG hne (wpAny_mono wp (fun r s3 z => ?_) fun _ _ z => z)
            obtain ⟨er, ι2, H2, x2, rh2, I2⟩ := z
            exact ⟨true, er, rfl, ι2, H2, h2, x1.trans x2, rh2, I2, e1⟩
          · cases e1
        | exc _ _ _ => rw [eo] at e1; cases e1
        | stk => rw [eo] at e1; cases e1
    · cases e1
  · obtain ⟨ι1, H1, h1, x1, rh1, I1, e1⟩ := q
    rw [List.drop_of_length_le (by rw [ra.length]; exact Nat.le_refl _), List.drop_of_length_le (by rw [← hl, ra.length]; exact Nat.le_refl _)] at e1
    cases e1
    exact ⟨ι1, H1, x1, rh1, I1⟩
where
  nodup_ix {l : List Addr} (hN : l.Nodup) {i j : Nat} {x : Addr} (a : l[i]? = some x) (b : l[j]? = some x) : i = j := by
    obtain ⟨h1, e1⟩ := List.getElem?_eq_some_iff.mp a
    obtain ⟨h2, e2⟩ := List.getElem?_eq_some_iff.mp b
    exact (List.getElem_inj hN).mp (e1.trans e2.symm)
/-- own == as an operator -/
def rOwn (X : Cx) (G : Gh) (F : Str → OpN) (d : DC) : R2 := fun x y H Q => ∃ ι h v w t h', RH G ι H h ∧ RV G ι H v x ∧ RV G ι H w y ∧ (own1 F d.meth v w h = .ok t h' ∨ ∃ xs ys, v = .lst xs ∧ w = .lst ys ∧ eqsM F d.meth xs ys h = .ok t h') ∧ ∀ ι2 H2, Ext ι H ι2 H2 → RH G ι2 H2 h' → Q (.bl t) H2
theorem op_own (fo : FOk X G d F) (okK : X.K = G.K) (hu : X.A.units + 65 < cLine) : OpR X (compareOp .Eq) (rOwn X G F d) := by
  intro pins s σ H x y v u Q I rx ry q
  obtain ⟨ι, h, v', w', t, h', rh, r1, r2, e, k⟩ := q
  show wpAny (model X.prog X.w) X.A (richCompare .Eq v u) (EP X pins σ Q) X.xe s
  have fin : ∀ r s2, (r = Value.bool t ∧ ∃ ι2 H2, Ext ι H ι2 H2 ∧ RH G ι2 H2 h' ∧ Inv X pins σ H2 s2) → EP X pins σ Q r s2 := fun r s2 ⟨er, ι2, H2, x2, rh2, I2⟩ => ⟨.bl t, H2, I2, er, k ι2 H2 x2 rh2⟩
  rcases e with e | ⟨xs, ys, rfl, rfl, e⟩
  · obtain ⟨a, b, rfl, rfl, wp⟩ := own1_ok fo okK (.inl rfl) rh r1 r2 I e
    cases rx
    cases ry
    exact wpAny_mono wp fin fun _ _ z => z
  · cases r1 with
    | lst t1 q1 => cases r2 with
      | lst t2 q2 =>
        cases rx
        cases ry
        exact wpAny_mono (eqs_ok fo okK hu rh t1 t2 q1 q2 I e) fin fun _ _ z => z
theorem boolR_post {ι : List Addr} {H : Hp} {W : WX} {σ : L2.St} {Q : VK} {r : Res Bool} (n : ∀ c fs h, r ≠ .exc c fs h) (p : Post G (RV G) W σ ι H Q (boolR r)) : ∃ t h', r = .ok t h' ∧ ∀ ι2 H2, Ext ι H ι2 H2 → RH G ι2 H2 h' → Q (.bl t) H2 := by
  cases r with
  | ok t h' => exact ⟨t, h', rfl, fun ι2 H2 x rh => p ι2 H2 _ x rh (.bl t)⟩
  | exc c fs h => exact absurd rfl (n c fs h)
  | stk => exact p.elim
theorem own1_noX {v w : AV} {h : AH} : ∀ c fs h', own1 F d.meth v w h ≠ .exc c fs h' := by
  intro c fs h' e
  cases v with
  | ref i =>
    unfold own1 at e
    dsimp only at e
    split at e
    · split at e
      · rename_i kn _
        split at e
        · cases q : F kn.1 [.ref i, w] h with
          | ok r h1 =>
            rw [q] at e
            have e : (match r with | .bl b => Res.ok b h1 | _ => .stk) = .exc c fs h' := e
            split at e <;> cases e
          | exc _ _ _ => rw [q] at e; cases e
          | stk => rw [q] at e; cases e
        · cases e
      · cases e
    · cases e
  | _ => cases e
theorem eqsM_noX : ∀ {xs ys : List AV} {h : AH} {c : Str} {fs : List (Str × AV)} {h' : AH}, eqsM F d.meth xs ys h ≠ .exc c fs h'
  | [], [], _, _, _, _ => fun e => by cases e
  | [], _ :: _, _, _, _, _ => fun e => by cases e
  | _ :: _, [], _, _, _, _ => fun e => by cases e
  | x :: xs, y :: ys, h, c, fs, h' => fun e => by
    unfold eqsM at e
    split at e
    · split at e
      · exact eqsM_noX e
      · cases q : own1 F d.meth x y h with
        | ok b h1 =>
          rw [q] at e
          have e : (if b then eqsM F d.meth xs ys h1 else .stk) = .exc c fs h' := e
          split at e
          · exact eqsM_noX e
          · cases e
        | exc _ _ _ => exact own1_noX _ _ _ q
        | stk => rw [q] at e; cases e
    · cases e
theorem ans_cmpG (ok : XOk X G d) (fo : FOk X G d F) (own : Bool) (op : CmpOp) : ∃ r, OpR X (compareOp op) r ∧ OpAns G (cmpG F d own op) r := by
  obtain ⟨r, ho, ans⟩ := ans_cmpO (X := X) (G := G) ok.K ok.hu op
  cases own with
  | false => exact ⟨r, ho, ans⟩
  | true =>
  cases op with
  | Eq =>
    refine ⟨_, ho.or (op_own fo ok.K ok.hu), fun W σ ι H h v w u1 u2 Q rh r1 r2 p => ?_⟩
    have p : Post G (RV G) W σ ι H Q (eqG F d.meth v w h) := p
    unfold eqG at p
    split at p
    · obtain ⟨t, h', e, k⟩ := boolR_post own1_noX p
      exact .inr ⟨ι, h, v, w, t, h', rh, r1, r2, .inl e, k⟩
    · split at p
      · split at p
        · obtain ⟨t, h', e, k⟩ := boolR_post (fun _ _ _ => eqsM_noX) p
          exact .inr ⟨ι, h, _, _, t, h', rh, r1, r2, .inr ⟨_, _, rfl, rfl, e⟩, k⟩
        · exact .inl (ans W σ ι H h _ _ u1 u2 Q rh r1 r2 p)
      · exact .inl (ans W σ ι H h v w u1 u2 Q rh r1 r2 p)
  | _ => exact ⟨r, ho, ans⟩
end
section
variable {X : Cx} {G : Gh} {d : DC} {W : WX} {F : Str → OpN}
theorem cmpO_bl {op : CmpOp} {v w x : AV} {h h' : AH} (e : cmpO op v w h = .ok x h') : ∃ b, x = .bl b ∧ h' = h := by
  cases op <;> unfold cmpO at e <;> dsimp only at e
  case Eq => unfold eqO resB at e; split at e <;> cases e; exact ⟨_, rfl, rfl⟩
  case NotEq => unfold neO resBn at e; split at e <;> cases e; exact ⟨_, rfl, rfl⟩
  case In => unfold inO resB at e; split at e <;> cases e; exact ⟨_, rfl, rfl⟩
  case NotIn => unfold notInO resBn at e; split at e <;> cases e; exact ⟨_, rfl, rfl⟩
  case Lt => unfold ltO at e; split at e <;> cases e <;> exact ⟨_, rfl, rfl⟩
  case LtE => unfold leO at e; split at e <;> cases e <;> exact ⟨_, rfl, rfl⟩
  case Gt => unfold gtO at e; split at e <;> cases e <;> exact ⟨_, rfl, rfl⟩
  case GtE => unfold geO at e; split at e <;> cases e <;> exact ⟨_, rfl, rfl⟩
  case Is => unfold isO at e; split at e <;> (try split at e) <;> cases e <;> exact ⟨_, rfl, rfl⟩
  case IsNot => unfold isNotO at e; split at e <;> (try split at e) <;> cases e <;> exact ⟨_, rfl, rfl⟩
/-- a comparison's answer, for a test -/
theorem boolR_bl {r : Res Bool} {x : AV} {h' : AH} (e : boolR r = .ok x h') : ∃ b, x = .bl b := by
  cases r with
  | ok t h => cases e; exact ⟨t, rfl⟩
  | exc _ _ _ => cases e
  | stk => cases e
theorem cmpG_bl {own : Bool} {op : CmpOp} {v w x : AV} {h h' : AH} (e : cmpG F d own op v w h = .ok x h') : ∃ b, x = .bl b := by
  have base : ∀ op v w, cmpO op v w h = .ok x h' → ∃ b, x = .bl b := fun op v w z => let ⟨b, q, _⟩ := cmpO_bl z; ⟨b, q⟩
  cases own with
  | false => exact base op v w e
  | true =>
  cases op with
  | Eq =>
    have e : eqG F d.meth v w h = .ok x h' := e
    unfold eqG at e
    split at e
    · exact boolR_bl e
    · split at e
      · split at e
        · exact boolR_bl e
        · exact base .Eq _ _ e
      · exact base .Eq _ _ e
  | NotEq => exact base .NotEq v w e
  | Lt => exact base .Lt v w e
  | LtE => exact base .LtE v w e
  | Gt => exact base .Gt v w e
  | GtE => exact base .GtE v w e
  | Is => exact base .Is v w e
  | IsNot => exact base .IsNot v w e
  | In => exact base .In v w e
  | NotIn => exact base .NotIn v w e
theorem cmp_test {own : Bool} {op : CmpOp} {v w : AV} {h : AH} {σ : L2.St} {ι : List Addr} {H : Hp} {Q : Bool → Hp → Prop} (p : Post G RB W σ ι H Q ((cmpG F d own op v w h).bind truR)) :
    Post G (RV G) W σ ι H (fun x H' => ∃ k, x = .bl k ∧ Q k H') (cmpG F d own op v w h) := by
  cases e : cmpG F d own op v w h with
  | ok x h' =>
    obtain ⟨b, rfl⟩ := cmpG_bl e
    rw [e] at p
    intro ι' H' u x rh r
    cases r
    exact ⟨b, rfl, p ι' H' b x rh rfl⟩
  | exc c fs h' =>
    rw [e] at p
    exact p
  | stk =>
    rw [e] at p
    exact p
theorem bin2_tst (a b : ME) (f : Op2) (ρ : AM.Env) (h : AH) : tstM (bin2 a b f) ρ h = (a ρ h).bind fun v h1 => (b ρ h1).bind fun w h2 => (f v w h2).bind truR := by
  unfold tstM bin2
  cases a ρ h with
  | ok v h1 =>
    show ((b ρ h1).bind _).bind truR = (b ρ h1).bind _
    cases b ρ h1 <;> rfl
  | exc _ _ _ => rfl
  | stk => rfl
theorem rt_cmp (ok : XOk X G d) (fo : FOk X G d F) {own : Bool} {a b : Expr} {ma mb : ME} {op : CmpOp} {pos : Pos} (hm : behindInMarks op b = false) (ha : PE X a (RE G W ma)) (hb : PE X b (RE G W mb)) : PT X (.Compare a [op] [b] pos) (RTt G W (tstM (bin2 ma mb (cmpG F d own op)))) := by
  obtain ⟨r, ho, ans⟩ := ans_cmpG ok fo own op
  refine PT_imp (pt_cmpR ho ha hb hm) fun σ H Q ⟨ι, ρ, hh, rh, rs, p⟩ => ⟨ι, ρ, hh, rh, rs, ?_⟩
  have p : Post G RB W σ ι H Q (tstM (bin2 ma mb (cmpG F d own op)) ρ hh) := p
  rw [bin2_tst] at p
  exact Post.bind p fun ι1 H1 v u h1 x1 rh1 r1 p1 => ⟨ι1, ρ, h1, rh1, rs.mono x1, Post.bind p1 fun ι2 H2 w u2 h2 x2 rh2 r2 p2 => ans W σ ι2 H2 h2 v w u u2 _ rh2 (r1.mono x2) r2 (cmp_test p2)⟩
theorem re_chain (ok : XOk X G d) (fo : FOk X G d F) {own : Bool} {a b c : Expr} {ma mb mc : ME} {op op' : CmpOp} {pos : Pos} (hm : lastMarks [op, op'] [b, c] = false) (ha : PE X a (RE G W ma)) (hb : PE X b (RE G W mb)) (hc : PE X c (RE G W mc)) : PE X (.Compare a [op, op'] [b, c] pos) (RE G W (chainM ma mb mc (cmpG F d own op) (cmpG F d own op'))) := by
  obtain ⟨r, ho, ans⟩ := ans_cmpG ok fo own op
  obtain ⟨r', ho', ans'⟩ := ans_cmpG ok fo own op'
  refine PE_imp (pe_chain ho ho' ha hb hc hm) fun σ H Q ⟨ι, ρ, hh, rh, rs, p⟩ => ⟨ι, ρ, hh, rh, rs, ?_⟩
  refine Post.bind p fun ι1 H1 v u h1 x1 rh1 r1 p1 => ⟨ι1, ρ, h1, rh1, rs.mono x1, Post.bind p1 fun ι2 H2 w u2 h2 x2 rh2 r2 p2 => ?_⟩
  refine ans W σ ι2 H2 h2 v w u u2 _ rh2 (r1.mono x2) r2 (Post.bind p2 fun ι3 H3 t z h3 x3 rh3 r3 p3 => ?_)
  split at p3
  · cases r3
    exact ⟨true, rfl, iteT ⟨ι3, ρ, h3, rh3, (rs.mono x1).mono (x2.trans x3), Post.bind p3 fun ι4 H4 z u4 h4 x4 rh4 r4 p5 => ans' W σ ι4 H4 h4 w z u2 u4 Q rh4 (r2.mono (x3.trans x4)) r4 p5⟩⟩
  · cases r3
    exact ⟨false, rfl, iteF (Post.now (a := AV.bl false) p3 rh3 (.bl false))⟩
  · exact p3.elim
theorem rt_chain (ok : XOk X G d) (fo : FOk X G d F) {own : Bool} {a b c : Expr} {ma mb mc : ME} {op op' : CmpOp} {pos : Pos} (hm : lastMarks [op, op'] [b, c] = false) (ha : PE X a (RE G W ma)) (hb : PE X b (RE G W mb)) (hc : PE X c (RE G W mc)) : PT X (.Compare a [op, op'] [b, c] pos) (RTt G W (tstM (chainM ma mb mc (cmpG F d own op) (cmpG F d own op')))) := by
  obtain ⟨r, ho, ans⟩ := ans_cmpG ok fo own op
  obtain ⟨r', ho', ans'⟩ := ans_cmpG ok fo own op'
  refine PT_imp (pt_chain ho ho' ha hb hc hm) fun σ H Q ⟨ι, ρ, hh, rh, rs, p⟩ => ?_
  have e1 : tstM (chainM ma mb mc (cmpG F d own op) (cmpG F d own op')) ρ hh = (ma ρ hh).bind fun v h1 => (mb ρ h1).bind fun w h2 => (cmpG F d own op v w h2).bind fun t h3 => (match t with | .bl true => (mc ρ h3).bind fun z h4 => (cmpG F d own op' w z h4).bind truR | .bl false => .ok false h3 | _ => .stk) := by
    unfold tstM chainM
    cases ma ρ hh with
    | ok v h1 =>
      show ((mb ρ h1).bind _).bind truR = (mb ρ h1).bind _
      cases mb ρ h1 with
      | ok w h2 =>
        show ((cmpG F d own op v w h2).bind _).bind truR = (cmpG F d own op v w h2).bind _
        cases q : cmpG F d own op v w h2 with
        | ok t h3 =>
          obtain ⟨b, rfl⟩ := cmpG_bl q
          cases b with
          | true =>
            show ((mc ρ h3).bind fun z h4 => cmpG F d own op' w z h4).bind truR = (mc ρ h3).bind fun z h4 => (cmpG F d own op' w z h4).bind truR
            cases mc ρ h3 <;> rfl
          | false => rfl
        | exc _ _ _ => rfl
        | stk => rfl
      | exc _ _ _ => rfl
      | stk => rfl
    | exc _ _ _ => rfl
    | stk => rfl
  have p : Post G RB W σ ι H Q (tstM (chainM ma mb mc (cmpG F d own op) (cmpG F d own op')) ρ hh) := p
  rw [e1] at p
  refine ⟨ι, ρ, hh, rh, rs, Post.bind p fun ι1 H1 v u h1 x1 rh1 r1 p1 => ⟨ι1, ρ, h1, rh1, rs.mono x1, Post.bind p1 fun ι2 H2 w u2 h2 x2 rh2 r2 p2 => ?_⟩⟩
  refine ans W σ ι2 H2 h2 v w u u2 _ rh2 (r1.mono x2) r2 (Post.bind p2 fun ι3 H3 t z h3 x3 rh3 r3 p3 => ?_)
  split at p3
  · cases r3
    refine ⟨true, rfl, iteT ⟨ι3, ρ, h3, rh3, (rs.mono x1).mono (x2.trans x3), Post.bind p3 fun ι4 H4 z u4 h4 x4 rh4 r4 p5 => ans' W σ ι4 H4 h4 w z u2 u4 _ rh4 (r2.mono (x3.trans x4)) r4 (cmp_test p5)⟩⟩
  · cases r3
    exact ⟨false, rfl, iteF ⟨false, rfl, Post.now (a := false) p3 rh3 rfl⟩⟩
  · exact p3.elim
theorem re_ite {c a b : Expr} {mc : AM.Env → AH → Res Bool} {ma mb : ME} {pos : Pos} (hc : PT X c (RTt G W mc)) (ha : PE X a (RE G W ma)) (hb : PE X b (RE G W mb)) : PE X (.IfExp c a b pos) (RE G W (iteM mc ma mb)) :=
  PE_imp (pe_ifExp hc ha hb) fun σ H Q ⟨ι, ρ, hh, rh, rs, p⟩ => ⟨ι, ρ, hh, rh, rs, Post.bind p fun ι1 H1 t u h1 x1 rh1 r1 p1 => by
    have r1 : t = u := r1
    subst r1
    cases t with
    | true => exact iteT ⟨ι1, ρ, h1, rh1, rs.mono x1, p1⟩
    | false => exact iteF ⟨ι1, ρ, h1, rh1, rs.mono x1, p1⟩⟩
theorem re_tup {es : List Expr} {k : Nat} {m : MEs} {pos : Pos} (ha : PA X es (RA G W m)) : PE X (.Tuple es k pos) (RE G W (tupM m)) :=
  PE_imp (pe_tup ha) fun σ H Q ⟨ι, ρ, hh, rh, rs, p⟩ => ⟨ι, ρ, hh, rh, rs, Post.bind p fun ι1 H1 vs us h1 x1 rh1 r1 p1 => by
    obtain ⟨c, p2⟩ := ifP (α := AV) p1
    exact ⟨by rw [← r1.length]; exact lenOk_le c, fun pp np => p2.at (Ext.fresh np) (rh1.fresh np) (.tup (RT.new rh1 np) (r1.mono (Ext.fresh np)))⟩⟩
theorem re_lst {es : List Expr} {m : MEs} {pos : Pos} (ha : PA X es (RA G W m)) : PE X (.List es pos) (RE G W (lstM m)) :=
  PE_imp (pe_lst ha) fun σ H Q ⟨ι, ρ, hh, rh, rs, p⟩ => ⟨ι, ρ, hh, rh, rs, Post.bind p fun ι1 H1 vs us h1 x1 rh1 r1 p1 => by
    obtain ⟨c, p2⟩ := ifP (α := AV) p1
    exact ⟨by rw [← r1.length]; exact lenOk_le c, fun pp np => p2.at (Ext.fresh np) (rh1.fresh np) (.lst (RL.new rh1 np) (r1.mono (Ext.fresh np)))⟩⟩
theorem re_new {es : List Expr} {m : MEs} {pos : Pos} (ha : PA X es (RA G W m)) : PE X (.List es pos) (RE G W (newM m)) :=
  PE_imp (pe_lst ha) fun σ H Q ⟨ι, ρ, hh, rh, rs, p⟩ => ⟨ι, ρ, hh, rh, rs, Post.bind p fun ι1 H1 vs us h1 x1 rh1 r1 p1 => by
    obtain ⟨c, p2⟩ := ifP (α := AV) p1
    refine ⟨by rw [← r1.length]; exact lenOk_le c, fun pp np => p2.at (Ext.alloc rh1 np) (rh1.alloc np ⟨us, rfl, r1⟩) (.ref ?_)⟩
    rw [← rh1.len]
    simp⟩
theorem re_idx (ok : XOk X G d) (fo : FOk X G d F) {a b : Expr} {ma mb : ME} {pos : Pos} (hs : isSl b = false) (ha : PE X a (RE G W ma)) (hb : PE X b (RE G W mb)) : PE X (.Subscript a b pos) (RE G W (bin2 ma mb idxO)) :=
  PE_imp (pe_ix (ok.K ▸ ix_seq : IxR X (rIx G.K)) ha hb (fun o i => by cases b <;> first | rfl | cases hs)) (RE.two (fun _ _ _ z => z) ans_idx)
def rPart : List Addr → Hp → Option Int → Option Int → Prop := fun _ _ a b => a = b
theorem po_part {f : Expr → ME} : ∀ o : Option Expr, (∀ e, o = some e → PE X e (RE G W (f e))) → PO X o (fun σ H Q => ∃ ι ρ h, RH G ι H h ∧ RS G ι H ρ σ ∧ Post G rPart W σ ι H Q (partM f o ρ h))
  | none, _ => ⟨fun pins s σ H Q I ⟨ι, ρ, h, rh, rs, p⟩ => po_none.run pins s σ H Q I (Post.now (a := (none : Option Int)) p rh rfl)⟩
  | some e, hf => ⟨fun pins s σ H Q I ⟨ι, ρ, h, rh, rs, p⟩ => (po_some (hf e rfl)).run pins s σ H Q I ⟨ι, ρ, h, rh, rs, Post.bind p fun ι1 H1 v u h1 x1 rh1 r1 p1 => by
      split at p1
      · rename_i i
        rw [inv_int r1]
        exact ⟨i, rfl, Post.now (a := some i) p1 rh1 rfl⟩
      · exact p1.elim⟩⟩
theorem re_slice (ok : XOk X G d) {f : Expr → ME} {a : Expr} {lo hi : Option Expr} {ma : ME} {pos p2 : Pos} (ha : PE X a (RE G W ma)) (hl : ∀ e, lo = some e → PE X e (RE G W (f e))) (hh : ∀ e, hi = some e → PE X e (RE G W (f e))) :
    PE X (.Subscript a (.Slice lo hi none p2) pos) (RE G W (sliceM ma (partM f lo) (partM f hi))) := by
  have sl : SlR X (rSlAny G.K) := (ok.K ▸ sl_tupA : SlR X (rSlA G.K)).or ((ok.K ▸ sl_list : SlR X (rSlL G.K)).or sl_str)
  refine PE_imp (pe_slice sl ha (po_part lo hl) (po_part hi hh)) fun σ H Q ⟨ι, ρ, h, rh, rs, p⟩ => ⟨ι, ρ, h, rh, rs, Post.bind p fun ι1 H1 v u h1 x1 rh1 r1 p1 => ⟨ι1, ρ, h1, rh1, rs.mono x1, Post.bind p1 fun ι2 H2 l l' h2 x2 rh2 r2 p3 => ?_⟩⟩
  have r2 : l = l' := r2
  subst r2
  refine ⟨ι2, ρ, h2, rh2, (rs.mono x1).mono x2, Post.bind p3 fun ι3 H3 k k' h3 x3 rh3 r3 p4 => ?_⟩
  have r3 : k = k' := r3
  subst r3
  exact ans_slice rh3 (r1.mono (x2.trans x3)) p4
theorem RVs.rev {ι : List Addr} {H : Hp} : ∀ {xs : List AV} {vs : List V}, RVs G ι H xs vs → RVs G ι H xs.reverse vs.reverse
  | _, _, .nil => .nil
  | _, _, .cons r t => by
    rw [List.reverse_cons, List.reverse_cons]
    exact RVs.append (RVs.rev t) (.cons r .nil)
theorem re_rev (ok : XOk X G d) {a : Expr} {m : ME} {k : Nat} {p1 p2 p3 pos : Pos} (ha : PE X a (RE G W m)) : PE X (.Subscript a (.Slice none none (some (.UnaryOp .USub (.Constant (.int 1) k p1) p2)) p3) pos) (RE G W (revM m)) :=
  PE_imp (XvS.pe_revA ha) fun σ H Q ⟨ι, ρ, h, rh, rs, p⟩ => ⟨ι, ρ, h, rh, rs, Post.bind p fun ι1 H1 v u h1 x1 rh1 r1 p1 => by
    rw [ok.K]
    unfold revF at p1
    split at p1
    · cases r1 with
      | lst t q => exact .inl ⟨_, _, rfl, t.sq, fun pp np => p1.at (Ext.fresh np) (rh1.fresh np) (.lst (RL.new rh1 np) (q.rev.mono (Ext.fresh np)))⟩
    · cases r1 with
      | ext t q => exact .inl ⟨_, _, rfl, t.sq, fun pp np => p1.at (Ext.fresh np) (rh1.fresh np) (.lst (RL.new rh1 np) (q.rev.mono (Ext.fresh np)))⟩
    · cases r1 with
      | tup t q => exact .inr ⟨_, _, rfl, t.sq, fun pp np => p1.at (Ext.fresh np) (rh1.fresh np) (.tup (RT.new rh1 np) (q.rev.mono (Ext.fresh np)))⟩
    · split at p1
      · rename_i n xs e
        obtain ⟨b, vs, rfl, _, hH, q⟩ := refLst rh1 r1 e
        exact .inl ⟨b, vs, rfl, SqL.of hH, fun pp np => p1.at (Ext.fresh np) (rh1.fresh np) (.lst (RL.new rh1 np) (q.rev.mono (Ext.fresh np)))⟩
      · exact p1.elim
    · exact p1.elim⟩
end
end AM
/-! AMg: calls, targets, walks, comprehensions: the meaning of all expressions. -/
namespace AM
open PySem PySem.Spec PyProof.Rows L2

section
variable {X : Cx} {G : Gh} {d : DC} {W : WX} {F : Str → OpN}
theorem ra_args {f : Expr → ME} {es : List Expr} (hf : ∀ e ∈ es, PE X e (RE G W (f e))) : PA X es (RA G W (argsM f es)) := by
  unfold argsM
  by_cases c : plainAll es = true
  · rw [if_pos c]; exact ra_evs es hf
  · rw [if_neg c]; exact pa_dead
/-! ### built-ins by their names -/
def bifNm : Bif → Str
  | .len => "len" | .all => "all" | .any => "any" | .sum => "sum" | .abs => "abs" | .max => "max" | .min => "min" | .divmod => "divmod" | .isinstance => "isinstance"
  | .str => "str" | .int => "int" | .tuple => "tuple" | .list => "list" | .repr => "repr"
theorem bifOf_ok {x : Str} {b : Bif} (e : bifOf x = some b) : x = bifNm b := by
  unfold bifOf at e
  by_cases c0 : x = "len"
  · rw [if_pos c0] at e; cases e; exact c0
  rw [if_neg c0] at e
  by_cases c1 : x = "all"
  · rw [if_pos c1] at e; cases e; exact c1
  rw [if_neg c1] at e
  by_cases c2 : x = "any"
  · rw [if_pos c2] at e; cases e; exact c2
  rw [if_neg c2] at e
  by_cases c3 : x = "sum"
  · rw [if_pos c3] at e; cases e; exact c3
  rw [if_neg c3] at e
  by_cases c4 : x = "abs"
  · rw [if_pos c4] at e; cases e; exact c4
  rw [if_neg c4] at e
  by_cases c5 : x = "max"
  · rw [if_pos c5] at e; cases e; exact c5
  rw [if_neg c5] at e
  by_cases c6 : x = "min"
  · rw [if_pos c6] at e; cases e; exact c6
  rw [if_neg c6] at e
  by_cases c7 : x = "divmod"
  · rw [if_pos c7] at e; cases e; exact c7
  rw [if_neg c7] at e
  by_cases c8 : x = "isinstance"
  · rw [if_pos c8] at e; cases e; exact c8
  rw [if_neg c8] at e
  by_cases c9 : x = "str"
  · rw [if_pos c9] at e; cases e; exact c9
  rw [if_neg c9] at e
  by_cases c10 : x = "int"
  · rw [if_pos c10] at e; cases e; exact c10
  rw [if_neg c10] at e
  by_cases c11 : x = "tuple"
  · rw [if_pos c11] at e; cases e; exact c11
  rw [if_neg c11] at e
  by_cases c12 : x = "list"
  · rw [if_pos c12] at e; cases e; exact c12
  rw [if_neg c12] at e
  by_cases c13 : x = "repr"
  · rw [if_pos c13] at e; cases e; exact c13
  rw [if_neg c13] at e
  cases e
theorem bif_rule (ok : XOk X G d) (b : Bif) : (∃ id r, bootBuiltins (bifNm b) = some (.builtin id) ∧ CallR X (.builtin id) r ∧ CallAns G (bifF b) r) ∨ ∃ T r, bootBuiltins (bifNm b) = some (.type T) ∧ CallR X (.type T) r ∧ CallAns G (bifF b) r := by
  cases b with
  | len => exact .inl ⟨_, _, PySem.boot_len, ok.K ▸ call_len, ans_len⟩
  | all => exact .inl ⟨_, _, by decide +kernel, ok.K ▸ cr_all ok.calm, ans_all⟩
  | any => exact .inl ⟨_, _, by decide +kernel, ok.K ▸ cr_any ok.calm, ans_any⟩
  | sum => exact .inl ⟨_, _, by decide +kernel, ok.K ▸ cr_sum ok.calm, ans_sum⟩
  | abs => exact .inl ⟨_, _, by decide +kernel, call_abs, ans_abs⟩
  | max => exact .inl ⟨_, _, by decide +kernel, call_max2 ok.calm, ans_max⟩
  | min => exact .inl ⟨_, _, by decide +kernel, call_min2 ok.calm, ans_min⟩
  | divmod => exact .inl ⟨_, _, by decide +kernel, call_divmodW, ans_divmod⟩
  | isinstance => exact .inl ⟨_, _, by decide +kernel, ok.K ▸ call_isi, ans_isi⟩
  | str => exact .inr ⟨_, _, by decide +kernel, call_str_int, ans_str⟩
  | int => exact .inr ⟨_, _, by decide +kernel, call_int1, ans_int1⟩
  | tuple => exact .inr ⟨_, _, by decide +kernel, ok.K ▸ call_tuple_of, ans_tuple⟩
  | list => exact .inr ⟨_, _, by decide +kernel, ok.K ▸ call_list_of, ans_list⟩
  | repr => exact .inl ⟨_, _, by decide +kernel, ok.K ▸ call_repr ok.gd ok.hu, ans_repr⟩
theorem re_bif (ok : XOk X G d) {f : Expr → ME} {x : Str} {b : Bif} {p pos : Pos} {e : Expr} {es : List Expr} (hd : ¬ dun x = true) (hg : glB d.sc x = true) (hfr : d.free x = true) (hb : bifOf x = some b)
    (hf : ∀ a ∈ e :: es, PE X a (RE G W (f a))) : PE X (.Call (.Name x p) (e :: es) [] pos) (RE G W (callM (bifF b) (argsM f (e :: es)))) := by
  obtain ⟨n1, n2, n3⟩ := dun_no hd
  have hx := bifOf_ok hb
  unfold argsM
  by_cases c : plainAll (e :: es) = true
  · rw [if_pos c]
    have pl := plainAll_ok c
    have he := starEach_plain (es := es) (env := X.env) (pl e (List.mem_cons_self ..))
    have hpl : (backTo pos (starEach es X.env)).any (·.1) = false := backTo_any fun y hy => pl y (List.mem_cons_of_mem _ hy)
    have ha := ra_evs (e :: es) hf
    rcases bif_rule ok b with ⟨id, r, hv, hc, ans⟩ | ⟨T, r, hv, hc, ans⟩
    · exact PE_imp (pe_callB hc (ok.gl x hg) (ok.free x hfr) (by rw [hx]; exact hv) ha n3 n1 he hpl) fun σ H Q ⟨ι, ρ, h, rh, rs, p⟩ => ⟨ι, ρ, h, rh, rs, Post.bind p fun ι1 H1 vs us h1 x1 rh1 r1 p1 => ans W σ ι1 H1 h1 vs us Q rh1 r1 p1⟩
    · exact PE_imp (pe_callTy hc (ok.gl x hg) (ok.free x hfr) (by rw [hx]; exact hv) ha n3 n1 he hpl) fun σ H Q ⟨ι, ρ, h, rh, rs, p⟩ => ⟨ι, ρ, h, rh, rs, Post.bind p fun ι1 H1 vs us h1 x1 rh1 r1 p1 => ans W σ ι1 H1 h1 vs us Q rh1 r1 p1⟩
  · rw [if_neg c]
    exact PE_stk fun _ _ => rfl
theorem re_isi (ok : XOk X G d) (fo : FOk X G d F) {f : Expr → ME} {p pos : Pos} {e : Expr} {es : List Expr} (hg : glB d.sc "isinstance" = true) (hfr : d.free "isinstance" = true)
    (hf : ∀ a ∈ e :: es, PE X a (RE G W (f a))) : PE X (.Call (.Name "isinstance" p) (e :: es) [] pos) (RE G W (callM (isiG d.isi d.xv d.inc) (argsM f (e :: es)))) := by
  unfold argsM
  by_cases c : plainAll (e :: es) = true
  · rw [if_pos c]
    have pl := plainAll_ok c
    have ha := ra_evs (e :: es) hf
    have fi := fo.isi
    have fx := fo.xv
    have fc := fo.inc
    have hc := (call_isi (X := X)).or XvS.call_isV
    rw [ok.K] at fi fx fc hc
    exact PE_imp (pe_callB hc (ok.gl _ hg) (ok.free _ hfr) (by decide +kernel) ha (by decide) (by decide) (starEach_plain (pl e (List.mem_cons_self ..))) (backTo_any fun y hy => pl y (List.mem_cons_of_mem _ hy))) fun σ H Q ⟨ι, ρ, h, rh, rs, p⟩ => ⟨ι, ρ, h, rh, rs, Post.bind p fun ι1 H1 vs us h1 x1 rh1 r1 p1 => ans_isiG fi fx fc W σ ι1 H1 h1 vs us Q rh1 r1 p1⟩
  · rw [if_neg c]
    exact PE_stk fun _ _ => rfl
/-! ### sorted(set(xs)) of texts -/
theorem sortSet_imp {ta : TE} {m : ME} (hi : ∀ σ H Q, RE G W m σ H Q → ta σ H Q) : ∀ σ H Q, RE G W (sortSetM m) σ H Q → tCB (TxS.rSortX X.w) (tCons (tCB (TxS.rSetX G.K X.w) (tCons ta tNil)) tNil) σ H Q := fun σ H Q ⟨ι, ρ, h, rh, rs, p⟩ => by
  refine hi σ H _ ⟨ι, ρ, h, rh, rs, Post.bind p fun ι1 H1 v u h1 x1 rh1 r1 p1 => ?_⟩
  have fin : ∀ (a : Addr) (ys : List Str) (us : List V), SqL G.K H1 a us → us = ys.map V.str → ys.length ≤ 1000 → u = .ref a → Post G (RV G) W σ ι1 H1 Q (.ok (.lst ((TxS.sortS ys).map .str)) h1) →
      TxS.rSetX G.K X.w [u] H1 fun v H1 => TxS.rSortX X.w [v] H1 Q := fun a ys us hs hu hl eu p2 => by
    subst hu eu
    refine ⟨a, ys, rfl, hs, hl, fun D c nD hc => ⟨D, ys, c, rfl, upd_same, by omega, fun q nq => ?_⟩⟩
    have rh2 := rh1.fresh (u := TxS.SetXO X.w D (fun j => j ∈ ys) c) nD
    exact p2.at ((Ext.fresh nD).trans (Ext.fresh nq)) (rh2.fresh nq) (.lst (RL.new rh2 nq) (RVs.ofStrs _))
  unfold sortSetF at p1
  split at p1
  · split at p1
    · rename_i ys q
      obtain ⟨c, p2⟩ := ifP (α := AV) p1
      cases r1 with
      | lst t rv =>
        rw [strsOf_ok q] at rv
        exact fin _ ys _ t.sq rv.strs c rfl p2
    · exact p1.elim
  · split at p1
    · rename_i e0
      split at p1
      · rename_i ys q
        obtain ⟨c, p2⟩ := ifP (α := AV) p1
        obtain ⟨a, ws, rfl, _, hu, rv⟩ := refLst rh1 r1 e0
        rw [strsOf_ok q] at rv
        exact fin _ ys _ (SqL.of hu) rv.strs c rfl p2
      · exact p1.elim
    · exact p1.elim
  · exact p1.elim
theorem re_sortSet (ok : XOk X G d) {e : Expr} {m : ME} {p1 p2 p3 p4 : Pos} (h1 : glB d.sc "sorted" = true) (h2 : d.free "sorted" = true) (h3 : glB d.sc "set" = true) (h4 : d.free "set" = true) (hs : isStar e = false) (he : PE X e (RE G W m)) :
    PE X (.Call (.Name "sorted" p1) [.Call (.Name "set" p2) [e] [] p3] [] p4) (RE G W (sortSetM m)) := by
  have ha : PE X (.Call (.Name "set" p2) [e] [] p3) (tCB (TxS.rSetX G.K X.w) (tCons (RE G W m) tNil)) := by
    have hc := TxS.cr_setX (X := X) ok.calm
    rw [ok.K] at hc
    exact pe_callTy hc (ok.gl _ h3) (ok.free _ h4) (by decide +kernel) (pa_cons he pa_nil (starEach_plain hs)) (by decide) (by decide) (starEach_plain hs) rfl
  exact PE_imp (pe_callB (TxS.cr_sortX (X := X) ok.calm (by have := ok.hu; omega)) (ok.gl _ h1) (ok.free _ h2) (by decide +kernel) (pa_cons ha pa_nil) (by decide) (by decide)) (sortSet_imp fun _ _ _ z => z)
/-! ### the module's own defs -/
theorem pe_callSD0 {CX : CXT} {k : Nat} {f : Addr} {fd : FuncData} {ps : List Str} {sp : Sp} {dvs : List V} {ds : List Value} {E : L2.St → XK} {x : Str} {p pos : Pos}
    (F : FnOk X.prog X.w X.K X.mg X.base CX k f fd ps sp) (hr : Room k X.A) (hg : Gl X x) (hm : X.mg x = some (.ref f)) (hk : PySem.W.keepIn X.K (.ref f) = true) (hb : Binds X.K fd ps ds) (hd : Vals dvs ds) (hx : ∀ σ, PassesAt CX X σ (E σ))
    (hdb : (x == ("__debug__" : Str)) = false) : PE X (.Call (.Name x p) [] [] pos) (tCallSD sp dvs E tNil) := by
  refine ⟨fun pins s σ H Q I h => ?_⟩
  refine wpAny_Call_Name_kw (ld_glob I hg hm ?_ hdb)
  exact PySem.W.callWith_K0 I.kIn hk (run_fnSD (us := []) F hr hb hd (hx σ) I .nil h)
theorem spA_of {n : Nat} {f : OpN} {σ : L2.St} {ι : List Addr} {H : Hp} {h : AH} {avs : List AV} {vs : List V} {Q : VK} (rh : RH G ι H h) (r : RVs G ι H avs vs) (hn : avs.length = n) (p : Post G (RV G) W σ ι H Q (f avs h)) : spA G n f vs H Q (WE W σ) :=
  ⟨G.hid, ι, h, avs, rh, r, hn, p.slots fun _ _ _ z => z⟩
theorem spA_len {n : Nat} {f : OpN} {vs : List V} {H : Hp} {Q : VK} {E : XK} (h : spA G n f vs H Q E) : vs.length = n := by
  obtain ⟨l, ι, h, avs, _, r, e, _⟩ := h
  rw [← r.length]
  exact e
theorem evs_len {f : Expr → ME} {ρ : AM.Env} : ∀ {es : List Expr} {h h' : AH} {vs : List AV}, evsM f es ρ h = .ok vs h' → vs.length = es.length
  | [], h, h', vs, e => by
    have e : Res.ok [] h = Res.ok vs h' := e
    cases e
    rfl
  | a :: es, h, h', vs, e => by
    unfold evsM at e
    by_cases c : isStar a = true
    · rw [if_pos c] at e
      cases e
    · rw [if_neg c] at e
      have e : ((f a ρ h).bind fun v h1 => (evsM f es ρ h1).bind fun vs h2 => .ok (v :: vs) h2) = .ok vs h' := e
      cases q : f a ρ h with
      | ok v h1 =>
        rw [q] at e
        have e : ((evsM f es ρ h1).bind fun vs h2 => Res.ok (v :: vs) h2) = .ok vs h' := e
        cases q2 : evsM f es ρ h1 with
        | ok ws h2 =>
          rw [q2] at e
          have e : Res.ok (v :: ws) h2 = .ok vs h' := e
          cases e
          rw [List.length_cons, List.length_cons, evs_len q2]
        | exc _ _ _ => rw [q2] at e; cases e
        | stk => rw [q2] at e; cases e
      | exc _ _ _ => rw [q] at e; cases e
      | stk => rw [q] at e; cases e
theorem re_own (ok : XOk X G d) (fo : FOk X G d F) (tk : Takes X W) {f : Expr → ME} {x : Str} {ps : List Str} {p pos : Pos} {args : List Expr} (hd : ¬ dun x = true) (hg : glB d.sc x = true) (hfn : d.fn x = some ps)
    (hl : args.length = ps.length) (hf : ∀ a ∈ args, PE X a (RE G W (f a))) : PE X (.Call (.Name x p) args [] pos) (RE G W (callM (F x) (argsM f args))) := by
  obtain ⟨n1, n2, n3⟩ := dun_no hd
  obtain ⟨fa, fd, k, hm, hk, FF, hr, hb⟩ := fo.pos x ps hfn
  unfold argsM
  by_cases c : plainAll args = true
  · rw [if_pos c]
    have pl := plainAll_ok c
    have ha := ra_evs args hf
    cases args with
    | nil =>
      refine PE_imp (pe_callSD0 FF hr (ok.gl x hg) hm hk hb .nil (fun σ => passAt tk σ) n1) fun σ H Q ⟨ι, ρ, h, rh, rs, p⟩ => ?_
      exact spA_of rh .nil hl p
    | cons e es =>
      have he := starEach_plain (es := es) (env := X.env) (pl e (List.mem_cons_self ..))
      have hpl : (backTo pos (starEach es X.env)).any (·.1) = false := backTo_any fun y hy => pl y (List.mem_cons_of_mem _ hy)
      refine PE_imp (pe_callSD FF hr (ok.gl x hg) hm hk hb .nil (fun σ => passAt tk σ) ha n1 he hpl) fun σ H Q ⟨ι, ρ, h, rh, rs, p⟩ => ⟨ι, ρ, h, rh, rs, Post.bindE p fun ι1 H1 vs us h1 e1 x1 rh1 r1 p1 => ?_⟩
      rw [List.append_nil]
      exact spA_of rh1 r1 ((evs_len e1).trans hl) p1
  · rw [if_neg c]
    exact PE_stk fun _ _ => rfl

theorem re_own' (ok : XOk X G d) (fo : FOk X G d F) (tk : Takes X W) {f : Expr → ME} {x : Str} {ps : List Str} {p pos : Pos} {args : List Expr} (hd : ¬ dun x = true) (hg : glB d.sc x = true) (hfn : d.fn x = some ps)
    (hf : ∀ a ∈ args, PE X a (RE G W (f a))) : PE X (.Call (.Name x p) args [] pos) (RE G W (if Nat.beq args.length ps.length then callM (F x) (argsM f args) else fun _ _ => .stk)) := by
  by_cases c : Nat.beq args.length ps.length = true
  · rw [if_pos c]
    exact re_own ok fo tk hd hg hfn (Nat.eq_of_beq_eq_true c) hf
  · rw [if_neg c]
    exact pe_dead
/-! ### keywords -/
def RK (G : Gh) (W : WX) (m : MEs) : TA := RA G W m
theorem rk_kws {f : Expr → ME} : ∀ kws : List Keyword, (∀ k ∈ kws, PE X k.value (RE G W (f k.value))) → PK X kws (RA G W (kwsM f kws))
  | [], _ => ⟨fun pos pins s σ H Q I ⟨ι, ρ, h, rh, rs, p⟩ => pk_nil.run pos pins s σ H Q I (Post.now (a := []) p rh .nil)⟩
  | k :: ks, hf => by
    have he := hf k (List.mem_cons_self ..)
    have ht := rk_kws ks fun x hx => hf x (List.mem_cons_of_mem _ hx)
    obtain ⟨nm, e, kp⟩ := k
    exact ⟨fun pos pins s σ H Q I ⟨ι, ρ, h, rh, rs, p⟩ => (pk_cons (nm := nm) (kpos := kp) he ht).run pos pins s σ H Q I ⟨ι, ρ, h, rh, rs, Post.bind p fun ι1 H1 v u h1 x1 rh1 r1 p1 => ⟨ι1, ρ, h1, rh1, rs.mono x1, Post.bind p1 fun ι2 H2 vs us h2 x2 rh2 r2 p2 =>
      Post.now (a := v :: vs) p2 rh2 (.cons (r1.mono x2) r2)⟩⟩⟩
theorem kws_len {f : Expr → ME} {ρ : AM.Env} : ∀ {es : List Keyword} {h h' : AH} {vs : List AV}, kwsM f es ρ h = .ok vs h' → vs.length = es.length
  | [], h, h', vs, e => by
    have e : Res.ok [] h = Res.ok vs h' := e
    cases e
    rfl
  | a :: es, h, h', vs, e => by
    have e : ((f a.value ρ h).bind fun v h1 => (kwsM f es ρ h1).bind fun vs h2 => .ok (v :: vs) h2) = .ok vs h' := e
    cases q : f a.value ρ h with
    | ok v h1 =>
      rw [q] at e
      have e : ((kwsM f es ρ h1).bind fun vs h2 => Res.ok (v :: vs) h2) = .ok vs h' := e
      cases q2 : kwsM f es ρ h1 with
      | ok ws h2 =>
        rw [q2] at e
        have e : Res.ok (v :: ws) h2 = .ok vs h' := e
        cases e
        rw [List.length_cons, List.length_cons, kws_len q2]
      | exc _ _ _ => rw [q2] at e; cases e
      | stk => rw [q2] at e; cases e
    | exc _ _ _ => rw [q] at e; cases e
    | stk => rw [q] at e; cases e
theorem kwE_all {env : PySem.Env} {pos : Pos} : ∀ {kws : List Keyword}, kws.all (·.arg.isSome) = true → (backToKw pos (keywordEach kws env)).all (·.1.isSome) = true ∧ (backToKw pos (keywordEach kws env)).any (·.1.isNone) = false ∧ (backToKw pos (keywordEach kws env)).filterMap (·.1) = kwNames kws
  | [], _ => ⟨rfl, rfl, rfl⟩
  | k :: ks, h => by
    rw [List.all_cons, Bool.and_eq_true] at h
    obtain ⟨h1, h2, h3⟩ := kwE_all (env := env) (pos := pos) h.2
    obtain ⟨nm, e, kp⟩ := k
    cases nm with
    | none => exact absurd h.1 (by simp)
    | some n =>
      refine ⟨?_, ?_, ?_⟩
      · show ((true && _) : Bool) = true
        rw [Bool.true_and]
        exact h1
      · show ((false || _) : Bool) = false
        rw [Bool.false_or]
        exact h2
      · have h4 : n :: (backToKw pos (keywordEach ks env)).filterMap (·.1) = n :: kwNames ks := by rw [h3]
        exact h4
theorem pick_len {α : Type} {l : List α} : ∀ {ord : List Nat}, (∀ i ∈ ord, i < l.length) → (pick ord l).length = ord.length
  | [], _ => rfl
  | i :: ord, h => by
    have ih := pick_len (l := l) fun j hj => h j (List.mem_cons_of_mem i hj)
    have hi := h i (List.mem_cons_self ..)
    unfold pick at ih ⊢
    rw [List.filterMap_cons, List.getElem?_eq_getElem hi]
    simp [ih]
theorem run_kw {k n : Nat} {f : Addr} {fd : FuncData} {ps ks : List Str} {sp : Sp} {E : XK} {ord : List Nat} {pins : List (Addr × Obj)} {σ : L2.St} {H : Hp} {s : Shared} {Q : VK} {us ws : List Value} {vs zs : List V}
    (FF : FnOk X.prog X.w X.K X.mg X.base (L2.CX X.prog X.w) k f fd ps sp) (hr : Room k X.A) (hb : ∀ (s : Shared) (us ws : List Value), X.K.In s.heap → us.length = n → ws.length = ks.length → (pick ord (us ++ ws)).length = ps.length → BindsTo s fd ⟨us, ks.zip ws⟩ (ps.zip (pick ord (us ++ ws))))
    (hx : PassesAt (L2.CX X.prog X.w) X σ E) (I : Inv X pins σ H s) (r : Vals vs us) (rz : Vals zs ws) (l1 : vs.length = n) (l2 : zs.length = ks.length) (h : sp (pick ord (vs ++ zs)) H Q E) : wpAny (model X.prog X.w) X.A (call (.ref f) us (ks.zip ws)) (EP X pins σ Q) X.xe s := by
  have r2 := pick_vals (r.append rz) ord
  have hl : (pick ord (us ++ ws)).length = ps.length := by rw [← r2.length]; exact FF.len _ _ _ _ h
  refine wpAny_call (codeAny_mono (FF.run X.A X.stack s H ⟨us, ks.zip ws⟩ (pick ord (us ++ ws)) (pick ord (vs ++ zs)) Q E hr I.env0 (hb s us ws I.kIn (r.length.symm.trans l1) (rz.length.symm.trans l2) hl) r2 h) fun r s' hq => ?_)
  cases r with
  | error e => exact hx pins H s e s' I hq
  | ok fl =>
    cases fl with
    | ret u => exact I.after hq
    | next => exact False.elim hq
    | brk => exact False.elim hq
    | cont => exact False.elim hq
theorem re_kw (ok : XOk X G d) (fo : FOk X G d F) (tk : Takes X W) {f : Expr → ME} {x : Str} {ord : List Nat} {p pos : Pos} {args : List Expr} {kws : List Keyword} (hd : ¬ dun x = true) (hg : glB d.sc x = true) (hall : kws.all (·.arg.isSome) = true)
    (hkw : d.kw x args.length (kwNames kws) = some ord) (hf : ∀ a ∈ args, PE X a (RE G W (f a))) (hfk : ∀ k ∈ kws, PE X k.value (RE G W (f k.value))) :
    PE X (.Call (.Name x p) args kws pos) (RE G W (callKM (F x) ord (argsM f args) (kwsM f kws))) := by
  obtain ⟨n1, n2, n3⟩ := dun_no hd
  obtain ⟨fa, fd, k, ps, hm, hk, FF, hr, ho1, ho2, hb⟩ := fo.kw x _ _ ord hkw
  obtain ⟨k1, k2, k3⟩ := kwE_all (env := X.env) (pos := pos) hall
  have lk : (kwNames kws).length = kws.length := by
    unfold kwNames
    clear hkw k1 k2 k3 hfk hb ho1
    induction kws with
    | nil => rfl
    | cons a r ih =>
      rw [List.all_cons, Bool.and_eq_true] at hall
      obtain ⟨nm, e, kp⟩ := a
      cases nm with
      | none => exact absurd hall.1 (by simp)
      | some n => rw [List.filterMap_cons]; simp [ih hall.2]
  have pk := rk_kws (X := X) (G := G) (W := W) kws hfk
  unfold argsM
  by_cases c : plainAll args = true
  · rw [if_pos c]
    have pl := plainAll_ok c
    have ha := ra_evs args hf
    refine ⟨fun pins s σ H Q I ⟨ι, ρ, h, rh, rs, p0⟩ => wpAny_Call_Name_kw (ld_glob I (ok.gl x hg) hm ?_ n1)⟩
    cases args with
    | nil =>
      refine PySem.W.callWith_KW0 (h₀ := X.base) I.ok.mod.kin hk k1 ?_ (by rw [k2]; rfl)
      have q0 : Post G (RVs G) W σ ι H (fun zs H2 => zs.length = (kwNames kws).length ∧ spA G ps.length (F x) (pick ord ([] ++ zs)) H2 Q (WE W σ)) (kwsM f kws ρ h) := by
        refine Post.bindE (show Post G (RV G) W σ ι H Q ((kwsM f kws ρ h).bind fun zs h2 => F x (pick ord ([] ++ zs)) h2) from p0) fun ι2 H2 zs us2 h2 e2 x2 rh2 r2 p2 => ?_
        refine ⟨by rw [← r2.length, kws_len e2, lk], ?_⟩
        have rr := pick_rel (RVs.append (.nil : RVs G ι2 H2 [] []) r2) ord
        have hn : (pick ord ([] ++ zs)).length = ps.length := by
          rw [pick_len, ho2]
          intro i hi
          have := ho1 i hi
          have := kws_len e2
          simp at *
          omega
        exact spA_of rh2 rr hn p2
      refine thn (pk.run pos pins s σ H _ I ⟨ι, ρ, h, rh, rs, q0⟩) fun ws s2 ⟨zs, H2, I2, rz, l2, q2⟩ => ⟨I2.kIn, ?_⟩
      rw [k3]
      exact run_kw FF hr hb (passAt tk σ) I2 .nil rz rfl l2 q2
    | cons e es =>
      have he := starEach_plain (es := es) (env := X.env) (pl e (List.mem_cons_self ..))
      have hpl : (backTo pos (starEach (e :: es) X.env)).any (·.1) = false := backTo_any pl
      refine PySem.W.callWith_KW (h₀ := X.base) I.ok.mod.kin hk k1 ?_ (by rw [hpl, k2]; rfl) he
      have q0 : Post G (RVs G) W σ ι H (fun vs H1 => vs.length = (e :: es).length ∧ RA G W (kwsM f kws) σ H1 fun zs H2 => zs.length = (kwNames kws).length ∧ spA G ps.length (F x) (pick ord (vs ++ zs)) H2 Q (WE W σ)) (evsM f (e :: es) ρ h) := by
        refine Post.bindE (show Post G (RV G) W σ ι H Q ((evsM f (e :: es) ρ h).bind fun vs h1 => (kwsM f kws ρ h1).bind fun zs h2 => F x (pick ord (vs ++ zs)) h2) from p0) fun ι1 H1 vs us h1 e1 x1 rh1 r1 p1 => ?_
        refine ⟨by rw [← r1.length, evs_len e1], ι1, ρ, h1, rh1, rs.mono x1, Post.bindE p1 fun ι2 H2 zs us2 h2 e2 x2 rh2 r2 p2 => ?_⟩
        refine ⟨by rw [← r2.length, kws_len e2, lk], ?_⟩
        have rr := pick_rel (RVs.append (r1.mono x2) r2) ord
        have hn : (pick ord (vs ++ zs)).length = ps.length := by
          rw [pick_len, ho2]
          intro i hi
          have h3 := ho1 i hi
          have h4 := kws_len e2
          have h5 := evs_len e1
          rw [List.length_append, h4, h5, ← lk]
          exact h3
        exact spA_of rh2 rr hn p2
      refine thn (ha.run pos pins s σ H _ I ⟨ι, ρ, h, rh, rs, q0⟩) fun us s1 ⟨vs, H1, I1, r, l1, q⟩ => ?_
      refine thn (pk.run pos pins s1 σ H1 _ I1 q) fun ws s2 ⟨zs, H2, I2, rz, l2, q2⟩ => ⟨I2.kIn, ?_⟩
      rw [k3]
      exact run_kw FF hr hb (passAt tk σ) I2 r rz l1 l2 q2
  · rw [if_neg c]
    exact PE_stk fun _ _ => rfl
end
end AM
/-! AMh1: methods of texts -/
namespace AM
open PySem PySem.Spec PyProof.Rows L2

section
variable {X : Cx} {G : Gh} {d : DC} {W : WX}
theorem base_plain {o : Expr} {m : Str} {env : PySem.Env} {w : Sem Value} (h : plainO o = true) : attributeBase o m env w = w := by
  cases o with
  | Call f args kws pos =>
    cases args with
    | nil =>
      cases kws with
      | nil =>
        cases f with
        | Name x p =>
          have h : (x != ("super" : Str)) = true := h
          unfold attributeBase
          simp only [h, Bool.true_or, if_true]
          try exact bind_pure w
        | _ => cases h
      | cons k ks => cases f <;> rfl
    | cons a as => cases f <;> rfl
  | _ => rfl
def MtAns (G : Gh) (f : AV → OpN) (r : V → List V → Hp → VK → Prop) : Prop := ∀ (W : WX) (σ : L2.St) (ι : List Addr) (H : Hp) (h : AH) (z : Str) (vs : List AV) (us : List V) (Q : VK), RH G ι H h → RVs G ι H vs us → Post G (RV G) W σ ι H Q (f (.str z) vs h) → r (.str z) us H Q
theorem re_smt0 {o : Expr} {mo : ME} {f : AV → OpN} {id : String} {name : Str} {apos pos : Pos} {r : V → List V → Hp → VK → Prop} (slot : Slot "str" name id) (ty : typeOf (.builtin id) = pure (.type "method_descriptor")) (rule : MtR X id r) (ans : MtAns G f r)
    (hp : plainO o = true) (hl : (apos.endLine == pos.line) = true) (ho : PE X o (RE G W mo)) : PE X (.Call (.Attribute o name apos) [] [] pos) (RE G W (smt0 f mo)) :=
  PE_imp (pe_m0 slot ty rule ho (base_plain hp) hl) fun σ H Q ⟨ι, ρ, h, rh, rs, p⟩ => ⟨ι, ρ, h, rh, rs, Post.bind p fun ι1 H1 v u h1 x1 rh1 r1 p1 => by
    split at p1
    · rw [inv_str r1]
      exact ⟨⟨_, rfl⟩, ans W σ ι1 H1 h1 _ [] [] Q rh1 .nil p1⟩
    · exact p1.elim⟩
theorem re_smt1 {o e : Expr} {mo me : ME} {f : AV → OpN} {id : String} {name : Str} {apos pos : Pos} {r : V → List V → Hp → VK → Prop} (slot : Slot "str" name id) (ty : typeOf (.builtin id) = pure (.type "method_descriptor")) (rule : MtR X id r) (ans : MtAns G f r)
    (hp : plainO o = true) (hs : isStar e = false) (hl : (apos.endLine == pos.line) = true) (ho : PE X o (RE G W mo)) (he : PE X e (RE G W me)) : PE X (.Call (.Attribute o name apos) [e] [] pos) (RE G W (smt1 f mo me)) :=
  PE_imp (pe_m1 slot ty rule ho he (starEach_plain hs) (base_plain hp) hl) fun σ H Q ⟨ι, ρ, h, rh, rs, p⟩ => ⟨ι, ρ, h, rh, rs, Post.bind p fun ι1 H1 v u h1 x1 rh1 r1 p1 => by
    split at p1
    · rw [inv_str r1]
      refine ⟨⟨_, rfl⟩, ι1, ρ, h1, rh1, rs.mono x1, Post.bind p1 fun ι2 H2 w u2 h2 x2 rh2 r2 p2 => ans W σ ι2 H2 h2 _ [w] [u2] Q rh2 (.cons r2 .nil) p2⟩
    · exact p1.elim⟩
theorem ans_upper : MtAns G upperF (fun x xs H Q => ∃ a, x = .str a ∧ xs = [] ∧ a.length ≤ 5592405 ∧ Q (.str (Txt.upper a)) H) := by
  intro W σ ι H h z vs us Q rh r p
  unfold upperF at p
  split at p
  · rename_i q
    obtain rfl := AV.str.inj q
    cases r
    obtain ⟨c, p⟩ := ifP (α := AV) p
    exact ⟨_, rfl, rfl, c, p.now rh (.str _)⟩
  · exact p.elim
theorem ans_join : MtAns G joinF (fun x xs H Q => ∃ a p, ∃ ys : List Str, x = .str a ∧ xs = [.ref p] ∧ (SqL G.K H p (ys.map V.str) ∨ SqT G.K H p (ys.map V.str)) ∧ (ys.map (·.length)).sum + ys.length * a.length ≤ 16777216 ∧ Q (.str (Txt.join a ys)) H) := by
  intro W σ ι H h z vs us Q rh r p
  unfold joinF at p
  split at p
  · rename_i q0
    obtain rfl := AV.str.inj q0
    obtain ⟨u, rfl, q⟩ := inv1 r
    split at p
    · split at p
      · rename_i ys e
        obtain ⟨c, p⟩ := ifP (α := AV) p
        cases q with
        | lst t q =>
          rw [strsOf_ok e] at q
          rw [q.strs] at t
          exact ⟨_, _, ys, rfl, rfl, .inl t.sq, c, p.now rh (.str _)⟩
      · exact p.elim
    · split at p
      · rename_i ys e
        obtain ⟨c, p⟩ := ifP (α := AV) p
        cases q with
        | tup t q =>
          rw [strsOf_ok e] at q
          rw [q.strs] at t
          exact ⟨_, _, ys, rfl, rfl, .inr t.sq, c, p.now rh (.str _)⟩
      · exact p.elim
    · exact p.elim
  · exact p.elim
theorem smtOf_ok {x : Str} {b : Smt} (e : smtOf x = some b) : (b = .upper ∧ x = "upper") ∨ (b = .join ∧ x = "join") := by
  unfold smtOf at e
  by_cases c0 : x = "upper"
  · rw [if_pos c0] at e; cases e; exact .inl ⟨rfl, c0⟩
  rw [if_neg c0] at e
  by_cases c1 : x = "join"
  · rw [if_pos c1] at e; cases e; exact .inr ⟨rfl, c1⟩
  rw [if_neg c1] at e
  cases e
theorem re_smt (ok : XOk X G d) {f : Expr → ME} {o : Expr} {m : Str} {s : Smt} {args : List Expr} {apos pos : Pos} (hm : smtOf m = some s) (hp : plainO o = true) (hl : (apos.endLine == pos.line) = true) (ho : PE X o (RE G W (f o))) (hf : ∀ a ∈ args, PE X a (RE G W (f a))) :
    PE X (.Call (.Attribute o m apos) args [] pos) (RE G W (smtM f s o args)) := by
  rcases smtOf_ok hm with ⟨rfl, rfl⟩ | ⟨rfl, rfl⟩
  · cases args with
    | nil => exact re_smt0 F.slot_str_upper F.type_str_upper mt_upper ans_upper hp hl ho
    | cons e es =>
      cases es with
      | nil =>
        refine PE_stk fun ρ h => ?_
        show (if isStar e then (fun _ _ => .stk : ME) else (fun _ _ => .stk)) ρ h = .stk
        split <;> rfl
      | cons e2 es => exact pe_dead
  · cases args with
    | nil => exact pe_dead
    | cons e es =>
      cases es with
      | nil =>
        show PE X _ (RE G W (if isStar e then fun _ _ => .stk else smt1 joinF (f o) (f e)))
        by_cases c : isStar e = true
        · rw [if_pos c]; exact pe_dead
        · rw [if_neg c]
          exact re_smt1 F.slot_str_join F.type_str_join (ok.K ▸ mt_join) ans_join hp (by simpa using c) hl ho (hf e (List.mem_cons_self ..))
      | cons e2 es => exact pe_dead

theorem re_app (ok : XOk X G d) {f : Expr → ME} {o : Expr} {args : List Expr} {apos pos : Pos} (hp : plainO o = true) (hl : (apos.endLine == pos.line) = true) (ho : PE X o (RE G W (f o))) (hf : ∀ a ∈ args, PE X a (RE G W (f a))) :
    PE X (.Call (.Attribute o "append" apos) args [] pos) (RE G W (appA f o args)) := by
  match args, hf with
  | [], _ => exact pe_dead
  | _ :: _ :: _, _ => exact pe_dead
  | [e], hf =>
    show PE X _ (RE G W (if isStar e then fun _ _ => .stk else appM (f o) (f e)))
    by_cases c : isStar e = true
    · rw [if_pos c]; exact pe_dead
    · rw [if_neg c]
      have hs : isStar e = false := by simpa using c
      have ha : PA X [e] (RA G W (evsM f [e])) := ra_evs [e] hf
      refine PE_imp (pe_bm F.plainAttrs_list F.slot_list_append F.type_list_append (X := X) mt_append ho ha (base_plain hp) (by rw [starEach_plain hs]; rfl) hl (starEach_plain hs) rfl) fun σ H Q ⟨ι, ρ, h, rh, rs, p⟩ => ⟨ι, ρ, h, rh, rs, Post.bind p fun ι1 H1 v u h1 x1 rh1 r1 p1 => ?_⟩
      split at p1
      · rename_i n
        split at p1
        · rename_i ys q
          obtain ⟨a, vs, rfl, hi, hH, rr⟩ := refLst rh1 r1 q
          refine ⟨.inl ⟨rfl, vs, SqL.of hH⟩, ι1, ρ, h1, rh1, rs.mono x1, ?_⟩
          have e1 : evsM f [e] ρ h1 = (f e ρ h1).bind fun w h2 => .ok [w] h2 := by
            unfold evsM
            rw [if_neg c]
            rfl
          rw [e1]
          have z : ∀ {r : Res AV}, Post G (RV G) W σ ι1 H1 Q (r.bind fun w h2 => (match h2[n]? with
              | some (.lst xs) => if xs.length < sizeLine then .ok .non (h2.set n (.lst (xs ++ [w]))) else .stk
              | _ => .stk)) → Post G (RVs G) W σ ι1 H1 (fun xs H2 => rAppend (.ref a) xs H2 Q) (r.bind fun w h2 => .ok [w] h2) := fun {r} p => by
            cases r with
            | exc c fs h => exact p
            | stk => exact p
            | ok w h2 =>
              intro ι2 H2 us x2 rh2 r2
              obtain ⟨uw, rfl, rw2⟩ := inv1 r2
              have p : Post G (RV G) W σ ι1 H1 Q (match h2[n]? with
                | some (.lst xs) => if xs.length < sizeLine then .ok .non (h2.set n (.lst (xs ++ [w]))) else .stk
                | _ => .stk) := p
              split at p
              · rename_i xs q2
                obtain ⟨cl, p⟩ := ifP (α := AV) p
                obtain ⟨a2, vs2, ea, hi2, hH2, rr2⟩ := refLst rh2 (r1.mono x2) q2
                cases ea
                exact ⟨a, vs2, uw, rfl, rfl, hH2, by rw [← rr2.length]; exact cl, p.at (x2.trans (Ext.write hi2)) (rh2.write hi2 ⟨_, rfl, rr2.append (.cons rw2 .nil)⟩) .non⟩
              · exact p.elim
          exact z p1
        · exact p1.elim
      · exact p1.elim
end
end AM
/-! AMh2: targets -/
namespace AM
open PySem PySem.Spec PyProof.Rows L2

section
variable {X : Cx} {G : Gh} {d : DC} {W : WX}
/-! ### targets -/
/-- the slots but those of a target stay -/
def Off (sl : List Nat) (σ σ' : L2.St) : Prop := σ'.length = σ.length ∧ ∀ i, i ∉ sl → σ'[i]? = σ[i]?
def RG (G : Gh) (sl : List Nat) (f : AV → AM.Env → Option AM.Env) : TG := fun v σ H Q => ∃ ι ρ a ρ', RS G ι H ρ σ ∧ RV G ι H a v ∧ f a ρ = some ρ' ∧ ∀ σ', Off sl σ σ' → RS G ι H ρ' σ' → Q σ' H
def RGs (G : Gh) (sl : List Nat) (f : List AV → AM.Env → Option AM.Env) : TGs := fun v σ H Q => ∃ ι ρ a ρ', RS G ι H ρ σ ∧ RVs G ι H a v ∧ f a ρ = some ρ' ∧ ∀ σ', Off sl σ σ' → RS G ι H ρ' σ' → Q σ' H
theorem PG_imp {e : Expr} {t t' : TG} (h : PG X e t) (i : ∀ v σ H Q, t' v σ H Q → t v σ H Q) : PG X e t' := ⟨fun pins s σ H v u Q I r q => h.run pins s σ H v u Q I r (i v σ H Q q)⟩
theorem PGs_imp {e : List Expr} {t t' : TGs} (h : PGs X e t) (i : ∀ v σ H Q, t' v σ H Q → t v σ H Q) : PGs X e t' := ⟨fun pins s σ H v u Q I r q => h.run pins s σ H v u Q I r (i v σ H Q q)⟩
theorem RS.set {ι : List Addr} {H : Hp} {ρ : AM.Env} {σ : L2.St} {i : Nat} {a : AV} {v : V} (r : RS G ι H ρ σ) (q : RV G ι H a v) : RS G ι H (ρ.set i (some a)) (σ.set i (some v)) := by
  refine ⟨by simp [r.1], fun j w e => ?_⟩
  by_cases hj : j = i
  · subst hj
    by_cases hl : j < ρ.length
    · rw [List.getElem?_set_self hl] at e
      cases e
      exact ⟨v, List.getElem?_set_self (by rw [← r.1]; exact hl), q⟩
    · rw [List.getElem?_eq_none (by simpa using hl)] at e
      cases e
  · rw [List.getElem?_set_ne (Ne.symm hj)] at e
    rw [List.getElem?_set_ne (Ne.symm hj)]
    exact r.2 j w e
theorem pg_dead {e : Expr} {sl : List Nat} {f : AV → AM.Env → Option AM.Env} (h : ∀ a ρ, f a ρ = none) : PG X e (RG G sl f) := ⟨fun pins s σ H v u Q I r ⟨ι, ρ, a, ρ', _, _, e, _⟩ => by
  rw [h] at e
  cases e⟩
theorem asE_plain {e : Expr} {es : List Expr} {env : PySem.Env} (h : isStar e = false) : (assignEach (e :: es) env).map (·.2) = assign e env :: (assignEach es env).map (·.2) ∧ (assignEach (e :: es) env).map (·.1) = false :: (assignEach es env).map (·.1) := by
  cases e <;> first | exact ⟨rfl, rfl⟩ | cases h
theorem asE_len {env : PySem.Env} : ∀ es : List Expr, (assignEach es env).length = es.length
  | [] => rfl
  | e :: es => by cases e <;> simp [assignEach, asE_len es]
theorem asE_none {env : PySem.Env} : ∀ {es : List Expr}, (∀ e ∈ es, isStar e = false) → (assignEach es env).findIdx? (·.1) = none
  | [], _ => rfl
  | e :: es, h => by
    have ih := asE_none (env := env) fun x hx => h x (List.mem_cons_of_mem e hx)
    have he := h e (List.mem_cons_self ..)
    have e1 : assignEach (e :: es) env = (false, assign e env) :: assignEach es env := by cases e <;> first | rfl | cases he
    rw [e1, List.findIdx?_cons]
    simp [ih]
theorem bindTs_len {f : Expr → AV → AM.Env → Option AM.Env} : ∀ {es : List Expr} {vs : List AV} {ρ ρ' : AM.Env}, bindTs f es vs ρ = some ρ' → vs.length = es.length ∧ ∀ e ∈ es, isStar e = false
  | [], [], _, _, _ => ⟨rfl, fun _ z => absurd z (by simp)⟩
  | [], _ :: _, _, _, e => by cases e
  | _ :: _, [], _, _, e => by cases e
  | a :: es, v :: vs, ρ, ρ', e => by
    unfold bindTs at e
    by_cases c : isStar a = true
    · rw [if_pos c] at e
      cases e
    · rw [if_neg c] at e
      obtain ⟨ρ1, e1, e2⟩ := Option.bind_eq_some_iff.mp e
      obtain ⟨h1, h2⟩ := bindTs_len e2
      exact ⟨by simp [h1], fun x hx => (List.mem_cons.mp hx).elim (fun z => by rw [z]; simpa using c) (h2 x)⟩
theorem rg_all {f : Expr → AV → AM.Env → Option AM.Env} {sf : Expr → List Nat} : ∀ es : List Expr, (∀ e ∈ es, isStar e = false) → (∀ e ∈ es, PG X e (RG G (sf e) (f e))) → PGs X es (RGs G (tslotsL sf es) (bindTs f es))
  | [], _, _ => PGs_imp pgs_nil fun v σ H Q ⟨ι, ρ, a, ρ', rs, rv, e, k⟩ => by
      cases a with
      | nil =>
        cases rv
        cases (show some ρ = some ρ' from e)
        exact ⟨rfl, k σ ⟨rfl, fun _ _ => rfl⟩ rs⟩
      | cons _ _ => cases e
  | t :: es, hs, hf => by
    have he := hf t (List.mem_cons_self ..)
    have ht := rg_all es (fun x hx => hs x (List.mem_cons_of_mem _ hx)) fun x hx => hf x (List.mem_cons_of_mem _ hx)
    refine PGs_imp (pgs_cons he ht (asE_plain (hs t (List.mem_cons_self ..))).1) fun v σ H Q ⟨ι, ρ, a, ρ', rs, rv, e, k⟩ => ?_
    cases a with
    | nil => cases e
    | cons x xs =>
      cases rv with
      | @cons _ v1 _ vr r1 r2 =>
        unfold bindTs at e
        rw [if_neg (by rw [hs t (List.mem_cons_self ..)]; exact Bool.false_ne_true)] at e
        obtain ⟨ρ1, e1, e2⟩ := Option.bind_eq_some_iff.mp e
        refine ⟨v1, vr, rfl, ι, ρ, x, ρ1, rs, r1, e1, fun σ1 o1 rs1 => ⟨ι, ρ1, xs, ρ', rs1, r2, e2, fun σ2 o2 rs2 => k σ2 ⟨o2.1.trans o1.1, fun i hi => ?_⟩ rs2⟩⟩
        unfold tslotsL at hi
        rw [List.mem_append, not_or] at hi
        exact (o2.2 i hi.2).trans (o1.2 i hi.1)
theorem rg_bind (ok : XOk X G d) : ∀ (n : Nat) (e : Expr), PG X e (RG G (tslots d n e) (bindT d n e))
  | 0, _ => pg_dead fun _ _ => rfl
  | n + 1, e => by
    cases e with
    | Name x pos =>
      by_cases c : locB d.sc x = true
      · cases q : idxOf x d.N with
        | none =>
          exact pg_dead fun a ρ => by
            show (if locB d.sc x then (idxOf x d.N).map _ else none) = none
            rw [if_pos c, q]
            rfl
        | some i =>
          obtain ⟨hl, hf⟩ := ok.loc x c
          refine PG_imp (pg_name (i := i) (by rw [ok.N]; exact ok.nd) (by rw [ok.N]; exact idxOf_ok q) hl hf) fun v σ H Q ⟨ι, ρ, a, ρ', rs, rv, e, k⟩ => ?_
          have e : (if locB d.sc x then (idxOf x d.N).map (fun i => ρ.set i (some a)) else none) = some ρ' := e
          rw [if_pos c, q] at e
          have e : some (ρ.set i (some a)) = some ρ' := e
          cases e
          refine k _ ⟨by simp, fun j hj => ?_⟩ (rs.set rv)
          have hj : j ∉ (idxOf x d.N).toList := hj
          rw [q] at hj
          have hj : j ≠ i := by simpa using hj
          rw [List.getElem?_set_ne (Ne.symm hj)]
      · exact pg_dead fun a ρ => by
          show (if locB d.sc x then (idxOf x d.N).map _ else none) = none
          rw [if_neg c]
    | Tuple es k pos =>
      by_cases c : ∀ e ∈ es, isStar e = false
      · have hs := rg_all (X := X) (G := G) (f := bindT d n) (sf := tslots d n) es c fun e _ => rg_bind ok n e
        refine PG_imp (pg_tup (n := es.length) ok.calm hs (asE_len es) (asE_none c)) fun v σ H Q ⟨ι, ρ, a, ρ', rs, rv, e, kk⟩ => ?_
        cases a with
        | tup xs =>
          have e : bindTs (bindT d n) es xs ρ = some ρ' := e
          cases rv with
          | @tup _ p vs t q =>
            obtain ⟨hl, _⟩ := bindTs_len e
            exact ⟨p, vs, rfl, by rw [ok.K]; exact t.sq, by rw [← q.length]; exact hl, ι, ρ, xs, ρ', rs, q, e, kk⟩
        | _ => exact absurd (show none = some ρ' from e) (by simp)
      · exact pg_dead fun a ρ => by
          cases a with
          | tup xs =>
            show bindTs (bindT d n) es xs ρ = none
            cases q : bindTs (bindT d n) es xs ρ with
            | none => rfl
            | some ρ' => exact absurd (bindTs_len q).2 c
          | _ => rfl
    | _ => exact pg_dead fun _ _ => rfl

end
end AM
/-! AMh3: walks -/
namespace AM
open PySem PySem.Spec PyProof.Rows L2

section
variable {X : Cx} {G : Gh} {d : DC} {W : WX}
/-! ### walks -/
structure WalkOk (G : Gh) (ι : List Addr) (H : Hp) (items : List AV) (J : It) : Prop where
  goes : ∀ (i : Nat) ι1 H1, Ext ι H ι1 H1 → i < items.length → J.go i H1
  stops : ∀ ι1 H1, Ext ι H ι1 H1 → J.stop items.length H1
  yields : ∀ l, (∀ b ∈ l, b ∈ G.hid ∨ H b = none) → ∀ (i : Nat) ι1 H1 h1 a x H2, Ext ι H ι1 H1 → RH (G.hide l) ι1 H1 h1 → items[i]? = some a → J.yld i H1 x H2 → Ext ι1 H1 ι1 H2 ∧ RH (G.hide l) ι1 H2 h1 ∧ RV (G.hide l) ι1 H2 a x
theorem Mv.hideL {G : Gh} {ι : List Addr} {H : Hp} {l : List Addr} (hl : ∀ b ∈ l, b ∈ G.hid ∨ H b = none) : Mv G ι H (G.hide l) ι H := ⟨rfl, rfl, fun _ _ e => e, fun a o h e => ⟨e, h.1, fun z => by
  rcases hl a z with q | q
  · exact h.2 q
  · rw [q] at e
    cases e⟩⟩
def RI (G : Gh) (W : WX) (m : AM.Env → AH → Res (List AV)) : TI := fun σ H R => ∃ ι ρ h, RH G ι H h ∧ RS G ι H ρ σ ∧ Post G (WalkOk G) W σ ι H R (m ρ h)
theorem PI_imp {tg it : Expr} {t t' : TI} (h : PI X tg it t) (i : ∀ σ H R, t' σ H R → t σ H R) : PI X tg it t' := ⟨fun pins s σ H R I q => h.run pins s σ H R I (i σ H R q)⟩
theorem pi_dead {tg it : Expr} {m : AM.Env → AH → Res (List AV)} (h : ∀ ρ h, m ρ h = .stk) : PI X tg it (RI G W m) := ⟨fun pins s σ H R I ⟨ι, ρ, hh, _, _, p⟩ => by
  rw [h] at p
  exact p.elim⟩
theorem PI.or {tg e : Expr} {te : TE} {a b : TE → TI} (h1 : PI X tg e (a te)) (h2 : PI X tg e (b te)) : True := trivial
theorem walk_seqL {ι : List Addr} {H : Hp} {a : Addr} {xs : List AV} {vs : List V} (t : ∀ ι1 H1, Ext ι H ι1 H1 → SqL G.K H1 a vs) (q : RVs G ι H xs vs) : WalkOk G ι H xs (Itl G.K a) where
  goes := fun i ι1 H1 x hi => walk_list.goes i H1 (by rw [← q.length]; exact hi) (t ι1 H1 x)
  stops := fun ι1 H1 x => by rw [q.length]; exact walk_list.stops H1 (t ι1 H1 x)
  yields := fun l hl i ι1 H1 h1 a' x H2 xx rh e y => by
    obtain ⟨v, e2, rv⟩ := q.get e
    obtain ⟨e3, e4⟩ := walk_list.yields i H1 x H2 (List.getElem?_eq_some_iff.mp e2).1 (t ι1 H1 xx) y
    subst e3
    rw [e4] at e2
    cases e2
    exact ⟨Ext.refl, rh, (rv.move (Mv.hideL hl)).mono xx⟩
theorem walk_seqT {ι : List Addr} {H : Hp} {a : Addr} {xs : List AV} {vs : List V} (t : RT G ι H a vs) (q : RVs G ι H xs vs) : WalkOk G ι H xs (Itt G.K a) where
  goes := fun i ι1 H1 x hi => walk_tup.goes i H1 (by rw [← q.length]; exact hi) (t.mono x).sq
  stops := fun ι1 H1 x => by rw [q.length]; exact walk_tup.stops H1 (t.mono x).sq
  yields := fun l hl i ι1 H1 h1 a' x H2 xx rh e y => by
    obtain ⟨v, e2, rv⟩ := q.get e
    obtain ⟨e3, e4⟩ := walk_tup.yields i H1 x H2 (List.getElem?_eq_some_iff.mp e2).1 (t.mono xx).sq y
    subst e3
    rw [e4] at e2
    cases e2
    exact ⟨Ext.refl, rh, (rv.move (Mv.hideL hl)).mono xx⟩
theorem walk_text {ι : List Addr} {H : Hp} {z : Str} : WalkOk G ι H (signs z) (Its z) where
  goes := fun i ι1 H1 x hi => by show i < z.cps.size; simpa [signs] using hi
  stops := fun ι1 H1 x => by show z.cps.size ≤ _; simp [signs]
  yields := fun l hl i ι1 H1 h1 a x H2 xx rh e y => by
    obtain ⟨e3, c, e4, e5⟩ := y
    subst e3 e5
    unfold signs at e
    rw [List.getElem?_map, Array.getElem?_toList, e4] at e
    cases e
    exact ⟨Ext.refl, rh, .str _⟩
theorem walk_rng {ι : List Addr} {H : Hp} {lo : Int} {n : Nat} : WalkOk G ι H (ranges lo n) (Itr lo n) where
  goes := fun i ι1 H1 x hi => by show i < n; simpa [ranges] using hi
  stops := fun ι1 H1 x => by show n ≤ _; simp [ranges]
  yields := fun l hl i ι1 H1 h1 a x H2 xx rh e y => by
    obtain ⟨e3, e4⟩ := y
    subst e3 e4
    unfold ranges at e
    rw [List.getElem?_map] at e
    obtain ⟨j, e1, rfl⟩ := Option.map_eq_some_iff.mp e
    obtain ⟨hj, e2⟩ := List.getElem?_eq_some_iff.mp e1
    simp at e2
    subst e2
    exact ⟨Ext.refl, rh, .int _⟩
theorem walk_rngC {ι : List Addr} {H : Hp} {lo c : Int} {n : Nat} : WalkOk G ι H (rangesC lo c n) (Itc lo c n) where
  goes := fun i ι1 H1 x hi => by show i < n; simpa [rangesC] using hi
  stops := fun ι1 H1 x => by show n ≤ _; simp [rangesC]
  yields := fun l hl i ι1 H1 h1 a x H2 xx rh e y => by
    obtain ⟨e3, e4⟩ := y
    subst e3 e4
    unfold rangesC at e
    rw [List.getElem?_map] at e
    obtain ⟨j, e1, rfl⟩ := Option.map_eq_some_iff.mp e
    obtain ⟨hj, e2⟩ := List.getElem?_eq_some_iff.mp e1
    simp at e2
    subst e2
    exact ⟨Ext.refl, rh, .int _⟩
theorem enumI_get : ∀ {xs : List AV} {k i : Nat} {a : AV}, (enumI k xs)[i]? = some a → ∃ x, xs[i]? = some x ∧ a = .tup [.int ((k + i : Nat) : Int), x]
  | [], _, _, _, e => by simp [enumI] at e
  | x :: xs, k, 0, a, e => by
    simp [enumI] at e
    exact ⟨x, rfl, by rw [← e]; rfl⟩
  | x :: xs, k, i + 1, a, e => by
    simp [enumI] at e
    obtain ⟨y, e1, e2⟩ := enumI_get e
    exact ⟨y, by simpa using e1, by rw [e2]; congr 4; omega⟩
theorem enumI_len : ∀ {xs : List AV} {k : Nat}, (enumI k xs).length = xs.length
  | [], _ => rfl
  | x :: xs, k => by simp [enumI, enumI_len (xs := xs)]
theorem walk_en {ι : List Addr} {H : Hp} {a : Addr} {xs : List AV} {vs : List V} (t : ∀ ι1 H1, Ext ι H ι1 H1 → SqL G.K H1 a vs) (q : RVs G ι H xs vs) : WalkOk G ι H (enumI 0 xs) (Ite G.K a) where
  goes := fun i ι1 H1 x hi => walk_enum.goes i H1 (by rw [← q.length]; rw [enumI_len] at hi; exact hi) (t ι1 H1 x)
  stops := fun ι1 H1 x => by rw [enumI_len, q.length]; exact walk_enum.stops H1 (t ι1 H1 x)
  yields := fun l hl i ι1 H1 h1 a' x H2 xx rh e y => by
    obtain ⟨z, e1, rfl⟩ := enumI_get e
    obtain ⟨v, e2, rv⟩ := q.get e1
    obtain ⟨T, x1, x2, h3, h4, h5, h6, h7⟩ := walk_enum.yields i H1 x H2 (List.getElem?_eq_some_iff.mp e2).1 (t ι1 H1 xx) y
    subst h3 h5
    cases h6
    have h7 : vs[i]? = some x2 := h7
    rw [h7] at e2
    cases e2
    refine ⟨Ext.fresh h4, rh.fresh h4, .tup (RT.new rh h4) (.cons ?_ (.cons (((rv.move (Mv.hideL hl)).mono xx).mono (Ext.fresh h4)) .nil))⟩
    rw [Nat.zero_add]
    exact .int _
theorem RL.keep {ι : List Addr} {H : Hp} {a : Addr} {vs : List V} (t : RL G ι H a vs) : ∀ ι1 H1, Ext ι H ι1 H1 → SqL G.K H1 a vs := fun _ _ x => (t.mono x).sq
theorem RE_.keep {ι : List Addr} {H : Hp} {a : Addr} {vs : List V} (t : RE_ G ι H a vs) : ∀ ι1 H1, Ext ι H ι1 H1 → SqL G.K H1 a vs := fun _ _ x => (t.mono x).sq
/-- a value that is walked -/
theorem pi_items (ok : XOk X G d) {tg it : Expr} {m : ME} (he : PE X it (RE G W m)) : PI X tg it (RI G W fun ρ h => (m ρ h).bind itemsR) := by
  refine ⟨fun pins s σ H R I ⟨ι, ρ, h, rh, rs, p⟩ => ?_⟩
  -- which kind of value comes is known by the machine's run
  cases q : m ρ h with
  | stk =>
    have p : Post G (WalkOk G) W σ ι H R ((m ρ h).bind itemsR) := p
    rw [q] at p
    exact p.elim
  | exc c fs h' =>
    have p : Post G (WalkOk G) W σ ι H R ((m ρ h).bind itemsR) := p
    rw [q] at p
    exact (pi_list he).run pins s σ H R I ⟨ι, ρ, h, rh, rs, by rw [q]; exact p⟩
  | ok v h' =>
    have p : Post G (WalkOk G) W σ ι H R ((m ρ h).bind itemsR) := p
    rw [q] at p
    have p : Post G (WalkOk G) W σ ι H R (itemsR v h') := p
    unfold itemsR at p
    cases e : itemsOf v with
    | none => rw [e] at p; exact p.elim
    | some xs =>
      rw [e] at p
      cases v with
      | lst ys =>
        cases e
        refine (pi_list he).run pins s σ H R I ⟨ι, ρ, h, rh, rs, by
          rw [q]
          intro ι1 H1 u x1 rh1 r1
          cases r1 with
          | lst t q => exact ⟨_, rfl, ⟨_, by rw [ok.K]; exact t.sq⟩, by rw [ok.K]; exact p ι1 H1 _ x1 rh1 (walk_seqL t.keep q)⟩⟩
      | ext ys =>
        cases e
        refine (pi_list he).run pins s σ H R I ⟨ι, ρ, h, rh, rs, by
          rw [q]
          intro ι1 H1 u x1 rh1 r1
          cases r1 with
          | ext t q => exact ⟨_, rfl, ⟨_, by rw [ok.K]; exact t.sq⟩, by rw [ok.K]; exact p ι1 H1 _ x1 rh1 (walk_seqL t.keep q)⟩⟩
      | tup ys =>
        cases e
        refine (pi_tup he).run pins s σ H R I ⟨ι, ρ, h, rh, rs, by
          rw [q]
          intro ι1 H1 u x1 rh1 r1
          cases r1 with
          | tup t q => exact ⟨_, rfl, ⟨_, by rw [ok.K]; exact t.sq⟩, by rw [ok.K]; exact p ι1 H1 _ x1 rh1 (walk_seqT t q)⟩⟩
      | str z =>
        cases e
        refine (pi_str he).run pins s σ H R I ⟨ι, ρ, h, rh, rs, by
          rw [q]
          intro ι1 H1 u x1 rh1 r1
          rw [inv_str r1]
          exact ⟨_, rfl, p ι1 H1 _ x1 rh1 walk_text⟩⟩
      | _ => cases e
end
end AM
/-! AMy: own classes: making, attributes. -/
namespace AM
open PySem PySem.Spec PyProof.Rows L2

section
variable {X : Cx} {G : Gh} {d : DC} {W : WX} {f : Str}
/-- C(e, ..) where what is raised is wished for at the caller's slots -/
theorem make_at {k : Nat} {C fI : Addr} {fd : FuncData} {ps : List Str} {sp : Sp} {E : XK} {pins : List (Addr × Obj)} {σ : L2.St} {H : Hp} {s : Shared} {Q : VK} {us : List Value} {vs : List V} (M : Mk X.K C fI)
    (FF : FnOk X.prog X.w X.K X.mg X.base (L2.CX X.prog X.w) k fI fd ps sp) (hr : Room (k + 1) X.A) (hb : Binds X.K fd ps []) (hx : PassesAt (L2.CX X.prog X.w) X σ E) (I : Inv X pins σ H s) (r : Vals vs us)
    (hsp : ∀ a dx, H a = none → H dx = none → dx ≠ a → sp (.ref a :: vs) (upd (upd H dx (.own a)) a (.ins C dx [])) (fun v H2 => v = .non ∧ Q (.ref a) H2) E) : wpAny (model X.prog X.w) X.A (call (.ref C) us) (EP X pins σ Q) X.xe s := by
  have hq := hsp (s.heap.objs.size + 1) s.heap.objs.size (I.hok.fresh (Nat.le_succ _)) (I.hok.fresh (Nat.le_refl _)) (Nat.ne_of_lt (Nat.lt_succ_self _))
  have J := Inv.made (C := C) I
  have rr : Vals (V.ref (s.heap.objs.size + 1) :: vs) (Value.ref (s.heap.objs.size + 1) :: us) := .cons rfl r
  have hl : (Value.ref (s.heap.objs.size + 1) :: us).length = ps.length := by rw [← rr.length]; exact FF.len _ _ _ _ hq
  have b := hb _ (Value.ref (s.heap.objs.size + 1) :: us) J.kIn (by rw [List.append_nil]; exact hl)
  rw [List.append_nil] at b
  refine wpAny_call (make_map (f := fI) I.kIn M.makes M.init (beq_iff_eq.mp M.fn) (codeAny_mono (FF.run _ X.stack _ _ ⟨Value.ref (s.heap.objs.size + 1) :: us, []⟩ _ _ _ E (hr.make C us []) (J.env0.make C us []) b rr hq) fun r s' q => ?_))
  cases r with
  | error e => exact hx pins _ _ e s' J q
  | ok fl =>
    cases fl with
    | ret u =>
      obtain ⟨v, H', J2, rv, ev, q3⟩ := J.after q
      subst ev
      exact ⟨rv, ⟨V.ref (s.heap.objs.size + 1), H', J2, rfl, q3⟩⟩
    | next => exact False.elim q
    | brk => exact False.elim q
    | cont => exact False.elim q
theorem mk_post {C : Addr} {x : Str} {n : Nat} {Fi : OpN} {σ : L2.St} {ι : List Addr} {H : Hp} {h : AH} {avs : List AV} {vs : List V} {Q : VK} (hga : G.ga x = some C) (hn : avs.length = n) (rh : RH G ι H h) (rv : RVs G ι H avs vs)
    (p : Post G (RV G) W σ ι H Q (mkF x Fi avs h)) : ∀ a dx, H a = none → H dx = none → dx ≠ a → spA G (n + 1) Fi (.ref a :: vs) (upd (upd H dx (.own a)) a (.ins C dx [])) (fun v H2 => v = .non ∧ Q (.ref a) H2) (WE W σ) := by
  intro a dx na nd ne
  have na2 : upd H dx (.own a) a = none := by rw [upd_ne (Ne.symm ne)]; exact na
  have r1 : RH G ι (upd H dx (.own a)) h := rh.fresh nd
  have x2 : Ext ι (upd H dx (.own a)) (ι ++ [a]) (upd (upd H dx (.own a)) a (.ins C dx [])) := Ext.alloc r1 na2
  have x1 : Ext ι H (ι ++ [a]) (upd (upd H dx (.own a)) a (.ins C dx [])) := (Ext.fresh nd).trans x2
  have r2 : RH G (ι ++ [a]) (upd (upd H dx (.own a)) a (.ins C dx [])) (h ++ [.ins x []]) := r1.alloc na2 ⟨C, dx, [], rfl, hga, .nil⟩
  have ix : (ι ++ [a])[h.length]? = some a := by rw [← rh.len]; simp
  refine ⟨G.hid, ι ++ [a], (h ++ [AO.ins x []] : AH), AV.ref h.length :: avs, r2, .cons (.ref ix) (rv.mono x1), by simp [hn], ?_⟩
  have p2 : Post G (RV G) W σ (ι ++ [a]) (upd (upd H dx (.own a)) a (.ins C dx [])) Q ((Fi (.ref h.length :: avs) (h ++ [.ins x []])).bind fun v h1 => match v with
    | .non => .ok (.ref h.length) h1
    | _ => .stk) := Post.ext x1 p
  refine Post.slots (σ := σ) (W := W) (Post.bind p2 fun ι3 H3 v u h3 x3 rh3 rv3 p3 => ?_) fun _ _ _ z => z
  split at p3
  · cases rv3
    exact ⟨rfl, p3.now rh3 (.ref (x3.ix ix))⟩
  · exact p3.elim
theorem re_make (ok : XOk X G d) (tk : Takes X W) {f : Expr → ME} {x : Str} {n : Nat} {Fx : OpN} {p pos : Pos} {args : List Expr} (M : MkAt X G x n Fx) (hd : ¬ dun x = true) (hg : glB d.sc x = true) (hl : args.length = n) (hf : ∀ a ∈ args, PE X a (RE G W (f a))) :
    PE X (.Call (.Name x p) args [] pos) (RE G W (callM Fx (argsM f args))) := by
  obtain ⟨n1, n2, n3⟩ := dun_no hd
  obtain ⟨C, fI, fd, ps, k, Fi, hm, hga, MM, FF, hr, hb, rfl⟩ := M.ex
  unfold argsM
  by_cases c : plainAll args = true
  · rw [if_pos c]
    have pl := plainAll_ok c
    have ha := ra_evs args hf
    refine ⟨fun pins s σ H Q I ⟨ι, ρ, h, rh, rs, p0⟩ => wpAny_Call_Name_kw (ld_glob I (ok.gl x hg) hm ?_ n1)⟩
    cases args with
    | nil => exact PySem.W.callWith_K0 I.kIn MM.kp (make_at (us := []) MM FF hr hb (passAt tk σ) I .nil (mk_post hga hl rh .nil p0))
    | cons e es =>
      have he := starEach_plain (es := es) (env := X.env) (pl e (List.mem_cons_self ..))
      have hpl : (backTo pos (starEach es X.env)).any (·.1) = false := backTo_any fun y hy => pl y (List.mem_cons_of_mem _ hy)
      have q0 : Post G (RVs G) W σ ι H (fun vs H1 => ∀ a dx, H1 a = none → H1 dx = none → dx ≠ a → spA G (n + 1) Fi (.ref a :: vs) (upd (upd H1 dx (.own a)) a (.ins C dx [])) (fun v H2 => v = .non ∧ Q (.ref a) H2) (WE W σ)) (evsM f (e :: es) ρ h) :=
        Post.bindE (show Post G (RV G) W σ ι H Q ((evsM f (e :: es) ρ h).bind fun vs h1 => mkF x Fi vs h1) from p0) fun ι1 H1 vs us h1 e1 x1 rh1 r1 p1 => mk_post hga ((evs_len e1).trans hl) rh1 r1 p1
      refine PySem.W.callWith_K (h₀ := X.base) I.ok.mod.kin MM.kp (thn (ha.run pos pins s σ H _ I ⟨ι, ρ, h, rh, rs, q0⟩) fun us s1 ⟨vs, H1, I1, r, q⟩ => ⟨I1.kIn, ?_⟩) he hpl
      exact make_at MM FF hr hb (passAt tk σ) I1 r q
  · rw [if_neg c]
    exact PE_stk fun _ _ => rfl
theorem RFs.look {ι : List Addr} {H : Hp} : ∀ {fs : List (Str × AV)} {gs : List (Str × V)} {f : Str} {w : AV}, RFs G ι H fs gs → fs.lookup f = some w → ∃ v, gs.lookup f = some v ∧ RV G ι H w v
  | _, _, _, _, .nil, e => by simp at e
  | _, _, f, w, @RFs.cons _ _ _ g x v xs vs r t, e => by
    by_cases h : f == g
    · simp only [List.lookup_cons, h] at e ⊢
      cases e
      exact ⟨v, rfl, r⟩
    · have h : (f == g) = false := by simpa using h
      simp only [List.lookup_cons, h] at e ⊢
      exact RFs.look t e
theorem RFs.length {ι : List Addr} {H : Hp} : ∀ {fs : List (Str × AV)} {gs : List (Str × V)}, RFs G ι H fs gs → fs.length = gs.length
  | _, _, .nil => rfl
  | _, _, .cons _ t => by simp [RFs.length t]
theorem RFs.put {ι : List Addr} {H : Hp} {f : Str} {w : AV} {v : V} (q : RV G ι H w v) : ∀ {fs : List (Str × AV)} {gs : List (Str × V)}, RFs G ι H fs gs → RFs G ι H (putA f w fs) (putF f v gs)
  | _, _, .nil => .cons q .nil
  | _, _, @RFs.cons _ _ _ g x v' xs vs r t => by
    unfold putA putF
    by_cases h : g = f
    · rw [if_pos h, if_pos h]
      exact .cons q t
    · rw [if_neg h, if_neg h]
      exact .cons r (RFs.put q t)
theorem insAt {ι : List Addr} {H : Hp} {h : AH} {n : Nat} {u : V} {c : Str} {fs : List (Str × AV)} (rh : RH G ι H h) (r : RV G ι H (.ref n) u) (e : h[n]? = some (.ins c fs)) : ∃ a C dx gs, u = .ref a ∧ ι[n]? = some a ∧ H a = some (.ins C dx gs) ∧ G.ga c = some C ∧ RFs G ι H fs gs := by
  cases r with
  | ref i =>
    obtain ⟨u, e2, C, dx, gs, rfl, g, q⟩ := rh.at_ n _ _ e i
    exact ⟨_, C, dx, gs, rfl, i, e2, g, q⟩
theorem re_fld (fk : ∀ c C, d.fld c f = true → G.ga c = some C → Cls X.K C ∧ NoAttr X.K C f) (fx : ∀ c C, d.xf c f = true → G.ga c = some C → XvS.XvC X.K C ∧ PySem.W.findIn X.K (.ref C) f = some none) (eK : X.K = G.K) {o : Expr} {m : ME} {pos : Pos} (hp : plainO o = true) (ho : PE X o (RE G W m)) : PE X (.Attribute o f pos) (RE G W (fldM d f m)) :=
  PE_imp (XvS.pe_any ho (base_plain hp)) fun σ H Q ⟨ι, ρ, h, rh, rs, p⟩ => ⟨ι, ρ, h, rh, rs, Post.bind p fun ι1 H1 v u h1 x1 rh1 r1 p1 => by
    split at p1
    · split at p1
      · rename_i c fs q
        obtain ⟨cf, p2⟩ := ifP (α := AV) p1
        obtain ⟨a, C, dx, gs, rfl, i, e2, g, rf⟩ := insAt rh1 r1 q
        obtain ⟨k1, k2⟩ := fk c C cf g
        split at p2
        · rename_i w q2
          obtain ⟨v2, e3, rv⟩ := rf.look q2
          exact .inl ⟨a, C, dx, gs, v2, rfl, e2, k1, k2, e3, p2.now rh1 rv⟩
        · exact p2.elim
      · exact p1.elim
    · rename_i c fs
      obtain ⟨cf, p2⟩ := ifP (α := AV) p1
      split at p2
      · rename_i w q2
        cases r1 with
        | @xo _ _ a C dd vs eg ef ed rf =>
          obtain ⟨k1, k2⟩ := fx c C cf eg
          obtain ⟨v2, e3, rv⟩ := rf.look q2
          exact .inr ⟨a, C, dd, vs, v2, rfl, ef.2, ed.xd, k1, k2, e3, p2.now rh1 rv⟩
      · exact p2.elim
    · exact p1.elim⟩
end
end AM
/-! AMh4: classes called with keywords, own methods, methods of lists. -/
namespace AM
open PySem PySem.Spec PyProof.Rows L2

section
variable {X : Cx} {G : Gh} {d : DC} {W : WX}
/-! ### list.count -/
def rCountL (K : PySem.W.Frag) : V → List V → Hp → VK → Prop := fun x xs H Q => ∃ (a : Addr) (ys : List V) (y : V), x = V.ref a ∧ xs = [y] ∧ SqL K H a ys ∧ flatV y = true ∧ ys.all flatV = true ∧ Q (.int ((ys.countP fun z => eqV z y) : Nat)) H
theorem countP_eqU {y : V} : ∀ {xs : List V} {us : List Value}, Vals xs us → xs.all flatV = true → us.countP (eqU y) = xs.countP fun z => eqV z y
  | _, _, .nil, _ => rfl
  | z :: xs, u :: us, .cons r t, f => by
    rw [List.all_cons, Bool.and_eq_true] at f
    rw [List.countP_cons, List.countP_cons, eqU_of r f.1, countP_eqU t f.2]
theorem mt_countL : MtR X "list.count" (rCountL X.K) := by
  intro pins s σ H x xs v us Q I rx rxs h
  obtain ⟨a, ys, y, rfl, rfl, hs, fy, fys, q⟩ := h
  cases rx
  cases rxs with
  | cons ry rt =>
    rename_i uy ut
    cases rt
    obtain ⟨its, rv, ⟨⟨cls, dd, data, sl⟩, n, ho, hc, hdn, hd⟩, hlen⟩ := I.list hs
    simp only at hc hd
    subst hc hd
    refine call_meets PySem.F.slot_list_count ⟨_, ho, rfl⟩ PySem.F.entry_list_count (PySem.F.args_list_count_2 _ _)
      (SeqAt.list_countAt a its.toArray n dd sl uy (eqU y)) ⟨ho, fun u' hu' => mem_eqAt ry fy rv fys u' (by simpa using hu'), ?_⟩
    rw [show its.toArray.toList = its from rfl, countP_eqU rv fys]
    exact ⟨.int _, H, I.tok _, ⟨_, rfl⟩, q⟩
theorem flV_ok {ι : List Addr} {H : Hp} {x : AV} {v u : V} (e : flV x = some v) (r : RV G ι H x u) : u = v ∧ flatV v = true := by
  cases r with
  | non => cases e; exact ⟨rfl, rfl⟩
  | bl b => cases e; exact ⟨rfl, rfl⟩
  | int i => cases e; exact ⟨rfl, rfl⟩
  | str z => cases e; exact ⟨rfl, rfl⟩
  | _ => cases e
theorem flVs_ok {ι : List Addr} {H : Hp} : ∀ {xs : List AV} {vs us : List V}, flVs xs = some vs → RVs G ι H xs us → us = vs ∧ vs.all flatV = true
  | _, _, _, e, .nil => by cases e; exact ⟨rfl, rfl⟩
  | _, _, _, e, .cons r t => by
    unfold flVs at e
    obtain ⟨v, e1, e⟩ := Option.bind_eq_some_iff.mp e
    obtain ⟨vs, e2, rfl⟩ := Option.map_eq_some_iff.mp e
    obtain ⟨rfl, f1⟩ := flV_ok e1 r
    obtain ⟨rfl, f2⟩ := flVs_ok e2 t
    exact ⟨rfl, by rw [List.all_cons, f1, f2]; rfl⟩
theorem idx_ok {p : V → Bool} : ∀ {xs : List V} {j : Nat}, xs.findIdx? p = some j → ∃ z, xs[j]? = some z ∧ p z = true ∧ ∀ (m : Nat) (z' : V), m < j → xs[m]? = some z' → p z' = false := by
  intro xs j h
  rw [List.findIdx?_eq_some_iff_getElem] at h
  obtain ⟨hj, h1, h2⟩ := h
  refine ⟨xs[j], List.getElem?_eq_getElem hj, h1, fun m z' hm e => ?_⟩
  obtain ⟨hm2, rfl⟩ := List.getElem?_eq_some_iff.mp e
  simpa using h2 m hm
theorem re_lmt {f : Expr → ME} {o : Expr} {m : Str} {l : Lmt} {args : List Expr} {apos pos : Pos} (eK : X.K = G.K) (hm : lmtOf m = some l) (hp : plainO o = true) (hl : (apos.endLine == pos.line) = true) (ho : PE X o (RE G W (f o))) (hf : ∀ a ∈ args, PE X a (RE G W (f a))) :
    PE X (.Call (.Attribute o m apos) args [] pos) (RE G W (lmtM f l o args)) := by
  match args, hf with
  | [], _ => exact pe_dead
  | _ :: _ :: _, _ => exact pe_dead
  | [e], hf =>
    show PE X _ (RE G W (if isStar e then fun _ _ => .stk else fun ρ h => (f o ρ h).bind fun v h1 => (match v with
      | .lst _ => (f e ρ h1).bind fun w h2 => lmtF l v w [] h2
      | _ => .stk)))
    by_cases c : isStar e = true
    · rw [if_pos c]; exact pe_dead
    rw [if_neg c]
    have hs : isStar e = false := by simpa using c
    have ha : PA X [e] (tCons (RE G W (f e)) tNil) := pa_cons (hf e (List.mem_cons_self ..)) pa_nil (starEach_plain hs)
    have hm2 : (l = .count ∧ m = "count") ∨ (l = .index ∧ m = "index") := by
      unfold lmtOf at hm
      by_cases c0 : m = "count"
      · rw [if_pos c0] at hm; cases hm; exact .inl ⟨rfl, c0⟩
      · rw [if_neg c0] at hm
        by_cases c1 : m = "index"
        · rw [if_pos c1] at hm; cases hm; exact .inr ⟨rfl, c1⟩
        · rw [if_neg c1] at hm; cases hm
    have main : ∀ {id : String} {r : V → List V → Hp → VK → Prop}, Slot "list" m id → typeOf (.builtin id) = pure (.type "method_descriptor") → MtM X id r →
        (∀ (ι : List Addr) (H : Hp) (h : AH) (xs : List AV) (w : AV) (a : Addr) (u : V) (us : List V) (σ : L2.St) (Q : VK), RH G ι H h → RL G ι H a us → RVs G ι H xs us → RV G ι H w u → Post G (RV G) W σ ι H Q (lmtF l (.lst xs) w [] h) → r (.ref a) [u] H Q) →
        PE X (.Call (.Attribute o m apos) [e] [] pos) (RE G W fun ρ h => (f o ρ h).bind fun v h1 => (match v with
          | .lst _ => (f e ρ h1).bind fun w h2 => lmtF l v w [] h2
          | _ => .stk)) := fun {id r} sl ty mt ans =>
      PE_imp (pe_bm F.plainAttrs_list sl ty (X := X) mt ho ha (base_plain hp) (by rw [starEach_plain hs]; rfl) hl (starEach_plain hs) rfl) fun σ H Q ⟨ι, ρ, h, rh, rs, p⟩ => ⟨ι, ρ, h, rh, rs, Post.bind p fun ι1 H1 v u h1 x1 rh1 r1 p1 => by
        cases v with
        | lst xs =>
          cases r1 with
          | @lst _ a vs t rr =>
            refine ⟨.inl ⟨rfl, vs, eK ▸ t.sq⟩, ι1, ρ, h1, rh1, rs.mono x1, Post.bind p1 fun ι2 H2 w u2 h2 x2 rh2 r2 p2 => ?_⟩
            exact ans ι2 H2 h2 xs w _ u2 vs σ Q rh2 (t.mono x2) (rr.mono x2) r2 p2
        | _ => exact p1.elim⟩
    rcases hm2 with ⟨rfl, rfl⟩ | ⟨rfl, rfl⟩
    · refine main F.slot_list_count F.type_list_count (eK ▸ mt_countL) fun ι H h xs w a u us σ Q rh t rr rw_ p => ?_
      have p : Post G (RV G) W σ ι H Q (match flVs xs, flV w with
        | some vs, some y => .ok (.int (vs.countP (fun z => L2.eqV z y) : Nat)) h
        | _, _ => .stk) := by
          unfold lmtF at p
          dsimp only at p
          exact p
      cases e1 : flVs xs with
      | none => rw [e1] at p; exact p.elim
      | some vs =>
        cases e2 : flV w with
        | none => rw [e1, e2] at p; exact p.elim
        | some y =>
          rw [e1, e2] at p
          obtain ⟨rfl, f1⟩ := flVs_ok e1 rr
          obtain ⟨rfl, f2⟩ := flV_ok e2 rw_
          exact ⟨_, _, _, rfl, rfl, t.sq, f2, f1, p.now rh (.int _)⟩
    · refine main F.slot_list_index F.type_list_index (eK ▸ mt_index) fun ι H h xs w a u us σ Q rh t rr rw_ p => ?_
      have p : Post G (RV G) W σ ι H Q (match flVs xs, flV w with
        | some vs, some y => (match List.findIdx? (fun z => L2.eqV z y) vs with
          | some j => .ok (.int (j : Nat)) h
          | none => .stk)
        | _, _ => .stk) := by
          unfold lmtF at p
          dsimp only at p
          exact p
      cases e1 : flVs xs with
      | none => rw [e1] at p; exact p.elim
      | some vs =>
        cases e2 : flV w with
        | none => rw [e1, e2] at p; exact p.elim
        | some y =>
          rw [e1, e2] at p
          obtain ⟨eu, f1⟩ := flVs_ok e1 rr
          obtain ⟨ey, f2⟩ := flV_ok e2 rw_
          have p : Post G (RV G) W σ ι H Q (match List.findIdx? (fun z => L2.eqV z y) vs with
            | some j => .ok (.int (j : Nat)) h
            | none => .stk) := p
          cases e3 : List.findIdx? (fun z => L2.eqV z y) vs with
          | none => rw [e3] at p; exact p.elim
          | some j =>
            rw [e3] at p
            obtain ⟨z, z1, z2, z3⟩ := idx_ok e3
            exact ⟨_, vs, y, j, z, rfl, by rw [ey], by rw [← eu]; exact t.sq, f2, f1, z1, z2, z3, p.now rh (.int _)⟩
/-! ### own methods -/
theorem call_meth {prog : Program} {w : World} {A : Around} {E : Value → Shared → Prop} {s : Shared} {env : PySem.Env} {o : Expr} {name : Str} {apos pos : Pos} {args : List Expr} {Q : Value → Shared → Prop}
    (hbase : attributeBase o name env (eval o env) = eval o env)
    (hfew : ((backTo pos (starEach args env)).all (fun x => !x.1) && (backToKw pos (keywordEach [] env)).all (fun x => x.1.isSome)
      && decide (args.length + ([] : List Keyword).length + (if ([] : List Keyword).isEmpty then 0 else 1) < 30)) = true)
    (hline : (apos.endLine == pos.line) = true)
    (h : wpAny (model prog w) A (eval o env) (fun ov s₁ => ∀ pl, wpAny (model prog w) A (getMethod ov name pl) (fun fx s₂ => wpAny (model prog w) A (callWith pos fx.1 fx.2 (backTo pos (starEach args env)) (backToKw pos (keywordEach [] env))) Q E s₂) E s₁) E s) :
    wpAny (model prog w) A (eval (.Call (.Attribute o name apos) args [] pos) env) Q E s := by
  rw [arm_eval_Call, hbase]
  refine wpAny_bind (wpAny_mono h (fun ov s₁ h₁ => ?_) fun _ _ e => e)
  refine wpAny_bind (wpAny_standAt ?_)
  have hform : methodCallForm (args.length + ([] : List Keyword).length) (backTo pos (starEach args env)) (backToKw pos (keywordEach [] env)) = true := hfew
  have hpos : methodCallPos true o env apos pos = pure pos := by unfold methodCallPos; simp [hline]
  unfold methodCall
  rw [hform]
  refine wpAny_bind (wpAny_holding (wpAny_mono (h₁ _) (fun fx s2 h2 => ?_) fun _ _ e => e))
  exact wpAny_bind (wpAny_of_eq hpos h2)
theorem lk_none {ι : List Addr} {H : Hp} {m : Str} : ∀ {fs : List (Str × AV)} {gs : List (Str × V)}, RFs G ι H fs gs → fs.lookup m = none → gs.lookup m = none
  | _, _, .nil, _ => rfl
  | _, _, @RFs.cons _ _ _ f0 x0 v0 xs0 vs0 r0 t0, e => by
    by_cases hh : m == f0
    · simp only [List.lookup_cons, hh] at e
      cases e
    · have hh : (m == f0) = false := by simpa using hh
      simp only [List.lookup_cons, hh] at e ⊢
      exact lk_none t0 e
theorem few_ok {args : List Expr} {env : PySem.Env} {pos : Pos} (h1 : ∀ y ∈ args, isStar y = false) (h2 : args.length ≤ 28) : ((backTo pos (starEach args env)).all (fun x => !x.1) && (backToKw pos (keywordEach [] env)).all (fun x => x.1.isSome)
      && decide (args.length + ([] : List Keyword).length + (if ([] : List Keyword).isEmpty then 0 else 1) < 30)) = true := by
  have e1 : (backTo pos (starEach args env)).any (·.1) = false := backTo_any h1
  rw [Bool.and_eq_true, Bool.and_eq_true]
  refine ⟨⟨?_, rfl⟩, decide_eq_true (by simp; omega)⟩
  rw [List.all_eq_true]
  intro x hx
  rw [List.any_eq_false] at e1
  simpa using e1 x hx
theorem re_mth (tk : Takes X W) {F : Str → OpN} {f : Expr → ME} {o : Expr} {m : Str} {args : List Expr} {apos pos : Pos} (fm : ∀ c kn C, d.meth c m = some kn → G.ga c = some C → MethAt X G C m kn.2 (F kn.1))
    (hp : plainO o = true) (hl : (apos.endLine == pos.line) = true) (c : plainAll args = true) (hs : args.length ≤ 28) (ho : PE X o (RE G W (f o))) (hf : ∀ a ∈ args, PE X a (RE G W (f a))) :
    PE X (.Call (.Attribute o m apos) args [] pos) (RE G W (mthM F d m (f o) args.length (evsM f args))) := by
    have pl := plainAll_ok c
    have ha := ra_evs args hf
    refine ⟨fun pins s σ H Q I ⟨ι, ρ, h, rh, rs, p0⟩ => ?_⟩
    have p0 : Post G (RV G) W σ ι H Q ((f o ρ h).bind fun v h1 => match v with
      | .ref i => (match h1[i]? with
        | some (.ins c fs) => (match d.meth c m with
          | some kn => if Nat.beq args.length kn.2 && (fs.lookup m).isNone then (evsM f args ρ h1).bind fun vs h2 => F kn.1 (v :: vs) h2 else .stk
          | none => .stk)
        | _ => .stk)
      | _ => .stk) := p0
    have key : RE G W (f o) σ H (fun x H1 => ∃ (a C dx : Addr) (fs : List (Str × V)) (g : Addr) (fd : FuncData) (ps : List Str) (k n : Nat) (Fm : OpN), x = .ref a ∧ H1 a = some (.ins C dx fs) ∧ Cls X.K C ∧ Meth X.K C m g ∧ fs.lookup m = none ∧
        FnOk X.prog X.w X.K X.mg X.base (L2.CX X.prog X.w) k g fd ps (spA G (n + 1) Fm) ∧ Room k X.A ∧ Binds X.K fd ps [] ∧ RA G W (evsM f args) σ H1 fun us H2 => spA G (n + 1) Fm (.ref a :: us) H2 Q (WE W σ)) := by
      refine ⟨ι, ρ, h, rh, rs, Post.bind p0 fun ι1 H1 v u h1 x1 rh1 r1 p1 => ?_⟩
      split at p1
      · split at p1
        · rename_i i c fs q
          obtain ⟨a, C, dx, gs, rfl, ia, e2, g, rf⟩ := insAt rh1 r1 q
          cases e3 : d.meth c m with
          | none => rw [e3] at p1; exact p1.elim
          | some kn =>
            rw [e3] at p1
            obtain ⟨c3, p1⟩ := ifP (α := AV) p1
            obtain ⟨c3, c4⟩ := Bool.and_eq_true_iff.mp c3
            obtain ⟨f', fd, ps, k, k1, k2, k3, k4, k5⟩ := (fm c kn C e3 g).ex
            have hn : gs.lookup m = none := lk_none rf (by simpa using c4)
            refine ⟨a, C, dx, gs, f', fd, ps, k, kn.2, F kn.1, rfl, e2, k1, k2, hn, k3, k4.mono (Nat.le_succ _), k5, ι1, ρ, h1, rh1, rs.mono x1, Post.bindE p1 fun ι2 H2 vs us h2 ev x2 rh2 r2 p2 => ?_⟩
            exact spA_of rh2 (.cons (r1.mono x2) r2) (by rw [List.length_cons, evs_len ev, Nat.eq_of_beq_eq_true c3]) p2
        · exact p1.elim
      · exact p1.elim
    refine call_meth (base_plain hp) (few_ok pl hs) hl (thn (ho.run pins s σ H _ I key) fun u s1 ⟨x, H1, I1, rx, a, C, dx, fs, g, fd, ps, k, n, Fm, ex, ea, hc, hm, hno, FF, hr, hb, q⟩ pl' => ?_)
    subst ex
    obtain rfl : u = Value.ref a := rx
    refine getmeth_ok I1 ea hc hm hno ?_
    cases args with
    | nil =>
      have q1 : spA G (n + 1) Fm [.ref a] H1 Q (WE W σ) := by
        obtain ⟨ι1, ρ1, h1, rh1, rs1, p⟩ := q
        exact p ι1 H1 [] Ext.refl rh1 .nil
      exact PySem.W.callWith_K0 (first := [.ref a]) I1.kIn hm.kp (run_fnS (E := WE W) (us := [.ref a]) (vs := [.ref a]) FF hr hb (passAt tk σ) I1 (.cons rfl .nil) q1)
    | cons e es =>
      have he := starEach_plain (es := es) (env := X.env) (pl e (List.mem_cons_self ..))
      have hpl : (backTo pos (starEach es X.env)).any (·.1) = false := backTo_any fun y hy => pl y (List.mem_cons_of_mem _ hy)
      refine PySem.W.callWith_K (first := [.ref a]) (h₀ := X.base) I.ok.mod.kin hm.kp (thn (ha.run pos pins s1 σ H1 _ I1 q) fun us s2 ⟨vs, H2, I2, r, q2⟩ => ⟨I2.kIn, ?_⟩) he hpl
      exact run_fnS (E := WE W) (us := .ref a :: us) (vs := .ref a :: vs) FF hr hb (passAt tk σ) I2 (.cons rfl r) q2
/-! ### C(e, .., k = v, ..) -/
theorem make_kw {k n : Nat} {C fI : Addr} {fd : FuncData} {ps ks : List Str} {sp : Sp} {E : XK} {pins : List (Addr × Obj)} {σ : L2.St} {H : Hp} {s : Shared} {Q : VK} {us ws : List Value} {vs zs : List V} {g : List Value → List Value → List Value} {gV : List V → List V → List V} (M : Mk X.K C fI)
    (FF : FnOk X.prog X.w X.K X.mg X.base (L2.CX X.prog X.w) k fI fd ps sp) (hr : Room (k + 1) X.A) (hb : KBn X.K fd ps (n + 1) ks g gV) (hx : PassesAt (L2.CX X.prog X.w) X σ E) (I : Inv X pins σ H s) (r : Vals vs us) (rz : Vals zs ws) (l1 : vs.length = n) (l2 : zs.length = ks.length)
    (hsp : ∀ a dx, H a = none → H dx = none → dx ≠ a → sp (gV (.ref a :: vs) zs) (upd (upd H dx (.own a)) a (.ins C dx [])) (fun v H2 => v = .non ∧ Q (.ref a) H2) E) : wpAny (model X.prog X.w) X.A (call (.ref C) us (ks.zip ws)) (EP X pins σ Q) X.xe s := by
  have hq := hsp (s.heap.objs.size + 1) s.heap.objs.size (I.hok.fresh (Nat.le_succ _)) (I.hok.fresh (Nat.le_refl _)) (Nat.ne_of_lt (Nat.lt_succ_self _))
  have J := Inv.made (C := C) I
  have r1 : Vals (V.ref (s.heap.objs.size + 1) :: vs) (Value.ref (s.heap.objs.size + 1) :: us) := .cons rfl r
  have r2 := hb.rel r1 rz
  have e1 : (Value.ref (s.heap.objs.size + 1) :: us).length = n + 1 := r1.length.symm.trans (congrArg Nat.succ l1)
  have e2 : ws.length = ks.length := rz.length.symm.trans l2
  refine wpAny_call (make_map (f := fI) I.kIn M.makes M.init (beq_iff_eq.mp M.fn) (codeAny_mono (FF.run _ X.stack _ _ ⟨Value.ref (s.heap.objs.size + 1) :: us, ks.zip ws⟩ (g (Value.ref (s.heap.objs.size + 1) :: us) ws) _ _ E (hr.make C us (ks.zip ws))
    (J.env0.make C us (ks.zip ws)) (hb.to _ (Value.ref (s.heap.objs.size + 1) :: us) ws J.kIn e1 e2) r2 hq) fun r s' q => ?_))
  cases r with
  | error e => exact hx pins _ _ e s' J q
  | ok fl =>
    cases fl with
    | ret u =>
      obtain ⟨v, H', J2, rv, ev, q3⟩ := J.after q
      subst ev
      exact ⟨rv, ⟨V.ref (s.heap.objs.size + 1), H', J2, rfl, q3⟩⟩
    | next => exact False.elim q
    | brk => exact False.elim q
    | cont => exact False.elim q
theorem mkw_post {C : Addr} {x : Str} {n m : Nat} {ord : List Nat} {dv : List AV} {ks : List Str} {Fi : OpN} {σ : L2.St} {ι : List Addr} {H : Hp} {h : AH} {avs azs : List AV} {vs zs : List V} {Q : VK} {gV : List V → List V → List V} (hga : G.ga x = some C)
    (hg : ∀ (l ι : List Addr) (H : Hp) (a : Addr) (avs azs : List AV) (vs zs : List V), avs.length = n → azs.length = ks.length → RVs (G.hide l) ι H avs vs → RVs (G.hide l) ι H azs zs → ∃ ws, gV (.ref a :: vs) zs = .ref a :: ws ∧ RVs (G.hide l) ι H ((avs ++ pick ord (azs ++ dv))) ws ∧ ws.length = m)
    (hn : avs.length = n) (hk : azs.length = ks.length) (rh : RH G ι H h) (rv : RVs G ι H avs vs) (rz : RVs G ι H azs zs)
    (p : Post G (RV G) W σ ι H Q (mkF x Fi ((avs ++ pick ord (azs ++ dv))) h)) : ∀ a dx, H a = none → H dx = none → dx ≠ a → spA G (m + 1) Fi (gV (.ref a :: vs) zs) (upd (upd H dx (.own a)) a (.ins C dx [])) (fun v H2 => v = .non ∧ Q (.ref a) H2) (WE W σ) := by
  intro a dx na nd ne
  obtain ⟨ws, e1, r, l1⟩ := hg G.hid ι H a avs azs vs zs hn hk rv rz
  rw [e1]
  exact mk_post hga (r.length.trans l1) rh r p a dx na nd ne
theorem re_mkw (ok : XOk X G d) (tk : Takes X W) {f : Expr → ME} {x : Str} {ord : List Nat} {dv : List AV} {Fx : OpN} {p pos : Pos} {args : List Expr} {kws : List Keyword} (M : MkwAt X G x args.length (kwNames kws) ord dv Fx) (hd : ¬ dun x = true) (hg : glB d.sc x = true) (hall : kws.all (·.arg.isSome) = true)
    (hf : ∀ a ∈ args, PE X a (RE G W (f a))) (hfk : ∀ k ∈ kws, PE X k.value (RE G W (f k.value))) :
    PE X (.Call (.Name x p) args kws pos) (RE G W (callMK Fx ord dv (argsM f args) (kwsM f kws))) := by
  obtain ⟨n1, n2, n3⟩ := dun_no hd
  obtain ⟨C, fI, fd, ps, k, m, Fi, g, gV, hm, hga, MM, FF, hr, hb, hgv, rfl⟩ := M.ex
  obtain ⟨k1, k2, k3⟩ := kwE_all (env := X.env) (pos := pos) hall
  have lk : (kwNames kws).length = kws.length := by
    unfold kwNames
    clear k1 k2 k3 hfk hb hgv M
    induction kws with
    | nil => rfl
    | cons a r ih =>
      rw [List.all_cons, Bool.and_eq_true] at hall
      obtain ⟨nm, e, kp⟩ := a
      cases nm with
      | none => exact absurd hall.1 (by simp)
      | some n => rw [List.filterMap_cons]; simp [ih hall.2]
  have pk := rk_kws (X := X) (G := G) (W := W) kws hfk
  unfold argsM
  by_cases c : plainAll args = true
  · rw [if_pos c]
    have pl := plainAll_ok c
    have ha := ra_evs args hf
    refine ⟨fun pins s σ H Q I ⟨ι, ρ, h, rh, rs, p0⟩ => wpAny_Call_Name_kw (ld_glob I (ok.gl x hg) hm ?_ n1)⟩
    cases args with
    | nil =>
      refine PySem.W.callWith_KW0 (h₀ := X.base) I.ok.mod.kin MM.kp k1 ?_ (by rw [k2]; rfl)
      have q0 : Post G (RVs G) W σ ι H (fun zs H2 => zs.length = (kwNames kws).length ∧ ∀ a dx, H2 a = none → H2 dx = none → dx ≠ a → spA G (m + 1) Fi (gV (.ref a :: []) zs) (upd (upd H2 dx (.own a)) a (.ins C dx [])) (fun v H2 => v = .non ∧ Q (.ref a) H2) (WE W σ)) (kwsM f kws ρ h) := by
        refine Post.bindE (show Post G (RV G) W σ ι H Q ((kwsM f kws ρ h).bind fun zs h2 => mkF x Fi ([] ++ pick ord (zs ++ dv)) h2) from p0) fun ι2 H2 zs us2 h2 e2 x2 rh2 r2 p2 => ?_
        have lz : zs.length = (kwNames kws).length := by rw [kws_len e2, lk]
        exact ⟨by rw [← r2.length, lz], mkw_post (avs := []) hga hgv rfl lz rh2 .nil r2 p2⟩
      refine thn (pk.run pos pins s σ H _ I ⟨ι, ρ, h, rh, rs, q0⟩) fun ws s2 ⟨zs, H2, I2, rz, l2, q2⟩ => ⟨I2.kIn, ?_⟩
      rw [k3]
      exact make_kw MM FF hr hb (passAt tk σ) I2 .nil rz rfl l2 q2
    | cons e es =>
      have he := starEach_plain (es := es) (env := X.env) (pl e (List.mem_cons_self ..))
      have hpl : (backTo pos (starEach (e :: es) X.env)).any (·.1) = false := backTo_any pl
      refine PySem.W.callWith_KW (h₀ := X.base) I.ok.mod.kin MM.kp k1 ?_ (by rw [hpl, k2]; rfl) he
      have q0 : Post G (RVs G) W σ ι H (fun vs H1 => vs.length = (e :: es).length ∧ RA G W (kwsM f kws) σ H1 fun zs H2 => zs.length = (kwNames kws).length ∧ ∀ a dx, H2 a = none → H2 dx = none → dx ≠ a → spA G (m + 1) Fi (gV (.ref a :: vs) zs) (upd (upd H2 dx (.own a)) a (.ins C dx [])) (fun v H2 => v = .non ∧ Q (.ref a) H2) (WE W σ)) (evsM f (e :: es) ρ h) := by
        refine Post.bindE (show Post G (RV G) W σ ι H Q ((evsM f (e :: es) ρ h).bind fun vs h1 => (kwsM f kws ρ h1).bind fun zs h2 => mkF x Fi (vs ++ pick ord (zs ++ dv)) h2) from p0) fun ι1 H1 vs us h1 e1 x1 rh1 r1 p1 => ?_
        refine ⟨by rw [← r1.length, evs_len e1], ι1, ρ, h1, rh1, rs.mono x1, Post.bindE p1 fun ι2 H2 zs us2 h2 e2 x2 rh2 r2 p2 => ?_⟩
        have lz : zs.length = (kwNames kws).length := by rw [kws_len e2, lk]
        exact ⟨by rw [← r2.length, lz], mkw_post hga hgv (evs_len e1) lz rh2 (r1.mono x2) r2 p2⟩
      refine thn (ha.run pos pins s σ H _ I ⟨ι, ρ, h, rh, rs, q0⟩) fun us s1 ⟨vs, H1, I1, r, l1, q⟩ => ?_
      refine thn (pk.run pos pins s1 σ H1 _ I1 q) fun ws s2 ⟨zs, H2, I2, rz, l2, q2⟩ => ⟨I2.kIn, ?_⟩
      rw [k3]
      exact make_kw MM FF hr hb (passAt tk σ) I2 r rz l1 l2 q2
  · rw [if_neg c]
    exact PE_stk fun _ _ => rfl
end
end AM
/-! AMr: enumerate over a tuple. -/
namespace AM
open PySem PySem.Spec PyProof.Rows L2

theorem enumT_new (t : Addr) (items : Array Value) (n : Nat) (dct : Option Addr) (sl : Array (Option Value)) :
    Meets (Builtin.«enumerate.__new__» ⟨[.type "enumerate", .ref t], []⟩) (fun _ R s => s.heap.get? t = some { cls := .type "tuple", dict := dct, data := .seq items n, slots := sl } ∧
      R (.ok (.ret (.ref (s.heap.push { cls := .type "tuple_iterator", data := .fields #[.ref t, .int 0 0] }).objs.size)))
        { s with heap := (s.heap.push { cls := .type "tuple_iterator", data := .fields #[.ref t, .int 0 0] }).push { cls := .type "enumerate", data := .fields #[.none, .bool false, .ref s.heap.objs.size, rawInt 0, .none, .none] } }) :=
  .of_wp fun prog w A R s hh => by
    obtain ⟨hp, g, dr, tk, os⟩ := s
    obtain ⟨ht, hh⟩ := hh
    have hsub := sub_enumerate
    have isT : Heap.IsTuple (Shared.heap ⟨hp, g, dr, tk, os⟩) t items := ⟨_, ht, rfl, n, rfl⟩
    wp_walk using AutoSeq1.wpAny_loadPart' ht
    refine wpAny_stack_any fun st => wpAny_pure ?_
    split
    · rename_i c _ _ _ _ _
      cases (c == Value.type "enumerate")
      · wp_walk using AutoSeq1.wpAny_loadPart' ht, wpAny_pyIter_tuple isT
        exact ⟨_, rfl, hh⟩
      · wp_walk using AutoSeq1.wpAny_loadPart' ht, wpAny_pyIter_tuple isT
        exact ⟨_, rfl, hh⟩
    · wp_walk using AutoSeq1.wpAny_loadPart' ht, wpAny_pyIter_tuple isT
      exact ⟨_, rfl, hh⟩
theorem enumT_call {prog : Program} {w : World} {A : Around} {E : Value → Shared → Prop} {s : Shared} {t : Addr} {items : Array Value} {Q : Value → Shared → Prop} (isT : s.heap.IsTuple t items)
    (k : ∀ h', IsEnum h' (s.heap.objs.size + 1) s.heap.objs.size 0 .none → h'.IsTupleIter s.heap.objs.size t 0 → (∀ b o, s.heap.get? b = some o → h'.get? b = some o) → Q (.ref (s.heap.objs.size + 1)) { s with heap := h' }) :
    wpAny (model prog w) A (call (.type "enumerate") [.ref t]) Q E s := by
  obtain ⟨⟨c, dct, dt, sl⟩, ht, hc, n, hd⟩ := isT
  obtain rfl : c = .type "tuple" := hc
  obtain rfl : dt = .seq items n := hd
  refine callType_new F.called_enumerate (by decide) (F.typeCall_enumerate_1 _) (F.newCall_enumerate_1 _) (fun obj => F.args_object_init_2 obj _) F.entry_enumerate_new (enumT_new t items n dct sl) ⟨ht, ?_⟩
  have z1 : (s.heap.push { cls := .type "tuple_iterator", data := .fields #[.ref t, .int 0 0] }).objs.size = s.heap.objs.size + 1 := Heap.size_push ..
  show _ ∧ _
  rw [z1]
  have z2 : IsEnum ((s.heap.push { cls := .type "tuple_iterator", data := .fields #[.ref t, .int 0 0] }).push { cls := .type "enumerate", data := .fields #[.none, .bool false, .ref s.heap.objs.size, rawInt 0, .none, .none] }) (s.heap.objs.size + 1) s.heap.objs.size 0 .none := by
    have q := Heap.get?_push_size (s.heap.push { cls := .type "tuple_iterator", data := .fields #[.ref t, .int 0 0] }) (o := { cls := .type "enumerate", data := .fields #[.none, .bool false, .ref s.heap.objs.size, rawInt 0, .none, .none] }) rfl
    rw [z1] at q
    exact q
  exact ⟨⟨_, z2, rfl⟩, k _ z2 ⟨_, Heap.get?_push_of_some _ (Heap.get?_push_size _ rfl), rfl, rfl⟩ fun b o x => Heap.get?_push_of_some _ (Heap.get?_push_of_some _ x)⟩
theorem enumT_end {prog : Program} {w : World} {A : Around} {E : Value → Shared → Prop} {s : Shared} {e it t : Addr} {i : Nat} {items : Array Value} {old : Value} {Q : Option Value → Shared → Prop} (hh : A.handled = none)
    (he : IsEnum s.heap e it i old) (hit : s.heap.IsTupleIter it t i) (isT : s.heap.IsTuple t items) (hx : items[i]? = none) (k : ∀ h', Heap.ExtBut it s.heap h' → Q none { s with heap := h' }) : wpAny (model prog w) A (pyNext (.ref e)) Q E s := by
  have ty : s.TypeIs (.ref e) "enumerate" := ⟨_, he, rfl⟩
  unfold pyNext
  refine wpAny_bind (wpAny_attempt (wpAny_callSpecial?_slot (name := Str.ofString "__next__") ty F.slot_enumerate_next (wpAny_call_entry F.slot_enumerate_next ty F.entry_enumerate_next ?_ (F.args_enumerate_next_1 _))))
  show wpAny _ _ (field (.ref e) 2 >>= _) _ _ _
  refine wpAny_bind (wpAny_field he rfl (x := .ref it) rfl (wpAny_bind (wpAny_nextOf_tuple_end hh hit isT hx fun h' x e1 e2 => ?_)))
  obtain ⟨o, ho, hc⟩ := e2
  exact wpAny_bind (wpAny_isInstance (T := "StopIteration") (b := true) ⟨o, ho, hc⟩ isSubtype_stop (wpAny_pure (k _ e1)))
/-- the tuple at a, each item in a new pair -/
def IteT (K : PySem.W.Frag) (a : Addr) : It :=
  ⟨fun i H => ∃ (xs : List V) (x : V), SqT K H a xs ∧ xs[i]? = some x, fun i H v H' => ∃ P x, v = .ref P ∧ H P = none ∧ H' = upd H P (.tup [.int (i : Nat), x]) ∧ ∀ xs, SqT K H a xs → xs[i]? = some x, fun i H => ∃ xs : List V, SqT K H a xs ∧ xs.length ≤ i⟩
theorem enumT_turn {P : Program} {w : World} {K : PySem.W.Frag} {elts : List Expr} {kk : Nat} {tpos : Pos} (a e it : Addr) :
    Turn P w K (.Tuple elts kk tpos) (IteT K a) [e, it] e (fun i h => (∃ old, IsEnum h e it ((i : Nat) : Int) old) ∧ h.IsTupleIter it a i ∧ e ≠ it) where
  mem := by simp
  obj := fun i h st b hb => by
    obtain ⟨⟨old, he⟩, ⟨o, ho, hc, hd⟩, _⟩ := st
    rcases List.mem_cons.mp hb with z | z
    · rw [z]
      exact ⟨_, he, fun v q => nomatch q⟩
    · rw [List.mem_singleton.mp z]
      exact ⟨o, ho, fun v q => by rw [hd] at q; cases q⟩
  keep := fun i h h' st k => let ⟨⟨old, he⟩, hi, ne⟩ := st; ⟨⟨old, k e (by simp) _ he⟩, hi.at fun o q => k it (by simp) o q, ne⟩
  item := by
    intro X hP hw hK hc i pins s σ H E I hf st hg
    subst hP hw hK
    obtain ⟨⟨old, he⟩, hit, ne⟩ := st
    obtain ⟨xs, x, hq, hx⟩ := hg
    obtain ⟨its, rv, p, hz⟩ := I.tuple hq
    obtain ⟨u, hu, ru⟩ := rv.get hx
    have hel : e < s.heap.objs.size := Heap.lt_size he
    have hil : it < s.heap.objs.size := by obtain ⟨_, q, _⟩ := hit; exact Heap.lt_size q
    have ea : e ≠ a := fun z => by
      obtain ⟨o, e1, c1, _⟩ := p
      rw [← z, he] at e1
      cases e1
      exact absurd (Value.type.inj c1) (by decide)
    have ia : a ≠ it := fun z => by
      obtain ⟨o, e1, c1, _⟩ := p
      obtain ⟨o2, e2, c2, _⟩ := hit
      rw [z, e2] at e1
      cases e1
      rw [c2] at c1
      exact absurd (Value.type.inj c1) (by decide)
    have isT : s.heap.IsTuple a its.toArray := p
    have hi : i < its.toArray.size := by
      have := (List.getElem?_eq_some_iff.mp hu).1
      simpa using this
    refine wpAny_pyNext_enum_itemD (Draws.tuple (A := X.A.in1) (show X.A.in1.handled = none from I.ok.hd hc) it a ia its.toArray) he ⟨hit, isT⟩ hi ne (by simp [ne, ea]) fun y h' tk hy ho st2 hT hsz hk => ?_
    have hy2 : y = u := by
      have e1 : its.toArray[i]? = some u := by simpa using hu
      rw [e1] at hy
      exact (Option.some.inj hy).symm
    subst hy2
    refine ⟨_, rfl, wpAny_letOwnedTupleGo_enum (s := { s with heap := h', toks := tk + 1 }) ho fun h2 he2 sb => ?_⟩
    have hT2 : h2.get? s.heap.objs.size = some { cls := .type "tuple", data := .seq #[.int i tk, y] } := (sb.2 _ (Nat.ne_of_gt hel)).trans hT
    have new : ObjOk X.prog X.w (upd H s.heap.objs.size (.tup [.int (i : Nat), x])) h2 s.heap.objs.size (.tup [.int (i : Nat), x]) :=
      ⟨by show 2 ≤ sizeLine; decide, [.int i tk, y], .cons ⟨_, rfl⟩ (.cons ru .nil), ⟨_, hT2, rfl, _, rfl⟩⟩
    have J : Inv X pins σ (upd H s.heap.objs.size (.tup [.int (i : Nat), x])) { s with heap := h2, toks := tk + 1 } :=
      I.turnedNew (ch := [e, it]) (fun b ob hb q => (sb.2 b (fun z => hb (by simp [z]))).trans (hk b ob (fun z => hb (by simp [z])) (fun z => hb (by simp [z])) q)) hf (Nat.le_refl _) new
    refine ⟨.ref s.heap.objs.size, _, J, rfl, ⟨_, x, rfl, I.hok.fresh (Nat.le_refl _), rfl, fun ys hy => by rw [I.tuple_inj hy hq]; exact hx⟩, ⟨⟨y, ?_⟩, st2.1.at fun o q => (sb.2 it (Ne.symm ne)).trans q, ne⟩, fun b hb => ?_⟩
    · have e1 : ((i + 1 : Nat) : Int) = (i : Int) + 1 := by omega
      rw [e1]
      exact he2
    · have hb' : b < s.heap.objs.size := by
        rcases List.mem_cons.mp hb with z | z
        · rw [z]; exact hel
        · rw [List.mem_singleton.mp z]; exact hil
      rw [upd_ne (Nat.ne_of_lt hb')]
      exact (hf b hb).1
  done := by
    intro X hP hw hK hc i pins s σ H E I hf st hg
    subst hP hw hK
    obtain ⟨⟨old, he⟩, hit, ne⟩ := st
    obtain ⟨xs, hq, hx⟩ := hg
    obtain ⟨its, rv, p, hz⟩ := I.tuple hq
    obtain ⟨f0, f1, f2, f3, f4, f5⟩ := hf it (by simp)
    have isT : s.heap.IsTuple a its.toArray := p
    have hl := rv.length
    exact enumT_end (I.ok.hd hc) he hit isT (Array.getElem?_eq_none (by simp; omega)) fun h' eb => ⟨rfl, I.turned (t' := s.toks) (fun b o hb q => eb b o hb q) f0 f1 f3 f4 f5⟩
  self := fun A i s Q E st h => let ⟨⟨_, he⟩, _⟩ := st; wpAny_pyIter_enum he h
theorem pi_enT0 {X : Cx} {e : Expr} {ta : TA} {p pos tpos : Pos} {elts : List Expr} {kk : Nat} (hg : Gl X "enumerate") (hm : X.mg "enumerate" = none) (ha : PA X [e] ta) (hs : starEach [e] X.env = [(false, eval e X.env)]) :
    PI X (.Tuple elts kk tpos) (.Call (.Name "enumerate" p) [e] [] pos) (fun σ H R => ta σ H fun vs H1 => ∃ a xs, vs = [.ref a] ∧ SqT X.K H1 a xs ∧ R (IteT X.K a) H1) := by
  refine ⟨fun pins s σ H R I h => ?_⟩
  refine Call_ (ld_blt I hg hm boot_enumerate (PyProof.Rows.callWith_type1 (thn (ha.run pos pins s σ H _ I h) fun us s1 ⟨vs, H1, I1, r1, q1⟩ => ?_) hs rfl))
  obtain ⟨a, xs, rfl, hq, q⟩ := q1
  cases r1 with
  | cons r rr =>
    cases rr
    cases r
    obtain ⟨its, rv, p', hz⟩ := I1.tuple hq
    have isT : s1.heap.IsTuple a its.toArray := p'
    refine enumT_call isT fun h' he hit hk => wpAny_pyIter_enum he ?_
    have I2 : Inv X pins σ H1 { s1 with heap := h' } := I1.kept (t' := s1.toks) hk
    refine ⟨s1.heap.objs.size + 1, [s1.heap.objs.size + 1, s1.heap.objs.size], _, _, H1, rfl, I2, enumT_turn a (s1.heap.objs.size + 1) s1.heap.objs.size, ⟨⟨.none, he⟩, hit, Nat.succ_ne_self _⟩, fun b hb => ?_, q⟩
    have hle : s1.heap.objs.size ≤ b := by
      rcases List.mem_cons.mp hb with z | z
      · rw [z]; exact Nat.le_add_right _ _
      · rw [List.mem_singleton.mp z]; exact Nat.le_refl _
    exact I1.fpOk hle (I1.hok.fresh hle)
section
variable {G : Gh}
theorem walk_enT {ι : List Addr} {H : Hp} {a : Addr} {xs : List AV} {vs : List V} (t : RT G ι H a vs) (q : RVs G ι H xs vs) : WalkOk G ι H (enumI 0 xs) (IteT G.K a) where
  goes := fun i ι1 H1 x hi => by
    rw [enumI_len] at hi
    have hi : i < vs.length := by rw [← q.length]; exact hi
    exact ⟨vs, vs[i], (t.mono x).sq, by simp [hi]⟩
  stops := fun ι1 H1 x => ⟨vs, (t.mono x).sq, by rw [enumI_len, q.length]; exact Nat.le_refl _⟩
  yields := fun l hl i ι1 H1 h1 a' x H2 xx rh e y => by
    obtain ⟨z, e1, rfl⟩ := enumI_get e
    obtain ⟨v, e2, rv⟩ := q.get e1
    obtain ⟨P, y1, rfl, h4, rfl, h7⟩ := y
    have h8 := h7 vs (t.mono xx).sq
    rw [h8] at e2
    cases e2
    refine ⟨Ext.fresh h4, rh.fresh h4, .tup (RT.new rh h4) (.cons ?_ (.cons (((rv.move (Mv.hideL hl)).mono xx).mono (Ext.fresh h4)) .nil))⟩
    rw [Nat.zero_add]
    exact .int _
end
end AM
/-! AMr2: enumerate over a text of ASCII signs. -/
namespace AM
open PySem PySem.Spec PyProof.Rows L2

theorem enumS_end {prog : Program} {w : World} {A : Around} {E : Value → Shared → Prop} {s : Shared} {e it : Addr} {x : Str} {t : Tok} {i : Nat} {old : Value} {Q : Option Value → Shared → Prop} (hh : A.handled = none)
    (he : IsEnum s.heap e it i old) (hit : s.heap.IsStrIter it "str_ascii_iterator" x t i) (hx : x.cps[i]? = none) (k : ∀ h', Heap.ExtBut it s.heap h' → Q none { s with heap := h' }) : wpAny (model prog w) A (pyNext (.ref e)) Q E s := by
  have ty : s.TypeIs (.ref e) "enumerate" := ⟨_, he, rfl⟩
  unfold pyNext
  refine wpAny_bind (wpAny_attempt (wpAny_callSpecial?_slot (name := Str.ofString "__next__") ty F.slot_enumerate_next (wpAny_call_entry F.slot_enumerate_next ty F.entry_enumerate_next ?_ (F.args_enumerate_next_1 _))))
  show wpAny _ _ (field (.ref e) 2 >>= _) _ _ _
  refine wpAny_bind (wpAny_field he rfl (x := .ref it) rfl (wpAny_bind (wpAny_nextOf_ascii_end hh hit hx fun h' x e1 e2 => ?_)))
  obtain ⟨o, ho, hc⟩ := e2
  exact wpAny_bind (wpAny_isInstance (T := "StopIteration") (b := true) ⟨o, ho, hc⟩ isSubtype_stop (wpAny_pure (k _ e1)))
/-- the signs of z, each in a new pair -/
def IteS (z : Str) : It :=
  ⟨fun i H => i < z.cps.size, fun i H v H' => ∃ P c, v = .ref P ∧ H P = none ∧ z.cps[i]? = some c ∧ H' = upd H P (.tup [.int (i : Nat), .str ⟨#[c]⟩]), fun i H => z.cps.size ≤ i⟩
theorem enumS_turn {P : Program} {w : World} {K : PySem.W.Frag} {elts : List Expr} {kk : Nat} {tpos : Pos} (x : Str) (t : Tok) (e it : Addr) :
    Turn P w K (.Tuple elts kk tpos) (IteS x) [e, it] e (fun i h => (∃ old, IsEnum h e it ((i : Nat) : Int) old) ∧ h.IsStrIter it "str_ascii_iterator" x t i ∧ e ≠ it) where
  mem := by simp
  obj := fun i h st b hb => by
    obtain ⟨⟨old, he⟩, ⟨o, ho, hc, hd⟩, _⟩ := st
    rcases List.mem_cons.mp hb with z | z
    · rw [z]
      exact ⟨_, he, fun v q => nomatch q⟩
    · rw [List.mem_singleton.mp z]
      exact ⟨o, ho, fun v q => by rw [hd] at q; cases q⟩
  keep := fun i h h' st k => let ⟨⟨old, he⟩, ⟨o, ho, r⟩, ne⟩ := st; ⟨⟨old, k e (by simp) _ he⟩, ⟨o, k it (by simp) o ho, r⟩, ne⟩
  item := by
    intro X hP hw hK hc i pins s σ H E I hf st hg
    subst hP hw hK
    obtain ⟨⟨old, he⟩, hit, ne⟩ := st
    have hi : i < x.cps.size := hg
    have hel : e < s.heap.objs.size := Heap.lt_size he
    have hil : it < s.heap.objs.size := by obtain ⟨_, q, _⟩ := hit; exact Heap.lt_size q
    refine wpAny_pyNext_enum_itemD (Draws.strAscii (A := X.A.in1) (show X.A.in1.handled = none from I.ok.hd hc) it x t) he hit hi ne (by simp [ne]) fun y h' tk hy ho st2 hT hsz hk => ?_
    obtain ⟨c, u, hcx, rfl⟩ := hy
    refine ⟨_, rfl, wpAny_letOwnedTupleGo_enum (s := { s with heap := h', toks := tk + 1 }) ho fun h2 he2 sb => ?_⟩
    have hT2 : h2.get? s.heap.objs.size = some { cls := .type "tuple", data := .seq #[.int i tk, .str ⟨#[c]⟩ u] } := (sb.2 _ (Nat.ne_of_gt hel)).trans hT
    have new : ObjOk X.prog X.w (upd H s.heap.objs.size (.tup [.int (i : Nat), .str ⟨#[c]⟩])) h2 s.heap.objs.size (.tup [.int (i : Nat), .str ⟨#[c]⟩]) :=
      ⟨by show 2 ≤ sizeLine; decide, [.int i tk, .str ⟨#[c]⟩ u], .cons ⟨_, rfl⟩ (.cons ⟨_, rfl⟩ .nil), ⟨_, hT2, rfl, _, rfl⟩⟩
    have J : Inv X pins σ (upd H s.heap.objs.size (.tup [.int (i : Nat), .str ⟨#[c]⟩])) { s with heap := h2, toks := tk + 1 } :=
      I.turnedNew (ch := [e, it]) (fun b ob hb q => (sb.2 b (fun z => hb (by simp [z]))).trans (hk b ob (fun z => hb (by simp [z])) (fun z => hb (by simp [z])) q)) hf (Nat.le_refl _) new
    refine ⟨.ref s.heap.objs.size, _, J, rfl, ⟨_, c, rfl, I.hok.fresh (Nat.le_refl _), hcx, rfl⟩, ⟨⟨.str ⟨#[c]⟩ u, ?_⟩, ?_, ne⟩, fun b hb => ?_⟩
    · have e1 : ((i + 1 : Nat) : Int) = (i : Int) + 1 := by omega
      rw [e1]
      exact he2
    · obtain ⟨o, q1, q2⟩ := st2
      exact ⟨o, (sb.2 it (Ne.symm ne)).trans q1, q2⟩
    · have hb' : b < s.heap.objs.size := by
        rcases List.mem_cons.mp hb with z | z
        · rw [z]; exact hel
        · rw [List.mem_singleton.mp z]; exact hil
      rw [upd_ne (Nat.ne_of_lt hb')]
      exact (hf b hb).1
  done := by
    intro X hP hw hK hc i pins s σ H E I hf st hg
    subst hP hw hK
    obtain ⟨⟨old, he⟩, hit, ne⟩ := st
    obtain ⟨f0, f1, f2, f3, f4, f5⟩ := hf it (by simp)
    exact enumS_end (I.ok.hd hc) he hit (Array.getElem?_eq_none hg) fun h' eb => ⟨rfl, I.turned (t' := s.toks) (fun b o hb q => eb b o hb q) f0 f1 f3 f4 f5⟩
  self := fun A i s Q E st h => let ⟨⟨_, he⟩, _⟩ := st; wpAny_pyIter_enum he h
theorem pi_enS0 {X : Cx} {e : Expr} {ta : TA} {p pos tpos : Pos} {elts : List Expr} {kk : Nat} (hg : Gl X "enumerate") (hm : X.mg "enumerate" = none) (ha : PA X [e] ta) (hs : starEach [e] X.env = [(false, eval e X.env)]) :
    PI X (.Tuple elts kk tpos) (.Call (.Name "enumerate" p) [e] [] pos) (fun σ H R => ta σ H fun vs H1 => ∃ z : Str, vs = [.str z] ∧ z.cps.all (· < 128) = true ∧ R (IteS z) H1) := by
  refine ⟨fun pins s σ H R I h => ?_⟩
  refine Call_ (ld_blt I hg hm boot_enumerate (PyProof.Rows.callWith_type1 (thn (ha.run pos pins s σ H _ I h) fun us s1 ⟨vs, H1, I1, r1, q1⟩ => ?_) hs rfl))
  obtain ⟨z, rfl, hz, q⟩ := q1
  cases r1 with
  | cons r rr =>
    cases rr
    obtain ⟨t, rfl⟩ := r
    refine call_enumerate_str fun h' he hit hsz hk => wpAny_pyIter_enum he ?_
    have hit : h'.IsStrIter s1.heap.objs.size "str_ascii_iterator" z t 0 := by
      have e : strIterType z = "str_ascii_iterator" := by unfold strIterType; rw [hz]; rfl
      rw [e] at hit
      exact hit
    have I2 : Inv X pins σ H1 { s1 with heap := h' } := I1.kept (t' := s1.toks) hk
    refine ⟨s1.heap.objs.size + 1, [s1.heap.objs.size + 1, s1.heap.objs.size], _, _, H1, rfl, I2, enumS_turn z t (s1.heap.objs.size + 1) s1.heap.objs.size, ⟨⟨.none, he⟩, hit, Nat.succ_ne_self _⟩, fun b hb => ?_, q⟩
    have hle : s1.heap.objs.size ≤ b := by
      rcases List.mem_cons.mp hb with z | z
      · rw [z]; exact Nat.le_add_right _ _
      · rw [List.mem_singleton.mp z]; exact Nat.le_refl _
    exact I1.fpOk hle (I1.hok.fresh hle)
section
variable {G : Gh}
theorem signs_at {z : Str} {i : Nat} {x : AV} (h : (signs z)[i]? = some x) : ∃ c, z.cps[i]? = some c ∧ x = .str ⟨#[c]⟩ := by
  unfold signs at h
  rw [List.getElem?_map] at h
  obtain ⟨c, e, rfl⟩ := Option.map_eq_some_iff.mp h
  exact ⟨c, by simpa using e, rfl⟩
theorem walk_enS {ι : List Addr} {H : Hp} {z : Str} : WalkOk G ι H (enumI 0 (signs z)) (IteS z) where
  goes := fun i ι1 H1 x hi => by
    rw [enumI_len] at hi
    show i < z.cps.size
    simpa [signs] using hi
  stops := fun ι1 H1 x => by
    rw [enumI_len]
    show z.cps.size ≤ (signs z).length
    simp [signs]
  yields := fun l hl i ι1 H1 h1 a' x H2 xx rh e y => by
    obtain ⟨w, e1, rfl⟩ := enumI_get e
    obtain ⟨c, e2, rfl⟩ := signs_at e1
    obtain ⟨P, c', y1, h4, h5, rfl⟩ := y
    subst y1
    rw [e2] at h5
    cases h5
    refine ⟨Ext.fresh h4, rh.fresh h4, .tup (RT.new rh h4) (.cons ?_ (.cons (.str _) .nil))⟩
    rw [Nat.zero_add]
    exact .int _
end
end AM
/-! AMs: zip(a, b, strict=True) of two things of one length. -/
namespace AM
open PySem PySem.Spec PyProof.Rows L2

/-- a strict zip -/
abbrev ZipStr (h : Heap) (z TI TO : Addr) (f0 : Value) : Prop := h.get? z = some { cls := .type "zip", dict := none, data := .fields #[f0, .bool false, .bool true, .ref TI, .ref TO], slots := #[] }
section
variable {prog : Program} {w : World} {A : Around} {E : Value → Shared → Prop} {s : Shared} {z TI TO i1 i2 : Addr} {fp1 fp2 : List Addr} {n i : Nat} {P1 P2 : Nat → Value → Prop} {St1 St2 : Nat → Heap → Prop} {a1 a2 : Value}
theorem orEnd_item {it : Addr} {fp : List Addr} {P : Nat → Value → Prop} {St : Nat → Heap → Prop} {Q : Option Value → Shared → Prop} (D : Draws prog w A it fp n P St) (hi : i < n) (st : St i s.heap)
    (k : ∀ x h' tk, P i x → St (i + 1) h' → Heap.SameBut it s.heap h' → Q (some x) { s with heap := h', toks := tk }) : wpAny (model prog w) A (Builtin.SmallTypes.nextOrEnd (.ref it)) Q E s := by
  unfold Builtin.SmallTypes.nextOrEnd
  exact wpAny_bind (wpAny_attempt (D.item i _ _ _ hi st fun x h' tk a b c => wpAny_pure (k x h' tk a b c)))
theorem orEnd_done {it : Addr} {fp : List Addr} {P : Nat → Value → Prop} {St : Nat → Heap → Prop} {Q : Option Value → Shared → Prop} (D : Draws prog w A it fp n P St) (st : St n s.heap)
    (k : ∀ h', Heap.ExtBut it s.heap h' → Q none { s with heap := h' }) : wpAny (model prog w) A (Builtin.SmallTypes.nextOrEnd (.ref it)) Q E s := by
  unfold Builtin.SmallTypes.nextOrEnd
  refine wpAny_bind (wpAny_attempt (D.done s _ _ st fun h' e x ho => ?_))
  obtain ⟨o, ho, hc⟩ := ho
  exact wpAny_bind (wpAny_isInstance (T := "StopIteration") (b := true) ⟨o, ho, hc⟩ isSubtype_stop (wpAny_pure (k h' x)))
theorem zipS_item {Q : Value → Shared → Prop} (S : ZipSep2 z TI TO i1 i2 fp1 fp2) (D1 : Draws prog w A i1 fp1 n P1 St1) (D2 : Draws prog w A i2 fp2 n P2 St2)
    (hz : ZipStr s.heap z TI TO .none) (hTI : IsTupOf2 s.heap TI (.ref i1) (.ref i2)) (hTO : IsTupOf2 s.heap TO a1 a2) (st1 : St1 i s.heap) (st2 : St2 i s.heap) (hi : i < n)
    (k : ∀ x1 x2 h' tk, P1 i x1 → P2 i x2 → ZipStr h' z TI TO (rawInt s.heap.objs.size) → IsTupOf2 h' TO x1 x2 → St1 (i + 1) h' → St2 (i + 1) h' → IsTupOf2 h' s.heap.objs.size x1 x2 →
      (∀ c o, c ≠ z → c ≠ TO → c ≠ i1 → c ≠ i2 → s.heap.get? c = some o → h'.get? c = some o) → Q (.ref s.heap.objs.size) { s with heap := h', toks := tk }) :
    wpAny (model prog w) A (Builtin.«zip.__next__» ⟨[.ref z], []⟩) (fun fin s' => ∃ v, fin = .done (.ret v) ∧ Q v s') E s := by
  obtain ⟨hp, g, dr, t0, os⟩ := s
  show wpAny _ _ (field (.ref z) 2 >>= _) _ _ _
  refine wpAny_bind (wpAny_field hz rfl (x := .bool true) rfl ?_)
  show wpAny _ _ (field (.ref z) 3 >>= _) _ _ _
  refine wpAny_bind (wpAny_field hz rfl (x := .ref TI) rfl (wpAny_bind (wpAny_seqItems hTI rfl ?_)))
  show wpAny _ _ (Builtin.SmallTypes.ownedTupleIsFree (.ref z) >>= _) _ _ _
  refine wpAny_bind ?_
  unfold Builtin.SmallTypes.ownedTupleIsFree
  refine wpAny_bind (wpAny_field hz rfl (x := .none) rfl (wpAny_pure ?_))
  simp only [if_true]
  refine wpAny_bind (wpAny_rule (wpAny_bind (wpAny_field hz rfl (x := .ref TO) rfl (wpAny_bind (wpAny_setField_rec hz (by simp) fun m0 y0 q0 => ?_)))))
  replace y0 : ZipStr m0 z TI TO .ellipsis := y0
  replace q0 : Heap.SameBut z hp m0 := q0
  refine wpAny_bind ?_
  simp only [List.zipIdx_cons, List.zipIdx_nil, List.forIn_cons, List.forIn_nil]
  refine wpAny_bind (wpAny_bind (wpAny_onRaise ?_))
  show wpAny _ _ (Builtin.SmallTypes.nextOrEnd (.ref i1)) _ _ ⟨m0, g, dr, t0, os⟩
  refine orEnd_item D1 hi (D1.over st1 q0 S.zf1) fun x1 m1 t1 y1 u1 r1 => ?_
  replace r1 : Heap.SameBut i1 m0 m1 := r1
  have w1 : IsTupOf2 m1 TO a1 a2 := r1.extBut _ _ S.Ti1 (q0.extBut _ _ S.TOz hTO)
  refine wpAny_bind (wpAny_seqItems (s := ⟨m1, g, dr, t1, os⟩) w1 rfl ?_)
  refine wpAny_bind (updateSeq_IsTupOf2 (s := ⟨m1, g, dr, t1, os⟩) w1 fun m2 v1 q1 => ?_)
  replace v1 : IsTupOf2 m2 TO x1 a2 := v1
  replace q1 : Heap.SameBut TO m1 m2 := q1
  refine wpAny_bind (wpAny_letGo (wpAny_pure ?_))
  refine wpAny_bind (wpAny_bind (wpAny_onRaise ?_))
  show wpAny _ _ (Builtin.SmallTypes.nextOrEnd (.ref i2)) _ _ ⟨m2, g, dr, t1, os⟩
  refine orEnd_item D2 hi (D2.over (D2.over (D2.over st2 q0 S.zf2) r1 S.sep1_2) q1 S.Tf2) fun x2 m3 t2 y2 u2 r2 => ?_
  replace r2 : Heap.SameBut i2 m2 m3 := r2
  have w2 : IsTupOf2 m3 TO x1 a2 := r2.extBut _ _ S.Ti2 v1
  refine wpAny_bind (wpAny_seqItems (s := ⟨m3, g, dr, t2, os⟩) w2 rfl ?_)
  refine wpAny_bind (updateSeq_IsTupOf2 (s := ⟨m3, g, dr, t2, os⟩) w2 fun m4 v2 q2 => ?_)
  replace v2 : IsTupOf2 m4 TO x1 x2 := v2
  replace q2 : Heap.SameBut TO m3 m4 := q2
  refine wpAny_bind (wpAny_letGo (wpAny_pure (wpAny_pure ?_)))
  refine wpAny_bind (wpAny_seqItems (s := ⟨m4, g, dr, t2, os⟩) v2 rfl (wpAny_bind (wpAny_newTuple ?_)))
  have sz : m4.objs.size = hp.objs.size := by rw [q2.1, r2.1, q1.1, r1.1, q0.1]
  have yz : ZipStr m4 z TI TO .ellipsis := q2.extBut _ _ S.TOz.symm (r2.extBut _ _ S.zi2 (q1.extBut _ _ S.TOz.symm (r1.extBut _ _ S.zi1 y0)))
  have kk : ∀ c o, c ≠ z → c ≠ TO → c ≠ i1 → c ≠ i2 → hp.get? c = some o → m4.get? c = some o := fun c o cz cT c1 c2 e =>
    q2.extBut _ _ cT (r2.extBut _ _ c2 (q1.extBut _ _ cT (r1.extBut _ _ c1 (q0.extBut _ _ cz e))))
  have j1 : St1 (i + 1) m4 := D1.over (D1.over (D1.over u1 q1 S.Tf1) r2 S.sep2_1) q2 S.Tf1
  have j2 : St2 (i + 1) m4 := D2.over u2 q2 S.Tf2
  have zl : z < m4.objs.size := Heap.lt_size yz
  show wpAny _ _ (Builtin.SmallTypes.ownedTupleHandOut (.ref z) (.ref m4.objs.size) >>= _) _ _ ⟨m4.push { cls := .type "tuple", data := .seq #[x1, x2] }, g, dr, t2, os⟩
  refine wpAny_bind ?_
  unfold Builtin.SmallTypes.ownedTupleHandOut
  have y6 : ZipStr (m4.push { cls := .type "tuple", data := .seq #[x1, x2] }) z TI TO .ellipsis := Heap.get?_push_of_some _ yz
  refine wpAny_bind (wpAny_setField_rec y6 (by simp) fun m7 y7 q7 => ?_)
  replace y7 : ZipStr m7 z TI TO (rawInt m4.objs.size) := y7
  refine wpAny_setField_rec y7 (by simp) fun m8 y8 q8 => ?_
  replace y8 : ZipStr m8 z TI TO (rawInt m4.objs.size) := y8
  replace q7 : Heap.SameBut z (m4.push { cls := .type "tuple", data := .seq #[x1, x2] }) m7 := q7
  replace q8 : Heap.SameBut z m7 m8 := q8
  have up : ∀ c o, c ≠ z → m4.get? c = some o → m8.get? c = some o := fun c o c1 e => q8.extBut _ _ c1 (q7.extBut _ _ c1 (Heap.get?_push_of_some _ e))
  have t8 : IsTupOf2 m8 m4.objs.size x1 x2 := q8.extBut _ _ (Nat.ne_of_gt zl) (q7.extBut _ _ (Nat.ne_of_gt zl) (Heap.get?_push_size _ rfl))
  rw [sz] at y8 t8
  refine wpAny_pure ⟨_, rfl, ?_⟩
  show Q (.ref m4.objs.size) ⟨m8, g, dr, t2, os⟩
  rw [sz]
  exact k x1 x2 m8 t2 y1 y2 y8 (up _ _ S.TOz v2) (D1.frame _ _ _ j1 fun b hb o e => up b o (fun q => S.zf1 (q ▸ hb)) e) (D2.frame _ _ _ j2 fun b hb o e => up b o (fun q => S.zf2 (q ▸ hb)) e) t8 fun c o cz cT c1 c2 e => up c o cz (kk c o cz cT c1 c2 e)
theorem zipS_end {Q : Fin → Shared → Prop} (hh : A.handled = none) (S : ZipSep2 z TI TO i1 i2 fp1 fp2) (D1 : Draws prog w A i1 fp1 n P1 St1) (D2 : Draws prog w A i2 fp2 n P2 St2) (f1 : ∀ b ∈ fp2, b ≠ i1)
    (hz : ZipStr s.heap z TI TO .none) (hTI : IsTupOf2 s.heap TI (.ref i1) (.ref i2)) (st1 : St1 n s.heap) (st2 : St2 n s.heap)
    (k : ∀ h' tk e, (∀ c o, c ≠ z → c ≠ TO → c ≠ i1 → c ≠ i2 → s.heap.get? c = some o → h'.get? c = some o) → (∃ o, h'.get? e = some o ∧ o.cls = .type "StopIteration") → E (.ref e) { s with heap := h', toks := tk }) :
    wpAny (model prog w) A (Builtin.«zip.__next__» ⟨[.ref z], []⟩) Q E s := by
  obtain ⟨hp, g, dr, t0, os⟩ := s
  show wpAny _ _ (field (.ref z) 2 >>= _) _ _ _
  refine wpAny_bind (wpAny_field hz rfl (x := .bool true) rfl ?_)
  show wpAny _ _ (field (.ref z) 3 >>= _) _ _ _
  refine wpAny_bind (wpAny_field hz rfl (x := .ref TI) rfl (wpAny_bind (wpAny_seqItems hTI rfl ?_)))
  show wpAny _ _ (Builtin.SmallTypes.ownedTupleIsFree (.ref z) >>= _) _ _ _
  refine wpAny_bind ?_
  unfold Builtin.SmallTypes.ownedTupleIsFree
  refine wpAny_bind (wpAny_field hz rfl (x := .none) rfl (wpAny_pure ?_))
  simp only [if_true]
  refine wpAny_bind (wpAny_rule (wpAny_bind (wpAny_field hz rfl (x := .ref TO) rfl (wpAny_bind (wpAny_setField_rec hz (by simp) fun m0 y0 q0 => ?_)))))
  replace y0 : ZipStr m0 z TI TO .ellipsis := y0
  replace q0 : Heap.SameBut z hp m0 := q0
  refine wpAny_bind ?_
  simp only [List.zipIdx_cons, List.zipIdx_nil, List.forIn_cons, List.forIn_nil]
  refine wpAny_bind (wpAny_bind (wpAny_onRaise ?_))
  show wpAny _ _ (Builtin.SmallTypes.nextOrEnd (.ref i1)) _ _ ⟨m0, g, dr, t0, os⟩
  refine orEnd_done D1 (D1.over st1 q0 S.zf1) fun m1 r1 => ?_
  replace r1 : Heap.ExtBut i1 m0 m1 := r1
  have y1 : ZipStr m1 z TI TO .ellipsis := r1 _ _ S.zi1 y0
  refine wpAny_bind (wpAny_setField_rec (s := ⟨m1, g, dr, t0, os⟩) y1 (by simp) fun m2 y2 q2 => ?_)
  replace q2 : Heap.SameBut z m1 m2 := q2
  have u2 : St2 n m2 := D2.over (D2.frame _ _ _ (D2.over st2 q0 S.zf2) fun b hb o e => r1 b o (f1 b hb) e) q2 S.zf2
  refine wpAny_bind (wpAny_bind ?_)
  show wpAny _ _ (forIn [(Value.ref i2, 1)] PUnit.unit _) _ _ _
  simp only [List.forIn_cons, List.forIn_nil]
  refine wpAny_bind (wpAny_bind (orEnd_done (s := ⟨m2, g, dr, t0, os⟩) D2 u2 fun m3 r2 => ?_))
  replace r2 : Heap.ExtBut i2 m2 m3 := r2
  refine wpAny_pure (wpAny_pure ?_)
  refine wpAny_bind (wpAny_rule ?_)
  show wpAny _ _ (newExc (.type "StopIteration") [] >>= _) _ _ _
  refine wpAny_bind ?_
  simp only [newExc, newTuple]
  refine wpAny_bind (wpAny_newObj_type ?_ (by size_fits))
  refine wpAny_bind (m := firstArgMember _ _) (wpAny_of_eq (a := Value.none) (by first | rfl | (simp only [firstArgMember]; rfl)) ?_)
  refine wpAny_newObj_type ?_ (by size_fits)
  simp only [raiseNew]
  refine wpAny_bind (wpAny_handled ?_)
  rw [hh]
  refine wpAny_bind (wpAny_pure (wpAny_throw ?_))
  refine k _ _ _ (fun c o cz cT c1 c2 e => Heap.get?_push_of_some _ (Heap.get?_push_of_some _ (r2 _ _ c2 (q2.extBut _ _ cz (r1 _ _ c1 (q0.extBut _ _ cz e)))))) ⟨_, Heap.get?_push_size _ rfl, rfl⟩
theorem zipS_nextI {Q : Option Value → Shared → Prop} (S : ZipSep2 z TI TO i1 i2 fp1 fp2) (D1 : Draws prog w A.in1 i1 fp1 n P1 St1) (D2 : Draws prog w A.in1 i2 fp2 n P2 St2)
    (hz : ZipStr s.heap z TI TO .none) (hTI : IsTupOf2 s.heap TI (.ref i1) (.ref i2)) (hTO : IsTupOf2 s.heap TO a1 a2) (st1 : St1 i s.heap) (st2 : St2 i s.heap) (hi : i < n)
    (k : ∀ x1 x2 h' tk, P1 i x1 → P2 i x2 → ZipStr h' z TI TO (rawInt s.heap.objs.size) → IsTupOf2 h' TO x1 x2 → St1 (i + 1) h' → St2 (i + 1) h' → IsTupOf2 h' s.heap.objs.size x1 x2 →
      (∀ c o, c ≠ z → c ≠ TO → c ≠ i1 → c ≠ i2 → s.heap.get? c = some o → h'.get? c = some o) → Q (some (.ref s.heap.objs.size)) { s with heap := h', toks := tk }) :
    wpAny (model prog w) A (pyNext (.ref z)) Q E s := by
  have ty : s.TypeIs (.ref z) "zip" := ⟨_, hz, rfl⟩
  unfold pyNext
  exact wpAny_bind (wpAny_attempt (wpAny_callSpecial?_slot (name := Str.ofString "__next__") ty F.slot_zip_next (wpAny_call_entry F.slot_zip_next ty F.entry_zip_next
    (zipS_item S D1 D2 hz hTI hTO st1 st2 hi fun x1 x2 h' tk c1 c2 c3 c4 c5 c6 c7 c8 => wpAny_pure (k x1 x2 h' tk c1 c2 c3 c4 c5 c6 c7 c8)) (F.args_zip_next_1 _))))
theorem zipS_nextE {Q : Option Value → Shared → Prop} (hh : A.in1.handled = none) (S : ZipSep2 z TI TO i1 i2 fp1 fp2) (D1 : Draws prog w A.in1 i1 fp1 n P1 St1) (D2 : Draws prog w A.in1 i2 fp2 n P2 St2) (f1 : ∀ b ∈ fp2, b ≠ i1)
    (hz : ZipStr s.heap z TI TO .none) (hTI : IsTupOf2 s.heap TI (.ref i1) (.ref i2)) (st1 : St1 n s.heap) (st2 : St2 n s.heap)
    (k : ∀ h' tk, (∀ c o, c ≠ z → c ≠ TO → c ≠ i1 → c ≠ i2 → s.heap.get? c = some o → h'.get? c = some o) → Q none { s with heap := h', toks := tk }) : wpAny (model prog w) A (pyNext (.ref z)) Q E s := by
  have ty : s.TypeIs (.ref z) "zip" := ⟨_, hz, rfl⟩
  unfold pyNext
  refine wpAny_bind (wpAny_attempt (wpAny_callSpecial?_slot (name := Str.ofString "__next__") ty F.slot_zip_next (wpAny_call_entry F.slot_zip_next ty F.entry_zip_next
    (zipS_end hh S D1 D2 f1 hz hTI st1 st2 fun h' tk e q he => ?_) (F.args_zip_next_1 _))))
  obtain ⟨o, ho, hc⟩ := he
  exact wpAny_bind (wpAny_isInstance (T := "StopIteration") (b := true) ⟨o, ho, hc⟩ isSubtype_stop (wpAny_pure (k _ _ q)))
theorem zipS_letGo {elts : List Expr} {x1 : Nat} {pos : Pos} {T : Addr} {Q : Unit → Shared → Prop} (hz : ZipStr s.heap z TI TO (rawInt T)) (k : ∀ h', ZipStr h' z TI TO .none → Heap.SameBut z s.heap h' → Q () { s with heap := h' }) :
    wpAny (model prog w) A (letOwnedTupleGo (.Tuple elts x1 pos) (.ref z) (.ref T)) Q E s := by
  unfold letOwnedTupleGo
  refine wpAny_bind (wpAny_load hz ?_)
  show wpAny _ _ (if (["enumerate", "zip", "dict_itemiterator", "dict_reverseitemiterator", "odict_iterator", "itertools.zip_longest", "itertools.pairwise"].contains "zip" && (#[rawInt T, .bool false, .bool true, .ref TI, .ref TO] : Array Value)[0]? == some (rawInt T)) = true then _ else _) Q E s
  rw [if_pos (by simp)]
  refine wpAny_bind (wpAny_rule ?_)
  show wpAny _ _ (setField (.ref z) 0 .none) Q E s
  exact wpAny_setField_rec hz (by simp) fun h' y q => k h' y q
theorem zipS_iter {f0 : Value} {Q : Value → Shared → Prop} (hz : ZipStr s.heap z TI TO f0) (k : Q (.ref z) s) : wpAny (model prog w) A (pyIter (.ref z)) Q E s := by
  have ty : s.TypeIs (.ref z) "zip" := ⟨_, hz, rfl⟩
  refine wpAny_pyIter_slot ty F.slot_zip_iter (wpAny_call_entry F.slot_zip_iter ty F.entry_zip_iter ?_ (F.args_zip_iter_1 _))
  show wpAny _ _ (ret (.ref z)) _ _ s
  exact wpAny_pure ⟨_, rfl, "zip", _, ty, F.slot_zip_next.lookup, k⟩
end

/-- the tuples at a and b, of one length, item by item in new pairs -/
def ItzST (K : PySem.W.Frag) (a b : Addr) : It :=
  ⟨fun i H => ∃ (xs ys : List V) (x y : V), SqT K H a xs ∧ SqT K H b ys ∧ xs.length = ys.length ∧ xs[i]? = some x ∧ ys[i]? = some y,
    fun i H v H' => ∃ P x y, v = .ref P ∧ H P = none ∧ H' = upd H P (.tup [x, y]) ∧ (∀ xs, SqT K H a xs → xs[i]? = some x) ∧ ∀ ys, SqT K H b ys → ys[i]? = some y,
    fun i H => ∃ xs ys : List V, SqT K H a xs ∧ SqT K H b ys ∧ xs.length = i ∧ ys.length = i⟩
theorem zipST_turn {P : Program} {w : World} {K : PySem.W.Frag} {elts : List Expr} {kk : Nat} {tpos : Pos} {a b z TI TO i1 i2 : Addr} (S : ZipSep2 z TI TO i1 i2 [i1, a] [i2, b]) (n1 : a ≠ i1) (n2 : b ≠ i2) :
    Turn P w K (.Tuple elts kk tpos) (ItzST K a b) [z, TI, TO, i1, i2] z (fun i h => ZipStr h z TI TO .none ∧ IsTupOf2 h TI (.ref i1) (.ref i2) ∧ (∃ x y, IsTupOf2 h TO x y) ∧ h.IsTupleIter i1 a i ∧ h.IsTupleIter i2 b i) where
  mem := by simp
  obj := fun i h st c hc => by
    obtain ⟨hz, hTI, ⟨x, y, hTO⟩, ⟨o1, e1, _, d1⟩, ⟨o2, e2, _, d2⟩⟩ := st
    have e' : c = z ∨ c = TI ∨ c = TO ∨ c = i1 ∨ c = i2 := by simpa using hc
    rcases e' with q | q | q | q | q
    · rw [q]; exact ⟨_, hz, fun v q => nomatch q⟩
    · rw [q]; exact ⟨_, hTI, fun v q => nomatch q⟩
    · rw [q]; exact ⟨_, hTO, fun v q => nomatch q⟩
    · rw [q]; exact ⟨o1, e1, fun v q => by rw [d1] at q; cases q⟩
    · rw [q]; exact ⟨o2, e2, fun v q => by rw [d2] at q; cases q⟩
  keep := fun i h h' st k => by
    obtain ⟨hz, hTI, ⟨x, y, hTO⟩, h1, h2⟩ := st
    exact ⟨k z (by simp) _ hz, k TI (by simp) _ hTI, ⟨x, y, k TO (by simp) _ hTO⟩, h1.at fun o q => k i1 (by simp) o q, h2.at fun o q => k i2 (by simp) o q⟩
  item := by
    intro X hP hw hK hc i pins s σ H E I hf st hg
    subst hP hw hK
    obtain ⟨hz, hTI, ⟨x0, y0, hTO⟩, h1, h2⟩ := st
    obtain ⟨xs, ys, x, y, hqx, hqy, hln, hx, hy⟩ := hg
    obtain ⟨its, rv, p, _⟩ := I.tuple hqx
    obtain ⟨jts, rv2, p2, _⟩ := I.tuple hqy
    obtain ⟨u, hu, ru⟩ := rv.get hx
    obtain ⟨u2, hu2, ru2⟩ := rv2.get hy
    have zl : z < s.heap.objs.size := Heap.lt_size hz
    have is1 : s.heap.IsTuple a its.toArray := p
    have is2 : s.heap.IsTuple b jts.toArray := p2
    have hi : i < its.toArray.size := by
      have := (List.getElem?_eq_some_iff.mp hu).1
      simpa using this
    have hsz : jts.toArray.size = its.toArray.size := by
      have a1 := rv.length
      have a2 := rv2.length
      simp
      omega
    have D1 := Draws.tuple (prog := X.prog) (w := X.w) (A := X.A.in1) (show X.A.in1.handled = none from I.ok.hd hc) i1 a n1 its.toArray
    have D2 := Draws.tuple (prog := X.prog) (w := X.w) (A := X.A.in1) (show X.A.in1.handled = none from I.ok.hd hc) i2 b n2 jts.toArray
    rw [hsz] at D2
    refine zipS_nextI S D1 D2 hz hTI hTO ⟨h1, is1⟩ ⟨h2, is2⟩ hi fun v1 v2 h' tk e1 e2 z' TO' s1 s2 hT hk => ?_
    have f1 : v1 = u := by
      have e3 : its.toArray[i]? = some u := by simpa using hu
      rw [e3] at e1
      exact (Option.some.inj e1).symm
    have f2 : v2 = u2 := by
      have e3 : jts.toArray[i]? = some u2 := by simpa using hu2
      rw [e3] at e2
      exact (Option.some.inj e2).symm
    subst f1 f2
    refine ⟨_, rfl, zipS_letGo (s := { s with heap := h', toks := tk }) z' fun h2' z2 sb => ?_⟩
    have hT2 : h2'.get? s.heap.objs.size = some { cls := .type "tuple", data := .seq #[v1, v2] } := (sb.2 _ (Nat.ne_of_gt zl)).trans hT
    have new : ObjOk X.prog X.w (upd H s.heap.objs.size (.tup [x, y])) h2' s.heap.objs.size (.tup [x, y]) :=
      ⟨by show 2 ≤ sizeLine; decide, [v1, v2], .cons ru (.cons ru2 .nil), ⟨_, hT2, rfl, _, rfl⟩⟩
    have J : Inv X pins σ (upd H s.heap.objs.size (.tup [x, y])) { s with heap := h2', toks := tk } :=
      I.turnedNew (ch := [z, TI, TO, i1, i2]) (fun c o hb q => (sb.2 c (fun q' => hb (by simp [q']))).trans (hk c o (fun q' => hb (by simp [q'])) (fun q' => hb (by simp [q'])) (fun q' => hb (by simp [q'])) (fun q' => hb (by simp [q'])) q)) hf (Nat.le_refl _) new
    refine ⟨.ref s.heap.objs.size, _, J, rfl, ⟨_, x, y, rfl, I.hok.fresh (Nat.le_refl _), rfl, fun l hl => by rw [I.tuple_inj hl hqx]; exact hx, fun l hl => by rw [I.tuple_inj hl hqy]; exact hy⟩, ⟨z2, ?_, ⟨v1, v2, ?_⟩, ?_, ?_⟩, fun c hcm => ?_⟩
    · exact (sb.2 _ S.TIz).trans (hk _ _ S.TIz S.TITO S.TIi1 S.TIi2 hTI)
    · exact (sb.2 _ S.TOz).trans TO'
    · exact s1.1.at fun o q => (sb.2 _ (Ne.symm S.zi1)).trans q
    · exact s2.1.at fun o q => (sb.2 _ (Ne.symm S.zi2)).trans q
    · have lt : c < s.heap.objs.size := by
        have e' : c = z ∨ c = TI ∨ c = TO ∨ c = i1 ∨ c = i2 := by simpa using hcm
        rcases e' with q | q | q | q | q
        · rw [q]; exact zl
        · rw [q]; exact Heap.lt_size hTI
        · rw [q]; exact Heap.lt_size hTO
        · rw [q]; obtain ⟨_, e1, _⟩ := h1; exact Heap.lt_size e1
        · rw [q]; obtain ⟨_, e2, _⟩ := h2; exact Heap.lt_size e2
      rw [upd_ne (Nat.ne_of_lt lt)]
      exact (hf c hcm).1
  done := by
    intro X hP hw hK hc i pins s σ H E I hf st hg
    subst hP hw hK
    obtain ⟨hz, hTI, ⟨x0, y0, hTO⟩, h1, h2⟩ := st
    obtain ⟨xs, ys, hqx, hqy, l1, l2⟩ := hg
    obtain ⟨its, rv, p, _⟩ := I.tuple hqx
    obtain ⟨jts, rv2, p2, _⟩ := I.tuple hqy
    have is1 : s.heap.IsTuple a its.toArray := p
    have is2 : s.heap.IsTuple b jts.toArray := p2
    have D1 := Draws.tuple (prog := X.prog) (w := X.w) (A := X.A.in1) (show X.A.in1.handled = none from I.ok.hd hc) i1 a n1 its.toArray
    have D2 := Draws.tuple (prog := X.prog) (w := X.w) (A := X.A.in1) (show X.A.in1.handled = none from I.ok.hd hc) i2 b n2 jts.toArray
    have q1 : its.toArray.size = i := by have := rv.length; simp; omega
    have q2 : jts.toArray.size = i := by have := rv2.length; simp; omega
    rw [q1] at D1
    rw [q2] at D2
    refine zipS_nextE (show X.A.in1.handled = none from I.ok.hd hc) S D1 D2 (fun c hc e => S.sep1_2 (e ▸ hc)) hz hTI ⟨h1, is1⟩ ⟨h2, is2⟩ fun h' tk hk => ⟨rfl, I.turnedL (t' := tk) (ch := [z, TI, TO, i1, i2]) (fun c o hb q =>
      hk c o (fun q' => hb (by simp [q'])) (fun q' => hb (by simp [q'])) (fun q' => hb (by simp [q'])) (fun q' => hb (by simp [q'])) q) hf⟩
  self := fun A i s Q E st h => zipS_iter st.1 h

/-- the lists at a and b, of one length, item by item in new pairs -/
def ItzSL (K : PySem.W.Frag) (a b : Addr) : It :=
  ⟨fun i H => ∃ (xs ys : List V) (x y : V), SqL K H a xs ∧ SqL K H b ys ∧ xs.length = ys.length ∧ xs[i]? = some x ∧ ys[i]? = some y,
    fun i H v H' => ∃ P x y, v = .ref P ∧ H P = none ∧ H' = upd H P (.tup [x, y]) ∧ (∀ xs, SqL K H a xs → xs[i]? = some x) ∧ ∀ ys, SqL K H b ys → ys[i]? = some y,
    fun i H => ∃ xs ys : List V, SqL K H a xs ∧ SqL K H b ys ∧ xs.length = i ∧ ys.length = i⟩
theorem zipSL_turn {P : Program} {w : World} {K : PySem.W.Frag} {elts : List Expr} {kk : Nat} {tpos : Pos} {a b z TI TO i1 i2 : Addr} (S : ZipSep2 z TI TO i1 i2 [i1, a] [i2, b]) (n1 : a ≠ i1) (n2 : b ≠ i2) :
    Turn P w K (.Tuple elts kk tpos) (ItzSL K a b) [z, TI, TO, i1, i2] z (fun i h => ZipStr h z TI TO .none ∧ IsTupOf2 h TI (.ref i1) (.ref i2) ∧ (∃ x y, IsTupOf2 h TO x y) ∧ h.IsListIter i1 a i ∧ h.IsListIter i2 b i) where
  mem := by simp
  obj := fun i h st c hc => by
    obtain ⟨hz, hTI, ⟨x, y, hTO⟩, ⟨o1, e1, _, d1⟩, ⟨o2, e2, _, d2⟩⟩ := st
    have e' : c = z ∨ c = TI ∨ c = TO ∨ c = i1 ∨ c = i2 := by simpa using hc
    rcases e' with q | q | q | q | q
    · rw [q]; exact ⟨_, hz, fun v q => nomatch q⟩
    · rw [q]; exact ⟨_, hTI, fun v q => nomatch q⟩
    · rw [q]; exact ⟨_, hTO, fun v q => nomatch q⟩
    · rw [q]; exact ⟨o1, e1, fun v q => by rw [d1] at q; cases q⟩
    · rw [q]; exact ⟨o2, e2, fun v q => by rw [d2] at q; cases q⟩
  keep := fun i h h' st k => by
    obtain ⟨hz, hTI, ⟨x, y, hTO⟩, h1, h2⟩ := st
    exact ⟨k z (by simp) _ hz, k TI (by simp) _ hTI, ⟨x, y, k TO (by simp) _ hTO⟩, h1.at fun o q => k i1 (by simp) o q, h2.at fun o q => k i2 (by simp) o q⟩
  item := by
    intro X hP hw hK hc i pins s σ H E I hf st hg
    subst hP hw hK
    obtain ⟨hz, hTI, ⟨x0, y0, hTO⟩, h1, h2⟩ := st
    obtain ⟨xs, ys, x, y, hqx, hqy, hln, hx, hy⟩ := hg
    obtain ⟨its, rv, p, _⟩ := I.list hqx
    obtain ⟨jts, rv2, p2, _⟩ := I.list hqy
    obtain ⟨u, hu, ru⟩ := rv.get hx
    obtain ⟨u2, hu2, ru2⟩ := rv2.get hy
    have zl : z < s.heap.objs.size := Heap.lt_size hz
    have is1 : s.heap.IsList a its.toArray := p.isList
    have is2 : s.heap.IsList b jts.toArray := p2.isList
    have hi : i < its.toArray.size := by
      have := (List.getElem?_eq_some_iff.mp hu).1
      simpa using this
    have hsz : jts.toArray.size = its.toArray.size := by
      have a1 := rv.length
      have a2 := rv2.length
      simp
      omega
    have D1 := Draws.list (prog := X.prog) (w := X.w) (A := X.A.in1) (show X.A.in1.handled = none from I.ok.hd hc) i1 a n1 its.toArray
    have D2 := Draws.list (prog := X.prog) (w := X.w) (A := X.A.in1) (show X.A.in1.handled = none from I.ok.hd hc) i2 b n2 jts.toArray
    rw [hsz] at D2
    refine zipS_nextI S D1 D2 hz hTI hTO ⟨h1, is1⟩ ⟨h2, is2⟩ hi fun v1 v2 h' tk e1 e2 z' TO' s1 s2 hT hk => ?_
    have f1 : v1 = u := by
      have e3 : its.toArray[i]? = some u := by simpa using hu
      rw [e3] at e1
      exact (Option.some.inj e1).symm
    have f2 : v2 = u2 := by
      have e3 : jts.toArray[i]? = some u2 := by simpa using hu2
      rw [e3] at e2
      exact (Option.some.inj e2).symm
    subst f1 f2
    refine ⟨_, rfl, zipS_letGo (s := { s with heap := h', toks := tk }) z' fun h2' z2 sb => ?_⟩
    have hT2 : h2'.get? s.heap.objs.size = some { cls := .type "tuple", data := .seq #[v1, v2] } := (sb.2 _ (Nat.ne_of_gt zl)).trans hT
    have new : ObjOk X.prog X.w (upd H s.heap.objs.size (.tup [x, y])) h2' s.heap.objs.size (.tup [x, y]) :=
      ⟨by show 2 ≤ sizeLine; decide, [v1, v2], .cons ru (.cons ru2 .nil), ⟨_, hT2, rfl, _, rfl⟩⟩
    have J : Inv X pins σ (upd H s.heap.objs.size (.tup [x, y])) { s with heap := h2', toks := tk } :=
      I.turnedNew (ch := [z, TI, TO, i1, i2]) (fun c o hb q => (sb.2 c (fun q' => hb (by simp [q']))).trans (hk c o (fun q' => hb (by simp [q'])) (fun q' => hb (by simp [q'])) (fun q' => hb (by simp [q'])) (fun q' => hb (by simp [q'])) q)) hf (Nat.le_refl _) new
    refine ⟨.ref s.heap.objs.size, _, J, rfl, ⟨_, x, y, rfl, I.hok.fresh (Nat.le_refl _), rfl, fun l hl => by rw [I.list_inj hl hqx]; exact hx, fun l hl => by rw [I.list_inj hl hqy]; exact hy⟩, ⟨z2, ?_, ⟨v1, v2, ?_⟩, ?_, ?_⟩, fun c hcm => ?_⟩
    · exact (sb.2 _ S.TIz).trans (hk _ _ S.TIz S.TITO S.TIi1 S.TIi2 hTI)
    · exact (sb.2 _ S.TOz).trans TO'
    · exact s1.1.at fun o q => (sb.2 _ (Ne.symm S.zi1)).trans q
    · exact s2.1.at fun o q => (sb.2 _ (Ne.symm S.zi2)).trans q
    · have lt : c < s.heap.objs.size := by
        have e' : c = z ∨ c = TI ∨ c = TO ∨ c = i1 ∨ c = i2 := by simpa using hcm
        rcases e' with q | q | q | q | q
        · rw [q]; exact zl
        · rw [q]; exact Heap.lt_size hTI
        · rw [q]; exact Heap.lt_size hTO
        · rw [q]; obtain ⟨_, e1, _⟩ := h1; exact Heap.lt_size e1
        · rw [q]; obtain ⟨_, e2, _⟩ := h2; exact Heap.lt_size e2
      rw [upd_ne (Nat.ne_of_lt lt)]
      exact (hf c hcm).1
  done := by
    intro X hP hw hK hc i pins s σ H E I hf st hg
    subst hP hw hK
    obtain ⟨hz, hTI, ⟨x0, y0, hTO⟩, h1, h2⟩ := st
    obtain ⟨xs, ys, hqx, hqy, l1, l2⟩ := hg
    obtain ⟨its, rv, p, _⟩ := I.list hqx
    obtain ⟨jts, rv2, p2, _⟩ := I.list hqy
    have is1 : s.heap.IsList a its.toArray := p.isList
    have is2 : s.heap.IsList b jts.toArray := p2.isList
    have D1 := Draws.list (prog := X.prog) (w := X.w) (A := X.A.in1) (show X.A.in1.handled = none from I.ok.hd hc) i1 a n1 its.toArray
    have D2 := Draws.list (prog := X.prog) (w := X.w) (A := X.A.in1) (show X.A.in1.handled = none from I.ok.hd hc) i2 b n2 jts.toArray
    have q1 : its.toArray.size = i := by have := rv.length; simp; omega
    have q2 : jts.toArray.size = i := by have := rv2.length; simp; omega
    rw [q1] at D1
    rw [q2] at D2
    refine zipS_nextE (show X.A.in1.handled = none from I.ok.hd hc) S D1 D2 (fun c hc e => S.sep1_2 (e ▸ hc)) hz hTI ⟨h1, is1⟩ ⟨h2, is2⟩ fun h' tk hk => ⟨rfl, I.turnedL (t' := tk) (ch := [z, TI, TO, i1, i2]) (fun c o hb q =>
      hk c o (fun q' => hb (by simp [q'])) (fun q' => hb (by simp [q'])) (fun q' => hb (by simp [q'])) (fun q' => hb (by simp [q'])) q) hf⟩
  self := fun A i s Q E st h => zipS_iter st.1 h
end AM
/-! AMt: zip(a, b, strict=True) begins. -/
namespace AM
open PySem PySem.Spec PyProof.Rows L2

theorem zs_type (a b c : Value) : checkTypeCall "zip" ⟨[a, b], [(Str.ofString "strict", c)]⟩ = pure () := by kernel_rfl
theorem zs_new (a b c : Value) : checkBuiltinCall "zip.__new__" ⟨[.type "zip", a, b], [(Str.ofString "strict", c)]⟩ = pure () := by kernel_rfl
theorem zs_init (obj a b c : Value) : argsOk "object.__init__" ⟨[obj, a, b], [(Str.ofString "strict", c)]⟩ := by unfold argsOk; kernel_rfl
abbrev zs3 (h : Heap) (o1 o2 : Obj) : Heap := ((h.push o1).push o2).push { cls := .type "tuple", data := .seq #[.ref h.objs.size, .ref (h.push o1).objs.size] }
abbrev zs4 (h : Heap) (o1 o2 : Obj) : Heap := (zs3 h o1 o2).push { cls := .type "tuple", data := .seq #[.none, .none] }
abbrev zs5 (h : Heap) (o1 o2 : Obj) : Heap := (zs4 h o1 o2).push { cls := .type "zip", data := .fields #[.none, .bool false, .bool true, .ref ((h.push o1).push o2).objs.size, .ref (zs3 h o1 o2).objs.size] }
theorem zs_meets {v1 v2 : Value} {o1 o2 : Obj} {H1 H2 : Heap → Prop} (B1 : Begins v1 o1 H1) (B2 : Begins v2 o2 H2) :
    Meets (Builtin.«zip.__new__» ⟨[.type "zip", v1, v2], [(Str.ofString "strict", .bool true)]⟩) (fun _ R s => (H1 s.heap ∧ H2 s.heap) ∧ R (.ok (.ret (.ref (zs4 s.heap o1 o2).objs.size))) { s with heap := zs5 s.heap o1 o2 }) :=
  .of_wp fun prog w A R s hh => by
    obtain ⟨hp, g, dr, tk, os⟩ := s
    obtain ⟨⟨h1, h2⟩, hh⟩ := hh
    have hsub := sub_zip
    have e1 : ((Str.ofString "strict" != ("strict" : Str)) : Bool) = false := by decide +kernel
    have q1 : ∀ {A' : Around} {E : Value → Shared → Prop} {Q : Value → Shared → Prop}, Q (.ref hp.objs.size) ⟨hp.push o1, g, dr, tk, os⟩ → wpAny (model prog w) A' (pyIter v1) Q E ⟨hp, g, dr, tk, os⟩ :=
      fun q => B1.iter prog w _ _ ⟨hp, g, dr, tk, os⟩ _ (B1.keeps _ _ h1 fun b o' e => e) q
    have q2 : ∀ {A' : Around} {E : Value → Shared → Prop} {Q : Value → Shared → Prop}, Q (.ref (hp.push o1).objs.size) ⟨(hp.push o1).push o2, g, dr, tk, os⟩ → wpAny (model prog w) A' (pyIter v2) Q E ⟨hp.push o1, g, dr, tk, os⟩ :=
      fun q => B2.iter prog w _ _ ⟨hp.push o1, g, dr, tk, os⟩ _ (B2.keeps _ _ h2 fun b o' e => Heap.get?_push_of_some _ e) q
    wp_walk using q1, q2
    exact ⟨_, rfl, hh⟩
theorem zs_call {prog : Program} {w : World} {A : Around} {E : Value → Shared → Prop} {s : Shared} {v1 v2 : Value} {o1 o2 : Obj} {H1 H2 : Heap → Prop} {Q : Value → Shared → Prop} (B1 : Begins v1 o1 H1) (B2 : Begins v2 o2 H2) (h1 : H1 s.heap) (h2 : H2 s.heap)
    (k : ∀ h', ZipStr h' (s.heap.objs.size + 4) (s.heap.objs.size + 2) (s.heap.objs.size + 3) .none → IsTupOf2 h' (s.heap.objs.size + 2) (.ref s.heap.objs.size) (.ref (s.heap.objs.size + 1)) →
      IsTupOf2 h' (s.heap.objs.size + 3) .none .none → h'.get? s.heap.objs.size = some o1 → h'.get? (s.heap.objs.size + 1) = some o2 → (∀ c o, s.heap.get? c = some o → h'.get? c = some o) → Q (.ref (s.heap.objs.size + 4)) { s with heap := h' }) :
    wpAny (model prog w) A (call (.type "zip") [v1, v2] [(Str.ofString "strict", .bool true)]) Q E s := by
  refine callType_newKw F.called_zip (by decide) (zs_type _ _ _) (zs_new _ _ _) (fun obj => zs_init obj _ _ _) F.entry_zip_new (zs_meets B1 B2) ⟨⟨h1, h2⟩, ?_⟩
  have n1 : (s.heap.push o1).objs.size = s.heap.objs.size + 1 := by rw [Heap.size_push]
  have n2 : ((s.heap.push o1).push o2).objs.size = s.heap.objs.size + 2 := by rw [Heap.size_push, n1]
  have n3 : (zs3 s.heap o1 o2).objs.size = s.heap.objs.size + 3 := by rw [Heap.size_push, n2]
  have n4 : (zs4 s.heap o1 o2).objs.size = s.heap.objs.size + 4 := by rw [Heap.size_push, n3]
  have g5 : (zs5 s.heap o1 o2).get? (zs4 s.heap o1 o2).objs.size = some { cls := .type "zip", data := .fields #[.none, .bool false, .bool true, .ref ((s.heap.push o1).push o2).objs.size, .ref (zs3 s.heap o1 o2).objs.size] } := Heap.get?_push_size _ rfl
  have g4 : (zs5 s.heap o1 o2).get? (zs3 s.heap o1 o2).objs.size = some { cls := .type "tuple", data := .seq #[.none, .none] } := Heap.get?_push_of_some _ (Heap.get?_push_size _ rfl)
  have g3 : (zs5 s.heap o1 o2).get? ((s.heap.push o1).push o2).objs.size = some { cls := .type "tuple", data := .seq #[.ref s.heap.objs.size, .ref (s.heap.push o1).objs.size] } := Heap.get?_push_of_some _ (Heap.get?_push_of_some _ (Heap.get?_push_size _ rfl))
  have g1 : (zs5 s.heap o1 o2).get? s.heap.objs.size = some o1 := Heap.get?_push_of_some _ (Heap.get?_push_of_some _ (Heap.get?_push_of_some _ (Heap.get?_push_of_some _ (Heap.get?_push_size _ B1.free))))
  have g2 : (zs5 s.heap o1 o2).get? (s.heap.push o1).objs.size = some o2 := Heap.get?_push_of_some _ (Heap.get?_push_of_some _ (Heap.get?_push_of_some _ (Heap.get?_push_size _ B2.free)))
  rw [n4, n3, n2] at g5
  rw [n3] at g4
  rw [n2, n1] at g3
  rw [n1] at g2
  show _ ∧ _
  rw [n4]
  exact ⟨⟨_, g5, rfl⟩, k _ g5 g3 g4 g1 g2 fun c o e => Heap.get?_push_of_some _ (Heap.get?_push_of_some _ (Heap.get?_push_of_some _ (Heap.get?_push_of_some _ (Heap.get?_push_of_some _ e))))⟩
theorem zs_ne {n i j : Nat} (h : i ≠ j) : n + i ≠ n + j := by omega
theorem zs_nm {n a i j : Nat} (ha : a < n) (h : i ≠ j) : n + i ∉ [n + j, a] := by
  simp only [List.mem_cons, List.not_mem_nil, or_false, not_or]
  omega
theorem zs_sep {n a b : Nat} (ha : a < n) (hb : b < n) : ZipSep2 (n + 4) (n + 2) (n + 3) (n + 0) (n + 1) [n + 0, a] [n + 1, b] :=
  ⟨zs_ne (by decide), zs_ne (by decide), zs_ne (by decide), zs_ne (by decide), by simp, zs_nm ha (by decide), zs_nm ha (by decide), zs_ne (by decide), by simp, zs_nm hb (by decide), zs_nm hb (by decide), zs_nm hb (by decide), zs_nm ha (by decide)⟩
theorem pi_zs {X : Cx} {e e2 : Expr} {ta : TA} {p pos tpos kpos : Pos} {elts : List Expr} {kk : Nat} {c : Nat} {cp : Pos} (hg : Gl X "zip") (hm : X.mg "zip" = none) (ha : PA X [e, e2] ta) (h1 : isStar e = false) (h2 : isStar e2 = false) :
    PI X (.Tuple elts kk tpos) (.Call (.Name "zip" p) [e, e2] [⟨some "strict", .Constant (.bool true) c cp, kpos⟩] pos) (fun σ H R => ta σ H fun vs H1 => ∃ a b xs ys, vs = [.ref a, .ref b] ∧ xs.length = ys.length ∧
      ((SqL X.K H1 a xs ∧ SqL X.K H1 b ys ∧ R (ItzSL X.K a b) H1) ∨ (SqT X.K H1 a xs ∧ SqT X.K H1 b ys ∧ R (ItzST X.K a b) H1))) := by
  refine ⟨fun pins s σ H R I h => ?_⟩
  refine wpAny_Call_Name_kw (ld_blt I hg hm PyProof.Rows.boot_zip ?_)
  refine PySem.W.callWith_of (P := fun _ => True) (by rw [starEach_plain h1, starEach_plain h2]; rfl) (fun h _ => ⟨.machine, .inr (.inl rfl), .now⟩) (evalArgs_kw2 rfl ?_ (starEach_plain h1))
  refine thn (ha.run pos pins s σ H _ I h) fun us s1 ⟨vs, H1, I1, r1, q1⟩ => ?_
  have pk : PK X [⟨some "strict", .Constant (.bool true) c cp, kpos⟩] (tCons (tC (.bl true)) tNil) := pk_cons pe_bl pk_nil
  refine thn (pk.run pos pins s1 σ H1 (fun zs H2 => zs = [.bl true] ∧ H2 = H1) I1 ⟨rfl, rfl⟩) fun ws s2 ⟨zs, H2, I2, rz, ez, eH⟩ => ⟨trivial, ?_⟩
  subst ez eH
  obtain ⟨a, b, xs, ys, rfl, hln, q1⟩ := q1
  obtain ⟨w1, rfl, rw1⟩ := Vals.one rz
  obtain rfl : w1 = .bool true := rw1
  cases r1 with
  | cons r rr =>
    cases rr with
    | cons r' rr =>
      cases rr
      cases r
      cases r'
      have fp5 : ∀ c, c ∈ [s2.heap.objs.size + 4, s2.heap.objs.size + 2, s2.heap.objs.size + 3, s2.heap.objs.size + 0, s2.heap.objs.size + 1] → FpOk X pins H2 c := fun c hcm => by
        have hle : s2.heap.objs.size ≤ c := by
          simp only [List.mem_cons, List.not_mem_nil, or_false] at hcm
          rcases hcm with q | q | q | q | q <;> (rw [q]; exact Nat.le_add_right _ _)
        exact I2.fpOk hle (I2.hok.fresh hle)
      have nx : ∀ {a : Nat}, a < s2.heap.objs.size → a ≠ s2.heap.objs.size + 0 ∧ a ≠ s2.heap.objs.size + 1 := fun h => by omega
      rcases q1 with ⟨hqx, hqy, q⟩ | ⟨hqx, hqy, q⟩
      · obtain ⟨its, rv, p1, _⟩ := I2.list hqx
        obtain ⟨jts, rv2, p2, _⟩ := I2.list hqy
        have is1 : s2.heap.IsList a its.toArray := p1.isList
        have is2 : s2.heap.IsList b jts.toArray := p2.isList
        have la : a < s2.heap.objs.size := by obtain ⟨o, e, _⟩ := is1; exact Heap.lt_size e
        have lb : b < s2.heap.objs.size := by obtain ⟨o, e, _⟩ := is2; exact Heap.lt_size e
        show wpAny _ _ (call (.type "zip") [.ref a, .ref b] [(Str.ofString "strict", .bool true)]) _ _ _
        refine zs_call (begins_list a its.toArray) (begins_list b jts.toArray) is1 is2 fun h' hz hTI hTO e1 e2 hk => zipS_iter hz ?_
        have I3 : Inv X pins σ H2 { s2 with heap := h' } := I2.kept (t' := s2.toks) hk
        exact ⟨s2.heap.objs.size + 4, _, _, _, H2, rfl, I3, zipSL_turn (zs_sep la lb) (nx la).1 (nx lb).2, ⟨hz, hTI, ⟨_, _, hTO⟩, ⟨_, e1, rfl, rfl⟩, ⟨_, e2, rfl, rfl⟩⟩, fp5, q⟩
      · obtain ⟨its, rv, p1, _⟩ := I2.tuple hqx
        obtain ⟨jts, rv2, p2, _⟩ := I2.tuple hqy
        have is1 : s2.heap.IsTuple a its.toArray := p1
        have is2 : s2.heap.IsTuple b jts.toArray := p2
        have la : a < s2.heap.objs.size := by obtain ⟨o, e, _⟩ := is1; exact Heap.lt_size e
        have lb : b < s2.heap.objs.size := by obtain ⟨o, e, _⟩ := is2; exact Heap.lt_size e
        show wpAny _ _ (call (.type "zip") [.ref a, .ref b] [(Str.ofString "strict", .bool true)]) _ _ _
        refine zs_call (begins_tuple a its.toArray) (begins_tuple b jts.toArray) is1 is2 fun h' hz hTI hTO e1 e2 hk => zipS_iter hz ?_
        have I3 : Inv X pins σ H2 { s2 with heap := h' } := I2.kept (t' := s2.toks) hk
        exact ⟨s2.heap.objs.size + 4, _, _, _, H2, rfl, I3, zipST_turn (zs_sep la lb) (nx la).1 (nx lb).2, ⟨hz, hTI, ⟨_, _, hTO⟩, ⟨_, e1, rfl, rfl⟩, ⟨_, e2, rfl, rfl⟩⟩, fp5, q⟩
theorem zipI_get : ∀ {xs ys : List AV} {i : Nat} {a : AV}, (zipI xs ys)[i]? = some a → ∃ x y, xs[i]? = some x ∧ ys[i]? = some y ∧ a = .tup [x, y]
  | [], _, _, _, e => by simp [zipI] at e
  | _ :: _, [], _, _, e => by simp [zipI] at e
  | x :: xs, y :: ys, 0, a, e => by
    simp [zipI] at e
    exact ⟨x, y, rfl, rfl, e.symm⟩
  | x :: xs, y :: ys, i + 1, a, e => by
    simp [zipI] at e
    obtain ⟨u, v, h1, h2, h3⟩ := zipI_get e
    exact ⟨u, v, by simpa using h1, by simpa using h2, h3⟩
theorem zipI_len : ∀ {xs ys : List AV}, xs.length = ys.length → (zipI xs ys).length = xs.length
  | [], _, _ => by simp [zipI]
  | _ :: _, [], h => by simp at h
  | x :: xs, y :: ys, h => by
    simp at h
    simp [zipI, zipI_len h]
section
variable {G : Gh} {X : Cx} {d : DC} {W : WX}
theorem walk_zL {ι : List Addr} {H : Hp} {a b : Addr} {xs ys : List AV} {vs ws : List V} (hl : xs.length = ys.length) (t1 : ∀ ι1 H1, Ext ι H ι1 H1 → SqL G.K H1 a vs) (t2 : ∀ ι1 H1, Ext ι H ι1 H1 → SqL G.K H1 b ws) (q1 : RVs G ι H xs vs) (q2 : RVs G ι H ys ws) : WalkOk G ι H (zipI xs ys) (ItzSL G.K a b) where
  goes := fun i ι1 H1 x hi => by
    rw [zipI_len hl] at hi
    have h1 : i < vs.length := by rw [← q1.length]; exact hi
    have h2 : i < ws.length := by rw [← q2.length, ← hl]; exact hi
    exact ⟨vs, ws, vs[i], ws[i], t1 ι1 H1 x, t2 ι1 H1 x, by rw [← q1.length, ← q2.length]; exact hl, by simp [h1], by simp [h2]⟩
  stops := fun ι1 H1 x => ⟨vs, ws, t1 ι1 H1 x, t2 ι1 H1 x, by rw [zipI_len hl, q1.length], by rw [zipI_len hl, hl, q2.length]⟩
  yields := fun l hl' i ι1 H1 h1 a' x H2 xx rh e y => by
    obtain ⟨u, v, e1, e2, rfl⟩ := zipI_get e
    obtain ⟨u', e3, ru⟩ := q1.get e1
    obtain ⟨v', e4, rv⟩ := q2.get e2
    obtain ⟨P, y1, y2, rfl, np, rfl, g1, g2⟩ := y
    rw [g1 vs (t1 ι1 H1 xx)] at e3
    rw [g2 ws (t2 ι1 H1 xx)] at e4
    cases e3
    cases e4
    exact ⟨Ext.fresh np, rh.fresh np, .tup (RT.new rh np) (.cons (((ru.move (Mv.hideL hl')).mono xx).mono (Ext.fresh np)) (.cons (((rv.move (Mv.hideL hl')).mono xx).mono (Ext.fresh np)) .nil))⟩
theorem walk_zT {ι : List Addr} {H : Hp} {a b : Addr} {xs ys : List AV} {vs ws : List V} (hl : xs.length = ys.length) (t1 : RT G ι H a vs) (t2 : RT G ι H b ws) (q1 : RVs G ι H xs vs) (q2 : RVs G ι H ys ws) : WalkOk G ι H (zipI xs ys) (ItzST G.K a b) where
  goes := fun i ι1 H1 x hi => by
    rw [zipI_len hl] at hi
    have h1 : i < vs.length := by rw [← q1.length]; exact hi
    have h2 : i < ws.length := by rw [← q2.length, ← hl]; exact hi
    exact ⟨vs, ws, vs[i], ws[i], (t1.mono x).sq, (t2.mono x).sq, by rw [← q1.length, ← q2.length]; exact hl, by simp [h1], by simp [h2]⟩
  stops := fun ι1 H1 x => ⟨vs, ws, (t1.mono x).sq, (t2.mono x).sq, by rw [zipI_len hl, q1.length], by rw [zipI_len hl, hl, q2.length]⟩
  yields := fun l hl' i ι1 H1 h1 a' x H2 xx rh e y => by
    obtain ⟨u, v, e1, e2, rfl⟩ := zipI_get e
    obtain ⟨u', e3, ru⟩ := q1.get e1
    obtain ⟨v', e4, rv⟩ := q2.get e2
    obtain ⟨P, y1, y2, rfl, np, rfl, g1, g2⟩ := y
    rw [g1 vs (t1.mono xx).sq] at e3
    rw [g2 ws (t2.mono xx).sq] at e4
    cases e3
    cases e4
    exact ⟨Ext.fresh np, rh.fresh np, .tup (RT.new rh np) (.cons (((ru.move (Mv.hideL hl')).mono xx).mono (Ext.fresh np)) (.cons (((rv.move (Mv.hideL hl')).mono xx).mono (Ext.fresh np)) .nil))⟩
theorem pi_zipS (ok : XOk X G d) {f : Expr → ME} {e e2 : Expr} {es : List Expr} {k c : Nat} {cp kpos tpos p pos : Pos} (hg : glB d.sc "zip" = true) (hf : d.free "zip" = true) (h1 : isStar e = false) (h2 : isStar e2 = false) (he : ∀ e, PE X e (RE G W (f e))) :
    PI X (.Tuple es k tpos) (.Call (.Name "zip" p) [e, e2] [⟨some "strict", .Constant (.bool true) c cp, kpos⟩] pos) (RI G W fun ρ h => (evsM f [e, e2] ρ h).bind zipR) := by
  refine PI_imp (pi_zs (ok.gl _ hg) (ok.free _ hf) (ra_evs [e, e2] fun a _ => he a) h1 h2) fun σ H R ⟨ι, ρ, h, rh, rs, q⟩ => ⟨ι, ρ, h, rh, rs, Post.bind q fun ι1 H1 vs us h3 x1 rh1 r1 p1 => ?_⟩
  rw [ok.K]
  unfold zipR at p1
  split at p1
  · rename_i v w
    obtain ⟨u1, u2, rfl, rv, rw2⟩ := inv2 r1
    split at p1
    · rename_i xs ys
      by_cases hl : xs.length = ys.length
      · rw [if_pos hl] at p1
        cases rv with
        | @lst _ a vs1 t1 q1 => cases rw2 with
          | @lst _ b vs2 t2 q2 => exact ⟨a, b, vs1, vs2, rfl, by rw [← q1.length, ← q2.length]; exact hl, .inl ⟨t1.sq, t2.sq, p1.now rh1 (walk_zL hl t1.keep t2.keep q1 q2)⟩⟩
      · rw [if_neg hl] at p1
        exact p1.elim
    · rename_i xs ys
      by_cases hl : xs.length = ys.length
      · rw [if_pos hl] at p1
        cases rv with
        | @tup _ a vs1 t1 q1 => cases rw2 with
          | @tup _ b vs2 t2 q2 => exact ⟨a, b, vs1, vs2, rfl, by rw [← q1.length, ← q2.length]; exact hl, .inr ⟨t1.sq, t2.sq, p1.now rh1 (walk_zT hl t1 t2 q1 q2)⟩⟩
      · rw [if_neg hl] at p1
        exact p1.elim
    · exact p1.elim
  · exact p1.elim
end
end AM
/-! AMi: iterables, comprehensions. -/
namespace AM
open PySem PySem.Spec PyProof.Rows L2

section
variable {X : Cx} {G : Gh} {d : DC} {W : WX}
theorem evs1 {f : Expr → ME} {a : Expr} {env : PySem.Env} (h : isStar a = false) : starEach [a] env = [(false, eval a env)] := by rw [starEach_plain h]; rfl
theorem pi_rng1 (ok : XOk X G d) {f : Expr → ME} {tg a : Expr} {p pos : Pos} (hg : glB d.sc "range" = true) (hf : d.free "range" = true) (ha : PE X a (RE G W (f a))) :
    PI X tg (.Call (.Name "range" p) [a] [] pos) (RI G W fun ρ h => (argsM f [a] ρ h).bind rangeR) := by
  by_cases c : plainAll [a] = true
  · have pl := plainAll_ok c
    have hA : PA X [a] (RA G W (argsM f [a])) := ra_args fun e he => by
      have : e = a := by simpa using he
      rw [this]; exact ha
    refine PI_imp (pi_range1 (ok.gl _ hg) (ok.free _ hf) hA (evs1 (f := f) (pl a (List.mem_cons_self ..)))) fun σ H R ⟨ι, ρ, h, rh, rs, q⟩ => ⟨ι, ρ, h, rh, rs, Post.bindE q fun ι1 H1 vs us h1 e1 x1 rh1 r1 p1 => ?_⟩
    have hl : vs.length = 1 := by
      unfold argsM at e1
      rw [if_pos c] at e1
      exact evs_len e1
    match vs, hl with
    | [v], _ =>
      obtain ⟨u, rfl, rv⟩ := inv1 r1
      cases v with
      | int j =>
        have p1 : Post G (WalkOk G) W σ ι1 H1 R (if small62 j then .ok (ranges 0 j.toNat) h1 else .stk) := p1
        by_cases c2 : small62 j = true
        · rw [if_pos c2] at p1
          unfold small62 at c2
          rw [Bool.and_eq_true, decide_eq_true_eq, decide_eq_true_eq] at c2
          rw [inv_int rv]
          exact ⟨j, rfl, c2.1, c2.2, p1.now rh1 walk_rng⟩
        · rw [if_neg c2] at p1
          exact p1.elim
      | _ => exact p1.elim
  · refine pi_dead fun ρ h => ?_
    unfold argsM
    rw [if_neg c]
    rfl
theorem pi_rng2 (ok : XOk X G d) {f : Expr → ME} {tg a b : Expr} {p pos : Pos} (hg : glB d.sc "range" = true) (hf : d.free "range" = true) (ha : PE X a (RE G W (f a))) (hb : PE X b (RE G W (f b))) :
    PI X tg (.Call (.Name "range" p) [a, b] [] pos) (RI G W fun ρ h => (argsM f [a, b] ρ h).bind rangeR) := by
  by_cases c : plainAll [a, b] = true
  · have pl := plainAll_ok c
    have hA : PA X [a, b] (RA G W (argsM f [a, b])) := ra_args fun e he => by
      have : e = a ∨ e = b := by simpa using he
      rcases this with z | z
      · rw [z]; exact ha
      · rw [z]; exact hb
    have p1 : isStar a = false := pl a (by simp)
    have p2 : isStar b = false := pl b (by simp)
    refine PI_imp (pi_range2 (ok.gl _ hg) (ok.free _ hf) hA (by rw [starEach_plain p1, evs1 (f := f) p2]) (evs1 (f := f) p2)) fun σ H R ⟨ι, ρ, h, rh, rs, q⟩ => ⟨ι, ρ, h, rh, rs, Post.bindE q fun ι1 H1 vs us h1 e1 x1 rh1 r1 p1 => ?_⟩
    have hl : vs.length = 2 := by
      unfold argsM at e1
      rw [if_pos c] at e1
      exact evs_len e1
    match vs, hl with
    | [v, w], _ =>
      obtain ⟨u, u2, rfl, rv, rw2⟩ := inv2 r1
      cases v with
      | int i =>
        cases w with
        | int j =>
          have p1 : Post G (WalkOk G) W σ ι1 H1 R (if small62 i && small62 j then .ok (ranges i (j - i).toNat) h1 else .stk) := p1
          by_cases c2 : (small62 i && small62 j) = true
          · rw [if_pos c2] at p1
            unfold small62 at c2
            simp only [Bool.and_eq_true, decide_eq_true_eq] at c2
            rw [inv_int rv, inv_int rw2]
            exact ⟨i, j, rfl, ⟨c2.1.1, c2.1.2, c2.2.1, c2.2.2⟩, p1.now rh1 walk_rng⟩
          · rw [if_neg c2] at p1
            exact p1.elim
        | _ => exact p1.elim
      | _ => exact p1.elim
  · refine pi_dead fun ρ h => ?_
    unfold argsM
    rw [if_neg c]
    rfl
theorem pi_rng3 (ok : XOk X G d) {f : Expr → ME} {tg a b c : Expr} {p pos : Pos} (hg : glB d.sc "range" = true) (hf : d.free "range" = true) (ha : ∀ e, PE X e (RE G W (f e))) :
    PI X tg (.Call (.Name "range" p) [a, b, c] [] pos) (RI G W fun ρ h => (argsM f [a, b, c] ρ h).bind rangeR) := by
  by_cases cc : plainAll [a, b, c] = true
  · have pl := plainAll_ok cc
    have hA : PA X [a, b, c] (RA G W (argsM f [a, b, c])) := ra_args fun e _ => ha e
    have p1 : isStar a = false := pl a (by simp)
    have p2 : isStar b = false := pl b (by simp)
    have p3 : isStar c = false := pl c (by simp)
    refine PI_imp (pi_range3 (ok.gl _ hg) (ok.free _ hf) hA (starEach_plain p1) (by rw [starEach_plain p2, evs1 (f := f) p3]; rfl)) fun σ H R ⟨ι, ρ, h, rh, rs, q⟩ => ⟨ι, ρ, h, rh, rs, Post.bindE q fun ι1 H1 vs us h1 ev x1 rh1 r1 p1 => ?_⟩
    have hl : vs.length = 3 := by
      unfold argsM at ev
      rw [if_pos cc] at ev
      exact evs_len ev
    unfold rangeR at p1
    split at p1
    · cases hl
    · cases hl
    · rename_i i j c
      cases r1 with
      | cons q1 t => cases t with
        | cons q2 t => cases t with
          | cons q3 t =>
            cases t
            cases q1
            cases q2
            cases q3
            split at p1
            · rename_i cn
              simp only [Bool.and_eq_true, decide_eq_true_eq] at cn
              obtain ⟨⟨⟨c1, c2⟩, c3⟩, c4⟩ := cn
              exact ⟨i, j, c, _, rfl, ⟨c1, c2, c3, by omega⟩, p1.now rh1 walk_rngC⟩
            · exact p1.elim
    · exact p1.elim
  · refine pi_dead fun ρ h => ?_
    unfold argsM
    rw [if_neg cc]
    rfl
theorem zipI_lenM : ∀ {xs ys : List AV}, (zipI xs ys).length = min xs.length ys.length
  | [], _ => by simp [zipI]
  | _ :: _, [] => by simp [zipI]
  | x :: xs, y :: ys => by
    simp only [zipI, List.length_cons, zipI_lenM (xs := xs) (ys := ys)]
    omega
theorem walk_qL {ι : List Addr} {H : Hp} {a b : Addr} {xs ys : List AV} {vs ws : List V} (t1 : RL G ι H a vs) (t2 : RL G ι H b ws) (q1 : RVs G ι H xs vs) (q2 : RVs G ι H ys ws) : WalkOk G ι H (zipI xs ys) (Itz G.K a b) where
  goes := fun i ι1 H1 x hi => by
    rw [zipI_lenM, q1.length, q2.length] at hi
    have h1 : i < vs.length := by omega
    have h2 : i < ws.length := by omega
    exact ⟨vs, ws, vs[i], ws[i], (t1.mono x).sq, (t2.mono x).sq, by simp [h1], by simp [h2]⟩
  stops := fun ι1 H1 x => ⟨vs, ws, (t1.mono x).sq, (t2.mono x).sq, by rw [zipI_lenM, q1.length, q2.length]; omega⟩
  yields := fun l hl' i ι1 H1 h1 a' x H2 xx rh e y => by
    obtain ⟨u, v, e1, e2, rfl⟩ := zipI_get e
    obtain ⟨u', e3, ru⟩ := q1.get e1
    obtain ⟨v', e4, rv⟩ := q2.get e2
    obtain ⟨P, y1, y2, rfl, np, rfl, g1, g2⟩ := y
    rw [g1 vs (t1.mono xx).sq] at e3
    rw [g2 ws (t2.mono xx).sq] at e4
    cases e3
    cases e4
    exact ⟨Ext.fresh np, rh.fresh np, .tup (RT.new rh np) (.cons (((ru.move (Mv.hideL hl')).mono xx).mono (Ext.fresh np)) (.cons (((rv.move (Mv.hideL hl')).mono xx).mono (Ext.fresh np)) .nil))⟩
theorem walk_qT {ι : List Addr} {H : Hp} {a b : Addr} {xs ys : List AV} {vs ws : List V} (t1 : RT G ι H a vs) (t2 : RT G ι H b ws) (q1 : RVs G ι H xs vs) (q2 : RVs G ι H ys ws) : WalkOk G ι H (zipI xs ys) (RZ.ItzT G.K a b) where
  goes := fun i ι1 H1 x hi => by
    rw [zipI_lenM, q1.length, q2.length] at hi
    have h1 : i < vs.length := by omega
    have h2 : i < ws.length := by omega
    exact ⟨vs, ws, vs[i], ws[i], (t1.mono x).sq, (t2.mono x).sq, by simp [h1], by simp [h2]⟩
  stops := fun ι1 H1 x => ⟨vs, ws, (t1.mono x).sq, (t2.mono x).sq, by rw [zipI_lenM, q1.length, q2.length]; omega⟩
  yields := fun l hl' i ι1 H1 h1 a' x H2 xx rh e y => by
    obtain ⟨u, v, e1, e2, rfl⟩ := zipI_get e
    obtain ⟨u', e3, ru⟩ := q1.get e1
    obtain ⟨v', e4, rv⟩ := q2.get e2
    obtain ⟨P, y1, y2, rfl, np, rfl, g1, g2⟩ := y
    rw [g1 vs (t1.mono xx).sq] at e3
    rw [g2 ws (t2.mono xx).sq] at e4
    cases e3
    cases e4
    exact ⟨Ext.fresh np, rh.fresh np, .tup (RT.new rh np) (.cons (((ru.move (Mv.hideL hl')).mono xx).mono (Ext.fresh np)) (.cons (((rv.move (Mv.hideL hl')).mono xx).mono (Ext.fresh np)) .nil))⟩
theorem pi_zipQ (ok : XOk X G d) {f : Expr → ME} {a b : Expr} {es : List Expr} {k : Nat} {tpos p pos : Pos} (hg : glB d.sc "zip" = true) (hf : d.free "zip" = true) (ha : ∀ e, PE X e (RE G W (f e))) :
    PI X (.Tuple es k tpos) (.Call (.Name "zip" p) [a, b] [] pos) (RI G W fun ρ h => (argsM f [a, b] ρ h).bind zipQ) := by
  by_cases cc : plainAll [a, b] = true
  · have pl := plainAll_ok cc
    have hA : PA X [a, b] (RA G W (argsM f [a, b])) := ra_args fun e _ => ha e
    have p1 : isStar a = false := pl a (by simp)
    have p2 : isStar b = false := pl b (by simp)
    refine PI_imp (RZ.pi_zipA (ok.gl _ hg) (ok.free _ hf) hA (starEach_plain p1) (by rw [evs1 (f := f) p2]; rfl)) fun σ H R ⟨ι, ρ, h, rh, rs, q⟩ => ⟨ι, ρ, h, rh, rs, Post.bind q fun ι1 H1 vs us h1 x1 rh1 r1 p1 => ?_⟩
    rw [ok.K]
    unfold zipQ at p1
    split at p1
    · rename_i v w
      obtain ⟨u1, u2, rfl, rv, rw2⟩ := inv2 r1
      split at p1
      · cases rv with
        | @lst _ a vs1 t1 q1 => cases rw2 with
          | @lst _ b vs2 t2 q2 => exact ⟨a, b, vs1, vs2, rfl, .inl ⟨t1.sq, t2.sq, p1.now rh1 (walk_qL t1 t2 q1 q2)⟩⟩
      · cases rv with
        | @tup _ a vs1 t1 q1 => cases rw2 with
          | @tup _ b vs2 t2 q2 => exact ⟨a, b, vs1, vs2, rfl, .inr ⟨t1.sq, t2.sq, p1.now rh1 (walk_qT t1 t2 q1 q2)⟩⟩
      · exact p1.elim
    · exact p1.elim
  · refine pi_dead fun ρ h => ?_
    unfold argsM
    rw [if_neg cc]
    rfl
theorem pi_en (ok : XOk X G d) {f : Expr → ME} {a : Expr} {es : List Expr} {k : Nat} {tpos p pos : Pos} (hg : glB d.sc "enumerate" = true) (hf : d.free "enumerate" = true) (ha : PE X a (RE G W (f a))) :
    PI X (.Tuple es k tpos) (.Call (.Name "enumerate" p) [a] [] pos) (RI G W fun ρ h => (argsM f [a] ρ h).bind enumR) := by
  by_cases c : plainAll [a] = true
  · have pl := plainAll_ok c
    have hA : PA X [a] (RA G W (argsM f [a])) := ra_args fun e he => by
      have : e = a := by simpa using he
      rw [this]; exact ha
    have hst := evs1 (f := f) (env := X.env) (pl a (List.mem_cons_self ..))
    refine ⟨fun pins s σ H R I ⟨ι, ρ, h, rh, rs, q⟩ => ?_⟩
    have q : Post G (WalkOk G) W σ ι H R ((argsM f [a] ρ h).bind enumR) := q
    cases e0 : argsM f [a] ρ h with
    | stk => rw [e0] at q; exact q.elim
    | exc c fs h' => rw [e0] at q; exact (pi_enum (ok.gl _ hg) (ok.free _ hf) hA hst).run pins s σ H R I ⟨ι, ρ, h, rh, rs, by rw [e0]; exact q⟩
    | ok vs h1 =>
      have hl : vs.length = 1 := by
        unfold argsM at e0
        rw [if_pos c] at e0
        exact evs_len e0
      rw [e0] at q
      match vs, hl with
      | [v], _ =>
        cases v with
        | lst xs =>
          exact (pi_enum (ok.gl _ hg) (ok.free _ hf) hA hst).run pins s σ H R I ⟨ι, ρ, h, rh, rs, by
            rw [e0]
            intro ι1 H1 us x1 rh1 r1
            obtain ⟨u, rfl, rv⟩ := inv1 r1
            rw [ok.K]
            cases rv with
            | @lst _ b vs t q2 => exact ⟨b, vs, rfl, t.sq, Post.at (a := enumI 0 xs) q x1 rh1 (walk_en t.keep q2)⟩⟩
        | ext xs =>
          exact (pi_enum (ok.gl _ hg) (ok.free _ hf) hA hst).run pins s σ H R I ⟨ι, ρ, h, rh, rs, by
            rw [e0]
            intro ι1 H1 us x1 rh1 r1
            obtain ⟨u, rfl, rv⟩ := inv1 r1
            rw [ok.K]
            cases rv with
            | @ext _ b vs t q2 => exact ⟨b, vs, rfl, t.sq, Post.at (a := enumI 0 xs) q x1 rh1 (walk_en t.keep q2)⟩⟩
        | tup xs =>
          exact (pi_enT0 (ok.gl _ hg) (ok.free _ hf) hA hst).run pins s σ H R I ⟨ι, ρ, h, rh, rs, by
            rw [e0]
            intro ι1 H1 us x1 rh1 r1
            obtain ⟨u, rfl, rv⟩ := inv1 r1
            rw [ok.K]
            cases rv with
            | @tup _ b vs t q2 => exact ⟨b, vs, rfl, t.sq, Post.at (a := enumI 0 xs) q x1 rh1 (walk_enT t q2)⟩⟩
        | str z =>
          have q : Post G (WalkOk G) W σ ι H R (if z.cps.all (· < 128) then .ok (enumI 0 (signs z)) h1 else .stk) := q
          by_cases cz : z.cps.all (· < 128) = true
          · rw [if_pos cz] at q
            exact (pi_enS0 (ok.gl _ hg) (ok.free _ hf) hA hst).run pins s σ H R I ⟨ι, ρ, h, rh, rs, by
              rw [e0]
              intro ι1 H1 us x1 rh1 r1
              obtain ⟨u, rfl, rv⟩ := inv1 r1
              rw [inv_str rv]
              exact ⟨z, rfl, cz, Post.at (a := enumI 0 (signs z)) q x1 rh1 walk_enS⟩⟩
          · rw [if_neg cz] at q
            exact q.elim
        | _ => exact q.elim
  · refine pi_dead fun ρ h => ?_
    unfold argsM
    rw [if_neg c]
    rfl
theorem pi_it (ok : XOk X G d) {f : Expr → ME} {tg : Expr} (it : Expr) (hf : ∀ e, PE X e (RE G W (f e))) : PI X tg it (RI G W (itM f d tg it)) := by
  unfold itM
  by_cases c : isSet it = true
  · rw [if_pos c]; exact pi_dead fun _ _ => rfl
  rw [if_neg c]
  split
  · rename_i x p args pos
    by_cases c1 : x = "range"
    · rw [if_pos c1]
      subst c1
      by_cases c2 : (glB d.sc "range" && d.free "range" && (Nat.beq args.length 1 || Nat.beq args.length 2 || Nat.beq args.length 3)) = true
      · rw [if_pos c2]
        rw [Bool.and_eq_true, Bool.and_eq_true, Bool.or_eq_true, Bool.or_eq_true] at c2
        obtain ⟨⟨h1, h2⟩, h3⟩ := c2
        match args, h3 with
        | [a], _ => exact pi_rng1 ok h1 h2 (hf a)
        | [a, b], _ => exact pi_rng2 ok h1 h2 (hf a) (hf b)
        | [], h3 => exact absurd h3 (by simp)
        | [a, b, e], _ => exact pi_rng3 ok h1 h2 hf
        | _ :: _ :: _ :: _ :: r, h3 => exact absurd h3 (by simp)
      · rw [if_neg c2]; exact pi_dead fun _ _ => rfl
    · rw [if_neg c1]
      by_cases c3 : x = "enumerate"
      · rw [if_pos c3]
        subst c3
        by_cases c2 : (glB d.sc "enumerate" && d.free "enumerate" && isTup tg && Nat.beq args.length 1) = true
        · rw [if_pos c2]
          rw [Bool.and_eq_true, Bool.and_eq_true, Bool.and_eq_true] at c2
          obtain ⟨⟨⟨h1, h2⟩, h4⟩, h3⟩ := c2
          match args, h3 with
          | [a], _ =>
            cases tg with
            | Tuple es k tpos => exact pi_en ok h1 h2 (hf a)
            | _ => cases h4
          | [], h3 => exact absurd h3 (by simp)
          | _ :: _ :: r, h3 => exact absurd h3 (by simp)
        · rw [if_neg c2]; exact pi_dead fun _ _ => rfl
      · rw [if_neg c3]
        by_cases c4 : x = "zip"
        · rw [if_pos c4]
          subst c4
          by_cases c2 : (glB d.sc "zip" && d.free "zip" && isTup tg && Nat.beq args.length 2) = true
          · rw [if_pos c2]
            rw [Bool.and_eq_true, Bool.and_eq_true, Bool.and_eq_true] at c2
            obtain ⟨⟨⟨h1, h2⟩, h4⟩, h3⟩ := c2
            match args, h3 with
            | [a, b], _ =>
              cases tg with
              | Tuple es k tpos => exact pi_zipQ ok h1 h2 hf
              | _ => cases h4
            | [], h3 => exact absurd h3 (by simp)
            | [_], h3 => exact absurd h3 (by simp)
            | _ :: _ :: _ :: r, h3 => exact absurd h3 (by simp)
          · rw [if_neg c2]; exact pi_dead fun _ _ => rfl
        · rw [if_neg c4]; exact pi_items ok (hf _)
  · rename_i x p e e2 kw c cp kpos pos
    by_cases c1 : x = "zip" ∧ kw = "strict"
    · rw [if_pos c1]
      obtain ⟨rfl, rfl⟩ := c1
      by_cases c2 : (glB d.sc "zip" && d.free "zip" && isTup tg && !isStar e && !isStar e2) = true
      · rw [if_pos c2]
        simp only [Bool.and_eq_true, Bool.not_eq_true'] at c2
        obtain ⟨⟨⟨⟨h1, h2⟩, h3⟩, h4⟩, h5⟩ := c2
        cases tg with
        | Tuple es k tpos => exact pi_zipS ok h1 h2 h4 h5 hf
        | _ => cases h3
      · rw [if_neg c2]; exact pi_dead fun _ _ => rfl
    · rw [if_neg c1]; exact pi_items ok (hf _)
  · exact pi_items ok (hf _)
theorem notSet {it : Expr} {env : PySem.Env} (h : ¬ isSet it = true) : ∀ x, foldedSetIterable it env x = pure x := by
  intro x
  cases it <;> first | rfl | exact absurd rfl h
/-! ### a walk with hidden objects -/
def wlk {items : List AV} {J : It} {ι : List Addr} {H : Hp} (w : WalkOk G ι H items J) : L2.Walk J items.length (fun H' => ∃ ι', Ext ι H ι' H') (fun i H x H' => J.yld i H x H') where
  goes := fun i H1 hi ⟨ι1, x⟩ => w.goes i ι1 H1 x hi
  stops := fun H1 ⟨ι1, x⟩ => w.stops ι1 H1 x
  yields := fun _ _ _ _ _ _ y => y
theorem Post.noX {α β γ δ : Type} {G' : Gh} {R : List Addr → Hp → α → β → Prop} {R' : List Addr → Hp → γ → δ → Prop} {W W' : WX} {σ σ' : L2.St} {ι ι' : List Addr} {H H' : Hp} {Q' : δ → Hp → Prop} {r : Res α} {f : α → AH → Res γ} {K : β → Hp → Prop}
    (p : Post G R' W σ ι H Q' ((AM.noX r).bind f)) (k : ∀ ι1 H1 a u h1, Ext ι' H' ι1 H1 → RH G' ι1 H1 h1 → R ι1 H1 a u → Post G R' W σ ι H Q' (f a h1) → K u H1) : Post G' R W' σ' ι' H' K r := by
  cases r with
  | ok a h => exact fun ι1 H1 u x rh r => k ι1 H1 a u h x rh r p
  | exc c fs h => exact p.elim
  | stk => exact p.elim
theorem wipe_get {σ : L2.St} : ∀ {vs : List Nat} {i : Nat}, (wipe σ vs)[i]? = if i ∈ vs then σ[i]?.map (fun _ => none) else σ[i]?
  | [], i => by simp [wipe]
  | v :: vs, i => by
    unfold wipe
    by_cases hi : i = v
    · subst hi
      rw [if_pos (List.mem_cons_self ..)]
      by_cases hl : i < σ.length
      · rw [List.getElem?_set_self (by rw [wipe_length]; exact hl), List.getElem?_eq_getElem hl]
        rfl
      · rw [List.getElem?_eq_none (by rw [List.length_set, wipe_length]; omega), List.getElem?_eq_none (by omega)]
        rfl
    · rw [List.getElem?_set_ne (Ne.symm hi), wipe_get]
      simp [hi]
theorem wipe_off {σ σ2 : L2.St} {sl vs : List Nat} (o : Off sl (wipe σ vs) σ2) (hs : ∀ i ∈ sl, i ∈ vs) : wipe σ2 vs = wipe σ vs := by
  apply List.ext_getElem?
  intro i
  rw [wipe_get]
  by_cases hi : i ∈ vs
  · rw [if_pos hi, wipe_get, if_pos hi]
    have hl : σ2.length = σ.length := by rw [o.1, wipe_length]
    by_cases h : i < σ.length
    · rw [List.getElem?_eq_getElem h, List.getElem?_eq_getElem (by omega)]
      rfl
    · rw [List.getElem?_eq_none (by omega), List.getElem?_eq_none (by omega)]
  · rw [if_neg hi]
    exact o.2 i fun z => hi (hs i z)
theorem wipeA_len (ρ : AM.Env) : ∀ vs, (wipeA ρ vs).length = ρ.length
  | [] => rfl
  | v :: vs => by unfold wipeA; rw [List.length_set, wipeA_len ρ vs]
theorem RS.wipe {ι : List Addr} {H : Hp} {ρ : AM.Env} {σ : L2.St} (r : RS G ι H ρ σ) : ∀ vs, RS G ι H (wipeA ρ vs) (wipe σ vs)
  | [] => r
  | v :: vs => by
    have ih := RS.wipe r vs
    unfold wipeA L2.wipe
    refine ⟨by simp [ih.1], fun i x e => ?_⟩
    by_cases hi : i = v
    · subst hi
      by_cases hl : i < (wipeA ρ vs).length
      · rw [List.getElem?_set_self hl] at e
        cases e
      · rw [List.getElem?_eq_none (by simpa using hl)] at e
        cases e
    · rw [List.getElem?_set_ne (Ne.symm hi)] at e
      rw [List.getElem?_set_ne (Ne.symm hi)]
      exact ih.2 i x e
theorem subB_ok {xs ys : List Nat} (h : subB xs ys = true) : ∀ i ∈ xs, i ∈ ys := fun i hi => by
  have q := List.any_eq_true.mp (List.all_eq_true.mp h i hi)
  obtain ⟨y, hy, e⟩ := q
  rw [Nat.eq_of_beq_eq_true e]
  exact hy
/-- all contexts of a def's block at a comprehension -/
def W0 : WX := fun _ _ _ _ => False
theorem PE_ex {e : Expr} {t : List Addr → TE} (h : ∀ l, PE X e (t l)) : PE X e (fun σ H Q => ∃ l, t l σ H Q) := ⟨fun pins s σ H Q I ⟨l, q⟩ => (h l).run pins s σ H Q I q⟩
theorem PG_ex {e : Expr} {t : List Addr → TG} (h : ∀ l, PG X e (t l)) : PG X e (fun v σ H Q => ∃ l, t l v σ H Q) := ⟨fun pins s σ H v u Q I r ⟨l, q⟩ => (h l).run pins s σ H v u Q I r q⟩
theorem PTs_ex {e : List Expr} {t : List Addr → TT} (h : ∀ l, PTs X e (t l)) : PTs X e (fun σ H Q => ∃ l, t l σ H Q) := ⟨fun pins s σ H Q I ⟨l, q⟩ => (h l).run pins s σ H Q I q⟩
theorem RL_of_hid {ι : List Addr} {H : Hp} {D : Addr} {vs : List V} {h : AH} (rh : RH (G.hide (D :: G.hid)) ι H h) (hD : D ∉ G.hid) (e : H D = some (.lst vs)) : RL G ι H D vs := ⟨⟨(rh.hd D (List.mem_cons_self ..)).1, hD⟩, e⟩
theorem comp_imp {it : AM.Env → AH → Res (List AV)} {asg : AV → AM.Env → Option AM.Env} {test : AM.Env → AH → Res Bool} {elt : ME} {sl vs : List Nat} (hs : ∀ i ∈ sl, i ∈ vs) : ∀ σ H Q,
    RE G W (fun ρ h => (it ρ h).bind fun xs h1 => (compL asg test elt (wipeA ρ vs) xs [] h1).bind fun ys h2 => .ok (.lst ys) h2) σ H Q →
    tLc (RI G W it) (fun v σ H Q => ∃ l, RG (G.hide l) sl asg v σ H Q) (fun σ H Q => ∃ l, RTt (G.hide l) W0 test σ H Q) (fun σ H Q => ∃ l, RE (G.hide l) W0 elt σ H Q) vs σ H Q := by
  intro σ H Q ⟨ι, ρ, h, rh, rs, p⟩
  refine ⟨ι, ρ, h, rh, rs, Post.bind p fun ι1 H1 xs J h1 x1 rh1 wk p1 D nD => ?_⟩
  have hDh : D ∉ G.hid := fun z => by
    obtain ⟨_, o, e⟩ := rh1.hd D z
    rw [nD] at e
    cases e
  have hl : ∀ b ∈ D :: G.hid, b ∈ G.hid ∨ H1 b = none := fun b hb => by
    rcases List.mem_cons.mp hb with z | z
    · rw [z]; exact .inr nD
    · exact .inl z
  have rs1 : RS (G.hide (D :: G.hid)) ι1 H1 (wipeA ρ vs) (wipe σ vs) := (((rs.mono x1).wipe vs).move (Mv.hide nD))
  -- H1 below any later heap but at D
  have extD : ∀ {ι' : List Addr} {H' : Hp} {u : HO}, Ext ι1 H1 ι' H' → Ext ι1 H1 ι' (upd H' D u) := fun x => by
    obtain ⟨nw, e, k⟩ := x
    exact ⟨nw, e, fun a o ha e1 => ⟨by rw [upd_ne (ne_of_none e1 nD)]; exact (k a o ha e1).1, (k a o ha e1).2⟩⟩
  refine lc_it (g := fun v σ H Q => ∃ l, RG (G.hide l) sl asg v σ H Q) (tt := fun σ H Q => ∃ l, RTt (G.hide l) W0 test σ H Q) (te := fun σ H Q => ∃ l, RE (G.hide l) W0 elt σ H Q) (vs := vs) (σ := σ) (H1 := H1) (D := D) (Qd := fun H' => Q (.ref D) H') (wlk wk) (fun i H' => ∃ ι' h' acc us, Ext ι1 H1 ι' H' ∧ RH (G.hide (D :: G.hid)) ι' H' h' ∧ H' D = some (.lst us) ∧ RVs (G.hide (D :: G.hid)) ι' H' acc us ∧
    Post G (RV G) W σ ι1 H1 Q ((compL asg test elt (wipeA ρ vs) (xs.drop i) acc h').bind fun ys h2 => .ok (.lst ys) h2)) ?_ ?_ ?_ ?_
  · exact ⟨ι1, h1, [], [], Ext.fresh nD, rh1.hide nD, upd_same, .nil, by rw [List.drop_zero]; exact p1⟩
  · rintro i H' _ ⟨ι', h', acc, us, x, _⟩
    exact ⟨ι', x⟩
  · rintro i x H' H2 hi ⟨ι', h', acc, us, xx, rh', eD, ra, p2⟩ y
    have e0 : xs[i]? = some xs[i] := List.getElem?_eq_getElem hi
    obtain ⟨x2, rh2, rv2⟩ := wk.yields (D :: G.hid) hl i ι' H' h' xs[i] x H2 xx rh' e0 y
    have dD : ∀ {ι3 : List Addr} {H3 : Hp} {h3 : AH}, RH (G.hide (D :: G.hid)) ι3 H3 h3 → D ∉ ι3 := fun r => (r.hd D (List.mem_cons_self ..)).1
    have keepD : ∀ {ι3 ι4 : List Addr} {H3 H4 : Hp} {h3 : AH}, RH (G.hide (D :: G.hid)) ι3 H3 h3 → H3 D = some (.lst us) → Ext ι3 H3 ι4 H4 → H4 D = some (.lst us) := fun r e x => by
      obtain ⟨nw, _, k⟩ := x
      exact (k D _ (dD r) e).1
    have eD2 := keepD rh' eD x2
    rw [List.drop_eq_getElem_cons hi] at p2
    unfold compL at p2
    cases qa : asg xs[i] (wipeA ρ vs) with
    | none => rw [qa] at p2; exact p2.elim
    | some ρ1 =>
      rw [qa] at p2
      have p2 : Post G (RV G) W σ ι1 H1 Q (((AM.noX (test ρ1 h')).bind fun b h1 => if b then (AM.noX (elt ρ1 h1)).bind fun v h2 => if acc.length < sizeLine then compL asg test elt (wipeA ρ vs) (xs.drop (i + 1)) (acc ++ [v]) h2 else .stk else compL asg test elt (wipeA ρ vs) (xs.drop (i + 1)) acc h1).bind fun ys h2 => .ok (.lst ys) h2) := p2
      refine ⟨D :: G.hid, ι', wipeA ρ vs, xs[i], ρ1, (rs1.mono xx).mono x2, rv2, qa, fun σ2 o rs2 => ⟨wipe_off o hs, D :: G.hid, ι', ρ1, h', rh2, rs2, ?_⟩⟩
      have e1 : ∀ {α β γ : Type} (r : Res α) (f : α → AH → Res β) (g : β → AH → Res γ), (r.bind f).bind g = r.bind fun a h => (f a h).bind g := fun r f g => by cases r <;> rfl
      rw [e1] at p2
      refine Post.noX p2 fun ι3 H3 b b' h3 x3 rh3 rb p3 => ?_
      have rb : b = b' := rb
      subst rb
      have eD3 := keepD rh2 eD2 x3
      cases b with
      | false =>
        exact iteF ⟨ι3, h3, acc, us, xx.trans (x2.trans x3), rh3, eD3, (ra.mono x2).mono x3, p3⟩
      | true =>
        refine iteT ⟨D :: G.hid, ι3, ρ1, h3, rh3, rs2.mono x3, ?_⟩
        have p3 : Post G (RV G) W σ ι1 H1 Q (((AM.noX (elt ρ1 h3)).bind fun v h2 => if acc.length < sizeLine then compL asg test elt (wipeA ρ vs) (xs.drop (i + 1)) (acc ++ [v]) h2 else .stk).bind fun ys h2 => .ok (.lst ys) h2) := p3
        rw [e1] at p3
        refine Post.noX p3 fun ι4 H4 v yv h4 x4 rh4 rv4 p4 => ?_
        have eD4 := keepD rh3 eD3 x4
        have ra4 := ((ra.mono x2).mono x3).mono x4
        by_cases cl : acc.length < sizeLine
        · rw [if_pos cl] at p4
          refine ⟨us, eD4, by rw [← ra4.length]; exact cl, ι4, h4, acc ++ [v], us ++ [yv], extD (xx.trans (x2.trans (x3.trans x4))), rh4.hidW (List.mem_cons_self ..), upd_same, ?_, p4⟩
          exact (ra4.append (.cons rv4 .nil)).move (Mv.hidW (List.mem_cons_self ..))
        · rw [if_neg cl] at p4
          exact p4.elim
  · rintro H' ⟨ι', h', acc, us, xx, rh', eD, ra, p2⟩
    rw [List.drop_length] at p2
    have p2 : Post G (RV G) W σ ι1 H1 Q (.ok (.lst acc) h') := p2
    exact p2.at xx rh'.show_ (.lst (RL_of_hid rh' hDh eD) (ra.move Mv.show_))
theorem compD_imp {it : ME} {asg : AV → AM.Env → Option AM.Env} {test : AM.Env → AH → Res Bool} {elt : ME} {sl vs : List Nat} (hs : ∀ i ∈ sl, i ∈ vs) : ∀ σ H Q,
    RE G W (fun ρ h => (it ρ h).bind fun v h1 => (match v with
      | .ref k => (match h1[k]? with
        | some (.lst xs) => (compLD k asg test elt (wipeA ρ vs) xs.length 0 [] h1).bind fun ys h2 => .ok (.lst ys) h2
        | _ => .stk)
      | _ => .stk)) σ H Q →
    tLc (iList G.K (RE G W it)) (fun v σ H Q => ∃ l, RG (G.hide l) sl asg v σ H Q) (fun σ H Q => ∃ l, RTt (G.hide l) W0 test σ H Q) (fun σ H Q => ∃ l, RE (G.hide l) W0 elt σ H Q) vs σ H Q := by
  intro σ H Q ⟨ι, ρ, h, rh, rs, p⟩
  refine ⟨ι, ρ, h, rh, rs, Post.bind p fun ι1 H1 v u h1 x1 rh1 rv1 p0 => ?_⟩
  cases v with
  | ref n =>
    have p0 : Post G (RV G) W σ ι1 H1 Q (match h1[n]? with
        | some (.lst xs) => (compLD n asg test elt (wipeA ρ vs) xs.length 0 [] h1).bind fun ys h2 => .ok (.lst ys) h2
        | _ => .stk) := p0
    split at p0
    · rename_i xs qn
      obtain ⟨a, us0, rfl, ia, ha, _⟩ := refLst rh1 rv1 qn
      refine ⟨a, rfl, ⟨us0, .inl (.inl ha)⟩, fun D nD => ?_⟩
      have hDh : D ∉ G.hid := fun z => by
        obtain ⟨_, o, e⟩ := rh1.hd D z
        rw [nD] at e
        cases e
      have hl : ∀ b ∈ D :: G.hid, b ∈ G.hid ∨ H1 b = none := fun b hb => by
        rcases List.mem_cons.mp hb with z | z
        · rw [z]; exact .inr nD
        · exact .inl z
      have rs1 : RS (G.hide (D :: G.hid)) ι1 H1 (wipeA ρ vs) (wipe σ vs) := (((rs.mono x1).wipe vs).move (Mv.hide nD))
      have extD : ∀ {ι' : List Addr} {H' : Hp} {u : HO}, Ext ι1 H1 ι' H' → Ext ι1 H1 ι' (upd H' D u) := fun x => by
        obtain ⟨nw, e, k⟩ := x
        exact ⟨nw, e, fun a o ha e1 => ⟨by rw [upd_ne (ne_of_none e1 nD)]; exact (k a o ha e1).1, (k a o ha e1).2⟩⟩
      refine ⟨fun i m H' => ∃ ι' h' acc us, Ext ι1 H1 ι' H' ∧ RH (G.hide (D :: G.hid)) ι' H' h' ∧ H' D = some (.lst us) ∧ RVs (G.hide (D :: G.hid)) ι' H' acc us ∧
        Post G (RV G) W σ ι1 H1 Q ((compLD n asg test elt (wipeA ρ vs) m i acc h').bind fun ys h2 => .ok (.lst ys) h2), ⟨xs.length, ι1, h1, [], [], Ext.fresh nD, rh1.hide nD, upd_same, .nil, p0⟩, ?_⟩
      rintro i m H' ⟨ι', h', acc, us, xx, rh', eD, ra, p2⟩
      have dD : ∀ {ι3 : List Addr} {H3 : Hp} {h3 : AH}, RH (G.hide (D :: G.hid)) ι3 H3 h3 → D ∉ ι3 := fun r => (r.hd D (List.mem_cons_self ..)).1
      have keepD : ∀ {ι3 ι4 : List Addr} {H3 H4 : Hp} {h3 : AH} {us : List V}, RH (G.hide (D :: G.hid)) ι3 H3 h3 → H3 D = some (.lst us) → Ext ι3 H3 ι4 H4 → H4 D = some (.lst us) := fun r e x => by
        obtain ⟨nw, _, k⟩ := x
        exact (k D _ (dD r) e).1
      have ia' : ι'[n]? = some a := xx.ix ia
      have atn : ∀ ys, h'[n]? = some (.lst ys) → ∃ ws, H' a = some (.lst ws) ∧ RVs (G.hide (D :: G.hid)) ι' H' ys ws := fun ys e => by
        obtain ⟨u, hu, ro⟩ := rh'.at_ n _ a e ia'
        obtain ⟨ws, rfl, rw_⟩ := ro
        exact ⟨ws, hu, rw_⟩
      have fin : Post G (RV G) W σ ι1 H1 Q ((Res.ok acc h').bind fun ys h2 => .ok (.lst ys) h2) → Q (.ref D) H' := fun p2 => by
        have p2 : Post G (RV G) W σ ι1 H1 Q (.ok (.lst acc) h') := p2
        exact p2.at xx rh'.show_ (.lst (RL_of_hid rh' hDh eD) (ra.move Mv.show_))
      cases m with
      | zero =>
        have p2 : Post G (RV G) W σ ι1 H1 Q ((match h'[n]? with
          | some (.lst ys) => if ys.length ≤ i then .ok acc h' else .stk
          | _ => .stk : Res (List AV)).bind fun ys h2 => .ok (.lst ys) h2) := p2
        split at p2
        · rename_i ys qy
          by_cases c : ys.length ≤ i
          · rw [if_pos c] at p2
            obtain ⟨ws, e1, r1⟩ := atn ys qy
            exact .inl ⟨⟨ws, .inl (.inl e1), by rw [← r1.length]; exact c⟩, fin p2⟩
          · rw [if_neg c] at p2
            exact p2.elim
        · exact p2.elim
      | succ m =>
        have p2 : Post G (RV G) W σ ι1 H1 Q ((match h'[n]? with
          | some (.lst ys) => (match ys[i]? with
            | none => .ok acc h'
            | some a => (match asg a (wipeA ρ vs) with
              | none => .stk
              | some ρ1 => (AM.noX (test ρ1 h')).bind fun b h1 => if b then (AM.noX (elt ρ1 h1)).bind fun v h2 => if acc.length < sizeLine then compLD n asg test elt (wipeA ρ vs) m (i + 1) (acc ++ [v]) h2 else .stk else compLD n asg test elt (wipeA ρ vs) m (i + 1) acc h1))
          | _ => .stk : Res (List AV)).bind fun ys h2 => .ok (.lst ys) h2) := p2
        split at p2
        · rename_i ys qy
          obtain ⟨ws, e1, r1⟩ := atn ys qy
          cases qi : ys[i]? with
          | none =>
            rw [qi] at p2
            exact .inl ⟨⟨ws, .inl (.inl e1), by rw [← r1.length]; exact List.getElem?_eq_none_iff.mp qi⟩, fin p2⟩
          | some a0 =>
            rw [qi] at p2
            obtain ⟨w0, e2, r2⟩ := r1.get qi
            refine .inr ⟨⟨ws, w0, .inl (.inl e1), e2⟩, fun H3 => ∃ ι' h' acc us, Ext ι1 H1 ι' H3 ∧ RH (G.hide (D :: G.hid)) ι' H3 h' ∧ H3 D = some (.lst us) ∧ RVs (G.hide (D :: G.hid)) ι' H3 acc us ∧
              Post G (RV G) W σ ι1 H1 Q ((compLD n asg test elt (wipeA ρ vs) m (i + 1) acc h').bind fun ys h2 => .ok (.lst ys) h2), fun H3 hh => ⟨m, Nat.lt_succ_self _, hh⟩, ?_⟩
            rintro x H2 ⟨rfl, y2⟩
            have ex : x = w0 := by
              have := y2 ws (.inl (.inl e1))
              rw [e2] at this
              exact (Option.some.inj this).symm
            subst ex
            cases qa : asg a0 (wipeA ρ vs) with
            | none =>
              have p2 : Post G (RV G) W σ ι1 H1 Q ((match asg a0 (wipeA ρ vs) with
                | none => .stk
                | some ρ1 => (AM.noX (test ρ1 h')).bind fun b h1 => if b then (AM.noX (elt ρ1 h1)).bind fun v h2 => if acc.length < sizeLine then compLD n asg test elt (wipeA ρ vs) m (i + 1) (acc ++ [v]) h2 else .stk else compLD n asg test elt (wipeA ρ vs) m (i + 1) acc h1 : Res (List AV)).bind fun ys h2 => .ok (.lst ys) h2) := p2
              rw [qa] at p2
              exact p2.elim
            | some ρ1 =>
              have p2 : Post G (RV G) W σ ι1 H1 Q ((match asg a0 (wipeA ρ vs) with
                | none => .stk
                | some ρ1 => (AM.noX (test ρ1 h')).bind fun b h1 => if b then (AM.noX (elt ρ1 h1)).bind fun v h2 => if acc.length < sizeLine then compLD n asg test elt (wipeA ρ vs) m (i + 1) (acc ++ [v]) h2 else .stk else compLD n asg test elt (wipeA ρ vs) m (i + 1) acc h1 : Res (List AV)).bind fun ys h2 => .ok (.lst ys) h2) := p2
              rw [qa] at p2
              have p2 : Post G (RV G) W σ ι1 H1 Q (((AM.noX (test ρ1 h')).bind fun b h1 => if b then (AM.noX (elt ρ1 h1)).bind fun v h2 => if acc.length < sizeLine then compLD n asg test elt (wipeA ρ vs) m (i + 1) (acc ++ [v]) h2 else .stk else compLD n asg test elt (wipeA ρ vs) m (i + 1) acc h1).bind fun ys h2 => .ok (.lst ys) h2) := p2
              refine ⟨D :: G.hid, ι', wipeA ρ vs, a0, ρ1, rs1.mono xx, r2, qa, fun σ2 o rs2 => ⟨wipe_off o hs, D :: G.hid, ι', ρ1, h', rh', rs2, ?_⟩⟩
              have e1 : ∀ {α β γ : Type} (r : Res α) (f : α → AH → Res β) (g : β → AH → Res γ), (r.bind f).bind g = r.bind fun a h => (f a h).bind g := fun r f g => by cases r <;> rfl
              rw [e1] at p2
              refine Post.noX p2 fun ι3 H3 b b' h3 x3 rh3 rb p3 => ?_
              have rb : b = b' := rb
              subst rb
              have eD3 := keepD rh' eD x3
              cases b with
              | false => exact iteF ⟨ι3, h3, acc, us, xx.trans x3, rh3, eD3, ra.mono x3, p3⟩
              | true =>
                refine iteT ⟨D :: G.hid, ι3, ρ1, h3, rh3, rs2.mono x3, ?_⟩
                have p3 : Post G (RV G) W σ ι1 H1 Q (((AM.noX (elt ρ1 h3)).bind fun v h2 => if acc.length < sizeLine then compLD n asg test elt (wipeA ρ vs) m (i + 1) (acc ++ [v]) h2 else .stk).bind fun ys h2 => .ok (.lst ys) h2) := p3
                rw [e1] at p3
                refine Post.noX p3 fun ι4 H4 v yv h4 x4 rh4 rv4 p4 => ?_
                have eD4 := keepD rh3 eD3 x4
                have ra4 := (ra.mono x3).mono x4
                by_cases cl : acc.length < sizeLine
                · rw [if_pos cl] at p4
                  refine ⟨us, eD4, by rw [← ra4.length]; exact cl, ι4, h4, acc ++ [v], us ++ [yv], extD (xx.trans (x3.trans x4)), rh4.hidW (List.mem_cons_self ..), upd_same, ?_, p4⟩
                  exact (ra4.append (.cons rv4 .nil)).move (Mv.hidW (List.mem_cons_self ..))
                · rw [if_neg cl] at p4
                  exact p4.elim
        · exact p2.elim
    · exact p0.elim
  | _ => exact False.elim p0
end
end AM
/-! AMj: the meaning of all expressions is what the model does. -/
namespace AM
open PySem PySem.Spec PyProof.Rows L2

theorem relS_of {sc : Scope} : ∀ {names : List (Str × NameKind)} {x : Str} {k : NameKind}, names.lookup x = some k →
    ∃ k', (names.map fun (n, k) => if (k == NameKind.free && sc.kind == .function && sc.names.lookup n == some .cell) then (n, NameKind.cell) else (n, k)).lookup x = some k' ∧ (k' = k ∨ (k = .free ∧ k' = .cell))
  | [], _, _, h => by simp at h
  | (n, k0) :: r, x, k, h => by
    have ih := @relS_of sc r x k
    show ∃ k', List.lookup x ((if (k0 == NameKind.free && sc.kind == .function && sc.names.lookup n == some .cell) = true then (n, NameKind.cell) else (n, k0)) :: (r.map _)) = some k' ∧ _
    cases hx : x == n with
    | true =>
      simp only [List.lookup_cons, hx] at h
      cases h
      by_cases hc : (k0 == NameKind.free && sc.kind == .function && sc.names.lookup n == some .cell) = true
      · rw [if_pos hc]
        simp only [List.lookup_cons, hx]
        simp only [Bool.and_eq_true, beq_iff_eq] at hc
        exact ⟨_, rfl, .inr ⟨hc.1.1, rfl⟩⟩
      · rw [if_neg hc]
        simp only [List.lookup_cons, hx]
        exact ⟨_, rfl, .inl rfl⟩
    | false =>
      simp only [List.lookup_cons, hx] at h
      by_cases hc : (k0 == NameKind.free && sc.kind == .function && sc.names.lookup n == some .cell) = true
      · rw [if_pos hc]; simp only [List.lookup_cons, hx]; exact ih h
      · rw [if_neg hc]; simp only [List.lookup_cons, hx]; exact ih h
theorem visB_ok {sc : Scope} {x : Str} (h : visB sc x = true) : Vis sc x := by
  unfold visB at h
  split at h
  · exact .inl (by assumption)
  · exact .inr (.inl (by assumption))
  · exact .inr (.inr (by assumption))
  · cases h
theorem locB_ok {sc : Scope} {x : Str} (h : locB sc x = true) : Loc sc x := by
  unfold locB at h
  split at h
  · exact .inl (by assumption)
  · exact .inr (by assumption)
  · cases h
theorem glB_ok {sc : Scope} {x : Str} (h : glB sc x = true) : sc.names.lookup x = some .globalImplicit := by
  unfold glB at h
  split at h
  · assumption
  · cases h
section
variable {X : Cx} {G : Gh} {d : DC} {W : WX} {F : Str → OpN}
theorem XOk.hide (ok : XOk X G d) (l : List Addr) : XOk X (G.hide l) d := ⟨ok.N, ok.nd, ok.K, ok.calm, ok.hu, ok.gd, ok.vis, ok.loc, ok.gl, ok.cf, ok.free, ok.glob⟩
theorem FOk.hide (fo : FOk X G d F) (l : List Addr) : FOk X (G.hide l) d F := ⟨fo.pos, fo.kw, fun x f h => ⟨(fo.exc x f h).ex⟩, fo.hx, fun x n h => ⟨(fo.mak x n h).ex⟩, fo.fld, fo.isi, fo.xv, fo.inc, fo.xf, fun x n ks od h => ⟨(fo.mkw x n ks od h).ex⟩, fun c m kn C h g => ⟨(fo.meth c m kn C h g).ex⟩⟩
theorem XOk.blk (ok : XOk X G d) {s : Shared} {H : Hp} {sc : Scope} {cl : List (Str × Addr)} {C : Addr} {fp : List Addr} : XOk (X.blk s H sc (compEnvC sc cl C X.env) fp) G { d with sc := sc } where
  N := ok.N
  nd := ok.nd
  K := ok.K
  calm := ok.calm
  hu := ok.hu
  gd := ok.gd
  vis := fun x h => by
    show Vis (relS sc X.env.scope) x
    rcases visB_ok h with e | e | e
    · obtain ⟨k, e1, q⟩ := relS_of (sc := X.env.scope) e
      rcases q with rfl | ⟨z, rfl⟩
      · exact .inl e1
      · cases z
    · obtain ⟨k, e1, q⟩ := relS_of (sc := X.env.scope) e
      rcases q with rfl | ⟨z, rfl⟩
      · exact .inr (.inl e1)
      · cases z
    · obtain ⟨k, e1, q⟩ := relS_of (sc := X.env.scope) e
      rcases q with rfl | ⟨z, rfl⟩
      · exact .inr (.inr e1)
      · exact .inr (.inl e1)
  loc := fun x h => by
    show Loc (relS sc X.env.scope) x ∧ ((sc.names.lookup x == some .cell) = true ∨ (relS sc X.env.scope).names.lookup x = some .local)
    rcases locB_ok h with e | e
    · obtain ⟨k, e1, q⟩ := relS_of (sc := X.env.scope) e
      rcases q with rfl | ⟨z, rfl⟩
      · exact ⟨.inl e1, .inr e1⟩
      · cases z
    · obtain ⟨k, e1, q⟩ := relS_of (sc := X.env.scope) e
      rcases q with rfl | ⟨z, rfl⟩
      · exact ⟨.inr e1, .inl (by rw [e]; rfl)⟩
      · cases z
  gl := fun x h => by
    show (relS sc X.env.scope).names.lookup x = some .globalImplicit
    obtain ⟨k, e1, q⟩ := relS_of (sc := X.env.scope) (glB_ok h)
    rcases q with rfl | ⟨z, rfl⟩
    · exact e1
    · cases z
  cf := fun x h => by
    show (relS sc X.env.scope).names.lookup x = some .cell ∨ (relS sc X.env.scope).names.lookup x = some .free
    rcases h with e | e
    · obtain ⟨k, e1, q⟩ := relS_of (sc := X.env.scope) e
      rcases q with rfl | ⟨z, rfl⟩
      · exact .inl e1
      · cases z
    · obtain ⟨k, e1, q⟩ := relS_of (sc := X.env.scope) e
      rcases q with rfl | ⟨z, rfl⟩
      · exact .inr e1
      · exact .inl e1
  free := ok.free
  glob := ok.glob
theorem FOk.blk (fo : FOk X G d F) {s : Shared} {H : Hp} {sc : Scope} {cl : List (Str × Addr)} {C : Addr} {fp : List Addr} : FOk (X.blk s H sc (compEnvC sc cl C X.env) fp) G { d with sc := sc } F := ⟨fo.pos, fo.kw, fun x f h => ⟨(fo.exc x f h).ex⟩, fo.hx, fun x n h => ⟨(fo.mak x n h).ex⟩, fo.fld, fo.isi, fo.xv, fo.inc, fo.xf, fun x n ks od h => ⟨(fo.mkw x n ks od h).ex⟩, fun c m kn C h g => ⟨(fo.meth c m kn C h g).ex⟩⟩
theorem takes0 : Takes X W0 := fun u s' ⟨_, _, _, _, _, _, _, _, _, _, _, _, _, _, _, _, w⟩ => w.elim
theorem BlkOk.moved {N : List Str} {sc sc' scope : Scope} {own : List (Str × Nat)} (b : BlkOk N sc scope own) (h : ∀ x, (sc.names.lookup x = some .cell ∨ sc.names.lookup x = some .free) → (sc'.names.lookup x = some .cell ∨ sc'.names.lookup x = some .free)) : BlkOk N sc' scope own :=
  ⟨b.kind, b.uniq, b.ix, fun y hy e => h _ (b.free y hy e), b.own⟩
/-- the tests of a comprehension -/
theorem pts_tests {fi : Expr → ME} {ifs : List Expr} (ht : ∀ e, isIf e = false → PT X e (RTt G W (tstM (fi e)))) : PTs X ifs (RTt G W (testsM fi ifs)) := by
  match ifs with
  | [] => exact ⟨fun pins s σ H Q I ⟨ι, ρ, h, rh, rs, p⟩ => pts_nil.run pins s σ H Q I (Post.now (a := true) p rh rfl)⟩
  | [e] =>
    show PTs X [e] (RTt G W (if isIf e then fun _ _ => .stk else tstM (fi e)))
    by_cases c : isIf e = true
    · rw [if_pos c]; exact ⟨fun pins s σ H Q I ⟨_, _, _, _, _, p⟩ => p.elim⟩
    · rw [if_neg c]; exact pts_one (ht e (by simpa using c))
  | e :: e2 :: r => exact ⟨fun pins s σ H Q I ⟨_, _, _, _, _, p⟩ => p.elim⟩
theorem re_comp (ok : XOk X G d) (fo : FOk X G d F) {f fi : Expr → ME} {n : Nat} {elt tg it : Expr} {ifs : List Expr} {sc : Scope} {pos : Pos} (hf : ∀ e, PE X e (RE G W (f e)))
    (hi : ∀ X' G' W', XOk X' G' { d with sc := sc } → FOk X' G' { d with sc := sc } F → Takes X' W' → ∀ e, PE X' e (RE G' W' (fi e)) ∧ (isIf e = false → PT X' e (RTt G' W' (tstM (fi e))))) :
    PE X (.ListComp elt [⟨tg, it, ifs, 0⟩] sc pos) (RE G W (compM f fi d n elt tg it ifs sc)) := by
  by_cases c : (blkC d.N d.sc sc (ownOf d.N sc) && subB (tslots { d with sc := sc } n tg) ((ownOf d.N sc).map (·.2))) = true
  · have e1 : compM f fi d n elt tg it ifs sc = fun ρ h => (itM f d tg it ρ h).bind fun xs h1 => (compL (bindT { d with sc := sc } n tg) (testsM fi ifs) (fi elt) (wipeA ρ ((ownOf d.N sc).map (·.2))) xs [] h1).bind fun ys h2 => .ok (.lst ys) h2 := by
      funext ρ h
      unfold compM
      rw [if_pos c]
    rw [e1]
    rw [Bool.and_eq_true] at c
    have bk : BlkOk X.N X.env.scope sc (ownOf d.N sc) := by
      rw [ok.N]
      exact BlkOk.moved (blkOk_by c.1) ok.cf
    by_cases cs : isSet it = true
    · refine PE_stk fun ρ h => ?_
      unfold itM
      rw [if_pos cs]
      rfl
    · exact PE_imp (pe_lc ok.calm (by rw [ok.N]; exact ok.nd) (pi_it ok it hf) bk
        (fun s H C cl fp => PG_ex fun l => rg_bind (ok.hide l).blk n tg)
        (fun s H C cl fp => PTs_ex fun l => pts_tests (fun e he => (hi _ _ W0 (ok.hide l).blk (fo.hide l).blk takes0 e).2 he))
        (fun s H C cl fp => PE_ex fun l => (hi _ _ W0 (ok.hide l).blk (fo.hide l).blk takes0 elt).1)
        (notSet cs)) (comp_imp (subB_ok c.2))
  · refine PE_stk fun ρ h => ?_
    unfold compM
    rw [if_neg c]
theorem re_compO (ok : XOk X G d) (fo : FOk X G d F) {fi : Expr → ME} {n : Nat} {elt tg it : Expr} {mi : ME} {ifs : List Expr} {sc : Scope} {pos : Pos} (cs : ¬ isSet it = true) (hit : PE X it (RE G W mi))
    (hi : ∀ X' G' W', XOk X' G' { d with sc := sc } → FOk X' G' { d with sc := sc } F → Takes X' W' → ∀ e, PE X' e (RE G' W' (fi e)) ∧ (isIf e = false → PT X' e (RTt G' W' (tstM (fi e))))) :
    PE X (.ListComp elt [⟨tg, it, ifs, 0⟩] sc pos) (RE G W (compOM fi d n elt tg mi ifs sc)) := by
  by_cases c : (blkC d.N d.sc sc (ownOf d.N sc) && subB (tslots { d with sc := sc } n tg) ((ownOf d.N sc).map (·.2))) = true
  · have e1 : compOM fi d n elt tg mi ifs sc = fun ρ h => (mi ρ h).bind fun v h1 => (match v with
      | .ref k => (match h1[k]? with
        | some (.lst xs) => (compLD k (bindT { d with sc := sc } n tg) (testsM fi ifs) (fi elt) (wipeA ρ ((ownOf d.N sc).map (·.2))) xs.length 0 [] h1).bind fun ys h2 => .ok (.lst ys) h2
        | _ => .stk)
      | _ => .stk) := by
      funext ρ h
      unfold compOM
      rw [if_pos c]
      try rfl
    rw [e1]
    rw [Bool.and_eq_true] at c
    have bk : BlkOk X.N X.env.scope sc (ownOf d.N sc) := by
      rw [ok.N]
      exact BlkOk.moved (blkOk_by c.1) ok.cf
    exact PE_imp (pe_lc ok.calm (by rw [ok.N]; exact ok.nd) (ok.K ▸ pi_list hit) bk
        (fun s H C cl fp => PG_ex fun l => rg_bind (ok.hide l).blk n tg)
        (fun s H C cl fp => PTs_ex fun l => pts_tests (fun e he => (hi _ _ W0 (ok.hide l).blk (fo.hide l).blk takes0 e).2 he))
        (fun s H C cl fp => PE_ex fun l => (hi _ _ W0 (ok.hide l).blk (fo.hide l).blk takes0 elt).1)
        (notSet cs)) (compD_imp (subB_ok c.2))
  · refine PE_stk fun ρ h => ?_
    unfold compOM
    rw [if_neg c]
end
theorem isSl_fun {i : Expr} : isSl i = true ∨ isSl i = false := by cases isSl i <;> simp
theorem re_uc {F : Str → OpN} {n : Nat} {X : Cx} {G : Gh} {d : DC} {W : WX} (ok : XOk X G d) (fo : FOk X G d F) (tk : Takes X W) (ihE : ∀ e, PE X e (RE G W (ev F n d e))) (x : Str) (p : Pos) (args : List Expr) (kws : List Keyword) (pos : Pos) : PE X (.Call (.Name x p) args kws pos) (RE G W (ucM (ev F n d) d F x args kws)) := by
  unfold ucM
  by_cases c : (dun x || !(glB d.sc x)) = true
  · rw [if_pos c]; exact pe_dead
  · rw [if_neg c]
    rw [Bool.or_eq_true, not_or] at c
    have hg : glB d.sc x = true := by simpa using c.2
    split
    · cases hfn : d.fn x with
      | some ps => exact re_own' ok fo tk c.1 hg hfn fun a _ => ihE a
      | none =>
        cases hmk : d.mak x with
        | some k =>
          show PE X _ (RE G W (if Nat.beq args.length k then callM (F x) (argsM (ev F n d) args) else (match d.mkw x args.length [] with
            | some od => callMK (F x) od.1 od.2 (argsM (ev F n d) args) (kwsM (ev F n d) [])
            | none => fun _ _ => .stk)))
          by_cases c2 : Nat.beq args.length k = true
          · rw [if_pos c2]
            exact re_make ok tk (fo.mak x k hmk) c.1 hg (Nat.eq_of_beq_eq_true c2) fun a _ => ihE a
          · rw [if_neg c2]
            cases hw : d.mkw x args.length [] with
            | none => exact pe_dead
            | some od => exact re_mkw ok tk (kws := []) (fo.mkw x _ _ od hw) c.1 hg rfl (fun a _ => ihE a) fun k hk => absurd hk (by simp)
        | none =>
          by_cases c2 : d.free x = true
          · show PE X _ (RE G W (if d.free x then _ else _))
            rw [if_pos c2]
            by_cases ci : x = "isinstance"
            · rw [if_pos ci]
              subst ci
              cases args with
              | nil => exact pe_dead
              | cons a as => exact re_isi ok fo hg c2 fun a _ => ihE a
            rw [if_neg ci]
            cases hb : bifOf x with
            | none => exact pe_dead
            | some b =>
              cases args with
              | nil => exact pe_dead
              | cons a as => exact re_bif ok c.1 hg c2 hb fun a _ => ihE a
          · show PE X _ (RE G W (if d.free x then _ else _))
            rw [if_neg c2]; exact pe_dead
    · rename_i k ks
      by_cases c2 : (k :: ks).all (·.arg.isSome) = true
      · rw [if_pos c2]
        cases hk : d.kw x args.length (kwNames (k :: ks)) with
        | none =>
          cases hw : d.mkw x args.length (kwNames (k :: ks)) with
          | none => exact pe_dead
          | some od => exact re_mkw ok tk (fo.mkw x _ _ od hw) c.1 hg c2 (fun a _ => ihE a) fun k _ => ihE k.value
        | some ord => exact re_kw ok fo tk c.1 hg c2 hk (fun a _ => ihE a) fun k _ => ihE k.value
      · rw [if_neg c2]; exact pe_dead
/-- the meaning of every expression -/
theorem re_all {F : Str → OpN} : ∀ (n : Nat) (X : Cx) (G : Gh) (d : DC) (W : WX), XOk X G d → FOk X G d F → Takes X W → ∀ e, PE X e (RE G W (ev F n d e)) ∧ (isIf e = false → PT X e (RTt G W (tstM (ev F n d e))))
  | 0, X, G, d, W, ok, fo, tk, e => ⟨PE_stk fun _ _ => rfl, fun _ => ⟨fun pins s σ H Q I ⟨_, _, _, _, _, p⟩ => p.elim⟩⟩
  | n + 1, X, G, d, W, ok, fo, tk, e => by
    have ih := re_all n X G d W ok fo tk
    have ihE : ∀ e, PE X e (RE G W (ev F n d e)) := fun e => (ih e).1
    have ihT : ∀ e, isIf e = false → PT X e (RTt G W (tstM (ev F n d e))) := fun e => (ih e).2
    have deadT : ∀ {e : Expr} {m : ME}, (∀ ρ h, m ρ h = .stk) → PT X e (RTt G W (tstM m)) := fun hm => ⟨fun pins s σ H Q I ⟨ι, ρ, h, _, _, p⟩ => by
      unfold tstM at p
      rw [hm] at p
      exact p.elim⟩
    -- it is enough to say what it is as a value, but for the tests
    have plain : ∀ {e : Expr} {m : ME}, PE X e (RE G W m) → isTst e = false → PE X e (RE G W m) ∧ (isIf e = false → PT X e (RTt G W (tstM m))) := fun he ht => ⟨he, fun _ => rt_plain ok he ht⟩
    have dead : ∀ {e : Expr} {m : ME}, (∀ ρ h, m ρ h = .stk) → PE X e (RE G W m) ∧ (isIf e = false → PT X e (RTt G W (tstM m))) := fun hm => ⟨PE_stk hm, fun _ => deadT hm⟩
    unfold ev
    split
    · exact plain re_const rfl
    · exact plain (re_name ok) rfl
    · rename_i a op b pos
      by_cases c : binB op = true
      · rw [if_pos c]
        obtain ⟨r, ho, ans⟩ := ans_binO (X := X) (G := G) (op := op) ok.K c
        exact plain (re_op ho ans (ihE a) (ihE b)) rfl
      · rw [if_neg c]; exact dead fun _ _ => rfl
    · exact plain (re_neg (ihE _)) rfl
    · exact plain re_dic0 rfl
    · rename_i a pos
      by_cases c : isIf a = true
      · rw [if_pos c]; exact dead fun _ _ => rfl
      · rw [if_neg c]
        exact ⟨re_not ok (ihE a), fun _ => rt_not ok (ihT a (by simpa using c))⟩
    · rename_i a op b pos
      by_cases c : behindInMarks op b = true
      · rw [if_pos c]; exact dead fun _ _ => rfl
      · rw [if_neg c]
        obtain ⟨r, ho, ans⟩ := ans_cmpG ok fo (d.hp pos) op
        exact ⟨re_cmp ho ans (by simpa using c) (ihE a) (ihE b), fun _ => rt_cmp ok fo (by simpa using c) (ihE a) (ihE b)⟩
    · rename_i a op op' b c' pos
      by_cases c : lastMarks [op, op'] [b, c'] = true
      · rw [if_pos c]; exact dead fun _ _ => rfl
      · rw [if_neg c]
        exact ⟨re_chain ok fo (by simpa using c) (ihE a) (ihE b) (ihE c'), fun _ => rt_chain ok fo (by simpa using c) (ihE a) (ihE b) (ihE c')⟩
    · rename_i op es pos
      exact ⟨re_bool ok es fun e _ => ihE e, fun _ => (rt_bool ok es fun e _ he => ihT e he).pt⟩
    · rename_i c' a b pos
      by_cases c : isIf c' = true
      · rw [if_pos c]; exact dead fun _ _ => rfl
      · rw [if_neg c]
        exact ⟨re_ite (ihT c' (by simpa using c)) (ihE a) (ihE b), fun h => absurd h (by simp [isIf])⟩
    · rename_i es k pos
      exact plain (re_tup (ra_evs es fun e _ => ihE e)) rfl
    · rename_i es pos
      by_cases c : d.hp pos = true
      · rw [if_pos c]; exact plain (re_new (ra_evs es fun e _ => ihE e)) rfl
      · rw [if_neg c]; exact plain (re_lst (ra_evs es fun e _ => ihE e)) rfl
    · rename_i a i pos
      split
      · exact plain (re_rev ok (ihE a)) rfl
      · exact plain (re_slice ok (ihE a) (fun e _ => ihE e) (fun e _ => ihE e)) rfl
      · by_cases c : isSl i = true
        · rw [if_pos c]; exact dead fun _ _ => rfl
        · rw [if_neg c]; exact plain (re_idx ok fo (by simpa using c) (ihE a) (ihE i)) rfl
    · rename_i o f pos
      by_cases c : plainO o = true
      · rw [if_pos c]; exact plain (re_fld (fun cc C => fo.fld cc f C) (fun cc C => fo.xf cc f C) ok.K c (ihE o)) rfl
      · rw [if_neg c]; exact dead fun _ _ => rfl
    · rename_i x p1 y p2 e p3 pos
      refine plain ?_ rfl
      by_cases c : x = "sorted" ∧ y = "set"
      · rw [if_pos c]
        obtain ⟨rfl, rfl⟩ := c
        by_cases c2 : (glB d.sc "sorted" && d.free "sorted" && glB d.sc "set" && d.free "set" && !isStar e) = true
        · rw [if_pos c2]
          simp only [Bool.and_eq_true, Bool.not_eq_true'] at c2
          exact re_sortSet ok c2.1.1.1.1 c2.1.1.1.2 c2.1.1.2 c2.1.2 c2.2 (ihE e)
        · rw [if_neg c2]; exact pe_dead
      · rw [if_neg c]; exact re_uc ok fo tk ihE x _ _ _ _
    · exact plain (re_uc ok fo tk ihE _ _ _ _ _) rfl
    · rename_i o m apos args pos
      refine plain ?_ rfl
      cases hs : smtOf m with
      | none =>
        show PE X _ (RE G W (if (apos.endLine == pos.line) && plainO o then (if m = "append" then appA (ev F n d) o args else (match lmtOf m with
          | some l => lmtM (ev F n d) l o args
          | none => if plainAll args && Nat.ble args.length 28 then mthM F d m (ev F n d o) args.length (evsM (ev F n d) args) else fun _ _ => .stk)) else fun _ _ => .stk))
        by_cases c : ((apos.endLine == pos.line) && plainO o) = true
        · rw [if_pos c]
          rw [Bool.and_eq_true] at c
          by_cases ca : m = "append"
          · rw [if_pos ca]
            subst ca
            exact re_app ok c.2 c.1 (ihE o) fun a _ => ihE a
          · rw [if_neg ca]
            cases hl : lmtOf m with
            | some l => exact re_lmt ok.K hl c.2 c.1 (ihE o) fun a _ => ihE a
            | none =>
              show PE X _ (RE G W (if plainAll args && Nat.ble args.length 28 then mthM F d m (ev F n d o) args.length (evsM (ev F n d) args) else fun _ _ => .stk))
              by_cases c3 : (plainAll args && Nat.ble args.length 28) = true
              · rw [if_pos c3]
                rw [Bool.and_eq_true] at c3
                exact re_mth tk (fun cc kn C => fo.meth cc m kn C) c.2 c.1 c3.1 (Nat.le_of_ble_eq_true c3.2) (ihE o) fun a _ => ihE a
              · rw [if_neg c3]; exact pe_dead
        · rw [if_neg c]; exact pe_dead
      | some s =>
        show PE X _ (RE G W (if (apos.endLine == pos.line) && plainO o then smtM (ev F n d) s o args else fun _ _ => .stk))
        by_cases c : ((apos.endLine == pos.line) && plainO o) = true
        · rw [if_pos c]
          rw [Bool.and_eq_true] at c
          exact re_smt ok hs c.2 c.1 (ihE o) fun a _ => ihE a
        · rw [if_neg c]; exact pe_dead
    · rename_i elt tg it ifs sc pos
      refine plain ?_ rfl
      by_cases c : isOwn d it = true
      · rw [if_pos c]
        refine re_compO ok fo (fun z => ?_) (ihE it) fun X' G' W' ok' fo' tk' e => re_all n X' G' _ W' ok' fo' tk' e
        cases it with
        | Set _ _ _ => exact Bool.false_ne_true c
        | _ => exact Bool.false_ne_true z
      · rw [if_neg c]
        exact re_comp ok fo ihE fun X' G' W' ok' fo' tk' e => re_all n X' G' _ W' ok' fo' tk' e
    · exact dead fun _ _ => rfl
end AM
/-! AMk: statements: the machine, and what the model does. -/
namespace AM
open PySem PySem.Spec PyProof.Rows L2

/-- how a statement ends -/
inductive SR where
  | nx (ρ : AM.Env) (h : AH) | rt (v : AV) (h : AH) | bk (ρ : AM.Env) (h : AH) | ct (ρ : AM.Env) (h : AH)
  | exc (c : Str) (fs : List (Str × AV)) (ρ : AM.Env) (h : AH) | stk
def exM {α : Type} (r : Res α) (ρ : AM.Env) (k : α → AH → SR) : SR := match r with
  | .ok a h => k a h
  | .exc c fs h => .exc c fs ρ h
  | .stk => .stk
def SR.seq (r : SR) (k : AM.Env → AH → SR) : SR := match r with
  | .nx ρ h => k ρ h
  | .rt v h => .rt v h
  | .bk ρ h => .bk ρ h
  | .ct ρ h => .ct ρ h
  | .exc c fs ρ h => .exc c fs ρ h
  | .stk => .stk
def isCmp : Expr → Bool
  | .ListComp _ _ _ _ => true
  | .SetComp _ _ _ _ => true
  | .DictComp _ _ _ _ _ => true
  | _ => false
def isLst : Expr → Bool
  | .List _ _ => true
  | _ => false
def setF (o i v : AV) (h : AH) : Option AH := match o, i with
  | .ref n, .int k => (match h[n]? with
    | some (.lst xs) => (ixN xs.length k).map fun j => h.set n (.lst (xs.set j v))
    | _ => none)
  | _, _ => none
def tgs (f : Expr → AV → AM.Env → AH → SR) : List Expr → List AV → AM.Env → AH → SR
  | [], [], ρ, h => .nx ρ h
  | e :: es, v :: vs, ρ, h => if isStar e then .stk else (f e v ρ h).seq (tgs f es vs)
  | _, _, _, _ => .stk
/-- a target's meaning -/
def tgM (fe : Expr → ME) (d : DC) : Nat → Expr → AV → AM.Env → AH → SR
  | 0, _, _, _, _ => .stk
  | n + 1, e, v, ρ, h => match e with
    | .Name x _ => if locB d.sc x then (match idxOf x d.N with
      | some i => .nx (ρ.set i (some v)) h
      | none => .stk) else .stk
    | .Tuple es _ _ => (match v with
      | .tup xs => if Nat.beq xs.length es.length && plainAll es then tgs (tgM fe d n) es xs ρ h else .stk
      | _ => .stk)
    | .Subscript o i _ => if isSl i then .stk else exM (fe o ρ h) ρ fun ov h1 => exM (fe i ρ h1) ρ fun iv h2 => (match setF ov iv v h2 with
      | some h3 => .nx ρ h3
      | none => .stk)
    | _ => .stk
/-- a comprehension that is stored by the swap of its last steps -/
def lcSw (sc : Scope) (x : Str) (px p : Pos) (bs : Scope) : Bool := (match sc.names.lookup x with | some .local => true | _ => false) && (px.line == p.line) && !(bs.names.any fun (n, k) => n == x && (k == .local || k == .cell))
def blkM (f : Stmt → AM.Env → AH → SR) : List Stmt → AM.Env → AH → SR
  | [], ρ, h => .nx ρ h
  | s :: r, ρ, h => (f s ρ h).seq (blkM f r)
/-- a turn's end, then what comes -/
def forS (r : SR) (k : AM.Env → AH → SR) : SR := match r with
  | .nx ρ h => k ρ h
  | .ct ρ h => k ρ h
  | .bk ρ h => .nx ρ h
  | .rt v h => .rt v h
  | .exc c fs ρ h => .exc c fs ρ h
  | .stk => .stk
def forL (asg : AV → AM.Env → Option AM.Env) (body : AM.Env → AH → SR) : List AV → AM.Env → AH → SR
  | [], ρ, h => .nx ρ h
  | a :: r, ρ, h => match asg a ρ with
    | none => .stk
    | some ρ1 => forS (body ρ1 h) (forL asg body r)
/-- over the own list n, asked at each turn: m turns at most -/
def forLD (n : Nat) (asg : AV → AM.Env → Option AM.Env) (body : AM.Env → AH → SR) : Nat → Nat → AM.Env → AH → SR
  | 0, i, ρ, h => (match h[n]? with
    | some (.lst ys) => if ys.length ≤ i then .nx ρ h else .stk
    | _ => .stk)
  | m + 1, i, ρ, h => (match h[n]? with
    | some (.lst ys) => (match ys[i]? with
      | none => .nx ρ h
      | some a => (match asg a ρ with
        | none => .stk
        | some ρ1 => forS (body ρ1 h) (forLD n asg body m (i + 1))))
    | _ => .stk)
def forOM (it : ME) (asg : AV → AM.Env → Option AM.Env) (body : AM.Env → AH → SR) : AM.Env → AH → SR := fun ρ h => exM (it ρ h) ρ fun v h1 => match v with
  | .ref k => (match h1[k]? with
    | some (.lst xs) => forLD k asg body xs.length 0 ρ h1
    | _ => .stk)
  | _ => .stk
def setN (d : DC) (x : Str) (m : ME) : AM.Env → AH → SR := fun ρ h => if locB d.sc x then (match idxOf x d.N with
  | some i => exM (m ρ h) ρ fun v h1 => .nx (ρ.set i (some v)) h1
  | none => .stk) else .stk
def augB : Operator → Bool
  | .Add => true
  | .Sub => true
  | _ => false
def augF (op : Operator) (v w : AV) : Option AV := match op, v, w with
  | .Add, .int i, .int j => some (.int (i + j))
  | .Sub, .int i, .int j => some (.int (i - j))
  | _, _, _ => none
def isLocB (sc : Scope) (x : Str) : Bool := match sc.names.lookup x with
  | some .local => true
  | _ => false
/-- the values are neither folded nor constants alone -/
def parV (vs : List Expr) : Bool := plainAll vs && !(vs.all (foldedForSure 8)) && !(vs.all (constantsAlone 8))
def par2 (sc : Scope) (x y : Str) (px py : Pos) (vs : List Expr) : Bool := isLocB sc x && isLocB sc y && (py.line == px.line) && !(decide (x = y)) && parV vs
def par3 (sc : Scope) (x y z : Str) (px py pz : Pos) (vs : List Expr) : Bool := isLocB sc x && isLocB sc y && isLocB sc z && (py.line == px.line) && (pz.line == px.line) && !(decide (x = y)) && !(decide (x = z)) && !(decide (y = z)) && parV vs
/-- the values are folded, or a target is no plain local: the stores come in order -/
def sstB (sc : Scope) (xs : List Str) (vs : List Expr) : Bool := vs.all (foldedForSure 8) || !(xs.all (isLocB sc))
def setL (ix : List Nat) (vs : List AV) (ρ : AM.Env) : Option AM.Env := match ix, vs with
  | [i, j], [v, w] => some ((ρ.set i (some v)).set j (some w))
  | [i, j, k], [v, w, z] => some (((ρ.set i (some v)).set j (some w)).set k (some z))
  | _, _ => none
def parM (f : Expr → ME) (ix : List Nat) (es : List Expr) : AM.Env → AH → SR := fun ρ h => exM (evsM f es ρ h) ρ fun vs h1 => match setL ix vs ρ with
  | some ρ1 => .nx ρ1 h1
  | none => .stk
/-- o.f = v of an own object -/
def stF (d : DC) (f : Str) (o v : AV) (h : AH) : Option AH := match o with
  | .ref n => (match h[n]? with
    | some (.ins c fs) => if d.fld c f = true ∧ fs.length < 1000 then some (h.set n (.ins c (putA f v fs))) else none
    | _ => none)
  | _ => none
/-- what an except suite may hold -/
def suB : Stmt → Bool
  | .Return (some (.Constant _ _ _)) _ => true
  | .Return none _ => true
  | .Pass _ => true
  | .Continue _ => true
  | .Break _ => true
  | _ => false
def tryM (exm : Str → Option Bool) (mb ms : AM.Env → AH → SR) : AM.Env → AH → SR := fun ρ h => match mb ρ h with
  | .exc c fs ρ1 h1 => (match exm c with
    | some true => ms ρ1 h1
    | some false => .exc c fs ρ1 h1
    | none => .stk)
  | .nx ρ1 h1 => .nx ρ1 h1
  | .rt v h1 => .rt v h1
  | .bk ρ1 h1 => .bk ρ1 h1
  | .ct ρ1 h1 => .ct ρ1 h1
  | .stk => .stk
/-- except X as n: y = n -/
def tryAsM (exm : Str → Option Bool) (i j : Nat) (mb : AM.Env → AH → SR) : AM.Env → AH → SR := fun ρ h => match mb ρ h with
  | .exc c fs ρ1 h1 => (match exm c with
    | some true => if i < ρ1.length then .nx ((ρ1.set j (some (.xo c fs))).set i none) h1 else .stk
    | some false => .exc c fs ρ1 h1
    | none => .stk)
  | .nx ρ1 h1 => .nx ρ1 h1
  | .rt v h1 => .rt v h1
  | .bk ρ1 h1 => .bk ρ1 h1
  | .ct ρ1 h1 => .ct ρ1 h1
  | .stk => .stk
def asB (d : DC) (x n m y : Str) : Bool := glB d.sc x && !dun x && d.hx x && (isLocB d.sc n && (visB d.sc n && (locB d.sc y && (decide (m = n) && !dun n))))
/-- all statements -/
def exS (F : Str → OpN) : Nat → DC → Stmt → AM.Env → AH → SR
  | 0, _, _ => fun _ _ => .stk
  | n + 1, d, st => match st with
    | .Pass _ => fun ρ h => .nx ρ h
    | .Break _ => fun ρ h => .bk ρ h
    | .Continue _ => fun ρ h => .ct ρ h
    | .Return none _ => fun _ h => .rt .non h
    | .Return (some e) _ => fun ρ h => exM (ev F n d e ρ h) ρ fun v h1 => .rt v h1
    | .Expr e _ => if isCmp e then fun _ _ => .stk else fun ρ h => exM (ev F n d e ρ h) ρ fun _ h1 => .nx ρ h1
    | .If c a b _ => if isIf c then fun _ _ => .stk else fun ρ h => exM (tstM (ev F n d c) ρ h) ρ fun t h1 => if t then blkM (exS F n d) a ρ h1 else blkM (exS F n d) b ρ h1
    | .For tg it body [] _ => if isOwn d it then forOM (ev F n d it) (bindT d n tg) (blkM (exS F n d) body) else fun ρ h => exM (itM (ev F n d) d tg it ρ h) ρ fun xs h1 => forL (bindT d n tg) (blkM (exS F n d) body) xs ρ h1
    | .Assign [.Name x px] (.ListComp elt [⟨tg, it, ifs, 0⟩] sc p) _ => setN d x (compM (ev F n d) (ev F n { d with sc := sc }) d n elt tg it ifs sc)
    | .Assign [.Name x _] e _ => if isCmp e then fun _ _ => .stk else setN d x (ev F n d e)
    | .Assign [.Tuple [.Name x px, .Name y py] kt pt] (.Tuple [a, b] k2 p2) _ => if par2 d.sc x y px py [a, b] then (match idxOf x d.N, idxOf y d.N with
      | some i, some j => parM (ev F n d) [i, j] [a, b]
      | _, _ => fun _ _ => .stk) else if sstB d.sc [x, y] [a, b] then (fun ρ h => exM (ev F n d (.Tuple [a, b] k2 p2) ρ h) ρ fun v h1 => tgM (ev F n d) d n (.Tuple [.Name x px, .Name y py] kt pt) v ρ h1) else fun _ _ => .stk
    | .Assign [.Tuple [.Name x px, .Name y py, .Name z pz] kt pt] (.Tuple [a, b, c] k2 p2) _ => if par3 d.sc x y z px py pz [a, b, c] then (match idxOf x d.N, idxOf y d.N, idxOf z d.N with
      | some i, some j, some k => parM (ev F n d) [i, j, k] [a, b, c]
      | _, _, _ => fun _ _ => .stk) else if sstB d.sc [x, y, z] [a, b, c] then (fun ρ h => exM (ev F n d (.Tuple [a, b, c] k2 p2) ρ h) ρ fun v h1 => tgM (ev F n d) d n (.Tuple [.Name x px, .Name y py, .Name z pz] kt pt) v ρ h1) else fun _ _ => .stk
    | .Assign [.Attribute o f _] e _ => if isCmp e then fun _ _ => .stk else fun ρ h => exM (ev F n d e ρ h) ρ fun v h1 => exM (ev F n d o ρ h1) ρ fun ov h2 => match stF d f ov v h2 with
      | some h3 => .nx ρ h3
      | none => .stk
    | .Assign [tg] e _ => if isCmp e || isStar tg || isLst tg || (isTup tg && isTup e) then fun _ _ => .stk else fun ρ h => exM (ev F n d e ρ h) ρ fun v h1 => tgM (ev F n d) d n tg v ρ h1
    | .AugAssign (.Name x _) op e _ => if locB d.sc x && augB op then (match idxOf x d.N with
      | some i => fun ρ h => (match ρ[i]? with
        | some (some v) => exM (ev F n d e ρ h) ρ fun w h1 => (match augF op v w with
          | some z => .nx (ρ.set i (some z)) h1
          | none => .stk)
        | _ => .stk)
      | none => fun _ _ => .stk) else fun _ _ => .stk
    | .Raise (some (.Call (.Name x _) [e] [] _)) none _ => (match d.exc x with
      | some f => if glB d.sc x && !dun x && !isStar e then fun ρ h => exM (ev F n d e ρ h) ρ fun v h1 => .exc x [(f, v)] ρ h1 else fun _ _ => .stk
      | none => fun _ _ => .stk)
    | .Try body [.ExceptHandler (some (.Name x _)) none (b0 :: suite) _] [] [] _ => if glB d.sc x && !dun x && d.hx x && (b0 :: suite).all suB then tryM (fun c => d.exm c x) (blkM (exS F n d) body) (blkM (exS F n d) (b0 :: suite)) else fun _ _ => .stk
    | .Try body [.ExceptHandler (some (.Name x _)) (some nm) [.Assign [.Name y _] (.Name m _) _] _] [] [] _ => if asB d x nm m y then (match idxOf nm d.N, idxOf y d.N with
      | some i, some j => tryAsM (fun c => d.exm c x) i j (blkM (exS F n d) body)
      | _, _ => fun _ _ => .stk) else fun _ _ => .stk
    | _ => fun _ _ => .stk

/-! ### what is wanted behind a statement -/
def PostS (G : Gh) (W : WX) (ι : List Addr) (H : Hp) (D : Ends) : SR → Prop
  | .nx ρ h => ∀ ι' H' σ', Ext ι H ι' H' → RH G ι' H' h → RS G ι' H' ρ σ' → D.nx σ' H'
  | .bk ρ h => ∀ ι' H' σ', Ext ι H ι' H' → RH G ι' H' h → RS G ι' H' ρ σ' → D.bk σ' H'
  | .ct ρ h => ∀ ι' H' σ', Ext ι H ι' H' → RH G ι' H' h → RS G ι' H' ρ σ' → D.ct σ' H'
  | .rt v h => ∀ ι' H' u, Ext ι H ι' H' → RH G ι' H' h → RV G ι' H' v u → D.rt u H'
  | .exc c fs ρ h => ∀ ι' H' σ' C d, Ext ι H ι' H' → RH G ι' H' h → RS G ι' H' ρ σ' → RX G ι' H' c fs C d → W (.ref C) d σ' H'
  | .stk => False
def RSt (G : Gh) (W : WX) (m : AM.Env → AH → SR) : TS := fun D σ H => ∃ ι ρ h, RH G ι H h ∧ RS G ι H ρ σ ∧ PostS G W ι H D (m ρ h)
section
variable {X : Cx} {G : Gh} {d : DC} {W : WX} {F : Str → OpN} {ι ι1 : List Addr} {H H1 : Hp} {D : Ends}
theorem PostS.ext (x : Ext ι H ι1 H1) {r : SR} (p : PostS G W ι H D r) : PostS G W ι1 H1 D r := by
  cases r with
  | nx ρ h => exact fun ι' H' σ' x' => p ι' H' σ' (x.trans x')
  | bk ρ h => exact fun ι' H' σ' x' => p ι' H' σ' (x.trans x')
  | ct ρ h => exact fun ι' H' σ' x' => p ι' H' σ' (x.trans x')
  | rt v h => exact fun ι' H' u x' => p ι' H' u (x.trans x')
  | exc c fs ρ h => exact fun ι' H' σ' C d x' => p ι' H' σ' C d (x.trans x')
  | stk => exact p
theorem PostS.ex {α β : Type} {R : List Addr → Hp → α → β → Prop} {r : Res α} {ρ : AM.Env} {σ : L2.St} {k : α → AH → SR} {Q : β → Hp → Prop} (p : PostS G W ι H D (exM r ρ k)) (rs : RS G ι H ρ σ)
    (kk : ∀ ι1 H1 a u h1, Ext ι H ι1 H1 → RH G ι1 H1 h1 → R ι1 H1 a u → PostS G W ι1 H1 D (k a h1) → Q u H1) : Post G R W σ ι H Q r := by
  cases r with
  | ok a h => exact fun ι' H' u x rh r => kk ι' H' a u h x rh r (PostS.ext x p)
  | exc c fs h => exact fun ι' H' C d x rh rx => p ι' H' σ C d x rh (rs.mono x) rx
  | stk => exact p
theorem PostS.sq {r : SR} {k : AM.Env → AH → SR} {N : L2.St → Hp → Prop} (p : PostS G W ι H D (r.seq k))
    (kk : ∀ ι1 H1 ρ1 σ1 h1, Ext ι H ι1 H1 → RH G ι1 H1 h1 → RS G ι1 H1 ρ1 σ1 → PostS G W ι1 H1 D (k ρ1 h1) → N σ1 H1) : PostS G W ι H { D with nx := N } r := by
  cases r with
  | nx ρ h => exact fun ι' H' σ' x rh rs => kk ι' H' ρ σ' h x rh rs (PostS.ext x p)
  | bk ρ h => exact p
  | ct ρ h => exact p
  | rt v h => exact p
  | exc c fs ρ h => exact p
  | stk => exact p
theorem PostS.nxt {ρ : AM.Env} {h : AH} {σ : L2.St} (p : PostS G W ι H D (.nx ρ h)) (rh : RH G ι H h) (rs : RS G ι H ρ σ) : D.nx σ H := p ι H σ Ext.refl rh rs
theorem rs_dead {st : Stmt} : PS X st (RSt G W fun _ _ => .stk) := ⟨fun pins s σ H D I ⟨_, _, _, _, _, p⟩ => p.elim⟩
theorem rss {f : Stmt → AM.Env → AH → SR} : ∀ sts : List Stmt, (∀ st ∈ sts, PS X st (RSt G W (f st))) → PSs X sts (RSt G W (blkM f sts))
  | [], _ => PSs_imp pss_nil fun D σ H ⟨ι, ρ, h, rh, rs, p⟩ => p.nxt rh rs
  | s :: r, hf => PSs_imp (pss_cons (hf s (List.mem_cons_self ..)) (rss r fun x hx => hf x (List.mem_cons_of_mem _ hx))) fun D σ H ⟨ι, ρ, h, rh, rs, p⟩ =>
      ⟨ι, ρ, h, rh, rs, p.sq fun ι1 H1 ρ1 σ1 h1 x rh1 rs1 p1 => ⟨ι1, ρ1, h1, rh1, rs1, p1⟩⟩
theorem sw_e {e : Expr} {t : Option Expr} {l : Nat} {env : PySem.Env} (h : ¬ isCmp e = true) : swapsWith e t l env = pure false := by
  cases e <;> first | rfl | exact absurd rfl h
theorem rs_ret {e : Expr} {m : ME} {pos : Pos} (he : PE X e (RE G W m)) : PS X (.Return (some e) pos) (RSt G W fun ρ h => exM (m ρ h) ρ fun v h1 => .rt v h1) :=
  PS_imp (ps_ret he) fun D σ H ⟨ι, ρ, h, rh, rs, p⟩ => ⟨ι, ρ, h, rh, rs, p.ex rs fun ι1 H1 a u h1 x rh1 r p1 => p1 ι1 H1 u Ext.refl rh1 r⟩
theorem rs_expr {e : Expr} {m : ME} {pos : Pos} (hc : ¬ isCmp e = true) (he : PE X e (RE G W m)) : PS X (.Expr e pos) (RSt G W fun ρ h => exM (m ρ h) ρ fun _ h1 => .nx ρ h1) :=
  PS_imp (ps_expr he (sw_e hc)) fun D σ H ⟨ι, ρ, h, rh, rs, p⟩ => ⟨ι, ρ, h, rh, rs, p.ex rs fun ι1 H1 a u h1 x rh1 r p1 => p1.nxt rh1 (rs.mono x)⟩
theorem rs_if {c : Expr} {mc : AM.Env → AH → Res Bool} {a b : List Stmt} {ma mb : AM.Env → AH → SR} {pos : Pos} (hc : PT X c (RTt G W mc)) (ha : PSs X a (RSt G W ma)) (hb : PSs X b (RSt G W mb)) :
    PS X (.If c a b pos) (RSt G W fun ρ h => exM (mc ρ h) ρ fun t h1 => if t then ma ρ h1 else mb ρ h1) :=
  PS_imp (ps_if hc ha hb) fun D σ H ⟨ι, ρ, h, rh, rs, p⟩ => ⟨ι, ρ, h, rh, rs, p.ex rs fun ι1 H1 t u h1 x rh1 r p1 => by
    have r : t = u := r
    subst r
    cases t with
    | true => exact iteT ⟨ι1, ρ, h1, rh1, rs.mono x, p1⟩
    | false => exact iteF ⟨ι1, ρ, h1, rh1, rs.mono x, p1⟩⟩
theorem rs_set (ok : XOk X G d) {x : Str} {e : Expr} {m : ME} {px pos : Pos} (hc : ¬ isCmp e = true) (he : PE X e (RE G W m)) : PS X (.Assign [.Name x px] e pos) (RSt G W (setN d x m)) := by
  by_cases c : locB d.sc x = true
  · cases q : idxOf x d.N with
    | none => exact PS_imp (rs_dead (G := G) (W := W)) fun D σ H ⟨ι, ρ, h, rh, rs, p⟩ => ⟨ι, ρ, h, rh, rs, by
        unfold setN at p
        rw [if_pos c, q] at p
        exact p⟩
    | some i =>
      obtain ⟨hl, hf⟩ := ok.loc x c
      refine PS_imp (ps_set (i := i) (by rw [ok.N]; exact ok.nd) (by rw [ok.N]; exact idxOf_ok q) hl he (sw_e hc) hf) fun D σ H ⟨ι, ρ, h, rh, rs, p⟩ => ⟨ι, ρ, h, rh, rs, ?_⟩
      unfold setN at p
      rw [if_pos c, q] at p
      have p : PostS G W ι H D (exM (m ρ h) ρ fun v h1 => .nx (ρ.set i (some v)) h1) := p
      exact p.ex rs fun ι1 H1 a u h1 x1 rh1 r p1 => p1.nxt rh1 ((rs.mono x1).set r)
  · exact PS_imp (rs_dead (G := G) (W := W)) fun D σ H ⟨ι, ρ, h, rh, rs, p⟩ => ⟨ι, ρ, h, rh, rs, by
      unfold setN at p
      rw [if_neg c] at p
      exact p⟩
/-! ### targets -/
def RGt (G : Gh) (W : WX) (m : AV → AM.Env → AH → SR) : TG := fun v σ H Q => ∃ ι ρ h a, ∃ D : Ends, RH G ι H h ∧ RS G ι H ρ σ ∧ RV G ι H a v ∧ PostS G W ι H { D with nx := Q } (m a ρ h)
def RGts (G : Gh) (W : WX) (m : List AV → AM.Env → AH → SR) : TGs := fun v σ H Q => ∃ ι ρ h a, ∃ D : Ends, RH G ι H h ∧ RS G ι H ρ σ ∧ RVs G ι H a v ∧ PostS G W ι H { D with nx := Q } (m a ρ h)
theorem pgt_dead {e : Expr} : PG X e (RGt G W fun _ _ _ => .stk) := ⟨fun pins s σ H v u Q I r ⟨_, _, _, _, _, _, _, _, p⟩ => p.elim⟩
theorem rgt_all {f : Expr → AV → AM.Env → AH → SR} : ∀ es : List Expr, (∀ e ∈ es, isStar e = false) → (∀ e ∈ es, PG X e (RGt G W (f e))) → PGs X es (RGts G W (tgs f es))
  | [], _, _ => PGs_imp pgs_nil fun v σ H Q ⟨ι, ρ, h, a, D, rh, rs, rv, p⟩ => by
      cases a with
      | nil =>
        cases rv
        exact ⟨rfl, PostS.nxt (ρ := ρ) (h := h) p rh rs⟩
      | cons _ _ => exact False.elim p
  | t :: es, hs, hf => by
    have he := hf t (List.mem_cons_self ..)
    have ht := rgt_all es (fun x hx => hs x (List.mem_cons_of_mem _ hx)) fun x hx => hf x (List.mem_cons_of_mem _ hx)
    refine PGs_imp (pgs_cons he ht (asE_plain (hs t (List.mem_cons_self ..))).1) fun v σ H Q ⟨ι, ρ, h, a, D, rh, rs, rv, p⟩ => ?_
    cases a with
    | nil => exact False.elim p
    | cons x xs =>
      cases rv with
      | @cons _ v1 _ vr r1 r2 =>
        unfold tgs at p
        rw [if_neg (by rw [hs t (List.mem_cons_self ..)]; exact Bool.false_ne_true)] at p
        exact ⟨v1, vr, rfl, ι, ρ, h, x, D, rh, rs, r1, p.sq fun ι1 H1 ρ1 σ1 h1 x1 rh1 rs1 p1 => ⟨ι1, ρ1, h1, xs, D, rh1, rs1, r2.mono x1, p1⟩⟩
theorem set_ok {o i v : AV} {h h3 : AH} {uo ui uv : V} {Q : Hp → Prop} (rh : RH G ι H h) (ro : RV G ι H o uo) (ri : RV G ι H i ui) (rv : RV G ι H v uv) (e : setF o i v h = some h3)
    (k : ∀ H', Ext ι H ι H' → RH G ι H' h3 → Q H') : rSetL uo ui uv H Q := by
  unfold setF at e
  split at e
  · rename_i n j
    split at e
    · rename_i xs q
      obtain ⟨m, e1, rfl⟩ := Option.map_eq_some_iff.mp e
      obtain ⟨a, vs, rfl, hi, hH, rr⟩ := refLst rh ro q
      rw [inv_int ri]
      refine ⟨a, vs, j, m, rfl, rfl, hH, by rw [← rr.length]; exact e1, k _ (Ext.write hi) (rh.write hi ⟨_, rfl, rr.set rv m⟩)⟩
    · cases e
  · cases e
theorem rs_fld {f : Str} (fk : ∀ c C, d.fld c f = true → G.ga c = some C → Cls X.K C ∧ NoAttr X.K C f) {o e : Expr} {me mo : ME} {p pos : Pos} (hc : ¬ isCmp e = true) (ho : PE X o (RE G W mo)) (he : PE X e (RE G W me)) :
    PS X (.Assign [.Attribute o f p] e pos) (RSt G W fun ρ h => exM (me ρ h) ρ fun v h1 => exM (mo ρ h1) ρ fun ov h2 => match stF d f ov v h2 with
      | some h3 => .nx ρ h3
      | none => .stk) :=
  PS_imp (ps_fld ho he (sw_e hc)) fun D σ H ⟨ι, ρ, h, rh, rs, q⟩ => ⟨ι, ρ, h, rh, rs, q.ex rs fun ι1 H1 v u h1 x1 rh1 r1 p1 => ⟨ι1, ρ, h1, rh1, rs.mono x1, p1.ex (rs.mono x1) fun ι2 H2 ov uo h2 x2 rh2 ro p2 => by
    cases e1 : stF d f ov v h2 with
    | none => rw [e1] at p2; exact p2.elim
    | some h3 =>
      rw [e1] at p2
      unfold stF at e1
      split at e1
      · rename_i n
        split at e1
        · rename_i c fs q
          by_cases cc : d.fld c f = true ∧ fs.length < 1000
          · rw [if_pos cc] at e1
            cases e1
            obtain ⟨a, C, dx, gs, rfl, i, e2, g, rf⟩ := insAt rh2 ro q
            obtain ⟨k1, k2⟩ := fk c C cc.1 g
            have xw : Ext ι2 H2 ι2 (upd H2 a (.ins C dx (putF f u gs))) := Ext.write i
            exact ⟨a, C, dx, gs, rfl, e2, k1, k2, by rw [← rf.length]; exact cc.2, p2 ι2 _ σ xw (rh2.write i ⟨C, dx, _, rfl, g, RFs.put (r1.mono x2) rf⟩) (((rs.mono x1).mono x2).mono xw)⟩
          · rw [if_neg cc] at e1
            cases e1
        · cases e1
      · cases e1⟩⟩
theorem rgt (ok : XOk X G d) {fe : Expr → ME} (hfe : ∀ e, PE X e (RE G W (fe e))) : ∀ (n : Nat) (e : Expr), PG X e (RGt G W (tgM fe d n e))
  | 0, e => PG_imp (pgt_dead (G := G) (W := W)) fun v σ H Q ⟨_, _, _, _, _, _, _, _, p⟩ => False.elim p
  | n + 1, e => by
    have dead : ∀ {e : Expr} {m : AV → AM.Env → AH → SR}, (∀ a ρ h, m a ρ h = .stk) → PG X e (RGt G W m) := fun hm => PG_imp (pgt_dead (G := G) (W := W)) fun v σ H Q ⟨_, _, _, _, _, _, _, _, p⟩ => by
      rw [hm] at p
      exact p.elim
    cases e with
    | Name x pos =>
      by_cases c : locB d.sc x = true
      · cases q : idxOf x d.N with
        | none =>
          exact dead fun a ρ h => by
            show (if locB d.sc x then (match idxOf x d.N with | some i => .nx (ρ.set i (some a)) h | none => .stk) else .stk) = SR.stk
            rw [if_pos c, q]
        | some i =>
          obtain ⟨hl, hf⟩ := ok.loc x c
          refine PG_imp (pg_name (i := i) (by rw [ok.N]; exact ok.nd) (by rw [ok.N]; exact idxOf_ok q) hl hf) fun v σ H Q ⟨ι, ρ, h, a, D, rh, rs, rv, p⟩ => ?_
          have p : PostS G W ι H { D with nx := Q } (if locB d.sc x then (match idxOf x d.N with | some i => .nx (ρ.set i (some a)) h | none => .stk) else .stk) := p
          rw [if_pos c, q] at p
          exact PostS.nxt (ρ := ρ.set i (some a)) (h := h) p rh (rs.set rv)
      · exact dead fun a ρ h => by
          show (if locB d.sc x then (match idxOf x d.N with | some i => .nx (ρ.set i (some a)) h | none => .stk) else .stk) = SR.stk
          rw [if_neg c]
    | Tuple es k pos =>
      by_cases c : plainAll es = true
      · have c1 := plainAll_ok c
        have hs := rgt_all (X := X) (G := G) (W := W) (f := tgM fe d n) es c1 fun e _ => rgt ok hfe n e
        refine PG_imp (pg_tup (n := es.length) ok.calm hs (asE_len es) (asE_none c1)) fun v σ H Q ⟨ι, ρ, h, a, D, rh, rs, rv, p⟩ => ?_
        cases a with
        | tup xs =>
          have p : PostS G W ι H { D with nx := Q } (if Nat.beq xs.length es.length && plainAll es then tgs (tgM fe d n) es xs ρ h else .stk) := p
          by_cases c2 : (Nat.beq xs.length es.length && plainAll es) = true
          · rw [if_pos c2] at p
            rw [Bool.and_eq_true] at c2
            cases rv with
            | @tup _ b vs t q =>
              exact ⟨b, vs, rfl, by rw [ok.K]; exact t.sq, by rw [← q.length]; exact Nat.eq_of_beq_eq_true c2.1, ι, ρ, h, xs, D, rh, rs, q, p⟩
          · rw [if_neg c2] at p
            exact p.elim
        | _ => exact False.elim p
      · exact dead fun a ρ h => by
          cases a with
          | tup xs =>
            show (if Nat.beq xs.length es.length && plainAll es then tgs (tgM fe d n) es xs ρ h else .stk) = SR.stk
            rw [if_neg (by rw [Bool.and_eq_true]; exact fun z => c z.2)]
          | _ => rfl
    | Subscript o i pos =>
      by_cases c : isSl i = true
      · exact dead fun a ρ h => by
          show (if isSl i then .stk else exM (fe o ρ h) ρ _) = SR.stk
          rw [if_pos c]
      · refine PG_imp (pg_sub (hfe o) (hfe i) set_list (fun v => by cases i <;> first | rfl | exact absurd rfl c)) fun v σ H Q ⟨ι, ρ, h, a, D, rh, rs, rv, p⟩ => ?_
        have p : PostS G W ι H { D with nx := Q } (if isSl i then .stk else exM (fe o ρ h) ρ fun ov h1 => exM (fe i ρ h1) ρ fun iv h2 => (match setF ov iv a h2 with | some h3 => .nx ρ h3 | none => .stk)) := p
        rw [if_neg c] at p
        refine ⟨ι, ρ, h, rh, rs, p.ex rs fun ι1 H1 ov uo h1 x1 rh1 ro p1 => ⟨ι1, ρ, h1, rh1, rs.mono x1, p1.ex (rs.mono x1) fun ι2 H2 iv ui h2 x2 rh2 ri p2 => ?_⟩⟩
        cases q : setF ov iv a h2 with
        | none => rw [q] at p2; exact p2.elim
        | some h3 =>
          rw [q] at p2
          exact set_ok rh2 (ro.mono x2) ri ((rv.mono x1).mono x2) q fun H3 x3 rh3 => p2 ι2 H3 σ x3 rh3 (((rs.mono x1).mono x2).mono x3)
    | _ => exact dead fun _ _ _ => rfl
/-! ### for -/
theorem rs_forO (ok : XOk X G d) (hp : PassesOwn (model X.prog X.w) X.A X.env X.xe) {it : Expr} {mi : ME} {n : Nat} {tg : Expr} {body : List Stmt} {mb : AM.Env → AH → SR} {pos : Pos} (cs : ¬ isSet it = true) (hi : PE X it (RE G W mi)) (hb : PSs X body (RSt G W mb)) :
    PS X (.For tg it body [] pos) (RSt G W (forOM mi (bindT d n tg) mb)) := by
  have hit : PI X tg it (iList G.K (RE G W mi)) := ok.K ▸ pi_list hi
  refine PS_imp (ps_for hp ok.calm hit (rg_bind ok n tg) hb (notSet cs)) fun D σ H ⟨ι, ρ, h, rh, rs, p⟩ => ⟨ι, ρ, h, rh, rs, p.ex rs fun ι1 H1 v u h1 x1 rh1 rv p1 => ?_⟩
  cases v with
  | ref k =>
    have p1 : PostS G W ι1 H1 D (match h1[k]? with | some (.lst xs) => forLD k (bindT d n tg) mb xs.length 0 ρ h1 | _ => .stk) := p1
    split at p1
    · rename_i xs qk
      obtain ⟨a, us, rfl, ia, ha, _⟩ := refLst rh1 rv qk
      refine ⟨a, rfl, ⟨us, SqL.of ha⟩, fun i m σ' H' => ∃ ι' ρ' h', Ext ι1 H1 ι' H' ∧ RH G ι' H' h' ∧ RS G ι' H' ρ' σ' ∧ PostS G W ι1 H1 D (forLD k (bindT d n tg) mb m i ρ' h'), ⟨xs.length, ι1, ρ, h1, Ext.refl, rh1, rs.mono x1, p1⟩, ?_⟩
      rintro i m σ' H' ⟨ι', ρ', h', xx, rh', rs', p2⟩
      have at_ : ∀ ys, h'[k]? = some (.lst ys) → ∃ ws, SqL G.K H' a ws ∧ RVs G ι' H' ys ws := fun ys e => by
        obtain ⟨u, hu, ws, rfl, r⟩ := rh'.at_ k _ a e (xx.ix ia)
        exact ⟨ws, SqL.of hu, r⟩
      have stop : ∀ ys, h'[k]? = some (.lst ys) → ys.length ≤ i → PostS G W ι1 H1 D (.nx ρ' h') → (Itl G.K a).stop i H' ∧ D.nx σ' H' := fun ys e hl p => by
        obtain ⟨ws, e1, r1⟩ := at_ ys e
        exact ⟨⟨ws, e1, by rw [← r1.length]; exact hl⟩, p ι' H' σ' xx rh' rs'⟩
      cases m with
      | zero =>
        have p2 : PostS G W ι1 H1 D (match h'[k]? with | some (.lst ys) => if ys.length ≤ i then .nx ρ' h' else .stk | _ => .stk) := p2
        split at p2
        · rename_i ys qy
          split at p2
          · rename_i hl
            exact .inl (stop ys qy hl p2)
          · exact p2.elim
        · exact p2.elim
      | succ m =>
        have p2 : PostS G W ι1 H1 D (match h'[k]? with
          | some (.lst ys) => (match ys[i]? with
            | none => .nx ρ' h'
            | some b => (match bindT d n tg b ρ' with
              | none => .stk
              | some ρ1 => forS (mb ρ1 h') (forLD k (bindT d n tg) mb m (i + 1))))
          | _ => .stk) := p2
        split at p2
        · rename_i ys qy
          cases qi : ys[i]? with
          | none =>
            rw [qi] at p2
            exact .inl (stop ys qy (List.getElem?_eq_none_iff.mp qi) p2)
          | some b =>
            rw [qi] at p2
            obtain ⟨ws, e1, r1⟩ := at_ ys qy
            obtain ⟨w0, e2, r2⟩ := r1.get qi
            refine .inr ⟨⟨ws, w0, e1, e2⟩, fun σ2 H2 => ∃ ι2 ρ2 h2, Ext ι1 H1 ι2 H2 ∧ RH G ι2 H2 h2 ∧ RS G ι2 H2 ρ2 σ2 ∧ PostS G W ι1 H1 D (forLD k (bindT d n tg) mb m (i + 1) ρ2 h2), fun σ2 H2 z => ⟨m, Nat.lt_succ_self m, z⟩, ?_⟩
            rintro x H2 ⟨rfl, y2⟩
            obtain rfl : x = w0 := Option.some.inj ((y2 ws e1).symm.trans e2)
            cases qa : bindT d n tg b ρ' with
            | none =>
              have p2 : PostS G W ι1 H1 D (match bindT d n tg b ρ' with
                | none => .stk
                | some ρ1 => forS (mb ρ1 h') (forLD k (bindT d n tg) mb m (i + 1))) := p2
              rw [qa] at p2
              exact p2.elim
            | some ρ1 =>
              have p2 : PostS G W ι1 H1 D (match bindT d n tg b ρ' with
                | none => .stk
                | some ρ1 => forS (mb ρ1 h') (forLD k (bindT d n tg) mb m (i + 1))) := p2
              rw [qa] at p2
              have p2 : PostS G W ι1 H1 D (forS (mb ρ1 h') (forLD k (bindT d n tg) mb m (i + 1))) := p2
              refine ⟨ι', ρ', b, ρ1, rs', r2, qa, fun σ2 o rs2 => ⟨ι', ρ1, h', rh', rs2, ?_⟩⟩
              cases qb : mb ρ1 h' with
              | nx ρ2 h2 =>
                rw [qb] at p2
                exact fun ι3 H3 σ3 x3 rh3 rs3 => ⟨ι3, ρ2, h2, xx.trans x3, rh3, rs3, p2⟩
              | ct ρ2 h2 =>
                rw [qb] at p2
                exact fun ι3 H3 σ3 x3 rh3 rs3 => ⟨ι3, ρ2, h2, xx.trans x3, rh3, rs3, p2⟩
              | bk ρ2 h2 =>
                rw [qb] at p2
                exact fun ι3 H3 σ3 x3 rh3 rs3 => p2 ι3 H3 σ3 (xx.trans x3) rh3 rs3
              | rt v h2 =>
                rw [qb] at p2
                exact fun ι3 H3 u x3 rh3 rv3 => p2 ι3 H3 u (xx.trans x3) rh3 rv3
              | exc c fs ρ2 h2 =>
                rw [qb] at p2
                exact fun ι3 H3 σ3 C dd x3 rh3 rs3 rx => p2 ι3 H3 σ3 C dd (xx.trans x3) rh3 rs3 rx
              | stk => rw [qb] at p2; exact p2.elim
        · exact p2.elim
    · exact p1.elim
  | _ => exact p1.elim
theorem rs_for (ok : XOk X G d) (hp : PassesOwn (model X.prog X.w) X.A X.env X.xe) {f : Expr → ME} {n : Nat} {tg it : Expr} {body : List Stmt} {mb : AM.Env → AH → SR} {pos : Pos} (hf : ∀ e, PE X e (RE G W (f e))) (hb : PSs X body (RSt G W mb)) :
    PS X (.For tg it body [] pos) (RSt G W fun ρ h => exM (itM f d tg it ρ h) ρ fun xs h1 => forL (bindT d n tg) mb xs ρ h1) := by
  by_cases cs : isSet it = true
  · refine PS_imp (rs_dead (G := G) (W := W)) fun D σ H ⟨ι, ρ, h, rh, rs, p⟩ => ⟨ι, ρ, h, rh, rs, ?_⟩
    unfold itM at p
    rw [if_pos cs] at p
    exact p
  refine PS_imp (ps_for hp ok.calm (pi_it ok it hf) (rg_bind ok n tg) hb (notSet cs)) fun D σ H ⟨ι, ρ, h, rh, rs, p⟩ => ⟨ι, ρ, h, rh, rs, p.ex rs fun ι1 H1 xs J h1 x1 rh1 wk p1 => ?_⟩
  refine for_it (g := RG G (tslots d n tg) (bindT d n tg)) (tb := RSt G W mb) (D := D) (wlk wk) (fun i σ' H' => ∃ ι' ρ' h', Ext ι1 H1 ι' H' ∧ RH G ι' H' h' ∧ RS G ι' H' ρ' σ' ∧ PostS G W ι1 H1 D (forL (bindT d n tg) mb (xs.drop i) ρ' h')) ?_ ?_ ?_ ?_
  · exact ⟨ι1, ρ, h1, Ext.refl, rh1, rs.mono x1, by rw [List.drop_zero]; exact p1⟩
  · rintro i σ' H' _ ⟨ι', ρ', h', x, _⟩
    exact ⟨ι', x⟩
  · rintro i x σ' H' H2 hi ⟨ι', ρ', h', xx, rh', rs', p2⟩ y
    have e0 : xs[i]? = some xs[i] := List.getElem?_eq_getElem hi
    obtain ⟨x2, rh2, rv2⟩ := wk.yields G.hid (fun b hb => .inl hb) i ι' H' h' xs[i] x H2 xx rh' e0 y
    have rh2 : RH G ι' H2 h' := rh2
    have rv2 : RV G ι' H2 xs[i] x := rv2
    rw [List.drop_eq_getElem_cons hi] at p2
    unfold forL at p2
    cases qa : bindT d n tg xs[i] ρ' with
    | none => rw [qa] at p2; exact p2.elim
    | some ρ1 =>
      rw [qa] at p2
      have p2 : PostS G W ι1 H1 D (forS (mb ρ1 h') (forL (bindT d n tg) mb (xs.drop (i + 1)))) := p2
      refine ⟨ι', ρ', xs[i], ρ1, rs'.mono x2, rv2, qa, fun σ2 o rs2 => ⟨ι', ρ1, h', rh2, rs2, ?_⟩⟩
      cases qb : mb ρ1 h' with
      | nx ρ2 h2 =>
        rw [qb] at p2
        exact fun ι3 H3 σ3 x3 rh3 rs3 => ⟨ι3, ρ2, h2, xx.trans (x2.trans x3), rh3, rs3, p2⟩
      | ct ρ2 h2 =>
        rw [qb] at p2
        exact fun ι3 H3 σ3 x3 rh3 rs3 => ⟨ι3, ρ2, h2, xx.trans (x2.trans x3), rh3, rs3, p2⟩
      | bk ρ2 h2 =>
        rw [qb] at p2
        exact fun ι3 H3 σ3 x3 rh3 rs3 => p2 ι3 H3 σ3 (xx.trans (x2.trans x3)) rh3 rs3
      | rt v h2 =>
        rw [qb] at p2
        exact fun ι3 H3 u x3 rh3 rv3 => p2 ι3 H3 u (xx.trans (x2.trans x3)) rh3 rv3
      | exc c fs ρ2 h2 =>
        rw [qb] at p2
        exact fun ι3 H3 σ3 C dd x3 rh3 rs3 rx => p2 ι3 H3 σ3 C dd (xx.trans (x2.trans x3)) rh3 rs3 rx
      | stk => rw [qb] at p2; exact p2.elim
  · rintro σ' H' ⟨ι', ρ', h', xx, rh', rs', p2⟩
    rw [List.drop_length] at p2
    exact p2 ι' H' σ' xx rh' rs'
end
end AM
/-! AMq: stores of displays in displays. -/
namespace AM
open PySem PySem.Spec PyProof.Rows L2
/-- a def's own block -/
structure SOk (X : Cx) (d : DC) : Prop where
  sc : X.env.scope = d.sc
  kind : d.sc.kind = .function
  pass : PassesOwn (model X.prog X.w) X.A X.env X.xe
  stk : X.stack = X.env :: X.outer
  frm : X.env.frame = some X.env.locals
section
variable {X : Cx} {G : Gh} {d : DC} {W : WX}
theorem isLocB_ok {sc : Scope} {x : Str} (h : isLocB sc x = true) : sc.names.lookup x = some .local := by
  unfold isLocB at h
  split at h
  · assumption
  · cases h
theorem starM {e : Expr} (h : isStar e = false) : (match e with | .Starred .. => true | _ => false) = false := by cases e <;> first | rfl | cases h
theorem star_any : ∀ {vs : List Expr}, plainAll vs = true → (vs.any fun | .Starred .. => true | _ => false) = false
  | [], _ => rfl
  | v :: vs, h => by
    have h1 := plainAll_ok h v (List.mem_cons_self ..)
    have h2 : plainAll vs = true := List.all_eq_true.mpr fun e he => by
      rw [plainAll_ok h e (List.mem_cons_of_mem _ he)]
      rfl
    rw [List.any_cons, star_any h2]
    cases v <;> first | rfl | cases h1
theorem par2_ok {sc : Scope} {env : PySem.Env} {x y : Str} {px py pt p2 : Pos} {a b : Expr} {kt k2 : Nat} (he : env.scope = sc) (hk : sc.kind = .function) (h : par2 sc x y px py [a, b] = true) :
    swappedStores [.Tuple [.Name x px, .Name y py] kt pt] (.Tuple [a, b] k2 p2) env = pure (some [x, y]) := by
  unfold par2 parV at h
  simp only [Bool.and_eq_true, Bool.not_eq_true', decide_eq_false_iff_not] at h
  obtain ⟨⟨⟨⟨h1, h2⟩, h3⟩, h4⟩, ⟨h5, h6⟩, h7⟩ := h
  have k1 : env.kindOf x = some .local := by unfold Env.kindOf; rw [he]; exact isLocB_ok h1
  have k2 : env.kindOf y = some .local := by unfold Env.kindOf; rw [he]; exact isLocB_ok h2
  have kb : env.blockKind = .function := by unfold Env.blockKind; rw [he, hk]; rfl
  have hs := star_any h5
  unfold swappedStores
  have e4 : [x, y].eraseDups = [x, y] := by
    rw [List.eraseDups_cons, List.filter_cons]
    have e : (!(y == x)) = true := by simp [Ne.symm h4]
    rw [if_pos e]
    simp [List.eraseDups_cons]
  simp only [List.length_cons, List.length_nil, kb, h6, h7, List.filterMap_cons, List.filterMap_nil, k1, k2, List.head?_cons, Option.map_some, Option.getD_some, Expr.pos, h3]
  refine (if_neg (by decide)).trans ?_
  refine (if_neg (Bool.eq_false_iff.mp hs)).trans ?_
  simp [e4]
theorem par3_ok {sc : Scope} {env : PySem.Env} {x y z : Str} {px py pz pt p2 : Pos} {a b c : Expr} {kt k2 : Nat} (he : env.scope = sc) (hk : sc.kind = .function) (h : par3 sc x y z px py pz [a, b, c] = true) :
    swappedStores [.Tuple [.Name x px, .Name y py, .Name z pz] kt pt] (.Tuple [a, b, c] k2 p2) env = pure (some [x, y, z]) := by
  unfold par3 parV at h
  simp only [Bool.and_eq_true, Bool.not_eq_true', decide_eq_false_iff_not] at h
  obtain ⟨⟨⟨⟨⟨⟨⟨⟨h1, h2⟩, h3⟩, g1⟩, g2⟩, n1⟩, n2⟩, n3⟩, ⟨h5, h6⟩, h7⟩ := h
  have k1 : env.kindOf x = some .local := by unfold Env.kindOf; rw [he]; exact isLocB_ok h1
  have k2 : env.kindOf y = some .local := by unfold Env.kindOf; rw [he]; exact isLocB_ok h2
  have k3 : env.kindOf z = some .local := by unfold Env.kindOf; rw [he]; exact isLocB_ok h3
  have kb : env.blockKind = .function := by unfold Env.blockKind; rw [he, hk]; rfl
  have hs := star_any h5
  unfold swappedStores
  have e4 : [x, y, z].eraseDups = [x, y, z] := by
    rw [List.eraseDups_cons, List.filter_cons, List.filter_cons]
    have e : (!(y == x)) = true := by simp [Ne.symm n1]
    have e' : (!(z == x)) = true := by simp [Ne.symm n2]
    rw [if_pos e, if_pos e', List.filter_nil, List.eraseDups_cons, List.filter_cons]
    have e2 : (!(z == y)) = true := by simp [Ne.symm n3]
    rw [if_pos e2]
    simp [List.eraseDups_cons]
  simp only [List.length_cons, List.length_nil, kb, h6, h7, List.filterMap_cons, List.filterMap_nil, k1, k2, k3, List.head?_cons, Option.map_some, Option.getD_some, Expr.pos, g1, g2]
  refine (if_neg (by decide)).trans ?_
  refine (if_neg (Bool.eq_false_iff.mp hs)).trans ?_
  simp [e4]
theorem rs_par2 (ok : XOk X G d) (so : SOk X d) {f : Expr → ME} {x y : Str} {px py pt p2 pos : Pos} {a b : Expr} {kt k2 : Nat} (h : par2 d.sc x y px py [a, b] = true) {i j : Nat} (hi : idxOf x d.N = some i) (hj : idxOf y d.N = some j) (hf : ∀ e, PE X e (RE G W (f e))) :
    PS X (.Assign [.Tuple [.Name x px, .Name y py] kt pt] (.Tuple [a, b] k2 p2) pos) (RSt G W (parM f [i, j] [a, b])) := by
  have hp := h
  unfold par2 at hp
  simp only [Bool.and_eq_true, Bool.not_eq_true', decide_eq_false_iff_not] at hp
  obtain ⟨⟨⟨⟨h1, h2⟩, h3⟩, h4⟩, h5⟩ := hp
  have ni : X.N[i]? = some x := by rw [ok.N]; exact idxOf_ok hi
  have nj : X.N[j]? = some y := by rw [ok.N]; exact idxOf_ok hj
  have hij : i ≠ j := fun z => by
    subst z
    rw [ni] at nj
    exact h4 (Option.some.inj nj)
  refine PS_imp (ps_par ok.calm (by rw [ok.N]; exact ok.nd) ni nj hij (by rw [so.sc]; exact isLocB_ok h1) (by rw [so.sc]; exact isLocB_ok h2) (ra_evs [a, b] fun e _ => hf e) (par2_ok so.sc so.kind h)) fun D σ H ⟨ι, ρ, hh, rh, rs, p⟩ => ⟨ι, ρ, hh, rh, rs, p.ex rs fun ι1 H1 vs us h1 x1 rh1 r1 p1 => ?_⟩
  split at p1
  · rename_i ρ1 e1
    unfold setL at e1
    split at e1
    · rename_i q1
      cases q1
      cases e1
      obtain ⟨u1, u2, rfl, r2, r3⟩ := inv2 r1
      exact ⟨u1, u2, rfl, p1.nxt rh1 (((rs.mono x1).set r2).set r3)⟩
    · rename_i q1
      cases q1
    · cases e1
  · exact p1.elim
theorem inv3 {ι : List Addr} {H : Hp} {x y z : AV} {us : List V} (r : RVs G ι H [x, y, z] us) : ∃ u w t, us = [u, w, t] ∧ RV G ι H x u ∧ RV G ι H y w ∧ RV G ι H z t := by
  cases r with
  | cons a r =>
    obtain ⟨w, t, rfl, b, c⟩ := inv2 r
    exact ⟨_, w, t, rfl, a, b, c⟩
theorem rs_par3 (ok : XOk X G d) (so : SOk X d) {f : Expr → ME} {x y z : Str} {px py pz pt p2 pos : Pos} {a b c : Expr} {kt k2 : Nat} (h : par3 d.sc x y z px py pz [a, b, c] = true) {i j k : Nat} (hi : idxOf x d.N = some i) (hj : idxOf y d.N = some j) (hk : idxOf z d.N = some k) (hf : ∀ e, PE X e (RE G W (f e))) :
    PS X (.Assign [.Tuple [.Name x px, .Name y py, .Name z pz] kt pt] (.Tuple [a, b, c] k2 p2) pos) (RSt G W (parM f [i, j, k] [a, b, c])) := by
  have hp := h
  unfold par3 at hp
  simp only [Bool.and_eq_true, Bool.not_eq_true', decide_eq_false_iff_not] at hp
  obtain ⟨⟨⟨⟨⟨⟨⟨⟨h1, h2⟩, h3⟩, g1⟩, g2⟩, n1⟩, n2⟩, n3⟩, h5⟩ := hp
  have ni : X.N[i]? = some x := by rw [ok.N]; exact idxOf_ok hi
  have nj : X.N[j]? = some y := by rw [ok.N]; exact idxOf_ok hj
  have nk : X.N[k]? = some z := by rw [ok.N]; exact idxOf_ok hk
  have hij : i ≠ j := fun q => by subst q; rw [ni] at nj; exact n1 (Option.some.inj nj)
  have hik : i ≠ k := fun q => by subst q; rw [ni] at nk; exact n2 (Option.some.inj nk)
  have hjk : j ≠ k := fun q => by subst q; rw [nj] at nk; exact n3 (Option.some.inj nk)
  refine PS_imp (ps_par3 ok.calm (by rw [ok.N]; exact ok.nd) ni nj nk hij hik hjk (by rw [so.sc]; exact isLocB_ok h1) (by rw [so.sc]; exact isLocB_ok h2) (by rw [so.sc]; exact isLocB_ok h3) (ra_evs [a, b, c] fun e _ => hf e) (par3_ok so.sc so.kind h)) fun D σ H ⟨ι, ρ, hh, rh, rs, p⟩ => ⟨ι, ρ, hh, rh, rs, p.ex rs fun ι1 H1 vs us h1 x1 rh1 r1 p1 => ?_⟩
  split at p1
  · rename_i ρ1 e1
    unfold setL at e1
    split at e1
    · rename_i q1
      cases q1
    · rename_i q1
      cases q1
      cases e1
      obtain ⟨u1, u2, u3, rfl, r2, r3, r4⟩ := inv3 r1
      exact ⟨u1, u2, u3, rfl, p1.nxt rh1 ((((rs.mono x1).set r2).set r3).set r4)⟩
    · cases e1
  · exact p1.elim
end
end AM
/-! AMx: exception classes with an __init__ of one attribute. -/
namespace AM
open PySem PySem.Spec PyProof.Rows L2

/-- C.__init__(self, ..) where C is an own class that has the built-in's -/
structure OInit (K : PySem.W.Frag) (b : EB) (C : Addr) (mc : Value) : Prop where
  rd : ClX.CRead K C mc
  at_ : PySem.W.findCls K (.ref C) mc "__init__" = some (.val (.builtin b.ini))
def tVeG (K : PySem.W.Frag) (b : EB) (ta : TA) : TE := fun σ H Q => ta σ H fun vs H1 => ∃ (a C : Addr) (ws : List V), vs = .ref a :: ws ∧ ws.length ≤ 1000 ∧ OexG K b C ∧ H1 a = some (exo a C none) ∧ Q .non H1
theorem pe_oinit {pl : Sem Bool} {X : Cx} {b : EB} {C : Addr} {mc : Value} {x : Str} {e : Expr} {es : List Expr} {ta : TA} {p1 p2 pos : Pos} (o : OInit X.K b C mc) (hg : Gl X x) (hm : X.mg x = some (.ref C)) (hdb : (x == ("__debug__" : Str)) = false) (ha : PA X (e :: es) ta)
    (he : starEach (e :: es) X.env = (false, eval e X.env) :: starEach es X.env) (hpl : (backTo pos (starEach es X.env)).any (·.1) = false)
    (hc : eval (.Call (.Attribute (.Name x p1) "__init__" p2) (e :: es) [] pos) X.env = (do
      let v ← eval (.Name x p1) X.env
      standAt p2.atName
      let (g, fst) ← holding [v] (getMethod v "__init__" pl)
      callWith pos g fst (backTo pos (starEach (e :: es) X.env)) (backToKw pos (keywordEach [] X.env)))) :
    PE X (.Call (.Attribute (.Name x p1) "__init__" p2) (e :: es) [] pos) (tVeG X.K b ta) := by
  refine ⟨fun pins s σ H Q I h => ?_⟩
  refine PySem.W.methodCall_KW (ld_glob I hg hm ?_ hdb) hc
  refine PySem.W.method_cls I.kIn o.rd.ga (PySem.W.cls_value I.kIn o.rd.rd o.at_ (by cases b <;> rfl) ?_)
  show wpAny _ _ (callWith pos (Value.builtin b.ini) [] (backTo pos (starEach (e :: es) X.env)) []) _ _ _
  refine PyProof.Rows.callWith_method1 (thn (ha.run pos pins _ σ H _ (I.tok _) h) fun us s1 ⟨vs, H1, I1, r1, a, D, ws, ev, hl, T, ea, q⟩ => ?_) he hpl
  subst ev
  cases r1 with
  | @cons _ u0 _ ur ra rw' =>
    obtain rfl : u0 = Value.ref a := ra
    have hz : ur.length ≤ sizeLine := by
      rw [← Paired.length rw', sizeLine_eq]
      omega
    exact base_init T I1 ea hz fun s' J => ⟨.non, H1, J, rfl, q⟩
/-- self.f = e, the first field -/
def tOsG (K : PySem.W.Frag) (b : EB) (f : Str) (to te : TE) : TS := fun D σ H => te σ H fun y H1 => to σ H1 fun x H2 => ∃ a C : Addr, x = .ref a ∧ OexG K b C ∧ PySem.W.findIn K (.ref C) f = some none ∧ H2 a = some (exo a C none) ∧
  ∀ dx, H2 dx = none → dx ≠ a → D.nx σ (upd (upd H2 dx (exd dx [(f, y)])) a (exo a C (some dx)))
theorem ps_first {X : Cx} {b : EB} {o e : Expr} {to te : TE} {f : Str} {q pos : Pos} (ho : PE X o to) (he : PE X e te) (hs : swapsWith e (some (.Attribute o f q)) pos.line X.env = pure false) : PS X (.Assign [.Attribute o f q] e pos) (tOsG X.K b f to te) where
  run := fun pins s σ H D I h => plainObj_wpAny_Assign_Attribute (thn (he.run pins s σ H _ I h) fun v s1 ⟨y, H1, I1, r1, q1⟩ => thn (ho.run pins s1 σ H1 _ I1 q1) fun u s2 ⟨x, H2, I2, r2, a, C, ex, T, no, ea, k⟩ => by
    subst ex
    obtain rfl : u = Value.ref a := r2
    exact set_first T I2 ea no r1 fun dx s' n ne J => ⟨σ, _, J, k dx n ne⟩) hs
theorem tVar_of {σ : L2.St} {H : Hp} {i : Nat} {v : V} {Q : VK} (e : σ[i]? = some (some v)) (q : Q v H) : tVar i σ H Q := ⟨v, e, q⟩
section
variable {P : Program} {w : World} {K : PySem.W.Frag} {mg : Str → Option Value} {base : Heap}
/-- the body of such an __init__ -/
def initB (self p B f m : Str) (k : Nat) (q1 q2 q3 q4 q5 q6 q7 q8 q9 q10 : Pos) : List Stmt :=
  [.Expr (.Call (.Attribute (.Name B q1) "__init__" q2) [.Name self q3, .Constant (.str m) k q4] [] q5) q6, .Assign [.Attribute (.Name self q7) f q8] (.Name p q9) q10]
def InitC (self B m : Str) (k : Nat) (q1 q2 q3 q4 q5 : Pos) : Prop := ∀ env : PySem.Env, ∃ pl : Sem Bool, eval (.Call (.Attribute (.Name B q1) "__init__" q2) [.Name self q3, .Constant (.str m) k q4] [] q5) env = (do
      let v ← eval (.Name B q1) env
      standAt q2.atName
      let (g, fst) ← holding [v] (getMethod v "__init__" pl)
      callWith q5 g fst (backTo q5 (starEach [.Name self q3, .Constant (.str m) k q4] env)) (backToKw q5 (keywordEach [] env)))
theorem init_ok {qual self p B f m : Str} {kk : Nat} {q1 q2 q3 q4 q5 q6 q7 q8 q9 q10 : Pos} {params : Arguments} {scope : Scope} {dvs : List V} {kws : List (Str × V)} {b : EB} {fI C CB : Addr} {mc : Value} {fd : FuncData} {k : Nat}
    (F : FunD K "__init__" qual params (initB self p B f m kk q1 q2 q3 q4 q5 q6 q7 q8 q9 q10) scope dvs kws fI fd) (S : FnScope [self, p] [self, p] scope) (o : OInit K b CB mc) (hB : mg B = some (.ref CB)) (gB : scope.names.lookup B = some .globalImplicit) (dB : (B == ("__debug__" : Str)) = false)
    (ds : (self == ("__debug__" : Str)) = false ∧ (self == ("__classdict__" : Str)) = false) (dp : (p == ("__debug__" : Str)) = false ∧ (p == ("__classdict__" : Str)) = false) (T : OexG K b C) (hno : PySem.W.findIn K (.ref C) f = some none) (hc : InitC self B m kk q1 q2 q3 q4 q5) :
    L2.FnOk P w K mg base (L2.CX P w) (k + 1) fI fd [self, p] (spX C f) := by
  refine F.ok S (fun vs H Q E h => ?_) fun cdv A outer s H vs Q E hr hsp => ?_
  · obtain ⟨e, y, rfl, _⟩ := h
    rfl
  obtain ⟨e, y, rfl, he, kq⟩ := hsp
  have vs : Vis (cxOf (L2.CX P w) P w K mg base [self, p] qual scope fI cdv A outer s H E).env.scope self := by
    rcases S.par self (by simp) with z | z
    · exact .inl z
    · exact .inr (.inl z)
  have vp : Vis (cxOf (L2.CX P w) P w K mg base [self, p] qual scope fI cdv A outer s H E).env.scope p := by
    rcases S.par p (by simp) with z | z
    · exact .inl z
    · exact .inr (.inl z)
  have pS : ∀ q, PE (cxOf (L2.CX P w) P w K mg base [self, p] qual scope fI cdv A outer s H E) (.Name self q) (tVar 0) := fun q => pe_var (i := 0) rfl vs ds.1 ds.2
  have pP : ∀ q, PE (cxOf (L2.CX P w) P w K mg base [self, p] qual scope fI cdv A outer s H E) (.Name p q) (tVar 1) := fun q => pe_var (i := 1) rfl vp dp.1 dp.2
  have ha : PA (cxOf (L2.CX P w) P w K mg base [self, p] qual scope fI cdv A outer s H E) [.Name self q3, .Constant (.str m) kk q4] (tCons (tVar 0) (tCons (tC (.str m)) tNil)) := pa_cons (pS q3) (pa_cons pe_str pa_nil)
  obtain ⟨pl, hc⟩ := hc (cxOf (L2.CX P w) P w K mg base [self, p] qual scope fI cdv A outer s H E).env
  refine ⟨tSeq (tDrop (tVeG K b (tCons (tVar 0) (tCons (tC (.str m)) tNil)))) (tOsG K b f (tVar 0) (tVar 1)), pss_cons (ps_expr (pe_oinit o gB hB dB ha rfl rfl hc)) (pss_one (ps_first (pS q7) (pP q9) rfl)), ?_⟩
  refine ⟨.ref e, rfl, e, C, [.str m], rfl, by simp, T, he, ?_⟩
  exact ⟨y, rfl, .ref e, rfl, e, C, rfl, T, hno, he, fun dx n ne => kq dx n ne⟩
end
theorem pass_none {X : Cx} : Passes (L2.CX X.prog X.w) X (fun _ _ _ => False) := fun _ _ _ _ _ _ _ h => by
  obtain ⟨_, _, _, _, _, _, _, _, _, _, _, _, z⟩ := h
  exact z.elim
theorem mk_heap {H : Hp} {a dx : Addr} {u v w o : HO} (ha : H a = none) : upd (L2.del (upd (upd (upd H a o) dx u) a w) a) dx v = upd H dx v := by
  funext b
  by_cases h1 : b = dx
  · subst h1
    rw [upd_same, upd_same]
  · rw [upd_ne h1, upd_ne h1]
    by_cases h2 : b = a
    · subst h2
      rw [del_same, ha]
    · rw [del_ne h2, upd_ne h2, upd_ne h1, upd_ne h2]
section
variable {X : Cx} {G : Gh} {d : DC} {W : WX}
theorem rs_raise (ok : XOk X G d) (tk : Takes X W) {fm : Expr → ME} {x f : Str} {e : Expr} {p pos rpos : Pos} (E : ExcAt X G x f) (hg : glB d.sc x = true) (hd : ¬ dun x = true) (hs : isStar e = false) (hf : ∀ e, PE X e (RE G W (fm e))) :
    PS X (.Raise (some (.Call (.Name x p) [e] [] pos)) none rpos) (RSt G W fun ρ h => exM (fm e ρ h) ρ fun v h1 => .exc x [(f, v)] ρ h1) := by
  obtain ⟨b, C, fI, fd, ps, k, hm, hga, T, iC, tI, F1, hr, hb⟩ := E.ex
  obtain ⟨n1, n2, n3⟩ := dun_no hd
  have ha : PA X [e] (tCons (RE G W (fm e)) tNil) := pa_cons (hf e) pa_nil (starEach_plain hs)
  refine PS_imp (ps_raise ok.calm tk (pmk_own T iC tI F1 hr hb pass_none (ok.gl x hg) hm ha n1 (starEach_plain hs) rfl)) fun D σ H ⟨ι, ρ, h, rh, rs, q⟩ => ?_
  refine ⟨ι, ρ, h, rh, rs, q.ex rs fun ι1 H1 v u h1 x1 rh1 r1 p1 => ⟨by simp, fun a na => ⟨a, u, rfl, upd_same, fun dx nd ne => ⟨rfl, dx, [(f, u)], upd_same, by rw [upd_ne ne, upd_same], ?_, ?_⟩⟩⟩⟩
  · rw [upd_ne ne] at nd
    exact nd
  · have nd1 : H1 dx = none := by rw [upd_ne ne] at nd; exact nd
    rw [mk_heap na]
    exact p1 ι1 _ σ C (some dx) (Ext.fresh nd1) (rh1.fresh nd1) ((rs.mono x1).mono (Ext.fresh nd1)) ⟨hga, .inr ⟨dx, [(f, u)], rfl, Fz.new rh1 nd1, .cons (r1.mono (Ext.fresh nd1)) .nil⟩⟩
/-! ### try -/
theorem rs_try (ok : XOk X G d) (hst : X.stack = X.env :: X.outer) (hfr : X.env.frame = some X.env.locals) (tk : Takes X W) {x : Str} {body suite : List Stmt} {b0 : Stmt} {np pos pos' : Pos} {mb ms : AM.Env → AH → SR} (hg : glB d.sc x = true) (hd : ¬ dun x = true) (hx : HxAt X.K X.mg G.ga d.exm x)
    (hb : ∀ (W' : WX) (pn : List (Addr × Obj)) (xe : Value → Shared → Prop), Takes (X.tr pn xe) W' → PassesOwn (model X.prog X.w) X.A X.env xe → PSs (X.tr pn xe) body (RSt G W' mb))
    (hs : ∀ (a : Addr) (pn : List (Addr × Obj)), PSs (X.suite a pn) (b0 :: suite) (RSt G W ms)) :
    PS X (.Try body [.ExceptHandler (some (.Name x np)) none (b0 :: suite) pos'] [] [] pos) (RSt G W (tryM (fun c => d.exm c x) mb ms)) := by
  obtain ⟨cv, hcv, hm⟩ := hx
  obtain ⟨n1, n2, n3⟩ := dun_no hd
  have nm : Names X x cv := ⟨ok.gl x hg, n1, by
    rcases hcv with z | ⟨z, z2⟩
    · exact .inl z
    · exact .inr ⟨z, z2, n3⟩⟩
  refine PS_imp (ps_try_only (tb := fun W' => RSt G W' mb) (ts := fun _ _ _ => RSt G W ms) hst hfr nm tk hb fun a oe cls dd pn _ _ => hs a _) fun D σ H ⟨ι, ρ, h, rh, rs, p⟩ => ⟨ι, ρ, h, rh, rs, ?_⟩
  have p : PostS G W ι H D (match mb ρ h with
      | .exc c fs ρ1 h1 => (match d.exm c x with
        | some true => ms ρ1 h1
        | some false => .exc c fs ρ1 h1
        | none => .stk)
      | .nx ρ1 h1 => .nx ρ1 h1
      | .rt v h1 => .rt v h1
      | .bk ρ1 h1 => .bk ρ1 h1
      | .ct ρ1 h1 => .ct ρ1 h1
      | .stk => .stk) := p
  cases q : mb ρ h with
  | nx ρ1 h1 => rw [q] at p; exact p
  | rt v h1 => rw [q] at p; exact p
  | bk ρ1 h1 => rw [q] at p; exact p
  | ct ρ1 h1 => rw [q] at p; exact p
  | stk => rw [q] at p; exact p.elim
  | exc c fs ρ1 h1 =>
    rw [q] at p
    have p : PostS G W ι H D (match d.exm c x with
        | some true => ms ρ1 h1
        | some false => .exc c fs ρ1 h1
        | none => .stk) := p
    intro ι' H' σ' C dd xx rh' rs' rx
    cases e : d.exm c x with
    | none => rw [e] at p; exact p.elim
    | some b =>
      rw [e] at p
      refine ⟨b, hm c b C e rx.1, fun hb a _ => ?_, fun hb => ?_⟩
      · subst hb
        exact ⟨ι', ρ1, h1, rh', rs', p.ext xx⟩
      · subst hb
        exact p ι' H' σ' C dd xx rh' rs' rx
/-- except x as n: y = n -/
theorem set3 {α : Type} {l : List α} {i j : Nat} {x y z : α} : ((l.set i x).set j y).set i z = (l.set j y).set i z := by
  by_cases h : i = j
  · subst h
    simp
  · rw [List.set_comm _ _ h, List.set_set]
theorem RS.none {ι : List Addr} {H : Hp} {ρ : AM.Env} {σ : L2.St} (r : RS G ι H ρ σ) (i : Nat) : RS G ι H (ρ.set i none) (σ.set i none) := by
  refine ⟨by simp [r.1], fun k v e => ?_⟩
  by_cases h : i = k
  · subst h
    rw [List.getElem?_set] at e
    simp at e
  · rw [List.getElem?_set_ne h] at e ⊢
    exact r.2 k v e
theorem rs_try_as (ok : XOk X G d) (so : SOk X d) (tk : Takes X W) {x n y : Str} {i j : Nat} {body : List Stmt} {np py pm apos pos pos' : Pos} {mb : AM.Env → AH → SR} (c : asB d x n n y = true) (hi : idxOf n d.N = some i) (hj : idxOf y d.N = some j) (hx : HxAt X.K X.mg G.ga d.exm x)
    (hb : ∀ (W' : WX) (pn : List (Addr × Obj)) (xe : Value → Shared → Prop), Takes (X.tr pn xe) W' → PassesOwn (model X.prog X.w) X.A X.env xe → PSs (X.tr pn xe) body (RSt G W' mb)) :
    PS X (.Try body [.ExceptHandler (some (.Name x np)) (some n) [.Assign [.Name y py] (.Name n pm) apos] pos'] [] [] pos) (RSt G W (tryAsM (fun c => d.exm c x) i j mb)) := by
  unfold asB at c
  simp only [Bool.and_eq_true, Bool.not_eq_true'] at c
  obtain ⟨⟨⟨hg, hd⟩, _⟩, c1, c2, c3, _, c4⟩ := c
  obtain ⟨cv, hcv, hm⟩ := hx
  obtain ⟨n1, n2, n3⟩ := dun_no (x := x) (by rw [hd]; exact Bool.false_ne_true)
  obtain ⟨m1, m2, m3⟩ := dun_no (x := n) (by rw [c4]; exact Bool.false_ne_true)
  have nm : Names X x cv := ⟨ok.gl x hg, n1, by
    rcases hcv with z | ⟨z, z2⟩
    · exact .inl z
    · exact .inr ⟨z, z2, n3⟩⟩
  have hN : X.N.Nodup := by rw [ok.N]; exact ok.nd
  have hi' : X.N[i]? = some n := by rw [ok.N]; exact idxOf_ok hi
  have hj' : X.N[j]? = some y := by rw [ok.N]; exact idxOf_ok hj
  have hln : X.env.kindOf n = some .local := by unfold PySem.Env.kindOf; rw [so.sc]; exact isLocB_ok c1
  obtain ⟨ly, fy⟩ := ok.loc y c3
  refine PS_imp (XvS.ps_try_asv (tb := fun W' => RSt G W' mb) (ts := fun _ _ _ => tAsg (tVar i) (gName j)) so.stk so.frm hN hi' hln nm tk hb fun a oe cls dd pn _ _ =>
    pss_one (ps_set (X := X.suite a ((a, oe) :: pn)) (i := j) hN hj' ly (pe_var (i := i) hi' (ok.vis n c2) m1 m2) rfl fy)) fun D σ H ⟨ι, ρ, h, rh, rs, p⟩ => ⟨ι, ρ, h, rh, rs, ?_⟩
  unfold tryAsM at p
  cases q : mb ρ h with
  | nx ρ1 h1 => rw [q] at p; exact p
  | rt v h1 => rw [q] at p; exact p
  | bk ρ1 h1 => rw [q] at p; exact p
  | ct ρ1 h1 => rw [q] at p; exact p
  | stk => rw [q] at p; exact p.elim
  | exc c fs ρ1 h1 =>
    rw [q] at p
    have p : PostS G W ι H D (match d.exm c x with
        | some true => if i < ρ1.length then .nx ((ρ1.set j (some (.xo c fs))).set i none) h1 else .stk
        | some false => .exc c fs ρ1 h1
        | none => .stk) := p
    intro ι' H' σ' C dd xx rh' rs' rx
    cases e : d.exm c x with
    | none => rw [e] at p; exact p.elim
    | some b =>
      rw [e] at p
      refine ⟨b, hm c b C e rx.1, fun hb a na => ?_, fun hb => ?_⟩
      · subst hb
        have p : PostS G W ι H D (if i < ρ1.length then .nx ((ρ1.set j (some (.xo c fs))).set i none) h1 else .stk) := p
        by_cases hl : i < ρ1.length
        · rw [if_pos hl] at p
          have hl2 : i < σ'.length := by rw [← rs'.1]; exact hl
          refine ⟨C, rfl, .ref a, by simp [hl2], ?_⟩
          have x2 : Ext ι' H' ι' (upd H' a (XvS.exv a C dd)) := Ext.fresh na
          have rx2 : ∃ vs, Xd G ι' (upd H' a (XvS.exv a C dd)) dd vs ∧ RFs G ι' (upd H' a (XvS.exv a C dd)) fs vs := by
            rcases rx.2 with ⟨rfl, rfl⟩ | ⟨dx, fs', rfl, f, r⟩
            · exact ⟨[], .inl ⟨rfl, rfl⟩, .nil⟩
            · exact ⟨fs', .inr ⟨dx, rfl, f.mono x2⟩, r.mono x2⟩
          obtain ⟨vs, hxd, hr⟩ := rx2
          have rs3 : RS G ι' (upd H' a (XvS.exv a C dd)) ((ρ1.set j (some (.xo c fs))).set i none) ((σ'.set j (some (.ref a))).set i none) := ((rs'.mono x2).set (.xo rx.1 (Fz.new rh' na) hxd hr)).none i
          show D.nx (((σ'.set i (some (.ref a))).set j (some (.ref a))).set i none) (upd H' a (XvS.exv a C dd))
          rw [set3]
          exact p ι' _ _ (xx.trans x2) (rh'.fresh na) rs3
        · rw [if_neg hl] at p
          exact p.elim
      · subst hb
        exact p ι' H' σ' C dd xx rh' rs' rx
end
end AM
/-! AMl: all statements. -/
namespace AM
open PySem PySem.Spec PyProof.Rows L2

section
variable {X : Cx} {G : Gh} {d : DC} {W : WX} {F : Str → OpN}
theorem rs_deadM {st : Stmt} {m : AM.Env → AH → SR} (hm : ∀ ρ h, m ρ h = .stk) : PS X st (RSt G W m) := ⟨fun pins s σ H D I ⟨ι, ρ, h, _, _, p⟩ => by
  rw [hm] at p
  exact p.elim⟩
theorem setN_inv {x : Str} {m : ME} (hc : ¬ ∃ i, locB d.sc x = true ∧ idxOf x d.N = some i) : ∀ ρ h, setN d x m ρ h = .stk := fun ρ h => by
  unfold setN
  by_cases c : locB d.sc x = true
  · rw [if_pos c]
    cases q : idxOf x d.N with
    | none => rfl
    | some i => exact absurd ⟨i, c, q⟩ hc
  · rw [if_neg c]
theorem tAsg_imp {x : Str} {i : Nat} {m : ME} {te : TE} (h1 : locB d.sc x = true) (h2 : idxOf x d.N = some i) (hi : ∀ σ H Q, RE G W m σ H Q → te σ H Q) : ∀ D σ H, RSt G W (setN d x m) D σ H → tAsg te (gName i) D σ H := fun D σ H ⟨ι, ρ, h, rh, rs, p⟩ => by
  refine hi σ H _ ⟨ι, ρ, h, rh, rs, ?_⟩
  unfold setN at p
  rw [if_pos h1, h2] at p
  have p : PostS G W ι H D (exM (m ρ h) ρ fun v h1 => .nx (ρ.set i (some v)) h1) := p
  exact p.ex rs fun ι1 H1 a u h1 x1 rh1 r p1 => p1.nxt rh1 ((rs.mono x1).set r)
theorem rs_setLc (ok : XOk X G d) (so : SOk X d) (fo : FOk X G d F) {f fi : Expr → ME} {n : Nat} {x : Str} {px spos : Pos} {elt tg it : Expr} {ifs : List Expr} {sc : Scope} {pos : Pos} (hf : ∀ e, PE X e (RE G W (f e)))
    (hi : ∀ X' G' W', XOk X' G' { d with sc := sc } → FOk X' G' { d with sc := sc } F → Takes X' W' → ∀ e, PE X' e (RE G' W' (fi e)) ∧ (isIf e = false → PT X' e (RTt G' W' (tstM (fi e))))) :
    PS X (.Assign [.Name x px] (.ListComp elt [⟨tg, it, ifs, 0⟩] sc pos) spos) (RSt G W (setN d x (compM f fi d n elt tg it ifs sc))) := by
  by_cases c0 : ¬ ∃ i, locB d.sc x = true ∧ idxOf x d.N = some i
  · exact rs_deadM (setN_inv c0)
  have c0 : ∃ i, locB d.sc x = true ∧ idxOf x d.N = some i := by simpa using c0
  obtain ⟨i, c1, c2⟩ := c0
  obtain ⟨hl, hfn⟩ := ok.loc x c1
  have hN : X.N.Nodup := by rw [ok.N]; exact ok.nd
  have hi' : X.N[i]? = some x := by rw [ok.N]; exact idxOf_ok c2
  by_cases csw : lcSw d.sc x px pos sc = true
  · unfold lcSw at csw
    rw [Bool.and_eq_true, Bool.and_eq_true] at csw
    obtain ⟨⟨s1, s2⟩, s3⟩ := csw
    have s1 : X.env.scope.names.lookup x = some .local := by
      rw [so.sc]
      split at s1
      · assumption
      · cases s1
    by_cases c : (blkC d.N d.sc sc (ownOf d.N sc) && subB (tslots { d with sc := sc } n tg) ((ownOf d.N sc).map (·.2))) = true
    · by_cases cs : isSet it = true
      · refine rs_deadM fun ρ h => ?_
        unfold setN
        rw [if_pos c1, c2]
        show exM (compM f fi d n elt tg it ifs sc ρ h) ρ _ = .stk
        unfold compM
        rw [if_pos c]
        unfold itM
        rw [if_pos cs]
        rfl
      have e1 : compM f fi d n elt tg it ifs sc = fun ρ h => (itM f d tg it ρ h).bind fun xs h1 => (compL (bindT { d with sc := sc } n tg) (testsM fi ifs) (fi elt) (wipeA ρ ((ownOf d.N sc).map (·.2))) xs [] h1).bind fun ys h2 => .ok (.lst ys) h2 := by
        funext ρ h
        unfold compM
        rw [if_pos c]
      rw [e1]
      rw [Bool.and_eq_true] at c
      have bk : BlkOk X.N X.env.scope sc (ownOf d.N sc) := by
        rw [ok.N]
        exact BlkOk.moved (blkOk_by c.1) ok.cf
      exact PS_imp (ps_setLc ok.calm hN hi' s1 (sw_true (by rw [so.sc]; exact so.kind) s1 s2 (by simpa using s3)) (pi_it ok it hf) bk
        (fun s H C cl fp => PG_ex fun l => rg_bind (ok.hide l).blk n tg)
        (fun s H C cl fp => PTs_ex fun l => pts_tests (fun e he => (hi _ _ W0 (ok.hide l).blk (fo.hide l).blk takes0 e).2 he))
        (fun s H C cl fp => PE_ex fun l => (hi _ _ W0 (ok.hide l).blk (fo.hide l).blk takes0 elt).1)
        (notSet cs)) (tAsg_imp c1 c2 (comp_imp (subB_ok c.2)))
    · refine rs_deadM fun ρ h => ?_
      unfold setN
      rw [if_pos c1, c2]
      show exM (compM f fi d n elt tg it ifs sc ρ h) ρ _ = .stk
      unfold compM
      rw [if_neg c]
      rfl
  · have hs : swapsWith (.ListComp elt [⟨tg, it, ifs, 0⟩] sc pos) (some (.Name x px)) spos.line X.env = pure false := by
      have hb : X.env.blockKind = .function := by unfold Env.blockKind; rw [so.sc, so.kind]; rfl
      have hk : X.env.kindOf x = d.sc.names.lookup x := by unfold Env.kindOf; rw [so.sc]
      unfold swapsWith
      simp only [hb, hk, Expr.pos]
      have e : (ScopeKind.function == ScopeKind.function && d.sc.names.lookup x == some NameKind.local && px.line == pos.line && !(sc.names.any fun (n, k) => n == x && (k == .local || k == .cell))) = false := by
        unfold lcSw at csw
        cases q : d.sc.names.lookup x with
        | none => rfl
        | some k =>
          rw [q] at csw
          cases k with
          | «local» =>
            exact Bool.eq_false_iff.mpr csw
          | _ => rfl
      exact congrArg pure e
    exact PS_imp (ps_set (i := i) hN hi' hl (re_comp ok fo hf hi) hs hfn) (tAsg_imp c1 c2 fun _ _ _ z => z)
theorem rs_aug (ok : XOk X G d) {x : Str} {i : Nat} {op : Operator} {e : Expr} {m : ME} {px pos : Pos} (c1 : locB d.sc x = true) (c2 : idxOf x d.N = some i) (hb : augB op = true) (he : PE X e (RE G W m)) :
    PS X (.AugAssign (.Name x px) op e pos) (RSt G W fun ρ h => (match ρ[i]? with
        | some (some v) => exM (m ρ h) ρ fun w h1 => (match augF op v w with
          | some z => .nx (ρ.set i (some z)) h1
          | none => .stk)
        | _ => .stk)) := by
  obtain ⟨hl, hfn⟩ := ok.loc x c1
  have hN : X.N.Nodup := by rw [ok.N]; exact ok.nd
  have hi' : X.N[i]? = some x := by rw [ok.N]; exact idxOf_ok c2
  have main : ∀ {g : Int → Int → Int}, PIp X op (ipI g) → (∀ v w z, augF op v w = some z → ∃ a b, v = .int a ∧ w = .int b ∧ z = .int (g a b)) →
      PS X (.AugAssign (.Name x px) op e pos) (RSt G W fun ρ h => (match ρ[i]? with
        | some (some v) => exM (m ρ h) ρ fun w h1 => (match augF op v w with
          | some z => .nx (ρ.set i (some z)) h1
          | none => .stk)
        | _ => .stk)) := fun ip inv => by
    refine PS_imp (ps_aug (i := i) hN hi' hl he ip hfn) fun D σ H ⟨ι, ρ, h, rh, rs, p⟩ => ?_
    have p : PostS G W ι H D (match ρ[i]? with
        | some (some v) => exM (m ρ h) ρ fun w h1 => (match augF op v w with
          | some z => .nx (ρ.set i (some z)) h1
          | none => .stk)
        | _ => .stk) := p
    split at p
    · rename_i v q
      obtain ⟨u, e1, r⟩ := rs.2 i v q
      refine ⟨u, e1, ι, ρ, h, rh, rs, p.ex rs fun ι1 H1 w uw h1 x1 rh1 rw1 p1 => ?_⟩
      cases q2 : augF op v w with
      | none => rw [q2] at p1; exact p1.elim
      | some z =>
        rw [q2] at p1
        obtain ⟨a, b, rfl, rfl, rfl⟩ := inv _ _ _ q2
        rw [inv_int r, inv_int rw1]
        exact ⟨a, b, rfl, rfl, p1.nxt rh1 ((rs.mono x1).set (.int _))⟩
    · exact p.elim
  cases op with
  | Add =>
    exact main ip_add fun v w z e => by
      cases v <;> cases w <;> first | (cases e; exact ⟨_, _, rfl, rfl, rfl⟩) | cases e
  | Sub =>
    exact main ip_sub fun v w z e => by
      cases v <;> cases w <;> first | (cases e; exact ⟨_, _, rfl, rfl, rfl⟩) | cases e
  | _ => cases hb
theorem sws_e {e tg : Expr} {l : Nat} {env : PySem.Env} (h : ¬ isCmp e = true) : swapsWithSole [tg] e l env = pure false := sw_e h
theorem sst_e {e tg : Expr} {env : PySem.Env} (h : ¬ (isTup tg && isTup e) = true) (hl : ∀ es p, tg ≠ .List es p) : swappedStores [tg] e env = pure none := by
  cases tg with
  | Tuple es k p => cases e <;> first | rfl | exact absurd rfl h
  | List es p => exact absurd rfl (hl es p)
  | _ => rfl
theorem sst_n {xs : List Str} {vs : List Expr} {k k2 : Nat} {pt p2 : Pos} {env : PySem.Env} {sc : Scope} (he : env.scope = sc) (h : sstB sc xs vs = true) (ts : List Expr) (ht : ∃ qs : List Pos, qs.length = xs.length ∧ ts = (xs.zip qs).map fun z => .Name z.1 z.2) :
    swappedStores [.Tuple ts k pt] (.Tuple vs k2 p2) env = pure none := by
  have hlen : ∀ (xs : List Str) (qs : List Pos), qs.length = xs.length → ((xs.zip qs).map fun z => Expr.Name z.1 z.2).length = xs.length := fun xs qs e => by simp [e]
  unfold swappedStores
  simp only
  split
  · rfl
  split
  · rfl
  split
  · rfl
  · rename_i c
    split
    · rfl
    · rename_i c2
      exfalso
      unfold sstB at h
      rcases Bool.or_eq_true_iff.mp h with h | h
      · exact c2 h
      · have h : ¬ xs.all (isLocB sc) = true := by simpa using h
        apply c
        rw [Bool.or_eq_true]
        left
        obtain ⟨qs, hq, rfl⟩ := ht
        rw [hlen xs qs hq]
        have key : ∀ (xs : List Str) (qs : List Pos) (ln : Nat), qs.length = xs.length → ¬ xs.all (isLocB sc) = true → (((xs.zip qs).map fun z => Expr.Name z.1 z.2).filterMap fun
            | .Name id pos => if env.kindOf id == some .local && pos.line == ln then some id else none
            | _ => none).length < xs.length := by
          intro xs
          induction xs with
          | nil => intro qs ln _ z; exact absurd rfl z
          | cons x r ih =>
            intro qs ln hq hn
            cases qs with
            | nil => cases hq
            | cons q qs =>
              have hq : qs.length = r.length := by simpa using hq
              have le : ∀ (xs : List Str) (qs : List Pos), (((xs.zip qs).map fun z => Expr.Name z.1 z.2).filterMap fun
                  | .Name id pos => if env.kindOf id == some .local && pos.line == ln then some id else none
                  | _ => none).length ≤ xs.length := fun xs qs => by
                refine Nat.le_trans (List.length_filterMap_le _ _) ?_
                rw [List.length_map, List.length_zip]
                exact Nat.min_le_left _ _
              rw [List.zip_cons_cons, List.map_cons, List.filterMap_cons]
              by_cases cx : isLocB sc x = true
              · have hr : ¬ r.all (isLocB sc) = true := fun z => hn (by rw [List.all_cons, cx, z]; rfl)
                have := ih qs ln hq hr
                split
                · rw [List.length_cons]; omega
                · rw [List.length_cons, List.length_cons]; omega
              · have hk : (env.kindOf x == some .local) = false := by
                  unfold PySem.Env.kindOf
                  rw [he]
                  unfold isLocB at cx
                  cases q9 : sc.names.lookup x with
                  | none => rfl
                  | some k =>
                    rw [q9] at cx
                    cases k <;> first | rfl | exact absurd rfl cx
                have := le r qs
                simp only [hk, Bool.false_and]
                rw [List.length_cons]
                exact Nat.lt_succ_of_le this
        exact bne_iff_ne.mpr (Nat.ne_of_lt (key xs qs _ hq h))
theorem rs_asgT {X : Cx} {G : Gh} {d : DC} {W : WX} (ok : XOk X G d) {tg e : Expr} {m : ME} {fe : Expr → ME} {n : Nat} {pos : Pos} (h1 : ¬ isCmp e = true) (h2 : ¬ isStar tg = true) (hst : swappedStores [tg] e X.env = pure none) (he : PE X e (RE G W m)) (hfe : ∀ e, PE X e (RE G W (fe e))) :
    PS X (.Assign [tg] e pos) (RSt G W fun ρ h => exM (m ρ h) ρ fun v h1 => tgM fe d n tg v ρ h1) :=
  PS_imp (ps_asg he (rgt ok hfe n tg) (sws_e h1) hst (by rw [(asE_plain (by simpa using h2)).1]; rfl)) fun D σ H ⟨ι, ρ, h, rh, rs, p⟩ => ⟨ι, ρ, h, rh, rs, p.ex rs fun ι1 H1 a u h1 x1 rh1 r1 p1 =>
      ⟨ι1, ρ, h1, a, D, rh1, rs.mono x1, r1, p1⟩⟩
theorem rs_asg (ok : XOk X G d) {tg e : Expr} {m : ME} {fe : Expr → ME} {n : Nat} {pos : Pos} (h1 : ¬ isCmp e = true) (h2 : ¬ isStar tg = true) (h4 : ¬ isLst tg = true) (h3 : ¬ (isTup tg && isTup e) = true) (he : PE X e (RE G W m)) (hfe : ∀ e, PE X e (RE G W (fe e))) :
    PS X (.Assign [tg] e pos) (RSt G W fun ρ h => exM (m ρ h) ρ fun v h1 => tgM fe d n tg v ρ h1) := by
  have hl : ∀ es p, tg ≠ .List es p := fun es p z => h4 (by rw [z]; rfl)
  exact PS_imp (ps_asg he (rgt ok hfe n tg) (sws_e h1) (sst_e h3 hl) (by rw [(asE_plain (by simpa using h2)).1]; rfl)) fun D σ H ⟨ι, ρ, h, rh, rs, p⟩ => ⟨ι, ρ, h, rh, rs, p.ex rs fun ι1 H1 a u h1 x1 rh1 r p1 =>
      ⟨ι1, ρ, h1, a, D, rh1, rs.mono x1, r, p1⟩⟩
end
theorem XOk.tr {X : Cx} {G : Gh} {d : DC} (ok : XOk X G d) (pn : List (Addr × Obj)) (xe : Value → Shared → Prop) : XOk (X.tr pn xe) G d := ⟨ok.N, ok.nd, ok.K, ok.calm, ok.hu, ok.gd, ok.vis, ok.loc, ok.gl, ok.cf, ok.free, ok.glob⟩
theorem FOk.tr {X : Cx} {G : Gh} {d : DC} {F : Str → OpN} (fo : FOk X G d F) (pn : List (Addr × Obj)) (xe : Value → Shared → Prop) : FOk (X.tr pn xe) G d F := ⟨fo.pos, fo.kw, fun x f h => ⟨(fo.exc x f h).ex⟩, fo.hx, fun x n h => ⟨(fo.mak x n h).ex⟩, fo.fld, fo.isi, fo.xv, fo.inc, fo.xf, fun x n ks od h => ⟨(fo.mkw x n ks od h).ex⟩, fun c m kn C h g => ⟨(fo.meth c m kn C h g).ex⟩⟩
/-- a suite's statements -/
theorem rs_su {F : Str → OpN} (n : Nat) (X : Cx) (G : Gh) (d : DC) (W : WX) {st : Stmt} (h : suB st = true) : PS X st (RSt G W (exS F n d st)) := by
  cases n with
  | zero => exact rs_deadM fun _ _ => rfl
  | succ n =>
    unfold suB at h
    split at h
    · cases n with
      | zero => exact rs_deadM fun _ _ => rfl
      | succ n => exact rs_ret re_const
    · exact PS_imp ps_retN fun D σ H ⟨ι, ρ, h, rh, rs, p⟩ => p ι H .non Ext.refl rh .non
    · exact PS_imp ps_pass fun D σ H ⟨ι, ρ, h, rh, rs, p⟩ => PostS.nxt (ρ := ρ) (h := h) p rh rs
    · exact PS_imp ps_continue fun D σ H ⟨ι, ρ, h, rh, rs, p⟩ => p ι H σ Ext.refl rh rs
    · exact PS_imp ps_break fun D σ H ⟨ι, ρ, h, rh, rs, p⟩ => p ι H σ Ext.refl rh rs
    · cases h
/-- the meaning of every statement -/
theorem rs_all {F : Str → OpN} : ∀ (n : Nat) (X : Cx) (G : Gh) (d : DC) (W : WX), XOk X G d → SOk X d → FOk X G d F → Takes X W → ∀ st, PS X st (RSt G W (exS F n d st))
  | 0, X, G, d, W, ok, so, fo, tk, st => rs_deadM fun _ _ => rfl
  | n + 1, X, G, d, W, ok, so, fo, tk, st => by
    have ih := rs_all n X G d W ok so fo tk
    have hE : ∀ e, PE X e (RE G W (ev F n d e)) := fun e => (re_all n X G d W ok fo tk e).1
    have hT : ∀ e, isIf e = false → PT X e (RTt G W (tstM (ev F n d e))) := fun e => (re_all n X G d W ok fo tk e).2
    have hB : ∀ sts, PSs X sts (RSt G W (blkM (exS F n d) sts)) := fun sts => rss sts fun st _ => ih st
    unfold exS
    split
    · exact PS_imp ps_pass fun D σ H ⟨ι, ρ, h, rh, rs, p⟩ => PostS.nxt (ρ := ρ) (h := h) p rh rs
    · exact PS_imp ps_break fun D σ H ⟨ι, ρ, h, rh, rs, p⟩ => p ι H σ Ext.refl rh rs
    · exact PS_imp ps_continue fun D σ H ⟨ι, ρ, h, rh, rs, p⟩ => p ι H σ Ext.refl rh rs
    · exact PS_imp ps_retN fun D σ H ⟨ι, ρ, h, rh, rs, p⟩ => p ι H .non Ext.refl rh .non
    · exact rs_ret (hE _)
    · rename_i e pos
      by_cases c : isCmp e = true
      · rw [if_pos c]; exact rs_dead
      · rw [if_neg c]; exact rs_expr c (hE e)
    · rename_i c' a b pos
      by_cases c : isIf c' = true
      · rw [if_pos c]; exact rs_dead
      · rw [if_neg c]; exact rs_if (hT c' (by simpa using c)) (hB a) (hB b)
    · rename_i tg it body pos
      by_cases c : isOwn d it = true
      · rw [if_pos c]
        refine rs_forO ok so.pass (fun z => ?_) (hE it) (hB body)
        cases it with
        | Set _ _ _ => exact Bool.false_ne_true c
        | _ => exact Bool.false_ne_true z
      · rw [if_neg c]; exact rs_for ok so.pass hE (hB body)
    · exact rs_setLc ok so fo hE fun X' G' W' ok' fo' tk' e => re_all n X' G' _ W' ok' fo' tk' e
    · rename_i x px e pos _
      by_cases c : isCmp e = true
      · rw [if_pos c]; exact rs_dead
      · rw [if_neg c]; exact rs_set ok c (hE e)
    · rename_i x px y py kt pt a b k2 p2 pos
      by_cases c : par2 d.sc x y px py [a, b] = true
      · rw [if_pos c]
        cases hi : idxOf x d.N with
        | none => exact rs_dead
        | some i =>
          cases hj : idxOf y d.N with
          | none => exact rs_dead
          | some j => exact rs_par2 ok so c hi hj hE
      · rw [if_neg c]
        by_cases c2 : sstB d.sc [x, y] [a, b] = true
        · rw [if_pos c2]
          exact rs_asgT ok (fun z => Bool.false_ne_true z) (fun z => Bool.false_ne_true z) (sst_n so.sc c2 _ ⟨[px, py], rfl, rfl⟩) (hE _) hE
        · rw [if_neg c2]; exact rs_dead
    · rename_i x px y py z pz kt pt a b c' k2 p2 pos
      by_cases c : par3 d.sc x y z px py pz [a, b, c'] = true
      · rw [if_pos c]
        cases hi : idxOf x d.N with
        | none => exact rs_dead
        | some i =>
          cases hj : idxOf y d.N with
          | none => exact rs_dead
          | some j =>
            cases hk : idxOf z d.N with
            | none => exact rs_dead
            | some k => exact rs_par3 ok so c hi hj hk hE
      · rw [if_neg c]
        by_cases c2 : sstB d.sc [x, y, z] [a, b, c'] = true
        · rw [if_pos c2]
          exact rs_asgT ok (fun z => Bool.false_ne_true z) (fun z => Bool.false_ne_true z) (sst_n so.sc c2 _ ⟨[px, py, pz], rfl, rfl⟩) (hE _) hE
        · rw [if_neg c2]; exact rs_dead
    · rename_i o f p e pos
      by_cases c : isCmp e = true
      · rw [if_pos c]; exact rs_dead
      · rw [if_neg c]; exact rs_fld (fun cc C => fo.fld cc f C) c (hE o) (hE e)
    · rename_i tg e pos _ _ _ _ _
      by_cases c : (isCmp e || isStar tg || isLst tg || (isTup tg && isTup e)) = true
      · rw [if_pos c]; exact rs_dead
      · rw [if_neg c]
        rw [Bool.or_eq_true, Bool.or_eq_true, Bool.or_eq_true, not_or, not_or, not_or] at c
        exact rs_asg ok c.1.1.1 c.1.1.2 c.1.2 c.2 (hE e) hE
    · rename_i x px op e pos
      by_cases c : (locB d.sc x && augB op) = true
      · rw [if_pos c]
        rw [Bool.and_eq_true] at c
        cases q : idxOf x d.N with
        | none => exact rs_dead
        | some i => exact rs_aug ok c.1 q c.2 (hE e)
      · rw [if_neg c]; exact rs_dead
    · rename_i x p e pos rpos
      cases hx : d.exc x with
      | none => exact rs_dead
      | some f =>
        show PS X _ (RSt G W (if glB d.sc x && !dun x && !isStar e then fun ρ h => exM (ev F n d e ρ h) ρ fun v h1 => .exc x [(f, v)] ρ h1 else fun _ _ => .stk))
        by_cases c : (glB d.sc x && !dun x && !isStar e) = true
        · rw [if_pos c]
          simp only [Bool.and_eq_true, Bool.not_eq_true'] at c
          exact rs_raise ok tk (fo.exc x f hx) c.1.1 (by rw [c.1.2]; exact Bool.false_ne_true) c.2 hE
        · rw [if_neg c]; exact rs_dead
    · rename_i body x np b0 suite pos' pos
      by_cases c : (glB d.sc x && !dun x && d.hx x && (b0 :: suite).all suB) = true
      · rw [if_pos c]
        simp only [Bool.and_eq_true, Bool.not_eq_true'] at c
        obtain ⟨⟨⟨c1, c2⟩, c3⟩, c4⟩ := c
        exact rs_try ok so.stk so.frm tk c1 (by rw [c2]; exact Bool.false_ne_true) (fo.hx x c3)
          (fun W' pn xe tk' pass => rss body fun st _ => rs_all n (X.tr pn xe) G d W' (ok.tr pn xe) ⟨so.sc, so.kind, pass, so.stk, so.frm⟩ (fo.tr pn xe) tk' st)
          (fun a pn => rss (b0 :: suite) fun st hst => rs_su n _ G d W (List.all_eq_true.mp c4 st hst))
      · rw [if_neg c]; exact rs_dead
    · rename_i body x np nm y py m pm apos pos' pos
      by_cases c : asB d x nm m y = true
      · rw [if_pos c]
        have c0 : m = nm ∧ d.hx x = true := by
          unfold asB at c
          simp only [Bool.and_eq_true, decide_eq_true_eq] at c
          exact ⟨c.2.2.2.2.1, c.1.2⟩
        obtain ⟨rfl, c3⟩ := c0
        cases hi : idxOf m d.N with
        | none => exact rs_dead
        | some i =>
          cases hj : idxOf y d.N with
          | none => exact rs_dead
          | some j =>
            exact rs_try_as ok so tk c hi hj (fo.hx x c3)
              (fun W' pn xe tk' pass => rss body fun st _ => rs_all n (X.tr pn xe) G d W' (ok.tr pn xe) ⟨so.sc, so.kind, pass, so.stk, so.frm⟩ (fo.tr pn xe) tk' st)
      · rw [if_neg c]; exact rs_dead
    · exact rs_dead
end AM
/-! AMm: defs. -/
namespace AM
open PySem PySem.Spec PyProof.Rows L2

/-- a def: key: the machine's name of it (a method's: with the class's ahead); hp: which list displays are the machine's own objects; fuel: how deep its text may be -/
structure FD where
  key : Str
  name : Str
  qual : Str
  params : Arguments
  ps : List Str
  N : List Str
  body : List Stmt
  sc : Scope
  hp : Pos → Bool
  fuel : Nat
  plain : Bool := true
/-- a call with keywords: the def, how many values ahead, the keywords, which of all these each parameter takes -/
structure KwE where
  x : Str
  n : Nat
  ks : List Str
  ord : List Nat
def kwOf : List KwE → Str → Nat → List Str → Option (List Nat)
  | [], _, _, _ => none
  | e :: r, x, n, ks => if e.x = x ∧ e.n = n ∧ e.ks = ks then some e.ord else kwOf r x n ks
theorem kwOf_ok : ∀ {l : List KwE} {x : Str} {n : Nat} {ks : List Str} {ord : List Nat}, kwOf l x n ks = some ord → ∃ e ∈ l, e.x = x ∧ e.n = n ∧ e.ks = ks ∧ e.ord = ord
  | [], _, _, _, _, h => by cases h
  | e :: r, x, n, ks, ord, h => by
    unfold kwOf at h
    by_cases c : e.x = x ∧ e.n = n ∧ e.ks = ks
    · rw [if_pos c] at h
      cases h
      exact ⟨e, List.mem_cons_self .., c.1, c.2.1, c.2.2, rfl⟩
    · rw [if_neg c] at h
      obtain ⟨e', h1, h2⟩ := kwOf_ok h
      exact ⟨e', List.mem_cons_of_mem _ h1, h2⟩
/-- a module -/
structure Tab where
  defs : List FD
  glob : Str → Option AV
  free : Str → Bool
  kws : List KwE
  exc : Str → Option Str := fun _ => none
  hx : Str → Bool := fun _ => false
  exm : Str → Str → Option Bool := fun _ _ => none
  cls : Str → Option Str := fun _ => none
  fld : Str → Str → Bool := fun _ _ => false
  isi : TN → TN → Option Bool := fun _ _ => none
  xv : Str → Bool := fun _ => false
  inc : Str → Bool := fun _ => false
  xf : Str → Str → Bool := fun _ _ => false
  mkw : Str → Nat → List Str → Option (List Nat × List AV) := fun _ _ _ => none
  meth : Str → Str → Option (Str × Nat) := fun _ _ => none
/-- a method's name: with the class's ahead -/
def dotted (x : Str) : Bool := x.cps.any fun c => c == 46
def findF : List FD → Str → Option FD
  | [], _ => none
  | f :: r, x => if f.key = x then some f else findF r x
def makOf (T : Tab) (x : Str) : Option Nat := match findF T.defs x with
  | some _ => none
  | none => (T.cls x).bind fun nm => (findF T.defs nm).bind fun f => match f.ps with
    | [] => none
    | _ :: r => some r.length
def dcOf (T : Tab) (f : FD) : DC := ⟨f.N, f.sc, T.glob, T.free, fun x => if dotted x then none else (findF T.defs x).map (·.ps), kwOf T.kws, f.hp, T.exc, T.hx, T.exm, makOf T, T.fld, T.isi, T.xv, T.inc, T.xf, T.mkw, T.meth⟩
def startA (N : List Str) (avs : List AV) : AM.Env := avs.map some ++ List.replicate (N.length - avs.length) none
def finR : SR → Res AV
  | .rt v h => .ok v h
  | .nx _ h => .ok .non h
  | .exc c fs _ h => .exc c fs h
  | _ => .stk
/-- what a def does, k calls deep -/
def runF (T : Tab) : Nat → Str → OpN
  | 0, _ => fun _ _ => .stk
  | k + 1, x => match findF T.defs x with
    | none => (match T.cls x with
      | some nm => mkF x (runF T k nm)
      | none => fun _ _ => .stk)
    | some f => fun avs h => finR (blkM (exS (runF T k) f.fuel (dcOf T f)) f.body (startA f.N avs) h)
/-- how a def stands in the written part -/
structure At (T : Tab) (K : PySem.W.Frag) (mg : Str → Option Value) (x : Str) (f : FD) (fa : Addr) (fd : FuncData) : Prop where
  fn : ∃ dvs kws, (f.plain = true → dvs = [] ∧ kws = []) ∧ FunD K f.name f.qual f.params f.body f.sc dvs kws fa fd
  mg : dotted x = false → mg x = some (.ref fa)
  sc : FnScope f.N f.ps f.sc
  binds : Binds K fd f.ps []
  kw : ∀ e ∈ T.kws, e.x = x → (∀ i ∈ e.ord, i < e.n + e.ks.length) ∧ e.ord.length = f.ps.length ∧ ∀ (s : Shared) (us ws : List Value), us.length = e.n → ws.length = e.ks.length → BindsTo s fd ⟨us, e.ks.zip ws⟩ (f.ps.zip (pick e.ord (us ++ ws)))
/-- the own list od's values are the class's call's -/
def MkwOk (T : Tab) (G : Gh) (mg : Str → Option Value) (x : Str) (n : Nat) (ks : List Str) (od : List Nat × List AV) : Prop := ∃ (nm : Str) (f : FD) (C fI : Addr) (fd : FuncData) (m : Nat) (g : List Value → List Value → List Value) (gV : List V → List V → List V),
  T.cls x = some nm ∧ findF T.defs x = none ∧ findF T.defs nm = some f ∧ f.ps.length = m + 1 ∧ mg x = some (.ref C) ∧ G.ga x = some C ∧ Mk G.K C fI ∧ At T G.K mg nm f fI fd ∧ KBn G.K fd f.ps (n + 1) ks g gV ∧
  ∀ (l ι : List Addr) (H : Hp) (a : Addr) (avs azs : List AV) (vs zs : List V), avs.length = n → azs.length = ks.length → RVs (G.hide l) ι H avs vs → RVs (G.hide l) ι H azs zs → ∃ ws, gV (.ref a :: vs) zs = .ref a :: ws ∧ RVs (G.hide l) ι H (avs ++ pick od.1 (azs ++ od.2)) ws ∧ ws.length = m
structure Facts (T : Tab) (G : Gh) (mg : Str → Option Value) : Prop where
  at_ : ∀ x f, findF T.defs x = some f → ∃ fa fd, At T G.K mg x f fa fd
  kw : ∀ e ∈ T.kws, dotted e.x = false ∧ ∃ f, findF T.defs e.x = some f
  glob : ∀ x v, T.glob x = some v → ∃ (u : Value) (w : V), mg x = some u ∧ RelV w u ∧ ∀ l ι H, RV (G.hide l) ι H v w
  free : ∀ x, T.free x = true → mg x = none
  exc : ∀ x f, T.exc x = some f → ∃ (b : EB) (C fI : Addr) (fd : FuncData) (ps : List Str), mg x = some (.ref C) ∧ G.ga x = some C ∧ OexG G.K b C ∧ PySem.W.findIn G.K (.ref C) "__init__" = some (some (.ref fI)) ∧ PySem.W.typeIn G.K (.ref fI) = some (.type "function") ∧
    (∀ (P : Program) (w : World) (base : Heap), L2.FnOk P w G.K mg base (L2.CX P w) 1 fI fd ps (spX C f)) ∧ Binds G.K fd ps []
  hx : ∀ x, T.hx x = true → HxAt G.K mg G.ga T.exm x
  cls : ∀ x nm f, T.cls x = some nm → findF T.defs nm = some f → ∃ (C fI : Addr) (fd : FuncData), mg x = some (.ref C) ∧ G.ga x = some C ∧ Mk G.K C fI ∧ At T G.K mg nm f fI fd
  fld : ∀ c f C, T.fld c f = true → G.ga c = some C → Cls G.K C ∧ NoAttr G.K C f
  isi : ∀ t u b, T.isi t u = some b → ∀ vt vu, TNv G t vt → TNv G u vu → PySem.W.kitOne G.K vt vu = some b
  xv : ∀ c C, T.xv c = true → G.ga c = some C → XvS.XvC G.K C
  inc : ∀ c C, T.inc c = true → G.ga c = some C → InC G.K C
  xf : ∀ c f C, T.xf c f = true → G.ga c = some C → XvS.XvC G.K C ∧ PySem.W.findIn G.K (.ref C) f = some none
  mkw : ∀ x n ks od, T.mkw x n ks = some od → MkwOk T G mg x n ks od
  meth : ∀ c m kn C, T.meth c m = some kn → G.ga c = some C → ∃ f fa fd, findF T.defs kn.1 = some f ∧ f.ps.length = kn.2 + 1 ∧ Cls G.K C ∧ Meth G.K C m fa ∧ At T G.K mg kn.1 f fa fd
theorem At.kp {T : Tab} {K : PySem.W.Frag} {mg : Str → Option Value} {x : Str} {f : FD} {fa : Addr} {fd : FuncData} (a : At T K mg x f fa fd) : PySem.W.keepIn K (.ref fa) = true := by
  obtain ⟨_, _, _, F⟩ := a.fn
  exact F.kp
theorem rs_start {G : Gh} {ι : List Addr} {H : Hp} {N : List Str} {avs : List AV} {vs : List V} (r : RVs G ι H avs vs) : RS G ι H (startA N avs) (L2.start N vs) := by
  unfold startA L2.start
  refine ⟨by simp [r.length], fun i v e => ?_⟩
  by_cases h : i < avs.length
  · rw [List.getElem?_append_left (by simpa using h), List.getElem?_map] at e
    rw [List.getElem?_append_left (by simpa [← r.length] using h), List.getElem?_map]
    cases q : avs[i]? with
    | none => rw [q] at e; cases e
    | some x =>
      rw [q] at e
      cases e
      obtain ⟨u, e1, rv⟩ := r.get q
      rw [e1]
      exact ⟨u, rfl, rv⟩
  · rw [List.getElem?_append_right (by simpa using h), List.getElem?_replicate] at e
    split at e <;> cases e
theorem finR_post {G : Gh} {ι : List Addr} {H : Hp} {W : WX} {σ0 : L2.St} {Q : VK} {r : SR} (hW : ∀ C d σ σ' H, W C d σ H → W C d σ' H) (p : Post G (RV G) W σ0 ι H Q (finR r)) : PostS G W ι H { nx := fun _ H' => Q .non H', rt := Q } r := by
  cases r with
  | nx ρ h => exact fun ι' H' σ' x rh rs => p ι' H' .non x rh .non
  | rt v h => exact p
  | exc c fs ρ h => exact fun ι' H' σ' C d x rh rs rx => hW _ _ _ _ _ (p ι' H' C d x rh rx)
  | bk ρ h => exact p.elim
  | ct ρ h => exact p.elim
  | stk => exact p.elim
theorem findF_ok : ∀ {l : List FD} {x : Str} {f : FD}, findF l x = some f → f ∈ l ∧ f.key = x
  | [], _, _, h => by cases h
  | g :: r, x, f, h => by
    unfold findF at h
    by_cases c : g.key = x
    · rw [if_pos c] at h
      cases h
      exact ⟨List.mem_cons_self .., c⟩
    · rw [if_neg c] at h
      exact ⟨List.mem_cons_of_mem _ (findF_ok h).1, (findF_ok h).2⟩
theorem at_all {T : Tab} {K : PySem.W.Frag} {mg : Str → Option Value} (h : ∀ f ∈ T.defs, ∃ fa fd, At T K mg f.key f fa fd) : ∀ x f, findF T.defs x = some f → ∃ fa fd, At T K mg x f fa fd := fun x f e => by
  obtain ⟨h1, rfl⟩ := findF_ok e
  exact h f h1
theorem bindsK {K : PySem.W.Frag} {x qual : Str} {params : Arguments} {body : List Stmt} {scope : Scope} {f : Addr} {fd : FuncData} {ps ks : List Str} {n : Nat} {ord : List Nat} (F : FunD K x qual params body scope [] [] f fd)
    (h : ∀ (kV doc pm : Value) (an : Option Addr) (cdv ct : Value) (us ws : List Value), us.length = n → ws.length = ks.length → bindArgs (PySem.W.fnOf x qual params body scope .none kV doc pm an cdv ct) ⟨us, ks.zip ws⟩ = pure (ps.zip (pick ord (us ++ ws)))) :
    ∀ (s : Shared) (us ws : List Value), us.length = n → ws.length = ks.length → BindsTo s fd ⟨us, ks.zip ws⟩ (ps.zip (pick ord (us ++ ws))) := by
  obtain ⟨oc, od, dV, kV, doc, pm, an, cdv, ct, osl, rfl, lk, hcd, hD, hK⟩ := F.ex
  rcases hD with ⟨_, rfl⟩ | ⟨e, _⟩
  · exact fun s us ws h1 h2 => .of_eq (h kV doc pm an cdv ct us ws h1 h2)
  · exact absurd rfl e
section
variable {P : Program} {w : World} {mg : Str → Option Value} {base : Heap} {T : Tab} {G : Gh}
theorem fn_stk {k n : Nat} {fa : Addr} {fd : FuncData} {ps : List Str} : FnOk P w G.K mg base (L2.CX P w) k fa fd ps (spA G n fun _ _ => .stk) :=
  ⟨fun vs H Q E h => by obtain ⟨_, _, _, _, _, _, _, p⟩ := h; exact p.elim, fun A outer s H args us vs Q E _ _ _ _ h => by obtain ⟨_, _, _, _, _, _, _, p⟩ := h; exact p.elim⟩
/-- every def keeps the machine's promise -/
theorem fn_step (FT : Facts T G mg) (k : Nat) (ihs : ∀ j, j ≤ k → ∀ (x : Str) (f : FD) (fa : Addr) (fd : FuncData), findF T.defs x = some f → At T G.K mg x f fa fd → FnOk P w G.K mg base (L2.CX P w) (2 * j + 3) fa fd f.ps (spA G f.ps.length (runF T j x))) (x : Str) (f : FD) (fa : Addr) (fd : FuncData) (hf : findF T.defs x = some f) (at_ : At T G.K mg x f fa fd) :
    FnOk P w G.K mg base (L2.CX P w) (2 * (k + 1) + 2 + 1) fa fd f.ps (spA G f.ps.length (runF T (k + 1) x)) := by
    have ih := ihs k (Nat.le_refl _)
    obtain ⟨dvs, kws, _, FD0⟩ := at_.fn
    refine fn_def FD0 at_.sc (fun vs H Q E h => spA_len h) fun cdv A outer s H vs Q E hr hsp => ?_
    obtain ⟨l, ι, h, avs, rh, rv, hl, p⟩ := hsp
    have e1 : runF T (k + 1) x = fun avs h => finR (blkM (exS (runF T k) f.fuel (dcOf T f)) f.body (startA f.N avs) h) := by
      show (match findF T.defs x with | none => _ | some f => _) = _
      rw [hf]
    rw [e1] at p
    have ok : XOk (cxOf (L2.CX P w) P w G.K mg base f.N f.qual f.sc fa cdv A outer s H E) (G.hide l) (dcOf T f) :=
      ⟨rfl, at_.sc.nd, rfl, rfl, by have := hr.un; show (A.deeper _).units + 65 < cLine; omega, hr.gd, fun x h => visB_ok h, fun x h => ⟨locB_ok h, .inl rfl⟩, fun x h => glB_ok h, fun x h => h, FT.free, FT.glob⟩
    have so : SOk (cxOf (L2.CX P w) P w G.K mg base f.N f.qual f.sc fa cdv A outer s H E) (dcOf T f) := ⟨rfl, at_.sc.kind, passes_of rfl, rfl, rfl⟩
    have tk : Takes (cxOf (L2.CX P w) P w G.K mg base f.N f.qual f.sc fa cdv A outer s H E) (fun C d _ H => E C d H) := takes_of rfl rfl rfl rfl
    have fo : FOk (cxOf (L2.CX P w) P w G.K mg base f.N f.qual f.sc fa cdv A outer s H E) (G.hide l) (dcOf T f) (runF T k) := by
      refine ⟨fun y ps hy => ?_, fun y n ks ord hk => ?_, fun y g hy => ?_, FT.hx, fun y n hy => ?_, FT.fld, FT.isi, FT.xv, FT.inc, FT.xf, fun y n ks od hy => ?_, fun c m kn C hy hg => ?_⟩
      · have hy : (if dotted y then none else (findF T.defs y).map (·.ps)) = some ps := hy
        by_cases hdt : dotted y = true
        · rw [if_pos hdt] at hy
          cases hy
        · rw [if_neg hdt] at hy
          obtain ⟨g, hg, rfl⟩ := Option.map_eq_some_iff.mp hy
          obtain ⟨fa', fd', a⟩ := FT.at_ y g hg
          exact ⟨fa', fd', 2 * k + 3, a.mg (by simpa using hdt), a.kp, ih y g fa' fd' hg a, hr.mono (by omega), a.binds⟩
      · obtain ⟨e, he, rfl, rfl, rfl, rfl⟩ := kwOf_ok (show kwOf T.kws y n ks = some ord from hk)
        obtain ⟨hdt, g, hg⟩ := FT.kw e he
        obtain ⟨fa', fd', a⟩ := FT.at_ e.x g hg
        obtain ⟨b1, b2, b3⟩ := a.kw e he rfl
        exact ⟨fa', fd', 2 * k + 3, g.ps, a.mg hdt, a.kp, ih e.x g fa' fd' hg a, hr.mono (by omega), b1, b2, fun s us ws _ h1 h2 _ => b3 s us ws h1 h2⟩
      · obtain ⟨b, C, fI, fdI, psI, e1, e2, e3, e4, e5, e6, e7⟩ := FT.exc y g hy
        exact ⟨b, C, fI, fdI, psI, 1, e1, e2, e3, e4, e5, e6 P w base, hr.rm.mono (by omega), e7⟩
      · have hy : makOf T y = some n := hy
        unfold makOf at hy
        cases h1 : findF T.defs y with
        | some _ => rw [h1] at hy; cases hy
        | none =>
          rw [h1] at hy
          obtain ⟨nm, h2, hy⟩ := Option.bind_eq_some_iff.mp hy
          obtain ⟨g, h3, hy⟩ := Option.bind_eq_some_iff.mp hy
          obtain ⟨C, fI, fdI, c1, c2, c3, a⟩ := FT.cls y nm g h2 h3
          have hps : g.ps.length = n + 1 := by
            cases q : g.ps with
            | nil => rw [q] at hy; cases hy
            | cons p r =>
              rw [q] at hy
              cases hy
              rfl
          cases k with
          | zero => exact ⟨C, fI, fdI, g.ps, 0, fun _ _ => .stk, c1, c2, c3, fn_stk, hr.mono (by omega), a.binds, rfl⟩
          | succ k =>
            refine ⟨C, fI, fdI, g.ps, 2 * k + 3, runF T k nm, c1, c2, c3, ?_, hr.mono (by omega), a.binds, ?_⟩
            · have q := ihs k (by omega) nm g fI fdI h3 a
              rw [hps] at q
              exact q
            · show (match findF T.defs y with | none => _ | some f => _) = _
              rw [h1]
              show (match T.cls y with | some nm => _ | none => _) = _
              rw [h2]
      · obtain ⟨nm, g, C, fI, fdI, m, gg, gV, h2, h1, h3, hps, c1, c2, c3, a, kb, hgv⟩ := FT.mkw y n ks od hy
        cases k with
        | zero => exact ⟨C, fI, fdI, g.ps, 0, m, fun _ _ => .stk, gg, gV, c1, c2, c3, fn_stk, hr.mono (by omega), kb, hgv, rfl⟩
        | succ k =>
          refine ⟨C, fI, fdI, g.ps, 2 * k + 3, m, runF T k nm, gg, gV, c1, c2, c3, ?_, hr.mono (by omega), kb, hgv, ?_⟩
          · have q := ihs k (by omega) nm g fI fdI h3 a
            rw [hps] at q
            exact q
          · show (match findF T.defs y with | none => _ | some f => _) = _
            rw [h1]
            show (match T.cls y with | some nm => _ | none => _) = _
            rw [h2]
      · obtain ⟨g, fa', fd', h3, hps, c1, c2, a⟩ := FT.meth c m kn C hy hg
        have q := ih kn.1 g fa' fd' h3 a
        rw [hps] at q
        exact ⟨fa', fd', g.ps, 2 * k + 3, c1, c2, q, hr.mono (by omega), a.binds⟩
    exact ⟨RSt (G.hide l) (fun C d _ H => E C d H) (blkM (exS (runF T k) f.fuel (dcOf T f)) f.body), rss f.body fun st _ => rs_all f.fuel _ _ _ _ ok so fo tk st, ι, startA f.N avs, h, rh, rs_start rv, finR_post (fun _ _ _ _ _ z => z) p⟩
theorem fn_upto (FT : Facts T G mg) : ∀ (k j : Nat), j ≤ k → ∀ (x : Str) (f : FD) (fa : Addr) (fd : FuncData), findF T.defs x = some f → At T G.K mg x f fa fd → FnOk P w G.K mg base (L2.CX P w) (2 * j + 3) fa fd f.ps (spA G f.ps.length (runF T j x))
  | 0, j, hj, x, f, fa, fd, hf, a => by
    obtain rfl : j = 0 := by omega
    exact fn_stk
  | k + 1, j, hj, x, f, fa, fd, hf, a => by
    by_cases h : j ≤ k
    · exact fn_upto FT k j h x f fa fd hf a
    · obtain rfl : j = k + 1 := by omega
      exact fn_step FT k (fn_upto FT k) x f fa fd hf a
theorem fn_all (FT : Facts T G mg) (k : Nat) (x : Str) (f : FD) (fa : Addr) (fd : FuncData) (hf : findF T.defs x = some f) (a : At T G.K mg x f fa fd) : FnOk P w G.K mg base (L2.CX P w) (2 * k + 3) fa fd f.ps (spA G f.ps.length (runF T k x)) := fn_upto FT k k (Nat.le_refl _) x f fa fd hf a
end
/-- with whatever world -/
def CXa : CXT := fun outer H s E u s' => ∃ P w, L2.CX P w outer H s E u s'
theorem fn_any {P : Program} {w : World} {K : PySem.W.Frag} {mg : Str → Option Value} {base : Heap} {k : Nat} {f : Addr} {fd : FuncData} {ps : List Str} {sp : Sp} (F : FnOk P w K mg base (L2.CX P w) k f fd ps sp) : FnOk P w K mg base CXa k f fd ps sp :=
  ⟨F.len, fun A outer s H args us vs Q E hr he hb hv hs => codeAny_mono (F.run A outer s H args us vs Q E hr he hb hv hs) fun r s' hq => by
    cases r with
    | error e => exact ⟨P, w, hq⟩
    | ok fl => cases fl <;> exact hq⟩
theorem cxa_no {H : Hp} {s : Shared} {e : Value} {s' : Shared} (h : CXa [] H s (fun _ _ _ => False) e s') : False := by
  obtain ⟨P, w, a, B, H', cls, d, _, _, _, _, _, _, _, z⟩ := h
  exact z
end AM
/-! AMn: a module's facts. -/
namespace AM
open PySem PySem.Spec PyProof.Rows L2

def lookA {α : Type} : List (Str × α) → Str → Option α
  | [], _ => none
  | p :: r, x => if p.1 = x then some p.2 else lookA r x
theorem lookA_ok {α : Type} : ∀ {l : List (Str × α)} {x : Str} {v : α}, lookA l x = some v → (x, v) ∈ l
  | [], _, _, h => by cases h
  | p :: r, x, v, h => by
    unfold lookA at h
    by_cases c : p.1 = x
    · rw [if_pos c] at h
      cases h
      rw [← c]
      exact List.mem_cons_self ..
    · rw [if_neg c] at h
      exact List.mem_cons_of_mem _ (lookA_ok h)
def inL (l : List Str) (x : Str) : Bool := l.any fun y => decide (y = x)
theorem inL_ok {l : List Str} {x : Str} (h : inL l x = true) : x ∈ l := by
  obtain ⟨y, hy, e⟩ := List.any_eq_true.mp h
  rw [← of_decide_eq_true e]
  exact hy
def inL2 (l : List (Str × Str)) (x y : Str) : Bool := l.any fun p => decide (p.1 = x) && decide (p.2 = y)
theorem inL2_ok {l : List (Str × Str)} {x y : Str} (h : inL2 l x y = true) : (x, y) ∈ l := by
  obtain ⟨p, hp, e⟩ := List.any_eq_true.mp h
  obtain ⟨e1, e2⟩ := Bool.and_eq_true_iff.mp e
  rw [← of_decide_eq_true e1, ← of_decide_eq_true e2]
  exact hp
def look2 : List (Str × Str × Bool) → Str → Str → Option Bool
  | [], _, _ => none
  | p :: r, x, y => if p.1 = x ∧ p.2.1 = y then some p.2.2 else look2 r x y
theorem look2_ok : ∀ {l : List (Str × Str × Bool)} {x y : Str} {b : Bool}, look2 l x y = some b → (x, y, b) ∈ l
  | [], _, _, _, h => by cases h
  | p :: r, x, y, b, h => by
    unfold look2 at h
    by_cases c : p.1 = x ∧ p.2.1 = y
    · rw [if_pos c] at h
      cases h
      rw [← c.1, ← c.2]
      exact List.mem_cons_self ..
    · rw [if_neg c] at h
      exact List.mem_cons_of_mem _ (look2_ok h)
/-- a name of the module as its value -/
def GlobOk (G : Gh) (mg : Str → Option Value) (p : Str × AV) : Prop := ∃ (u : Value) (w : V), mg p.1 = some u ∧ RelV w u ∧ ∀ l ι H, RV (G.hide l) ι H p.2 w
theorem glob_int {G : Gh} {mg : Str → Option Value} {x : Str} {i : Int} (h : ∃ t, mg x = some (.int i t)) : GlobOk G mg (x, .int i) := by
  obtain ⟨t, e⟩ := h
  exact ⟨_, .int i, e, ⟨t, rfl⟩, fun _ _ _ => .int i⟩
theorem glob_str {G : Gh} {mg : Str → Option Value} {x z : Str} (h : ∃ t, mg x = some (.str z t)) : GlobOk G mg (x, .str z) := by
  obtain ⟨t, e⟩ := h
  exact ⟨_, .str z, e, ⟨t, rfl⟩, fun _ _ _ => .str z⟩

/-! ### Bools of the written part -/
/-- an own exception class -/
def oexB (b : EB) (K : PySem.W.Frag) (C : Addr) : Bool := (match K.lookup C with
  | some ⟨.type t, _, .cls cd, sl⟩ => decide (t = "type") && (match cd.mro, sl.toList with
    | .ref C' :: bm, [_, _, _, _, some (.builtin n), _] => decide (C' = C) && (decide (n = b.nw) && (!cd.hasDel && (cd.hasDict && PySem.W.excTail b.bm bm)))
    | _, _ => false)
  | _ => false) && (He.eqO (PySem.W.findIn K (.ref C) "__setattr__") (some (some (.builtin "object.__setattr__"))) && (decide (PySem.W.subIn K (.ref C) (.type "BaseException") = some true) && (decide (PySem.W.typeIn K (.ref C) = some (.type "type")) && PySem.W.keepIn K (.ref C))))
theorem oexB_ok {b : EB} {K : PySem.W.Frag} {C : Addr} (q : oexB b K C = true) : OexG K b C := by
  obtain ⟨q, q1⟩ := Bool.and_eq_true_iff.mp q
  obtain ⟨q2, q1⟩ := Bool.and_eq_true_iff.mp q1
  obtain ⟨q3, q1⟩ := Bool.and_eq_true_iff.mp q1
  obtain ⟨q4, q5⟩ := Bool.and_eq_true_iff.mp q1
  refine ⟨?_, He.eqO_ok q2, of_decide_eq_true q3, of_decide_eq_true q4, q5⟩
  split at q
  · rename_i t dd cd sl ho
    obtain ⟨e1, q⟩ := Bool.and_eq_true_iff.mp q
    have e1 := of_decide_eq_true e1
    subst e1
    split at q
    · rename_i C' bm k0 k1 k2 k3 n k5 hm hs
      simp only [Bool.and_eq_true, decide_eq_true_eq, Bool.not_eq_true'] at q
      obtain ⟨_, rfl, rfl, hdel, hdct, hbm⟩ := q
      obtain ⟨nm, bs, mro, ns, qn, hd, sn, sub, ab, col, del⟩ := cd
      dsimp only at hm hdel hdct
      subst hm hdel hdct
      have hsl : sl = #[k0, k1, k2, k3, some (.builtin b.nw), k5] := by
        obtain ⟨l⟩ := sl
        simp only at hs
        rw [hs]
      subst hsl
      exact ⟨_, _, _, _, bm, _, _, _, _, _, _, _, _, _, _, ho, hbm⟩
    · cases q
  · cases q
/-- C has the built-in's __init__ -/
def oinB (b : EB) (K : PySem.W.Frag) (C : Addr) : Bool := PySem.W.readsIn K C (.type "type") && (He.eqO (PySem.W.specialIn K (.ref C) "__getattribute__") (some (some (.builtin "type.__getattribute__"))) && (match PySem.W.findCls K (.ref C) (.type "type") "__init__" with
  | some (.val (.builtin n)) => decide (n = b.ini)
  | _ => false))
theorem oinB_ok {b : EB} {K : PySem.W.Frag} {C : Addr} (q : oinB b K C = true) : OInit K b C (.type "type") := by
  obtain ⟨q1, q⟩ := Bool.and_eq_true_iff.mp q
  obtain ⟨q2, q3⟩ := Bool.and_eq_true_iff.mp q
  refine ⟨⟨q1, He.eqO_ok q2⟩, ?_⟩
  split at q3
  · rename_i n e
    rw [e, of_decide_eq_true q3]
  · cases q3
/-- an own exception class x with an __init__ of one attribute f that calls B's -/
def excB (b : EB) (x f B : Str) (K : PySem.W.Frag) : Bool := oexB b K (He.ga K x) && (He.eqO (PySem.W.findIn K (.ref (He.ga K x)) "__init__") (some (some (.ref (He.ma K (He.ga K x) "__init__")))) && (decide (PySem.W.typeIn K (.ref (He.ma K (He.ga K x) "__init__")) = some (.type "function")) && (He.eqO (PySem.W.findIn K (.ref (He.ga K x)) f) (some none) && oinB b K (He.ga K B))))
/-- a built-in class catches | lets go by -/
def exmB (x : Str) (n : String) (b : Bool) (K : PySem.W.Frag) : Bool := decide (PySem.W.exmOne K (.ref (He.ga K x)) (.type n) = some b)

/-! ### my hook: HeadHook2's facts, one Bool more -/
abbrev AlA : Type := He.AlD × Bool
def obsK (fa : List He.Fa) (fn : List He.DefD) (ex : PySem.W.Frag → Bool) (K : PySem.W.Frag) : AlA := (He.obsD fa fn K, ex K)
def obsA (n : Nat) (fa : List He.Fa) (fn : List He.DefD) (ex : PySem.W.Frag → Bool) (g : Addr → Option Obj) : AlA := obsK fa fn ex (He.frG g (cStatics :: He.asD g n))
structure SaysA (fa : List He.Fa) (fn : List He.DefD) (ex : PySem.W.Frag → Bool) (K : PySem.W.Frag) : Prop where
  d : He.SaysD fa fn K
  more : ex K = true
def hookA (n : Nat) (fa : List He.Fa) (fn : List He.DefD) (ex : PySem.W.Frag → Bool) : PySem.W.Hook where
  α := AlA
  obs := fun s => obsA n fa fn ex s.heap.get?
  val := fun _ => (He.valD fn, true)
  says := fun _ h => ∃ K : PySem.W.Frag, K.In h ∧ SaysA fa fn ex K
  of := fun _ _ e => ⟨_, He.frG_in, congrArg (fun z : AlA => z.1) e, congrArg (fun z : AlA => z.2) e⟩
  keeps := fun _ _ _ ⟨K, hK, c⟩ k => ⟨K, PySem.W.Frag.In.keeps hK k, c⟩
theorem obsA_eq {n : Nat} {fa : List He.Fa} {fn : List He.DefD} {ex : PySem.W.Frag → Bool} {g : Addr → Option Obj} {s : Shared} (h : ∀ a, g a = s.heap.get? a) : obsA n fa fn ex g = (hookA n fa fn ex).obs s := by
  have e : g = s.heap.get? := funext h
  rw [e] <;> rfl
def allB (l : List (PySem.W.Frag → Bool)) (K : PySem.W.Frag) : Bool := l.all fun f => f K
theorem SaysA.ex {fa : List He.Fa} {fn : List He.DefD} {l : List (PySem.W.Frag → Bool)} {K : PySem.W.Frag} (c : SaysA fa fn (allB l) K) (i : Nat) {f : PySem.W.Frag → Bool} (h : l[i]? = some f := by rfl) : f K = true := List.all_eq_true.mp c.more f (List.mem_of_getElem? h)

/-! ### classes -/
/-- where the module's classes stand -/
def gaL (K : PySem.W.Frag) (cs : List Str) (x : Str) : Option Addr := if inL cs x then some (He.ga K x) else none
theorem gaL_ok {K : PySem.W.Frag} {cs : List Str} {x : Str} (h : inL cs x = true) : gaL K cs x = some (He.ga K x) := if_pos h
theorem gaL_inv {K : PySem.W.Frag} {cs : List Str} {x : Str} {C : Addr} (h : gaL K cs x = some C) : C = He.ga K x := by
  unfold gaL at h
  split at h <;> cases h
  rfl
def ExcOk (G : Gh) (mg : Str → Option Value) (x f : Str) : Prop := ∃ (b : EB) (C fI : Addr) (fd : FuncData) (ps : List Str), mg x = some (.ref C) ∧ G.ga x = some C ∧ OexG G.K b C ∧ PySem.W.findIn G.K (.ref C) "__init__" = some (some (.ref fI)) ∧ PySem.W.typeIn G.K (.ref fI) = some (.type "function") ∧
    (∀ (P : Program) (w : World) (base : Heap), L2.FnOk P w G.K mg base (L2.CX P w) 1 fI fd ps (spX C f)) ∧ Binds G.K fd ps []
theorem exc_of {b : EB} {K : PySem.W.Frag} {h : Heap} {mg : Str → Option Value} {cs : List Str} {x f B qual self p m : Str} {kk : Nat} {q1 q2 q3 q4 q5 q6 q7 q8 q9 q10 : Pos} {params : Arguments} {scope : Scope} {fd : FuncData} (X : K.In h) (G : h.Ns mainGlobals mg) (c1 : (He.Fa.glo x).ok K = true) (c2 : (He.Fa.glo B).ok K = true) (c3 : excB b x f B K = true) (hc : inL cs x = true)
    (F : FunD K "__init__" qual params (initB self p B f m kk q1 q2 q3 q4 q5 q6 q7 q8 q9 q10) scope [] [] (He.ma K (He.ga K x) "__init__") fd) (S : FnScope [self, p] [self, p] scope) (gB : scope.names.lookup B = some .globalImplicit) (dB : (B == ("__debug__" : Str)) = false)
    (ds : (self == ("__debug__" : Str)) = false ∧ (self == ("__classdict__" : Str)) = false) (dp : (p == ("__debug__" : Str)) = false ∧ (p == ("__classdict__" : Str)) = false) (hi : InitC self B m kk q1 q2 q3 q4 q5)
    (hb : ∀ (kV doc pm : Value) (an : Option Addr) (cdv ct : Value) (us : List Value), us.length = [self, p].length → bindArgs (PySem.W.fnOf "__init__" qual params (initB self p B f m kk q1 q2 q3 q4 q5 q6 q7 q8 q9 q10) scope .none kV doc pm an cdv ct) ⟨us, []⟩ = pure ([self, p].zip us)) :
    ExcOk ⟨K, gaL K cs, []⟩ mg x f := by
  obtain ⟨k1, k⟩ := Bool.and_eq_true_iff.mp c3
  obtain ⟨k2, k⟩ := Bool.and_eq_true_iff.mp k
  obtain ⟨k3, k⟩ := Bool.and_eq_true_iff.mp k
  obtain ⟨k4, k5⟩ := Bool.and_eq_true_iff.mp k
  exact ⟨b, _, _, fd, [self, p], He.glo_ok X G c1, gaL_ok hc, oexB_ok k1, He.eqO_ok k2, of_decide_eq_true k3, fun P w base => init_ok F S (oinB_ok k5) (He.glo_ok X G c2) gB dB ds dp (oexB_ok k1) (He.eqO_ok k4) hi, F.bindsN hb⟩
/-- an except clause's class and what it does with the module's exceptions -/
theorem hx_own {K : PySem.W.Frag} {h : Heap} {mg : Str → Option Value} {cs : List Str} {ml : List (Str × Str × Bool)} {x : Str} (X : K.In h) (G : h.Ns mainGlobals mg) (c1 : (He.Fa.glo x).ok K = true) (h1 : ∀ e ∈ ml, e.2.1 = x → (He.Fa.exm e.1 x e.2.2).ok K = true) : HxAt K mg (gaL K cs) (look2 ml) x :=
  ⟨.ref (He.ga K x), .inl (He.glo_ok X G c1), fun y b C e1 e2 => by
    rw [gaL_inv e2]
    exact He.exm_ok (h1 _ (look2_ok e1) rfl)⟩
theorem hx_blt {K : PySem.W.Frag} {h : Heap} {mg : Str → Option Value} {cs : List Str} {ml : List (Str × Str × Bool)} {x : Str} {n : String} (X : K.In h) (G : h.Ns mainGlobals mg) (c1 : (He.Fa.free x).ok K = true) (c2 : bootBuiltins x = some (.type n)) (h1 : ∀ e ∈ ml, e.2.1 = x → exmB e.1 n e.2.2 K = true) : HxAt K mg (gaL K cs) (look2 ml) x :=
  ⟨.type n, .inr ⟨He.free_ok X G c1, c2⟩, fun y b C e1 e2 => by
    rw [gaL_inv e2]
    exact of_decide_eq_true (h1 _ (look2_ok e1) rfl)⟩
/-! ### isinstance of own classes, attributes of exceptions -/
def tnV (K : PySem.W.Frag) : TN → Value
  | .ty n => .type n
  | .own x => .ref (He.ga K x)
theorem tnV_ok {K : PySem.W.Frag} {cs : List Str} {t : TN} {u : Value} (h : TNv ⟨K, gaL K cs, []⟩ t u) : u = tnV K t := by
  cases t with
  | ty n => exact h
  | own x =>
    obtain ⟨C, e, rfl⟩ := h
    rw [gaL_inv e]
    rfl
def kitE (t u : TN) (b : Bool) (K : PySem.W.Frag) : Bool := decide (PySem.W.kitOne K (tnV K t) (tnV K u) = some b)
theorem isi_of {K : PySem.W.Frag} {cs : List Str} {t u : TN} {b : Bool} (h : kitE t u b K = true) : ∀ vt vu, TNv ⟨K, gaL K cs, []⟩ t vt → TNv ⟨K, gaL K cs, []⟩ u vu → PySem.W.kitOne K vt vu = some b := fun vt vu h1 h2 => by
  rw [tnV_ok h1, tnV_ok h2]
  exact of_decide_eq_true h
def lookI : List (TN × TN × Bool) → TN → TN → Option Bool
  | [], _, _ => none
  | p :: r, x, y => if p.1 = x ∧ p.2.1 = y then some p.2.2 else lookI r x y
theorem lookI_ok : ∀ {l : List (TN × TN × Bool)} {x y : TN} {b : Bool}, lookI l x y = some b → (x, y, b) ∈ l
  | [], _, _, _, h => by cases h
  | p :: r, x, y, b, h => by
    unfold lookI at h
    by_cases c : p.1 = x ∧ p.2.1 = y
    · rw [if_pos c] at h
      cases h
      rw [← c.1, ← c.2]
      exact List.mem_cons_self ..
    · rw [if_neg c] at h
      exact List.mem_cons_of_mem _ (lookI_ok h)
def xvE (x : Str) (K : PySem.W.Frag) : Bool := XvS.xvB K (He.ga K x)
def xfE (x f : Str) (K : PySem.W.Frag) : Bool := XvS.xvB K (He.ga K x) && decide (PySem.W.findIn K (.ref (He.ga K x)) f = some none)
theorem xv_of {K : PySem.W.Frag} {cs : List Str} {x : Str} (h : xvE x K = true) : ∀ C, gaL K cs x = some C → XvS.XvC K C := fun C e => by
  rw [gaL_inv e]
  exact XvS.xvB_ok h
theorem xf_of {K : PySem.W.Frag} {cs : List Str} {x f : Str} (h : xfE x f K = true) : ∀ C, gaL K cs x = some C → XvS.XvC K C ∧ PySem.W.findIn K (.ref C) f = some none := fun C e => by
  rw [gaL_inv e]
  obtain ⟨h1, h2⟩ := Bool.and_eq_true_iff.mp h
  exact ⟨XvS.xvB_ok h1, of_decide_eq_true h2⟩
def incE (x : Str) (K : PySem.W.Frag) : Bool := (He.Fa.cls x).ok K && (decide (PySem.W.findIn K (.ref (He.ga K x)) "__class__" = some (some (.builtin "object.__class__"))) && (decide (PySem.W.specialIn K (.builtin "object.__class__") "__get__" = some (some (.builtin "getset_descriptor.__get__"))) &&
  (decide (PySem.W.takesIn K (.builtin "object.__class__") = some true) && decide (PySem.W.mroIn K (He.ga K x) (.type "object") = some true))))
theorem inc_of {K : PySem.W.Frag} {cs : List Str} {x : Str} (h : incE x K = true) : ∀ C, gaL K cs x = some C → InC K C := fun C e => by
  rw [gaL_inv e]
  unfold incE at h
  simp only [Bool.and_eq_true, decide_eq_true_eq] at h
  exact ⟨He.cls_ok h.1, h.2.1, h.2.2.1, h.2.2.2.1, h.2.2.2.2⟩
theorem glob_cls {K : PySem.W.Frag} {h : Heap} {mg : Str → Option Value} {cs : List Str} {x : Str} (X : K.In h) (G : h.Ns mainGlobals mg) (c : (He.Fa.glo x).ok K = true) (hc : inL cs x = true) : GlobOk ⟨K, gaL K cs, []⟩ mg (x, .glo x) :=
  ⟨_, .ref _, He.glo_ok X G c, rfl, fun _ _ _ => .glo (gaL_ok hc)⟩
/-! ### classes called with keywords, with defaults -/
structure MkE where
  x : Str
  n : Nat
  ks : List Str
  ord : List Nat
  dv : List AV
def lookW : List MkE → Str → Nat → List Str → Option (List Nat × List AV)
  | [], _, _, _ => none
  | e :: r, x, n, ks => if e.x = x ∧ e.n = n ∧ e.ks = ks then some (e.ord, e.dv) else lookW r x n ks
theorem lookW_ok : ∀ {l : List MkE} {x : Str} {n : Nat} {ks : List Str} {od : List Nat × List AV}, lookW l x n ks = some od → ∃ e ∈ l, e.x = x ∧ e.n = n ∧ e.ks = ks ∧ (e.ord, e.dv) = od
  | [], _, _, _, _, h => by cases h
  | e :: r, x, n, ks, od, h => by
    unfold lookW at h
    by_cases c : e.x = x ∧ e.n = n ∧ e.ks = ks
    · rw [if_pos c] at h
      cases h
      exact ⟨e, List.mem_cons_self .., c.1, c.2.1, c.2.2, rfl⟩
    · rw [if_neg c] at h
      obtain ⟨e', h1, h2⟩ := lookW_ok h
      exact ⟨e', List.mem_cons_of_mem _ h1, h2⟩
/-- the i-th default of the def at f is () -/
def tup0E (f : Str × Option Str) (i : Nat) (K : PySem.W.Frag) : Bool := match K.lookup (He.dflAt f i K) with
  | some ⟨.type t, _, .seq its _, _⟩ => decide (t = "tuple") && its.isEmpty
  | _ => false
theorem tup0_of {G : Gh} {f : Str × Option Str} {i : Nat} (h : tup0E f i G.K = true) : ∀ ι H, RV G ι H (.tup []) (.ref (He.dflAt f i G.K)) := fun ι H => by
  unfold tup0E at h
  split at h
  · rename_i t dd its n sl ho
    obtain ⟨h1, h2⟩ := Bool.and_eq_true_iff.mp h
    obtain rfl : t = "tuple" := of_decide_eq_true h1
    have h3 : its = #[] := by simpa using h2
    subst h3
    exact .tup (vs := []) (.inr ⟨_, _, _, ho, rfl, rfl, by decide, .nil⟩) .nil
  · cases h
theorem mkw_of {T : Tab} {K : PySem.W.Frag} {mg : Str → Option Value} {cs : List Str} {x nm : Str} {f : FD} {fI : Addr} {fd : FuncData} {dvs : List V} {m n : Nat} {ks : List Str} {ord : List Nat} {dv : List AV} (h1 : T.cls x = some nm) (h2 : findF T.defs x = none) (h3 : findF T.defs nm = some f) (c1 : mg x = some (.ref (He.ga K x))) (hc : inL cs x = true)
    (M : Mk K (He.ga K x) fI) (a : At T K mg nm f fI fd) (F : FunD K f.name f.qual f.params f.body f.sc dvs [] fI fd) (hd : dvs ≠ []) (hdv : ∀ l ι H, RVs ((⟨K, gaL K cs, []⟩ : Gh).hide l) ι H dv dvs) (hlen : f.ps.length = m + 1) (hn : n + ord.length = m) (hord : ∀ i ∈ ord, i < ks.length + dvs.length)
    (hb : ∀ (T : Addr) (kV doc pm : Value) (an : Option Addr) (cdv ct : Value) (us its ws : List Value), us.length = n + 1 → its.length = dvs.length → ws.length = ks.length →
      ∃ k, bindArgs (PySem.W.fnOf f.name f.qual f.params f.body f.sc (.ref T) kV doc pm an cdv ct) ⟨us, ks.zip ws⟩ = seqItems? (.ref T) >>= k ∧ k (some its.toArray) = pure (f.ps.zip (us ++ pick ord (ws ++ its)))) : MkwOk T ⟨K, gaL K cs, []⟩ mg x n ks (ord, dv) := by
  obtain ⟨its, kb⟩ := F.kbindsD (n + 1) ks (fun us its ws => us ++ pick ord (ws ++ its)) hd (fun r1 r2 r3 => r1.append (pick_vals (r3.append r2) ord)) hb
  refine ⟨nm, f, _, fI, fd, m, _, _, h1, h2, h3, hlen, c1, gaL_ok hc, M, a, kb, fun l ι H a avs azs vs zs l1 l2 r1 r2 => ⟨vs ++ pick ord (zs ++ dvs), rfl, r1.append (pick_rel (r2.append (hdv l ι H)) ord), ?_⟩⟩
  have e1 : (pick ord (zs ++ dvs)).length = ord.length := pick_len fun i hi => by
    rw [List.length_append, ← r2.length, l2]
    exact hord i hi
  rw [List.length_append, e1, ← r1.length, l1]
  exact hn
/-- own methods -/
def lookM : List (Str × Str × Str × Nat) → Str → Str → Option (Str × Nat)
  | [], _, _ => none
  | p :: r, x, y => if p.1 = x ∧ p.2.1 = y then some p.2.2 else lookM r x y
theorem lookM_ok : ∀ {l : List (Str × Str × Str × Nat)} {x y : Str} {b : Str × Nat}, lookM l x y = some b → (x, y, b) ∈ l
  | [], _, _, _, h => by cases h
  | p :: r, x, y, b, h => by
    unfold lookM at h
    by_cases c : p.1 = x ∧ p.2.1 = y
    · rw [if_pos c] at h
      cases h
      rw [← c.1, ← c.2]
      exact List.mem_cons_self ..
    · rw [if_neg c] at h
      exact List.mem_cons_of_mem _ (lookM_ok h)
def MethOk (T : Tab) (G : Gh) (mg : Str → Option Value) (c m : Str) (kn : Str × Nat) : Prop := ∀ C, G.ga c = some C → ∃ f fa fd, findF T.defs kn.1 = some f ∧ f.ps.length = kn.2 + 1 ∧ Cls G.K C ∧ Meth G.K C m fa ∧ At T G.K mg kn.1 f fa fd
def ClsOk (T : Tab) (G : Gh) (mg : Str → Option Value) (x nm : Str) : Prop := ∃ (f : FD) (C fI : Addr) (fd : FuncData), findF T.defs nm = some f ∧ mg x = some (.ref C) ∧ G.ga x = some C ∧ Mk G.K C fI ∧ At T G.K mg nm f fI fd
theorem facts_of {T : Tab} {G : Gh} {mg : Str → Option Value} {gl : List (Str × AV)} {fr : List Str} {el : List (Str × Str)} {hl : List Str} {ml : List (Str × Str × Bool)} {cl : List (Str × Str)} {fl : List (Str × Str)} (h1 : ∀ f ∈ T.defs, ∃ fa fd, At T G.K mg f.key f fa fd) (h2 : ∀ e ∈ T.kws, dotted e.x = false ∧ (findF T.defs e.x).isSome = true)
    (eg : T.glob = lookA gl) (h3 : ∀ p ∈ gl, GlobOk G mg p) (ef : T.free = inL fr) (h4 : ∀ x ∈ fr, mg x = none) (e5 : T.exc = lookA el) (h5 : ∀ e ∈ el, ExcOk G mg e.1 e.2) (e6 : T.hx = inL hl) (h6 : ∀ x ∈ hl, HxAt G.K mg G.ga T.exm x)
    (e7 : T.cls = lookA cl) (h7 : ∀ e ∈ cl, ClsOk T G mg e.1 e.2) (e8 : T.fld = inL2 fl) (h8 : ∀ e ∈ fl, ∀ C, G.ga e.1 = some C → Cls G.K C ∧ NoAttr G.K C e.2)
    {il : List (TN × TN × Bool)} {xl nl : List Str} {xfl : List (Str × Str)} {wl : List MkE} {tl : List (Str × Str × Str × Nat)}
    (e9 : T.isi = lookI il) (h9 : ∀ e ∈ il, ∀ vt vu, TNv G e.1 vt → TNv G e.2.1 vu → PySem.W.kitOne G.K vt vu = some e.2.2) (e10 : T.xv = inL xl) (h10 : ∀ x ∈ xl, ∀ C, G.ga x = some C → XvS.XvC G.K C) (e11 : T.inc = inL nl) (h11 : ∀ x ∈ nl, ∀ C, G.ga x = some C → InC G.K C)
    (e12 : T.xf = inL2 xfl) (h12 : ∀ e ∈ xfl, ∀ C, G.ga e.1 = some C → XvS.XvC G.K C ∧ PySem.W.findIn G.K (.ref C) e.2 = some none) (e13 : T.mkw = lookW wl) (h13 : ∀ e ∈ wl, MkwOk T G mg e.x e.n e.ks (e.ord, e.dv)) (e14 : T.meth = lookM tl) (h14 : ∀ e ∈ tl, MethOk T G mg e.1 e.2.1 e.2.2) : Facts T G mg where
  at_ := at_all h1
  kw := fun e he => ⟨(h2 e he).1, Option.isSome_iff_exists.mp (h2 e he).2⟩
  glob := fun x v h => h3 (x, v) (lookA_ok (by rw [← eg]; exact h))
  free := fun x h => h4 x (inL_ok (by rw [← ef]; exact h))
  exc := fun x f h => h5 (x, f) (lookA_ok (by rw [← e5]; exact h))
  hx := fun x h => h6 x (inL_ok (by rw [← e6]; exact h))
  cls := fun x nm f h hf => by
    obtain ⟨f', C, fI, fd, k1, k2, k3, k4, k5⟩ := h7 (x, nm) (lookA_ok (by rw [← e7]; exact h))
    have e : f' = f := by
      have := k1.symm.trans hf
      cases this
      rfl
    subst e
    exact ⟨C, fI, fd, k2, k3, k4, k5⟩
  fld := fun c f C h hg => h8 (c, f) (inL2_ok (by rw [← e8]; exact h)) C hg
  isi := fun t u b h => h9 (t, u, b) (lookI_ok (by rw [← e9]; exact h))
  xv := fun c C h hg => h10 c (inL_ok (by rw [← e10]; exact h)) C hg
  inc := fun c C h hg => h11 c (inL_ok (by rw [← e11]; exact h)) C hg
  xf := fun c f C h hg => h12 (c, f) (inL2_ok (by rw [← e12]; exact h)) C hg
  mkw := fun x n ks od h => by
    obtain ⟨e, he, rfl, rfl, rfl, rfl⟩ := lookW_ok (show lookW wl x n ks = some od by rw [← e13]; exact h)
    exact h13 e he
  meth := fun c m kn C h hg => h14 (c, m, kn) (lookM_ok (by rw [← e14]; exact h)) C hg
/-- the law's end: law's machine answers True at every script -/
theorem walk_am {l : PySem.W.OpenLaw} {q : Program} {loose : List Str} {XP : (Str → Option Value) → Heap → Prop} {YP : World → Heap → Prop} {d : DefRec} {x : Str} (T : Tab) (k : Nat) (f : FD)
    (hn : l.most = some 63) (hdf : d.params.defaults = []) (hr : L2.Room (2 * k + 3) callerA) (hname : d.name = f.key) (hf : findF T.defs f.key = some f) (hps : f.ps = [x]) (hpl : f.plain = true) (hdt : dotted f.key = false)
    (F : ∀ (w : World) (mg : Str → Option Value) (h : Heap), YP w h → h.Ns mainGlobals mg → ∃ G : Gh, G.hid = [] ∧ G.K.In h ∧ Facts T G mg)
    (hb : ∀ (kV doc pm : Value) (an : Option Addr) (cdv ct u : Value), bindArgs (PySem.W.fnOf f.name f.qual f.params f.body f.sc .none kV doc pm an cdv ct) ⟨[u], []⟩ = pure [(x, u)])
    (run : ∀ ns : List Int, ns.length ≤ 63 → ∃ h', runF T k f.key [.ext (ns.map .int)] [] = .ok (.bl true) h') :
    PySem.W.WalkO q loose XP YP l.row.toRowW d [] (fun f vs => PySem.call f vs) := by
  refine walk_end (l := l) (n := 63) (k := 2 * k + 3) (x := x) (C := CXa) hn (by decide) hdf ⟨hr, rfl⟩ ?_ (fun _ _ _ _ z => cxa_no z)
  intro w mg fa h Y Gn hmg0
  obtain ⟨G, hG, KX, FT⟩ := F w mg h Y Gn
  obtain ⟨fa', fd, a⟩ := FT.at_ f.key f hf
  rw [hname] at hmg0
  have e : fa' = fa := by
    have := (a.mg hdt).symm.trans hmg0
    cases this
    rfl
  subst e
  refine ⟨G.K, fd, spA G f.ps.length (runF T k f.key), KX, fun s v => ?_, fun H ad ns hl hS => ?_, fun base _ _ => by
    rw [← hps]
    exact fn_any (fn_all FT k f.key f fa' fd hf a)⟩
  · obtain ⟨dvs, kws, hpd, F0⟩ := a.fn
    obtain ⟨rfl, rfl⟩ := hpd hpl
    obtain ⟨oc, od, dV, kV, doc, pm, an, cdv, ct, osl, e1, lk, hcd, hD, hK⟩ := F0.ex
    rcases hD with ⟨_, rfl⟩ | ⟨e, _⟩
    · rw [e1]
      exact .of_eq (hb kV doc pm an cdv ct v)
    · exact absurd rfl e
  · obtain ⟨h', er⟩ := run ns hl
    refine ⟨[], [], [], [.ext (ns.map .int)], ⟨rfl, .nil, fun a ha => absurd ha (by simp [Gh.hide]), fun n o a e => by simp at e⟩, ?_, by rw [hps]; rfl, ?_⟩
    · refine .cons (.ext ?_ (RVs.ofInts ns)) .nil
      rcases hS with q | q
      · exact .inl ⟨⟨by simp, by simp [Gh.hide]⟩, q⟩
      · exact .inr q
    · rw [er]
      intro ι' H' u x rh r
      cases r
      rfl
end AM
namespace AM
open PySem PySem.Spec PyProof.Rows L2
/-- a def with defaults that is called with all values -/
theorem bindsD {K : PySem.W.Frag} {x qual : Str} {params : Arguments} {body : List Stmt} {scope : Scope} {dvs : List V} {kws : List (Str × V)} {f : Addr} {fd : FuncData} {ps : List Str} (F : FunD K x qual params body scope dvs kws f fd) (n j : Nat) (en : ps.length = n) (ej : dvs.length = j) (hd : dvs ≠ [])
    (h : ∀ (T : Addr) (kV doc pm : Value) (an : Option Addr) (cdv ct : Value) (us its : List Value), us.length = n → its.length = j →
      ∃ k, bindArgs (PySem.W.fnOf x qual params body scope (.ref T) kV doc pm an cdv ct) ⟨us, []⟩ = seqItems? (.ref T) >>= k ∧ k (some its.toArray) = pure (ps.zip (us ++ its.drop j))) : Binds K fd ps [] := by
  subst en ej
  obtain ⟨ds, v, b⟩ := F.binds1 ps.length dvs.length hd (by omega) h
  rw [List.drop_length] at v
  cases v
  exact b
end AM
/-! AMo: the machine's meanings without names and places. -/
namespace AM
open PySem PySem.Spec PyProof.Rows L2

def evsN : List ME → MEs
  | [] => fun _ h => .ok [] h
  | m :: ms => fun ρ h => (m ρ h).bind fun v h1 => (evsN ms ρ h1).bind fun vs h2 => .ok (v :: vs) h2
def andN : List ME → ME
  | [] => fun _ _ => .stk
  | [m] => m
  | m :: ms => andM m (andN ms)
def orN : List ME → ME
  | [] => fun _ _ => .stk
  | [m] => m
  | m :: ms => orM m (orN ms)
def partN : Option ME → AM.Env → AH → Res (Option Int)
  | none => fun _ h => .ok none h
  | some m => fun ρ h => (m ρ h).bind fun v h1 => match v with
    | .int i => .ok (some i) h1
    | _ => .stk
def walkN (m : ME) : AM.Env → AH → Res (List AV) := fun ρ h => (m ρ h).bind itemsR
def rangeN (ms : List ME) : AM.Env → AH → Res (List AV) := fun ρ h => (evsN ms ρ h).bind rangeR
def enumN (ms : List ME) : AM.Env → AH → Res (List AV) := fun ρ h => (evsN ms ρ h).bind enumR
def asgN (i : Nat) : AV → AM.Env → Option AM.Env := fun v ρ => some (ρ.set i (some v))
def asgsN : List (AV → AM.Env → Option AM.Env) → List AV → AM.Env → Option AM.Env
  | [], [], ρ => some ρ
  | e :: es, v :: vs, ρ => (e v ρ).bind fun ρ1 => asgsN es vs ρ1
  | _, _, _ => none
def asgT (es : List (AV → AM.Env → Option AM.Env)) : AV → AM.Env → Option AM.Env := fun v ρ => match v with
  | .tup xs => asgsN es xs ρ
  | _ => none
def allT : AM.Env → AH → Res Bool := fun _ h => .ok true h
def compN (it : AM.Env → AH → Res (List AV)) (asg : AV → AM.Env → Option AM.Env) (test : AM.Env → AH → Res Bool) (elt : ME) (own : List Nat) : ME := fun ρ h =>
  (it ρ h).bind fun xs h1 => (compL asg test elt (wipeA ρ own) xs [] h1).bind fun ys h2 => .ok (.lst ys) h2
def dicN : ME := fun _ h => .ok (.dic [] []) h
/-! ### statements -/
abbrev MS := AM.Env → AH → SR
def blkN : List MS → MS
  | [], ρ, h => .nx ρ h
  | s :: r, ρ, h => (s ρ h).seq (blkN r)
def retN (m : ME) : MS := fun ρ h => exM (m ρ h) ρ fun v h1 => .rt v h1
def retN0 : MS := fun _ h => .rt .non h
def exprN (m : ME) : MS := fun ρ h => exM (m ρ h) ρ fun _ h1 => .nx ρ h1
def ifN (c : AM.Env → AH → Res Bool) (a b : List MS) : MS := fun ρ h => exM (c ρ h) ρ fun t h1 => if t then blkN a ρ h1 else blkN b ρ h1
def forN (it : AM.Env → AH → Res (List AV)) (asg : AV → AM.Env → Option AM.Env) (body : List MS) : MS := fun ρ h => exM (it ρ h) ρ fun xs h1 => forL asg (blkN body) xs ρ h1
def forON (it : ME) (asg : AV → AM.Env → Option AM.Env) (body : List MS) : MS := forOM it asg (blkN body)
def setNN (i : Nat) (m : ME) : MS := fun ρ h => exM (m ρ h) ρ fun v h1 => .nx (ρ.set i (some v)) h1
abbrev TGN := AV → AM.Env → AH → SR
def tgVar (i : Nat) : TGN := fun v ρ h => .nx (ρ.set i (some v)) h
def tgSub (o i : ME) : TGN := fun v ρ h => exM (o ρ h) ρ fun ov h1 => exM (i ρ h1) ρ fun iv h2 => match setF ov iv v h2 with
  | some h3 => .nx ρ h3
  | none => .stk
def tgsN : List TGN → List AV → AM.Env → AH → SR
  | [], [], ρ, h => .nx ρ h
  | e :: es, v :: vs, ρ, h => (e v ρ h).seq (tgsN es vs)
  | _, _, _, _ => .stk
def tgTup (n : Nat) (es : List TGN) : TGN := fun v ρ h => match v with
  | .tup xs => if Nat.beq xs.length n && true then tgsN es xs ρ h else .stk
  | _ => .stk
def asgS (m : ME) (t : TGN) : MS := fun ρ h => exM (m ρ h) ρ fun v h1 => t v ρ h1
def augN (i : Nat) (op : Operator) (m : ME) : MS := fun ρ h => match ρ[i]? with
  | some (some v) => exM (m ρ h) ρ fun w h1 => (match augF op v w with
    | some z => .nx (ρ.set i (some z)) h1
    | none => .stk)
  | _ => .stk
def zipN (a b : ME) : AM.Env → AH → Res (List AV) := fun ρ h => (evsN [a, b] ρ h).bind zipR
def zipqN (ms : List ME) : AM.Env → AH → Res (List AV) := fun ρ h => (evsN ms ρ h).bind zipQ
def parN (ix : List Nat) (es : List ME) : MS := fun ρ h => exM (evsN es ρ h) ρ fun vs h1 => match setL ix vs ρ with
  | some ρ1 => .nx ρ1 h1
  | none => .stk
def raiseN (x f : Str) (m : ME) : MS := fun ρ h => exM (m ρ h) ρ fun v h1 => .exc x [(f, v)] ρ h1
def tryN (exm : Str → Option Bool) (b s : List MS) : MS := tryM exm (blkN b) (blkN s)
def passN : MS := fun ρ h => .nx ρ h
def bkN : MS := fun ρ h => .bk ρ h
def ctN : MS := fun ρ h => .ct ρ h
def fldN (fl xf : Str → Str → Bool) (f : Str) (m : ME) : ME := fun ρ h => (m ρ h).bind fun v h1 => match v with
  | .ref n => (match h1[n]? with
    | some (.ins c fs) => if fl c f then (match fs.lookup f with
      | some w => .ok w h1
      | none => .stk) else .stk
    | _ => .stk)
  | .xo c fs => if xf c f then (match fs.lookup f with
    | some w => .ok w h1
    | none => .stk) else .stk
  | _ => .stk
def tryAsN (exm : Str → Option Bool) (i j : Nat) (b : List MS) : MS := tryAsM exm i j (blkN b)
def lmtN (m : Lmt) (o e : ME) : ME := fun ρ h => (o ρ h).bind fun v h1 => match v with
  | .lst _ => (e ρ h1).bind fun w h2 => lmtF m v w [] h2
  | _ => .stk
def mthN (F : Str → OpN) (meth : Str → Str → Option (Str × Nat)) (m : Str) (o : ME) (n : Nat) (es : MEs) : ME := fun ρ h => (o ρ h).bind fun v h1 => match v with
  | .ref i => (match h1[i]? with
    | some (.ins c fs) => (match meth c m with
      | some kn => if Nat.beq n kn.2 && (fs.lookup m).isNone then (es ρ h1).bind fun vs h2 => F kn.1 (v :: vs) h2 else .stk
      | none => .stk)
    | _ => .stk)
  | _ => .stk
def compON (it : ME) (asg : AV → AM.Env → Option AM.Env) (test : AM.Env → AH → Res Bool) (elt : ME) (own : List Nat) : ME := fun ρ h => (it ρ h).bind fun v h1 => match v with
  | .ref k => (match h1[k]? with
    | some (.lst xs) => (compLD k asg test elt (wipeA ρ own) xs.length 0 [] h1).bind fun ys h2 => .ok (.lst ys) h2
    | _ => .stk)
  | _ => .stk
def stG (fl : Str → Str → Bool) (f : Str) (o v : AV) (h : AH) : Option AH := match o with
  | .ref n => (match h[n]? with
    | some (.ins c fs) => if fl c f = true ∧ fs.length < 1000 then some (h.set n (.ins c (putA f v fs))) else none
    | _ => none)
  | _ => none
def stN (fl : Str → Str → Bool) (f : Str) (o e : ME) : MS := fun ρ h => exM (e ρ h) ρ fun v h1 => exM (o ρ h1) ρ fun ov h2 => match stG fl f ov v h2 with
  | some h3 => .nx ρ h3
  | none => .stk
end AM
/-! AMp: loops and comprehensions of the machine. -/
namespace AM
open PySem PySem.Spec PyProof.Rows L2

/-- a comprehension whose elements change nothing -/
theorem compL_pure {asg : AV → AM.Env → Option AM.Env} {test : AM.Env → AH → Res Bool} {elt : ME} {ρ : AM.Env} {h : AH} (g : AV → AV) : ∀ (xs acc : List AV),
    (∀ a ∈ xs, ∃ ρ1, asg a ρ = some ρ1 ∧ test ρ1 h = .ok true h ∧ elt ρ1 h = .ok (g a) h) → acc.length + xs.length ≤ sizeLine → compL asg test elt ρ xs acc h = .ok (acc ++ xs.map g) h
  | [], acc, _, _ => by simp [compL]
  | a :: r, acc, hx, hl => by
    obtain ⟨ρ1, e1, e2, e3⟩ := hx a (List.mem_cons_self ..)
    have ih := compL_pure g r (acc ++ [g a]) (fun b hb => hx b (List.mem_cons_of_mem _ hb)) (by simp at hl ⊢; omega)
    unfold compL
    rw [e1]
    show (noX (test ρ1 h)).bind _ = _
    rw [e2]
    show ((noX (elt ρ1 h)).bind fun v h2 => if acc.length < sizeLine then compL asg test elt ρ r (acc ++ [v]) h2 else .stk) = _
    rw [e3]
    show (if acc.length < sizeLine then compL asg test elt ρ r (acc ++ [g a]) h else .stk) = _
    rw [if_pos (by simp at hl; omega), ih]
    simp
/-- a comprehension whose elements change the heap: I of the heap, P of the elements -/
theorem compL_inv {asg : AV → AM.Env → Option AM.Env} {test : AM.Env → AH → Res Bool} {elt : ME} {ρ : AM.Env} (I : AH → Prop) (P : AV → Prop) : ∀ (xs acc : List AV) (h : AH),
    (∀ a ∈ xs, ∀ h, I h → ∃ ρ1 v h', asg a ρ = some ρ1 ∧ test ρ1 h = .ok true h ∧ elt ρ1 h = .ok v h' ∧ I h' ∧ P v) → I h → (∀ v ∈ acc, P v) → acc.length + xs.length ≤ sizeLine →
      ∃ ys h', compL asg test elt ρ xs acc h = .ok ys h' ∧ I h' ∧ (∀ v ∈ ys, P v) ∧ ys.length = acc.length + xs.length
  | [], acc, h, _, hI, hP, _ => ⟨acc, h, rfl, hI, hP, by simp⟩
  | a :: r, acc, h, hx, hI, hP, hl => by
    obtain ⟨ρ1, v, h1, e1, e2, e3, i1, p1⟩ := hx a (List.mem_cons_self ..) h hI
    obtain ⟨ys, h', e, i2, p2, l2⟩ := compL_inv I P r (acc ++ [v]) h1 (fun b hb => hx b (List.mem_cons_of_mem _ hb)) i1 (fun z hz => by
      rcases List.mem_append.mp hz with q | q
      · exact hP z q
      · rw [List.mem_singleton.mp q]; exact p1) (by simp at hl ⊢; omega)
    refine ⟨ys, h', ?_, i2, p2, by simp at l2 ⊢; omega⟩
    unfold compL
    rw [e1]
    show (noX (test ρ1 h)).bind _ = _
    rw [e2]
    show ((noX (elt ρ1 h)).bind fun v h2 => if acc.length < sizeLine then compL asg test elt ρ r (acc ++ [v]) h2 else .stk) = _
    rw [e3]
    show (if acc.length < sizeLine then compL asg test elt ρ r (acc ++ [v]) h1 else .stk) = _
    rw [if_pos (by simp at hl; omega), e]
/-- a for whose turns end behind the body: I by the turn -/
theorem forL_inv {asg : AV → AM.Env → Option AM.Env} {body : MS} (I : Nat → AM.Env → AH → Prop) : ∀ (xs : List AV) (i : Nat) (ρ : AM.Env) (h : AH),
    (∀ (j : Nat) (a : AV), xs[j]? = some a → ∀ ρ h, I (i + j) ρ h → ∃ ρ1 ρ2 h2, asg a ρ = some ρ1 ∧ body ρ1 h = .nx ρ2 h2 ∧ I (i + j + 1) ρ2 h2) → I i ρ h → ∃ ρ' h', forL asg body xs ρ h = .nx ρ' h' ∧ I (i + xs.length) ρ' h'
  | [], i, ρ, h, _, hI => ⟨ρ, h, rfl, by simpa using hI⟩
  | a :: r, i, ρ, h, hx, hI => by
    obtain ⟨ρ1, ρ2, h2, e1, e2, i2⟩ := hx 0 a rfl ρ h (by simpa using hI)
    obtain ⟨ρ', h', e, i3⟩ := forL_inv I r (i + 1) ρ2 h2 (fun j b hb ρ h hI => by
      have := hx (j + 1) b (by simpa using hb) ρ h (by rw [show i + (j + 1) = i + 1 + j by omega]; exact hI)
      rw [show i + (j + 1) + 1 = i + 1 + j + 1 by omega] at this
      exact this) (by simpa using i2)
    refine ⟨ρ', h', ?_, by rw [List.length_cons, show i + (r.length + 1) = i + 1 + r.length by omega]; exact i3⟩
    unfold forL
    rw [e1]
    show forS (body ρ1 h) (forL asg body r) = _
    rw [e2]
    exact e
theorem forL_all {asg : AV → AM.Env → Option AM.Env} {body : MS} (I : AM.Env → AH → Prop) (xs : List AV) (ρ : AM.Env) (h : AH) (hx : ∀ a ∈ xs, ∀ ρ h, I ρ h → ∃ ρ1 ρ2 h2, asg a ρ = some ρ1 ∧ body ρ1 h = .nx ρ2 h2 ∧ I ρ2 h2) (hI : I ρ h) : ∃ ρ' h', forL asg body xs ρ h = .nx ρ' h' ∧ I ρ' h' := by
  obtain ⟨ρ', h', e, i⟩ := forL_inv (fun _ => I) xs 0 ρ h (fun j a ha => hx a (List.mem_of_getElem? ha)) hI
  exact ⟨ρ', h', e, i⟩
/-! ### step by step -/
section
variable {ρ : AM.Env} {h h1 h2 h3 : AH} {v w z : AV} {vs : List AV} {a b c m : ME} {es : MEs} {ms : List ME} {f : Op2} {r : Res AV} {i : Nat}
theorem x_slot (e : ρ[i]? = some (some v)) : slotM i ρ h = .ok v h := by unfold slotM; rw [e]
theorem x_ret : retM v ρ h = .ok v h := rfl
theorem x_nil : evsN [] ρ h = .ok [] h := rfl
theorem x_cons (e1 : m ρ h = .ok v h1) (e2 : evsN ms ρ h1 = .ok vs h2) : evsN (m :: ms) ρ h = .ok (v :: vs) h2 := by
  show (m ρ h).bind _ = _
  rw [e1]
  show (evsN ms ρ h1).bind _ = _
  rw [e2]
  rfl
theorem x_one (e1 : m ρ h = .ok v h1) : evsN [m] ρ h = .ok [v] h1 := x_cons e1 x_nil
theorem x_two {m2 : ME} (e1 : m ρ h = .ok v h1) (e2 : m2 ρ h1 = .ok w h2) : evsN [m, m2] ρ h = .ok [v, w] h2 := x_cons e1 (x_one e2)
theorem x_call {g : OpN} (e : es ρ h = .ok vs h1) (e2 : g vs h1 = r) : callM g es ρ h = r := by
  unfold callM
  rw [e]
  exact e2
theorem x_callK {g : OpN} {ks : MEs} {zs : List AV} {ord : List Nat} (e : es ρ h = .ok vs h1) (e1 : ks ρ h1 = .ok zs h2) (e2 : g (pick ord (vs ++ zs)) h2 = r) : callKM g ord es ks ρ h = r := by
  unfold callKM
  rw [e]
  show (ks ρ h1).bind _ = _
  rw [e1]
  exact e2
theorem x_bin (e1 : a ρ h = .ok v h1) (e2 : b ρ h1 = .ok w h2) (e3 : f v w h2 = r) : bin2 a b f ρ h = r := by
  unfold bin2
  rw [e1]
  show (b ρ h1).bind _ = _
  rw [e2]
  exact e3
theorem x_andT (e1 : a ρ h = .ok v h1) (t : truA v h1 = some true) (e2 : b ρ h1 = r) : andM a b ρ h = r := by
  unfold AM.andM
  rw [e1]
  show ((truR v h1).bind _) = _
  unfold truR
  rw [t]
  exact e2
theorem x_andF (e1 : a ρ h = .ok v h1) (t : truA v h1 = some false) : andM a b ρ h = .ok v h1 := by
  unfold AM.andM
  rw [e1]
  show ((truR v h1).bind _) = _
  unfold truR
  rw [t]
  rfl
theorem x_orT (e1 : a ρ h = .ok v h1) (t : truA v h1 = some true) : orM a b ρ h = .ok v h1 := by
  unfold AM.orM
  rw [e1]
  show ((truR v h1).bind _) = _
  unfold truR
  rw [t]
  rfl
theorem x_orF (e1 : a ρ h = .ok v h1) (t : truA v h1 = some false) (e2 : b ρ h1 = r) : orM a b ρ h = r := by
  unfold AM.orM
  rw [e1]
  show ((truR v h1).bind _) = _
  unfold truR
  rw [t]
  exact e2
theorem x_not {t : Bool} (e1 : a ρ h = .ok v h1) (t1 : truA v h1 = some t) : notM a ρ h = .ok (.bl (!t)) h1 := by
  unfold AM.notM
  rw [e1]
  show ((truR v h1).bind _) = _
  unfold truR
  rw [t1]
  rfl
theorem x_tst {t : Bool} (e1 : a ρ h = .ok v h1) (t1 : truA v h1 = some t) : tstM a ρ h = .ok t h1 := by
  unfold tstM
  rw [e1]
  show truR v h1 = _
  unfold truR
  rw [t1]
theorem x_chainT {g : Op2} (e1 : a ρ h = .ok v h1) (e2 : b ρ h1 = .ok w h2) (e3 : f v w h2 = .ok (.bl true) h2) (e4 : c ρ h2 = .ok z h3) (e5 : g w z h3 = r) : chainM a b c f g ρ h = r := by
  unfold chainM
  rw [e1]
  show (b ρ h1).bind _ = _
  rw [e2]
  show (f v w h2).bind _ = _
  rw [e3]
  show (c ρ h2).bind _ = _
  rw [e4]
  exact e5
theorem x_chainF {g : Op2} (e1 : a ρ h = .ok v h1) (e2 : b ρ h1 = .ok w h2) (e3 : f v w h2 = .ok (.bl false) h2) : chainM a b c f g ρ h = .ok (.bl false) h2 := by
  unfold chainM
  rw [e1]
  show (b ρ h1).bind _ = _
  rw [e2]
  show (f v w h2).bind _ = _
  rw [e3]
  rfl
theorem x_ite {t : AM.Env → AH → Res Bool} {k : Bool} (e1 : t ρ h = .ok k h1) (e2 : (if k then a ρ h1 else b ρ h1) = r) : iteM t a b ρ h = r := by
  unfold iteM
  rw [e1]
  exact e2
theorem x_tup (e : es ρ h = .ok vs h1) (l : lenOk vs.length = true) : tupM es ρ h = .ok (.tup vs) h1 := by
  unfold tupM
  rw [e]
  show (if lenOk vs.length then _ else _) = _
  rw [if_pos l]
theorem x_lst (e : es ρ h = .ok vs h1) (l : lenOk vs.length = true) : lstM es ρ h = .ok (.lst vs) h1 := by
  unfold lstM
  rw [e]
  show (if lenOk vs.length then _ else _) = _
  rw [if_pos l]
theorem x_new (e : es ρ h = .ok vs h1) (l : lenOk vs.length = true) : newM es ρ h = .ok (.ref h1.length) (h1 ++ [.lst vs]) := by
  unfold newM
  rw [e]
  show (if lenOk vs.length then _ else _) = _
  rw [if_pos l]
theorem x_part0 : partN none ρ h = .ok none h := rfl
theorem x_part {j : Int} (e : m ρ h = .ok (.int j) h1) : partN (some m) ρ h = .ok (some j) h1 := by
  show (m ρ h).bind _ = _
  rw [e]
  rfl
theorem x_slice {lo hi : AM.Env → AH → Res (Option Int)} {l u : Option Int} (e1 : m ρ h = .ok v h1) (e2 : lo ρ h1 = .ok l h2) (e3 : hi ρ h2 = .ok u h3) (e4 : sliceF v l u h3 = r) : sliceM m lo hi ρ h = r := by
  unfold sliceM
  rw [e1]
  show (lo ρ h1).bind _ = _
  rw [e2]
  show (hi ρ h2).bind _ = _
  rw [e3]
  exact e4
theorem x_walk {xs : List AV} (e : m ρ h = .ok v h1) (e2 : itemsOf v = some xs) : walkN m ρ h = .ok xs h1 := by
  unfold walkN
  rw [e]
  show itemsR v h1 = _
  unfold itemsR
  rw [e2]
theorem x_range {xs : List AV} (e : evsN ms ρ h = .ok vs h1) (e2 : rangeR vs h1 = .ok xs h1) : rangeN ms ρ h = .ok xs h1 := by
  unfold rangeN
  rw [e]
  exact e2
theorem x_comp {it : AM.Env → AH → Res (List AV)} {asg : AV → AM.Env → Option AM.Env} {test : AM.Env → AH → Res Bool} {own : List Nat} {xs ys : List AV} (e1 : it ρ h = .ok xs h1) (e2 : compL asg test m (wipeA ρ own) xs [] h1 = .ok ys h2) :
    compN it asg test m own ρ h = .ok (.lst ys) h2 := by
  unfold compN
  rw [e1]
  show (compL _ _ _ _ _ _ _).bind _ = _
  rw [e2]
  rfl
/-! statements -/
variable {ss : List MS} {R : SR} {ρ1 : AM.Env}
theorem s_set (e : m ρ h = .ok v h1) (k : blkN ss (ρ.set i (some v)) h1 = R) : blkN (setNN i m :: ss) ρ h = R := by
  show (exM (m ρ h) ρ _).seq _ = _
  rw [e]
  exact k
theorem s_expr (e : m ρ h = .ok v h1) (k : blkN ss ρ h1 = R) : blkN (exprN m :: ss) ρ h = R := by
  show (exM (m ρ h) ρ _).seq _ = _
  rw [e]
  exact k
theorem s_ret (e : m ρ h = .ok v h1) : blkN (retN m :: ss) ρ h = .rt v h1 := by
  show (exM (m ρ h) ρ _).seq _ = _
  rw [e]
  rfl
theorem s_asg {t : TGN} (e : m ρ h = .ok v h1) (e2 : t v ρ h1 = .nx ρ1 h2) (k : blkN ss ρ1 h2 = R) : blkN (asgS m t :: ss) ρ h = R := by
  show (exM (m ρ h) ρ _).seq _ = _
  rw [e]
  show (t v ρ h1).seq _ = _
  rw [e2]
  exact k
theorem s_if {t : AM.Env → AH → Res Bool} {k : Bool} {p q : List MS} (e : t ρ h = .ok k h1) (n : ((if k then blkN p ρ h1 else blkN q ρ h1).seq (blkN ss)) = R) : blkN (ifN t p q :: ss) ρ h = R := by
  show (exM (t ρ h) ρ _).seq _ = _
  rw [e]
  exact n
theorem s_ifF {t : AM.Env → AH → Res Bool} {p : List MS} (e : t ρ h = .ok false h1) (n : blkN ss ρ h1 = R) : blkN (ifN t p [] :: ss) ρ h = R := s_if e n
theorem s_ifT {t : AM.Env → AH → Res Bool} {p q : List MS} {R' : SR} (e : t ρ h = .ok true h1) (n : blkN p ρ h1 = R') (k : R'.seq (blkN ss) = R) : blkN (ifN t p q :: ss) ρ h = R := s_if e (by
  show (blkN p ρ h1).seq _ = _
  rw [n]
  exact k)
theorem s_for {it : AM.Env → AH → Res (List AV)} {asg : AV → AM.Env → Option AM.Env} {body : List MS} {xs : List AV} (e : it ρ h = .ok xs h1) (e2 : forL asg (blkN body) xs ρ h1 = .nx ρ1 h2) (k : blkN ss ρ1 h2 = R) : blkN (forN it asg body :: ss) ρ h = R := by
  show (exM (it ρ h) ρ _).seq _ = _
  rw [e]
  show (forL _ _ _ _ _).seq _ = _
  rw [e2]
  exact k
theorem s_end : blkN [] ρ h = .nx ρ h := rfl
end
end AM
/-! AMw: what is wanted behind the machine's runs, backwards. -/
namespace AM
open PySem PySem.Spec PyProof.Rows L2

abbrev XE_ := Str → List (Str × AV) → AH → Prop
abbrev NE := AM.Env → AH → Prop
abbrev XS_ := Str → List (Str × AV) → AM.Env → AH → Prop
def noE : XE_ := fun _ _ _ => False
@[irreducible] def wp {α : Type} (r : Res α) (E : XE_) (Q : α → AH → Prop) : Prop := match r with
  | .ok a h => Q a h
  | .exc c fs h => E c fs h
  | .stk => False
@[irreducible] def ws (r : SR) (N : NE) (R : AV → AH → Prop) (B C : NE) (X : XS_) : Prop := match r with
  | .nx ρ h => N ρ h
  | .rt v h => R v h
  | .bk ρ h => B ρ h
  | .ct ρ h => C ρ h
  | .exc c fs ρ h => X c fs ρ h
  | .stk => False
section
variable {α : Type} {E : XE_} {Q : α → AH → Prop} {h : AH} {a : α} {c : Str} {fs : List (Str × AV)} {N : NE} {R : AV → AH → Prop} {B C : NE} {X : XS_} {ρ : AM.Env} {v : AV}
theorem wpOk : wp (.ok a h) E Q = Q a h := by unfold wp; rfl
theorem wpExc : wp (.exc c fs h) E Q = E c fs h := by unfold wp; rfl
theorem wpStk : wp .stk E Q = False := by unfold wp; rfl
theorem wsNx : ws (.nx ρ h) N R B C X = N ρ h := by unfold ws; rfl
theorem wsRt : ws (.rt v h) N R B C X = R v h := by unfold ws; rfl
theorem wsBk : ws (.bk ρ h) N R B C X = B ρ h := by unfold ws; rfl
theorem wsCt : ws (.ct ρ h) N R B C X = C ρ h := by unfold ws; rfl
theorem wsExc : ws (.exc c fs ρ h) N R B C X = X c fs ρ h := by unfold ws; rfl
theorem wsStk : ws .stk N R B C X = False := by unfold ws; rfl
end
/-- a test's two ways -/
def Br (t : Bool) (A B : Prop) : Prop := (t = true → A) ∧ (t = false → B)
theorem br_t {A B : Prop} (k : A) : Br true A B := ⟨fun _ => k, fun z => by cases z⟩
theorem br_f {A B : Prop} (k : B) : Br false A B := ⟨fun z => (by cases z), fun _ => k⟩
theorem br_i {t : Bool} {A B : Prop} (a : t = true → A) (b : t = false → B) : Br t A B := ⟨a, b⟩
theorem br_not {t : Bool} {A B : Prop} (k : Br t B A) : Br (!t) A B := by
  cases t
  · exact br_t (k.2 rfl)
  · exact br_f (k.1 rfl)
theorem br_dec {P : Prop} [Decidable P] {A B : Prop} (a : P → A) (b : ¬ P → B) : Br (decide P) A B := ⟨fun z => a (of_decide_eq_true z), fun z => b (of_decide_eq_false z)⟩
theorem br_tt {b : Bool} {A B : Prop} (e : b = true) (k : A) : Br b A B := by subst e; exact br_t k
theorem br_ff {b : Bool} {A B : Prop} (e : b = false) (k : B) : Br b A B := by subst e; exact br_f k
theorem br_c {b : Bool} {A B : Prop} (p : b = true → A) (q : b = false → B) : Br b A B := ⟨p, q⟩
/-- values of one kind -/
def IsI (v : AV) (K : Int → Prop) : Prop := ∃ i, v = .int i ∧ K i
def IsS (v : AV) (K : Str → Prop) : Prop := ∃ z, v = .str z ∧ K z
def IsB (v : AV) (K : Bool → Prop) : Prop := ∃ b, v = .bl b ∧ K b
def IsN (v : AV) (K : Prop) : Prop := v = .non ∧ K
def Itm (v : AV) (K : List AV → Prop) : Prop := ∃ xs, itemsOf v = some xs ∧ K xs
def LenK (n : Nat) (K : Prop) : Prop := lenOk n = true ∧ K
def SomeK {α : Type} (o : Option α) (K : α → Prop) : Prop := ∃ a, o = some a ∧ K a
theorem isI {i : Int} {K : Int → Prop} (k : K i) : IsI (.int i) K := ⟨i, rfl, k⟩
theorem isS {i : Str} {K : Str → Prop} (k : K i) : IsS (.str i) K := ⟨i, rfl, k⟩
theorem isB {i : Bool} {K : Bool → Prop} (k : K i) : IsB (.bl i) K := ⟨i, rfl, k⟩
theorem isN {K : Prop} (k : K) : IsN .non K := ⟨rfl, k⟩
theorem itm {v : AV} {xs : List AV} {K : List AV → Prop} (e : itemsOf v = some xs) (k : K xs) : Itm v K := ⟨xs, e, k⟩
theorem lenK {n : Nat} {K : Prop} (e : lenOk n = true) (k : K) : LenK n K := ⟨e, k⟩
theorem someK {α : Type} {o : Option α} {a : α} {K : α → Prop} (e : o = some a) (k : K a) : SomeK o K := ⟨a, e, k⟩
/-- o is a list of the machine's own -/
def LstAt (v : AV) (h : AH) (K : Nat → Prop) : Prop := ∃ n, v = .ref n ∧ (∃ xs, h[n]? = some (.lst xs)) ∧ K n
theorem lstAt {n : Nat} {h : AH} {xs : List AV} {K : Nat → Prop} (e : h[n]? = some (.lst xs)) (k : K n) : LstAt (.ref n) h K := ⟨n, rfl, ⟨xs, e⟩, k⟩
def AppK (n : Nat) (h : AH) (K : List AV → Prop) : Prop := ∃ xs, h[n]? = some (.lst xs) ∧ xs.length < sizeLine ∧ K xs
theorem appK {n : Nat} {h : AH} {xs : List AV} {K : List AV → Prop} (e : h[n]? = some (.lst xs)) (l : xs.length < sizeLine) (k : K xs) : AppK n h K := ⟨xs, e, l, k⟩
def FldK (fl xf : Str → Str → Bool) (x : Str) (v : AV) (h : AH) (K : AV → Prop) : Prop := (∃ n c fs w, v = .ref n ∧ h[n]? = some (.ins c fs) ∧ fl c x = true ∧ fs.lookup x = some w ∧ K w) ∨ ∃ c fs w, v = .xo c fs ∧ xf c x = true ∧ fs.lookup x = some w ∧ K w
theorem fldK {fl xf : Str → Str → Bool} {x c : Str} {n : Nat} {h : AH} {fs : List (Str × AV)} {w : AV} {K : AV → Prop} (e : h[n]? = some (.ins c fs)) (e1 : fl c x = true) (e2 : fs.lookup x = some w) (k : K w) : FldK fl xf x (.ref n) h K := .inl ⟨n, c, fs, w, rfl, e, e1, e2, k⟩
theorem fldX {fl xf : Str → Str → Bool} {x c : Str} {h : AH} {fs : List (Str × AV)} {w : AV} {K : AV → Prop} (e1 : xf c x = true) (e2 : fs.lookup x = some w) (k : K w) : FldK fl xf x (.xo c fs) h K := .inr ⟨c, fs, w, rfl, e1, e2, k⟩
/-- an own method's key -/
def MthK (meth : Str → Str → Option (Str × Nat)) (m : Str) (n : Nat) (v : AV) (h : AH) (K : Str → Prop) : Prop := ∃ i c fs kn, v = .ref i ∧ h[i]? = some (.ins c fs) ∧ meth c m = some kn ∧ Nat.beq n kn.2 = true ∧ fs.lookup m = none ∧ K kn.1
theorem mthK {meth : Str → Str → Option (Str × Nat)} {m c : Str} {n i : Nat} {h : AH} {fs : List (Str × AV)} {kn : Str × Nat} {K : Str → Prop} (e : h[i]? = some (.ins c fs)) (e1 : meth c m = some kn) (e2 : Nat.beq n kn.2 = true) (e3 : fs.lookup m = none) (k : K kn.1) : MthK meth m n (.ref i) h K := ⟨i, c, fs, kn, rfl, e, e1, e2, e3, k⟩
def IsL (v : AV) (K : List AV → Prop) : Prop := ∃ xs, v = .lst xs ∧ K xs
theorem isL {xs : List AV} {K : List AV → Prop} (k : K xs) : IsL (.lst xs) K := ⟨xs, rfl, k⟩
def LstX (v : AV) (h : AH) (K : Nat → List AV → Prop) : Prop := ∃ n xs, v = .ref n ∧ h[n]? = some (.lst xs) ∧ K n xs
theorem lstX {n : Nat} {h : AH} {xs : List AV} {K : Nat → List AV → Prop} (e : h[n]? = some (.lst xs)) (k : K n xs) : LstX (.ref n) h K := ⟨n, xs, rfl, e, k⟩
def LtK (i n : Nat) (K : Prop) : Prop := Nat.blt i n = true ∧ K
theorem ltK {i n : Nat} {K : Prop} (e : Nat.blt i n = true) (k : K) : LtK i n K := ⟨e, k⟩
def StK (fl : Str → Str → Bool) (x : Str) (v : AV) (h : AH) (K : Nat → Str → List (Str × AV) → Prop) : Prop := ∃ n c fs, v = .ref n ∧ h[n]? = some (.ins c fs) ∧ fl c x = true ∧ fs.length < 1000 ∧ K n c fs
theorem stK {fl : Str → Str → Bool} {x c : Str} {n : Nat} {h : AH} {fs : List (Str × AV)} {K : Nat → Str → List (Str × AV) → Prop} (e : h[n]? = some (.ins c fs)) (e1 : fl c x = true) (e2 : fs.length < 1000) (k : K n c fs) : StK fl x (.ref n) h K := ⟨n, c, fs, rfl, e, e1, e2, k⟩
section
variable {α β : Type} {r : Res α} {f : α → AH → Res β} {E E' : XE_} {Q Q' : α → AH → Prop} {Q2 : β → AH → Prop} {h h1 : AH} {v : α}
theorem wp_ok (k : Q v h) : wp (.ok v h) E Q := by rw [wpOk]; exact k
theorem wp_eq (e : r = .ok v h) (k : Q v h) : wp r E Q := by rw [e, wpOk]; exact k
theorem wp_exc {c : Str} {fs : List (Str × AV)} (e : r = .exc c fs h) (k : E c fs h) : wp r E Q := by rw [e, wpExc]; exact k
theorem wp_bind (k : wp r E fun a h => wp (f a h) E Q2) : wp (r.bind f) E Q2 := by
  cases r with
  | ok a h => rw [wpOk] at k; exact k
  | exc c fs h => rw [wpExc] at k; exact wp_exc rfl k
  | stk => rw [wpStk] at k; exact k.elim
theorem wp_mono (k : wp r E Q) (i : ∀ a h, Q a h → Q' a h) (j : ∀ c fs h, E c fs h → E' c fs h) : wp r E' Q' := by
  cases r with
  | ok a h => rw [wpOk] at k ⊢; exact i _ _ k
  | exc c fs h => rw [wpExc] at k ⊢; exact j _ _ _ k
  | stk => rw [wpStk] at k; exact k.elim
theorem wp_map {γ : Type} {g : α → γ} {QG : γ → AH → Prop} (k : wp r E fun a h => QG (g a) h) : wp (r.bind fun a h => .ok (g a) h) E QG := wp_bind (wp_mono k (fun _ _ z => wp_ok z) fun _ _ _ z => z)
theorem wp_imp (k : wp r noE Q) (i : ∀ a h, Q a h → Q' a h) : wp r E Q' := wp_mono k i fun _ _ _ z => z.elim
theorem wp_inv (k : wp r noE Q) : ∃ a h, r = .ok a h ∧ Q a h := by
  cases r with
  | ok a h => rw [wpOk] at k; exact ⟨a, h, rfl, k⟩
  | exc c fs h => rw [wpExc] at k; exact k.elim
  | stk => rw [wpStk] at k; exact k.elim
theorem wp_noX (k : wp r noE Q) : wp (noX r) E Q := by
  obtain ⟨a, h, rfl, q⟩ := wp_inv k
  exact wp_ok q
end
section
variable {E : XE_} {Q : AV → AH → Prop} {QL : List AV → AH → Prop} {QB : Bool → AH → Prop} {QI : Option Int → AH → Prop} {ρ : AM.Env} {h : AH} {v : AV} {a b c m : ME} {es : MEs} {ms : List ME} {f g : Op2} {i : Nat} {t : AM.Env → AH → Res Bool}
theorem w_slot (e : ρ[i]? = some (some v)) (k : Q v h) : wp (slotM i ρ h) E Q := wp_eq (by unfold slotM; rw [e]) k
theorem w_ret (k : Q v h) : wp (retM v ρ h) E Q := wp_ok k
theorem w_nil (k : QL [] h) : wp (evsN [] ρ h) E QL := wp_ok k
theorem w_cons (k : wp (m ρ h) E fun v h1 => wp (evsN ms ρ h1) E fun vs h2 => QL (v :: vs) h2) : wp (evsN (m :: ms) ρ h) E QL :=
  wp_bind (wp_mono k (fun _ _ z => wp_map z) fun _ _ _ z => z)
theorem w_call {o : OpN} (k : wp (es ρ h) E fun vs h1 => wp (o vs h1) E Q) : wp (callM o es ρ h) E Q := wp_bind k
theorem w_callK {o : OpN} {ks : MEs} {ord : List Nat} (k : wp (es ρ h) E fun vs h1 => wp (ks ρ h1) E fun zs h2 => wp (o (pick ord (vs ++ zs)) h2) E Q) : wp (callKM o ord es ks ρ h) E Q :=
  wp_bind (wp_mono k (fun _ _ z => wp_bind z) fun _ _ _ z => z)
theorem w_bin (k : wp (a ρ h) E fun v h1 => wp (b ρ h1) E fun w h2 => wp (f v w h2) E Q) : wp (bin2 a b f ρ h) E Q := wp_bind (wp_mono k (fun _ _ z => wp_bind z) fun _ _ _ z => z)
theorem w_tru {t : Bool} (e : truA v h = some t) (k : QB t h) : wp (truR v h) E QB := wp_eq (by unfold truR; rw [e]) k
theorem w_tst (k : wp (m ρ h) E fun v h1 => wp (truR v h1) E QB) : wp (tstM m ρ h) E QB := wp_bind k
theorem w_not (k : wp (m ρ h) E fun v h1 => wp (truR v h1) E fun b h2 => Q (.bl (!b)) h2) : wp (notM m ρ h) E Q := wp_bind (wp_mono k (fun _ _ z => wp_map z) fun _ _ _ z => z)
theorem w_and (k : wp (a ρ h) E fun v h1 => wp (truR v h1) E fun t h2 => Br t (wp (b ρ h2) E Q) (Q v h2)) : wp (AM.andM a b ρ h) E Q :=
  wp_bind (wp_mono k (fun v h1 z => wp_bind (wp_mono z (fun t h2 q => by cases t; exact wp_ok (q.2 rfl); exact q.1 rfl) fun _ _ _ z => z)) fun _ _ _ z => z)
theorem w_or (k : wp (a ρ h) E fun v h1 => wp (truR v h1) E fun t h2 => Br t (Q v h2) (wp (b ρ h2) E Q)) : wp (AM.orM a b ρ h) E Q :=
  wp_bind (wp_mono k (fun v h1 z => wp_bind (wp_mono z (fun t h2 q => by cases t; exact q.2 rfl; exact wp_ok (q.1 rfl)) fun _ _ _ z => z)) fun _ _ _ z => z)
theorem w_andN {m2 : ME} (k : wp (AM.andM m (andN (m2 :: ms)) ρ h) E Q) : wp (andN (m :: m2 :: ms) ρ h) E Q := k
theorem w_and1 (k : wp (m ρ h) E Q) : wp (andN [m] ρ h) E Q := k
theorem w_orN {m2 : ME} (k : wp (AM.orM m (orN (m2 :: ms)) ρ h) E Q) : wp (orN (m :: m2 :: ms) ρ h) E Q := k
theorem w_or1 (k : wp (m ρ h) E Q) : wp (orN [m] ρ h) E Q := k
theorem w_chain (k : wp (a ρ h) E fun v h1 => wp (b ρ h1) E fun w h2 => wp (f v w h2) E fun t h3 => IsB t fun z => Br z (wp (c ρ h3) E fun y h4 => wp (g w y h4) E Q) (Q (.bl false) h3)) : wp (chainM a b c f g ρ h) E Q := by
  refine wp_bind (wp_mono k (fun v h1 z => wp_bind (wp_mono z (fun w h2 z => wp_bind (wp_mono z (fun t h3 q => ?_) fun _ _ _ z => z)) fun _ _ _ z => z)) fun _ _ _ z => z)
  obtain ⟨z, rfl, q⟩ := q
  cases z
  · exact wp_ok (q.2 rfl)
  · exact wp_bind (q.1 rfl)
theorem w_ite (k : wp (t ρ h) E fun z h1 => Br z (wp (a ρ h1) E Q) (wp (b ρ h1) E Q)) : wp (iteM t a b ρ h) E Q :=
  wp_bind (wp_mono k (fun z h1 q => by cases z; exact q.2 rfl; exact q.1 rfl) fun _ _ _ z => z)
theorem w_tup (k : wp (es ρ h) E fun vs h1 => LenK vs.length (Q (.tup vs) h1)) : wp (tupM es ρ h) E Q := wp_bind (wp_mono k (fun vs h1 q => by
  show wp (if lenOk vs.length then _ else _) _ _
  rw [if_pos q.1]
  exact wp_ok q.2) fun _ _ _ z => z)
theorem w_lst (k : wp (es ρ h) E fun vs h1 => LenK vs.length (Q (.lst vs) h1)) : wp (lstM es ρ h) E Q := wp_bind (wp_mono k (fun vs h1 q => by
  show wp (if lenOk vs.length then _ else _) _ _
  rw [if_pos q.1]
  exact wp_ok q.2) fun _ _ _ z => z)
theorem w_new (k : wp (es ρ h) E fun vs h1 => LenK vs.length (Q (.ref h1.length) (h1 ++ [.lst vs]))) : wp (newM es ρ h) E Q := wp_bind (wp_mono k (fun vs h1 q => by
  show wp (if lenOk vs.length then _ else _) _ _
  rw [if_pos q.1]
  exact wp_ok q.2) fun _ _ _ z => z)
theorem w_neg (k : wp (m ρ h) E fun v h1 => IsI v fun i => Q (.int (-i)) h1) : wp (negM m ρ h) E Q := wp_bind (wp_mono k (fun v h1 ⟨i, e, q⟩ => by rw [e]; exact wp_ok q) fun _ _ _ z => z)
theorem w_part0 (k : QI none h) : wp (partN none ρ h) E QI := wp_ok k
theorem w_part (k : wp (m ρ h) E fun v h1 => IsI v fun i => QI (some i) h1) : wp (partN (some m) ρ h) E QI := wp_bind (wp_mono k (fun v h1 ⟨i, e, q⟩ => by rw [e]; exact wp_ok q) fun _ _ _ z => z)
theorem w_slice {lo hi : AM.Env → AH → Res (Option Int)} (k : wp (m ρ h) E fun v h1 => wp (lo ρ h1) E fun l h2 => wp (hi ρ h2) E fun u h3 => wp (sliceF v l u h3) E Q) : wp (sliceM m lo hi ρ h) E Q :=
  wp_bind (wp_mono k (fun _ _ z => wp_bind (wp_mono z (fun _ _ z => wp_bind z) fun _ _ _ z => z)) fun _ _ _ z => z)
theorem w_rev (k : wp (m ρ h) E fun v h1 => wp (revF v h1) E Q) : wp (revM m ρ h) E Q := wp_bind k
theorem w_sset (k : wp (m ρ h) E fun v h1 => wp (sortSetF v h1) E Q) : wp (sortSetM m ρ h) E Q := wp_bind k
theorem w_dic (k : Q (.dic [] []) h) : wp (dicN ρ h) E Q := wp_ok k
theorem w_walk (k : wp (m ρ h) E fun v h1 => Itm v fun xs => QL xs h1) : wp (walkN m ρ h) E QL := wp_bind (wp_mono k (fun v h1 ⟨xs, e, q⟩ => by
  show wp (itemsR v h1) _ _
  unfold itemsR
  rw [e]
  exact wp_ok q) fun _ _ _ z => z)
theorem w_range (k : wp (evsN ms ρ h) E fun vs h1 => wp (rangeR vs h1) E QL) : wp (rangeN ms ρ h) E QL := wp_bind k
theorem w_enum (k : wp (evsN ms ρ h) E fun vs h1 => wp (enumR vs h1) E QL) : wp (enumN ms ρ h) E QL := wp_bind k
theorem w_zip (k : wp (evsN [a, b] ρ h) E fun vs h1 => wp (zipR vs h1) E QL) : wp (zipN a b ρ h) E QL := wp_bind k
theorem w_zipq (k : wp (evsN ms ρ h) E fun vs h1 => wp (zipQ vs h1) E QL) : wp (zipqN ms ρ h) E QL := wp_bind k
theorem w_comp {it : AM.Env → AH → Res (List AV)} {asg : AV → AM.Env → Option AM.Env} {test : AM.Env → AH → Res Bool} {own : List Nat} (k : wp (it ρ h) E fun xs h1 => wp (compL asg test m (wipeA ρ own) xs [] h1) E fun ys h2 => Q (.lst ys) h2) : wp (compN it asg test m own ρ h) E Q :=
  wp_bind (wp_mono k (fun _ _ z => wp_map z) fun _ _ _ z => z)
theorem w_smt0 {o : AV → OpN} (k : wp (m ρ h) E fun v h1 => IsS v fun z => wp (o (.str z) [] h1) E Q) : wp (smt0 o m ρ h) E Q := wp_bind (wp_mono k (fun v h1 ⟨z, e, q⟩ => by subst e; exact q) fun _ _ _ z => z)
theorem w_smt1 {o : AV → OpN} (k : wp (m ρ h) E fun v h1 => IsS v fun z => wp (a ρ h1) E fun w h2 => wp (o (.str z) [w] h2) E Q) : wp (smt1 o m a ρ h) E Q := wp_bind (wp_mono k (fun v h1 ⟨z, e, q⟩ => by subst e; exact wp_bind q) fun _ _ _ z => z)
theorem w_app (k : wp (a ρ h) E fun v h1 => LstAt v h1 fun n => wp (b ρ h1) E fun w h2 => AppK n h2 fun xs => Q .non (h2.set n (.lst (xs ++ [w])))) : wp (appM a b ρ h) E Q :=
  wp_bind (wp_mono k (fun v h1 ⟨n, e, ⟨ys, e1⟩, q⟩ => by
    subst e
    show wp (match h1[n]? with | some (.lst _) => _ | _ => _) _ _
    rw [e1]
    refine wp_bind (wp_mono q (fun w h2 ⟨xs, e2, l, q⟩ => ?_) fun _ _ _ z => z)
    show wp (match h2[n]? with | some (.lst xs) => _ | _ => _) _ _
    rw [e2]
    show wp (if xs.length < sizeLine then _ else _) _ _
    rw [if_pos l]
    exact wp_ok q) fun _ _ _ z => z)
theorem w_fld {fl xf : Str → Str → Bool} {x : Str} (k : wp (m ρ h) E fun v h1 => FldK fl xf x v h1 fun w => Q w h1) : wp (fldN fl xf x m ρ h) E Q :=
  wp_bind (wp_mono k (fun v h1 z => by
    rcases z with ⟨n, c, fs, w, e, e1, e2, e3, q⟩ | ⟨c, fs, w, e, e2, e3, q⟩
    · subst e
      show wp (match h1[n]? with | some (.ins c fs) => _ | _ => _) _ _
      rw [e1]
      show wp (if fl c x then _ else _) _ _
      rw [if_pos e2]
      show wp (match fs.lookup x with | some w => _ | none => _) _ _
      rw [e3]
      exact wp_ok q
    · subst e
      show wp (if xf c x then _ else _) _ _
      rw [if_pos e2]
      show wp (match fs.lookup x with | some w => _ | none => _) _ _
      rw [e3]
      exact wp_ok q) fun _ _ _ z => z)
theorem w_mth {F : Str → OpN} {meth : Str → Str → Option (Str × Nat)} {x : Str} {n : Nat} (k : wp (m ρ h) E fun v h1 => MthK meth x n v h1 fun key => wp (es ρ h1) E fun vs h2 => wp (F key (v :: vs) h2) E Q) : wp (mthN F meth x m n es ρ h) E Q :=
  wp_bind (wp_mono k (fun v h1 ⟨i, c, fs, kn, e, e1, e2, e3, e4, q⟩ => by
    subst e
    show wp (match h1[i]? with | some (.ins c fs) => _ | _ => _) _ _
    rw [e1]
    show wp (match meth c x with | some kn => _ | none => _) _ _
    rw [e2]
    show wp (if Nat.beq n kn.2 && (fs.lookup x).isNone then _ else _) _ _
    rw [if_pos (by rw [e3, e4]; rfl)]
    exact wp_bind q) fun _ _ _ z => z)
theorem w_lmt {l : Lmt} (k : wp (a ρ h) E fun v h1 => IsL v fun xs => wp (b ρ h1) E fun w h2 => wp (lmtF l (.lst xs) w [] h2) E Q) : wp (lmtN l a b ρ h) E Q :=
  wp_bind (wp_mono k (fun v h1 ⟨xs, e, q⟩ => by subst e; exact wp_bind q) fun _ _ _ z => z)
theorem w_callMK {o : OpN} {ks : MEs} {ord : List Nat} {dv : List AV} (k : wp (es ρ h) E fun vs h1 => wp (ks ρ h1) E fun zs h2 => wp (o (vs ++ pick ord (zs ++ dv)) h2) E Q) : wp (callMK o ord dv es ks ρ h) E Q :=
  wp_bind (wp_mono k (fun _ _ z => wp_bind z) fun _ _ _ z => z)
theorem w_compO {asg : AV → AM.Env → Option AM.Env} {test : AM.Env → AH → Res Bool} {own : List Nat} (k : wp (a ρ h) E fun v h1 => LstX v h1 fun n xs => wp (compLD n asg test m (wipeA ρ own) xs.length 0 [] h1) E fun ys h2 => Q (.lst ys) h2) : wp (compON a asg test m own ρ h) E Q :=
  wp_bind (wp_mono k (fun v h1 ⟨n, xs, e, e1, q⟩ => by
    subst e
    show wp (match h1[n]? with | some (.lst xs) => _ | _ => _) _ _
    rw [e1]
    exact wp_map q) fun _ _ _ z => z)
theorem w_mk {x : Str} {Fi : OpN} {vs : List AV} (k : wp (Fi (.ref h.length :: vs) (h ++ [.ins x []])) E fun v h1 => IsN v (Q (.ref h.length) h1)) : wp (mkF x Fi vs h) E Q := wp_bind (wp_mono k (fun v h1 ⟨e, q⟩ => by subst e; exact wp_ok q) fun _ _ _ z => z)
end
/-! ### statements -/
section
variable {α : Type} {N : NE} {R : AV → AH → Prop} {B C : NE} {X : XS_} {ρ : AM.Env} {h : AH} {m : ME} {ss : List MS} {i : Nat} {r : SR}
theorem ws_mono {N' : NE} {R' : AV → AH → Prop} {B' C' : NE} {X' : XS_} (k : ws r N R B C X) (n : ∀ ρ h, N ρ h → N' ρ h) (r1 : ∀ v h, R v h → R' v h) (b : ∀ ρ h, B ρ h → B' ρ h) (c : ∀ ρ h, C ρ h → C' ρ h) (x : ∀ c fs ρ h, X c fs ρ h → X' c fs ρ h) : ws r N' R' B' C' X' := by
  cases r with
  | nx ρ h => rw [wsNx] at k ⊢; exact n _ _ k
  | rt v h => rw [wsRt] at k ⊢; exact r1 _ _ k
  | bk ρ h => rw [wsBk] at k ⊢; exact b _ _ k
  | ct ρ h => rw [wsCt] at k ⊢; exact c _ _ k
  | exc e fs ρ h => rw [wsExc] at k ⊢; exact x _ _ _ _ k
  | stk => rw [wsStk] at k; exact k.elim
theorem ws_nx (k : N ρ h) : ws (.nx ρ h) N R B C X := by rw [wsNx]; exact k
theorem ws_rt {v : AV} (k : R v h) : ws (.rt v h) N R B C X := by rw [wsRt]; exact k
theorem ws_bk (k : B ρ h) : ws (.bk ρ h) N R B C X := by rw [wsBk]; exact k
theorem ws_ct (k : C ρ h) : ws (.ct ρ h) N R B C X := by rw [wsCt]; exact k
theorem ws_exc {c : Str} {fs : List (Str × AV)} (k : X c fs ρ h) : ws (.exc c fs ρ h) N R B C X := by rw [wsExc]; exact k
theorem ws_exM {e : Res α} {k : α → AH → SR} (p : wp e (fun c fs h => X c fs ρ h) fun a h1 => ws (k a h1) N R B C X) : ws (exM e ρ k) N R B C X := by
  cases e with
  | ok a h => rw [wpOk] at p; exact p
  | exc c fs h => rw [wpExc] at p; exact ws_exc p
  | stk => rw [wpStk] at p; exact p.elim
theorem ws_seq {k : AM.Env → AH → SR} (p : ws r (fun ρ h => ws (k ρ h) N R B C X) R B C X) : ws (r.seq k) N R B C X := by
  cases r with
  | nx ρ h => rw [wsNx] at p; exact p
  | rt v h => rw [wsRt] at p; exact ws_rt p
  | bk ρ h => rw [wsBk] at p; exact ws_bk p
  | ct ρ h => rw [wsCt] at p; exact ws_ct p
  | exc c fs ρ h => rw [wsExc] at p; exact ws_exc p
  | stk => rw [wsStk] at p; exact p.elim
theorem s_nil (k : N ρ h) : ws (blkN [] ρ h) N R B C X := ws_nx k
theorem s_cons {s : MS} (k : ws (s ρ h) (fun ρ h => ws (blkN ss ρ h) N R B C X) R B C X) : ws (blkN (s :: ss) ρ h) N R B C X := ws_seq k
theorem s_set' (k : wp (m ρ h) (fun c fs h => X c fs ρ h) fun v h1 => ws (blkN ss (ρ.set i (some v)) h1) N R B C X) : ws (blkN (setNN i m :: ss) ρ h) N R B C X := s_cons (ws_exM (wp_mono k (fun _ _ z => ws_nx z) fun _ _ _ z => z))
theorem s_expr' (k : wp (m ρ h) (fun c fs h => X c fs ρ h) fun _ h1 => ws (blkN ss ρ h1) N R B C X) : ws (blkN (exprN m :: ss) ρ h) N R B C X := s_cons (ws_exM (wp_mono k (fun _ _ z => ws_nx z) fun _ _ _ z => z))
theorem s_ret' (k : wp (m ρ h) (fun c fs h => X c fs ρ h) R) : ws (blkN (retN m :: ss) ρ h) N R B C X := s_cons (ws_exM (wp_mono k (fun _ _ z => ws_rt z) fun _ _ _ z => z))
theorem s_ret0 (k : R .non h) : ws (blkN (retN0 :: ss) ρ h) N R B C X := ws_rt k
theorem s_pass (k : ws (blkN ss ρ h) N R B C X) : ws (blkN (passN :: ss) ρ h) N R B C X := k
theorem s_bk (k : B ρ h) : ws (blkN (bkN :: ss) ρ h) N R B C X := ws_bk k
theorem s_ct (k : C ρ h) : ws (blkN (ctN :: ss) ρ h) N R B C X := ws_ct k
theorem s_raise {x f : Str} (k : wp (m ρ h) (fun c fs h => X c fs ρ h) fun v h1 => X x [(f, v)] ρ h1) : ws (blkN (raiseN x f m :: ss) ρ h) N R B C X := s_cons (ws_exM (wp_mono k (fun _ _ z => ws_exc z) fun _ _ _ z => z))
theorem s_if' {t : AM.Env → AH → Res Bool} {p q : List MS} (k : wp (t ρ h) (fun c fs h => X c fs ρ h) fun z h1 => Br z (ws (blkN p ρ h1) (fun ρ h => ws (blkN ss ρ h) N R B C X) R B C X) (ws (blkN q ρ h1) (fun ρ h => ws (blkN ss ρ h) N R B C X) R B C X)) :
    ws (blkN (ifN t p q :: ss) ρ h) N R B C X := s_cons (ws_exM (wp_mono k (fun z h1 c => by cases z; exact c.2 rfl; exact c.1 rfl) fun _ _ _ z => z))
/-- both ways of a test meet in J -/
theorem s_if_cut {t : AM.Env → AH → Res Bool} {p q : List MS} (J : NE) (k : wp (t ρ h) (fun c fs h => X c fs ρ h) fun z h1 => Br z (ws (blkN p ρ h1) J R B C X) (ws (blkN q ρ h1) J R B C X)) (j : ∀ ρ h, J ρ h → ws (blkN ss ρ h) N R B C X) :
    ws (blkN (ifN t p q :: ss) ρ h) N R B C X := s_if' (wp_mono k (fun z h1 c => ⟨fun e => ws_mono (c.1 e) j (fun _ _ z => z) (fun _ _ z => z) (fun _ _ z => z) fun _ _ _ _ z => z, fun e => ws_mono (c.2 e) j (fun _ _ z => z) (fun _ _ z => z) (fun _ _ z => z) fun _ _ _ _ z => z⟩) fun _ _ _ z => z)
theorem s_for' {it : AM.Env → AH → Res (List AV)} {asg : AV → AM.Env → Option AM.Env} {body : List MS} (k : wp (it ρ h) (fun c fs h => X c fs ρ h) fun xs h1 => ws (forL asg (blkN body) xs ρ h1) (fun ρ h => ws (blkN ss ρ h) N R B C X) R B C X) :
    ws (blkN (forN it asg body :: ss) ρ h) N R B C X := s_cons (ws_exM k)
theorem s_forO' {asg : AV → AM.Env → Option AM.Env} {body : List MS} (k : wp (m ρ h) (fun c fs h => X c fs ρ h) fun v h1 => LstX v h1 fun n xs => ws (forLD n asg (blkN body) xs.length 0 ρ h1) (fun ρ h => ws (blkN ss ρ h) N R B C X) R B C X) :
    ws (blkN (forON m asg body :: ss) ρ h) N R B C X := s_cons (ws_exM (wp_mono k (fun v h1 ⟨n, xs, e, e1, q⟩ => by
  subst e
  show ws (match h1[n]? with | some (.lst xs) => forLD n asg (blkN body) xs.length 0 ρ h1 | _ => .stk) _ _ _ _ _
  rw [e1]
  exact q) fun _ _ _ z => z))
theorem s_asg' {t : TGN} (k : wp (m ρ h) (fun c fs h => X c fs ρ h) fun v h1 => ws (t v ρ h1) (fun ρ h => ws (blkN ss ρ h) N R B C X) R B C X) : ws (blkN (asgS m t :: ss) ρ h) N R B C X := s_cons (ws_exM k)
theorem s_par {ix : List Nat} {es : List ME} (k : wp (evsN es ρ h) (fun c fs h => X c fs ρ h) fun vs h1 => SomeK (setL ix vs ρ) fun ρ1 => ws (blkN ss ρ1 h1) N R B C X) : ws (blkN (parN ix es :: ss) ρ h) N R B C X := s_cons (ws_exM (wp_mono k (fun vs h1 ⟨ρ1, e, q⟩ => by
  show ws (match setL ix vs ρ with | some ρ1 => SR.nx ρ1 h1 | none => .stk) _ _ _ _ _
  rw [e]
  exact ws_nx q) fun _ _ _ z => z))
theorem s_aug {op : Operator} {v : AV} (e : ρ[i]? = some (some v)) (k : wp (m ρ h) (fun c fs h => X c fs ρ h) fun w h1 => SomeK (augF op v w) fun z => ws (blkN ss (ρ.set i (some z)) h1) N R B C X) : ws (blkN (augN i op m :: ss) ρ h) N R B C X := s_cons (by
  unfold augN
  rw [e]
  exact ws_exM (wp_mono k (fun w h1 ⟨z, e, q⟩ => by
    show ws (match augF op v w with | some z => SR.nx _ h1 | none => .stk) _ _ _ _ _
    rw [e]
    exact ws_nx q) fun _ _ _ z => z))
theorem s_try {exm : Str → Option Bool} {b s : List MS} (k : ws (blkN b ρ h) (fun ρ h => ws (blkN ss ρ h) N R B C X) R B C fun c fs ρ1 h1 => SomeK (exm c) fun z => Br z (ws (blkN s ρ1 h1) (fun ρ h => ws (blkN ss ρ h) N R B C X) R B C X) (X c fs ρ1 h1)) :
    ws (blkN (tryN exm b s :: ss) ρ h) N R B C X := s_cons (by
  show ws (tryM exm (blkN b) (blkN s) ρ h) _ _ _ _ _
  unfold tryM
  cases q : blkN b ρ h with
  | exc c fs ρ1 h1 =>
    rw [q, wsExc] at k
    obtain ⟨z, e, c1⟩ := k
    show ws (match exm c with | some true => blkN s ρ1 h1 | some false => .exc c fs ρ1 h1 | none => .stk) _ _ _ _ _
    rw [e]
    cases z
    · exact ws_exc (c1.2 rfl)
    · exact c1.1 rfl
  | nx ρ1 h1 => rw [q, wsNx] at k; exact ws_nx k
  | rt v h1 => rw [q, wsRt] at k; exact ws_rt k
  | bk ρ1 h1 => rw [q, wsBk] at k; exact ws_bk k
  | ct ρ1 h1 => rw [q, wsCt] at k; exact ws_ct k
  | stk => rw [q, wsStk] at k; exact k.elim)
theorem s_try_as {exm : Str → Option Bool} {i j : Nat} {b : List MS} (k : ws (blkN b ρ h) (fun ρ h => ws (blkN ss ρ h) N R B C X) R B C fun c fs ρ1 h1 => SomeK (exm c) fun z => Br z (LtK i ρ1.length (ws (blkN ss ((ρ1.set j (some (.xo c fs))).set i none) h1) N R B C X)) (X c fs ρ1 h1)) :
    ws (blkN (tryAsN exm i j b :: ss) ρ h) N R B C X := s_cons (by
  show ws (tryAsM exm i j (blkN b) ρ h) _ _ _ _ _
  unfold tryAsM
  cases q : blkN b ρ h with
  | exc c fs ρ1 h1 =>
    rw [q, wsExc] at k
    obtain ⟨z, e, c1⟩ := k
    show ws (match exm c with | some true => if i < ρ1.length then .nx ((ρ1.set j (some (.xo c fs))).set i none) h1 else .stk | some false => .exc c fs ρ1 h1 | none => .stk) _ _ _ _ _
    rw [e]
    cases z
    · exact ws_exc (c1.2 rfl)
    · obtain ⟨c2, c3⟩ := c1.1 rfl
      show ws (if i < ρ1.length then .nx ((ρ1.set j (some (.xo c fs))).set i none) h1 else .stk) _ _ _ _ _
      rw [if_pos (show i < ρ1.length from Nat.le_of_ble_eq_true c2)]
      exact ws_nx c3
  | nx ρ1 h1 => rw [q, wsNx] at k; exact ws_nx k
  | rt v h1 => rw [q, wsRt] at k; exact ws_rt k
  | bk ρ1 h1 => rw [q, wsBk] at k; exact ws_bk k
  | ct ρ1 h1 => rw [q, wsCt] at k; exact ws_ct k
  | stk => rw [q, wsStk] at k; exact k.elim)
theorem s_st {fl : Str → Str → Bool} {f : Str} {o : ME} (k : wp (m ρ h) (fun c fs h => X c fs ρ h) fun v h1 => wp (o ρ h1) (fun c fs h => X c fs ρ h) fun ov h2 => StK fl f ov h2 fun n c fs => ws (blkN ss ρ (h2.set n (.ins c (putA f v fs)))) N R B C X) :
    ws (blkN (stN fl f o m :: ss) ρ h) N R B C X := s_cons (ws_exM (wp_mono k (fun v h1 q => ws_exM (wp_mono q (fun ov h2 ⟨n, c, fs, e, e1, e2, e3, q⟩ => by
  subst e
  show ws (match (match h2[n]? with | some (.ins c fs) => if fl c f = true ∧ fs.length < 1000 then some (h2.set n (.ins c (putA f v fs))) else none | _ => none) with | some h3 => SR.nx ρ h3 | none => .stk) _ _ _ _ _
  rw [e1]
  show ws (match (if fl c f = true ∧ fs.length < 1000 then some (h2.set n (.ins c (putA f v fs))) else none) with | some h3 => SR.nx ρ h3 | none => .stk) _ _ _ _ _
  rw [if_pos ⟨e2, e3⟩]
  exact ws_nx q) fun _ _ _ z => z)) fun _ _ _ z => z))
theorem tg_var {v : AV} (k : N (ρ.set i (some v)) h) : ws (tgVar i v ρ h) N R B C X := ws_nx k
theorem tg_tup {n : Nat} {ts : List TGN} {xs : List AV} (e : Nat.beq xs.length n = true) (k : ws (tgsN ts xs ρ h) N R B C X) : ws (tgTup n ts (.tup xs) ρ h) N R B C X := by
  show ws (if Nat.beq xs.length n && true then _ else _) _ _ _ _ _
  rw [if_pos (by rw [e]; rfl)]
  exact k
theorem tg_nil (k : N ρ h) : ws (tgsN [] [] ρ h) N R B C X := ws_nx k
theorem tg_cons {t : TGN} {ts : List TGN} {v : AV} {vs : List AV} (k : ws (t v ρ h) (fun ρ h => ws (tgsN ts vs ρ h) N R B C X) R B C X) : ws (tgsN (t :: ts) (v :: vs) ρ h) N R B C X := ws_seq k
theorem tg_sub {o i : ME} {v : AV} (k : wp (o ρ h) (fun c fs h => X c fs ρ h) fun ov h1 => wp (i ρ h1) (fun c fs h => X c fs ρ h) fun iv h2 => SomeK (setF ov iv v h2) fun h3 => N ρ h3) : ws (tgSub o i v ρ h) N R B C X := ws_exM (wp_mono k (fun ov h1 q => ws_exM (wp_mono q (fun iv h2 ⟨h3, e, q⟩ => by
  show ws (match setF ov iv v h2 with | some h3 => SR.nx ρ h3 | none => .stk) _ _ _ _ _
  rw [e]
  exact ws_nx q) fun _ _ _ z => z)) fun _ _ _ z => z)
theorem w_fin {E : XE_} {Q : AV → AH → Prop} (k : ws r (fun _ h => Q .non h) Q (fun _ _ => False) (fun _ _ => False) fun c fs _ h => E c fs h) : wp (finR r) E Q := by
  cases r with
  | nx ρ h => rw [wsNx] at k; exact wp_ok k
  | rt v h => rw [wsRt] at k; exact wp_ok k
  | bk ρ h => rw [wsBk] at k; exact k.elim
  | ct ρ h => rw [wsCt] at k; exact k.elim
  | exc c fs ρ h => rw [wsExc] at k; exact wp_exc rfl k
  | stk => rw [wsStk] at k; exact k.elim
/-- a turn's end, then the rest -/
theorem forS_ws {body : SR} {rest : AM.Env → AH → SR} {I : NE} (k : ws body I R N I X) (n : ∀ ρ h, I ρ h → ws (rest ρ h) N R B C X) : ws (forS body rest) N R B C X := by
  cases body with
  | nx ρ h => rw [wsNx] at k; exact n _ _ k
  | ct ρ h => rw [wsCt] at k; exact n _ _ k
  | bk ρ h => rw [wsBk] at k; exact ws_nx k
  | rt v h => rw [wsRt] at k; exact ws_rt k
  | exc c fs ρ h => rw [wsExc] at k; exact ws_exc k
  | stk => rw [wsStk] at k; exact k.elim
/-! ### loops -/
theorem for_inv {asg : AV → AM.Env → Option AM.Env} {body : AM.Env → AH → SR} (I : Nat → NE) : ∀ (xs : List AV) (i : Nat) (ρ : AM.Env) (h : AH),
    (∀ (j : Nat) (a : AV), xs[j]? = some a → ∀ ρ h, I (i + j) ρ h → ∃ ρ1, asg a ρ = some ρ1 ∧ ws (body ρ1 h) (fun ρ h => I (i + j + 1) ρ h) R N (fun ρ h => I (i + j + 1) ρ h) X) → I i ρ h → (∀ ρ h, I (i + xs.length) ρ h → N ρ h) → ws (forL asg body xs ρ h) N R B C X
  | [], i, ρ, h, _, hI, hN => ws_nx (hN ρ h (by simpa using hI))
  | a :: r, i, ρ, h, hx, hI, hN => by
    obtain ⟨ρ1, e1, k⟩ := hx 0 a rfl ρ h (by simpa using hI)
    unfold forL
    rw [e1]
    show ws (forS (body ρ1 h) (forL asg body r)) N R B C X
    have rest : ∀ ρ h, I (i + 1) ρ h → ws (forL asg body r ρ h) N R B C X := fun ρ h hI => for_inv I r (i + 1) ρ h (fun j b hb ρ h hI => by
      have := hx (j + 1) b (by simpa using hb) ρ h (by rw [show i + (j + 1) = i + 1 + j by omega]; exact hI)
      rw [show i + (j + 1) + 1 = i + 1 + j + 1 by omega] at this
      exact this) hI fun ρ h hI => hN ρ h (by rw [List.length_cons, show i + (r.length + 1) = i + 1 + r.length by omega]; exact hI)
    exact forS_ws k rest
/-- a for over an own list that stays as it is -/
theorem forO_inv {n : Nat} {xs : List AV} {asg : AV → AM.Env → Option AM.Env} {body : AM.Env → AH → SR} (I : Nat → NE) (hl : ∀ i ρ h, I i ρ h → h[n]? = some (.lst xs))
    (hx : ∀ (i : Nat) (a : AV), xs[i]? = some a → ∀ ρ h, I i ρ h → ∃ ρ1, asg a ρ = some ρ1 ∧ ws (body ρ1 h) (fun ρ h => I (i + 1) ρ h) R N (fun ρ h => I (i + 1) ρ h) X) (hN : ∀ ρ h, I xs.length ρ h → N ρ h) :
    ∀ (m i : Nat) (ρ : AM.Env) (h : AH), m + i = xs.length → I i ρ h → ws (forLD n asg body m i ρ h) N R B C X
  | 0, i, ρ, h, e, hI => by
    unfold forLD
    rw [hl i ρ h hI]
    show ws (if xs.length ≤ i then .nx ρ h else .stk) N R B C X
    rw [if_pos (by omega)]
    exact ws_nx (hN ρ h (by rw [← e, Nat.zero_add]; exact hI))
  | m + 1, i, ρ, h, e, hI => by
    unfold forLD
    rw [hl i ρ h hI]
    have hi : i < xs.length := by omega
    have e0 : xs[i]? = some xs[i] := List.getElem?_eq_getElem hi
    show ws (match xs[i]? with | none => .nx ρ h | some a => (match asg a ρ with | none => .stk | some ρ1 => forS (body ρ1 h) (forLD n asg body m (i + 1)))) N R B C X
    rw [e0]
    obtain ⟨ρ1, e1, k⟩ := hx i _ e0 ρ h hI
    show ws (match asg xs[i] ρ with | none => .stk | some ρ1 => forS (body ρ1 h) (forLD n asg body m (i + 1))) N R B C X
    rw [e1]
    exact forS_ws k fun ρ h hI => forO_inv I hl hx hN m (i + 1) ρ h (by omega) hI
/-- a for whose turns keep I -/
theorem for_all {asg : AV → AM.Env → Option AM.Env} {body : AM.Env → AH → SR} (I : NE) {xs : List AV} {ρ : AM.Env} {h : AH} (hI : I ρ h) (hx : ∀ a ∈ xs, ∀ ρ h, I ρ h → ∃ ρ1, asg a ρ = some ρ1 ∧ ws (body ρ1 h) I R N I X) (hN : ∀ ρ h, I ρ h → N ρ h) : ws (forL asg body xs ρ h) N R B C X :=
  for_inv (fun _ => I) xs 0 ρ h (fun j a e ρ h hI => hx a (List.mem_of_getElem? e) ρ h hI) hI hN
/-- by what has been taken and what is left -/
theorem for_list {asg : AV → AM.Env → Option AM.Env} {body : AM.Env → AH → SR} (I : List AV → NE) : ∀ (xs done : List AV) (ρ : AM.Env) (h : AH),
    (∀ (pre : List AV) (a : AV) (post : List AV), done ++ xs = pre ++ a :: post → ∀ ρ h, I pre ρ h → ∃ ρ1, asg a ρ = some ρ1 ∧ ws (body ρ1 h) (fun ρ h => I (pre ++ [a]) ρ h) R N (fun ρ h => I (pre ++ [a]) ρ h) X) → I done ρ h → (∀ ρ h, I (done ++ xs) ρ h → N ρ h) → ws (forL asg body xs ρ h) N R B C X
  | [], done, ρ, h, _, hI, hN => ws_nx (hN ρ h (by simpa using hI))
  | a :: r, done, ρ, h, hx, hI, hN => by
    obtain ⟨ρ1, e1, k⟩ := hx done a r rfl ρ h hI
    unfold forL
    rw [e1]
    show ws (forS (body ρ1 h) (forL asg body r)) N R B C X
    have rest : ∀ ρ h, I (done ++ [a]) ρ h → ws (forL asg body r ρ h) N R B C X := fun ρ h hI => for_list I r (done ++ [a]) ρ h (fun pre b post e => hx pre b post (by simpa using e)) hI fun ρ h hI => hN ρ h (by simpa using hI)
    exact forS_ws k rest
end
section
variable {asg : AV → AM.Env → Option AM.Env} {test : AM.Env → AH → Res Bool} {elt : ME} {ρ : AM.Env} {E : XE_} {Q : List AV → AH → Prop}
theorem comp_inv (I : List AV → AH → Prop) : ∀ (xs acc : List AV) (h : AH), (∀ a ∈ xs, ∀ acc h, I acc h → ∃ ρ1, asg a ρ = some ρ1 ∧ wp (test ρ1 h) noE fun b h1 => Br b (wp (elt ρ1 h1) noE fun v h2 => I (acc ++ [v]) h2) (I acc h1)) → I acc h →
    (∀ ys h, I ys h → ys.length ≤ acc.length + xs.length → Q ys h) → acc.length + xs.length ≤ sizeLine → wp (compL asg test elt ρ xs acc h) E Q
  | [], acc, h, _, hI, hQ, _ => wp_ok (hQ acc h hI (by simp))
  | a :: r, acc, h, hx, hI, hQ, hl => by
    obtain ⟨ρ1, e1, k⟩ := hx a (List.mem_cons_self ..) acc h hI
    unfold compL
    rw [e1]
    refine wp_bind (wp_noX (wp_mono k (fun b h1 c => ?_) fun _ _ _ z => z))
    have hl : acc.length + (r.length + 1) ≤ sizeLine := hl
    cases b
    · exact comp_inv I r acc h1 (fun b hb => hx b (List.mem_cons_of_mem _ hb)) (c.2 rfl) (fun ys h i l => hQ ys h i (by rw [List.length_cons]; omega)) (by omega)
    · refine wp_bind (wp_noX (wp_mono (c.1 rfl) (fun v h2 i => ?_) fun _ _ _ z => z))
      rw [if_pos (by omega)]
      exact comp_inv I r (acc ++ [v]) h2 (fun b hb => hx b (List.mem_cons_of_mem _ hb)) i (fun ys h i l => hQ ys h i (by simp at l ⊢; omega)) (by simp; omega)
/-- no test -/
theorem comp_all (I : List AV → AH → Prop) {xs : List AV} {h : AH} (hx : ∀ a ∈ xs, ∀ acc h, I acc h → ∃ ρ1, asg a ρ = some ρ1 ∧ wp (elt ρ1 h) noE fun v h2 => I (acc ++ [v]) h2) (hI : I [] h)
    (hQ : ∀ ys h, I ys h → ys.length = xs.length → Q ys h) (hl : xs.length ≤ sizeLine) : wp (compL asg allT elt ρ xs [] h) E Q := by
  have key : ∀ (xs acc : List AV) (h : AH), (∀ a ∈ xs, ∀ acc h, I acc h → ∃ ρ1, asg a ρ = some ρ1 ∧ wp (elt ρ1 h) noE fun v h2 => I (acc ++ [v]) h2) → I acc h → acc.length + xs.length ≤ sizeLine → ∃ ys h', compL asg allT elt ρ xs acc h = .ok ys h' ∧ I ys h' ∧ ys.length = acc.length + xs.length := by
    intro xs
    induction xs with
    | nil => intro acc h _ i _; exact ⟨acc, h, rfl, i, by simp⟩
    | cons a r ih =>
      intro acc h hx i hl
      obtain ⟨ρ1, e1, k⟩ := hx a (List.mem_cons_self ..) acc h i
      obtain ⟨v, h2, e, i2⟩ := wp_inv k
      have hl : acc.length + (r.length + 1) ≤ sizeLine := hl
      obtain ⟨ys, h', e3, i3, l3⟩ := ih (acc ++ [v]) h2 (fun b hb => hx b (List.mem_cons_of_mem _ hb)) i2 (by simp; omega)
      refine ⟨ys, h', ?_, i3, by simp at l3 ⊢; omega⟩
      unfold compL
      rw [e1]
      show (noX (elt ρ1 h)).bind _ = _
      rw [e]
      show (if acc.length < sizeLine then compL asg allT elt ρ r (acc ++ [v]) h2 else .stk) = _
      rw [if_pos (by omega), e3]
  obtain ⟨ys, h', e, i, l⟩ := key xs [] h hx hI (by simpa using hl)
  rw [e]
  exact wp_ok (hQ ys h' i (by simpa using l))
/-- no test, nothing changes -/
theorem comp_map (g : AV → AV) {xs : List AV} {h : AH} (hx : ∀ a ∈ xs, ∃ ρ1, asg a ρ = some ρ1 ∧ wp (elt ρ1 h) noE fun v h2 => v = g a ∧ h2 = h) (hl : xs.length ≤ sizeLine) (hQ : Q (xs.map g) h) : wp (compL asg allT elt ρ xs [] h) E Q := by
  have key : ∀ (xs acc : List AV), (∀ a ∈ xs, ∃ ρ1, asg a ρ = some ρ1 ∧ wp (elt ρ1 h) noE fun v h2 => v = g a ∧ h2 = h) → acc.length + xs.length ≤ sizeLine → compL asg allT elt ρ xs acc h = .ok (acc ++ xs.map g) h := by
    intro xs
    induction xs with
    | nil => intro acc _ _; simp [compL]
    | cons a r ih =>
      intro acc hx hl
      obtain ⟨ρ1, e1, k⟩ := hx a (List.mem_cons_self ..)
      obtain ⟨v, h2, e, rfl, rfl⟩ := wp_inv k
      have hl : acc.length + (r.length + 1) ≤ sizeLine := hl
      unfold compL
      rw [e1]
      show (noX (elt ρ1 h2)).bind _ = _
      rw [e]
      show (if acc.length < sizeLine then compL asg allT elt ρ r (acc ++ [g a]) h2 else .stk) = _
      rw [if_pos (by omega), ih _ (fun b hb => hx b (List.mem_cons_of_mem _ hb)) (by simp; omega)]
      simp
  rw [key xs [] hx (by simpa using hl)]
  exact wp_ok hQ
/-- a test, nothing changes -/
theorem comp_filter (p : AV → Bool) (g : AV → AV) {xs : List AV} {h : AH} (hx : ∀ a ∈ xs, ∃ ρ1, asg a ρ = some ρ1 ∧ (wp (test ρ1 h) noE fun b h2 => b = p a ∧ h2 = h) ∧ (p a = true → wp (elt ρ1 h) noE fun v h2 => v = g a ∧ h2 = h)) (hl : xs.length ≤ sizeLine) (hQ : Q ((xs.filter p).map g) h) : wp (compL asg test elt ρ xs [] h) E Q := by
  have key : ∀ (xs acc : List AV), (∀ a ∈ xs, ∃ ρ1, asg a ρ = some ρ1 ∧ (wp (test ρ1 h) noE fun b h2 => b = p a ∧ h2 = h) ∧ (p a = true → wp (elt ρ1 h) noE fun v h2 => v = g a ∧ h2 = h)) → acc.length + xs.length ≤ sizeLine → compL asg test elt ρ xs acc h = .ok (acc ++ (xs.filter p).map g) h := by
    intro xs
    induction xs with
    | nil => intro acc _ _; simp [compL]
    | cons a r ih =>
      intro acc hx hl
      obtain ⟨ρ1, e1, k0, k⟩ := hx a (List.mem_cons_self ..)
      obtain ⟨b, h3, e3, rfl, rfl⟩ := wp_inv k0
      have hl : acc.length + (r.length + 1) ≤ sizeLine := hl
      unfold compL
      rw [e1]
      show (noX (test ρ1 h3)).bind _ = _
      rw [e3]
      show (if p a then (noX (elt ρ1 h3)).bind _ else _) = _
      by_cases c : p a = true
      · obtain ⟨v, h2, e, rfl, rfl⟩ := wp_inv (k c)
        rw [if_pos c, e]
        show (if acc.length < sizeLine then compL asg test elt ρ r (acc ++ [g a]) h2 else .stk) = _
        rw [if_pos (by omega), ih _ (fun b hb => hx b (List.mem_cons_of_mem _ hb)) (by simp; omega)]
        simp [List.filter_cons, c]
      · rw [if_neg c, ih _ (fun b hb => hx b (List.mem_cons_of_mem _ hb)) (by omega)]
        simp [List.filter_cons, c]
  rw [key xs [] hx (by simpa using hl)]
  exact wp_ok hQ
end
section
variable {asg : AV → AM.Env → Option AM.Env} {elt : ME} {ρ : AM.Env} {E : XE_} {Q : List AV → AH → Prop}
/-- over an own list that stays as it is -/
theorem compD_all {n : Nat} (I : List AV → AH → Prop) {xs : List AV} {h : AH} (hx : ∀ a ∈ xs, ∀ acc h, I acc h → h[n]? = some (.lst xs) → ∃ ρ1, asg a ρ = some ρ1 ∧ wp (elt ρ1 h) noE fun v h2 => I (acc ++ [v]) h2 ∧ h2[n]? = some (.lst xs)) (hI : I [] h) (h0 : h[n]? = some (.lst xs))
    (hQ : ∀ ys h, I ys h → ys.length = xs.length → Q ys h) (hl : xs.length ≤ sizeLine) : wp (compLD n asg allT elt ρ xs.length 0 [] h) E Q := by
  have key : ∀ (m i : Nat) (acc : List AV) (h : AH), m + i = xs.length → acc.length = i → I acc h → h[n]? = some (.lst xs) → ∃ ys h', compLD n asg allT elt ρ m i acc h = .ok ys h' ∧ I ys h' ∧ ys.length = xs.length := by
    intro m
    induction m with
    | zero =>
      intro i acc h hm ha hI h0
      refine ⟨acc, h, ?_, hI, by omega⟩
      show (match h[n]? with | some (.lst ys) => if ys.length ≤ i then Res.ok acc h else .stk | _ => .stk) = _
      rw [h0]
      show (if xs.length ≤ i then Res.ok acc h else .stk) = _
      rw [if_pos (by omega)]
    | succ m ih =>
      intro i acc h hm ha hI h0
      have hi : i < xs.length := by omega
      have e0 : xs[i]? = some xs[i] := List.getElem?_eq_getElem hi
      obtain ⟨ρ1, e1, k⟩ := hx xs[i] (List.getElem_mem hi) acc h hI h0
      obtain ⟨v, h2, e, i2, h02⟩ := wp_inv k
      obtain ⟨ys, h', e3, i3, l3⟩ := ih (i + 1) (acc ++ [v]) h2 (by omega) (by simp [ha]) i2 h02
      refine ⟨ys, h', ?_, i3, l3⟩
      unfold compLD
      rw [h0]
      show (match xs[i]? with | none => _ | some a => _) = _
      rw [e0]
      show (match asg xs[i] ρ with | none => _ | some ρ1 => _) = _
      rw [e1]
      show (noX (elt ρ1 h)).bind _ = _
      rw [e]
      show (if acc.length < sizeLine then compLD n asg allT elt ρ m (i + 1) (acc ++ [v]) h2 else .stk) = _
      rw [if_pos (by omega), e3]
  obtain ⟨ys, h', e, i, l⟩ := key xs.length 0 [] h (by omega) rfl hI h0
  rw [e]
  exact wp_ok (hQ ys h' i l)
end
/-! ### leaves -/
section
variable {E : XE_} {Q : AV → AH → Prop} {QL : List AV → AH → Prop} {h : AH}
theorem small_ok {n : Nat} (l : n ≤ 1000) : lenOk n = true := Nat.ble_eq_true_of_le (by rw [sizeLine_eq]; omega)
theorem l_cat {a b : Str} (l : a.length + b.length ≤ 1000) (k : Q (.str (a ++ b)) h) : wp (addO (.str a) (.str b) h) E Q := wp_eq (by
  show (if lenOk (a.length + b.length) then _ else _) = _
  rw [if_pos (small_ok l)]) k
theorem l_ladd {a b : List AV} (l : a.length + b.length ≤ 1000) (k : Q (.lst (a ++ b)) h) : wp (addO (.lst a) (.lst b) h) E Q := wp_eq (by
  show (if lenOk (a.length + b.length) then _ else _) = _
  rw [if_pos (small_ok l)]) k
theorem l_tadd {a b : List AV} (l : a.length + b.length ≤ 1000) (k : Q (.tup (a ++ b)) h) : wp (addO (.tup a) (.tup b) h) E Q := wp_eq (by
  show (if lenOk (a.length + b.length) then _ else _) = _
  rw [if_pos (small_ok l)]) k
theorem l_len {s : Str} (l : s.length ≤ 1000) (k : Q (.int s.length) h) : wp (lenF [.str s] h) E Q := wp_eq (by
  show (match (if lenOk s.length then some s.length else none) with | some n => Res.ok (AV.int n) h | none => .stk) = _
  rw [if_pos (small_ok l)]) k
theorem l_range {j : Int} (l : -1000 ≤ j ∧ j ≤ 1000) (k : QL (ranges 0 j.toNat) h) : wp (rangeR [.int j] h) E QL := wp_eq (by
  show (if small62 j then _ else _) = _
  rw [if_pos]
  unfold small62
  rw [Bool.and_eq_true, decide_eq_true_eq, decide_eq_true_eq]
  omega) k
theorem l_range2 {i j : Int} (l : -1000 ≤ i ∧ i ≤ 1000 ∧ -1000 ≤ j ∧ j ≤ 1000) (k : QL (ranges i (j - i).toNat) h) : wp (rangeR [.int i, .int j] h) E QL := wp_eq (by
  show (if small62 i && small62 j then _ else _) = _
  rw [if_pos]
  unfold small62
  simp only [Bool.and_eq_true, decide_eq_true_eq]
  omega) k
theorem ranges_mem {lo : Int} {n : Nat} {a : AV} (e : a ∈ ranges lo n) : ∃ j : Nat, j < n ∧ a = .int (lo + j) := by
  unfold ranges at e
  obtain ⟨i, hi, rfl⟩ := List.mem_map.mp e
  exact ⟨i, List.mem_range.mp hi, rfl⟩
theorem ranges_length {lo : Int} {n : Nat} : (ranges lo n).length = n := by simp [ranges]
theorem ranges_get {lo : Int} {n j : Nat} {a : AV} (e : (ranges lo n)[j]? = some a) : j < n ∧ a = .int (lo + j) := by
  unfold ranges at e
  rw [List.getElem?_map] at e
  obtain ⟨i, e1, rfl⟩ := Option.map_eq_some_iff.mp e
  obtain ⟨hj, e2⟩ := List.getElem?_eq_some_iff.mp e1
  simp at hj e2
  subst e2
  exact ⟨hj, rfl⟩
theorem atI_in {α : Type} {xs : List α} {j : Int} (h0 : 0 ≤ j) (h1 : j < xs.length) : ∃ x, atI xs j = some x ∧ x ∈ xs ∧ xs[j.toNat]? = some x := by
  unfold atI ixN
  rw [if_pos h0, if_pos h1]
  have : j.toNat < xs.length := by omega
  exact ⟨xs[j.toNat], by simp [this], List.getElem_mem _, by simp [this]⟩
theorem l_idxL {xs : List AV} {j : Int} (h0 : 0 ≤ j) (h1 : j < xs.length) (k : ∀ x ∈ xs, Q x h) : wp (idxO (.lst xs) (.int j) h) E Q := by
  obtain ⟨x, e, m, _⟩ := atI_in h0 h1
  exact wp_eq (v := x) (h := h) (by
    show (match atI xs j with | some x => Res.ok x h | none => .stk) = _
    rw [e]) (k x m)
theorem l_idxT {xs : List AV} {j : Int} (h0 : 0 ≤ j) (h1 : j < xs.length) (k : ∀ x, xs[j.toNat]? = some x → Q x h) : wp (idxO (.tup xs) (.int j) h) E Q := by
  obtain ⟨x, e, m, e2⟩ := atI_in h0 h1
  exact wp_eq (v := x) (h := h) (by
    show (match atI xs j with | some x => Res.ok x h | none => .stk) = _
    rw [e]) (k x e2)
theorem l_idxS {s : Str} {j : Int} (hs : s.length ≤ 1000) (h0 : 0 ≤ j) (h1 : j < s.length) (k : ∀ c ∈ s.cps.toList, Q (.str ⟨#[c]⟩) h) : wp (idxO (.str s) (.int j) h) E Q := by
  obtain ⟨c, e, m, _⟩ := atI_in (xs := s.cps.toList) h0 (by simpa [Str.length] using h1)
  exact wp_eq (v := .str ⟨#[c]⟩) (h := h) (by
    show (if lenOk s.length then (match atI s.cps.toList j with | some c => Res.ok (AV.str ⟨#[c]⟩) h | none => .stk) else .stk) = _
    rw [if_pos (small_ok hs), e]) (k c m)
theorem l_sset {n : Nat} {ys : List Str} (e : h[n]? = some (.lst (ys.map .str))) (l : ys.length ≤ 1000) (k : Q (.lst ((TxS.sortS ys).map .str)) h) : wp (sortSetF (.ref n) h) E Q := wp_eq (v := .lst ((TxS.sortS ys).map .str)) (h := h) (by
  show (match h[n]? with | some (.lst xs) => (match strsOf xs with | some ys => if ys.length ≤ 1000 then Res.ok (AV.lst ((TxS.sortS ys).map .str)) h else .stk | none => .stk) | _ => .stk) = _
  rw [e]
  show (match strsOf (ys.map .str) with | some ys => if ys.length ≤ 1000 then Res.ok (AV.lst ((TxS.sortS ys).map .str)) h else .stk | none => .stk) = _
  rw [strsOf_map]
  show (if ys.length ≤ 1000 then _ else _) = _
  rw [if_pos l]) k
theorem l_ssetL {ys : List Str} (l : ys.length ≤ 1000) (k : Q (.lst ((TxS.sortS ys).map .str)) h) : wp (sortSetF (.lst (ys.map .str)) h) E Q := wp_eq (v := .lst ((TxS.sortS ys).map .str)) (h := h) (by
  show (match strsOf (ys.map .str) with | some ys => if ys.length ≤ 1000 then Res.ok (AV.lst ((TxS.sortS ys).map .str)) h else .stk | none => .stk) = _
  rw [strsOf_map]
  show (if ys.length ≤ 1000 then _ else _) = _
  rw [if_pos l]) k
theorem l_slS {s : Str} {lo hi : Option Int} (l : s.length ≤ 1000) (k : Q (.str (cutS s lo hi)) h) : wp (sliceF (.str s) lo hi h) E Q := wp_eq (v := .str (cutS s lo hi)) (h := h) (by
  show (if lenOk s.length then _ else _) = _
  rw [if_pos (small_ok l)]) k
theorem l_slR {n : Nat} {xs : List AV} {lo hi : Option Int} (e : h[n]? = some (.lst xs)) (k : Q (.lst (cutA xs lo hi)) h) : wp (sliceF (.ref n) lo hi h) E Q := wp_eq (v := .lst (cutA xs lo hi)) (h := h) (by
  show (match h[n]? with | some (.lst xs) => Res.ok (AV.lst (cutA xs lo hi)) h | _ => .stk) = _
  rw [e]) k
theorem l_lenR {n : Nat} {xs : List AV} (e : h[n]? = some (.lst xs)) (k : Q (.int xs.length) h) : wp (lenF [.ref n] h) E Q := wp_eq (v := .int xs.length) (h := h) (by
  show (match (match h[n]? with | some (.lst xs) => some xs.length | _ => none) with | some n => Res.ok (AV.int n) h | none => .stk) = _
  rw [e]) k
theorem l_tupR {n : Nat} {xs : List AV} (e : h[n]? = some (.lst xs)) (k : Q (.tup xs) h) : wp (tupleF [.ref n] h) E Q := wp_eq (v := .tup xs) (h := h) (by
  show (match h[n]? with | some (.lst xs) => Res.ok (AV.tup xs) h | _ => .stk) = _
  rw [e]) k
theorem cut_sub {xs : List AV} {lo hi : Option Int} {x : AV} (m : x ∈ cutA xs lo hi) : x ∈ xs := by
  unfold cutA at m
  exact List.mem_of_mem_drop (List.mem_of_mem_take m)
theorem cut_le {xs : List AV} {lo hi : Option Int} : (cutA xs lo hi).length ≤ xs.length := by
  unfold cutA
  rw [List.length_take, List.length_drop]
  omega
theorem l_joinL {a : Str} {ys : List Str} (l : (ys.map (·.length)).sum + ys.length * a.length ≤ 1000) (k : Q (.str (Txt.join a ys)) h) : wp (joinF (.str a) [.lst (ys.map .str)] h) E Q := wp_eq (by
  show (match strsOf (ys.map .str) with | some ys => if _ then _ else _ | none => _) = _
  rw [strsOf_map]
  show (if _ then _ else _) = _
  rw [if_pos (by omega)]) k
end
section
variable {E : XE_} {Q : AV → AH → Prop} {h : AH}
/-- isinstance's answer -/
def isB_ (isi : TN → TN → Option Bool) (xv inc : Str → Bool) (v w : AV) (h : AH) : Option Bool := match clT w with
  | none => none
  | some u => (match tyT xv inc v h with
    | none => none
    | some t => isiT isi t u)
theorem isB_eq {isi : TN → TN → Option Bool} {xv inc : Str → Bool} {v w : AV} {b : Bool} (e : isB_ isi xv inc v w h = some b) : isiG isi xv inc [v, w] h = Res.ok (AV.bl b) h := by
  show (match clT w with | none => Res.stk | some u => (match tyT xv inc v h with | none => .stk | some t => (match isiT isi t u with | some b => Res.ok (AV.bl b) h | none => .stk))) = _
  unfold isB_ at e
  cases e1 : clT w with
  | none => rw [e1] at e; cases e
  | some u =>
    rw [e1] at e
    have e : (match tyT xv inc v h with | none => none | some t => isiT isi t u) = some b := e
    cases e2 : tyT xv inc v h with
    | none => rw [e2] at e; cases e
    | some t =>
      rw [e2] at e
      have e : isiT isi t u = some b := e
      show (match isiT isi t u with | some b => Res.ok (AV.bl b) h | none => .stk) = _
      rw [e]
theorem isB_ty {isi : TN → TN → Option Bool} {xv inc : Str → Bool} {v : AV} {n : String} (e : tyT xv inc v h = (tyNm v h).map .ty) : isB_ isi xv inc v (.ty n) h = (tyNm v h).bind fun t => kitB t n := by
  show (match tyT xv inc v h with | none => none | some t => isiT isi t (.ty n)) = _
  rw [e]
  cases tyNm v h <;> rfl
theorem l_isiT {isi : TN → TN → Option Bool} {xv inc : Str → Bool} {v w : AV} (e : isB_ isi xv inc v w h = some true) (k : Q (.bl true) h) : wp (isiG isi xv inc [v, w] h) E Q := wp_eq (isB_eq e) k
theorem l_isiF {isi : TN → TN → Option Bool} {xv inc : Str → Bool} {v w : AV} (e : isB_ isi xv inc v w h = some false) (k : Q (.bl false) h) : wp (isiG isi xv inc [v, w] h) E Q := wp_eq (isB_eq e) k
theorem l_isi {isi : TN → TN → Option Bool} {xv inc : Str → Bool} {v w : AV} {b : Bool} (e : isB_ isi xv inc v w h = some b) (k : Q (.bl b) h) : wp (isiG isi xv inc [v, w] h) E Q := wp_eq (isB_eq e) k
theorem l_notInR {n : Nat} {ys : List AV} {v : AV} (e : h[n]? = some (.lst ys)) (k : wp (notInO v (.lst ys) h) E Q) : wp (notInO v (.ref n) h) E Q := by
  have e2 : notInO v (.ref n) h = notInO v (.lst ys) h := by
    show resBn (inB v (frz (.ref n) h)) h = resBn (inB v (frz (.lst ys) h)) h
    have e3 : frz (.ref n) h = .lst ys := by
      show (match h[n]? with | some (.lst xs) => AV.lst xs | _ => .ref n) = _
      rw [e]
    rw [e3]
    rfl
  rw [e2]
  exact k
end
section
variable {E : XE_} {Q : AV → AH → Prop} {QL : List AV → AH → Prop} {h h1 : AH} {v w x : AV} {vs xs : List AV}
theorem e_addO (e : addO v w h = .ok x h1) (k : Q x h1) : wp (addO v w h) E Q := wp_eq e k
theorem e_subO (e : subO v w h = .ok x h1) (k : Q x h1) : wp (subO v w h) E Q := wp_eq e k
theorem e_mulO (e : mulO v w h = .ok x h1) (k : Q x h1) : wp (mulO v w h) E Q := wp_eq e k
theorem e_modO (e : modO v w h = .ok x h1) (k : Q x h1) : wp (modO v w h) E Q := wp_eq e k
theorem e_divO (e : divO v w h = .ok x h1) (k : Q x h1) : wp (divO v w h) E Q := wp_eq e k
theorem e_powO (e : powO v w h = .ok x h1) (k : Q x h1) : wp (powO v w h) E Q := wp_eq e k
theorem e_eqO (e : eqO v w h = .ok x h1) (k : Q x h1) : wp (eqO v w h) E Q := wp_eq e k
theorem e_neO (e : neO v w h = .ok x h1) (k : Q x h1) : wp (neO v w h) E Q := wp_eq e k
theorem e_ltO (e : ltO v w h = .ok x h1) (k : Q x h1) : wp (ltO v w h) E Q := wp_eq e k
theorem e_leO (e : leO v w h = .ok x h1) (k : Q x h1) : wp (leO v w h) E Q := wp_eq e k
theorem e_gtO (e : gtO v w h = .ok x h1) (k : Q x h1) : wp (gtO v w h) E Q := wp_eq e k
theorem e_geO (e : geO v w h = .ok x h1) (k : Q x h1) : wp (geO v w h) E Q := wp_eq e k
theorem e_isO (e : isO v w h = .ok x h1) (k : Q x h1) : wp (isO v w h) E Q := wp_eq e k
theorem e_isNotO (e : isNotO v w h = .ok x h1) (k : Q x h1) : wp (isNotO v w h) E Q := wp_eq e k
theorem e_inO (e : inO v w h = .ok x h1) (k : Q x h1) : wp (inO v w h) E Q := wp_eq e k
theorem e_notInO (e : notInO v w h = .ok x h1) (k : Q x h1) : wp (notInO v w h) E Q := wp_eq e k
theorem e_idxO (e : idxO v w h = .ok x h1) (k : Q x h1) : wp (idxO v w h) E Q := wp_eq e k
theorem e_lenF (e : lenF vs h = .ok x h1) (k : Q x h1) : wp (lenF vs h) E Q := wp_eq e k
theorem e_absF (e : absF vs h = .ok x h1) (k : Q x h1) : wp (absF vs h) E Q := wp_eq e k
theorem e_maxF (e : maxF vs h = .ok x h1) (k : Q x h1) : wp (maxF vs h) E Q := wp_eq e k
theorem e_minF (e : minF vs h = .ok x h1) (k : Q x h1) : wp (minF vs h) E Q := wp_eq e k
theorem e_divmodF (e : divmodF vs h = .ok x h1) (k : Q x h1) : wp (divmodF vs h) E Q := wp_eq e k
theorem e_strF (e : strF vs h = .ok x h1) (k : Q x h1) : wp (strF vs h) E Q := wp_eq e k
theorem e_intF (e : intF vs h = .ok x h1) (k : Q x h1) : wp (intF vs h) E Q := wp_eq e k
theorem e_tupleF (e : tupleF vs h = .ok x h1) (k : Q x h1) : wp (tupleF vs h) E Q := wp_eq e k
theorem e_listF (e : listF vs h = .ok x h1) (k : Q x h1) : wp (listF vs h) E Q := wp_eq e k
theorem e_sumF (e : sumF vs h = .ok x h1) (k : Q x h1) : wp (sumF vs h) E Q := wp_eq e k
theorem e_rangeR (e : rangeR vs h = .ok xs h1) (k : QL xs h1) : wp (rangeR vs h) E QL := wp_eq e k
theorem e_enumR (e : enumR vs h = .ok xs h1) (k : QL xs h1) : wp (enumR vs h) E QL := wp_eq e k
theorem e_zipR (e : zipR vs h = .ok xs h1) (k : QL xs h1) : wp (zipR vs h) E QL := wp_eq e k
theorem e_sliceF {l u : Option Int} (e : sliceF v l u h = .ok x h1) (k : Q x h1) : wp (sliceF v l u h) E Q := wp_eq e k
theorem e_lmtF {l : Lmt} (e : lmtF l v w vs h = .ok x h1) (k : Q x h1) : wp (lmtF l v w vs h) E Q := wp_eq e k
theorem e_reprF (e : reprF vs h = .ok x h1) (k : Q x h1) : wp (reprF vs h) E Q := wp_eq e k
theorem e_zipQ (e : zipQ vs h = .ok xs h1) (k : QL xs h1) : wp (zipQ vs h) E QL := wp_eq e k
theorem e_revF (e : revF v h = .ok x h1) (k : Q x h1) : wp (revF v h) E Q := wp_eq e k
end
end AM
/-! AML: values of laws, in plain Lean. -/
local macro_rules | `(tactic| w_fin) => `(tactic| repeat' (first
  | with_reducible refine AM.w_ret ?_
  | ((with_reducible apply AM.w_slot); rfl)
  | with_reducible refine AM.w_nil ?_
  | with_reducible refine AM.w_cons ?_
  | with_reducible refine AM.w_call ?_
  | with_reducible refine AM.w_callK ?_
  | with_reducible refine AM.w_bin ?_
  | with_reducible refine AM.w_tst ?_
  | ((with_reducible apply AM.w_tru); rfl)
  | with_reducible refine AM.br_t ?_
  | with_reducible refine AM.br_f ?_
  | with_reducible refine AM.br_not ?_
  | ((with_reducible refine AM.br_tt ?_ ?_); (with_reducible assumption))
  | ((with_reducible refine AM.br_ff ?_ ?_); (with_reducible assumption))
  | ((with_reducible refine AM.br_tt ?_ ?_); rfl)
  | ((with_reducible refine AM.br_ff ?_ ?_); rfl)
  | with_reducible refine AM.w_not ?_
  | with_reducible refine AM.w_andN ?_
  | with_reducible refine AM.w_and1 ?_
  | with_reducible refine AM.w_orN ?_
  | with_reducible refine AM.w_or1 ?_
  | with_reducible refine AM.w_and ?_
  | with_reducible refine AM.w_or ?_
  | with_reducible refine AM.w_chain ?_
  | with_reducible refine AM.w_ite ?_
  | with_reducible refine AM.w_tup ?_
  | with_reducible refine AM.w_lst ?_
  | with_reducible refine AM.w_new ?_
  | with_reducible refine AM.lenK rfl ?_
  | with_reducible refine AM.w_neg ?_
  | with_reducible refine AM.isI ?_
  | with_reducible refine AM.isS ?_
  | with_reducible refine AM.isB ?_
  | with_reducible refine AM.isN ?_
  | ((with_reducible apply AM.itm); rfl)
  | with_reducible refine AM.w_part0 ?_
  | with_reducible refine AM.w_part ?_
  | with_reducible refine AM.w_slice ?_
  | with_reducible refine AM.w_rev ?_
  | with_reducible refine AM.w_sset ?_
  | with_reducible refine AM.w_dic ?_
  | with_reducible refine AM.w_walk ?_
  | with_reducible refine AM.w_range ?_
  | with_reducible refine AM.w_enum ?_
  | with_reducible refine AM.w_zip ?_
  | with_reducible refine AM.w_zipq ?_
  | with_reducible refine AM.w_comp ?_
  | with_reducible refine AM.w_smt0 ?_
  | with_reducible refine AM.w_smt1 ?_
  | with_reducible refine AM.w_app ?_
  | with_reducible refine AM.w_fld ?_
  | with_reducible refine AM.w_mk ?_
  | with_reducible refine AM.w_mth ?_
  | with_reducible refine AM.w_lmt ?_
  | with_reducible refine AM.isL ?_
  | with_reducible refine AM.w_callMK ?_
  | with_reducible refine AM.w_compO ?_
  | with_reducible refine AM.w_fin ?_
  | with_reducible refine AM.s_nil ?_
  | with_reducible refine AM.s_set' ?_
  | with_reducible refine AM.s_expr' ?_
  | with_reducible refine AM.s_ret' ?_
  | with_reducible refine AM.s_ret0 ?_
  | with_reducible refine AM.s_pass ?_
  | with_reducible refine AM.s_bk ?_
  | with_reducible refine AM.s_ct ?_
  | with_reducible refine AM.s_raise ?_
  | with_reducible refine AM.s_if' ?_
  | with_reducible refine AM.s_for' ?_
  | with_reducible refine AM.s_forO' ?_
  | with_reducible refine AM.s_asg' ?_
  | with_reducible refine AM.s_par ?_
  | ((with_reducible apply AM.s_aug); rfl)
  | with_reducible refine AM.s_try ?_
  | with_reducible refine AM.s_try_as ?_
  | (with_reducible refine AM.ltK rfl ?_)
  | with_reducible refine AM.s_st ?_
  | ((with_reducible apply AM.someK); rfl)
  | with_reducible refine AM.tg_var ?_
  | (with_reducible refine AM.tg_tup rfl ?_)
  | with_reducible refine AM.tg_nil ?_
  | with_reducible refine AM.tg_cons ?_
  | with_reducible refine AM.tg_sub ?_
  | ((with_reducible refine AM.l_isiT ?_ ?_); rfl)
  | ((with_reducible refine AM.l_isiF ?_ ?_); rfl)
  | ((with_reducible apply AM.e_addO); rfl)
  | ((with_reducible apply AM.e_subO); rfl)
  | ((with_reducible apply AM.e_mulO); rfl)
  | ((with_reducible apply AM.e_modO); rfl)
  | ((with_reducible apply AM.e_divO); rfl)
  | ((with_reducible apply AM.e_powO); rfl)
  | ((with_reducible apply AM.e_eqO); rfl)
  | ((with_reducible apply AM.e_neO); rfl)
  | ((with_reducible apply AM.e_ltO); rfl)
  | ((with_reducible apply AM.e_leO); rfl)
  | ((with_reducible apply AM.e_gtO); rfl)
  | ((with_reducible apply AM.e_geO); rfl)
  | ((with_reducible apply AM.e_isO); rfl)
  | ((with_reducible apply AM.e_isNotO); rfl)
  | ((with_reducible apply AM.e_idxO); rfl)
  | ((with_reducible apply AM.e_lenF); rfl)
  | ((with_reducible apply AM.e_absF); rfl)
  | ((with_reducible apply AM.e_maxF); rfl)
  | ((with_reducible apply AM.e_minF); rfl)
  | ((with_reducible apply AM.e_divmodF); rfl)
  | ((with_reducible apply AM.e_strF); rfl)
  | ((with_reducible apply AM.e_intF); rfl)
  | ((with_reducible apply AM.e_tupleF); rfl)
  | ((with_reducible apply AM.e_listF); rfl)
  | ((with_reducible apply AM.e_sumF); rfl)
  | ((with_reducible apply AM.e_enumR); rfl)
  | ((with_reducible apply AM.e_zipR); rfl)
  | ((with_reducible apply AM.e_zipQ); rfl)
  | ((with_reducible apply AM.e_sliceF); rfl)
  | ((with_reducible apply AM.e_lmtF); rfl)
  | ((with_reducible apply AM.e_revF); rfl)))
namespace AM
open PySem PySem.Spec PyProof.Rows L2

/-- data that a law hands in: no objects of the machine's own -/
inductive Fine : AV → Prop
  | non : Fine .non
  | bl (b : Bool) : Fine (.bl b)
  | int (i : Int) : Fine (.int i)
  | str {s : Str} (l : s.length ≤ 1000) : Fine (.str s)
  | tup {xs : List AV} (l : xs.length ≤ 1000) (a : ∀ x ∈ xs, Fine x) : Fine (.tup xs)
  | lst {xs : List AV} (l : xs.length ≤ 1000) (a : ∀ x ∈ xs, Fine x) : Fine (.lst xs)
  | dic (ks : List Key) (vs : List AV) : Fine (.dic ks vs)
/-- f tells g of what D holds, and changes nothing -/
def Pure1 (f : OpN) (D : AV → Prop) (g : AV → AV) : Prop := ∀ v h (E : XE_) (Q : AV → AH → Prop), D v → Q (g v) h → wp (f [v] h) E Q
def Pure2 (f : OpN) (D : AV → AV → Prop) (g : AV → AV → AV) : Prop := ∀ v w h (E : XE_) (Q : AV → AH → Prop), D v w → Q (g v w) h → wp (f [v, w] h) E Q
theorem Pure1.ok {f : OpN} {D : AV → Prop} {g : AV → AV} (p : Pure1 f D g) {v : AV} (d : D v) (h : AH) : f [v] h = .ok (g v) h := by
  obtain ⟨a, h', e, rfl, rfl⟩ := wp_inv (p v h noE (fun a h' => a = g v ∧ h' = h) d ⟨rfl, rfl⟩)
  exact e
theorem pure1_of {f : OpN} {D : AV → Prop} {g : AV → AV} (p : ∀ v h, D v → f [v] h = .ok (g v) h) : Pure1 f D g := fun v h E Q d k => wp_eq (p v h d) k
theorem fine_lt {n : Nat} (l : n ≤ 1000) : n ≤ sizeLine := by rw [sizeLine_eq]; omega

/-! ### all, any -/
section
variable {E : XE_} {Q : AV → AH → Prop} {QL : List AV → AH → Prop} {h : AH}
theorem bls_map {p : AV → Bool} (xs : List AV) : blsOf (xs.map fun a => .bl (p a)) = some (xs.map p) := by
  have e : (xs.map fun a => AV.bl (p a)) = (xs.map p).map AV.bl := by simp
  rw [e, blsOf_map]
theorem l_all {p : AV → Bool} {xs : List AV} (k : Q (.bl (xs.all p)) h) : wp (allF [.lst (xs.map fun a => .bl (p a))] h) E Q := wp_eq (v := .bl (xs.all p)) (h := h) (by
  show (match (blsOf (xs.map fun a => .bl (p a))).map fun bs => AV.bl (bs.all id) with | some w => Res.ok w h | none => .stk) = _
  rw [bls_map]
  show Res.ok (AV.bl ((xs.map p).all id)) h = _
  rw [List.all_map]
  rfl) k
theorem l_any {p : AV → Bool} {xs : List AV} (k : Q (.bl (xs.any p)) h) : wp (anyF [.lst (xs.map fun a => .bl (p a))] h) E Q := wp_eq (v := .bl (xs.any p)) (h := h) (by
  show (match (blsOf (xs.map fun a => .bl (p a))).map fun bs => AV.bl (bs.any id) with | some w => Res.ok w h | none => .stk) = _
  rw [bls_map]
  show Res.ok (AV.bl ((xs.map p).any id)) h = _
  rw [List.any_map]
  rfl) k

/-! ### signs, words -/
def low (c : Nat) : Bool := decide (97 ≤ c) && decide (c ≤ 122)
def wordS (s : Str) : Bool := decide (1 ≤ s.length) && decide (s.length ≤ 8) && s.cps.toList.all low
theorem letters_low : ∀ c : Nat, decide (c ∈ ("abcdefghijklmnopqrstuvwxyz" : Str).cps.toList) = low c := by
  have e : ("abcdefghijklmnopqrstuvwxyz" : Str).cps.toList = List.range' 97 26 := by decide +kernel
  intro c
  rw [e]
  unfold low
  rw [← Bool.decide_and]
  apply decide_eq_decide.mpr
  rw [List.mem_range']
  constructor
  · rintro ⟨i, hi, rfl⟩
    omega
  · intro h
    exact ⟨c - 97, by omega, by omega⟩
theorem l_inLow {c : Nat} (k : Q (.bl (low c)) h) : wp (inO (.str ⟨#[c]⟩) (.str "abcdefghijklmnopqrstuvwxyz") h) E Q := wp_eq (v := .bl (low c)) (h := h) (by
  show Res.ok (AV.bl (!(Builtin.Str.occurrences ("abcdefghijklmnopqrstuvwxyz" : Str) ⟨#[c]⟩ 0 ("abcdefghijklmnopqrstuvwxyz" : Str).length 1).isEmpty)) h = _
  rw [PySem.StrLaws.found_one, letters_low]) k
def lowA (a : AV) : Bool := match a with
  | .str z => (match z.cps.toList with
    | [c] => low c
    | _ => false)
  | _ => false
theorem signs_all (s : Str) : (signs s).all lowA = s.cps.toList.all low := by
  unfold signs
  rw [List.all_map]
  rfl
theorem signs_len' (s : Str) : (signs s).length = s.length := by unfold signs; simp [Str.length]
theorem signs_mem {s : Str} {a : AV} (m : a ∈ signs s) : ∃ c ∈ s.cps.toList, a = .str ⟨#[c]⟩ := by
  unfold signs at m
  obtain ⟨c, hc, rfl⟩ := List.mem_map.mp m
  exact ⟨c, hc, rfl⟩
theorem wordS_len {s : Str} (w : wordS s = true) : 1 ≤ s.length ∧ s.length ≤ 8 := by
  unfold wordS at w
  simp only [Bool.and_eq_true, decide_eq_true_eq] at w
  exact w.1

/-! ### rising -/
def adj : List AV → List (AV × AV)
  | a :: b :: r => (a, b) :: adj (b :: r)
  | _ => []
def ltA : AV → AV → Bool
  | .int i, .int j => decide (i < j)
  | .str x, .str y => decide (x.cps.toList < y.cps.toList)
  | _, _ => false
def risB (xs : List AV) : Bool := (adj xs).all fun p => ltA p.1 p.2
/-- both are numbers, or both texts -/
def Like (v w : AV) : Prop := (∃ i j, v = .int i ∧ w = .int j) ∨ ∃ x y, v = .str x ∧ w = .str y
theorem l_lt {v w : AV} (d : Like v w) (k : Q (.bl (ltA v w)) h) : wp (ltO v w h) E Q := by
  rcases d with ⟨i, j, rfl, rfl⟩ | ⟨x, y, rfl, rfl⟩ <;> exact wp_ok k
theorem cut_init (xs : List AV) : cutA xs none (some (-1)) = xs.dropLast := by
  unfold cutA
  rw [List.dropLast_eq_take]
  have e : HT.sIx xs.length xs.length (some (-1)) = xs.length - 1 := by
    show (if (-1 : Int) < 0 then ((-1 : Int) + (xs.length : Int)).toNat else min (-1 : Int).toNat xs.length) = _
    rw [if_pos (by decide)]
    omega
  rw [e]
  show (xs.drop 0).take (xs.length - 1 - 0) = _
  simp
theorem cut_tail (xs : List AV) : cutA xs (some 1) none = xs.tail := by
  unfold cutA
  have e : HT.sIx xs.length 0 (some 1) = min 1 xs.length := by
    show (if (1 : Int) < 0 then ((1 : Int) + (xs.length : Int)).toNat else min (1 : Int).toNat xs.length) = _
    rw [if_neg (by decide)]
    rfl
  rw [e]
  show (xs.drop (min 1 xs.length)).take (xs.length - min 1 xs.length) = _
  cases xs with
  | nil => rfl
  | cons a r =>
    rw [show min 1 (a :: r).length = 1 by simp]
    simp
theorem zip_adj : ∀ xs : List AV, zipI xs.dropLast xs.tail = (adj xs).map fun p => .tup [p.1, p.2]
  | [] => rfl
  | [a] => rfl
  | a :: b :: r => by
    have ih := zip_adj (b :: r)
    show zipI (a :: (b :: r).dropLast) (b :: r) = _
    unfold adj
    rw [List.map_cons, ← ih]
    rfl
theorem adj_len : ∀ xs : List AV, (adj xs).length ≤ xs.length
  | [] => by simp [adj]
  | [a] => by simp [adj]
  | a :: b :: r => by
    have := adj_len (b :: r)
    unfold adj
    simp at this ⊢
    omega
theorem adj_mem : ∀ {xs : List AV} {p : AV × AV}, p ∈ adj xs → p.1 ∈ xs ∧ p.2 ∈ xs
  | [], p, h => by simp [adj] at h
  | [a], p, h => by simp [adj] at h
  | a :: b :: r, p, h => by
    unfold adj at h
    rcases List.mem_cons.mp h with rfl | h
    · simp
    · obtain ⟨h1, h2⟩ := adj_mem h
      exact ⟨List.mem_cons_of_mem _ h1, List.mem_cons_of_mem _ h2⟩
def pairLt (a : AV) : Bool := match a with
  | .tup [x, y] => ltA x y
  | _ => false
theorem ris_pairs (xs : List AV) : ((adj xs).map fun p => AV.tup [p.1, p.2]).all pairLt = risB xs := by
  rw [List.all_map]
  rfl
def Hom (xs : List AV) : Prop := (∀ x ∈ xs, ∃ i, x = .int i) ∨ ∀ x ∈ xs, ∃ s, x = .str s
theorem Hom.like {xs : List AV} (H : Hom xs) {p : AV × AV} (m : p ∈ adj xs) : Like p.1 p.2 := by
  obtain ⟨h1, h2⟩ := adj_mem m
  rcases H with H | H
  · obtain ⟨i, e1⟩ := H _ h1
    obtain ⟨j, e2⟩ := H _ h2
    exact .inl ⟨i, j, e1, e2⟩
  · obtain ⟨i, e1⟩ := H _ h1
    obtain ⟨j, e2⟩ := H _ h2
    exact .inr ⟨i, j, e1, e2⟩
end
/-! ### the pool -/
def Pool (p : Nat) (h : AH) : Prop := ∃ n : Int, 0 ≤ n ∧ h[p]? = some (.lst [.int n])
/-- nothing but the pool has changed -/
def Fr (p : Nat) (h h' : AH) : Prop := h.length ≤ h'.length ∧ ∀ q, q ≠ p → q < h.length → h'[q]? = h[q]?
theorem Fr.refl {p : Nat} {h : AH} : Fr p h h := ⟨Nat.le_refl _, fun _ _ _ => rfl⟩
theorem Fr.trans {p : Nat} {h h1 h2 : AH} (a : Fr p h h1) (b : Fr p h1 h2) : Fr p h h2 := ⟨Nat.le_trans a.1 b.1, fun q hq hl => (b.2 q hq (Nat.lt_of_lt_of_le hl a.1)).trans (a.2 q hq hl)⟩
theorem Fr.set {p : Nat} {h : AH} {o : AO} : Fr p h (h.set p o) := ⟨by simp, fun q hq _ => by rw [List.getElem?_set_ne (Ne.symm hq)]⟩
theorem Fr.push {p : Nat} {h : AH} {o : AO} : Fr p h (h ++ [o]) := ⟨by simp, fun q _ hl => by rw [List.getElem?_append_left hl]⟩
theorem Pool.lt {p : Nat} {h : AH} (P : Pool p h) : p < h.length := by
  obtain ⟨n, _, e⟩ := P
  exact (List.getElem?_eq_some_iff.mp e).1
theorem Pool.push {p : Nat} {h : AH} {o : AO} (P : Pool p h) : Pool p (h ++ [o]) := by
  have l := P.lt
  obtain ⟨n, h0, e⟩ := P
  exact ⟨n, h0, by rw [List.getElem?_append_left l]; exact e⟩
theorem Pool.setNe {p q : Nat} {h : AH} {o : AO} (P : Pool p h) (ne : q ≠ p) : Pool p (h.set q o) := by
  obtain ⟨n, h0, e⟩ := P
  exact ⟨n, h0, by rw [List.getElem?_set_ne ne]; exact e⟩
/-! ### data that == reads -/
def DaD (n : Nat) (v : AV) : Prop := ∃ d, toD v = some d ∧ d.canLay0 = true ∧ d.depth ≤ n
theorem DaD.mono {n m : Nat} {v : AV} (a : DaD n v) (l : n ≤ m) : DaD m v := by
  obtain ⟨d, e, c, q⟩ := a
  exact ⟨d, e, c, by omega⟩
theorem DaD.non {n : Nat} : DaD n .non := ⟨.none, rfl, rfl, by simp [PyData.depth]⟩
theorem DaD.bl {n : Nat} (b : Bool) : DaD n (.bl b) := ⟨.bool b, rfl, rfl, by simp [PyData.depth]⟩
theorem DaD.int {n : Nat} (i : Int) : DaD n (.int i) := ⟨.int i, rfl, rfl, by simp [PyData.depth]⟩
theorem DaD.str {n : Nat} {s : Str} (o : PyData.strOk s = true) : DaD n (.str s) := ⟨.str s, rfl, by simpa [PyData.canLay0] using o, by simp [PyData.depth]⟩
theorem dads {n : Nat} : ∀ {xs : List AV}, (∀ x ∈ xs, DaD n x) → ∃ ds, toDs xs = some ds ∧ PyData.canLayAll0 ds = true ∧ PyData.depthAll ds ≤ n
  | [], _ => ⟨[], rfl, by simp [PyData.canLayAll0], by simp [PyData.depthAll]⟩
  | x :: xs, h => by
    obtain ⟨d, e, c, q⟩ := h x (List.mem_cons_self ..)
    obtain ⟨ds, e2, c2, q2⟩ := dads fun y hy => h y (List.mem_cons_of_mem _ hy)
    refine ⟨d :: ds, ?_, ?_, ?_⟩
    · unfold toDs
      rw [e, e2]
    · unfold PyData.canLayAll0
      rw [c, c2]
      rfl
    · unfold PyData.depthAll
      omega
theorem DaD.tup {n : Nat} {xs : List AV} (h : ∀ x ∈ xs, DaD n x) : DaD (n + 1) (.tup xs) := by
  obtain ⟨ds, e, c, q⟩ := dads h
  refine ⟨.tuple ds, ?_, ?_, ?_⟩
  · unfold toD
    rw [e]
  · unfold PyData.canLay0
    exact c
  · unfold PyData.depth
    omega
theorem DaD.lst {n : Nat} {xs : List AV} (h : ∀ x ∈ xs, DaD n x) : DaD (n + 1) (.lst xs) := by
  obtain ⟨ds, e, c, q⟩ := dads h
  refine ⟨.list ds, ?_, ?_, ?_⟩
  · unfold toD
    rw [e]
  · unfold PyData.canLay0
    exact c
  · unfold PyData.depth
    omega
theorem shaped_of {d : PyData} (c : d.canLay0 = true) (q : d.depth ≤ 64) : SeqAt.shaped d = true := by
  unfold SeqAt.shaped
  rw [c, decide_eq_true q]
  rfl
/-- == as data -/
def eqA (v w : AV) : Bool := match toD v, toD w with
  | some d, some d' => PyData.eqv d d'
  | _, _ => false
theorem eqB_eqA {v w : AV} (a : DaD 64 v) (b : DaD 64 w) : eqB v w = some (eqA v w) := by
  obtain ⟨d, e, c, q⟩ := a
  obtain ⟨d', e', c', q'⟩ := b
  unfold eqB eqA
  split
  · rename_i x y
    have ex : toD (.str x) = some (.str x) := rfl
    have ey : toD (.str y) = some (.str y) := rfl
    rw [ex, ey]
    show some (decide (x = y)) = some (x == y)
    rw [Bool.beq_eq_decide_eq]
  · rw [e, e']
    show (if (SeqAt.shaped d && SeqAt.shaped d') = true then _ else _) = _
    rw [if_pos (by rw [shaped_of c q, shaped_of c' q']; rfl)]
section
variable {E : XE_} {Q : AV → AH → Prop} {h : AH}
theorem l_eq {v w : AV} (a : DaD 64 v) (b : DaD 64 w) (k : Q (.bl (eqA v w)) h) : wp (eqO v w h) E Q := wp_eq (v := .bl (eqA v w)) (h := h) (by
  show (match eqB v w with | some b => Res.ok (AV.bl b) h | none => .stk) = _
  rw [eqB_eqA a b]) k
theorem l_ne {v w : AV} (a : DaD 64 v) (b : DaD 64 w) (k : Q (.bl (!eqA v w)) h) : wp (neO v w h) E Q := wp_eq (v := .bl (!eqA v w)) (h := h) (by
  show (match eqB v w with | some b => Res.ok (AV.bl (!b)) h | none => .stk) = _
  rw [eqB_eqA a b]) k
theorem eqA_nil (xs : List AV) (a : DaD 64 (.tup xs)) : eqA (.tup xs) (.tup []) = xs.isEmpty := by
  obtain ⟨d, e, _⟩ := a
  unfold eqA
  rw [e]
  have e2 : toD (.tup []) = some (.tuple []) := rfl
  rw [e2]
  cases xs with
  | nil => rw [e2] at e; cases e; rfl
  | cons x r =>
    unfold toD at e
    cases q : toDs (x :: r) with
    | none => rw [q] at e; cases e
    | some ds =>
      rw [q] at e
      cases e
      cases ds with
      | nil =>
        unfold toDs at q
        split at q <;> cases q
      | cons d ds => rfl
theorem inB_strs {n : Str} {ss : List Str} (o : PyData.strOk n = true) (os : ∀ s ∈ ss, PyData.strOk s = true) : inB (.str n) (.lst (ss.map .str)) = some (decide (n ∈ ss)) := by
  have e1 : ∀ ss : List Str, toDs (ss.map AV.str) = some (ss.map PyData.str) := by
    intro ss
    induction ss with
    | nil => rfl
    | cons x r ih =>
      show (match toD (.str x), toDs (r.map AV.str) with | some d, some ds => some (d :: ds) | _, _ => none) = _
      rw [ih]
      rfl
  obtain ⟨d, ed, cd, qd⟩ := DaD.lst (n := 0) (xs := ss.map .str) fun x hx => by
    obtain ⟨s, hs, rfl⟩ := List.mem_map.mp hx
    exact .str (os s hs)
  have e2 : toD (.lst (ss.map AV.str)) = some (.list (ss.map .str)) := by
    unfold toD
    rw [e1]
  rw [e2] at ed
  cases ed
  show (match toD (.str n), toDs (ss.map .str) with | some d, some ds => if SeqAt.shaped d && SeqAt.shaped (.list ds) then some (ds.any fun z => PyData.eqv z d) else none | _, _ => none) = _
  rw [e1]
  show (if (SeqAt.shaped (.str n) && SeqAt.shaped (.list (ss.map .str))) = true then some ((ss.map PyData.str).any fun z => PyData.eqv z (.str n)) else none) = _
  rw [if_pos (by rw [shaped_of cd (by omega), shaped_of (d := .str n) (by simpa [PyData.canLay0] using o) (by simp [PyData.depth])]; rfl)]
  congr 1
  rw [List.any_map, Bool.eq_iff_iff, List.any_eq_true, decide_eq_true_eq]
  constructor
  · rintro ⟨x, hx, e⟩
    have e : (x == n) = true := e
    rw [beq_iff_eq] at e
    exact e ▸ hx
  · intro hn
    exact ⟨n, hn, show (n == n) = true from by simp⟩
theorem l_inS {n : Str} {ss : List Str} (o : PyData.strOk n = true) (os : ∀ s ∈ ss, PyData.strOk s = true) (k : Q (.bl (decide (n ∈ ss))) h) : wp (inO (.str n) (.lst (ss.map .str)) h) E Q := wp_eq (v := .bl (decide (n ∈ ss))) (h := h) (by
  show (match inB (.str n) (.lst (ss.map .str)) with | some b => Res.ok (AV.bl b) h | none => .stk) = _
  rw [inB_strs o os]) k
theorem l_notInS {n : Str} {ss : List Str} (o : PyData.strOk n = true) (os : ∀ s ∈ ss, PyData.strOk s = true) (k : Q (.bl (!decide (n ∈ ss))) h) : wp (notInO (.str n) (.lst (ss.map .str)) h) E Q := wp_eq (v := .bl (!decide (n ∈ ss))) (h := h) (by
  show (match inB (.str n) (.lst (ss.map .str)) with | some b => Res.ok (AV.bl (!b)) h | none => .stk) = _
  rw [inB_strs o os]) k
theorem word_ok {s : Str} (w : wordS s = true) : PyData.strOk s = true := by
  unfold wordS at w
  rw [Bool.and_eq_true] at w
  unfold PyData.strOk
  rw [← Array.all_toList, List.all_eq_true]
  intro c hc
  have := List.all_eq_true.mp w.2 c hc
  unfold low at this
  simp only [Bool.and_eq_true, decide_eq_true_eq] at this
  exact decide_eq_true (by omega)
theorem atI_last {α : Type} {xs : List α} {x : α} (e : xs.getLast? = some x) : atI xs (-1) = some x := by
  unfold atI ixN
  cases xs with
  | nil => simp at e
  | cons a r =>
    rw [List.getLast?_eq_getElem?] at e
    rw [if_neg (by decide), if_pos (by simp; omega)]
    show (a :: r)[((-1 : Int) + ((a :: r).length : Int)).toNat]? = some x
    rw [show ((-1 : Int) + ((a :: r).length : Int)).toNat = (a :: r).length - 1 by simp; omega]
    exact e
theorem l_last {xs : List AV} {x : AV} (e : xs.getLast? = some x) (k : Q x h) : wp (idxO (.tup xs) (.int (-1)) h) E Q := wp_eq (v := x) (h := h) (by
  show (match atI xs (-1) with | some x => Res.ok x h | none => .stk) = _
  rw [atI_last e]) k
theorem cut_take (xs : List AV) (j : Nat) : cutA xs none (some (j : Int)) = xs.take j := by
  unfold cutA
  rw [HT.sIx_nat]
  show (xs.drop 0).take (min j xs.length - 0) = _
  rw [List.drop_zero, Nat.sub_zero]
  rcases Nat.le_total j xs.length with l | l
  · rw [Nat.min_eq_left l]
  · rw [Nat.min_eq_right l, List.take_of_length_le l, List.take_of_length_le (Nat.le_refl _)]
theorem enum_get : ∀ {xs : List AV} {i j : Nat} {a : AV}, (enumI i xs)[j]? = some a → ∃ x, xs[j]? = some x ∧ a = .tup [.int ((i + j : Nat) : Int), x]
  | [], i, j, a, e => by simp [enumI] at e
  | x :: r, i, 0, a, e => by
    unfold enumI at e
    simp at e
    exact ⟨x, rfl, by rw [← e]; rfl⟩
  | x :: r, i, j + 1, a, e => by
    unfold enumI at e
    obtain ⟨y, e1, e2⟩ := enum_get (xs := r) (i := i + 1) (j := j) (a := a) (by simpa using e)
    exact ⟨y, by simpa using e1, by rw [e2, show i + 1 + j = i + (j + 1) by omega]⟩
theorem enum_len : ∀ {xs : List AV} {i : Nat}, (enumI i xs).length = xs.length
  | [], _ => rfl
  | x :: r, i => by
    unfold enumI
    simp [enum_len]
end
end AM
/-! ### the law's module -/
namespace Mo
open PySem PySem.Spec PyProof.Rows L2 AM
def top (i : Nat) : Stmt := PySem.Challenge.pw_postalike_k05_states_asked_by_turns.main.body.getD i (.Pass ⟨0, 0, 0, 0⟩)
def f_is_whole : FD := ⟨"is_whole", "is_whole", "is_whole", defArgs (top 10), ["thing"], ["thing"], defBody (top 10), defScope (top 10), fun _ => false, 11, true⟩
def f_is_number : FD := ⟨"is_number", "is_number", "is_number", defArgs (top 11), ["thing"], ["thing"], defBody (top 11), defScope (top 11), fun _ => false, 10, true⟩
def f_is_word : FD := ⟨"is_word", "is_word", "is_word", defArgs (top 12), ["thing"], ["thing", "sign"], defBody (top 12), defScope (top 12), fun _ => false, 12, true⟩
def f_are_rising : FD := ⟨"are_rising", "are_rising", "are_rising", defArgs (top 13), ["things"], ["things", "one", "other"], defBody (top 13), defScope (top 13), fun _ => false, 14, true⟩
def f_are_marks : FD := ⟨"are_marks", "are_marks", "are_marks", defArgs (top 14), ["thing"], ["thing", "mark"], defBody (top 14), defScope (top 14), fun _ => false, 12, true⟩
def f_is_letter : FD := ⟨"is_letter", "is_letter", "is_letter", defArgs (top 18), ["thing"], ["thing", "number", "body", "marks"], defBody (top 18), defScope (top 18), fun _ => false, 11, true⟩
def f_are_letters : FD := ⟨"are_letters", "are_letters", "are_letters", defArgs (top 19), ["thing"], ["thing", "number", "body", "marks", "one"], defBody (top 19), defScope (top 19), fun _ => false, 13, true⟩
def f_is_box : FD := ⟨"is_box", "is_box", "is_box", defArgs (top 20), ["thing", "ahead"], ["thing", "ahead", "life", "name", "letters", "box"], defBody (top 20), defScope (top 20), fun _ => false, 13, true⟩
def f_check_boxes : FD := ⟨"check_boxes", "check_boxes", "check_boxes", defArgs (top 21), ["thing"], ["thing", "place", "box"], defBody (top 21), defScope (top 21), fun _ => false, 13, true⟩
def f_State___init__ : FD := ⟨"State.__init__", "__init__", "State.__init__", defArgs (inClass (top 23) 0), ["self", "boxes"], ["self", "boxes"], defBody (inClass (top 23) 0), defScope (inClass (top 23) 0), fun _ => false, 9, false⟩
def f_State___eq__ : FD := ⟨"State.__eq__", "__eq__", "State.__eq__", defArgs (inClass (top 23) 2), ["self", "other"], ["self", "other"], defBody (inClass (top 23) 2), defScope (inClass (top 23) 2), fun _ => false, 11, true⟩
def f_State_boxes : FD := ⟨"State.boxes", "boxes", "State.boxes", defArgs (inClass (top 23) 5), ["self"], ["self"], defBody (inClass (top 23) 5), defScope (inClass (top 23) 5), fun _ => false, 9, true⟩
def f_State_life_of : FD := ⟨"State.life_of", "life_of", "State.life_of", defArgs (inClass (top 23) 7), ["self", "name"], ["self", "name", "life", "own", "letters"], defBody (inClass (top 23) 7), defScope (inClass (top 23) 7), fun _ => false, 11, true⟩
def f_State_box_of : FD := ⟨"State.box_of", "box_of", "State.box_of", defArgs (inClass (top 23) 8), ["self", "life"], ["self", "life", "box"], defBody (inClass (top 23) 8), defScope (inClass (top 23) 8), fun _ => false, 12, true⟩
def f_State_name_of : FD := ⟨"State.name_of", "name_of", "State.name_of", defArgs (inClass (top 23) 9), ["self", "life"], ["self", "life"], defBody (inClass (top 23) 9), defScope (inClass (top 23) 9), fun _ => false, 11, true⟩
def f_State_letters : FD := ⟨"State.letters", "letters", "State.letters", defArgs (inClass (top 23) 10), ["self", "life"], ["self", "life"], defBody (inClass (top 23) 10), defScope (inClass (top 23) 10), fun _ => false, 11, true⟩
def f_State_letter_at : FD := ⟨"State.letter_at", "letter_at", "State.letter_at", defArgs (inClass (top 23) 11), ["self", "life", "number"], ["self", "life", "number", "own", "body", "marks"], defBody (inClass (top 23) 11), defScope (inClass (top 23) 11), fun _ => false, 11, true⟩
def f__law_pool : FD := ⟨"_law_pool", "_law_pool", "_law_pool", defArgs (top 25), ["_law_script", "_law_k"], ["_law_script", "_law_k", "_law_cell", "_law_mix", "_law_found", "_law_turn"], defBody (top 25), defScope (top 25), fun p => (p.line == 125 && p.col == 11) || (p.line == 119 && p.col == 15), 16, true⟩
def f__law_take : FD := ⟨"_law_take", "_law_take", "_law_take", defArgs (top 26), ["_law_pool_here", "_law_many"], ["_law_pool_here", "_law_many", "_law_digit"], defBody (top 26), defScope (top 26), fun _ => false, 10, true⟩
def f__law_words : FD := ⟨"_law_words", "_law_words", "_law_words", defArgs (top 27), ["_law_pool_here", "_law_many"], ["_law_pool_here", "_law_many", "_law_own", "_law_turn", "_law_letters", "_law_found", "_law_word", "_law_some", "_law_letter", "_law_place", "_law_one"], defBody (top 27), defScope (top 27), fun p => (p.line == 131 && p.col == 62), 16, true⟩
def f__law_marks : FD := ⟨"_law_marks", "_law_marks", "_law_marks", defArgs (top 28), ["_law_pool_here"], ["_law_pool_here", "_law_some", "_law_turn"], defBody (top 28), defScope (top 28), fun _ => false, 15, true⟩
def f__law_boxes : FD := ⟨"_law_boxes", "_law_boxes", "_law_boxes", defArgs (top 29), ["_law_pool_here", "_law_boxes_here", "_law_letters"], ["_law_pool_here", "_law_boxes_here", "_law_letters", "_law_name", "_law_names", "_law_found", "_law_life", "_law_turn", "_law_number", "_law_some"], defBody (top 29), defScope (top 29), fun p => (p.line == 143 && p.col == 86) || (p.line == 145 && p.col == 94), 14, true⟩
def f__law_due : FD := ⟨"_law_due", "_law_due", "_law_due", defArgs (top 30), ["_law_boxes_here", "_law_question"], ["_law_boxes_here", "_law_question", "_law_found", "_law_some", "_law_which", "_law_one", "_law_two", "_law_box", "_law_letter"], defBody (top 30), defScope (top 30), fun _ => false, 15, true⟩
def f__law_met : FD := ⟨"_law_met", "_law_met", "_law_met", defArgs (top 31), ["_law_state", "_law_question"], ["_law_state", "_law_question", "_law_which", "_law_one", "_law_two", "_law_caught", "_law_told", "e"], defBody (top 31), defScope (top 31), fun _ => false, 14, true⟩
def f__law_other : FD := ⟨"_law_other", "_law_other", "_law_other", defArgs (top 32), ["_law_pool_here", "_law_boxes_here"], ["_law_pool_here", "_law_boxes_here", "_law_at", "_law_names", "_law_found", "_law_more", "_law_some", "_law_life", "_law_name", "_law_letters", "_law_one"], defBody (top 32), defScope (top 32), fun p => (p.line == 180 && p.col == 80), 15, true⟩
def f__law_numbers : FD := ⟨"_law_numbers", "_law_numbers", "_law_numbers", defArgs (top 33), ["_law_boxes_here"], ["_law_boxes_here", "_law_found", "_law_life", "_law_name", "_law_letters", "_law_one"], defBody (top 33), defScope (top 33), fun _ => false, 12, true⟩
def f__law_questions : FD := ⟨"_law_questions", "_law_questions", "_law_questions", defArgs (top 34), ["_law_pool_here", "_law_boxes_here", "_law_others"], ["_law_pool_here", "_law_boxes_here", "_law_others", "_law_lives", "_law_names", "_law_turn", "_law_numbers_here", "_law_found", "_law_which", "_law_one", "_law_box"], defBody (top 34), defScope (top 34), fun p => (p.line == 195 && p.col == 82), 14, true⟩
def f__law_right : FD := ⟨"_law_right", "_law_right", "_law_right", defArgs (top 35), ["_law_pool_here", "_law_boxes_here", "_law_others"], ["_law_pool_here", "_law_boxes_here", "_law_others", "_law_question", "_law_states", "_law_held", "_law_state", "_law_some", "_law_told", "_law_shown"], defBody (top 35), defScope (top 35), fun p => (p.line == 211 && p.col == 11) || (p.line == 202 && p.col == 76) || (p.line == 203 && p.col == 25) || (p.line == 209 && p.col == 75), 13, true⟩
def f_law : FD := ⟨"law", "law", "law", defArgs (top 36), ["_law_script"], ["_law_script", "_law_k", "_law_boxes_here", "_law_others", "_law_pool_here", "_law_mix"], defBody (top 36), defScope (top 36), fun _ => false, 12, true⟩
def gl : List (PySem.Str × AV) := [("MOST_BOXES", .int 8), ("MOST_SIGNS", .int 8), ("LETTERS", .str "abcdefghijklmnopqrstuvwxyz"), ("MOST_LETTERS", .int 20), ("NoBox", .glo "NoBox"), ("NoLetter", .glo "NoLetter"), ("State", .glo "State")]
def fr : List PySem.Str := ["range", "max", "min", "len", "tuple", "sum", "abs", "divmod", "zip", "all", "repr", "sorted", "set", "isinstance", "int", "enumerate", "str", "bool"]
def clsN : List PySem.Str := ["NoState", "NoBox", "NoLetter", "State"]
def el : List (PySem.Str × PySem.Str) := [("NoState", "place"), ("NoBox", "box"), ("NoLetter", "letter")]
def hl : List PySem.Str := ["GoneError"]
def ml : List (PySem.Str × PySem.Str × Bool) := [("NoState", "GoneError", false), ("NoBox", "GoneError", true), ("NoLetter", "GoneError", true)]
def cl : List (PySem.Str × PySem.Str) := [("State", "State.__init__")]
def fl : List (PySem.Str × PySem.Str) := [("State", "kept"), ("State", "box"), ("State", "letter")]
def il : List (TN × TN × Bool) := [((.own "NoState"), (.own "NoBox"), false), ((.own "NoState"), (.own "NoLetter"), false), ((.own "NoState"), (.ty "tuple"), false), ((.own "NoState"), (.ty "str"), false), ((.own "NoState"), (.ty "int"), false), ((.own "NoState"), (.ty "bool"), false), ((.own "NoState"), (.own "State"), false), ((.own "NoBox"), (.own "NoBox"), true), ((.own "NoBox"), (.own "NoLetter"), false), ((.own "NoBox"), (.ty "tuple"), false), ((.own "NoBox"), (.ty "str"), false), ((.own "NoBox"), (.ty "int"), false), ((.own "NoBox"), (.ty "bool"), false), ((.own "NoBox"), (.own "State"), false), ((.own "NoLetter"), (.own "NoBox"), false), ((.own "NoLetter"), (.own "NoLetter"), true), ((.own "NoLetter"), (.ty "tuple"), false), ((.own "NoLetter"), (.ty "str"), false), ((.own "NoLetter"), (.ty "int"), false), ((.own "NoLetter"), (.ty "bool"), false), ((.own "NoLetter"), (.own "State"), false), ((.own "State"), (.own "NoBox"), false), ((.own "State"), (.own "NoLetter"), false), ((.own "State"), (.ty "tuple"), false), ((.own "State"), (.ty "str"), false), ((.own "State"), (.ty "int"), false), ((.own "State"), (.ty "bool"), false), ((.own "State"), (.own "State"), true)]
def xl : List PySem.Str := ["NoState", "NoBox", "NoLetter"]
def nl : List PySem.Str := ["State"]
def xfl : List (PySem.Str × PySem.Str) := [("NoState", "place"), ("NoBox", "box"), ("NoLetter", "letter")]
def wl : List MkE := []
def tl : List (PySem.Str × PySem.Str × PySem.Str × Nat) := [("State", "__eq__", "State.__eq__", 1), ("State", "boxes", "State.boxes", 0), ("State", "life_of", "State.life_of", 1), ("State", "name_of", "State.name_of", 1), ("State", "letters", "State.letters", 1), ("State", "letter_at", "State.letter_at", 2), ("State", "box_of", "State.box_of", 1)]
def T : Tab := ⟨[f_is_whole, f_is_number, f_is_word, f_are_rising, f_are_marks, f_is_letter, f_are_letters, f_is_box, f_check_boxes, f_State___init__, f_State___eq__, f_State_boxes, f_State_life_of, f_State_box_of, f_State_name_of, f_State_letters, f_State_letter_at, f__law_pool, f__law_take, f__law_words, f__law_marks, f__law_boxes, f__law_due, f__law_met, f__law_other, f__law_numbers, f__law_questions, f__law_right, f_law], lookA gl, inL fr, [], lookA el, inL hl, look2 ml, lookA cl, inL2 fl, lookI il, inL xl, inL nl, inL2 xfl, lookW wl, lookM tl⟩
def fn : List He.DefD := [⟨("is_whole", none), "is_whole", "is_whole", defArgs (top 10), defBody (top 10), defScope (top 10), [], []⟩,
  ⟨("is_number", none), "is_number", "is_number", defArgs (top 11), defBody (top 11), defScope (top 11), [], []⟩,
  ⟨("is_word", none), "is_word", "is_word", defArgs (top 12), defBody (top 12), defScope (top 12), [], []⟩,
  ⟨("are_rising", none), "are_rising", "are_rising", defArgs (top 13), defBody (top 13), defScope (top 13), [], []⟩,
  ⟨("are_marks", none), "are_marks", "are_marks", defArgs (top 14), defBody (top 14), defScope (top 14), [], []⟩,
  ⟨("is_letter", none), "is_letter", "is_letter", defArgs (top 18), defBody (top 18), defScope (top 18), [], []⟩,
  ⟨("are_letters", none), "are_letters", "are_letters", defArgs (top 19), defBody (top 19), defScope (top 19), [], []⟩,
  ⟨("is_box", none), "is_box", "is_box", defArgs (top 20), defBody (top 20), defScope (top 20), [], []⟩,
  ⟨("check_boxes", none), "check_boxes", "check_boxes", defArgs (top 21), defBody (top 21), defScope (top 21), [], []⟩,
  ⟨("State", some "__init__"), "__init__", "State.__init__", defArgs (inClass (top 23) 0), defBody (inClass (top 23) 0), defScope (inClass (top 23) 0), [.adr (He.dflAt ("State", some "__init__") 0)], []⟩,
  ⟨("State", some "__eq__"), "__eq__", "State.__eq__", defArgs (inClass (top 23) 2), defBody (inClass (top 23) 2), defScope (inClass (top 23) 2), [], []⟩,
  ⟨("State", some "boxes"), "boxes", "State.boxes", defArgs (inClass (top 23) 5), defBody (inClass (top 23) 5), defScope (inClass (top 23) 5), [], []⟩,
  ⟨("State", some "life_of"), "life_of", "State.life_of", defArgs (inClass (top 23) 7), defBody (inClass (top 23) 7), defScope (inClass (top 23) 7), [], []⟩,
  ⟨("State", some "box_of"), "box_of", "State.box_of", defArgs (inClass (top 23) 8), defBody (inClass (top 23) 8), defScope (inClass (top 23) 8), [], []⟩,
  ⟨("State", some "name_of"), "name_of", "State.name_of", defArgs (inClass (top 23) 9), defBody (inClass (top 23) 9), defScope (inClass (top 23) 9), [], []⟩,
  ⟨("State", some "letters"), "letters", "State.letters", defArgs (inClass (top 23) 10), defBody (inClass (top 23) 10), defScope (inClass (top 23) 10), [], []⟩,
  ⟨("State", some "letter_at"), "letter_at", "State.letter_at", defArgs (inClass (top 23) 11), defBody (inClass (top 23) 11), defScope (inClass (top 23) 11), [], []⟩,
  ⟨("_law_pool", none), "_law_pool", "_law_pool", defArgs (top 25), defBody (top 25), defScope (top 25), [], []⟩,
  ⟨("_law_take", none), "_law_take", "_law_take", defArgs (top 26), defBody (top 26), defScope (top 26), [], []⟩,
  ⟨("_law_words", none), "_law_words", "_law_words", defArgs (top 27), defBody (top 27), defScope (top 27), [], []⟩,
  ⟨("_law_marks", none), "_law_marks", "_law_marks", defArgs (top 28), defBody (top 28), defScope (top 28), [], []⟩,
  ⟨("_law_boxes", none), "_law_boxes", "_law_boxes", defArgs (top 29), defBody (top 29), defScope (top 29), [], []⟩,
  ⟨("_law_due", none), "_law_due", "_law_due", defArgs (top 30), defBody (top 30), defScope (top 30), [], []⟩,
  ⟨("_law_met", none), "_law_met", "_law_met", defArgs (top 31), defBody (top 31), defScope (top 31), [], []⟩,
  ⟨("_law_other", none), "_law_other", "_law_other", defArgs (top 32), defBody (top 32), defScope (top 32), [], []⟩,
  ⟨("_law_numbers", none), "_law_numbers", "_law_numbers", defArgs (top 33), defBody (top 33), defScope (top 33), [], []⟩,
  ⟨("_law_questions", none), "_law_questions", "_law_questions", defArgs (top 34), defBody (top 34), defScope (top 34), [], []⟩,
  ⟨("_law_right", none), "_law_right", "_law_right", defArgs (top 35), defBody (top 35), defScope (top 35), [], []⟩,
  ⟨("law", none), "law", "law", defArgs (top 36), defBody (top 36), defScope (top 36), [], []⟩,
  ⟨("NoState", some "__init__"), "__init__", "NoState.__init__", defArgs (inClass (top 4) 0), defBody (inClass (top 4) 0), defScope (inClass (top 4) 0), [], []⟩,
  ⟨("NoBox", some "__init__"), "__init__", "NoBox.__init__", defArgs (inClass (top 5) 0), defBody (inClass (top 5) 0), defScope (inClass (top 5) 0), [], []⟩,
  ⟨("NoLetter", some "__init__"), "__init__", "NoLetter.__init__", defArgs (inClass (top 6) 0), defBody (inClass (top 6) 0), defScope (inClass (top 6) 0), [], []⟩]
def fa : List He.Fa := [.glo "is_whole", .glo "is_number", .glo "is_word", .glo "are_rising", .glo "are_marks", .glo "is_letter", .glo "are_letters", .glo "is_box", .glo "check_boxes", .glo "_law_pool", .glo "_law_take", .glo "_law_words", .glo "_law_marks", .glo "_law_boxes", .glo "_law_due", .glo "_law_met", .glo "_law_other", .glo "_law_numbers", .glo "_law_questions", .glo "_law_right", .glo "law", .free "range", .free "max", .free "min", .free "len", .free "tuple", .free "sum", .free "abs", .free "divmod", .free "zip", .free "all", .free "repr", .free "sorted", .free "set", .free "isinstance", .free "int", .free "enumerate", .free "str", .free "bool", .int "MOST_BOXES" 8, .int "MOST_SIGNS" 8, .str "LETTERS" "abcdefghijklmnopqrstuvwxyz", .int "MOST_LETTERS" 20, .glo "NoState", .glo "NoBox", .glo "NoLetter", .glo "State", .glo "PostError", .glo "GoneError", .exm "NoState" "GoneError" false, .exm "NoBox" "GoneError" true, .exm "NoLetter" "GoneError" true, .mkr "State", .cls "State", .noat "State" "kept", .noat "State" "box", .noat "State" "letter", .meth "State" "__eq__", .meth "State" "boxes", .meth "State" "life_of", .meth "State" "name_of", .meth "State" "letters", .meth "State" "letter_at", .meth "State" "box_of"]
def ex : List (PySem.W.Frag → Bool) := [AM.excB .ve "NoState" "place" "PostError", AM.excB .le "NoBox" "box" "GoneError", AM.excB .le "NoLetter" "letter" "GoneError", AM.kitE (.own "NoState") (.own "NoBox") false, AM.kitE (.own "NoState") (.own "NoLetter") false, AM.kitE (.own "NoState") (.ty "tuple") false, AM.kitE (.own "NoState") (.ty "str") false, AM.kitE (.own "NoState") (.ty "int") false, AM.kitE (.own "NoState") (.ty "bool") false, AM.kitE (.own "NoState") (.own "State") false, AM.kitE (.own "NoBox") (.own "NoBox") true, AM.kitE (.own "NoBox") (.own "NoLetter") false, AM.kitE (.own "NoBox") (.ty "tuple") false, AM.kitE (.own "NoBox") (.ty "str") false, AM.kitE (.own "NoBox") (.ty "int") false, AM.kitE (.own "NoBox") (.ty "bool") false, AM.kitE (.own "NoBox") (.own "State") false, AM.kitE (.own "NoLetter") (.own "NoBox") false, AM.kitE (.own "NoLetter") (.own "NoLetter") true, AM.kitE (.own "NoLetter") (.ty "tuple") false, AM.kitE (.own "NoLetter") (.ty "str") false, AM.kitE (.own "NoLetter") (.ty "int") false, AM.kitE (.own "NoLetter") (.ty "bool") false, AM.kitE (.own "NoLetter") (.own "State") false, AM.kitE (.own "State") (.own "NoBox") false, AM.kitE (.own "State") (.own "NoLetter") false, AM.kitE (.own "State") (.ty "tuple") false, AM.kitE (.own "State") (.ty "str") false, AM.kitE (.own "State") (.ty "int") false, AM.kitE (.own "State") (.ty "bool") false, AM.kitE (.own "State") (.own "State") true, AM.xvE "NoState", AM.xvE "NoBox", AM.xvE "NoLetter", AM.xfE "NoState" "place", AM.xfE "NoBox" "box", AM.xfE "NoLetter" "letter", AM.incE "State"]
abbrev R : PySem.W.OpenRow := PySem.W.OpenLaw.row PySem.Challenge.rw_postalike_k05_states_asked_by_turns
abbrev hk : PySem.W.Hook := hookA 5 fa fn (allB ex)
def ob (s : PySem.W.SharedT) : AlA := obsA 5 fa fn (allB ex) (HandSHeadRun.getT s)
theorem ob_eq (s : PySem.W.SharedT) : ob s = hk.obs s.abs := obsA_eq (HandSHeadRun.getT_eq s)
def names : List PySem.Str := [("_wall" : PySem.Str), ("PostError" : PySem.Str), ("GoneError" : PySem.Str), ("NoState" : PySem.Str), ("NoBox" : PySem.Str), ("NoLetter" : PySem.Str), ("LETTERS" : PySem.Str), ("MOST_SIGNS" : PySem.Str), ("is_whole" : PySem.Str), ("is_number" : PySem.Str), ("is_word" : PySem.Str), ("are_rising" : PySem.Str), ("are_marks" : PySem.Str), ("MOST_BOXES" : PySem.Str), ("MOST_LETTERS" : PySem.Str), ("is_letter" : PySem.Str), ("are_letters" : PySem.Str), ("is_box" : PySem.Str), ("check_boxes" : PySem.Str), ("box_lines" : PySem.Str), ("State" : PySem.Str), ("_law_pool" : PySem.Str), ("_law_take" : PySem.Str), ("_law_words" : PySem.Str), ("_law_marks" : PySem.Str), ("_law_boxes" : PySem.Str), ("_law_due" : PySem.Str), ("_law_met" : PySem.Str), ("_law_other" : PySem.Str), ("_law_numbers" : PySem.Str), ("_law_questions" : PySem.Str), ("_law_right" : PySem.Str)]
theorem run (w : World) : HandSHeadRun.RunEq R (PySem.W.view R.prog [36]) hk ob 40000 names w := by
  intro os
  kernel_rfl
theorem atF_is_whole {K : PySem.W.Frag} {h : Heap} {mg : PySem.Str → Option Value} (X : K.In h) (G : h.Ns mainGlobals mg) (c : SaysA fa fn (allB ex) K) : ∃ fd, At T K mg f_is_whole.key f_is_whole (He.fAd K ("is_whole", none)) fd ∧ FunD K "is_whole" "is_whole" (defArgs (top 10)) (defBody (top 10)) (defScope (top 10)) (He.DefD.dvs K ⟨("is_whole", none), "is_whole", "is_whole", defArgs (top 10), defBody (top 10), defScope (top 10), [], []⟩) [] (He.fAd K ("is_whole", none)) fd := by
  obtain ⟨fd, F⟩ := c.d.def_ 0 (d := ⟨("is_whole", none), "is_whole", "is_whole", defArgs (top 10), defBody (top 10), defScope (top 10), [], []⟩) rfl
  exact ⟨fd, ⟨⟨[], [], fun _ => ⟨rfl, rfl⟩, F⟩, fun _ => He.glo_ok X G (c.d.fact 0 (f := .glo "is_whole") rfl), ⟨rfl, rfl, rfl, by decide +kernel, rfl, by decide +kernel, by decide +kernel⟩, F.bindsN fun _ _ _ _ _ _ us hl => match us, hl with | [_], _ => rfl, fun e he hx => absurd hx ((by decide +kernel : ∀ e ∈ T.kws, e.x ≠ "is_whole") e he)⟩, F⟩
theorem at_is_whole {K : PySem.W.Frag} {h : Heap} {mg : PySem.Str → Option Value} (X : K.In h) (G : h.Ns mainGlobals mg) (c : SaysA fa fn (allB ex) K) : ∃ fd, At T K mg f_is_whole.key f_is_whole (He.fAd K ("is_whole", none)) fd := by
  obtain ⟨fd, a, _⟩ := atF_is_whole X G c
  exact ⟨fd, a⟩
theorem atF_is_number {K : PySem.W.Frag} {h : Heap} {mg : PySem.Str → Option Value} (X : K.In h) (G : h.Ns mainGlobals mg) (c : SaysA fa fn (allB ex) K) : ∃ fd, At T K mg f_is_number.key f_is_number (He.fAd K ("is_number", none)) fd ∧ FunD K "is_number" "is_number" (defArgs (top 11)) (defBody (top 11)) (defScope (top 11)) (He.DefD.dvs K ⟨("is_number", none), "is_number", "is_number", defArgs (top 11), defBody (top 11), defScope (top 11), [], []⟩) [] (He.fAd K ("is_number", none)) fd := by
  obtain ⟨fd, F⟩ := c.d.def_ 1 (d := ⟨("is_number", none), "is_number", "is_number", defArgs (top 11), defBody (top 11), defScope (top 11), [], []⟩) rfl
  exact ⟨fd, ⟨⟨[], [], fun _ => ⟨rfl, rfl⟩, F⟩, fun _ => He.glo_ok X G (c.d.fact 1 (f := .glo "is_number") rfl), ⟨rfl, rfl, rfl, by decide +kernel, rfl, by decide +kernel, by decide +kernel⟩, F.bindsN fun _ _ _ _ _ _ us hl => match us, hl with | [_], _ => rfl, fun e he hx => absurd hx ((by decide +kernel : ∀ e ∈ T.kws, e.x ≠ "is_number") e he)⟩, F⟩
theorem at_is_number {K : PySem.W.Frag} {h : Heap} {mg : PySem.Str → Option Value} (X : K.In h) (G : h.Ns mainGlobals mg) (c : SaysA fa fn (allB ex) K) : ∃ fd, At T K mg f_is_number.key f_is_number (He.fAd K ("is_number", none)) fd := by
  obtain ⟨fd, a, _⟩ := atF_is_number X G c
  exact ⟨fd, a⟩
theorem atF_is_word {K : PySem.W.Frag} {h : Heap} {mg : PySem.Str → Option Value} (X : K.In h) (G : h.Ns mainGlobals mg) (c : SaysA fa fn (allB ex) K) : ∃ fd, At T K mg f_is_word.key f_is_word (He.fAd K ("is_word", none)) fd ∧ FunD K "is_word" "is_word" (defArgs (top 12)) (defBody (top 12)) (defScope (top 12)) (He.DefD.dvs K ⟨("is_word", none), "is_word", "is_word", defArgs (top 12), defBody (top 12), defScope (top 12), [], []⟩) [] (He.fAd K ("is_word", none)) fd := by
  obtain ⟨fd, F⟩ := c.d.def_ 2 (d := ⟨("is_word", none), "is_word", "is_word", defArgs (top 12), defBody (top 12), defScope (top 12), [], []⟩) rfl
  exact ⟨fd, ⟨⟨[], [], fun _ => ⟨rfl, rfl⟩, F⟩, fun _ => He.glo_ok X G (c.d.fact 2 (f := .glo "is_word") rfl), ⟨rfl, rfl, rfl, by decide +kernel, rfl, by decide +kernel, by decide +kernel⟩, F.bindsN fun _ _ _ _ _ _ us hl => match us, hl with | [_], _ => rfl, fun e he hx => absurd hx ((by decide +kernel : ∀ e ∈ T.kws, e.x ≠ "is_word") e he)⟩, F⟩
theorem at_is_word {K : PySem.W.Frag} {h : Heap} {mg : PySem.Str → Option Value} (X : K.In h) (G : h.Ns mainGlobals mg) (c : SaysA fa fn (allB ex) K) : ∃ fd, At T K mg f_is_word.key f_is_word (He.fAd K ("is_word", none)) fd := by
  obtain ⟨fd, a, _⟩ := atF_is_word X G c
  exact ⟨fd, a⟩
theorem atF_are_rising {K : PySem.W.Frag} {h : Heap} {mg : PySem.Str → Option Value} (X : K.In h) (G : h.Ns mainGlobals mg) (c : SaysA fa fn (allB ex) K) : ∃ fd, At T K mg f_are_rising.key f_are_rising (He.fAd K ("are_rising", none)) fd ∧ FunD K "are_rising" "are_rising" (defArgs (top 13)) (defBody (top 13)) (defScope (top 13)) (He.DefD.dvs K ⟨("are_rising", none), "are_rising", "are_rising", defArgs (top 13), defBody (top 13), defScope (top 13), [], []⟩) [] (He.fAd K ("are_rising", none)) fd := by
  obtain ⟨fd, F⟩ := c.d.def_ 3 (d := ⟨("are_rising", none), "are_rising", "are_rising", defArgs (top 13), defBody (top 13), defScope (top 13), [], []⟩) rfl
  exact ⟨fd, ⟨⟨[], [], fun _ => ⟨rfl, rfl⟩, F⟩, fun _ => He.glo_ok X G (c.d.fact 3 (f := .glo "are_rising") rfl), ⟨rfl, rfl, rfl, by decide +kernel, rfl, by decide +kernel, by decide +kernel⟩, F.bindsN fun _ _ _ _ _ _ us hl => match us, hl with | [_], _ => rfl, fun e he hx => absurd hx ((by decide +kernel : ∀ e ∈ T.kws, e.x ≠ "are_rising") e he)⟩, F⟩
theorem at_are_rising {K : PySem.W.Frag} {h : Heap} {mg : PySem.Str → Option Value} (X : K.In h) (G : h.Ns mainGlobals mg) (c : SaysA fa fn (allB ex) K) : ∃ fd, At T K mg f_are_rising.key f_are_rising (He.fAd K ("are_rising", none)) fd := by
  obtain ⟨fd, a, _⟩ := atF_are_rising X G c
  exact ⟨fd, a⟩
theorem atF_are_marks {K : PySem.W.Frag} {h : Heap} {mg : PySem.Str → Option Value} (X : K.In h) (G : h.Ns mainGlobals mg) (c : SaysA fa fn (allB ex) K) : ∃ fd, At T K mg f_are_marks.key f_are_marks (He.fAd K ("are_marks", none)) fd ∧ FunD K "are_marks" "are_marks" (defArgs (top 14)) (defBody (top 14)) (defScope (top 14)) (He.DefD.dvs K ⟨("are_marks", none), "are_marks", "are_marks", defArgs (top 14), defBody (top 14), defScope (top 14), [], []⟩) [] (He.fAd K ("are_marks", none)) fd := by
  obtain ⟨fd, F⟩ := c.d.def_ 4 (d := ⟨("are_marks", none), "are_marks", "are_marks", defArgs (top 14), defBody (top 14), defScope (top 14), [], []⟩) rfl
  exact ⟨fd, ⟨⟨[], [], fun _ => ⟨rfl, rfl⟩, F⟩, fun _ => He.glo_ok X G (c.d.fact 4 (f := .glo "are_marks") rfl), ⟨rfl, rfl, rfl, by decide +kernel, rfl, by decide +kernel, by decide +kernel⟩, F.bindsN fun _ _ _ _ _ _ us hl => match us, hl with | [_], _ => rfl, fun e he hx => absurd hx ((by decide +kernel : ∀ e ∈ T.kws, e.x ≠ "are_marks") e he)⟩, F⟩
theorem at_are_marks {K : PySem.W.Frag} {h : Heap} {mg : PySem.Str → Option Value} (X : K.In h) (G : h.Ns mainGlobals mg) (c : SaysA fa fn (allB ex) K) : ∃ fd, At T K mg f_are_marks.key f_are_marks (He.fAd K ("are_marks", none)) fd := by
  obtain ⟨fd, a, _⟩ := atF_are_marks X G c
  exact ⟨fd, a⟩
theorem atF_is_letter {K : PySem.W.Frag} {h : Heap} {mg : PySem.Str → Option Value} (X : K.In h) (G : h.Ns mainGlobals mg) (c : SaysA fa fn (allB ex) K) : ∃ fd, At T K mg f_is_letter.key f_is_letter (He.fAd K ("is_letter", none)) fd ∧ FunD K "is_letter" "is_letter" (defArgs (top 18)) (defBody (top 18)) (defScope (top 18)) (He.DefD.dvs K ⟨("is_letter", none), "is_letter", "is_letter", defArgs (top 18), defBody (top 18), defScope (top 18), [], []⟩) [] (He.fAd K ("is_letter", none)) fd := by
  obtain ⟨fd, F⟩ := c.d.def_ 5 (d := ⟨("is_letter", none), "is_letter", "is_letter", defArgs (top 18), defBody (top 18), defScope (top 18), [], []⟩) rfl
  exact ⟨fd, ⟨⟨[], [], fun _ => ⟨rfl, rfl⟩, F⟩, fun _ => He.glo_ok X G (c.d.fact 5 (f := .glo "is_letter") rfl), ⟨rfl, rfl, rfl, by decide +kernel, rfl, by decide +kernel, by decide +kernel⟩, F.bindsN fun _ _ _ _ _ _ us hl => match us, hl with | [_], _ => rfl, fun e he hx => absurd hx ((by decide +kernel : ∀ e ∈ T.kws, e.x ≠ "is_letter") e he)⟩, F⟩
theorem at_is_letter {K : PySem.W.Frag} {h : Heap} {mg : PySem.Str → Option Value} (X : K.In h) (G : h.Ns mainGlobals mg) (c : SaysA fa fn (allB ex) K) : ∃ fd, At T K mg f_is_letter.key f_is_letter (He.fAd K ("is_letter", none)) fd := by
  obtain ⟨fd, a, _⟩ := atF_is_letter X G c
  exact ⟨fd, a⟩
theorem atF_are_letters {K : PySem.W.Frag} {h : Heap} {mg : PySem.Str → Option Value} (X : K.In h) (G : h.Ns mainGlobals mg) (c : SaysA fa fn (allB ex) K) : ∃ fd, At T K mg f_are_letters.key f_are_letters (He.fAd K ("are_letters", none)) fd ∧ FunD K "are_letters" "are_letters" (defArgs (top 19)) (defBody (top 19)) (defScope (top 19)) (He.DefD.dvs K ⟨("are_letters", none), "are_letters", "are_letters", defArgs (top 19), defBody (top 19), defScope (top 19), [], []⟩) [] (He.fAd K ("are_letters", none)) fd := by
  obtain ⟨fd, F⟩ := c.d.def_ 6 (d := ⟨("are_letters", none), "are_letters", "are_letters", defArgs (top 19), defBody (top 19), defScope (top 19), [], []⟩) rfl
  exact ⟨fd, ⟨⟨[], [], fun _ => ⟨rfl, rfl⟩, F⟩, fun _ => He.glo_ok X G (c.d.fact 6 (f := .glo "are_letters") rfl), ⟨rfl, rfl, rfl, by decide +kernel, rfl, by decide +kernel, by decide +kernel⟩, F.bindsN fun _ _ _ _ _ _ us hl => match us, hl with | [_], _ => rfl, fun e he hx => absurd hx ((by decide +kernel : ∀ e ∈ T.kws, e.x ≠ "are_letters") e he)⟩, F⟩
theorem at_are_letters {K : PySem.W.Frag} {h : Heap} {mg : PySem.Str → Option Value} (X : K.In h) (G : h.Ns mainGlobals mg) (c : SaysA fa fn (allB ex) K) : ∃ fd, At T K mg f_are_letters.key f_are_letters (He.fAd K ("are_letters", none)) fd := by
  obtain ⟨fd, a, _⟩ := atF_are_letters X G c
  exact ⟨fd, a⟩
theorem atF_is_box {K : PySem.W.Frag} {h : Heap} {mg : PySem.Str → Option Value} (X : K.In h) (G : h.Ns mainGlobals mg) (c : SaysA fa fn (allB ex) K) : ∃ fd, At T K mg f_is_box.key f_is_box (He.fAd K ("is_box", none)) fd ∧ FunD K "is_box" "is_box" (defArgs (top 20)) (defBody (top 20)) (defScope (top 20)) (He.DefD.dvs K ⟨("is_box", none), "is_box", "is_box", defArgs (top 20), defBody (top 20), defScope (top 20), [], []⟩) [] (He.fAd K ("is_box", none)) fd := by
  obtain ⟨fd, F⟩ := c.d.def_ 7 (d := ⟨("is_box", none), "is_box", "is_box", defArgs (top 20), defBody (top 20), defScope (top 20), [], []⟩) rfl
  exact ⟨fd, ⟨⟨[], [], fun _ => ⟨rfl, rfl⟩, F⟩, fun _ => He.glo_ok X G (c.d.fact 7 (f := .glo "is_box") rfl), ⟨rfl, rfl, rfl, by decide +kernel, rfl, by decide +kernel, by decide +kernel⟩, F.bindsN fun _ _ _ _ _ _ us hl => match us, hl with | [_, _], _ => rfl, fun e he hx => absurd hx ((by decide +kernel : ∀ e ∈ T.kws, e.x ≠ "is_box") e he)⟩, F⟩
theorem at_is_box {K : PySem.W.Frag} {h : Heap} {mg : PySem.Str → Option Value} (X : K.In h) (G : h.Ns mainGlobals mg) (c : SaysA fa fn (allB ex) K) : ∃ fd, At T K mg f_is_box.key f_is_box (He.fAd K ("is_box", none)) fd := by
  obtain ⟨fd, a, _⟩ := atF_is_box X G c
  exact ⟨fd, a⟩
theorem atF_check_boxes {K : PySem.W.Frag} {h : Heap} {mg : PySem.Str → Option Value} (X : K.In h) (G : h.Ns mainGlobals mg) (c : SaysA fa fn (allB ex) K) : ∃ fd, At T K mg f_check_boxes.key f_check_boxes (He.fAd K ("check_boxes", none)) fd ∧ FunD K "check_boxes" "check_boxes" (defArgs (top 21)) (defBody (top 21)) (defScope (top 21)) (He.DefD.dvs K ⟨("check_boxes", none), "check_boxes", "check_boxes", defArgs (top 21), defBody (top 21), defScope (top 21), [], []⟩) [] (He.fAd K ("check_boxes", none)) fd := by
  obtain ⟨fd, F⟩ := c.d.def_ 8 (d := ⟨("check_boxes", none), "check_boxes", "check_boxes", defArgs (top 21), defBody (top 21), defScope (top 21), [], []⟩) rfl
  exact ⟨fd, ⟨⟨[], [], fun _ => ⟨rfl, rfl⟩, F⟩, fun _ => He.glo_ok X G (c.d.fact 8 (f := .glo "check_boxes") rfl), ⟨rfl, rfl, rfl, by decide +kernel, rfl, by decide +kernel, by decide +kernel⟩, F.bindsN fun _ _ _ _ _ _ us hl => match us, hl with | [_], _ => rfl, fun e he hx => absurd hx ((by decide +kernel : ∀ e ∈ T.kws, e.x ≠ "check_boxes") e he)⟩, F⟩
theorem at_check_boxes {K : PySem.W.Frag} {h : Heap} {mg : PySem.Str → Option Value} (X : K.In h) (G : h.Ns mainGlobals mg) (c : SaysA fa fn (allB ex) K) : ∃ fd, At T K mg f_check_boxes.key f_check_boxes (He.fAd K ("check_boxes", none)) fd := by
  obtain ⟨fd, a, _⟩ := atF_check_boxes X G c
  exact ⟨fd, a⟩
theorem atF_State___init__ {K : PySem.W.Frag} {h : Heap} {mg : PySem.Str → Option Value} (X : K.In h) (G : h.Ns mainGlobals mg) (c : SaysA fa fn (allB ex) K) : ∃ fd, At T K mg f_State___init__.key f_State___init__ (He.fAd K ("State", some "__init__")) fd ∧ FunD K "__init__" "State.__init__" (defArgs (inClass (top 23) 0)) (defBody (inClass (top 23) 0)) (defScope (inClass (top 23) 0)) (He.DefD.dvs K ⟨("State", some "__init__"), "__init__", "State.__init__", defArgs (inClass (top 23) 0), defBody (inClass (top 23) 0), defScope (inClass (top 23) 0), [.adr (He.dflAt ("State", some "__init__") 0)], []⟩) [] (He.fAd K ("State", some "__init__")) fd := by
  obtain ⟨fd, F⟩ := c.d.def_ 9 (d := ⟨("State", some "__init__"), "__init__", "State.__init__", defArgs (inClass (top 23) 0), defBody (inClass (top 23) 0), defScope (inClass (top 23) 0), [.adr (He.dflAt ("State", some "__init__") 0)], []⟩) rfl
  exact ⟨fd, ⟨⟨_, _, fun h => absurd h (by decide), F⟩, fun h => absurd h (by decide +kernel), ⟨rfl, rfl, rfl, by decide +kernel, rfl, by decide +kernel, by decide +kernel⟩, bindsD F 2 1 rfl rfl (by simp [He.DefD.dvs]) fun _ _ _ _ _ _ _ us its h1 h2 => match us, its, h1, h2 with | [_, _], [_], _, _ => ⟨_, rfl, rfl⟩, fun e he hx => absurd hx ((by decide +kernel : ∀ e ∈ T.kws, e.x ≠ "State.__init__") e he)⟩, F⟩
theorem at_State___init__ {K : PySem.W.Frag} {h : Heap} {mg : PySem.Str → Option Value} (X : K.In h) (G : h.Ns mainGlobals mg) (c : SaysA fa fn (allB ex) K) : ∃ fd, At T K mg f_State___init__.key f_State___init__ (He.fAd K ("State", some "__init__")) fd := by
  obtain ⟨fd, a, _⟩ := atF_State___init__ X G c
  exact ⟨fd, a⟩
theorem atF_State___eq__ {K : PySem.W.Frag} {h : Heap} {mg : PySem.Str → Option Value} (X : K.In h) (G : h.Ns mainGlobals mg) (c : SaysA fa fn (allB ex) K) : ∃ fd, At T K mg f_State___eq__.key f_State___eq__ (He.fAd K ("State", some "__eq__")) fd ∧ FunD K "__eq__" "State.__eq__" (defArgs (inClass (top 23) 2)) (defBody (inClass (top 23) 2)) (defScope (inClass (top 23) 2)) (He.DefD.dvs K ⟨("State", some "__eq__"), "__eq__", "State.__eq__", defArgs (inClass (top 23) 2), defBody (inClass (top 23) 2), defScope (inClass (top 23) 2), [], []⟩) [] (He.fAd K ("State", some "__eq__")) fd := by
  obtain ⟨fd, F⟩ := c.d.def_ 10 (d := ⟨("State", some "__eq__"), "__eq__", "State.__eq__", defArgs (inClass (top 23) 2), defBody (inClass (top 23) 2), defScope (inClass (top 23) 2), [], []⟩) rfl
  exact ⟨fd, ⟨⟨[], [], fun _ => ⟨rfl, rfl⟩, F⟩, fun h => absurd h (by decide +kernel), ⟨rfl, rfl, rfl, by decide +kernel, rfl, by decide +kernel, by decide +kernel⟩, F.bindsN fun _ _ _ _ _ _ us hl => match us, hl with | [_, _], _ => rfl, fun e he hx => absurd hx ((by decide +kernel : ∀ e ∈ T.kws, e.x ≠ "State.__eq__") e he)⟩, F⟩
theorem at_State___eq__ {K : PySem.W.Frag} {h : Heap} {mg : PySem.Str → Option Value} (X : K.In h) (G : h.Ns mainGlobals mg) (c : SaysA fa fn (allB ex) K) : ∃ fd, At T K mg f_State___eq__.key f_State___eq__ (He.fAd K ("State", some "__eq__")) fd := by
  obtain ⟨fd, a, _⟩ := atF_State___eq__ X G c
  exact ⟨fd, a⟩
theorem atF_State_boxes {K : PySem.W.Frag} {h : Heap} {mg : PySem.Str → Option Value} (X : K.In h) (G : h.Ns mainGlobals mg) (c : SaysA fa fn (allB ex) K) : ∃ fd, At T K mg f_State_boxes.key f_State_boxes (He.fAd K ("State", some "boxes")) fd ∧ FunD K "boxes" "State.boxes" (defArgs (inClass (top 23) 5)) (defBody (inClass (top 23) 5)) (defScope (inClass (top 23) 5)) (He.DefD.dvs K ⟨("State", some "boxes"), "boxes", "State.boxes", defArgs (inClass (top 23) 5), defBody (inClass (top 23) 5), defScope (inClass (top 23) 5), [], []⟩) [] (He.fAd K ("State", some "boxes")) fd := by
  obtain ⟨fd, F⟩ := c.d.def_ 11 (d := ⟨("State", some "boxes"), "boxes", "State.boxes", defArgs (inClass (top 23) 5), defBody (inClass (top 23) 5), defScope (inClass (top 23) 5), [], []⟩) rfl
  exact ⟨fd, ⟨⟨[], [], fun _ => ⟨rfl, rfl⟩, F⟩, fun h => absurd h (by decide +kernel), ⟨rfl, rfl, rfl, by decide +kernel, rfl, by decide +kernel, by decide +kernel⟩, F.bindsN fun _ _ _ _ _ _ us hl => match us, hl with | [_], _ => rfl, fun e he hx => absurd hx ((by decide +kernel : ∀ e ∈ T.kws, e.x ≠ "State.boxes") e he)⟩, F⟩
theorem at_State_boxes {K : PySem.W.Frag} {h : Heap} {mg : PySem.Str → Option Value} (X : K.In h) (G : h.Ns mainGlobals mg) (c : SaysA fa fn (allB ex) K) : ∃ fd, At T K mg f_State_boxes.key f_State_boxes (He.fAd K ("State", some "boxes")) fd := by
  obtain ⟨fd, a, _⟩ := atF_State_boxes X G c
  exact ⟨fd, a⟩
theorem atF_State_life_of {K : PySem.W.Frag} {h : Heap} {mg : PySem.Str → Option Value} (X : K.In h) (G : h.Ns mainGlobals mg) (c : SaysA fa fn (allB ex) K) : ∃ fd, At T K mg f_State_life_of.key f_State_life_of (He.fAd K ("State", some "life_of")) fd ∧ FunD K "life_of" "State.life_of" (defArgs (inClass (top 23) 7)) (defBody (inClass (top 23) 7)) (defScope (inClass (top 23) 7)) (He.DefD.dvs K ⟨("State", some "life_of"), "life_of", "State.life_of", defArgs (inClass (top 23) 7), defBody (inClass (top 23) 7), defScope (inClass (top 23) 7), [], []⟩) [] (He.fAd K ("State", some "life_of")) fd := by
  obtain ⟨fd, F⟩ := c.d.def_ 12 (d := ⟨("State", some "life_of"), "life_of", "State.life_of", defArgs (inClass (top 23) 7), defBody (inClass (top 23) 7), defScope (inClass (top 23) 7), [], []⟩) rfl
  exact ⟨fd, ⟨⟨[], [], fun _ => ⟨rfl, rfl⟩, F⟩, fun h => absurd h (by decide +kernel), ⟨rfl, rfl, rfl, by decide +kernel, rfl, by decide +kernel, by decide +kernel⟩, F.bindsN fun _ _ _ _ _ _ us hl => match us, hl with | [_, _], _ => rfl, fun e he hx => absurd hx ((by decide +kernel : ∀ e ∈ T.kws, e.x ≠ "State.life_of") e he)⟩, F⟩
theorem at_State_life_of {K : PySem.W.Frag} {h : Heap} {mg : PySem.Str → Option Value} (X : K.In h) (G : h.Ns mainGlobals mg) (c : SaysA fa fn (allB ex) K) : ∃ fd, At T K mg f_State_life_of.key f_State_life_of (He.fAd K ("State", some "life_of")) fd := by
  obtain ⟨fd, a, _⟩ := atF_State_life_of X G c
  exact ⟨fd, a⟩
theorem atF_State_box_of {K : PySem.W.Frag} {h : Heap} {mg : PySem.Str → Option Value} (X : K.In h) (G : h.Ns mainGlobals mg) (c : SaysA fa fn (allB ex) K) : ∃ fd, At T K mg f_State_box_of.key f_State_box_of (He.fAd K ("State", some "box_of")) fd ∧ FunD K "box_of" "State.box_of" (defArgs (inClass (top 23) 8)) (defBody (inClass (top 23) 8)) (defScope (inClass (top 23) 8)) (He.DefD.dvs K ⟨("State", some "box_of"), "box_of", "State.box_of", defArgs (inClass (top 23) 8), defBody (inClass (top 23) 8), defScope (inClass (top 23) 8), [], []⟩) [] (He.fAd K ("State", some "box_of")) fd := by
  obtain ⟨fd, F⟩ := c.d.def_ 13 (d := ⟨("State", some "box_of"), "box_of", "State.box_of", defArgs (inClass (top 23) 8), defBody (inClass (top 23) 8), defScope (inClass (top 23) 8), [], []⟩) rfl
  exact ⟨fd, ⟨⟨[], [], fun _ => ⟨rfl, rfl⟩, F⟩, fun h => absurd h (by decide +kernel), ⟨rfl, rfl, rfl, by decide +kernel, rfl, by decide +kernel, by decide +kernel⟩, F.bindsN fun _ _ _ _ _ _ us hl => match us, hl with | [_, _], _ => rfl, fun e he hx => absurd hx ((by decide +kernel : ∀ e ∈ T.kws, e.x ≠ "State.box_of") e he)⟩, F⟩
theorem at_State_box_of {K : PySem.W.Frag} {h : Heap} {mg : PySem.Str → Option Value} (X : K.In h) (G : h.Ns mainGlobals mg) (c : SaysA fa fn (allB ex) K) : ∃ fd, At T K mg f_State_box_of.key f_State_box_of (He.fAd K ("State", some "box_of")) fd := by
  obtain ⟨fd, a, _⟩ := atF_State_box_of X G c
  exact ⟨fd, a⟩
theorem atF_State_name_of {K : PySem.W.Frag} {h : Heap} {mg : PySem.Str → Option Value} (X : K.In h) (G : h.Ns mainGlobals mg) (c : SaysA fa fn (allB ex) K) : ∃ fd, At T K mg f_State_name_of.key f_State_name_of (He.fAd K ("State", some "name_of")) fd ∧ FunD K "name_of" "State.name_of" (defArgs (inClass (top 23) 9)) (defBody (inClass (top 23) 9)) (defScope (inClass (top 23) 9)) (He.DefD.dvs K ⟨("State", some "name_of"), "name_of", "State.name_of", defArgs (inClass (top 23) 9), defBody (inClass (top 23) 9), defScope (inClass (top 23) 9), [], []⟩) [] (He.fAd K ("State", some "name_of")) fd := by
  obtain ⟨fd, F⟩ := c.d.def_ 14 (d := ⟨("State", some "name_of"), "name_of", "State.name_of", defArgs (inClass (top 23) 9), defBody (inClass (top 23) 9), defScope (inClass (top 23) 9), [], []⟩) rfl
  exact ⟨fd, ⟨⟨[], [], fun _ => ⟨rfl, rfl⟩, F⟩, fun h => absurd h (by decide +kernel), ⟨rfl, rfl, rfl, by decide +kernel, rfl, by decide +kernel, by decide +kernel⟩, F.bindsN fun _ _ _ _ _ _ us hl => match us, hl with | [_, _], _ => rfl, fun e he hx => absurd hx ((by decide +kernel : ∀ e ∈ T.kws, e.x ≠ "State.name_of") e he)⟩, F⟩
theorem at_State_name_of {K : PySem.W.Frag} {h : Heap} {mg : PySem.Str → Option Value} (X : K.In h) (G : h.Ns mainGlobals mg) (c : SaysA fa fn (allB ex) K) : ∃ fd, At T K mg f_State_name_of.key f_State_name_of (He.fAd K ("State", some "name_of")) fd := by
  obtain ⟨fd, a, _⟩ := atF_State_name_of X G c
  exact ⟨fd, a⟩
theorem atF_State_letters {K : PySem.W.Frag} {h : Heap} {mg : PySem.Str → Option Value} (X : K.In h) (G : h.Ns mainGlobals mg) (c : SaysA fa fn (allB ex) K) : ∃ fd, At T K mg f_State_letters.key f_State_letters (He.fAd K ("State", some "letters")) fd ∧ FunD K "letters" "State.letters" (defArgs (inClass (top 23) 10)) (defBody (inClass (top 23) 10)) (defScope (inClass (top 23) 10)) (He.DefD.dvs K ⟨("State", some "letters"), "letters", "State.letters", defArgs (inClass (top 23) 10), defBody (inClass (top 23) 10), defScope (inClass (top 23) 10), [], []⟩) [] (He.fAd K ("State", some "letters")) fd := by
  obtain ⟨fd, F⟩ := c.d.def_ 15 (d := ⟨("State", some "letters"), "letters", "State.letters", defArgs (inClass (top 23) 10), defBody (inClass (top 23) 10), defScope (inClass (top 23) 10), [], []⟩) rfl
  exact ⟨fd, ⟨⟨[], [], fun _ => ⟨rfl, rfl⟩, F⟩, fun h => absurd h (by decide +kernel), ⟨rfl, rfl, rfl, by decide +kernel, rfl, by decide +kernel, by decide +kernel⟩, F.bindsN fun _ _ _ _ _ _ us hl => match us, hl with | [_, _], _ => rfl, fun e he hx => absurd hx ((by decide +kernel : ∀ e ∈ T.kws, e.x ≠ "State.letters") e he)⟩, F⟩
theorem at_State_letters {K : PySem.W.Frag} {h : Heap} {mg : PySem.Str → Option Value} (X : K.In h) (G : h.Ns mainGlobals mg) (c : SaysA fa fn (allB ex) K) : ∃ fd, At T K mg f_State_letters.key f_State_letters (He.fAd K ("State", some "letters")) fd := by
  obtain ⟨fd, a, _⟩ := atF_State_letters X G c
  exact ⟨fd, a⟩
theorem atF_State_letter_at {K : PySem.W.Frag} {h : Heap} {mg : PySem.Str → Option Value} (X : K.In h) (G : h.Ns mainGlobals mg) (c : SaysA fa fn (allB ex) K) : ∃ fd, At T K mg f_State_letter_at.key f_State_letter_at (He.fAd K ("State", some "letter_at")) fd ∧ FunD K "letter_at" "State.letter_at" (defArgs (inClass (top 23) 11)) (defBody (inClass (top 23) 11)) (defScope (inClass (top 23) 11)) (He.DefD.dvs K ⟨("State", some "letter_at"), "letter_at", "State.letter_at", defArgs (inClass (top 23) 11), defBody (inClass (top 23) 11), defScope (inClass (top 23) 11), [], []⟩) [] (He.fAd K ("State", some "letter_at")) fd := by
  obtain ⟨fd, F⟩ := c.d.def_ 16 (d := ⟨("State", some "letter_at"), "letter_at", "State.letter_at", defArgs (inClass (top 23) 11), defBody (inClass (top 23) 11), defScope (inClass (top 23) 11), [], []⟩) rfl
  exact ⟨fd, ⟨⟨[], [], fun _ => ⟨rfl, rfl⟩, F⟩, fun h => absurd h (by decide +kernel), ⟨rfl, rfl, rfl, by decide +kernel, rfl, by decide +kernel, by decide +kernel⟩, F.bindsN fun _ _ _ _ _ _ us hl => match us, hl with | [_, _, _], _ => rfl, fun e he hx => absurd hx ((by decide +kernel : ∀ e ∈ T.kws, e.x ≠ "State.letter_at") e he)⟩, F⟩
theorem at_State_letter_at {K : PySem.W.Frag} {h : Heap} {mg : PySem.Str → Option Value} (X : K.In h) (G : h.Ns mainGlobals mg) (c : SaysA fa fn (allB ex) K) : ∃ fd, At T K mg f_State_letter_at.key f_State_letter_at (He.fAd K ("State", some "letter_at")) fd := by
  obtain ⟨fd, a, _⟩ := atF_State_letter_at X G c
  exact ⟨fd, a⟩
theorem atF__law_pool {K : PySem.W.Frag} {h : Heap} {mg : PySem.Str → Option Value} (X : K.In h) (G : h.Ns mainGlobals mg) (c : SaysA fa fn (allB ex) K) : ∃ fd, At T K mg f__law_pool.key f__law_pool (He.fAd K ("_law_pool", none)) fd ∧ FunD K "_law_pool" "_law_pool" (defArgs (top 25)) (defBody (top 25)) (defScope (top 25)) (He.DefD.dvs K ⟨("_law_pool", none), "_law_pool", "_law_pool", defArgs (top 25), defBody (top 25), defScope (top 25), [], []⟩) [] (He.fAd K ("_law_pool", none)) fd := by
  obtain ⟨fd, F⟩ := c.d.def_ 17 (d := ⟨("_law_pool", none), "_law_pool", "_law_pool", defArgs (top 25), defBody (top 25), defScope (top 25), [], []⟩) rfl
  exact ⟨fd, ⟨⟨[], [], fun _ => ⟨rfl, rfl⟩, F⟩, fun _ => He.glo_ok X G (c.d.fact 9 (f := .glo "_law_pool") rfl), ⟨rfl, rfl, rfl, by decide +kernel, rfl, by decide +kernel, by decide +kernel⟩, F.bindsN fun _ _ _ _ _ _ us hl => match us, hl with | [_, _], _ => rfl, fun e he hx => absurd hx ((by decide +kernel : ∀ e ∈ T.kws, e.x ≠ "_law_pool") e he)⟩, F⟩
theorem at__law_pool {K : PySem.W.Frag} {h : Heap} {mg : PySem.Str → Option Value} (X : K.In h) (G : h.Ns mainGlobals mg) (c : SaysA fa fn (allB ex) K) : ∃ fd, At T K mg f__law_pool.key f__law_pool (He.fAd K ("_law_pool", none)) fd := by
  obtain ⟨fd, a, _⟩ := atF__law_pool X G c
  exact ⟨fd, a⟩
theorem atF__law_take {K : PySem.W.Frag} {h : Heap} {mg : PySem.Str → Option Value} (X : K.In h) (G : h.Ns mainGlobals mg) (c : SaysA fa fn (allB ex) K) : ∃ fd, At T K mg f__law_take.key f__law_take (He.fAd K ("_law_take", none)) fd ∧ FunD K "_law_take" "_law_take" (defArgs (top 26)) (defBody (top 26)) (defScope (top 26)) (He.DefD.dvs K ⟨("_law_take", none), "_law_take", "_law_take", defArgs (top 26), defBody (top 26), defScope (top 26), [], []⟩) [] (He.fAd K ("_law_take", none)) fd := by
  obtain ⟨fd, F⟩ := c.d.def_ 18 (d := ⟨("_law_take", none), "_law_take", "_law_take", defArgs (top 26), defBody (top 26), defScope (top 26), [], []⟩) rfl
  exact ⟨fd, ⟨⟨[], [], fun _ => ⟨rfl, rfl⟩, F⟩, fun _ => He.glo_ok X G (c.d.fact 10 (f := .glo "_law_take") rfl), ⟨rfl, rfl, rfl, by decide +kernel, rfl, by decide +kernel, by decide +kernel⟩, F.bindsN fun _ _ _ _ _ _ us hl => match us, hl with | [_, _], _ => rfl, fun e he hx => absurd hx ((by decide +kernel : ∀ e ∈ T.kws, e.x ≠ "_law_take") e he)⟩, F⟩
theorem at__law_take {K : PySem.W.Frag} {h : Heap} {mg : PySem.Str → Option Value} (X : K.In h) (G : h.Ns mainGlobals mg) (c : SaysA fa fn (allB ex) K) : ∃ fd, At T K mg f__law_take.key f__law_take (He.fAd K ("_law_take", none)) fd := by
  obtain ⟨fd, a, _⟩ := atF__law_take X G c
  exact ⟨fd, a⟩
theorem atF__law_words {K : PySem.W.Frag} {h : Heap} {mg : PySem.Str → Option Value} (X : K.In h) (G : h.Ns mainGlobals mg) (c : SaysA fa fn (allB ex) K) : ∃ fd, At T K mg f__law_words.key f__law_words (He.fAd K ("_law_words", none)) fd ∧ FunD K "_law_words" "_law_words" (defArgs (top 27)) (defBody (top 27)) (defScope (top 27)) (He.DefD.dvs K ⟨("_law_words", none), "_law_words", "_law_words", defArgs (top 27), defBody (top 27), defScope (top 27), [], []⟩) [] (He.fAd K ("_law_words", none)) fd := by
  obtain ⟨fd, F⟩ := c.d.def_ 19 (d := ⟨("_law_words", none), "_law_words", "_law_words", defArgs (top 27), defBody (top 27), defScope (top 27), [], []⟩) rfl
  exact ⟨fd, ⟨⟨[], [], fun _ => ⟨rfl, rfl⟩, F⟩, fun _ => He.glo_ok X G (c.d.fact 11 (f := .glo "_law_words") rfl), ⟨rfl, rfl, rfl, by decide +kernel, rfl, by decide +kernel, by decide +kernel⟩, F.bindsN fun _ _ _ _ _ _ us hl => match us, hl with | [_, _], _ => rfl, fun e he hx => absurd hx ((by decide +kernel : ∀ e ∈ T.kws, e.x ≠ "_law_words") e he)⟩, F⟩
theorem at__law_words {K : PySem.W.Frag} {h : Heap} {mg : PySem.Str → Option Value} (X : K.In h) (G : h.Ns mainGlobals mg) (c : SaysA fa fn (allB ex) K) : ∃ fd, At T K mg f__law_words.key f__law_words (He.fAd K ("_law_words", none)) fd := by
  obtain ⟨fd, a, _⟩ := atF__law_words X G c
  exact ⟨fd, a⟩
theorem atF__law_marks {K : PySem.W.Frag} {h : Heap} {mg : PySem.Str → Option Value} (X : K.In h) (G : h.Ns mainGlobals mg) (c : SaysA fa fn (allB ex) K) : ∃ fd, At T K mg f__law_marks.key f__law_marks (He.fAd K ("_law_marks", none)) fd ∧ FunD K "_law_marks" "_law_marks" (defArgs (top 28)) (defBody (top 28)) (defScope (top 28)) (He.DefD.dvs K ⟨("_law_marks", none), "_law_marks", "_law_marks", defArgs (top 28), defBody (top 28), defScope (top 28), [], []⟩) [] (He.fAd K ("_law_marks", none)) fd := by
  obtain ⟨fd, F⟩ := c.d.def_ 20 (d := ⟨("_law_marks", none), "_law_marks", "_law_marks", defArgs (top 28), defBody (top 28), defScope (top 28), [], []⟩) rfl
  exact ⟨fd, ⟨⟨[], [], fun _ => ⟨rfl, rfl⟩, F⟩, fun _ => He.glo_ok X G (c.d.fact 12 (f := .glo "_law_marks") rfl), ⟨rfl, rfl, rfl, by decide +kernel, rfl, by decide +kernel, by decide +kernel⟩, F.bindsN fun _ _ _ _ _ _ us hl => match us, hl with | [_], _ => rfl, fun e he hx => absurd hx ((by decide +kernel : ∀ e ∈ T.kws, e.x ≠ "_law_marks") e he)⟩, F⟩
theorem at__law_marks {K : PySem.W.Frag} {h : Heap} {mg : PySem.Str → Option Value} (X : K.In h) (G : h.Ns mainGlobals mg) (c : SaysA fa fn (allB ex) K) : ∃ fd, At T K mg f__law_marks.key f__law_marks (He.fAd K ("_law_marks", none)) fd := by
  obtain ⟨fd, a, _⟩ := atF__law_marks X G c
  exact ⟨fd, a⟩
theorem atF__law_boxes {K : PySem.W.Frag} {h : Heap} {mg : PySem.Str → Option Value} (X : K.In h) (G : h.Ns mainGlobals mg) (c : SaysA fa fn (allB ex) K) : ∃ fd, At T K mg f__law_boxes.key f__law_boxes (He.fAd K ("_law_boxes", none)) fd ∧ FunD K "_law_boxes" "_law_boxes" (defArgs (top 29)) (defBody (top 29)) (defScope (top 29)) (He.DefD.dvs K ⟨("_law_boxes", none), "_law_boxes", "_law_boxes", defArgs (top 29), defBody (top 29), defScope (top 29), [], []⟩) [] (He.fAd K ("_law_boxes", none)) fd := by
  obtain ⟨fd, F⟩ := c.d.def_ 21 (d := ⟨("_law_boxes", none), "_law_boxes", "_law_boxes", defArgs (top 29), defBody (top 29), defScope (top 29), [], []⟩) rfl
  exact ⟨fd, ⟨⟨[], [], fun _ => ⟨rfl, rfl⟩, F⟩, fun _ => He.glo_ok X G (c.d.fact 13 (f := .glo "_law_boxes") rfl), ⟨rfl, rfl, rfl, by decide +kernel, rfl, by decide +kernel, by decide +kernel⟩, F.bindsN fun _ _ _ _ _ _ us hl => match us, hl with | [_, _, _], _ => rfl, fun e he hx => absurd hx ((by decide +kernel : ∀ e ∈ T.kws, e.x ≠ "_law_boxes") e he)⟩, F⟩
theorem at__law_boxes {K : PySem.W.Frag} {h : Heap} {mg : PySem.Str → Option Value} (X : K.In h) (G : h.Ns mainGlobals mg) (c : SaysA fa fn (allB ex) K) : ∃ fd, At T K mg f__law_boxes.key f__law_boxes (He.fAd K ("_law_boxes", none)) fd := by
  obtain ⟨fd, a, _⟩ := atF__law_boxes X G c
  exact ⟨fd, a⟩
theorem atF__law_due {K : PySem.W.Frag} {h : Heap} {mg : PySem.Str → Option Value} (X : K.In h) (G : h.Ns mainGlobals mg) (c : SaysA fa fn (allB ex) K) : ∃ fd, At T K mg f__law_due.key f__law_due (He.fAd K ("_law_due", none)) fd ∧ FunD K "_law_due" "_law_due" (defArgs (top 30)) (defBody (top 30)) (defScope (top 30)) (He.DefD.dvs K ⟨("_law_due", none), "_law_due", "_law_due", defArgs (top 30), defBody (top 30), defScope (top 30), [], []⟩) [] (He.fAd K ("_law_due", none)) fd := by
  obtain ⟨fd, F⟩ := c.d.def_ 22 (d := ⟨("_law_due", none), "_law_due", "_law_due", defArgs (top 30), defBody (top 30), defScope (top 30), [], []⟩) rfl
  exact ⟨fd, ⟨⟨[], [], fun _ => ⟨rfl, rfl⟩, F⟩, fun _ => He.glo_ok X G (c.d.fact 14 (f := .glo "_law_due") rfl), ⟨rfl, rfl, rfl, by decide +kernel, rfl, by decide +kernel, by decide +kernel⟩, F.bindsN fun _ _ _ _ _ _ us hl => match us, hl with | [_, _], _ => rfl, fun e he hx => absurd hx ((by decide +kernel : ∀ e ∈ T.kws, e.x ≠ "_law_due") e he)⟩, F⟩
theorem at__law_due {K : PySem.W.Frag} {h : Heap} {mg : PySem.Str → Option Value} (X : K.In h) (G : h.Ns mainGlobals mg) (c : SaysA fa fn (allB ex) K) : ∃ fd, At T K mg f__law_due.key f__law_due (He.fAd K ("_law_due", none)) fd := by
  obtain ⟨fd, a, _⟩ := atF__law_due X G c
  exact ⟨fd, a⟩
theorem atF__law_met {K : PySem.W.Frag} {h : Heap} {mg : PySem.Str → Option Value} (X : K.In h) (G : h.Ns mainGlobals mg) (c : SaysA fa fn (allB ex) K) : ∃ fd, At T K mg f__law_met.key f__law_met (He.fAd K ("_law_met", none)) fd ∧ FunD K "_law_met" "_law_met" (defArgs (top 31)) (defBody (top 31)) (defScope (top 31)) (He.DefD.dvs K ⟨("_law_met", none), "_law_met", "_law_met", defArgs (top 31), defBody (top 31), defScope (top 31), [], []⟩) [] (He.fAd K ("_law_met", none)) fd := by
  obtain ⟨fd, F⟩ := c.d.def_ 23 (d := ⟨("_law_met", none), "_law_met", "_law_met", defArgs (top 31), defBody (top 31), defScope (top 31), [], []⟩) rfl
  exact ⟨fd, ⟨⟨[], [], fun _ => ⟨rfl, rfl⟩, F⟩, fun _ => He.glo_ok X G (c.d.fact 15 (f := .glo "_law_met") rfl), ⟨rfl, rfl, rfl, by decide +kernel, rfl, by decide +kernel, by decide +kernel⟩, F.bindsN fun _ _ _ _ _ _ us hl => match us, hl with | [_, _], _ => rfl, fun e he hx => absurd hx ((by decide +kernel : ∀ e ∈ T.kws, e.x ≠ "_law_met") e he)⟩, F⟩
theorem at__law_met {K : PySem.W.Frag} {h : Heap} {mg : PySem.Str → Option Value} (X : K.In h) (G : h.Ns mainGlobals mg) (c : SaysA fa fn (allB ex) K) : ∃ fd, At T K mg f__law_met.key f__law_met (He.fAd K ("_law_met", none)) fd := by
  obtain ⟨fd, a, _⟩ := atF__law_met X G c
  exact ⟨fd, a⟩
theorem atF__law_other {K : PySem.W.Frag} {h : Heap} {mg : PySem.Str → Option Value} (X : K.In h) (G : h.Ns mainGlobals mg) (c : SaysA fa fn (allB ex) K) : ∃ fd, At T K mg f__law_other.key f__law_other (He.fAd K ("_law_other", none)) fd ∧ FunD K "_law_other" "_law_other" (defArgs (top 32)) (defBody (top 32)) (defScope (top 32)) (He.DefD.dvs K ⟨("_law_other", none), "_law_other", "_law_other", defArgs (top 32), defBody (top 32), defScope (top 32), [], []⟩) [] (He.fAd K ("_law_other", none)) fd := by
  obtain ⟨fd, F⟩ := c.d.def_ 24 (d := ⟨("_law_other", none), "_law_other", "_law_other", defArgs (top 32), defBody (top 32), defScope (top 32), [], []⟩) rfl
  exact ⟨fd, ⟨⟨[], [], fun _ => ⟨rfl, rfl⟩, F⟩, fun _ => He.glo_ok X G (c.d.fact 16 (f := .glo "_law_other") rfl), ⟨rfl, rfl, rfl, by decide +kernel, rfl, by decide +kernel, by decide +kernel⟩, F.bindsN fun _ _ _ _ _ _ us hl => match us, hl with | [_, _], _ => rfl, fun e he hx => absurd hx ((by decide +kernel : ∀ e ∈ T.kws, e.x ≠ "_law_other") e he)⟩, F⟩
theorem at__law_other {K : PySem.W.Frag} {h : Heap} {mg : PySem.Str → Option Value} (X : K.In h) (G : h.Ns mainGlobals mg) (c : SaysA fa fn (allB ex) K) : ∃ fd, At T K mg f__law_other.key f__law_other (He.fAd K ("_law_other", none)) fd := by
  obtain ⟨fd, a, _⟩ := atF__law_other X G c
  exact ⟨fd, a⟩
theorem atF__law_numbers {K : PySem.W.Frag} {h : Heap} {mg : PySem.Str → Option Value} (X : K.In h) (G : h.Ns mainGlobals mg) (c : SaysA fa fn (allB ex) K) : ∃ fd, At T K mg f__law_numbers.key f__law_numbers (He.fAd K ("_law_numbers", none)) fd ∧ FunD K "_law_numbers" "_law_numbers" (defArgs (top 33)) (defBody (top 33)) (defScope (top 33)) (He.DefD.dvs K ⟨("_law_numbers", none), "_law_numbers", "_law_numbers", defArgs (top 33), defBody (top 33), defScope (top 33), [], []⟩) [] (He.fAd K ("_law_numbers", none)) fd := by
  obtain ⟨fd, F⟩ := c.d.def_ 25 (d := ⟨("_law_numbers", none), "_law_numbers", "_law_numbers", defArgs (top 33), defBody (top 33), defScope (top 33), [], []⟩) rfl
  exact ⟨fd, ⟨⟨[], [], fun _ => ⟨rfl, rfl⟩, F⟩, fun _ => He.glo_ok X G (c.d.fact 17 (f := .glo "_law_numbers") rfl), ⟨rfl, rfl, rfl, by decide +kernel, rfl, by decide +kernel, by decide +kernel⟩, F.bindsN fun _ _ _ _ _ _ us hl => match us, hl with | [_], _ => rfl, fun e he hx => absurd hx ((by decide +kernel : ∀ e ∈ T.kws, e.x ≠ "_law_numbers") e he)⟩, F⟩
theorem at__law_numbers {K : PySem.W.Frag} {h : Heap} {mg : PySem.Str → Option Value} (X : K.In h) (G : h.Ns mainGlobals mg) (c : SaysA fa fn (allB ex) K) : ∃ fd, At T K mg f__law_numbers.key f__law_numbers (He.fAd K ("_law_numbers", none)) fd := by
  obtain ⟨fd, a, _⟩ := atF__law_numbers X G c
  exact ⟨fd, a⟩
theorem atF__law_questions {K : PySem.W.Frag} {h : Heap} {mg : PySem.Str → Option Value} (X : K.In h) (G : h.Ns mainGlobals mg) (c : SaysA fa fn (allB ex) K) : ∃ fd, At T K mg f__law_questions.key f__law_questions (He.fAd K ("_law_questions", none)) fd ∧ FunD K "_law_questions" "_law_questions" (defArgs (top 34)) (defBody (top 34)) (defScope (top 34)) (He.DefD.dvs K ⟨("_law_questions", none), "_law_questions", "_law_questions", defArgs (top 34), defBody (top 34), defScope (top 34), [], []⟩) [] (He.fAd K ("_law_questions", none)) fd := by
  obtain ⟨fd, F⟩ := c.d.def_ 26 (d := ⟨("_law_questions", none), "_law_questions", "_law_questions", defArgs (top 34), defBody (top 34), defScope (top 34), [], []⟩) rfl
  exact ⟨fd, ⟨⟨[], [], fun _ => ⟨rfl, rfl⟩, F⟩, fun _ => He.glo_ok X G (c.d.fact 18 (f := .glo "_law_questions") rfl), ⟨rfl, rfl, rfl, by decide +kernel, rfl, by decide +kernel, by decide +kernel⟩, F.bindsN fun _ _ _ _ _ _ us hl => match us, hl with | [_, _, _], _ => rfl, fun e he hx => absurd hx ((by decide +kernel : ∀ e ∈ T.kws, e.x ≠ "_law_questions") e he)⟩, F⟩
theorem at__law_questions {K : PySem.W.Frag} {h : Heap} {mg : PySem.Str → Option Value} (X : K.In h) (G : h.Ns mainGlobals mg) (c : SaysA fa fn (allB ex) K) : ∃ fd, At T K mg f__law_questions.key f__law_questions (He.fAd K ("_law_questions", none)) fd := by
  obtain ⟨fd, a, _⟩ := atF__law_questions X G c
  exact ⟨fd, a⟩
theorem atF__law_right {K : PySem.W.Frag} {h : Heap} {mg : PySem.Str → Option Value} (X : K.In h) (G : h.Ns mainGlobals mg) (c : SaysA fa fn (allB ex) K) : ∃ fd, At T K mg f__law_right.key f__law_right (He.fAd K ("_law_right", none)) fd ∧ FunD K "_law_right" "_law_right" (defArgs (top 35)) (defBody (top 35)) (defScope (top 35)) (He.DefD.dvs K ⟨("_law_right", none), "_law_right", "_law_right", defArgs (top 35), defBody (top 35), defScope (top 35), [], []⟩) [] (He.fAd K ("_law_right", none)) fd := by
  obtain ⟨fd, F⟩ := c.d.def_ 27 (d := ⟨("_law_right", none), "_law_right", "_law_right", defArgs (top 35), defBody (top 35), defScope (top 35), [], []⟩) rfl
  exact ⟨fd, ⟨⟨[], [], fun _ => ⟨rfl, rfl⟩, F⟩, fun _ => He.glo_ok X G (c.d.fact 19 (f := .glo "_law_right") rfl), ⟨rfl, rfl, rfl, by decide +kernel, rfl, by decide +kernel, by decide +kernel⟩, F.bindsN fun _ _ _ _ _ _ us hl => match us, hl with | [_, _, _], _ => rfl, fun e he hx => absurd hx ((by decide +kernel : ∀ e ∈ T.kws, e.x ≠ "_law_right") e he)⟩, F⟩
theorem at__law_right {K : PySem.W.Frag} {h : Heap} {mg : PySem.Str → Option Value} (X : K.In h) (G : h.Ns mainGlobals mg) (c : SaysA fa fn (allB ex) K) : ∃ fd, At T K mg f__law_right.key f__law_right (He.fAd K ("_law_right", none)) fd := by
  obtain ⟨fd, a, _⟩ := atF__law_right X G c
  exact ⟨fd, a⟩
theorem atF_law {K : PySem.W.Frag} {h : Heap} {mg : PySem.Str → Option Value} (X : K.In h) (G : h.Ns mainGlobals mg) (c : SaysA fa fn (allB ex) K) : ∃ fd, At T K mg f_law.key f_law (He.fAd K ("law", none)) fd ∧ FunD K "law" "law" (defArgs (top 36)) (defBody (top 36)) (defScope (top 36)) (He.DefD.dvs K ⟨("law", none), "law", "law", defArgs (top 36), defBody (top 36), defScope (top 36), [], []⟩) [] (He.fAd K ("law", none)) fd := by
  obtain ⟨fd, F⟩ := c.d.def_ 28 (d := ⟨("law", none), "law", "law", defArgs (top 36), defBody (top 36), defScope (top 36), [], []⟩) rfl
  exact ⟨fd, ⟨⟨[], [], fun _ => ⟨rfl, rfl⟩, F⟩, fun _ => He.glo_ok X G (c.d.fact 20 (f := .glo "law") rfl), ⟨rfl, rfl, rfl, by decide +kernel, rfl, by decide +kernel, by decide +kernel⟩, F.bindsN fun _ _ _ _ _ _ us hl => match us, hl with | [_], _ => rfl, fun e he hx => absurd hx ((by decide +kernel : ∀ e ∈ T.kws, e.x ≠ "law") e he)⟩, F⟩
theorem at_law {K : PySem.W.Frag} {h : Heap} {mg : PySem.Str → Option Value} (X : K.In h) (G : h.Ns mainGlobals mg) (c : SaysA fa fn (allB ex) K) : ∃ fd, At T K mg f_law.key f_law (He.fAd K ("law", none)) fd := by
  obtain ⟨fd, a, _⟩ := atF_law X G c
  exact ⟨fd, a⟩
theorem exc_NoState {K : PySem.W.Frag} {h : Heap} {mg : PySem.Str → Option Value} (X : K.In h) (G : h.Ns mainGlobals mg) (c : SaysA fa fn (allB ex) K) : ExcOk ⟨K, gaL K clsN, []⟩ mg "NoState" "place" := by
  obtain ⟨fd, F⟩ := c.d.def_ 29 (d := ⟨("NoState", some "__init__"), "__init__", "NoState.__init__", defArgs (inClass (top 4) 0), defBody (inClass (top 4) 0), defScope (inClass (top 4) 0), [], []⟩) rfl
  exact exc_of X G (c.d.fact 43 (f := .glo "NoState") rfl) (c.d.fact 47 (f := .glo "PostError") rfl) (c.ex 0 (f := AM.excB .ve "NoState" "place" "PostError") rfl) (by decide +kernel) F ⟨rfl, rfl, rfl, by decide +kernel, rfl, by decide +kernel, by decide +kernel⟩ rfl (by decide) (by decide) (by decide) (fun _ => ⟨_, rfl⟩) (fun _ _ _ _ _ _ us hl => match us, hl with | [_, _], _ => rfl)
theorem exc_NoBox {K : PySem.W.Frag} {h : Heap} {mg : PySem.Str → Option Value} (X : K.In h) (G : h.Ns mainGlobals mg) (c : SaysA fa fn (allB ex) K) : ExcOk ⟨K, gaL K clsN, []⟩ mg "NoBox" "box" := by
  obtain ⟨fd, F⟩ := c.d.def_ 30 (d := ⟨("NoBox", some "__init__"), "__init__", "NoBox.__init__", defArgs (inClass (top 5) 0), defBody (inClass (top 5) 0), defScope (inClass (top 5) 0), [], []⟩) rfl
  exact exc_of X G (c.d.fact 44 (f := .glo "NoBox") rfl) (c.d.fact 48 (f := .glo "GoneError") rfl) (c.ex 1 (f := AM.excB .le "NoBox" "box" "GoneError") rfl) (by decide +kernel) F ⟨rfl, rfl, rfl, by decide +kernel, rfl, by decide +kernel, by decide +kernel⟩ rfl (by decide) (by decide) (by decide) (fun _ => ⟨_, rfl⟩) (fun _ _ _ _ _ _ us hl => match us, hl with | [_, _], _ => rfl)
theorem exc_NoLetter {K : PySem.W.Frag} {h : Heap} {mg : PySem.Str → Option Value} (X : K.In h) (G : h.Ns mainGlobals mg) (c : SaysA fa fn (allB ex) K) : ExcOk ⟨K, gaL K clsN, []⟩ mg "NoLetter" "letter" := by
  obtain ⟨fd, F⟩ := c.d.def_ 31 (d := ⟨("NoLetter", some "__init__"), "__init__", "NoLetter.__init__", defArgs (inClass (top 6) 0), defBody (inClass (top 6) 0), defScope (inClass (top 6) 0), [], []⟩) rfl
  exact exc_of X G (c.d.fact 45 (f := .glo "NoLetter") rfl) (c.d.fact 48 (f := .glo "GoneError") rfl) (c.ex 2 (f := AM.excB .le "NoLetter" "letter" "GoneError") rfl) (by decide +kernel) F ⟨rfl, rfl, rfl, by decide +kernel, rfl, by decide +kernel, by decide +kernel⟩ rfl (by decide) (by decide) (by decide) (fun _ => ⟨_, rfl⟩) (fun _ _ _ _ _ _ us hl => match us, hl with | [_, _], _ => rfl)
theorem facts {K : PySem.W.Frag} {h : Heap} {mg : PySem.Str → Option Value} (X : K.In h) (G : h.Ns mainGlobals mg) (c : SaysA fa fn (allB ex) K) : Facts T ⟨K, gaL K clsN, []⟩ mg :=
  facts_of (gl := gl) (fr := fr) (el := el) (hl := hl) (ml := ml) (cl := cl) (fl := fl) (List.forall_mem_cons.2 ⟨⟨_, at_is_whole X G c⟩, List.forall_mem_cons.2 ⟨⟨_, at_is_number X G c⟩, List.forall_mem_cons.2 ⟨⟨_, at_is_word X G c⟩, List.forall_mem_cons.2 ⟨⟨_, at_are_rising X G c⟩, List.forall_mem_cons.2 ⟨⟨_, at_are_marks X G c⟩, List.forall_mem_cons.2 ⟨⟨_, at_is_letter X G c⟩, List.forall_mem_cons.2 ⟨⟨_, at_are_letters X G c⟩, List.forall_mem_cons.2 ⟨⟨_, at_is_box X G c⟩, List.forall_mem_cons.2 ⟨⟨_, at_check_boxes X G c⟩, List.forall_mem_cons.2 ⟨⟨_, at_State___init__ X G c⟩, List.forall_mem_cons.2 ⟨⟨_, at_State___eq__ X G c⟩, List.forall_mem_cons.2 ⟨⟨_, at_State_boxes X G c⟩, List.forall_mem_cons.2 ⟨⟨_, at_State_life_of X G c⟩, List.forall_mem_cons.2 ⟨⟨_, at_State_box_of X G c⟩, List.forall_mem_cons.2 ⟨⟨_, at_State_name_of X G c⟩, List.forall_mem_cons.2 ⟨⟨_, at_State_letters X G c⟩, List.forall_mem_cons.2 ⟨⟨_, at_State_letter_at X G c⟩, List.forall_mem_cons.2 ⟨⟨_, at__law_pool X G c⟩, List.forall_mem_cons.2 ⟨⟨_, at__law_take X G c⟩, List.forall_mem_cons.2 ⟨⟨_, at__law_words X G c⟩, List.forall_mem_cons.2 ⟨⟨_, at__law_marks X G c⟩, List.forall_mem_cons.2 ⟨⟨_, at__law_boxes X G c⟩, List.forall_mem_cons.2 ⟨⟨_, at__law_due X G c⟩, List.forall_mem_cons.2 ⟨⟨_, at__law_met X G c⟩, List.forall_mem_cons.2 ⟨⟨_, at__law_other X G c⟩, List.forall_mem_cons.2 ⟨⟨_, at__law_numbers X G c⟩, List.forall_mem_cons.2 ⟨⟨_, at__law_questions X G c⟩, List.forall_mem_cons.2 ⟨⟨_, at__law_right X G c⟩, List.forall_mem_cons.2 ⟨⟨_, at_law X G c⟩, fun _ h => absurd h (by simp)⟩⟩⟩⟩⟩⟩⟩⟩⟩⟩⟩⟩⟩⟩⟩⟩⟩⟩⟩⟩⟩⟩⟩⟩⟩⟩⟩⟩⟩) (by decide +kernel) rfl (List.forall_mem_cons.2 ⟨glob_int (He.int_ok X G (c.d.fact 39 (f := .int "MOST_BOXES" 8) rfl)), List.forall_mem_cons.2 ⟨glob_int (He.int_ok X G (c.d.fact 40 (f := .int "MOST_SIGNS" 8) rfl)), List.forall_mem_cons.2 ⟨glob_str (He.str_ok X G (c.d.fact 41 (f := .str "LETTERS" "abcdefghijklmnopqrstuvwxyz") rfl)), List.forall_mem_cons.2 ⟨glob_int (He.int_ok X G (c.d.fact 42 (f := .int "MOST_LETTERS" 20) rfl)), List.forall_mem_cons.2 ⟨glob_cls X G (c.d.fact 44 (f := .glo "NoBox") rfl) (by decide +kernel), List.forall_mem_cons.2 ⟨glob_cls X G (c.d.fact 45 (f := .glo "NoLetter") rfl) (by decide +kernel), List.forall_mem_cons.2 ⟨glob_cls X G (c.d.fact 46 (f := .glo "State") rfl) (by decide +kernel), fun _ h => absurd h (by simp)⟩⟩⟩⟩⟩⟩⟩) rfl (List.forall_mem_cons.2 ⟨He.free_ok X G (c.d.fact 21 (f := .free "range") rfl), List.forall_mem_cons.2 ⟨He.free_ok X G (c.d.fact 22 (f := .free "max") rfl), List.forall_mem_cons.2 ⟨He.free_ok X G (c.d.fact 23 (f := .free "min") rfl), List.forall_mem_cons.2 ⟨He.free_ok X G (c.d.fact 24 (f := .free "len") rfl), List.forall_mem_cons.2 ⟨He.free_ok X G (c.d.fact 25 (f := .free "tuple") rfl), List.forall_mem_cons.2 ⟨He.free_ok X G (c.d.fact 26 (f := .free "sum") rfl), List.forall_mem_cons.2 ⟨He.free_ok X G (c.d.fact 27 (f := .free "abs") rfl), List.forall_mem_cons.2 ⟨He.free_ok X G (c.d.fact 28 (f := .free "divmod") rfl), List.forall_mem_cons.2 ⟨He.free_ok X G (c.d.fact 29 (f := .free "zip") rfl), List.forall_mem_cons.2 ⟨He.free_ok X G (c.d.fact 30 (f := .free "all") rfl), List.forall_mem_cons.2 ⟨He.free_ok X G (c.d.fact 31 (f := .free "repr") rfl), List.forall_mem_cons.2 ⟨He.free_ok X G (c.d.fact 32 (f := .free "sorted") rfl), List.forall_mem_cons.2 ⟨He.free_ok X G (c.d.fact 33 (f := .free "set") rfl), List.forall_mem_cons.2 ⟨He.free_ok X G (c.d.fact 34 (f := .free "isinstance") rfl), List.forall_mem_cons.2 ⟨He.free_ok X G (c.d.fact 35 (f := .free "int") rfl), List.forall_mem_cons.2 ⟨He.free_ok X G (c.d.fact 36 (f := .free "enumerate") rfl), List.forall_mem_cons.2 ⟨He.free_ok X G (c.d.fact 37 (f := .free "str") rfl), List.forall_mem_cons.2 ⟨He.free_ok X G (c.d.fact 38 (f := .free "bool") rfl), fun _ h => absurd h (by simp)⟩⟩⟩⟩⟩⟩⟩⟩⟩⟩⟩⟩⟩⟩⟩⟩⟩⟩) rfl (List.forall_mem_cons.2 ⟨exc_NoState X G c, List.forall_mem_cons.2 ⟨exc_NoBox X G c, List.forall_mem_cons.2 ⟨exc_NoLetter X G c, fun _ h => absurd h (by simp)⟩⟩⟩) rfl (List.forall_mem_cons.2 ⟨hx_own X G (c.d.fact 48 (f := .glo "GoneError") rfl) (List.forall_mem_cons.2 ⟨fun _ => (c.d.fact 49 (f := .exm "NoState" "GoneError" false) rfl), List.forall_mem_cons.2 ⟨fun _ => (c.d.fact 50 (f := .exm "NoBox" "GoneError" true) rfl), List.forall_mem_cons.2 ⟨fun _ => (c.d.fact 51 (f := .exm "NoLetter" "GoneError" true) rfl), fun _ h => absurd h (by simp)⟩⟩⟩), fun _ h => absurd h (by simp)⟩) rfl (List.forall_mem_cons.2 ⟨(by
    obtain ⟨fd, a⟩ := at_State___init__ X G c
    exact ⟨f_State___init__, _, _, fd, rfl, He.glo_ok X G (c.d.fact 46 (f := .glo "State") rfl), gaL_ok (show inL clsN "State" = true by decide +kernel), He.mkr_ok (c.d.fact 52 (f := .mkr "State") rfl), a⟩), fun _ h => absurd h (by simp)⟩) rfl (List.forall_mem_cons.2 ⟨(fun C hC => by obtain rfl := gaL_inv (show gaL K clsN "State" = some C from hC); exact ⟨He.cls_ok (c.d.fact 53 (f := .cls "State") rfl), He.noat_ok (c.d.fact 54 (f := .noat "State" "kept") rfl)⟩), List.forall_mem_cons.2 ⟨(fun C hC => by obtain rfl := gaL_inv (show gaL K clsN "State" = some C from hC); exact ⟨He.cls_ok (c.d.fact 53 (f := .cls "State") rfl), He.noat_ok (c.d.fact 55 (f := .noat "State" "box") rfl)⟩), List.forall_mem_cons.2 ⟨(fun C hC => by obtain rfl := gaL_inv (show gaL K clsN "State" = some C from hC); exact ⟨He.cls_ok (c.d.fact 53 (f := .cls "State") rfl), He.noat_ok (c.d.fact 56 (f := .noat "State" "letter") rfl)⟩), fun _ h => absurd h (by simp)⟩⟩⟩) (il := il) (xl := xl) (nl := nl) (xfl := xfl) (wl := wl) (tl := tl) rfl (List.forall_mem_cons.2 ⟨isi_of (c.ex 3 (f := AM.kitE (.own "NoState") (.own "NoBox") false) rfl), List.forall_mem_cons.2 ⟨isi_of (c.ex 4 (f := AM.kitE (.own "NoState") (.own "NoLetter") false) rfl), List.forall_mem_cons.2 ⟨isi_of (c.ex 5 (f := AM.kitE (.own "NoState") (.ty "tuple") false) rfl), List.forall_mem_cons.2 ⟨isi_of (c.ex 6 (f := AM.kitE (.own "NoState") (.ty "str") false) rfl), List.forall_mem_cons.2 ⟨isi_of (c.ex 7 (f := AM.kitE (.own "NoState") (.ty "int") false) rfl), List.forall_mem_cons.2 ⟨isi_of (c.ex 8 (f := AM.kitE (.own "NoState") (.ty "bool") false) rfl), List.forall_mem_cons.2 ⟨isi_of (c.ex 9 (f := AM.kitE (.own "NoState") (.own "State") false) rfl), List.forall_mem_cons.2 ⟨isi_of (c.ex 10 (f := AM.kitE (.own "NoBox") (.own "NoBox") true) rfl), List.forall_mem_cons.2 ⟨isi_of (c.ex 11 (f := AM.kitE (.own "NoBox") (.own "NoLetter") false) rfl), List.forall_mem_cons.2 ⟨isi_of (c.ex 12 (f := AM.kitE (.own "NoBox") (.ty "tuple") false) rfl), List.forall_mem_cons.2 ⟨isi_of (c.ex 13 (f := AM.kitE (.own "NoBox") (.ty "str") false) rfl), List.forall_mem_cons.2 ⟨isi_of (c.ex 14 (f := AM.kitE (.own "NoBox") (.ty "int") false) rfl), List.forall_mem_cons.2 ⟨isi_of (c.ex 15 (f := AM.kitE (.own "NoBox") (.ty "bool") false) rfl), List.forall_mem_cons.2 ⟨isi_of (c.ex 16 (f := AM.kitE (.own "NoBox") (.own "State") false) rfl), List.forall_mem_cons.2 ⟨isi_of (c.ex 17 (f := AM.kitE (.own "NoLetter") (.own "NoBox") false) rfl), List.forall_mem_cons.2 ⟨isi_of (c.ex 18 (f := AM.kitE (.own "NoLetter") (.own "NoLetter") true) rfl), List.forall_mem_cons.2 ⟨isi_of (c.ex 19 (f := AM.kitE (.own "NoLetter") (.ty "tuple") false) rfl), List.forall_mem_cons.2 ⟨isi_of (c.ex 20 (f := AM.kitE (.own "NoLetter") (.ty "str") false) rfl), List.forall_mem_cons.2 ⟨isi_of (c.ex 21 (f := AM.kitE (.own "NoLetter") (.ty "int") false) rfl), List.forall_mem_cons.2 ⟨isi_of (c.ex 22 (f := AM.kitE (.own "NoLetter") (.ty "bool") false) rfl), List.forall_mem_cons.2 ⟨isi_of (c.ex 23 (f := AM.kitE (.own "NoLetter") (.own "State") false) rfl), List.forall_mem_cons.2 ⟨isi_of (c.ex 24 (f := AM.kitE (.own "State") (.own "NoBox") false) rfl), List.forall_mem_cons.2 ⟨isi_of (c.ex 25 (f := AM.kitE (.own "State") (.own "NoLetter") false) rfl), List.forall_mem_cons.2 ⟨isi_of (c.ex 26 (f := AM.kitE (.own "State") (.ty "tuple") false) rfl), List.forall_mem_cons.2 ⟨isi_of (c.ex 27 (f := AM.kitE (.own "State") (.ty "str") false) rfl), List.forall_mem_cons.2 ⟨isi_of (c.ex 28 (f := AM.kitE (.own "State") (.ty "int") false) rfl), List.forall_mem_cons.2 ⟨isi_of (c.ex 29 (f := AM.kitE (.own "State") (.ty "bool") false) rfl), List.forall_mem_cons.2 ⟨isi_of (c.ex 30 (f := AM.kitE (.own "State") (.own "State") true) rfl), fun _ h => absurd h (by simp)⟩⟩⟩⟩⟩⟩⟩⟩⟩⟩⟩⟩⟩⟩⟩⟩⟩⟩⟩⟩⟩⟩⟩⟩⟩⟩⟩⟩) rfl (List.forall_mem_cons.2 ⟨(fun C hC => xv_of (cs := clsN) (c.ex 31 (f := AM.xvE "NoState") rfl) C hC), List.forall_mem_cons.2 ⟨(fun C hC => xv_of (cs := clsN) (c.ex 32 (f := AM.xvE "NoBox") rfl) C hC), List.forall_mem_cons.2 ⟨(fun C hC => xv_of (cs := clsN) (c.ex 33 (f := AM.xvE "NoLetter") rfl) C hC), fun _ h => absurd h (by simp)⟩⟩⟩) rfl (List.forall_mem_cons.2 ⟨(fun C hC => inc_of (cs := clsN) (c.ex 37 (f := AM.incE "State") rfl) C hC), fun _ h => absurd h (by simp)⟩) rfl (List.forall_mem_cons.2 ⟨(fun C hC => xf_of (cs := clsN) (c.ex 34 (f := AM.xfE "NoState" "place") rfl) C hC), List.forall_mem_cons.2 ⟨(fun C hC => xf_of (cs := clsN) (c.ex 35 (f := AM.xfE "NoBox" "box") rfl) C hC), List.forall_mem_cons.2 ⟨(fun C hC => xf_of (cs := clsN) (c.ex 36 (f := AM.xfE "NoLetter" "letter") rfl) C hC), fun _ h => absurd h (by simp)⟩⟩⟩) rfl (fun _ h => nomatch (show _ ∈ [] from h)) rfl (List.forall_mem_cons.2 ⟨(fun C hC => by
    obtain rfl := gaL_inv (show gaL K clsN "State" = some C from hC)
    obtain ⟨fd, a⟩ := at_State___eq__ X G c
    exact ⟨f_State___eq__, _, fd, rfl, rfl, He.cls_ok (c.d.fact 53 (f := .cls "State") rfl), He.meth_ok (c.d.fact 57 (f := .meth "State" "__eq__") rfl), a⟩), List.forall_mem_cons.2 ⟨(fun C hC => by
    obtain rfl := gaL_inv (show gaL K clsN "State" = some C from hC)
    obtain ⟨fd, a⟩ := at_State_boxes X G c
    exact ⟨f_State_boxes, _, fd, rfl, rfl, He.cls_ok (c.d.fact 53 (f := .cls "State") rfl), He.meth_ok (c.d.fact 58 (f := .meth "State" "boxes") rfl), a⟩), List.forall_mem_cons.2 ⟨(fun C hC => by
    obtain rfl := gaL_inv (show gaL K clsN "State" = some C from hC)
    obtain ⟨fd, a⟩ := at_State_life_of X G c
    exact ⟨f_State_life_of, _, fd, rfl, rfl, He.cls_ok (c.d.fact 53 (f := .cls "State") rfl), He.meth_ok (c.d.fact 59 (f := .meth "State" "life_of") rfl), a⟩), List.forall_mem_cons.2 ⟨(fun C hC => by
    obtain rfl := gaL_inv (show gaL K clsN "State" = some C from hC)
    obtain ⟨fd, a⟩ := at_State_name_of X G c
    exact ⟨f_State_name_of, _, fd, rfl, rfl, He.cls_ok (c.d.fact 53 (f := .cls "State") rfl), He.meth_ok (c.d.fact 60 (f := .meth "State" "name_of") rfl), a⟩), List.forall_mem_cons.2 ⟨(fun C hC => by
    obtain rfl := gaL_inv (show gaL K clsN "State" = some C from hC)
    obtain ⟨fd, a⟩ := at_State_letters X G c
    exact ⟨f_State_letters, _, fd, rfl, rfl, He.cls_ok (c.d.fact 53 (f := .cls "State") rfl), He.meth_ok (c.d.fact 61 (f := .meth "State" "letters") rfl), a⟩), List.forall_mem_cons.2 ⟨(fun C hC => by
    obtain rfl := gaL_inv (show gaL K clsN "State" = some C from hC)
    obtain ⟨fd, a⟩ := at_State_letter_at X G c
    exact ⟨f_State_letter_at, _, fd, rfl, rfl, He.cls_ok (c.d.fact 53 (f := .cls "State") rfl), He.meth_ok (c.d.fact 62 (f := .meth "State" "letter_at") rfl), a⟩), List.forall_mem_cons.2 ⟨(fun C hC => by
    obtain rfl := gaL_inv (show gaL K clsN "State" = some C from hC)
    obtain ⟨fd, a⟩ := at_State_box_of X G c
    exact ⟨f_State_box_of, _, fd, rfl, rfl, He.cls_ok (c.d.fact 53 (f := .cls "State") rfl), He.meth_ok (c.d.fact 63 (f := .meth "State" "box_of") rfl), a⟩), fun _ h => absurd h (by simp)⟩⟩⟩⟩⟩⟩⟩)
end Mo
namespace Mo
open PySem AM
abbrev FL : PySem.Str → PySem.Str → Bool := inL2 fl
abbrev EXM : PySem.Str → PySem.Str → Option Bool := look2 ml
abbrev XF : PySem.Str → PySem.Str → Bool := inL2 xfl
abbrev ISI : OpN := isiG (lookI il) (inL xl) (inL nl)
abbrev MTH : PySem.Str → PySem.Str → Option (PySem.Str × Nat) := lookM tl
@[irreducible] def rF (k : Nat) : PySem.Str → OpN := runF T k
theorem rF_law (k : Nat) (x : PySem.Str) : runF T k x = rF k x := by unfold rF; rfl
-- is_whole: 0=thing
def m_is_whole (F : PySem.Str → OpN) : List MS :=
  [retN (andN [(callM ISI (evsN [(slotM 0), (retM (.ty "int"))])), (notM (callM ISI (evsN [(slotM 0), (retM (.ty "bool"))])))])]
theorem den_is_whole (F : PySem.Str → OpN) (ρ : AM.Env) (h : AH) : blkM (exS F f_is_whole.fuel (dcOf T f_is_whole)) f_is_whole.body ρ h = blkN (m_is_whole F) ρ h := by kernel_rfl
theorem run_is_whole (k : Nat) (avs : List AV) (h : AH) : rF (k + 1) "is_whole" avs h = finR (blkN (m_is_whole (rF k)) (startA f_is_whole.N avs) h) := by
  unfold rF
  show finR (blkM (exS (runF T k) f_is_whole.fuel (dcOf T f_is_whole)) f_is_whole.body (startA f_is_whole.N avs) h) = _
  rw [den_is_whole]
-- is_number: 0=thing
def m_is_number (F : PySem.Str → OpN) : List MS :=
  [retN (andN [(callM (F "is_whole") (evsN [(slotM 0)])), (bin2 (slotM 0) (retM (.int 0)) gtO)])]
theorem den_is_number (F : PySem.Str → OpN) (ρ : AM.Env) (h : AH) : blkM (exS F f_is_number.fuel (dcOf T f_is_number)) f_is_number.body ρ h = blkN (m_is_number F) ρ h := by kernel_rfl
theorem run_is_number (k : Nat) (avs : List AV) (h : AH) : rF (k + 1) "is_number" avs h = finR (blkN (m_is_number (rF k)) (startA f_is_number.N avs) h) := by
  unfold rF
  show finR (blkM (exS (runF T k) f_is_number.fuel (dcOf T f_is_number)) f_is_number.body (startA f_is_number.N avs) h) = _
  rw [den_is_number]
-- is_word: 0=thing 1=sign
def m_is_word (F : PySem.Str → OpN) : List MS :=
  [retN (andN [(callM ISI (evsN [(slotM 0), (retM (.ty "str"))])), (chainM (retM (.int 1)) (callM lenF (evsN [(slotM 0)])) (retM (.int 8)) leO leO), (callM allF (evsN [(compN (walkN (slotM 0)) (asgN 1) allT (bin2 (slotM 1) (retM (.str "abcdefghijklmnopqrstuvwxyz")) inO) [1])]))])]
theorem den_is_word (F : PySem.Str → OpN) (ρ : AM.Env) (h : AH) : blkM (exS F f_is_word.fuel (dcOf T f_is_word)) f_is_word.body ρ h = blkN (m_is_word F) ρ h := by kernel_rfl
theorem run_is_word (k : Nat) (avs : List AV) (h : AH) : rF (k + 1) "is_word" avs h = finR (blkN (m_is_word (rF k)) (startA f_is_word.N avs) h) := by
  unfold rF
  show finR (blkM (exS (runF T k) f_is_word.fuel (dcOf T f_is_word)) f_is_word.body (startA f_is_word.N avs) h) = _
  rw [den_is_word]
-- are_rising: 0=things 1=one 2=other
def m_are_rising (F : PySem.Str → OpN) : List MS :=
  [retN (callM allF (evsN [(compN (zipN (sliceM (slotM 0) (partN none) (partN (some (negM (retM (.int 1)))))) (sliceM (slotM 0) (partN (some (retM (.int 1)))) (partN none))) (asgT [(asgN 1), (asgN 2)]) allT (bin2 (slotM 1) (slotM 2) ltO) [1, 2])]))]
theorem den_are_rising (F : PySem.Str → OpN) (ρ : AM.Env) (h : AH) : blkM (exS F f_are_rising.fuel (dcOf T f_are_rising)) f_are_rising.body ρ h = blkN (m_are_rising F) ρ h := by kernel_rfl
theorem run_are_rising (k : Nat) (avs : List AV) (h : AH) : rF (k + 1) "are_rising" avs h = finR (blkN (m_are_rising (rF k)) (startA f_are_rising.N avs) h) := by
  unfold rF
  show finR (blkM (exS (runF T k) f_are_rising.fuel (dcOf T f_are_rising)) f_are_rising.body (startA f_are_rising.N avs) h) = _
  rw [den_are_rising]
-- are_marks: 0=thing 1=mark
def m_are_marks (F : PySem.Str → OpN) : List MS :=
  [retN (andN [(callM ISI (evsN [(slotM 0), (retM (.ty "tuple"))])), (callM allF (evsN [(compN (walkN (slotM 0)) (asgN 1) allT (callM (F "is_word") (evsN [(slotM 1)])) [1])])), (callM (F "are_rising") (evsN [(slotM 0)]))])]
theorem den_are_marks (F : PySem.Str → OpN) (ρ : AM.Env) (h : AH) : blkM (exS F f_are_marks.fuel (dcOf T f_are_marks)) f_are_marks.body ρ h = blkN (m_are_marks F) ρ h := by kernel_rfl
theorem run_are_marks (k : Nat) (avs : List AV) (h : AH) : rF (k + 1) "are_marks" avs h = finR (blkN (m_are_marks (rF k)) (startA f_are_marks.N avs) h) := by
  unfold rF
  show finR (blkM (exS (runF T k) f_are_marks.fuel (dcOf T f_are_marks)) f_are_marks.body (startA f_are_marks.N avs) h) = _
  rw [den_are_marks]
-- is_letter: 0=thing 1=number 2=body 3=marks
def m_is_letter (F : PySem.Str → OpN) : List MS :=
  [ifN (tstM (orN [(notM (callM ISI (evsN [(slotM 0), (retM (.ty "tuple"))]))), (bin2 (callM lenF (evsN [(slotM 0)])) (retM (.int 3)) neO)]))
     [retN (retM (.bl false))]
     [],
   asgS (slotM 0) (tgTup 3 [(tgVar 1), (tgVar 2), (tgVar 3)]),
   retN (andN [(callM (F "is_number") (evsN [(slotM 1)])), (callM (F "is_word") (evsN [(slotM 2)])), (callM (F "are_marks") (evsN [(slotM 3)]))])]
theorem den_is_letter (F : PySem.Str → OpN) (ρ : AM.Env) (h : AH) : blkM (exS F f_is_letter.fuel (dcOf T f_is_letter)) f_is_letter.body ρ h = blkN (m_is_letter F) ρ h := by kernel_rfl
theorem run_is_letter (k : Nat) (avs : List AV) (h : AH) : rF (k + 1) "is_letter" avs h = finR (blkN (m_is_letter (rF k)) (startA f_is_letter.N avs) h) := by
  unfold rF
  show finR (blkM (exS (runF T k) f_is_letter.fuel (dcOf T f_is_letter)) f_is_letter.body (startA f_is_letter.N avs) h) = _
  rw [den_is_letter]
-- are_letters: 0=thing 1=number 2=body 3=marks 4=one
def m_are_letters (F : PySem.Str → OpN) : List MS :=
  [ifN (tstM (orN [(notM (callM ISI (evsN [(slotM 0), (retM (.ty "tuple"))]))), (bin2 (callM lenF (evsN [(slotM 0)])) (retM (.int 20)) gtO), (notM (callM allF (evsN [(compN (walkN (slotM 0)) (asgN 4) allT (callM (F "is_letter") (evsN [(slotM 4)])) [4])])))]))
     [retN (retM (.bl false))]
     [],
   retN (callM (F "are_rising") (evsN [(compN (walkN (slotM 0)) (asgT [(asgN 1), (asgN 2), (asgN 3)]) allT (slotM 1) [1, 2, 3])]))]
theorem den_are_letters (F : PySem.Str → OpN) (ρ : AM.Env) (h : AH) : blkM (exS F f_are_letters.fuel (dcOf T f_are_letters)) f_are_letters.body ρ h = blkN (m_are_letters F) ρ h := by kernel_rfl
theorem run_are_letters (k : Nat) (avs : List AV) (h : AH) : rF (k + 1) "are_letters" avs h = finR (blkN (m_are_letters (rF k)) (startA f_are_letters.N avs) h) := by
  unfold rF
  show finR (blkM (exS (runF T k) f_are_letters.fuel (dcOf T f_are_letters)) f_are_letters.body (startA f_are_letters.N avs) h) = _
  rw [den_are_letters]
-- is_box: 0=thing 1=ahead 2=life 3=name 4=letters 5=box
def m_is_box (F : PySem.Str → OpN) : List MS :=
  [ifN (tstM (orN [(notM (callM ISI (evsN [(slotM 0), (retM (.ty "tuple"))]))), (bin2 (callM lenF (evsN [(slotM 0)])) (retM (.int 3)) neO)]))
     [retN (retM (.bl false))]
     [],
   asgS (slotM 0) (tgTup 3 [(tgVar 2), (tgVar 3), (tgVar 4)]),
   ifN (tstM (orN [(notM (callM (F "is_number") (evsN [(slotM 2)]))), (notM (callM (F "is_word") (evsN [(slotM 3)]))), (notM (callM (F "are_letters") (evsN [(slotM 4)])))]))
     [retN (retM (.bl false))]
     [],
   retN (andN [(bin2 (slotM 3) (compN (walkN (slotM 1)) (asgN 5) allT (bin2 (slotM 5) (retM (.int 1)) idxO) [5]) notInO), (orN [(bin2 (slotM 1) (tupM (evsN [])) eqO), (bin2 (bin2 (bin2 (slotM 1) (negM (retM (.int 1))) idxO) (retM (.int 0)) idxO) (slotM 2) ltO)])])]
theorem den_is_box (F : PySem.Str → OpN) (ρ : AM.Env) (h : AH) : blkM (exS F f_is_box.fuel (dcOf T f_is_box)) f_is_box.body ρ h = blkN (m_is_box F) ρ h := by kernel_rfl
theorem run_is_box (k : Nat) (avs : List AV) (h : AH) : rF (k + 1) "is_box" avs h = finR (blkN (m_is_box (rF k)) (startA f_is_box.N avs) h) := by
  unfold rF
  show finR (blkM (exS (runF T k) f_is_box.fuel (dcOf T f_is_box)) f_is_box.body (startA f_is_box.N avs) h) = _
  rw [den_is_box]
-- check_boxes: 0=thing 1=place 2=box
def m_check_boxes (F : PySem.Str → OpN) : List MS :=
  [ifN (tstM (orN [(notM (callM ISI (evsN [(slotM 0), (retM (.ty "tuple"))]))), (bin2 (callM lenF (evsN [(slotM 0)])) (retM (.int 8)) gtO)]))
     [raiseN "NoState" "place" (retM .non)]
     [],
   forN (enumN [(slotM 0)]) (asgT [(asgN 1), (asgN 2)])
     [ifN (tstM (notM (callM (F "is_box") (evsN [(slotM 2), (sliceM (slotM 0) (partN none) (partN (some (slotM 1))))]))))
        [raiseN "NoState" "place" (slotM 1)]
        []]]
theorem den_check_boxes (F : PySem.Str → OpN) (ρ : AM.Env) (h : AH) : blkM (exS F f_check_boxes.fuel (dcOf T f_check_boxes)) f_check_boxes.body ρ h = blkN (m_check_boxes F) ρ h := by kernel_rfl
theorem run_check_boxes (k : Nat) (avs : List AV) (h : AH) : rF (k + 1) "check_boxes" avs h = finR (blkN (m_check_boxes (rF k)) (startA f_check_boxes.N avs) h) := by
  unfold rF
  show finR (blkM (exS (runF T k) f_check_boxes.fuel (dcOf T f_check_boxes)) f_check_boxes.body (startA f_check_boxes.N avs) h) = _
  rw [den_check_boxes]
-- State.__init__: 0=self 1=boxes
def m_State___init__ (F : PySem.Str → OpN) : List MS :=
  [exprN (callM (F "check_boxes") (evsN [(slotM 1)])),
   stN FL "kept" (slotM 0) (slotM 1)]
theorem den_State___init__ (F : PySem.Str → OpN) (ρ : AM.Env) (h : AH) : blkM (exS F f_State___init__.fuel (dcOf T f_State___init__)) f_State___init__.body ρ h = blkN (m_State___init__ F) ρ h := by kernel_rfl
theorem run_State___init__ (k : Nat) (avs : List AV) (h : AH) : rF (k + 1) "State.__init__" avs h = finR (blkN (m_State___init__ (rF k)) (startA f_State___init__.N avs) h) := by
  unfold rF
  show finR (blkM (exS (runF T k) f_State___init__.fuel (dcOf T f_State___init__)) f_State___init__.body (startA f_State___init__.N avs) h) = _
  rw [den_State___init__]
-- State.__eq__: 0=self 1=other
def m_State___eq__ (F : PySem.Str → OpN) : List MS :=
  [retN (andN [(callM ISI (evsN [(slotM 1), (retM (.glo "State"))])), (bin2 (fldN FL XF "kept" (slotM 0)) (fldN FL XF "kept" (slotM 1)) eqO)])]
theorem den_State___eq__ (F : PySem.Str → OpN) (ρ : AM.Env) (h : AH) : blkM (exS F f_State___eq__.fuel (dcOf T f_State___eq__)) f_State___eq__.body ρ h = blkN (m_State___eq__ F) ρ h := by kernel_rfl
theorem run_State___eq__ (k : Nat) (avs : List AV) (h : AH) : rF (k + 1) "State.__eq__" avs h = finR (blkN (m_State___eq__ (rF k)) (startA f_State___eq__.N avs) h) := by
  unfold rF
  show finR (blkM (exS (runF T k) f_State___eq__.fuel (dcOf T f_State___eq__)) f_State___eq__.body (startA f_State___eq__.N avs) h) = _
  rw [den_State___eq__]
-- State.boxes: 0=self
def m_State_boxes (F : PySem.Str → OpN) : List MS :=
  [retN (fldN FL XF "kept" (slotM 0))]
theorem den_State_boxes (F : PySem.Str → OpN) (ρ : AM.Env) (h : AH) : blkM (exS F f_State_boxes.fuel (dcOf T f_State_boxes)) f_State_boxes.body ρ h = blkN (m_State_boxes F) ρ h := by kernel_rfl
theorem run_State_boxes (k : Nat) (avs : List AV) (h : AH) : rF (k + 1) "State.boxes" avs h = finR (blkN (m_State_boxes (rF k)) (startA f_State_boxes.N avs) h) := by
  unfold rF
  show finR (blkM (exS (runF T k) f_State_boxes.fuel (dcOf T f_State_boxes)) f_State_boxes.body (startA f_State_boxes.N avs) h) = _
  rw [den_State_boxes]
-- State.life_of: 0=self 1=name 2=life 3=own 4=letters
def m_State_life_of (F : PySem.Str → OpN) : List MS :=
  [forN (walkN (fldN FL XF "kept" (slotM 0))) (asgT [(asgN 2), (asgN 3), (asgN 4)])
     [ifN (tstM (andN [(callM (F "is_word") (evsN [(slotM 1)])), (bin2 (slotM 3) (slotM 1) eqO)]))
        [retN (slotM 2)]
        []],
   raiseN "NoBox" "box" (slotM 1)]
theorem den_State_life_of (F : PySem.Str → OpN) (ρ : AM.Env) (h : AH) : blkM (exS F f_State_life_of.fuel (dcOf T f_State_life_of)) f_State_life_of.body ρ h = blkN (m_State_life_of F) ρ h := by kernel_rfl
theorem run_State_life_of (k : Nat) (avs : List AV) (h : AH) : rF (k + 1) "State.life_of" avs h = finR (blkN (m_State_life_of (rF k)) (startA f_State_life_of.N avs) h) := by
  unfold rF
  show finR (blkM (exS (runF T k) f_State_life_of.fuel (dcOf T f_State_life_of)) f_State_life_of.body (startA f_State_life_of.N avs) h) = _
  rw [den_State_life_of]
-- State.box_of: 0=self 1=life 2=box
def m_State_box_of (F : PySem.Str → OpN) : List MS :=
  [forN (walkN (fldN FL XF "kept" (slotM 0))) (asgN 2)
     [ifN (tstM (andN [(callM (F "is_whole") (evsN [(slotM 1)])), (bin2 (bin2 (slotM 2) (retM (.int 0)) idxO) (slotM 1) eqO)]))
        [retN (slotM 2)]
        []],
   raiseN "NoBox" "box" (slotM 1)]
theorem den_State_box_of (F : PySem.Str → OpN) (ρ : AM.Env) (h : AH) : blkM (exS F f_State_box_of.fuel (dcOf T f_State_box_of)) f_State_box_of.body ρ h = blkN (m_State_box_of F) ρ h := by kernel_rfl
theorem run_State_box_of (k : Nat) (avs : List AV) (h : AH) : rF (k + 1) "State.box_of" avs h = finR (blkN (m_State_box_of (rF k)) (startA f_State_box_of.N avs) h) := by
  unfold rF
  show finR (blkM (exS (runF T k) f_State_box_of.fuel (dcOf T f_State_box_of)) f_State_box_of.body (startA f_State_box_of.N avs) h) = _
  rw [den_State_box_of]
-- State.name_of: 0=self 1=life
def m_State_name_of (F : PySem.Str → OpN) : List MS :=
  [retN (bin2 (mthN F MTH "box_of" (slotM 0) 1 (evsN [(slotM 1)])) (retM (.int 1)) idxO)]
theorem den_State_name_of (F : PySem.Str → OpN) (ρ : AM.Env) (h : AH) : blkM (exS F f_State_name_of.fuel (dcOf T f_State_name_of)) f_State_name_of.body ρ h = blkN (m_State_name_of F) ρ h := by kernel_rfl
theorem run_State_name_of (k : Nat) (avs : List AV) (h : AH) : rF (k + 1) "State.name_of" avs h = finR (blkN (m_State_name_of (rF k)) (startA f_State_name_of.N avs) h) := by
  unfold rF
  show finR (blkM (exS (runF T k) f_State_name_of.fuel (dcOf T f_State_name_of)) f_State_name_of.body (startA f_State_name_of.N avs) h) = _
  rw [den_State_name_of]
-- State.letters: 0=self 1=life
def m_State_letters (F : PySem.Str → OpN) : List MS :=
  [retN (bin2 (mthN F MTH "box_of" (slotM 0) 1 (evsN [(slotM 1)])) (retM (.int 2)) idxO)]
theorem den_State_letters (F : PySem.Str → OpN) (ρ : AM.Env) (h : AH) : blkM (exS F f_State_letters.fuel (dcOf T f_State_letters)) f_State_letters.body ρ h = blkN (m_State_letters F) ρ h := by kernel_rfl
theorem run_State_letters (k : Nat) (avs : List AV) (h : AH) : rF (k + 1) "State.letters" avs h = finR (blkN (m_State_letters (rF k)) (startA f_State_letters.N avs) h) := by
  unfold rF
  show finR (blkM (exS (runF T k) f_State_letters.fuel (dcOf T f_State_letters)) f_State_letters.body (startA f_State_letters.N avs) h) = _
  rw [den_State_letters]
-- State.letter_at: 0=self 1=life 2=number 3=own 4=body 5=marks
def m_State_letter_at (F : PySem.Str → OpN) : List MS :=
  [forN (walkN (bin2 (mthN F MTH "box_of" (slotM 0) 1 (evsN [(slotM 1)])) (retM (.int 2)) idxO)) (asgT [(asgN 3), (asgN 4), (asgN 5)])
     [ifN (tstM (andN [(callM (F "is_whole") (evsN [(slotM 2)])), (bin2 (slotM 3) (slotM 2) eqO)]))
        [retN (tupM (evsN [(slotM 4), (slotM 5)]))]
        []],
   raiseN "NoLetter" "letter" (slotM 2)]
theorem den_State_letter_at (F : PySem.Str → OpN) (ρ : AM.Env) (h : AH) : blkM (exS F f_State_letter_at.fuel (dcOf T f_State_letter_at)) f_State_letter_at.body ρ h = blkN (m_State_letter_at F) ρ h := by kernel_rfl
theorem run_State_letter_at (k : Nat) (avs : List AV) (h : AH) : rF (k + 1) "State.letter_at" avs h = finR (blkN (m_State_letter_at (rF k)) (startA f_State_letter_at.N avs) h) := by
  unfold rF
  show finR (blkM (exS (runF T k) f_State_letter_at.fuel (dcOf T f_State_letter_at)) f_State_letter_at.body (startA f_State_letter_at.N avs) h) = _
  rw [den_State_letter_at]
-- _law_pool: 0=_law_script 1=_law_k 2=_law_cell 3=_law_mix 4=_law_found 5=_law_turn
def m__law_pool (F : PySem.Str → OpN) : List MS :=
  [setNN 2 (callM sumF (evsN [(sliceM (slotM 0) (partN (some (slotM 1))) (partN (some (bin2 (slotM 1) (retM (.int 1)) addO))))])),
   ifN (tstM (orN [(bin2 (slotM 2) (retM (.int 0)) ltO), (bin2 (slotM 2) (bin2 (retM (.int 10)) (retM (.int 18)) powO) geO)]))
     [retN (newM (evsN [(bin2 (callM absF (evsN [(slotM 2)])) (bin2 (bin2 (bin2 (bin2 (bin2 (bin2 (retM (.int 10)) (retM (.int 64)) powO) (bin2 (retM (.int 10)) (retM (.int 64)) powO) mulO) (bin2 (retM (.int 10)) (retM (.int 64)) powO) mulO) (bin2 (retM (.int 10)) (retM (.int 64)) powO) mulO) (bin2 (retM (.int 10)) (retM (.int 64)) powO) mulO) (bin2 (retM (.int 10)) (retM (.int 64)) powO) mulO) modO)]))]
     [],
   setNN 3 (bin2 (bin2 (bin2 (slotM 2) (retM (.int 48271)) mulO) (bin2 (bin2 (retM (.int 977)) (slotM 1) mulO) (slotM 1) mulO) addO) (retM (.int 13)) addO),
   setNN 4 (retM (.int 0)),
   forN (rangeN [(retM (.int 27))]) (asgN 5)
     [setNN 3 (bin2 (bin2 (bin2 (bin2 (bin2 (slotM 3) (retM (.int 999999999989)) modO) (retM (.int 69621)) mulO) (bin2 (retM (.int 40503)) (slotM 5) mulO) addO) (retM (.int 271)) addO) (retM (.int 999999999989)) modO),
      setNN 4 (bin2 (bin2 (slotM 4) (bin2 (retM (.int 10)) (retM (.int 11)) powO) mulO) (bin2 (bin2 (slotM 3) (bin2 (bin2 (slotM 3) (retM (.int 65537)) modO) (retM (.int 3)) addO) mulO) (retM (.int 99999999977)) modO) addO)],
   retN (newM (evsN [(slotM 4)]))]
theorem den__law_pool (F : PySem.Str → OpN) (ρ : AM.Env) (h : AH) : blkM (exS F f__law_pool.fuel (dcOf T f__law_pool)) f__law_pool.body ρ h = blkN (m__law_pool F) ρ h := by kernel_rfl
theorem run__law_pool (k : Nat) (avs : List AV) (h : AH) : rF (k + 1) "_law_pool" avs h = finR (blkN (m__law_pool (rF k)) (startA f__law_pool.N avs) h) := by
  unfold rF
  show finR (blkM (exS (runF T k) f__law_pool.fuel (dcOf T f__law_pool)) f__law_pool.body (startA f__law_pool.N avs) h) = _
  rw [den__law_pool]
-- _law_take: 0=_law_pool_here 1=_law_many 2=_law_digit
def m__law_take (F : PySem.Str → OpN) : List MS :=
  [asgS (callM divmodF (evsN [(bin2 (slotM 0) (retM (.int 0)) idxO), (slotM 1)])) (tgTup 2 [(tgSub (slotM 0) (retM (.int 0))), (tgVar 2)]),
   retN (slotM 2)]
theorem den__law_take (F : PySem.Str → OpN) (ρ : AM.Env) (h : AH) : blkM (exS F f__law_take.fuel (dcOf T f__law_take)) f__law_take.body ρ h = blkN (m__law_take F) ρ h := by kernel_rfl
theorem run__law_take (k : Nat) (avs : List AV) (h : AH) : rF (k + 1) "_law_take" avs h = finR (blkN (m__law_take (rF k)) (startA f__law_take.N avs) h) := by
  unfold rF
  show finR (blkM (exS (runF T k) f__law_take.fuel (dcOf T f__law_take)) f__law_take.body (startA f__law_take.N avs) h) = _
  rw [den__law_take]
-- _law_words: 0=_law_pool_here 1=_law_many 2=_law_own 3=_law_turn 4=_law_letters 5=_law_found 6=_law_word 7=_law_some 8=_law_letter 9=_law_place 10=_law_one
def m__law_words (F : PySem.Str → OpN) : List MS :=
  [setNN 2 (lstM (evsN [(retM (.str "box")), (retM (.str "letter")), (retM (.str "gone")), (retM (.str "struck")), (retM (.str "marks")), (retM (.str "left")), (retM (.str "stay")), (retM (.str "done")), (retM (.str "lost")), (retM (.str "now")), (retM (.str "hello")), (retM (.str "end"))])),
   asgS (tupM (evsN [(retM (.str "abcdefghijklmnopqrstuvwxyz")), (newM (evsN []))])) (tgTup 2 [(tgVar 4), (tgVar 5)]),
   forN (rangeN [(slotM 1)]) (asgN 3)
     [setNN 6 (bin2 (slotM 2) (callM (F "_law_take") (evsN [(slotM 0), (retM (.int 12))])) idxO),
      ifN (tstM (bin2 (callM (F "_law_take") (evsN [(slotM 0), (retM (.int 4))])) (retM (.int 0)) gtO))
        [setNN 6 (smt1 joinF (retM (.str "")) (compN (rangeN [(bin2 (retM (.int 1)) (callM (F "_law_take") (evsN [(slotM 0), (retM (.int 8))])) addO)]) (asgN 9) allT (bin2 (slotM 4) (callM (F "_law_take") (evsN [(slotM 0), (retM (.int 26))])) idxO) [9]))]
        [],
      setNN 7 (bin2 (lstM (evsN [(slotM 6)])) (compN (walkN (slotM 4)) (asgN 8) allT (bin2 (bin2 (sliceM (slotM 6) (partN none) (partN (some (retM (.int 6))))) (slotM 8) addO) (retM (.str "x")) addO) [8]) addO),
      exprN (appM (slotM 5) (bin2 (compN (walkN (slotM 7)) (asgN 10) (tstM (bin2 (slotM 10) (slotM 5) notInO)) (slotM 10) [10]) (retM (.int 0)) idxO))],
   retN (slotM 5)]
theorem den__law_words (F : PySem.Str → OpN) (ρ : AM.Env) (h : AH) : blkM (exS F f__law_words.fuel (dcOf T f__law_words)) f__law_words.body ρ h = blkN (m__law_words F) ρ h := by kernel_rfl
theorem run__law_words (k : Nat) (avs : List AV) (h : AH) : rF (k + 1) "_law_words" avs h = finR (blkN (m__law_words (rF k)) (startA f__law_words.N avs) h) := by
  unfold rF
  show finR (blkM (exS (runF T k) f__law_words.fuel (dcOf T f__law_words)) f__law_words.body (startA f__law_words.N avs) h) = _
  rw [den__law_words]
-- _law_marks: 0=_law_pool_here 1=_law_some 2=_law_turn
def m__law_marks (F : PySem.Str → OpN) : List MS :=
  [setNN 1 (lstM (evsN [(retM (.str "a")), (retM (.str "do")), (retM (.str "red")), (retM (.str "seen")), (retM (.str "zz"))])),
   retN (callM tupleF (evsN [(sortSetM (compN (rangeN [(callM (F "_law_take") (evsN [(slotM 0), (retM (.int 4))]))]) (asgN 2) allT (bin2 (slotM 1) (callM (F "_law_take") (evsN [(slotM 0), (retM (.int 5))])) idxO) [2]))]))]
theorem den__law_marks (F : PySem.Str → OpN) (ρ : AM.Env) (h : AH) : blkM (exS F f__law_marks.fuel (dcOf T f__law_marks)) f__law_marks.body ρ h = blkN (m__law_marks F) ρ h := by kernel_rfl
theorem run__law_marks (k : Nat) (avs : List AV) (h : AH) : rF (k + 1) "_law_marks" avs h = finR (blkN (m__law_marks (rF k)) (startA f__law_marks.N avs) h) := by
  unfold rF
  show finR (blkM (exS (runF T k) f__law_marks.fuel (dcOf T f__law_marks)) f__law_marks.body (startA f__law_marks.N avs) h) = _
  rw [den__law_marks]
-- _law_boxes: 0=_law_pool_here 1=_law_boxes_here 2=_law_letters 3=_law_name 4=_law_names 5=_law_found 6=_law_life 7=_law_turn 8=_law_number 9=_law_some
def m__law_boxes (F : PySem.Str → OpN) : List MS :=
  [parN [4, 5, 6] [(callM (F "_law_words") (evsN [(slotM 0), (slotM 1)])), (newM (evsN [])), (retM (.int 0))],
   forN (walkN (sliceM (slotM 4) (partN none) (partN (some (callM (F "_law_take") (evsN [(slotM 0), (bin2 (slotM 1) (retM (.int 1)) addO)])))))) (asgN 3)
     [parN [6, 8, 9] [(bin2 (bin2 (slotM 6) (retM (.int 1)) addO) (callM (F "_law_take") (evsN [(slotM 0), (retM (.int 3))])) addO), (retM (.int 0)), (newM (evsN []))],
      forN (rangeN [(callM (F "_law_take") (evsN [(slotM 0), (bin2 (slotM 2) (retM (.int 1)) addO)]))]) (asgN 7)
        [setNN 8 (bin2 (bin2 (slotM 8) (retM (.int 1)) addO) (callM (F "_law_take") (evsN [(slotM 0), (retM (.int 2))])) addO),
         exprN (appM (slotM 9) (tupM (evsN [(slotM 8), (bin2 (lstM (evsN [(retM (.str "a")), (retM (.str "bee")), (retM (.str "end")), (retM (.str "hello"))])) (callM (F "_law_take") (evsN [(slotM 0), (retM (.int 4))])) idxO), (callM (F "_law_marks") (evsN [(slotM 0)]))])))],
      exprN (appM (slotM 5) (tupM (evsN [(slotM 6), (slotM 3), (callM tupleF (evsN [(slotM 9)]))])))],
   retN (callM tupleF (evsN [(slotM 5)]))]
theorem den__law_boxes (F : PySem.Str → OpN) (ρ : AM.Env) (h : AH) : blkM (exS F f__law_boxes.fuel (dcOf T f__law_boxes)) f__law_boxes.body ρ h = blkN (m__law_boxes F) ρ h := by kernel_rfl
theorem run__law_boxes (k : Nat) (avs : List AV) (h : AH) : rF (k + 1) "_law_boxes" avs h = finR (blkN (m__law_boxes (rF k)) (startA f__law_boxes.N avs) h) := by
  unfold rF
  show finR (blkM (exS (runF T k) f__law_boxes.fuel (dcOf T f__law_boxes)) f__law_boxes.body (startA f__law_boxes.N avs) h) = _
  rw [den__law_boxes]
-- _law_due: 0=_law_boxes_here 1=_law_question 2=_law_found 3=_law_some 4=_law_which 5=_law_one 6=_law_two 7=_law_box 8=_law_letter
def m__law_due (F : PySem.Str → OpN) : List MS :=
  [asgS (slotM 1) (tgTup 3 [(tgVar 4), (tgVar 5), (tgVar 6)]),
   setNN 2 (compN (walkN (slotM 0)) (asgN 7) (tstM (bin2 (callM reprF (evsN [(bin2 (slotM 7) (callM intF (evsN [(bin2 (slotM 4) (retM (.int 0)) eqO)])) idxO)])) (callM reprF (evsN [(slotM 5)])) eqO)) (slotM 7) [7]),
   ifN (tstM (bin2 (slotM 2) (lstM (evsN [])) eqO))
     [retN (tupM (evsN [(retM (.str "box")), (callM reprF (evsN [(slotM 5)]))]))]
     [],
   ifN (tstM (bin2 (slotM 4) (retM (.int 3)) ltO))
     [retN (lstM (evsN [(bin2 (bin2 (slotM 2) (retM (.int 0)) idxO) (slotM 4) idxO)]))]
     [],
   setNN 3 (compN (walkN (bin2 (bin2 (slotM 2) (retM (.int 0)) idxO) (retM (.int 2)) idxO)) (asgN 8) (tstM (bin2 (callM reprF (evsN [(bin2 (slotM 8) (retM (.int 0)) idxO)])) (callM reprF (evsN [(slotM 6)])) eqO)) (slotM 8) [8]),
   retN (iteM (tstM (bin2 (slotM 3) (lstM (evsN [])) neO)) (lstM (evsN [(sliceM (bin2 (slotM 3) (retM (.int 0)) idxO) (partN (some (retM (.int 1)))) (partN none))])) (tupM (evsN [(retM (.str "letter")), (callM reprF (evsN [(slotM 6)]))])))]
theorem den__law_due (F : PySem.Str → OpN) (ρ : AM.Env) (h : AH) : blkM (exS F f__law_due.fuel (dcOf T f__law_due)) f__law_due.body ρ h = blkN (m__law_due F) ρ h := by kernel_rfl
theorem run__law_due (k : Nat) (avs : List AV) (h : AH) : rF (k + 1) "_law_due" avs h = finR (blkN (m__law_due (rF k)) (startA f__law_due.N avs) h) := by
  unfold rF
  show finR (blkM (exS (runF T k) f__law_due.fuel (dcOf T f__law_due)) f__law_due.body (startA f__law_due.N avs) h) = _
  rw [den__law_due]
-- _law_met: 0=_law_state 1=_law_question 2=_law_which 3=_law_one 4=_law_two 5=_law_caught 6=_law_told 7=e
def m__law_met (F : PySem.Str → OpN) : List MS :=
  [asgS (slotM 1) (tgTup 3 [(tgVar 2), (tgVar 3), (tgVar 4)]),
   asgS (tupM (evsN [(retM .non), (retM .non)])) (tgTup 2 [(tgVar 5), (tgVar 6)]),
   tryAsN (fun c => EXM c "GoneError") 7 5
     [ifN (tstM (bin2 (slotM 2) (retM (.int 0)) eqO))
        [setNN 6 (mthN F MTH "life_of" (slotM 0) 1 (evsN [(slotM 3)]))]
        [ifN (tstM (bin2 (slotM 2) (retM (.int 1)) eqO))
           [setNN 6 (mthN F MTH "name_of" (slotM 0) 1 (evsN [(slotM 3)]))]
           [ifN (tstM (bin2 (slotM 2) (retM (.int 2)) eqO))
              [setNN 6 (mthN F MTH "letters" (slotM 0) 1 (evsN [(slotM 3)]))]
              [setNN 6 (mthN F MTH "letter_at" (slotM 0) 2 (evsN [(slotM 3), (slotM 4)]))]]]],
   ifN (tstM (bin2 (slotM 5) (retM .non) isO))
     [retN (lstM (evsN [(slotM 6)]))]
     [],
   ifN (tstM (andN [(callM ISI (evsN [(slotM 5), (retM (.glo "NoBox"))])), (notM (callM ISI (evsN [(slotM 5), (retM (.glo "NoLetter"))])))]))
     [retN (tupM (evsN [(retM (.str "box")), (callM reprF (evsN [(fldN FL XF "box" (slotM 5))]))]))]
     [],
   retN (iteM (tstM (callM ISI (evsN [(slotM 5), (retM (.glo "NoLetter"))]))) (tupM (evsN [(retM (.str "letter")), (callM reprF (evsN [(fldN FL XF "letter" (slotM 5))]))])) (tupM (evsN [(retM (.str "other")), (retM (.str ""))])))]
theorem den__law_met (F : PySem.Str → OpN) (ρ : AM.Env) (h : AH) : blkM (exS F f__law_met.fuel (dcOf T f__law_met)) f__law_met.body ρ h = blkN (m__law_met F) ρ h := by kernel_rfl
theorem run__law_met (k : Nat) (avs : List AV) (h : AH) : rF (k + 1) "_law_met" avs h = finR (blkN (m__law_met (rF k)) (startA f__law_met.N avs) h) := by
  unfold rF
  show finR (blkM (exS (runF T k) f__law_met.fuel (dcOf T f__law_met)) f__law_met.body (startA f__law_met.N avs) h) = _
  rw [den__law_met]
-- _law_other: 0=_law_pool_here 1=_law_boxes_here 2=_law_at 3=_law_names 4=_law_found 5=_law_more 6=_law_some 7=_law_life 8=_law_name 9=_law_letters 10=_law_one
def m__law_other (F : PySem.Str → OpN) : List MS :=
  [parN [3, 4] [(callM (F "_law_words") (evsN [(slotM 0), (callM lenF (evsN [(slotM 1)]))])), (newM (evsN []))],
   forN (rangeN [(callM lenF (evsN [(slotM 1)]))]) (asgN 2)
     [asgS (bin2 (slotM 1) (slotM 2) idxO) (tgTup 3 [(tgVar 7), (tgVar 8), (tgVar 9)]),
      setNN 5 (callM (F "_law_take") (evsN [(slotM 0), (retM (.int 2))])),
      setNN 6 (compN (walkN (slotM 9)) (asgN 10) allT (tupM (evsN [(bin2 (bin2 (slotM 10) (retM (.int 0)) idxO) (slotM 5) addO), (bin2 (slotM 10) (retM (.int 1)) idxO), (callM (F "_law_marks") (evsN [(slotM 0)]))])) [10]),
      exprN (appM (slotM 4) (tupM (evsN [(slotM 7), (bin2 (slotM 3) (slotM 2) idxO), (callM tupleF (evsN [(sliceM (slotM 6) (partN (some (callM (F "_law_take") (evsN [(slotM 0), (retM (.int 2))])))) (partN none))]))])))],
   retN (callM tupleF (evsN [(slotM 4)]))]
theorem den__law_other (F : PySem.Str → OpN) (ρ : AM.Env) (h : AH) : blkM (exS F f__law_other.fuel (dcOf T f__law_other)) f__law_other.body ρ h = blkN (m__law_other F) ρ h := by kernel_rfl
theorem run__law_other (k : Nat) (avs : List AV) (h : AH) : rF (k + 1) "_law_other" avs h = finR (blkN (m__law_other (rF k)) (startA f__law_other.N avs) h) := by
  unfold rF
  show finR (blkM (exS (runF T k) f__law_other.fuel (dcOf T f__law_other)) f__law_other.body (startA f__law_other.N avs) h) = _
  rw [den__law_other]
-- _law_numbers: 0=_law_boxes_here 1=_law_found 2=_law_life 3=_law_name 4=_law_letters 5=_law_one
def m__law_numbers (F : PySem.Str → OpN) : List MS :=
  [setNN 1 (lstM (evsN [(retM (.int 0)), (retM (.int 1)), (retM (.bl true)), (retM (.int 2)), (retM (.int 9)), (retM .non), (retM (.str "1"))])),
   forN (walkN (slotM 0)) (asgT [(asgN 2), (asgN 3), (asgN 4)])
     [setNN 1 (bin2 (compN (walkN (slotM 4)) (asgN 5) allT (bin2 (slotM 5) (retM (.int 0)) idxO) [5]) (slotM 1) addO)],
   retN (slotM 1)]
theorem den__law_numbers (F : PySem.Str → OpN) (ρ : AM.Env) (h : AH) : blkM (exS F f__law_numbers.fuel (dcOf T f__law_numbers)) f__law_numbers.body ρ h = blkN (m__law_numbers F) ρ h := by kernel_rfl
theorem run__law_numbers (k : Nat) (avs : List AV) (h : AH) : rF (k + 1) "_law_numbers" avs h = finR (blkN (m__law_numbers (rF k)) (startA f__law_numbers.N avs) h) := by
  unfold rF
  show finR (blkM (exS (runF T k) f__law_numbers.fuel (dcOf T f__law_numbers)) f__law_numbers.body (startA f__law_numbers.N avs) h) = _
  rw [den__law_numbers]
-- _law_questions: 0=_law_pool_here 1=_law_boxes_here 2=_law_others 3=_law_lives 4=_law_names 5=_law_turn 6=_law_numbers_here 7=_law_found 8=_law_which 9=_law_one 10=_law_box
def m__law_questions (F : PySem.Str → OpN) : List MS :=
  [setNN 3 (bin2 (bin2 (compN (walkN (bin2 (slotM 1) (slotM 2) addO)) (asgN 10) allT (bin2 (slotM 10) (retM (.int 0)) idxO) [10]) (retM (.int 2)) mulO) (lstM (evsN [(retM (.int 0)), (retM (.int 1)), (retM (.int 9)), (retM .non), (retM (.str "a"))])) addO),
   setNN 4 (bin2 (bin2 (compN (walkN (bin2 (slotM 1) (slotM 2) addO)) (asgN 10) allT (bin2 (slotM 10) (retM (.int 1)) idxO) [10]) (retM (.int 2)) mulO) (lstM (evsN [(retM (.str "a")), (retM (.str "zzzzzzzz")), (retM (.int 1)), (retM .non)])) addO),
   parN [6, 7] [(callM (F "_law_numbers") (evsN [(bin2 (slotM 1) (slotM 2) addO)])), (newM (evsN [(tupM (evsN [(retM (.int 1)), (retM (.int 1)), (retM (.int 0))])), (tupM (evsN [(retM (.int 1)), (retM (.bl true)), (retM (.int 0))])), (tupM (evsN [(retM (.int 3)), (retM (.int 1)), (retM (.int 1))])), (tupM (evsN [(retM (.int 3)), (retM (.int 1)), (retM (.bl true))])), (tupM (evsN [(retM (.int 3)), (retM (.bl true)), (retM (.int 1))]))]))],
   forN (rangeN [(retM (.int 40))]) (asgN 5)
     [setNN 8 (callM (F "_law_take") (evsN [(slotM 0), (retM (.int 4))])),
      setNN 9 (iteM (tstM (bin2 (slotM 8) (retM (.int 0)) eqO)) (bin2 (slotM 4) (callM (F "_law_take") (evsN [(slotM 0), (callM lenF (evsN [(slotM 4)]))])) idxO) (bin2 (slotM 3) (callM (F "_law_take") (evsN [(slotM 0), (callM lenF (evsN [(slotM 3)]))])) idxO)),
      exprN (appM (slotM 7) (tupM (evsN [(slotM 8), (slotM 9), (bin2 (slotM 6) (callM (F "_law_take") (evsN [(slotM 0), (callM lenF (evsN [(slotM 6)]))])) idxO)])))],
   retN (slotM 7)]
theorem den__law_questions (F : PySem.Str → OpN) (ρ : AM.Env) (h : AH) : blkM (exS F f__law_questions.fuel (dcOf T f__law_questions)) f__law_questions.body ρ h = blkN (m__law_questions F) ρ h := by kernel_rfl
theorem run__law_questions (k : Nat) (avs : List AV) (h : AH) : rF (k + 1) "_law_questions" avs h = finR (blkN (m__law_questions (rF k)) (startA f__law_questions.N avs) h) := by
  unfold rF
  show finR (blkM (exS (runF T k) f__law_questions.fuel (dcOf T f__law_questions)) f__law_questions.body (startA f__law_questions.N avs) h) = _
  rw [den__law_questions]
-- _law_right: 0=_law_pool_here 1=_law_boxes_here 2=_law_others 3=_law_question 4=_law_states 5=_law_held 6=_law_state 7=_law_some 8=_law_told 9=_law_shown
def m__law_right (F : PySem.Str → OpN) : List MS :=
  [parN [4, 5] [(lstM (evsN [(callM (F "State") (evsN [(slotM 1)])), (callM (F "State") (evsN [(slotM 2)]))])), (newM (evsN []))],
   forON (callM (F "_law_questions") (evsN [(slotM 0), (slotM 1), (slotM 2)])) (asgN 3)
     [forN (zipqN [(slotM 4), (lstM (evsN [(slotM 1), (slotM 2)]))]) (asgT [(asgN 6), (asgN 7)])
        [setNN 8 (callM (F "_law_met") (evsN [(slotM 6), (slotM 3)])),
         ifN (tstM (bin2 (slotM 8) (callM (F "_law_due") (evsN [(slotM 7), (slotM 3)])) neO))
           [retN (retM (.bl false))]
           [],
         exprN (appM (slotM 5) (tupM (evsN [(slotM 8), (callM reprF (evsN [(slotM 8)]))])))]],
   ifN (tstM (notM (callM allF (evsN [(compON (slotM 5) (asgT [(asgN 8), (asgN 9)]) allT (bin2 (callM reprF (evsN [(slotM 8)])) (slotM 9) eqO) [8, 9])]))))
     [retN (retM (.bl false))]
     [],
   retN (andN [(bin2 (slotM 4) (lstM (evsN [(callM (F "State") (evsN [(slotM 1)])), (callM (F "State") (evsN [(slotM 2)]))])) (eqG F MTH)), (bin2 (compN (walkN (slotM 4)) (asgN 6) allT (mthN F MTH "boxes" (slotM 6) 0 (evsN [])) [6]) (lstM (evsN [(slotM 1), (slotM 2)])) eqO)])]
theorem den__law_right (F : PySem.Str → OpN) (ρ : AM.Env) (h : AH) : blkM (exS F f__law_right.fuel (dcOf T f__law_right)) f__law_right.body ρ h = blkN (m__law_right F) ρ h := by kernel_rfl
theorem run__law_right (k : Nat) (avs : List AV) (h : AH) : rF (k + 1) "_law_right" avs h = finR (blkN (m__law_right (rF k)) (startA f__law_right.N avs) h) := by
  unfold rF
  show finR (blkM (exS (runF T k) f__law_right.fuel (dcOf T f__law_right)) f__law_right.body (startA f__law_right.N avs) h) = _
  rw [den__law_right]
-- law: 0=_law_script 1=_law_k 2=_law_boxes_here 3=_law_others 4=_law_pool_here 5=_law_mix
def m_law (F : PySem.Str → OpN) : List MS :=
  [forN (rangeN [(retM (.int 0)), (callM maxF (evsN [(retM (.int 4)), (callM minF (evsN [(callM lenF (evsN [(slotM 0)])), (retM (.int 8))]))])), (retM (.int 2))]) (asgN 1)
     [parN [4, 5] [(callM (F "_law_pool") (evsN [(slotM 0), (slotM 1)])), (callM (F "_law_pool") (evsN [(slotM 0), (bin2 (slotM 1) (retM (.int 1)) addO)]))],
      setNN 2 (callM (F "_law_boxes") (evsN [(slotM 4), (bin2 (retM (.int 1)) (callM (F "_law_take") (evsN [(slotM 5), (retM (.int 8))])) addO), (callM (F "_law_take") (evsN [(slotM 5), (retM (.int 7))]))])),
      setNN 3 (callM (F "_law_other") (evsN [(slotM 5), (slotM 2)])),
      ifN (tstM (bin2 (callM (F "_law_take") (evsN [(slotM 5), (retM (.int 3))])) (retM (.int 0)) eqO))
        [setNN 3 (callM (F "_law_boxes") (evsN [(slotM 5), (retM (.int 4)), (retM (.int 4))]))]
        [],
      ifN (tstM (notM (callM (F "_law_right") (evsN [(slotM 5), (slotM 2), (slotM 3)]))))
        [retN (retM (.bl false))]
        []],
   retN (retM (.bl true))]
theorem den_law (F : PySem.Str → OpN) (ρ : AM.Env) (h : AH) : blkM (exS F f_law.fuel (dcOf T f_law)) f_law.body ρ h = blkN (m_law F) ρ h := by kernel_rfl
theorem run_law (k : Nat) (avs : List AV) (h : AH) : rF (k + 1) "law" avs h = finR (blkN (m_law (rF k)) (startA f_law.N avs) h) := by
  unfold rF
  show finR (blkM (exS (runF T k) f_law.fuel (dcOf T f_law)) f_law.body (startA f_law.N avs) h) = _
  rw [den_law]
theorem run_State (k : Nat) (avs : List AV) (h : AH) : rF (k + 1) "State" avs h = mkF "State" (rF k "State.__init__") avs h := by unfold rF; rfl
end Mo
/-! PL1: words and states of the program (for any law whose module holds them; K02b stands for the law's own). -/
namespace Mo
open PySem PySem.Spec PyProof.Rows L2 AM

def wholeB (v : AV) : Bool := match v with
  | .int _ => true
  | _ => false
def numB (v : AV) : Bool := match v with
  | .int i => decide (0 < i)
  | _ => false
def wordB (v : AV) : Bool := match v with
  | .str s => wordS s
  | _ => false
theorem is_whole_ok (k : Nat) : Pure1 (rF (k + 1) "is_whole") Fine (fun v => .bl (wholeB v)) := by
  intro v h E Q d q
  rw [run_is_whole]
  unfold m_is_whole
  cases d <;> (w_fin; exact q)
theorem is_number_ok (k : Nat) : Pure1 (rF (k + 2) "is_number") Fine (fun v => .bl (numB v)) := by
  intro v h E Q d q
  rw [run_is_number]
  unfold m_is_number
  w_fin
  refine is_whole_ok k _ _ _ _ d ?_
  cases d <;> (w_fin; exact q)
theorem is_word_ok (k : Nat) : Pure1 (rF (k + 1) "is_word") Fine (fun v => .bl (wordB v)) := by
  intro v h E Q d q
  rw [run_is_word]
  unfold m_is_word
  cases d with
  | @str s l =>
    w_fin
    refine l_len l ?_
    w_fin
    have q : Q (.bl (wordS s)) h := q
    unfold wordS at q
    refine br_dec (fun a => ?_) fun a => ?_
    · w_fin
      refine br_dec (fun b => ?_) fun b => ?_
      · w_fin
        refine comp_map (fun a => .bl (lowA a)) (fun a ha => ?_) ?_ ?_
        · obtain ⟨c, _, rfl⟩ := signs_mem ha
          refine ⟨_, rfl, ?_⟩
          w_fin
          refine l_inLow ?_
          exact ⟨rfl, rfl⟩
        · rw [signs_len']
          exact fine_lt l
        · w_fin
          refine l_all ?_
          rw [signs_all]
          rw [decide_eq_true (by omega), decide_eq_true (by omega)] at q
          exact q
      · w_fin
        rw [decide_eq_false b]
        rw [decide_eq_false (p := s.length ≤ 8) (by omega), Bool.and_false, Bool.false_and] at q
        exact q
    · w_fin
      rw [decide_eq_false (p := 1 ≤ s.length) (by omega), Bool.false_and, Bool.false_and] at q
      exact q
  | _ => w_fin; exact q
theorem are_rising_ok (k : Nat) : Pure1 (rF (k + 1) "are_rising") (fun v => ∃ xs, (v = .tup xs ∨ v = .lst xs) ∧ xs.length ≤ 1000 ∧ Hom xs) (fun v => .bl (risB ((itemsOf v).getD []))) := by
  intro v h E Q d q
  rw [run_are_rising]
  unfold m_are_rising
  obtain ⟨xs, hv, l, H⟩ := d
  have q : Q (.bl (risB xs)) h := by rcases hv with rfl | rfl <;> exact q
  have key : ∀ {E : XE_}, wp (compL (asgT [asgN 1, asgN 2]) allT (bin2 (slotM 1) (slotM 2) ltO) (wipeA (startA f_are_rising.N [v]) [1, 2]) (zipI (cutA xs none (some (-1))) (cutA xs (some 1) none)) [] h) E fun ys h2 => wp (allF [.lst ys] h2) E Q := by
    intro E
    rw [cut_init, cut_tail, zip_adj]
    refine comp_map (fun a => .bl (pairLt a)) (fun a ha => ?_) ?_ ?_
    · obtain ⟨p, hp, rfl⟩ := List.mem_map.mp ha
      refine ⟨_, rfl, ?_⟩
      w_fin
      exact l_lt (H.like hp) ⟨rfl, rfl⟩
    · rw [List.length_map]
      have := adj_len xs
      exact fine_lt (by omega)
    · refine l_all ?_
      rw [ris_pairs]
      exact q
  have zr : ∀ ys zs : List AV, ys = xs.dropLast → zs = xs.tail → ys.length = zs.length := fun ys zs e1 e2 => by
    subst e1 e2
    simp
  rcases hv with rfl | rfl
  · w_fin
    refine wp_eq (v := zipI (cutA xs none (some (-1))) (cutA xs (some 1) none)) (h := h) ?_ ?_
    · show (if (cutA xs none (some (-1))).length = (cutA xs (some 1) none).length then _ else _) = _
      rw [if_pos (zr _ _ (cut_init xs) (cut_tail xs))]
    · w_fin
      refine wp_mono key (fun ys h2 z => ?_) fun _ _ _ z => z
      w_fin
      exact z
  · w_fin
    refine wp_eq (v := zipI (cutA xs none (some (-1))) (cutA xs (some 1) none)) (h := h) ?_ ?_
    · show (if (cutA xs none (some (-1))).length = (cutA xs (some 1) none).length then _ else _) = _
      rw [if_pos (zr _ _ (cut_init xs) (cut_tail xs))]
    · w_fin
      refine wp_mono key (fun ys h2 z => ?_) fun _ _ _ z => z
      w_fin
      exact z
theorem rising_tup {k : Nat} {xs : List AV} {h : AH} {E : XE_} {Q : AV → AH → Prop} (l : xs.length ≤ 1000) (H : Hom xs) (q : Q (.bl (risB xs)) h) : wp (rF (k + 1) "are_rising" [.tup xs] h) E Q := are_rising_ok k _ _ _ _ ⟨xs, .inl rfl, l, H⟩ q
theorem rising_lst {k : Nat} {xs : List AV} {h : AH} {E : XE_} {Q : AV → AH → Prop} (l : xs.length ≤ 1000) (H : Hom xs) (q : Q (.bl (risB xs)) h) : wp (rF (k + 1) "are_rising" [.lst xs] h) E Q := are_rising_ok k _ _ _ _ ⟨xs, .inr rfl, l, H⟩ q
def marksB (v : AV) : Bool := match v with
  | .tup xs => xs.all wordB && risB xs
  | _ => false
theorem words_hom {xs : List AV} (w : xs.all wordB = true) : Hom xs := .inr fun x hx => by
  have := List.all_eq_true.mp w x hx
  cases x <;> first | exact ⟨_, rfl⟩ | cases this
theorem are_marks_ok (k : Nat) : Pure1 (rF (k + 2) "are_marks") Fine (fun v => .bl (marksB v)) := by
  intro v h E Q d q
  rw [run_are_marks]
  unfold m_are_marks
  cases d with
  | @tup xs l a =>
    w_fin
    refine comp_map (fun a => .bl (wordB a)) (fun x hx => ⟨_, rfl, ?_⟩) (fine_lt l) ?_
    · w_fin
      exact is_word_ok k _ _ _ _ (a x hx) ⟨rfl, rfl⟩
    · w_fin
      refine l_all ?_
      w_fin
      have q : Q (.bl (xs.all wordB && risB xs)) h := q
      refine br_c (fun w => ?_) fun w => ?_
      · w_fin
        refine rising_tup l (words_hom w) ?_
        rw [w, Bool.true_and] at q
        exact q
      · rw [w] at q ⊢
        exact q
  | _ => w_fin; exact q
def letterB (v : AV) : Bool := match v with
  | .tup [n, b, m] => numB n && (wordB b && marksB m)
  | _ => false
theorem is_letter_ok (k : Nat) : Pure1 (rF (k + 3) "is_letter") Fine (fun v => .bl (letterB v)) := by
  intro v h E Q d q
  rw [run_is_letter]
  unfold m_is_letter
  cases d with
  | @tup xs l a =>
    match xs, a, q with
    | [n, b, m], a, q =>
      w_fin
      refine is_number_ok k _ _ _ _ (a _ (by simp)) ?_
      w_fin
      have q : Q (.bl (numB n && (wordB b && marksB m))) h := q
      refine br_c (fun w => ?_) fun w => ?_
      · w_fin
        refine is_word_ok (k + 1) _ _ _ _ (a _ (by simp)) ?_
        w_fin
        rw [w, Bool.true_and] at q
        refine br_c (fun w => ?_) fun w => ?_
        · w_fin
          refine are_marks_ok k _ _ _ _ (a _ (by simp)) ?_
          rw [w, Bool.true_and] at q
          exact q
        · simp only [w, Bool.false_and] at q ⊢
          exact q
      · simp only [w, Bool.false_and] at q ⊢
        exact q
    | [], _, q => w_fin; exact q
    | [_], _, q => w_fin; exact q
    | [_, _], _, q => w_fin; exact q
    | _ :: _ :: _ :: _ :: r, _, q => w_fin; exact q
  | _ => w_fin; exact q
def first3 (v : AV) : AV := match v with
  | .tup (n :: _) => n
  | _ => .non
def lettersB (v : AV) : Bool := match v with
  | .tup xs => decide (xs.length ≤ 20) && (xs.all letterB && risB (xs.map first3))
  | _ => false
theorem letter_inv {v : AV} (w : letterB v = true) : ∃ i b ms, v = .tup [.int i, .str b, .tup ms] ∧ 0 < i ∧ wordS b = true ∧ ms.all wordB = true ∧ risB ms = true := by
  unfold letterB at w
  split at w
  · rename_i n b m
    rw [Bool.and_eq_true, Bool.and_eq_true] at w
    obtain ⟨w1, w2, w3⟩ := w
    cases n <;> try cases w1
    cases b <;> try cases w2
    cases m <;> try cases w3
    rename_i xs
    have w3 : (xs.all wordB && risB xs) = true := w3
    rw [Bool.and_eq_true] at w3
    exact ⟨_, _, _, rfl, of_decide_eq_true w1, w2, w3.1, w3.2⟩
  · cases w
theorem are_letters_ok (k : Nat) : Pure1 (rF (k + 4) "are_letters") Fine (fun v => .bl (lettersB v)) := by
  intro v h E Q d q
  rw [run_are_letters]
  unfold m_are_letters
  cases d with
  | @tup xs l a =>
    w_fin
    have q : Q (.bl (decide (xs.length ≤ 20) && (xs.all letterB && risB (xs.map first3)))) h := q
    refine br_dec (fun b => ?_) fun b => ?_
    · w_fin
      rw [decide_eq_true b]
      w_fin
      rw [decide_eq_false (p := xs.length ≤ 20) (by omega)] at q
      exact q
    · w_fin
      rw [decide_eq_true (p := xs.length ≤ 20) (by omega), Bool.true_and] at q
      refine comp_map (fun a => .bl (letterB a)) (fun x hx => ⟨_, rfl, ?_⟩) (fine_lt l) ?_
      · w_fin
        exact is_letter_ok k _ _ _ _ (a x hx) ⟨rfl, rfl⟩
      · w_fin
        refine l_all ?_
        w_fin
        refine br_c (fun w => ?_) fun w => ?_
        rotate_left
        · w_fin
          rw [w] at q
          exact q
        · w_fin
          rw [w, Bool.true_and] at q
          refine comp_map first3 (fun x hx => ?_) (fine_lt l) ?_
          · obtain ⟨i, b, ms, rfl, _⟩ := letter_inv (List.all_eq_true.mp w x hx)
            refine ⟨_, rfl, ?_⟩
            w_fin
            exact ⟨rfl, rfl⟩
          · w_fin
            refine rising_lst (by simpa using l) (.inl fun y hy => ?_) q
            obtain ⟨x, hx, rfl⟩ := List.mem_map.mp hy
            obtain ⟨i, b, ms, rfl, _⟩ := letter_inv (List.all_eq_true.mp w x hx)
            exact ⟨i, rfl⟩
  | _ => w_fin; exact q
end Mo
/-! PL2: boxes, states of the program. -/
namespace Mo
open PySem PySem.Spec PyProof.Rows L2 AM

def lifeA (v : AV) : Int := match v with
  | .tup (.int i :: _) => i
  | _ => 0
def nameA (v : AV) : PySem.Str := match v with
  | .tup [_, .str s, _] => s
  | _ => PySem.Str.empty
def boxB (v : AV) (ahead : List AV) : Bool := match v with
  | .tup [l, n, ls] => numB l && (wordB n && (lettersB ls && (!decide (nameA v ∈ ahead.map nameA) && (ahead.isEmpty || decide (lifeA (ahead.getLastD .non) < lifeA v)))))
  | _ => false
theorem numB_inv {v : AV} (w : numB v = true) : ∃ i, v = .int i ∧ 0 < i := by
  cases v <;> first | exact ⟨_, rfl, of_decide_eq_true w⟩ | cases w
theorem wordB_inv {v : AV} (w : wordB v = true) : ∃ s, v = .str s ∧ wordS s = true := by
  cases v <;> first | exact ⟨_, rfl, w⟩ | cases w
theorem letter_da {v : AV} (w : letterB v = true) : DaD 2 v := by
  obtain ⟨i, b, ms, rfl, _, wb, wm, _⟩ := letter_inv w
  refine .tup (n := 1) fun x hx => ?_
  simp only [List.mem_cons, List.not_mem_nil, or_false] at hx
  rcases hx with rfl | rfl | rfl
  · exact .int _
  · exact .str (word_ok wb)
  · refine .tup (n := 0) fun x hx => ?_
    have := List.all_eq_true.mp wm x hx
    cases x <;> first | exact .str (word_ok this) | cases this
/-- what a box is, whatever stands ahead -/
def BoxLike (v : AV) : Prop := ∃ i s ls, v = .tup [.int i, .str s, .tup ls] ∧ 0 < i ∧ wordS s = true ∧ ls.length ≤ 20 ∧ ls.all letterB = true ∧ risB (ls.map first3) = true
theorem box_like {v : AV} {ahead : List AV} (w : boxB v ahead = true) : BoxLike v ∧ nameA v ∉ ahead.map nameA ∧ (ahead = [] ∨ lifeA (ahead.getLastD .non) < lifeA v) := by
  unfold boxB at w
  split at w
  · rename_i l n ls
    simp only [Bool.and_eq_true] at w
    obtain ⟨w1, w2, w3, w4, w5⟩ := w
    have w4' : nameA (.tup [l, n, ls]) ∉ ahead.map nameA := by simpa using w4
    have w5' : ahead = [] ∨ lifeA (ahead.getLastD .non) < lifeA (.tup [l, n, ls]) := by
      rcases Bool.or_eq_true_iff.mp w5 with q | q
      · exact .inl (List.isEmpty_iff.mp q)
      · exact .inr (of_decide_eq_true q)
    refine ⟨?_, w4', w5'⟩
    cases l <;> try cases w1
    cases n <;> try cases w2
    cases ls <;> try cases w3
    rename_i xs
    have w3 : (decide (xs.length ≤ 20) && (xs.all letterB && risB (xs.map first3))) = true := w3
    simp only [Bool.and_eq_true, decide_eq_true_eq] at w3
    exact ⟨_, _, _, rfl, of_decide_eq_true w1, w2, w3.1, w3.2.1, w3.2.2⟩
  · cases w
theorem BoxLike.da {v : AV} (b : BoxLike v) : DaD 4 v := by
  obtain ⟨i, s, ls, rfl, _, ws, _, wl, _⟩ := b
  refine .tup (n := 3) fun x hx => ?_
  simp only [List.mem_cons, List.not_mem_nil, or_false] at hx
  rcases hx with rfl | rfl | rfl
  · exact .int _
  · exact .str (word_ok ws)
  · exact .tup (n := 2) fun x hx => letter_da (List.all_eq_true.mp wl x hx)
theorem BoxLike.name {v : AV} (b : BoxLike v) : PyData.strOk (nameA v) = true := by
  obtain ⟨i, s, ls, rfl, _, ws, _⟩ := b
  exact word_ok ws
theorem is_box_ok (k : Nat) : Pure2 (rF (k + 5) "is_box") (fun v w => Fine v ∧ ∃ ah, w = .tup ah ∧ ah.length ≤ 1000 ∧ ∀ x ∈ ah, BoxLike x) (fun v w => .bl (boxB v ((itemsOf w).getD []))) := by
  intro v w h E Q ⟨d, ah, hw, la, hb⟩ q
  subst hw
  have q : Q (.bl (boxB v ah)) h := q
  rw [run_is_box]
  unfold m_is_box
  cases d with
  | @tup xs l a =>
    match xs, a, q with
    | [n, b, m], a, q =>
      w_fin
      refine is_number_ok (k + 2) _ _ _ _ (a _ (by simp)) ?_
      w_fin
      have q : Q (.bl (numB n && (wordB b && (lettersB m && (!decide (nameA (.tup [n, b, m]) ∈ ah.map nameA) && (ah.isEmpty || decide (lifeA (ah.getLastD .non) < lifeA (.tup [n, b, m])))))))) h := q
      refine br_c (fun w1 => ?_) fun w1 => ?_
      rotate_left
      · w_fin
        simp only [w1, Bool.false_and] at q
        exact q
      w_fin
      refine is_word_ok (k + 3) _ _ _ _ (a _ (by simp)) ?_
      w_fin
      rw [w1, Bool.true_and] at q
      refine br_c (fun w2 => ?_) fun w2 => ?_
      rotate_left
      · w_fin
        simp only [w2, Bool.false_and] at q
        exact q
      w_fin
      refine are_letters_ok k _ _ _ _ (a _ (by simp)) ?_
      w_fin
      rw [w2, Bool.true_and] at q
      refine br_c (fun w3 => ?_) fun w3 => ?_
      rotate_left
      · w_fin
        simp only [w3, Bool.false_and] at q
        exact q
      w_fin
      rw [w3, Bool.true_and] at q
      obtain ⟨i, rfl, _⟩ := numB_inv w1
      obtain ⟨s, rfl, w2⟩ := wordB_inv w2
      have q : Q (.bl (!decide (s ∈ ah.map nameA) && (ah.isEmpty || decide (lifeA (ah.getLastD .non) < i)))) h := q
      refine comp_map (fun v => .str (nameA v)) (fun x hx => ?_) (fine_lt la) ?_
      · obtain ⟨i, s, ls, rfl, _⟩ := hb x hx
        refine ⟨_, rfl, ?_⟩
        w_fin
        exact ⟨rfl, rfl⟩
      rw [show (ah.map fun v => AV.str (nameA v)) = (ah.map nameA).map AV.str by rw [List.map_map]; rfl]
      refine l_notInS (word_ok w2) (fun s hs => ?_) ?_
      · obtain ⟨x, hx, rfl⟩ := List.mem_map.mp hs
        exact (hb x hx).name
      w_fin
      refine br_c (fun w4 => ?_) fun w4 => ?_
      · w_fin
        rw [w4] at q ⊢
        exact q
      w_fin
      rw [w4] at q
      have da : DaD 64 (.tup ah) := (DaD.tup (n := 4) fun x hx => (hb x hx).da).mono (by omega)
      refine l_eq da (.mono (DaD.tup (n := 0) (xs := []) fun x hx => by cases hx) (by omega)) ?_
      rw [eqA_nil ah da]
      have q : Q (.bl (ah.isEmpty || decide (lifeA (ah.getLastD .non) < i))) h := q
      w_fin
      refine br_c (fun w5 => ?_) fun w5 => ?_
      · rw [w5] at q ⊢
        exact q
      rw [w5] at q
      cases hl : ah.getLast? with
      | none =>
        rw [List.getLast?_eq_none_iff.mp hl] at w5
        cases w5
      | some x =>
        w_fin
        refine l_last hl ?_
        obtain ⟨i', s', ls', rfl, _⟩ := hb x (List.mem_of_getLast? hl)
        w_fin
        rw [List.getLastD_eq_getLast?, hl] at q
        exact q
    | [], _, q => w_fin; exact q
    | [_], _, q => w_fin; exact q
    | [_, _], _, q => w_fin; exact q
    | _ :: _ :: _ :: _ :: r, _, q => w_fin; exact q
  | _ => w_fin; exact q
/-! ### check_boxes -/
/-- the first place that holds no box -/
def badIx (xs : List AV) : Option Nat := (List.range xs.length).find? fun i => !boxB (xs.getD i .non) (xs.take i)
/-- what check_boxes tells by its exception, none: it lets it pass -/
def chkB (v : AV) : Option AV := match v with
  | .tup xs => if xs.length ≤ 8 then (badIx xs).map fun (i : Nat) => AV.int (i : Int) else some .non
  | _ => some .non
theorem badIx_none {xs : List AV} (h : ∀ i x, xs[i]? = some x → boxB x (xs.take i) = true) : badIx xs = none := by
  unfold badIx
  rw [List.find?_eq_none]
  intro i hi
  have hi := List.mem_range.mp hi
  have := h i xs[i] (by simp [hi])
  simp [List.getD_eq_getElem?_getD, hi, this]
theorem badIx_some {xs : List AV} {j : Nat} {x : AV} (hx : xs[j]? = some x) (hb : boxB x (xs.take j) = false) (h : ∀ i x, i < j → xs[i]? = some x → boxB x (xs.take i) = true) : badIx xs = some j := by
  obtain ⟨hj, e⟩ := List.getElem?_eq_some_iff.mp hx
  unfold badIx
  rw [List.find?_range_eq_some]
  refine ⟨by simp [List.getD_eq_getElem?_getD, hx, hb], List.mem_range.mpr hj, fun i hi => ?_⟩
  have hi2 : i < xs.length := by omega
  have := h i xs[i] hi (by simp [hi2])
  simp [List.getD_eq_getElem?_getD, hi2, this]
theorem badIx_inv {xs : List AV} (e : badIx xs = none) : ∀ i x, xs[i]? = some x → boxB x (xs.take i) = true := by
  intro i x hx
  unfold badIx at e
  rw [List.find?_eq_none] at e
  have := e i (List.mem_range.mpr (List.getElem?_eq_some_iff.mp hx).1)
  simpa [List.getD_eq_getElem?_getD, hx] using this
theorem take_like {xs : List AV} {j : Nat} (h : ∀ i x, i < j → xs[i]? = some x → boxB x (xs.take i) = true) : ∀ x ∈ xs.take j, BoxLike x := by
  intro x hx
  obtain ⟨i, hi, e⟩ := List.mem_take_iff_getElem.mp hx
  exact (box_like (h i x (by omega) (by rw [← e]; simp))).1
theorem check_boxes_wp (k : Nat) {v : AV} {h : AH} {E : XE_} {Q : AV → AH → Prop} (d : Fine v) (q : match chkB v with | none => Q .non h | some p => E "NoState" [("place", p)] h) : wp (rF (k + 6) "check_boxes" [v] h) E Q := by
  rw [run_check_boxes]
  unfold m_check_boxes
  cases d with
  | @tup xs l a =>
    w_fin
    refine br_dec (fun c => ?_) fun c => ?_
    · w_fin
      have e : chkB (.tup xs) = some .non := by
        show (if xs.length ≤ 8 then _ else _) = _
        rw [if_neg (by omega)]
      rw [e] at q
      exact q
    · have e : chkB (.tup xs) = (badIx xs).map fun (i : Nat) => AV.int (i : Int) := by
        show (if xs.length ≤ 8 then _ else _) = _
        rw [if_pos (by omega)]
      rw [e] at q
      w_fin
      refine for_inv (fun j ρ h' => h' = h ∧ (∃ x y, ρ = [some (.tup xs), x, y]) ∧ ∀ i x, i < j → xs[i]? = some x → boxB x (xs.take i) = true) _ 0 _ _ (fun j a' ha ρ h' hI => ?_) ⟨rfl, ⟨_, _, rfl⟩, fun i x hi => absurd hi (Nat.not_lt_zero _)⟩ fun ρ h' hI => ?_
      · obtain ⟨rfl, ⟨x, y, rfl⟩, hj⟩ := hI
        obtain ⟨b, hb, rfl⟩ := enum_get ha
        rw [Nat.zero_add] at hj
        refine ⟨_, rfl, ?_⟩
        w_fin
        rw [Nat.zero_add, cut_take]
        have ml := List.mem_of_getElem? hb
        refine is_box_ok k _ _ _ _ _ ⟨a b ml, xs.take j, rfl, by rw [List.length_take]; omega, take_like hj⟩ ?_
        w_fin
        refine br_c (fun w => ?_) fun w => ?_
        rotate_left
        · w_fin
          have w : boxB b (xs.take j) = false := w
          rw [badIx_some hb w hj] at q
          exact q
        · have w : boxB b (xs.take j) = true := w
          w_fin
          refine ⟨rfl, ⟨_, _, rfl⟩, fun i x hi hx => ?_⟩
          by_cases c2 : i = j
          · subst c2
            rw [hb] at hx
            cases hx
            exact w
          · exact hj i x (by omega) hx
      · obtain ⟨rfl, _, hj⟩ := hI
        w_fin
        rw [badIx_none fun i x hx => hj i x (by rw [enum_len, Nat.zero_add]; exact (List.getElem?_eq_some_iff.mp hx).1) hx] at q
        exact q
  | _ => w_fin; exact q
end Mo
/-! PLp: the laws' pool of digits. -/
namespace Mo
open PySem PySem.Spec PyProof.Rows L2 AM
theorem x_add {i j : Int} {h : AH} : addO (.int i) (.int j) h = .ok (.int (i + j)) h := rfl
theorem ok_len {n : Nat} (l : n ≤ 1000) : lenOk n = true := Nat.ble_eq_true_of_le (by rw [sizeLine_eq]; omega)
theorem range_ok {j : Int} {h : AH} (h0 : -1000 ≤ j) (h1 : j ≤ 1000) : rangeR [.int j] h = .ok (ranges 0 j.toNat) h := by
  show (if small62 j then _ else _) = _
  rw [if_pos]
  unfold small62
  rw [Bool.and_eq_true, decide_eq_true_eq, decide_eq_true_eq]
  omega
theorem ranges_at {lo : Int} {n j : Nat} {a : AV} (e : (ranges lo n)[j]? = some a) : j < n ∧ a = .int (lo + j) := by
  unfold ranges at e
  rw [List.getElem?_map] at e
  obtain ⟨i, e1, rfl⟩ := Option.map_eq_some_iff.mp e
  obtain ⟨hj, e2⟩ := List.getElem?_eq_some_iff.mp e1
  simp at hj e2
  subst e2
  exact ⟨hj, rfl⟩
theorem take_wp {k p : Nat} {m : Int} {h : AH} {E : XE_} {Q : AV → AH → Prop} (hp : Pool p h) (h0 : 0 < m) (h1 : m < 1000000000000000) (q : ∀ (n : Int) (h' : AH), 0 ≤ n → n < m → Pool p h' → Fr p h h' → h'.length = h.length → Q (.int n) h') : wp (rF (k + 1) "_law_take" [.ref p, .int m] h) E Q := by
  obtain ⟨n, hn, e⟩ := hp
  have hl : p < h.length := (List.getElem?_eq_some_iff.mp e).1
  rw [run__law_take]
  unfold m__law_take
  w_fin
  refine wp_eq (v := .int n) (h := h) ?_ ?_
  · show (match h[p]? with | some (.lst xs) => _ | _ => _) = _
    rw [e]
    rfl
  w_fin
  have ed : divmodF [.int n, .int m] h = .ok (.tup [.int (n / m), .int (n % m)]) h := by
    have hd : Builtin.divisionGoesByPylong n m = false := by
      unfold Builtin.divisionGoesByPylong
      have : m.natAbs.log2 < 60 := (Nat.log2_lt (by omega)).mpr (by omega)
      simp only [Bool.and_eq_false_iff, decide_eq_false_iff_not]
      left
      split <;> omega
    show (if 0 < m ∧ Builtin.divisionGoesByPylong n m = false then Res.ok (AV.tup [.int (n / m), .int (n % m)]) h else .stk) = _
    rw [if_pos ⟨h0, hd⟩]
  refine wp_eq ed ?_
  w_fin
  refine someK (a := h.set p (.lst [.int (n / m)])) ?_ ?_
  · show (match h[p]? with | some (.lst xs) => (ixN xs.length 0).map fun j => h.set p (.lst (xs.set j (.int (n / m)))) | _ => none) = _
    rw [e]
    rfl
  w_fin
  exact q _ _ (Int.emod_nonneg _ (by omega)) (Int.emod_lt_of_pos _ h0) ⟨n / m, Int.ediv_nonneg hn (by omega), List.getElem?_set_self hl⟩ Fr.set (by simp)
def Sm (i : Int) : Prop := i.natAbs < 2 ^ 1000
theorem sm_of {i : Int} (h0 : 0 ≤ i) (h1 : i < 10 ^ 40) : Sm i := by
  unfold Sm
  have a : i.natAbs < 10 ^ 40 := by omega
  exact Nat.lt_trans a (by decide +kernel)
theorem mul_ok {i j : Int} {h : AH} (a : Sm i) (b : Sm j) : mulO (.int i) (.int j) h = .ok (.int (i * j)) h := by
  show (if i.natAbs.log2 + j.natAbs.log2 < 1000000 then _ else _) = _
  rw [if_pos]
  have x := PySem.Flt.log2_lt_of (by decide) a
  have y := PySem.Flt.log2_lt_of (by decide) b
  omega
theorem mod_ok {i j : Int} {h : AH} (a : 0 < j) : modO (.int i) (.int j) h = .ok (.int (i % j)) h := by
  show (if 0 < j then _ else _) = _
  rw [if_pos a]
theorem cut_map {α β : Type} (f : α → β) (xs : List α) (lo hi : Option Int) : cutA (xs.map f) lo hi = (cutA xs lo hi).map f := by
  unfold cutA
  rw [List.length_map, List.map_take, List.map_drop]
theorem sum_ok {ns : List Int} {h : AH} : sumF [.lst (ns.map .int)] h = .ok (.int ns.sum) h := by
  show (match (intsOf (ns.map .int)).map fun bs => AV.int bs.sum with | some w => Res.ok w h | none => .stk) = _
  rw [intsOf_map]
  rfl
theorem big_ok {ρ : AM.Env} {h : AH} : (bin2 (bin2 (bin2 (bin2 (bin2 (bin2 (retM (.int 10)) (retM (.int 64)) powO) (bin2 (retM (.int 10)) (retM (.int 64)) powO) mulO) (bin2 (retM (.int 10)) (retM (.int 64)) powO) mulO) (bin2 (retM (.int 10)) (retM (.int 64)) powO) mulO) (bin2 (retM (.int 10)) (retM (.int 64)) powO) mulO) (bin2 (retM (.int 10)) (retM (.int 64)) powO) mulO) ρ h = .ok (.int (10 ^ 384)) h := by kernel_rfl
theorem p18_ok {ρ : AM.Env} {h : AH} : bin2 (retM (.int 10)) (retM (.int 18)) powO ρ h = .ok (.int 1000000000000000000) h := by kernel_rfl
theorem p11_ok {ρ : AM.Env} {h : AH} : bin2 (retM (.int 10)) (retM (.int 11)) powO ρ h = .ok (.int 100000000000) h := by kernel_rfl
theorem pool_ok {k : Nat} {ns : List Int} {j : Int} {h : AH} (h0 : 0 ≤ j) (h1 : j < 1000) : ∃ n : Int, 0 ≤ n ∧ rF (k + 1) "_law_pool" [.ext (ns.map .int), .int j] h = .ok (.ref h.length) (h ++ [.lst [.int n]]) := by
  have main : ∃ n : Int, 0 ≤ n ∧ blkN (m__law_pool (rF k)) (startA f__law_pool.N [.ext (ns.map .int), .int j]) h = .rt (.ref h.length) (h ++ [.lst [.int n]]) := by
    let xs : AV := .ext (ns.map .int)
    let c : Int := (cutA ns (some j) (some (j + 1))).sum
    have hc : callM sumF (evsN [(sliceM (slotM 0) (partN (some (slotM 1))) (partN (some (bin2 (slotM 1) (retM (.int 1)) addO))))]) [some xs, some (.int j), none, none, none, none] h = .ok (.int c) h := by
      refine x_call (x_one (x_slice (x_slot rfl) (x_part (x_slot rfl)) (x_part (x_bin (x_slot rfl) x_ret x_add)) rfl)) ?_
      rw [cut_map, sum_ok]
    have ht : ∀ b : Bool, (decide (c < 0) || decide (1000000000000000000 ≤ c)) = b → tstM (orN [(bin2 (slotM 2) (retM (.int 0)) ltO), (bin2 (slotM 2) (bin2 (retM (.int 10)) (retM (.int 18)) powO) geO)]) [some xs, some (.int j), some (.int c), none, none, none] h = .ok b h := fun b hb => by
      have e1 : bin2 (slotM 2) (retM (.int 0)) ltO [some xs, some (.int j), some (.int c), none, none, none] h = .ok (.bl (decide (c < 0))) h := x_bin (x_slot rfl) x_ret rfl
      have e2 : bin2 (slotM 2) (bin2 (retM (.int 10)) (retM (.int 18)) powO) geO [some xs, some (.int j), some (.int c), none, none, none] h = .ok (.bl (decide (1000000000000000000 ≤ c))) h := x_bin (x_slot rfl) p18_ok rfl
      by_cases z : c < 0
      · rw [decide_eq_true z] at e1 hb
        rw [← hb]
        exact x_tst (x_orT e1 rfl) rfl
      · rw [decide_eq_false z] at e1 hb
        rw [Bool.false_or] at hb
        rw [← hb]
        exact x_tst (x_orF e1 rfl e2) rfl
    by_cases z : (decide (c < 0) || decide (1000000000000000000 ≤ c)) = true
    · refine ⟨(if c < 0 then -c else c) % 10 ^ 384, Int.emod_nonneg _ (by decide +kernel), ?_⟩
      exact s_set hc (s_ifT (ht true z) (s_ret (x_new (x_one (x_bin (x_call (x_one (x_slot rfl)) rfl) big_ok (mod_ok (by decide +kernel)))) rfl)) rfl)
    · have z := Bool.eq_false_iff.mpr z
      have zc : 0 ≤ c ∧ c < 1000000000000000000 := by
        rw [Bool.or_eq_false_iff, decide_eq_false_iff_not, decide_eq_false_iff_not] at z
        omega
      have jj : 0 ≤ 977 * j * j ∧ 977 * j * j < 1000000000 := by
        have a : 0 ≤ j * j := Int.mul_nonneg h0 h0
        have b : j * j ≤ 999 * 999 := Int.mul_le_mul (by omega) (by omega) h0 (by decide)
        rw [Int.mul_assoc]
        omega
      obtain ⟨ρ', h2, e2, mx, f, x, rfl, m0, m1, hf, rfl⟩ := forL_inv (asg := asgN 5) (body := blkN [setNN 3 (bin2 (bin2 (bin2 (bin2 (bin2 (slotM 3) (retM (.int 999999999989)) modO) (retM (.int 69621)) mulO) (bin2 (retM (.int 40503)) (slotM 5) mulO) addO) (retM (.int 271)) addO) (retM (.int 999999999989)) modO),
      setNN 4 (bin2 (bin2 (slotM 4) (bin2 (retM (.int 10)) (retM (.int 11)) powO) mulO) (bin2 (bin2 (slotM 3) (bin2 (bin2 (slotM 3) (retM (.int 65537)) modO) (retM (.int 3)) addO) mulO) (retM (.int 99999999977)) modO) addO)])
        (fun i ρ h2 => ∃ (mx : Int) (f : Nat) (x : Option AV), ρ = [some xs, some (.int j), some (.int c), some (.int mx), some (.int f), x] ∧ 0 ≤ mx ∧ mx < 10 ^ 30 ∧ (i ≤ 27 → f < 10 ^ (11 * i)) ∧ h2 = h) (ranges 0 27) 0 [some xs, some (.int j), some (.int c), some (.int (c * 48271 + 977 * j * j + 13)), some (.int 0), none] h
        (fun t a ha ρ h3 ⟨mx, f, x, hρ, m0, m1, hf, hh⟩ => by
          obtain ⟨hj, rfl⟩ := ranges_at ha
          subst hρ hh
          have hf := hf (by omega)
          have sf : Sm f := by
            have a : (f : Int).natAbs = f := by simp
            unfold Sm
            rw [a]
            exact Nat.lt_trans (Nat.lt_of_lt_of_le hf (Nat.pow_le_pow_right (by decide) (show 11 * (0 + t) ≤ 297 by omega))) (by decide +kernel)
          let m2 : Int := (mx % 999999999989 * 69621 + 40503 * (0 + (t : Nat)) + 271) % 999999999989
          have b0 : 0 ≤ m2 := Int.emod_nonneg _ (by decide)
          have b1 : m2 < 999999999989 := Int.emod_lt_of_pos _ (by decide)
          have e3 : bin2 (bin2 (bin2 (bin2 (bin2 (slotM 3) (retM (.int 999999999989)) modO) (retM (.int 69621)) mulO) (bin2 (retM (.int 40503)) (slotM 5) mulO) addO) (retM (.int 271)) addO) (retM (.int 999999999989)) modO [some xs, some (.int j), some (.int c), some (.int mx), some (.int f), some (.int (0 + (t : Nat)))] h3 = .ok (.int m2) h3 :=
            x_bin (x_bin (x_bin (x_bin (x_bin (x_slot rfl) x_ret (mod_ok (by decide))) x_ret (mul_ok (sm_of (Int.emod_nonneg _ (by decide)) (by have := Int.emod_lt_of_pos mx (show (0 : Int) < 999999999989 by decide); omega)) (sm_of (by decide) (by decide)))) (x_bin x_ret (x_slot rfl) (mul_ok (sm_of (by decide) (by decide)) (sm_of (by omega) (by omega)))) x_add) x_ret x_add) x_ret (mod_ok (by decide))
          let r : Int := m2 * (m2 % 65537 + 3) % 99999999977
          have r0 : 0 ≤ r := Int.emod_nonneg _ (by decide)
          have r1 : r < 99999999977 := Int.emod_lt_of_pos _ (by decide)
          have e4 : bin2 (bin2 (slotM 4) (bin2 (retM (.int 10)) (retM (.int 11)) powO) mulO) (bin2 (bin2 (slotM 3) (bin2 (bin2 (slotM 3) (retM (.int 65537)) modO) (retM (.int 3)) addO) mulO) (retM (.int 99999999977)) modO) addO [some xs, some (.int j), some (.int c), some (.int m2), some (.int f), some (.int (0 + (t : Nat)))] h3 = .ok (.int (f * 100000000000 + r)) h3 :=
            x_bin (x_bin (x_slot rfl) p11_ok (mul_ok sf (sm_of (by decide) (by decide)))) (x_bin (x_bin (x_slot rfl) (x_bin (x_bin (x_slot rfl) x_ret (mod_ok (by decide))) x_ret x_add) (mul_ok (sm_of b0 (by omega)) (sm_of (by have := Int.emod_nonneg m2 (show (65537 : Int) ≠ 0 by decide); omega) (by have := Int.emod_lt_of_pos m2 (show (0 : Int) < 65537 by decide); omega)))) x_ret (mod_ok (by decide))) x_add
          refine ⟨_, _, h3, rfl, s_set e3 (s_set e4 s_end), m2, f * 100000000000 + r.toNat, some (.int (0 + (t : Nat))), ?_, b0, by omega, fun _ => ?_, rfl⟩
          · have : ((f * 100000000000 + r.toNat : Nat) : Int) = f * 100000000000 + r := by omega
            rw [this]
            rfl
          · have e5 : (10 : Nat) ^ (11 * (0 + t + 1)) = 10 ^ (11 * (0 + t)) * 100000000000 := by
              rw [show 11 * (0 + t + 1) = 11 * (0 + t) + 11 by omega, Nat.pow_add]
            rw [e5]
            omega) ⟨_, 0, none, rfl, by omega, by omega, fun _ => by decide, rfl⟩
      refine ⟨f, by omega, ?_⟩
      refine s_set hc (s_ifF (ht false z) (s_set (x_bin (x_bin (x_bin (x_slot rfl) x_ret (mul_ok (sm_of zc.1 (by omega)) (sm_of (by decide) (by decide)))) (x_bin (x_bin x_ret (x_slot rfl) (mul_ok (sm_of (by decide) (by decide)) (sm_of h0 (by omega)))) (x_slot rfl) (mul_ok (sm_of (by omega) (by omega)) (sm_of h0 (by omega)))) x_add) x_ret x_add)
        (s_set x_ret (s_for (x_range (x_one x_ret) (range_ok (by decide) (by decide))) e2 (s_ret (x_new (x_one (x_slot rfl)) rfl))))))
  obtain ⟨n, hn, e⟩ := main
  exact ⟨n, hn, by rw [run__law_pool, e]; rfl⟩
theorem pool_wp {k : Nat} {ns : List Int} {j : Int} {h : AH} {E : XE_} {Q : AV → AH → Prop} (h0 : 0 ≤ j) (h1 : j < 1000) (q : ∀ h', Pool h.length h' → Fr h.length h h' → Q (.ref h.length) h') : wp (rF (k + 1) "_law_pool" [.ext (ns.map .int), .int j] h) E Q := by
  obtain ⟨n, hn, e⟩ := pool_ok (k := k) (ns := ns) (h := h) h0 h1
  exact wp_eq e (q _ ⟨n, hn, by simp⟩ Fr.push)
end Mo
namespace Mo
open PySem PySem.Spec PyProof.Rows L2 AM
/-- the heap has grown, nothing else -/
def Gr (h h' : AH) : Prop := h.length ≤ h'.length ∧ ∀ q, q < h.length → h'[q]? = h[q]?
theorem Gr.refl {h : AH} : Gr h h := ⟨Nat.le_refl _, fun _ _ => rfl⟩
theorem Gr.push {h : AH} {o : AO} : Gr h (h ++ [o]) := ⟨by simp, fun q hl => by rw [List.getElem?_append_left hl]⟩
theorem Gr.trans {h h1 h2 : AH} (a : Gr h h1) (b : Gr h1 h2) : Gr h h2 := ⟨Nat.le_trans a.1 b.1, fun q hl => (b.2 q (Nat.lt_of_lt_of_le hl a.1)).trans (a.2 q hl)⟩
theorem Gr.at {h h' : AH} (g : Gr h h') {q : Nat} {o : AO} (e : h[q]? = some o) : h'[q]? = some o := (g.2 q (List.getElem?_eq_some_iff.mp e).1).trans e
theorem Gr.pool {h h' : AH} (g : Gr h h') {p : Nat} (P : Pool p h) : Pool p h' := by
  obtain ⟨n, h0, e⟩ := P
  exact ⟨n, h0, g.at e⟩
/-- State(v) -/
theorem state_wp (k : Nat) {v : AV} {h : AH} {E : XE_} {Q : AV → AH → Prop} (d : Fine v) (q : match chkB v with | none => Q (.ref h.length) (h ++ [.ins "State" [("kept", v)]]) | some p => E "NoState" [("place", p)] (h ++ [.ins "State" []])) : wp (rF (k + 8) "State" [v] h) E Q := by
  rw [run_State]
  w_fin
  rw [run_State___init__]
  unfold m_State___init__
  w_fin
  refine check_boxes_wp k d ?_
  cases e : chkB v with
  | some p => rw [e] at q; exact q
  | none =>
    rw [e] at q
    w_fin
    refine stK (c := "State") (fs := []) (by simp) (by decide +kernel) (by simp) ?_
    w_fin
    simpa [putA] using q

end Mo
namespace Mo
open PySem PySem.Spec PyProof.Rows L2 AM
/-! ### joined signs -/
theorem joinL_nil : ∀ parts : List (List Nat), TL.joinL [] parts = parts.flatten
  | [] => rfl
  | [p] => by simp [TL.joinL]
  | p :: q :: r => by
    show p ++ ([] ++ TL.joinL [] (q :: r)) = _
    rw [joinL_nil (q :: r)]
    simp
theorem join_tl (ss : List PySem.Str) : (Txt.join "" ss).cps.toList = (ss.map fun s => s.cps.toList).flatten := by
  rw [TL.join_eq]
  show TL.tl (PySem.Str.join "" ss) = _
  rw [TL.tl_join]
  show TL.joinL [] _ = _
  rw [joinL_nil]
def One (s : PySem.Str) : Prop := ∃ c, s = ⟨#[c]⟩ ∧ low c = true
theorem ones_flat : ∀ {ss : List PySem.Str}, (∀ s ∈ ss, One s) → ((ss.map fun s => s.cps.toList).flatten).length = ss.length ∧ ((ss.map fun s => s.cps.toList).flatten).all low = true
  | [], _ => by simp
  | s :: r, h => by
    obtain ⟨c, rfl, hc⟩ := h _ (List.mem_cons_self ..)
    obtain ⟨h1, h2⟩ := ones_flat fun x hx => h x (List.mem_cons_of_mem _ hx)
    simp only [List.map_cons, List.flatten_cons, List.length_append, List.all_append, h1, h2, List.length_cons]
    simp [hc]
    omega
theorem ones_word {ss : List PySem.Str} (h : ∀ s ∈ ss, One s) (h1 : 1 ≤ ss.length) (h2 : ss.length ≤ 8) : wordS (Txt.join "" ss) = true := by
  obtain ⟨a, b⟩ := ones_flat h
  have e := join_tl ss
  unfold wordS
  have l : (Txt.join "" ss).length = ss.length := by
    show (Txt.join "" ss).cps.size = _
    rw [← Array.length_toList, e, a]
  rw [l, e, b, decide_eq_true h1, decide_eq_true h2]
  rfl
theorem ones_sum : ∀ {ss : List PySem.Str}, (∀ s ∈ ss, One s) → (ss.map (·.length)).sum = ss.length
  | [], _ => rfl
  | s :: r, h => by
    obtain ⟨c, rfl, hc⟩ := h _ (List.mem_cons_self ..)
    have := ones_sum fun x hx => h x (List.mem_cons_of_mem _ hx)
    rw [List.map_cons, List.sum_cons, this, List.length_cons]
    show 1 + r.length = _
    omega
/-- a letter is drawn -/
theorem letters_mem {c : Nat} (h : c ∈ ("abcdefghijklmnopqrstuvwxyz" : PySem.Str).cps.toList) : low c = true := by
  rw [← letters_low]
  exact decide_eq_true h

theorem adj_str : ∀ ws : List PySem.Str, ws.Pairwise (fun x y => TxS.leS x y = true) → ws.Nodup → risB (ws.map .str) = true
  | [], _, _ => rfl
  | [a], _, _ => rfl
  | a :: b :: r, h, d => by
    have ih := adj_str (b :: r) (List.pairwise_cons.mp h).2 (List.nodup_cons.mp d).2
    show (ltA (.str a) (.str b) && risB ((b :: r).map .str)) = true
    rw [ih, Bool.and_true]
    have h1 := (List.pairwise_cons.mp h).1 b (List.mem_cons_self ..)
    have ne : a ≠ b := fun e => (List.nodup_cons.mp d).1 (by rw [e]; exact List.mem_cons_self ..)
    refine decide_eq_true ?_
    refine Classical.byContradiction fun c => ne (TxS.leS_anti h1 ?_)
    unfold TxS.leS
    exact decide_eq_true (List.not_lt.mp c)
theorem sorted_marks {ws : List PySem.Str} (hw : ∀ w ∈ ws, wordS w = true) : marksB (.tup ((TxS.sortS ws).map .str)) = true := by
  show (((TxS.sortS ws).map AV.str).all wordB && risB ((TxS.sortS ws).map .str)) = true
  rw [adj_str _ (TxS.sortS_le ws) (TxS.sortS_nodup ws), Bool.and_true, List.all_map, List.all_eq_true]
  intro w m
  exact hw w (TxS.sortS_mem.mp m)
theorem sort_len (ws : List PySem.Str) : (TxS.sortS ws).length ≤ ws.length := by
  unfold TxS.sortS
  rw [List.length_mergeSort]
  induction ws with
  | nil => exact Nat.le_refl _
  | cons x r ih =>
    unfold TxS.dedS
    split <;> simp <;> omega
theorem fine_words {ws : List PySem.Str} (l : ws.length ≤ 100) (hw : ∀ w ∈ ws, wordS w = true) : ∀ x ∈ ws.map AV.str, Fine x := by
  intro x hx
  obtain ⟨w, hw', rfl⟩ := List.mem_map.mp hx
  exact .str (by have := wordS_len (hw w hw'); omega)

/-! ### words -/
def strA (v : AV) : PySem.Str := match v with
  | .str s => s
  | _ => PySem.Str.empty
/-- the word with another end -/
def varS (s : PySem.Str) (c : Nat) : PySem.Str := (cutS s none (some 6) ++ ⟨#[c]⟩) ++ ("x" : PySem.Str)
def varA (s : PySem.Str) (a : AV) : AV := .str ((cutS s none (some 6) ++ strA a) ++ ("x" : PySem.Str))
theorem app_tl (a b : PySem.Str) : (a ++ b).cps.toList = a.cps.toList ++ b.cps.toList := by
  show (a.cps ++ b.cps).toList = _
  simp
theorem len_tl (a : PySem.Str) : a.length = a.cps.toList.length := by simp [PySem.Str.length]
theorem cut6_tl (s : PySem.Str) : (cutS s none (some 6)).cps.toList = s.cps.toList.take 6 := by
  unfold cutS
  have e1 : HT.sIx s.length 0 none = 0 := rfl
  have e2 : HT.sIx s.length s.length (some 6) = min 6 s.length := by
    show (if (6 : Int) < 0 then ((6 : Int) + (s.length : Int)).toNat else min (6 : Int).toNat s.length) = _
    rw [if_neg (by decide)]
    rfl
  rw [e1, e2]
  show (List.take (min 6 s.length - 0) (List.drop 0 s.cps.toList)) = _
  rw [List.drop_zero, Nat.sub_zero, len_tl]
  exact (List.take_eq_take_min ..).symm
theorem varS_tl (s : PySem.Str) (c : Nat) : (varS s c).cps.toList = s.cps.toList.take 6 ++ [c, 120] := by
  unfold varS
  rw [app_tl, app_tl, cut6_tl]
  simp
  rfl
theorem varS_word {s : PySem.Str} {c : Nat} (w : wordS s = true) (hc : low c = true) : wordS (varS s c) = true := by
  have hl := wordS_len w
  unfold wordS at w ⊢
  simp only [Bool.and_eq_true] at w
  have e : (varS s c).length = min 6 s.length + 2 := by
    rw [len_tl, varS_tl, List.length_append, List.length_take, ← len_tl]
    rfl
  rw [e, varS_tl, decide_eq_true (by omega), decide_eq_true (by omega), List.all_append]
  have h1 : (s.cps.toList.take 6).all low = true := List.all_eq_true.mpr fun x hx => List.all_eq_true.mp w.2 x (List.mem_of_mem_take hx)
  rw [h1]
  simp [hc]
  decide
theorem varS_inj {s : PySem.Str} {c c' : Nat} (e : varS s c = varS s c') : c = c' := by
  have := congrArg (fun z : PySem.Str => z.cps.toList) e
  simp only [varS_tl] at this
  have := List.append_cancel_left this
  simpa using this
theorem nodup_len {α : Type} [DecidableEq α] : ∀ {xs ys : List α}, xs.Nodup → xs ⊆ ys → xs.length ≤ ys.length
  | [], _, _, _ => Nat.zero_le _
  | x :: r, ys, nd, hs => by
    have hx : x ∈ ys := hs (List.mem_cons_self ..)
    have hr : r ⊆ ys.erase x := fun y hy => (List.mem_erase_of_ne (fun e => (List.nodup_cons.mp nd).1 (by rw [← e]; exact hy))).mpr (hs (List.mem_cons_of_mem _ hy))
    have := nodup_len (List.nodup_cons.mp nd).2 hr
    rw [List.length_erase_of_mem hx] at this
    have : 0 < ys.length := List.length_pos_of_mem hx
    rw [List.length_cons]
    omega
/-- a new word stands among the word and its 26 others -/
theorem fresh_word {s : PySem.Str} {ss : List PySem.Str} (hl : ss.length ≤ 20) : ∃ c, c ∈ ("abcdefghijklmnopqrstuvwxyz" : PySem.Str).cps.toList ∧ varS s c ∉ ss := by
  refine Classical.byContradiction fun hn => ?_
  have hall : ∀ c ∈ ("abcdefghijklmnopqrstuvwxyz" : PySem.Str).cps.toList, varS s c ∈ ss := fun c hc => Classical.byContradiction fun h => hn ⟨c, hc, h⟩
  have nd : ((("abcdefghijklmnopqrstuvwxyz" : PySem.Str).cps.toList).map (varS s)).Nodup := by
    have h0 : ("abcdefghijklmnopqrstuvwxyz" : PySem.Str).cps.toList.Nodup := by decide +kernel
    rw [List.Nodup, List.pairwise_map]
    exact List.Pairwise.imp (fun h e => h (varS_inj e)) h0
  have hs : (("abcdefghijklmnopqrstuvwxyz" : PySem.Str).cps.toList).map (varS s) ⊆ ss := fun x hx => by
    obtain ⟨c, hc, rfl⟩ := List.mem_map.mp hx
    exact hall c hc
  have h26 : ((("abcdefghijklmnopqrstuvwxyz" : PySem.Str).cps.toList).map (varS s)).length = 26 := by
    rw [List.length_map]
    decide +kernel
  have := nodup_len nd hs
  omega
theorem varA_s {s : PySem.Str} {c : Nat} : varA s (.str ⟨#[c]⟩) = .str (varS s c) := rfl
theorem words_wp (k : Nat) {p : Nat} {m : Int} {h : AH} {E : XE_} {Q : AV → AH → Prop} (hp : Pool p h) (m0 : 0 ≤ m) (m1 : m ≤ 20)
    (q : ∀ (ws : List PySem.Str) (r : Nat) (h' : AH), h'[r]? = some (.lst (ws.map .str)) → h.length ≤ r → ws.length = m.toNat → (∀ w ∈ ws, wordS w = true) → ws.Nodup → Pool p h' → Fr p h h' → Q (.ref r) h') : wp (rF (k + 2) "_law_words" [.ref p, .int m] h) E Q := by
  rw [run__law_words]
  unfold m__law_words
  w_fin
  have hne : h.length ≠ p := Nat.ne_of_gt hp.lt
  refine l_range (by omega) ?_
  refine for_inv (fun j ρ h' => ∃ (ws : List PySem.Str) (w t x y z : Option AV), ρ = [some (.ref p), some (.int m), some (.lst [.str "box", .str "letter", .str "gone", .str "struck", .str "marks", .str "left", .str "stay", .str "done", .str "lost", .str "now", .str "hello", .str "end"]), t, some (.str "abcdefghijklmnopqrstuvwxyz"), some (.ref h.length), w, x, y, z, none] ∧
      h'[h.length]? = some (.lst (ws.map .str)) ∧ ws.length = j ∧ (∀ w ∈ ws, wordS w = true) ∧ ws.Nodup ∧ Pool p h' ∧ Fr p h h') _ 0 _ _ (fun j a ha ρ h2 hI => ?_) ⟨[], _, _, _, _, _, rfl, by simp, rfl, by simp, .nil, hp.push, Fr.push⟩ fun ρ h2 hI => ?_
  · obtain ⟨ws, w, t, x, y, z, rfl, e2, l2, hw, nd, p2, f2⟩ := hI
    obtain ⟨hj, rfl⟩ := ranges_get ha
    refine ⟨_, rfl, ?_⟩
    w_fin
    refine take_wp p2 (by decide) (by decide) fun n1 h3 a0 a1 p3 f3 l3 => ?_
    have lt2 := (List.getElem?_eq_some_iff.mp e2).1
    have e3 : h3[h.length]? = some (.lst (ws.map .str)) := by rw [f3.2 _ hne lt2]; exact e2
    refine l_idxL (by omega) (by simp; omega) fun x0 hx0 => ?_
    obtain ⟨s0, rfl, w0⟩ : ∃ s0, x0 = .str s0 ∧ wordS s0 = true := by
      simp only [List.mem_cons, List.not_mem_nil, or_false] at hx0
      rcases hx0 with rfl | rfl | rfl | rfl | rfl | rfl | rfl | rfl | rfl | rfl | rfl | rfl <;> exact ⟨_, rfl, by decide +kernel⟩
    have f3' : Fr p h h3 := f2.trans f3
    refine s_if_cut (fun ρ h5 => ∃ (s : PySem.Str) (y : Option AV), ρ = [some (.ref p), some (.int m), some (.lst [.str "box", .str "letter", .str "gone", .str "struck", .str "marks", .str "left", .str "stay", .str "done", .str "lost", .str "now", .str "hello", .str "end"]), some (.int (0 + (j : Int))), some (.str "abcdefghijklmnopqrstuvwxyz"), some (.ref h.length), some (.str s), x, y, z, none] ∧ wordS s = true ∧ Pool p h5 ∧ Fr p h h5 ∧ h5[h.length]? = some (.lst (ws.map .str))) ?_ ?_
    rotate_left
    · rintro ρ h5 ⟨s, y, rfl, w5, p5, f5, e5⟩
      have ls := wordS_len w5
      w_fin
      refine comp_map (varA s) (fun a ha => ?_) (by rw [signs_len']; exact fine_lt (by decide)) ?_
      · obtain ⟨c, hc, rfl⟩ := signs_mem ha
        refine ⟨_, rfl, ?_⟩
        w_fin
        refine l_slS (by omega) ?_
        have lc := cutS_length s none (some 6)
        w_fin
        refine l_cat ?_ ?_
        · show (cutS s none (some 6)).length + 1 ≤ 1000
          omega
        w_fin
        refine l_cat ?_ ⟨rfl, rfl⟩
        have : ((cutS s none (some 6)) ++ (⟨#[c]⟩ : PySem.Str)).length ≤ s.length + 1 := by
          rw [len_tl, app_tl, List.length_append, ← len_tl]
          exact Nat.add_le_add lc (Nat.le_refl _)
        show ((cutS s none (some 6)) ++ (⟨#[c]⟩ : PySem.Str)).length + 1 ≤ 1000
        omega
      refine l_ladd ?_ ?_
      · rw [List.length_map, signs_len']
        show 1 + ("abcdefghijklmnopqrstuvwxyz" : PySem.Str).length ≤ 1000
        decide +kernel
      w_fin
      refine lstAt e5 ?_
      w_fin
      refine comp_filter (fun a => !decide (strA a ∈ ws)) id (fun a ha => ?_) ?_ ?_
      · have hs : ∃ z, a = .str z ∧ wordS z = true := by
          rcases List.mem_append.mp ha with m | m
          · obtain rfl := List.mem_singleton.mp m
            exact ⟨s, rfl, w5⟩
          · obtain ⟨b, hb, rfl⟩ := List.mem_map.mp m
            obtain ⟨c, hc, rfl⟩ := signs_mem hb
            exact ⟨_, varA_s, varS_word w5 (letters_mem hc)⟩
        obtain ⟨z, rfl, wz⟩ := hs
        refine ⟨_, rfl, ?_, fun _ => ?_⟩
        · w_fin
          refine l_notInR e5 ?_
          refine l_notInS (word_ok wz) (fun s hs => word_ok (hw s hs)) ?_
          w_fin
          exact ⟨rfl, rfl⟩
        · w_fin
          exact ⟨rfl, rfl⟩
      · rw [List.length_append, List.length_map, signs_len']
        exact fine_lt (by show 1 + ("abcdefghijklmnopqrstuvwxyz" : PySem.Str).length ≤ 1000; decide +kernel)
      have hpos : 0 < ((([AV.str s] ++ (AM.signs "abcdefghijklmnopqrstuvwxyz").map (varA s)).filter fun a => !decide (strA a ∈ ws)).map id).length := by
        obtain ⟨c, hc, hn⟩ := fresh_word (s := s) (ss := ws) (by omega)
        rw [List.length_map]
        refine List.length_pos_of_mem (a := AV.str (varS s c)) (List.mem_filter.mpr ⟨List.mem_append_right _ (List.mem_map.mpr ⟨AV.str ⟨#[c]⟩, ?_, rfl⟩), ?_⟩)
        · unfold AM.signs
          exact List.mem_map.mpr ⟨c, hc, rfl⟩
        · show (!decide (varS s c ∈ ws)) = true
          rw [decide_eq_false hn]
          rfl
      w_fin
      refine l_idxL (by omega) (by omega) fun x0 hx0 => ?_
      rw [List.map_id] at hx0
      obtain ⟨hx1, hx2⟩ := List.mem_filter.mp hx0
      obtain ⟨z, rfl, wz⟩ : ∃ z, x0 = .str z ∧ wordS z = true := by
        rcases List.mem_append.mp hx1 with m | m
        · obtain rfl := List.mem_singleton.mp m
          exact ⟨s, rfl, w5⟩
        · obtain ⟨b, hb, rfl⟩ := List.mem_map.mp m
          obtain ⟨c, hc, rfl⟩ := signs_mem hb
          exact ⟨_, varA_s, varS_word w5 (letters_mem hc)⟩
      have hz : z ∉ ws := by
        have hx2 : (!decide (z ∈ ws)) = true := hx2
        simpa using hx2
      refine appK e5 ?_ ?_
      · rw [List.length_map]
        exact Nat.lt_of_lt_of_le (show ws.length < 1000 by omega) (fine_lt (Nat.le_refl _))
      w_fin
      refine ⟨ws ++ [z], _, _, _, _, _, rfl, ?_, by simp; omega, fun w hw' => ?_, ?_, p5.setNe hne, ?_⟩
      · rw [List.getElem?_set_self (List.getElem?_eq_some_iff.mp e5).1]
        simp
      · rcases List.mem_append.mp hw' with m | m
        · exact hw w m
        · rw [List.mem_singleton.mp m]
          exact wz
      · rw [List.nodup_append]
        exact ⟨nd, by simp, fun a ha b hb e => hz (by rw [← List.mem_singleton.mp hb, ← e]; exact ha)⟩
      · exact ⟨by simpa using f5.1, fun q hq hl => by rw [List.getElem?_set_ne (by omega)]; exact f5.2 q hq hl⟩
    w_fin
    refine take_wp p3 (by decide) (by decide) fun n2 h4 b0 b1 p4 f4 l4 => ?_
    have lt3 := (List.getElem?_eq_some_iff.mp e3).1
    have e4 : h4[h.length]? = some (.lst (ws.map .str)) := by rw [f4.2 _ hne lt3]; exact e3
    w_fin
    refine br_dec (fun c => ?_) fun c => ?_
    rotate_left
    · w_fin
      exact ⟨s0, y, rfl, w0, p4, f3'.trans f4, e4⟩
    w_fin
    refine take_wp p4 (by decide) (by decide) fun n3 h5 c0 c1 p5 f5 l5 => ?_
    have lt4 := (List.getElem?_eq_some_iff.mp e4).1
    have e5 : h5[h.length]? = some (.lst (ws.map .str)) := by rw [f5.2 _ hne lt4]; exact e4
    w_fin
    refine l_range (by omega) ?_
    refine comp_all (fun acc h' => ∃ ss : List PySem.Str, acc = ss.map .str ∧ (∀ s ∈ ss, One s) ∧ Pool p h' ∧ Fr p h h' ∧ h'[h.length]? = some (.lst (ws.map .str))) (fun a ha acc h6 hI => ?_) ⟨[], rfl, by simp, p5, (f3'.trans f4).trans f5, e5⟩ (fun ys h6 hI hl => ?_) (fine_lt (by rw [ranges_length]; omega))
    · obtain ⟨ss, rfl, ho, p6, f6, e6⟩ := hI
      refine ⟨_, rfl, ?_⟩
      w_fin
      refine take_wp p6 (by decide) (by decide) fun n7 h7 t0 t1 p7 f7 l7 => ?_
      have lt6 := (List.getElem?_eq_some_iff.mp e6).1
      refine l_idxS (by decide) t0 (by exact t1) fun c hc => ?_
      refine ⟨ss ++ [⟨#[c]⟩], by simp, fun s hs => ?_, p7, f6.trans f7, by rw [f7.2 _ hne lt6]; exact e6⟩
      rcases List.mem_append.mp hs with m | m
      · exact ho s m
      · exact ⟨c, List.mem_singleton.mp m, letters_mem hc⟩
    · obtain ⟨ss, rfl, ho, p6, f6, e6⟩ := hI
      rw [List.length_map, ranges_length] at hl
      refine l_joinL ?_ ?_
      · rw [ones_sum ho]
        have : (0 : Nat) = ("" : PySem.Str).length := rfl
        rw [← this]
        omega
      w_fin
      exact ⟨Txt.join "" ss, y, rfl, ones_word ho (by omega) (by omega), p6, f6, e6⟩
  · obtain ⟨ws, w, t, x, y, z, rfl, e2, l2, hw, nd, p2, f2⟩ := hI
    rw [ranges_length] at l2
    w_fin
    exact q ws _ _ e2 (Nat.le_refl _) (by omega) hw nd p2 f2
end Mo
namespace Mo
open PySem PySem.Spec PyProof.Rows L2 AM

/-! ### marks, letters, boxes that a law draws -/
theorem marks_wp (k : Nat) {p : Nat} {h : AH} {E : XE_} {Q : AV → AH → Prop} (hp : Pool p h) (q : ∀ (ms : List AV) (h' : AH), marksB (.tup ms) = true → ms.length ≤ 3 → Pool p h' → Fr p h h' → h'.length = h.length → Q (.tup ms) h') : wp (rF (k + 2) "_law_marks" [.ref p] h) E Q := by
  rw [run__law_marks]
  unfold m__law_marks
  w_fin
  refine take_wp hp (by decide) (by decide) fun n h1 n0 n1 p1 f1 l1 => ?_
  w_fin
  refine l_range (by omega) ?_
  refine comp_all (fun acc h' => ∃ ss : List PySem.Str, acc = ss.map .str ∧ (∀ s ∈ ss, wordS s = true) ∧ Pool p h' ∧ Fr p h h' ∧ h'.length = h.length) (fun a ha acc h2 hI => ?_) ⟨[], rfl, by simp, p1, f1, l1⟩ (fun ys h2 hI hl => ?_) (fine_lt (by rw [ranges_length]; omega))
  · obtain ⟨ss, rfl, hw, p2, f2, l2⟩ := hI
    refine ⟨_, rfl, ?_⟩
    w_fin
    refine take_wp p2 (by decide) (by decide) fun n3 h3 m0 m1 p3 f3 l3 => ?_
    refine l_idxL (by omega) (by simp; omega) fun x hx => ?_
    obtain ⟨s, rfl, ws⟩ : ∃ s, x = .str s ∧ wordS s = true := by
      simp only [List.mem_cons, List.not_mem_nil, or_false] at hx
      rcases hx with rfl | rfl | rfl | rfl | rfl <;> exact ⟨_, rfl, by decide +kernel⟩
    refine ⟨ss ++ [s], by simp, fun t ht => ?_, p3, f2.trans f3, by omega⟩
    rcases List.mem_append.mp ht with m | m
    · exact hw t m
    · rw [List.mem_singleton.mp m]
      exact ws
  · obtain ⟨ss, rfl, hw, p2, f2, l2⟩ := hI
    rw [List.length_map, ranges_length] at hl
    refine l_ssetL (by omega) ?_
    w_fin
    refine q _ _ (sorted_marks hw) ?_ p2 f2 l2
    rw [List.length_map]
    have := sort_len ss
    omega
/-- what the law's boxes are made of: numbers below B, words, short tuples -/
inductive GVb (B : Int) : Nat → AV → Prop
  | int {n : Nat} {i : Int} (h0 : 0 ≤ i) (h1 : i < B) : GVb B n (.int i)
  | str {n : Nat} {s : PySem.Str} (w : wordS s = true) : GVb B n (.str s)
  | tup {n : Nat} {xs : List AV} (l : xs.length ≤ 20) (a : ∀ x ∈ xs, GVb B n x) : GVb B (n + 1) (.tup xs)
abbrev GV : Nat → AV → Prop := GVb 10000000000
theorem GVb.fine {B : Int} : ∀ {n : Nat} {v : AV}, GVb B n v → Fine v
  | _, _, .int _ _ => .int _
  | _, _, .str w => .str (by have := wordS_len w; omega)
  | _, _, .tup l a => .tup (by omega) fun x hx => (a x hx).fine
theorem GVb.da {B : Int} : ∀ {n : Nat} {v : AV}, GVb B n v → DaD n v
  | _, _, .int _ _ => .int _
  | _, _, .str w => .str (word_ok w)
  | _, _, .tup l a => .tup fun x hx => (a x hx).da
theorem GVb.mono {B C : Int} (h : B ≤ C) : ∀ {n : Nat} {v : AV}, GVb B n v → GVb C n v
  | _, _, .int a b => .int a (by omega)
  | _, _, .str w => .str w
  | _, _, .tup l a => .tup l fun x hx => (a x hx).mono h
theorem GVb.marks {B : Int} {ms : List AV} (h : marksB (.tup ms) = true) (l : ms.length ≤ 3) : GVb B 1 (.tup ms) := .tup (by omega) fun x hx => by
  have h : (ms.all wordB && risB ms) = true := h
  rw [Bool.and_eq_true] at h
  obtain ⟨s, rfl, w⟩ := wordB_inv (List.all_eq_true.mp h.1 x hx)
  exact .str w
theorem adj_snoc : ∀ (xs : List AV) (a y : AV), adj (xs ++ [a] ++ [y]) = adj (xs ++ [a]) ++ [(a, y)]
  | [], a, y => rfl
  | [b], a, y => rfl
  | b :: c :: r, a, y => by
    have ih := adj_snoc (c :: r) a y
    show (b, c) :: adj ((c :: r) ++ [a] ++ [y]) = _
    rw [ih]
    rfl
theorem ris_snoc {xs : List AV} {n : Int} (r : risB xs = true) (hl : xs = [] ∨ ∃ m : Int, xs.getLast? = some (.int m) ∧ m < n) : risB (xs ++ [.int n]) = true := by
  rcases hl with rfl | ⟨m, e, hm⟩
  · rfl
  · obtain ⟨ys, rfl⟩ := List.getLast?_eq_some_iff.mp e
    unfold risB at r ⊢
    rw [adj_snoc, List.all_append, r]
    show (true && (ltA (.int m) (.int n) && true)) = true
    have : ltA (.int m) (.int n) = true := decide_eq_true hm
    rw [this]
    rfl
theorem boxes_wp (k : Nat) {p : Nat} {m l : Int} {h : AH} {E : XE_} {Q : AV → AH → Prop} (hp : Pool p h) (m0 : 0 ≤ m) (m1 : m ≤ 8) (l0 : 0 ≤ l) (l1 : l ≤ 20)
    (q : ∀ (bs : List AV) (h' : AH), bs.length ≤ 8 → (∀ i x, bs[i]? = some x → boxB x (bs.take i) = true) → (∀ b ∈ bs, GVb 100 4 b) → Pool p h' → Fr p h h' → Q (.tup bs) h') : wp (rF (k + 3) "_law_boxes" [.ref p, .int m, .int l] h) E Q := by
  rw [run__law_boxes]
  unfold m__law_boxes
  w_fin
  refine words_wp k hp m0 (by omega) fun ws r h1 e1 r1 lw hw nd p1 f1 => ?_
  w_fin
  have hpl := hp.lt
  have hl1 : h.length ≤ h1.length := f1.1
  have ltr := (List.getElem?_eq_some_iff.mp e1).1
  have p2 : Pool p (h1 ++ [.lst []]) := p1.push
  have f2 : Fr p h (h1 ++ [.lst []]) := f1.trans Fr.push
  have e2 : (h1 ++ [AO.lst []])[r]? = some (.lst (ws.map .str)) := by rw [List.getElem?_append_left ltr]; exact e1
  refine take_wp p2 (by omega) (by omega) fun n h3 n0 n1 p3 f3 l3 => ?_
  have rp : r ≠ p := by omega
  have e3 : h3[r]? = some (.lst (ws.map .str)) := by rw [f3.2 r rp (by simp; omega)]; exact e2
  have r5p : h1.length ≠ p := by omega
  have e5 : h3[h1.length]? = some (.lst []) := by rw [f3.2 _ r5p (by simp)]; simp
  w_fin
  refine l_slR e3 ?_
  have hn : n = ((n.toNat : Nat) : Int) := by omega
  rw [hn, cut_take, ← List.map_take]
  have ltk : (ws.take n.toNat).length ≤ 8 := by rw [List.length_take]; omega
  w_fin
  refine for_list (fun pre ρ h' => ∃ (bs : List AV) (life : Int) (x3 x7 x8 x9 : Option AV), ρ = [some (.ref p), some (.int m), some (.int l), x3, some (.ref r), some (.ref h1.length), some (.int life), x7, x8, x9] ∧ h'[h1.length]? = some (.lst bs) ∧
      (bs.map fun b => AV.str (nameA b)) = pre ∧ (∀ i x, bs[i]? = some x → boxB x (bs.take i) = true) ∧ 0 ≤ life ∧ (bs = [] ∨ lifeA (bs.getLastD .non) ≤ life) ∧ (∀ b ∈ bs, GVb 100 4 b) ∧ life ≤ 4 * bs.length ∧ Pool p h' ∧ Fr p h h') _ [] _ _ (fun pre a post epre ρ h4 hI => ?_) ⟨[], 0, _, _, _, _, rfl, e5, rfl, by simp, by omega, .inl rfl, by simp, by simp, p3, f2.trans f3⟩ fun ρ h4 hI => ?_
  · obtain ⟨bs, life, x3, x7, x8, x9, rfl, e4, eb, hb, hlife, hlast, hgv, hli4, p4, f4⟩ := hI
    rw [List.nil_append] at epre
    have lbs : bs.length = pre.length := by rw [← eb, List.length_map]
    have lpre : pre.length < 8 := by
      have := congrArg List.length epre
      simp only [List.length_map, List.length_append, List.length_cons] at this
      omega
    -- the name
    have ha : a ∈ (ws.take n.toNat).map AV.str := by rw [epre]; simp
    obtain ⟨nm, hnm, rfl⟩ := List.mem_map.mp ha
    have wnm : wordS nm = true := hw nm (List.mem_of_mem_take hnm)
    have fresh : nm ∉ bs.map nameA := fun hm => by
      have nd2 : ((ws.take n.toNat).map AV.str).Nodup := by
        rw [List.Nodup, List.pairwise_map]
        exact List.Pairwise.imp (fun h e => h (by cases e; rfl)) (List.Pairwise.sublist (List.take_sublist _ _) nd)
      rw [epre, List.nodup_append] at nd2
      have : AV.str nm ∈ pre := by
        rw [← eb]
        obtain ⟨b, hb, e⟩ := List.mem_map.mp hm
        exact List.mem_map.mpr ⟨b, hb, by rw [e]⟩
      exact nd2.2.2 _ this _ (List.mem_cons_self ..) rfl
    have lt4 := (List.getElem?_eq_some_iff.mp e4).1
    refine ⟨_, rfl, ?_⟩
    w_fin
    refine take_wp p4 (by decide) (by decide) fun d h5 d0 d1 p5 f5 l5 => ?_
    w_fin
    have e5 : h5[h1.length]? = some (.lst bs) := by rw [f5.2 _ r5p lt4]; exact e4
    have p6 : Pool p (h5 ++ [.lst []]) := p5.push
    have f6 : Fr p h (h5 ++ [.lst []]) := (f4.trans f5).trans Fr.push
    refine take_wp p6 (by omega) (by omega) fun cnt h7 c0 c1 p7 f7 l7 => ?_
    w_fin
    have lt5 : h1.length < h5.length := (List.getElem?_eq_some_iff.mp e5).1
    have e7 : h7[h1.length]? = some (.lst bs) := by rw [f7.2 _ r5p (by simp; omega), List.getElem?_append_left lt5]; exact e5
    have r9p : h5.length ≠ p := by omega
    have e9 : h7[h5.length]? = some (.lst []) := by rw [f7.2 _ r9p (by simp)]; simp
    refine l_range (by omega) ?_
    refine for_inv (fun j ρ h' => ∃ (ls : List AV) (num : Int) (x7 : Option AV), ρ = [some (.ref p), some (.int m), some (.int l), some (.str nm), some (.ref r), some (.ref h1.length), some (.int (life + 1 + d)), x7, some (.int num), some (.ref h5.length)] ∧ h'[h1.length]? = some (.lst bs) ∧ h'[h5.length]? = some (.lst ls) ∧
        ls.length = j ∧ ls.all letterB = true ∧ risB (ls.map first3) = true ∧ 0 ≤ num ∧ (ls = [] ∨ (ls.map first3).getLast? = some (.int num)) ∧ (∀ x ∈ ls, GVb 100 2 x) ∧ num ≤ 2 * ls.length ∧ Pool p h' ∧ Fr p h h') _ 0 _ _ (fun j a ha ρ h8 hI => ?_) ⟨[], 0, _, rfl, e7, e9, rfl, rfl, rfl, by omega, .inl rfl, by simp, by simp, p7, f6.trans f7⟩ fun ρ h8 hI => ?_
    · obtain ⟨ls, num, x7, rfl, e8, e89, ll, la, lr, hnum, hlst, hgl, hnl, p8, f8⟩ := hI
      obtain ⟨hj, rfl⟩ := ranges_get ha
      have lt8 := (List.getElem?_eq_some_iff.mp e8).1
      have lt89 := (List.getElem?_eq_some_iff.mp e89).1
      refine ⟨_, rfl, ?_⟩
      w_fin
      refine take_wp p8 (by decide) (by decide) fun s h9 s0 s1 p9 f9 l9 => ?_
      w_fin
      have e9a : h9[h1.length]? = some (.lst bs) := by rw [f9.2 _ r5p lt8]; exact e8
      have e9b : h9[h5.length]? = some (.lst ls) := by rw [f9.2 _ r9p lt89]; exact e89
      refine lstAt e9b ?_
      w_fin
      refine take_wp p9 (by decide) (by decide) fun t h10 t0 t1 p10 f10 l10 => ?_
      refine l_idxL (by omega) (by simp; omega) fun x hx => ?_
      obtain ⟨bd, rfl, wbd⟩ : ∃ s, x = .str s ∧ wordS s = true := by
        simp only [List.mem_cons, List.not_mem_nil, or_false] at hx
        rcases hx with rfl | rfl | rfl | rfl <;> exact ⟨_, rfl, by decide +kernel⟩
      w_fin
      refine marks_wp k p10 fun ms h11 hms lms p11 f11 l11 => ?_
      w_fin
      have e11 : h11[h5.length]? = some (.lst ls) := by rw [f11.2 _ r9p (by omega), f10.2 _ r9p (by omega)]; exact e9b
      have e11a : h11[h1.length]? = some (.lst bs) := by rw [f11.2 _ r5p (by omega), f10.2 _ r5p (by omega)]; exact e9a
      refine appK e11 (Nat.lt_of_lt_of_le (show ls.length < 1000 by omega) (fine_lt (Nat.le_refl _))) ?_
      w_fin
      have h59 : h5.length ≠ h1.length := by omega
      refine ⟨ls ++ [.tup [.int (num + 1 + s), .str bd, .tup ms]], num + 1 + s, _, rfl, by rw [List.getElem?_set_ne h59]; exact e11a, by rw [List.getElem?_set_self (by omega)], by simp; omega, ?_, ?_, by omega, .inr (by simp [first3]), fun x hx => ?_, by simp; omega, p11.setNe r9p, ?_⟩
      · rw [List.all_append, la]
        show (true && ((decide (0 < num + 1 + s) && (wordS bd && marksB (.tup ms))) && true)) = true
        rw [hms, wbd, decide_eq_true (by omega)]
        rfl
      · rw [List.map_append]
        refine ris_snoc lr ?_
        rcases hlst with rfl | e
        · exact .inl rfl
        · exact .inr ⟨num, e, by omega⟩
      · rcases List.mem_append.mp hx with hx | hx
        · exact hgl x hx
        · obtain rfl := List.mem_singleton.mp hx
          refine .tup (by simp) fun y hy => ?_
          simp only [List.mem_cons, List.not_mem_nil, or_false] at hy
          rcases hy with rfl | rfl | rfl
          · exact .int (by omega) (by omega)
          · exact .str wbd
          · exact .marks hms lms
      · have ff := ((f8.trans f9).trans f10).trans f11
        exact ⟨by simpa using ff.1, fun q hq hl => by rw [List.getElem?_set_ne (by omega)]; exact ff.2 q hq hl⟩
    · obtain ⟨ls, num, x7, rfl, e8, e89, ll, la, lr, hnum, hlst, hgl, hnl, p8, f8⟩ := hI
      rw [ranges_length] at ll
      w_fin
      refine lstAt e8 ?_
      w_fin
      refine l_tupR e89 ?_
      w_fin
      refine appK e8 (Nat.lt_of_lt_of_le (show bs.length < 1000 by omega) (fine_lt (Nat.le_refl _))) ?_
      w_fin
      have nb : boxB (.tup [.int (life + 1 + d), .str nm, .tup ls]) bs = true := by
        show (decide (0 < life + 1 + d) && (wordS nm && ((decide (ls.length ≤ 20) && (ls.all letterB && risB (ls.map first3))) && (!decide (nm ∈ bs.map nameA) && (bs.isEmpty || decide (lifeA (bs.getLastD .non) < life + 1 + d)))))) = true
        rw [decide_eq_true (by omega), wnm, decide_eq_true (by omega), la, lr, decide_eq_false fresh]
        rcases hlast with rfl | hl
        · rfl
        · rw [decide_eq_true (p := lifeA (bs.getLastD .non) < life + 1 + d) (by omega)]
          simp
      refine ⟨bs ++ [.tup [.int (life + 1 + d), .str nm, .tup ls]], life + 1 + d, _, _, _, _, rfl, by rw [List.getElem?_set_self (List.getElem?_eq_some_iff.mp e8).1], ?_, fun i x hx => ?_, by omega, .inr ?_, fun x hx => ?_, by simp; omega, p8.setNe r5p, ?_⟩
      · rw [List.map_append, eb]
        rfl
      · by_cases hi : i < bs.length
        · rw [List.getElem?_append_left hi] at hx
          rw [List.take_append_of_le_length (by omega)]
          exact hb i x hx
        · have hi2 : i = bs.length := by
            have := (List.getElem?_eq_some_iff.mp hx).1
            simp at this
            omega
          subst hi2
          simp at hx
          subst hx
          rw [List.take_left' rfl]
          exact nb
      · rw [List.getLastD_concat]
        exact Int.le_refl _
      · rcases List.mem_append.mp hx with hx | hx
        · exact hgv x hx
        · obtain rfl := List.mem_singleton.mp hx
          refine .tup (by simp) fun y hy => ?_
          simp only [List.mem_cons, List.not_mem_nil, or_false] at hy
          rcases hy with rfl | rfl | rfl
          · exact .int (by omega) (by omega)
          · exact .str wnm
          · exact .tup (by omega) hgl
      · exact ⟨by simpa using f8.1, fun q hq hl => by rw [List.getElem?_set_ne (by omega)]; exact f8.2 q hq hl⟩
  · obtain ⟨bs, life, x3, x7, x8, x9, rfl, e4, eb, hb, hlife, hlast, hgv, hli4, p4, f4⟩ := hI
    w_fin
    refine l_tupR e4 ?_
    refine q bs _ ?_ hb hgv p4 f4
    have := congrArg List.length eb
    simp at this
    omega
end Mo
/-! PLrep: repr of data. -/
namespace AM
open PySem PySem.Spec PyProof.Rows L2

/-- data that can be shown: n deep, L signs at most -/
def RpD (n L : Nat) (v : AV) : Prop := ∃ d, toD v = some d ∧ d.canLay0 = true ∧ d.depth ≤ n ∧ d.showable = true ∧ d.shown.length ≤ L
theorem RpD.da {n L : Nat} {v : AV} (r : RpD n L v) : DaD n v := let ⟨d, e, c, q, _⟩ := r; ⟨d, e, c, q⟩
theorem RpD.mono {n m L M : Nat} {v : AV} (r : RpD n L v) (h : n ≤ m) (l : L ≤ M) : RpD m M v := by
  obtain ⟨d, e, c, q, s, z⟩ := r
  exact ⟨d, e, c, by omega, s, by omega⟩
/-- what repr shows -/
def shA (v : AV) : Str := match toD v with
  | some d => d.shown
  | none => Str.empty
theorem l_repr {v : AV} {n L : Nat} {h : AH} {E : XE_} {Q : AV → AH → Prop} (r : RpD n L v) (hn : n ≤ 64) (hL : L ≤ sizeLine) (k : Q (.str (shA v)) h) : wp (reprF [v] h) E Q := by
  obtain ⟨d, e, c, q, s, z⟩ := r
  refine wp_eq (v := .str (shA v)) (h := h) ?_ k
  unfold reprF shA
  dsimp only
  rw [e]
  show (if _ then _ else _) = _
  rw [if_pos (by rw [shaped_of c (by omega), s]; exact Nat.ble_eq_true_of_le (by omega))]
theorem RpD.non {n : Nat} : RpD n 4 .non := ⟨.none, rfl, rfl, by simp [PyData.depth], by simp [PyData.showable], by simp only [PyData.shown]; decide⟩
theorem RpD.bl {n : Nat} (b : Bool) : RpD n 5 (.bl b) := ⟨.bool b, rfl, rfl, by simp [PyData.depth], by simp [PyData.showable], by simp only [PyData.shown]; cases b <;> decide⟩
theorem num_tl (n : Nat) : ((toString (n : Int) : String) : Str).cps.toList = TL.numL n := TL.tl_num n
theorem num_len {n k : Nat} (hk : 0 < k) (h : n < 10 ^ k) : ((toString (n : Int) : String) : Str).length ≤ k := by
  show (Str.cps _).size ≤ k
  rw [← Array.length_toList, num_tl]
  exact TL.numL_len hk h
theorem log2_lt {n : Nat} (h : n < 10 ^ 20) : n.log2 < 1920 := by
  have h2 : n < 2 ^ 1920 := Nat.lt_of_lt_of_le h (by decide +kernel)
  by_cases z : n = 0
  · subst z; decide
  · exact (Nat.log2_lt z).2 h2
theorem RpD.int {n : Nat} {i : Int} (h0 : 0 ≤ i) (h1 : i < 10 ^ 20) : RpD n 20 (.int i) := by
  obtain ⟨m, rfl⟩ := Int.eq_ofNat_of_zero_le h0
  have hm : m < 10 ^ 20 := by exact_mod_cast h1
  refine ⟨.int m, rfl, rfl, by simp [PyData.depth], ?_, ?_⟩
  · simp only [PyData.showable, decide_eq_true_eq]
    exact log2_lt (by simpa using hm)
  · simp only [PyData.shown]
    exact num_len (by decide) hm
theorem RpD.str {n : Nat} {s : Str} (o : PyData.strOk s = true) (a : ∀ c ∈ s.cps.toList, c < 128) : RpD n (10 * s.length + 2) (.str s) := by
  refine ⟨.str s, rfl, by simpa [PyData.canLay0] using o, by simp [PyData.depth], by simp [PyData.showable], ?_⟩
  simp only [PyData.shown]
  exact StrLaws.reprText_len s fun c hc => Nat.lt_trans (a c hc) (by decide)
theorem shown_sum {L : Nat} : ∀ {ds : List PyData}, (∀ d ∈ ds, d.shown.length ≤ L) → ((PyData.shownAll ds).map (·.length)).sum ≤ ds.length * L
  | [], _ => by simp [PyData.shownAll]
  | d :: ds, h => by
    have h1 := h d (List.mem_cons_self ..)
    have h2 := shown_sum fun x hx => h x (List.mem_cons_of_mem d hx)
    simp only [PyData.shownAll, List.map_cons, List.sum_cons, List.length_cons]
    rw [Nat.add_mul]
    omega
theorem rpds {n L : Nat} : ∀ {xs : List AV}, (∀ x ∈ xs, RpD n L x) → ∃ ds, toDs xs = some ds ∧ PyData.canLayAll0 ds = true ∧ PyData.depthAll ds ≤ n ∧ PyData.showableAll ds = true ∧ ds.length = xs.length ∧ ∀ d ∈ ds, d.shown.length ≤ L
  | [], _ => ⟨[], rfl, rfl, by simp [PyData.depthAll], by simp [PyData.showableAll], rfl, by simp⟩
  | x :: xs, h => by
    obtain ⟨d, e, c, q, s, z⟩ := h x (List.mem_cons_self ..)
    obtain ⟨ds, e2, c2, q2, s2, l2, z2⟩ := rpds fun y hy => h y (List.mem_cons_of_mem x hy)
    refine ⟨d :: ds, ?_, ?_, ?_, ?_, by simp [l2], ?_⟩
    · unfold toDs
      rw [e, e2]
    · simp [PyData.canLayAll0, c, c2]
    · simp only [PyData.depthAll]; omega
    · simp [PyData.showableAll, s, s2]
    · intro y hy
      rcases List.mem_cons.mp hy with rfl | hy
      · exact z
      · exact z2 y hy
theorem RpD.tup {n L k : Nat} {xs : List AV} (h : ∀ x ∈ xs, RpD n L x) (l : xs.length ≤ k) : RpD (n + 1) (k * (L + 2) + 3) (.tup xs) := by
  obtain ⟨ds, e, c, q, s, hl, z⟩ := rpds h
  refine ⟨.tuple ds, ?_, by simpa [PyData.canLay0] using c, by simp only [PyData.depth]; omega, by simpa [PyData.showable] using s, ?_⟩
  · unfold toD
    rw [e]
  · have h1 := tupleText_len_le (PyData.shownAll ds)
    have h2 := shown_sum z
    have h3 := PyData.shownAll_length ds
    have h4 : ds.length * L ≤ k * L := Nat.mul_le_mul_right _ (by omega)
    have h5 : k * (L + 2) = k * L + k * 2 := Nat.mul_add ..
    simp only [PyData.shown]
    omega
theorem RpD.lst {n L k : Nat} {xs : List AV} (h : ∀ x ∈ xs, RpD n L x) (l : xs.length ≤ k) : RpD (n + 1) (k * (L + 2) + 3) (.lst xs) := by
  obtain ⟨ds, e, c, q, s, hl, z⟩ := rpds h
  refine ⟨.list ds, ?_, by simpa [PyData.canLay0] using c, by simp only [PyData.depth]; omega, by simpa [PyData.showable] using s, ?_⟩
  · unfold toD
    rw [e]
  · have h1 := listText_len_le (PyData.shownAll ds)
    have h2 := shown_sum z
    have h3 := PyData.shownAll_length ds
    have h4 : ds.length * L ≤ k * L := Nat.mul_le_mul_right _ (by omega)
    have h5 : k * (L + 2) = k * L + k * 2 := Nat.mul_add ..
    simp only [PyData.shown]
    omega
/-! ### atoms, and which are shown alike -/
/-- signs that repr shows as they are -/
def plainS (s : Str) : Bool := s.cps.toList.all fun c => (decide (97 ≤ c) && decide (c ≤ 122)) || (decide (48 ≤ c) && decide (c ≤ 57))
theorem repr_plain {s : Str} (h : plainS s = true) : (reprText s).cps.toList = 39 :: (s.cps.toList ++ [39]) := by
  have hc : ∀ c ∈ s.cps.toList, (97 ≤ c ∧ c ≤ 122) ∨ (48 ≤ c ∧ c ≤ 57) := fun c m => by
    have := List.all_eq_true.mp h c m
    simpa using this
  have q : reprQuote s = 39 := by
    unfold reprQuote
    have : s.cps.contains 39 = false := by
      rw [Bool.eq_false_iff]
      intro z
      have z2 : 39 ∈ s.cps.toList := by simpa using z
      have := hc 39 z2
      omega
    rw [this]
    rfl
  have one : ∀ c, ((97 ≤ c ∧ c ≤ 122) ∨ (48 ≤ c ∧ c ≤ 57)) → Builtin.Str.reprChar 39 c = [c] := by
    have key : ∀ c, c < 123 → ((97 ≤ c ∧ c ≤ 122) ∨ (48 ≤ c ∧ c ≤ 57)) → Builtin.Str.reprChar 39 c = [c] := by decide +kernel
    exact fun c hc => key c (by omega) hc
  have go : ∀ (l : List Nat) (acc : Array Nat), (∀ c ∈ l, (97 ≤ c ∧ c ≤ 122) ∨ (48 ≤ c ∧ c ≤ 57)) → (l.foldl (fun out c => out ++ (Builtin.Str.reprChar 39 c).toArray) acc).toList = acc.toList ++ l := by
    intro l
    induction l with
    | nil => intro acc _; simp
    | cons c r ih =>
      intro acc hl
      rw [List.foldl_cons, ih _ fun x hx => hl x (List.mem_cons_of_mem _ hx), one c (hl c (List.mem_cons_self ..))]
      simp
  unfold reprText
  rw [q]
  show (Array.push _ 39).toList = _
  rw [Array.toList_push, ← Array.foldl_toList, go _ _ hc]
  simp
/-- what is asked for: a number, None, a truth, a text -/
def Atom (v : AV) : Prop := (∃ i : Int, v = .int i ∧ 0 ≤ i ∧ i < 10 ^ 20) ∨ v = .non ∨ (∃ b, v = .bl b) ∨ ∃ s, v = .str s ∧ plainS s = true ∧ s.length ≤ 8 ∧ PyData.strOk s = true
theorem plain_low {s : Str} (h : plainS s = true) : ∀ c ∈ s.cps.toList, c < 128 := fun c m => by
  have := List.all_eq_true.mp h c m
  simp at this
  omega
theorem Atom.rp {n : Nat} {v : AV} (a : Atom v) : RpD n 82 v := by
  rcases a with ⟨i, rfl, h0, h1⟩ | rfl | ⟨b, rfl⟩ | ⟨s, rfl, p, l, o⟩
  · exact (RpD.int h0 h1).mono (Nat.le_refl _) (by decide)
  · exact RpD.non.mono (Nat.le_refl _) (by decide)
  · exact (RpD.bl b).mono (Nat.le_refl _) (by decide)
  · exact (RpD.str o (plain_low p)).mono (Nat.le_refl _) (by omega)
/-- the same number, the same text -/
def atB (v w : AV) : Bool := match v, w with
  | .int i, .int j => decide (i = j)
  | .str a, .str b => decide (a = b)
  | _, _ => false
theorem str_tl {a b : Str} (h : a.cps.toList = b.cps.toList) : a = b := by
  obtain ⟨⟨a⟩⟩ := a
  obtain ⟨⟨b⟩⟩ := b
  simp at h
  rw [h]
theorem sh_int {i : Int} : shA (.int i) = ((toString i : String) : Str) := by simp [shA, toD, PyData.shown]
theorem sh_str {s : Str} : shA (.str s) = reprText s := by simp [shA, toD, PyData.shown]
theorem num_head (n : Nat) : ∃ c r, ((toString (n : Int) : String) : Str).cps.toList = c :: r ∧ 48 ≤ c ∧ c ≤ 57 := by
  rw [num_tl]
  cases e : TL.numL n with
  | nil => exact absurd e (TL.numL_ne n)
  | cons c r => exact ⟨c, r, rfl, TL.numL_digits n c (by rw [e]; exact List.mem_cons_self ..)⟩
theorem tl_of {a b : Str} (h : a = b) : a.cps.toList = b.cps.toList := by rw [h]
/-- a key of a box is shown as the atom just where it is it -/
theorem sh_eq {v w : AV} (k : (∃ i : Int, v = .int i ∧ 0 ≤ i ∧ i < 10 ^ 20) ∨ ∃ s, v = .str s ∧ plainS s = true) (a : Atom w) : decide (shA v = shA w) = atB v w := by
  have fin : ∀ {p : Prop} [Decidable p] {b : Bool}, (p ↔ b = true) → decide p = b := fun {p} _ {b} z => by
    cases b
    · exact decide_eq_false fun q => Bool.false_ne_true (z.mp q)
    · exact decide_eq_true (z.mpr rfl)
  have no : ∀ {c d : Nat} {r t : List Nat} {x y : Str}, x.cps.toList = c :: r → y.cps.toList = d :: t → c ≠ d → ¬ x = y := fun e1 e2 ne q => by
    rw [q, e2] at e1
    exact ne (List.cons.inj e1).1.symm
  rcases k with ⟨i, rfl, h0, h1⟩ | ⟨s, rfl, ps⟩
  · obtain ⟨m, rfl⟩ := Int.eq_ofNat_of_zero_le h0
    obtain ⟨c, r, ec, c0, c1⟩ := num_head m
    have ec' : (shA (.int (m : Int))).cps.toList = c :: r := by rw [sh_int]; exact ec
    rcases a with ⟨j, rfl, j0, j1⟩ | rfl | ⟨b, rfl⟩ | ⟨t, rfl, pt, lt, ot⟩
    · obtain ⟨n, rfl⟩ := Int.eq_ofNat_of_zero_le j0
      refine fin ⟨fun q => ?_, fun q => ?_⟩
      · rw [sh_int, sh_int] at q
        have := tl_of q
        rw [num_tl, num_tl] at this
        have := TL.numL_inj this
        subst this
        exact decide_eq_true rfl
      · have q : (m : Int) = (n : Int) := of_decide_eq_true q
        rw [q]
    · exact decide_eq_false (no (d := 78) ec' (by simp [shA, toD, PyData.shown]; rfl) (by omega))
    · refine decide_eq_false ?_
      cases b
      · exact no (d := 70) ec' (by simp [shA, toD, PyData.shown]; rfl) (by omega)
      · exact no (d := 84) ec' (by simp [shA, toD, PyData.shown]; rfl) (by omega)
    · exact decide_eq_false (no ec' (by rw [sh_str, repr_plain pt]) (by omega))
  · have es : (shA (.str s)).cps.toList = 39 :: (s.cps.toList ++ [39]) := by rw [sh_str, repr_plain ps]
    rcases a with ⟨j, rfl, j0, j1⟩ | rfl | ⟨b, rfl⟩ | ⟨t, rfl, pt, lt, ot⟩
    · obtain ⟨n, rfl⟩ := Int.eq_ofNat_of_zero_le j0
      obtain ⟨c, r, ec, c0, c1⟩ := num_head n
      exact decide_eq_false (no es (by rw [sh_int]; exact ec) (by omega))
    · exact decide_eq_false (no (d := 78) es (by simp [shA, toD, PyData.shown]; rfl) (by omega))
    · refine decide_eq_false ?_
      cases b
      · exact no (d := 70) es (by simp [shA, toD, PyData.shown]; rfl) (by omega)
      · exact no (d := 84) es (by simp [shA, toD, PyData.shown]; rfl) (by omega)
    · refine fin ⟨fun q => ?_, fun q => ?_⟩
      · have q2 := tl_of q
        rw [es, sh_str, repr_plain pt] at q2
        have q3 := List.append_cancel_right (List.cons.inj q2).2
        exact decide_eq_true (str_tl q3)
      · have q : s = t := of_decide_eq_true q
        rw [q]
theorem word_plain {s : Str} (w : wordS s = true) : plainS s = true := by
  unfold wordS at w
  simp only [Bool.and_eq_true] at w
  unfold plainS
  rw [List.all_eq_true]
  intro c hc
  have := List.all_eq_true.mp w.2 c hc
  unfold low at this
  simp at this ⊢
  omega
end AM
namespace Mo
open PySem PySem.Spec PyProof.Rows L2 AM

/-! ### a State that stands -/
def lifV (b : AV) : AV := match b with
  | .tup [i, _, _] => i
  | _ => .non
def namV (b : AV) : AV := match b with
  | .tup [_, n, _] => n
  | _ => .non
def letV (b : AV) : List AV := match b with
  | .tup [_, _, .tup ls] => ls
  | _ => []
def numV (l : AV) : AV := match l with
  | .tup (n :: _) => n
  | _ => .non
def resV (l : AV) : List AV := match l with
  | .tup (_ :: r) => r
  | _ => []
def Kept (s : Nat) (bs : List AV) (h : AH) : Prop := h[s]? = some (.ins "State" [("kept", .tup bs)]) ∧ ∀ b ∈ bs, BoxLike b
theorem eqA_int (i j : Int) : eqA (.int i) (.int j) = decide (i = j) := by
  show PyData.eqv (.int i) (.int j) = _
  simp only [PyData.eqv]
  exact Bool.beq_eq_decide_eq i j
theorem atom_fine {v : AV} (a : Atom v) : Fine v := by
  rcases a with ⟨i, rfl, _, _⟩ | rfl | ⟨b, rfl⟩ | ⟨s, rfl, p, l, o⟩
  · exact .int _
  · exact .non
  · exact .bl _
  · exact .str (by omega)
theorem find_app {p : AV → Bool} {xs pre post : List AV} {a : AV} (e : xs = pre ++ a :: post) (h : pre.find? p = none) : xs.find? p = if p a then some a else post.find? p := by
  rw [e, List.find?_append, h]
  simp only [Option.none_or, List.find?_cons]
  cases p a <;> rfl
theorem find_snoc {p : AV → Bool} {pre : List AV} {a : AV} (h : pre.find? p = none) (n : p a = false) : (pre ++ [a]).find? p = none := by
  rw [List.find?_append, h]
  simp [n]
theorem life_of_wp (k : Nat) {s : Nat} {bs : List AV} {name : AV} {h : AH} {E : XE_} {Q : AV → AH → Prop} (K : Kept s bs h) (a : Atom name)
    (q : match bs.find? (fun b => atB (namV b) name) with | some b => Q (lifV b) h | none => E "NoBox" [("box", name)] h) : wp (rF (k + 3) "State.life_of" [.ref s, name] h) E Q := by
  rw [run_State_life_of]
  unfold m_State_life_of
  w_fin
  refine fldK K.1 (by decide +kernel) rfl ?_
  w_fin
  refine for_list (fun pre ρ h' => h' = h ∧ (∃ x y z, ρ = [some (.ref s), some name, x, y, z]) ∧ pre.find? (fun b => atB (namV b) name) = none) bs [] _ _ (fun pre b post e ρ h' hI => ?_) ⟨rfl, ⟨_, _, _, rfl⟩, rfl⟩ fun ρ h' hI => ?_
  · obtain ⟨rfl, ⟨x, y, z, rfl⟩, hp⟩ := hI
    have e : bs = pre ++ b :: post := e
    have hm : b ∈ bs := by
      rw [e]
      simp
    obtain ⟨i, n, ls, rfl, i0, wn, _⟩ := K.2 b hm
    rw [find_app e hp] at q
    refine ⟨_, rfl, ?_⟩
    w_fin
    refine is_word_ok _ _ _ _ _ (atom_fine a) ?_
    w_fin
    rcases a with ⟨j, rfl, _, _⟩ | rfl | ⟨c, rfl⟩ | ⟨t, rfl, pt, lt, ot⟩
    · exact br_f (by w_fin; exact ⟨rfl, ⟨_, _, _, rfl⟩, find_snoc hp rfl⟩)
    · exact br_f (by w_fin; exact ⟨rfl, ⟨_, _, _, rfl⟩, find_snoc hp rfl⟩)
    · exact br_f (by w_fin; exact ⟨rfl, ⟨_, _, _, rfl⟩, find_snoc hp rfl⟩)
    · refine br_c (fun w => ?_) fun w => ?_
      · w_fin
        refine br_dec (fun c => ?_) fun c => ?_
        · w_fin
          rw [if_pos (show atB (namV (.tup [.int i, .str n, .tup ls])) (.str t) = true from decide_eq_true c)] at q
          exact q
        · w_fin
          exact ⟨rfl, ⟨_, _, _, rfl⟩, find_snoc hp (decide_eq_false c)⟩
      · w_fin
        refine ⟨rfl, ⟨_, _, _, rfl⟩, find_snoc hp (decide_eq_false fun c => ?_)⟩
        subst c
        have w : wordS n = false := w
        rw [wn] at w
        cases w
  · obtain ⟨rfl, ⟨x, y, z, rfl⟩, hp⟩ := hI
    rw [show bs.find? (fun b => atB (namV b) name) = none from hp] at q
    w_fin
    exact q
theorem box_of_wp (k : Nat) {s : Nat} {bs : List AV} {life : AV} {h : AH} {E : XE_} {Q : AV → AH → Prop} (K : Kept s bs h) (a : Atom life)
    (q : match bs.find? (fun b => atB (lifV b) life) with | some b => Q b h | none => E "NoBox" [("box", life)] h) : wp (rF (k + 3) "State.box_of" [.ref s, life] h) E Q := by
  rw [run_State_box_of]
  unfold m_State_box_of
  w_fin
  refine fldK K.1 (by decide +kernel) rfl ?_
  w_fin
  refine for_list (fun pre ρ h' => h' = h ∧ (∃ x, ρ = [some (.ref s), some life, x]) ∧ pre.find? (fun b => atB (lifV b) life) = none) bs [] _ _ (fun pre b post e ρ h' hI => ?_) ⟨rfl, ⟨_, rfl⟩, rfl⟩ fun ρ h' hI => ?_
  · obtain ⟨rfl, ⟨x, rfl⟩, hp⟩ := hI
    have e : bs = pre ++ b :: post := e
    have hm : b ∈ bs := by
      rw [e]
      simp
    obtain ⟨i, n, ls, rfl, i0, wn, _⟩ := K.2 b hm
    rw [find_app e hp] at q
    refine ⟨_, rfl, ?_⟩
    w_fin
    refine is_whole_ok _ _ _ _ _ (atom_fine a) ?_
    w_fin
    rcases a with ⟨j, rfl, _, _⟩ | rfl | ⟨c, rfl⟩ | ⟨t, rfl, pt, lt, ot⟩
    · refine br_t ?_
      w_fin
      refine br_c (fun c => ?_) fun c => ?_
      · have c : eqA (.int i) (.int j) = true := c
        rw [eqA_int] at c
        w_fin
        rw [if_pos (show atB (lifV (.tup [.int i, .str n, .tup ls])) (.int j) = true from c)] at q
        exact q
      · have c : eqA (.int i) (.int j) = false := c
        rw [eqA_int] at c
        w_fin
        exact ⟨rfl, ⟨_, rfl⟩, find_snoc hp c⟩
    · exact br_f (by w_fin; exact ⟨rfl, ⟨_, rfl⟩, find_snoc hp rfl⟩)
    · exact br_f (by w_fin; exact ⟨rfl, ⟨_, rfl⟩, find_snoc hp rfl⟩)
    · exact br_f (by w_fin; exact ⟨rfl, ⟨_, rfl⟩, find_snoc hp rfl⟩)
  · obtain ⟨rfl, ⟨x, rfl⟩, hp⟩ := hI
    rw [show bs.find? (fun b => atB (lifV b) life) = none from hp] at q
    w_fin
    exact q
theorem name_of_wp (k : Nat) {s : Nat} {bs : List AV} {life : AV} {h : AH} {E : XE_} {Q : AV → AH → Prop} (K : Kept s bs h) (a : Atom life)
    (q : match bs.find? (fun b => atB (lifV b) life) with | some b => Q (namV b) h | none => E "NoBox" [("box", life)] h) : wp (rF (k + 4) "State.name_of" [.ref s, life] h) E Q := by
  rw [run_State_name_of]
  unfold m_State_name_of
  w_fin
  refine mthK (kn := ("State.box_of", 1)) K.1 (by decide +kernel) rfl rfl ?_
  w_fin
  refine box_of_wp k K a ?_
  cases e : bs.find? (fun b => atB (lifV b) life) with
  | none => rw [e] at q; exact q
  | some b =>
    rw [e] at q
    obtain ⟨i, n, ls, rfl, _⟩ := K.2 b (List.mem_of_find?_eq_some e)
    w_fin
    exact q
theorem letters_wp (k : Nat) {s : Nat} {bs : List AV} {life : AV} {h : AH} {E : XE_} {Q : AV → AH → Prop} (K : Kept s bs h) (a : Atom life)
    (q : match bs.find? (fun b => atB (lifV b) life) with | some b => Q (.tup (letV b)) h | none => E "NoBox" [("box", life)] h) : wp (rF (k + 4) "State.letters" [.ref s, life] h) E Q := by
  rw [run_State_letters]
  unfold m_State_letters
  w_fin
  refine mthK (kn := ("State.box_of", 1)) K.1 (by decide +kernel) rfl rfl ?_
  w_fin
  refine box_of_wp k K a ?_
  cases e : bs.find? (fun b => atB (lifV b) life) with
  | none => rw [e] at q; exact q
  | some b =>
    rw [e] at q
    obtain ⟨i, n, ls, rfl, _⟩ := K.2 b (List.mem_of_find?_eq_some e)
    w_fin
    exact q
theorem letter_at_wp (k : Nat) {s : Nat} {bs : List AV} {life num : AV} {h : AH} {E : XE_} {Q : AV → AH → Prop} (K : Kept s bs h) (a : Atom life) (a2 : Atom num)
    (q : match bs.find? (fun b => atB (lifV b) life) with
      | some b => (match (letV b).find? (fun l => atB (numV l) num) with
        | some l => Q (.tup (resV l)) h
        | none => E "NoLetter" [("letter", num)] h)
      | none => E "NoBox" [("box", life)] h) : wp (rF (k + 4) "State.letter_at" [.ref s, life, num] h) E Q := by
  rw [run_State_letter_at]
  unfold m_State_letter_at
  w_fin
  refine mthK (kn := ("State.box_of", 1)) K.1 (by decide +kernel) rfl rfl ?_
  w_fin
  refine box_of_wp k K a ?_
  cases e : bs.find? (fun b => atB (lifV b) life) with
  | none => rw [e] at q; exact q
  | some b =>
    rw [e] at q
    obtain ⟨i, n, ls, rfl, _, _, l20, hls, _⟩ := K.2 b (List.mem_of_find?_eq_some e)
    have q : match ls.find? (fun l => atB (numV l) num) with | some l => Q (.tup (resV l)) h | none => E "NoLetter" [("letter", num)] h := q
    w_fin
    refine for_list (fun pre ρ h' => h' = h ∧ (∃ x y z, ρ = [some (.ref s), some life, some num, x, y, z]) ∧ pre.find? (fun l => atB (numV l) num) = none) ls [] _ _ (fun pre b post e ρ h' hI => ?_) ⟨rfl, ⟨_, _, _, rfl⟩, rfl⟩ fun ρ h' hI => ?_
    · obtain ⟨rfl, ⟨x, y, z, rfl⟩, hp⟩ := hI
      have e : ls = pre ++ b :: post := e
      have hm : b ∈ ls := by
        rw [e]
        simp
      obtain ⟨m, bd, ms, rfl, m0, wb, _⟩ := letter_inv (List.all_eq_true.mp hls b hm)
      rw [find_app e hp] at q
      refine ⟨_, rfl, ?_⟩
      w_fin
      refine is_whole_ok _ _ _ _ _ (atom_fine a2) ?_
      w_fin
      rcases a2 with ⟨j, rfl, _, _⟩ | rfl | ⟨c, rfl⟩ | ⟨t, rfl, pt, lt, ot⟩
      · refine br_t ?_
        w_fin
        refine br_c (fun c => ?_) fun c => ?_
        · have c : eqA (.int m) (.int j) = true := c
          rw [eqA_int] at c
          w_fin
          rw [if_pos (show atB (numV (.tup [.int m, .str bd, .tup ms])) (.int j) = true from c)] at q
          exact q
        · have c : eqA (.int m) (.int j) = false := c
          rw [eqA_int] at c
          w_fin
          exact ⟨rfl, ⟨_, _, _, rfl⟩, find_snoc hp c⟩
      · exact br_f (by w_fin; exact ⟨rfl, ⟨_, _, _, rfl⟩, find_snoc hp rfl⟩)
      · exact br_f (by w_fin; exact ⟨rfl, ⟨_, _, _, rfl⟩, find_snoc hp rfl⟩)
      · exact br_f (by w_fin; exact ⟨rfl, ⟨_, _, _, rfl⟩, find_snoc hp rfl⟩)
    · obtain ⟨rfl, ⟨x, y, z, rfl⟩, hp⟩ := hI
      rw [show ls.find? (fun l => atB (numV l) num) = none from hp] at q
      w_fin
      exact q
theorem boxes_m_wp (k : Nat) {n : Nat} {v : AV} {h : AH} {E : XE_} {Q : AV → AH → Prop} (e : h[n]? = some (.ins "State" [("kept", v)])) (q : Q v h) : wp (rF (k + 1) "State.boxes" [.ref n] h) E Q := by
  rw [run_State_boxes]
  unfold m_State_boxes
  w_fin
  refine fldK e (by decide +kernel) rfl ?_
  exact q
end Mo
/-! PLo: comprehensions by what has been taken; rising numbers; valid boxes. -/
namespace Mo
open PySem PySem.Spec PyProof.Rows L2 AM
section
variable {asg : AV → AM.Env → Option AM.Env} {elt : ME} {ρ : AM.Env} {E : XE_} {Q : List AV → AH → Prop}
/-- a comprehension by what has been taken -/
theorem comp_list (I : List AV → List AV → AH → Prop) : ∀ (xs pre acc : List AV) (h : AH), (∀ (p : List AV) (a : AV) (r : List AV), pre ++ xs = p ++ a :: r → ∀ acc h, I p acc h → ∃ ρ1, asg a ρ = some ρ1 ∧ wp (elt ρ1 h) noE fun v h2 => I (p ++ [a]) (acc ++ [v]) h2) → I pre acc h →
    acc.length + xs.length ≤ sizeLine → ∃ ys h', compL asg allT elt ρ xs acc h = .ok ys h' ∧ I (pre ++ xs) ys h' ∧ ys.length = acc.length + xs.length
  | [], pre, acc, h, _, hI, _ => ⟨acc, h, rfl, by simpa using hI, by simp⟩
  | a :: r, pre, acc, h, hx, hI, hl => by
    obtain ⟨ρ1, e1, k⟩ := hx pre a r rfl acc h hI
    obtain ⟨v, h2, e2, i2⟩ := wp_inv k
    obtain ⟨ys, h', e3, i3, l3⟩ := comp_list I r (pre ++ [a]) (acc ++ [v]) h2 (fun p b t e => hx p b t (by rw [← e]; simp)) i2 (by simp at hl ⊢; omega)
    refine ⟨ys, h', ?_, by simpa using i3, by simp at l3 ⊢; omega⟩
    unfold compL
    rw [e1]
    show (noX (Res.ok true h)).bind _ = _
    show (noX (elt ρ1 h)).bind _ = _
    rw [e2]
    show (if acc.length < sizeLine then compL asg allT elt ρ r (acc ++ [v]) h2 else .stk) = _
    rw [if_pos (by simp at hl; omega), e3]
theorem comp_pre (I : List AV → List AV → AH → Prop) {xs : List AV} {h : AH} (hx : ∀ (p : List AV) (a : AV) (r : List AV), xs = p ++ a :: r → ∀ acc h, I p acc h → ∃ ρ1, asg a ρ = some ρ1 ∧ wp (elt ρ1 h) noE fun v h2 => I (p ++ [a]) (acc ++ [v]) h2) (hI : I [] [] h) (hl : xs.length ≤ sizeLine)
    (hQ : ∀ ys h, I xs ys h → ys.length = xs.length → Q ys h) : wp (compL asg allT elt ρ xs [] h) E Q := by
  obtain ⟨ys, h', e, i, l⟩ := comp_list I xs [] [] h (fun p a r e => hx p a r e) hI (by simpa using hl)
  rw [e]
  exact wp_ok (hQ ys h' i (by simpa using l))
end
section
variable {E : XE_} {Q : AV → AH → Prop} {h : AH}
theorem l_idxR {n : Nat} {xs : List AV} {j : Int} (e : h[n]? = some (.lst xs)) (h0 : 0 ≤ j) (h1 : j < xs.length) (k : ∀ x, xs[j.toNat]? = some x → Q x h) : wp (idxO (.ref n) (.int j) h) E Q := by
  obtain ⟨x, e1, _, e2⟩ := atI_in h0 h1
  refine wp_eq (v := x) (h := h) ?_ (k x e2)
  show (match h[n]? with | some (.lst xs) => (match atI xs j with | some x => Res.ok x h | none => .stk) | _ => .stk) = _
  rw [e]
  show (match atI xs j with | some x => Res.ok x h | none => .stk) = _
  rw [e1]
theorem l_idxL2 {xs : List AV} {j : Int} (h0 : 0 ≤ j) (h1 : j < xs.length) (k : ∀ x, xs[j.toNat]? = some x → Q x h) : wp (idxO (.lst xs) (.int j) h) E Q := by
  obtain ⟨x, e1, _, e2⟩ := atI_in h0 h1
  refine wp_eq (v := x) (h := h) ?_ (k x e2)
  show (match atI xs j with | some x => Res.ok x h | none => .stk) = _
  rw [e1]
end
theorem cut_from (xs : List AV) (c : Nat) : cutA xs (some (c : Int)) none = xs.drop c := by
  unfold cutA
  have e : HT.sIx xs.length 0 (some (c : Int)) = min c xs.length := by
    show (if (c : Int) < 0 then ((c : Int) + (xs.length : Int)).toNat else min (c : Int).toNat xs.length) = _
    rw [if_neg (by omega)]
    rfl
  rw [e]
  show (xs.drop (min c xs.length)).take (xs.length - min c xs.length) = _
  by_cases h : c ≤ xs.length
  · rw [Nat.min_eq_left h]
    exact List.take_of_length_le (by simp)
  · rw [Nat.min_eq_right (by omega), List.drop_of_length_le (Nat.le_refl _), List.drop_of_length_le (by omega)]
    simp
/-! ### rising numbers -/
theorem adj_map (f : AV → AV) : ∀ xs : List AV, adj (xs.map f) = (adj xs).map fun p => (f p.1, f p.2)
  | [] => rfl
  | [_] => rfl
  | a :: b :: r => by
    have ih := adj_map f (b :: r)
    show (f a, f b) :: adj ((b :: r).map f) = _
    rw [ih]
    rfl
theorem adj_drop : ∀ (xs : List AV) (n : Nat) (p : AV × AV), p ∈ adj (xs.drop n) → p ∈ adj xs
  | xs, 0, p, m => m
  | [], _ + 1, p, m => by simpa using m
  | [_], n + 1, p, m => by simp [adj] at m
  | a :: b :: r, n + 1, p, m => by
    have ih := adj_drop (b :: r) n p m
    show p ∈ (a, b) :: adj (b :: r)
    exact List.mem_cons_of_mem _ ih
theorem ris_drop {xs : List AV} (r : risB xs = true) (n : Nat) : risB (xs.drop n) = true := by
  unfold risB at r ⊢
  rw [List.all_eq_true] at r ⊢
  exact fun p m => r p (adj_drop xs n p m)
def plusA (m : Int) (v : AV) : AV := match v with
  | .int i => .int (i + m)
  | v => v
theorem ris_plus {xs : List AV} (h : ∀ x ∈ xs, ∃ i, x = .int i) (m : Int) (r : risB xs = true) : risB (xs.map (plusA m)) = true := by
  unfold risB at r ⊢
  rw [adj_map, List.all_map, List.all_eq_true]
  intro p hp
  obtain ⟨i, e1⟩ := h p.1 (adj_mem hp).1
  obtain ⟨j, e2⟩ := h p.2 (adj_mem hp).2
  have q := List.all_eq_true.mp r p hp
  show ltA (plusA m p.1) (plusA m p.2) = true
  rw [e1, e2] at q ⊢
  have q : decide (i < j) = true := q
  have q := of_decide_eq_true q
  exact decide_eq_true (show i + m < j + m by omega)
theorem lifeA_last (xs : List AV) : lifeA (xs.getLastD .non) = (xs.map lifeA).getLastD 0 := by
  rcases List.eq_nil_or_concat xs with rfl | ⟨l, a, rfl⟩
  · rfl
  · simp
/-- valid boxes of numbers below B -/
def VBb (B : Int) (bs : List AV) : Prop := bs.length ≤ 8 ∧ (∀ i x, bs[i]? = some x → boxB x (bs.take i) = true) ∧ ∀ b ∈ bs, GVb B 4 b
theorem VBb.like {B : Int} {bs : List AV} (V : VBb B bs) : ∀ b ∈ bs, BoxLike b := fun b hb => by
  obtain ⟨i, hi, rfl⟩ := List.mem_iff_getElem.mp hb
  exact (box_like (V.2.1 i _ (by simp [hi]))).1
theorem VBb.mono {B C : Int} (h : B ≤ C) {bs : List AV} (V : VBb B bs) : VBb C bs := ⟨V.1, V.2.1, fun b hb => (V.2.2 b hb).mono h⟩
theorem VBb.chk {B : Int} {bs : List AV} (V : VBb B bs) : chkB (.tup bs) = none := by
  show (if bs.length ≤ 8 then _ else _) = _
  rw [if_pos V.1, badIx_none V.2.1]
  rfl
theorem VBb.fine {B : Int} {bs : List AV} (V : VBb B bs) : Fine (.tup bs) := .tup (by have := V.1; omega) fun x hx => (V.2.2 x hx).fine
theorem parts_b {B : Int} {b : AV} (L : BoxLike b) (G : GVb B 4 b) : ∃ i n ls, b = .tup [.int i, .str n, .tup ls] ∧ 0 < i ∧ i < B ∧ wordS n = true ∧ ls.length ≤ 20 ∧ (∀ l ∈ ls, letterB l = true ∧ GVb B 2 l) ∧ risB (ls.map first3) = true := by
  obtain ⟨i, n, ls, rfl, i0, wn, l20, hls, hr⟩ := L
  cases G with
  | tup l a =>
    have gi := a (.int i) (by simp)
    have gl := a (.tup ls) (by simp)
    cases gi with
    | int h0 h1 =>
      cases gl with
      | tup l2 a2 => exact ⟨i, n, ls, rfl, i0, h1, wn, l20, fun l hl => ⟨List.all_eq_true.mp hls l hl, a2 l hl⟩, hr⟩
theorem parts_l {B : Int} {l : AV} (L : letterB l = true) (G : GVb B 2 l) : ∃ m b ms, l = .tup [.int m, .str b, .tup ms] ∧ 0 < m ∧ m < B ∧ wordS b = true ∧ marksB (.tup ms) = true ∧ GVb B 1 (.tup ms) := by
  obtain ⟨m, b, ms, rfl, m0, wb, h1, h2⟩ := letter_inv L
  cases G with
  | tup l a =>
    have gm := a (.int m) (by simp)
    cases gm with
    | int h0 h3 =>
      refine ⟨m, b, ms, rfl, m0, h3, wb, ?_, a (.tup ms) (by simp)⟩
      show (ms.all wordB && risB ms) = true
      rw [h1, h2]
      rfl
theorem first_ints {B : Int} {ls : List AV} (h : ∀ l ∈ ls, letterB l = true ∧ GVb B 2 l) : ∀ x ∈ ls.map first3, ∃ i, x = .int i := fun x hx => by
  obtain ⟨l, hl, rfl⟩ := List.mem_map.mp hx
  obtain ⟨m, b, ms, rfl, _⟩ := parts_l (h l hl).1 (h l hl).2
  exact ⟨m, rfl⟩
end Mo
namespace Mo
open PySem PySem.Spec PyProof.Rows L2 AM

/-! ### what is due, what is met -/
def keyV (w : Int) (b : AV) : AV := if w = 0 then namV b else lifV b
def partV (w : Int) (b : AV) : AV := if w = 0 then lifV b else if w = 1 then namV b else .tup (letV b)
def dueV (bs : List AV) (w : Int) (one two : AV) : AV := match bs.find? (fun b => atB (keyV w b) one) with
  | none => .tup [.str "box", .str (shA one)]
  | some b => if w = 3 then (match (letV b).find? (fun l => atB (numV l) two) with
    | none => .tup [.str "letter", .str (shA two)]
    | some l => .lst [.tup (resV l)]) else .lst [partV w b]
def GB (bs : List AV) : Prop := bs.length ≤ 8 ∧ ∀ b ∈ bs, BoxLike b ∧ GV 4 b
theorem idx0 {b : AV} {r : List AV} {h : AH} : idxO (.lst (b :: r)) (.int 0) h = .ok b h := by
  show (match atI (b :: r) 0 with | some x => Res.ok x h | none => .stk) = _
  obtain ⟨x, e, _, e2⟩ := atI_in (xs := b :: r) (j := 0) (by omega) (by simp)
  rw [e]
  cases (show some b = some x from e2)
  rfl
theorem eqA_nilL (xs : List AV) (a : DaD 64 (.lst xs)) : eqA (.lst xs) (.lst []) = xs.isEmpty := by
  obtain ⟨d, e, _, _⟩ := a
  unfold toD at e
  split at e
  · rename_i ds e2
    cases e
    have e3 : toD (.lst xs) = some (.list ds) := by
      unfold toD
      rw [e2]
    unfold eqA
    rw [e3]
    show PyData.eqv (.list ds) (.list []) = _
    cases xs with
    | nil =>
      cases (show some ([] : List PyData) = some ds from e2)
      simp [PyData.eqv, PyData.eqvAll]
    | cons x r =>
      cases ds with
      | nil =>
        unfold toDs at e2
        split at e2 <;> cases e2
      | cons y t => simp [PyData.eqv, PyData.eqvAll]
  · cases e
theorem box_parts {b : AV} (B : BoxLike b ∧ GV 4 b) : ∃ i n ls, b = .tup [.int i, .str n, .tup ls] ∧ 0 < i ∧ i < 10000000000 ∧ wordS n = true ∧ ls.length ≤ 20 ∧ (∀ l ∈ ls, letterB l = true ∧ GV 2 l) ∧ risB (ls.map first3) = true := by
  obtain ⟨⟨i, n, ls, rfl, i0, wn, l20, hls, hr⟩, g⟩ := B
  cases g with
  | tup l a =>
    have gi := a (.int i) (by simp)
    have gl := a (.tup ls) (by simp)
    cases gi with
    | int h0 h1 =>
      cases gl with
      | tup l2 a2 => exact ⟨i, n, ls, rfl, i0, h1, wn, l20, fun l hl => ⟨List.all_eq_true.mp hls l hl, a2 l hl⟩, hr⟩
theorem letter_parts {l : AV} (B : letterB l = true ∧ GV 2 l) : ∃ m b ms, l = .tup [.int m, .str b, .tup ms] ∧ 0 < m ∧ m < 10000000000 ∧ wordS b = true ∧ marksB (.tup ms) = true ∧ GV 1 (.tup ms) := by
  obtain ⟨m, b, ms, rfl, m0, wb, h1, h2⟩ := letter_inv B.1
  cases B.2 with
  | tup l a =>
    have gm := a (.int m) (by simp)
    cases gm with
    | int h0 h3 =>
      refine ⟨m, b, ms, rfl, m0, h3, wb, ?_, a (.tup ms) (by simp)⟩
      show (ms.all wordB && risB ms) = true
      rw [h1, h2]
      rfl
theorem key_of {w : Int} {b : AV} (B : BoxLike b ∧ GV 4 b) : (∃ i : Int, keyV w b = .int i ∧ 0 ≤ i ∧ i < 10 ^ 20) ∨ ∃ s, keyV w b = .str s ∧ plainS s = true := by
  obtain ⟨i, n, ls, rfl, i0, i1, wn, _⟩ := box_parts B
  unfold keyV
  by_cases c : w = 0
  · rw [if_pos c]
    exact .inr ⟨n, rfl, word_plain wn⟩
  · rw [if_neg c]
    exact .inl ⟨i, rfl, by omega, by omega⟩
theorem key_atom {v : AV} (k : (∃ i : Int, v = .int i ∧ 0 ≤ i ∧ i < 10 ^ 20) ∨ ∃ s, v = .str s ∧ wordS s = true) : Atom v := by
  rcases k with ⟨i, rfl, h0, h1⟩ | ⟨s, rfl, w⟩
  · exact .inl ⟨i, rfl, h0, h1⟩
  · exact .inr (.inr (.inr ⟨s, rfl, word_plain w, (wordS_len w).2, word_ok w⟩))
theorem cap82 : 82 ≤ sizeLine := by rw [sizeLine_eq]; omega
theorem head_filter {p : AV → Bool} {xs : List AV} : xs.find? p = (xs.filter p).head? := by rw [List.head?_filter]
theorem gv_da {xs : List AV} {n : Nat} (h : ∀ x ∈ xs, GV n x) (l : n + 1 ≤ 64) : DaD 64 (.lst xs) := DaD.mono (n := n + 1) (.lst fun x hx => (h x hx).da) l
theorem due_wp (k : Nat) {bs : List AV} {w : Int} {one two : AV} {h : AH} {E : XE_} {Q : AV → AH → Prop} (G : GB bs) (hw : w = 0 ∨ w = 1 ∨ w = 2 ∨ w = 3) (a1 : Atom one) (a2 : Atom two) (q : Q (dueV bs w one two) h) :
    wp (rF (k + 1) "_law_due" [.tup bs, .tup [.int w, one, two]] h) E Q := by
  rw [run__law_due]
  unfold m__law_due
  have hl := G.1
  have fsub : ∀ b ∈ bs.filter (fun b => atB (keyV w b) one), b ∈ bs := fun b hb => (List.mem_filter.mp hb).1
  have fgv : ∀ b ∈ bs.filter (fun b => atB (keyV w b) one), GV 4 b := fun b hb => (G.2 b (fsub b hb)).2
  unfold dueV at q
  rw [head_filter] at q
  have D0 : DaD 64 (.lst (bs.filter (fun b => atB (keyV w b) one))) := gv_da fgv (by omega)
  have Dn : DaD 64 (.lst []) := DaD.mono (n := 1) (.lst (by simp)) (by omega)
  w_fin
  refine comp_filter (fun b => atB (keyV w b) one) id (fun b hb => ⟨_, rfl, ?_, fun _ => ?_⟩) (fine_lt (by omega)) ?_
  · have B := G.2 b hb
    have kq := sh_eq (key_of (w := w) B) a1
    have ka : Atom (keyV w b) := by
      obtain ⟨i, n, ls, rfl, i0, i1, wn, _⟩ := box_parts B
      unfold keyV
      by_cases c : w = 0
      · rw [if_pos c]; exact key_atom (.inr ⟨n, rfl, wn⟩)
      · rw [if_neg c]; exact key_atom (.inl ⟨i, rfl, by omega, by omega⟩)
    have step : ∀ {E : XE_} {Q : AV → AH → Prop}, Q (keyV w b) h → wp (bin2 (slotM 7) (callM intF (evsN [(bin2 (slotM 4) (retM (.int 0)) eqO)])) idxO [some (.tup bs), some (.tup [.int w, one, two]), none, none, some (.int w), some one, some two, some b, none] h) E Q := by
      intro E Q q
      obtain ⟨i, n, ls, rfl, i0, i1, wn, _⟩ := box_parts B
      w_fin
      rw [show PyData.eqv (.int w) (.int 0) = decide (w = 0) from eqA_int w 0]
      rcases hw with rfl | rfl | rfl | rfl <;> (w_fin; exact q)
    refine w_tst ?_
    refine w_bin ?_
    refine w_call ?_
    refine w_cons ?_
    refine step ?_
    w_fin
    refine l_repr (n := 0) ka.rp (by omega) cap82 ?_
    w_fin
    refine l_repr (n := 0) a1.rp (by omega) cap82 ?_
    w_fin
    exact ⟨kq, rfl⟩
  · w_fin
    exact ⟨rfl, rfl⟩
  · rw [List.map_id]
    w_fin
    refine l_eq D0 Dn ?_
    rw [eqA_nilL _ D0]
    cases ef : bs.filter (fun b => atB (keyV w b) one) with
    | nil =>
      rw [ef] at q
      w_fin
      refine l_repr (n := 0) a1.rp (by omega) cap82 ?_
      w_fin
      exact q
    | cons b r =>
      rw [ef] at q fsub
      have q : Q (if w = 3 then (match (letV b).find? (fun l => atB (numV l) two) with
        | none => .tup [.str "letter", .str (shA two)]
        | some l => .lst [.tup (resV l)]) else .lst [partV w b]) h := q
      have B := G.2 b (fsub b (List.mem_cons_self ..))
      obtain ⟨i, n, ls, rfl, i0, i1, wn, l20, hls, _⟩ := box_parts B
      w_fin
      refine br_dec (fun c => ?_) fun c => ?_
      · rw [if_neg (by omega)] at q
        w_fin
        refine wp_eq idx0 ?_
        rcases hw with rfl | rfl | rfl | rfl
        · w_fin
          exact q
        · w_fin
          exact q
        · w_fin
          exact q
        · omega
      · have w3 : w = 3 := by omega
        rw [if_pos w3] at q
        w_fin
        refine wp_eq idx0 ?_
        w_fin
        refine comp_filter (fun l => atB (numV l) two) id (fun l hl => ⟨_, rfl, ?_, fun _ => ?_⟩) (fine_lt (by omega)) ?_
        · obtain ⟨m, bd, ms, rfl, m0, m1, wb, _, _⟩ := letter_parts (hls l hl)
          w_fin
          refine l_repr (n := 0) ((RpD.int (by omega) (by omega)).mono (M := 82) (Nat.le_refl _) (by omega)) (by omega) cap82 ?_
          w_fin
          refine l_repr (n := 0) a2.rp (by omega) cap82 ?_
          w_fin
          exact ⟨sh_eq (.inl ⟨m, rfl, by omega, by omega⟩) a2, rfl⟩
        · w_fin
          exact ⟨rfl, rfl⟩
        · rw [List.map_id]
          have q : Q (match ls.find? (fun l => atB (numV l) two) with
            | none => .tup [.str "letter", .str (shA two)]
            | some l => .lst [.tup (resV l)]) h := q
          rw [head_filter] at q
          have lsub : ∀ l ∈ ls.filter (fun l => atB (numV l) two), l ∈ ls := fun l hl => (List.mem_filter.mp hl).1
          have D1 : DaD 64 (.lst (ls.filter (fun l => atB (numV l) two))) := gv_da (n := 2) (fun l hl => (hls l (lsub l hl)).2) (by omega)
          w_fin
          refine l_ne D1 Dn ?_
          rw [eqA_nilL _ D1]
          cases eg : ls.filter (fun l => atB (numV l) two) with
          | nil =>
            rw [eg] at q
            w_fin
            refine l_repr (n := 0) a2.rp (by omega) cap82 ?_
            w_fin
            exact q
          | cons l t =>
            rw [eg] at q lsub
            obtain ⟨m, bd, ms, rfl, m0, m1, wb, _, _⟩ := letter_parts (hls l (lsub l (List.mem_cons_self ..)))
            w_fin
            refine wp_eq idx0 ?_
            w_fin
            exact q
theorem met_wp (k : Nat) {s : Nat} {bs : List AV} {w : Int} {one two : AV} {h : AH} {E : XE_} {Q : AV → AH → Prop} (K : Kept s bs h) (hw : w = 0 ∨ w = 1 ∨ w = 2 ∨ w = 3) (a1 : Atom one) (a2 : Atom two) (q : Q (dueV bs w one two) h) :
    wp (rF (k + 5) "_law_met" [.ref s, .tup [.int w, one, two]] h) E Q := by
  rw [run__law_met]
  unfold m__law_met
  w_fin
  have g0 : EXM "NoBox" "GoneError" = some true := by decide +kernel
  have g1 : EXM "NoLetter" "GoneError" = some true := by decide +kernel
  unfold dueV at q
  rcases hw with rfl | rfl | rfl | rfl
  · w_fin
    refine mthK (kn := ("State.life_of", 1)) K.1 (by decide +kernel) rfl rfl ?_
    w_fin
    refine life_of_wp (k + 1) K a1 ?_
    cases e : bs.find? (fun b => atB (namV b) one) with
    | none =>
      have q : Q (match bs.find? (fun b => atB (namV b) one) with
        | none => .tup [.str "box", .str (shA one)]
        | some b => .lst [lifV b]) h := q
      rw [e] at q
      refine someK g0 ?_
      w_fin
      refine fldX (by decide +kernel) rfl ?_
      w_fin
      refine l_repr (n := 0) a1.rp (by omega) cap82 ?_
      w_fin
      exact q
    | some b =>
      have q : Q (match bs.find? (fun b => atB (namV b) one) with
        | none => .tup [.str "box", .str (shA one)]
        | some b => .lst [lifV b]) h := q
      rw [e] at q
      w_fin
      exact q
  · w_fin
    refine mthK (kn := ("State.name_of", 1)) K.1 (by decide +kernel) rfl rfl ?_
    w_fin
    refine name_of_wp k K a1 ?_
    cases e : bs.find? (fun b => atB (lifV b) one) with
    | none =>
      have q : Q (match bs.find? (fun b => atB (lifV b) one) with
        | none => .tup [.str "box", .str (shA one)]
        | some b => .lst [namV b]) h := q
      rw [e] at q
      refine someK g0 ?_
      w_fin
      refine fldX (by decide +kernel) rfl ?_
      w_fin
      refine l_repr (n := 0) a1.rp (by omega) cap82 ?_
      w_fin
      exact q
    | some b =>
      have q : Q (match bs.find? (fun b => atB (lifV b) one) with
        | none => .tup [.str "box", .str (shA one)]
        | some b => .lst [namV b]) h := q
      rw [e] at q
      w_fin
      exact q
  · w_fin
    refine mthK (kn := ("State.letters", 1)) K.1 (by decide +kernel) rfl rfl ?_
    w_fin
    refine letters_wp k K a1 ?_
    cases e : bs.find? (fun b => atB (lifV b) one) with
    | none =>
      have q : Q (match bs.find? (fun b => atB (lifV b) one) with
        | none => .tup [.str "box", .str (shA one)]
        | some b => .lst [.tup (letV b)]) h := q
      rw [e] at q
      refine someK g0 ?_
      w_fin
      refine fldX (by decide +kernel) rfl ?_
      w_fin
      refine l_repr (n := 0) a1.rp (by omega) cap82 ?_
      w_fin
      exact q
    | some b =>
      have q : Q (match bs.find? (fun b => atB (lifV b) one) with
        | none => .tup [.str "box", .str (shA one)]
        | some b => .lst [.tup (letV b)]) h := q
      rw [e] at q
      w_fin
      exact q
  · w_fin
    refine mthK (kn := ("State.letter_at", 2)) K.1 (by decide +kernel) rfl rfl ?_
    w_fin
    refine letter_at_wp k K a1 a2 ?_
    cases e : bs.find? (fun b => atB (lifV b) one) with
    | none =>
      have q : Q (match bs.find? (fun b => atB (lifV b) one) with
        | none => .tup [.str "box", .str (shA one)]
        | some b => (match (letV b).find? (fun l => atB (numV l) two) with
          | none => .tup [.str "letter", .str (shA two)]
          | some l => .lst [.tup (resV l)])) h := q
      rw [e] at q
      refine someK g0 ?_
      w_fin
      refine fldX (by decide +kernel) rfl ?_
      w_fin
      refine l_repr (n := 0) a1.rp (by omega) cap82 ?_
      w_fin
      exact q
    | some b =>
      have q : Q (match bs.find? (fun b => atB (lifV b) one) with
        | none => .tup [.str "box", .str (shA one)]
        | some b => (match (letV b).find? (fun l => atB (numV l) two) with
          | none => .tup [.str "letter", .str (shA two)]
          | some l => .lst [.tup (resV l)])) h := q
      rw [e] at q
      cases f : (letV b).find? (fun l => atB (numV l) two) with
      | none =>
        have q : Q (match (letV b).find? (fun l => atB (numV l) two) with
          | none => .tup [.str "letter", .str (shA two)]
          | some l => .lst [.tup (resV l)]) h := q
        rw [f] at q
        simp only [f]
        refine someK g1 ?_
        w_fin
        refine fldX (by decide +kernel) rfl ?_
        w_fin
        refine l_repr (n := 0) a2.rp (by omega) cap82 ?_
        w_fin
        exact q
      | some l =>
        have q : Q (match (letV b).find? (fun l => atB (numV l) two) with
          | none => .tup [.str "letter", .str (shA two)]
          | some l => .lst [.tup (resV l)]) h := q
        rw [f] at q
        simp only [f]
        w_fin
        exact q
end Mo
namespace Mo
open PySem PySem.Spec PyProof.Rows L2 AM

/-! ### the other boxes -/
theorem other_wp (k : Nat) {p : Nat} {bs : List AV} {h : AH} {E : XE_} {Q : AV → AH → Prop} (hp : Pool p h) (V : VBb 100 bs) (q : ∀ (cs : List AV) (h' : AH), VBb 101 cs → Pool p h' → Fr p h h' → Q (.tup cs) h') : wp (rF (k + 3) "_law_other" [.ref p, .tup bs] h) E Q := by
  rw [run__law_other]
  unfold m__law_other
  have l8 := V.1
  w_fin
  refine words_wp k hp (by omega) (by omega) fun ws r h1 e1 r1 lw hw nd p1 f1 => ?_
  w_fin
  have hpl := hp.lt
  have ltr := (List.getElem?_eq_some_iff.mp e1).1
  have hh1 := f1.1
  have lws : ws.length = bs.length := by omega
  have p2 : Pool p (h1 ++ [.lst []]) := p1.push
  have f2 : Fr p h (h1 ++ [.lst []]) := f1.trans Fr.push
  have e2 : (h1 ++ [AO.lst []])[r]? = some (.lst (ws.map .str)) := by rw [List.getElem?_append_left ltr]; exact e1
  have e3 : (h1 ++ [AO.lst []])[h1.length]? = some (.lst []) := by simp
  have rp : r ≠ p := by omega
  have fp : h1.length ≠ p := by omega
  have rf : r ≠ h1.length := by omega
  refine l_range (by omega) ?_
  refine for_inv (fun j ρ h' => ∃ (cs : List AV) (x2 x5 x6 x7 x8 x9 x10 : Option AV), ρ = [some (.ref p), some (.tup bs), x2, some (.ref r), some (.ref h1.length), x5, x6, x7, x8, x9, x10] ∧ h'[r]? = some (.lst (ws.map .str)) ∧ h'[h1.length]? = some (.lst cs) ∧
      cs.map nameA = ws.take j ∧ cs.map lifeA = (bs.take j).map lifeA ∧ (∀ i x, cs[i]? = some x → boxB x (cs.take i) = true) ∧ (∀ b ∈ cs, GVb 101 4 b) ∧ j ≤ bs.length ∧ Pool p h' ∧ Fr p h h') _ 0 _ _ (fun j a ha ρ h4 hI => ?_) ⟨[], _, _, _, _, _, _, _, rfl, e2, e3, rfl, rfl, by simp, by simp, by omega, p2, f2⟩ fun ρ h4 hI => ?_
  · obtain ⟨cs, x2, x5, x6, x7, x8, x9, x10, rfl, e4, e5, hn, hf, hb, hg, hj, p4, f4⟩ := hI
    obtain ⟨hj2, rfl⟩ := ranges_get ha
    rw [Nat.zero_add] at hn hf hj ⊢
    have hjl : j < bs.length := by omega
    have e0 : bs[j]? = some bs[j] := List.getElem?_eq_getElem hjl
    have B0 := V.2.1 j _ e0
    have m0 : bs[j] ∈ bs := List.getElem_mem hjl
    have lcs : cs.length = j := by
      have := congrArg List.length hn
      simp at this
      omega
    obtain ⟨i, n, ls, eb, i0, i1, wn, l20, hls, hr⟩ := parts_b (V.like _ m0) (V.2.2 _ m0)
    have hwj : j < ws.length := by omega
    have wj : wordS ws[j] = true := hw _ (List.getElem_mem hwj)
    refine ⟨_, rfl, ?_⟩
    w_fin
    refine l_idxT (by omega) (by omega) fun x hx => ?_
    have hx2 : x = .tup [.int i, .str n, .tup ls] := by
      have : (0 + (j : Int)).toNat = j := by omega
      rw [this, e0, eb] at hx
      exact (Option.some.inj hx).symm
    subst hx2
    have lt4 := (List.getElem?_eq_some_iff.mp e4).1
    have lt5 := (List.getElem?_eq_some_iff.mp e5).1
    w_fin
    refine take_wp p4 (by decide) (by decide) fun d h5 d0 d1 p5 f5 l5 => ?_
    w_fin
    have e4a : h5[r]? = some (.lst (ws.map .str)) := by rw [f5.2 r rp lt4]; exact e4
    have e5a : h5[h1.length]? = some (.lst cs) := by rw [f5.2 _ fp lt5]; exact e5
    have f5b : Fr p h h5 := f4.trans f5
    refine comp_pre (fun pre acc h' => acc.map first3 = (pre.map first3).map (plusA d) ∧ (∀ l ∈ acc, letterB l = true ∧ GVb 101 2 l) ∧ Pool p h' ∧ Fr p h5 h' ∧ h'.length = h5.length) (fun pre l rest el acc h6 hI => ?_) ⟨rfl, by simp, p5, Fr.refl, rfl⟩ (fine_lt (by omega)) fun ys h6 hI ly => ?_
    · obtain ⟨hm, hl, p6, f6, l6⟩ := hI
      have ml : l ∈ ls := by rw [el]; simp
      obtain ⟨m, bd, ms, rfl, m0, m1, wb, hms, _⟩ := parts_l (hls l ml).1 (hls l ml).2
      refine ⟨_, rfl, ?_⟩
      w_fin
      refine marks_wp k p6 fun ms2 h7 hms2 lms p7 f7 l7 => ?_
      w_fin
      refine ⟨by rw [List.map_append, List.map_append, List.map_append, hm]; rfl, fun x hx => ?_, p7, f6.trans f7, by omega⟩
      rcases List.mem_append.mp hx with hx | hx
      · exact hl x hx
      · obtain rfl := List.mem_singleton.mp hx
        refine ⟨?_, .tup (by simp) fun y hy => ?_⟩
        · show (decide (0 < m + d) && (wordS bd && marksB (.tup ms2))) = true
          rw [hms2, wb, decide_eq_true (by omega)]
          rfl
        · simp only [List.mem_cons, List.not_mem_nil, or_false] at hy
          rcases hy with rfl | rfl | rfl
          · exact .int (by omega) (by omega)
          · exact .str wb
          · exact .marks hms2 lms
    · obtain ⟨hm, hl, p6, f6, l6⟩ := hI
      w_fin
      have e4b : h6[r]? = some (.lst (ws.map .str)) := by rw [f6.2 r rp (by have := f5.1; omega)]; exact e4a
      have e5b : h6[h1.length]? = some (.lst cs) := by rw [f6.2 _ fp (by have := f5.1; omega)]; exact e5a
      refine lstAt e5b ?_
      w_fin
      refine l_idxR e4b (by omega) (by simp; omega) fun x hx => ?_
      have hx2 : x = .str ws[j] := by
        have : (0 + (j : Int)).toNat = j := by omega
        rw [this, List.getElem?_map, List.getElem?_eq_getElem hwj] at hx
        exact (Option.some.inj hx).symm
      subst hx2
      w_fin
      refine take_wp p6 (by decide) (by decide) fun c h7 c0 c1 p7 f7 l7 => ?_
      w_fin
      obtain ⟨cn, rfl⟩ := Int.eq_ofNat_of_zero_le c0
      simp only [cut_from]
      have e5c : h7[h1.length]? = some (.lst cs) := by rw [f7.2 _ fp (by have := f5.1; omega)]; exact e5b
      have e4c : h7[r]? = some (.lst (ws.map .str)) := by rw [f7.2 r rp (by have := f5.1; omega)]; exact e4b
      refine appK e5c (Nat.lt_of_lt_of_le (show cs.length < 1000 by omega) (fine_lt (Nat.le_refl _))) ?_
      w_fin
      have hr2 : risB (ys.map first3) = true := by
        rw [hm]
        exact ris_plus (first_ints hls) d hr
      have gd : ∀ l ∈ ys.drop cn, letterB l = true ∧ GVb 101 2 l := fun l hl' => hl l (List.mem_of_mem_drop hl')
      have nb : boxB (.tup [.int i, .str ws[j], .tup (ys.drop cn)]) cs = true := by
        show (decide (0 < i) && (wordS ws[j] && ((decide ((ys.drop cn).length ≤ 20) && ((ys.drop cn).all letterB && risB ((ys.drop cn).map first3))) && (!decide (ws[j] ∈ cs.map nameA) && (cs.isEmpty || decide (lifeA (cs.getLastD .non) < i)))))) = true
        have fresh : ws[j] ∉ cs.map nameA := by
          rw [hn]
          intro z
          obtain ⟨t, ht, et⟩ := List.mem_iff_getElem.mp z
          rw [List.getElem_take] at et
          have := (List.getElem_inj nd).mp et
          rw [List.length_take] at ht
          omega
        rw [decide_eq_true i0, wj, decide_eq_true (by rw [List.length_drop]; omega), List.all_eq_true.mpr fun l hl' => (gd l hl').1, List.map_drop, ris_drop hr2 cn, decide_eq_false fresh]
        rcases (box_like B0).2.2 with e | e
        · have : cs = [] := by
            have l0 : j = 0 := by
              have := congrArg List.length e
              simp at this
              rcases this with z | z
              · exact z
              · rw [z] at hjl; simp at hjl
            exact List.length_eq_zero_iff.mp (by omega)
          rw [this]
          rfl
        · have e6 : lifeA (cs.getLastD .non) < i := by
            rw [lifeA_last, hf, ← lifeA_last]
            rw [eb] at e
            exact e
          rw [decide_eq_true e6]
          simp
      refine ⟨cs ++ [.tup [.int i, .str ws[j], .tup (ys.drop cn)]], _, _, _, _, _, _, _, rfl, by rw [List.getElem?_set_ne (Ne.symm rf)]; exact e4c, by rw [List.getElem?_set_self (List.getElem?_eq_some_iff.mp e5c).1], ?_, ?_, fun t x hx => ?_, fun b hb' => ?_, by omega, p7.setNe fp, ?_⟩
      · rw [List.map_append, hn, List.take_add_one, List.getElem?_eq_getElem hwj]
        rfl
      · rw [List.map_append, hf, List.take_add_one, e0, List.map_append, eb]
        rfl
      · by_cases hi : t < cs.length
        · rw [List.getElem?_append_left hi] at hx
          rw [List.take_append_of_le_length (by omega)]
          exact hb t x hx
        · have hi2 : t = cs.length := by
            have := (List.getElem?_eq_some_iff.mp hx).1
            simp at this
            omega
          subst hi2
          simp at hx
          subst hx
          rw [List.take_left' rfl]
          exact nb
      · rcases List.mem_append.mp hb' with hb' | hb'
        · exact hg b hb'
        · obtain rfl := List.mem_singleton.mp hb'
          refine .tup (by simp) fun y hy => ?_
          simp only [List.mem_cons, List.not_mem_nil, or_false] at hy
          rcases hy with rfl | rfl | rfl
          · exact .int (by omega) (by omega)
          · exact .str wj
          · exact .tup (by rw [List.length_drop]; omega) fun l hl' => (gd l hl').2
      · have ff := ((f4.trans f5).trans f6).trans f7
        exact ⟨by simpa using ff.1, fun t ht hl' => by rw [List.getElem?_set_ne (by omega)]; exact ff.2 t ht hl'⟩
  · obtain ⟨cs, x2, x5, x6, x7, x8, x9, x10, rfl, e4, e5, hn, hf, hb, hg, hj, p4, f4⟩ := hI
    w_fin
    refine l_tupR e5 ?_
    refine q cs _ ⟨?_, hb, hg⟩ p4 f4
    have := congrArg List.length hn
    simp at this
    omega
end Mo
namespace Mo
open PySem PySem.Spec PyProof.Rows L2 AM

theorem l_lmul {xs : List AV} {n : Int} {h : AH} {E : XE_} {Q : AV → AH → Prop} (l : xs.length ≤ 1000) (n0 : 0 ≤ n) (n1 : n ≤ 1000) (q : Q (.lst (List.replicate n.toNat xs).flatten) h) : wp (mulO (.lst xs) (.int n) h) E Q := wp_eq (v := .lst (List.replicate n.toNat xs).flatten) (h := h) (by
  show (if xs.length ≤ 1000 ∧ 0 ≤ n ∧ n ≤ 1000 then Res.ok (AV.lst (List.replicate n.toNat xs).flatten) h else .stk) = _
  rw [if_pos ⟨l, n0, n1⟩]) q
/-- boxes of either State -/
def MB (bs : List AV) : Prop := bs.length ≤ 16 ∧ ∀ b ∈ bs, BoxLike b ∧ GVb 101 4 b
theorem numbers_wp (k : Nat) {bs : List AV} {h : AH} {E : XE_} {Q : AV → AH → Prop} (M : MB bs) (q : ∀ xs : List AV, (∀ x ∈ xs, Atom x) → 7 ≤ xs.length → xs.length ≤ 400 → Q (.lst xs) h) : wp (rF (k + 1) "_law_numbers" [.tup bs] h) E Q := by
  rw [run__law_numbers]
  unfold m__law_numbers
  have l16 := M.1
  w_fin
  refine for_inv (fun j ρ h' => h' = h ∧ j ≤ bs.length ∧ ∃ (xs : List AV) (x2 x3 x4 x5 : Option AV), ρ = [some (.tup bs), some (.lst xs), x2, x3, x4, x5] ∧ (∀ x ∈ xs, Atom x) ∧ 7 ≤ xs.length ∧ xs.length ≤ 7 + 20 * j) _ 0 _ _ (fun j b hb ρ h' hI => ?_) ⟨rfl, by omega, _, _, _, _, _, rfl, fun x hx => ?_, by simp, by simp⟩ fun ρ h' hI => ?_
  · obtain ⟨rfl, hj, xs, x2, x3, x4, x5, rfl, ha, l7, ll⟩ := hI
    have hjl : j < bs.length := (List.getElem?_eq_some_iff.mp hb).1
    have mb : b ∈ bs := List.mem_of_getElem? hb
    obtain ⟨i, n, ls, rfl, i0, i1, wn, l20, hls, _⟩ := parts_b (M.2 b mb).1 (M.2 b mb).2
    refine ⟨_, rfl, ?_⟩
    w_fin
    refine comp_map numV (fun l hl => ⟨_, rfl, ?_⟩) (fine_lt (by omega)) ?_
    · obtain ⟨m, bd, ms, rfl, m0, m1, wb, _, _⟩ := parts_l (hls l hl).1 (hls l hl).2
      w_fin
      exact ⟨rfl, rfl⟩
    · w_fin
      refine l_ladd (by rw [List.length_map]; omega) ?_
      w_fin
      refine ⟨rfl, by omega, _, _, _, _, _, rfl, fun x hx => ?_, by simp; omega, by simp; omega⟩
      rcases List.mem_append.mp hx with hx | hx
      · obtain ⟨l, hl, rfl⟩ := List.mem_map.mp hx
        obtain ⟨m, bd, ms, rfl, m0, m1, wb, _, _⟩ := parts_l (hls l hl).1 (hls l hl).2
        exact .inl ⟨m, rfl, by omega, by omega⟩
      · exact ha x hx
  · simp only [List.mem_cons, List.not_mem_nil, or_false] at hx
    rcases hx with rfl | rfl | rfl | rfl | rfl | rfl | rfl
    · exact .inl ⟨0, rfl, by omega, by omega⟩
    · exact .inl ⟨1, rfl, by omega, by omega⟩
    · exact .inr (.inr (.inl ⟨true, rfl⟩))
    · exact .inl ⟨2, rfl, by omega, by omega⟩
    · exact .inl ⟨9, rfl, by omega, by omega⟩
    · exact .inr (.inl rfl)
    · exact .inr (.inr (.inr ⟨"1", rfl, by decide +kernel, by decide +kernel, by decide +kernel⟩))
  · obtain ⟨rfl, hj, xs, x2, x3, x4, x5, rfl, ha, l7, ll⟩ := hI
    w_fin
    exact q xs ha l7 (by omega)
def Quest (v : AV) : Prop := ∃ w one two, v = .tup [.int w, one, two] ∧ (w = 0 ∨ w = 1 ∨ w = 2 ∨ w = 3) ∧ Atom one ∧ Atom two
theorem at_int {i : Int} (h0 : 0 ≤ i) (h1 : i < 100) : Atom (.int i) := .inl ⟨i, rfl, h0, by omega⟩
theorem questions_wp (k : Nat) {p : Nat} {bs cs : List AV} {h : AH} {E : XE_} {Q : AV → AH → Prop} (hp : Pool p h) (M : MB (bs ++ cs)) (q : ∀ (qs : List AV) (r : Nat) (h' : AH), h'[r]? = some (.lst qs) → h.length ≤ r → qs.length ≤ 45 → (∀ v ∈ qs, Quest v) → Pool p h' → Fr p h h' → Q (.ref r) h') :
    wp (rF (k + 2) "_law_questions" [.ref p, .tup bs, .tup cs] h) E Q := by
  rw [run__law_questions]
  unfold m__law_questions
  have l16 := M.1
  have lsum : bs.length + cs.length ≤ 16 := by simpa using l16
  w_fin
  refine l_tadd (by omega) ?_
  w_fin
  refine comp_map lifV (fun b hb => ⟨_, rfl, ?_⟩) (fine_lt (by omega)) ?_
  · obtain ⟨i, n, ls, rfl, _⟩ := parts_b (M.2 b hb).1 (M.2 b hb).2
    w_fin
    exact ⟨rfl, rfl⟩
  w_fin
  refine l_lmul (by rw [List.length_map]; omega) (by omega) (by omega) ?_
  w_fin
  refine l_ladd (by simp; omega) ?_
  w_fin
  refine l_tadd (by omega) ?_
  w_fin
  refine comp_map namV (fun b hb => ⟨_, rfl, ?_⟩) (fine_lt (by omega)) ?_
  · obtain ⟨i, n, ls, rfl, _⟩ := parts_b (M.2 b hb).1 (M.2 b hb).2
    w_fin
    exact ⟨rfl, rfl⟩
  w_fin
  refine l_lmul (by rw [List.length_map]; omega) (by omega) (by omega) ?_
  w_fin
  refine l_ladd (by simp; omega) ?_
  w_fin
  refine l_tadd (by omega) ?_
  w_fin
  refine numbers_wp k M fun ns hns n7 n400 => ?_
  w_fin
  generalize hL : (List.replicate (Int.toNat 2) ((bs ++ cs).map lifV)).flatten ++ [AV.int 0, .int 1, .int 9, .non, .str "a"] = Ls
  generalize hN : (List.replicate (Int.toNat 2) ((bs ++ cs).map namV)).flatten ++ [AV.str "a", .str "zzzzzzzz", .int 1, .non] = Ns
  have aL : ∀ x ∈ Ls, Atom x := by
    rw [← hL]
    intro x hx
    rcases List.mem_append.mp hx with hx | hx
    · obtain ⟨l, hl, hx⟩ := List.mem_flatten.mp hx
      obtain rfl := (List.mem_replicate.mp hl).2
      obtain ⟨b, hb, rfl⟩ := List.mem_map.mp hx
      obtain ⟨i, n, ls, rfl, i0, i1, _⟩ := parts_b (M.2 b hb).1 (M.2 b hb).2
      exact .inl ⟨i, rfl, by omega, by omega⟩
    · simp only [List.mem_cons, List.not_mem_nil, or_false] at hx
      rcases hx with rfl | rfl | rfl | rfl | rfl
      · exact at_int (by omega) (by omega)
      · exact at_int (by omega) (by omega)
      · exact at_int (by omega) (by omega)
      · exact .inr (.inl rfl)
      · exact key_atom (.inr ⟨_, rfl, by decide +kernel⟩)
  have aN : ∀ x ∈ Ns, Atom x := by
    rw [← hN]
    intro x hx
    rcases List.mem_append.mp hx with hx | hx
    · obtain ⟨l, hl, hx⟩ := List.mem_flatten.mp hx
      obtain rfl := (List.mem_replicate.mp hl).2
      obtain ⟨b, hb, rfl⟩ := List.mem_map.mp hx
      obtain ⟨i, n, ls, rfl, i0, i1, wn, _⟩ := parts_b (M.2 b hb).1 (M.2 b hb).2
      exact key_atom (.inr ⟨n, rfl, wn⟩)
    · simp only [List.mem_cons, List.not_mem_nil, or_false] at hx
      rcases hx with rfl | rfl | rfl | rfl
      · exact key_atom (.inr ⟨_, rfl, by decide +kernel⟩)
      · exact key_atom (.inr ⟨_, rfl, by decide +kernel⟩)
      · exact at_int (by omega) (by omega)
      · exact .inr (.inl rfl)
  have lL : 5 ≤ Ls.length ∧ Ls.length ≤ 100 := by rw [← hL]; simp; omega
  have lN : 4 ≤ Ns.length ∧ Ns.length ≤ 100 := by rw [← hN]; simp; omega
  have fp : h.length ≠ p := by have := hp.lt; omega
  refine l_range (by omega) ?_
  refine for_inv (fun j ρ h' => ∃ (qs : List AV) (x5 x8 x9 x10 : Option AV), ρ = [some (.ref p), some (.tup bs), some (.tup cs), some (.lst Ls), some (.lst Ns), x5, some (.lst ns), some (.ref h.length), x8, x9, x10] ∧ h'[h.length]? = some (.lst qs) ∧ (∀ v ∈ qs, Quest v) ∧ qs.length = 5 + j ∧ Pool p h' ∧ Fr p h h') _ 0 _ _ (fun j a ha ρ h4 hI => ?_)
    ⟨[.tup [.int 1, .int 1, .int 0], .tup [.int 1, .bl true, .int 0], .tup [.int 3, .int 1, .int 1], .tup [.int 3, .int 1, .bl true], .tup [.int 3, .bl true, .int 1]], _, _, _, _, rfl, by simp, fun v hv => ?_, rfl, hp.push, Fr.push⟩ fun ρ h4 hI => ?_
  · obtain ⟨qs, x5, x8, x9, x10, rfl, e4, hq, lq, p4, f4⟩ := hI
    obtain ⟨hj, rfl⟩ := ranges_get ha
    have lt4 := (List.getElem?_eq_some_iff.mp e4).1
    refine ⟨_, rfl, ?_⟩
    w_fin
    refine take_wp p4 (by decide) (by decide) fun w h5 w0 w1 p5 f5 l5 => ?_
    w_fin
    have hw : w = 0 ∨ w = 1 ∨ w = 2 ∨ w = 3 := by omega
    refine br_c (fun _ => ?_) fun _ => ?_
    · w_fin
      refine take_wp p5 (by omega) (by omega) fun n h6 n0 n1 p6 f6 l6 => ?_
      w_fin
      refine l_idxL2 (by omega) (by omega) fun x hx => ?_
      have ax := aN x (List.mem_of_getElem? hx)
      have e6 : h6[h.length]? = some (.lst qs) := by rw [f6.2 _ fp (by omega), f5.2 _ fp lt4]; exact e4
      w_fin
      refine lstAt e6 ?_
      w_fin
      refine take_wp p6 (by omega) (by omega) fun t h7 t0 t1 p7 f7 l7 => ?_
      w_fin
      refine l_idxL2 (by omega) (by omega) fun y hy => ?_
      have ay := hns y (List.mem_of_getElem? hy)
      have e7 : h7[h.length]? = some (.lst qs) := by rw [f7.2 _ fp (by omega)]; exact e6
      w_fin
      refine appK e7 (Nat.lt_of_lt_of_le (show qs.length < 1000 by omega) (fine_lt (Nat.le_refl _))) ?_
      w_fin
      refine ⟨qs ++ [.tup [.int w, x, y]], _, _, _, _, rfl, by rw [List.getElem?_set_self (List.getElem?_eq_some_iff.mp e7).1], fun v hv => ?_, by simp; omega, p7.setNe fp, ?_⟩
      · rcases List.mem_append.mp hv with hv | hv
        · exact hq v hv
        · obtain rfl := List.mem_singleton.mp hv
          exact ⟨w, x, y, rfl, hw, ax, ay⟩
      · have ff := ((f4.trans f5).trans f6).trans f7
        exact ⟨by simpa using ff.1, fun t ht hl' => by rw [List.getElem?_set_ne (by omega)]; exact ff.2 t ht hl'⟩
    · w_fin
      refine take_wp p5 (by omega) (by omega) fun n h6 n0 n1 p6 f6 l6 => ?_
      w_fin
      refine l_idxL2 (by omega) (by omega) fun x hx => ?_
      have ax := aL x (List.mem_of_getElem? hx)
      have e6 : h6[h.length]? = some (.lst qs) := by rw [f6.2 _ fp (by omega), f5.2 _ fp lt4]; exact e4
      w_fin
      refine lstAt e6 ?_
      w_fin
      refine take_wp p6 (by omega) (by omega) fun t h7 t0 t1 p7 f7 l7 => ?_
      w_fin
      refine l_idxL2 (by omega) (by omega) fun y hy => ?_
      have ay := hns y (List.mem_of_getElem? hy)
      have e7 : h7[h.length]? = some (.lst qs) := by rw [f7.2 _ fp (by omega)]; exact e6
      w_fin
      refine appK e7 (Nat.lt_of_lt_of_le (show qs.length < 1000 by omega) (fine_lt (Nat.le_refl _))) ?_
      w_fin
      refine ⟨qs ++ [.tup [.int w, x, y]], _, _, _, _, rfl, by rw [List.getElem?_set_self (List.getElem?_eq_some_iff.mp e7).1], fun v hv => ?_, by simp; omega, p7.setNe fp, ?_⟩
      · rcases List.mem_append.mp hv with hv | hv
        · exact hq v hv
        · obtain rfl := List.mem_singleton.mp hv
          exact ⟨w, x, y, rfl, hw, ax, ay⟩
      · have ff := ((f4.trans f5).trans f6).trans f7
        exact ⟨by simpa using ff.1, fun t ht hl' => by rw [List.getElem?_set_ne (by omega)]; exact ff.2 t ht hl'⟩
  · simp only [List.mem_cons, List.not_mem_nil, or_false] at hv
    rcases hv with rfl | rfl | rfl | rfl | rfl
    · exact ⟨1, _, _, rfl, by omega, at_int (by omega) (by omega), at_int (by omega) (by omega)⟩
    · exact ⟨1, _, _, rfl, by omega, .inr (.inr (.inl ⟨true, rfl⟩)), at_int (by omega) (by omega)⟩
    · exact ⟨3, _, _, rfl, by omega, at_int (by omega) (by omega), at_int (by omega) (by omega)⟩
    · exact ⟨3, _, _, rfl, by omega, at_int (by omega) (by omega), .inr (.inr (.inl ⟨true, rfl⟩))⟩
    · exact ⟨3, _, _, rfl, by omega, .inr (.inr (.inl ⟨true, rfl⟩)), at_int (by omega) (by omega)⟩
  · obtain ⟨qs, x5, x8, x9, x10, rfl, e4, hq, lq, p4, f4⟩ := hI
    rw [ranges_length] at lq
    w_fin
    exact q qs _ _ e4 (Nat.le_refl _) (by simp at lq; omega) hq p4 f4
end Mo
namespace Mo
open PySem PySem.Spec PyProof.Rows L2 AM

/-! ### what is told can be shown -/
def gvL : Nat → Nat
  | 0 => 82
  | n + 1 => 20 * (gvL n + 2) + 3
theorem gvL_ge : ∀ n, 82 ≤ gvL n
  | 0 => Nat.le_refl _
  | n + 1 => by
    have := gvL_ge n
    show 82 ≤ 20 * (gvL n + 2) + 3
    omega
theorem gv_rp {B : Int} (hB : B ≤ 10 ^ 20) : ∀ {n : Nat} {v : AV}, GVb B n v → RpD n (gvL n) v
  | n, _, .int a b => (RpD.int a (by omega)).mono (Nat.le_refl _) (by have := gvL_ge n; omega)
  | n, _, .str (s := s) w => (RpD.str (word_ok w) (plain_low (word_plain w))).mono (Nat.le_refl _) (by have := gvL_ge n; have := (wordS_len w).2; omega)
  | n + 1, _, .tup l a => RpD.tup (fun x hx => gv_rp hB (a x hx)) l
theorem sh_low {v : AV} (a : Atom v) : ∀ c ∈ (shA v).cps.toList, c < 128 := by
  rcases a with ⟨i, rfl, h0, h1⟩ | rfl | ⟨b, rfl⟩ | ⟨s, rfl, p, l, o⟩
  · obtain ⟨m, rfl⟩ := Int.eq_ofNat_of_zero_le h0
    intro c hc
    have e : (shA (.int (m : Int))).cps.toList = TL.numL m := by rw [sh_int]; exact num_tl m
    rw [e] at hc
    have := TL.numL_digits m c hc
    omega
  · intro c hc
    have e : (shA .non).cps.toList = [78, 111, 110, 101] := by simp [shA, toD, PyData.shown]; rfl
    rw [e] at hc
    simp at hc
    omega
  · intro c hc
    cases b
    · have e : (shA (.bl false)).cps.toList = [70, 97, 108, 115, 101] := by simp [shA, toD, PyData.shown]; rfl
      rw [e] at hc
      simp at hc
      omega
    · have e : (shA (.bl true)).cps.toList = [84, 114, 117, 101] := by simp [shA, toD, PyData.shown]; rfl
      rw [e] at hc
      simp at hc
      omega
  · intro c hc
    rw [sh_str, repr_plain p] at hc
    rcases List.mem_cons.mp hc with rfl | hc
    · decide
    · rcases List.mem_append.mp hc with hc | hc
      · exact plain_low p c hc
      · simp at hc
        omega
theorem low_ok {s : PySem.Str} (h : ∀ c ∈ s.cps.toList, c < 128) : PyData.strOk s = true := by
  unfold PyData.strOk
  rw [← Array.all_toList, List.all_eq_true]
  exact fun c hc => decide_eq_true (Nat.lt_trans (h c hc) (by decide))
theorem sh_len {v : AV} (a : Atom v) : (shA v).length ≤ 82 := by
  obtain ⟨d, e, _, _, _, z⟩ := a.rp (n := 0)
  unfold shA
  rw [e]
  exact z
theorem tag_rp {t : PySem.Str} {v : AV} (h : ∀ c ∈ t.cps.toList, c < 128) (l : t.length ≤ 8) (a : Atom v) : RpD 1 2000 (.tup [.str t, .str (shA v)]) :=
  (RpD.tup (n := 0) (L := 822) (k := 2) (fun x hx => by
    simp only [List.mem_cons, List.not_mem_nil, or_false] at hx
    rcases hx with rfl | rfl
    · exact (RpD.str (low_ok h) h).mono (Nat.le_refl _) (by omega)
    · exact (RpD.str (low_ok (sh_low a)) (sh_low a)).mono (Nat.le_refl _) (by have := sh_len a; omega)) (by simp)).mono (Nat.le_refl _) (by omega)
theorem due_rp {bs : List AV} {w : Int} {one two : AV} (V : VBb 101 bs) (a1 : Atom one) (a2 : Atom two) : RpD 5 700000 (dueV bs w one two) := by
  have hB : (101 : Int) ≤ 10 ^ 20 := by decide
  have one_ : ∀ {x : AV}, RpD 3 (gvL 3) x → RpD 5 700000 (.lst [x]) := fun {x} r => (RpD.lst (n := 3) (k := 1) (fun y hy => by
    obtain rfl := List.mem_singleton.mp hy
    exact r) (by simp)).mono (by omega) (by simp [gvL])
  unfold dueV
  cases e : bs.find? (fun b => atB (keyV w b) one) with
  | none => exact (tag_rp (t := "box") (by decide +kernel) (by decide +kernel) a1).mono (by omega) (by omega)
  | some b =>
    have mb := List.mem_of_find?_eq_some e
    obtain ⟨i, n, ls, rfl, i0, i1, wn, l20, hls, _⟩ := parts_b (V.like b mb) (V.2.2 b mb)
    dsimp only
    by_cases c : w = 3
    · rw [if_pos c]
      cases f : (letV (.tup [.int i, .str n, .tup ls])).find? (fun l => atB (numV l) two) with
      | none => exact (tag_rp (t := "letter") (by decide +kernel) (by decide +kernel) a2).mono (by omega) (by omega)
      | some l =>
        have ml : l ∈ ls := List.mem_of_find?_eq_some f
        obtain ⟨m, bd, ms, rfl, m0, m1, wb, _, gm⟩ := parts_l (hls l ml).1 (hls l ml).2
        have g : GVb 101 2 (.tup [.str bd, .tup ms]) := .tup (by simp) fun y hy => by
          simp only [List.mem_cons, List.not_mem_nil, or_false] at hy
          rcases hy with rfl | rfl
          · exact .str wb
          · exact gm
        exact one_ ((gv_rp hB g).mono (by omega) (by simp [gvL]))
    · rw [if_neg c]
      unfold partV
      by_cases c0 : w = 0
      · rw [if_pos c0]
        exact one_ (gv_rp hB (.int (by omega) i1))
      · rw [if_neg c0]
        by_cases c1 : w = 1
        · rw [if_pos c1]
          exact one_ (gv_rp hB (.str wn))
        · rw [if_neg c1]
          have g : GVb 101 3 (.tup ls) := .tup l20 fun l hl => (hls l hl).2
          exact one_ (gv_rp hB g)
theorem eqA_self {v : AV} (d : DaD 64 v) : eqA v v = true := by
  obtain ⟨d, e, c, _⟩ := d
  unfold eqA
  rw [e]
  exact PySem.SeqAt.eqv_refl d c
theorem allT_wp {ys : List AV} {h : AH} {E : XE_} {Q : AV → AH → Prop} (hy : ∀ y ∈ ys, y = .bl true) (q : Q (.bl true) h) : wp (allF [.lst ys] h) E Q := by
  have e : ys = ys.map fun _ => AV.bl true := by
    rw [← List.map_id ys, List.map_map]
    exact List.map_congr_left fun y hm => by simpa using hy y (by simpa using hm)
  rw [e]
  refine l_all (p := fun _ => true) ?_
  rw [show (ys.all fun _ => true) = true by simp]
  exact q
/-! ### == of States -/
theorem state_eq (k : Nat) {i j : Nat} {v w : AV} {h : AH} {E : XE_} {Q : AV → AH → Prop} (e1 : h[i]? = some (.ins "State" [("kept", v)])) (e2 : h[j]? = some (.ins "State" [("kept", w)])) (d1 : DaD 64 v) (d2 : DaD 64 w) (q : Q (.bl (eqA v w)) h) : wp (rF (k + 1) "State.__eq__" [.ref i, .ref j] h) E Q := by
  rw [run_State___eq__]
  unfold m_State___eq__
  w_fin
  have t1 : isB_ (lookI il) (inL xl) (inL nl) (.ref j) (.glo "State") h = some true := by
    show (match tyT (inL xl) (inL nl) (.ref j) h with | none => none | some t => isiT (lookI il) t (.own "State")) = _
    have : tyT (inL xl) (inL nl) (.ref j) h = some (.own "State") := by
      unfold tyT
      simp only [tyNm, e2]
      decide +kernel
    rw [this]
    decide +kernel
  refine l_isiT t1 ?_
  w_fin
  refine fldK e1 (by decide +kernel) rfl ?_
  w_fin
  refine fldK e2 (by decide +kernel) rfl ?_
  w_fin
  exact l_eq d1 d2 q
end Mo
namespace Mo
open PySem PySem.Spec PyProof.Rows L2 AM

theorem own1_state (k : Nat) {i j : Nat} {v : AV} {h : AH} (e1 : h[i]? = some (.ins "State" [("kept", v)])) (e2 : h[j]? = some (.ins "State" [("kept", v)])) (d : DaD 64 v) : own1 (rF (k + 1)) MTH (.ref i) (.ref j) h = .ok true h := by
  obtain ⟨r, h', er, rfl, rfl⟩ := wp_inv (state_eq k (Q := fun r h' => r = .bl true ∧ h' = h) e1 e2 d d ⟨by rw [eqA_self d], rfl⟩)
  have m : MTH "State" "__eq__" = some (("State.__eq__" : PySem.Str), 1) := by decide +kernel
  have sc : sameC "State" (.ref j) h' = true := by
    unfold sameC
    dsimp only
    rw [e2]
    rfl
  unfold own1
  dsimp only
  rw [e1]
  dsimp only
  rw [m]
  dsimp only
  rw [sc]
  show (noX (rF (k + 1) "State.__eq__" [.ref i, .ref j] h')).bind _ = _
  rw [er]
  rfl
theorem eqG_two (k : Nat) {a b c d : Nat} {v w : AV} {h : AH} {E : XE_} {Q : AV → AH → Prop} (ea : h[a]? = some (.ins "State" [("kept", v)])) (eb : h[b]? = some (.ins "State" [("kept", w)])) (ec : h[c]? = some (.ins "State" [("kept", v)])) (ed : h[d]? = some (.ins "State" [("kept", w)])) (d1 : DaD 64 v) (d2 : DaD 64 w) (n1 : a ≠ c) (n2 : b ≠ d)
    (q : Q (.bl true) h) : wp (eqG (rF (k + 1)) MTH (.lst [.ref a, .ref b]) (.lst [.ref c, .ref d]) h) E Q := by
  have ins : ∀ {n : Nat} {u : AV}, h[n]? = some (.ins "State" [("kept", u)]) → isIns (.ref n) h = true := fun e => by
    unfold isIns
    dsimp only
    rw [e]
  have ne : ∀ {x y : Nat}, x ≠ y → sameR (.ref x) (.ref y) = false := fun {x y} n => by
    show Nat.beq x y = false
    cases e : Nat.beq x y with
    | false => rfl
    | true => exact absurd (Nat.eq_of_beq_eq_true e) n
  refine wp_eq (v := .bl true) (h := h) ?_ q
  unfold eqG
  rw [show isIns (.lst [.ref a, .ref b]) h = false from rfl]
  show (if hasIns [.ref a, .ref b] h then boolR (eqsM (rF (k + 1)) MTH [.ref a, .ref b] [.ref c, .ref d] h) else _) = _
  rw [if_pos (show hasIns [.ref a, .ref b] h = true from ins ea)]
  have s2 : eqsM (rF (k + 1)) MTH [.ref b] [.ref d] h = .ok true h := by
    unfold eqsM
    rw [ins eb, ins ed, ne n2, own1_state k eb ed d2]
    rfl
  have s1 : eqsM (rF (k + 1)) MTH [.ref a, .ref b] [.ref c, .ref d] h = .ok true h := by
    rw [eqsM, ins ea, ins ec, ne n1, own1_state k ea ec d1]
    exact s2
  rw [s1]
  rfl
def twoV (n : Nat) (x y v : AV) : AV := match v with
  | .ref m => if m = n then x else y
  | _ => .non
def HeldOk (v : AV) : Prop := ∃ t, v = .tup [t, .str (shA t)] ∧ RpD 5 700000 t
theorem cap7 : 700000 ≤ sizeLine := by rw [sizeLine_eq]; omega
theorem right_wp (k : Nat) {p : Nat} {bs cs : List AV} {h : AH} {E : XE_} {Q : AV → AH → Prop} (hp : Pool p h) (V1 : VBb 101 bs) (V2 : VBb 101 cs) (q : ∀ h', Q (.bl true) h') : wp (rF (k + 9) "_law_right" [.ref p, .tup bs, .tup cs] h) E Q := by
  rw [run__law_right]
  unfold m__law_right
  have D1 : DaD 64 (.tup bs) := DaD.mono (n := 5) (.tup fun x hx => (V1.2.2 x hx).da) (by omega)
  have D2 : DaD 64 (.tup cs) := DaD.mono (n := 5) (.tup fun x hx => (V2.2.2 x hx).da) (by omega)
  have G1 : GB bs := ⟨V1.1, fun b hb => ⟨V1.like b hb, (V1.2.2 b hb).mono (by decide)⟩⟩
  have G2 : GB cs := ⟨V2.1, fun b hb => ⟨V2.like b hb, (V2.2.2 b hb).mono (by decide)⟩⟩
  w_fin
  refine state_wp k V1.fine ?_
  rw [V1.chk]
  w_fin
  refine state_wp k V2.fine ?_
  rw [V2.chk]
  w_fin
  have M : MB (bs ++ cs) := ⟨by have := V1.1; have := V2.1; simp; omega, fun b hb => by
    rcases List.mem_append.mp hb with hb | hb
    · exact ⟨V1.like b hb, V1.2.2 b hb⟩
    · exact ⟨V2.like b hb, V2.2.2 b hb⟩⟩
  have hpl := hp.lt
  have P1 : Pool p (((h ++ [AO.ins "State" [("kept", .tup bs)]]) ++ [AO.ins "State" [("kept", .tup cs)]]) ++ [AO.lst []]) := hp.push.push.push
  refine questions_wp (k + 6) P1 M fun qs rq h1 eq lq ll hq p1 f1 => ?_
  w_fin
  have hl : (((h ++ [AO.ins "State" [("kept", .tup bs)]]) ++ [AO.ins "State" [("kept", .tup cs)]]) ++ [AO.lst []]).length = h.length + 3 := by simp
  have es1 : h1[h.length]? = some (.ins "State" [("kept", .tup bs)]) := by rw [f1.2 _ (by omega) (by omega)]; simp
  have es2 : h1[h.length + 1]? = some (.ins "State" [("kept", .tup cs)]) := by rw [f1.2 _ (by omega) (by omega)]; simp
  have er : h1[h.length + 2]? = some (.lst []) := by rw [f1.2 _ (by omega) (by omega)]; simp
  refine lstX eq ?_
  rw [show (h ++ [AO.ins "State" [("kept", .tup bs)]] ++ [AO.ins "State" [("kept", .tup cs)]]).length = h.length + 2 by simp, show (h ++ [AO.ins "State" [("kept", .tup bs)]]).length = h.length + 1 by simp]
  have rqne : rq ≠ h.length + 2 := by
    intro z
    rw [z, er] at eq
    have e0 : ([] : List AV) = qs := by
      cases eq
      rfl
    omega
  refine forO_inv (fun i ρ h' => ∃ (hs : List AV) (x3 x6 x7 x8 x9 : Option AV), ρ = [some (.ref p), some (.tup bs), some (.tup cs), x3, some (.lst [.ref h.length, .ref (h.length + 1)]), some (.ref (h.length + 2)), x6, x7, x8, x9] ∧ h'[rq]? = some (.lst qs) ∧ h'[h.length + 2]? = some (.lst hs) ∧
      h'[h.length]? = some (.ins "State" [("kept", .tup bs)]) ∧ h'[h.length + 1]? = some (.ins "State" [("kept", .tup cs)]) ∧ (∀ v ∈ hs, HeldOk v) ∧ hs.length ≤ 2 * i) (fun i ρ h' hI => ?_) (fun i a ha ρ h2 hI => ?_) (fun ρ h2 hI => ?_) _ 0 _ _ rfl ⟨[], _, _, _, _, _, rfl, eq, er, es1, es2, by simp, by simp⟩
  · obtain ⟨hs, x3, x6, x7, x8, x9, _, e, _⟩ := hI
    exact e
  · obtain ⟨hs, x3, x6, x7, x8, x9, rfl, e1, e2, e3, e4, hh, hn⟩ := hI
    have hi : i < qs.length := (List.getElem?_eq_some_iff.mp ha).1
    obtain ⟨w, one, two, rfl, hw, a1, a2⟩ := hq a (List.mem_of_getElem? ha)
    refine ⟨_, rfl, ?_⟩
    w_fin
    refine for_inv (fun j ρ h' => ∃ (hs : List AV) (x6 x7 x8 x9 : Option AV), ρ = [some (.ref p), some (.tup bs), some (.tup cs), some (.tup [.int w, one, two]), some (.lst [.ref h.length, .ref (h.length + 1)]), some (.ref (h.length + 2)), x6, x7, x8, x9] ∧ h'[rq]? = some (.lst qs) ∧ h'[h.length + 2]? = some (.lst hs) ∧
      h'[h.length]? = some (.ins "State" [("kept", .tup bs)]) ∧ h'[h.length + 1]? = some (.ins "State" [("kept", .tup cs)]) ∧ (∀ v ∈ hs, HeldOk v) ∧ hs.length ≤ 2 * i + j) _ 0 _ _ (fun j b hb ρ h3 hI => ?_) ⟨hs, _, _, _, _, rfl, e1, e2, e3, e4, hh, by omega⟩ fun ρ h3 hI => ?_
    · obtain ⟨hs, x6, x7, x8, x9, rfl, e1, e2, e3, e4, hh, hn⟩ := hI
      have turn : ∀ (s : Nat) (xs : List AV), Kept s xs h3 → GB xs → VBb 101 xs → b = .tup [.ref s, .tup xs] → j < 2 → ∃ ρ1, asgT [asgN 6, asgN 7] b [some (.ref p), some (.tup bs), some (.tup cs), some (.tup [.int w, one, two]), some (.lst [.ref h.length, .ref (h.length + 1)]), some (.ref (h.length + 2)), x6, x7, x8, x9] = some ρ1 ∧ True := fun s xs _ _ _ e _ => ⟨_, by rw [e]; rfl, trivial⟩
      have hb2 : (j = 0 ∧ b = .tup [.ref h.length, .tup bs]) ∨ (j = 1 ∧ b = .tup [.ref (h.length + 1), .tup cs]) := by
        match j, hb with
        | 0, hb => exact .inl ⟨rfl, (Option.some.inj hb).symm⟩
        | 1, hb => exact .inr ⟨rfl, (Option.some.inj hb).symm⟩
        | j + 2, hb => cases hb
      obtain ⟨s, xs, rfl, hj, Ks, Gs, Vs⟩ : ∃ (s : Nat) (xs : List AV), b = .tup [.ref s, .tup xs] ∧ j < 2 ∧ Kept s xs h3 ∧ GB xs ∧ VBb 101 xs := by
        rcases hb2 with ⟨rfl, rfl⟩ | ⟨rfl, rfl⟩
        · exact ⟨_, _, rfl, by omega, ⟨e3, V1.like⟩, G1, V1⟩
        · exact ⟨_, _, rfl, by omega, ⟨e4, V2.like⟩, G2, V2⟩
      have R := due_rp (w := w) Vs a1 a2
      have D : DaD 64 (dueV xs w one two) := R.da.mono (by omega)
      refine ⟨_, rfl, ?_⟩
      w_fin
      refine met_wp (k + 3) Ks hw a1 a2 ?_
      w_fin
      refine due_wp (k + 7) Gs hw a1 a2 ?_
      w_fin
      refine l_ne D D ?_
      rw [eqA_self D]
      w_fin
      refine lstAt e2 ?_
      w_fin
      refine l_repr R (by omega) cap7 ?_
      w_fin
      refine appK e2 (Nat.lt_of_lt_of_le (show hs.length < 1000 by omega) (fine_lt (Nat.le_refl _))) ?_
      w_fin
      refine ⟨hs ++ [.tup [dueV xs w one two, .str (shA (dueV xs w one two))]], _, _, _, _, rfl, by rw [List.getElem?_set_ne (Ne.symm rqne)]; exact e1, by rw [List.getElem?_set_self (List.getElem?_eq_some_iff.mp e2).1], by rw [List.getElem?_set_ne (by omega)]; exact e3, by rw [List.getElem?_set_ne (by omega)]; exact e4, fun v hv => ?_, by simp; omega⟩
      rcases List.mem_append.mp hv with hv | hv
      · exact hh v hv
      · obtain rfl := List.mem_singleton.mp hv
        exact ⟨_, rfl, R⟩
    · obtain ⟨hs, x6, x7, x8, x9, rfl, e1, e2, e3, e4, hh, hn⟩ := hI
      w_fin
      exact ⟨hs, _, _, _, _, _, rfl, e1, e2, e3, e4, hh, by
        rw [show (zipI [AV.ref h.length, AV.ref (h.length + 1)] [AV.tup bs, AV.tup cs]).length = 2 from rfl] at hn
        omega⟩
  · obtain ⟨hs, x3, x6, x7, x8, x9, rfl, e1, e2, e3, e4, hh, hn⟩ := hI
    w_fin
    refine lstX e2 ?_
    refine compD_all (fun acc h' => h' = h2 ∧ ∀ y ∈ acc, y = .bl true) (fun a ha acc h3 hI h0 => ?_) ⟨rfl, by simp⟩ e2 (fun ys h3 hI ly => ?_) (fine_lt (by omega))
    · obtain ⟨rfl, hy⟩ := hI
      obtain ⟨t, rfl, R⟩ := hh a ha
      refine ⟨_, rfl, ?_⟩
      w_fin
      refine l_repr R (by omega) cap7 ?_
      w_fin
      refine ⟨⟨rfl, fun y hm => ?_⟩, e2⟩
      rcases List.mem_append.mp hm with hm | hm
      · exact hy y hm
      · obtain rfl := List.mem_singleton.mp hm
        show AV.bl (decide _) = _
        rw [decide_eq_true rfl]
    · obtain ⟨rfl, hy⟩ := hI
      w_fin
      refine allT_wp hy ?_
      w_fin
      refine state_wp k V1.fine ?_
      rw [V1.chk]
      w_fin
      refine state_wp k V2.fine ?_
      rw [V2.chk]
      w_fin
      have l3 := (List.getElem?_eq_some_iff.mp e3).1
      have l4 := (List.getElem?_eq_some_iff.mp e4).1
      have up : ∀ {n : Nat} {o x y : AO}, h3[n]? = some o → ((h3 ++ [x]) ++ [y])[n]? = some o := fun {n o x y} e => by
        have := (List.getElem?_eq_some_iff.mp e).1
        rw [List.getElem?_append_left (by simp; omega), List.getElem?_append_left this]
        exact e
      have e5 : ((h3 ++ [AO.ins "State" [("kept", .tup bs)]]) ++ [AO.ins "State" [("kept", .tup cs)]])[h3.length]? = some (.ins "State" [("kept", .tup bs)]) := by
        rw [List.getElem?_append_left (by simp)]
        simp
      have e6 : ((h3 ++ [AO.ins "State" [("kept", .tup bs)]]) ++ [AO.ins "State" [("kept", .tup cs)]])[(h3 ++ [AO.ins "State" [("kept", .tup bs)]]).length]? = some (.ins "State" [("kept", .tup cs)]) := by
        rw [List.getElem?_append_right (Nat.le_refl _)]
        simp
      refine eqG_two (k + 7) (up e3) (up e4) e5 e6 D1 D2 (by omega) (by simp; omega) ?_
      w_fin
      refine comp_map (twoV h.length (.tup bs) (.tup cs)) (fun a ha => ?_) (fine_lt (by simp)) ?_
      · simp only [List.mem_cons, List.not_mem_nil, or_false] at ha
        rcases ha with rfl | rfl
        · refine ⟨_, rfl, ?_⟩
          w_fin
          refine mthK (kn := ("State.boxes", 0)) (up e3) (by decide +kernel) rfl rfl ?_
          w_fin
          refine boxes_m_wp (k + 7) (up e3) ?_
          exact ⟨by simp [twoV], rfl⟩
        · refine ⟨_, rfl, ?_⟩
          w_fin
          refine mthK (kn := ("State.boxes", 0)) (up e4) (by decide +kernel) rfl rfl ?_
          w_fin
          refine boxes_m_wp (k + 7) (up e4) ?_
          exact ⟨by simp [twoV], rfl⟩
      · have em : [AV.ref h.length, AV.ref (h.length + 1)].map (twoV h.length (.tup bs) (.tup cs)) = [.tup bs, .tup cs] := by simp [twoV]
        rw [em]
        w_fin
        have D3 : DaD 64 (.lst [.tup bs, .tup cs]) := DaD.mono (n := 6) (.lst fun x hx => by
          simp only [List.mem_cons, List.not_mem_nil, or_false] at hx
          rcases hx with rfl | rfl
          · exact .tup fun x hx => (V1.2.2 x hx).da
          · exact .tup fun x hx => (V2.2.2 x hx).da) (by omega)
        refine l_eq D3 D3 ?_
        rw [eqA_self D3]
        exact q _
/-! ### the law -/
theorem range_two {j : Int} {h : AH} (h0 : 4 ≤ j) (h1 : j ≤ 8) : ∃ xs, rangeR [.int 0, .int j, .int 2] h = .ok xs h ∧ ∀ a ∈ xs, ∃ i : Int, a = .int i ∧ 0 ≤ i ∧ i < 900 := by
  have c : j = 4 ∨ j = 5 ∨ j = 6 ∨ j = 7 ∨ j = 8 := by omega
  have fin : ∀ n : Nat, n ≤ 100 → ∀ a ∈ rangesC 0 2 n, ∃ i : Int, a = .int i ∧ 0 ≤ i ∧ i < 900 := fun n hn a ha => by
    unfold rangesC at ha
    obtain ⟨i, hi, rfl⟩ := List.mem_map.mp ha
    have := List.mem_range.mp hi
    exact ⟨_, rfl, by omega, by omega⟩
  rcases c with rfl | rfl | rfl | rfl | rfl
  · exact ⟨rangesC 0 2 2, by kernel_rfl, fin 2 (by omega)⟩
  · exact ⟨rangesC 0 2 3, by kernel_rfl, fin 3 (by omega)⟩
  · exact ⟨rangesC 0 2 3, by kernel_rfl, fin 3 (by omega)⟩
  · exact ⟨rangesC 0 2 4, by kernel_rfl, fin 4 (by omega)⟩
  · exact ⟨rangesC 0 2 4, by kernel_rfl, fin 4 (by omega)⟩
theorem Fr.pool {p q : Nat} {h h' : AH} (f : Fr p h h') (P : Pool q h) (n : q ≠ p) : Pool q h' := by
  obtain ⟨m, h0, e⟩ := P
  exact ⟨m, h0, by rw [f.2 q n (List.getElem?_eq_some_iff.mp e).1]; exact e⟩
theorem law_wp (ns : List Int) : wp (rF 40 "law" [.ext (ns.map .int)] []) noE fun v _ => v = .bl true := by
  rw [run_law]
  unfold m_law
  w_fin
  generalize hj : (if _ > (4 : Int) then _ else (4 : Int)) = j
  have hj4 : 4 ≤ j ∧ j ≤ 8 := by
    rw [← hj]
    split
    · split <;> omega
    · omega
  obtain ⟨xs, ex, hx⟩ := range_two (h := []) hj4.1 hj4.2
  refine wp_eq ex ?_
  refine for_all (fun ρ h => ∃ x1 x2 x3 x4 x5 : Option AV, ρ = [some (.ext (ns.map .int)), x1, x2, x3, x4, x5]) ⟨_, _, _, _, _, rfl⟩ (fun a ha ρ h hI => ?_) fun ρ h hI => ?_
  · obtain ⟨x1, x2, x3, x4, x5, rfl⟩ := hI
    obtain ⟨i, rfl, i0, i1⟩ := hx a ha
    refine ⟨_, rfl, ?_⟩
    w_fin
    refine pool_wp i0 (by omega) fun h1 p1 f1 => ?_
    w_fin
    refine pool_wp (by omega) (by omega) fun h2 p2 f2 => ?_
    have lt1 := p1.lt
    have lt2 := p2.lt
    have ne : h.length ≠ h1.length := by omega
    have p1a := Fr.pool f2 p1 ne
    w_fin
    refine take_wp p2 (by decide) (by decide) fun m h3 m0 m1 p3 f3 l3 => ?_
    w_fin
    refine take_wp p3 (by decide) (by decide) fun l h4 l0 l1 p4 f4 l4 => ?_
    w_fin
    have p1b := Fr.pool f4 (Fr.pool f3 p1a ne) ne
    refine boxes_wp 36 p1b (by omega) (by omega) l0 (by omega) fun bs h5 lb hb gb p5 f5 => ?_
    have V1 : VBb 100 bs := ⟨lb, hb, gb⟩
    have p6 := Fr.pool f5 p4 (Ne.symm ne)
    w_fin
    refine other_wp 36 p6 V1 fun cs h7 V2 p7 f7 => ?_
    w_fin
    refine take_wp p7 (by decide) (by decide) fun t h8 t0 t1 p8 f8 l8 => ?_
    w_fin
    refine br_c (fun _ => ?_) fun _ => ?_
    · w_fin
      refine boxes_wp 36 p8 (by omega) (by omega) (by omega) (by omega) fun ds h9 ld hd gd p9 f9 => ?_
      w_fin
      refine right_wp 30 p9 (V1.mono (by decide)) (VBb.mono (by decide) ⟨ld, hd, gd⟩) fun h10 => ?_
      w_fin
      exact ⟨_, _, _, _, _, rfl⟩
    · w_fin
      refine right_wp 30 p8 (V1.mono (by decide)) V2 fun h10 => ?_
      w_fin
      exact ⟨_, _, _, _, _, rfl⟩
  · obtain ⟨x1, x2, x3, x4, x5, rfl⟩ := hI
    w_fin
    rfl
theorem law_run : ∀ ns : List Int, ns.length ≤ 63 → ∃ h', runF T 40 f_law.key [.ext (ns.map .int)] [] = .ok (.bl true) h' := fun ns _ => by
  obtain ⟨a, h', e, rfl⟩ := wp_inv (law_wp ns)
  refine ⟨h', ?_⟩
  rw [rF_law]
  exact e
end Mo
open PySem PySem.W PySem.Calls PyProof.Rows
theorem PySem.Challenge.cw_postalike_k05_states_asked_by_turns_holds : PySem.Challenge.rw_postalike_k05_states_asked_by_turns.Holds := by
  w_on; o_law
  refine HandSHeadRun.head_any (r := OpenLaw.row PySem.Challenge.rw_postalike_k05_states_asked_by_turns) (q := view (OpenLaw.row PySem.Challenge.rw_postalike_k05_states_asked_by_turns).prog [36]) (H := Mo.hk) (ob := Mo.ob) (M := 40000) (loose := Mo.names) (d := HandSHeadRun.topDef (OpenLaw.row PySem.Challenge.rw_postalike_k05_states_asked_by_turns).prog 36) (kwd := []) Mo.ob_eq
    (by kernel_rfl) (fun s => by kernel_rfl) Mo.run (by kernel_rfl) (by kernel_rfl) (by kernel_rfl) (by rfl) (by first | assumption | decide +kernel) (by decide +kernel) ⟨rfl, rfl, rfl, rfl, rfl, by decide +kernel⟩ ?hw ?hc
  case hw => w_witness2
  case hc =>
    exact AM.walk_am Mo.T 40 Mo.f_law rfl (by kernel_rfl) ⟨rfl, by decide, by decide⟩ (by kernel_rfl) rfl rfl rfl (by decide +kernel) (fun w mg h Y G => by
      obtain ⟨K, KX, c⟩ := Y
      exact ⟨⟨K, AM.gaL K Mo.clsN, []⟩, rfl, KX, Mo.facts KX G c⟩) (fun _ _ _ _ _ _ _ => rfl) Mo.law_run
