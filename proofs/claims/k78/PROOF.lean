import PyProof.Rows.All
import Wide.All
import OpenK.AllK
import Wide.FinOn
import KE.KExcIs
import HandS.Base
import HandS.Call
import HandS.Exc
import HandS.ExcValue
import HandS.IsInst
import KE.KStateDown
import HandS.ForMost
import HandS.ExcOwn
import HandS.ExcInit
import HandS.RaiseMore
import HandS.WordsExc
import HandS.OwnEq
import HandS.DictComp
import HandS.Style
import HandS.More
import HandS.Walk
import HandS.Codes
import KE.KxText
import HandS.Defaults
import HandS.Head0
import HandS.Head1
import HandS.Head2
import HandS.HeadEnd
import HandS.HeadHook1
import HandS.HeadHook2
import HandS.HeadHook4
import PySem.Challenge.RW_sceneskips_k78_errors_made
set_option Elab.async false
set_option linter.all false
set_option maxRecDepth 100000
set_option maxHeartbeats 2000000
/-! An exception that a suite keeps: it stays tracked behind the try; isinstance of it, its fields. -/
namespace Sk
open PySem PySem.Spec PyProof.Rows L2

/-- at a: an exception of the class cls, its own dict at d -/
def Kx (cls : Value) (d : Option Addr) (a : Addr) : HO := .ext fun h => ∃ oe vs, h.get? a = some oe ∧ Zc cls d oe ∧ oe.data = .fields vs
theorem kx_ok {P : Program} {w : World} {H : Hp} {h : Heap} {a : Addr} {cls : Value} {d : Option Addr} {oe : Obj} {vs : Array Value}
    (e : h.get? a = some oe) (z : Zc cls d oe) (q : oe.data = .fields vs) : ObjOk P w H h a (Kx cls d a) := by
  refine ⟨⟨oe, vs, e, z, q⟩, ⟨oe, e⟩, ?_⟩
  rintro h1 h2 ⟨o, v, q1, r⟩ k
  exact ⟨o, v, k o q1, r⟩
theorem kx_at {P : Program} {w : World} {H : Hp} {h : Heap} {a : Addr} {cls : Value} {d : Option Addr} (hok : HOk P w H h) (e : H a = some (Kx cls d a)) :
    ∃ oe vs, h.get? a = some oe ∧ Zc cls d oe ∧ oe.data = .fields vs := by
  have z : ObjOk P w H h a (.ext fun h => ∃ oe vs, h.get? a = some oe ∧ Zc cls d oe ∧ oe.data = .fields vs) := hok a _ e
  exact z.1

section
variable {X : Cx} {pins : List (Addr × Obj)} {σ : L2.St} {H : Hp} {s : Shared}
/-- a pinned object that stood nowhere at the entry becomes tracked -/
theorem inv_keep {a : Addr} {oe : Obj} {vs : Array Value} {cls : Value} {d : Option Addr} (I : Inv X ((a, oe) :: pins) σ H s) (z : Zc cls d oe) (q : oe.data = .fields vs)
    (n0 : X.s_0.heap.get? a = none) (np : ∀ p ∈ X.pn ++ pins, p.1 ≠ a) : Inv X pins σ (upd H a (Kx cls d a)) s := by
  have pa := I.pin (a, oe) (List.mem_append_right _ List.mem_cons_self)
  obtain ⟨ha, na, nL, nF, _⟩ := pa
  have ha : s.heap.get? a = some oe := ha
  have na : H a = none := na
  have old : ∀ {b : Addr} {o : Obj}, X.s_0.heap.get? b = some o → b ≠ a := by
    intro b o e z'
    rw [z', n0] at e
    cases e
  have nn : ∀ {b : Addr} {u : HO}, H b = some u → b ≠ a := fun e => ne_of_none e na
  have B := I.base
  refine {
    ok := I.ok
    os := I.os
    bare := I.bare
    base := ?_
    loc := I.loc
    cell := I.cell
    free := ?_
    freeC := ?_
    pin := ?_
    hok := I.hok.laidN (fun _ _ k => k) na (kx_ok ha z q)
    len := I.len }
  · refine { keep := B.keep, slot := B.slot, free := ?_, there := B.there, tups := ?_, frzs := ?_, tbls := ?_ }
    · intro b o e n hx
      rw [upd_ne (old e)]
      exact B.free b o e n hx
    · intro b xs e
      have e1 := B.tups b xs e
      rw [upd_ne (nn e1)]
      exact e1
    · intro b o u e
      have e1 := B.frzs b o u e
      rw [upd_ne (nn e1)]
      exact e1
    · intro b ps e
      obtain ⟨m, e1⟩ := B.tbls b ps e
      exact ⟨m, by rw [upd_ne (nn e1)]; exact e1⟩
  · rw [upd_ne (fun e => nL e.symm)]
    exact I.free
  · intro x c e
    have nc : c ≠ a := by
      intro z'
      obtain ⟨v, o, h1, h2⟩ := I.cell x c e
      rw [z', ha] at h1
      rw [← Option.some.inj h1, q] at h2
      cases h2
    rw [upd_ne nc]
    exact I.freeC x c e
  · intro p hp
    have hp' : p ∈ X.pn ++ (a, oe) :: pins := by
      rcases List.mem_append.mp hp with m | m
      · exact List.mem_append_left _ m
      · exact List.mem_append_right _ (List.mem_cons_of_mem _ m)
    obtain ⟨p1, p2, p3⟩ := I.pin p hp'
    exact ⟨p1, by rw [upd_ne (np p hp)]; exact p2, p3⟩
/-- out of the suite, the exception still pinned -/
theorem inv_out {a : Addr} {oe : Obj} {pn' : List (Addr × Obj)} (I : Inv (X.suite a ((a, oe) :: (X.pn ++ pins))) pn' σ H s) (ok : X.Ok) : Inv X ((a, oe) :: pins) σ H s := by
  refine { ok := ok, os := I.os, bare := I.bare, base := I.base, loc := I.loc, cell := I.cell, free := I.free, freeC := I.freeC, pin := ?_, hok := I.hok, len := I.len }
  intro p hp
  refine I.pin p (List.mem_append_left _ ?_)
  rcases List.mem_append.mp hp with m | m
  · exact List.mem_cons_of_mem _ (List.mem_append_left _ m)
  · rcases List.mem_cons.mp m with m | m
    · rw [m]
      exact List.mem_cons_self
    · exact List.mem_cons_of_mem _ (List.mem_append_right _ m)
end

/-- the wish of «except x as n» where the exception stays tracked behind the suite -/
def wKeep (K : PySem.W.Frag) (c : Value) (i : Nat) (ts : Addr → Value → Option Addr → TS) (Wout : WX) (D : Ends) : WX := fun cls d σ H =>
  ∃ b, PySem.W.exmOne K cls c = some b ∧
    (b = true → ∀ a, H a = none → ts a cls d
      { nx := fun σ' H' => D.nx (σ'.set i none) (upd H' a (Kx cls d a)), rt := fun v H' => D.rt v (upd H' a (Kx cls d a)),
        bk := fun σ' H' => D.bk (σ'.set i none) (upd H' a (Kx cls d a)), ct := fun σ' H' => D.ct (σ'.set i none) (upd H' a (Kx cls d a)) } (σ.set i (some (.ref a))) H) ∧
    (b = false → Wout cls d σ H)

section
variable {X : Cx} {x n : Str} {c : Value} {i : Nat} {body suite : List Stmt} {b₀ : Stmt} {np pos pos' : Pos} {tb : WX → TS} {ts : Addr → Value → Option Addr → TS} {Wout : WX}
theorem ps_try_keep (hs : X.stack = X.env :: X.outer) (hf : X.env.frame = some X.env.locals) (hex : X.ex = []) (hN : X.N.Nodup) (hi : X.N[i]? = some n) (hln : X.env.kindOf n = some .local) (hc : Names X x c) (tk : Takes X Wout)
    (hb : ∀ (W : WX) (pn : List (Addr × Obj)) (xe : Value → Shared → Prop), Takes (X.tr pn xe) W → PassesOwn (model X.prog X.w) X.A X.env xe → PSs (X.tr pn xe) body (tb W))
    (hsu : ∀ (a : Addr) (oe : Obj) (cls : Value) (d : Option Addr) (pn : List (Addr × Obj)), Zc cls d oe → (∃ vs, oe.data = .fields vs) → PSs (X.suite a ((a, oe) :: pn)) (b₀ :: suite) (ts a cls d)) :
    PS X (.Try body [.ExceptHandler (some (.Name x np)) (some n) (b₀ :: suite) pos'] [] [] pos) (fun D σ H => tb (wKeep X.K c i ts Wout D) D σ H) := by
  constructor
  intro pins s σ H D I h
  have okX := I.ok
  have frm : X.A.frames = some (X.env :: X.outer) := okX.frames.trans (congrArg some hs)
  have locn : Loc X.env.scope n := Or.inl hln
  refine wpAny_Try_except ?_
  let caught : Value → Shared → Prop := fun e s₁ => wpAny (model X.prog X.w) X.A (noteFrame e X.env) (fun _ s₂ => wpAny (model X.prog X.w) X.A (setFlight e none) (fun _ s₃ =>
    wpAny (model X.prog X.w) X.A (handleBy e X.env [.ExceptHandler (some (.Name x np)) (some n) (b₀ :: suite) pos']) (SP X pins D) X.xe s₃) X.xe s₂) X.xe s₁
  have key : Takes (X.tr (X.pn ++ pins) caught) (wKeep X.K c i ts Wout D) := by
    rintro u s' ⟨a, B, sI, pins', σ', H', cls, d, rfl, J0, nb, up, sky, na, os, ag, b, hb1, hyes, hno⟩
    have J : Inv X pins σ' H' sI := J0.ofTry okX
    have nb : ∀ b o, sI.heap.get? b = some o → b ∉ frs X.stack → B.get? b = some o := nb
    have sky : Sky B (X.env :: X.outer) a (Zc cls d) X.env.locals s'.heap := by
      rw [← hs]
      exact sky
    show wpAny (model X.prog X.w) X.A (noteFrame (.ref a) X.env) _ _ _
    refine Sky.land Zc.steady frm hf sky fun h3 fl3 up3 => ?_
    have J3 : Inv X pins σ' H' { s' with heap := h3 } := J.landed nb fl3.1 (up.trans up3) os ag
    obtain ⟨oe3, vs3, he3, hz3, hd3⟩ := fl3.there
    -- the exception is no frame of ours, and stood nowhere before
    have offFr : a ∉ frs (X.env :: X.outer) := by
      intro hm
      obtain ⟨_, o', e', hnf⟩ := fl3.2.2.1.mem hm
      rw [he3] at e'
      cases e'
      exact hnf _ hd3
    have nL : a ≠ X.env.locals := by
      intro z
      refine offFr (List.mem_filterMap.mpr ⟨X.env, List.mem_cons_self, ?_⟩)
      rw [hf, z]
    have nF : a ∉ X.fs := by
      intro hm
      obtain ⟨e, he, q⟩ := List.mem_filterMap.mp hm
      exact offFr (List.mem_filterMap.mpr ⟨e, List.mem_cons_of_mem _ he, q⟩)
    have fresh : ∀ o, sI.heap.get? a ≠ some o := by
      intro o e
      have q := nb a o e (by rw [hs]; exact offFr)
      rw [fl3.2.1] at q
      cases q
    have n0 : X.s_0.heap.get? a = none := by
      cases e : X.s_0.heap.get? a with
      | none => rfl
      | some o =>
        obtain ⟨o', q⟩ := J.base.there a o e (by rw [hex]; exact List.not_mem_nil)
        exact absurd q (fresh o')
    have npn : ∀ p ∈ X.pn ++ pins, p.1 ≠ a := by
      intro p hp z
      have q := (J.pin p hp).1
      rw [z] at q
      exact fresh _ q
    have S3 := J3.suite he3 hd3 na nL nF
    refine wpAny_handleBy_cons (codeAny_handlers_test ?_) (by intro q; cases q)
    have LT : PySem.W.Looks (model X.prog X.w) h3 (typeOf (.ref a)) cls := by
      intro A Q E s k q
      refine wpAny_typeOf_ref (k _ _ he3) ?_
      rw [hz3.1]
      exact q
    have LM := PySem.W.exm_one (M := model X.prog X.w) J3.kIn LT hb1
    have test : ∀ {Q E : Value → Shared → Prop}, Q c { s' with heap := h3 } → wpAny (model X.prog X.w) (X.A.mark (some (.ref a))) (eval (.Name x np) X.env) Q E { s' with heap := h3 } := by
      intro Q E q
      obtain ⟨hg, hdbg, hm | ⟨hm, hv, hnn⟩⟩ := hc
      · exact ld_glob (X := X.suite a ((a, oe3) :: (X.pn ++ pins))) S3 hg hm q hdbg
      · exact ld_blt (X := X.suite a ((a, oe3) :: (X.pn ++ pins))) S3 hg hm hv q hnn hdbg
    refine test (LM.here ?_)
    cases b with
    | true =>
      refine codeAny_handlers_suite_as ?_
      refine HandSPX.lands_againZ fl3 fun h4 fl4 up4 => ?_
      have J4 : Inv X pins σ' H' { s' with heap := h4 } := J.landed nb fl4.1 ((up.trans up3).trans up4) os ag
      obtain ⟨oe4, vs4, he4, hz4, hd4⟩ := fl4.there
      have S4 := J4.suite he4 hd4 na nL nF
      refine store_ok (X := X.suite a ((a, oe4) :: (X.pn ++ pins))) (v := .ref a) S4 hN hi locn rfl (fun s5 S5 => ?_) (.inr hln)
      refine wpAny_mono ((hsu a oe4 cls d (X.pn ++ pins) hz4 ⟨_, hd4⟩).run [] s5 _ H' _ S5 (hyes rfl a na)) (fun f s6 hsp => ?_) (fun _ _ z => False.elim z)
      have out : ∀ {σ6 : L2.St} {H6 : Hp} {Q : Shared → Prop}, Inv (X.suite a ((a, oe4) :: (X.pn ++ pins))) [] σ6 H6 s6 → (∀ s7, Inv X pins (σ6.set i none) (upd H6 a (Kx cls d a)) s7 → Q s7) →
          wpAny (model X.prog X.w) X.A (do bindName X.env n .none; unbindBehindTheSuite X.env n pos') (fun _ s7 => Q s7) X.xe s6 := by
        intro σ6 H6 Q S6 hq
        refine gone_ok (inv_out S6 okX) hN hi hln fun s7 J7 => hq s7 ?_
        exact inv_keep J7 hz4 hd4 n0 npn
      cases f with
      | next =>
        obtain ⟨σ6, H6, S6, q6⟩ := hsp
        exact out S6 fun s7 J7 => ⟨_, _, J7, q6⟩
      | brk =>
        obtain ⟨σ6, H6, S6, q6⟩ := hsp
        exact out S6 fun s7 J7 => ⟨_, _, J7, q6⟩
      | cont =>
        obtain ⟨σ6, H6, S6, q6⟩ := hsp
        exact out S6 fun s7 J7 => ⟨_, _, J7, q6⟩
      | ret u =>
        obtain ⟨v6, σ6, H6, S6, r6, q6⟩ := hsp
        exact out S6 fun s7 J7 => ⟨_, _, _, J7, r6, q6⟩
    | false =>
      show wpAny _ X.A (handleBy (.ref a) X.env []) _ _ _
      refine wpAny_handleBy_nil ?_
      obtain ⟨k1, k2, k3, oe, vs, T, oT, ts', he, hz, hd, h1, hr⟩ := id fl3
      unfold PySem.passOn
      refine wpAny_bind (wpAny_field he hd h1 ?_)
      rw [if_neg (show ¬ ((Value.ref T == Value.none) = true) from by simp)]
      have fin : wpAny (model X.prog X.w) X.A (setFlight (.ref a) X.env.frame) (fun _ s4 => wpAny (model X.prog X.w) X.A (throw (.ref a) : Sem Flow) (SP X pins D) X.xe s4) X.xe { s' with heap := h3 } := by
        rw [hf]
        refine HandSPX.setFlight_upZ fl3 fun h4 hh4 up4 => wpAny_throw (tk _ _ ?_)
        refine ⟨a, B, sI, pins, σ', H', cls, d, rfl, J, nb, (up.trans up3).trans up4, .inr (.inr ?_), na, os, ag, hno rfl⟩
        rw [hs]
        exact hh4
      first
        | exact wpAny_bind (wpAny_pure (wpAny_bind fin))
        | exact wpAny_bind fin
  refine wpAny_mono ((hb (wKeep X.K c i ts Wout D) (X.pn ++ pins) caught key PassesOwn.looking).run [] s σ H D (I.toTry _) h) (fun f s1 hsp => ?_) (fun e s1 he => he)
  cases f with
  | next =>
    obtain ⟨σ', H', J', q⟩ := hsp
    exact wpAny_execs_nil ⟨σ', H', J'.ofTry okX, q⟩
  | brk =>
    obtain ⟨σ', H', J', q⟩ := hsp
    exact ⟨σ', H', J'.ofTry okX, q⟩
  | cont =>
    obtain ⟨σ', H', J', q⟩ := hsp
    exact ⟨σ', H', J'.ofTry okX, q⟩
  | ret u =>
    obtain ⟨v, σ', H', J', r, q⟩ := hsp
    exact ⟨v, σ', H', J'.ofTry okX, r, q⟩
end

/-! ### isinstance(e, C), e.f: e a kept exception -/
/-- what the class D must say, so that isinstance and the dot ask its instances rightly -/
structure XcD (K : PySem.W.Frag) (D : Addr) : Prop where
  cl : (PySem.W.clsIn K D).isSome = true
  ga : PySem.W.findIn K (.ref D) "__getattribute__" = some (some (.builtin "BaseException.__getattribute__"))
  gg : PySem.W.findIn K (.ref D) "__getattr__" = some none
  ex : PySem.W.subIn K (.ref D) (.type "BaseException") = some true
  dc : PySem.W.hasDictIn K D = true
  at_ : PySem.W.findIn K (.ref D) "__class__" = some (some (.builtin "object.__class__"))
  sp : PySem.W.specialIn K (.builtin "object.__class__") "__get__" = some (some (.builtin "getset_descriptor.__get__"))
  tk : PySem.W.takesIn K (.builtin "object.__class__") = some true
  mr : PySem.W.mroIn K D (.type "object") = some true
def xcdB (K : PySem.W.Frag) (D : Addr) : Bool :=
  (PySem.W.clsIn K D).isSome && (decide (PySem.W.findIn K (.ref D) "__getattribute__" = some (some (.builtin "BaseException.__getattribute__"))) && (decide (PySem.W.findIn K (.ref D) "__getattr__" = some none) &&
    (decide (PySem.W.subIn K (.ref D) (.type "BaseException") = some true) && (PySem.W.hasDictIn K D && (decide (PySem.W.findIn K (.ref D) "__class__" = some (some (.builtin "object.__class__"))) &&
    (decide (PySem.W.specialIn K (.builtin "object.__class__") "__get__" = some (some (.builtin "getset_descriptor.__get__"))) && (decide (PySem.W.takesIn K (.builtin "object.__class__") = some true) &&
    decide (PySem.W.mroIn K D (.type "object") = some true))))))))
theorem and2 {a b : Bool} (h : (a && b) = true) : a = true ∧ b = true := Bool.and_eq_true_iff.mp h
theorem xcdB_ok {K : PySem.W.Frag} {D : Addr} (h : xcdB K D = true) : XcD K D := by
  obtain ⟨h1, h⟩ := and2 h
  obtain ⟨h2, h⟩ := and2 h
  obtain ⟨h3, h⟩ := and2 h
  obtain ⟨h4, h⟩ := and2 h
  obtain ⟨h5, h⟩ := and2 h
  obtain ⟨h6, h⟩ := and2 h
  obtain ⟨h7, h⟩ := and2 h
  obtain ⟨h8, h9⟩ := and2 h
  exact ⟨h1, of_decide_eq_true h2, of_decide_eq_true h3, of_decide_eq_true h4, h5, of_decide_eq_true h6, of_decide_eq_true h7, of_decide_eq_true h8, of_decide_eq_true h9⟩
/-- a kept exception with what the heap holds of its own dict -/
def KxAt (H : Hp) (a D : Addr) (d : Option Addr) : Prop := H a = some (Kx (.ref D) d a) ∧ ∀ dd, d = some dd → ∃ fs, H dd = some (.xd fs)
section
variable {X : Cx} {pins : List (Addr × Obj)} {σ : L2.St} {H : Hp} {s : Shared}
theorem kx_inst {a D : Addr} {d : Option Addr} (I : Inv X pins σ H s) (k : KxAt H a D d) : ∃ (oe : Obj) (od : Option Obj), PySem.W.InstAt s.heap a oe D od := by
  obtain ⟨oe, vs, e, ⟨z1, z2⟩, q⟩ := kx_at I.hok k.1
  have nc : PySem.W.notCls oe := by
    unfold PySem.W.notCls
    rw [q] <;> rfl
  cases d with
  | none => exact ⟨oe, none, e, z1, nc, by rw [z2]; trivial⟩
  | some dd =>
    obtain ⟨fs, hx⟩ := k.2 dd rfl
    have ok : ObjOk X.prog X.w H s.heap dd (.xd fs) := I.hok dd _ hx
    obtain ⟨mA, hns, _⟩ := ok
    obtain ⟨od, ho, _⟩ := lookIn_ns hns
    exact ⟨oe, some od, e, z1, nc, by rw [z2]; exact ho⟩
end
/-- isinstance(e, c) -/
def rIsK (K : PySem.W.Frag) : List V → Hp → VK → Prop := fun xs H Q => ∃ (a D : Addr) (d : Option Addr) (c : V) (cv : Value) (b : Bool), xs = [.ref a, c] ∧ ClsV c cv ∧ KxAt H a D d ∧ XcD K D ∧ PySem.W.kitOne K (.ref D) cv = some b ∧ Q (.bl b) H
theorem call_isK {X : Cx} : CallR X (.builtin "isinstance") (rIsK X.K) := by
  intro pins s σ H xs us Q I r h
  obtain ⟨a, D, d, c, cv, b, rfl, hc, k, C, e, q⟩ := h
  obtain ⟨u1, u2, rfl, r1, r2⟩ := vals2 r
  have e2 := hc.eq r2
  subst e2
  cases (show u1 = Value.ref a from r1)
  obtain ⟨oe, od, J⟩ := kx_inst I k
  refine PySem.W.kia_one (PySem.W.kitx_exc C.cl C.ga C.gg C.ex C.at_ C.sp C.tk C.mr) I.kIn J e (fun z => nomatch z) fun tk => ?_
  exact ⟨.bl b, H, I.tok tk, rfl, q⟩
/-- e.f -/
def tKxF (K : PySem.W.Frag) (f : Str) (te : TE) : TE := fun σ H Q => te σ H fun x H1 => ∃ (a D dd : Addr) (fs : List (Str × V)) (v : V), x = .ref a ∧ H1 a = some (Kx (.ref D) (some dd) a) ∧ H1 dd = some (.xd fs) ∧ XcD K D ∧
  PySem.W.findIn K (.ref D) f = some none ∧ fs.lookup f = some v ∧ Q v H1
theorem pe_kxf {X : Cx} {e : Expr} {te : TE} {f : Str} {pos : Pos} (he : PE X e te) (hb : attributeBase e f X.env (eval e X.env) = eval e X.env := by rfl) : PE X (.Attribute e f pos) (tKxF X.K f te) := by
  constructor
  intro pins s σ H Q I h
  refine attr_of hb (thn (he.run pins s σ H _ I h) fun u s1 hh => ?_)
  obtain ⟨x, H1, I1, rx, a, D, dd, fs, v, ex, ea, ed, C, hno, l, q⟩ := hh
  subst ex
  cases (show u = Value.ref a from rx)
  obtain ⟨oe, vs, e1, ⟨z1, z2⟩, q1⟩ := kx_at I1.hok ea
  have ok : ObjOk X.prog X.w H1 s1.heap dd (.xd fs) := I1.hok dd _ ed
  obtain ⟨mA, hns, hr⟩ := ok
  obtain ⟨od, ho, hl⟩ := lookIn_ns hns
  have hf := hr f
  rw [l] at hf
  obtain ⟨w', hw, ru⟩ := RelO.some_of (v := v) (o := mA f) hf
  have nc : PySem.W.notCls oe := by
    unfold PySem.W.notCls
    rw [q1] <;> rfl
  have J : PySem.W.InstAt s1.heap a oe D (some od) := ⟨e1, z1, nc, by rw [z2]; exact ho⟩
  refine HandSPX.exc_get I1.kIn J C.ga C.gg C.ex (PySem.W.findObj_own C.dc hno rfl (by rw [hl, hw])) (handed_of ru) ?_
  exact ⟨v, H1, I1.tok _, ru, q⟩
end Sk
set_option Elab.async false
set_option linter.all false
set_option maxRecDepth 100000
set_option maxHeartbeats 4000000
namespace Sk
open PySem L2
/-! ### the text by places -/
def topS (i : Nat) : Stmt := PySem.Challenge.pw_sceneskips_k78_errors_made.main.body.getD i (.Pass ⟨0, 0, 0, 0⟩)
abbrev s_name_place : Stmt := topS 19
abbrev n_name_place : List Str := ["name", "place", "index"]
abbrev p_name_place : List Str := ["name"]
theorem sc_name_place : FnScope n_name_place p_name_place (defScope s_name_place) := ⟨rfl, rfl, rfl, by decide +kernel, rfl, by decide +kernel, by decide +kernel⟩
abbrev a_name_place : Str × Option Str := ("name_place", none)
abbrev d_name_place : He.DefD := ⟨a_name_place, "name_place", "name_place", defArgs s_name_place, defBody s_name_place, defScope s_name_place, [], []⟩
abbrev s_order_key : Stmt := topS 20
abbrev n_order_key : List Str := ["values", "total", "marks", "name"]
abbrev p_order_key : List Str := ["values"]
theorem sc_order_key : FnScope n_order_key p_order_key (defScope s_order_key) := ⟨rfl, rfl, rfl, by decide +kernel, rfl, by decide +kernel, by decide +kernel⟩
abbrev a_order_key : Str × Option Str := ("order_key", none)
abbrev d_order_key : He.DefD := ⟨a_order_key, "order_key", "order_key", defArgs s_order_key, defBody s_order_key, defScope s_order_key, [], []⟩
abbrev s_without_zeros : Stmt := topS 22
abbrev n_without_zeros : List Str := ["values", "name"]
abbrev p_without_zeros : List Str := ["values"]
theorem sc_without_zeros : FnScope n_without_zeros p_without_zeros (defScope s_without_zeros) := ⟨rfl, rfl, rfl, by decide +kernel, rfl, by decide +kernel, by decide +kernel⟩
abbrev a_without_zeros : Str × Option Str := ("without_zeros", none)
abbrev d_without_zeros : He.DefD := ⟨a_without_zeros, "without_zeros", "without_zeros", defArgs s_without_zeros, defBody s_without_zeros, defScope s_without_zeros, [], []⟩
abbrev s_Notes_init : Stmt := inClass (topS 25) 0
abbrev n_Notes_init : List Str := ["self", "values"]
abbrev p_Notes_init : List Str := ["self", "values"]
theorem sc_Notes_init : FnScope n_Notes_init p_Notes_init (defScope s_Notes_init) := ⟨rfl, rfl, rfl, by decide +kernel, rfl, by decide +kernel, by decide +kernel⟩
abbrev a_Notes_init : Str × Option Str := ("Notes", some "__init__")
abbrev d_Notes_init : He.DefD := ⟨a_Notes_init, "__init__", "Notes.__init__", defArgs s_Notes_init, defBody s_Notes_init, defScope s_Notes_init, [.non], []⟩
abbrev s_Notes_eq : Stmt := inClass (topS 25) 9
abbrev n_Notes_eq : List Str := ["self", "other"]
abbrev p_Notes_eq : List Str := ["self", "other"]
theorem sc_Notes_eq : FnScope n_Notes_eq p_Notes_eq (defScope s_Notes_eq) := ⟨rfl, rfl, rfl, by decide +kernel, rfl, by decide +kernel, by decide +kernel⟩
abbrev a_Notes_eq : Str × Option Str := ("Notes", some "__eq__")
abbrev d_Notes_eq : He.DefD := ⟨a_Notes_eq, "__eq__", "Notes.__eq__", defArgs s_Notes_eq, defBody s_Notes_eq, defScope s_Notes_eq, [], []⟩
abbrev s_InvalidStory_init : Stmt := inClass (topS 15) 0
abbrev n_InvalidStory_init : List Str := ["self", "index"]
abbrev p_InvalidStory_init : List Str := ["self", "index"]
theorem sc_InvalidStory_init : FnScope n_InvalidStory_init p_InvalidStory_init (defScope s_InvalidStory_init) := ⟨rfl, rfl, rfl, by decide +kernel, rfl, by decide +kernel, by decide +kernel⟩
abbrev a_InvalidStory_init : Str × Option Str := ("InvalidStory", some "__init__")
abbrev d_InvalidStory_init : He.DefD := ⟨a_InvalidStory_init, "__init__", "InvalidStory.__init__", defArgs s_InvalidStory_init, defBody s_InvalidStory_init, defScope s_InvalidStory_init, [], []⟩
abbrev s_InvalidBook_init : Stmt := inClass (topS 16) 0
abbrev n_InvalidBook_init : List Str := ["self", "index", "over"]
abbrev p_InvalidBook_init : List Str := ["self", "index", "over"]
theorem sc_InvalidBook_init : FnScope n_InvalidBook_init p_InvalidBook_init (defScope s_InvalidBook_init) := ⟨rfl, rfl, rfl, by decide +kernel, rfl, by decide +kernel, by decide +kernel⟩
abbrev a_InvalidBook_init : Str × Option Str := ("InvalidBook", some "__init__")
abbrev d_InvalidBook_init : He.DefD := ⟨a_InvalidBook_init, "__init__", "InvalidBook.__init__", defArgs s_InvalidBook_init, defBody s_InvalidBook_init, defScope s_InvalidBook_init, [], []⟩
abbrev s_WrongSkip_init : Stmt := inClass (topS 17) 0
abbrev n_WrongSkip_init : List Str := ["self", "name", "at"]
abbrev p_WrongSkip_init : List Str := ["self", "name", "at"]
theorem sc_WrongSkip_init : FnScope n_WrongSkip_init p_WrongSkip_init (defScope s_WrongSkip_init) := ⟨rfl, rfl, rfl, by decide +kernel, rfl, by decide +kernel, by decide +kernel⟩
abbrev a_WrongSkip_init : Str × Option Str := ("WrongSkip", some "__init__")
abbrev d_WrongSkip_init : He.DefD := ⟨a_WrongSkip_init, "__init__", "WrongSkip.__init__", defArgs s_WrongSkip_init, defBody s_WrongSkip_init, defScope s_WrongSkip_init, [], []⟩
abbrev s_Lstir : Stmt := topS 27
abbrev n_Lstir : List Str := ["cell", "k", "one", "two"]
abbrev p_Lstir : List Str := ["cell", "k"]
theorem sc_Lstir : FnScope n_Lstir p_Lstir (defScope s_Lstir) := ⟨rfl, rfl, rfl, by decide +kernel, rfl, by decide +kernel, by decide +kernel⟩
abbrev a_Lstir : Str × Option Str := ("_law_stir", none)
abbrev d_Lstir : He.DefD := ⟨a_Lstir, "_law_stir", "_law_stir", defArgs s_Lstir, defBody s_Lstir, defScope s_Lstir, [], []⟩
abbrev s_Lstock : Stmt := topS 28
abbrev n_Lstock : List Str := ["script", "stock", "k", "left", "turn"]
abbrev p_Lstock : List Str := ["script"]
theorem sc_Lstock : FnScope n_Lstock p_Lstock (defScope s_Lstock) := ⟨rfl, rfl, rfl, by decide +kernel, rfl, by decide +kernel, by decide +kernel⟩
abbrev a_Lstock : Str × Option Str := ("_law_stock", none)
abbrev d_Lstock : He.DefD := ⟨a_Lstock, "_law_stock", "_law_stock", defArgs s_Lstock, defBody s_Lstock, defScope s_Lstock, [], []⟩
abbrev s_Ldraw : Stmt := topS 29
abbrev n_Ldraw : List Str := ["stock", "limit"]
abbrev p_Ldraw : List Str := ["stock", "limit"]
theorem sc_Ldraw : FnScope n_Ldraw p_Ldraw (defScope s_Ldraw) := ⟨rfl, rfl, rfl, by decide +kernel, rfl, by decide +kernel, by decide +kernel⟩
abbrev a_Ldraw : Str × Option Str := ("_law_draw", none)
abbrev d_Ldraw : He.DefD := ⟨a_Ldraw, "_law_draw", "_law_draw", defArgs s_Ldraw, defBody s_Ldraw, defScope s_Ldraw, [], []⟩
abbrev s_Lfar : Stmt := topS 30
abbrev n_Lfar : List Str := ["stock", "way", "made", "turn"]
abbrev p_Lfar : List Str := ["stock"]
theorem sc_Lfar : FnScope n_Lfar p_Lfar (defScope s_Lfar) := ⟨rfl, rfl, rfl, by decide +kernel, rfl, by decide +kernel, by decide +kernel⟩
abbrev a_Lfar : Str × Option Str := ("_law_far", none)
abbrev d_Lfar : He.DefD := ⟨a_Lfar, "_law_far", "_law_far", defArgs s_Lfar, defBody s_Lfar, defScope s_Lfar, [], []⟩
abbrev s_Lpool : Stmt := topS 31
abbrev n_Lpool : List Str := ["stock", "many", "letters", "way", "start", "place", "stem", "telling", "words", "turn", "k", "one"]
abbrev p_Lpool : List Str := ["stock", "many"]
theorem sc_Lpool : FnScope n_Lpool p_Lpool (defScope s_Lpool) := ⟨rfl, rfl, rfl, by decide +kernel, rfl, by decide +kernel, by decide +kernel⟩
abbrev a_Lpool : Str × Option Str := ("_law_pool", none)
abbrev d_Lpool : He.DefD := ⟨a_Lpool, "_law_pool", "_law_pool", defArgs s_Lpool, defBody s_Lpool, defScope s_Lpool, [], []⟩
abbrev s_Lmarks : Stmt := topS 32
abbrev n_Lmarks : List Str := ["e", "marks"]
abbrev p_Lmarks : List Str := ["e"]
theorem sc_Lmarks : FnScope n_Lmarks p_Lmarks (defScope s_Lmarks) := ⟨rfl, rfl, rfl, by decide +kernel, rfl, by decide +kernel, by decide +kernel⟩
abbrev a_Lmarks : Str × Option Str := ("_law_marks", none)
abbrev d_Lmarks : He.DefD := ⟨a_Lmarks, "_law_marks", "_law_marks", defArgs s_Lmarks, defBody s_Lmarks, defScope s_Lmarks, [], []⟩
abbrev s_Lraise : Stmt := topS 33
abbrev n_Lraise : List Str := ["k", "text", "fields"]
abbrev p_Lraise : List Str := ["k", "text", "fields"]
theorem sc_Lraise : FnScope n_Lraise p_Lraise (defScope s_Lraise) := ⟨rfl, rfl, rfl, by decide +kernel, rfl, by decide +kernel, by decide +kernel⟩
abbrev a_Lraise : Str × Option Str := ("_law_raise", none)
abbrev d_Lraise : He.DefD := ⟨a_Lraise, "_law_raise", "_law_raise", defArgs s_Lraise, defBody s_Lraise, defScope s_Lraise, [], []⟩
abbrev s_Lraise_more : Stmt := topS 34
abbrev n_Lraise_more : List Str := ["k", "text", "fields"]
abbrev p_Lraise_more : List Str := ["k", "text", "fields"]
theorem sc_Lraise_more : FnScope n_Lraise_more p_Lraise_more (defScope s_Lraise_more) := ⟨rfl, rfl, rfl, by decide +kernel, rfl, by decide +kernel, by decide +kernel⟩
abbrev a_Lraise_more : Str × Option Str := ("_law_raise_more", none)
abbrev d_Lraise_more : He.DefD := ⟨a_Lraise_more, "_law_raise_more", "_law_raise_more", defArgs s_Lraise_more, defBody s_Lraise_more, defScope s_Lraise_more, [], []⟩
abbrev s_Lsame_number : Stmt := topS 35
abbrev n_Lsame_number : List Str := ["found", "due"]
abbrev p_Lsame_number : List Str := ["found", "due"]
theorem sc_Lsame_number : FnScope n_Lsame_number p_Lsame_number (defScope s_Lsame_number) := ⟨rfl, rfl, rfl, by decide +kernel, rfl, by decide +kernel, by decide +kernel⟩
abbrev a_Lsame_number : Str × Option Str := ("_law_same_number", none)
abbrev d_Lsame_number : He.DefD := ⟨a_Lsame_number, "_law_same_number", "_law_same_number", defArgs s_Lsame_number, defBody s_Lsame_number, defScope s_Lsame_number, [], []⟩
abbrev s_Lfields : Stmt := topS 36
abbrev n_Lfields : List Str := ["e", "k", "fields"]
abbrev p_Lfields : List Str := ["e", "k", "fields"]
theorem sc_Lfields : FnScope n_Lfields p_Lfields (defScope s_Lfields) := ⟨rfl, rfl, rfl, by decide +kernel, rfl, by decide +kernel, by decide +kernel⟩
abbrev a_Lfields : Str × Option Str := ("_law_fields", none)
abbrev d_Lfields : He.DefD := ⟨a_Lfields, "_law_fields", "_law_fields", defArgs s_Lfields, defBody s_Lfields, defScope s_Lfields, [], []⟩
abbrev s_law : Stmt := topS 37
abbrev n_law : List Str := ["script", "stock", "step", "start", "turn", "k", "names", "number", "notes", "fields", "caught", "e", "kind"]
abbrev p_law : List Str := ["script"]
theorem sc_law : FnScope n_law p_law (defScope s_law) := ⟨rfl, rfl, rfl, by decide +kernel, rfl, by decide +kernel, by decide +kernel⟩
abbrev a_law : Str × Option Str := ("law", none)
abbrev d_law : He.DefD := ⟨a_law, "law", "law", defArgs s_law, defBody s_law, defScope s_law, [], []⟩
/-! ### what the top has left -/
def fn : List He.DefD := [d_name_place, d_order_key, d_without_zeros, d_Notes_init, d_Notes_eq, d_InvalidStory_init, d_InvalidBook_init, d_WrongSkip_init, d_Lstir, d_Lstock, d_Ldraw, d_Lfar, d_Lpool, d_Lmarks, d_Lraise, d_Lraise_more, d_Lsame_number, d_Lfields, d_law]
def fa : List He.Fa := [.glo "name_place", .glo "order_key", .glo "without_zeros", .glo "Notes", .glo "SceneError", .glo "NoCommon", .glo "InvalidScene", .glo "InvalidAnswer", .glo "PlayOver", .glo "NoSkip", .glo "NotExact", .glo "TooWide",
  .glo "TooMany", .glo "InvalidText", .glo "InvalidCommand", .glo "NothingToUndo", .glo "NoPlay", .glo "InvalidStory", .glo "InvalidBook", .glo "WrongSkip", .glo "_law_stir", .glo "_law_stock", .glo "_law_draw", .glo "_law_far",
  .glo "_law_pool", .glo "_law_marks", .glo "_law_raise", .glo "_law_raise_more", .glo "_law_same_number", .glo "_law_fields", .glo "law", .free "len", .free "ord", .free "abs", .free "sum", .free "sorted",
  .free "tuple", .free "int", .free "bool", .free "range", .free "isinstance", .free "ValueError", .cls "Notes", .noat "Notes" "held", .noat "Notes" "rank", .mkr "Notes", .meth "Notes" "__eq__", .exc "SceneError",
  .exc "NoCommon", .exc "InvalidScene", .exc "InvalidAnswer", .exc "PlayOver", .exc "NoSkip", .exc "NotExact", .exc "TooWide", .exc "TooMany", .exc "InvalidText", .exc "InvalidCommand", .exc "NothingToUndo", .exc "NoPlay",
  .exm "SceneError" "SceneError" true, .exm "NoCommon" "SceneError" true, .exm "InvalidScene" "SceneError" true, .exm "InvalidAnswer" "SceneError" true, .exm "PlayOver" "SceneError" true, .exm "NoSkip" "SceneError" true, .exm "NotExact" "SceneError" true, .exm "TooWide" "SceneError" true, .exm "TooMany" "SceneError" true, .exm "InvalidText" "SceneError" true, .exm "InvalidCommand" "SceneError" true, .exm "NothingToUndo" "SceneError" true,
  .exm "NoPlay" "SceneError" true, .exm "InvalidStory" "SceneError" true, .exm "InvalidBook" "SceneError" true, .exm "WrongSkip" "SceneError" true]
/-- the errors' names, by number; the last one is the base class -/
def errs : List Str := ["NoCommon", "InvalidScene", "InvalidAnswer", "PlayOver", "NoSkip", "NotExact", "TooWide", "TooMany", "InvalidText", "InvalidCommand", "NothingToUndo", "NoPlay", "InvalidStory", "InvalidBook", "WrongSkip", "SceneError"]
def errN (i : Nat) : Str := errs.getD i "SceneError"
/-- an own class of an error, with an own __init__ -/
def oexB (K : PySem.W.Frag) (C : Addr) : Bool :=
  (match K.lookup C with
    | some ⟨.type "type", _, .cls cd, sl⟩ => (match cd.mro, sl.toList with
      | .ref C' :: bm, [_, _, _, _, some (.builtin n), _] => C' == C && (n == "ValueError.__new__" && (!cd.hasDel && (cd.hasDict && PySem.HandSPX.refsVE bm)))
      | _, _ => false)
    | _ => false) &&
  (decide (PySem.W.findIn K (.ref C) "__setattr__" = some (some (.builtin "object.__setattr__"))) && (decide (PySem.W.subIn K (.ref C) (.type "BaseException") = some true) &&
    (decide (PySem.W.typeIn K (.ref C) = some (.type "type")) && PySem.W.keepIn K (.ref C))))
theorem oexB_ok {K : PySem.W.Frag} {C : Addr} (h : oexB K C = true) : OexC K C := by
  obtain ⟨h1, h⟩ := and2 h
  obtain ⟨h2, h⟩ := and2 h
  obtain ⟨h3, h⟩ := and2 h
  obtain ⟨h4, h5⟩ := and2 h
  refine ⟨?_, of_decide_eq_true h2, of_decide_eq_true h3, of_decide_eq_true h4, h5⟩
  split at h1
  · rename_i dd cd sl ho
    split at h1
    · rename_i C' bm k0 k1 k2 k3 n k5 hm hs
      obtain ⟨q1, q⟩ := and2 h1
      obtain ⟨q2, q⟩ := and2 q
      obtain ⟨q3, q⟩ := and2 q
      obtain ⟨q4, q5⟩ := and2 q
      have e1 : C' = C := eq_of_beq q1
      have e2 : n = "ValueError.__new__" := eq_of_beq q2
      obtain ⟨nm, bs, mro, ns, qn, hd, sn, sub, ab, col, del⟩ := cd
      obtain ⟨sl⟩ := sl
      dsimp only at hm hs q3 q4
      subst hm hs e1 e2 q4
      cases del with
      | true => cases q3
      | false => exact ⟨_, _, _, _, _, _, _, _, _, _, _, _, _, _, _, ho, q5⟩
    · cases h1
  · cases h1
/-- isinstance's answers: the class D among the fifteen -/
def kitB (K : PySem.W.Frag) (i : Nat) : Bool :=
  xcdB K (He.ga K (errN i)) && (decide (PySem.W.kitOne K (.ref (He.ga K (errN i))) (.type "ValueError") = some true) &&
    (List.range 15).all fun j => decide (PySem.W.kitOne K (.ref (He.ga K (errN i))) (.ref (He.ga K (errN j))) = some (decide (i = j))))
def insB (K : PySem.W.Frag) (C : Addr) : Bool :=
  decide (PySem.W.findIn K (.ref C) "__class__" = some (some (.builtin "object.__class__"))) && (decide (PySem.W.specialIn K (.builtin "object.__class__") "__get__" = some (some (.builtin "getset_descriptor.__get__"))) &&
    (decide (PySem.W.takesIn K (.builtin "object.__class__") = some true) && (decide (PySem.W.mroIn K C (.type "object") = some true) && decide (PySem.W.kitOne K (.ref C) (.ref C) = some true))))
def nofB (K : PySem.W.Frag) (C f : Str) : Bool := decide (PySem.W.findIn K (.ref (He.ga K C)) f = some none)
def iniB (K : PySem.W.Frag) (C : Str) : Bool := decide (PySem.W.findIn K (.ref (He.ga K C)) "__init__" = some (some (.ref (He.ma K (He.ga K C) "__init__")))) && decide (PySem.W.typeIn K (.ref (He.ma K (He.ga K C) "__init__")) = some (.type "function"))
def ex (K : PySem.W.Frag) : Bool :=
  ((List.range 16).all fun i => kitB K i) && (insB K (He.ga K "Notes") && (((["InvalidStory", "InvalidBook", "WrongSkip"] : List Str).all fun C => oexB K (He.ga K C) && iniB K C) &&
    (nofB K "InvalidStory" "index" && (nofB K "InvalidBook" "index" && (nofB K "InvalidBook" "over" && (nofB K "WrongSkip" "name" && nofB K "WrongSkip" "at"))))))
structure TX (K : PySem.W.Frag) (mg : Str → Option Value) : Prop where
  d : He.SaysD fa fn K
  x : ex K = true
  glo : ∀ {y : Str}, (He.Fa.glo y).ok K = true → mg y = some (.ref (He.ga K y))
  fre : ∀ {y : Str}, (He.Fa.free y).ok K = true → mg y = none
section
variable {K : PySem.W.Frag} {mg : Str → Option Value}
theorem TX.g_name_place (T : TX K mg) : mg "name_place" = some (.ref (He.ga K "name_place")) := T.glo (T.d.fact 0 rfl)
theorem TX.g_order_key (T : TX K mg) : mg "order_key" = some (.ref (He.ga K "order_key")) := T.glo (T.d.fact 1 rfl)
theorem TX.g_without_zeros (T : TX K mg) : mg "without_zeros" = some (.ref (He.ga K "without_zeros")) := T.glo (T.d.fact 2 rfl)
theorem TX.g_Notes (T : TX K mg) : mg "Notes" = some (.ref (He.ga K "Notes")) := T.glo (T.d.fact 3 rfl)
theorem TX.g_SceneError (T : TX K mg) : mg "SceneError" = some (.ref (He.ga K "SceneError")) := T.glo (T.d.fact 4 rfl)
theorem TX.g_NoCommon (T : TX K mg) : mg "NoCommon" = some (.ref (He.ga K "NoCommon")) := T.glo (T.d.fact 5 rfl)
theorem TX.g_InvalidScene (T : TX K mg) : mg "InvalidScene" = some (.ref (He.ga K "InvalidScene")) := T.glo (T.d.fact 6 rfl)
theorem TX.g_InvalidAnswer (T : TX K mg) : mg "InvalidAnswer" = some (.ref (He.ga K "InvalidAnswer")) := T.glo (T.d.fact 7 rfl)
theorem TX.g_PlayOver (T : TX K mg) : mg "PlayOver" = some (.ref (He.ga K "PlayOver")) := T.glo (T.d.fact 8 rfl)
theorem TX.g_NoSkip (T : TX K mg) : mg "NoSkip" = some (.ref (He.ga K "NoSkip")) := T.glo (T.d.fact 9 rfl)
theorem TX.g_NotExact (T : TX K mg) : mg "NotExact" = some (.ref (He.ga K "NotExact")) := T.glo (T.d.fact 10 rfl)
theorem TX.g_TooWide (T : TX K mg) : mg "TooWide" = some (.ref (He.ga K "TooWide")) := T.glo (T.d.fact 11 rfl)
theorem TX.g_TooMany (T : TX K mg) : mg "TooMany" = some (.ref (He.ga K "TooMany")) := T.glo (T.d.fact 12 rfl)
theorem TX.g_InvalidText (T : TX K mg) : mg "InvalidText" = some (.ref (He.ga K "InvalidText")) := T.glo (T.d.fact 13 rfl)
theorem TX.g_InvalidCommand (T : TX K mg) : mg "InvalidCommand" = some (.ref (He.ga K "InvalidCommand")) := T.glo (T.d.fact 14 rfl)
theorem TX.g_NothingToUndo (T : TX K mg) : mg "NothingToUndo" = some (.ref (He.ga K "NothingToUndo")) := T.glo (T.d.fact 15 rfl)
theorem TX.g_NoPlay (T : TX K mg) : mg "NoPlay" = some (.ref (He.ga K "NoPlay")) := T.glo (T.d.fact 16 rfl)
theorem TX.g_InvalidStory (T : TX K mg) : mg "InvalidStory" = some (.ref (He.ga K "InvalidStory")) := T.glo (T.d.fact 17 rfl)
theorem TX.g_InvalidBook (T : TX K mg) : mg "InvalidBook" = some (.ref (He.ga K "InvalidBook")) := T.glo (T.d.fact 18 rfl)
theorem TX.g_WrongSkip (T : TX K mg) : mg "WrongSkip" = some (.ref (He.ga K "WrongSkip")) := T.glo (T.d.fact 19 rfl)
theorem TX.g_Lstir (T : TX K mg) : mg "_law_stir" = some (.ref (He.ga K "_law_stir")) := T.glo (T.d.fact 20 rfl)
theorem TX.g_Lstock (T : TX K mg) : mg "_law_stock" = some (.ref (He.ga K "_law_stock")) := T.glo (T.d.fact 21 rfl)
theorem TX.g_Ldraw (T : TX K mg) : mg "_law_draw" = some (.ref (He.ga K "_law_draw")) := T.glo (T.d.fact 22 rfl)
theorem TX.g_Lfar (T : TX K mg) : mg "_law_far" = some (.ref (He.ga K "_law_far")) := T.glo (T.d.fact 23 rfl)
theorem TX.g_Lpool (T : TX K mg) : mg "_law_pool" = some (.ref (He.ga K "_law_pool")) := T.glo (T.d.fact 24 rfl)
theorem TX.g_Lmarks (T : TX K mg) : mg "_law_marks" = some (.ref (He.ga K "_law_marks")) := T.glo (T.d.fact 25 rfl)
theorem TX.g_Lraise (T : TX K mg) : mg "_law_raise" = some (.ref (He.ga K "_law_raise")) := T.glo (T.d.fact 26 rfl)
theorem TX.g_Lraise_more (T : TX K mg) : mg "_law_raise_more" = some (.ref (He.ga K "_law_raise_more")) := T.glo (T.d.fact 27 rfl)
theorem TX.g_Lsame_number (T : TX K mg) : mg "_law_same_number" = some (.ref (He.ga K "_law_same_number")) := T.glo (T.d.fact 28 rfl)
theorem TX.g_Lfields (T : TX K mg) : mg "_law_fields" = some (.ref (He.ga K "_law_fields")) := T.glo (T.d.fact 29 rfl)
theorem TX.g_law (T : TX K mg) : mg "law" = some (.ref (He.ga K "law")) := T.glo (T.d.fact 30 rfl)
theorem TX.free_len (T : TX K mg) : mg "len" = none := T.fre (T.d.fact 31 rfl)
theorem TX.free_ord (T : TX K mg) : mg "ord" = none := T.fre (T.d.fact 32 rfl)
theorem TX.free_abs (T : TX K mg) : mg "abs" = none := T.fre (T.d.fact 33 rfl)
theorem TX.free_sum (T : TX K mg) : mg "sum" = none := T.fre (T.d.fact 34 rfl)
theorem TX.free_sorted (T : TX K mg) : mg "sorted" = none := T.fre (T.d.fact 35 rfl)
theorem TX.free_tuple (T : TX K mg) : mg "tuple" = none := T.fre (T.d.fact 36 rfl)
theorem TX.free_int (T : TX K mg) : mg "int" = none := T.fre (T.d.fact 37 rfl)
theorem TX.free_bool (T : TX K mg) : mg "bool" = none := T.fre (T.d.fact 38 rfl)
theorem TX.free_range (T : TX K mg) : mg "range" = none := T.fre (T.d.fact 39 rfl)
theorem TX.free_isinstance (T : TX K mg) : mg "isinstance" = none := T.fre (T.d.fact 40 rfl)
theorem TX.free_ValueError (T : TX K mg) : mg "ValueError" = none := T.fre (T.d.fact 41 rfl)
end
section
variable {K : PySem.W.Frag} {mg : Str → Option Value}
/-- a def of the text, as it stands, keeps a promise -/
structure OkF (P : Program) (w : World) (K : PySem.W.Frag) (mg : Str → Option Value) (base : Heap) (CX : CXT) (k : Nat) (p : Str × Option Str) (fd : FuncData) (ps : List Str) (sp : Sp) : Prop where
  fn : FnOk P w K mg base CX k (He.fAd K p) fd ps sp
  b : Binds K fd ps []
  k : PySem.W.keepIn K (.ref (He.fAd K p)) = true
def Ok (P : Program) (w : World) (K : PySem.W.Frag) (mg : Str → Option Value) (base : Heap) (CX : CXT) (k : Nat) (p : Str × Option Str) (ps : List Str) (sp : Sp) : Prop := ∃ fd, OkF P w K mg base CX k p fd ps sp
end
section
variable {X : Cx} {CX : CXT} {k : Nat} {f x : Str} {fd : FuncData} {ps : List Str} {sp : Sp} {E : XK} {p pos : Pos} {e : Expr} {es : List Expr} {ta : TA}
theorem pcall (O : OkF X.prog X.w X.K X.mg X.base CX k (x, none) fd ps sp) (hr : Room k X.A) (hg : Gl X x) (hm : X.mg x = some (.ref (He.ga X.K x))) (hx : Passes CX X E) (ha : PA X (e :: es) ta)
    (hdb : (x == ("__debug__" : Str)) = false := by decide) (he : starEach (e :: es) X.env = (false, eval e X.env) :: starEach es X.env := by rfl) (hpl : (backTo pos (starEach es X.env)).any (·.1) = false := by rfl) :
    PE X (.Call (.Name x p) (e :: es) [] pos) (tCall sp [] E ta) := pe_call O.fn hr hg hm O.k O.b .nil hx ha hdb he hpl
theorem pmake (M : Mk X.K (He.ga X.K x) (He.ma X.K (He.ga X.K x) "__init__")) (O : OkF X.prog X.w X.K X.mg X.base CX k (x, some "__init__") fd ps sp) (hr : Room (k + 1) X.A) (hg : Gl X x) (hm : X.mg x = some (.ref (He.ga X.K x))) (hx : Passes CX X E) (ha : PA X (e :: es) ta)
    (hdb : (x == ("__debug__" : Str)) = false := by decide) (he : starEach (e :: es) X.env = (false, eval e X.env) :: starEach es X.env := by rfl) (hpl : (backTo pos (starEach es X.env)).any (·.1) = false := by rfl) :
    PE X (.Call (.Name x p) (e :: es) [] pos) (tMake (He.ga X.K x) sp [] E ta) := pe_make M O.fn hr hg hm O.b .nil hx ha hdb he hpl
end
/-! ### facts by number -/
section
variable {K : PySem.W.Frag} {mg : Str → Option Value}
theorem TX.cN (T : TX K mg) : Cls K (He.ga K "Notes") := He.cls_ok (T.d.fact (42 + 0) rfl)
theorem TX.nH (T : TX K mg) : NoAttr K (He.ga K "Notes") "held" := He.noat_ok (T.d.fact (42 + 1) rfl)
theorem TX.nR (T : TX K mg) : NoAttr K (He.ga K "Notes") "rank" := He.noat_ok (T.d.fact (42 + 2) rfl)
theorem TX.mk_Notes (T : TX K mg) : Mk K (He.ga K "Notes") (He.ma K (He.ga K "Notes") "__init__") := He.mkr_ok (T.d.fact (42 + 3) rfl)
theorem TX.m_eq (T : TX K mg) : Meth K (He.ga K "Notes") "__eq__" (He.ma K (He.ga K "Notes") "__eq__") := He.meth_ok (T.d.fact (42 + 4) rfl)
theorem TX.kit (T : TX K mg) {i : Nat} (h : i < 16) : kitB K i = true := List.all_eq_true.mp (and2 T.x).1 i (List.mem_range.mpr h)
theorem TX.xc (T : TX K mg) {i : Nat} (h : i < 16) : XcD K (He.ga K (errN i)) := xcdB_ok (and2 (T.kit h)).1
theorem TX.ve (T : TX K mg) {i : Nat} (h : i < 16) : PySem.W.kitOne K (.ref (He.ga K (errN i))) (.type "ValueError") = some true := of_decide_eq_true (and2 (and2 (T.kit h)).2).1
theorem TX.is (T : TX K mg) {i j : Nat} (h : i < 16) (hj : j < 15) : PySem.W.kitOne K (.ref (He.ga K (errN i))) (.ref (He.ga K (errN j))) = some (decide (i = j)) :=
  of_decide_eq_true (List.all_eq_true.mp (and2 (and2 (T.kit h)).2).2 j (List.mem_range.mpr hj))
theorem TX.ins (T : TX K mg) : insB K (He.ga K "Notes") = true := (and2 (and2 T.x).2).1
theorem TX.oex (T : TX K mg) {C : Str} (h : C ∈ (["InvalidStory", "InvalidBook", "WrongSkip"] : List Str)) : OexC K (He.ga K C) := oexB_ok (and2 (List.all_eq_true.mp (and2 (and2 (and2 T.x).2).2).1 C h)).1
theorem TX.ini (T : TX K mg) {C : Str} (h : C ∈ (["InvalidStory", "InvalidBook", "WrongSkip"] : List Str)) : PySem.W.findIn K (.ref (He.ga K C)) "__init__" = some (some (.ref (He.ma K (He.ga K C) "__init__"))) ∧ PySem.W.typeIn K (.ref (He.ma K (He.ga K C) "__init__")) = some (.type "function") := by
  have q := and2 (and2 (List.all_eq_true.mp (and2 (and2 (and2 T.x).2).2).1 C h)).2
  exact ⟨of_decide_eq_true q.1, of_decide_eq_true q.2⟩
theorem TX.nof1 (T : TX K mg) : PySem.W.findIn K (.ref (He.ga K "InvalidStory")) "index" = some none := of_decide_eq_true (and2 (and2 (and2 (and2 T.x).2).2).2).1
theorem TX.nof2 (T : TX K mg) : PySem.W.findIn K (.ref (He.ga K "InvalidBook")) "index" = some none := of_decide_eq_true (and2 (and2 (and2 (and2 (and2 T.x).2).2).2).2).1
theorem TX.nof3 (T : TX K mg) : PySem.W.findIn K (.ref (He.ga K "InvalidBook")) "over" = some none := of_decide_eq_true (and2 (and2 (and2 (and2 (and2 (and2 T.x).2).2).2).2).2).1
theorem TX.nof4 (T : TX K mg) : PySem.W.findIn K (.ref (He.ga K "WrongSkip")) "name" = some none := of_decide_eq_true (and2 (and2 (and2 (and2 (and2 (and2 (and2 T.x).2).2).2).2).2).2).1
theorem TX.nof5 (T : TX K mg) : PySem.W.findIn K (.ref (He.ga K "WrongSkip")) "at" = some none := of_decide_eq_true (and2 (and2 (and2 (and2 (and2 (and2 (and2 T.x).2).2).2).2).2).2).2
/-- an error that is made with a text: the class, kept, raised -/
theorem TX.exc (T : TX K mg) (i : Nat) {C : Str} (h : fa[42 + 5 + i]? = some (.exc C)) : PySem.W.excIn K (He.ga K C) He.veBase "ValueError.__new__" = true ∧ PySem.W.keepIn K (.ref (He.ga K C)) = true ∧ PySem.W.subIn K (.ref (He.ga K C)) (.type "BaseException") = some true ∧
    PySem.W.typeIn K (.ref (He.ga K C)) = some (.type "type") := He.exc_ok (T.d.fact _ h)
theorem TX.exm (T : TX K mg) (i : Nat) {C : Str} (h : fa[42 + 18 + i]? = some (.exm C "SceneError" true)) : PySem.W.exmOne K (.ref (He.ga K C)) (.ref (He.ga K "SceneError")) = some true := He.exm_ok (T.d.fact _ h)
end
end Sk
set_option Elab.async false
set_option linter.all false
set_option maxRecDepth 100000
set_option maxHeartbeats 4000000
namespace Sk
open PySem L2
/-! ### heaps -/
/-- all that was tracked is as it was -/
abbrev Ex (H H' : Hp) : Prop := ∀ b o, H b = some o → H' b = some o
/-- all but a -/
def But (a : Addr) (H H' : Hp) : Prop := ∀ b o, H b = some o → b ≠ a → H' b = some o
theorem Ex.refl (H : Hp) : Ex H H := fun _ _ h => h
theorem Ex.trans {H H1 H2 : Hp} (a : Ex H H1) (b : Ex H1 H2) : Ex H H2 := fun x o h => b x o (a x o h)
theorem Ex.new {H H1 : Hp} {p : Addr} {o : HO} (e : Ex H H1) (h : H1 p = none) : Ex H (upd H1 p o) := fun a u q => by
  rw [upd_ne (ne_of_none (e a u q) h)]
  exact e a u q
theorem Ex.back {H H1 : Hp} {p : Addr} (e : Ex H H1) (h : H1 p = none) : H p = none := by
  cases q : H p with
  | none => rfl
  | some o =>
    rw [e p o q] at h
    cases h
/-- a new object, changed behind -/
theorem Ex.mut {H H1 : Hp} {p : Addr} {o : HO} (e : Ex H H1) (h : H p = none) : Ex H (upd H1 p o) := fun a u q => by
  rw [upd_ne (ne_of_none q h)]
  exact e a u q
theorem Ex.but {H H1 : Hp} (e : Ex H H1) (a : Addr) : But a H H1 := fun b o q _ => e b o q
theorem But.refl (a : Addr) (H : Hp) : But a H H := fun _ _ h _ => h
theorem But.trans {a : Addr} {H H1 H2 : Hp} (x : But a H H1) (y : But a H1 H2) : But a H H2 := fun b o h n => y b o (x b o h n) n
theorem But.ex {a : Addr} {H H1 H2 : Hp} (x : But a H H1) (y : Ex H1 H2) : But a H H2 := fun b o h n => y b o (x b o h n)
theorem But.upd {a : Addr} {H H1 : Hp} {o : HO} (x : But a H H1) : But a H (upd H1 a o) := fun b u h n => by
  rw [upd_ne n]
  exact x b u h n
/-- what was free and is not a was free before -/
theorem But.back {a : Addr} {H H1 : Hp} {p : Addr} (e : But a H H1) (h : H1 p = none) (n : p ≠ a) : H p = none := by
  cases q : H p with
  | none => rfl
  | some o =>
    rw [e p o q n] at h
    cases h
theorem But.new {a : Addr} {H H1 : Hp} {p : Addr} {o : HO} (e : But a H H1) (h : H1 p = none) : But a H (L2.upd H1 p o) := fun b u q n => by
  rw [upd_ne (ne_of_none (e b u q n) h)]
  exact e b u q n
theorem yes {A B : Prop} {i : Decidable (true = true)} (h : A) : @ite Prop (true = true) i A B := by
  rw [if_pos rfl]
  exact h
theorem nope {A B : Prop} {i : Decidable (false = true)} (h : B) : @ite Prop (false = true) i A B := by
  rw [if_neg Bool.false_ne_true]
  exact h
theorem small {n : Nat} (h : n ≤ 100000) : n ≤ sizeLine := Nat.le_trans h (by decide)
theorem small' {n : Nat} (h : n < 100000) : n < sizeLine := Nat.lt_of_lt_of_le h (by decide)
section
variable {P : Program} {w : World} {K : PySem.W.Frag} {mg : Str → Option Value} {base : Heap}
/-! ### name_place -/
def spPlace : Sp := fun vs H Q _ => ∃ s : Str, vs = [.str s] ∧ s.length ≤ 1000 ∧ ∀ i : Int, Q (.int i) H
theorem ok_place (T : TX K mg) : Ok P w K mg base CX0 1 a_name_place p_name_place spPlace := by
  obtain ⟨fd, F⟩ := T.d.def_ 0 (d := d_name_place) rfl
  have b : Binds K fd p_name_place [] := FunD.bindsN F fun _ _ _ _ _ _ us hl => match us, hl with | [_], _ => rfl
  refine ⟨fd, F.ok sc_name_place (fun vs H Q E h => ?_) (fun cdv A outer s H vs Q E hr h => ?_), b, F.kp⟩
  · obtain ⟨s, rfl, _⟩ := h
    rfl
  · obtain ⟨z, rfl, hz, k⟩ := h
    refine ⟨_, PSs.nox (pss_cons (ps_set (i := 1) sc_name_place.nd rfl (Or.inl rfl) pe_int) (pss_cons
      (ps_for PassesOwn.never rfl (pi_range1 rfl (T.free_range) (pa_cons pe_int pa_nil)) (pg_name (i := 2) sc_name_place.nd rfl (Or.inl rfl)) (pss_one
      (ps_if (pt_cmpR op_lt (pv 2) (pe_callB call_len_str rfl (T.free_len) (by decide +kernel) (pa_cons (pv 0) pa_nil)) (nomark _))
      (pss_one (ps_set (i := 1) sc_name_place.nd rfl (Or.inl rfl) (pe_op op_add (pe_op op_sub (pe_op op_add (pe_op op_mul (pv 1) pe_int) (pe_callB call_ord rfl (T.free_ord) (by decide +kernel) (pa_cons (pe_ix ix_str (pv 0) (pv 2) (fun _ _ => rfl)) pa_nil))) (pe_callB call_ord rfl (T.free_ord) (by decide +kernel) (pa_cons pe_str pa_nil))) pe_int)))
      (pss_one (ps_set (i := 1) sc_name_place.nd rfl (Or.inl rfl) (pe_op op_mul (pv 1) pe_int)))))) (pss_one (ps_ret (pe_un un_neg (pv 1)))))), ?_⟩
    -- place = 0
    refine ⟨_, rfl, by decide, by decide, for_range (lo := 0) (n := 8) (fun i σ H' => H' = H ∧ ∃ (p : Int) (v : Option V), σ = [some (.str z), some (.int p), v]) ⟨rfl, 0, none, rfl⟩ ?_ ?_⟩
    · rintro i σ H' hi ⟨rfl, p, v, rfl⟩
      refine ⟨_, rfl, _, rfl, _, rfl, small (by omega), _, _, rfl, rfl, _, rfl, ?_⟩
      refine ite2 (fun hc => ?_) (fun hc => ?_)
      · have hc : (0 : Int) + (i : Int) < (z.length : Int) := of_decide_eq_true hc
        have hl : i < z.cps.toList.length := by
          have e : z.length = z.cps.toList.length := by simp [Str.length]
          omega
        have ha : atI z.cps.toList ((0 : Int) + (i : Int)) = some z.cps.toList[i] := by
          rw [Int.zero_add]
          exact atI_nat (List.getElem?_eq_getElem hl)
        refine ⟨_, rfl, _, _, rfl, rfl, .inr ⟨by decide, by decide⟩, _, rfl, _, rfl, z, _, _, rfl, rfl, small (by omega), ha, _, rfl, rfl, _, _, rfl, rfl, _, rfl, rfl, _, _, rfl, rfl, _, _, rfl, rfl, rfl, _, _, rfl⟩
      · refine ⟨_, rfl, _, _, rfl, rfl, .inr ⟨by decide, by decide⟩, rfl, _, _, rfl⟩
    · rintro σ H' ⟨rfl, p, v, rfl⟩
      exact ⟨_, rfl, _, rfl, k _⟩
end
end Sk
set_option Elab.async false
set_option linter.all false
set_option maxRecDepth 100000
set_option maxHeartbeats 4000000
namespace Sk
open PySem L2
/-! ### dicts of texts and integers -/
def IntD (kvs : List (L2.Key × V)) : Prop := ∀ kv ∈ kvs, ∃ (s : Str) (i : Int), kv = (Sum.inr s, V.int i) ∧ s.length ≤ 1000
theorem IntD.nil : IntD [] := fun kv h => absurd h List.not_mem_nil
theorem IntD.at {kvs : List (L2.Key × V)} (h : IntD kvs) {i : Nat} {k : L2.Key} {v : V} (e : kvs[i]? = some (k, v)) : ∃ (s : Str) (j : Int), k = Sum.inr s ∧ v = V.int j ∧ s.length ≤ 1000 := by
  obtain ⟨s, j, q, hl⟩ := h (k, v) (List.mem_of_getElem? e)
  cases q
  exact ⟨s, j, rfl, rfl, hl⟩
theorem IntD.val {kvs : List (L2.Key × V)} (h : IntD kvs) {k : L2.Key} (m : k ∈ kvs.map (·.1)) : ∃ j : Int, valV kvs k = some (V.int j) := by
  obtain ⟨p, hp, e⟩ := List.mem_map.mp m
  cases q : valV kvs k with
  | none =>
    have z : (kvs.any fun kv => decide (kv.1 = k)) = true := List.any_eq_true.mpr ⟨p, hp, decide_eq_true e⟩
    rw [valV_any, q] at z
    cases z
  | some v =>
    unfold valV at q
    cases f : kvs.find? fun kv => decide (kv.1 = k) with
    | none =>
      rw [f] at q
      cases q
    | some kv =>
      rw [f] at q
      obtain ⟨s, j, e1, _⟩ := h kv (List.mem_of_find?_eq_some f)
      rw [e1] at q
      exact ⟨j, q.symm⟩
theorem IntD.keys : ∀ {kvs : List (L2.Key × V)}, IntD kvs → ∃ ks : List Str, kvs.map (·.1) = ks.map Sum.inr ∧ ks.length = kvs.length ∧ ∀ s ∈ ks, s.length ≤ 1000
  | [], _ => ⟨[], rfl, rfl, fun s m => absurd m List.not_mem_nil⟩
  | kv :: r, h => by
    obtain ⟨s, i, e, hl⟩ := h kv List.mem_cons_self
    obtain ⟨ks, e1, e2, e3⟩ := IntD.keys (kvs := r) fun q m => h q (List.mem_cons_of_mem _ m)
    refine ⟨s :: ks, ?_, congrArg Nat.succ e2, ?_⟩
    · rw [List.map_cons, List.map_cons, e1, e]
    · intro z m
      rcases List.mem_cons.mp m with m | m
      · rw [m]
        exact hl
      · exact e3 z m
theorem putK_mem {kvs : List (L2.Key × V)} {k : L2.Key} {v : V} {kv : L2.Key × V} (m : kv ∈ putK kvs k v) : kv ∈ kvs ∨ kv = (k, v) := by
  unfold putK at m
  split at m
  · obtain ⟨p, hp, e⟩ := List.mem_map.mp m
    by_cases c : p.1 = k
    · rw [if_pos c] at e
      exact .inr (by rw [← e, c])
    · rw [if_neg c] at e
      exact .inl (by rw [← e]; exact hp)
  · rcases List.mem_append.mp m with m | m
    · exact .inl m
    · exact .inr (List.mem_singleton.mp m)
theorem putK_len (kvs : List (L2.Key × V)) (k : L2.Key) (v : V) : (putK kvs k v).length ≤ kvs.length + 1 := by
  unfold putK
  split
  · rw [List.length_map]
    omega
  · rw [List.length_append]
    exact Nat.le_refl _
theorem IntD.put {kvs : List (L2.Key × V)} (h : IntD kvs) {s : Str} (hs : s.length ≤ 1000) (i : Int) : IntD (putK kvs (Sum.inr s) (V.int i)) := by
  intro kv m
  rcases putK_mem m with m | m
  · exact h kv m
  · exact ⟨s, i, m, hs⟩
/-- the lock goes: all that was tracked stands as before -/
theorem ex_unlock {H H' : Hp} {d D : Addr} {u : HO} {od : Obj} (hd : H d = some u) (hD : (upd H d (.frz od u)) D = none) (b : But D (upd H d (.frz od u)) H') : Ex H (upd H' d u) := by
  intro a o e
  by_cases c : a = d
  · rw [c, upd_same]
    rw [c, hd] at e
    exact e
  · have nD : a ≠ D := by
      intro z
      subst z
      rw [upd_ne c, e] at hD
      cases hD
    rw [upd_ne c]
    exact b a o (by rw [upd_ne c]; exact e) nD
/-- a comprehension of a dict over what is walked -/
theorem dc_it {J : It} {n : Nat} {G : Hp → Prop} {Y : Nat → Hp → V → Hp → Prop} (w : Walk J n G Y) {g : TG} {tt : TT} {tk tv : TE} {vs : List Nat} {σ : L2.St} {H1 : Hp} {D : Addr} {Qd : Hp → Prop} (Pv : Nat → Hp → Prop) (h0 : Pv 0 (upd H1 D (.dK []))) (hG : ∀ i H, i ≤ n → Pv i H → G H)
    (hs : ∀ i x H H', i < n → Pv i H → Y i H x H' → g x (wipe σ vs) H' fun σ2 H2 => wipe σ2 vs = wipe σ vs ∧ tt σ2 H2 fun b H3 =>
      if b = true then tk σ2 H3 fun y H4 => tv σ2 H4 fun z H5 => ∃ kvs k, y = kV k ∧ H5 D = some (.dK kvs) ∧ kvs.length < sizeLine ∧ Pv (i + 1) (upd H5 D (.dK (putK kvs k z))) else Pv (i + 1) H3) (hd : ∀ H, Pv n H → Qd H) :
    ∃ W : Nat → Nat → Hp → Prop, (∃ m, W 0 m (upd H1 D (.dK []))) ∧ ∀ i m H, W i m H →
      (J.stop i H ∧ Qd H) ∨ (J.go i H ∧ ∃ Nx : Hp → Prop, (∀ H', Nx H' → ∃ m', m' < m ∧ W (i + 1) m' H') ∧ ∀ x H', J.yld i H x H' → g x (wipe σ vs) H' fun σ2 H2 => wipe σ2 vs = wipe σ vs ∧ tt σ2 H2 fun b H3 =>
        if b = true then tk σ2 H3 fun y H4 => tv σ2 H4 fun z H5 => ∃ kvs k, y = kV k ∧ H5 D = some (.dK kvs) ∧ kvs.length < sizeLine ∧ Nx (upd H5 D (.dK (putK kvs k z))) else Nx H3) := by
  refine ⟨fun i m H => m = n - i ∧ i ≤ n ∧ Pv i H, ⟨n, rfl, Nat.zero_le _, h0⟩, ?_⟩
  intro i m H p
  obtain ⟨rfl, hi, p⟩ := p
  have q := hG i H hi p
  rcases Nat.lt_or_ge i n with hlt | hge
  · refine .inr ⟨w.goes i H hlt q, Pv (i + 1), fun H' p' => ⟨n - (i + 1), by omega, rfl, hlt, p'⟩, fun x H' y => ?_⟩
    exact hs i x H H' hlt p (w.yields i H x H' hlt q y)
  · have e : i = n := Nat.le_antisymm hi hge
    subst e
    exact .inl ⟨w.stops H q, hd H p⟩
section
variable {P : Program} {w : World} {K : PySem.W.Frag} {mg : Str → Option Value} {base : Heap}
/-! ### order_key -/
/-- the key by which notes are ordered -/
def RankAt (H : Hp) (t : Addr) : Prop := ∃ (tot : Int) (t2 : Addr) (rs : List Addr), H t = some (.tup [.int tot, .ref t2]) ∧ H t2 = some (.tup (rs.map V.ref)) ∧ ∀ r ∈ rs, ∃ (i j : Int) (b : Bool), H r = some (.tup [.int i, .int j, .bl b])
theorem RankAt.ex {H H' : Hp} {t : Addr} (h : RankAt H t) (e : Ex H H') : RankAt H' t := by
  obtain ⟨tot, t2, rs, h1, h2, h3⟩ := h
  refine ⟨tot, t2, rs, e _ _ h1, e _ _ h2, fun r m => ?_⟩
  obtain ⟨i, j, b, q⟩ := h3 r m
  exact ⟨i, j, b, e _ _ q⟩
def spKey : Sp := fun vs H Q _ => ∃ (d : Addr) (kvs : List (L2.Key × V)), vs = [.ref d] ∧ H d = some (.dK kvs) ∧ IntD kvs ∧ kvs.length ≤ 50 ∧ ∀ t H', Ex H H' → H t = none → RankAt H' t → Q (.ref t) H'
theorem ok_key (T : TX K mg) : Ok P w K mg base CX0 2 a_order_key p_order_key spKey := by
  obtain ⟨fd, F⟩ := T.d.def_ 1 (d := d_order_key) rfl
  obtain ⟨_, O_name_place⟩ := ok_place (P := P) (w := w) (base := base) T
  have b : Binds K fd p_order_key [] := FunD.bindsN F fun _ _ _ _ _ _ us hl => match us, hl with | [_], _ => rfl
  refine ⟨fd, F.ok sc_order_key (fun vs H Q E h => ?_) (fun cdv A outer s H vs Q E hr h => ?_), b, F.kp⟩
  · obtain ⟨d, kvs, rfl, _⟩ := h
    rfl
  · obtain ⟨d, kvs, rfl, hd, hI, hl, k⟩ := h
    obtain ⟨ks, ek, lk, hks⟩ := hI.keys
    have inK : ∀ s ∈ ks, (Sum.inr s : L2.Key) ∈ kvs.map (·.1) := fun s m => by
      rw [ek]
      exact List.mem_map.mpr ⟨s, m, rfl⟩
    refine ⟨_, PSs.nox (pss_cons (ps_set (i := 1) sc_order_key.nd rfl (Or.inl rfl) (pe_callB (cr_sum rfl) rfl (T.free_sum) (by decide +kernel) (pa_cons (pe_lock
      (pe_lc (own := [("name", 3)]) rfl sc_order_key.nd (pi_keys (pv 0)) (blkOk_by (own := [("name", 3)]) (N := n_order_key) (sc := defScope s_order_key) (by decide +kernel)) (fun _ _ _ _ _ => pg_name (i := 3) sc_order_key.nd rfl (Or.inl rfl)) (fun _ _ _ _ _ => pts_nil) (fun _ _ _ _ _ => (pe_callB call_abs rfl (T.free_abs) (by decide +kernel) (pa_cons (pe_dget (hu_of hr) (pv 0) (pv 3) (fun _ _ => rfl)) pa_nil))))) pa_nil)))
      (pss_cons (ps_setLc (i := 2) (own := [("name", 3)]) rfl sc_order_key.nd rfl rfl (sw_true rfl rfl rfl (by decide +kernel)) (pi_list (pe_callB (call_sortedD rfl) rfl (T.free_sorted) (by decide +kernel) (pa_cons (pv 0) pa_nil))) (blkOk_by (own := [("name", 3)]) (N := n_order_key) (sc := defScope s_order_key) (by decide +kernel)) (fun _ _ _ _ _ => pg_name (i := 3) sc_order_key.nd rfl (Or.inl rfl)) (fun _ _ _ _ _ => pts_nil) (fun _ _ _ _ _ => (pe_tup (pa_cons (pcall O_name_place (hr.mono (by decide)) rfl (T.g_name_place) pass0 (pa_cons (pv 3) pa_nil)) (pa_cons (pe_callB call_abs rfl (T.free_abs) (by decide +kernel) (pa_cons (pe_dget (hu_of hr) (pv 0) (pv 3) (fun _ _ => rfl)) pa_nil)) (pa_cons (pe_cmpR op_lt (pe_dget (hu_of hr) (pv 0) (pv 3) (fun _ _ => rfl)) pe_int (nomark _)) pa_nil))))))
      (pss_one (ps_ret (pe_tup (pa_cons (pv 1) (pa_cons (pe_callTy call_tuple_of rfl (T.free_tuple) (by decide +kernel) (pa_cons (pv 2) pa_nil)) pa_nil))))))), ?_⟩
    -- the sum
    refine ⟨d, _, hd, trivial, fun od => ⟨_, rfl, d, od, rfl, .inl ⟨kvs, upd_same, fun D hD => ?_⟩⟩⟩
    have nd : d ≠ D := ne_of_none upd_same hD
    refine lc_it walk_keys (fun i H' => ∃ ns : List Int, H' D = some (.lst (ns.map V.int)) ∧ ns.length = i ∧ But D (upd H d (.frz od (.dK kvs))) H') ⟨[], upd_same, rfl, (But.refl _ _).new hD⟩ (fun i H' _ p => ?_) ?_ ?_
    · obtain ⟨ns, _, _, e⟩ := p
      exact e d _ upd_same nd
    · rintro i x H1 H2 hi ⟨ns, hn, hnl, e⟩ ⟨rfl, ky, v, hv, rfl⟩
      obtain ⟨s, j, rfl, rfl, hs⟩ := hI.at hv
      obtain ⟨j', hj⟩ := hI.val (k := Sum.inr s) (List.mem_map.mpr ⟨_, List.mem_of_getElem? hv, rfl⟩)
      refine ⟨rfl, ?_⟩
      refine ⟨_, rfl, _, rfl, d, V.int j', rfl, ?_, j', rfl, _, hn, ?_, ns ++ [if j' < 0 then -j' else j'], ?_, ?_, e.upd⟩
      · exact .inl ⟨kvs, Sum.inr s, .inr ⟨od, e d _ upd_same nd⟩, rfl, hj.symm⟩
      · rw [List.length_map]
        exact small' (by omega)
      · rw [upd_same, List.map_append]
        rfl
      · rw [List.length_append, hnl]
        rfl
    · rintro H' ⟨ns, hn, hnl, e⟩
      refine ⟨e d _ upd_same nd, D, ns, rfl, SqL.of (by rw [upd_ne nd.symm]; exact hn), ?_⟩
      have e1 : Ex H (upd H' d (.dK kvs)) := ex_unlock hd hD e
      generalize upd H' d (.dK kvs) = H1 at e1
      -- marks
      refine ⟨_, rfl, d, kvs, ks, rfl, .inl (e1 d _ hd), ek, by omega, fun ys p hp _ hnp => ⟨p, rfl, ⟨_, SqL.of upd_same⟩, fun D2 hD2 => ?_⟩⟩
      have e2 : Ex H (upd H1 p (.lst (ys.map V.str))) := e1.new hnp
      have hyl : ys.length ≤ 50 := by
        have := hp.length_eq
        omega
      have nD2 : p ≠ D2 := ne_of_none upd_same hD2
      refine lc_list (K := K) (a := p) (xs := ys.map V.str) (fun i H' => ∃ rs : List Addr, H' D2 = some (.lst (rs.map V.ref)) ∧ rs.length = i ∧ But D2 (upd H1 p (.lst (ys.map V.str))) H' ∧ ∀ r ∈ rs, ∃ (i j : Int) (b : Bool), H' r = some (.tup [.int i, .int j, .bl b]))
        ⟨[], upd_same, rfl, (But.refl _ _).new hD2, fun r m => absurd m List.not_mem_nil⟩ (fun i H' _ q => ?_) ?_ ?_
      · obtain ⟨rs, _, _, e, _⟩ := q
        exact SqL.of (e p _ upd_same nD2)
      · rintro i x H2 hx ⟨rs, hr1, hrl, e, hrr⟩
        rw [List.getElem?_map] at hx
        obtain ⟨s, hs, rfl⟩ := Option.map_eq_some_iff.mp hx
        have ms : s ∈ ks := hp.mem_iff.mp (List.mem_of_getElem? hs)
        obtain ⟨j', hj⟩ := hI.val (inK s ms)
        have hdd : H2 d = some (.dK kvs) := by
          refine e d _ (e2 d _ hd) ?_
          intro z
          rw [z] at hd
          rw [e2 _ _ hd] at hD2
          cases hD2
        have dg : DGet H2 d (V.str s) (some (V.int j')) := .inl ⟨kvs, Sum.inr s, .inl hdd, rfl, hj.symm⟩
        have hil : i < ys.length := (List.getElem?_eq_some_iff.mp hs).1
        refine ⟨rfl, ?_⟩
        refine ⟨_, rfl, s, rfl, hks s ms, fun z => ⟨_, rfl, _, rfl, d, _, rfl, dg, j', rfl, _, rfl, _, rfl, d, _, rfl, dg, _, _, rfl, rfl, small (by show 3 ≤ 100000; decide), fun q hq => ?_⟩⟩
        have nq : q ≠ D2 := by
          intro z2
          rw [z2, hr1] at hq
          cases hq
        refine ⟨rs.map V.ref, by rw [upd_ne nq.symm]; exact hr1, by rw [List.length_map]; exact small' (by omega), rs ++ [q], ?_, by rw [List.length_append, hrl]; rfl, (e.new hq).upd, ?_⟩
        · rw [upd_same, List.map_append]
          rfl
        · intro r m
          rcases List.mem_append.mp m with m | m
          · obtain ⟨i', j2, b', h'⟩ := hrr r m
            have n1 : r ≠ D2 := by
              intro z2
              rw [z2, hr1] at h'
              cases h'
            have n2 : r ≠ q := by
              intro z2
              rw [z2, hq] at h'
              cases h'
            exact ⟨i', j2, b', by rw [upd_ne n1, upd_ne n2]; exact h'⟩
          · rw [List.mem_singleton.mp m]
            exact ⟨z, _, _, by rw [upd_ne nq, upd_same]⟩
      · rintro H2 ⟨rs, hr1, hrl, e, hrr⟩
        -- (total, tuple(marks))
        refine ⟨_, rfl, _, rfl, D2, _, rfl, .inl ⟨SqL.of hr1, fun t2 ht2 => ⟨small (by show 2 ≤ 100000; decide), fun t ht => ?_⟩⟩⟩
        have fD2 : H D2 = none := e2.back hD2
        have e3 : Ex H H2 := fun a o q => e a o (e2 a o q) (ne_of_none q fD2)
        have n1 : t2 ≠ t := ne_of_none upd_same ht
        refine k t _ (((e3.new ht2)).new ht) ((e3.new ht2).back ht) ⟨_, t2, rs, upd_same, ?_, fun r m => ?_⟩
        · rw [upd_ne n1, upd_same]
        · obtain ⟨i', j2, b', h'⟩ := hrr r m
          have n2 : r ≠ t2 := ne_of_none h' ht2
          have n3 : r ≠ t := by
            refine ne_of_none (o := .tup [.int i', .int j2, .bl b']) ?_ ht
            rw [upd_ne n2]
            exact h'
          exact ⟨i', j2, b', by rw [upd_ne n3, upd_ne n2]; exact h'⟩
/-! ### without_zeros -/
def spZero : Sp := fun vs H Q _ => ∃ (d : Addr) (kvs : List (L2.Key × V)), vs = [.ref d] ∧ H d = some (.dK kvs) ∧ IntD kvs ∧ kvs.length ≤ 50 ∧ ∀ p kvs' H', Ex H H' → H p = none → H' p = some (.dK kvs') → IntD kvs' → kvs'.length ≤ kvs.length → Q (.ref p) H'
theorem ok_zero (T : TX K mg) : Ok P w K mg base CX0 1 a_without_zeros p_without_zeros spZero := by
  obtain ⟨fd, F⟩ := T.d.def_ 2 (d := d_without_zeros) rfl
  have b : Binds K fd p_without_zeros [] := FunD.bindsN F fun _ _ _ _ _ _ us hl => match us, hl with | [_], _ => rfl
  refine ⟨fd, F.ok sc_without_zeros (fun vs H Q E h => ?_) (fun cdv A outer s H vs Q E hr h => ?_), b, F.kp⟩
  · obtain ⟨d, kvs, rfl, _⟩ := h
    rfl
  · obtain ⟨d, kvs, rfl, hd, hI, hl, k⟩ := h
    refine ⟨_, PSs.nox (pss_one (ps_ret (pe_lock
      (pe_dc (own := [("name", 1)]) rfl sc_without_zeros.nd (pi_keys (pv 0)) (blkOk_by (own := [("name", 1)]) (N := n_without_zeros) (sc := defScope s_without_zeros) (by decide +kernel)) (fun _ _ _ _ _ => pg_name (i := 1) sc_without_zeros.nd rfl (Or.inl rfl)) (fun _ _ _ _ _ => pts_one (pt_cmpR op_ne (pe_dget (hu_of hr) (pv 0) (pv 1) (fun _ _ => rfl)) pe_int (nomark _))) (fun _ _ _ _ _ => (pv 1)) (fun _ _ _ _ _ => (pe_dget (hu_of hr) (pv 0) (pv 1) (fun _ _ => rfl))))))), ?_⟩
    refine ⟨d, _, hd, trivial, fun od => ⟨_, rfl, d, od, rfl, .inl ⟨kvs, upd_same, fun D hD => ?_⟩⟩⟩
    have nd : d ≠ D := ne_of_none upd_same hD
    refine dc_it walk_keys (fun i H' => ∃ ls : List (L2.Key × V), H' D = some (.dK ls) ∧ IntD ls ∧ ls.length ≤ i ∧ But D (upd H d (.frz od (.dK kvs))) H') ⟨[], upd_same, IntD.nil, Nat.le_refl _, (But.refl _ _).new hD⟩ (fun i H' _ p => ?_) ?_ ?_
    · obtain ⟨ns, _, _, _, e⟩ := p
      exact e d _ upd_same nd
    · rintro i x H1 H2 hi ⟨ls, hn, hI2, hnl, e⟩ ⟨rfl, ky, v, hv, rfl⟩
      obtain ⟨s, j, rfl, rfl, hs⟩ := hI.at hv
      obtain ⟨j', hj⟩ := hI.val (k := Sum.inr s) (List.mem_map.mpr ⟨_, List.mem_of_getElem? hv, rfl⟩)
      have dg : DGet H2 d (V.str s) (some (V.int j')) := .inl ⟨kvs, Sum.inr s, .inr ⟨od, e d _ upd_same nd⟩, rfl, hj.symm⟩
      refine ⟨rfl, _, rfl, _, rfl, d, _, rfl, dg, rfl, _, rfl, ?_⟩
      refine ite2 (fun hc => ?_) (fun hc => ?_)
      · refine ⟨_, rfl, _, rfl, _, rfl, d, _, rfl, dg, ls, Sum.inr s, rfl, hn, small' (by omega), _, upd_same, hI2.put hs j', ?_, e.upd⟩
        have := putK_len ls (Sum.inr s) (V.int j')
        omega
      · exact ⟨ls, hn, hI2, by omega, e⟩
    · rintro H' ⟨ls, hn, hI2, hnl, e⟩
      have nD : D ≠ d := nd.symm
      refine ⟨e d _ upd_same nd, ?_⟩
      refine k D ls _ (ex_unlock hd hD e) ?_ (by rw [upd_ne nD]; exact hn) hI2 hnl
      rw [upd_ne nD] at hD
      exact hD
/-! ### Notes -/
def nfs (d t : Addr) : List (Str × V) := [("held", .ref d), ("rank", .ref t)]
/-- Notes at n -/
def NotesAt (K : PySem.W.Frag) (H : Hp) (n : Addr) : Prop := ∃ dx d t, H n = some (.ins (He.ga K "Notes") dx (nfs d t)) ∧ RankAt H t
theorem NotesAt.ex {H H' : Hp} {n : Addr} (h : NotesAt K H n) (e : Ex H H') : NotesAt K H' n := by
  obtain ⟨dx, d, t, h1, h2⟩ := h
  exact ⟨dx, d, t, e _ _ h1, h2.ex e⟩
theorem hr1 : ¬ (("held" : Str) = "rank") := by decide +kernel
theorem put2 (d e : V) : putF ("held" : Str) e [(("held" : Str), d)] = [(("held" : Str), e)] := by
  show (if ("held" : Str) = "held" then [(("held" : Str), e)] else (("held" : Str), d) :: putF "held" e []) = [(("held" : Str), e)]
  rw [if_pos rfl]
theorem put3 (d t : Addr) : putF ("rank" : Str) (V.ref t) [(("held" : Str), V.ref d)] = nfs d t := by
  show (if ("held" : Str) = "rank" then [(("held" : Str), V.ref t)] else (("held" : Str), V.ref d) :: putF "rank" (V.ref t) []) = nfs d t
  rw [if_neg hr1]
  rfl
theorem look_held (d : V) (r : List (Str × V)) : ((("held" : Str), d) :: r).lookup ("held" : Str) = some d := by
  simp [List.lookup]
theorem look_rank (d t : Addr) : (nfs d t).lookup ("rank" : Str) = some (V.ref t) := by
  have q : (("rank" : Str) == "held") = false := by decide +kernel
  simp [nfs, List.lookup, q]
def spNotes (K : PySem.W.Frag) : Sp := fun vs H Q _ => ∃ (n dx d : Addr) (kvs : List (L2.Key × V)), vs = [.ref n, .ref d] ∧ H n = some (.ins (He.ga K "Notes") dx []) ∧ H d = some (.dK kvs) ∧ IntD kvs ∧ kvs.length ≤ 50 ∧ ∀ H', But n H H' → NotesAt K H' n → Q .non H'
theorem ok_notes (T : TX K mg) : Ok P w K mg base CX0 3 a_Notes_init p_Notes_init (spNotes K) := by
  obtain ⟨fd, F⟩ := T.d.def_ 3 (d := d_Notes_init) rfl
  obtain ⟨_, O_order_key⟩ := ok_key (P := P) (w := w) (base := base) T
  obtain ⟨_, O_without_zeros⟩ := ok_zero (P := P) (w := w) (base := base) T
  have b : Binds K fd p_Notes_init [] := by
    obtain ⟨ds, r, b⟩ := FunD.binds1 (ps := p_Notes_init) F 2 1 (List.cons_ne_nil _ _) rfl (fun _ _ _ _ _ _ _ us its hl hi => match us, hl, its, hi with | [_, _], _, [_], _ => ⟨_, rfl, rfl⟩)
    cases r
    exact b
  refine ⟨fd, F.ok sc_Notes_init (fun vs H Q E h => ?_) (fun cdv A outer s H vs Q E hr h => ?_), b, F.kp⟩
  · obtain ⟨n, dx, d, kvs, rfl, _⟩ := h
    rfl
  · obtain ⟨n, dx, d, kvs, rfl, hn, hd, hI, hl, k⟩ := h
    refine ⟨_, PSs.nox (pss_cons (ps_fld (pv 0) pe_dnewK rfl) (pss_cons (ps_if (pt_cmpR op_notN (pv 1) pe_non (nomark _))
      (pss_one (ps_fld (pv 0) (pcall O_without_zeros (hr.mono (by decide)) rfl (T.g_without_zeros) pass0 (pa_cons (pv 1) pa_nil)) rfl)) pss_nil)
      (pss_one (ps_fld (pv 0) (pcall O_order_key (hr.mono (by decide)) rfl (T.g_order_key) pass0 (pa_cons (pe_fld (pv 0) rfl) pa_nil)) rfl)))), ?_⟩
    intro p hp
    have n1 : n ≠ p := ne_of_none hn hp
    have n2 : d ≠ p := ne_of_none hd hp
    have n3 : n ≠ d := ne_of hn hd (by intro z; cases z)
    refine ⟨_, rfl, n, _, dx, [], rfl, (by rw [upd_ne n1]; exact hn), T.cN, T.nH, (by show 0 < 1000; decide), _, rfl, rfl, _, rfl, iteT ?_⟩
    -- self.held = without_zeros(values)
    refine ⟨_, rfl, d, kvs, rfl, (by rw [upd_ne n3.symm, upd_ne n2]; exact hd), hI, hl, fun q kvs' H1 e1 hq hq1 hI1 hl1 => ?_⟩
    have b1 : But n H H1 := ((But.refl n H).new hp).upd.ex e1
    have hn1 : H1 n = some (.ins (He.ga K "Notes") dx [(("held" : Str), .ref p)]) := e1 n _ upd_same
    have n4 : q ≠ n := by
      intro z
      rw [z, hn1] at hq1
      cases hq1
    refine ⟨_, rfl, n, _, dx, _, rfl, hn1, T.cN, T.nH, (by show 1 < 1000; decide), ?_⟩
    rw [put2]
    -- self.rank = order_key(self.held)
    refine ⟨_, rfl, n, _, dx, _, _, rfl, upd_same, T.cN, T.nH, look_held _ _, q, kvs', rfl, (by rw [upd_ne n4]; exact hq1), hI1, by omega, fun t H2 e2 ht hR => ?_⟩
    refine ⟨_, rfl, n, _, dx, _, rfl, e2 n _ upd_same, T.cN, T.nR, (by show 1 < 1000; decide), ?_⟩
    rw [put3]
    refine k _ (b1.upd.ex e2).upd ⟨dx, q, t, upd_same, ?_⟩
    obtain ⟨tot, t2, rs, h1, h2, h3⟩ := hR
    have ni : H2 n = some (.ins (He.ga K "Notes") dx [(("held" : Str), .ref q)]) := e2 n _ upd_same
    have off : ∀ {a : Addr} {xs : List V}, H2 a = some (.tup xs) → (upd H2 n (.ins (He.ga K "Notes") dx (nfs q t))) a = some (.tup xs) := by
      intro a xs h
      rw [upd_ne (ne_of h ni (by intro z; cases z))]
      exact h
    refine ⟨tot, t2, rs, off h1, off h2, fun r m => ?_⟩
    obtain ⟨i, j, b', h'⟩ := h3 r m
    exact ⟨i, j, b', off h'⟩
/-- the key as data -/
theorem RankAt.data {H : Hp} {t : Addr} (h : RankAt H t) : ∃ d : PyData, Dp K H (.ref t) d ∧ SeqAt.shaped d = true := by
  obtain ⟨tot, t2, rs, h1, h2, h3⟩ := h
  have all : ∀ rs : List Addr, (∀ r ∈ rs, ∃ (i j : Int) (b : Bool), H r = some (.tup [.int i, .int j, .bl b])) → ∃ ds : List PyData, DpAll K H (rs.map V.ref) ds ∧ PyData.canLayAll0 ds = true ∧ ∀ d ∈ ds, ∃ i j b, d = .tuple [.int i, .int j, .bool b] := by
    intro rs
    induction rs with
    | nil => exact fun _ => ⟨[], .nil, rfl, fun d m => absurd m List.not_mem_nil⟩
    | cons r rs ih =>
      intro h
      obtain ⟨i, j, b, e⟩ := h r List.mem_cons_self
      obtain ⟨ds, a, c, z⟩ := ih fun q m => h q (List.mem_cons_of_mem _ m)
      refine ⟨.tuple [.int i, .int j, .bool b] :: ds, .cons (.tup (SqT.of e) (.cons (.int i) (.cons (.int j) (.cons (.bl b) .nil)))) a, ?_, ?_⟩
      · show (_ && PyData.canLayAll0 ds) = true
        rw [c] <;> rfl
      · intro d m
        rcases List.mem_cons.mp m with m | m
        · exact ⟨i, j, b, m⟩
        · exact z d m
  obtain ⟨ds, a, c, z⟩ := all rs h3
  refine ⟨.tuple [.int tot, .tuple ds], .tup (SqT.of h1) (.cons (.int tot) (.cons (.tup (SqT.of h2) a) .nil)), ?_⟩
  have dep : ∀ ds : List PyData, (∀ d ∈ ds, ∃ i j b, d = .tuple [.int i, .int j, .bool b]) → PyData.depthAll ds ≤ 1 := by
    intro ds
    induction ds with
    | nil => exact fun _ => Nat.zero_le _
    | cons d ds ih =>
      intro h
      obtain ⟨i, j, b, e⟩ := h d List.mem_cons_self
      have q := ih fun x m => h x (List.mem_cons_of_mem _ m)
      rw [e]
      show max (PyData.depth (.tuple [.int i, .int j, .bool b])) (PyData.depthAll ds) ≤ 1
      exact Nat.max_le.mpr ⟨by show max 0 (max 0 (max 0 0)) + 1 ≤ 1; decide, q⟩
  have hq := dep ds z
  have e1 : (PyData.tuple [.int tot, .tuple ds]).canLay0 = true := by
    show (true && (PyData.canLayAll0 ds && true)) = true
    rw [c] <;> rfl
  have e2 : (PyData.tuple [.int tot, .tuple ds]).depth ≤ 64 := by
    show max 0 (max (PyData.depthAll ds + 1) 0) + 1 ≤ 64
    omega
  show (_ && _) = true
  rw [e1, decide_eq_true e2]
  rfl
end
end Sk
set_option Elab.async false
set_option linter.all false
set_option maxRecDepth 100000
set_option maxHeartbeats 4000000
namespace Sk
open PySem L2
section
variable {P : Program} {w : World} {K : PySem.W.Frag} {mg : Str → Option Value} {base : Heap}
/-! ### the own == of Notes, of Notes and themselves -/
def SameN (K : PySem.W.Frag) (a b : Addr) (H : Hp) : Prop := a = b ∧ NotesAt K H a
theorem ty_notes (T : TX K mg) {H : Hp} {n : Addr} (h : NotesAt K H n) : TyX K H (.ref n) (.ref (He.ga K "Notes")) := by
  obtain ⟨dx, d, t, h1, _⟩ := h
  have I := T.ins
  obtain ⟨i1, I⟩ := and2 I
  obtain ⟨i2, I⟩ := and2 I
  obtain ⟨i3, I⟩ := and2 I
  obtain ⟨i4, _⟩ := and2 I
  exact .base (.ins h1 T.cN (of_decide_eq_true i1) (of_decide_eq_true i2) (of_decide_eq_true i3) (of_decide_eq_true i4))
theorem is_notes (T : TX K mg) : PySem.W.kitOne K (.ref (He.ga K "Notes")) (.ref (He.ga K "Notes")) = some true := by
  have I := T.ins
  obtain ⟨_, I⟩ := and2 I
  obtain ⟨_, I⟩ := and2 I
  obtain ⟨_, I⟩ := and2 I
  obtain ⟨_, i5⟩ := and2 I
  exact of_decide_eq_true i5
theorem ok_eq (T : TX K mg) : Ok P w K mg base CX0 1 a_Notes_eq p_Notes_eq (spEq (SameN K)) := by
  obtain ⟨fd, F⟩ := T.d.def_ 4 (d := d_Notes_eq) rfl
  have b : Binds K fd p_Notes_eq [] := FunD.bindsN F fun _ _ _ _ _ _ us hl => match us, hl with | [_, _], _ => rfl
  refine ⟨fd, F.ok sc_Notes_eq (fun vs H Q E h => ?_) (fun cdv A outer s H vs Q E hr h => ?_), b, F.kp⟩
  · obtain ⟨a, b, rfl, _⟩ := h
    rfl
  · obtain ⟨n, n', rfl, ⟨rfl, hN⟩, k⟩ := h
    refine ⟨_, PSs.nox (pss_cons
      (ps_if (pt_not (pt_val (pe_callB call_isi rfl (T.free_isinstance) (by decide +kernel) (pa_cons (pv 1) (pa_cons (pe_glob (v := .ref (He.ga K "Notes")) rfl (T.g_Notes) rfl) pa_nil)))))
      (pss_one (ps_ret pe_bl)) pss_nil) (pss_one (ps_ret (pe_cmpR (op_eqD hr.units) (pe_fld (pv 0) rfl) (pe_fld (pv 1) rfl) (nomark _))))), ?_⟩
    refine ⟨_, rfl, _, _, _, _, true, rfl, .own _, ty_notes T hN, is_notes T, true, rfl, ?_⟩
    refine nope ?_
    obtain ⟨dx, d, t, h1, h2⟩ := hN
    obtain ⟨pd, hd, hs⟩ := h2.data (K := K)
    refine ⟨_, rfl, n, _, dx, _, _, rfl, h1, T.cN, T.nR, look_rank _ _, _, rfl, n, _, dx, _, _, rfl, h1, T.cN, T.nR, look_rank _ _, pd, pd, hd, hd, hs, hs, ?_⟩
    rw [SeqAt.eqv_refl pd (SeqAt.canLay_of_shaped hs)]
    exact k H (Ex.refl H)
/-! ### the errors with fields -/
/-- what __init__ leaves of an exception at a of the class at C: its dict d, new, with the fields fs -/
def spIni1 (K : PySem.W.Frag) (C : Str) (f : Str) : Sp := fun vs H Q _ => ∃ (a : Addr) (v : V), vs = [.ref a, v] ∧ H a = some (exo a (He.ga K C) none) ∧ ∀ d, H d = none → d ≠ a → Q .non (upd (upd H d (exd d [(f, v)])) a (exo a (He.ga K C) (some d)))
def spIni2 (K : PySem.W.Frag) (C : Str) (f g : Str) : Sp := fun vs H Q _ => ∃ (a : Addr) (v u : V), vs = [.ref a, v, u] ∧ H a = some (exo a (He.ga K C) none) ∧
  ∀ d, H d = none → d ≠ a → Q .non (upd (upd (upd H d (exd d [(f, v)])) a (exo a (He.ga K C) (some d))) d (exd d [(g, u), (f, v)]))
theorem ok_iS (T : TX K mg) : Ok P w K mg base CX0 1 a_InvalidStory_init p_InvalidStory_init (spIni1 K "InvalidStory" "index") := by
  obtain ⟨fd, F⟩ := T.d.def_ 5 (d := d_InvalidStory_init) rfl
  have b : Binds K fd p_InvalidStory_init [] := FunD.bindsN F fun _ _ _ _ _ _ us hl => match us, hl with | [_, _], _ => rfl
  refine ⟨fd, F.ok sc_InvalidStory_init (fun vs H Q E h => ?_) (fun cdv A outer s H vs Q E hr h => ?_), b, F.kp⟩
  · obtain ⟨a, b, rfl, _⟩ := h
    rfl
  · obtain ⟨a, v, rfl, ha, k⟩ := h
    refine ⟨_, PSs.nox (pss_one (ps_ost (pv 0) (pv 1))), ?_⟩
    exact ⟨_, rfl, _, rfl, a, _, rfl, T.oex (C := "InvalidStory") (by decide), T.nof1, .inl ⟨ha, fun d hd hn => k d hd hn⟩⟩
theorem ok_iB (T : TX K mg) : Ok P w K mg base CX0 1 a_InvalidBook_init p_InvalidBook_init (spIni2 K "InvalidBook" "index" "over") := by
  obtain ⟨fd, F⟩ := T.d.def_ 6 (d := d_InvalidBook_init) rfl
  have b : Binds K fd p_InvalidBook_init [] := FunD.bindsN F fun _ _ _ _ _ _ us hl => match us, hl with | [_, _, _], _ => rfl
  refine ⟨fd, F.ok sc_InvalidBook_init (fun vs H Q E h => ?_) (fun cdv A outer s H vs Q E hr h => ?_), b, F.kp⟩
  · obtain ⟨a, b, c, rfl, _⟩ := h
    rfl
  · obtain ⟨a, v, u, rfl, ha, k⟩ := h
    refine ⟨_, PSs.nox (pss_cons (ps_ost (pv 0) (pv 1)) (pss_one (ps_ost (pv 0) (pv 2)))), ?_⟩
    refine ⟨_, rfl, _, rfl, a, _, rfl, T.oex (C := "InvalidBook") (by decide), T.nof2, .inl ⟨ha, fun d hd hn => ?_⟩⟩
    exact ⟨_, rfl, _, rfl, a, _, rfl, T.oex (C := "InvalidBook") (by decide), T.nof3, .inr ⟨d, _, upd_same, (by rw [upd_ne hn, upd_same]), (by show 1 ≤ 900; decide), k d hd hn⟩⟩
theorem ok_iW (T : TX K mg) : Ok P w K mg base CX0 1 a_WrongSkip_init p_WrongSkip_init (spIni2 K "WrongSkip" "name" "at") := by
  obtain ⟨fd, F⟩ := T.d.def_ 7 (d := d_WrongSkip_init) rfl
  have b : Binds K fd p_WrongSkip_init [] := FunD.bindsN F fun _ _ _ _ _ _ us hl => match us, hl with | [_, _, _], _ => rfl
  refine ⟨fd, F.ok sc_WrongSkip_init (fun vs H Q E h => ?_) (fun cdv A outer s H vs Q E hr h => ?_), b, F.kp⟩
  · obtain ⟨a, b, c, rfl, _⟩ := h
    rfl
  · obtain ⟨a, v, u, rfl, ha, k⟩ := h
    refine ⟨_, PSs.nox (pss_cons (ps_ost (pv 0) (pv 1)) (pss_one (ps_ost (pv 0) (pv 2)))), ?_⟩
    refine ⟨_, rfl, _, rfl, a, _, rfl, T.oex (C := "WrongSkip") (by decide), T.nof4, .inl ⟨ha, fun d hd hn => ?_⟩⟩
    exact ⟨_, rfl, _, rfl, a, _, rfl, T.oex (C := "WrongSkip") (by decide), T.nof5, .inr ⟨d, _, upd_same, (by rw [upd_ne hn, upd_same]), (by show 1 ≤ 900; decide), k d hd hn⟩⟩
/-! ### the raising -/
/-- what an error of the number i holds -/
def Fld (H : Hp) (i : Nat) (d : Option Addr) (n : V) (b : Bool) (nm : Str) (no : Addr) : Prop :=
  ((i < 12 ∨ i = 15) ∧ d = none) ∨ (i = 12 ∧ ∃ dd, d = some dd ∧ H dd = some (.xd [(("index" : Str), n)])) ∨ (i = 13 ∧ ∃ dd, d = some dd ∧ H dd = some (.xd [(("over" : Str), .bl b), (("index" : Str), n)])) ∨
    (i = 14 ∧ ∃ dd, d = some dd ∧ H dd = some (.xd [(("at" : Str), .ref no), (("name" : Str), .str nm)]))
theorem Fld.ex {H H' : Hp} {i : Nat} {d : Option Addr} {n : V} {b : Bool} {nm : Str} {no : Addr} (h : Fld H i d n b nm no) (e : Ex H H') : Fld H' i d n b nm no := by
  rcases h with h | ⟨h, dd, q, z⟩ | ⟨h, dd, q, z⟩ | ⟨h, dd, q, z⟩
  · exact .inl h
  · exact .inr (.inl ⟨h, dd, q, e _ _ z⟩)
  · exact .inr (.inr (.inl ⟨h, dd, q, e _ _ z⟩))
  · exact .inr (.inr (.inr ⟨h, dd, q, e _ _ z⟩))
/-- the arguments of the raising defs -/
def spRaise (K : PySem.W.Frag) (lo : Nat) : Sp := fun vs H Q E => ∃ (i : Nat) (t : Str) (f : Addr) (n : V) (b : Bool) (nm : Str) (no : Addr), vs = [.int (i : Int), .str t, .ref f] ∧ lo ≤ i ∧ i < 16 ∧ H f = some (.lst [n, .bl b, .str nm, .ref no]) ∧
  ∀ d H', Ex H H' → Fld H' i d n b nm no → E (.ref (He.ga K (errN i))) d H'
/-- the heap behind an exception with fields -/
theorem ini1_end {H : Hp} {a d C : Addr} {f : Str} {v : V} (hd : H d = none) (hn : d ≠ a) : upd (del (upd (upd H d (exd d [(f, v)])) a (exo a C (some d))) a) d (.xd [(f, v)]) d = some (.xd [(f, v)]) := upd_same
theorem ini_ex {H H2 : Hp} {a d : Addr} {u : HO} (ha : H a = none) (hd : H d = none) (e : ∀ b o, H b = some o → b ≠ a → b ≠ d → H2 b = some o) : Ex H (upd (del H2 a) d u) := fun b o q => by
  have n1 : b ≠ a := ne_of_none q ha
  have n2 : b ≠ d := ne_of_none q hd
  rw [upd_ne n2, del_ne n1]
  exact e b o q n1 n2
end
end Sk
set_option Elab.async false
set_option linter.all false
set_option maxRecDepth 100000
set_option maxHeartbeats 4000000
namespace Sk
open PySem L2
theorem But.mut {a : Addr} {H H1 : Hp} {p : Addr} {o : HO} (e : But a H H1) (h : H p = none) : But a H (L2.upd H1 p o) := fun b u q n => by
  rw [upd_ne (ne_of_none q h)]
  exact e b u q n
/-- a list of integers stands at a -/
def Stk (H : Hp) (a : Addr) : Prop := ∃ ns : List Int, H a = some (.lst (ns.map V.int))
theorem Stk.ex {H H' : Hp} {a : Addr} (h : Stk H a) (e : Ex H H') : Stk H' a := by
  obtain ⟨ns, q⟩ := h
  exact ⟨ns, e _ _ q⟩
theorem Stk.ne {H : Hp} {a p : Addr} (h : Stk H a) (e : H p = none) : p ≠ a := by
  obtain ⟨ns, q⟩ := h
  exact (ne_of_none q e).symm
theorem Stk.mut {H : Hp} {a p : Addr} {o : HO} (h : Stk H a) (n : p ≠ a) : Stk (upd H p o) a := by
  obtain ⟨ns, q⟩ := h
  exact ⟨ns, by rw [upd_ne n.symm]; exact q⟩
theorem map_at {α : Type} {f : α → V} {l : List α} {i : Nat} {x : V} (h : (l.map f)[i]? = some x) : ∃ y, l[i]? = some y ∧ x = f y := by
  rw [List.getElem?_map] at h
  obtain ⟨y, h1, h2⟩ := Option.map_eq_some_iff.mp h
  exact ⟨y, h1, h2.symm⟩
theorem at_map {α : Type} {f : α → V} {l : List α} {i : Nat} (h : i < l.length) : (l.map f)[i]? = some (f l[i]) := by
  rw [List.getElem?_map, List.getElem?_eq_getElem h]
  rfl
/-- an item at a place within a list -/
theorem at_in {α : Type} {l : List α} {z : Int} (h0 : 0 ≤ z) (h1 : z < (l.length : Int)) : ∃ v, l[z.toNat]? = some v ∧ atI l z = some v := by
  have hl : z.toNat < l.length := by omega
  refine ⟨l[z.toNat], List.getElem?_eq_getElem hl, ?_⟩
  have q : atI l ((z.toNat : Nat) : Int) = some l[z.toNat] := atI_nat (List.getElem?_eq_getElem hl)
  have e : ((z.toNat : Nat) : Int) = z := by omega
  rw [e] at q
  exact q
section
variable {P : Program} {w : World} {K : PySem.W.Frag} {mg : Str → Option Value} {base : Heap}
/-! ### the law's draws -/
def spStir : Sp := fun vs H Q _ => ∃ c k : Int, vs = [.int c, .int k] ∧ ∀ r : Int, Q (.int r) H
theorem ok_stir (T : TX K mg) : Ok P w K mg base CX0 1 a_Lstir p_Lstir spStir := by
  obtain ⟨fd, F⟩ := T.d.def_ 8 (d := d_Lstir) rfl
  have b : Binds K fd p_Lstir [] := FunD.bindsN F fun _ _ _ _ _ _ us hl => match us, hl with | [_, _], _ => rfl
  refine ⟨fd, F.ok sc_Lstir (fun vs H Q E h => ?_) (fun cdv A outer s H vs Q E hr h => ?_), b, F.kp⟩
  · obtain ⟨a, b, rfl, _⟩ := h
    rfl
  · obtain ⟨c, k, rfl, kq⟩ := h
    refine ⟨_, PSs.nox (pss_cons (ps_set (i := 2) sc_Lstir.nd rfl (Or.inl rfl) (pe_op op_mod (pe_callTy call_int1 rfl (T.free_int) (by decide +kernel) (pa_cons (pe_op op_add (pe_op op_mul (pv 0) pe_int) (pe_op op_mul (pe_op op_add (pv 1) pe_int) pe_int)) pa_nil)) pe_int))
      (pss_cons (ps_set (i := 3) sc_Lstir.nd rfl (Or.inl rfl) (pe_op op_mod (pe_callTy call_int1 rfl (T.free_int) (by decide +kernel) (pa_cons (pe_op op_add (pe_op op_add (pe_op op_mul (pv 2) (pv 2)) (pe_op op_mul (pv 1) pe_int)) pe_int) pa_nil)) pe_int))
      (pss_one (ps_ret (pe_op op_fdiv (pe_op op_mod (pe_callTy call_int1 rfl (T.free_int) (by decide +kernel) (pa_cons (pe_op op_add (pe_op op_mul (pv 3) pe_int) (pv 2)) pa_nil)) pe_int) pe_int))))), ?_⟩
    refine ⟨_, rfl, _, _, rfl, rfl, .inr ⟨by decide, by decide⟩, _, rfl, _, _, rfl, rfl, _, _, rfl, rfl, .inr ⟨by decide, by decide⟩, _, _, rfl, rfl, .inl ⟨_, rfl, _, _, rfl, rfl, (by show (0 : Int) < 2147483629; decide), ?_⟩⟩
    generalize hz : (c * 7919 + (k + 3) * 104729) % 2147483629 = one
    have b1 : 0 ≤ one := by rw [← hz]; exact Int.emod_nonneg _ (by decide)
    have b2 : one < 2147483629 := by rw [← hz]; exact Int.emod_lt_of_pos _ (by decide)
    refine ⟨_, rfl, _, rfl, _, _, rfl, rfl, .inl ⟨by omega, by omega⟩, _, rfl, _, _, rfl, rfl, .inr ⟨by decide, by decide⟩, _, _, rfl, rfl, _, _, rfl, rfl, .inl ⟨_, rfl, _, _, rfl, rfl, (by show (0 : Int) < 2147483587; decide), ?_⟩⟩
    refine ⟨_, rfl, _, _, rfl, rfl, .inr ⟨by decide, by decide⟩, _, rfl, _, _, rfl, rfl, .inl ⟨_, rfl, _, _, rfl, rfl, (by show (0 : Int) < 2147483563; decide), _, _, rfl, rfl, ⟨by decide, by decide⟩, kq _⟩⟩
def spDraw : Sp := fun vs H Q _ => ∃ (a : Addr) (lim : Int), vs = [.ref a, .int lim] ∧ Stk H a ∧ 0 < lim ∧ ∀ (r : Int) H', 0 ≤ r → r < lim → Stk H' a → But a H H' → Q (.int r) H'
theorem ok_draw (T : TX K mg) : Ok P w K mg base CX0 1 a_Ldraw p_Ldraw spDraw := by
  obtain ⟨fd, F⟩ := T.d.def_ 10 (d := d_Ldraw) rfl
  have b : Binds K fd p_Ldraw [] := FunD.bindsN F fun _ _ _ _ _ _ us hl => match us, hl with | [_, _], _ => rfl
  refine ⟨fd, F.ok sc_Ldraw (fun vs H Q E h => ?_) (fun cdv A outer s H vs Q E hr h => ?_), b, F.kp⟩
  · obtain ⟨a, b, rfl, _⟩ := h
    rfl
  · obtain ⟨a, lim, rfl, hS, hl, k⟩ := h
    obtain ⟨ns, ha⟩ := id hS
    refine ⟨_, PSs.nox (pss_cons (ps_if (pt_cmpR op_eq (pe_callB call_len rfl (T.free_len) (by decide +kernel) (pa_cons (pv 0) pa_nil)) pe_int (nomark _))
      (pss_one (ps_ret pe_int)) pss_nil)
      (pss_one (ps_ret (pe_op op_mod (pe_callTy call_int1 rfl (T.free_int) (by decide +kernel) (pa_cons (pe_bm0 PySem.F.plainAttrs_list PySem.F.slot_list_pop PySem.F.type_list_pop mt_pop (pv 0)) pa_nil)) (pv 1))))), ?_⟩
    refine ⟨_, rfl, _, (ns.map V.int).length, rfl, .inl ⟨_, SqL.of ha, rfl⟩, rfl, _, rfl, ?_⟩
    refine ite2 (fun hc => ?_) (fun hc => ?_)
    · exact k 0 H (Int.le_refl 0) hl hS (But.refl _ _)
    · have hne : ns.length ≠ 0 := by
        intro z
        refine hc (decide_eq_true ?_)
        rw [List.length_map, z]
        rfl
      obtain ⟨y, hy⟩ : ∃ y, ns[ns.length - 1]? = some y := ⟨ns[ns.length - 1]'(by omega), List.getElem?_eq_getElem (by omega)⟩
      refine ⟨_, rfl, .inl ⟨rfl, _, SqL.of ha⟩, a, _, V.int y, rfl, rfl, ha, ?_, .inl ⟨_, rfl, _, rfl, _, _, rfl, rfl, hl, ?_⟩⟩
      · rw [List.length_map, List.getElem?_map, hy]
        rfl
      · refine k _ _ (Int.emod_nonneg _ (by omega)) (Int.emod_lt_of_pos _ hl) ⟨ns.dropLast, ?_⟩ (But.refl _ _).upd
        rw [upd_same, List.map_dropLast]
def spFar : Sp := fun vs H Q _ => ∃ a : Addr, vs = [.ref a] ∧ Stk H a ∧ ∀ (r : Int) H', Stk H' a → But a H H' → Q (.int r) H'
theorem ok_far (T : TX K mg) : Ok P w K mg base CX0 2 a_Lfar p_Lfar spFar := by
  obtain ⟨fd, F⟩ := T.d.def_ 11 (d := d_Lfar) rfl
  obtain ⟨_, O_Ldraw⟩ := ok_draw (P := P) (w := w) (base := base) T
  have b : Binds K fd p_Lfar [] := FunD.bindsN F fun _ _ _ _ _ _ us hl => match us, hl with | [_], _ => rfl
  refine ⟨fd, F.ok sc_Lfar (fun vs H Q E h => ?_) (fun cdv A outer s H vs Q E hr h => ?_), b, F.kp⟩
  · obtain ⟨a, rfl, _⟩ := h
    rfl
  · obtain ⟨a, rfl, hS, k⟩ := h
    refine ⟨_, PSs.nox (pss_cons (ps_set (i := 1) sc_Lfar.nd rfl (Or.inl rfl) (pcall O_Ldraw (hr.mono (by decide)) rfl (T.g_Ldraw) pass0 (pa_cons (pv 0) (pa_cons pe_int pa_nil))))
      (pss_cons (ps_set (i := 2) sc_Lfar.nd rfl (Or.inl rfl) pe_int) (pss_cons
      (ps_for PassesOwn.never rfl (pi_range1 rfl (T.free_range) (pa_cons pe_int pa_nil)) (pg_name (i := 3) sc_Lfar.nd rfl (Or.inl rfl))
      (pss_one (ps_set (i := 2) sc_Lfar.nd rfl (Or.inl rfl) (pe_op op_add (pe_op op_mul (pv 2) pe_int) (pcall O_Ldraw (hr.mono (by decide)) rfl (T.g_Ldraw) pass0 (pa_cons (pv 0) (pa_cons pe_int pa_nil)))))))
      (pss_one (ps_ret (pe_ix (ix_list : IxR _ (rIxL K)) (pe_lst (pa_cons pe_int (pa_cons pe_int (pa_cons (pv 2) (pa_cons (pe_un un_neg (pv 2)) pa_nil))))) (pv 1) (fun _ _ => rfl))))))), ?_⟩
    refine ⟨_, rfl, a, 4, rfl, hS, by decide, fun way H1 w0 w1 S1 B1 => ?_⟩
    refine ⟨9, rfl, by decide, by decide, for_range (lo := 0) (n := 9) (fun i σ H' => ∃ (m : Int) (v : Option V), σ = [some (.ref a), some (.int way), some (.int m), v] ∧ Stk H' a ∧ But a H H') ⟨0, none, rfl, S1, B1⟩ ?_ ?_⟩
    · rintro i σ H' hi ⟨m, v, rfl, S2, B2⟩
      refine ⟨_, rfl, _, _, rfl, rfl, .inr ⟨by decide, by decide⟩, _, rfl, a, 27720, rfl, S2, by decide, fun r H3 r0 r1 S3 B3 => ?_⟩
      exact ⟨_, _, rfl, rfl, _, _, rfl, S3, B2.trans B3⟩
    · rintro σ H' ⟨m, v, rfl, S2, B2⟩
      refine ⟨_, rfl, _, rfl, _, rfl, small (by show 4 ≤ 100000; decide), fun p hp => ?_⟩
      have fin : ∀ r : Int, Q (.int r) (upd H' p (.lst [.int 0, .int 0, .int m, .int (-m)])) := fun r => k r _ (S2.mut (S2.ne hp)) (B2.new hp)
      obtain ⟨y, hy1, hy2⟩ := at_in (l := [V.int 0, V.int 0, V.int m, V.int (-m)]) w0 w1
      refine ⟨_, rfl, p, _, way, y, rfl, rfl, SqL.of upd_same, hy2, ?_⟩
      have all : ∀ v ∈ [V.int 0, V.int 0, V.int m, V.int (-m)], ∃ r : Int, v = V.int r := by
        intro v hv
        simp only [List.mem_cons, List.not_mem_nil, or_false] at hv
        rcases hv with h | h | h | h <;> exact ⟨_, h⟩
      obtain ⟨r, rfl⟩ := all y (List.mem_of_getElem? hy1)
      exact fin r
def spStock (K : PySem.W.Frag) : Sp := fun vs H Q _ => ∃ (a : Addr) (ns : List Int), vs = [.ref a] ∧ SqL K H a (ns.map V.int) ∧ ns.length ≤ 63 ∧ ∀ p H', Ex H H' → H p = none → Stk H' p → Q (.ref p) H'
theorem Ex.sql {H H' : Hp} {a : Addr} {xs : List V} (e : Ex H H') (h : SqL K H a xs) : SqL K H' a xs := Same.seq e h
theorem ok_stock (T : TX K mg) : Ok P w K mg base CX0 2 a_Lstock p_Lstock (spStock K) := by
  obtain ⟨fd, F⟩ := T.d.def_ 9 (d := d_Lstock) rfl
  obtain ⟨_, O_Lstir⟩ := ok_stir (P := P) (w := w) (base := base) T
  have b : Binds K fd p_Lstock [] := FunD.bindsN F fun _ _ _ _ _ _ us hl => match us, hl with | [_], _ => rfl
  refine ⟨fd, F.ok sc_Lstock (fun vs H Q E h => ?_) (fun cdv A outer s H vs Q E hr h => ?_), b, F.kp⟩
  · obtain ⟨a, ns, rfl, _⟩ := h
    rfl
  · obtain ⟨a, ns, rfl, hS, hl, k⟩ := h
    refine ⟨_, PSs.nox (pss_cons (ps_set (i := 1) sc_Lstock.nd rfl (Or.inl rfl) (pe_lst pa_nil)) (pss_cons
      (ps_for PassesOwn.never rfl (pi_range1 rfl (T.free_range) (pa_cons (pe_callB call_len rfl (T.free_len) (by decide +kernel) (pa_cons (pv 0) pa_nil)) pa_nil)) (pg_name (i := 2) sc_Lstock.nd rfl (Or.inr rfl))
      (pss_cons (ps_set (i := 3) sc_Lstock.nd rfl (Or.inl rfl) (pe_op op_sub (pe_ix (ix_list : IxR _ (rIxL K)) (pv 0) (pv 2) (fun _ _ => rfl)) (pe_op op_pow pe_int pe_int)))
      (C8.pss_cut (ps_if (pt_cmpR op_lt (pv 3) pe_int (nomark _))
      (pss_one (ps_expr (pe_bm PySem.F.plainAttrs_list PySem.F.slot_list_extend PySem.F.type_list_extend mt_extend (pv 1) (pa_cons
      (pe_lc (own := [("turn", 4)]) rfl sc_Lstock.nd (pi_range1 rfl (T.free_range) (pa_cons pe_int pa_nil)) (blkOk_by (own := [("turn", 4)]) (N := n_Lstock) (sc := defScope s_Lstock) (by decide +kernel)) (fun _ _ _ _ _ => pg_name (i := 4) sc_Lstock.nd rfl (Or.inl rfl)) (fun _ _ _ _ _ => pts_nil) (fun _ _ _ _ _ => (pcall O_Lstir (hr.mono (by decide)) rfl (T.g_Lstir) pass0 (pa_cons (pe_ix (ix_list : IxR _ (rIxL K)) (pv 0) (pv 2) (fun _ _ => rfl)) (pa_cons (pe_op op_add (pe_op op_mul pe_int (pv 2)) (pv 4)) pa_nil))))) pa_nil)))) pss_nil)
      (pss_one
      (ps_while PassesOwn.never (PW.pt (pw_and (pt_cmpR op_gt (pv 3) pe_int (nomark _)) (pw_and1 (pt_cmpR op_lt (pe_callB call_len rfl (T.free_len) (by decide +kernel) (pa_cons (pv 1) pa_nil)) pe_int (nomark _)))))
      (pss_cons (ps_expr (pe_bm PySem.F.plainAttrs_list PySem.F.slot_list_append PySem.F.type_list_append mt_append (pv 1) (pa_cons (pe_op op_mod (pe_callTy call_int1 rfl (T.free_int) (by decide +kernel) (pa_cons (pv 3) pa_nil)) pe_int) pa_nil)))
      (pss_one (ps_set (i := 3) sc_Lstock.nd rfl (Or.inl rfl) (pe_op op_fdiv (pv 3) pe_int)))))))))
      (pss_one (ps_ret (pe_revL (pe_slice (sl_list : SlR _ (rSlL K)) (pv 1) po_none (po_some pe_int))))))), ?_⟩
    refine ⟨by show 0 ≤ sizeLine; exact Nat.zero_le _, fun p hp => ?_⟩
    have nlen : (((ns.map V.int).length : Nat) : Int).toNat = ns.length := by rw [List.length_map]; rfl
    refine ⟨_, rfl, _, (ns.map V.int).length, rfl, .inl ⟨_, ((Ex.refl H).mut hp).sql hS, rfl⟩, _, rfl, by omega, by rw [List.length_map]; omega, ?_⟩
    rw [nlen]
    refine for_range (lo := 0) (n := ns.length) (fun i σ H' => ∃ (ms : List Int) (v2 v3 : Option V), σ = [some (.ref a), some (.ref p), v2, v3, none] ∧ H' p = some (.lst (ms.map V.int)) ∧ ms.length ≤ 480 + 60 * i ∧ Ex H H')
      ⟨[], none, none, rfl, upd_same, by decide, (Ex.refl H).mut hp⟩ ?_ ?_
    · rintro i σ H1 hi ⟨ms, v2, v3, rfl, h1, l1, e1⟩
      obtain ⟨y, hy1, hy2⟩ := at_in (l := ns.map V.int) (z := 0 + (i : Int)) (by omega) (by rw [List.length_map]; omega)
      obtain ⟨z, _, rfl⟩ := map_at hy1
      have S1 := e1.sql hS
      refine ⟨_, rfl, _, rfl, a, _, _, _, rfl, rfl, S1, hy2, _, _, rfl, rfl, ⟨by decide, by decide, by decide⟩, _, _, rfl, rfl, ?_⟩
      refine ⟨fun σ H' => ∃ (ms : List Int) (left : Int), σ = [some (V.ref a), some (V.ref p), some (V.int (0 + (i : Int))), some (V.int left), none] ∧ H' p = some (.lst (ms.map V.int)) ∧ ms.length ≤ 480 + 60 * (i + 1) ∧ Ex H H', ⟨_, rfl, _, _, rfl, rfl, _, rfl, ?_⟩, ?_⟩
      · refine ite2 (fun hc => ?_) (fun hc => ?_)
        · -- stock.extend([.. for turn in range(60)])
          refine ⟨_, rfl, .inl ⟨rfl, _, SqL.of h1⟩, 60, rfl, by decide, by decide, fun D hD => ?_⟩
          have nD : p ≠ D := ne_of_none h1 hD
          refine lc_range (lo := 0) (n := 60) (fun j H' => ∃ ls : List Int, H' D = some (.lst (ls.map V.int)) ∧ ls.length = j ∧ Ex H1 H') ⟨[], upd_same, rfl, (Ex.refl H1).mut hD⟩ ?_ ?_
          · rintro j H2 hj ⟨ls, h2, l2, e2⟩
            refine ⟨rfl, ?_⟩
            refine ⟨_, rfl, _, rfl, a, _, _, _, rfl, rfl, e2.sql S1, hy2, _, rfl, _, _, rfl, rfl, .inl ⟨by decide, by decide⟩, _, rfl, _, _, rfl, rfl, _, _, rfl, fun r => ⟨_, h2, by rw [List.length_map]; exact small' (by omega), ls ++ [r], ?_, by rw [List.length_append, l2]; rfl, e2.mut hD⟩⟩
            rw [upd_same, List.map_append]
            rfl
          · rintro H2 ⟨ls, h2, l2, e2⟩
            refine ⟨p, D, _, _, rfl, rfl, e2 p _ h1, h2, by rw [List.length_map, List.length_map]; exact small (by omega), ms ++ ls, _, rfl, ?_, ?_, (e1.trans e2).mut hp⟩
            · rw [upd_same, List.map_append]
            · rw [List.length_append]
              omega
        · exact ⟨ms, _, rfl, h1, by omega, e1⟩
      · rintro σ H2 ⟨ms2, left, rfl, h2, l2, e2⟩
        refine ⟨fun m σ H' => ∃ (ms : List Int) (left : Int), m = 480 - ms.length ∧ σ = [some (V.ref a), some (V.ref p), some (V.int (0 + (i : Int))), some (V.int left), none] ∧ H' p = some (.lst (ms.map V.int)) ∧ ms.length ≤ 480 + 60 * (i + 1) ∧ Ex H H',
          ⟨_, ms2, left, rfl, rfl, h2, l2, e2⟩, ?_⟩
        rintro m σ H3 ⟨ms3, left3, rfl, rfl, h3, l3, e3⟩
        refine ⟨_, rfl, _, _, rfl, rfl, _, rfl, ?_⟩
        refine ite2 (fun hc => ?_) (fun hc => ?_)
        · refine ⟨_, rfl, _, (ms3.map V.int).length, rfl, .inl ⟨_, SqL.of h3, rfl⟩, _, _, rfl, rfl, _, rfl, ?_⟩
          refine ite2 (fun hd => ?_) (fun hd => ?_)
          · have hd : ((ms3.map V.int).length : Int) < 480 := of_decide_eq_true hd
            rw [List.length_map] at hd
            refine ⟨fun σ H' => ∃ (ms : List Int) (left : Int), 480 - ms.length < 480 - ms3.length ∧ σ = [some (V.ref a), some (V.ref p), some (V.int (0 + (i : Int))), some (V.int left), none] ∧ H' p = some (.lst (ms.map V.int)) ∧ ms.length ≤ 480 + 60 * (i + 1) ∧ Ex H H',
              fun σ' H' ⟨ms, left, q1, q2⟩ => ⟨_, q1, ms, left, rfl, q2⟩, ?_⟩
            refine ⟨_, rfl, .inl ⟨rfl, _, SqL.of h3⟩, _, rfl, .inl ⟨_, rfl, _, _, rfl, rfl, (by show (0 : Int) < 27720; decide), p, _, _, rfl, rfl, h3, by rw [List.length_map]; exact small' (by omega), ?_⟩⟩
            refine ⟨_, rfl, _, _, rfl, rfl, ⟨by decide, by decide⟩, ms3 ++ [left3 % 27720], _, ?_, rfl, ?_, ?_, e3.mut hp⟩
            · rw [List.length_append]
              show 480 - (ms3.length + 1) < 480 - ms3.length
              omega
            · rw [upd_same, List.map_append]
              rfl
            · rw [List.length_append]
              show ms3.length + 1 ≤ _
              omega
          · exact ⟨ms3, _, _, rfl, h3, l3, e3⟩
        · exact ⟨ms3, _, _, rfl, h3, l3, e3⟩
    · rintro σ H' ⟨ms, v2, v3, rfl, h1, l1, e1⟩
      refine ⟨_, rfl, 480, rfl, p, _, rfl, SqL.of h1, fun q hq => ?_⟩
      refine ⟨q, _, rfl, SqL.of upd_same, fun q2 hq2 => ?_⟩
      have e2 : Ex H (upd (upd H' q (.lst (cutV (ms.map V.int) none (some 480)))) q2 (.lst (cutV (ms.map V.int) none (some 480)).reverse)) := (e1.new hq).new hq2
      refine k q2 _ e2 ((e1.new hq).back hq2) ⟨((ms.drop (HT.sIx (ms.map V.int).length 0 none)).take (HT.sIx (ms.map V.int).length (ms.map V.int).length (some 480) - HT.sIx (ms.map V.int).length 0 none)).reverse, ?_⟩
      rw [upd_same]
      unfold cutV
      rw [List.map_reverse, List.map_take, List.map_drop]
end
end Sk
set_option Elab.async false
set_option linter.all false
set_option maxRecDepth 100000
set_option maxHeartbeats 4000000
namespace Sk
open PySem L2
section
variable {P : Program} {w : World} {K : PySem.W.Frag} {mg : Str → Option Value} {base : Heap}
abbrev abc : Str := "abcdefghijklmnopqrstuvwxyz"
theorem abc_len : abc.cps.toList.length = 26 := by decide +kernel
theorem abc_len' : abc.length = 26 := by decide +kernel
theorem all_snoc {α : Type} {p : α → Prop} {l : List α} {x : α} (h : ∀ y ∈ l, p y) (hx : p x) : ∀ y ∈ l ++ [x], p y := fun y m => by
  rcases List.mem_append.mp m with m | m
  · exact h y m
  · rw [List.mem_singleton.mp m]
    exact hx
theorem all_nil {α : Type} {p : α → Prop} : ∀ y ∈ ([] : List α), p y := fun y m => absurd m List.not_mem_nil
/-- the words that are drawn from -/
def spPool : Sp := fun vs H Q _ => ∃ a : Addr, vs = [.ref a, .int 3] ∧ Stk H a ∧
  ∀ (ss : List Str) (p : Addr) (H' : Hp), ss.length = 3 → (∀ s ∈ ss, s.length ≤ 100) → Stk H' a → But a H H' → H p = none → H' p = some (.lst (ss.map V.str)) → Q (.ref p) H'
theorem ok_pool (T : TX K mg) : Ok P w K mg base CX0 2 a_Lpool p_Lpool spPool := by
  obtain ⟨fd, F⟩ := T.d.def_ 12 (d := d_Lpool) rfl
  obtain ⟨_, O_Ldraw⟩ := ok_draw (P := P) (w := w) (base := base) T
  have b : Binds K fd p_Lpool [] := FunD.bindsN F fun _ _ _ _ _ _ us hl => match us, hl with | [_, _], _ => rfl
  refine ⟨fd, F.ok sc_Lpool (fun vs H Q E h => ?_) (fun cdv A outer s H vs Q E hr h => ?_), b, F.kp⟩
  · obtain ⟨a, rfl, _⟩ := h
    rfl
  · obtain ⟨a, rfl, hS, k⟩ := h
    refine ⟨_, PSs.nox (pss_cons (ps_set (i := 2) sc_Lpool.nd rfl (Or.inr rfl) pe_str)
      (pss_cons (ps_set (i := 3) sc_Lpool.nd rfl (Or.inr rfl) (pcall O_Ldraw (hr.mono (by decide)) rfl (T.g_Ldraw) pass0 (pa_cons (pv 0) (pa_cons pe_int pa_nil))))
      (pss_cons (ps_set (i := 4) sc_Lpool.nd rfl (Or.inr rfl) (pcall O_Ldraw (hr.mono (by decide)) rfl (T.g_Ldraw) pass0 (pa_cons (pv 0) (pa_cons pe_int pa_nil))))
      (pss_cons (ps_set (i := 5) sc_Lpool.nd rfl (Or.inr rfl) (pcall O_Ldraw (hr.mono (by decide)) rfl (T.g_Ldraw) pass0 (pa_cons (pv 0) (pa_cons pe_int pa_nil))))
      (pss_cons (ps_set (i := 6) sc_Lpool.nd rfl (Or.inr rfl) (pe_join pe_str
      (pe_lc (own := [("turn", 9)]) rfl sc_Lpool.nd (pi_range1 rfl (T.free_range) (pa_cons pe_int pa_nil)) (blkOk_by (own := [("turn", 9)]) (N := n_Lpool) (sc := defScope s_Lpool) (by decide +kernel)) (fun _ _ _ _ _ => pg_name (i := 9) sc_Lpool.nd rfl (Or.inl rfl)) (fun _ _ _ _ _ => pts_nil) (fun _ _ _ _ _ => (pe_ix ix_str (pv 2) (pcall O_Ldraw (hr.mono (by decide)) rfl (T.g_Ldraw) pass0 (pa_cons (pv 0) (pa_cons pe_int pa_nil))) (fun _ _ => rfl)))) rfl))
      (pss_cons (ps_setLc (i := 7) (own := [("k", 10)]) rfl sc_Lpool.nd rfl rfl (sw_true rfl rfl rfl (by decide +kernel)) (pi_range1 rfl (T.free_range) (pa_cons (pv 1) pa_nil)) (blkOk_by (own := [("k", 10)]) (N := n_Lpool) (sc := defScope s_Lpool) (by decide +kernel)) (fun _ _ _ _ _ => pg_name (i := 10) sc_Lpool.nd rfl (Or.inl rfl)) (fun _ _ _ _ _ => pts_nil) (fun _ _ _ _ _ => (pe_ix ix_str (pv 2) (pe_op op_mod (pe_callTy call_int1 rfl (T.free_int) (by decide +kernel) (pa_cons (pe_op op_add (pv 4) (pv 10)) pa_nil)) pe_int) (fun _ _ => rfl))))
      (pss_cons (ps_if (pt_cmpR op_eq (pv 3) pe_int (nomark _)) (pss_one (ps_ret
      (pe_lc (own := [("one", 11)]) rfl sc_Lpool.nd (pi_list (pv 7)) (blkOk_by (own := [("one", 11)]) (N := n_Lpool) (sc := defScope s_Lpool) (by decide +kernel)) (fun _ _ _ _ _ => pg_name (i := 11) sc_Lpool.nd rfl (Or.inl rfl)) (fun _ _ _ _ _ => pts_nil) (fun _ _ _ _ _ => (pe_op op_add_str (pe_op op_add_str (pe_slice sl_str (pv 6) po_none (po_some (pv 5))) (pv 11)) (pe_slice sl_str (pv 6) (po_some (pe_op op_add (pv 5) pe_int)) po_none)))))) pss_nil)
      (pss_cons (ps_if (pt_cmpR op_lt (pv 3) pe_int (nomark _)) (pss_one (ps_ret
      (pe_lc (own := [("k", 10)]) rfl sc_Lpool.nd (pi_range1 rfl (T.free_range) (pa_cons (pv 1) pa_nil)) (blkOk_by (own := [("k", 10)]) (N := n_Lpool) (sc := defScope s_Lpool) (by decide +kernel)) (fun _ _ _ _ _ => pg_name (i := 10) sc_Lpool.nd rfl (Or.inl rfl)) (fun _ _ _ _ _ => pts_nil) (fun _ _ _ _ _ => (pe_slice sl_str (pv 6) po_none (po_some (pe_ix (ix_list : IxR _ (rIxL K)) (pe_lst (pa_cons (pe_op op_add (pv 10) pe_int) (pa_cons (pe_op op_sub pe_int (pv 10)) pa_nil))) (pe_op op_sub (pv 3) pe_int) (fun _ _ => rfl)))))))) pss_nil)
      (pss_cons (ps_if (pt_cmpR op_eq (pv 3) pe_int (nomark _))
      (pss_cons (ps_set (i := 8) sc_Lpool.nd rfl (Or.inr rfl) (pe_lst (pa_cons pe_str (pa_cons pe_str (pa_cons pe_str (pa_cons pe_str (pa_cons pe_str (pa_cons pe_str (pa_cons pe_str (pa_cons pe_str (pa_cons pe_str (pa_cons pe_str (pa_cons pe_str (pa_cons pe_str pa_nil))))))))))))))
      (pss_one (ps_ret
      (pe_lc (own := [("k", 10)]) rfl sc_Lpool.nd (pi_range1 rfl (T.free_range) (pa_cons (pv 1) pa_nil)) (blkOk_by (own := [("k", 10)]) (N := n_Lpool) (sc := defScope s_Lpool) (by decide +kernel)) (fun _ _ _ _ _ => pg_name (i := 10) sc_Lpool.nd rfl (Or.inl rfl)) (fun _ _ _ _ _ => pts_nil) (fun _ _ _ _ _ => (pe_ix (ix_list : IxR _ (rIxL K)) (pv 8) (pe_op op_mod (pe_callTy call_int1 rfl (T.free_int) (by decide +kernel) (pa_cons (pe_op op_add (pv 4) (pv 10)) pa_nil)) pe_int) (fun _ _ => rfl))))))) pss_nil)
      (pss_one (ps_ret
      (pe_lc (own := [("one", 11)]) rfl sc_Lpool.nd (pi_list (pv 7)) (blkOk_by (own := [("one", 11)]) (N := n_Lpool) (sc := defScope s_Lpool) (by decide +kernel)) (fun _ _ _ _ _ => pg_name (i := 11) sc_Lpool.nd rfl (Or.inl rfl)) (fun _ _ _ _ _ => pts_nil) (fun _ _ _ _ _ => (pe_op op_add_str (pv 11) (pe_slice sl_str (pv 6) po_none (po_some (pv 5))))))))))))))))), ?_⟩
    refine ⟨_, rfl, a, 5, rfl, hS, by decide, fun way H1 w0 w1 S1 B1 => ?_⟩
    refine ⟨_, rfl, a, 26, rfl, S1, by decide, fun start H2 s0 s1 S2 B2 => ?_⟩
    refine ⟨_, rfl, a, 8, rfl, S2, by decide, fun place H3 p0 p1 S3 B3 => ?_⟩
    have B3' := (B1.trans B2).trans B3
    -- stem
    refine ⟨⟨_, rfl⟩, 8, rfl, by decide, by decide, fun D hD => ?_⟩
    have nDa := S3.ne hD
    refine lc_range (lo := 0) (n := 8) (fun j H' => ∃ ss : List Str, H' D = some (.lst (ss.map V.str)) ∧ ss.length = j ∧ (∀ s ∈ ss, s.length = 1) ∧ Stk H' a ∧ But a H3 H')
      ⟨[], upd_same, rfl, all_nil, S3.mut nDa, (But.refl _ _).new hD⟩ ?_ ?_
    · rintro j H4 hj ⟨ss, h4, l4, o4, S4, B4⟩
      refine ⟨rfl, ?_⟩
      refine ⟨_, rfl, _, rfl, a, 26, rfl, S4, by decide, fun r H5 r0 r1 S5 B5 => ?_⟩
      obtain ⟨c, hc1, hc2⟩ := at_in (l := abc.cps.toList) (z := r) r0 (by rw [abc_len]; exact r1)
      refine ⟨abc, r, c, rfl, rfl, small (by rw [abc_len']; decide), hc2, _, B5 D _ h4 nDa, by rw [List.length_map]; exact small' (by omega), ss ++ [⟨#[c]⟩], ?_, by rw [List.length_append, l4]; rfl, all_snoc o4 rfl, S5.mut nDa, (B4.trans B5).mut hD⟩
      rw [upd_same, List.map_append]
      rfl
    · rintro H4 ⟨ss, h4, l4, o4, S4, B4⟩
      have hj : (Txt.join (Str.ofString "") ss).length = 8 := by rw [PySem.W.KT.join_ones ss o4, l4]
      have hsum : (ss.map (·.length)).sum ≤ 8 := by
        have q : ∀ l : List Str, (∀ s ∈ l, s.length = 1) → (l.map (·.length)).sum = l.length := by
          intro l
          induction l with
          | nil => exact fun _ => rfl
          | cons x l ih =>
            intro h
            rw [List.map_cons, List.sum_cons, h x List.mem_cons_self, ih fun s m => h s (List.mem_cons_of_mem _ m), List.length_cons]
            omega
        rw [q ss o4, l4]
        exact Nat.le_refl _
      refine ⟨_, D, ss, rfl, rfl, .inl (SqL.of h4), by show _ + ss.length * 0 ≤ 16777216; omega, ?_⟩
      generalize Txt.join (Str.ofString "") ss = stem at hj
      have B4' := B3'.trans B4
      -- telling
      refine ⟨_, rfl, 3, rfl, by decide, by decide, fun D2 hD2 => ?_⟩
      have nD2 := S4.ne hD2
      refine lc_range (lo := 0) (n := 3) (fun j H' => ∃ ss : List Str, H' D2 = some (.lst (ss.map V.str)) ∧ ss.length = j ∧ (∀ s ∈ ss, s.length ≤ 1) ∧ Ex H4 H')
        ⟨[], upd_same, rfl, all_nil, (Ex.refl _).mut hD2⟩ ?_ ?_
      · rintro j H5 hj2 ⟨ts, h5, l5, o5, e5⟩
        refine ⟨rfl, ?_⟩
        obtain ⟨c, hc1, hc2⟩ := at_in (l := abc.cps.toList) (z := (start + (0 + (j : Int))) % 26) (Int.emod_nonneg _ (by decide)) (by rw [abc_len]; exact Int.emod_lt_of_pos _ (by decide))
        refine ⟨_, rfl, _, rfl, _, rfl, _, _, rfl, rfl, .inl ⟨_, rfl, _, _, rfl, rfl, (by show (0 : Int) < 26; decide), abc, _, c, rfl, rfl, small (by rw [abc_len']; decide), hc2, _, h5, by rw [List.length_map]; exact small' (by omega), ts ++ [⟨#[c]⟩], ?_, by rw [List.length_append, l5]; rfl, all_snoc o5 (by exact Nat.le_refl 1), e5.mut hD2⟩⟩
        rw [upd_same, List.map_append]
        rfl
      · rintro H5 ⟨ts, h5, l5, o5, e5⟩
        have S5 := S4.ex e5
        have B5 := B4'.ex e5
        -- the end of each way
        have fin : ∀ (D : Addr), H5 D = none → ∀ (ss : List Str) (H' : Hp), H' D = some (.lst (ss.map V.str)) → ss.length = 3 → (∀ s ∈ ss, s.length ≤ 100) → Ex H5 H' → Q (.ref D) H' :=
          fun D hD ss H' h l o e => k ss D H' l o (S5.ex e) (B5.ex e) (B5.back hD (S5.ne hD)) h
        have cl : ∀ lo hi, (cutS stem lo hi).length ≤ 8 := fun lo hi => by
          have := cutS_length stem lo hi
          omega
        have sl : stem.length ≤ sizeLine := small (by omega)
        refine ⟨_, rfl, rfl, _, rfl, ?_⟩
        refine ite2 (fun c0 => ?_) (fun c0 => ?_)
        · refine ⟨_, rfl, D2, rfl, ⟨_, SqL.of h5⟩, fun D3 hD3 => ?_⟩
          refine lc_list (K := K) (a := D2) (xs := ts.map V.str) (fun j H' => ∃ ss : List Str, H' D3 = some (.lst (ss.map V.str)) ∧ ss.length = j ∧ (∀ s ∈ ss, s.length ≤ 100) ∧ Ex H5 H')
            ⟨[], upd_same, rfl, all_nil, (Ex.refl _).mut hD3⟩ (fun j H' _ q => ?_) ?_ ?_
          · obtain ⟨_, _, _, _, e⟩ := q
            exact SqL.of (e _ _ h5)
          · rintro j x H6 hx ⟨ss, h6, l6, o6, e6⟩
            obtain ⟨t, ht, rfl⟩ := map_at hx
            have lt := o5 t (List.mem_of_getElem? ht)
            have hjl : j < ts.length := (List.getElem?_eq_some_iff.mp ht).1
            have c1 := cl none (some place)
            have c2 := cl (some (place + 1)) none
            refine ⟨rfl, ?_⟩
            refine ⟨_, rfl, _, rfl, _, rfl, _, rfl, sl, _, rfl, _, _, rfl, rfl, small (by omega), _, rfl, _, rfl, _, _, rfl, rfl, _, rfl, _, rfl, sl, _, _, rfl, rfl, small (by rw [Str.length_append]; omega), _, h6, by rw [List.length_map]; exact small' (by omega), ss ++ [cutS stem none (some place) ++ t ++ cutS stem (some (place + 1)) none], ?_, by rw [List.length_append, l6]; rfl, all_snoc o6 (by rw [Str.length_append, Str.length_append]; omega), e6.mut hD3⟩
            rw [upd_same, List.map_append]
            rfl
          · rintro H6 ⟨ss, h6, l6, o6, e6⟩
            exact fin D3 hD3 ss H6 h6 (by rw [l6, List.length_map, l5]) o6 e6
        · refine ⟨_, rfl, _, _, rfl, rfl, _, rfl, ?_⟩
          refine ite2 (fun c1 => ?_) (fun c1 => ?_)
          · have c1 : way < 3 := of_decide_eq_true c1
            have c0' : way ≠ 0 := fun z => c0 (by rw [z] <;> rfl)
            refine ⟨_, rfl, 3, rfl, by decide, by decide, fun D3 hD3 => ?_⟩
            refine lc_range (lo := 0) (n := 3) (fun j H' => ∃ ss : List Str, H' D3 = some (.lst (ss.map V.str)) ∧ ss.length = j ∧ (∀ s ∈ ss, s.length ≤ 100) ∧ Ex H5 H')
              ⟨[], upd_same, rfl, all_nil, (Ex.refl _).mut hD3⟩ ?_ ?_
            · rintro j H6 hj2 ⟨ss, h6, l6, o6, e6⟩
              refine ⟨rfl, ?_⟩
              refine ⟨_, rfl, _, rfl, _, _, rfl, rfl, _, rfl, _, _, rfl, rfl, small (by show 2 ≤ 100000; decide), fun q hq => ?_⟩
              obtain ⟨y, hy1, hy2⟩ := at_in (l := [V.int (0 + (j : Int) + 1), V.int (8 - (0 + (j : Int)))]) (z := way - 1) (by omega) (by show way - 1 < 2; omega)
              have nq : D3 ≠ q := ne_of_none h6 hq
              have all : ∃ r : Int, y = V.int r := by
                have m := List.mem_of_getElem? hy1
                simp only [List.mem_cons, List.not_mem_nil, or_false] at m
                rcases m with h | h <;> exact ⟨_, h⟩
              obtain ⟨r, rfl⟩ := all
              refine ⟨_, rfl, _, _, rfl, rfl, q, _, _, _, rfl, rfl, SqL.of upd_same, hy2, r, rfl, _, rfl, sl, _, (by rw [upd_ne nq]; exact h6), by rw [List.length_map]; exact small' (by omega), ss ++ [cutS stem none (some r)], ?_, by rw [List.length_append, l6]; rfl, all_snoc o6 (by have := cl none (some r); omega), (e6.new hq).mut hD3⟩
              rw [upd_same, List.map_append]
              rfl
            · rintro H6 ⟨ss, h6, l6, o6, e6⟩
              exact fin D3 hD3 ss H6 h6 l6 o6 e6
          · refine ⟨_, rfl, rfl, _, rfl, ?_⟩
            refine ite2 (fun c2 => ?_) (fun c2 => ?_)
            · refine ⟨small (by show 12 ≤ 100000; decide), fun q hq => ?_⟩
              generalize hW : ([_, _, _, _, _, _, _, _, _, _, _, _] : List V) = W
              have hWl : W.length = 12 := by rw [← hW]; rfl
              have hWs : ∀ v ∈ W, ∃ s : Str, v = V.str s ∧ s.length ≤ 100 := by
                intro v m
                rw [← hW] at m
                simp only [List.mem_cons, List.not_mem_nil, or_false] at m
                rcases m with h | h | h | h | h | h | h | h | h | h | h | h <;> exact ⟨_, h, by decide +kernel⟩
              refine ⟨_, rfl, 3, rfl, by decide, by decide, fun D3 hD3 => ?_⟩
              have e5' : Ex H5 (upd H5 q (.lst W)) := (Ex.refl _).new hq
              have hq3 : q ≠ D3 := ne_of_none upd_same hD3
              refine lc_range (lo := 0) (n := 3) (fun j H' => ∃ ss : List Str, H' D3 = some (.lst (ss.map V.str)) ∧ ss.length = j ∧ (∀ s ∈ ss, s.length ≤ 100) ∧ Ex (upd H5 q (.lst W)) H')
                ⟨[], upd_same, rfl, all_nil, (Ex.refl _).mut hD3⟩ ?_ ?_
              · rintro j H6 hj2 ⟨ss, h6, l6, o6, e6⟩
                refine ⟨rfl, ?_⟩
                obtain ⟨y, hy1, hy2⟩ := at_in (l := W) (z := (start + (0 + (j : Int))) % 12) (Int.emod_nonneg _ (by decide)) (by rw [hWl]; exact Int.emod_lt_of_pos _ (by decide))
                obtain ⟨t, rfl, lt⟩ := hWs y (List.mem_of_getElem? hy1)
                refine ⟨_, rfl, _, rfl, _, rfl, _, _, rfl, rfl, .inl ⟨_, rfl, _, _, rfl, rfl, (by show (0 : Int) < 12; decide), q, _, _, _, rfl, rfl, SqL.of (e6 q _ upd_same), hy2, _, h6, by rw [List.length_map]; exact small' (by omega), ss ++ [t], ?_, by rw [List.length_append, l6]; rfl, all_snoc o6 lt, e6.mut hD3⟩⟩
                rw [upd_same, List.map_append]
                rfl
              · rintro H6 ⟨ss, h6, l6, o6, e6⟩
                exact fin D3 (e5'.back hD3) ss H6 h6 l6 o6 (e5'.trans e6)
            · refine ⟨_, rfl, D2, rfl, ⟨_, SqL.of h5⟩, fun D3 hD3 => ?_⟩
              refine lc_list (K := K) (a := D2) (xs := ts.map V.str) (fun j H' => ∃ ss : List Str, H' D3 = some (.lst (ss.map V.str)) ∧ ss.length = j ∧ (∀ s ∈ ss, s.length ≤ 100) ∧ Ex H5 H')
                ⟨[], upd_same, rfl, all_nil, (Ex.refl _).mut hD3⟩ (fun j H' _ q => ?_) ?_ ?_
              · obtain ⟨_, _, _, _, e⟩ := q
                exact SqL.of (e _ _ h5)
              · rintro j x H6 hx ⟨ss, h6, l6, o6, e6⟩
                obtain ⟨t, ht, rfl⟩ := map_at hx
                have lt := o5 t (List.mem_of_getElem? ht)
                have hjl : j < ts.length := (List.getElem?_eq_some_iff.mp ht).1
                have c1 := cl none (some place)
                refine ⟨rfl, ?_⟩
                refine ⟨_, rfl, _, rfl, _, rfl, _, rfl, _, rfl, sl, _, _, rfl, rfl, small (by omega), _, h6, by rw [List.length_map]; exact small' (by omega), ss ++ [t ++ cutS stem none (some place)], ?_, by rw [List.length_append, l6]; rfl, all_snoc o6 (by rw [Str.length_append]; omega), e6.mut hD3⟩
                rw [upd_same, List.map_append]
                rfl
              · rintro H6 ⟨ss, h6, l6, o6, e6⟩
                exact fin D3 hD3 ss H6 h6 (by rw [l6, List.length_map, l5]) o6 e6
end
end Sk
set_option Elab.async false
set_option linter.all false
set_option maxRecDepth 100000
set_option maxHeartbeats 4000000
namespace Sk
open PySem L2
theorem KxAt.ex {H H' : Hp} {a D : Addr} {d : Option Addr} (h : KxAt H a D d) (e : Ex H H') : KxAt H' a D d := by
  refine ⟨e _ _ h.1, fun dd q => ?_⟩
  obtain ⟨fs, z⟩ := h.2 dd q
  exact ⟨fs, e _ _ z⟩
section
variable {P : Program} {w : World} {K : PySem.W.Frag} {mg : Str → Option Value} {base : Heap}
/-! ### which error it is -/
def mk15 (i : Nat) : List V := (List.range 15).map fun j => V.bl (decide (i = j))
def spMarks (K : PySem.W.Frag) : Sp := fun vs H Q _ => ∃ (a : Addr) (i : Nat) (d : Option Addr), vs = [.ref a] ∧ i < 16 ∧ KxAt H a (He.ga K (errN i)) d ∧ ∀ p H', Ex H H' → H p = none → H' p = some (.lst (mk15 i)) → Q (.ref p) H'
theorem ok_marks (T : TX K mg) : Ok P w K mg base CX0 1 a_Lmarks p_Lmarks (spMarks K) := by
  obtain ⟨fd, F⟩ := T.d.def_ 13 (d := d_Lmarks) rfl
  have b : Binds K fd p_Lmarks [] := FunD.bindsN F fun _ _ _ _ _ _ us hl => match us, hl with | [_], _ => rfl
  refine ⟨fd, F.ok sc_Lmarks (fun vs H Q E h => ?_) (fun cdv A outer s H vs Q E hr h => ?_), b, F.kp⟩
  · obtain ⟨a, i, d, rfl, _⟩ := h
    rfl
  · obtain ⟨a, i, d, rfl, hi, hk, k⟩ := h
    refine ⟨_, PSs.nox (pss_cons (ps_set (i := 1) sc_Lmarks.nd rfl (Or.inl rfl) (pe_lst (pa_cons (pe_callB call_isK rfl (T.free_isinstance) (by decide +kernel) (pa_cons (pv 0) (pa_cons (pe_glob (v := .ref (He.ga K "NoCommon")) rfl (T.g_NoCommon) rfl) pa_nil))) (pa_cons (pe_callB call_isK rfl (T.free_isinstance) (by decide +kernel) (pa_cons (pv 0) (pa_cons (pe_glob (v := .ref (He.ga K "InvalidScene")) rfl (T.g_InvalidScene) rfl) pa_nil))) (pa_cons (pe_callB call_isK rfl (T.free_isinstance) (by decide +kernel) (pa_cons (pv 0) (pa_cons (pe_glob (v := .ref (He.ga K "InvalidAnswer")) rfl (T.g_InvalidAnswer) rfl) pa_nil))) pa_nil)))))
      (pss_cons (ps_set (i := 1) sc_Lmarks.nd rfl (Or.inl rfl) (pe_op op_cat (pv 1) (pe_lst (pa_cons (pe_callB call_isK rfl (T.free_isinstance) (by decide +kernel) (pa_cons (pv 0) (pa_cons (pe_glob (v := .ref (He.ga K "PlayOver")) rfl (T.g_PlayOver) rfl) pa_nil))) (pa_cons (pe_callB call_isK rfl (T.free_isinstance) (by decide +kernel) (pa_cons (pv 0) (pa_cons (pe_glob (v := .ref (He.ga K "NoSkip")) rfl (T.g_NoSkip) rfl) pa_nil))) (pa_cons (pe_callB call_isK rfl (T.free_isinstance) (by decide +kernel) (pa_cons (pv 0) (pa_cons (pe_glob (v := .ref (He.ga K "NotExact")) rfl (T.g_NotExact) rfl) pa_nil))) (pa_cons (pe_callB call_isK rfl (T.free_isinstance) (by decide +kernel) (pa_cons (pv 0) (pa_cons (pe_glob (v := .ref (He.ga K "TooWide")) rfl (T.g_TooWide) rfl) pa_nil))) pa_nil)))))))
      (pss_cons (ps_set (i := 1) sc_Lmarks.nd rfl (Or.inl rfl) (pe_op op_cat (pv 1) (pe_lst (pa_cons (pe_callB call_isK rfl (T.free_isinstance) (by decide +kernel) (pa_cons (pv 0) (pa_cons (pe_glob (v := .ref (He.ga K "TooMany")) rfl (T.g_TooMany) rfl) pa_nil))) (pa_cons (pe_callB call_isK rfl (T.free_isinstance) (by decide +kernel) (pa_cons (pv 0) (pa_cons (pe_glob (v := .ref (He.ga K "InvalidText")) rfl (T.g_InvalidText) rfl) pa_nil))) (pa_cons (pe_callB call_isK rfl (T.free_isinstance) (by decide +kernel) (pa_cons (pv 0) (pa_cons (pe_glob (v := .ref (He.ga K "InvalidCommand")) rfl (T.g_InvalidCommand) rfl) pa_nil))) pa_nil))))))
      (pss_cons (ps_set (i := 1) sc_Lmarks.nd rfl (Or.inl rfl) (pe_op op_cat (pv 1) (pe_lst (pa_cons (pe_callB call_isK rfl (T.free_isinstance) (by decide +kernel) (pa_cons (pv 0) (pa_cons (pe_glob (v := .ref (He.ga K "NothingToUndo")) rfl (T.g_NothingToUndo) rfl) pa_nil))) (pa_cons (pe_callB call_isK rfl (T.free_isinstance) (by decide +kernel) (pa_cons (pv 0) (pa_cons (pe_glob (v := .ref (He.ga K "NoPlay")) rfl (T.g_NoPlay) rfl) pa_nil))) (pa_cons (pe_callB call_isK rfl (T.free_isinstance) (by decide +kernel) (pa_cons (pv 0) (pa_cons (pe_glob (v := .ref (He.ga K "InvalidStory")) rfl (T.g_InvalidStory) rfl) pa_nil))) pa_nil))))))
      (pss_one (ps_ret (pe_op op_cat (pv 1) (pe_lst (pa_cons (pe_callB call_isK rfl (T.free_isinstance) (by decide +kernel) (pa_cons (pv 0) (pa_cons (pe_glob (v := .ref (He.ga K "InvalidBook")) rfl (T.g_InvalidBook) rfl) pa_nil))) (pa_cons (pe_callB call_isK rfl (T.free_isinstance) (by decide +kernel) (pa_cons (pv 0) (pa_cons (pe_glob (v := .ref (He.ga K "WrongSkip")) rfl (T.g_WrongSkip) rfl) pa_nil))) pa_nil)))))))))), ?_⟩
    have is : ∀ j, j < 15 → PySem.W.kitOne K (.ref (He.ga K (errN i))) (.ref (He.ga K (errN j))) = some (decide (i = j)) := fun j hj => T.is hi hj
    have xc := T.xc hi
    refine ⟨_, rfl, a, _, d, _, _, _, rfl, .own _, hk, xc, is 0 (by decide), _, rfl, a, _, d, _, _, _, rfl, .own _, hk, xc, is 1 (by decide), _, rfl, a, _, d, _, _, _, rfl, .own _, hk, xc, is 2 (by decide), small (by show 3 ≤ 100000; decide), fun p1 h1 => ?_⟩
    have e1 : Ex H (upd H p1 (.lst [.bl (decide (i = 0)), .bl (decide (i = 1)), .bl (decide (i = 2))])) := (Ex.refl H).new h1
    have k1 := hk.ex e1
    have g1 : (upd H p1 (.lst [.bl (decide (i = 0)), .bl (decide (i = 1)), .bl (decide (i = 2))])) p1 = some (.lst [.bl (decide (i = 0)), .bl (decide (i = 1)), .bl (decide (i = 2))]) := upd_same
    generalize upd H p1 (.lst [.bl (decide (i = 0)), .bl (decide (i = 1)), .bl (decide (i = 2))]) = H1 at e1 k1 g1
    refine ⟨_, rfl, _, rfl, a, _, d, _, _, _, rfl, .own _, k1, xc, is 3 (by decide), _, rfl, a, _, d, _, _, _, rfl, .own _, k1, xc, is 4 (by decide), _, rfl, a, _, d, _, _, _, rfl, .own _, k1, xc, is 5 (by decide), _, rfl, a, _, d, _, _, _, rfl, .own _, k1, xc, is 6 (by decide), small (by show 4 ≤ 100000; decide), fun q1 f1 => ?_⟩
    refine ⟨_, _, _, _, rfl, rfl, (by rw [upd_ne (ne_of_none g1 f1)]; exact g1), upd_same, small (by show 3 + 4 ≤ 100000; decide), fun p2 h2 => ?_⟩
    have e2 := (e1.new f1).new (o := .lst ([V.bl (decide (i = 0)), .bl (decide (i = 1)), .bl (decide (i = 2))] ++ [.bl (decide (i = 3)), .bl (decide (i = 4)), .bl (decide (i = 5)), .bl (decide (i = 6))])) h2
    generalize hH2 : upd _ p2 _ = H2 at e2 ⊢
    have g2 : H2 p2 = some (.lst ([V.bl (decide (i = 0)), .bl (decide (i = 1)), .bl (decide (i = 2))] ++ [.bl (decide (i = 3)), .bl (decide (i = 4)), .bl (decide (i = 5)), .bl (decide (i = 6))])) := by rw [← hH2]; exact upd_same
    have k2 := hk.ex e2
    refine ⟨_, rfl, _, rfl, a, _, d, _, _, _, rfl, .own _, k2, xc, is 7 (by decide), _, rfl, a, _, d, _, _, _, rfl, .own _, k2, xc, is 8 (by decide), _, rfl, a, _, d, _, _, _, rfl, .own _, k2, xc, is 9 (by decide), small (by show 3 ≤ 100000; decide), fun q2 f2 => ?_⟩
    refine ⟨_, _, _, _, rfl, rfl, (by rw [upd_ne (ne_of_none g2 f2)]; exact g2), upd_same, small (by show 7 + 3 ≤ 100000; decide), fun p3 h3 => ?_⟩
    have e3 := (e2.new f2).new (o := .lst (([V.bl (decide (i = 0)), .bl (decide (i = 1)), .bl (decide (i = 2))] ++ [.bl (decide (i = 3)), .bl (decide (i = 4)), .bl (decide (i = 5)), .bl (decide (i = 6))]) ++ [.bl (decide (i = 7)), .bl (decide (i = 8)), .bl (decide (i = 9))])) h3
    generalize hH3 : upd _ p3 _ = H3 at e3 ⊢
    have g3 : H3 p3 = some (.lst (([V.bl (decide (i = 0)), .bl (decide (i = 1)), .bl (decide (i = 2))] ++ [.bl (decide (i = 3)), .bl (decide (i = 4)), .bl (decide (i = 5)), .bl (decide (i = 6))]) ++ [.bl (decide (i = 7)), .bl (decide (i = 8)), .bl (decide (i = 9))])) := by rw [← hH3]; exact upd_same
    have k3 := hk.ex e3
    refine ⟨_, rfl, _, rfl, a, _, d, _, _, _, rfl, .own _, k3, xc, is 10 (by decide), _, rfl, a, _, d, _, _, _, rfl, .own _, k3, xc, is 11 (by decide), _, rfl, a, _, d, _, _, _, rfl, .own _, k3, xc, is 12 (by decide), small (by show 3 ≤ 100000; decide), fun q3 f3 => ?_⟩
    refine ⟨_, _, _, _, rfl, rfl, (by rw [upd_ne (ne_of_none g3 f3)]; exact g3), upd_same, small (by show 10 + 3 ≤ 100000; decide), fun p4 h4 => ?_⟩
    have e4 := (e3.new f3).new (o := .lst ((([V.bl (decide (i = 0)), .bl (decide (i = 1)), .bl (decide (i = 2))] ++ [.bl (decide (i = 3)), .bl (decide (i = 4)), .bl (decide (i = 5)), .bl (decide (i = 6))]) ++ [.bl (decide (i = 7)), .bl (decide (i = 8)), .bl (decide (i = 9))]) ++ [.bl (decide (i = 10)), .bl (decide (i = 11)), .bl (decide (i = 12))])) h4
    generalize hH4 : upd _ p4 _ = H4 at e4 ⊢
    have g4 : H4 p4 = some (.lst ((([V.bl (decide (i = 0)), .bl (decide (i = 1)), .bl (decide (i = 2))] ++ [.bl (decide (i = 3)), .bl (decide (i = 4)), .bl (decide (i = 5)), .bl (decide (i = 6))]) ++ [.bl (decide (i = 7)), .bl (decide (i = 8)), .bl (decide (i = 9))]) ++ [.bl (decide (i = 10)), .bl (decide (i = 11)), .bl (decide (i = 12))])) := by rw [← hH4]; exact upd_same
    have k4 := hk.ex e4
    refine ⟨_, rfl, _, rfl, a, _, d, _, _, _, rfl, .own _, k4, xc, is 13 (by decide), _, rfl, a, _, d, _, _, _, rfl, .own _, k4, xc, is 14 (by decide), small (by show 2 ≤ 100000; decide), fun q4 f4 => ?_⟩
    refine ⟨_, _, _, _, rfl, rfl, (by rw [upd_ne (ne_of_none g4 f4)]; exact g4), upd_same, small (by show 13 + 2 ≤ 100000; decide), fun p5 h5 => ?_⟩
    exact k p5 _ ((e4.new f4).new h5) ((e4.new f4).back h5) upd_same
/-! ### the raising defs -/
theorem int_eq {i : Nat} {j : Int} (h : decide (V.int (i : Int) = V.int j) = true) : (i : Int) = j := V.int.inj (of_decide_eq_true h)
theorem int_ne {i : Nat} {j : Int} (h : ¬ decide (V.int (i : Int) = V.int j) = true) : (i : Int) ≠ j := fun z => h (decide_eq_true (congrArg V.int z))
/-- the heap behind an exception that is made: its own dict d beside -/
theorem made_ex {H : Hp} {a d : Addr} {fs : List (Str × V)} {H2 : Hp} (ha : H a = none) (hd : H d = none) (e : ∀ b, b ≠ a → b ≠ d → H2 b = H b) : Ex H (upd (del H2 a) d (.xd fs)) :=
  ini_ex ha hd fun b o q n1 n2 => by
    rw [e b n1 n2]
    exact q
theorem ok_raise_more (T : TX K mg) : Ok P w K mg base (L2.CX P w) 3 a_Lraise_more p_Lraise_more (spRaise K 8) := by
  obtain ⟨fd, F⟩ := T.d.def_ 15 (d := d_Lraise_more) rfl
  obtain ⟨_, O_InvalidStory_init⟩ := ok_iS (P := P) (w := w) (base := base) T
  obtain ⟨_, O_InvalidBook_init⟩ := ok_iB (P := P) (w := w) (base := base) T
  obtain ⟨_, O_WrongSkip_init⟩ := ok_iW (P := P) (w := w) (base := base) T
  have b : Binds K fd p_Lraise_more [] := FunD.bindsN F fun _ _ _ _ _ _ us hl => match us, hl with | [_, _, _], _ => rfl
  refine ⟨fd, F.ok sc_Lraise_more (fun vs H Q E h => ?_) (fun cdv A outer s H vs Q E hr h => ?_), b, F.kp⟩
  · obtain ⟨i, t, f, n, b, nm, no, rfl, _⟩ := h
    rfl
  · obtain ⟨i, t, f, n, b, nm, no, rfl, hlo, hi, hf, k⟩ := h
    refine ⟨_, (pss_cons (ps_if (pt_cmpR op_eq (pv 0) pe_int (nomark _))
      (pss_one (ps_raise rfl (takes_of rfl rfl rfl rfl) (SkE.pmk_own1 PySem.F.excBase_ValueError (T.exc 9 rfl).1 T.g_InvalidText (T.exc 9 rfl).2.1 (raises_own (T.exc 9 rfl).2.2.1 (T.exc 9 rfl).2.2.2) rfl (pv 1)))) pss_nil)
      (pss_cons (ps_if (pt_cmpR op_eq (pv 0) pe_int (nomark _))
      (pss_one (ps_raise rfl (takes_of rfl rfl rfl rfl) (SkE.pmk_own1 PySem.F.excBase_ValueError (T.exc 10 rfl).1 T.g_InvalidCommand (T.exc 10 rfl).2.1 (raises_own (T.exc 10 rfl).2.2.1 (T.exc 10 rfl).2.2.2) rfl (pv 1)))) pss_nil)
      (pss_cons (ps_if (pt_cmpR op_eq (pv 0) pe_int (nomark _))
      (pss_one (ps_raise rfl (takes_of rfl rfl rfl rfl) (SkE.pmk_own1 PySem.F.excBase_ValueError (T.exc 11 rfl).1 T.g_NothingToUndo (T.exc 11 rfl).2.1 (raises_own (T.exc 11 rfl).2.2.1 (T.exc 11 rfl).2.2.2) rfl (pv 1)))) pss_nil)
      (pss_cons (ps_if (pt_cmpR op_eq (pv 0) pe_int (nomark _))
      (pss_one (ps_raise rfl (takes_of rfl rfl rfl rfl) (SkE.pmk_own1 PySem.F.excBase_ValueError (T.exc 12 rfl).1 T.g_NoPlay (T.exc 12 rfl).2.1 (raises_own (T.exc 12 rfl).2.2.1 (T.exc 12 rfl).2.2.2) rfl (pv 1)))) pss_nil)
      (pss_cons (ps_if (pt_cmpR op_eq (pv 0) pe_int (nomark _))
      (pss_one (ps_raise rfl (takes_of rfl rfl rfl rfl) (pmk_oex (T.oex (by decide)) (T.ini (by decide)).1 (T.ini (by decide)).2 O_InvalidStory_init.fn (hr.mono (by decide)) O_InvalidStory_init.b .nil pass0 rfl T.g_InvalidStory (pa_cons (pe_ix (ix_list : IxR _ (rIxL K)) (pv 2) pe_int (fun _ _ => rfl)) pa_nil)))) pss_nil)
      (pss_cons (ps_if (pt_cmpR op_eq (pv 0) pe_int (nomark _))
      (pss_one (ps_raise rfl (takes_of rfl rfl rfl rfl) (pmk_oex (T.oex (by decide)) (T.ini (by decide)).1 (T.ini (by decide)).2 O_InvalidBook_init.fn (hr.mono (by decide)) O_InvalidBook_init.b .nil pass0 rfl T.g_InvalidBook (pa_cons (pe_ix (ix_list : IxR _ (rIxL K)) (pv 2) pe_int (fun _ _ => rfl)) (pa_cons (pe_ix (ix_list : IxR _ (rIxL K)) (pv 2) pe_int (fun _ _ => rfl)) pa_nil))))) pss_nil)
      (pss_cons (ps_if (pt_cmpR op_eq (pv 0) pe_int (nomark _))
      (pss_one (ps_raise rfl (takes_of rfl rfl rfl rfl) (pmk_oex (T.oex (by decide)) (T.ini (by decide)).1 (T.ini (by decide)).2 O_WrongSkip_init.fn (hr.mono (by decide)) O_WrongSkip_init.b .nil pass0 rfl T.g_WrongSkip (pa_cons (pe_ix (ix_list : IxR _ (rIxL K)) (pv 2) pe_int (fun _ _ => rfl)) (pa_cons (pe_ix (ix_list : IxR _ (rIxL K)) (pv 2) pe_int (fun _ _ => rfl)) pa_nil))))) pss_nil)
      (pss_one (ps_raise rfl (takes_of rfl rfl rfl rfl) (SkE.pmk_own1 PySem.F.excBase_ValueError (T.exc 0 rfl).1 T.g_SceneError (T.exc 0 rfl).2.1 (raises_own (T.exc 0 rfl).2.2.1 (T.exc 0 rfl).2.2.2) rfl (pv 1))))))))))), ?_⟩
    have txt : ∀ (H : Hp), (i < 12 ∨ i = 15) → Fld H i none n b nm no := fun H h => .inl ⟨h, rfl⟩
    refine ⟨_, rfl, rfl, _, rfl, ite2 (fun c => ?_) (fun c8 => ?_)⟩
    · obtain rfl : i = 8 := by have := int_eq c; omega
      exact ⟨_, rfl, k none H (Ex.refl H) (txt _ (by decide))⟩
    refine ⟨_, rfl, rfl, _, rfl, ite2 (fun c => ?_) (fun c9 => ?_)⟩
    · obtain rfl : i = 9 := by have := int_eq c; omega
      exact ⟨_, rfl, k none H (Ex.refl H) (txt _ (by decide))⟩
    refine ⟨_, rfl, rfl, _, rfl, ite2 (fun c => ?_) (fun c10 => ?_)⟩
    · obtain rfl : i = 10 := by have := int_eq c; omega
      exact ⟨_, rfl, k none H (Ex.refl H) (txt _ (by decide))⟩
    refine ⟨_, rfl, rfl, _, rfl, ite2 (fun c => ?_) (fun c11 => ?_)⟩
    · obtain rfl : i = 11 := by have := int_eq c; omega
      exact ⟨_, rfl, k none H (Ex.refl H) (txt _ (by decide))⟩
    refine ⟨_, rfl, rfl, _, rfl, ite2 (fun c => ?_) (fun c12 => ?_)⟩
    · obtain rfl : i = 12 := by have := int_eq c; omega
      refine ⟨_, rfl, f, _, _, n, rfl, rfl, SqL.of hf, rfl, (by show 1 ≤ 1000; decide), fun a ha => ⟨a, n, rfl, upd_same, fun d hd hn => ⟨rfl, d, _, upd_same, (by rw [upd_ne hn, upd_same]), (by rw [upd_ne hn] at hd; exact hd), ?_⟩⟩⟩
      rw [upd_ne hn] at hd
      exact k (some d) _ (made_ex ha hd fun b n1 n2 => by rw [upd_ne n1, upd_ne n2, upd_ne n1]) (.inr (.inl ⟨rfl, d, rfl, upd_same⟩))
    refine ⟨_, rfl, rfl, _, rfl, ite2 (fun c => ?_) (fun c13 => ?_)⟩
    · obtain rfl : i = 13 := by have := int_eq c; omega
      refine ⟨_, rfl, f, _, _, n, rfl, rfl, SqL.of hf, rfl, _, rfl, f, _, _, .bl b, rfl, rfl, SqL.of hf, rfl, (by show 2 ≤ 1000; decide), fun a ha => ⟨a, n, .bl b, rfl, upd_same, fun d hd hn => ⟨rfl, d, _, (by rw [upd_ne hn.symm, upd_same]), upd_same, (by rw [upd_ne hn] at hd; exact hd), ?_⟩⟩⟩
      rw [upd_ne hn] at hd
      exact k (some d) _ (made_ex ha hd fun b n1 n2 => by rw [upd_ne n2, upd_ne n1, upd_ne n2, upd_ne n1]) (.inr (.inr (.inl ⟨rfl, d, rfl, upd_same⟩)))
    refine ⟨_, rfl, rfl, _, rfl, ite2 (fun c => ?_) (fun c14 => ?_)⟩
    · obtain rfl : i = 14 := by have := int_eq c; omega
      refine ⟨_, rfl, f, _, _, .str nm, rfl, rfl, SqL.of hf, rfl, _, rfl, f, _, _, .ref no, rfl, rfl, SqL.of hf, rfl, (by show 2 ≤ 1000; decide), fun a ha => ⟨a, .str nm, .ref no, rfl, upd_same, fun d hd hn => ⟨rfl, d, _, (by rw [upd_ne hn.symm, upd_same]), upd_same, (by rw [upd_ne hn] at hd; exact hd), ?_⟩⟩⟩
      rw [upd_ne hn] at hd
      exact k (some d) _ (made_ex ha hd fun b n1 n2 => by rw [upd_ne n2, upd_ne n1, upd_ne n2, upd_ne n1]) (.inr (.inr (.inr ⟨rfl, d, rfl, upd_same⟩)))
    have e15 : i = 15 := by
      have := int_ne c8
      have := int_ne c9
      have := int_ne c10
      have := int_ne c11
      have := int_ne c12
      have := int_ne c13
      have := int_ne c14
      omega
    subst e15
    exact ⟨_, rfl, k none H (Ex.refl H) (txt _ (by decide))⟩
theorem ok_raise (T : TX K mg) : Ok P w K mg base (L2.CX P w) 4 a_Lraise p_Lraise (spRaise K 0) := by
  obtain ⟨fd, F⟩ := T.d.def_ 14 (d := d_Lraise) rfl
  obtain ⟨_, O_Lraise_more⟩ := ok_raise_more (P := P) (w := w) (base := base) T
  have b : Binds K fd p_Lraise [] := FunD.bindsN F fun _ _ _ _ _ _ us hl => match us, hl with | [_, _, _], _ => rfl
  refine ⟨fd, F.ok sc_Lraise (fun vs H Q E h => ?_) (fun cdv A outer s H vs Q E hr h => ?_), b, F.kp⟩
  · obtain ⟨i, t, f, n, b, nm, no, rfl, _⟩ := h
    rfl
  · obtain ⟨i, t, f, n, b, nm, no, rfl, hlo, hi, hf, k⟩ := h
    refine ⟨_, (pss_cons (ps_if (pt_cmpR op_eq (pv 0) pe_int (nomark _))
      (pss_one (ps_raise rfl (takes_of rfl rfl rfl rfl) (SkE.pmk_own1 PySem.F.excBase_ValueError (T.exc 1 rfl).1 T.g_NoCommon (T.exc 1 rfl).2.1 (raises_own (T.exc 1 rfl).2.2.1 (T.exc 1 rfl).2.2.2) rfl (pv 1)))) pss_nil)
      (pss_cons (ps_if (pt_cmpR op_eq (pv 0) pe_int (nomark _))
      (pss_one (ps_raise rfl (takes_of rfl rfl rfl rfl) (SkE.pmk_own1 PySem.F.excBase_ValueError (T.exc 2 rfl).1 T.g_InvalidScene (T.exc 2 rfl).2.1 (raises_own (T.exc 2 rfl).2.2.1 (T.exc 2 rfl).2.2.2) rfl (pv 1)))) pss_nil)
      (pss_cons (ps_if (pt_cmpR op_eq (pv 0) pe_int (nomark _))
      (pss_one (ps_raise rfl (takes_of rfl rfl rfl rfl) (SkE.pmk_own1 PySem.F.excBase_ValueError (T.exc 3 rfl).1 T.g_InvalidAnswer (T.exc 3 rfl).2.1 (raises_own (T.exc 3 rfl).2.2.1 (T.exc 3 rfl).2.2.2) rfl (pv 1)))) pss_nil)
      (pss_cons (ps_if (pt_cmpR op_eq (pv 0) pe_int (nomark _))
      (pss_one (ps_raise rfl (takes_of rfl rfl rfl rfl) (SkE.pmk_own1 PySem.F.excBase_ValueError (T.exc 4 rfl).1 T.g_PlayOver (T.exc 4 rfl).2.1 (raises_own (T.exc 4 rfl).2.2.1 (T.exc 4 rfl).2.2.2) rfl (pv 1)))) pss_nil)
      (pss_cons (ps_if (pt_cmpR op_eq (pv 0) pe_int (nomark _))
      (pss_one (ps_raise rfl (takes_of rfl rfl rfl rfl) (SkE.pmk_own1 PySem.F.excBase_ValueError (T.exc 5 rfl).1 T.g_NoSkip (T.exc 5 rfl).2.1 (raises_own (T.exc 5 rfl).2.2.1 (T.exc 5 rfl).2.2.2) rfl (pv 1)))) pss_nil)
      (pss_cons (ps_if (pt_cmpR op_eq (pv 0) pe_int (nomark _))
      (pss_one (ps_raise rfl (takes_of rfl rfl rfl rfl) (SkE.pmk_own1 PySem.F.excBase_ValueError (T.exc 6 rfl).1 T.g_NotExact (T.exc 6 rfl).2.1 (raises_own (T.exc 6 rfl).2.2.1 (T.exc 6 rfl).2.2.2) rfl (pv 1)))) pss_nil)
      (pss_cons (ps_if (pt_cmpR op_eq (pv 0) pe_int (nomark _))
      (pss_one (ps_raise rfl (takes_of rfl rfl rfl rfl) (SkE.pmk_own1 PySem.F.excBase_ValueError (T.exc 7 rfl).1 T.g_TooWide (T.exc 7 rfl).2.1 (raises_own (T.exc 7 rfl).2.2.1 (T.exc 7 rfl).2.2.2) rfl (pv 1)))) pss_nil)
      (pss_cons (ps_if (pt_cmpR op_eq (pv 0) pe_int (nomark _))
      (pss_one (ps_raise rfl (takes_of rfl rfl rfl rfl) (SkE.pmk_own1 PySem.F.excBase_ValueError (T.exc 8 rfl).1 T.g_TooMany (T.exc 8 rfl).2.1 (raises_own (T.exc 8 rfl).2.2.1 (T.exc 8 rfl).2.2.2) rfl (pv 1)))) pss_nil)
      (pss_one (ps_expr (pcall O_Lraise_more (hr.mono (by decide)) rfl (T.g_Lraise_more) (passes_call (E := E) (takes_of rfl rfl rfl rfl) (fun _ _ _ _ h => h)) (pa_cons (pv 0) (pa_cons (pv 1) (pa_cons (pv 2) pa_nil)))))))))))))), ?_⟩
    have txt : ∀ (H : Hp), (i < 12 ∨ i = 15) → Fld H i none n b nm no := fun H h => .inl ⟨h, rfl⟩
    refine ⟨_, rfl, rfl, _, rfl, ite2 (fun c => ?_) (fun c0 => ?_)⟩
    · obtain rfl : i = 0 := by have := int_eq c; omega
      exact ⟨_, rfl, k none H (Ex.refl H) (txt _ (by decide))⟩
    refine ⟨_, rfl, rfl, _, rfl, ite2 (fun c => ?_) (fun c1 => ?_)⟩
    · obtain rfl : i = 1 := by have := int_eq c; omega
      exact ⟨_, rfl, k none H (Ex.refl H) (txt _ (by decide))⟩
    refine ⟨_, rfl, rfl, _, rfl, ite2 (fun c => ?_) (fun c2 => ?_)⟩
    · obtain rfl : i = 2 := by have := int_eq c; omega
      exact ⟨_, rfl, k none H (Ex.refl H) (txt _ (by decide))⟩
    refine ⟨_, rfl, rfl, _, rfl, ite2 (fun c => ?_) (fun c3 => ?_)⟩
    · obtain rfl : i = 3 := by have := int_eq c; omega
      exact ⟨_, rfl, k none H (Ex.refl H) (txt _ (by decide))⟩
    refine ⟨_, rfl, rfl, _, rfl, ite2 (fun c => ?_) (fun c4 => ?_)⟩
    · obtain rfl : i = 4 := by have := int_eq c; omega
      exact ⟨_, rfl, k none H (Ex.refl H) (txt _ (by decide))⟩
    refine ⟨_, rfl, rfl, _, rfl, ite2 (fun c => ?_) (fun c5 => ?_)⟩
    · obtain rfl : i = 5 := by have := int_eq c; omega
      exact ⟨_, rfl, k none H (Ex.refl H) (txt _ (by decide))⟩
    refine ⟨_, rfl, rfl, _, rfl, ite2 (fun c => ?_) (fun c6 => ?_)⟩
    · obtain rfl : i = 6 := by have := int_eq c; omega
      exact ⟨_, rfl, k none H (Ex.refl H) (txt _ (by decide))⟩
    refine ⟨_, rfl, rfl, _, rfl, ite2 (fun c => ?_) (fun c7 => ?_)⟩
    · obtain rfl : i = 7 := by have := int_eq c; omega
      exact ⟨_, rfl, k none H (Ex.refl H) (txt _ (by decide))⟩
    have := int_ne c0
    have := int_ne c1
    have := int_ne c2
    have := int_ne c3
    have := int_ne c4
    have := int_ne c5
    have := int_ne c6
    have := int_ne c7
    exact ⟨_, rfl, _, rfl, _, rfl, i, t, f, n, b, nm, no, rfl, by omega, hi, hf, k⟩
end
end Sk
set_option Elab.async false
set_option linter.all false
set_option maxRecDepth 100000
set_option maxHeartbeats 4000000
namespace Sk
open PySem L2
section
variable {P : Program} {w : World} {K : PySem.W.Frag} {mg : Str → Option Value} {base : Heap}
/-! ### what the errors hold -/
def spSame : Sp := fun vs H Q _ => ∃ v : V, vs = [v, v] ∧ (v = .non ∨ ∃ i : Int, v = .int i) ∧ ∀ H', Ex H H' → Q (.bl true) H'
theorem kit_int {K : PySem.W.Frag} : PySem.W.kitOne K (.type "int") (.type "int") = some true := kit_ty (by decide +kernel)
theorem kit_intb {K : PySem.W.Frag} : PySem.W.kitOne K (.type "int") (.type "bool") = some false := kit_ty (by decide +kernel)
theorem kit_bool {K : PySem.W.Frag} : PySem.W.kitOne K (.type "bool") (.type "bool") = some true := kit_ty (by decide +kernel)
theorem ok_same (T : TX K mg) : Ok P w K mg base CX0 1 a_Lsame_number p_Lsame_number spSame := by
  obtain ⟨fd, F⟩ := T.d.def_ 16 (d := d_Lsame_number) rfl
  have b : Binds K fd p_Lsame_number [] := FunD.bindsN F fun _ _ _ _ _ _ us hl => match us, hl with | [_, _], _ => rfl
  refine ⟨fd, F.ok sc_Lsame_number (fun vs H Q E h => ?_) (fun cdv A outer s H vs Q E hr h => ?_), b, F.kp⟩
  · obtain ⟨v, rfl, _⟩ := h
    rfl
  · obtain ⟨v, rfl, hv, k⟩ := h
    refine ⟨_, PSs.nox (pss_cons (ps_if (pt_cmpR op_isN (pv 1) pe_non (nomark _)) (pss_one (ps_ret (pe_cmpR op_isN (pv 0) pe_non (nomark _)))) pss_nil)
      (pss_one (ps_ret (pe_and (pe_callB call_isi rfl (T.free_isinstance) (by decide +kernel) (pa_cons (pv 0) (pa_cons (pe_bltn (v := .ty "int") rfl (T.free_int) (by decide +kernel) rfl) pa_nil))) (pe_and (pe_not (pe_callB call_isi rfl (T.free_isinstance) (by decide +kernel) (pa_cons (pv 0) (pa_cons (pe_bltn (v := .ty "bool") rfl (T.free_bool) (by decide +kernel) rfl) pa_nil)))) (pe_one (pe_cmpR op_eq (pv 0) (pv 1) (nomark _)))))))), ?_⟩
    rcases hv with rfl | ⟨i, rfl⟩
    · refine ⟨_, rfl, rfl, _, rfl, ?_⟩
      refine ite2 (fun _ => ?_) (fun c => absurd (decide_eq_true rfl) c)
      exact ⟨_, rfl, rfl, k H (Ex.refl H)⟩
    · refine ⟨_, rfl, rfl, _, rfl, ?_⟩
      refine ite2 (fun c => absurd (of_decide_eq_true c) (fun z => by cases z)) (fun _ => ?_)
      refine ⟨_, rfl, _, _, _, _, _, rfl, .ty _, .base (.int i), kit_int, true, rfl, ?_⟩
      refine yes ?_
      refine ⟨_, rfl, _, _, _, _, _, rfl, .ty _, .base (.int i), kit_intb, false, rfl, true, rfl, ?_⟩
      refine yes ?_
      refine ⟨_, rfl, _, rfl, rfl, ?_⟩
      have e : decide (V.int i = V.int i) = true := decide_eq_true rfl
      rw [e]
      exact k H (Ex.refl H)
def spFields (K : PySem.W.Frag) : Sp := fun vs H Q _ => ∃ (a : Addr) (i : Nat) (f : Addr) (d : Option Addr) (n : V) (b : Bool) (nm : Str) (no : Addr), vs = [.ref a, .int (i : Int), .ref f] ∧ i < 16 ∧ H a = some (Kx (.ref (He.ga K (errN i))) d a) ∧ Fld H i d n b nm no ∧
  (n = .non ∨ ∃ z : Int, n = .int z) ∧ NotesAt K H no ∧ H f = some (.lst [n, .bl b, .str nm, .ref no]) ∧ ∀ H', Ex H H' → Q (.bl true) H'
theorem ok_fields (T : TX K mg) : Ok P w K mg base CX0 2 a_Lfields p_Lfields (spFields K) := by
  obtain ⟨fd, F⟩ := T.d.def_ 17 (d := d_Lfields) rfl
  obtain ⟨_, O_Lsame_number⟩ := ok_same (P := P) (w := w) (base := base) T
  obtain ⟨_, O_Notes_eq⟩ := ok_eq (P := P) (w := w) (base := base) T
  have b : Binds K fd p_Lfields [] := FunD.bindsN F fun _ _ _ _ _ _ us hl => match us, hl with | [_, _, _], _ => rfl
  refine ⟨fd, F.ok sc_Lfields (fun vs H Q E h => ?_) (fun cdv A outer s H vs Q E hr h => ?_), b, F.kp⟩
  · obtain ⟨a, i, f, d, n, b, nm, no, rfl, _⟩ := h
    rfl
  · obtain ⟨a, i, f, d, n, b, nm, no, rfl, hi, ha, hF, hn, hN, hf, k⟩ := h
    refine ⟨_, PSs.nox (pss_cons (ps_if (pt_cmpR op_eq (pv 1) pe_int (nomark _))
      (pss_one (ps_ret (pcall O_Lsame_number (hr.mono (by decide)) rfl (T.g_Lsame_number) pass0 (pa_cons (pe_kxf (pv 0)) (pa_cons (pe_ix (ix_list : IxR _ (rIxL K)) (pv 2) pe_int (fun _ _ => rfl)) pa_nil))))) pss_nil)
      (pss_cons (ps_if (pt_cmpR op_eq (pv 1) pe_int (nomark _))
      (pss_one (ps_ret (pe_and (pcall O_Lsame_number (hr.mono (by decide)) rfl (T.g_Lsame_number) pass0 (pa_cons (pe_kxf (pv 0)) (pa_cons (pe_ix (ix_list : IxR _ (rIxL K)) (pv 2) pe_int (fun _ _ => rfl)) pa_nil))) (pe_and (pe_callB call_isi rfl (T.free_isinstance) (by decide +kernel) (pa_cons (pe_kxf (pv 0)) (pa_cons (pe_bltn (v := .ty "bool") rfl (T.free_bool) (by decide +kernel) rfl) pa_nil))) (pe_one (pe_cmpR op_eq (pe_kxf (pv 0)) (pe_ix (ix_list : IxR _ (rIxL K)) (pv 2) pe_int (fun _ _ => rfl)) (nomark _))))))) pss_nil)
      (pss_cons (ps_if (pt_cmpR op_eq (pv 1) pe_int (nomark _))
      (pss_one (ps_ret (pe_and (pe_cmpR op_eq (pe_kxf (pv 0)) (pe_ix (ix_list : IxR _ (rIxL K)) (pv 2) pe_int (fun _ _ => rfl)) (nomark _)) (pe_and (pe_callB call_isi rfl (T.free_isinstance) (by decide +kernel) (pa_cons (pe_kxf (pv 0)) (pa_cons (pe_glob (v := .ref (He.ga K "Notes")) rfl (T.g_Notes) rfl) pa_nil))) (pe_one (pe_cmpR (op_eqG (rcG_ins (R := SameN K) O_Notes_eq.fn T.m_eq.1 T.m_eq.2 O_Notes_eq.b pass0) (hr.mono (by decide))) (pe_kxf (pv 0)) (pe_ix (ix_list : IxR _ (rIxL K)) (pv 2) pe_int (fun _ _ => rfl)) (nomark _))))))) pss_nil)
      (pss_one (ps_ret pe_bl))))), ?_⟩
    have xc := T.xc hi
    refine ⟨_, rfl, rfl, _, rfl, ite2 (fun c => ?_) (fun c12 => ?_)⟩
    · obtain rfl : i = 12 := by have := int_eq c; omega
      obtain ⟨dd, rfl, hd⟩ : ∃ dd, d = some dd ∧ H dd = some (.xd [(("index" : Str), n)]) := by
        rcases hF with ⟨h, _⟩ | ⟨_, h⟩ | ⟨h, _⟩ | ⟨h, _⟩
        · exact absurd h (by decide)
        · exact h
        · exact absurd h (by decide)
        · exact absurd h (by decide)
      exact ⟨_, rfl, a, _, dd, _, n, rfl, ha, hd, xc, T.nof1, rfl, _, rfl, f, _, _, n, rfl, rfl, SqL.of hf, rfl, n, rfl, hn, k⟩
    refine ⟨_, rfl, rfl, _, rfl, ite2 (fun c => ?_) (fun c13 => ?_)⟩
    · obtain rfl : i = 13 := by have := int_eq c; omega
      obtain ⟨dd, rfl, hd⟩ : ∃ dd, d = some dd ∧ H dd = some (.xd [(("over" : Str), .bl b), (("index" : Str), n)]) := by
        rcases hF with ⟨h, _⟩ | ⟨h, _⟩ | ⟨_, h⟩ | ⟨h, _⟩
        · exact absurd h (by decide)
        · exact absurd h (by decide)
        · exact h
        · exact absurd h (by decide)
      have l1 : List.lookup ("index" : Str) [(("over" : Str), V.bl b), (("index" : Str), n)] = some n := by
        have q : (("index" : Str) == "over") = false := by decide +kernel
        simp [List.lookup, q]
      refine ⟨_, rfl, a, _, dd, _, n, rfl, ha, hd, xc, T.nof2, l1, _, rfl, f, _, _, n, rfl, rfl, SqL.of hf, rfl, n, rfl, hn, fun H1 e1 => ⟨true, rfl, ?_⟩⟩
      refine yes ?_
      have l2 : List.lookup ("over" : Str) [(("over" : Str), V.bl b), (("index" : Str), n)] = some (.bl b) := by simp [List.lookup]
      refine ⟨_, rfl, a, _, dd, _, _, rfl, e1 _ _ ha, e1 _ _ hd, xc, T.nof3, l2, _, _, _, _, _, rfl, .ty _, .base (.bl b), kit_bool, true, rfl, ?_⟩
      refine yes ?_
      refine ⟨_, rfl, a, _, dd, _, _, rfl, e1 _ _ ha, e1 _ _ hd, xc, T.nof3, l2, _, rfl, f, _, _, _, rfl, rfl, SqL.of (e1 _ _ hf), rfl, rfl, ?_⟩
      have e : decide (V.bl b = V.bl b) = true := decide_eq_true rfl
      rw [e]
      exact k H1 e1
    refine ⟨_, rfl, rfl, _, rfl, ite2 (fun c => ?_) (fun c14 => ?_)⟩
    · obtain rfl : i = 14 := by have := int_eq c; omega
      obtain ⟨dd, rfl, hd⟩ : ∃ dd, d = some dd ∧ H dd = some (.xd [(("at" : Str), .ref no), (("name" : Str), .str nm)]) := by
        rcases hF with ⟨h, _⟩ | ⟨h, _⟩ | ⟨h, _⟩ | ⟨_, h⟩
        · exact absurd h (by decide)
        · exact absurd h (by decide)
        · exact absurd h (by decide)
        · exact h
      have l1 : List.lookup ("name" : Str) [(("at" : Str), V.ref no), (("name" : Str), V.str nm)] = some (.str nm) := by
        have q : (("name" : Str) == "at") = false := by decide +kernel
        simp [List.lookup, q]
      have l2 : List.lookup ("at" : Str) [(("at" : Str), V.ref no), (("name" : Str), V.str nm)] = some (.ref no) := by simp [List.lookup]
      refine ⟨_, rfl, a, _, dd, _, _, rfl, ha, hd, xc, T.nof4, l1, _, rfl, f, _, _, _, rfl, rfl, SqL.of hf, rfl, rfl, _, rfl, ?_⟩
      have e : decide (V.str nm = V.str nm) = true := decide_eq_true rfl
      rw [e]
      refine yes ?_
      refine ⟨_, rfl, a, _, dd, _, _, rfl, ha, hd, xc, T.nof5, l2, _, _, _, _, _, rfl, .own _, ty_notes T hN, is_notes T, true, rfl, ?_⟩
      refine yes ?_
      obtain ⟨dx, d, t, h1, h2⟩ := id hN
      exact ⟨_, rfl, a, _, dd, _, _, rfl, ha, hd, xc, T.nof5, l2, _, rfl, f, _, _, _, rfl, rfl, SqL.of hf, rfl, ⟨no, no, dx, dx, _, _, rfl, rfl, h1, h1, rfl, hN⟩, k⟩
    exact k H (Ex.refl H)
/-! ### the law -/
abbrev rAddS2 : R2 := fun x y H Q => ∃ i j, x = .str i ∧ y = .str j ∧ i.length + j.length ≤ sizeLine ∧ Q (.str (i ++ j)) H
/-- the raising call's arguments -/
def tArgs (K : PySem.W.Frag) : TA := tCons (tVar 5) (tCons (tOp rAddS2 (tOp rAddS2 (tOp (rIxL K) (tVar 6) (tC (.int 0))) (tC (.str " "))) (tOp (rIxL K) (tVar 6) (tC (.int 1)))) (tCons (tVar 9) tNil))
def spLaw (K : PySem.W.Frag) : Sp := fun vs H Q _ => ∃ (a : Addr) (ns : List Int), vs = [.ref a] ∧ SqL K H a (ns.map V.int) ∧ ns.length ≤ 63 ∧ ∀ H', Q (.bl true) H'
theorem marks_data (i : Nat) {H : Hp} {p : Addr} (h : H p = some (.lst (mk15 i))) : Dp K H (.ref p) (.list ((List.range 15).map fun j => PyData.bool (decide (i = j)))) := by
  refine .lst (SqL.of h) ?_
  have all : ∀ l : List Nat, DpAll K H (l.map fun j => V.bl (decide (i = j))) (l.map fun j => PyData.bool (decide (i = j))) := by
    intro l
    induction l with
    | nil => exact .nil
    | cons x l ih => exact .cons (.bl _) ih
  exact all _
theorem marks_shaped (i : Nat) : SeqAt.shaped (.list ((List.range 15).map fun j => PyData.bool (decide (i = j)))) = true := by
  have a1 : ∀ l : List Nat, PyData.canLayAll0 (l.map fun j => PyData.bool (decide (i = j))) = true := by
    intro l
    induction l with
    | nil => rfl
    | cons x l ih =>
      show (true && PyData.canLayAll0 (l.map fun j => PyData.bool (decide (i = j)))) = true
      rw [ih] <;> rfl
  have a2 : ∀ l : List Nat, PyData.depthAll (l.map fun j => PyData.bool (decide (i = j))) = 0 := by
    intro l
    induction l with
    | nil => rfl
    | cons x l ih =>
      show max 0 (PyData.depthAll (l.map fun j => PyData.bool (decide (i = j)))) = 0
      rw [ih] <;> rfl
  have e1 : (PyData.list ((List.range 15).map fun j => PyData.bool (decide (i = j)))).canLay0 = true := a1 _
  have e2 : (PyData.list ((List.range 15).map fun j => PyData.bool (decide (i = j)))).depth ≤ 64 := by
    show PyData.depthAll ((List.range 15).map fun j => PyData.bool (decide (i = j))) + 1 ≤ 64
    rw [a2]
    decide
  show (_ && _) = true
  rw [e1, decide_eq_true e2]
  rfl
theorem exm_all (T : TX K mg) {i : Nat} (h : i < 16) : PySem.W.exmOne K (.ref (He.ga K (errN i))) (.ref (He.ga K "SceneError")) = some true := by
  match i, h with
  | 0, _ => exact T.exm 1 rfl
  | 1, _ => exact T.exm 2 rfl
  | 2, _ => exact T.exm 3 rfl
  | 3, _ => exact T.exm 4 rfl
  | 4, _ => exact T.exm 5 rfl
  | 5, _ => exact T.exm 6 rfl
  | 6, _ => exact T.exm 7 rfl
  | 7, _ => exact T.exm 8 rfl
  | 8, _ => exact T.exm 9 rfl
  | 9, _ => exact T.exm 10 rfl
  | 10, _ => exact T.exm 11 rfl
  | 11, _ => exact T.exm 12 rfl
  | 12, _ => exact T.exm 13 rfl
  | 13, _ => exact T.exm 14 rfl
  | 14, _ => exact T.exm 15 rfl
  | 15, _ => exact T.exm 0 rfl
  | n + 16, h => exact absurd h (by omega)
theorem Fld.xd {H : Hp} {i : Nat} {d : Option Addr} {n : V} {b : Bool} {nm : Str} {no : Addr} (h : Fld H i d n b nm no) (dd : Addr) (e : d = some dd) : ∃ fs, H dd = some (.xd fs) := by
  rcases h with ⟨_, q⟩ | ⟨_, x, q, z⟩ | ⟨_, x, q, z⟩ | ⟨_, x, q, z⟩
  · rw [q] at e
    cases e
  all_goals
    rw [q] at e
    cases e
    exact ⟨_, z⟩
theorem ok_law (T : TX K mg) : ∃ fd, (∀ base : Heap, OkF P w K mg base CX0 5 a_law fd p_law (spLaw K)) ∧ ∀ (s : Shared) (v : Value), BindsTo s fd ⟨[v], []⟩ [("script", v)] := by
  obtain ⟨fd, F⟩ := T.d.def_ 18 (d := d_law) rfl
  have bA := FunD.bindsA (ps := p_law) F fun _ _ _ _ _ _ us hl => match us, hl with | [_], _ => rfl
  refine ⟨fd, fun base => ?_, fun s v => bA s [v] rfl⟩
  obtain ⟨_, O_Lstock⟩ := ok_stock (P := P) (w := w) (base := base) T
  obtain ⟨_, O_Ldraw⟩ := ok_draw (P := P) (w := w) (base := base) T
  obtain ⟨_, O_Lpool⟩ := ok_pool (P := P) (w := w) (base := base) T
  obtain ⟨_, O_Lfar⟩ := ok_far (P := P) (w := w) (base := base) T
  obtain ⟨_, O_Notes_init⟩ := ok_notes (P := P) (w := w) (base := base) T
  obtain ⟨_, O_Lraise⟩ := ok_raise (P := P) (w := w) (base := base) T
  obtain ⟨_, O_Lmarks⟩ := ok_marks (P := P) (w := w) (base := base) T
  obtain ⟨_, O_Lfields⟩ := ok_fields (P := P) (w := w) (base := base) T
  have b : Binds K fd p_law [] := FunD.bindsN F fun _ _ _ _ _ _ us hl => match us, hl with | [_], _ => rfl
  refine ⟨F.ok sc_law (fun vs H Q E h => ?_) (fun cdv A outer s H vs Q E hr h => ?_), b, F.kp⟩
  · obtain ⟨a, ns, rfl, _⟩ := h
    rfl
  · obtain ⟨a, ns, rfl, hS, hl, k⟩ := h
    refine ⟨_, PSs.nox (pss_cons (ps_set (i := 1) sc_law.nd rfl (Or.inl rfl) (pcall O_Lstock (hr.mono (by decide)) rfl (T.g_Lstock) pass0 (pa_cons (pv 0) pa_nil)))
      (pss_cons (ps_set (i := 2) sc_law.nd rfl (Or.inl rfl) (pe_ix (ix_list : IxR _ (rIxL K)) (pe_lst (pa_cons pe_int (pa_cons pe_int (pa_cons pe_int (pa_cons pe_int pa_nil))))) (pcall O_Ldraw (hr.mono (by decide)) rfl (T.g_Ldraw) pass0 (pa_cons (pv 1) (pa_cons pe_int pa_nil))) (fun _ _ => rfl)))
      (pss_cons (ps_set (i := 3) sc_law.nd rfl (Or.inl rfl) (pcall O_Ldraw (hr.mono (by decide)) rfl (T.g_Ldraw) pass0 (pa_cons (pv 1) (pa_cons pe_int pa_nil))))
      (pss_cons (ps_for PassesOwn.never rfl (pi_range1 rfl (T.free_range) (pa_cons pe_int pa_nil)) (pg_name (i := 4) sc_law.nd rfl (Or.inl rfl))
      (pss_cons (ps_set (i := 5) sc_law.nd rfl (Or.inr rfl) (pe_op op_mod (pe_callTy call_int1 rfl (T.free_int) (by decide +kernel) (pa_cons (pe_op op_add (pv 3) (pe_op op_mul (pv 4) (pv 2))) pa_nil)) pe_int))
      (pss_cons (ps_set (i := 6) sc_law.nd rfl (Or.inl rfl) (pcall O_Lpool (hr.mono (by decide)) rfl (T.g_Lpool) pass0 (pa_cons (pv 1) (pa_cons pe_int pa_nil))))
      (pss_cons (ps_set (i := 7) sc_law.nd rfl (Or.inl rfl) (pe_ix (ix_list : IxR _ (rIxL K)) (pe_lst (pa_cons (pcall O_Lfar (hr.mono (by decide)) rfl (T.g_Lfar) pass0 (pa_cons (pv 1) pa_nil)) (pa_cons pe_non (pa_cons (pcall O_Ldraw (hr.mono (by decide)) rfl (T.g_Ldraw) pass0 (pa_cons (pv 1) (pa_cons pe_int pa_nil))) pa_nil)))) (pcall O_Ldraw (hr.mono (by decide)) rfl (T.g_Ldraw) pass0 (pa_cons (pv 1) (pa_cons pe_int pa_nil))) (fun _ _ => rfl)))
      (pss_cons (ps_set (i := 8) sc_law.nd rfl (Or.inl rfl) (pe_disp (pps_cons (pe_ix (ix_list : IxR _ (rIxL K)) (pv 6) pe_int (fun _ _ => rfl)) (pe_op op_add pe_int (pcall O_Ldraw (hr.mono (by decide)) rfl (T.g_Ldraw) pass0 (pa_cons (pv 1) (pa_cons pe_int pa_nil)))) (pps_cons (pe_ix (ix_list : IxR _ (rIxL K)) (pv 6) pe_int (fun _ _ => rfl)) (pe_un un_neg pe_int) pps_nil)) (by rfl) (by rfl) (fun z => by cases z) (by decide)))
      (pss_cons (ps_set (i := 9) sc_law.nd rfl (Or.inl rfl) (pe_lst (pa_cons (pv 7) (pa_cons (pe_cmpR op_eq (pcall O_Ldraw (hr.mono (by decide)) rfl (T.g_Ldraw) pass0 (pa_cons (pv 1) (pa_cons pe_int pa_nil))) pe_int (nomark _)) (pa_cons (pe_ix (ix_list : IxR _ (rIxL K)) (pv 6) pe_int (fun _ _ => rfl)) (pa_cons (pmake T.mk_Notes O_Notes_init (hr.mono (by decide)) rfl (T.g_Notes) pass0 (pa_cons (pv 8) pa_nil)) pa_nil))))))
      (pss_cons (ps_set (i := 10) sc_law.nd rfl (Or.inl rfl) pe_non)
      (pss_cons (ps_try_keep (i := 11) (tb := fun W => tDrop (tCallS (spRaise K 0) (WE W) (tArgs K))) (ts := fun _ _ _ => tAsg (tVar 11) (gName 10)) (Wout := fun _ _ _ _ => False) rfl rfl rfl sc_law.nd rfl rfl ⟨rfl, by decide, Or.inl T.g_SceneError⟩ takes0
        (fun W pn xe tk _ => pss_one (ps_expr (by exact (pe_callS O_Lraise.fn (hr.mono (by decide)) rfl T.g_Lraise O_Lraise.k O_Lraise.b (fun σ => passAt tk σ) (by exact (pa_cons (pv 5) (pa_cons (pe_op op_add_str (pe_op op_add_str (pe_ix (ix_list : IxR _ (rIxL K)) (pv 6) pe_int (fun _ _ => rfl)) pe_str) (pe_ix (ix_list : IxR _ (rIxL K)) (pv 6) pe_int (fun _ _ => rfl))) (pa_cons (pv 9) pa_nil))))))))
        (fun a oe cls d pn hz hf => pss_one (ps_set (i := 10) sc_law.nd rfl (Or.inl rfl) (by exact (pv 11)))))
      (pss_cons
      (ps_if (PW.pt (pw_or (pt_cmpR op_isN (pv 10) pe_non (nomark _)) (pw_or1 (pt_not (pt_val (pe_callB call_isK rfl (T.free_isinstance) (by decide +kernel) (pa_cons (pv 10) (pa_cons (pe_bltn (v := .ty "ValueError") rfl (T.free_ValueError) (by decide +kernel) rfl) pa_nil))))))))
      (pss_one (ps_ret pe_bl)) pss_nil) (pss_one
      (ps_if (PW.pt (pw_or (pt_cmpR (op_neD hr.units) (pcall O_Lmarks (hr.mono (by decide)) rfl (T.g_Lmarks) pass0 (pa_cons (pv 10) pa_nil))
      (pe_lc (own := [("kind", 12)]) rfl sc_law.nd (pi_range1 rfl (T.free_range) (pa_cons pe_int pa_nil)) (blkOk_by (own := [("kind", 12)]) (N := n_law) (sc := defScope s_law) (by decide +kernel)) (fun _ _ _ _ _ => pg_name (i := 12) sc_law.nd rfl (Or.inl rfl)) (fun _ _ _ _ _ => pts_nil) (fun _ _ _ _ _ => (pe_cmpR op_eq (pv 12) (pv 5) (nomark _)))) (nomark _)) (pw_or1 (pt_not (pt_val (pcall O_Lfields (hr.mono (by decide)) rfl (T.g_Lfields) pass0 (pa_cons (pv 10) (pa_cons (pv 5) (pa_cons (pv 9) pa_nil)))))))))
      (pss_one (ps_ret pe_bl)) pss_nil))))))))))) (pss_one (ps_ret pe_bl)))))), ?_⟩
    refine ⟨_, rfl, a, ns, rfl, hS, hl, fun st H1 e1 _ S1 => ?_⟩
    -- step
    refine ⟨small (by show 4 ≤ 100000; decide), fun p hp => ?_⟩
    have l1 : (upd H1 p (.lst [V.int 1, V.int 3, V.int 5, V.int 7])) p = some (.lst [V.int 1, V.int 3, V.int 5, V.int 7]) := upd_same
    have np := S1.ne hp
    refine ⟨_, rfl, st, 4, rfl, S1.mut np, by decide, fun r H2 r0 r1 S2 B2 => ?_⟩
    obtain ⟨y, hy1, hy2⟩ := at_in (l := [V.int 1, V.int 3, V.int 5, V.int 7]) r0 r1
    have all : ∀ v ∈ [V.int 1, V.int 3, V.int 5, V.int 7], ∃ z : Int, v = V.int z ∧ 0 ≤ z := by
      intro v hv
      simp only [List.mem_cons, List.not_mem_nil, or_false] at hv
      rcases hv with h | h | h | h <;> exact ⟨_, h, by decide⟩
    obtain ⟨step, rfl, hstep⟩ := all y (List.mem_of_getElem? hy1)
    refine ⟨p, _, r, _, rfl, rfl, SqL.of (B2 p _ l1 np), hy2, ?_⟩
    refine ⟨_, rfl, st, 16, rfl, S2, by decide, fun start H3 _ _ S3 B3 => ?_⟩
    refine ⟨16, rfl, by decide, by decide, for_range (lo := 0) (n := 16) (fun i σ H' => Stk H' st ∧ ∃ v4 v5 v6 v7 v8 v9 v10 : Option V, σ = [some (.ref a), some (.ref st), some (.int step), some (.int start), v4, v5, v6, v7, v8, v9, v10, none, none])
      ⟨S3, _, _, _, _, _, _, _, rfl⟩ ?_ (fun σ H' _ => k H')⟩
    rintro i σ H4 hi ⟨S4, v4, v5, v6, v7, v8, v9, v10, rfl⟩
    -- k
    refine ⟨_, rfl, _, rfl, _, rfl, _, _, rfl, rfl, .inl ⟨by omega, by omega⟩, _, _, rfl, rfl, .inl ⟨_, rfl, _, _, rfl, rfl, (by show (0 : Int) < 16; decide), ?_⟩⟩
    obtain ⟨kn, hkn, hk16⟩ : ∃ kn : Nat, (start + (0 + (i : Int)) * step) % 16 = (kn : Int) ∧ kn < 16 := by
      have q0 := Int.emod_nonneg (start + (0 + (i : Int)) * step) (b := 16) (by decide)
      have q1 := Int.emod_lt_of_pos (start + (0 + (i : Int)) * step) (b := 16) (by decide)
      exact ⟨((start + (0 + (i : Int)) * step) % 16).toNat, by omega, by omega⟩
    show gName 5 (V.int ((start + (0 + (i : Int)) * step) % 16)) _ _ _
    rw [hkn]
    -- names
    refine ⟨_, rfl, st, rfl, S4, fun ss p1 H5 ls hss S5 B5 hp1 hn1 => ?_⟩
    obtain ⟨s0, s1, s2, rfl⟩ : ∃ s0 s1 s2, ss = [s0, s1, s2] := by
      match ss, ls with
      | [s0, s1, s2], _ => exact ⟨s0, s1, s2, rfl⟩
    have z0 := hss s0 (by simp)
    have z1 := hss s1 (by simp)
    have z2 := hss s2 (by simp)
    have n1 : p1 ≠ st := S4.ne hp1
    -- number
    refine ⟨_, rfl, st, rfl, S5, fun r1 H6 S6 B6 => ?_⟩
    refine ⟨_, rfl, st, 9, rfl, S6, by decide, fun r2 H7 _ _ S7 B7 => ?_⟩
    refine ⟨small (by show 3 ≤ 100000; decide), fun p2 hp2 => ?_⟩
    have B8 := (B6.trans B7).new (o := .lst [V.int r1, V.non, V.int r2]) hp2
    have S8 := S7.mut (o := .lst [V.int r1, V.non, V.int r2]) (S7.ne hp2)
    refine ⟨_, rfl, st, 3, rfl, S8, by decide, fun r3 H9 r30 r31 S9 B9 => ?_⟩
    obtain ⟨n, hn1', hn2⟩ := at_in (l := [V.int r1, V.non, V.int r2]) r30 r31
    have hn : n = .non ∨ ∃ z : Int, n = .int z := by
      have hv := List.mem_of_getElem? hn1'
      simp only [List.mem_cons, List.not_mem_nil, or_false] at hv
      rcases hv with h | h | h
      · exact .inr ⟨_, h⟩
      · exact .inl h
      · exact .inr ⟨_, h⟩
    refine ⟨p2, _, r3, n, rfl, rfl, SqL.of (B9 p2 _ upd_same (S7.ne hp2)), hn2, ?_⟩
    have B9' := B8.trans B9
    -- notes
    refine fun p3 hp3 => ?_
    have n3 := S9.ne hp3
    have f3 : H5 p3 = none := B9'.back hp3 n3
    have B10 := B9'.new (o := .dK []) hp3
    have S10 := S9.mut (o := .dK []) n3
    refine ⟨_, rfl, p1, _, 1, _, rfl, rfl, SqL.of (B10 p1 _ hn1 n1), rfl, ?_⟩
    refine ⟨_, rfl, st, 5, rfl, S10, by decide, fun r4 H10 _ _ S11 B11 => ?_⟩
    have B11' := B10.trans B11
    refine ⟨_, _, rfl, rfl, ?_⟩
    refine ⟨_, rfl, p1, _, 2, _, rfl, rfl, SqL.of (B11' p1 _ hn1 n1), rfl, ?_⟩
    refine ⟨_, rfl, ?_⟩
    refine ⟨B11 p3 _ upd_same n3, [(Sum.inr s1, V.int (1 + r4)), (Sum.inr s2, V.int (-3))], rfl, (by show 2 ≤ 15; decide), ?_⟩
    have hI : IntD (mergeK [] [(Sum.inr s1, V.int (1 + r4)), (Sum.inr s2, V.int (-3))]) := (IntD.nil.put (s := s1) (by omega) (1 + r4)).put (s := s2) (by omega) (-3)
    have hlI : (mergeK [] [(Sum.inr s1, V.int (1 + r4)), (Sum.inr s2, V.int (-3))]).length ≤ 2 := length_mergeK _ _
    generalize mergeK [] [(Sum.inr s1, V.int (1 + r4)), (Sum.inr s2, V.int (-3))] = kvs at hI hlI
    have B12 := B11'.mut (o := .dK kvs) f3
    have S12 := S11.mut (o := .dK kvs) n3
    -- fields
    refine ⟨_, rfl, ?_⟩
    refine ⟨_, rfl, st, 2, rfl, S12, by decide, fun r5 H13 _ _ S13 B13 => ?_⟩
    have B13' := B12.trans B13
    have g3 : H13 p3 = some (.dK kvs) := B13 p3 _ upd_same n3
    have g1 : H13 p1 = some (.lst ([s0, s1, s2].map V.str)) := B13' p1 _ hn1 n1
    refine ⟨rfl, ?_⟩
    refine ⟨_, rfl, p1, _, 0, _, rfl, rfl, SqL.of g1, rfl, ?_⟩
    refine ⟨_, rfl, fun no dx hno hdx hne => ?_⟩
    have m1 : (upd H13 dx (.own no)) no = none := by rw [upd_ne hne.symm]; exact hno
    have e13 : Ex H13 (upd (upd H13 dx (.own no)) no (.ins (He.ga K "Notes") dx [])) := ((Ex.refl H13).new hdx).new m1
    refine ⟨no, dx, p3, kvs, rfl, upd_same, e13 p3 _ g3, hI, by omega, fun H14 B14 N14 => ⟨rfl, ?_⟩⟩
    have keep : ∀ {b : Addr} {o : HO}, H13 b = some o → H14 b = some o := fun {b o} q => B14 b o (e13 b o q) (ne_of_none q hno)
    have h1 := keep g1
    have S14 : Stk H14 st := by
      obtain ⟨ms, q⟩ := S13
      exact ⟨ms, keep q⟩
    refine ⟨small (by show 4 ≤ 100000; decide), fun p4 hp4 => ?_⟩
    generalize decide (V.int r5 = V.int 1) = b5
    have e15 : Ex H14 (upd H14 p4 (.lst [n, .bl b5, .str s0, .ref no])) := (Ex.refl H14).new hp4
    have g4 : (upd H14 p4 (.lst [n, .bl b5, .str s0, .ref no])) p4 = some (.lst [n, .bl b5, .str s0, .ref no]) := upd_same
    have N15 := N14.ex e15
    have S15 := S14.ex e15
    have h15 := e15 p1 _ h1
    generalize upd H14 p4 (.lst [n, .bl b5, .str s0, .ref no]) = H15 at g4 N15 S15 h15
    -- caught = None; the try
    refine ⟨_, rfl, _, rfl, p1, _, 0, _, rfl, rfl, SqL.of h15, rfl, ?_⟩
    refine ⟨_, _, rfl, rfl, small (by show s0.length + 1 ≤ 100000; omega), ?_⟩
    refine ⟨_, rfl, p1, _, 1, _, rfl, rfl, SqL.of h15, rfl, ?_⟩
    refine ⟨_, _, rfl, rfl, small (by rw [Str.length_append]; show s0.length + 1 + s1.length ≤ 100000; omega), ?_⟩
    refine ⟨_, rfl, ?_⟩
    refine ⟨kn, _, p4, n, b5, s0, no, rfl, Nat.zero_le _, hk16, g4, fun d H16 e16 F16 => ?_⟩
    refine ⟨true, exm_all T hk16, fun _ ex hex => ?_, fun c => by cases c⟩
    refine ⟨_, rfl, ?_⟩
    have e17 : Ex H15 (upd H16 ex (Kx (.ref (He.ga K (errN kn))) d ex)) := e16.new hex
    have e17' : Ex H16 (upd H16 ex (Kx (.ref (He.ga K (errN kn))) d ex)) := (Ex.refl H16).new hex
    have gx : (upd H16 ex (Kx (.ref (He.ga K (errN kn))) d ex)) ex = some (Kx (.ref (He.ga K (errN kn))) d ex) := upd_same
    have F17 := F16.ex e17'
    have N17 := N15.ex e17
    have S17 := S15.ex e17
    have g17 := e17 p4 _ g4
    have hK : KxAt (upd H16 ex (Kx (.ref (He.ga K (errN kn))) d ex)) ex (He.ga K (errN kn)) d := ⟨gx, F17.xd⟩
    -- caught is None or not isinstance(caught, ValueError)
    refine ⟨_, rfl, rfl, _, rfl, ?_⟩
    refine ite2 (fun c => absurd (of_decide_eq_true c) (fun z => by cases z)) (fun _ => ?_)
    refine ⟨_, rfl, ex, _, d, _, _, true, rfl, .ty _, hK, T.xc hk16, T.ve hk16, true, rfl, ?_⟩
    refine nope ?_
    -- _law_marks(caught) != [..]
    refine ⟨_, rfl, ex, kn, d, rfl, hk16, hK, fun p5 H18 e18 _ g18 => ?_⟩
    refine ⟨15, rfl, by decide, by decide, fun D hD => ?_⟩
    refine lc_range (lo := 0) (n := 15) (fun j H' => H' D = some (.lst ((List.range j).map fun j => V.bl (decide (kn = j)))) ∧ Ex H18 H') ⟨upd_same, (Ex.refl H18).mut hD⟩ ?_ ?_
    · rintro j H19 hj ⟨h19, e19⟩
      refine ⟨rfl, ?_⟩
      refine ⟨_, rfl, _, rfl, rfl, _, h19, by rw [List.length_map, List.length_range]; exact small' (by omega), ?_, e19.mut hD⟩
      rw [upd_same, List.range_succ, List.map_append]
      have e : decide (V.int (0 + (j : Int)) = V.int (kn : Int)) = decide (kn = j) := by
        by_cases c : kn = j
        · subst c
          rw [Int.zero_add]
          simp
        · rw [decide_eq_false c, decide_eq_false]
          intro z
          have := V.int.inj z
          omega
      rw [e]
      rfl
    · rintro H19 ⟨h19, e19⟩
      have hs := marks_shaped kn
      refine ⟨_, _, marks_data kn (e19 p5 _ g18), marks_data kn h19, hs, hs, _, rfl, ?_⟩
      rw [SeqAt.eqv_refl _ (SeqAt.canLay_of_shaped hs)]
      refine nope ?_
      have e20 := e18.trans e19
      refine ⟨_, rfl, _, rfl, _, rfl, ?_⟩
      refine ⟨ex, kn, p4, d, n, b5, s0, no, rfl, hk16, e20 _ _ gx, F17.ex e20, hn, N17.ex e20, e20 _ _ g17, fun H21 e21 => ?_⟩
      refine ⟨true, rfl, ?_⟩
      refine nope ?_
      exact ⟨S17.ex (e20.trans e21), _, _, _, _, _, _, _, rfl⟩
end
end Sk
set_option Elab.async false
set_option linter.all false
set_option maxRecDepth 100000
set_option maxHeartbeats 0
namespace Sk
open PySem PySem.Spec PyProof.Rows L2
abbrev R : PySem.W.OpenRow := PySem.W.OpenLaw.row PySem.Challenge.rw_sceneskips_k78_errors_made
abbrev hk : PySem.W.Hook := He.hookX 5 fa fn [] [] ex
def ob (s : PySem.W.SharedT) : He.AlX := He.obsX 5 fa fn [] [] ex (HandSHeadRun.getT s)
theorem ob_eq (s : PySem.W.SharedT) : ob s = hk.obs s.abs := He.obsX_eq (HandSHeadRun.getT_eq s)
/-- the names of the top that its view leaves out -/
def loose : List Str := ("_wall" : Str) :: "__name__" :: "SceneError" :: errs.take 15 ++ (["name_place", "order_key", "changed", "without_zeros", "joined", "Change", "Notes", "_law_stir", "_law_stock", "_law_draw", "_law_far", "_law_pool", "_law_marks", "_law_raise", "_law_raise_more", "_law_same_number", "_law_fields"] : List Str)
theorem run (w : World) : HandSHeadRun.RunEq R (PySem.W.view R.prog [37]) hk ob 40000 loose w := by
  intro os
  kernel_rfl
end Sk
open PySem PySem.W PySem.Calls PyProof.Rows
theorem PySem.Challenge.cw_sceneskips_k78_errors_made_holds : PySem.Challenge.rw_sceneskips_k78_errors_made.Holds := by
  w_on; o_law
  refine HandSHeadRun.head_any (r := OpenLaw.row PySem.Challenge.rw_sceneskips_k78_errors_made) (q := view (OpenLaw.row PySem.Challenge.rw_sceneskips_k78_errors_made).prog [37]) (H := Sk.hk) (ob := Sk.ob) (M := 40000) (loose := Sk.loose) (d := HandSHeadRun.topDef (OpenLaw.row PySem.Challenge.rw_sceneskips_k78_errors_made).prog 37) (kwd := []) Sk.ob_eq
    (by kernel_rfl) (fun s => by kernel_rfl) Sk.run (by kernel_rfl) (by kernel_rfl) (by kernel_rfl) (by rfl) (by first | assumption | decide +kernel) (by decide +kernel) ⟨rfl, rfl, rfl, rfl, rfl, by decide +kernel⟩ ?hw ?hc
  case hw => w_witness2
  case hc =>
    refine L2.walk_ofE (l := PySem.Challenge.rw_sceneskips_k78_errors_made) (n := 63) (k := 5) (x := "script") (CX := L2.CX0) rfl (by decide) (by kernel_rfl) ⟨rfl, by decide, by decide⟩ ?F (fun _ _ _ _ z => z)
    intro w mg fa h Y G hmg0
    obtain ⟨K, KX, c⟩ := Y
    have hmg : mg ("law" : PySem.Str) = some (.ref fa) := by
      have e : (HandSHeadRun.topDef (OpenLaw.row PySem.Challenge.rw_sceneskips_k78_errors_made).prog 37).name = ("law" : PySem.Str) := by kernel_rfl
      rw [← e]
      exact hmg0
    have T : Sk.TX K mg := ⟨c.t.d, c.more, fun {y} q => He.glo_ok KX G q, fun {y} q => He.free_ok KX G q⟩
    obtain ⟨fd, O, hb⟩ := Sk.ok_law (P := (PySem.Challenge.rw_sceneskips_k78_errors_made).prog) (w := w) T
    have efa : fa = He.fAd K Sk.a_law := by
      have q := hmg.symm.trans T.g_law
      cases q
      rfl
    subst efa
    exact ⟨K, fd, Sk.spLaw K, KX, hb, fun H a ns hl _ hS => ⟨a, ns, rfl, hS, hl, fun _ => rfl⟩, fun base _ _ => (O base).fn⟩
