import PyProof.Rows.All
import Wide.All
import OpenK.AllK
import Wide.FinOn
import KE.KOpsOwn
import KE.KCallOwn
import HandS.Base
import HandS.Call
import HandS.List
import HandS.Dict
import HandS.OwnEq
import HandS.Star
import HandS.Words
import PyProof.DictTruth
import PyProof.DictRoadsH
import KE.KeyNested
import HandS.Deep
import KE.KStateDown
import KE.KExcIs
import HandS.ForMost
import HandS.Exc
import HandS.ExcOwn
import HandS.RaiseMore
import HandS.WordsExc
import HandS.IsInst
import HandS.Property
import HandS.DictComp
import HandS.Style
import HandS.More
import HandS.Walk
import HandS.Codes
import HandS.WideBits
import HandS.TryMany
import HandS.TupAny
import HandS.MakeKw
import HandS.MakeKwOnly
import HandS.Defaults
import HandS.Head0
import HandS.Head1
import HandS.Head2
import HandS.HeadEnd
import HandS.HeadHook1
import HandS.HeadHook2
import HandS.HeadHook4
import PySem.Challenge.RW_sceneskips_k77_plays_of_many_steps
set_option Elab.async false
set_option linter.all false
set_option maxRecDepth 100000
set_option maxHeartbeats 2000000
/-! own classes' operators as rules: x in o, o[i], o[i] = v, len(o), o(..), o - p, o >> p. -/
namespace Sk
open PySem PySem.Spec PyProof.Rows L2
section
variable {X : Cx} {CX : CXT} {k : Nat} {C f : Addr} {fd : FuncData} {ps : List Str} {sp : Sp} {E : XK}
theorem ins_at {pins : List (Addr × Obj)} {σ : L2.St} {H : Hp} {s : Shared} {a dx : Addr} {fs : List (Str × V)} (I : Inv X pins σ H s) (h : H a = some (.ins C dx fs)) : ∃ ox od, PySem.W.InstAt s.heap a ox C od ∧ ox.data = .plain := by
  obtain ⟨mA, O, _⟩ := ins_get I.hok h
  obtain ⟨od, J, _⟩ := O.look
  exact ⟨_, _, J, rfl⟩
/-- a def run one step in -/
theorem run_fn1 {pins : List (Addr × Obj)} {σ : L2.St} {H : Hp} {s : Shared} {Q : VK} {us : List Value} {vs : List V} (F : FnOk X.prog X.w X.K X.mg X.base CX k f fd ps sp) (hr : Room (k + 1) X.A) (hb : Binds X.K fd ps []) (hx : Passes CX X E)
    (I : Inv X pins σ H s) (r : Vals vs us) (h : sp vs H Q E) : wpAny (model X.prog X.w) X.A.in1 (call (.ref f) us) (EP X pins σ Q) X.xe s := by
  have hl : (us ++ []).length = ps.length := by
    rw [List.append_nil, ← r.length]
    exact F.len _ _ _ _ h
  have bs := hb s us I.kIn hl
  rw [List.append_nil] at bs
  refine wpAny_call (codeAny_mono (F.run X.A.in1 X.stack s H ⟨us, []⟩ us vs Q E hr.in1 I.env0.in1 bs r h) fun r s' hq => ?_)
  cases r with
  | error e => exact hx pins σ H s e s' I hq
  | ok fl =>
    cases fl with
    | ret w =>
      obtain ⟨z, H', I', rz, q⟩ := I.after hq
      exact ⟨z, H', I', rz, q⟩
    | next => exact False.elim hq
    | brk => exact False.elim hq
    | cont => exact False.elim hq
theorem run_fn0 {pins : List (Addr × Obj)} {σ : L2.St} {H : Hp} {s : Shared} {Q : VK} {us : List Value} {vs : List V} (F : FnOk X.prog X.w X.K X.mg X.base CX k f fd ps sp) (hr : Room k X.A) (hb : Binds X.K fd ps []) (hx : Passes CX X E)
    (I : Inv X pins σ H s) (r : Vals vs us) (h : sp vs H Q E) : wpAny (model X.prog X.w) X.A (call (.ref f) us) (EP X pins σ Q) X.xe s :=
  run_fn F hr hb .nil hx I r (by rw [List.append_nil]; exact h)
/-- x in o -/
def rInO (C : Addr) (sp : Sp) (E : XK) : R2 := fun x y H Q => ∃ a dx fs, y = .ref a ∧ H a = some (.ins C dx fs) ∧ sp [.ref a, x] H (fun v H' => ∃ b, v = .bl b ∧ Q (.bl b) H') E
theorem op_inO (F : FnOk X.prog X.w X.K X.mg X.base CX k f fd ps sp) (hr : Room k X.A) (M : Meth X.K C "__contains__" f) (hb : Binds X.K fd ps []) (hx : Passes CX X E) : OpR X (compareOp .In) (rInO C sp E) := by
  intro pins s σ H x y v u Q I rx ry h
  obtain ⟨a, dx, fs, rfl, ha, h⟩ := h
  cases ry
  obtain ⟨ox, od, J, _⟩ := ins_at I ha
  obtain ⟨m, hF⟩ := I.fr
  refine PySem.W.in_K hF I.ok.mod.kin J M.at_ M.fn (wpAny_mono (run_fn0 F hr hb hx I (vs := [.ref a, x]) (us := [.ref a, v]) (.cons rfl (.cons rx .nil)) h) (fun r s' hq => ?_) fun _ _ z => z)
  obtain ⟨z, H', I', rz, b, rfl, q⟩ := hq
  cases rz
  exact wpAny_truthy_bool ⟨.bl b, H', I', rfl, q⟩
/-- o[i] -/
def rIxO (C : Addr) (sp : Sp) (E : XK) : R2 := fun x y H Q => ∃ a dx fs, x = .ref a ∧ H a = some (.ins C dx fs) ∧ sp [.ref a, y] H Q E
theorem pe_ixO {a b : Expr} {ta tb : TE} {pos : Pos} (F : FnOk X.prog X.w X.K X.mg X.base CX k f fd ps sp) (hr : Room (k + 1) X.A) (M : Meth X.K C "__getitem__" f) (hfi : PySem.W.fnIn X.K f = true) (hb : Binds X.K fd ps []) (hx : Passes CX X E) (ha : PE X a ta) (hi : PE X b tb)
    (hs : ∀ v u, subscripted b true v u = runValue (.builtin "lifetime.subscript" ⟨[v, u], []⟩) := by intro _ _; rfl) : PE X (.Subscript a b pos) (tOp (rIxO C sp E) ta tb) := by
  refine ⟨fun pins s σ H Q I h => ?_⟩
  refine Subscript_ (binT ha hi I h fun v u s2 x y H2 I2 rx ry q => ?_)
  obtain ⟨o, dx, fs, rfl, hq, q⟩ := q
  cases rx
  obtain ⟨ox, od, J, _⟩ := ins_at I2 hq
  obtain ⟨m, hF⟩ := I2.fr
  exact PySem.W.sub_K hF I2.ok.mod.kin J M.at_ hfi M.fn (run_fn1 F hr hb hx I2 (vs := [.ref o, y]) (us := [.ref o, u]) (.cons rfl (.cons ry .nil)) q) (hs _ _)
/-- o[i] = v -/
def rSetO (C : Addr) (sp : Sp) (E : XK) : TSet := fun o i v H Q => ∃ a dx fs, o = .ref a ∧ H a = some (.ins C dx fs) ∧ sp [.ref a, i, v] H (fun _ H' => Q H') E
theorem set_own (F : FnOk X.prog X.w X.K X.mg X.base CX k f fd ps sp) (hr : Room k X.A) (M : Meth X.K C "__setitem__" f) (hq : PySem.W.noSeq X.K C = true) (hb : Binds X.K fd ps []) (hx : Passes CX X E) : PSet X (rSetO C sp E) := by
  intro pins s σ H o i v ov iv u Q I ro ri rv h
  obtain ⟨a, dx, fs, rfl, ha, h⟩ := h
  cases ro
  obtain ⟨ox, od, J, _⟩ := ins_at I ha
  obtain ⟨m, hF⟩ := I.fr
  refine PySem.W.ksp_setItem hF I.ok.mod.kin J hq M.at_ M.fn (wpAny_mono (run_fn0 F hr hb hx I (vs := [.ref a, i, v]) (us := [.ref a, iv, u]) (.cons rfl (.cons ri (.cons rv .nil))) h) (fun r s' z => ?_) fun _ _ z => z)
  obtain ⟨_, H', I', _, q⟩ := z
  exact ⟨H', I', q⟩
/-- len(o) -/
def rLenO (C : Addr) (sp : Sp) (E : XK) : List V → Hp → VK → Prop := fun xs H Q => ∃ a dx fs, xs = [.ref a] ∧ H a = some (.ins C dx fs) ∧ sp [.ref a] H (fun v H' => ∃ n : Int, v = .int n ∧ 0 ≤ n ∧ n < 2 ^ 63 ∧ Q (.int n) H') E
theorem call_lenO (F : FnOk X.prog X.w X.K X.mg X.base CX k f fd ps sp) (hr : Room (k + 1) X.A) (M : Meth X.K C "__len__" f) (hb : Binds X.K fd ps []) (hx : Passes CX X E) : CallR X (.builtin "len") (rLenO C sp E) := by
  intro pins s σ H xs us Q I r h
  obtain ⟨a, dx, fs, rfl, ha, h⟩ := h
  obtain ⟨u, rfl, rx⟩ := vals1 r
  obtain rfl : u = .ref a := rx
  obtain ⟨ox, od, J, _⟩ := ins_at I ha
  obtain ⟨m, hF⟩ := I.fr
  refine PySem.W.len_K hF I.ok.mod.kin J M.at_ M.fn (wpAny_mono (run_fn1 F hr hb hx I (vs := [.ref a]) (us := [.ref a]) (.cons rfl .nil) h) (fun r s' hq => ?_) fun _ _ z => z)
  obtain ⟨z, H', I', rz, n, rfl, h0, h1, q⟩ := hq
  obtain ⟨t, rfl⟩ := rz
  exact ⟨⟨h0, h1⟩, .int n, H', I'.tok _, ⟨_, rfl⟩, q⟩
/-- o op p, two of one class -/
def rBinO (C : Addr) (sp : Sp) (E : XK) : R2 := fun x y H Q => ∃ a b dx dy fs gs, x = .ref a ∧ y = .ref b ∧ H a = some (.ins C dx fs) ∧ H b = some (.ins C dy gs) ∧ sp [.ref a, .ref b] H (fun v H' => ∃ p, v = .ref p ∧ Q (.ref p) H') E
theorem op_binO {op : Operator} (F : FnOk X.prog X.w X.K X.mg X.base CX k f fd ps sp) (hr : Room k X.A) (M : Meth X.K C (PySem.dunder op.info.2) f) (hc : PySem.W.selfFirst X.K C = true) (hb : Binds X.K fd ps []) (hx : Passes CX X E) : OpR X (binaryOp op) (rBinO C sp E) := by
  intro pins s σ H x y v u Q I rx ry h
  obtain ⟨a, b, dx, dy, fs, gs, rfl, rfl, ha, hb2, h⟩ := h
  cases rx
  cases ry
  obtain ⟨ox, od, J, _⟩ := ins_at I ha
  obtain ⟨oy, oe, J2, _⟩ := ins_at I hb2
  obtain ⟨m, hF⟩ := I.fr
  refine PySem.W.binop_K hF I.ok.mod.kin J J2.type hc M.at_ M.fn (wpAny_mono (run_fn0 F hr hb hx I (vs := [.ref a, .ref b]) (us := [.ref a, .ref b]) (.cons rfl (.cons rfl .nil)) h) (fun r s' hq => ?_) fun _ _ z => z)
  obtain ⟨z, H', I', rz, p, rfl, q⟩ := hq
  cases rz
  exact ⟨.ref p, H', I', rfl, q⟩
/-- a class whose instances are called -/
structure CallOw (K : PySem.W.Frag) (C g : Addr) : Prop where
  at_ : PySem.W.findIn K (.ref C) "__call__" = some (some (.ref g))
  fn : PySem.W.isFn K (.ref g) = true
  fi : PySem.W.fnIn K g = true
theorem run_callOw {pins : List (Addr × Obj)} {σ : L2.St} {H : Hp} {s : Shared} {Q : VK} {a dx : Addr} {fs : List (Str × V)} {us : List Value} {vs : List V} (c : CallOw X.K C f) (F : FnOk X.prog X.w X.K X.mg X.base CX k f fd ps sp) (hr : Room k X.A) (hb : Binds X.K fd ps []) (hx : Passes CX X E)
    (I : Inv X pins σ H s) (ha : H a = some (.ins C dx fs)) (r : Vals vs us) (h : sp (.ref a :: vs) H Q E) : wpAny (model X.prog X.w) X.A (call (.ref a) us) (EP X pins σ Q) X.xe s := by
  obtain ⟨ox, od, J, hd⟩ := ins_at I ha
  have r2 : Vals (.ref a :: vs) (.ref a :: us) := .cons rfl r
  have hl : (Value.ref a :: us ++ []).length = ps.length := by
    rw [List.append_nil, ← r2.length]
    exact F.len _ _ _ _ h
  have bs := hb s (.ref a :: us) I.kIn hl
  rw [List.append_nil] at bs
  refine wpAny_call (PySem.W.kco_code I.kIn J hd c.at_ c.fn c.fi (codeAny_mono (F.run X.A X.stack s H ⟨.ref a :: us, []⟩ (.ref a :: us) (.ref a :: vs) Q E hr I.env0 bs r2 h) fun r s' hq => ?_))
  cases r with
  | error e => exact hx pins σ H s e s' I hq
  | ok fl =>
    cases fl with
    | ret w =>
      obtain ⟨z, H', I', rz, q⟩ := I.after hq
      exact ⟨z, H', I', rz, q⟩
    | next => exact False.elim hq
    | brk => exact False.elim hq
    | cont => exact False.elim hq
/-- g(e), g an expression that gives an instance of C -/
def tCallOw (C : Addr) (sp : Sp) (E : XK) (tf : TE) (t : TA) : TE := fun σ H Q => tf σ H fun y H1 => ∃ a, y = V.ref a ∧ t σ H1 fun vs H2 => ∃ dx fs, H2 a = some (.ins C dx fs) ∧ sp (V.ref a :: vs) H2 Q E
theorem pe_callOw {fe e : Expr} {es : List Expr} {tf : TE} {t : TA} {pos : Pos} (hf : PE X fe tf) (c : CallOw X.K C f) (F : FnOk X.prog X.w X.K X.mg X.base CX k f fd ps sp) (hr : Room k X.A) (hb : Binds X.K fd ps []) (hx : Passes CX X E) (ha : PA X (e :: es) t)
    (ht : eval (.Call fe (e :: es) [] pos) X.env = (do callWith pos (← eval fe X.env) [] (backTo pos (starEach (e :: es) X.env)) (backToKw pos (keywordEach [] X.env))) := by rfl)
    (he : starEach (e :: es) X.env = (false, eval e X.env) :: starEach es X.env := by rfl) (hpl : (backTo pos (starEach es X.env)).any (·.1) = false := by rfl) : PE X (.Call fe (e :: es) [] pos) (tCallOw C sp E tf t) := by
  refine ⟨fun pins s σ H Q I h => ?_⟩
  refine Call_ (thn (hf.run pins s σ H _ I h) fun u s1 ⟨y, H1, I1, ry, a, ey, q⟩ => ?_) ht
  subst ey
  obtain rfl : u = Value.ref a := ry
  refine StX.callO_with (thn (ha.run pos pins s1 σ H1 _ I1 q) fun us s2 ⟨vs, H2, I2, r, dx, fs, hi, q2⟩ => ?_) he hpl
  obtain ⟨ox, od, J, hd⟩ := ins_at I2 hi
  exact ⟨⟨C, ox, od, J, hd⟩, run_callOw c F hr hb hx I2 hi r q2⟩
/-- o.m(e), the attribute m of o an instance of C -/
def tFldCall (C : Addr) (m : Str) (sp : Sp) (E : XK) (K : PySem.W.Frag) (to : TE) (t : TA) : TE := fun σ H Q => to σ H fun x H1 => ∃ o Co dx fs a, x = V.ref o ∧ H1 o = some (.ins Co dx fs) ∧ Cls K Co ∧ NoAttr K Co m ∧ fs.lookup m = some (V.ref a) ∧
  t σ H1 fun vs H2 => ∃ dy gs, H2 a = some (.ins C dy gs) ∧ sp (V.ref a :: vs) H2 Q E
theorem pe_fldCall {pl : Sem Bool} {o e : Expr} {es : List Expr} {m : Str} {apos pos : Pos} {to : TE} {t : TA} (ho : PE X o to) (c : CallOw X.K C f) (F : FnOk X.prog X.w X.K X.mg X.base CX k f fd ps sp) (hr : Room k X.A) (hb : Binds X.K fd ps []) (hx : Passes CX X E) (ha : PA X (e :: es) t)
    (he : starEach (e :: es) X.env = (false, eval e X.env) :: starEach es X.env := by rfl) (hpl : (backTo pos (starEach es X.env)).any (·.1) = false := by rfl)
    (ht : eval (.Call (.Attribute o m apos) (e :: es) [] pos) X.env = (do
      let ov ← eval o X.env
      standAt apos.atName
      let (f, first) ← holding [ov] (getMethod ov m pl)
      callWith pos f first (backTo pos (starEach (e :: es) X.env)) (backToKw pos (keywordEach [] X.env))) := by rfl) : PE X (.Call (.Attribute o m apos) (e :: es) [] pos) (tFldCall C m sp E X.K to t) := by
  refine ⟨fun pins s σ H Q I h => ?_⟩
  refine PySem.W.methodCall_KW (pl := pl) (thn (ho.run pins s σ H _ I h) fun u s1 ⟨x, H1, I1, rx, p, Co, dx, fs, a, ex, ep, cl, na, l, q⟩ => ?_) ht
  subst ex
  obtain rfl : u = Value.ref p := rx
  obtain ⟨ox, od, J, _⟩ := ins_at I1 ep
  have pg := PySem.W.plainGet_of (cl.get m)
  refine PySem.W.method_usual (r := none) I1.kIn J pg.1 pg.2 na rfl ?_
  refine getattr_ok I1 ep cl na l fun v s1b I1b r => ?_
  obtain rfl : v = Value.ref a := r
  refine StX.callO_with (thn (ha.run pos pins s1b σ H1 _ I1b q) fun us s2 ⟨vs, H2, I2, r, dy, gs, hi, q2⟩ => ?_) he hpl
  obtain ⟨oy, oe, J2, hd⟩ := ins_at I2 hi
  exact ⟨⟨C, oy, oe, J2, hd⟩, run_callOw c F hr hb hx I2 hi r q2⟩
/-- what is never asked -/
def tNevE : TE := fun _ _ _ => False
theorem pe_never {e : Expr} : PE X e tNevE := ⟨fun _ _ _ _ _ _ h => h.elim⟩
end
end Sk
set_option Elab.async false
set_option linter.all false
set_option maxRecDepth 100000
set_option maxHeartbeats 2000000
/-! A dict with one entry, its key a tuple of any form; its length. The number of equal items of a list of data. -/
namespace Sk
open PySem PySem.Spec PyProof.Rows L2
/-- a dict of n entries -/
def LenD (n : Nat) (a : Addr) : HO := .ext fun h => (a == sysModules) = false ∧ ∃ o es ep, h.get? a = some o ∧ o.ExactDict ∧ o.data = .dict es ep ∧ es.size = n
theorem lend_ok {P : Program} {w : World} {H : Hp} {h : Heap} {a : Addr} {n : Nat} {o : Obj} {es : Array DictEntry} {ep : Nat} (hd : (a == sysModules) = false) (e : h.get? a = some o) (x : o.ExactDict) (d : o.data = .dict es ep) (z : es.size = n) : ObjOk P w H h a (LenD n a) := by
  refine ⟨⟨hd, o, es, ep, e, x, d, z⟩, ⟨o, e⟩, ?_⟩
  rintro h1 h2 ⟨hd, o, es, ep, e, r⟩ k
  exact ⟨hd, o, es, ep, k o e, r⟩
theorem lend_at {P : Program} {w : World} {H : Hp} {h : Heap} {a : Addr} {n : Nat} (hok : HOk P w H h) (e : H a = some (LenD n a)) : (a == sysModules) = false ∧ ∃ o es ep, h.get? a = some o ∧ o.ExactDict ∧ o.data = .dict es ep ∧ es.size = n := by
  have z : ObjOk P w H h a (.ext fun h => (a == sysModules) = false ∧ ∃ o es ep, h.get? a = some o ∧ o.ExactDict ∧ o.data = .dict es ep ∧ es.size = n) := hok a _ e
  exact z.1
mutual
/-- texts and tuples of such, as a key -/
inductive NKV (H : Hp) : V → NestedKey → Prop
  | str (x : Str) : NKV H (.str x) (.text x)
  | tup {a : Addr} {xs : List V} {ks : List NestedKey} : H a = some (.tup xs) → NKVs H xs ks → NKV H (.ref a) (.tup ks)
inductive NKVs (H : Hp) : List V → List NestedKey → Prop
  | nil : NKVs H [] []
  | cons {v : V} {vs : List V} {k : NestedKey} {ks : List NestedKey} : NKV H v k → NKVs H vs ks → NKVs H (v :: vs) (k :: ks)
end
section
variable {P : Program} {w : World} {H : Hp} {h : Heap}
mutual
theorem NKV.is (ok : HOk P w H h) : ∀ (k : NestedKey) (v : V) (u : Value), NKV H v k → RelV v u → NestedIs h k u
  | .text x, _, u, q, r => by
    cases q
    obtain ⟨t, rfl⟩ := r
    exact .text x t
  | .tup ks, _, u, q, r => by
    cases q with
    | tup e qs =>
      rename_i a xs
      obtain rfl : u = .ref a := r
      obtain ⟨_, its, rv, o, h1, h2, n, h3⟩ := (show ObjOk P w H h a (.tup xs) from ok a _ e)
      exact .tup h1 h2 h3 (by simpa using NKVs.is ok ks xs its qs rv)
  | .none, _, _, q, _ => by cases q
  | .num i, _, _, q, _ => by cases q
theorem NKVs.is (ok : HOk P w H h) : ∀ (ks : List NestedKey) (vs : List V) (us : List Value), NKVs H vs ks → Vals vs us → NestedAll h ks us
  | [], _, us, q, r => by
    cases q
    cases r
    exact .nil
  | k :: ks, _, us, q, r => by
    cases q with
    | cons q qs =>
      cases r with
      | cons r rs => exact .cons (NKV.is ok k _ _ q r) (NKVs.is ok ks _ _ qs rs)
end
end
section
variable {X : Cx} {o i value : Expr} {pos pos' : Pos} {td ty tv : TE}
/-- d[key] = v, d empty -/
def sDPutX (td ty tv : TE) : TS := fun D σ H => tv σ H fun v H1 => td σ H1 fun x H2 => ty σ H2 fun y H3 => ∃ a b k, x = .ref a ∧ y = .ref b ∧ H3 a = some (.dK []) ∧ NKV H3 (.ref b) k ∧ k.depth ≤ 8 ∧ D.nx σ (upd H3 a (LenD 1 a))
theorem ps_dputX (hu : X.A.units + 64 < cLine) (ho : PE X o td) (hi : PE X i ty) (hv : PE X value tv) (hs : swapsWith value (some (.Subscript o i pos')) pos.line X.env = pure false := by rfl) : PS X (.Assign [.Subscript o i pos'] value pos) (sDPutX td ty tv) := by
  refine ⟨fun pins s σ H D I h => ?_⟩
  refine wpAny_Assign_Subscript (thn (hv.run pins s σ H _ I h) fun r s1 ⟨v, H1, I1, rv, q1⟩ => thn (ho.run pins s1 σ H1 _ I1 q1) fun u s2 ⟨x, H2, I2, rx, q2⟩ => thn (hi.run pins s2 σ H2 _ I2 q2) fun iv s3 ⟨y, H3, I3, ry, a, b, k, ex, ey, e, nk, dk, q3⟩ => ?_) hs
  subst ex ey
  obtain rfl : u = Value.ref a := rx
  obtain rfl : iv = Value.ref b := ry
  obtain ⟨z, hd, vs, rel, dd⟩ := dk_of I3.hok e
  have ev : vs = [] := by
    cases vs with
    | nil => rfl
    | cons p q => cases rel
  subst ev
  obtain ⟨ob, es, ep, h1, h2, h3, h4, h5, h6⟩ := dd
  have hes : es.toList = [] := by
    cases hq : es.toList with
    | nil => rfl
    | cons p q =>
      rw [hq] at h5
      cases h5
  have dd2 : s3.heap.DictOfH (nestedKind X.prog X.w) a [] := ⟨ob, es, ep, h1, h2, h3, hes, fun x hx => absurd hx List.not_mem_nil, .nil⟩
  refine wpAny_setItem_heap (hsz := Nat.zero_le _) (knd := nestedKind X.prog X.w) (k := k) (show X.A.in1.units + 8 < cLine by show X.A.units + 1 + 8 < cLine; omega) ⟨NKV.is I3.hok k _ _ nk rfl, dk⟩ dd2 fun h' dd' hs => ?_
  obtain ⟨o', es', ep', g1, g2, g3, g4, _, _⟩ := dd'
  have sz : es'.size = 1 := by
    rw [← Array.length_toList, g4]
    rfl
  exact ⟨σ, _, d_write I3 (by rw [e]; exact True.intro) hs ⟨o', g1⟩ (lend_ok hd g1 g2 g3 sz), q3⟩
end
section
variable {prog : Program} {w : World} {A : Around} {E : Value → Shared → Prop} {s : Shared}
theorem meets_len_raw (d : Addr) (hd : (d == sysModules) = false) :
    MeetsIn prog w (Builtin.«dict.__len__» ⟨[.ref d], []⟩) (fun _ R s => ∃ o es ep, s.heap.get? d = some o ∧ o.ExactDict ∧ o.data = .dict es ep ∧ R (.ok (.ret (.int (es.size : Nat) s.toks))) { s with toks := s.toks + 1 }) :=
  .of_wp fun A R s ⟨o, es, ep, ho, hc, hdat, h⟩ => by
    show wpAny _ _ (dictSize d >>= _) _ _ s
    unfold dictSize
    refine wpAny_bind (wpAny_bind (wpAny_dictEntries ho hdat (wpAny_pure ?_)))
    show wpAny _ _ (Builtin.Dict.pendingCount d >>= _) _ _ s
    refine wpAny_bind (wpAny_pendingCount_other hd ?_)
    refine wpAny_ret_mkInt ?_
    rw [Nat.add_zero]
    exact h
theorem call_len_raw {d : Addr} {o : Obj} {es : Array DictEntry} {ep : Nat} {Q : Value → Shared → Prop} (hd : (d == sysModules) = false) (ho : s.heap.get? d = some o) (hx : o.ExactDict) (he : o.data = .dict es ep) (hfit : (es.size : Int) < 2 ^ 63)
    (h : Q (.int (es.size : Nat) (s.toks + 1)) { s with toks := s.toks + 1 + 1 }) : wpAny (model prog w) A (call (.builtin "len") [.ref d]) Q E s := by
  have hT : s.TypeIs (.ref d) "dict" := ⟨o, ho, hx.1⟩
  refine Calls.call_function_entry kind_len plain_len entry_len (args_len1 _) ?_
  unfold Builtin.«len»
  refine wpAny_bind (m := oneArg "len" _) (wpAny_pure ?_)
  refine wpAny_bind (m := callSpecial? (.ref d) (Str.ofString "__len__")) (wpAny_callSpecial?_slot (name := Str.ofString "__len__") hT F.slot_dict_len
    (call_meetsIn F.slot_dict_len hT F.entry_dict_len (F.args_dict_len_1 _) (meets_len_raw d hd) ⟨o, es, ep, ho, hx, he, ?_⟩))
  show wpAny _ _ _ _ _ { s with toks := s.toks + 1 }
  refine wpAny_bind (wpAny_holding (wpAny_pure ?_))
  refine wpAny_bind (wpAny_letGo ?_)
  show wpAny _ _ (if ((es.size : Nat) : Int) < 0 then _ else _) _ _ _
  rw [if_neg (by omega)]
  show wpAny _ _ (if ((es.size : Nat) : Int) ≥ 2 ^ 63 then _ else _) _ _ _
  rw [if_neg (by omega)]
  exact wpAny_bind (wpAny_mkInt (wpAny_pure ⟨_, rfl, h⟩))
end
/-- len(d) -/
def rLenX : List V → Hp → VK → Prop := fun xs H Q => ∃ (p : Addr) (n : Nat), xs = [.ref p] ∧ ((n = 0 ∧ H p = some (.dK [])) ∨ (n ≤ 1000 ∧ H p = some (LenD n p))) ∧ Q (.int (n : Int)) H
theorem call_lenX {X : Cx} : CallR X (.builtin "len") rLenX := by
  intro pins s σ H xs us Q I r h
  obtain ⟨p, n, rfl, hp, q⟩ := h
  obtain ⟨u, rfl, rx⟩ := vals1 r
  obtain rfl : u = .ref p := rx
  rcases hp with ⟨rfl, hp⟩ | ⟨hn, hp⟩
  · obtain ⟨z, hd, vs, rel, dd⟩ := dk_of I.hok hp
    have ev : vs = [] := by
      cases vs with
      | nil => rfl
      | cons p q => cases rel
    subst ev
    obtain ⟨ob, es, ep, h1, h2, h3, h4, h5, h6⟩ := dd
    have hes : es.size = 0 := by
      rw [← Array.length_toList]
      cases hq : es.toList with
      | nil => rfl
      | cons p q =>
        rw [hq] at h5
        cases h5
    refine call_len_raw hd h1 h2 h3 (by rw [hes]; decide) ?_
    rw [hes]
    exact ⟨.int 0, H, I.tok _, ⟨_, rfl⟩, q⟩
  · obtain ⟨hd, o, es, ep, h1, h2, h3, h4⟩ := lend_at I.hok hp
    refine call_len_raw hd h1 h2 h3 (by rw [h4]; omega) ?_
    rw [h4]
    exact ⟨.int n, H, I.tok _, ⟨_, rfl⟩, q⟩
theorem hu65 {A : Around} {k : Nat} (hr : Room (k + 1) A) : A.units + 65 < cLine := by
  have q := hr.in1.units
  have q : A.units + 1 + 64 < cLine := q
  omega
/-- l.count(x): how many are equal -/
def rCountD (K : PySem.W.Frag) : V → List V → Hp → VK → Prop := fun x xs H Q => ∃ (a : Addr) (y : V) (d : PyData) (ds : List PyData), x = V.ref a ∧ xs = [y] ∧ Dp K H (V.ref a) (.list ds) ∧ Dp K H y d ∧
  SeqAt.shaped (.list ds) = true ∧ SeqAt.shaped d = true ∧ Q (.int ((ds.countP fun z => PyData.eqv z d) : Nat)) H
theorem mt_countD {X : Cx} (hu : X.A.units + 65 < cLine) : MtR X "list.count" (rCountD X.K) := by
  intro pins s σ H x xs v us Q I rx rxs h
  obtain ⟨a, y, d, ds, rfl, rfl, hl, hy, sl, sd, q⟩ := h
  cases rx
  obtain ⟨uy, rfl, ry⟩ := rxs.one
  obtain ⟨bs, r1⟩ := Dp.reads I d y uy hy ry
  have hxs : PyData.canLayAll0 ds = true := SeqAt.canLay_of_shaped sl
  have hroom : X.A.units + 1 + min (PyData.depthAll ds) d.depth < cLine := room_in_shaped sd hu
  cases hl with
  | lst hs ha =>
    obtain ⟨its, rv, ⟨⟨cls, dd, data, sls⟩, n, ho, hc, hdn, hdt⟩, hlen⟩ := I.list hs
    simp only at hc hdt
    subst hc hdt
    obtain ⟨as, h4⟩ := Dp.readsAll I ds _ its ha rv
    have hmap : its.map (SeqAt.readOf s.heap) = ds := SeqAt.readsAll_map ds its as hxs h4
    refine call_meets PySem.F.slot_list_count ⟨_, ho, rfl⟩ PySem.F.entry_list_count (PySem.F.args_list_count_2 _ _)
      (SeqAt.list_countAt a its.toArray n dd sls uy (fun u => PyData.eqv (SeqAt.readOf s.heap u) d)) ⟨ho, SeqAt.items_eqAt (vs := its.toArray) (show ReadsAll s.heap its.toArray.toList ds as from h4) r1 hxs (SeqAt.canLay_of_shaped sd) hroom, ?_⟩
    have ec : its.toArray.toList.countP (fun u => PyData.eqv (SeqAt.readOf s.heap u) d) = ds.countP fun z => PyData.eqv z d := by
      rw [← hmap, List.countP_map]
      rfl
    rw [ec]
    exact ⟨.int _, H, I.tok _, ⟨_, rfl⟩, q⟩
end Sk
set_option Elab.async false
set_option linter.all false
set_option maxRecDepth 100000
set_option maxHeartbeats 4000000
namespace Sk
open PySem L2
/-! ### the text by places -/
def topS (i : Nat) : Stmt := PySem.Challenge.pw_sceneskips_k77_plays_of_many_steps.main.body.getD i (.Pass ⟨0, 0, 0, 0⟩)
abbrev s_name_place : Stmt := topS 12
abbrev n_name_place : List Str := ["name", "place", "index"]
abbrev p_name_place : List Str := ["name"]
theorem sc_name_place : FnScope n_name_place p_name_place (defScope s_name_place) := ⟨rfl, rfl, rfl, by decide +kernel, rfl, by decide +kernel, by decide +kernel⟩
abbrev a_name_place : Str × Option Str := ("name_place", none)
abbrev d_name_place : He.DefD := ⟨a_name_place, "name_place", "name_place", defArgs s_name_place, defBody s_name_place, defScope s_name_place, [], []⟩
abbrev s_order_key : Stmt := topS 13
abbrev n_order_key : List Str := ["values", "total", "marks", "name"]
abbrev p_order_key : List Str := ["values"]
theorem sc_order_key : FnScope n_order_key p_order_key (defScope s_order_key) := ⟨rfl, rfl, rfl, by decide +kernel, rfl, by decide +kernel, by decide +kernel⟩
abbrev a_order_key : Str × Option Str := ("order_key", none)
abbrev d_order_key : He.DefD := ⟨a_order_key, "order_key", "order_key", defArgs s_order_key, defBody s_order_key, defScope s_order_key, [], []⟩
abbrev s_changed : Stmt := topS 14
abbrev n_changed : List Str := ["values", "listed", "result", "name", "kind", "k"]
abbrev p_changed : List Str := ["values", "listed"]
theorem sc_changed : FnScope n_changed p_changed (defScope s_changed) := ⟨rfl, rfl, rfl, by decide +kernel, rfl, by decide +kernel, by decide +kernel⟩
abbrev a_changed : Str × Option Str := ("changed", none)
abbrev d_changed : He.DefD := ⟨a_changed, "changed", "changed", defArgs s_changed, defBody s_changed, defScope s_changed, [], []⟩
abbrev s_without_zeros : Stmt := topS 15
abbrev n_without_zeros : List Str := ["values", "name"]
abbrev p_without_zeros : List Str := ["values"]
theorem sc_without_zeros : FnScope n_without_zeros p_without_zeros (defScope s_without_zeros) := ⟨rfl, rfl, rfl, by decide +kernel, rfl, by decide +kernel, by decide +kernel⟩
abbrev a_without_zeros : Str × Option Str := ("without_zeros", none)
abbrev d_without_zeros : He.DefD := ⟨a_without_zeros, "without_zeros", "without_zeros", defArgs s_without_zeros, defBody s_without_zeros, defScope s_without_zeros, [], []⟩
abbrev s_joined : Stmt := topS 16
abbrev n_joined : List Str := ["part", "kind", "k"]
abbrev p_joined : List Str := ["part", "kind", "k"]
theorem sc_joined : FnScope n_joined p_joined (defScope s_joined) := ⟨rfl, rfl, rfl, by decide +kernel, rfl, by decide +kernel, by decide +kernel⟩
abbrev a_joined : Str × Option Str := ("joined", none)
abbrev d_joined : He.DefD := ⟨a_joined, "joined", "joined", defArgs s_joined, defBody s_joined, defScope s_joined, [], []⟩
abbrev s_Change_init : Stmt := inClass (topS 17) 0
abbrev n_Change_init : List Str := ["self", "parts", "kept", "name", "kind", "k"]
abbrev p_Change_init : List Str := ["self", "parts"]
theorem sc_Change_init : FnScope n_Change_init p_Change_init (defScope s_Change_init) := ⟨rfl, rfl, rfl, by decide +kernel, rfl, by decide +kernel, by decide +kernel⟩
abbrev a_Change_init : Str × Option Str := ("Change", some "__init__")
abbrev d_Change_init : He.DefD := ⟨a_Change_init, "__init__", "Change.__init__", defArgs s_Change_init, defBody s_Change_init, defScope s_Change_init, [.non], []⟩
abbrev s_Change_rshift : Stmt := inClass (topS 17) 4
abbrev n_Change_rshift : List Str := ["self", "other", "parts", "name", "kind", "k"]
abbrev p_Change_rshift : List Str := ["self", "other"]
theorem sc_Change_rshift : FnScope n_Change_rshift p_Change_rshift (defScope s_Change_rshift) := ⟨rfl, rfl, rfl, by decide +kernel, rfl, by decide +kernel, by decide +kernel⟩
abbrev a_Change_rshift : Str × Option Str := ("Change", some "__rshift__")
abbrev d_Change_rshift : He.DefD := ⟨a_Change_rshift, "__rshift__", "Change.__rshift__", defArgs s_Change_rshift, defBody s_Change_rshift, defScope s_Change_rshift, [], []⟩
abbrev s_Change_call : Stmt := inClass (topS 17) 5
abbrev n_Change_call : List Str := ["self", "notes"]
abbrev p_Change_call : List Str := ["self", "notes"]
theorem sc_Change_call : FnScope n_Change_call p_Change_call (defScope s_Change_call) := ⟨rfl, rfl, rfl, by decide +kernel, rfl, by decide +kernel, by decide +kernel⟩
abbrev a_Change_call : Str × Option Str := ("Change", some "__call__")
abbrev d_Change_call : He.DefD := ⟨a_Change_call, "__call__", "Change.__call__", defArgs s_Change_call, defBody s_Change_call, defScope s_Change_call, [], []⟩
abbrev s_Notes_init : Stmt := inClass (topS 18) 0
abbrev n_Notes_init : List Str := ["self", "values"]
abbrev p_Notes_init : List Str := ["self", "values"]
theorem sc_Notes_init : FnScope n_Notes_init p_Notes_init (defScope s_Notes_init) := ⟨rfl, rfl, rfl, by decide +kernel, rfl, by decide +kernel, by decide +kernel⟩
abbrev a_Notes_init : Str × Option Str := ("Notes", some "__init__")
abbrev d_Notes_init : He.DefD := ⟨a_Notes_init, "__init__", "Notes.__init__", defArgs s_Notes_init, defBody s_Notes_init, defScope s_Notes_init, [.non], []⟩
abbrev s_Notes_getitem : Stmt := inClass (topS 18) 2
abbrev n_Notes_getitem : List Str := ["self", "name"]
abbrev p_Notes_getitem : List Str := ["self", "name"]
theorem sc_Notes_getitem : FnScope n_Notes_getitem p_Notes_getitem (defScope s_Notes_getitem) := ⟨rfl, rfl, rfl, by decide +kernel, rfl, by decide +kernel, by decide +kernel⟩
abbrev a_Notes_getitem : Str × Option Str := ("Notes", some "__getitem__")
abbrev d_Notes_getitem : He.DefD := ⟨a_Notes_getitem, "__getitem__", "Notes.__getitem__", defArgs s_Notes_getitem, defBody s_Notes_getitem, defScope s_Notes_getitem, [], []⟩
abbrev s_Notes_setitem : Stmt := inClass (topS 18) 3
abbrev n_Notes_setitem : List Str := ["self", "name", "k"]
abbrev p_Notes_setitem : List Str := ["self", "name", "k"]
theorem sc_Notes_setitem : FnScope n_Notes_setitem p_Notes_setitem (defScope s_Notes_setitem) := ⟨rfl, rfl, rfl, by decide +kernel, rfl, by decide +kernel, by decide +kernel⟩
abbrev a_Notes_setitem : Str × Option Str := ("Notes", some "__setitem__")
abbrev d_Notes_setitem : He.DefD := ⟨a_Notes_setitem, "__setitem__", "Notes.__setitem__", defArgs s_Notes_setitem, defBody s_Notes_setitem, defScope s_Notes_setitem, [], []⟩
abbrev s_Notes_pairs : Stmt := inClass (topS 18) 6
abbrev n_Notes_pairs : List Str := ["self", "name"]
abbrev p_Notes_pairs : List Str := ["self"]
theorem sc_Notes_pairs : FnScope n_Notes_pairs p_Notes_pairs (defScope s_Notes_pairs) := ⟨rfl, rfl, rfl, by decide +kernel, rfl, by decide +kernel, by decide +kernel⟩
abbrev a_Notes_pairs : Str × Option Str := ("Notes", some "pairs")
abbrev d_Notes_pairs : He.DefD := ⟨a_Notes_pairs, "pairs", "Notes.pairs", defArgs s_Notes_pairs, defBody s_Notes_pairs, defScope s_Notes_pairs, [], []⟩
abbrev s_Pattern_init : Stmt := inClass (topS 26) 0
abbrev n_Pattern_init : List Str := ["self", "limits", "name"]
abbrev p_Pattern_init : List Str := ["self", "limits"]
theorem sc_Pattern_init : FnScope n_Pattern_init p_Pattern_init (defScope s_Pattern_init) := ⟨rfl, rfl, rfl, by decide +kernel, rfl, by decide +kernel, by decide +kernel⟩
abbrev a_Pattern_init : Str × Option Str := ("Pattern", some "__init__")
abbrev d_Pattern_init : He.DefD := ⟨a_Pattern_init, "__init__", "Pattern.__init__", defArgs s_Pattern_init, defBody s_Pattern_init, defScope s_Pattern_init, [.non], []⟩
abbrev s_Pattern_contains : Stmt := inClass (topS 26) 2
abbrev n_Pattern_contains : List Str := ["self", "notes", "name", "low", "high"]
abbrev p_Pattern_contains : List Str := ["self", "notes"]
theorem sc_Pattern_contains : FnScope n_Pattern_contains p_Pattern_contains (defScope s_Pattern_contains) := ⟨rfl, rfl, rfl, by decide +kernel, rfl, by decide +kernel, by decide +kernel⟩
abbrev a_Pattern_contains : Str × Option Str := ("Pattern", some "__contains__")
abbrev d_Pattern_contains : He.DefD := ⟨a_Pattern_contains, "__contains__", "Pattern.__contains__", defArgs s_Pattern_contains, defBody s_Pattern_contains, defScope s_Pattern_contains, [], []⟩
abbrev s_Pattern_sub : Stmt := inClass (topS 26) 6
abbrev n_Pattern_sub : List Str := ["self", "other", "rest", "pieces", "name", "low", "high", "mine", "side", "part", "bounds", "both"]
abbrev p_Pattern_sub : List Str := ["self", "other"]
theorem sc_Pattern_sub : FnScope n_Pattern_sub p_Pattern_sub (defScope s_Pattern_sub) := ⟨rfl, rfl, rfl, by decide +kernel, rfl, by decide +kernel, by decide +kernel⟩
abbrev a_Pattern_sub : Str × Option Str := ("Pattern", some "__sub__")
abbrev d_Pattern_sub : He.DefD := ⟨a_Pattern_sub, "__sub__", "Pattern.__sub__", defArgs s_Pattern_sub, defBody s_Pattern_sub, defScope s_Pattern_sub, [], []⟩
abbrev s_Pattern_least : Stmt := inClass (topS 26) 7
abbrev n_Pattern_least : List Str := ["self", "name", "low", "high"]
abbrev p_Pattern_least : List Str := ["self"]
theorem sc_Pattern_least : FnScope n_Pattern_least p_Pattern_least (defScope s_Pattern_least) := ⟨rfl, rfl, rfl, by decide +kernel, rfl, by decide +kernel, by decide +kernel⟩
abbrev a_Pattern_least : Str × Option Str := ("Pattern", some "least")
abbrev d_Pattern_least : He.DefD := ⟨a_Pattern_least, "least", "Pattern.least", defArgs s_Pattern_least, defBody s_Pattern_least, defScope s_Pattern_least, [], []⟩
abbrev s_first_around : Stmt := topS 27
abbrev n_first_around : List Str := ["notes", "patterns", "pattern"]
abbrev p_first_around : List Str := ["notes", "patterns"]
theorem sc_first_around : FnScope n_first_around p_first_around (defScope s_first_around) := ⟨rfl, rfl, rfl, by decide +kernel, rfl, by decide +kernel, by decide +kernel⟩
abbrev a_first_around : Str × Option Str := ("first_around", none)
abbrev d_first_around : He.DefD := ⟨a_first_around, "first_around", "first_around", defArgs s_first_around, defBody s_first_around, defScope s_first_around, [], []⟩
abbrev s_least_outside : Stmt := topS 29
abbrev n_least_outside : List Str := ["pattern", "patterns", "pieces", "notes", "piece", "around", "rest"]
abbrev p_least_outside : List Str := ["pattern", "patterns"]
theorem sc_least_outside : FnScope n_least_outside p_least_outside (defScope s_least_outside) := ⟨rfl, rfl, rfl, by decide +kernel, rfl, by decide +kernel, by decide +kernel⟩
abbrev a_least_outside : Str × Option Str := ("least_outside", none)
abbrev d_least_outside : He.DefD := ⟨a_least_outside, "least_outside", "least_outside", defArgs s_least_outside, defBody s_least_outside, defScope s_least_outside, [], []⟩
abbrev s_is_name : Stmt := topS 33
abbrev n_is_name : List Str := ["value", "char"]
abbrev p_is_name : List Str := ["value"]
theorem sc_is_name : FnScope n_is_name p_is_name (defScope s_is_name) := ⟨rfl, rfl, rfl, by decide +kernel, rfl, by decide +kernel, by decide +kernel⟩
abbrev a_is_name : Str × Option Str := ("is_name", none)
abbrev d_is_name : He.DefD := ⟨a_is_name, "is_name", "is_name", defArgs s_is_name, defBody s_is_name, defScope s_is_name, [], []⟩
abbrev s_is_integer : Stmt := topS 34
abbrev n_is_integer : List Str := ["value"]
abbrev p_is_integer : List Str := ["value"]
theorem sc_is_integer : FnScope n_is_integer p_is_integer (defScope s_is_integer) := ⟨rfl, rfl, rfl, by decide +kernel, rfl, by decide +kernel, by decide +kernel⟩
abbrev a_is_integer : Str × Option Str := ("is_integer", none)
abbrev d_is_integer : He.DefD := ⟨a_is_integer, "is_integer", "is_integer", defArgs s_is_integer, defBody s_is_integer, defScope s_is_integer, [], []⟩
abbrev s_is_skip : Stmt := topS 39
abbrev n_is_skip : List Str := ["value", "row"]
abbrev p_is_skip : List Str := ["value"]
theorem sc_is_skip : FnScope n_is_skip p_is_skip (defScope s_is_skip) := ⟨rfl, rfl, rfl, by decide +kernel, rfl, by decide +kernel, by decide +kernel⟩
abbrev a_is_skip : Str × Option Str := ("is_skip", none)
abbrev d_is_skip : He.DefD := ⟨a_is_skip, "is_skip", "is_skip", defArgs s_is_skip, defBody s_is_skip, defScope s_is_skip, [], []⟩
abbrev s_is_step : Stmt := topS 41
abbrev n_is_step : List Str := ["value", "depth", "kind", "size"]
abbrev p_is_step : List Str := ["value", "depth"]
theorem sc_is_step : FnScope n_is_step p_is_step (defScope s_is_step) := ⟨rfl, rfl, rfl, by decide +kernel, rfl, by decide +kernel, by decide +kernel⟩
abbrev a_is_step : Str × Option Str := ("is_step", none)
abbrev d_is_step : He.DefD := ⟨a_is_step, "is_step", "is_step", defArgs s_is_step, defBody s_is_step, defScope s_is_step, [], []⟩
abbrev s_are_steps : Stmt := topS 42
abbrev n_are_steps : List Str := ["value", "depth", "step"]
abbrev p_are_steps : List Str := ["value", "depth"]
theorem sc_are_steps : FnScope n_are_steps p_are_steps (defScope s_are_steps) := ⟨rfl, rfl, rfl, by decide +kernel, rfl, by decide +kernel, by decide +kernel⟩
abbrev a_are_steps : Str × Option Str := ("are_steps", none)
abbrev d_are_steps : He.DefD := ⟨a_are_steps, "are_steps", "are_steps", defArgs s_are_steps, defBody s_are_steps, defScope s_are_steps, [], []⟩
abbrev s_is_scene : Stmt := topS 43
abbrev n_is_scene : List Str := ["value"]
abbrev p_is_scene : List Str := ["value"]
theorem sc_is_scene : FnScope n_is_scene p_is_scene (defScope s_is_scene) := ⟨rfl, rfl, rfl, by decide +kernel, rfl, by decide +kernel, by decide +kernel⟩
abbrev a_is_scene : Str × Option Str := ("is_scene", none)
abbrev d_is_scene : He.DefD := ⟨a_is_scene, "is_scene", "is_scene", defArgs s_is_scene, defBody s_is_scene, defScope s_is_scene, [], []⟩
abbrev s_inner_lists : Stmt := topS 44
abbrev n_inner_lists : List Str := ["step", "option"]
abbrev p_inner_lists : List Str := ["step"]
theorem sc_inner_lists : FnScope n_inner_lists p_inner_lists (defScope s_inner_lists) := ⟨rfl, rfl, rfl, by decide +kernel, rfl, by decide +kernel, by decide +kernel⟩
abbrev a_inner_lists : Str × Option Str := ("inner_lists", none)
abbrev d_inner_lists : He.DefD := ⟨a_inner_lists, "inner_lists", "inner_lists", defArgs s_inner_lists, defBody s_inner_lists, defScope s_inner_lists, [], []⟩
abbrev s_played_names : Stmt := topS 45
abbrev n_played_names : List Str := ["steps", "names", "left", "step", "inner"]
abbrev p_played_names : List Str := ["steps"]
theorem sc_played_names : FnScope n_played_names p_played_names (defScope s_played_names) := ⟨rfl, rfl, rfl, by decide +kernel, rfl, by decide +kernel, by decide +kernel⟩
abbrev a_played_names : Str × Option Str := ("played_names", none)
abbrev d_played_names : He.DefD := ⟨a_played_names, "played_names", "played_names", defArgs s_played_names, defBody s_played_names, defScope s_played_names, [], []⟩
abbrev s_item_name : Stmt := topS 46
abbrev n_item_name : List Str := ["item"]
abbrev p_item_name : List Str := ["item"]
theorem sc_item_name : FnScope n_item_name p_item_name (defScope s_item_name) := ⟨rfl, rfl, rfl, by decide +kernel, rfl, by decide +kernel, by decide +kernel⟩
abbrev a_item_name : Str × Option Str := ("item_name", none)
abbrev d_item_name : He.DefD := ⟨a_item_name, "item_name", "item_name", defArgs s_item_name, defBody s_item_name, defScope s_item_name, [], []⟩
abbrev s_first_fault : Stmt := topS 47
abbrev n_first_fault : List Str := ["items", "names", "index", "item", "name"]
abbrev p_first_fault : List Str := ["items"]
theorem sc_first_fault : FnScope n_first_fault p_first_fault (defScope s_first_fault) := ⟨rfl, rfl, rfl, by decide +kernel, rfl, by decide +kernel, by decide +kernel⟩
abbrev a_first_fault : Str × Option Str := ("first_fault", none)
abbrev d_first_fault : He.DefD := ⟨a_first_fault, "first_fault", "first_fault", defArgs s_first_fault, defBody s_first_fault, defScope s_first_fault, [], []⟩
abbrev s_kept_steps : Stmt := topS 49
abbrev n_kept_steps : List Str := ["steps", "rows", "step", "options", "word", "limits", "inner"]
abbrev p_kept_steps : List Str := ["steps"]
theorem sc_kept_steps : FnScope n_kept_steps p_kept_steps (defScope s_kept_steps) := ⟨rfl, rfl, rfl, by decide +kernel, rfl, by decide +kernel, by decide +kernel⟩
abbrev a_kept_steps : Str × Option Str := ("kept_steps", none)
abbrev d_kept_steps : He.DefD := ⟨a_kept_steps, "kept_steps", "kept_steps", defArgs s_kept_steps, defBody s_kept_steps, defScope s_kept_steps, [], []⟩
abbrev s_kept_skip : Stmt := topS 50
abbrev n_kept_skip : List Str := ["skip", "rows", "limits", "parts", "changes", "name", "part"]
abbrev p_kept_skip : List Str := ["skip"]
theorem sc_kept_skip : FnScope n_kept_skip p_kept_skip (defScope s_kept_skip) := ⟨rfl, rfl, rfl, by decide +kernel, rfl, by decide +kernel, by decide +kernel⟩
abbrev a_kept_skip : Str × Option Str := ("kept_skip", none)
abbrev d_kept_skip : He.DefD := ⟨a_kept_skip, "kept_skip", "kept_skip", defArgs s_kept_skip, defBody s_kept_skip, defScope s_kept_skip, [], []⟩
abbrev s_kept_scene : Stmt := topS 51
abbrev n_kept_scene : List Str := ["scene"]
abbrev p_kept_scene : List Str := ["scene"]
theorem sc_kept_scene : FnScope n_kept_scene p_kept_scene (defScope s_kept_scene) := ⟨rfl, rfl, rfl, by decide +kernel, rfl, by decide +kernel, by decide +kernel⟩
abbrev a_kept_scene : Str × Option Str := ("kept_scene", none)
abbrev d_kept_scene : He.DefD := ⟨a_kept_scene, "kept_scene", "kept_scene", defArgs s_kept_scene, defBody s_kept_scene, defScope s_kept_scene, [], []⟩
abbrev s_Story_init : Stmt := inClass (topS 52) 0
abbrev n_Story_init : List Str := ["self", "scenes", "fault", "scene"]
abbrev p_Story_init : List Str := ["self", "scenes"]
theorem sc_Story_init : FnScope n_Story_init p_Story_init (defScope s_Story_init) := ⟨rfl, rfl, rfl, by decide +kernel, rfl, by decide +kernel, by decide +kernel⟩
abbrev a_Story_init : Str × Option Str := ("Story", some "__init__")
abbrev d_Story_init : He.DefD := ⟨a_Story_init, "__init__", "Story.__init__", defArgs s_Story_init, defBody s_Story_init, defScope s_Story_init, [], []⟩
abbrev s_Story_names : Stmt := inClass (topS 52) 2
abbrev n_Story_names : List Str := ["self", "scene"]
abbrev p_Story_names : List Str := ["self"]
theorem sc_Story_names : FnScope n_Story_names p_Story_names (defScope s_Story_names) := ⟨rfl, rfl, rfl, by decide +kernel, rfl, by decide +kernel, by decide +kernel⟩
abbrev a_Story_names : Str × Option Str := ("Story", some "names")
abbrev d_Story_names : He.DefD := ⟨a_Story_names, "names", "Story.names", defArgs s_Story_names, defBody s_Story_names, defScope s_Story_names, [], []⟩
abbrev s_find_scene : Stmt := topS 53
abbrev n_find_scene : List Str := ["story", "name", "scene"]
abbrev p_find_scene : List Str := ["story", "name"]
theorem sc_find_scene : FnScope n_find_scene p_find_scene (defScope s_find_scene) := ⟨rfl, rfl, rfl, by decide +kernel, rfl, by decide +kernel, by decide +kernel⟩
abbrev a_find_scene : Str × Option Str := ("find_scene", none)
abbrev d_find_scene : He.DefD := ⟨a_find_scene, "find_scene", "find_scene", defArgs s_find_scene, defBody s_find_scene, defScope s_find_scene, [], []⟩
abbrev s_ahead : Stmt := topS 56
abbrev n_ahead : List Str := ["steps", "rest"]
abbrev p_ahead : List Str := ["steps", "rest"]
theorem sc_ahead : FnScope n_ahead p_ahead (defScope s_ahead) := ⟨rfl, rfl, rfl, by decide +kernel, rfl, by decide +kernel, by decide +kernel⟩
abbrev a_ahead : Str × Option Str := ("ahead", none)
abbrev d_ahead : He.DefD := ⟨a_ahead, "ahead", "ahead", defArgs s_ahead, defBody s_ahead, defScope s_ahead, [], []⟩
abbrev s_step_on : Stmt := topS 60
abbrev n_step_on : List Str := ["story", "stretch", "box", "turn", "words", "sides", "left", "steps", "at", "below", "step", "kind", "onward", "lost", "scene", "one"]
abbrev p_step_on : List Str := ["story", "stretch"]
theorem sc_step_on : FnScope n_step_on p_step_on (defScope s_step_on) := ⟨rfl, rfl, rfl, by decide +kernel, rfl, by decide +kernel, by decide +kernel⟩
abbrev a_step_on : Str × Option Str := ("step_on", none)
abbrev d_step_on : He.DefD := ⟨a_step_on, "step_on", "step_on", defArgs s_step_on, defBody s_step_on, defScope s_step_on, [], []⟩
abbrev s_advance : Stmt := topS 61
abbrev n_advance : List Str := ["story", "pattern", "change", "rest", "found", "runs", "pile", "onward", "stops", "stop"]
abbrev p_advance : List Str := ["story", "pattern", "change", "rest"]
theorem sc_advance : FnScope n_advance p_advance (defScope s_advance) := ⟨rfl, rfl, rfl, by decide +kernel, rfl, by decide +kernel, by decide +kernel⟩
abbrev a_advance : Str × Option Str := ("advance", none)
abbrev d_advance : He.DefD := ⟨a_advance, "advance", "advance", defArgs s_advance, defBody s_advance, defScope s_advance, [], []⟩
abbrev s_Way_init : Stmt := inClass (topS 64) 0
abbrev n_Way_init : List Str := ["self", "box", "turn", "given", "words", "close"]
abbrev p_Way_init : List Str := ["self", "box", "turn", "given", "words", "close"]
theorem sc_Way_init : FnScope n_Way_init p_Way_init (defScope s_Way_init) := ⟨rfl, rfl, rfl, by decide +kernel, rfl, by decide +kernel, by decide +kernel⟩
abbrev a_Way_init : Str × Option Str := ("Way", some "__init__")
abbrev d_Way_init : He.DefD := ⟨a_Way_init, "__init__", "Way.__init__", defArgs s_Way_init, defBody s_Way_init, defScope s_Way_init, [], []⟩
abbrev s_Way_call : Stmt := inClass (topS 64) 6
abbrev n_Way_call : List Str := ["self", "notes"]
abbrev p_Way_call : List Str := ["self", "notes"]
theorem sc_Way_call : FnScope n_Way_call p_Way_call (defScope s_Way_call) := ⟨rfl, rfl, rfl, by decide +kernel, rfl, by decide +kernel, by decide +kernel⟩
abbrev a_Way_call : Str × Option Str := ("Way", some "__call__")
abbrev d_Way_call : He.DefD := ⟨a_Way_call, "__call__", "Way.__call__", defArgs s_Way_call, defBody s_Way_call, defScope s_Way_call, [], []⟩
abbrev s_first_not_less : Stmt := topS 65
abbrev n_first_not_less : List Str := ["rows", "one", "low", "high", "middle"]
abbrev p_first_not_less : List Str := ["rows", "one"]
theorem sc_first_not_less : FnScope n_first_not_less p_first_not_less (defScope s_first_not_less) := ⟨rfl, rfl, rfl, by decide +kernel, rfl, by decide +kernel, by decide +kernel⟩
abbrev a_first_not_less : Str × Option Str := ("first_not_less", none)
abbrev d_first_not_less : He.DefD := ⟨a_first_not_less, "first_not_less", "first_not_less", defArgs s_first_not_less, defBody s_first_not_less, defScope s_first_not_less, [], []⟩
abbrev s_after_scene : Stmt := topS 67
abbrev n_after_scene : List Str := ["spot", "scene", "skips", "pattern", "change", "answers", "words", "sides", "rest", "found", "box", "turn", "row"]
abbrev p_after_scene : List Str := ["spot", "scene", "skips"]
theorem sc_after_scene : FnScope n_after_scene p_after_scene (defScope s_after_scene) := ⟨rfl, rfl, rfl, by decide +kernel, rfl, by decide +kernel, by decide +kernel⟩
abbrev a_after_scene : Str × Option Str := ("after_scene", none)
abbrev d_after_scene : He.DefD := ⟨a_after_scene, "after_scene", "after_scene", defArgs s_after_scene, defBody s_after_scene, defScope s_after_scene, [], []⟩
abbrev s_ways : Stmt := topS 68
abbrev n_ways : List Str := ["story", "scene", "skips", "found", "keys", "runs", "pile", "spot", "box", "turn", "words", "sides", "end", "what", "rest", "here", "boxes", "onward", "one", "key", "at"]
abbrev p_ways : List Str := ["story", "scene", "skips"]
theorem sc_ways : FnScope n_ways p_ways (defScope s_ways) := ⟨rfl, rfl, rfl, by decide +kernel, rfl, by decide +kernel, by decide +kernel⟩
abbrev a_ways : Str × Option Str := ("ways", none)
abbrev d_ways : He.DefD := ⟨a_ways, "ways", "ways", defArgs s_ways, defBody s_ways, defScope s_ways, [], [("skips", .bl false)]⟩
abbrev s_outcomes : Stmt := topS 69
abbrev n_outcomes : List Str := ["story", "scene", "notes", "found", "way", "left", "at"]
abbrev p_outcomes : List Str := ["story", "scene", "notes"]
theorem sc_outcomes : FnScope n_outcomes p_outcomes (defScope s_outcomes) := ⟨rfl, rfl, rfl, by decide +kernel, rfl, by decide +kernel, by decide +kernel⟩
abbrev a_outcomes : Str × Option Str := ("outcomes", none)
abbrev d_outcomes : He.DefD := ⟨a_outcomes, "outcomes", "outcomes", defArgs s_outcomes, defBody s_outcomes, defScope s_outcomes, [], []⟩
abbrev s_copied : Stmt := topS 75
abbrev n_copied : List Str := ["notes", "name", "number"]
abbrev p_copied : List Str := ["notes"]
theorem sc_copied : FnScope n_copied p_copied (defScope s_copied) := ⟨rfl, rfl, rfl, by decide +kernel, rfl, by decide +kernel, by decide +kernel⟩
abbrev a_copied : Str × Option Str := ("copied", none)
abbrev d_copied : He.DefD := ⟨a_copied, "copied", "copied", defArgs s_copied, defBody s_copied, defScope s_copied, [], []⟩
abbrev s_Play_init : Stmt := inClass (topS 76) 0
abbrev n_Play_init : List Str := ["self", "story", "notes", "scene", "names"]
abbrev p_Play_init : List Str := ["self", "story", "notes", "scene"]
theorem sc_Play_init : FnScope n_Play_init p_Play_init (defScope s_Play_init) := ⟨rfl, rfl, rfl, by decide +kernel, rfl, by decide +kernel, by decide +kernel⟩
abbrev a_Play_init : Str × Option Str := ("Play", some "__init__")
abbrev d_Play_init : He.DefD := ⟨a_Play_init, "__init__", "Play.__init__", defArgs s_Play_init, defBody s_Play_init, defScope s_Play_init, [], [("scene", .non)]⟩
abbrev s_Play_restart : Stmt := inClass (topS 76) 1
abbrev n_Play_restart : List Str := ["self"]
abbrev p_Play_restart : List Str := ["self"]
theorem sc_Play_restart : FnScope n_Play_restart p_Play_restart (defScope s_Play_restart) := ⟨rfl, rfl, rfl, by decide +kernel, rfl, by decide +kernel, by decide +kernel⟩
abbrev a_Play_restart : Str × Option Str := ("Play", some "restart")
abbrev d_Play_restart : He.DefD := ⟨a_Play_restart, "restart", "Play.restart", defArgs s_Play_restart, defBody s_Play_restart, defScope s_Play_restart, [], []⟩
abbrev s_Play_advance : Stmt := inClass (topS 76) 2
abbrev n_Play_advance : List Str := ["self"]
abbrev p_Play_advance : List Str := ["self"]
theorem sc_Play_advance : FnScope n_Play_advance p_Play_advance (defScope s_Play_advance) := ⟨rfl, rfl, rfl, by decide +kernel, rfl, by decide +kernel, by decide +kernel⟩
abbrev a_Play_advance : Str × Option Str := ("Play", some "advance")
abbrev d_Play_advance : He.DefD := ⟨a_Play_advance, "advance", "Play.advance", defArgs s_Play_advance, defBody s_Play_advance, defScope s_Play_advance, [], []⟩
abbrev s_Play_do : Stmt := inClass (topS 76) 3
abbrev n_Play_do : List Str := ["self", "step", "kind", "name", "inside"]
abbrev p_Play_do : List Str := ["self", "step"]
theorem sc_Play_do : FnScope n_Play_do p_Play_do (defScope s_Play_do) := ⟨rfl, rfl, rfl, by decide +kernel, rfl, by decide +kernel, by decide +kernel⟩
abbrev a_Play_do : Str × Option Str := ("Play", some "do")
abbrev d_Play_do : He.DefD := ⟨a_Play_do, "do", "Play.do", defArgs s_Play_do, defBody s_Play_do, defScope s_Play_do, [], []⟩
abbrev s_Play_enter : Stmt := inClass (topS 76) 5
abbrev n_Play_enter : List Str := ["self", "name", "scene"]
abbrev p_Play_enter : List Str := ["self", "name"]
theorem sc_Play_enter : FnScope n_Play_enter p_Play_enter (defScope s_Play_enter) := ⟨rfl, rfl, rfl, by decide +kernel, rfl, by decide +kernel, by decide +kernel⟩
abbrev a_Play_enter : Str × Option Str := ("Play", some "enter")
abbrev d_Play_enter : He.DefD := ⟨a_Play_enter, "enter", "Play.enter", defArgs s_Play_enter, defBody s_Play_enter, defScope s_Play_enter, [], []⟩
abbrev s_Play_len : Stmt := inClass (topS 76) 11
abbrev n_Play_len : List Str := ["self"]
abbrev p_Play_len : List Str := ["self"]
theorem sc_Play_len : FnScope n_Play_len p_Play_len (defScope s_Play_len) := ⟨rfl, rfl, rfl, by decide +kernel, rfl, by decide +kernel, by decide +kernel⟩
abbrev a_Play_len : Str × Option Str := ("Play", some "__len__")
abbrev d_Play_len : He.DefD := ⟨a_Play_len, "__len__", "Play.__len__", defArgs s_Play_len, defBody s_Play_len, defScope s_Play_len, [], []⟩
abbrev s_Play_answer : Stmt := inClass (topS 76) 12
abbrev n_Play_answer : List Str := ["self", "word", "kind", "what", "possible"]
abbrev p_Play_answer : List Str := ["self", "word"]
theorem sc_Play_answer : FnScope n_Play_answer p_Play_answer (defScope s_Play_answer) := ⟨rfl, rfl, rfl, by decide +kernel, rfl, by decide +kernel, by decide +kernel⟩
abbrev a_Play_answer : Str × Option Str := ("Play", some "answer")
abbrev d_Play_answer : He.DefD := ⟨a_Play_answer, "answer", "Play.answer", defArgs s_Play_answer, defBody s_Play_answer, defScope s_Play_answer, [], []⟩
abbrev s_resumed : Stmt := topS 77
abbrev n_resumed : List Str := ["story", "notes", "book", "scene", "play", "index", "word"]
abbrev p_resumed : List Str := ["story", "notes", "book", "scene"]
theorem sc_resumed : FnScope n_resumed p_resumed (defScope s_resumed) := ⟨rfl, rfl, rfl, by decide +kernel, rfl, by decide +kernel, by decide +kernel⟩
abbrev a_resumed : Str × Option Str := ("resumed", none)
abbrev d_resumed : He.DefD := ⟨a_resumed, "resumed", "resumed", defArgs s_resumed, defBody s_resumed, defScope s_resumed, [], [("scene", .non)]⟩
abbrev s_Lcell : Stmt := topS 79
abbrev n_Lcell : List Str := ["script", "k"]
abbrev p_Lcell : List Str := ["script", "k"]
theorem sc_Lcell : FnScope n_Lcell p_Lcell (defScope s_Lcell) := ⟨rfl, rfl, rfl, by decide +kernel, rfl, by decide +kernel, by decide +kernel⟩
abbrev a_Lcell : Str × Option Str := ("_law_cell", none)
abbrev d_Lcell : He.DefD := ⟨a_Lcell, "_law_cell", "_law_cell", defArgs s_Lcell, defBody s_Lcell, defScope s_Lcell, [], []⟩
abbrev s_Lsource : Stmt := topS 80
abbrev n_Lsource : List Str := ["cell", "place", "number", "total", "k"]
abbrev p_Lsource : List Str := ["cell", "place"]
theorem sc_Lsource : FnScope n_Lsource p_Lsource (defScope s_Lsource) := ⟨rfl, rfl, rfl, by decide +kernel, rfl, by decide +kernel, by decide +kernel⟩
abbrev a_Lsource : Str × Option Str := ("_law_source", none)
abbrev d_Lsource : He.DefD := ⟨a_Lsource, "_law_source", "_law_source", defArgs s_Lsource, defBody s_Lsource, defScope s_Lsource, [], []⟩
abbrev s_Ldraw : Stmt := topS 81
abbrev n_Ldraw : List Str := ["source", "many", "drawn"]
abbrev p_Ldraw : List Str := ["source", "many"]
theorem sc_Ldraw : FnScope n_Ldraw p_Ldraw (defScope s_Ldraw) := ⟨rfl, rfl, rfl, by decide +kernel, rfl, by decide +kernel, by decide +kernel⟩
abbrev a_Ldraw : Str × Option Str := ("_law_draw", none)
abbrev d_Ldraw : He.DefD := ⟨a_Ldraw, "_law_draw", "_law_draw", defArgs s_Ldraw, defBody s_Ldraw, defScope s_Ldraw, [], []⟩
abbrev s_Lname : Stmt := topS 82
abbrev n_Lname : List Str := ["source", "others", "kind", "some", "name", "k", "one"]
abbrev p_Lname : List Str := ["source", "others"]
theorem sc_Lname : FnScope n_Lname p_Lname (defScope s_Lname) := ⟨rfl, rfl, rfl, by decide +kernel, rfl, by decide +kernel, by decide +kernel⟩
abbrev a_Lname : Str × Option Str := ("_law_name", none)
abbrev d_Lname : He.DefD := ⟨a_Lname, "_law_name", "_law_name", defArgs s_Lname, defBody s_Lname, defScope s_Lname, [], []⟩
abbrev s_Lnames : Stmt := topS 83
abbrev n_Lnames : List Str := ["source", "many", "names", "k"]
abbrev p_Lnames : List Str := ["source", "many"]
theorem sc_Lnames : FnScope n_Lnames p_Lnames (defScope s_Lnames) := ⟨rfl, rfl, rfl, by decide +kernel, rfl, by decide +kernel, by decide +kernel⟩
abbrev a_Lnames : Str × Option Str := ("_law_names", none)
abbrev d_Lnames : He.DefD := ⟨a_Lnames, "_law_names", "_law_names", defArgs s_Lnames, defBody s_Lnames, defScope s_Lnames, [], []⟩
abbrev s_Lpairs : Stmt := topS 84
abbrev n_Lpairs : List Str := ["values", "name", "one"]
abbrev p_Lpairs : List Str := ["values"]
theorem sc_Lpairs : FnScope n_Lpairs p_Lpairs (defScope s_Lpairs) := ⟨rfl, rfl, rfl, by decide +kernel, rfl, by decide +kernel, by decide +kernel⟩
abbrev a_Lpairs : Str × Option Str := ("_law_pairs", none)
abbrev d_Lpairs : He.DefD := ⟨a_Lpairs, "_law_pairs", "_law_pairs", defArgs s_Lpairs, defBody s_Lpairs, defScope s_Lpairs, [], []⟩
abbrev s_Lare_notes : Stmt := topS 85
abbrev n_Lare_notes : List Str := ["found", "values", "pairs", "name", "k"]
abbrev p_Lare_notes : List Str := ["found", "values"]
theorem sc_Lare_notes : FnScope n_Lare_notes p_Lare_notes (defScope s_Lare_notes) := ⟨rfl, rfl, rfl, by decide +kernel, rfl, by decide +kernel, by decide +kernel⟩
abbrev a_Lare_notes : Str × Option Str := ("_law_are_notes", none)
abbrev d_Lare_notes : He.DefD := ⟨a_Lare_notes, "_law_are_notes", "_law_are_notes", defArgs s_Lare_notes, defBody s_Lare_notes, defScope s_Lare_notes, [], []⟩
abbrev s_Lnumber : Stmt := topS 87
abbrev n_Lnumber : List Str := ["source", "size"]
abbrev p_Lnumber : List Str := ["source"]
theorem sc_Lnumber : FnScope n_Lnumber p_Lnumber (defScope s_Lnumber) := ⟨rfl, rfl, rfl, by decide +kernel, rfl, by decide +kernel, by decide +kernel⟩
abbrev a_Lnumber : Str × Option Str := ("_law_number", none)
abbrev d_Lnumber : He.DefD := ⟨a_Lnumber, "_law_number", "_law_number", defArgs s_Lnumber, defBody s_Lnumber, defScope s_Lnumber, [], []⟩
abbrev s_Lplain : Stmt := topS 88
abbrev n_Lplain : List Str := ["source", "notes", "words", "steps", "k", "kind", "note", "word"]
abbrev p_Lplain : List Str := ["source", "notes", "words"]
theorem sc_Lplain : FnScope n_Lplain p_Lplain (defScope s_Lplain) := ⟨rfl, rfl, rfl, by decide +kernel, rfl, by decide +kernel, by decide +kernel⟩
abbrev a_Lplain : Str × Option Str := ("_law_plain", none)
abbrev d_Lplain : He.DefD := ⟨a_Lplain, "_law_plain", "_law_plain", defArgs s_Lplain, defBody s_Lplain, defScope s_Lplain, [], []⟩
abbrev s_Lscene : Stmt := topS 89
abbrev n_Lscene : List Str := ["source", "name", "notes", "words", "later", "rows", "steps", "times", "flat", "size", "played", "k", "step"]
abbrev p_Lscene : List Str := ["source", "name", "notes", "words", "later", "rows"]
theorem sc_Lscene : FnScope n_Lscene p_Lscene (defScope s_Lscene) := ⟨rfl, rfl, rfl, by decide +kernel, rfl, by decide +kernel, by decide +kernel⟩
abbrev a_Lscene : Str × Option Str := ("_law_scene", none)
abbrev d_Lscene : He.DefD := ⟨a_Lscene, "_law_scene", "_law_scene", defArgs s_Lscene, defBody s_Lscene, defScope s_Lscene, [], []⟩
abbrev s_Ldone : Stmt := topS 90
abbrev n_Ldone : List Str := ["flat", "values", "words", "left", "step"]
abbrev p_Ldone : List Str := ["flat", "values"]
theorem sc_Ldone : FnScope n_Ldone p_Ldone (defScope s_Ldone) := ⟨rfl, rfl, rfl, by decide +kernel, rfl, by decide +kernel, by decide +kernel⟩
abbrev a_Ldone : Str × Option Str := ("_law_done", none)
abbrev d_Ldone : He.DefD := ⟨a_Ldone, "_law_done", "_law_done", defArgs s_Ldone, defBody s_Ldone, defScope s_Ldone, [], []⟩
abbrev s_Lgood : Stmt := topS 91
abbrev n_Lgood : List Str := ["story", "name", "due", "values", "words", "left", "answers", "found", "k", "way", "some", "play"]
abbrev p_Lgood : List Str := ["story", "name", "due", "values"]
theorem sc_Lgood : FnScope n_Lgood p_Lgood (defScope s_Lgood) := ⟨rfl, rfl, rfl, by decide +kernel, rfl, by decide +kernel, by decide +kernel⟩
abbrev a_Lgood : Str × Option Str := ("_law_good", none)
abbrev d_Lgood : He.DefD := ⟨a_Lgood, "_law_good", "_law_good", defArgs s_Lgood, defBody s_Lgood, defScope s_Lgood, [], []⟩
abbrev s_law : Stmt := topS 92
abbrev n_law : List Str := ["script", "source", "notes", "words", "names", "values", "name", "many", "every", "later", "k", "rows", "story", "at", "one"]
abbrev p_law : List Str := ["script"]
theorem sc_law : FnScope n_law p_law (defScope s_law) := ⟨rfl, rfl, rfl, by decide +kernel, rfl, by decide +kernel, by decide +kernel⟩
abbrev a_law : Str × Option Str := ("law", none)
abbrev d_law : He.DefD := ⟨a_law, "law", "law", defArgs s_law, defBody s_law, defScope s_law, [], []⟩
/-! ### what the top has left -/
def fn : List He.DefD := [d_name_place, d_order_key, d_changed, d_without_zeros, d_joined, d_Change_init, d_Change_rshift, d_Change_call, d_Notes_init, d_Notes_getitem, d_Notes_setitem, d_Notes_pairs, d_Pattern_init, d_Pattern_contains, d_Pattern_sub, d_Pattern_least, d_first_around, d_least_outside, d_is_name, d_is_integer, d_is_skip, d_is_step, d_are_steps, d_is_scene, d_inner_lists, d_played_names, d_item_name, d_first_fault, d_kept_steps, d_kept_skip, d_kept_scene, d_Story_init, d_Story_names, d_find_scene, d_ahead, d_step_on, d_advance, d_Way_init, d_Way_call, d_first_not_less, d_after_scene, d_ways, d_outcomes, d_copied, d_Play_init, d_Play_restart, d_Play_advance, d_Play_do, d_Play_enter, d_Play_len, d_Play_answer, d_resumed, d_Lcell, d_Lsource, d_Ldraw, d_Lname, d_Lnames, d_Lpairs, d_Lare_notes, d_Lnumber, d_Lplain, d_Lscene, d_Ldone, d_Lgood, d_law]
def fa : List He.Fa := [.glo "name_place", .glo "order_key", .glo "changed", .glo "without_zeros", .glo "joined", .glo "first_around", .glo "least_outside", .glo "is_name", .glo "is_integer", .glo "is_skip", .glo "is_step", .glo "are_steps",
  .glo "is_scene", .glo "inner_lists", .glo "played_names", .glo "item_name", .glo "first_fault", .glo "kept_steps", .glo "kept_skip", .glo "kept_scene", .glo "find_scene", .glo "ahead", .glo "step_on", .glo "advance",
  .glo "first_not_less", .glo "after_scene", .glo "ways", .glo "outcomes", .glo "copied", .glo "resumed", .glo "_law_cell", .glo "_law_source", .glo "_law_draw", .glo "_law_name", .glo "_law_names", .glo "_law_pairs",
  .glo "_law_are_notes", .glo "_law_number", .glo "_law_plain", .glo "_law_scene", .glo "_law_done", .glo "_law_good", .glo "law", .glo "Change", .glo "Notes", .glo "Pattern", .glo "Story", .glo "Way",
  .glo "Play", .glo "PlayOver", .glo "InvalidAnswer", .free "len", .free "ord", .free "abs", .free "sum", .free "sorted", .free "tuple", .free "int", .free "bool", .free "range",
  .free "isinstance", .free "list", .free "dict", .free "str", .free "all", .free "divmod", .free "enumerate", .cls "Change", .mkr "Change", .noat "Change" "listed", .meth "Change" "__rshift__", .meth "Change" "__call__",
  .cls "Notes", .mkr "Notes", .noat "Notes" "held", .noat "Notes" "rank", .meth "Notes" "__getitem__", .meth "Notes" "__setitem__", .meth "Notes" "pairs", .cls "Pattern", .mkr "Pattern", .noat "Pattern" "bounds", .noat "Pattern" "listed", .meth "Pattern" "__contains__",
  .meth "Pattern" "__sub__", .meth "Pattern" "least", .cls "Story", .mkr "Story", .noat "Story" "kept", .meth "Story" "names", .cls "Way", .mkr "Way", .noat "Way" "box", .noat "Way" "turn", .noat "Way" "given", .noat "Way" "words",
  .noat "Way" "close", .meth "Way" "__call__", .cls "Play", .mkr "Play", .noat "Play" "story", .noat "Play" "first", .noat "Play" "scene", .noat "Play" "current", .noat "Play" "words", .noat "Play" "given", .noat "Play" "options", .noat "Play" "asked",
  .noat "Play" "left", .noat "Play" "standing", .meth "Play" "restart", .meth "Play" "advance", .meth "Play" "do", .meth "Play" "enter", .meth "Play" "answer", .meth "Play" "__len__", .int "MOST_RUNS" 300, .int "DEEPEST" 5, .str "LETTERS" "abcdefghijklmnopqrstuvwxyz"]
abbrev s_Way_pattern : Stmt := inClass (topS 64) 1
abbrev n_Way_pattern : List Str := ["self"]
abbrev p_Way_pattern : List Str := ["self"]
theorem sc_Way_pattern : FnScope n_Way_pattern p_Way_pattern (defScope s_Way_pattern) := ⟨rfl, rfl, rfl, by decide +kernel, rfl, by decide +kernel, by decide +kernel⟩
abbrev a_Way_pattern : Str × Option Str := ("Way", some "pattern")
abbrev d_Way_pattern : He.DefD := ⟨a_Way_pattern, "pattern", "Way.pattern", defArgs s_Way_pattern, defBody s_Way_pattern, defScope s_Way_pattern, [], []⟩
abbrev s_Way_answers : Stmt := inClass (topS 64) 3
abbrev n_Way_answers : List Str := ["self"]
abbrev p_Way_answers : List Str := ["self"]
theorem sc_Way_answers : FnScope n_Way_answers p_Way_answers (defScope s_Way_answers) := ⟨rfl, rfl, rfl, by decide +kernel, rfl, by decide +kernel, by decide +kernel⟩
abbrev a_Way_answers : Str × Option Str := ("Way", some "answers")
abbrev d_Way_answers : He.DefD := ⟨a_Way_answers, "answers", "Way.answers", defArgs s_Way_answers, defBody s_Way_answers, defScope s_Way_answers, [], []⟩
abbrev s_Way_shown : Stmt := inClass (topS 64) 4
abbrev n_Way_shown : List Str := ["self"]
abbrev p_Way_shown : List Str := ["self"]
theorem sc_Way_shown : FnScope n_Way_shown p_Way_shown (defScope s_Way_shown) := ⟨rfl, rfl, rfl, by decide +kernel, rfl, by decide +kernel, by decide +kernel⟩
abbrev a_Way_shown : Str × Option Str := ("Way", some "shown")
abbrev d_Way_shown : He.DefD := ⟨a_Way_shown, "shown", "Way.shown", defArgs s_Way_shown, defBody s_Way_shown, defScope s_Way_shown, [], []⟩
abbrev s_Way_end : Stmt := inClass (topS 64) 5
abbrev n_Way_end : List Str := ["self"]
abbrev p_Way_end : List Str := ["self"]
theorem sc_Way_end : FnScope n_Way_end p_Way_end (defScope s_Way_end) := ⟨rfl, rfl, rfl, by decide +kernel, rfl, by decide +kernel, by decide +kernel⟩
abbrev a_Way_end : Str × Option Str := ("Way", some "end")
abbrev d_Way_end : He.DefD := ⟨a_Way_end, "end", "Way.end", defArgs s_Way_end, defBody s_Way_end, defScope s_Way_end, [], []⟩
abbrev s_Play_state : Stmt := inClass (topS 76) 6
abbrev n_Play_state : List Str := ["self"]
abbrev p_Play_state : List Str := ["self"]
theorem sc_Play_state : FnScope n_Play_state p_Play_state (defScope s_Play_state) := ⟨rfl, rfl, rfl, by decide +kernel, rfl, by decide +kernel, by decide +kernel⟩
abbrev a_Play_state : Str × Option Str := ("Play", some "state")
abbrev d_Play_state : He.DefD := ⟨a_Play_state, "state", "Play.state", defArgs s_Play_state, defBody s_Play_state, defScope s_Play_state, [], []⟩
abbrev s_Play_shown : Stmt := inClass (topS 76) 8
abbrev n_Play_shown : List Str := ["self"]
abbrev p_Play_shown : List Str := ["self"]
theorem sc_Play_shown : FnScope n_Play_shown p_Play_shown (defScope s_Play_shown) := ⟨rfl, rfl, rfl, by decide +kernel, rfl, by decide +kernel, by decide +kernel⟩
abbrev a_Play_shown : Str × Option Str := ("Play", some "shown")
abbrev d_Play_shown : He.DefD := ⟨a_Play_shown, "shown", "Play.shown", defArgs s_Play_shown, defBody s_Play_shown, defScope s_Play_shown, [], []⟩
abbrev s_Play_notes : Stmt := inClass (topS 76) 10
abbrev n_Play_notes : List Str := ["self"]
abbrev p_Play_notes : List Str := ["self"]
theorem sc_Play_notes : FnScope n_Play_notes p_Play_notes (defScope s_Play_notes) := ⟨rfl, rfl, rfl, by decide +kernel, rfl, by decide +kernel, by decide +kernel⟩
abbrev a_Play_notes : Str × Option Str := ("Play", some "notes")
abbrev d_Play_notes : He.DefD := ⟨a_Play_notes, "notes", "Play.notes", defArgs s_Play_notes, defBody s_Play_notes, defScope s_Play_notes, [], []⟩
def gs : List He.DefD := [d_Way_pattern, d_Way_answers, d_Way_shown, d_Way_end, d_Play_state, d_Play_shown, d_Play_notes]
/-! ### getters of properties -/
def getA (K : PySem.W.Frag) (p : Str × Option Str) : Addr := match PySem.W.recIn K (He.fAd K p) "property" with
  | some (.ref g :: _) => g
  | _ => 0
def fnG (K : PySem.W.Frag) (p : Str × Option Str) : He.FnW := match K.lookup (getA K p) with
  | some ⟨_, _, .func fd, _⟩ => some (fd.name, fd.qualname, fd.params, fd.body, fd.scope, fd.globals, fd.closure, fd.builtins)
  | _ => none
def okG (K : PySem.W.Frag) (d : He.DefD) : Bool := PySem.W.keepIn K (.ref (getA K d.at_)) && ((match K.lookup (getA K d.at_) with
  | some ⟨_, _, .func fd, _⟩ => PySem.W.codeIn K fd.code d.qual && (He.dflB K fd.defaults (d.dvs K) && He.kwdB K fd.kwdefaults (d.kws K))
  | _ => false) && (decide (PySem.W.findIn K (.ref (He.ga K d.at_.1)) d.name = some (some (.ref (He.fAd K d.at_)))) && (decide (PySem.W.specialIn K (.ref (He.fAd K d.at_)) "__get__" = some (some (.builtin "property.__get__"))) &&
    (decide (PySem.W.takesIn K (.ref (He.fAd K d.at_)) = some true) && (match PySem.W.recIn K (He.fAd K d.at_) "property" with
      | some (.ref _ :: _) => true
      | _ => false)))))
theorem and2' {a b : Bool} (h : (a && b) = true) : a = true ∧ b = true := Bool.and_eq_true_iff.mp h
theorem getD_ok {K : PySem.W.Frag} {d : He.DefD} (e : fnG K d.at_ = d.val) (c : okG K d = true) :
    (∃ fd, FunD K d.name d.qual d.params d.body d.scope (d.dvs K) (d.kws K) (getA K d.at_) fd) ∧ PropOf K (He.ga K d.at_.1) d.name (He.fAd K d.at_) (getA K d.at_) := by
  obtain ⟨kp, c⟩ := and2' c
  obtain ⟨c2, c⟩ := and2' c
  obtain ⟨p1, c⟩ := and2' c
  obtain ⟨p2, c⟩ := and2' c
  obtain ⟨p3, p4⟩ := and2' c
  refine ⟨?_, of_decide_eq_true p1, of_decide_eq_true p2, of_decide_eq_true p3, ?_⟩
  · unfold fnG at e
    cases q : K.lookup (getA K d.at_) with
    | none =>
      rw [q] at c2
      cases c2
    | some o =>
      obtain ⟨oc, od, dt, osl⟩ := o
      rw [q] at c2 e
      cases dt with
      | func fd =>
        obtain ⟨n1, n2, n3, n4, n5, n6, n7, n8, n9, n10, n11, n12, n13, n14, n15⟩ := fd
        have e2 : (some (n1, n2, n3, n4, n5, n6, n7, n15) : He.FnW) = some (d.name, d.qual, d.params, .stmts d.body, d.scope, mainGlobals, [], builtinsNs) := e
        simp only [Option.some.injEq, Prod.mk.injEq] at e2
        obtain ⟨h1, h2, h3, h4, h5, h6, h7, h8⟩ := e2
        subst h1 h2 h3 h4 h5 h6 h7 h8
        obtain ⟨k1, k2⟩ := and2' (show (PySem.W.codeIn K n13 d.qual && (He.dflB K n8 (d.dvs K) && He.kwdB K n9 (d.kws K))) = true from c2)
        obtain ⟨k3, k4⟩ := and2' k2
        exact ⟨_, ⟨oc, od, n8, n9, n10, n11, n12, n13, n14, osl, rfl, q, k1, He.dflB_ok k3, He.kwdB_ok k4⟩, kp⟩
      | _ => cases c2
  · cases q : PySem.W.recIn K (He.fAd K d.at_) "property" with
    | none =>
      rw [q] at p4
      cases p4
    | some l =>
      rw [q] at p4
      cases l with
      | nil => cases p4
      | cons v r =>
        cases v with
        | ref g =>
          refine ⟨r, ?_⟩
          have eg : getA K d.at_ = g := by
            unfold getA
            rw [q]
          rw [eg]
        | _ => cases p4
def SaysG (gs : List He.DefD) (K : PySem.W.Frag) : Prop := (gs.all (okG K), gs.map fun d => fnG K d.at_) = (true, gs.map He.DefD.val)
theorem SaysG.get {gs : List He.DefD} {K : PySem.W.Frag} (c : SaysG gs K) (i : Nat) {d : He.DefD} (h : gs[i]? = some d := by rfl) :
    (∃ fd, FunD K d.name d.qual d.params d.body d.scope (d.dvs K) (d.kws K) (getA K d.at_) fd) ∧ PropOf K (He.ga K d.at_.1) d.name (He.fAd K d.at_) (getA K d.at_) := by
  have c1 : gs.all (okG K) = true := congrArg (fun z : Bool × List He.FnW => z.1) c
  have c2 : gs.map (fun d => fnG K d.at_) = gs.map He.DefD.val := congrArg (fun z : Bool × List He.FnW => z.2) c
  have e2 : (gs.map fun d => fnG K d.at_)[i]? = (gs.map He.DefD.val)[i]? := by rw [c2]
  rw [List.getElem?_map, List.getElem?_map, h] at e2
  exact getD_ok (Option.some.inj e2) (List.all_eq_true.mp c1 d (List.mem_of_getElem? h))
/-! ### what the names of the module reach, each address once -/
def refsA (g : Addr → Option Obj) (a : Addr) : List Addr := match g a with
  | some o => He.refsD o
  | none => []
/-- seen: a bit for each address -/
noncomputable def ddK (l : List Addr) : Nat → List Addr → (Nat → List Addr → List Addr) → List Addr :=
  List.rec (motive := fun _ => Nat → List Addr → (Nat → List Addr → List Addr) → List Addr) (fun seen acc k => k seen acc)
    (fun a _ ih seen acc k => match Nat.land (Nat.shiftRight seen a) 1 with
      | 0 => HandSHeadRun.frNat (Nat.lor seen (Nat.shiftLeft 1 a)) fun s => HandSHeadRun.frNat a fun b => ih s (b :: acc) k
      | _ => ih seen acc k) l
noncomputable def grow (g : Addr → Option Obj) (n : Nat) : Nat → List Addr → List Addr :=
  Nat.rec (motive := fun _ => Nat → List Addr → List Addr) (fun _ _ => []) (fun _ ih seen fr => ddK (fr.flatMap (refsA g)) seen [] fun s new => new ++ ih s new) n
noncomputable def needs (g : Addr → Option Obj) (n : Nat) : List Addr := mainGlobals :: grow g n (Nat.lor (Nat.shiftLeft 1 mainGlobals) (Nat.shiftLeft 1 builtinsNs)) [mainGlobals]
/-- all that is looked at behind the top -/
def obK (fa : List He.Fa) (fn gs : List He.DefD) (ex : PySem.W.Frag → Bool) (K : PySem.W.Frag) : Bool × (List He.FnW × List He.FnW) :=
  ((((fa.all fun f => f.ok K) && fn.all fun d => d.ok K) && (ex K && gs.all (okG K))), (fn.map fun d => He.fnW K d.at_, gs.map fun d => fnG K d.at_))
def valK (fn gs : List He.DefD) : Bool × (List He.FnW × List He.FnW) := (true, (fn.map He.DefD.val, gs.map He.DefD.val))
structure SaysK (fa : List He.Fa) (fn gs : List He.DefD) (ex : PySem.W.Frag → Bool) (K : PySem.W.Frag) : Prop where
  d : He.SaysD fa fn K
  x : ex K = true
  g : SaysG gs K
theorem saysK_of {fa : List He.Fa} {fn gs : List He.DefD} {ex : PySem.W.Frag → Bool} {K : PySem.W.Frag} (e : obK fa fn gs ex K = valK fn gs) : SaysK fa fn gs ex K := by
  have e1 : (((fa.all fun f => f.ok K) && fn.all fun d => d.ok K) && (ex K && gs.all (okG K))) = true := congrArg (fun z : Bool × (List He.FnW × List He.FnW) => z.1) e
  have e2 : fn.map (fun d => He.fnW K d.at_) = fn.map He.DefD.val := congrArg (fun z : Bool × (List He.FnW × List He.FnW) => z.2.1) e
  have e3 : gs.map (fun d => fnG K d.at_) = gs.map He.DefD.val := congrArg (fun z : Bool × (List He.FnW × List He.FnW) => z.2.2) e
  obtain ⟨h1, h2⟩ := and2' e1
  obtain ⟨h3, h4⟩ := and2' h2
  refine ⟨?_, h3, ?_⟩
  · show (((fa.all fun f => f.ok K) && fn.all fun d => d.ok K), fn.map fun d => He.fnW K d.at_) = (true, fn.map He.DefD.val)
    rw [h1, e2]
  · show (gs.all (okG K), gs.map fun d => fnG K d.at_) = (true, gs.map He.DefD.val)
    rw [h4, e3]
noncomputable def obQ (n : Nat) (fa : List He.Fa) (fn gs : List He.DefD) (ex : PySem.W.Frag → Bool) (g : Addr → Option Obj) : Bool × (List He.FnW × List He.FnW) := obK fa fn gs ex (He.frG g (needs g n))
noncomputable def hookQ (n : Nat) (fa : List He.Fa) (fn gs : List He.DefD) (ex : PySem.W.Frag → Bool) : PySem.W.Hook where
  α := Bool × (List He.FnW × List He.FnW)
  obs := fun s => obQ n fa fn gs ex s.heap.get?
  val := fun _ => valK fn gs
  says := fun _ h => ∃ K : PySem.W.Frag, K.In h ∧ SaysK fa fn gs ex K
  of := fun _ _ e => ⟨_, He.frG_in, saysK_of e⟩
  keeps := fun _ _ _ ⟨K, hK, c⟩ k => ⟨K, PySem.W.Frag.In.keeps hK k, c⟩
theorem obQ_eq {n : Nat} {fa : List He.Fa} {fn gs : List He.DefD} {ex : PySem.W.Frag → Bool} {g : Addr → Option Obj} {s : Shared} (h : ∀ a, g a = s.heap.get? a) : obQ n fa fn gs ex g = (hookQ n fa fn gs ex).obs s := by
  have e : g = s.heap.get? := funext h
  rw [e] <;> rfl
/-! ### facts by one Bool -/
def insB (K : PySem.W.Frag) (C : Addr) : Bool :=
  decide (PySem.W.findIn K (.ref C) "__class__" = some (some (.builtin "object.__class__"))) && (decide (PySem.W.specialIn K (.builtin "object.__class__") "__get__" = some (some (.builtin "getset_descriptor.__get__"))) &&
    (decide (PySem.W.takesIn K (.builtin "object.__class__") = some true) && (decide (PySem.W.mroIn K C (.type "object") = some true) && decide (PySem.W.kitOne K (.ref C) (.ref C) = some true))))
def callB (K : PySem.W.Frag) (C : Str) : Bool := decide (PySem.W.findIn K (.ref (He.ga K C)) "__call__" = some (some (.ref (He.ma K (He.ga K C) "__call__")))) && (PySem.W.isFn K (.ref (He.ma K (He.ga K C) "__call__")) && PySem.W.fnIn K (He.ma K (He.ga K C) "__call__"))
def ex (K : PySem.W.Frag) : Bool :=
  ((["Change", "Notes", "Pattern", "Way"] : List Str).all fun C => insB K (He.ga K C)) && (((["Change", "Way"] : List Str).all fun C => callB K C) && (((["Change", "Pattern"] : List Str).all fun C => PySem.W.selfFirst K (He.ga K C)) &&
    (PySem.W.noSeq K (He.ga K "Notes") && PySem.W.fnIn K (He.ma K (He.ga K "Notes") "__getitem__"))))
structure TX (K : PySem.W.Frag) (mg : Str → Option Value) : Prop where
  d : He.SaysD fa fn K
  x : ex K = true
  p : SaysG gs K
  c_MOST_RUNS : ∃ t, mg "MOST_RUNS" = some (.int 300 t)
  c_DEEPEST : ∃ t, mg "DEEPEST" = some (.int 5 t)
  c_LETTERS : ∃ t, mg "LETTERS" = some (.str "abcdefghijklmnopqrstuvwxyz" t)
  glo : ∀ {y : Str}, (He.Fa.glo y).ok K = true → mg y = some (.ref (He.ga K y))
  fre : ∀ {y : Str}, (He.Fa.free y).ok K = true → mg y = none
section
variable {K : PySem.W.Frag} {mg : Str → Option Value}
theorem TX.g_name_place (T : TX K mg) : mg "name_place" = some (.ref (He.ga K "name_place")) := T.glo (T.d.fact 0 rfl)
theorem TX.g_order_key (T : TX K mg) : mg "order_key" = some (.ref (He.ga K "order_key")) := T.glo (T.d.fact 1 rfl)
theorem TX.g_changed (T : TX K mg) : mg "changed" = some (.ref (He.ga K "changed")) := T.glo (T.d.fact 2 rfl)
theorem TX.g_without_zeros (T : TX K mg) : mg "without_zeros" = some (.ref (He.ga K "without_zeros")) := T.glo (T.d.fact 3 rfl)
theorem TX.g_joined (T : TX K mg) : mg "joined" = some (.ref (He.ga K "joined")) := T.glo (T.d.fact 4 rfl)
theorem TX.g_first_around (T : TX K mg) : mg "first_around" = some (.ref (He.ga K "first_around")) := T.glo (T.d.fact 5 rfl)
theorem TX.g_least_outside (T : TX K mg) : mg "least_outside" = some (.ref (He.ga K "least_outside")) := T.glo (T.d.fact 6 rfl)
theorem TX.g_is_name (T : TX K mg) : mg "is_name" = some (.ref (He.ga K "is_name")) := T.glo (T.d.fact 7 rfl)
theorem TX.g_is_integer (T : TX K mg) : mg "is_integer" = some (.ref (He.ga K "is_integer")) := T.glo (T.d.fact 8 rfl)
theorem TX.g_is_skip (T : TX K mg) : mg "is_skip" = some (.ref (He.ga K "is_skip")) := T.glo (T.d.fact 9 rfl)
theorem TX.g_is_step (T : TX K mg) : mg "is_step" = some (.ref (He.ga K "is_step")) := T.glo (T.d.fact 10 rfl)
theorem TX.g_are_steps (T : TX K mg) : mg "are_steps" = some (.ref (He.ga K "are_steps")) := T.glo (T.d.fact 11 rfl)
theorem TX.g_is_scene (T : TX K mg) : mg "is_scene" = some (.ref (He.ga K "is_scene")) := T.glo (T.d.fact 12 rfl)
theorem TX.g_inner_lists (T : TX K mg) : mg "inner_lists" = some (.ref (He.ga K "inner_lists")) := T.glo (T.d.fact 13 rfl)
theorem TX.g_played_names (T : TX K mg) : mg "played_names" = some (.ref (He.ga K "played_names")) := T.glo (T.d.fact 14 rfl)
theorem TX.g_item_name (T : TX K mg) : mg "item_name" = some (.ref (He.ga K "item_name")) := T.glo (T.d.fact 15 rfl)
theorem TX.g_first_fault (T : TX K mg) : mg "first_fault" = some (.ref (He.ga K "first_fault")) := T.glo (T.d.fact 16 rfl)
theorem TX.g_kept_steps (T : TX K mg) : mg "kept_steps" = some (.ref (He.ga K "kept_steps")) := T.glo (T.d.fact 17 rfl)
theorem TX.g_kept_skip (T : TX K mg) : mg "kept_skip" = some (.ref (He.ga K "kept_skip")) := T.glo (T.d.fact 18 rfl)
theorem TX.g_kept_scene (T : TX K mg) : mg "kept_scene" = some (.ref (He.ga K "kept_scene")) := T.glo (T.d.fact 19 rfl)
theorem TX.g_find_scene (T : TX K mg) : mg "find_scene" = some (.ref (He.ga K "find_scene")) := T.glo (T.d.fact 20 rfl)
theorem TX.g_ahead (T : TX K mg) : mg "ahead" = some (.ref (He.ga K "ahead")) := T.glo (T.d.fact 21 rfl)
theorem TX.g_step_on (T : TX K mg) : mg "step_on" = some (.ref (He.ga K "step_on")) := T.glo (T.d.fact 22 rfl)
theorem TX.g_advance (T : TX K mg) : mg "advance" = some (.ref (He.ga K "advance")) := T.glo (T.d.fact 23 rfl)
theorem TX.g_first_not_less (T : TX K mg) : mg "first_not_less" = some (.ref (He.ga K "first_not_less")) := T.glo (T.d.fact 24 rfl)
theorem TX.g_after_scene (T : TX K mg) : mg "after_scene" = some (.ref (He.ga K "after_scene")) := T.glo (T.d.fact 25 rfl)
theorem TX.g_ways (T : TX K mg) : mg "ways" = some (.ref (He.ga K "ways")) := T.glo (T.d.fact 26 rfl)
theorem TX.g_outcomes (T : TX K mg) : mg "outcomes" = some (.ref (He.ga K "outcomes")) := T.glo (T.d.fact 27 rfl)
theorem TX.g_copied (T : TX K mg) : mg "copied" = some (.ref (He.ga K "copied")) := T.glo (T.d.fact 28 rfl)
theorem TX.g_resumed (T : TX K mg) : mg "resumed" = some (.ref (He.ga K "resumed")) := T.glo (T.d.fact 29 rfl)
theorem TX.g_Lcell (T : TX K mg) : mg "_law_cell" = some (.ref (He.ga K "_law_cell")) := T.glo (T.d.fact 30 rfl)
theorem TX.g_Lsource (T : TX K mg) : mg "_law_source" = some (.ref (He.ga K "_law_source")) := T.glo (T.d.fact 31 rfl)
theorem TX.g_Ldraw (T : TX K mg) : mg "_law_draw" = some (.ref (He.ga K "_law_draw")) := T.glo (T.d.fact 32 rfl)
theorem TX.g_Lname (T : TX K mg) : mg "_law_name" = some (.ref (He.ga K "_law_name")) := T.glo (T.d.fact 33 rfl)
theorem TX.g_Lnames (T : TX K mg) : mg "_law_names" = some (.ref (He.ga K "_law_names")) := T.glo (T.d.fact 34 rfl)
theorem TX.g_Lpairs (T : TX K mg) : mg "_law_pairs" = some (.ref (He.ga K "_law_pairs")) := T.glo (T.d.fact 35 rfl)
theorem TX.g_Lare_notes (T : TX K mg) : mg "_law_are_notes" = some (.ref (He.ga K "_law_are_notes")) := T.glo (T.d.fact 36 rfl)
theorem TX.g_Lnumber (T : TX K mg) : mg "_law_number" = some (.ref (He.ga K "_law_number")) := T.glo (T.d.fact 37 rfl)
theorem TX.g_Lplain (T : TX K mg) : mg "_law_plain" = some (.ref (He.ga K "_law_plain")) := T.glo (T.d.fact 38 rfl)
theorem TX.g_Lscene (T : TX K mg) : mg "_law_scene" = some (.ref (He.ga K "_law_scene")) := T.glo (T.d.fact 39 rfl)
theorem TX.g_Ldone (T : TX K mg) : mg "_law_done" = some (.ref (He.ga K "_law_done")) := T.glo (T.d.fact 40 rfl)
theorem TX.g_Lgood (T : TX K mg) : mg "_law_good" = some (.ref (He.ga K "_law_good")) := T.glo (T.d.fact 41 rfl)
theorem TX.g_law (T : TX K mg) : mg "law" = some (.ref (He.ga K "law")) := T.glo (T.d.fact 42 rfl)
theorem TX.g_Change (T : TX K mg) : mg "Change" = some (.ref (He.ga K "Change")) := T.glo (T.d.fact 43 rfl)
theorem TX.g_Notes (T : TX K mg) : mg "Notes" = some (.ref (He.ga K "Notes")) := T.glo (T.d.fact 44 rfl)
theorem TX.g_Pattern (T : TX K mg) : mg "Pattern" = some (.ref (He.ga K "Pattern")) := T.glo (T.d.fact 45 rfl)
theorem TX.g_Story (T : TX K mg) : mg "Story" = some (.ref (He.ga K "Story")) := T.glo (T.d.fact 46 rfl)
theorem TX.g_Way (T : TX K mg) : mg "Way" = some (.ref (He.ga K "Way")) := T.glo (T.d.fact 47 rfl)
theorem TX.g_Play (T : TX K mg) : mg "Play" = some (.ref (He.ga K "Play")) := T.glo (T.d.fact 48 rfl)
theorem TX.g_PlayOver (T : TX K mg) : mg "PlayOver" = some (.ref (He.ga K "PlayOver")) := T.glo (T.d.fact 49 rfl)
theorem TX.g_InvalidAnswer (T : TX K mg) : mg "InvalidAnswer" = some (.ref (He.ga K "InvalidAnswer")) := T.glo (T.d.fact 50 rfl)
theorem TX.free_len (T : TX K mg) : mg "len" = none := T.fre (T.d.fact 51 rfl)
theorem TX.free_ord (T : TX K mg) : mg "ord" = none := T.fre (T.d.fact 52 rfl)
theorem TX.free_abs (T : TX K mg) : mg "abs" = none := T.fre (T.d.fact 53 rfl)
theorem TX.free_sum (T : TX K mg) : mg "sum" = none := T.fre (T.d.fact 54 rfl)
theorem TX.free_sorted (T : TX K mg) : mg "sorted" = none := T.fre (T.d.fact 55 rfl)
theorem TX.free_tuple (T : TX K mg) : mg "tuple" = none := T.fre (T.d.fact 56 rfl)
theorem TX.free_int (T : TX K mg) : mg "int" = none := T.fre (T.d.fact 57 rfl)
theorem TX.free_bool (T : TX K mg) : mg "bool" = none := T.fre (T.d.fact 58 rfl)
theorem TX.free_range (T : TX K mg) : mg "range" = none := T.fre (T.d.fact 59 rfl)
theorem TX.free_isinstance (T : TX K mg) : mg "isinstance" = none := T.fre (T.d.fact 60 rfl)
theorem TX.free_list (T : TX K mg) : mg "list" = none := T.fre (T.d.fact 61 rfl)
theorem TX.free_dict (T : TX K mg) : mg "dict" = none := T.fre (T.d.fact 62 rfl)
theorem TX.free_str (T : TX K mg) : mg "str" = none := T.fre (T.d.fact 63 rfl)
theorem TX.free_all (T : TX K mg) : mg "all" = none := T.fre (T.d.fact 64 rfl)
theorem TX.free_divmod (T : TX K mg) : mg "divmod" = none := T.fre (T.d.fact 65 rfl)
theorem TX.free_enumerate (T : TX K mg) : mg "enumerate" = none := T.fre (T.d.fact 66 rfl)
end
section
variable {K : PySem.W.Frag} {mg : Str → Option Value}
structure OkF (P : Program) (w : World) (K : PySem.W.Frag) (mg : Str → Option Value) (base : Heap) (CX : CXT) (k : Nat) (p : Str × Option Str) (fd : FuncData) (ps : List Str) (sp : Sp) : Prop where
  fn : FnOk P w K mg base CX k (He.fAd K p) fd ps sp
  b : Binds K fd ps []
  k : PySem.W.keepIn K (.ref (He.fAd K p)) = true
def Ok (P : Program) (w : World) (K : PySem.W.Frag) (mg : Str → Option Value) (base : Heap) (CX : CXT) (k : Nat) (p : Str × Option Str) (ps : List Str) (sp : Sp) : Prop := ∃ fd, OkF P w K mg base CX k p fd ps sp
/-- a def with defaults dvs behind -/
structure OkD (P : Program) (w : World) (K : PySem.W.Frag) (mg : Str → Option Value) (base : Heap) (CX : CXT) (k : Nat) (p : Str × Option Str) (fd : FuncData) (ps : List Str) (sp : Sp) (dvs : List V) : Prop where
  fn : FnOk P w K mg base CX k (He.fAd K p) fd ps sp
  d : ∃ ds, Vals dvs ds ∧ Binds K fd ps ds
  k : PySem.W.keepIn K (.ref (He.fAd K p)) = true
/-- a getter -/
structure OkG (P : Program) (w : World) (K : PySem.W.Frag) (mg : Str → Option Value) (base : Heap) (k : Nat) (p : Str × Option Str) (fd : FuncData) (ps : List Str) (sp : Sp) : Prop where
  fn : FnOk P w K mg base CX0 k (getA K p) fd ps sp
  b : Binds K fd ps []
end
section
variable {X : Cx} {CX : CXT} {k : Nat} {f x : Str} {fd : FuncData} {ps : List Str} {sp : Sp} {E : XK} {p pos : Pos} {e : Expr} {es : List Expr} {ta : TA}
theorem pcall (O : OkF X.prog X.w X.K X.mg X.base CX k (x, none) fd ps sp) (hr : Room k X.A) (hg : Gl X x) (hm : X.mg x = some (.ref (He.ga X.K x))) (hx : Passes CX X E) (ha : PA X (e :: es) ta)
    (hdb : (x == ("__debug__" : Str)) = false := by decide) (he : starEach (e :: es) X.env = (false, eval e X.env) :: starEach es X.env := by rfl) (hpl : (backTo pos (starEach es X.env)).any (·.1) = false := by rfl) :
    PE X (.Call (.Name x p) (e :: es) [] pos) (tCall sp [] E ta) := pe_call O.fn hr hg hm O.k O.b .nil hx ha hdb he hpl
theorem pmake (M : Mk X.K (He.ga X.K x) (He.ma X.K (He.ga X.K x) "__init__")) (O : OkF X.prog X.w X.K X.mg X.base CX k (x, some "__init__") fd ps sp) (hr : Room (k + 1) X.A) (hg : Gl X x) (hm : X.mg x = some (.ref (He.ga X.K x))) (hx : Passes CX X E) (ha : PA X (e :: es) ta)
    (hdb : (x == ("__debug__" : Str)) = false := by decide) (he : starEach (e :: es) X.env = (false, eval e X.env) :: starEach es X.env := by rfl) (hpl : (backTo pos (starEach es X.env)).any (·.1) = false := by rfl) :
    PE X (.Call (.Name x p) (e :: es) [] pos) (tMake (He.ga X.K x) sp [] E ta) := pe_make M O.fn hr hg hm O.b .nil hx ha hdb he hpl
end
/-! ### rules whose reading names K -/
section
variable {X : Cx} {K : PySem.W.Frag}
theorem pe_fldK {e : Expr} {ta : TE} {f : Str} {pos : Pos} (he : PE X e ta) (hb : attributeBase e f X.env (eval e X.env) = eval e X.env := by rfl) (hK : X.K = K := by rfl) : PE X (.Attribute e f pos) (tFld K ta f) := by
  subst hK
  exact pe_fld he hb
theorem pg_tupK {es : List Expr} {k : Nat} {t : TGs} {n : Nat} {pos : Pos} (h : PGs X es t) (hc : X.calm = true := by rfl)
    (hn : (assignEach es X.env).length = n := by rfl) (hst : (assignEach es X.env).findIdx? (·.1) = none := by rfl) (hK : X.K = K := by rfl) : PG X (.Tuple es k pos) (gTup K n t) := by
  subst hK
  exact pg_tup hc h hn hst
theorem ix_listK (hK : X.K = K := by rfl) : IxR X (rIxL K) := by
  subst hK
  exact ix_list
theorem ix_tupK (hK : X.K = K := by rfl) : IxR X (rIxT K) := by
  subst hK
  exact ix_tup
theorem ix_seqK (hK : X.K = K := by rfl) : IxR X (rIx K) := by
  subst hK
  exact ix_seq
theorem isiK (hK : X.K = K := by rfl) : CallR X (.builtin "isinstance") (rIsi K) := by
  subst hK
  exact call_isi
theorem eqDK (hu : X.A.units + 64 < cLine) (hK : X.K = K := by rfl) : OpR X (compareOp .Eq) (rEqD K) := by
  subst hK
  exact op_eqD hu
theorem neDK (hu : X.A.units + 64 < cLine) (hK : X.K = K := by rfl) : OpR X (compareOp .NotEq) (rNeD K) := by
  subst hK
  exact op_neD hu
theorem inSK (hK : X.K = K := by rfl) : OpR X (compareOp .In) (rIn K false) := by
  subst hK
  exact op_in_seq
theorem notInSK (hK : X.K = K := by rfl) : OpR X (compareOp .NotIn) (rIn K true) := by
  subst hK
  exact op_notIn_seq
end
/-! ### facts by number -/
section
variable {K : PySem.W.Frag} {mg : Str → Option Value}
theorem TX.c_Change (T : TX K mg) : Cls K (He.ga K "Change") := He.cls_ok (T.d.fact 67 rfl)
theorem TX.mk_Change (T : TX K mg) : Mk K (He.ga K "Change") (He.ma K (He.ga K "Change") "__init__") := He.mkr_ok (T.d.fact 68 rfl)
theorem TX.n_Change_listed (T : TX K mg) : NoAttr K (He.ga K "Change") "listed" := He.noat_ok (T.d.fact 69 rfl)
theorem TX.m_Change_rshift (T : TX K mg) : Meth K (He.ga K "Change") "__rshift__" (He.ma K (He.ga K "Change") "__rshift__") := He.meth_ok (T.d.fact 70 rfl)
theorem TX.m_Change_call (T : TX K mg) : Meth K (He.ga K "Change") "__call__" (He.ma K (He.ga K "Change") "__call__") := He.meth_ok (T.d.fact 71 rfl)
theorem TX.c_Notes (T : TX K mg) : Cls K (He.ga K "Notes") := He.cls_ok (T.d.fact 72 rfl)
theorem TX.mk_Notes (T : TX K mg) : Mk K (He.ga K "Notes") (He.ma K (He.ga K "Notes") "__init__") := He.mkr_ok (T.d.fact 73 rfl)
theorem TX.n_Notes_held (T : TX K mg) : NoAttr K (He.ga K "Notes") "held" := He.noat_ok (T.d.fact 74 rfl)
theorem TX.n_Notes_rank (T : TX K mg) : NoAttr K (He.ga K "Notes") "rank" := He.noat_ok (T.d.fact 75 rfl)
theorem TX.m_Notes_getitem (T : TX K mg) : Meth K (He.ga K "Notes") "__getitem__" (He.ma K (He.ga K "Notes") "__getitem__") := He.meth_ok (T.d.fact 76 rfl)
theorem TX.m_Notes_setitem (T : TX K mg) : Meth K (He.ga K "Notes") "__setitem__" (He.ma K (He.ga K "Notes") "__setitem__") := He.meth_ok (T.d.fact 77 rfl)
theorem TX.m_Notes_pairs (T : TX K mg) : Meth K (He.ga K "Notes") "pairs" (He.ma K (He.ga K "Notes") "pairs") := He.meth_ok (T.d.fact 78 rfl)
theorem TX.c_Pattern (T : TX K mg) : Cls K (He.ga K "Pattern") := He.cls_ok (T.d.fact 79 rfl)
theorem TX.mk_Pattern (T : TX K mg) : Mk K (He.ga K "Pattern") (He.ma K (He.ga K "Pattern") "__init__") := He.mkr_ok (T.d.fact 80 rfl)
theorem TX.n_Pattern_bounds (T : TX K mg) : NoAttr K (He.ga K "Pattern") "bounds" := He.noat_ok (T.d.fact 81 rfl)
theorem TX.n_Pattern_listed (T : TX K mg) : NoAttr K (He.ga K "Pattern") "listed" := He.noat_ok (T.d.fact 82 rfl)
theorem TX.m_Pattern_contains (T : TX K mg) : Meth K (He.ga K "Pattern") "__contains__" (He.ma K (He.ga K "Pattern") "__contains__") := He.meth_ok (T.d.fact 83 rfl)
theorem TX.m_Pattern_sub (T : TX K mg) : Meth K (He.ga K "Pattern") "__sub__" (He.ma K (He.ga K "Pattern") "__sub__") := He.meth_ok (T.d.fact 84 rfl)
theorem TX.m_Pattern_least (T : TX K mg) : Meth K (He.ga K "Pattern") "least" (He.ma K (He.ga K "Pattern") "least") := He.meth_ok (T.d.fact 85 rfl)
theorem TX.c_Story (T : TX K mg) : Cls K (He.ga K "Story") := He.cls_ok (T.d.fact 86 rfl)
theorem TX.mk_Story (T : TX K mg) : Mk K (He.ga K "Story") (He.ma K (He.ga K "Story") "__init__") := He.mkr_ok (T.d.fact 87 rfl)
theorem TX.n_Story_kept (T : TX K mg) : NoAttr K (He.ga K "Story") "kept" := He.noat_ok (T.d.fact 88 rfl)
theorem TX.m_Story_names (T : TX K mg) : Meth K (He.ga K "Story") "names" (He.ma K (He.ga K "Story") "names") := He.meth_ok (T.d.fact 89 rfl)
theorem TX.c_Way (T : TX K mg) : Cls K (He.ga K "Way") := He.cls_ok (T.d.fact 90 rfl)
theorem TX.mk_Way (T : TX K mg) : Mk K (He.ga K "Way") (He.ma K (He.ga K "Way") "__init__") := He.mkr_ok (T.d.fact 91 rfl)
theorem TX.n_Way_box (T : TX K mg) : NoAttr K (He.ga K "Way") "box" := He.noat_ok (T.d.fact 92 rfl)
theorem TX.n_Way_turn (T : TX K mg) : NoAttr K (He.ga K "Way") "turn" := He.noat_ok (T.d.fact 93 rfl)
theorem TX.n_Way_given (T : TX K mg) : NoAttr K (He.ga K "Way") "given" := He.noat_ok (T.d.fact 94 rfl)
theorem TX.n_Way_words (T : TX K mg) : NoAttr K (He.ga K "Way") "words" := He.noat_ok (T.d.fact 95 rfl)
theorem TX.n_Way_close (T : TX K mg) : NoAttr K (He.ga K "Way") "close" := He.noat_ok (T.d.fact 96 rfl)
theorem TX.m_Way_call (T : TX K mg) : Meth K (He.ga K "Way") "__call__" (He.ma K (He.ga K "Way") "__call__") := He.meth_ok (T.d.fact 97 rfl)
theorem TX.c_Play (T : TX K mg) : Cls K (He.ga K "Play") := He.cls_ok (T.d.fact 98 rfl)
theorem TX.mk_Play (T : TX K mg) : Mk K (He.ga K "Play") (He.ma K (He.ga K "Play") "__init__") := He.mkr_ok (T.d.fact 99 rfl)
theorem TX.n_Play_story (T : TX K mg) : NoAttr K (He.ga K "Play") "story" := He.noat_ok (T.d.fact 100 rfl)
theorem TX.n_Play_first (T : TX K mg) : NoAttr K (He.ga K "Play") "first" := He.noat_ok (T.d.fact 101 rfl)
theorem TX.n_Play_scene (T : TX K mg) : NoAttr K (He.ga K "Play") "scene" := He.noat_ok (T.d.fact 102 rfl)
theorem TX.n_Play_current (T : TX K mg) : NoAttr K (He.ga K "Play") "current" := He.noat_ok (T.d.fact 103 rfl)
theorem TX.n_Play_words (T : TX K mg) : NoAttr K (He.ga K "Play") "words" := He.noat_ok (T.d.fact 104 rfl)
theorem TX.n_Play_given (T : TX K mg) : NoAttr K (He.ga K "Play") "given" := He.noat_ok (T.d.fact 105 rfl)
theorem TX.n_Play_options (T : TX K mg) : NoAttr K (He.ga K "Play") "options" := He.noat_ok (T.d.fact 106 rfl)
theorem TX.n_Play_asked (T : TX K mg) : NoAttr K (He.ga K "Play") "asked" := He.noat_ok (T.d.fact 107 rfl)
theorem TX.n_Play_left (T : TX K mg) : NoAttr K (He.ga K "Play") "left" := He.noat_ok (T.d.fact 108 rfl)
theorem TX.n_Play_standing (T : TX K mg) : NoAttr K (He.ga K "Play") "standing" := He.noat_ok (T.d.fact 109 rfl)
theorem TX.m_Play_restart (T : TX K mg) : Meth K (He.ga K "Play") "restart" (He.ma K (He.ga K "Play") "restart") := He.meth_ok (T.d.fact 110 rfl)
theorem TX.m_Play_advance (T : TX K mg) : Meth K (He.ga K "Play") "advance" (He.ma K (He.ga K "Play") "advance") := He.meth_ok (T.d.fact 111 rfl)
theorem TX.m_Play_do (T : TX K mg) : Meth K (He.ga K "Play") "do" (He.ma K (He.ga K "Play") "do") := He.meth_ok (T.d.fact 112 rfl)
theorem TX.m_Play_enter (T : TX K mg) : Meth K (He.ga K "Play") "enter" (He.ma K (He.ga K "Play") "enter") := He.meth_ok (T.d.fact 113 rfl)
theorem TX.m_Play_answer (T : TX K mg) : Meth K (He.ga K "Play") "answer" (He.ma K (He.ga K "Play") "answer") := He.meth_ok (T.d.fact 114 rfl)
theorem TX.m_Play_len (T : TX K mg) : Meth K (He.ga K "Play") "__len__" (He.ma K (He.ga K "Play") "__len__") := He.meth_ok (T.d.fact 115 rfl)
theorem TX.p_Way_pattern (T : TX K mg) : PropOf K (He.ga K "Way") "pattern" (He.fAd K a_Way_pattern) (getA K a_Way_pattern) := (T.p.get 0 (d := d_Way_pattern) rfl).2
theorem TX.p_Way_answers (T : TX K mg) : PropOf K (He.ga K "Way") "answers" (He.fAd K a_Way_answers) (getA K a_Way_answers) := (T.p.get 1 (d := d_Way_answers) rfl).2
theorem TX.p_Way_shown (T : TX K mg) : PropOf K (He.ga K "Way") "shown" (He.fAd K a_Way_shown) (getA K a_Way_shown) := (T.p.get 2 (d := d_Way_shown) rfl).2
theorem TX.p_Way_end (T : TX K mg) : PropOf K (He.ga K "Way") "end" (He.fAd K a_Way_end) (getA K a_Way_end) := (T.p.get 3 (d := d_Way_end) rfl).2
theorem TX.p_Play_state (T : TX K mg) : PropOf K (He.ga K "Play") "state" (He.fAd K a_Play_state) (getA K a_Play_state) := (T.p.get 4 (d := d_Play_state) rfl).2
theorem TX.p_Play_shown (T : TX K mg) : PropOf K (He.ga K "Play") "shown" (He.fAd K a_Play_shown) (getA K a_Play_shown) := (T.p.get 5 (d := d_Play_shown) rfl).2
theorem TX.p_Play_notes (T : TX K mg) : PropOf K (He.ga K "Play") "notes" (He.fAd K a_Play_notes) (getA K a_Play_notes) := (T.p.get 6 (d := d_Play_notes) rfl).2
theorem TX.ins (T : TX K mg) {C : Str} (h : C ∈ (["Change", "Notes", "Pattern", "Way"] : List Str)) : insB K (He.ga K C) = true := List.all_eq_true.mp (and2' T.x).1 C h
theorem TX.call (T : TX K mg) {C : Str} (h : C ∈ (["Change", "Way"] : List Str)) : CallOw K (He.ga K C) (He.ma K (He.ga K C) "__call__") := by
  have q := List.all_eq_true.mp (and2' (and2' T.x).2).1 C h
  obtain ⟨q1, q⟩ := and2' q
  obtain ⟨q2, q3⟩ := and2' q
  exact ⟨of_decide_eq_true q1, q2, q3⟩
theorem TX.call_Change (T : TX K mg) : CallOw K (He.ga K "Change") (He.ma K (He.ga K "Change") "__call__") := T.call (by decide)
theorem TX.call_Way (T : TX K mg) : CallOw K (He.ga K "Way") (He.ma K (He.ga K "Way") "__call__") := T.call (by decide)
theorem TX.first (T : TX K mg) {C : Str} (h : C ∈ (["Change", "Pattern"] : List Str)) : PySem.W.selfFirst K (He.ga K C) = true := List.all_eq_true.mp (and2' (and2' (and2' T.x).2).2).1 C h
theorem TX.first_Change (T : TX K mg) : PySem.W.selfFirst K (He.ga K "Change") = true := T.first (by decide)
theorem TX.first_Pattern (T : TX K mg) : PySem.W.selfFirst K (He.ga K "Pattern") = true := T.first (by decide)
theorem TX.noseq_Notes (T : TX K mg) : PySem.W.noSeq K (He.ga K "Notes") = true := (and2' (and2' (and2' (and2' T.x).2).2).2).1
theorem TX.fi_Notes_getitem (T : TX K mg) : PySem.W.fnIn K (He.ma K (He.ga K "Notes") "__getitem__") = true := (and2' (and2' (and2' (and2' T.x).2).2).2).2
end
end Sk
set_option Elab.async false
set_option linter.all false
set_option maxRecDepth 100000
set_option maxHeartbeats 0
namespace Sk
open PySem PySem.W PySem.Calls PySem.Spec PyProof.Rows L2
abbrev R : PySem.W.OpenRow := PySem.W.OpenLaw.row PySem.Challenge.rw_sceneskips_k77_plays_of_many_steps
noncomputable abbrev hk : PySem.W.Hook := hookQ 6 fa fn gs ex
noncomputable def ob (s : PySem.W.SharedT) : Bool × (List He.FnW × List He.FnW) := obQ 6 fa fn gs ex (HandSHeadRun.getT s)
theorem ob_eq (s : PySem.W.SharedT) : ob s = hk.obs s.abs := obQ_eq (HandSHeadRun.getT_eq s)
/-- the names of the top that its view leaves out -/
def loose : List Str := (["_wall", "__name__", "SceneError", "NoCommon", "InvalidScene", "InvalidAnswer", "PlayOver", "TooMany", "NothingToUndo", "InvalidStory"] : List Str) ++
  (["InvalidBook", "name_place", "order_key", "changed", "without_zeros", "joined", "Change", "Notes", "within", "within_patterns"] : List Str) ++
  (["common", "sides", "nearest", "moved", "Pattern", "first_around", "insert_piece", "least_outside", "LETTERS", "DEEPEST"] : List Str) ++
  (["is_name", "is_integer", "is_interval", "is_pair", "is_limits", "is_parts", "is_skip", "are_options", "is_step", "are_steps"] : List Str) ++
  (["is_scene", "inner_lists", "played_names", "item_name", "first_fault", "kept_limits", "kept_steps", "kept_skip", "kept_scene", "Story"] : List Str) ++
  (["find_scene", "MOST_RUNS", "ahead", "parted", "after_if", "after_need", "step_on", "advance", "skipped", "Way"] : List Str) ++
  (["first_not_less", "after_choice", "after_scene", "ways", "outcomes", "within_plays", "holds", "skip_change", "copied", "Play"] : List Str) ++
  (["resumed", "_law_cell", "_law_source", "_law_draw", "_law_name", "_law_names", "_law_pairs", "_law_are_notes", "_law_apart", "_law_number"] : List Str) ++
  (["_law_plain", "_law_scene", "_law_done", "_law_good"] : List Str)
theorem run (w : World) : HandSHeadRun.RunEq R (view R.prog [92]) hk ob 100000 loose w := by
  intro os
  kernel_rfl
end Sk
set_option Elab.async false
set_option linter.all false
set_option maxRecDepth 100000
set_option maxHeartbeats 4000000
namespace Sk
open PySem L2
/-! ### heaps -/
/-- all that was tracked is as it was -/
abbrev Ex (H H' : Hp) : Prop := ∀ b o, H b = some o → H' b = some o
/-- all but those of ws -/
def Kp (ws : List Addr) (H H' : Hp) : Prop := ∀ b o, H b = some o → b ∉ ws → H' b = some o
theorem Ex.refl (H : Hp) : Ex H H := fun _ _ h => h
theorem Ex.trans {H H1 H2 : Hp} (a : Ex H H1) (b : Ex H1 H2) : Ex H H2 := fun x o h => b x o (a x o h)
theorem Ex.new {H H1 : Hp} {p : Addr} {o : HO} (e : Ex H H1) (h : H1 p = none) : Ex H (upd H1 p o) := fun a u q => by
  rw [upd_ne (ne_of_none (e a u q) h)]
  exact e a u q
theorem Ex.back {H H1 : Hp} {p : Addr} (e : Ex H H1) (h : H1 p = none) : H p = none := by
  cases q : H p with
  | none => rfl
  | some o =>
    rw [e p o q] at h
    cases h
/-- a new object, changed behind -/
theorem Ex.mut {H H1 : Hp} {p : Addr} {o : HO} (e : Ex H H1) (h : H p = none) : Ex H (upd H1 p o) := fun a u q => by
  rw [upd_ne (ne_of_none q h)]
  exact e a u q
theorem Ex.sql {K : PySem.W.Frag} {H H' : Hp} {a : Addr} {xs : List V} (e : Ex H H') (h : SqL K H a xs) : SqL K H' a xs := Same.seq e h
theorem Ex.sqt {K : PySem.W.Frag} {H H' : Hp} {a : Addr} {xs : List V} (e : Ex H H') (h : SqT K H a xs) : SqT K H' a xs := SqT.ext h e
theorem Kp.refl (ws : List Addr) (H : Hp) : Kp ws H H := fun _ _ h _ => h
theorem Ex.kp {H H1 : Hp} (e : Ex H H1) (ws : List Addr) : Kp ws H H1 := fun b o q _ => e b o q
theorem Kp.trans {ws : List Addr} {H H1 H2 : Hp} (x : Kp ws H H1) (y : Kp ws H1 H2) : Kp ws H H2 := fun b o h n => y b o (x b o h n) n
theorem Kp.ex {ws : List Addr} {H H1 H2 : Hp} (x : Kp ws H H1) (y : Ex H1 H2) : Kp ws H H2 := fun b o h n => y b o (x b o h n)
theorem Kp.upd {ws : List Addr} {H H1 : Hp} {a : Addr} {o : HO} (x : Kp ws H H1) (m : a ∈ ws) : Kp ws H (L2.upd H1 a o) := fun b u h n => by
  rw [upd_ne (fun z => n (by rw [z]; exact m))]
  exact x b u h n
theorem Kp.back {ws : List Addr} {H H1 : Hp} {p : Addr} (e : Kp ws H H1) (h : H1 p = none) (n : p ∉ ws) : H p = none := by
  cases q : H p with
  | none => rfl
  | some o =>
    rw [e p o q n] at h
    cases h
theorem Kp.new {ws : List Addr} {H H1 : Hp} {p : Addr} {o : HO} (e : Kp ws H H1) (h : H1 p = none) : Kp ws H (L2.upd H1 p o) := fun b u q n => by
  rw [upd_ne (ne_of_none (e b u q n) h)]
  exact e b u q n
theorem Kp.mut {ws : List Addr} {H H1 : Hp} {p : Addr} {o : HO} (e : Kp ws H H1) (h : H p = none) : Kp ws H (L2.upd H1 p o) := fun b u q n => by
  rw [upd_ne (ne_of_none q h)]
  exact e b u q n
/-- the change of what is new, or of what is among ws -/
theorem Kp.then_ {ws vs : List Addr} {H H1 H2 : Hp} (x : Kp ws H H1) (y : Kp vs H1 H2) (h : ∀ a ∈ vs, a ∈ ws ∨ H a = none) : Kp ws H H2 := fun b o q n => by
  refine y b o (x b o q n) fun m => ?_
  rcases h b m with z | z
  · exact n z
  · rw [z] at q
    cases q
theorem Kp.nil {H H1 : Hp} (x : Kp [] H H1) : Ex H H1 := fun b o q => x b o q List.not_mem_nil
theorem yes {A B : Prop} {i : Decidable (true = true)} (h : A) : @ite Prop (true = true) i A B := by
  rw [if_pos rfl]
  exact h
theorem nope {A B : Prop} {i : Decidable (false = true)} (h : B) : @ite Prop (false = true) i A B := by
  rw [if_neg Bool.false_ne_true]
  exact h
theorem small {n : Nat} (h : n ≤ 100000) : n ≤ sizeLine := Nat.le_trans h (by decide)
theorem small' {n : Nat} (h : n < 100000) : n < sizeLine := Nat.lt_of_lt_of_le h (by decide)
/-! ### items -/
theorem map_at {α : Type} {f : α → V} {l : List α} {i : Nat} {x : V} (h : (l.map f)[i]? = some x) : ∃ y, l[i]? = some y ∧ x = f y := by
  rw [List.getElem?_map] at h
  obtain ⟨y, h1, h2⟩ := Option.map_eq_some_iff.mp h
  exact ⟨y, h1, h2.symm⟩
theorem at_in {α : Type} {l : List α} {z : Int} (h0 : 0 ≤ z) (h1 : z < (l.length : Int)) : ∃ v, l[z.toNat]? = some v ∧ atI l z = some v := by
  have hl : z.toNat < l.length := by omega
  refine ⟨l[z.toNat], List.getElem?_eq_getElem hl, ?_⟩
  have q : atI l ((z.toNat : Nat) : Int) = some l[z.toNat] := atI_nat (List.getElem?_eq_getElem hl)
  have e : ((z.toNat : Nat) : Int) = z := by omega
  rw [e] at q
  exact q
/-- a nodup list within another one is no longer -/
theorem nodup_len {α : Type} [DecidableEq α] : ∀ (l S : List α), l.Nodup → (∀ x ∈ l, x ∈ S) → l.length ≤ S.length
  | [], S, _, _ => Nat.zero_le _
  | x :: l, S, h, q => by
    obtain ⟨h1, h2⟩ := List.nodup_cons.mp h
    have m := q x List.mem_cons_self
    have ih := nodup_len l (S.erase x) h2 fun y my => (List.mem_erase_of_ne (fun e => h1 (by rw [← e]; exact my))).mpr (q y (List.mem_cons_of_mem _ my))
    have e := List.length_erase_of_mem m
    have hp : 0 < S.length := List.length_pos_of_mem m
    rw [List.length_cons]
    omega
/-! ### sorted texts -/
open PyProof.Rows in
theorem sorted_pw : ∀ (l : List Str), PyProof.Rows.sortedS l = true → l.Pairwise fun a b => ¬ b.cps.toList < a.cps.toList
  | [], _ => .nil
  | [x], _ => List.pairwise_singleton _ _
  | x :: y :: r, h => by
    have h' : (!PySem.Spec.ltCps y.cps.toList x.cps.toList && risingS y r) = true := h
    obtain ⟨h1, h2⟩ := Bool.and_eq_true_iff.mp h'
    have ih := sorted_pw (y :: r) h2
    have h1' : ¬ y.cps.toList < x.cps.toList := by
      intro z
      rw [ltCps_eq, decide_eq_true z] at h1
      cases h1
    refine List.pairwise_cons.mpr ⟨fun z hz => ?_, ih⟩
    rcases List.mem_cons.mp hz with e | hz
    · rw [e]
      exact h1'
    · have h3 := (List.pairwise_cons.mp ih).1 z hz
      exact fun lt => (List.not_le.mpr lt) (List.le_trans (List.not_lt.mp h1') (List.not_lt.mp h3))
theorem str_ext {a b : Str} (h : a.cps.toList = b.cps.toList) : a = b := by
  obtain ⟨x⟩ := a
  obtain ⟨y⟩ := b
  have e : x = y := Array.toList_inj.mp h
  rw [e]
/-- two sorted lists of the same texts, none twice, are one -/
theorem sorted_uniq : ∀ (l m : List Str), l.Pairwise (fun a b => ¬ b.cps.toList < a.cps.toList) → m.Pairwise (fun a b => ¬ b.cps.toList < a.cps.toList) → l.Nodup → m.Nodup → (∀ x, x ∈ l ↔ x ∈ m) → l = m
  | [], [], _, _, _, _, _ => rfl
  | [], y :: m, _, _, _, _, h => absurd ((h y).mpr List.mem_cons_self) List.not_mem_nil
  | x :: l, [], _, _, _, _, h => absurd ((h x).mp List.mem_cons_self) List.not_mem_nil
  | x :: l, y :: m, hl, hm, nl, nm, h => by
    obtain ⟨l1, l2⟩ := List.pairwise_cons.mp hl
    obtain ⟨m1, m2⟩ := List.pairwise_cons.mp hm
    obtain ⟨n1, n2⟩ := List.nodup_cons.mp nl
    obtain ⟨k1, k2⟩ := List.nodup_cons.mp nm
    have e : x = y := by
      by_cases c : x = y
      · exact c
      · have a : x ∈ m := (List.mem_cons.mp ((h x).mp List.mem_cons_self)).resolve_left c
        have b : y ∈ l := (List.mem_cons.mp ((h y).mpr List.mem_cons_self)).resolve_left fun z => c z.symm
        have q1 := l1 y b
        have q2 := m1 x a
        exact str_ext (List.le_antisymm (List.not_lt.mp q1) (List.not_lt.mp q2))
    subst e
    rw [sorted_uniq l m l2 m2 n2 k2 fun z => ⟨fun hz => (List.mem_cons.mp ((h z).mp (List.mem_cons_of_mem _ hz))).resolve_left fun q => n1 (q ▸ hz), fun hz => (List.mem_cons.mp ((h z).mpr (List.mem_cons_of_mem _ hz))).resolve_left fun q => k1 (q ▸ hz)⟩]
end Sk
set_option Elab.async false
set_option linter.all false
set_option maxRecDepth 100000
set_option maxHeartbeats 4000000
namespace Sk
open PySem L2
theorem off1 {a b : Addr} (h : a ≠ b) : a ∉ [b] := fun m => h (List.mem_singleton.mp m)
theorem on1 (a : Addr) : a ∈ [a] := List.mem_singleton.mpr rfl
/-! ### dicts of texts and integers -/
def IntD (kvs : List (L2.Key × V)) : Prop := ∀ kv ∈ kvs, ∃ (s : Str) (i : Int), kv = (Sum.inr s, V.int i) ∧ s.length ≤ 1000
theorem IntD.nil : IntD [] := fun kv h => absurd h List.not_mem_nil
theorem IntD.at {kvs : List (L2.Key × V)} (h : IntD kvs) {i : Nat} {k : L2.Key} {v : V} (e : kvs[i]? = some (k, v)) : ∃ (s : Str) (j : Int), k = Sum.inr s ∧ v = V.int j ∧ s.length ≤ 1000 := by
  obtain ⟨s, j, q, hl⟩ := h (k, v) (List.mem_of_getElem? e)
  cases q
  exact ⟨s, j, rfl, rfl, hl⟩
theorem IntD.val {kvs : List (L2.Key × V)} (h : IntD kvs) {k : L2.Key} (m : k ∈ kvs.map (·.1)) : ∃ j : Int, valV kvs k = some (V.int j) := by
  obtain ⟨p, hp, e⟩ := List.mem_map.mp m
  cases q : valV kvs k with
  | none =>
    have z : (kvs.any fun kv => decide (kv.1 = k)) = true := List.any_eq_true.mpr ⟨p, hp, decide_eq_true e⟩
    rw [valV_any, q] at z
    cases z
  | some v =>
    unfold valV at q
    cases f : kvs.find? fun kv => decide (kv.1 = k) with
    | none =>
      rw [f] at q
      cases q
    | some kv =>
      rw [f] at q
      obtain ⟨s, j, e1, _⟩ := h kv (List.mem_of_find?_eq_some f)
      rw [e1] at q
      exact ⟨j, q.symm⟩
theorem IntD.keys : ∀ {kvs : List (L2.Key × V)}, IntD kvs → ∃ ks : List Str, kvs.map (·.1) = ks.map Sum.inr ∧ ks.length = kvs.length ∧ ∀ s ∈ ks, s.length ≤ 1000
  | [], _ => ⟨[], rfl, rfl, fun s m => absurd m List.not_mem_nil⟩
  | kv :: r, h => by
    obtain ⟨s, i, e, hl⟩ := h kv List.mem_cons_self
    obtain ⟨ks, e1, e2, e3⟩ := IntD.keys (kvs := r) fun q m => h q (List.mem_cons_of_mem _ m)
    refine ⟨s :: ks, ?_, congrArg Nat.succ e2, ?_⟩
    · rw [List.map_cons, List.map_cons, e1, e]
    · intro z m
      rcases List.mem_cons.mp m with m | m
      · rw [m]
        exact hl
      · exact e3 z m
theorem putK_mem {kvs : List (L2.Key × V)} {k : L2.Key} {v : V} {kv : L2.Key × V} (m : kv ∈ putK kvs k v) : kv ∈ kvs ∨ kv = (k, v) := by
  unfold putK at m
  split at m
  · obtain ⟨p, hp, e⟩ := List.mem_map.mp m
    by_cases c : p.1 = k
    · rw [if_pos c] at e
      exact .inr (by rw [← e, c])
    · rw [if_neg c] at e
      exact .inl (by rw [← e]; exact hp)
  · rcases List.mem_append.mp m with m | m
    · exact .inl m
    · exact .inr (List.mem_singleton.mp m)
theorem putK_len (kvs : List (L2.Key × V)) (k : L2.Key) (v : V) : (putK kvs k v).length ≤ kvs.length + 1 := by
  unfold putK
  split
  · rw [List.length_map]
    omega
  · rw [List.length_append]
    exact Nat.le_refl _
theorem IntD.put {kvs : List (L2.Key × V)} (h : IntD kvs) {s : Str} (hs : s.length ≤ 1000) (i : Int) : IntD (putK kvs (Sum.inr s) (V.int i)) := by
  intro kv m
  rcases putK_mem m with m | m
  · exact h kv m
  · exact ⟨s, i, m, hs⟩
/-- the lock goes: all that was tracked stands as before -/
theorem ex_unlock {H H' : Hp} {d D : Addr} {u : HO} {od : Obj} (hd : H d = some u) (hD : (upd H d (.frz od u)) D = none) (b : Kp [D] (upd H d (.frz od u)) H') : Ex H (upd H' d u) := by
  intro a o e
  by_cases c : a = d
  · rw [c, upd_same]
    rw [c, hd] at e
    exact e
  · have nD : a ≠ D := by
      intro z
      subst z
      rw [upd_ne c, e] at hD
      cases hD
    rw [upd_ne c]
    exact b a o (by rw [upd_ne c]; exact e) (fun m => nD (List.mem_singleton.mp m))
/-- a lock around what only makes new things -/
theorem ex_unlock' {H H' : Hp} {d : Addr} {u : HO} {od : Obj} (hd : H d = some u) (b : Ex (upd H d (.frz od u)) H') : Ex H (upd H' d u) := by
  intro a o e
  by_cases c : a = d
  · rw [c, upd_same]
    rw [c, hd] at e
    exact e
  · rw [upd_ne c]
    exact b a o (by rw [upd_ne c]; exact e)
/-- a comprehension of a dict over what is walked -/
theorem dc_it {J : It} {n : Nat} {G : Hp → Prop} {Y : Nat → Hp → V → Hp → Prop} (w : Walk J n G Y) {g : TG} {tt : TT} {tk tv : TE} {vs : List Nat} {σ : L2.St} {H1 : Hp} {D : Addr} {Qd : Hp → Prop} (Pv : Nat → Hp → Prop) (h0 : Pv 0 (upd H1 D (.dK []))) (hG : ∀ i H, i ≤ n → Pv i H → G H)
    (hs : ∀ i x H H', i < n → Pv i H → Y i H x H' → g x (wipe σ vs) H' fun σ2 H2 => wipe σ2 vs = wipe σ vs ∧ tt σ2 H2 fun b H3 =>
      if b = true then tk σ2 H3 fun y H4 => tv σ2 H4 fun z H5 => ∃ kvs k, y = kV k ∧ H5 D = some (.dK kvs) ∧ kvs.length < sizeLine ∧ Pv (i + 1) (upd H5 D (.dK (putK kvs k z))) else Pv (i + 1) H3) (hd : ∀ H, Pv n H → Qd H) :
    ∃ W : Nat → Nat → Hp → Prop, (∃ m, W 0 m (upd H1 D (.dK []))) ∧ ∀ i m H, W i m H →
      (J.stop i H ∧ Qd H) ∨ (J.go i H ∧ ∃ Nx : Hp → Prop, (∀ H', Nx H' → ∃ m', m' < m ∧ W (i + 1) m' H') ∧ ∀ x H', J.yld i H x H' → g x (wipe σ vs) H' fun σ2 H2 => wipe σ2 vs = wipe σ vs ∧ tt σ2 H2 fun b H3 =>
        if b = true then tk σ2 H3 fun y H4 => tv σ2 H4 fun z H5 => ∃ kvs k, y = kV k ∧ H5 D = some (.dK kvs) ∧ kvs.length < sizeLine ∧ Nx (upd H5 D (.dK (putK kvs k z))) else Nx H3) := by
  refine ⟨fun i m H => m = n - i ∧ i ≤ n ∧ Pv i H, ⟨n, rfl, Nat.zero_le _, h0⟩, ?_⟩
  intro i m H p
  obtain ⟨rfl, hi, p⟩ := p
  have q := hG i H hi p
  rcases Nat.lt_or_ge i n with hlt | hge
  · refine .inr ⟨w.goes i H hlt q, Pv (i + 1), fun H' p' => ⟨n - (i + 1), by omega, rfl, hlt, p'⟩, fun x H' y => ?_⟩
    exact hs i x H H' hlt p (w.yields i H x H' hlt q y)
  · have e : i = n := Nat.le_antisymm hi hge
    subst e
    exact .inl ⟨w.stops H q, hd H p⟩
section
/-! ### dicts of names and integers -/
abbrev KD := List (L2.Key × V)
/-- keys of S, each once; integers -/
def DI (S : List Str) (kvs : KD) : Prop := (∀ kv ∈ kvs, ∃ (s : Str) (i : Int), kv = (Sum.inr s, V.int i) ∧ s ∈ S) ∧ (kvs.map (·.1)).Nodup
/-- few names, short ones -/
def SOk (S : List Str) : Prop := S.length ≤ 10 ∧ ∀ s ∈ S, s.length ≤ 8
def lk (kvs : KD) (s : Str) : Option Int := match valV kvs (Sum.inr s) with
  | some (.int i) => some i
  | _ => none
def dv (kvs : KD) (s : Str) : Int := (lk kvs s).getD 0
variable {S : List Str}
theorem DI.nil : DI S [] := ⟨fun kv h => absurd h List.not_mem_nil, .nil⟩
theorem DI.at {kvs : KD} (h : DI S kvs) {i : Nat} {k : L2.Key} {v : V} (e : kvs[i]? = some (k, v)) : ∃ (s : Str) (j : Int), k = Sum.inr s ∧ v = V.int j ∧ s ∈ S := by
  obtain ⟨s, j, q, hl⟩ := h.1 (k, v) (List.mem_of_getElem? e)
  cases q
  exact ⟨s, j, rfl, rfl, hl⟩
theorem DI.intD {kvs : KD} (h : DI S kvs) (hS : SOk S) : IntD kvs := fun kv m => by
  obtain ⟨s, i, e, hs⟩ := h.1 kv m
  exact ⟨s, i, e, Nat.le_trans (hS.2 s hs) (by decide)⟩
theorem inr_nodup : ∀ {l : List Str}, (l.map (Sum.inr : Str → L2.Key)).Nodup → l.Nodup
  | [], _ => .nil
  | x :: l, h => by
    obtain ⟨h1, h2⟩ := List.nodup_cons.mp h
    exact List.nodup_cons.mpr ⟨fun m => h1 (List.mem_map.mpr ⟨x, m, rfl⟩), inr_nodup h2⟩
theorem DI.keys {kvs : KD} (h : DI S kvs) : ∃ ks : List Str, kvs.map (·.1) = ks.map Sum.inr ∧ ks.length = kvs.length ∧ ks.Nodup ∧ ∀ s ∈ ks, s ∈ S := by
  have key : ∀ l : KD, (∀ kv ∈ l, ∃ (s : Str) (i : Int), kv = (Sum.inr s, V.int i) ∧ s ∈ S) → ∃ ks : List Str, l.map (·.1) = ks.map Sum.inr ∧ ks.length = l.length ∧ ∀ s ∈ ks, s ∈ S := by
    intro l
    induction l with
    | nil => exact fun _ => ⟨[], rfl, rfl, fun s m => absurd m List.not_mem_nil⟩
    | cons kv r ih =>
      intro h
      obtain ⟨s, i, e, hs⟩ := h kv List.mem_cons_self
      obtain ⟨ks, e1, e2, e3⟩ := ih fun q m => h q (List.mem_cons_of_mem _ m)
      refine ⟨s :: ks, by rw [List.map_cons, List.map_cons, e1, e], congrArg Nat.succ e2, fun z m => ?_⟩
      rcases List.mem_cons.mp m with m | m
      · rw [m]
        exact hs
      · exact e3 z m
  obtain ⟨ks, e1, e2, e3⟩ := key kvs h.1
  have n := h.2
  rw [e1] at n
  exact ⟨ks, e1, e2, inr_nodup n, e3⟩
theorem DI.len {kvs : KD} (h : DI S kvs) (hS : SOk S) : kvs.length ≤ 10 := by
  obtain ⟨ks, _, e2, e3, e4⟩ := h.keys
  have q := nodup_len ks S e3 e4
  have := hS.1
  omega
theorem DI.val {kvs : KD} (h : DI S kvs) (s : Str) : valV kvs (Sum.inr s) = (lk kvs s).map V.int := by
  unfold lk
  cases q : valV kvs (Sum.inr s) with
  | none => rfl
  | some v =>
    unfold valV at q
    cases f : kvs.find? fun kv => decide (kv.1 = (Sum.inr s : L2.Key)) with
    | none =>
      rw [f] at q
      cases q
    | some kv =>
      rw [f] at q
      obtain ⟨s', j, e1, _⟩ := h.1 kv (List.mem_of_find?_eq_some f)
      rw [e1] at q
      have e2 : V.int j = v := Option.some.inj q
      rw [← e2]
      rfl
theorem val_at : ∀ {kvs : KD} {i : Nat} {k : L2.Key} {v : V}, (kvs.map (·.1)).Nodup → kvs[i]? = some (k, v) → valV kvs k = some v
  | [], i, k, v, _, e => by cases e
  | kv :: r, 0, k, v, n, e => by
    have e2 : kv = (k, v) := Option.some.inj e
    rw [e2]
    exact valV_pos rfl
  | kv :: r, i + 1, k, v, n, e => by
    have e2 : r[i]? = some (k, v) := e
    obtain ⟨n1, n2⟩ := List.nodup_cons.mp n
    have ne : ¬ kv.1 = k := fun z => n1 (by show kv.1 ∈ _; rw [z]; exact List.mem_map.mpr ⟨(k, v), List.mem_of_getElem? e2, rfl⟩)
    rw [valV_neg ne]
    exact val_at n2 e2
theorem DI.lk_at {kvs : KD} (h : DI S kvs) {i : Nat} {s : Str} {j : Int} (e : kvs[i]? = some (Sum.inr s, V.int j)) : lk kvs s = some j := by
  unfold lk
  rw [val_at h.2 e]
theorem lk_in {kvs : KD} {s : Str} {i : Int} (h : lk kvs s = some i) : (Sum.inr s : L2.Key) ∈ kvs.map (·.1) := by
  unfold lk at h
  cases q : valV kvs (Sum.inr s) with
  | none =>
    rw [q] at h
    cases h
  | some v => exact valV_in q
theorem lk_put (kvs : KD) (s s' : Str) (i : Int) : lk (putK kvs (Sum.inr s) (V.int i)) s' = if s' = s then some i else lk kvs s' := by
  unfold lk
  rw [valV_put]
  by_cases c : s' = s
  · rw [if_pos c, if_pos (by rw [c])]
  · rw [if_neg c, if_neg (fun z => c (Sum.inr.inj z))]
theorem put_nodup {kvs : KD} {k : L2.Key} {v : V} (h : (kvs.map (·.1)).Nodup) : ((putK kvs k v).map (·.1)).Nodup := by
  unfold putK
  split
  · have e : (kvs.map fun kv => if kv.1 = k then (kv.1, v) else kv).map (·.1) = kvs.map (·.1) := by
      rw [List.map_map]
      refine List.map_congr_left fun kv _ => ?_
      show (if kv.1 = k then (kv.1, v) else kv).1 = kv.1
      split <;> rfl
    rw [e]
    exact h
  · rename_i c
    rw [List.map_append]
    refine List.nodup_append.mpr ⟨h, List.nodup_cons.mpr ⟨List.not_mem_nil, .nil⟩, ?_⟩
    intro a ha b hb z
    obtain ⟨p, hp, e⟩ := List.mem_map.mp ha
    have e2 : b = k := List.mem_singleton.mp hb
    refine c (List.any_eq_true.mpr ⟨p, hp, decide_eq_true ?_⟩)
    rw [e, z, e2]
theorem DI.put {kvs : KD} (h : DI S kvs) {s : Str} (hs : s ∈ S) (i : Int) : DI S (putK kvs (Sum.inr s) (V.int i)) := by
  refine ⟨fun kv m => ?_, put_nodup h.2⟩
  rcases putK_mem m with m | m
  · exact h.1 kv m
  · exact ⟨s, i, m, hs⟩
theorem lk_nil (s : Str) : lk [] s = none := rfl
theorem mergeK_nodup : ∀ (more acc : KD), ((acc ++ more).map (·.1)).Nodup → mergeK acc more = acc ++ more
  | [], acc, _ => by rw [List.append_nil]; rfl
  | kv :: r, acc, h => by
    have e : valV acc kv.1 = none := by
      cases q : valV acc kv.1 with
      | none => rfl
      | some v =>
        have m := valV_in q
        rw [List.map_append, List.map_cons] at h
        exact absurd rfl ((List.nodup_append.mp h).2.2 kv.1 m kv.1 List.mem_cons_self)
    show mergeK (putK acc kv.1 kv.2) r = acc ++ kv :: r
    rw [putK_new _ e, mergeK_nodup r (acc ++ [(kv.1, kv.2)]) (by rw [List.append_assoc]; exact h), List.append_assoc]
    rfl
end
section
variable {P : Program} {w : World} {K : PySem.W.Frag} {mg : Str → Option Value} {base : Heap} {S : List Str}
/-! ### name_place -/
def spPlace : Sp := fun vs H Q _ => ∃ s : Str, vs = [.str s] ∧ s.length ≤ 1000 ∧ ∀ i : Int, Q (.int i) H
theorem ok_place (T : TX K mg) : Ok P w K mg base CX0 1 a_name_place p_name_place spPlace := by
  obtain ⟨fd, F⟩ := T.d.def_ 0 (d := d_name_place) rfl
  have b : Binds K fd p_name_place [] := FunD.bindsN F fun _ _ _ _ _ _ us hl => match us, hl with | [_], _ => rfl
  refine ⟨fd, F.ok sc_name_place (fun vs H Q E h => ?_) (fun cdv A outer s H vs Q E hr h => ?_), b, F.kp⟩
  · obtain ⟨s, rfl, _⟩ := h
    rfl
  · obtain ⟨z, rfl, hz, k⟩ := h
    refine ⟨_, PSs.nox (pss_cons (ps_set (i := 1) sc_name_place.nd rfl (Or.inl rfl) pe_int) (pss_cons
      (ps_for PassesOwn.never rfl (pi_range1 rfl (T.free_range) (pa_cons pe_int pa_nil)) (pg_name (i := 2) sc_name_place.nd rfl (Or.inl rfl)) (pss_one
      (ps_if (pt_cmpR op_lt (pv 2) (pe_callB call_len_str rfl (T.free_len) (by decide +kernel) (pa_cons (pv 0) pa_nil)) (nomark _))
      (pss_one (ps_set (i := 1) sc_name_place.nd rfl (Or.inl rfl) (pe_op op_add (pe_op op_sub (pe_op op_add (pe_op op_mul (pv 1) pe_int) (pe_callB call_ord rfl (T.free_ord) (by decide +kernel) (pa_cons (pe_ix ix_str (pv 0) (pv 2) (fun _ _ => rfl)) pa_nil))) (pe_callB call_ord rfl (T.free_ord) (by decide +kernel) (pa_cons pe_str pa_nil))) pe_int)))
      (pss_one (ps_set (i := 1) sc_name_place.nd rfl (Or.inl rfl) (pe_op op_mul (pv 1) pe_int)))))) (pss_one (ps_ret (pe_un un_neg (pv 1)))))), ?_⟩
    -- place = 0
    refine ⟨_, rfl, by decide, by decide, for_range (lo := 0) (n := 8) (fun i σ H' => H' = H ∧ ∃ (p : Int) (v : Option V), σ = [some (.str z), some (.int p), v]) ⟨rfl, 0, none, rfl⟩ ?_ ?_⟩
    · rintro i σ H' hi ⟨rfl, p, v, rfl⟩
      refine ⟨_, rfl, _, rfl, _, rfl, small (by omega), _, _, rfl, rfl, _, rfl, ?_⟩
      refine ite2 (fun hc => ?_) (fun hc => ?_)
      · have hc : (0 : Int) + (i : Int) < (z.length : Int) := of_decide_eq_true hc
        have hl : i < z.cps.toList.length := by
          have e : z.length = z.cps.toList.length := by simp [Str.length]
          omega
        have ha : atI z.cps.toList ((0 : Int) + (i : Int)) = some z.cps.toList[i] := by
          rw [Int.zero_add]
          exact atI_nat (List.getElem?_eq_getElem hl)
        refine ⟨_, rfl, _, _, rfl, rfl, .inr ⟨by decide, by decide⟩, _, rfl, _, rfl, z, _, _, rfl, rfl, small (by omega), ha, _, rfl, rfl, _, _, rfl, rfl, _, rfl, rfl, _, _, rfl, rfl, _, _, rfl, rfl, rfl, _, _, rfl⟩
      · refine ⟨_, rfl, _, _, rfl, rfl, .inr ⟨by decide, by decide⟩, rfl, _, _, rfl⟩
    · rintro σ H' ⟨rfl, p, v, rfl⟩
      exact ⟨_, rfl, _, rfl, k _⟩
/-! ### order_key -/
/-- the key by which notes are ordered -/
def RankAt (H : Hp) (t : Addr) : Prop := ∃ (tot : Int) (t2 : Addr) (rs : List Addr), H t = some (.tup [.int tot, .ref t2]) ∧ H t2 = some (.tup (rs.map V.ref)) ∧ ∀ r ∈ rs, ∃ (i j : Int) (b : Bool), H r = some (.tup [.int i, .int j, .bl b])
theorem RankAt.ex {H H' : Hp} {t : Addr} (h : RankAt H t) (e : Ex H H') : RankAt H' t := by
  obtain ⟨tot, t2, rs, h1, h2, h3⟩ := h
  refine ⟨tot, t2, rs, e _ _ h1, e _ _ h2, fun r m => ?_⟩
  obtain ⟨i, j, b, q⟩ := h3 r m
  exact ⟨i, j, b, e _ _ q⟩
def spKey : Sp := fun vs H Q _ => ∃ (d : Addr) (kvs : List (L2.Key × V)), vs = [.ref d] ∧ H d = some (.dK kvs) ∧ IntD kvs ∧ kvs.length ≤ 50 ∧ ∀ t H', Ex H H' → H t = none → RankAt H' t → Q (.ref t) H'
theorem ok_key (T : TX K mg) : Ok P w K mg base CX0 2 a_order_key p_order_key spKey := by
  obtain ⟨fd, F⟩ := T.d.def_ 1 (d := d_order_key) rfl
  obtain ⟨_, O_name_place⟩ := ok_place (P := P) (w := w) (base := base) T
  have b : Binds K fd p_order_key [] := FunD.bindsN F fun _ _ _ _ _ _ us hl => match us, hl with | [_], _ => rfl
  refine ⟨fd, F.ok sc_order_key (fun vs H Q E h => ?_) (fun cdv A outer s H vs Q E hr h => ?_), b, F.kp⟩
  · obtain ⟨d, kvs, rfl, _⟩ := h
    rfl
  · obtain ⟨d, kvs, rfl, hd, hI, hl, k⟩ := h
    obtain ⟨ks, ek, lk, hks⟩ := hI.keys
    have inK : ∀ s ∈ ks, (Sum.inr s : L2.Key) ∈ kvs.map (·.1) := fun s m => by
      rw [ek]
      exact List.mem_map.mpr ⟨s, m, rfl⟩
    refine ⟨_, PSs.nox (pss_cons (ps_set (i := 1) sc_order_key.nd rfl (Or.inl rfl) (pe_callB (cr_sum rfl) rfl (T.free_sum) (by decide +kernel) (pa_cons (pe_lock
      (pe_lc (own := [("name", 3)]) rfl sc_order_key.nd (pi_keys (pv 0)) (blkOk_by (own := [("name", 3)]) (N := n_order_key) (sc := defScope s_order_key) (by decide +kernel)) (fun _ _ _ _ _ => pg_name (i := 3) sc_order_key.nd rfl (Or.inl rfl)) (fun _ _ _ _ _ => pts_nil) (fun _ _ _ _ _ => (by exact (pe_callB call_abs rfl (T.free_abs) (by decide +kernel) (pa_cons (pe_dget (hu_of hr) (pv 0) (pv 3) (fun _ _ => rfl)) pa_nil)))))) pa_nil)))
      (pss_cons (ps_setLc (i := 2) (own := [("name", 3)]) rfl sc_order_key.nd rfl rfl (sw_true rfl rfl rfl (by decide +kernel)) (pi_list (pe_callB (call_sortedD rfl) rfl (T.free_sorted) (by decide +kernel) (pa_cons (pv 0) pa_nil))) (blkOk_by (own := [("name", 3)]) (N := n_order_key) (sc := defScope s_order_key) (by decide +kernel)) (fun _ _ _ _ _ => pg_name (i := 3) sc_order_key.nd rfl (Or.inl rfl)) (fun _ _ _ _ _ => pts_nil) (fun _ _ _ _ _ => (pe_tup (pa_cons (pcall O_name_place (hr.mono (by decide)) rfl (T.g_name_place) pass0 (pa_cons (pv 3) pa_nil)) (pa_cons (pe_callB call_abs rfl (T.free_abs) (by decide +kernel) (pa_cons (pe_dget (hu_of hr) (pv 0) (pv 3) (fun _ _ => rfl)) pa_nil)) (pa_cons (pe_cmpR op_lt (pe_dget (hu_of hr) (pv 0) (pv 3) (fun _ _ => rfl)) pe_int (nomark _)) pa_nil))))))
      (pss_one (ps_ret (pe_tup (pa_cons (pv 1) (pa_cons (pe_callTy call_tuple_of rfl (T.free_tuple) (by decide +kernel) (pa_cons (pv 2) pa_nil)) pa_nil))))))), ?_⟩
    -- the sum
    refine ⟨d, _, hd, trivial, fun od => ⟨_, rfl, d, od, rfl, .inl ⟨kvs, upd_same, fun D hD => ?_⟩⟩⟩
    have nd : d ≠ D := ne_of_none upd_same hD
    refine lc_it walk_keys (fun i H' => ∃ ns : List Int, H' D = some (.lst (ns.map V.int)) ∧ ns.length = i ∧ Kp [D] (upd H d (.frz od (.dK kvs))) H') ⟨[], upd_same, rfl, (Kp.refl _ _).new hD⟩ (fun i H' _ p => ?_) ?_ ?_
    · obtain ⟨ns, _, _, e⟩ := p
      exact e d _ upd_same (off1 nd)
    · rintro i x H1 H2 hi ⟨ns, hn, hnl, e⟩ ⟨rfl, ky, v, hv, rfl⟩
      obtain ⟨s, j, rfl, rfl, hs⟩ := hI.at hv
      obtain ⟨j', hj⟩ := hI.val (k := Sum.inr s) (List.mem_map.mpr ⟨_, List.mem_of_getElem? hv, rfl⟩)
      refine ⟨rfl, ?_⟩
      refine ⟨_, rfl, _, rfl, d, V.int j', rfl, ?_, j', rfl, _, hn, ?_, ns ++ [if j' < 0 then -j' else j'], ?_, ?_, e.upd (on1 _)⟩
      · exact .inl ⟨kvs, Sum.inr s, .inr ⟨od, e d _ upd_same (off1 nd)⟩, rfl, hj.symm⟩
      · rw [List.length_map]
        exact small' (by omega)
      · rw [upd_same, List.map_append]
        rfl
      · rw [List.length_append, hnl]
        rfl
    · rintro H' ⟨ns, hn, hnl, e⟩
      refine ⟨e d _ upd_same (off1 nd), D, ns, rfl, SqL.of (by rw [upd_ne nd.symm]; exact hn), ?_⟩
      have e1 : Ex H (upd H' d (.dK kvs)) := ex_unlock hd hD e
      generalize upd H' d (.dK kvs) = H1 at e1
      -- marks
      refine ⟨_, rfl, d, kvs, ks, rfl, .inl (e1 d _ hd), ek, by omega, fun ys p hp _ hnp => ⟨p, rfl, ⟨_, SqL.of upd_same⟩, fun D2 hD2 => ?_⟩⟩
      have e2 : Ex H (upd H1 p (.lst (ys.map V.str))) := e1.new hnp
      have hyl : ys.length ≤ 50 := by
        have := hp.length_eq
        omega
      have nD2 : p ≠ D2 := ne_of_none upd_same hD2
      refine lc_list (K := K) (a := p) (xs := ys.map V.str) (fun i H' => ∃ rs : List Addr, H' D2 = some (.lst (rs.map V.ref)) ∧ rs.length = i ∧ Kp [D2] (upd H1 p (.lst (ys.map V.str))) H' ∧ ∀ r ∈ rs, ∃ (i j : Int) (b : Bool), H' r = some (.tup [.int i, .int j, .bl b]))
        ⟨[], upd_same, rfl, (Kp.refl _ _).new hD2, fun r m => absurd m List.not_mem_nil⟩ (fun i H' _ q => ?_) ?_ ?_
      · obtain ⟨rs, _, _, e, _⟩ := q
        exact SqL.of (e p _ upd_same (off1 nD2))
      · rintro i x H2 hx ⟨rs, hr1, hrl, e, hrr⟩
        rw [List.getElem?_map] at hx
        obtain ⟨s, hs, rfl⟩ := Option.map_eq_some_iff.mp hx
        have ms : s ∈ ks := hp.mem_iff.mp (List.mem_of_getElem? hs)
        obtain ⟨j', hj⟩ := hI.val (inK s ms)
        have hdd : H2 d = some (.dK kvs) := by
          refine e d _ (e2 d _ hd) (off1 ?_)
          intro z
          rw [z] at hd
          rw [e2 _ _ hd] at hD2
          cases hD2
        have dg : DGet H2 d (V.str s) (some (V.int j')) := .inl ⟨kvs, Sum.inr s, .inl hdd, rfl, hj.symm⟩
        have hil : i < ys.length := (List.getElem?_eq_some_iff.mp hs).1
        refine ⟨rfl, ?_⟩
        refine ⟨_, rfl, s, rfl, hks s ms, fun z => ⟨_, rfl, _, rfl, d, _, rfl, dg, j', rfl, _, rfl, _, rfl, d, _, rfl, dg, _, _, rfl, rfl, small (by show 3 ≤ 100000; decide), fun q hq => ?_⟩⟩
        have nq : q ≠ D2 := by
          intro z2
          rw [z2, hr1] at hq
          cases hq
        refine ⟨rs.map V.ref, by rw [upd_ne nq.symm]; exact hr1, by rw [List.length_map]; exact small' (by omega), rs ++ [q], ?_, by rw [List.length_append, hrl]; rfl, (e.new hq).upd (on1 _), ?_⟩
        · rw [upd_same, List.map_append]
          rfl
        · intro r m
          rcases List.mem_append.mp m with m | m
          · obtain ⟨i', j2, b', h'⟩ := hrr r m
            have n1 : r ≠ D2 := by
              intro z2
              rw [z2, hr1] at h'
              cases h'
            have n2 : r ≠ q := by
              intro z2
              rw [z2, hq] at h'
              cases h'
            exact ⟨i', j2, b', by rw [upd_ne n1, upd_ne n2]; exact h'⟩
          · rw [List.mem_singleton.mp m]
            exact ⟨z, _, _, by rw [upd_ne nq, upd_same]⟩
      · rintro H2 ⟨rs, hr1, hrl, e, hrr⟩
        -- (total, tuple(marks))
        refine ⟨_, rfl, _, rfl, D2, _, rfl, .inl ⟨SqL.of hr1, fun t2 ht2 => ⟨small (by show 2 ≤ 100000; decide), fun t ht => ?_⟩⟩⟩
        have fD2 : H D2 = none := e2.back hD2
        have e3 : Ex H H2 := fun a o q => e a o (e2 a o q) (off1 (ne_of_none q fD2))
        have n1 : t2 ≠ t := ne_of_none upd_same ht
        refine k t _ (((e3.new ht2)).new ht) ((e3.new ht2).back ht) ⟨_, t2, rs, upd_same, ?_, fun r m => ?_⟩
        · rw [upd_ne n1, upd_same]
        · obtain ⟨i', j2, b', h'⟩ := hrr r m
          have n2 : r ≠ t2 := ne_of_none h' ht2
          have n3 : r ≠ t := by
            refine ne_of_none (o := .tup [.int i', .int j2, .bl b']) ?_ ht
            rw [upd_ne n2]
            exact h'
          exact ⟨i', j2, b', by rw [upd_ne n3, upd_ne n2]; exact h'⟩
/-! ### without_zeros -/
def spZero (S : List Str) : Sp := fun vs H Q _ => ∃ (d : Addr) (kvs : KD), vs = [.ref d] ∧ H d = some (.dK kvs) ∧ DI S kvs ∧ ∀ p kvs' H', Ex H H' → H p = none → H' p = some (.dK kvs') → DI S kvs' → (∀ s, lk kvs' s = if lk kvs s = some 0 then none else lk kvs s) → Q (.ref p) H'
theorem ok_zero (T : TX K mg) (hS : SOk S) : Ok P w K mg base CX0 1 a_without_zeros p_without_zeros (spZero S) := by
  obtain ⟨fd, F⟩ := T.d.def_ 3 (d := d_without_zeros) rfl
  have b : Binds K fd p_without_zeros [] := FunD.bindsN F fun _ _ _ _ _ _ us hl => match us, hl with | [_], _ => rfl
  refine ⟨fd, F.ok sc_without_zeros (fun vs H Q E h => ?_) (fun cdv A outer s H vs Q E hr h => ?_), b, F.kp⟩
  · obtain ⟨d, kvs, rfl, _⟩ := h
    rfl
  · obtain ⟨d, kvs, rfl, hd, hI, k⟩ := h
    have hl := hI.len hS
    refine ⟨_, PSs.nox (pss_one (ps_ret (pe_lock
      (pe_dc (own := [("name", 1)]) rfl sc_without_zeros.nd (pi_keys (pv 0)) (blkOk_by (own := [("name", 1)]) (N := n_without_zeros) (sc := defScope s_without_zeros) (by decide +kernel)) (fun _ _ _ _ _ => pg_name (i := 1) sc_without_zeros.nd rfl (Or.inl rfl)) (fun _ _ _ _ _ => pts_one (pt_cmpR op_ne (pe_dget (hu_of hr) (pv 0) (pv 1) (fun _ _ => rfl)) pe_int (nomark _))) (fun _ _ _ _ _ => (pv 1)) (fun _ _ _ _ _ => (pe_dget (hu_of hr) (pv 0) (pv 1) (fun _ _ => rfl))))))), ?_⟩
    refine ⟨d, _, hd, trivial, fun od => ⟨_, rfl, d, od, rfl, .inl ⟨kvs, upd_same, fun D hD => ?_⟩⟩⟩
    have nd : d ≠ D := ne_of_none upd_same hD
    refine dc_it walk_keys (fun i H' => ∃ ls : KD, H' D = some (.dK ls) ∧ DI S ls ∧ ls.length ≤ i ∧ (∀ s : Str, ((Sum.inr s : L2.Key) ∈ ((kvs.take i).map (·.1) : List L2.Key) → lk ls s = if lk kvs s = some 0 then none else lk kvs s) ∧ ((Sum.inr s : L2.Key) ∉ ((kvs.take i).map (·.1) : List L2.Key) → lk ls s = none)) ∧ Kp [D] (upd H d (.frz od (.dK kvs))) H') ⟨[], upd_same, DI.nil, Nat.le_refl _, (fun s => ⟨fun m => absurd m List.not_mem_nil, fun _ => rfl⟩), (Kp.refl _ _).new hD⟩ (fun i H' _ p => ?_) ?_ ?_
    · obtain ⟨ns, _, _, _, _, e⟩ := p
      exact e d _ upd_same (fun m => nd (List.mem_singleton.mp m))
    · rintro i x H1 H2 hi ⟨ls, hn, hI2, hnl, hlk, e⟩ ⟨rfl, ky, v, hv, rfl⟩
      obtain ⟨s, j, rfl, rfl, hs⟩ := hI.at hv
      have hj := val_at hI.2 hv
      have hlj : lk kvs s = some j := hI.lk_at hv
      have dg : DGet H2 d (V.str s) (some (V.int j)) := .inl ⟨kvs, Sum.inr s, .inr ⟨od, e d _ upd_same (fun m => nd (List.mem_singleton.mp m))⟩, rfl, hj.symm⟩
      have hil : i < kvs.length := hi
      have tk : ∀ s' : Str, ((Sum.inr s' : L2.Key) ∈ ((kvs.take (i + 1)).map (·.1) : List L2.Key)) ↔ ((Sum.inr s' : L2.Key) ∈ ((kvs.take i).map (·.1) : List L2.Key) ∨ s' = s) := by
        intro s'
        rw [List.take_add_one, hv, List.map_append, List.mem_append]
        show _ ∨ _ ∈ [(Sum.inr s : L2.Key)] ↔ _
        rw [List.mem_singleton]
        constructor
        · rintro (m | m)
          · exact .inl m
          · exact .inr (Sum.inr.inj m)
        · rintro (m | m)
          · exact .inl m
          · exact .inr (by rw [m])
      refine ⟨rfl, _, rfl, _, rfl, d, _, rfl, dg, rfl, _, rfl, ?_⟩
      refine ite2 (fun hc => ?_) (fun hc => ?_)
      · have hj0 : j ≠ 0 := by
          intro z
          subst z
          have q : (!decide (V.int 0 = V.int 0)) = false := by rw [decide_eq_true rfl] <;> rfl
          rw [q] at hc
          cases hc
        refine ⟨_, rfl, _, rfl, _, rfl, d, _, rfl, dg, ls, Sum.inr s, rfl, hn, small' (by omega), _, upd_same, hI2.put hs j, ?_, fun s' => ?_, e.upd (List.mem_singleton.mpr rfl)⟩
        · have := putK_len ls (Sum.inr s) (V.int j)
          omega
        · rw [lk_put]
          by_cases c : s' = s
          · subst c
            rw [if_pos rfl, hlj, if_neg (fun z => hj0 (Option.some.inj z))]
            exact ⟨fun _ => rfl, fun n => absurd ((tk s').mpr (.inr rfl)) n⟩
          · rw [if_neg c]
            exact ⟨fun m => (hlk s').1 (((tk s').mp m).resolve_right c), fun n => (hlk s').2 fun m => n ((tk s').mpr (.inl m))⟩
      · have hj0 : j = 0 := by
          by_cases z : j = 0
          · exact z
          · refine absurd ?_ hc
            rw [decide_eq_false (fun q => z (V.int.inj q))]
            rfl
        subst hj0
        refine ⟨ls, hn, hI2, by omega, fun s' => ?_, e⟩
        refine ⟨fun m => ?_, fun n => (hlk s').2 fun m => n ((tk s').mpr (.inl m))⟩
        by_cases m2 : (Sum.inr s' : L2.Key) ∈ ((kvs.take i).map (·.1) : List L2.Key)
        · exact (hlk s').1 m2
        · have c : s' = s := ((tk s').mp m).resolve_left m2
          subst c
          rw [(hlk s').2 m2, if_pos hlj]
    · rintro H' ⟨ls, hn, hI2, hnl, hlk, e⟩
      have nD : D ≠ d := nd.symm
      refine ⟨e d _ upd_same (fun m => nd (List.mem_singleton.mp m)), ?_⟩
      refine k D ls _ (ex_unlock hd hD e) ?_ (by rw [upd_ne nD]; exact hn) hI2 fun s => ?_
      · rw [upd_ne nD] at hD
        exact hD
      · have q := hlk s
        rw [List.take_length] at q
        by_cases m : (Sum.inr s : L2.Key) ∈ (kvs.map (·.1) : List L2.Key)
        · exact q.1 m
        · rw [q.2 m]
          cases e2 : lk kvs s with
          | none => rfl
          | some i => exact absurd (lk_in e2) m
end
end Sk
set_option Elab.async false
set_option linter.all false
set_option maxRecDepth 100000
set_option maxHeartbeats 4000000
namespace Sk
open PySem L2
/-! ### Notes -/
def nfs (d t : Addr) : List (Str × V) := [("held", .ref d), ("rank", .ref t)]
/-- Notes at n, its dict at hd: f of each name -/
def NotesA (K : PySem.W.Frag) (S : List Str) (H : Hp) (n hd : Addr) (f : Str → Int) : Prop := ∃ dx t kvs, H n = some (.ins (He.ga K "Notes") dx (nfs hd t)) ∧ H hd = some (.dK kvs) ∧ DI S kvs ∧ ∀ s, lk kvs s = if f s = 0 then none else some (f s)
theorem NotesA.kp {K : PySem.W.Frag} {S : List Str} {H H' : Hp} {n hd : Addr} {f : Str → Int} {ws : List Addr} (h : NotesA K S H n hd f) (e : Kp ws H H') (h1 : n ∉ ws) (h2 : hd ∉ ws) : NotesA K S H' n hd f := by
  obtain ⟨dx, t, kvs, q1, q2, q3⟩ := h
  exact ⟨dx, t, kvs, e _ _ q1 h1, e _ _ q2 h2, q3⟩
theorem NotesA.ex {K : PySem.W.Frag} {S : List Str} {H H' : Hp} {n hd : Addr} {f : Str → Int} (h : NotesA K S H n hd f) (e : Ex H H') : NotesA K S H' n hd f := by
  obtain ⟨dx, t, kvs, q1, q2, q3⟩ := h
  exact ⟨dx, t, kvs, e _ _ q1, e _ _ q2, q3⟩
theorem NotesA.ne {K : PySem.W.Frag} {S : List Str} {H : Hp} {n hd : Addr} {f : Str → Int} (h : NotesA K S H n hd f) : n ≠ hd := by
  obtain ⟨dx, t, kvs, q1, q2, _⟩ := h
  exact ne_of q1 q2 (by intro z; cases z)
theorem NotesA.some_n {K : PySem.W.Frag} {S : List Str} {H : Hp} {n hd : Addr} {f : Str → Int} (h : NotesA K S H n hd f) : ∃ o, H n = some o := let ⟨_, _, _, q, _⟩ := h; ⟨_, q⟩
theorem NotesA.some_hd {K : PySem.W.Frag} {S : List Str} {H : Hp} {n hd : Addr} {f : Str → Int} (h : NotesA K S H n hd f) : ∃ o, H hd = some o := let ⟨_, _, _, _, q, _⟩ := h; ⟨_, q⟩
theorem NotesA.congr {K : PySem.W.Frag} {S : List Str} {H : Hp} {n hd : Addr} {f g : Str → Int} (h : NotesA K S H n hd f) (e : ∀ s, f s = g s) : NotesA K S H n hd g := by
  have q : f = g := funext e
  rw [← q]
  exact h
theorem hr1 : ¬ (("held" : Str) = "rank") := by decide +kernel
theorem put2 (d e : V) : putF ("held" : Str) e [(("held" : Str), d)] = [(("held" : Str), e)] := by
  show (if ("held" : Str) = "held" then [(("held" : Str), e)] else (("held" : Str), d) :: putF "held" e []) = [(("held" : Str), e)]
  rw [if_pos rfl]
theorem put2' (d e : V) (r : List (Str × V)) : putF ("held" : Str) e ((("held" : Str), d) :: r) = (("held" : Str), e) :: r := by
  show (if ("held" : Str) = "held" then (("held" : Str), e) :: r else (("held" : Str), d) :: putF "held" e r) = (("held" : Str), e) :: r
  rw [if_pos rfl]
theorem put3 (d t : Addr) : putF ("rank" : Str) (V.ref t) [(("held" : Str), V.ref d)] = nfs d t := by
  show (if ("held" : Str) = "rank" then [(("held" : Str), V.ref t)] else (("held" : Str), V.ref d) :: putF "rank" (V.ref t) []) = nfs d t
  rw [if_neg hr1]
  rfl
theorem put4 (d t t' : Addr) : putF ("rank" : Str) (V.ref t') (nfs d t) = nfs d t' := by
  show (if ("held" : Str) = "rank" then (("held" : Str), V.ref t') :: _ else (("held" : Str), V.ref d) :: (if ("rank" : Str) = "rank" then [(("rank" : Str), V.ref t')] else (("rank" : Str), V.ref t) :: putF "rank" (V.ref t') [])) = nfs d t'
  rw [if_neg hr1, if_pos rfl]
  rfl
theorem look_held (d : V) (r : List (Str × V)) : ((("held" : Str), d) :: r).lookup ("held" : Str) = some d := by
  simp [List.lookup]
theorem no_pairs (d t : Addr) : (nfs d t).lookup ("pairs" : Str) = none := by
  have q1 : (("pairs" : Str) == "held") = false := by decide +kernel
  have q2 : (("pairs" : Str) == "rank") = false := by decide +kernel
  simp [nfs, List.lookup, q1, q2]
/-- an item list of pairs -/
def PrsAt (H : Hp) (f : Str → Int) (rs : List Addr) (ns : List Str) : Prop := rs.length = ns.length ∧ ∀ (i : Nat) (r : Addr) (s : Str), rs[i]? = some r → ns[i]? = some s → H r = some (.tup [.str s, .int (f s)])
theorem PrsAt.ex {H H' : Hp} {f : Str → Int} {rs : List Addr} {ns : List Str} (h : PrsAt H f rs ns) (e : Ex H H') : PrsAt H' f rs ns := ⟨h.1, fun i r s a b => e _ _ (h.2 i r s a b)⟩
theorem PrsAt.kp {H H' : Hp} {f : Str → Int} {rs : List Addr} {ns : List Str} {D : Addr} {xs : List V} (h : PrsAt H f rs ns) (e : Kp [D] H H') (hD : H D = some (.lst xs)) : PrsAt H' f rs ns :=
  ⟨h.1, fun i r s a b => e _ _ (h.2 i r s a b) (off1 (ne_of (h.2 i r s a b) hD (by intro z; cases z)))⟩
theorem PrsAt.nil {H : Hp} {f : Str → Int} : PrsAt H f [] [] := ⟨rfl, fun i r s a b => by cases a⟩
theorem snoc_at {α : Type} {l : List α} {x y : α} {i : Nat} (h : (l ++ [x])[i]? = some y) : l[i]? = some y ∨ (i = l.length ∧ x = y) := by
  rcases Nat.lt_trichotomy i l.length with q | q | q
  · rw [List.getElem?_append_left q] at h
    exact .inl h
  · subst q
    rw [List.getElem?_append_right (Nat.le_refl _), Nat.sub_self] at h
    exact .inr ⟨rfl, Option.some.inj h⟩
  · rw [List.getElem?_append_right (Nat.le_of_lt q)] at h
    have : i - l.length ≠ 0 := by omega
    obtain ⟨k, hk⟩ := Nat.exists_eq_succ_of_ne_zero this
    rw [hk] at h
    cases h
theorem PrsAt.snoc {H : Hp} {f : Str → Int} {rs : List Addr} {ns : List Str} {q : Addr} {s : Str} (h : PrsAt H f rs ns) (e : H q = some (.tup [.str s, .int (f s)])) : PrsAt H f (rs ++ [q]) (ns ++ [s]) := by
  refine ⟨by rw [List.length_append, List.length_append, h.1]; rfl, fun i r z a b => ?_⟩
  rcases snoc_at a with a | ⟨a, e3⟩
  · have hi : i < ns.length := by
      rw [← h.1]
      exact (List.getElem?_eq_some_iff.mp a).1
    rw [List.getElem?_append_left hi] at b
    exact h.2 i r z a b
  · rw [a, h.1, List.getElem?_append_right (Nat.le_refl _), Nat.sub_self] at b
    have e2 : s = z := Option.some.inj b
    rw [← e2, ← e3]
    exact e
theorem take_snoc {α : Type} {l : List α} {i : Nat} {x : α} (h : l[i]? = some x) : l.take (i + 1) = l.take i ++ [x] := by
  rw [List.take_add_one, h]
  rfl
section
variable {P : Program} {w : World} {K : PySem.W.Frag} {mg : Str → Option Value} {base : Heap} {S : List Str}
def spNotes (K : PySem.W.Frag) (S : List Str) : Sp := fun vs H Q _ => ∃ (n dx d : Addr) (kvs : KD), vs = [.ref n, .ref d] ∧ H n = some (.ins (He.ga K "Notes") dx []) ∧ H d = some (.dK kvs) ∧ DI S kvs ∧ ∀ H' hd, Kp [n] H H' → H hd = none → NotesA K S H' n hd (dv kvs) → Q .non H'
theorem dv_zero {kvs kvs' : KD} (h : ∀ s, lk kvs' s = if lk kvs s = some 0 then none else lk kvs s) (s : Str) : lk kvs' s = if dv kvs s = 0 then none else some (dv kvs s) := by
  rw [h s]
  unfold dv
  cases e : lk kvs s with
  | none => rfl
  | some i =>
    show (if some i = some 0 then none else some i) = if i = 0 then none else some i
    by_cases c : i = 0
    · rw [if_pos c, if_pos (by rw [c])]
    · rw [if_neg c, if_neg fun z => c (Option.some.inj z)]
theorem ok_notes (T : TX K mg) (hS : SOk S) : Ok P w K mg base CX0 3 a_Notes_init p_Notes_init (spNotes K S) := by
  obtain ⟨fd, F⟩ := T.d.def_ 8 (d := d_Notes_init) rfl
  obtain ⟨_, O_order_key⟩ := ok_key (P := P) (w := w) (base := base) T
  obtain ⟨_, O_without_zeros⟩ := ok_zero (P := P) (w := w) (base := base) T hS
  have b : Binds K fd p_Notes_init [] := by
    obtain ⟨ds, r, b⟩ := FunD.binds1 (ps := p_Notes_init) F 2 1 (List.cons_ne_nil _ _) rfl (fun _ _ _ _ _ _ _ us its hl hi => match us, hl, its, hi with | [_, _], _, [_], _ => ⟨_, rfl, rfl⟩)
    cases r
    exact b
  refine ⟨fd, F.ok sc_Notes_init (fun vs H Q E h => ?_) (fun cdv A outer s H vs Q E hr h => ?_), b, F.kp⟩
  · obtain ⟨n, dx, d, kvs, rfl, _⟩ := h
    rfl
  · obtain ⟨n, dx, d, kvs, rfl, hn, hd, hI, k⟩ := h
    refine ⟨_, PSs.nox (pss_cons (ps_fld (pv 0) pe_dnewK rfl) (pss_cons (ps_if (pt_cmpR op_notN (pv 1) pe_non (nomark _))
      (pss_one (ps_fld (pv 0) (pcall O_without_zeros (hr.mono (by decide)) rfl (T.g_without_zeros) pass0 (pa_cons (pv 1) pa_nil)) rfl)) pss_nil)
      (pss_one (ps_fld (pv 0) (pcall O_order_key (hr.mono (by decide)) rfl (T.g_order_key) pass0 (pa_cons (pe_fldK (K := K) (pv 0)) pa_nil)) rfl)))), ?_⟩
    intro p hp
    have n1 : n ≠ p := ne_of_none hn hp
    have n2 : d ≠ p := ne_of_none hd hp
    have n3 : n ≠ d := ne_of hn hd (by intro z; cases z)
    refine ⟨_, rfl, n, _, dx, [], rfl, (by rw [upd_ne n1]; exact hn), T.c_Notes, T.n_Notes_held, (by show 0 < 1000; decide), _, rfl, rfl, _, rfl, iteT ?_⟩
    -- self.held = without_zeros(values)
    refine ⟨_, rfl, d, kvs, rfl, (by rw [upd_ne n3.symm, upd_ne n2]; exact hd), hI, fun q kvs' H1 e1 hq hq1 hI1 hl1 => ?_⟩
    have b1 : Kp [n] H H1 := (((Kp.refl [n] H).new hp).upd (on1 n)).ex e1
    have hn1 : H1 n = some (.ins (He.ga K "Notes") dx [(("held" : Str), .ref p)]) := e1 n _ upd_same
    have n4 : q ≠ n := by
      intro z
      rw [z, hn1] at hq1
      cases hq1
    refine ⟨_, rfl, n, _, dx, _, rfl, hn1, T.c_Notes, T.n_Notes_held, (by show 1 < 1000; decide), ?_⟩
    rw [put2]
    -- self.rank = order_key(self.held)
    refine ⟨_, rfl, n, _, dx, _, _, rfl, upd_same, T.c_Notes, T.n_Notes_held, look_held _ _, q, kvs', rfl, (by rw [upd_ne n4]; exact hq1), hI1.intD hS, Nat.le_trans (hI1.len hS) (by decide), fun t H2 e2 ht hR => ?_⟩
    refine ⟨_, rfl, n, _, dx, _, rfl, e2 n _ upd_same, T.c_Notes, T.n_Notes_rank, (by show 1 < 1000; decide), ?_⟩
    rw [put3]
    have hq0 : H q = none := by
      rw [upd_ne n4] at hq
      by_cases c : q = p
      · rw [c]
        exact hp
      · rw [upd_ne c] at hq
        exact hq
    have g2 : H2 q = some (.dK kvs') := e2 q _ (by rw [upd_ne n4]; exact hq1)
    refine k _ q (((b1.upd (on1 n)).ex e2).upd (on1 n)) hq0 ⟨dx, t, kvs', upd_same, by rw [upd_ne n4]; exact g2, hI1, fun s => dv_zero hl1 s⟩
def spGet (K : PySem.W.Frag) (S : List Str) : Sp := fun vs H Q _ => ∃ (n hd : Addr) (s : Str) (f : Str → Int), vs = [.ref n, .str s] ∧ NotesA K S H n hd f ∧ Q (.int (f s)) H
theorem NotesA.get {H : Hp} {n hd : Addr} {f : Str → Int} (h : NotesA K S H n hd f) (s : Str) : ∃ o, DGet H hd (.str s) o ∧ o.getD (.int 0) = .int (f s) := by
  obtain ⟨dx, t, kvs, q1, q2, q3, q4⟩ := h
  refine ⟨_, DGet.k (k := Sum.inr s) q2, ?_⟩
  rw [q3.val, q4 s]
  by_cases c : f s = 0
  · rw [if_pos c, c]
    rfl
  · rw [if_neg c]
    rfl
theorem ok_getitem (T : TX K mg) : Ok P w K mg base CX0 1 a_Notes_getitem p_Notes_getitem (spGet K S) := by
  obtain ⟨fd, F⟩ := T.d.def_ 9 (d := d_Notes_getitem) rfl
  have b : Binds K fd p_Notes_getitem [] := FunD.bindsN F fun _ _ _ _ _ _ us hl => match us, hl with | [_, _], _ => rfl
  refine ⟨fd, F.ok sc_Notes_getitem (fun vs H Q E h => ?_) (fun cdv A outer s H vs Q E hr h => ?_), b, F.kp⟩
  · obtain ⟨n, hd, s, f, rfl, _⟩ := h
    rfl
  · obtain ⟨n, hd, z, f, rfl, hN, k⟩ := h
    refine ⟨_, PSs.nox (pss_one (ps_ret (pe_dget2 (hu_of hr) (pe_fldK (K := K) (pv 0)) (pv 1) pe_int ⟨rfl, rfl, rfl, rfl⟩))), ?_⟩
    obtain ⟨o, g, e⟩ := hN.get z
    obtain ⟨dx, t, kvs, q1, q2, q3, q4⟩ := id hN
    refine ⟨_, rfl, n, _, dx, _, _, rfl, q1, T.c_Notes, T.n_Notes_held, look_held _ _, hd, rfl, .inl ⟨kvs, .inl q2⟩, _, rfl, o, g, ?_⟩
    rw [e]
    exact k
def spSet (K : PySem.W.Frag) (S : List Str) : Sp := fun vs H Q _ => ∃ (n hd : Addr) (s : Str) (i : Int) (f : Str → Int), vs = [.ref n, .str s, .int i] ∧ NotesA K S H n hd f ∧ s ∈ S ∧
  ∀ H' hd', Kp [n, hd] H H' → H hd' = none → NotesA K S H' n hd' (fun x => if x = s then i else f x) → Q .non H'
theorem ok_setitem (T : TX K mg) (hS : SOk S) : Ok P w K mg base CX0 3 a_Notes_setitem p_Notes_setitem (spSet K S) := by
  obtain ⟨fd, F⟩ := T.d.def_ 10 (d := d_Notes_setitem) rfl
  obtain ⟨_, O_order_key⟩ := ok_key (P := P) (w := w) (base := base) T
  obtain ⟨_, O_without_zeros⟩ := ok_zero (P := P) (w := w) (base := base) T hS
  have b : Binds K fd p_Notes_setitem [] := FunD.bindsN F fun _ _ _ _ _ _ us hl => match us, hl with | [_, _, _], _ => rfl
  refine ⟨fd, F.ok sc_Notes_setitem (fun vs H Q E h => ?_) (fun cdv A outer s H vs Q E hr h => ?_), b, F.kp⟩
  · obtain ⟨n, hd, s, i, f, rfl, _⟩ := h
    rfl
  · obtain ⟨n, hd, z, i, f, rfl, hN, hz, k⟩ := h
    refine ⟨_, PSs.nox (pss_cons (ps_dput (hu_of hr) (pe_fldK (K := K) (pv 0)) (pv 1) (pv 2) rfl)
      (pss_cons (ps_fld (pv 0) (pcall O_without_zeros (hr.mono (by decide)) rfl (T.g_without_zeros) pass0 (pa_cons (pe_fldK (K := K) (pv 0)) pa_nil)) rfl)
      (pss_one (ps_fld (pv 0) (pcall O_order_key (hr.mono (by decide)) rfl (T.g_order_key) pass0 (pa_cons (pe_fldK (K := K) (pv 0)) pa_nil)) rfl)))), ?_⟩
    have nn := hN.ne
    obtain ⟨dx, t, kvs, q1, q2, q3, q4⟩ := id hN
    have hl := q3.len hS
    refine ⟨_, rfl, _, rfl, n, _, dx, _, _, rfl, q1, T.c_Notes, T.n_Notes_held, look_held _ _, _, rfl, hd, _, rfl, DPut.k (k := Sum.inr z) q2 (small' (by omega)), ?_⟩
    have p1 : (upd H hd (.dK (putK kvs (Sum.inr z) (.int i)))) n = some (.ins (He.ga K "Notes") dx (nfs hd t)) := by rw [upd_ne nn]; exact q1
    refine ⟨_, rfl, n, _, dx, _, _, rfl, p1, T.c_Notes, T.n_Notes_held, look_held _ _, hd, _, rfl, upd_same, q3.put hz i, fun q kvs' H1 e1 hq hq1 hI1 hl1 => ?_⟩
    have n4 : q ≠ n := fun c => by
      rw [c, p1] at hq
      cases hq
    have n5 : q ≠ hd := fun c => by
      rw [c, upd_same] at hq
      cases hq
    have hq0 : H q = none := by
      rw [upd_ne n5] at hq
      exact hq
    refine ⟨_, rfl, n, _, dx, _, rfl, e1 n _ p1, T.c_Notes, T.n_Notes_held, (by show 2 < 1000; decide), ?_⟩
    rw [show putF ("held" : Str) (V.ref q) (nfs hd t) = nfs q t from put2' _ _ _]
    refine ⟨_, rfl, n, _, dx, _, _, rfl, upd_same, T.c_Notes, T.n_Notes_held, look_held _ _, q, kvs', rfl, (by rw [upd_ne n4]; exact hq1), hI1.intD hS, Nat.le_trans (hI1.len hS) (by decide), fun t2 H2 e2 ht hR => ?_⟩
    refine ⟨_, rfl, n, _, dx, _, rfl, e2 n _ upd_same, T.c_Notes, T.n_Notes_rank, (by show 2 < 1000; decide), ?_⟩
    rw [put4]
    have m1 : n ∈ [n, hd] := List.mem_cons_self
    have m2 : hd ∈ [n, hd] := List.mem_cons_of_mem _ (on1 hd)
    refine k _ q (((((Kp.refl [n, hd] H).upd m2).ex e1).upd m1).ex e2 |>.upd m1) hq0 ⟨dx, t2, kvs', upd_same, by rw [upd_ne n4]; exact e2 q _ (by rw [upd_ne n4]; exact hq1), hI1, fun s => ?_⟩
    rw [dv_zero hl1 s]
    have e3 : dv (putK kvs (Sum.inr z) (.int i)) s = if s = z then i else f s := by
      unfold dv
      rw [lk_put]
      by_cases c : s = z
      · rw [if_pos c, if_pos c]
        rfl
      · rw [if_neg c, if_neg c, q4 s]
        by_cases c2 : f s = 0
        · rw [if_pos c2, c2]
          rfl
        · rw [if_neg c2]
          rfl
    rw [e3]
/-- the names by order, those not 0 -/
def Ord (f : Str → Int) (ns : List Str) : Prop := (ns.Pairwise fun a b => ¬ b.cps.toList < a.cps.toList) ∧ ns.Nodup ∧ ∀ s, s ∈ ns ↔ f s ≠ 0
theorem Ord.uniq {f : Str → Int} {ns ms : List Str} (h : Ord f ns) (h' : Ord f ms) : ns = ms := sorted_uniq _ _ h.1 h'.1 h.2.1 h'.2.1 fun x => (h.2.2 x).trans (h'.2.2 x).symm
def spPairs (K : PySem.W.Frag) (S : List Str) : Sp := fun vs H Q _ => ∃ (n hd : Addr) (f : Str → Int), vs = [.ref n] ∧ NotesA K S H n hd f ∧ ∀ p rs ns H', Ex H H' → H p = none → H' p = some (.lst (rs.map V.ref)) → Ord f ns → ns.length ≤ 10 → (∀ s ∈ ns, s ∈ S) → PrsAt H' f rs ns → Q (.ref p) H'
theorem ok_pairs (T : TX K mg) (hS : SOk S) : Ok P w K mg base CX0 1 a_Notes_pairs p_Notes_pairs (spPairs K S) := by
  obtain ⟨fd, F⟩ := T.d.def_ 11 (d := d_Notes_pairs) rfl
  have b : Binds K fd p_Notes_pairs [] := FunD.bindsN F fun _ _ _ _ _ _ us hl => match us, hl with | [_], _ => rfl
  refine ⟨fd, F.ok sc_Notes_pairs (fun vs H Q E h => ?_) (fun cdv A outer s H vs Q E hr h => ?_), b, F.kp⟩
  · obtain ⟨n, hd, f, rfl, _⟩ := h
    rfl
  · obtain ⟨n, hd, f, rfl, hN, k⟩ := h
    refine ⟨_, PSs.nox (pss_one (ps_ret
      (pe_lc (own := [("name", 1)]) rfl sc_Notes_pairs.nd (pi_list (pe_callB (call_sortedD rfl) rfl (T.free_sorted) (by decide +kernel) (pa_cons (pe_fldK (K := K) (pv 0)) pa_nil))) (blkOk_by (own := [("name", 1)]) (N := n_Notes_pairs) (sc := defScope s_Notes_pairs) (by decide +kernel)) (fun _ _ _ _ _ => pg_name (i := 1) sc_Notes_pairs.nd rfl (Or.inl rfl)) (fun _ _ _ _ _ => pts_nil) (fun _ _ _ _ _ => (by exact (pe_tup (pa_cons (pv 1) (pa_cons (pe_dget (hu_of hr) (pe_fldK (K := K) (pv 0)) (pv 1) (fun _ _ => rfl)) pa_nil)))))))), ?_⟩
    obtain ⟨dx, t, kvs, q1, q2, q3, q4⟩ := id hN
    have hl := q3.len hS
    obtain ⟨ks, ek, lk', nk, hks⟩ := q3.keys
    refine ⟨_, rfl, n, _, dx, _, _, rfl, q1, T.c_Notes, T.n_Notes_held, look_held _ _, hd, kvs, ks, rfl, .inl q2, ek, by omega, fun ns p hp hsrt hnp => ⟨p, rfl, ⟨_, SqL.of upd_same⟩, fun D hD => ?_⟩⟩
    have mem : ∀ s, s ∈ ns ↔ f s ≠ 0 := by
      intro s
      rw [hp.mem_iff]
      have a1 : s ∈ ks ↔ (Sum.inr s : L2.Key) ∈ kvs.map (·.1) := by
        rw [ek]
        constructor
        · exact fun m => List.mem_map.mpr ⟨s, m, rfl⟩
        · intro m
          obtain ⟨x, hx, e⟩ := List.mem_map.mp m
          rw [← Sum.inr.inj e]
          exact hx
      rw [a1]
      constructor
      · intro m c
        have e := q4 s
        rw [if_pos c] at e
        have v := q3.val s
        rw [e] at v
        exact valV_not v m
      · intro c
        have e := q4 s
        rw [if_neg c] at e
        exact lk_in e
    have ord : Ord f ns := ⟨sorted_pw ns hsrt, hp.nodup_iff.mpr nk, mem⟩
    have lns : ns.length ≤ 10 := by
      have := hp.length_eq
      omega
    have e1 : Ex H (upd H p (.lst (ns.map V.str))) := (Ex.refl H).new hnp
    have fD : H D = none := e1.back hD
    have nD : p ≠ D := ne_of_none upd_same hD
    refine lc_list (K := K) (a := p) (xs := ns.map V.str) (fun i H' => ∃ rs : List Addr, H' D = some (.lst (rs.map V.ref)) ∧ Kp [D] (upd H p (.lst (ns.map V.str))) H' ∧ PrsAt H' f rs (ns.take i)) ⟨[], upd_same, (Kp.refl _ _).new hD, PrsAt.nil⟩ (fun i H' _ q => ?_) ?_ ?_
    · obtain ⟨rs, _, e, _⟩ := q
      exact SqL.of (e p _ upd_same (off1 nD))
    · rintro i x H2 hx ⟨rs, hr1, e, hr⟩
      obtain ⟨s, hs, rfl⟩ := map_at hx
      have ms : s ∈ ns := List.mem_of_getElem? hs
      have hd2 : H2 hd = some (.dK kvs) := e hd _ (e1 hd _ q2) (off1 (ne_of_none (e1 hd _ q2) hD))
      have hn2 : H2 n = some (.ins (He.ga K "Notes") dx (nfs hd t)) := e n _ (e1 n _ q1) (off1 (ne_of_none (e1 n _ q1) hD))
      have hv : valV kvs (Sum.inr s) = some (V.int (f s)) := by
        rw [q3.val, q4 s, if_neg ((mem s).mp ms)]
        rfl
      have dg : DGet H2 hd (V.str s) (some (V.int (f s))) := .inl ⟨kvs, Sum.inr s, .inl hd2, rfl, hv.symm⟩
      refine ⟨rfl, ?_⟩
      refine ⟨_, rfl, _, rfl, n, _, dx, _, _, rfl, hn2, T.c_Notes, T.n_Notes_held, look_held _ _, _, rfl, hd, _, rfl, dg, small (by show 2 ≤ 100000; decide), fun q hq => ?_⟩
      have nq : q ≠ D := fun z => by
        rw [z, hr1] at hq
        cases hq
      have lr : rs.length ≤ 10 := by
        have q2 := hr.1
        rw [List.length_take] at q2
        omega
      refine ⟨rs.map V.ref, by rw [upd_ne nq.symm]; exact hr1, by rw [List.length_map]; exact small' (by omega), rs ++ [q], ?_, (e.new hq).upd (on1 D), ?_⟩
      · rw [upd_same, List.map_append]
        rfl
      · rw [take_snoc hs]
        have e5 : Kp [D] H2 (upd (upd H2 q (.tup [.str s, .int (f s)])) D (.lst (rs.map V.ref ++ [V.ref q]))) := ((Kp.refl [D] H2).new hq).upd (on1 D)
        exact (hr.kp e5 hr1).snoc (by rw [upd_ne nq, upd_same])
    · rintro H2 ⟨rs, hr1, e, hr⟩
      rw [List.length_map, List.take_length] at hr
      exact k D rs ns H2 (fun b o q => e b o (e1 b o q) (off1 (ne_of_none q fD))) fD hr1 ord lns (fun s m => hks s (hp.mem_iff.mp m)) hr
/-! ### copied -/
def spCopied (K : PySem.W.Frag) (S : List Str) : Sp := fun vs H Q _ => ∃ (n hd : Addr) (f : Str → Int), vs = [.ref n] ∧ NotesA K S H n hd f ∧ ∀ m hd' H', Ex H H' → H m = none → H hd' = none → NotesA K S H' m hd' f → Q (.ref m) H'
theorem ok_copied (T : TX K mg) (hS : SOk S) : Ok P w K mg base CX0 5 a_copied p_copied (spCopied K S) := by
  obtain ⟨fd, F⟩ := T.d.def_ 43 (d := d_copied) rfl
  obtain ⟨_, O_Notes_init⟩ := ok_notes (P := P) (w := w) (base := base) T hS
  obtain ⟨_, O_Notes_pairs⟩ := ok_pairs (P := P) (w := w) (base := base) T hS
  have b : Binds K fd p_copied [] := FunD.bindsN F fun _ _ _ _ _ _ us hl => match us, hl with | [_], _ => rfl
  refine ⟨fd, F.ok sc_copied (fun vs H Q E h => ?_) (fun cdv A outer s H vs Q E hr h => ?_), b, F.kp⟩
  · obtain ⟨n, hd, f, rfl, _⟩ := h
    rfl
  · obtain ⟨n, hd, f, rfl, hN, k⟩ := h
    refine ⟨_, PSs.nox (pss_one (ps_ret (pmake T.mk_Notes O_Notes_init (hr.mono (by decide)) rfl (T.g_Notes) pass0 (pa_cons
      (pe_dc (own := [("name", 1), ("number", 2)]) rfl sc_copied.nd (pi_list (pe_meth0 (pv 0) T.c_Notes T.m_Notes_pairs O_Notes_pairs.fn (hr.mono (by decide)) O_Notes_pairs.b .nil pass0)) (blkOk_by (own := [("name", 1), ("number", 2)]) (N := n_copied) (sc := defScope s_copied) (by decide +kernel)) (fun _ _ _ _ _ => (pg_tupK (K := K) (n := 2) (pgs_cons (pg_name (i := 1) sc_copied.nd rfl (Or.inl rfl)) (pgs_cons (pg_name (i := 2) sc_copied.nd rfl (Or.inl rfl)) pgs_nil)))) (fun _ _ _ _ _ => pts_nil) (fun _ _ _ _ _ => (pv 1)) (fun _ _ _ _ _ => (pv 2))) pa_nil)))), ?_⟩
    obtain ⟨dx, t, kvs, q1, q2, q3, q4⟩ := id hN
    refine ⟨_, rfl, n, dx, _, rfl, q1, no_pairs hd t, n, hd, f, rfl, hN, fun p rs ns H1 e1 hp0 hp ord lns hns hr => ⟨p, rfl, ⟨_, SqL.of hp⟩, fun D hD => ?_⟩⟩
    have nD : p ≠ D := ne_of_none hp hD
    have fD := e1.back hD
    refine dc_it (walk_list (K := K) (a := p) (xs := rs.map V.ref)) (fun i H' => ∃ ls : KD, H' D = some (.dK ls) ∧ DI S ls ∧ (∀ s, lk ls s = if s ∈ ns.take i then some (f s) else none) ∧ Kp [D] H1 H') ⟨[], upd_same, DI.nil, (fun s => (if_neg List.not_mem_nil).symm), (Kp.refl _ _).new hD⟩ (fun i H' _ q => ?_) ?_ ?_
    · obtain ⟨ls, _, _, _, e⟩ := q
      exact SqL.of (e p _ hp (off1 nD))
    · rintro i x H2 H3 hi ⟨ls, hl1, hI, hlk, e⟩ ⟨rfl, hx⟩
      obtain ⟨r, hr', rfl⟩ := map_at hx
      have hi2 : i < ns.length := by
        rw [← hr.1]
        exact (List.getElem?_eq_some_iff.mp hr').1
      have hs := List.getElem?_eq_getElem hi2
      have g := hr.2 i r _ hr' hs
      have g3 : H3 r = some (.tup [.str ns[i], .int (f ns[i])]) := e r _ g (off1 (ne_of_none g hD))
      have ms : ns[i] ∈ ns := List.mem_of_getElem? hs
      have nz := (ord.2.2 _).mp ms
      have tk : ∀ z, z ∈ ns.take (i + 1) ↔ (z ∈ ns.take i ∨ z = ns[i]) := fun z => by
        rw [take_snoc hs, List.mem_append, List.mem_singleton]
      have len : ls.length ≤ 10 := hI.len hS
      refine ⟨r, [.str ns[i], .int (f ns[i])], rfl, SqT.of g3, rfl, _, _, rfl, _, _, rfl, rfl, ?_⟩
      refine ⟨rfl, ?_⟩
      refine ⟨_, rfl, _, rfl, ls, Sum.inr ns[i], rfl, hl1, small' (by omega), _, upd_same, hI.put (hns _ ms) _, fun z => ?_, e.upd (on1 D)⟩
      rw [lk_put, hlk z]
      by_cases c : z = ns[i]
      · rw [if_pos c, if_pos ((tk z).mpr (.inr c)), c]
      · rw [if_neg c]
        by_cases c2 : z ∈ ns.take i
        · rw [if_pos c2, if_pos ((tk z).mpr (.inl c2))]
        · rw [if_neg c2, if_neg fun m => ((tk z).mp m).elim c2 c]
    · rintro H2 ⟨ls, hl1, hI, hlk, e⟩
      rw [List.length_map, hr.1, List.take_length] at hlk
      intro m dx2 hm hdx hne
      have e2 : Ex H H2 := fun b o q => e b o (e1 b o q) (off1 (ne_of_none q fD))
      have m1 : (upd H2 dx2 (.own m)) m = none := by rw [upd_ne hne.symm]; exact hm
      have e3 : Ex H2 (upd (upd H2 dx2 (.own m)) m (.ins (He.ga K "Notes") dx2 [])) := ((Ex.refl H2).new hdx).new m1
      refine ⟨m, dx2, D, ls, rfl, upd_same, e3 D _ hl1, hI, fun H4 hd' k4 hd0 N4 => ⟨rfl, ?_⟩⟩
      have e4 : Ex H H4 := fun b o q => k4 b o (e3 b o (e2 b o q)) (off1 (ne_of_none (e2 b o q) hm))
      have fm : H m = none := e2.back hm
      have fh : H hd' = none := (e2.trans e3).back hd0
      refine k m hd' H4 e4 fm fh (N4.congr fun s => ?_)
      unfold dv
      rw [hlk s]
      by_cases c : s ∈ ns
      · rw [if_pos c]
        rfl
      · rw [if_neg c]
        have : f s = 0 := by
          by_cases c2 : f s = 0
          · exact c2
          · exact absurd ((ord.2.2 s).mpr c2) c
        rw [this]
        rfl
end
end Sk
set_option Elab.async false
set_option linter.all false
set_option maxRecDepth 100000
set_option maxHeartbeats 4000000
namespace Sk
open PySem L2
/-! ### what a change is -/
/-- names, each with set (true) or add, and an integer -/
abbrev Chg := List (Str × Bool × Int)
def kindS (b : Bool) : Str := if b = true then "set" else "add"
def opA (o : Option (Bool × Int)) (x : Int) : Int := match o with
  | none => x
  | some (true, k) => k
  | some (false, k) => x + k
def act (L : Chg) (f : Str → Int) (s : Str) : Int := opA (L.lookup s) (f s)
def ItA (H : Hp) (r : Addr) (x : Str × Bool × Int) : Prop := H r = some (.tup [.str x.1, .str (kindS x.2.1), .int x.2.2])
def ChL (H : Hp) (t : Addr) (L : Chg) : Prop := ∃ rs : List Addr, H t = some (.tup (rs.map V.ref)) ∧ rs.length = L.length ∧ ∀ (i : Nat) r x, rs[i]? = some r → L[i]? = some x → ItA H r x
def LOk (S : List Str) (L : Chg) : Prop := (L.map (·.1)).Nodup ∧ ∀ x ∈ L, x.1 ∈ S
def ChgAt (K : PySem.W.Frag) (S : List Str) (H : Hp) (c : Addr) (L : Chg) : Prop := ∃ dx t, H c = some (.ins (He.ga K "Change") dx [("listed", .ref t)]) ∧ ChL H t L ∧ LOk S L
theorem kp1_tup {H H' : Hp} {D a : Addr} {xs : List V} {o : HO} (e : Kp [D] H H') (h : H a = some (.tup xs)) (hD : H D = some o) (ho : ∀ ys, o ≠ .tup ys) : H' a = some (.tup xs) := e _ _ h (off1 fun z => by
  rw [z, hD] at h
  exact ho xs (Option.some.inj h))
theorem ChL.ex {H H' : Hp} {t : Addr} {L : Chg} (h : ChL H t L) (e : Ex H H') : ChL H' t L := by
  obtain ⟨rs, h1, h2, h3⟩ := h
  exact ⟨rs, e _ _ h1, h2, fun i r x a b => e _ _ (h3 i r x a b)⟩
theorem ChL.kp {H H' : Hp} {t D : Addr} {L : Chg} {o : HO} (h : ChL H t L) (e : Kp [D] H H') (hD : H D = some o) (ho : ∀ ys, o ≠ .tup ys) : ChL H' t L := by
  obtain ⟨rs, h1, h2, h3⟩ := h
  exact ⟨rs, kp1_tup e h1 hD ho, h2, fun i r x a b => kp1_tup e (h3 i r x a b) hD ho⟩
theorem ChgAt.ex {K : PySem.W.Frag} {S : List Str} {H H' : Hp} {c : Addr} {L : Chg} (h : ChgAt K S H c L) (e : Ex H H') : ChgAt K S H' c L := by
  obtain ⟨dx, t, h1, h2, h3⟩ := h
  exact ⟨dx, t, e _ _ h1, h2.ex e, h3⟩
theorem LOk.len {S : List Str} {L : Chg} (h : LOk S L) (hS : SOk S) : L.length ≤ 10 := by
  have q := nodup_len (L.map (·.1)) S h.1 fun x m => by
    obtain ⟨y, hy, e⟩ := List.mem_map.mp m
    rw [← e]
    exact h.2 y hy
  rw [List.length_map] at q
  have := hS.1
  omega
theorem look_cons (x : Str × Bool × Int) (L : Chg) (s : Str) : (x :: L).lookup s = if s = x.1 then some x.2 else L.lookup s := by
  obtain ⟨n, v⟩ := x
  show (match s == n with | true => some v | false => L.lookup s) = _
  by_cases c : s = n
  · rw [if_pos c, beq_iff_eq.mpr c]
  · rw [if_neg c, beq_eq_false_iff_ne.mpr c]
theorem look_none : ∀ (L : Chg) (s : Str), s ∉ L.map (·.1) → L.lookup s = none
  | [], _, _ => rfl
  | x :: L, s, h => by
    rw [look_cons, if_neg fun c => h (by rw [c]; exact List.mem_cons_self)]
    exact look_none L s fun m => h (List.mem_cons_of_mem _ m)
theorem look_snoc : ∀ (L : Chg) (x : Str × Bool × Int) (s : Str), x.1 ∉ L.map (·.1) → (L ++ [x]).lookup s = if s = x.1 then some x.2 else L.lookup s
  | [], x, s, _ => look_cons x [] s
  | y :: L, x, s, h => by
    rw [List.cons_append, look_cons, look_cons, look_snoc L x s fun m => h (List.mem_cons_of_mem _ m)]
    by_cases c : s = y.1
    · rw [if_pos c, if_pos c, if_neg fun z => h (by rw [← z, c]; exact List.mem_cons_self)]
    · rw [if_neg c, if_neg c]
theorem LOk.fresh {S : List Str} {L : Chg} (h : LOk S L) {i : Nat} {x : Str × Bool × Int} (e : L[i]? = some x) : x.1 ∉ (L.take i).map (·.1) := by
  intro m
  have n := h.1
  have hl := (List.getElem?_eq_some_iff.mp e).1
  rw [← List.take_append_drop i L, List.map_append] at n
  have q := (List.nodup_append.mp n).2.2 x.1 m x.1
  refine q (List.mem_map.mpr ⟨x, ?_, rfl⟩) rfl
  rw [List.drop_eq_getElem_cons hl]
  have e2 : L[i] = x := (List.getElem?_eq_some_iff.mp e).2
  rw [e2]
  exact List.mem_cons_self
theorem kind_inj (b : Bool) : decide (V.str (kindS b) = V.str "add") = !b := by
  cases b <;> decide +kernel
theorem kind_inj' (b : Bool) : decide (V.str (kindS b) = V.str "set") = b := by
  cases b <;> decide +kernel
theorem paired_of {α β : Type} {R : α → β → Prop} : ∀ {l : List α} {m : List β}, l.length = m.length → (∀ (i : Nat) x y, l[i]? = some x → m[i]? = some y → R x y) → Paired R l m
  | [], [], _, _ => .nil
  | x :: l, y :: m, hl, h => .cons (h 0 x y rfl rfl) (paired_of (Nat.succ.inj hl) fun i a b p q => h (i + 1) a b p q)
section
variable {P : Program} {w : World} {K : PySem.W.Frag} {mg : Str → Option Value} {base : Heap} {S : List Str}
def spChanged (S : List Str) : Sp := fun vs H Q _ => ∃ (d t : Addr) (kvs : KD) (L : Chg), vs = [.ref d, .ref t] ∧ H d = some (.dK kvs) ∧ DI S kvs ∧ ChL H t L ∧ LOk S L ∧
  ∀ p kvs' H', Ex H H' → H p = none → H' p = some (.dK kvs') → DI S kvs' → (∀ s, dv kvs' s = act L (dv kvs) s) → Q (.ref p) H'
theorem ok_changed (T : TX K mg) (hS : SOk S) : Ok P w K mg base CX0 1 a_changed p_changed (spChanged S) := by
  obtain ⟨fd, F⟩ := T.d.def_ 2 (d := d_changed) rfl
  have b : Binds K fd p_changed [] := FunD.bindsN F fun _ _ _ _ _ _ us hl => match us, hl with | [_, _], _ => rfl
  refine ⟨fd, F.ok sc_changed (fun vs H Q E h => ?_) (fun cdv A outer s H vs Q E hr h => ?_), b, F.kp⟩
  · obtain ⟨d, t, kvs, L, rfl, _⟩ := h
    rfl
  · obtain ⟨d, t, kvs, L, rfl, hd, hI, hL, lok, k⟩ := h
    have hl := hI.len hS
    refine ⟨_, PSs.nox (pss_cons (ps_set (i := 2) sc_changed.nd rfl (Or.inl rfl) (pe_callTy (call_dictP rfl) rfl (T.free_dict) (by decide +kernel) (pa_cons (pe_lock
      (pe_lc (own := [("name", 3)]) rfl sc_changed.nd (pi_keys (pv 0)) (blkOk_by (own := [("name", 3)]) (N := n_changed) (sc := defScope s_changed) (by decide +kernel)) (fun _ _ _ _ _ => pg_name (i := 3) sc_changed.nd rfl (Or.inl rfl)) (fun _ _ _ _ _ => pts_nil) (fun _ _ _ _ _ => (by exact (pe_tup (pa_cons (pv 3) (pa_cons (pe_dget (hu_of hr) (pv 0) (pv 3) (fun _ _ => rfl)) pa_nil))))))) pa_nil)))
      (pss_cons
      (ps_for PassesOwn.never rfl (pi_tup (pv 1)) (pg_tupK (K := K) (n := 3) (pgs_cons (pg_name (i := 3) sc_changed.nd rfl (Or.inl rfl)) (pgs_cons (pg_name (i := 4) sc_changed.nd rfl (Or.inl rfl)) (pgs_cons (pg_name (i := 5) sc_changed.nd rfl (Or.inl rfl)) pgs_nil))))
      (pss_one (ps_if (pt_cmpR op_eq (pv 4) pe_str (nomark _))
      (pss_one (ps_dput (hu_of hr) (pv 2) (pv 3) (pe_op op_add (pe_dget2 (hu_of hr) (pv 2) (pv 3) pe_int ⟨rfl, rfl, rfl, rfl⟩) (pv 5)) rfl))
      (pss_one (ps_dput (hu_of hr) (pv 2) (pv 3) (pv 5) rfl))))) (pss_one (ps_ret (pv 2))))), ?_⟩
    refine ⟨d, _, hd, trivial, fun od => ⟨_, rfl, d, od, rfl, .inl ⟨kvs, upd_same, fun D hD => ?_⟩⟩⟩
    have nd : d ≠ D := ne_of_none upd_same hD
    have e0 : Ex H (upd H d (.dK kvs)) := fun b o q => by
      by_cases c : b = d
      · rw [c, upd_same, ← hd, ← c]
        exact q
      · rw [upd_ne c]
        exact q
    refine lc_it walk_keys (fun i H' => ∃ ps : List Addr, H' D = some (.lst (ps.map V.ref)) ∧ Kp [D] (upd H d (.frz od (.dK kvs))) H' ∧ ps.length = i ∧ ∀ (j : Nat) p kv, ps[j]? = some p → kvs[j]? = some kv → H' p = some (.tup [kV kv.1, kv.2])) ⟨[], upd_same, (Kp.refl _ _).new hD, rfl, fun j p kv a _ => by cases a⟩ (fun i H' _ p => ?_) ?_ ?_
    · obtain ⟨ps, _, e, _⟩ := p
      exact e d _ upd_same (off1 nd)
    · rintro i x H1 H2 hi ⟨ps, hn, e, hnl, hp⟩ ⟨rfl, ky, v, hv, rfl⟩
      have hj := val_at hI.2 hv
      have dg : DGet H2 d (kV ky) (some v) := .inl ⟨kvs, ky, .inr ⟨od, e d _ upd_same (off1 nd)⟩, rfl, hj.symm⟩
      have hil : i < kvs.length := hi
      refine ⟨rfl, ?_⟩
      refine ⟨_, rfl, _, rfl, _, rfl, d, _, rfl, dg, small (by show 2 ≤ 100000; decide), fun q hq => ?_⟩
      have nq : q ≠ D := fun z => by
        rw [z, hn] at hq
        cases hq
      refine ⟨ps.map V.ref, by rw [upd_ne nq.symm]; exact hn, by rw [List.length_map]; exact small' (by omega), ps ++ [q], ?_, (e.new hq).upd (on1 D), by rw [List.length_append, hnl]; rfl, fun j p kv a b => ?_⟩
      · rw [upd_same, List.map_append]
        rfl
      · have e5 : Kp [D] H2 (upd (upd H2 q (.tup [kV ky, v])) D (.lst (ps.map V.ref ++ [V.ref q]))) := ((Kp.refl [D] H2).new hq).upd (on1 D)
        rcases snoc_at a with a | ⟨a, e3⟩
        · exact kp1_tup e5 (hp j p kv a b) hn (fun ys z => by cases z)
        · rw [a, hnl, hv] at b
          cases b
          rw [← e3, upd_ne nq, upd_same]
    · rintro H' ⟨ps, hn, e, hnl, hp⟩
      have nD : D ≠ d := nd.symm
      refine ⟨e d _ upd_same (off1 nd), ?_⟩
      have e1 : Ex H (upd H' d (.dK kvs)) := ex_unlock hd hD e
      have g1 : (upd H' d (.dK kvs)) D = some (.lst (ps.map V.ref)) := by rw [upd_ne nD]; exact hn
      have hp' : ∀ (j : Nat) p kv, ps[j]? = some p → kvs[j]? = some kv → (upd H' d (.dK kvs)) p = some (.tup [kV kv.1, kv.2]) := fun j p kv a b => by
        have q := hp j p kv a b
        have n : p ≠ d := ne_of q (e d _ upd_same (off1 nd)) (by intro z; cases z)
        rw [upd_ne n]
        exact q
      have fD : H D = none := by
        rw [upd_ne nD] at hD
        exact hD
      refine ⟨D, ps, kvs, rfl, SqL.of g1, paired_of hnl fun j p kv a b => SqT.of (hp' j p kv a b), fun p hpn => ?_⟩
      have e2 : Ex H (upd (upd H' d (.dK kvs)) p (.dK (mergeK [] kvs))) := e1.new hpn
      have fp : H p = none := e1.back hpn
      have g2 : (upd (upd H' d (.dK kvs)) p (.dK (mergeK [] kvs))) p = some (.dK kvs) := by
        rw [upd_same, mergeK_nodup kvs [] hI.2]
        rfl
      generalize upd (upd H' d (.dK kvs)) p (.dK (mergeK [] kvs)) = H2 at e2 g2
      -- the walk over what is listed
      obtain ⟨rs, ht, hrl, hrs⟩ := hL.ex e2
      have lL := lok.len hS
      have npt : t ≠ p := ne_of ht g2 (by intro z; cases z)
      refine ⟨_, rfl, t, rfl, ⟨_, SqT.of ht⟩, ?_⟩
      refine for_it (walk_tup (K := K) (a := t) (xs := rs.map V.ref)) (fun i σ H' => ∃ (ls : KD) (v3 v4 v5 : Option V), σ = [some (.ref d), some (.ref t), some (.ref p), v3, v4, v5] ∧ H' p = some (.dK ls) ∧ DI S ls ∧ (∀ s, dv ls s = act (L.take i) (dv kvs) s) ∧ Kp [p] H2 H')
        ⟨kvs, _, _, _, rfl, g2, hI, fun s => rfl, Kp.refl _ _⟩ (fun i σ H' _ q => ?_) ?_ ?_
      · obtain ⟨ls, _, _, _, _, _, _, _, e⟩ := q
        exact SqT.of (e t _ ht (off1 npt))
      · rintro i x σ H3 H4 hi ⟨ls, v3, v4, v5, rfl, hp3, hI3, hs3, e3⟩ ⟨rfl, hx⟩
        obtain ⟨r, hr', rfl⟩ := map_at hx
        have hiL : i < L.length := by
          rw [← hrl]
          exact (List.getElem?_eq_some_iff.mp hr').1
        have hLi := List.getElem?_eq_getElem hiL
        obtain ⟨⟨nm, kd, kk⟩, hLx⟩ : ∃ x, L[i] = x := ⟨_, rfl⟩
        rw [hLx] at hLi
        have g := hrs i r _ hr' hLi
        have g4 : H4 r = some (.tup [.str nm, .str (kindS kd), .int kk]) := kp1_tup e3 g g2 (fun ys z => by cases z)
        have mS : nm ∈ S := lok.2 _ (List.mem_of_getElem? hLi)
        have len3 := hI3.len hS
        refine ⟨r, _, rfl, SqT.of g4, rfl, _, _, rfl, _, _, rfl, _, _, rfl, rfl, ?_⟩
        have fin : ∀ z : Int, z = opA (some (kd, kk)) (dv ls nm) → (∃ (ls' : KD) (v3 v4 v5 : Option V), [some (V.ref d), some (.ref t), some (.ref p), some (.str nm), some (.str (kindS kd)), some (.int kk)] = [some (.ref d), some (.ref t), some (.ref p), v3, v4, v5] ∧
            (upd H4 p (.dK (putK ls (Sum.inr nm) (.int z)))) p = some (.dK ls') ∧ DI S ls' ∧ (∀ s, dv ls' s = act (L.take (i + 1)) (dv kvs) s) ∧ Kp [p] H2 (upd H4 p (.dK (putK ls (Sum.inr nm) (.int z))))) := by
          intro z hz
          refine ⟨_, _, _, _, rfl, upd_same, hI3.put mS z, fun s => ?_, e3.upd (on1 p)⟩
          have fr := lok.fresh hLi
          have ea : act (L.take (i + 1)) (dv kvs) s = if s = nm then opA (some (kd, kk)) (dv kvs s) else act (L.take i) (dv kvs) s := by
            unfold act
            rw [take_snoc hLi, look_snoc _ _ _ fr]
            by_cases c : s = nm
            · rw [if_pos c, if_pos c]
            · rw [if_neg c, if_neg c]
          rw [ea]
          show (lk (putK ls (Sum.inr nm) (.int z)) s).getD 0 = _
          rw [lk_put]
          by_cases c : s = nm
          · rw [if_pos c, if_pos c, hz, hs3 nm]
            have : act (L.take i) (dv kvs) nm = dv kvs nm := by
              unfold act
              rw [look_none _ _ fr]
              rfl
            rw [this, c]
            rfl
          · rw [if_neg c, if_neg c]
            exact hs3 s
        refine ⟨_, rfl, rfl, _, rfl, ite2 (fun c => ?_) (fun c => ?_)⟩
        · rw [kind_inj] at c
          have ekd : kd = false := by cases kd <;> first | rfl | cases c
          subst ekd
          refine ⟨_, rfl, p, rfl, .inl ⟨ls, .inl hp3⟩, _, rfl, _, DGet.k (k := Sum.inr nm) hp3, ?_⟩
          rw [hI3.val nm]
          refine ⟨_, rfl, dv ls nm, kk, ?_, rfl, ?_⟩
          · unfold dv
            cases lk ls nm <;> rfl
          · refine ⟨_, rfl, _, rfl, p, _, rfl, DPut.k (k := Sum.inr nm) hp3 (small' (by omega)), ?_⟩
            exact fin _ rfl
        · rw [kind_inj] at c
          have ekd : kd = true := by cases kd <;> first | rfl | exact absurd rfl c
          subst ekd
          refine ⟨_, rfl, _, rfl, _, rfl, p, _, rfl, DPut.k (k := Sum.inr nm) hp3 (small' (by omega)), ?_⟩
          exact fin _ rfl
      · rintro σ H3 ⟨ls, v3, v4, v5, rfl, hp3, hI3, hs3, e3⟩
        refine ⟨_, rfl, ?_⟩
        refine k p ls H3 (fun b o q => e3 b o (e2 b o q) (off1 (ne_of_none q fp))) fp hp3 hI3 fun s => ?_
        rw [List.length_map, hrl, List.take_length] at hs3
        exact hs3 s
end
end Sk
set_option Elab.async false
set_option linter.all false
set_option maxRecDepth 100000
set_option maxHeartbeats 4000000
namespace Sk
open PySem L2
/-! ### parts -/
def jn (o : Option (Bool × Int)) (b : Bool) (k : Int) : Bool × Int := match b, o with
  | false, some (b0, k0) => (b0, k0 + k)
  | b, _ => (b, k)
def TwA (H : Hp) (t : Addr) (x : Bool × Int) : Prop := H t = some (.tup [.str (kindS x.1), .int x.2])
def PartV (H : Hp) (v : V) (o : Option (Bool × Int)) : Prop := match o with
  | none => v = .non
  | some x => ∃ t, v = .ref t ∧ TwA H t x
/-- a dict of parts: g of each name -/
def PDf (S : List Str) (H : Hp) (d : Addr) (g : Str → Option (Bool × Int)) : Prop := ∃ kvs : KD, H d = some (.dK kvs) ∧ (kvs.map (·.1)).Nodup ∧ (∀ kv ∈ kvs, ∃ s ∈ S, kv.1 = Sum.inr s) ∧
  ∀ s, match g s with
    | none => valV kvs (Sum.inr s) = none
    | some x => ∃ t, valV kvs (Sum.inr s) = some (.ref t) ∧ TwA H t x
theorem TwA.ex {H H' : Hp} {t : Addr} {x : Bool × Int} (h : TwA H t x) (e : Ex H H') : TwA H' t x := e _ _ h
theorem PDf.val {S : List Str} {H : Hp} {d : Addr} {g : Str → Option (Bool × Int)} {kvs : KD} (q : ∀ s, match g s with
    | none => valV kvs (Sum.inr s) = none
    | some x => ∃ t, valV kvs (Sum.inr s) = some (.ref t) ∧ TwA H t x) (s : Str) : ∃ o, valV kvs (Sum.inr s) = o ∧ PartV H (o.getD .non) (g s) := by
  have z := q s
  cases e : g s with
  | none =>
    rw [e] at z
    exact ⟨_, rfl, by rw [z]; rfl⟩
  | some x =>
    rw [e] at z
    obtain ⟨t, z1, z2⟩ := z
    exact ⟨_, rfl, by rw [z1]; exact ⟨t, rfl, z2⟩⟩
theorem keys_len {S : List Str} {kvs : KD} (hS : SOk S) (n : (kvs.map (·.1)).Nodup) (h : ∀ kv ∈ kvs, ∃ s ∈ S, kv.1 = Sum.inr s) : kvs.length ≤ 10 := by
  have q := nodup_len (kvs.map (·.1)) (S.map (Sum.inr : Str → L2.Key)) n fun x m => by
    obtain ⟨y, hy, e⟩ := List.mem_map.mp m
    obtain ⟨s, hs, e2⟩ := h y hy
    rw [← e, e2]
    exact List.mem_map.mpr ⟨s, hs, rfl⟩
  rw [List.length_map, List.length_map] at q
  have := hS.1
  omega
theorem keys_str {S : List Str} {kvs : KD} (n : (kvs.map (·.1)).Nodup) (h : ∀ kv ∈ kvs, ∃ s ∈ S, kv.1 = Sum.inr s) : ∃ ks : List Str, kvs.map (·.1) = ks.map Sum.inr ∧ ks.length = kvs.length ∧ ks.Nodup ∧ ∀ s ∈ ks, s ∈ S := by
  have key : ∀ l : KD, (∀ kv ∈ l, ∃ s ∈ S, kv.1 = Sum.inr s) → ∃ ks : List Str, l.map (·.1) = ks.map Sum.inr ∧ ks.length = l.length ∧ ∀ s ∈ ks, s ∈ S := by
    intro l
    induction l with
    | nil => exact fun _ => ⟨[], rfl, rfl, fun s m => absurd m List.not_mem_nil⟩
    | cons kv r ih =>
      intro h
      obtain ⟨s, hs, e⟩ := h kv List.mem_cons_self
      obtain ⟨ks, e1, e2, e3⟩ := ih fun q m => h q (List.mem_cons_of_mem _ m)
      refine ⟨s :: ks, by rw [List.map_cons, List.map_cons, e1, e], congrArg Nat.succ e2, fun z m => ?_⟩
      rcases List.mem_cons.mp m with m | m
      · rw [m]
        exact hs
      · exact e3 z m
  obtain ⟨ks, e1, e2, e3⟩ := key kvs h
  rw [e1] at n
  exact ⟨ks, e1, e2, inr_nodup n, e3⟩
/-- one of the first i keys -/
def hasT (kvs : KD) (i : Nat) (s : Str) : Bool := (kvs.take i).any fun kv => decide (kv.1 = Sum.inr s)
theorem hasT_snoc {kvs : KD} {i : Nat} {nm : Str} {v : V} (hv : kvs[i]? = some (Sum.inr nm, v)) (s : Str) : hasT kvs (i + 1) s = true ↔ (hasT kvs i s = true ∨ s = nm) := by
  unfold hasT
  rw [take_snoc hv, List.any_append, Bool.or_eq_true]
  show _ ∨ (decide ((Sum.inr nm : L2.Key) = Sum.inr s) || false) = true ↔ _
  rw [Bool.or_false, decide_eq_true_iff]
  constructor
  · rintro (m | m)
    · exact .inl m
    · exact .inr (Sum.inr.inj m).symm
  · rintro (m | m)
    · exact .inl m
    · exact .inr (by rw [m])
theorem hasT_fresh {kvs : KD} {i : Nat} {nm : Str} {v : V} (n : (kvs.map (·.1)).Nodup) (hv : kvs[i]? = some (Sum.inr nm, v)) : ¬ hasT kvs i nm = true := by
  intro m
  obtain ⟨x, hx, e⟩ := List.any_eq_true.mp m
  have e := of_decide_eq_true e
  have hl := (List.getElem?_eq_some_iff.mp hv).1
  rw [← List.take_append_drop i kvs, List.map_append] at n
  have hm : (Sum.inr nm, v) ∈ kvs.drop i := by
    rw [List.drop_eq_getElem_cons hl, (List.getElem?_eq_some_iff.mp hv).2]
    exact List.mem_cons_self
  exact (List.nodup_append.mp n).2.2 (Sum.inr nm) (List.mem_map.mpr ⟨x, hx, e⟩) (Sum.inr nm) (List.mem_map.mpr ⟨(Sum.inr nm, v), hm, rfl⟩) rfl
/-- what a part leaves of itself in a change -/
def keepP (o : Option (Bool × Int)) : Option (Bool × Int) := match o with
  | some (false, k) => if k = 0 then none else some (false, k)
  | o => o
theorem opA_keep (o : Option (Bool × Int)) (x : Int) : opA (keepP o) x = opA o x := by
  match o with
  | none => rfl
  | some (true, k) => rfl
  | some (false, k) =>
    show opA (if k = 0 then none else some (false, k)) x = x + k
    by_cases c : k = 0
    · rw [if_pos c, c, Int.add_zero]
      rfl
    · rw [if_neg c]
      rfl
theorem look_map (h : Str → Bool × Int) : ∀ (l : List Str) (s : Str), (l.map fun x => (x, h x)).lookup s = if s ∈ l then some (h s) else none
  | [], s => rfl
  | x :: l, s => by
    rw [List.map_cons, look_cons, look_map h l s]
    by_cases c : s = x
    · rw [if_pos c, if_pos (by rw [c]; exact List.mem_cons_self), c]
    · rw [if_neg c]
      by_cases m : s ∈ l
      · rw [if_pos m, if_pos (List.mem_cons_of_mem _ m)]
      · rw [if_neg m, if_neg fun q => (List.mem_cons.mp q).elim c m]
section
variable {P : Program} {w : World} {K : PySem.W.Frag} {mg : Str → Option Value} {base : Heap} {S : List Str}
def spJoined : Sp := fun vs H Q _ => ∃ (part : V) (b : Bool) (k : Int) (o : Option (Bool × Int)), vs = [part, .str (kindS b), .int k] ∧ PartV H part o ∧ ∀ t H', Ex H H' → H t = none → TwA H' t (jn o b k) → Q (.ref t) H'
theorem ok_joined (T : TX K mg) : Ok P w K mg base CX0 1 a_joined p_joined spJoined := by
  obtain ⟨fd, F⟩ := T.d.def_ 4 (d := d_joined) rfl
  have b : Binds K fd p_joined [] := FunD.bindsN F fun _ _ _ _ _ _ us hl => match us, hl with | [_, _, _], _ => rfl
  refine ⟨fd, F.ok sc_joined (fun vs H Q E h => ?_) (fun cdv A outer s H vs Q E hr h => ?_), b, F.kp⟩
  · obtain ⟨part, b, k, o, rfl, _⟩ := h
    rfl
  · obtain ⟨part, b, kk, o, rfl, hp, k⟩ := h
    refine ⟨_, PSs.nox (pss_cons (ps_if (PW.pt (pw_and (pt_cmpR op_eq (pv 1) pe_str (nomark _)) (pw_and1 (pt_cmpR op_notN (pv 0) pe_non (nomark _)))))
      (pss_one (ps_ret (pe_tup (pa_cons (pe_ix (ix_tupK (K := K)) (pv 0) pe_int (fun _ _ => rfl)) (pa_cons (pe_op op_add (pe_ix (ix_tupK (K := K)) (pv 0) pe_int (fun _ _ => rfl)) (pv 2)) pa_nil))))) pss_nil)
      (pss_one (ps_ret (pe_tup (pa_cons (pv 1) (pa_cons (pv 2) pa_nil)))))), ?_⟩
    refine ⟨_, rfl, rfl, _, rfl, ?_⟩
    rw [kind_inj]
    cases b with
    | true =>
      refine nope ?_
      refine nope ?_
      refine ⟨_, rfl, _, rfl, small (by show 2 ≤ 100000; decide), fun t ht => ?_⟩
      exact k t _ ((Ex.refl H).new ht) ht upd_same
    | false =>
      refine yes ?_
      refine ⟨_, rfl, rfl, _, rfl, ?_⟩
      cases o with
      | none =>
        obtain rfl : part = .non := hp
        refine ite2 (fun c => ?_) (fun _ => ?_)
        · rw [decide_eq_true rfl] at c
          cases c
        refine ⟨_, rfl, _, rfl, small (by show 2 ≤ 100000; decide), fun t ht => ?_⟩
        exact k t _ ((Ex.refl H).new ht) ht upd_same
      | some x =>
        obtain ⟨t0, rfl, h0⟩ := hp
        refine ite2 (fun _ => ?_) (fun c => ?_)
        · refine ⟨_, rfl, t0, _, 0, _, rfl, rfl, SqT.of h0, rfl, ?_⟩
          refine ⟨_, rfl, t0, _, 1, _, rfl, rfl, SqT.of h0, rfl, _, rfl, _, _, rfl, rfl, small (by show 2 ≤ 100000; decide), fun t ht => ?_⟩
          exact k t _ ((Ex.refl H).new ht) ht upd_same
        · refine absurd ?_ c
          rw [decide_eq_false (fun z => by cases z)]
          rfl
def PtV (S : List Str) (H : Hp) (v : V) (g : Str → Option (Bool × Int)) : Prop := (v = .non ∧ ∀ s, g s = none) ∨ ∃ d, v = .ref d ∧ PDf S H d g
def spChg (K : PySem.W.Frag) (S : List Str) : Sp := fun vs H Q _ => ∃ (c dx : Addr) (v : V) (g : Str → Option (Bool × Int)), vs = [.ref c, v] ∧ H c = some (.ins (He.ga K "Change") dx []) ∧ PtV S H v g ∧
  ∀ H' L, Kp [c] H H' → ChgAt K S H' c L → (∀ s, L.lookup s = keepP (g s)) → Q .non H'
theorem PDf.put {H H' : Hp} {d : Addr} {kvs : KD} {g : Str → Option (Bool × Int)} (hS : (kvs.map (·.1)).Nodup) (hk : ∀ kv ∈ kvs, ∃ s ∈ S, kv.1 = Sum.inr s) (hv : ∀ s, match g s with
    | none => valV kvs (Sum.inr s) = none
    | some x => ∃ t, valV kvs (Sum.inr s) = some (.ref t) ∧ TwA H t x) (hH : ∀ t x, TwA H t x → TwA H' t x) {nm : Str} (hn : nm ∈ S) {t : Addr} {x : Bool × Int} (ht : TwA H' t x) (h' : H' d = some (.dK (putK kvs (Sum.inr nm) (.ref t)))) :
    PDf S H' d (fun s => if s = nm then some x else g s) := by
  refine ⟨_, h', put_nodup hS, fun kv m => ?_, fun s => ?_⟩
  · rcases putK_mem m with m | m
    · exact hk kv m
    · exact ⟨nm, hn, by rw [m]⟩
  · by_cases c : s = nm
    · simp only [if_pos c]
      refine ⟨t, ?_, ht⟩
      rw [valV_put, if_pos (by rw [c])]
    · simp only [if_neg c]
      have z := hv s
      rw [valV_put, if_neg (fun q => c (Sum.inr.inj q))]
      cases e : g s with
      | none =>
        rw [e] at z
        exact z
      | some y =>
        rw [e] at z
        obtain ⟨t', z1, z2⟩ := z
        exact ⟨t', z1, hH _ _ z2⟩
theorem ok_chg (T : TX K mg) (hS : SOk S) : ∃ fd, OkF P w K mg base CX0 1 a_Change_init fd p_Change_init (spChg K S) ∧ OkD P w K mg base CX0 1 a_Change_init fd p_Change_init (spChg K S) [.non] := by
  obtain ⟨fd, F⟩ := T.d.def_ 5 (d := d_Change_init) rfl
  have b : Binds K fd p_Change_init [] := by
    obtain ⟨ds, r, b⟩ := FunD.binds1 (ps := p_Change_init) F 2 1 (List.cons_ne_nil _ _) rfl (fun _ _ _ _ _ _ _ us its hl hi => match us, hl, its, hi with | [_, _], _, [_], _ => ⟨_, rfl, rfl⟩)
    cases r
    exact b
  have b1 : ∃ ds, Vals [V.non] ds ∧ Binds K fd p_Change_init ds := FunD.binds1 (ps := p_Change_init) F 1 0 (List.cons_ne_nil _ _) rfl (fun _ _ _ _ _ _ _ us its hl hi => match us, hl, its, hi with | [_], _, [_], _ => ⟨_, rfl, rfl⟩)
  have ok : FnOk P w K mg base CX0 1 (He.fAd K a_Change_init) fd p_Change_init (spChg K S) := by
    refine F.ok sc_Change_init (fun vs H Q E h => ?_) (fun cdv A outer s H vs Q E hr h => ?_)
    · obtain ⟨c, dx, v, g, rfl, _⟩ := h
      rfl
    · obtain ⟨c, dx, v, g, rfl, hc, hv, k⟩ := h
      refine ⟨_, PSs.nox (pss_cons (ps_set (i := 2) sc_Change_init.nd rfl (Or.inr rfl) pe_dnewK) (C8.pss_cut (ps_if (pt_cmpR op_notN (pv 1) pe_non (nomark _))
      (pss_one (ps_lock (ps_for PassesOwn.never rfl (pi_keys (pv 1)) (pg_name (i := 3) sc_Change_init.nd rfl (Or.inl rfl))
      (pss_cons (ps_asg (pe_dget (hu_of hr) (pv 1) (pv 3) (fun _ _ => rfl)) (pg_tupK (K := K) (n := 2) (pgs_cons (pg_name (i := 4) sc_Change_init.nd rfl (Or.inl rfl)) (pgs_cons (pg_name (i := 5) sc_Change_init.nd rfl (Or.inl rfl)) pgs_nil))))
      (pss_one (ps_if (PW.pt (pw_or (pt_cmpR op_eq (pv 4) pe_str (nomark _)) (pw_or1 (pt_cmpR op_ne (pv 5) pe_int (nomark _)))))
      (pss_one (ps_dput (hu_of hr) (pv 2) (pv 3) (pe_tup (pa_cons (pv 4) (pa_cons (pv 5) pa_nil))) rfl)) pss_nil)))))) pss_nil)
      (pss_one (ps_fld (pv 0) (pe_callTy call_tuple_of rfl (T.free_tuple) (by decide +kernel) (pa_cons
      (pe_lc (own := [("name", 3)]) rfl sc_Change_init.nd (pi_list (pe_callB (call_sortedD rfl) rfl (T.free_sorted) (by decide +kernel) (pa_cons (pv 2) pa_nil))) (blkOk_by (own := [("name", 3)]) (N := n_Change_init) (sc := defScope s_Change_init) (by decide +kernel)) (fun _ _ _ _ _ => pg_name (i := 3) sc_Change_init.nd rfl (Or.inl rfl)) (fun _ _ _ _ _ => pts_nil) (fun _ _ _ _ _ => (by exact (pe_tup (pa_cons (pv 3) (pa_cons (pe_ix (ix_tupK (K := K)) (pe_dget (hu_of hr) (pv 2) (pv 3) (fun _ _ => rfl)) pe_int (fun _ _ => rfl)) (pa_cons (pe_ix (ix_tupK (K := K)) (pe_dget (hu_of hr) (pv 2) (pv 3) (fun _ _ => rfl)) pe_int (fun _ _ => rfl)) pa_nil))))))) pa_nil)) rfl)))), ?_⟩
      intro kp hkp
      have nck : c ≠ kp := ne_of_none hc hkp
      have e0 : Ex H (upd H kp (.dK [])) := (Ex.refl H).new hkp
      refine ⟨fun σ H1 => ∃ v3 v4 v5, σ = [some (.ref c), some v, some (.ref kp), v3, v4, v5] ∧ Ex H H1 ∧ PDf S H1 kp (fun s => keepP (g s)), ?_, ?_⟩
      · refine ⟨_, rfl, rfl, _, rfl, ?_⟩
        rcases hv with ⟨rfl, hg⟩ | ⟨d, rfl, kvs, hd, hnd, hks, hvs⟩
        · refine ite2 (fun z => ?_) (fun _ => ?_)
          · rw [decide_eq_true rfl] at z
            cases z
          · refine ⟨_, _, _, rfl, e0, [], upd_same, .nil, fun kv m => absurd m List.not_mem_nil, fun s => ?_⟩
            have q : keepP (g s) = none := by rw [hg s]; rfl
            simp only [q]
            rfl
        · refine ite2 (fun _ => ?_) (fun z => ?_)
          · have hd0 := e0 d _ hd
            have nkd : d ≠ kp := ne_of_none hd hkp
            refine ⟨d, _, hd0, trivial, fun od => ⟨_, rfl, d, od, rfl, .inl ⟨kvs, upd_same, ?_⟩⟩⟩
            have hlk := keys_len hS hnd hks
            have eL : Ex H (upd (upd (upd H kp (.dK [])) d (.frz od (.dK kvs))) d (.dK kvs)) := fun b o q => by
              by_cases z : b = d
              · subst z
                rw [upd_same]
                rw [hd] at q
                exact q
              · rw [upd_ne z, upd_ne z]
                exact e0 b o q
            refine for_it walk_keys (fun i σ H' => ∃ v3 v4 v5, σ = [some (.ref c), some (.ref d), some (.ref kp), v3, v4, v5] ∧ Kp [kp] (upd (upd H kp (.dK [])) d (.frz od (.dK kvs))) H' ∧ PDf S H' kp (fun s => if hasT kvs i s = true then keepP (g s) else none))
              ⟨_, _, _, rfl, Kp.refl _ _, [], (by rw [upd_ne nkd.symm, upd_same]), .nil, fun kv m => absurd m List.not_mem_nil, fun s => rfl⟩ (fun i σ H' _ q => ?_) ?_ ?_
            · obtain ⟨_, _, _, _, e, _⟩ := q
              exact e d _ upd_same (off1 nkd)
            · rintro i x σ H3 H4 hi ⟨v3, v4, v5, rfl, e3, ls, hl4, hn4, hk4, hv4⟩ ⟨rfl, ky, v, hv, rfl⟩
              obtain ⟨nm, mS, eky⟩ := hks _ (List.mem_of_getElem? hv)
              have eky : ky = Sum.inr nm := eky
              subst eky
              have hj := val_at hnd hv
              have hfz : H4 d = some (.frz od (.dK kvs)) := e3 d _ upd_same (off1 nkd)
              have len4 := keys_len hS hn4 hk4
              obtain ⟨⟨kd, kk⟩, eg, t, ev, ht⟩ : ∃ x, g nm = some x ∧ ∃ t, v = .ref t ∧ TwA H t x := by
                have q := hvs nm
                cases eg : g nm with
                | none =>
                  rw [eg] at q
                  rw [q] at hj
                  cases hj
                | some x =>
                  rw [eg] at q
                  obtain ⟨t, q1, q2⟩ := q
                  rw [q1] at hj
                  exact ⟨x, rfl, t, (Option.some.inj hj).symm, q2⟩
              subst ev
              have ht0 : (upd H kp (.dK [])) t = some (.tup [.str (kindS kd), .int kk]) := e0 t _ ht
              have ntd : t ≠ d := ne_of ht hd (by intro z; cases z)
              have ht4 : H4 t = some (.tup [.str (kindS kd), .int kk]) := e3 t _ (by rw [upd_ne ntd]; exact ht0) (off1 (ne_of_none ht hkp))
              have tk := hasT_snoc hv
              have put : keepP (g nm) = some (kd, kk) → ∀ q, H4 q = none → (∃ w3 w4 w5, ([some (V.ref c), some (.ref d), some (.ref kp), some (.str nm), some (.str (kindS kd)), some (.int kk)] : L2.St) = [some (.ref c), some (.ref d), some (.ref kp), w3, w4, w5] ∧
                  Kp [kp] (upd (upd H kp (.dK [])) d (.frz od (.dK kvs))) (upd (upd H4 q (.tup [.str (kindS kd), .int kk])) kp (.dK (putK ls (Sum.inr nm) (.ref q)))) ∧ PDf S (upd (upd H4 q (.tup [.str (kindS kd), .int kk])) kp (.dK (putK ls (Sum.inr nm) (.ref q)))) kp (fun s => if hasT kvs (i + 1) s = true then keepP (g s) else none)) := by
                intro ekp q hq
                have nqk : q ≠ kp := fun z => by
                  rw [z, hl4] at hq
                  cases hq
                refine ⟨_, _, _, rfl, (e3.new hq).upd (on1 kp), ?_⟩
                have P := PDf.put (S := S) (H' := upd (upd H4 q (.tup [.str (kindS kd), .int kk])) kp (.dK (putK ls (Sum.inr nm) (.ref q)))) hn4 hk4 hv4 (fun t x h => kp1_tup (((Kp.refl [kp] H4).new hq).upd (on1 kp)) h hl4 (fun ys z => by cases z)) mS (t := q) (x := (kd, kk)) (by show _ = _; rw [upd_ne nqk, upd_same]) upd_same
                refine cast (congrArg (PDf S _ kp) (funext fun s => ?_)) P
                by_cases z : s = nm
                · subst z
                  rw [if_pos rfl, if_pos ((tk s).mpr (.inr rfl)), ekp]
                · rw [if_neg z]
                  by_cases z2 : hasT kvs i s = true
                  · rw [if_pos z2, if_pos ((tk s).mpr (.inl z2))]
                  · rw [if_neg z2, if_neg fun m => ((tk s).mp m).elim z2 z]
              refine ⟨_, rfl, _, rfl, d, _, rfl, .inl ⟨kvs, Sum.inr nm, .inr ⟨od, hfz⟩, rfl, hj.symm⟩, t, _, rfl, SqT.of ht4, rfl, _, _, rfl, _, _, rfl, rfl, ?_⟩
              refine ⟨_, rfl, rfl, _, rfl, ?_⟩
              rw [kind_inj']
              cases kd with
              | true =>
                refine yes ?_
                refine yes ?_
                refine ⟨_, rfl, _, rfl, small (by show 2 ≤ 100000; decide), fun q hq => ⟨_, rfl, _, rfl, kp, _, rfl, DPut.k (k := Sum.inr nm) (by rw [upd_ne (ne_of_none hl4 hq)]; exact hl4) (small' (by omega)), ?_⟩⟩
                exact put (by rw [eg]; rfl) q hq
              | false =>
                refine nope ?_
                refine ⟨_, rfl, rfl, _, rfl, ite2 (fun z => ?_) (fun z => ?_)⟩
                · have hk0 : kk ≠ 0 := fun q => by
                    rw [q, decide_eq_true rfl] at z
                    cases z
                  refine ⟨_, rfl, _, rfl, small (by show 2 ≤ 100000; decide), fun q hq => ⟨_, rfl, _, rfl, kp, _, rfl, DPut.k (k := Sum.inr nm) (by rw [upd_ne (ne_of_none hl4 hq)]; exact hl4) (small' (by omega)), ?_⟩⟩
                  exact put (by rw [eg]; show (if kk = 0 then none else some (false, kk)) = _; rw [if_neg hk0]) q hq
                · have hk0 : kk = 0 := by
                    by_cases q : kk = 0
                    · exact q
                    · refine absurd ?_ z
                      rw [decide_eq_false (fun y => q (V.int.inj y))]
                      rfl
                  subst hk0
                  refine ⟨_, _, _, rfl, e3, ls, hl4, hn4, hk4, fun s => ?_⟩
                  have q := hv4 s
                  show match (if hasT kvs (i + 1) s = true then keepP (g s) else none) with
                    | none => valV ls (Sum.inr s) = none
                    | some x => ∃ t, valV ls (Sum.inr s) = some (.ref t) ∧ TwA H4 t x
                  have q : match (if hasT kvs i s = true then keepP (g s) else none) with
                    | none => valV ls (Sum.inr s) = none
                    | some x => ∃ t, valV ls (Sum.inr s) = some (.ref t) ∧ TwA H4 t x := q
                  by_cases z : s = nm
                  · subst z
                    have fr := hasT_fresh hnd hv
                    rw [if_neg fr] at q
                    rw [if_pos ((tk s).mpr (.inr rfl)), eg]
                    exact q
                  · by_cases z2 : hasT kvs i s = true
                    · rw [if_pos z2] at q
                      rw [if_pos ((tk s).mpr (.inl z2))]
                      exact q
                    · rw [if_neg z2] at q
                      rw [if_neg fun m => ((tk s).mp m).elim z2 z]
                      exact q
            · rintro σ H3 ⟨v3, v4, v5, rfl, e3, hP⟩
              refine ⟨e3 d _ upd_same (off1 nkd), _, _, _, rfl, ?_, ?_⟩
              · intro b o q
                by_cases z : b = d
                · subst z
                  rw [upd_same]
                  rw [hd] at q
                  exact q
                · rw [upd_ne z]
                  exact e3 b o (by rw [upd_ne z]; exact e0 b o q) (off1 (ne_of_none q hkp))
              · obtain ⟨ls, hl4, hn4, hk4, hv4⟩ := hP
                refine ⟨ls, by rw [upd_ne nkd.symm]; exact hl4, hn4, hk4, fun s => ?_⟩
                have q : match (if hasT kvs kvs.length s = true then keepP (g s) else none) with
                    | none => valV ls (Sum.inr s) = none
                    | some x => ∃ t, valV ls (Sum.inr s) = some (.ref t) ∧ TwA H3 t x := hv4 s
                have eq : (if hasT kvs kvs.length s = true then keepP (g s) else none) = keepP (g s) := by
                  by_cases m : hasT kvs kvs.length s = true
                  · rw [if_pos m]
                  · rw [if_neg m]
                    have r := hvs s
                    cases eg : g s with
                    | none => rfl
                    | some x =>
                      rw [eg] at r
                      obtain ⟨t, r1, _⟩ := r
                      exact absurd (by unfold hasT; rw [List.take_length, valV_any, r1]; rfl) m
                rw [eq] at q
                show match keepP (g s) with
                  | none => valV ls (Sum.inr s) = none
                  | some x => ∃ t, valV ls (Sum.inr s) = some (.ref t) ∧ TwA (upd H3 d (.dK kvs)) t x
                cases ek : keepP (g s) with
                | none =>
                  rw [ek] at q
                  exact q
                | some x =>
                  rw [ek] at q
                  obtain ⟨t, q1, q2⟩ := q
                  refine ⟨t, q1, ?_⟩
                  show _ = _
                  rw [upd_ne (ne_of q2 (e3 d _ upd_same (off1 nkd)) (by intro z; cases z))]
                  exact q2
          · refine absurd ?_ z
            rw [decide_eq_false (fun y => by cases y)]
            rfl
      · rintro σ H1 ⟨v3, v4, v5, rfl, e1, ls, hl1, hn1, hk1, hv1⟩
        obtain ⟨ks, ek, elk, nk, hks⟩ := keys_str hn1 hk1
        have len1 := keys_len hS hn1 hk1
        refine ⟨_, rfl, kp, ls, ks, rfl, .inl hl1, ek, by omega, fun ys p hp hsrt hnp => ⟨p, rfl, ⟨_, SqL.of upd_same⟩, fun D hD => ?_⟩⟩
        have nD : p ≠ D := ne_of_none upd_same hD
        have e2 : Ex H1 (upd H1 p (.lst (ys.map V.str))) := (Ex.refl H1).new hnp
        have fD1 : H1 D = none := e2.back hD
        have hyl : ys.length = ks.length := hp.length_eq
        have inY : ∀ s, s ∈ ys ↔ ∃ x, keepP (g s) = some x := by
          intro s
          rw [hp.mem_iff]
          have a1 : s ∈ ks ↔ (Sum.inr s : L2.Key) ∈ ls.map (·.1) := by
            rw [ek]
            constructor
            · exact fun m => List.mem_map.mpr ⟨s, m, rfl⟩
            · intro m
              obtain ⟨x, hx, e⟩ := List.mem_map.mp m
              rw [← Sum.inr.inj e]
              exact hx
          rw [a1]
          have q := hv1 s
          constructor
          · intro m
            cases ek : keepP (g s) with
            | some x => exact ⟨x, rfl⟩
            | none =>
              simp only [ek] at q
              exact absurd m (valV_not q)
          · rintro ⟨x, ek⟩
            simp only [ek] at q
            obtain ⟨t, q1, _⟩ := q
            exact valV_in q1
        refine lc_list (K := K) (a := p) (xs := ys.map V.str) (fun i H' => ∃ rs : List Addr, H' D = some (.lst (rs.map V.ref)) ∧ Kp [D] (upd H1 p (.lst (ys.map V.str))) H' ∧ rs.length = i ∧ ∀ (j : Nat) r s, rs[j]? = some r → ys[j]? = some s → ItA H' r (s, (keepP (g s)).getD (false, 0))) ⟨[], upd_same, (Kp.refl _ _).new hD, rfl, fun j r s a _ => by cases a⟩ (fun i H' _ q => ?_) ?_ ?_
        · obtain ⟨rs, _, e, _⟩ := q
          exact SqL.of (e p _ upd_same (off1 nD))
        · rintro i x H2 hx ⟨rs, hr1, e, hrl, hr⟩
          obtain ⟨s, hs, rfl⟩ := map_at hx
          have ms : s ∈ ys := List.mem_of_getElem? hs
          have hil : i < ys.length := (List.getElem?_eq_some_iff.mp hs).1
          obtain ⟨⟨kd, kk⟩, ekp⟩ := (inY s).mp ms
          have q := hv1 s
          simp only [ekp] at q
          obtain ⟨t, q1, q2⟩ := q
          have g2 : H2 kp = some (.dK ls) := e kp _ (e2 kp _ hl1) (off1 (ne_of_none hl1 fD1))
          have ht2 : H2 t = some (.tup [.str (kindS kd), .int kk]) := e t _ (e2 t _ q2) (off1 (ne_of_none q2 fD1))
          have dg : DGet H2 kp (V.str s) (some (V.ref t)) := .inl ⟨ls, Sum.inr s, .inl g2, rfl, q1.symm⟩
          refine ⟨rfl, ?_⟩
          refine ⟨_, rfl, _, rfl, _, rfl, kp, _, rfl, dg, t, _, 0, _, rfl, rfl, SqT.of ht2, rfl, _, rfl, _, rfl, kp, _, rfl, dg, t, _, 1, _, rfl, rfl, SqT.of ht2, rfl, small (by show 3 ≤ 100000; decide), fun q hq => ?_⟩
          have nq : q ≠ D := fun z => by
            rw [z, hr1] at hq
            cases hq
          refine ⟨rs.map V.ref, by rw [upd_ne nq.symm]; exact hr1, by rw [List.length_map]; exact small' (by omega), rs ++ [q], ?_, (e.new hq).upd (on1 D), by rw [List.length_append, hrl]; rfl, fun j r z a b => ?_⟩
          · rw [upd_same, List.map_append]
            rfl
          · rcases snoc_at a with a | ⟨a, e3⟩
            · have e5 : Kp [D] H2 (upd (upd H2 q (.tup [.str s, .str (kindS kd), .int kk])) D (.lst (rs.map V.ref ++ [V.ref q]))) := ((Kp.refl [D] H2).new hq).upd (on1 D)
              exact kp1_tup e5 (hr j r z a b) hr1 (fun ys z => by cases z)
            · rw [a, hrl, hs] at b
              cases b
              show _ = _
              rw [← e3, upd_ne nq, upd_same, ekp]
              rfl
        · rintro H2 ⟨rs, hr1, e, hrl, hr⟩
          rw [List.length_map] at hrl
          refine ⟨D, _, rfl, .inl ⟨SqL.of hr1, fun t ht => ?_⟩⟩
          have eH : Ex H H2 := fun b o q => e b o (e2 b o (e1 b o q)) (off1 (ne_of_none (e1 b o q) fD1))
          have e6 : Ex H2 (upd H2 t (.tup (rs.map V.ref))) := (Ex.refl H2).new ht
          have nct : c ≠ t := ne_of_none (eH c _ hc) ht
          refine ⟨_, rfl, c, _, dx, [], rfl, e6 c _ (eH c _ hc), T.c_Change, T.n_Change_listed, (by show 0 < 1000; decide), ?_⟩
          have kH : Kp [c] H (upd (upd H2 t (.tup (rs.map V.ref))) c (.ins (He.ga K "Change") dx [("listed", .ref t)])) := ((eH.trans e6).kp [c]).upd (on1 c)
          have e7 : Kp [c] (upd H2 t (.tup (rs.map V.ref))) (upd (upd H2 t (.tup (rs.map V.ref))) c (.ins (He.ga K "Change") dx [("listed", .ref t)])) := (Kp.refl _ _).upd (on1 c)
          have hc6 := e6 c _ (eH c _ hc)
          refine k _ (ys.map fun s => (s, (keepP (g s)).getD (false, 0))) kH ⟨dx, t, upd_same, ⟨rs, ?_, by rw [List.length_map]; exact hrl, fun j r x a b => ?_⟩, ?_, ?_⟩ fun s => ?_
          · exact kp1_tup e7 upd_same hc6 (fun ys z => by cases z)
          · rw [List.getElem?_map] at b
            obtain ⟨s, hs, rfl⟩ := Option.map_eq_some_iff.mp b
            exact kp1_tup e7 (e6 _ _ (hr j r s a hs)) hc6 (fun ys z => by cases z)
          · rw [List.map_map, show ((fun x : Str × Bool × Int => x.1) ∘ fun s => (s, (keepP (g s)).getD (false, 0))) = id from rfl, List.map_id]
            exact hp.nodup_iff.mpr nk
          · intro x m
            obtain ⟨s, hs, rfl⟩ := List.mem_map.mp m
            exact hks s (hp.mem_iff.mp hs)
          · rw [look_map]
            by_cases m : s ∈ ys
            · rw [if_pos m]
              obtain ⟨x, ex⟩ := (inY s).mp m
              rw [ex]
              rfl
            · rw [if_neg m]
              cases ex : keepP (g s) with
              | none => rfl
              | some x => exact absurd ((inY s).mpr ⟨x, ex⟩) m
  exact ⟨fd, ⟨ok, b, F.kp⟩, ⟨ok, b1, F.kp⟩⟩
end
end Sk
set_option Elab.async false
set_option linter.all false
set_option maxRecDepth 100000
set_option maxHeartbeats 4000000
namespace Sk
open PySem L2
theorem ty_ins (T : TX K mg) {C : Str} (hC : C ∈ (["Change", "Notes", "Pattern", "Way"] : List Str)) (c : Cls K (He.ga K C)) {H : Hp} {n dx : Addr} {fs : List (Str × V)} (h : H n = some (.ins (He.ga K C) dx fs)) : TyX K H (.ref n) (.ref (He.ga K C)) := by
  have I := T.ins hC
  obtain ⟨i1, I⟩ := and2' I
  obtain ⟨i2, I⟩ := and2' I
  obtain ⟨i3, I⟩ := and2' I
  obtain ⟨i4, _⟩ := and2' I
  exact .base (.ins h c (of_decide_eq_true i1) (of_decide_eq_true i2) (of_decide_eq_true i3) (of_decide_eq_true i4))
theorem is_ins (T : TX K mg) {C : Str} (hC : C ∈ (["Change", "Notes", "Pattern", "Way"] : List Str)) : PySem.W.kitOne K (.ref (He.ga K C)) (.ref (He.ga K C)) = some true := by
  have I := T.ins hC
  obtain ⟨_, I⟩ := and2' I
  obtain ⟨_, I⟩ := and2' I
  obtain ⟨_, I⟩ := and2' I
  obtain ⟨_, i5⟩ := and2' I
  exact of_decide_eq_true i5
theorem look_listed (v : V) (r : List (Str × V)) : ((("listed" : Str), v) :: r).lookup ("listed" : Str) = some v := by
  simp [List.lookup]
section
variable {P : Program} {w : World} {K : PySem.W.Frag} {mg : Str → Option Value} {base : Heap} {S : List Str}
/-! ### one change behind another -/
theorem opA_jn (o : Option (Bool × Int)) (b : Bool) (k x : Int) : opA (some (jn o b k)) x = opA (some (b, k)) (opA o x) := by
  match b, o with
  | true, none => rfl
  | true, some (true, k0) => rfl
  | true, some (false, k0) => rfl
  | false, none => rfl
  | false, some (true, k0) => rfl
  | false, some (false, k0) =>
    show x + (k0 + k) = x + k0 + k
    omega
def zipKV : Chg → List Addr → KD
  | x :: L, t :: ts => (Sum.inr x.1, V.ref t) :: zipKV L ts
  | _, _ => []
theorem zip_len : ∀ (L : Chg) (ts : List Addr), ts.length = L.length → (zipKV L ts).length = L.length
  | [], [], _ => rfl
  | x :: L, t :: ts, h => congrArg Nat.succ (zip_len L ts (Nat.succ.inj h))
theorem zip_keys : ∀ (L : Chg) (ts : List Addr), ts.length = L.length → (zipKV L ts).map (·.1) = (L.map (·.1)).map Sum.inr
  | [], [], _ => rfl
  | x :: L, t :: ts, h => by
    show Sum.inr x.1 :: (zipKV L ts).map (·.1) = Sum.inr x.1 :: (L.map (·.1)).map Sum.inr
    rw [zip_keys L ts (Nat.succ.inj h)]
theorem zip_at : ∀ (L : Chg) (ts : List Addr) (j : Nat) (kv : L2.Key × V), ts.length = L.length → (zipKV L ts)[j]? = some kv → ∃ x t, L[j]? = some x ∧ ts[j]? = some t ∧ kv = (Sum.inr x.1, V.ref t)
  | [], [], j, kv, _, e => by cases e
  | x :: L, t :: ts, 0, kv, _, e => ⟨x, t, rfl, rfl, (Option.some.inj e).symm⟩
  | x :: L, t :: ts, j + 1, kv, h, e => zip_at L ts j kv (Nat.succ.inj h) e
theorem inr_nodup' : ∀ {l : List Str}, l.Nodup → (l.map (Sum.inr : Str → L2.Key)).Nodup
  | [], _ => .nil
  | x :: l, h => by
    obtain ⟨h1, h2⟩ := List.nodup_cons.mp h
    refine List.nodup_cons.mpr ⟨fun m => ?_, inr_nodup' h2⟩
    obtain ⟨y, hy, e⟩ := List.mem_map.mp m
    rw [Sum.inr.inj e] at hy
    exact h1 hy
theorem zip_val {H : Hp} : ∀ (L : Chg) (ts : List Addr), ts.length = L.length → (∀ (j : Nat) t x, ts[j]? = some t → L[j]? = some x → TwA H t x.2) → ∀ s, match L.lookup s with
    | none => valV (zipKV L ts) (Sum.inr s) = none
    | some y => ∃ t, valV (zipKV L ts) (Sum.inr s) = some (.ref t) ∧ TwA H t y
  | [], [], _, _, s => rfl
  | x :: L, t :: ts, h, q, s => by
    have ih := zip_val L ts (Nat.succ.inj h) (fun j t x a b => q (j + 1) t x a b) s
    rw [look_cons]
    by_cases c : s = x.1
    · rw [if_pos c]
      exact ⟨t, valV_pos (by rw [c]), q 0 t x rfl rfl⟩
    · rw [if_neg c]
      have e : valV (zipKV (x :: L) (t :: ts)) (Sum.inr s) = valV (zipKV L ts) (Sum.inr s) := valV_neg fun z => c (Sum.inr.inj z).symm
      rw [e]
      exact ih
theorem PDf.ex {S : List Str} {H H' : Hp} {d : Addr} {g : Str → Option (Bool × Int)} (h : PDf S H d g) (e : Ex H H') : PDf S H' d g := by
  obtain ⟨kvs, h1, h2, h3, h4⟩ := h
  refine ⟨kvs, e _ _ h1, h2, h3, fun s => ?_⟩
  have q := h4 s
  cases eg : g s with
  | none =>
    rw [eg] at q
    exact q
  | some x =>
    rw [eg] at q
    obtain ⟨t, q1, q2⟩ := q
    exact ⟨t, q1, e _ _ q2⟩
/-- the parts behind L -/
def jnL (L1 L2 : Chg) (s : Str) : Option (Bool × Int) := match L2.lookup s with
  | none => L1.lookup s
  | some x => some (jn (L1.lookup s) x.1 x.2)
theorem jnL_act (L1 L2 : Chg) (f : Str → Int) (s : Str) : opA (jnL L1 L2 s) (f s) = act L2 (act L1 f) s := by
  unfold jnL act
  cases e : L2.lookup s with
  | none => rfl
  | some x => exact opA_jn _ _ _ _
def spShift (K : PySem.W.Frag) (S : List Str) : Sp := fun vs H Q _ => ∃ (c1 c2 : Addr) (L1 L2 : Chg), vs = [.ref c1, .ref c2] ∧ ChgAt K S H c1 L1 ∧ ChgAt K S H c2 L2 ∧
  ∀ c3 L3 H', Ex H H' → H c3 = none → ChgAt K S H' c3 L3 → (∀ f s, act L3 f s = act L2 (act L1 f) s) → Q (.ref c3) H'
theorem ok_shift (T : TX K mg) (hS : SOk S) : Ok P w K mg base CX0 3 a_Change_rshift p_Change_rshift (spShift K S) := by
  obtain ⟨fd, F⟩ := T.d.def_ 6 (d := d_Change_rshift) rfl
  obtain ⟨_, O_joined⟩ := ok_joined (P := P) (w := w) (base := base) T
  obtain ⟨_, O_Change_init, _⟩ := ok_chg (P := P) (w := w) (base := base) T hS
  have b : Binds K fd p_Change_rshift [] := FunD.bindsN F fun _ _ _ _ _ _ us hl => match us, hl with | [_, _], _ => rfl
  refine ⟨fd, F.ok sc_Change_rshift (fun vs H Q E h => ?_) (fun cdv A outer s H vs Q E hr h => ?_), b, F.kp⟩
  · obtain ⟨c1, c2, L1, L2, rfl, _⟩ := h
    rfl
  · obtain ⟨c1, c2, L1, L2, rfl, h1, h2, k⟩ := h
    refine ⟨_, PSs.nox (pss_cons
      (ps_if (pt_not (pt_val (pe_callB (isiK (K := K)) rfl (T.free_isinstance) (by decide +kernel) (pa_cons (pv 1) (pa_cons (pe_glob (v := .ref (He.ga K "Change")) rfl (T.g_Change) rfl) pa_nil))))) pss_never pss_nil)
      (pss_cons (ps_set (i := 2) sc_Change_rshift.nd rfl (Or.inl rfl) (pe_callTy (call_dictP rfl) rfl (T.free_dict) (by decide +kernel) (pa_cons
      (pe_lc (own := [("name", 3), ("kind", 4), ("k", 5)]) rfl sc_Change_rshift.nd (pi_tup (pe_fldK (K := K) (pv 0))) (blkOk_by (own := [("name", 3), ("kind", 4), ("k", 5)]) (N := n_Change_rshift) (sc := defScope s_Change_rshift) (by decide +kernel)) (fun _ _ _ _ _ => (pg_tupK (K := K) (n := 3) (pgs_cons (pg_name (i := 3) sc_Change_rshift.nd rfl (Or.inl rfl)) (pgs_cons (pg_name (i := 4) sc_Change_rshift.nd rfl (Or.inl rfl)) (pgs_cons (pg_name (i := 5) sc_Change_rshift.nd rfl (Or.inl rfl)) pgs_nil))))) (fun _ _ _ _ _ => pts_nil) (fun _ _ _ _ _ => (by exact (pe_tup (pa_cons (pv 3) (pa_cons (pe_tup (pa_cons (pv 4) (pa_cons (pv 5) pa_nil))) pa_nil)))))) pa_nil)))
      (pss_cons
      (ps_for PassesOwn.never rfl (pi_tup (pe_fldK (K := K) (pv 1))) (pg_tupK (K := K) (n := 3) (pgs_cons (pg_name (i := 3) sc_Change_rshift.nd rfl (Or.inl rfl)) (pgs_cons (pg_name (i := 4) sc_Change_rshift.nd rfl (Or.inl rfl)) (pgs_cons (pg_name (i := 5) sc_Change_rshift.nd rfl (Or.inl rfl)) pgs_nil))))
      (pss_one (ps_dput (hu_of hr) (pv 2) (pv 3) (pcall O_joined (hr.mono (by decide)) rfl (T.g_joined) pass0 (pa_cons (pe_dget1 (hu_of hr) (pv 2) (pv 3) ⟨rfl, rfl, rfl, rfl⟩) (pa_cons (pv 4) (pa_cons (pv 5) pa_nil)))) rfl)))
      (pss_one (ps_ret (pmake T.mk_Change O_Change_init (hr.mono (by decide)) rfl (T.g_Change) pass0 (pa_cons (pv 2) pa_nil))))))), ?_⟩
    obtain ⟨dx2, t2, g2, l2, ok2⟩ := id h2
    obtain ⟨dx1, t1, g1, l1, ok1⟩ := id h1
    refine ⟨_, rfl, _, _, _, _, true, rfl, .own _, ty_ins T (C := "Change") (by decide) T.c_Change g2, is_ins T (by decide), true, rfl, ?_⟩
    refine nope ?_
    -- parts
    obtain ⟨rs, ht1, hrl, hrs⟩ := id l1
    have len1 := ok1.len hS
    have len2 := ok2.len hS
    refine ⟨_, rfl, c1, _, dx1, _, _, rfl, g1, T.c_Change, T.n_Change_listed, look_listed _ _, t1, rfl, ⟨_, SqT.of ht1⟩, fun D hD => ?_⟩
    have nD : t1 ≠ D := ne_of_none ht1 hD
    refine lc_it (walk_tup (K := K) (a := t1) (xs := rs.map V.ref)) (fun i H' => ∃ ps ts : List Addr, H' D = some (.lst (ps.map V.ref)) ∧ Kp [D] H H' ∧ ps.length = i ∧ ts.length = i ∧ (∀ (j : Nat) p t x, ps[j]? = some p → ts[j]? = some t → L1[j]? = some x → H' p = some (.tup [.str x.1, .ref t])) ∧ ∀ (j : Nat) t x, ts[j]? = some t → L1[j]? = some x → TwA H' t x.2) ⟨[], [], upd_same, (Kp.refl _ _).new hD, rfl, rfl, (fun j p t x a _ => by cases a), fun j t x a => by cases a⟩ (fun i H' _ q => ?_) ?_ ?_
    · obtain ⟨ps, ts, _, e, _⟩ := q
      exact SqT.of (e t1 _ ht1 (off1 nD))
    · rintro i x H2 H3 hi ⟨ps, ts, hp1, e, hpl, htl, hp, htw⟩ ⟨rfl, hx⟩
      obtain ⟨r, hr', rfl⟩ := map_at hx
      have hiL : i < L1.length := by
        rw [← hrl]
        exact (List.getElem?_eq_some_iff.mp hr').1
      have hLi := List.getElem?_eq_getElem hiL
      obtain ⟨⟨nm, kd, kk⟩, hLx⟩ : ∃ x, L1[i] = x := ⟨_, rfl⟩
      rw [hLx] at hLi
      have g := hrs i r _ hr' hLi
      have g3 : H3 r = some (.tup [.str nm, .str (kindS kd), .int kk]) := e r _ g (off1 (ne_of_none g hD))
      refine ⟨r, _, rfl, SqT.of g3, rfl, _, _, rfl, _, _, rfl, _, _, rfl, rfl, ?_⟩
      refine ⟨rfl, ?_⟩
      refine ⟨_, rfl, _, rfl, _, rfl, small (by show 2 ≤ 100000; decide), fun u hu => ⟨small (by show 2 ≤ 100000; decide), fun q hq => ?_⟩⟩
      have nu : u ≠ D := fun z => by
        rw [z, hp1] at hu
        cases hu
      have nuq : u ≠ q := ne_of_none upd_same hq
      have nq : q ≠ D := fun z => by
        rw [z, upd_ne nu.symm, hp1] at hq
        cases hq
      have e5 : Kp [D] H3 (upd (upd (upd H3 u (.tup [.str (kindS kd), .int kk])) q (.tup [.str nm, .ref u])) D (.lst (ps.map V.ref ++ [V.ref q]))) := (((Kp.refl [D] H3).new hu).new hq).upd (on1 D)
      have hq3 : H3 q = none := by
        rw [upd_ne nuq.symm] at hq
        exact hq
      refine ⟨ps.map V.ref, by rw [upd_ne nq.symm, upd_ne nu.symm]; exact hp1, by rw [List.length_map]; exact small' (by omega), ps ++ [q], ts ++ [u], ?_, e.trans e5, by rw [List.length_append, hpl]; rfl, by rw [List.length_append, htl]; rfl, fun j p t x a b c => ?_, fun j t x b c => ?_⟩
      · rw [upd_same, List.map_append]
        rfl
      · rcases snoc_at a with a | ⟨a, ea⟩
        · have jl : j < i := by
            rw [← hpl]
            exact (List.getElem?_eq_some_iff.mp a).1
          rw [List.getElem?_append_left (by omega)] at b
          exact kp1_tup e5 (hp j p t x a b c) hp1 (fun ys z => by cases z)
        · rw [a, hpl, ← htl, List.getElem?_append_right (Nat.le_refl _), Nat.sub_self] at b
          rw [a, hpl, hLi] at c
          cases c
          have et : u = t := Option.some.inj b
          rw [← ea, ← et, upd_ne nq, upd_same]
      · rcases snoc_at b with b | ⟨b, eb⟩
        · exact kp1_tup e5 (htw j t x b c) hp1 (fun ys z => by cases z)
        · rw [b, htl, hLi] at c
          cases c
          show _ = _
          rw [← eb, upd_ne nu, upd_ne nuq, upd_same]
    · rintro H2 ⟨ps, ts, hp1, e, hpl, htl, hp, htw⟩
      rw [List.length_map, hrl] at hpl htl
      have zl := zip_len L1 ts htl
      have zn : ((zipKV L1 ts).map (·.1)).Nodup := by
        rw [zip_keys L1 ts htl]
        exact inr_nodup' ok1.1
      have fD : H D = none := hD
      have eH : Ex H H2 := fun b o q => e b o q (off1 (ne_of_none q fD))
      refine ⟨D, ps, zipKV L1 ts, rfl, SqL.of hp1, paired_of (by rw [hpl, zl]) fun j p kv a b => ?_, fun p hpn => ?_⟩
      · obtain ⟨x, t, b1, b2, rfl⟩ := zip_at L1 ts j kv htl b
        exact SqT.of (hp j p t x a b2 b1)
      have e2 : Ex H2 (upd H2 p (.dK (mergeK [] (zipKV L1 ts)))) := (Ex.refl H2).new hpn
      have fp : H p = none := eH.back hpn
      have P0 : PDf S (upd H2 p (.dK (mergeK [] (zipKV L1 ts)))) p (fun s => L1.lookup s) := by
        rw [mergeK_nodup _ [] zn]
        refine ⟨_, upd_same, zn, fun kv m => ?_, zip_val L1 ts htl fun j t x a b => ?_⟩
        · obtain ⟨j, hj, ej⟩ := List.mem_iff_getElem.mp m
          obtain ⟨x, t, b1, b2, eb⟩ := zip_at L1 ts j kv htl (by rw [← ej]; exact List.getElem?_eq_getElem hj)
          exact ⟨x.1, ok1.2 x (List.mem_of_getElem? b1), by rw [eb]⟩
        · show _ = _
          rw [upd_ne (ne_of_none (htw j t x a b) hpn)]
          exact htw j t x a b
      have gp : (upd H2 p (.dK (mergeK [] (zipKV L1 ts)))) p = some (.dK (mergeK [] (zipKV L1 ts))) := upd_same
      generalize mergeK [] (zipKV L1 ts) = m0 at e2 P0 gp ⊢
      have eH3 := eH.trans e2
      obtain ⟨rs2, ht2, hrl2, hrs2⟩ := l2.ex eH3
      have npt : t2 ≠ p := ne_of ht2 gp (by intro z; cases z)
      refine ⟨_, rfl, c2, _, dx2, _, _, rfl, eH3 c2 _ g2, T.c_Change, T.n_Change_listed, look_listed _ _, t2, rfl, ⟨_, SqT.of ht2⟩, ?_⟩
      refine for_it (walk_tup (K := K) (a := t2) (xs := rs2.map V.ref)) (fun i σ H' => ∃ (v3 v4 v5 : Option V), σ = [some (.ref c1), some (.ref c2), some (.ref p), v3, v4, v5] ∧ Kp [p] (upd H2 p (.dK m0)) H' ∧ PDf S H' p (jnL L1 (L2.take i)))
        ⟨_, _, _, rfl, Kp.refl _ _, P0⟩ (fun i σ H' _ q => ?_) ?_ ?_
      · obtain ⟨_, _, _, _, e, _⟩ := q
        exact SqT.of (e t2 _ ht2 (off1 npt))
      · rintro i x σ H3 H4 hi ⟨v3, v4, v5, rfl, e3, P3⟩ ⟨rfl, hx⟩
        obtain ⟨r, hr', rfl⟩ := map_at hx
        have hiL : i < L2.length := by
          rw [← hrl2]
          exact (List.getElem?_eq_some_iff.mp hr').1
        have hLi := List.getElem?_eq_getElem hiL
        obtain ⟨⟨nm, kd, kk⟩, hLx⟩ : ∃ x, L2[i] = x := ⟨_, rfl⟩
        rw [hLx] at hLi
        have g := hrs2 i r _ hr' hLi
        have g4 : H4 r = some (.tup [.str nm, .str (kindS kd), .int kk]) := kp1_tup e3 g gp (fun ys z => by cases z)
        have mS : nm ∈ S := ok2.2 _ (List.mem_of_getElem? hLi)
        have fr := ok2.fresh hLi
        have eg : jnL L1 (L2.take i) nm = L1.lookup nm := by
          unfold jnL
          rw [look_none _ _ fr]
        obtain ⟨ls, q1, q2, q3, q4⟩ := id P3
        have lenl := keys_len hS q2 q3
        obtain ⟨o, eo, ov⟩ := PDf.val (S := S) (d := p) q4 nm
        rw [eg] at ov
        refine ⟨r, _, rfl, SqT.of g4, rfl, _, _, rfl, _, _, rfl, _, _, rfl, rfl, ?_⟩
        refine ⟨_, rfl, p, rfl, .inl ⟨ls, .inl q1⟩, _, rfl, o, by rw [← eo]; exact DGet.k (k := Sum.inr nm) q1, _, rfl, _, rfl, ?_⟩
        refine ⟨_, kd, kk, L1.lookup nm, rfl, ov, fun t H5 e5 ht5 tw5 => ?_⟩
        refine ⟨_, rfl, _, rfl, p, _, rfl, DPut.k (k := Sum.inr nm) (e5 p _ q1) (small' (by omega)), ?_⟩
        have e6 : Kp [p] H5 (upd H5 p (.dK (putK ls (Sum.inr nm) (.ref t)))) := (Kp.refl [p] H5).upd (on1 p)
        refine ⟨_, _, _, rfl, (e3.ex e5).trans e6, ?_⟩
        have PP := PDf.put (S := S) (H' := upd H5 p (.dK (putK ls (Sum.inr nm) (.ref t)))) q2 q3 q4 (fun t x h => kp1_tup e6 (e5 _ _ h) (e5 p _ q1) (fun ys z => by cases z)) mS (t := t) (x := jn (L1.lookup nm) kd kk) (kp1_tup e6 tw5 (e5 p _ q1) (fun ys z => by cases z)) upd_same
        refine cast (congrArg (PDf S _ p) (funext fun s => ?_)) PP
        unfold jnL
        rw [take_snoc hLi, look_snoc _ _ _ fr]
        by_cases c : s = nm
        · rw [if_pos c, if_pos c, c]
        · rw [if_neg c, if_neg c]
      · rintro σ H3 ⟨v3, v4, v5, rfl, e3, P3⟩
        rw [List.length_map, hrl2, List.take_length] at P3
        have eH4 : Ex H H3 := fun b o q => e3 b o (eH3 b o q) (off1 (ne_of_none q fp))
        refine ⟨_, rfl, fun x dx hx hdx hne => ?_⟩
        have m1 : (upd H3 dx (.own x)) x = none := by rw [upd_ne hne.symm]; exact hx
        have e8 : Ex H3 (upd (upd H3 dx (.own x)) x (.ins (He.ga K "Change") dx [])) := ((Ex.refl H3).new hdx).new m1
        refine ⟨x, dx, .ref p, jnL L1 L2, rfl, upd_same, .inr ⟨p, rfl, P3.ex e8⟩, fun H9 L3 k9 C9 hl9 => ⟨rfl, ?_⟩⟩
        have eH9 : Ex H H9 := fun b o q => k9 b o (e8 b o (eH4 b o q)) (off1 (ne_of_none (eH4 b o q) hx))
        refine k x L3 H9 eH9 (eH4.back hx) C9 fun f s => ?_
        show opA (L3.lookup s) (f s) = _
        rw [hl9 s, opA_keep, jnL_act]
/-! ### a change done -/
def spCCall (K : PySem.W.Frag) (S : List Str) : Sp := fun vs H Q _ => ∃ (c n hd : Addr) (L : Chg) (f : Str → Int), vs = [.ref c, .ref n] ∧ ChgAt K S H c L ∧ NotesA K S H n hd f ∧ ∀ m hd' H', Ex H H' → H m = none → H hd' = none → NotesA K S H' m hd' (act L f) → Q (.ref m) H'
theorem ok_ccall (T : TX K mg) (hS : SOk S) : Ok P w K mg base CX0 5 a_Change_call p_Change_call (spCCall K S) := by
  obtain ⟨fd, F⟩ := T.d.def_ 7 (d := d_Change_call) rfl
  obtain ⟨_, O_changed⟩ := ok_changed (P := P) (w := w) (base := base) T hS
  obtain ⟨_, O_Notes_init⟩ := ok_notes (P := P) (w := w) (base := base) T hS
  have b : Binds K fd p_Change_call [] := FunD.bindsN F fun _ _ _ _ _ _ us hl => match us, hl with | [_, _], _ => rfl
  refine ⟨fd, F.ok sc_Change_call (fun vs H Q E h => ?_) (fun cdv A outer s H vs Q E hr h => ?_), b, F.kp⟩
  · obtain ⟨c, n, hd, L, f, rfl, _⟩ := h
    rfl
  · obtain ⟨c, n, hd, L, f, rfl, hC, hN, k⟩ := h
    refine ⟨_, PSs.nox (pss_one (ps_ret (pmake T.mk_Notes O_Notes_init (hr.mono (by decide)) rfl (T.g_Notes) pass0 (pa_cons (pcall O_changed (hr.mono (by decide)) rfl (T.g_changed) pass0 (pa_cons (pe_fldK (K := K) (pv 1)) (pa_cons (pe_fldK (K := K) (pv 0)) pa_nil))) pa_nil)))), ?_⟩
    obtain ⟨dx, t, g, l, lok⟩ := id hC
    obtain ⟨dn, tn, kvs, q1, q2, q3, q4⟩ := id hN
    refine ⟨_, rfl, n, _, dn, _, _, rfl, q1, T.c_Notes, T.n_Notes_held, look_held _ _, _, rfl, c, _, dx, _, _, rfl, g, T.c_Change, T.n_Change_listed, look_listed _ _, hd, t, kvs, L, rfl, q2, q3, l, lok, fun p kvs' H1 e1 hp hp1 hI1 hdv => ?_⟩
    intro x dx2 hx hdx hne
    have m1 : (upd H1 dx2 (.own x)) x = none := by rw [upd_ne hne.symm]; exact hx
    have e2 : Ex H1 (upd (upd H1 dx2 (.own x)) x (.ins (He.ga K "Notes") dx2 [])) := ((Ex.refl H1).new hdx).new m1
    refine ⟨x, dx2, p, kvs', rfl, upd_same, e2 p _ hp1, hI1, fun H3 hd3 k3 h3 N3 => ⟨rfl, ?_⟩⟩
    have e3 : Ex H H3 := fun b o q => k3 b o (e2 b o (e1 b o q)) (off1 (ne_of_none (e1 b o q) hx))
    refine k x hd3 H3 e3 (e1.back hx) ((e1.trans e2).back h3) (N3.congr fun s => ?_)
    rw [hdv s]
    unfold act
    have ef : dv kvs s = f s := by
      unfold dv
      rw [q4 s]
      by_cases c : f s = 0
      · rw [if_pos c, c]
        rfl
      · rw [if_neg c]
        rfl
    rw [ef]
end
end Sk
set_option Elab.async false
set_option linter.all false
set_option maxRecDepth 100000
set_option maxHeartbeats 4000000
namespace Sk
open PySem L2
/-! ### the pattern without limits -/
def PatAt (K : PySem.W.Frag) (H : Hp) (p : Addr) : Prop := ∃ dx d t, H p = some (.ins (He.ga K "Pattern") dx [("bounds", .ref d), ("listed", .ref t)]) ∧ H d = some (.dK []) ∧ H t = some (.tup [])
/-- its dict at d -/
def PatA (K : PySem.W.Frag) (H : Hp) (p d : Addr) : Prop := ∃ dx t, H p = some (.ins (He.ga K "Pattern") dx [("bounds", .ref d), ("listed", .ref t)]) ∧ H d = some (.dK []) ∧ H t = some (.tup [])
theorem PatA.at {K : PySem.W.Frag} {H : Hp} {p d : Addr} (h : PatA K H p d) : PatAt K H p := by
  obtain ⟨dx, t, h1, h2, h3⟩ := h
  exact ⟨dx, d, t, h1, h2, h3⟩
theorem PatAt.ex {K : PySem.W.Frag} {H H' : Hp} {p : Addr} (h : PatAt K H p) (e : Ex H H') : PatAt K H' p := by
  obtain ⟨dx, d, t, h1, h2, h3⟩ := h
  exact ⟨dx, d, t, e _ _ h1, e _ _ h2, e _ _ h3⟩
theorem hb1 : ¬ (("bounds" : Str) = "listed") := by decide +kernel
theorem putB (d e : V) : putF ("bounds" : Str) e [(("bounds" : Str), d)] = [(("bounds" : Str), e)] := by
  show (if ("bounds" : Str) = "bounds" then [(("bounds" : Str), e)] else (("bounds" : Str), d) :: putF "bounds" e []) = [(("bounds" : Str), e)]
  rw [if_pos rfl]
theorem putBL (d t : V) : putF ("listed" : Str) t [(("bounds" : Str), d)] = [(("bounds" : Str), d), (("listed" : Str), t)] := by
  show (if ("bounds" : Str) = "listed" then [(("listed" : Str), t)] else (("bounds" : Str), d) :: putF "listed" t []) = _
  rw [if_neg hb1]
  rfl
theorem look_bounds (v : V) (r : List (Str × V)) : ((("bounds" : Str), v) :: r).lookup ("bounds" : Str) = some v := by
  simp [List.lookup]
theorem look_plisted (d t : V) : ([(("bounds" : Str), d), (("listed" : Str), t)] : List (Str × V)).lookup ("listed" : Str) = some t := by
  have q : (("listed" : Str) == "bounds") = false := by decide +kernel
  simp [List.lookup, q]
theorem look_least (d t : V) : ([(("bounds" : Str), d), (("listed" : Str), t)] : List (Str × V)).lookup ("least" : Str) = none := by
  have q1 : (("least" : Str) == "bounds") = false := by decide +kernel
  have q2 : (("least" : Str) == "listed") = false := by decide +kernel
  simp [List.lookup, q1, q2]
theorem perm_nil {ys : List Str} (h : ys.Perm []) : ys = [] := List.Perm.eq_nil h
section
variable {P : Program} {w : World} {K : PySem.W.Frag} {mg : Str → Option Value} {base : Heap} {S : List Str}
def spPat (K : PySem.W.Frag) : Sp := fun vs H Q _ => ∃ (p dx : Addr), vs = [.ref p, .non] ∧ H p = some (.ins (He.ga K "Pattern") dx []) ∧ ∀ H' d, Kp [p] H H' → H d = none → PatA K H' p d → Q .non H'
theorem ok_pat (T : TX K mg) : ∃ fd, OkD P w K mg base CX0 1 a_Pattern_init fd p_Pattern_init (spPat K) [.non] := by
  obtain ⟨fd, F⟩ := T.d.def_ 12 (d := d_Pattern_init) rfl
  have b1 : ∃ ds, Vals [V.non] ds ∧ Binds K fd p_Pattern_init ds := FunD.binds1 (ps := p_Pattern_init) F 1 0 (List.cons_ne_nil _ _) rfl (fun _ _ _ _ _ _ _ us its hl hi => match us, hl, its, hi with | [_], _, [_], _ => ⟨_, rfl, rfl⟩)
  refine ⟨fd, F.ok sc_Pattern_init (fun vs H Q E h => ?_) (fun cdv A outer s H vs Q E hr h => ?_), b1, F.kp⟩
  · obtain ⟨p, dx, rfl, _⟩ := h
    rfl
  · obtain ⟨p, dx, rfl, hp, k⟩ := h
    refine ⟨_, PSs.nox (pss_cons (ps_fld (pv 0) pe_dnewK rfl) (pss_cons (ps_if (pt_cmpR op_notN (pv 1) pe_non (nomark _)) (pss_one ps_never) pss_nil)
      (pss_one (ps_fld (pv 0) (pe_callTy call_tuple_of rfl (T.free_tuple) (by decide +kernel) (pa_cons
      (pe_lc (own := [("name", 2)]) rfl sc_Pattern_init.nd (pi_list (pe_callB (call_sortedD rfl) rfl (T.free_sorted) (by decide +kernel) (pa_cons (pe_fldK (K := K) (pv 0)) pa_nil))) (blkOk_by (own := [("name", 2)]) (N := n_Pattern_init) (sc := defScope s_Pattern_init) (by decide +kernel)) (fun _ _ _ _ _ => pg_name (i := 2) sc_Pattern_init.nd rfl (Or.inl rfl)) (fun _ _ _ _ _ => pts_nil) (fun _ _ _ _ _ => (by exact pe_never))) pa_nil)) rfl)))), ?_⟩
    intro d hd
    have npd : p ≠ d := ne_of_none hp hd
    have k1 : Kp [p] H (upd (upd H d (.dK [])) p (.ins (He.ga K "Pattern") dx [("bounds", .ref d)])) := ((Kp.refl [p] H).new hd).upd (on1 p)
    refine ⟨_, rfl, p, _, dx, [], rfl, (by rw [upd_ne npd]; exact hp), T.c_Pattern, T.n_Pattern_bounds, (by show 0 < 1000; decide), ?_⟩
    refine ⟨_, rfl, rfl, _, rfl, ite2 (fun z => ?_) (fun _ => ?_)⟩
    · rw [decide_eq_true rfl] at z
      cases z
    have g1 : (upd (upd H d (.dK [])) p (.ins (He.ga K "Pattern") dx [("bounds", .ref d)])) p = some (.ins (He.ga K "Pattern") dx [("bounds", .ref d)]) := upd_same
    have g2 : (upd (upd H d (.dK [])) p (.ins (He.ga K "Pattern") dx [("bounds", .ref d)])) d = some (.dK []) := by rw [upd_ne npd.symm, upd_same]
    refine ⟨_, rfl, p, _, dx, _, _, rfl, g1, T.c_Pattern, T.n_Pattern_bounds, look_bounds _ _, d, [], [], rfl, .inl g2, rfl, (by decide), fun ys q hys _ hq => ?_⟩
    obtain rfl := perm_nil hys
    refine ⟨q, rfl, ⟨_, SqL.of upd_same⟩, fun D hD => ?_⟩
    have nD : q ≠ D := ne_of_none upd_same hD
    have e1 : Ex (upd (upd H d (.dK [])) p (.ins (He.ga K "Pattern") dx [("bounds", .ref d)])) (upd (upd (upd H d (.dK [])) p (.ins (He.ga K "Pattern") dx [("bounds", .ref d)])) q (.lst [])) := (Ex.refl _).new hq
    refine lc_list (K := K) (a := q) (xs := []) (fun i H' => H' D = some (.lst []) ∧ H' q = some (.lst []) ∧ Ex (upd (upd H d (.dK [])) p (.ins (He.ga K "Pattern") dx [("bounds", .ref d)])) H') ⟨upd_same, (by rw [upd_ne nD, upd_same] <;> rfl), e1.new hD⟩ (fun i H' _ z => SqL.of z.2.1) (fun i x H' hx => by cases hx) ?_
    · rintro H' ⟨hD', _, e2⟩
      refine ⟨D, _, rfl, .inl ⟨SqL.of hD', fun t ht => ?_⟩⟩
      have e3 := e2.new (o := .tup []) ht
      refine ⟨_, rfl, p, _, dx, _, rfl, e3 p _ g1, T.c_Pattern, T.n_Pattern_listed, (by show 1 < 1000; decide), ?_⟩
      rw [putBL]
      have ntp : t ≠ p := fun z => by
        rw [z, e2 p _ g1] at ht
        cases ht
      refine k _ d ((k1.ex e3).upd (on1 p)) hd ⟨dx, t, upd_same, ?_, ?_⟩
      · rw [upd_ne npd.symm]
        exact e3 d _ g2
      · rw [upd_ne ntp, upd_same]
def spHas (K : PySem.W.Frag) : Sp := fun vs H Q _ => ∃ (p : Addr) (v : V), vs = [.ref p, v] ∧ PatAt K H p ∧ Q (.bl true) H
theorem for_empty {t : Addr} {H : Hp} {σ : L2.St} {g : TG} {tb : TS} {D : Ends} (h : H t = some (.tup [])) (hd : D.nx σ H) :
    ∃ W : Nat → Nat → L2.St → Hp → Prop, (∃ m, W 0 m σ H) ∧ ∀ i m σ H, W i m σ H →
      ((Itt K t).stop i H ∧ D.nx σ H) ∨ ((Itt K t).go i H ∧ ∃ N : L2.St → Hp → Prop, (∀ σ' H', N σ' H' → ∃ m', m' < m ∧ W (i + 1) m' σ' H') ∧ ∀ x H', (Itt K t).yld i H x H' → g x σ H' fun σ2 H2 => tb { D with nx := N, ct := N, bk := D.nx } σ2 H2) :=
  for_it (walk_tup (K := K) (a := t) (xs := [])) (fun i σ' H' => σ' = σ ∧ H' = H) ⟨rfl, rfl⟩ (fun i σ' H' _ q => by rw [q.2]; exact SqT.of h) (fun i x σ' H1 H2 hi => absurd hi (Nat.not_lt_zero _)) (fun σ' H' q => by rw [q.1, q.2]; exact hd)
theorem ok_has (T : TX K mg) : Ok P w K mg base CX0 1 a_Pattern_contains p_Pattern_contains (spHas K) := by
  obtain ⟨fd, F⟩ := T.d.def_ 13 (d := d_Pattern_contains) rfl
  have b : Binds K fd p_Pattern_contains [] := FunD.bindsN F fun _ _ _ _ _ _ us hl => match us, hl with | [_, _], _ => rfl
  refine ⟨fd, F.ok sc_Pattern_contains (fun vs H Q E h => ?_) (fun cdv A outer s H vs Q E hr h => ?_), b, F.kp⟩
  · obtain ⟨p, v, rfl, _⟩ := h
    rfl
  · obtain ⟨p, v, rfl, ⟨dx, d, t, h1, h2, h3⟩, k⟩ := h
    refine ⟨_, PSs.nox (pss_cons
      (ps_for PassesOwn.never rfl (pi_tup (pe_fldK (K := K) (pv 0))) (pg_tupK (K := K) (n := 3) (pgs_cons (pg_name (i := 2) sc_Pattern_contains.nd rfl (Or.inl rfl)) (pgs_cons (pg_name (i := 3) sc_Pattern_contains.nd rfl (Or.inl rfl)) (pgs_cons (pg_name (i := 4) sc_Pattern_contains.nd rfl (Or.inl rfl)) pgs_nil)))) pss_never)
      (pss_one (ps_ret pe_bl))), ?_⟩
    exact ⟨_, rfl, p, _, dx, _, _, rfl, h1, T.c_Pattern, T.n_Pattern_listed, look_plisted _ _, t, rfl, ⟨_, SqT.of h3⟩, for_empty h3 k⟩
def spSub (K : PySem.W.Frag) : Sp := fun vs H Q _ => ∃ (p p' : Addr), vs = [.ref p, .ref p'] ∧ PatAt K H p ∧ PatAt K H p' ∧ ∀ q H', Ex H H' → H q = none → H' q = some (.lst []) → Q (.ref q) H'
theorem ok_sub (T : TX K mg) : Ok P w K mg base CX0 1 a_Pattern_sub p_Pattern_sub (spSub K) := by
  obtain ⟨fd, F⟩ := T.d.def_ 14 (d := d_Pattern_sub) rfl
  have b : Binds K fd p_Pattern_sub [] := FunD.bindsN F fun _ _ _ _ _ _ us hl => match us, hl with | [_, _], _ => rfl
  refine ⟨fd, F.ok sc_Pattern_sub (fun vs H Q E h => ?_) (fun cdv A outer s H vs Q E hr h => ?_), b, F.kp⟩
  · obtain ⟨p, v, rfl, _⟩ := h
    rfl
  · obtain ⟨p, p', rfl, ⟨dx, d, t, h1, h2, h3⟩, ⟨dx', d', t', h1', h2', h3'⟩, k⟩ := h
    refine ⟨_, PSs.nox (pss_cons
      (ps_if (pt_not (pt_val (pe_callB (isiK (K := K)) rfl (T.free_isinstance) (by decide +kernel) (pa_cons (pv 1) (pa_cons (pe_glob (v := .ref (He.ga K "Pattern")) rfl (T.g_Pattern) rfl) pa_nil))))) pss_never pss_nil)
      (pss_cons (ps_set (i := 2) sc_Pattern_sub.nd rfl (Or.inl rfl) (pe_callTy call_dictD rfl (T.free_dict) (by decide +kernel) (pa_cons (pe_fldK (K := K) (pv 0)) pa_nil)))
      (pss_cons (ps_set (i := 3) sc_Pattern_sub.nd rfl (Or.inl rfl) (pe_lst pa_nil)) (pss_cons
      (ps_for PassesOwn.never rfl (pi_tup (pe_fldK (K := K) (pv 1))) (pg_tupK (K := K) (n := 3) (pgs_cons (pg_name (i := 4) sc_Pattern_sub.nd rfl (Or.inl rfl)) (pgs_cons (pg_name (i := 5) sc_Pattern_sub.nd rfl (Or.inl rfl)) (pgs_cons (pg_name (i := 6) sc_Pattern_sub.nd rfl (Or.inl rfl)) pgs_nil)))) pss_never)
      (pss_one (ps_ret (pv 3))))))), ?_⟩
    refine ⟨_, rfl, _, _, _, _, true, rfl, .own _, ty_ins T (C := "Pattern") (by decide) T.c_Pattern h1', is_ins T (by decide), true, rfl, ?_⟩
    refine nope ?_
    refine ⟨_, rfl, p, _, dx, _, _, rfl, h1, T.c_Pattern, T.n_Pattern_bounds, look_bounds _ _, d, [], rfl, .inl h2, fun r hr => ?_⟩
    have e1 : Ex H (upd H r (.dK [])) := (Ex.refl H).new hr
    refine ⟨by show 0 ≤ sizeLine; exact Nat.zero_le _, fun q hq => ?_⟩
    have e2 := e1.new (o := .lst []) hq
    exact ⟨_, rfl, p', _, dx', _, _, rfl, e2 _ _ h1', T.c_Pattern, T.n_Pattern_listed, look_plisted _ _, t', rfl, ⟨_, SqT.of (e2 _ _ h3')⟩, for_empty (e2 _ _ h3') ⟨_, rfl, k q _ e2 (e1.back hq) upd_same⟩⟩
def spLeast (K : PySem.W.Frag) (S : List Str) : Sp := fun vs H Q _ => ∃ (p : Addr), vs = [.ref p] ∧ PatAt K H p ∧ ∀ m hd H', Ex H H' → H m = none → NotesA K S H' m hd (fun _ => 0) → Q (.ref m) H'
theorem ok_least (T : TX K mg) (hS : SOk S) : Ok P w K mg base CX0 5 a_Pattern_least p_Pattern_least (spLeast K S) := by
  obtain ⟨fd, F⟩ := T.d.def_ 15 (d := d_Pattern_least) rfl
  obtain ⟨_, O_Notes_init⟩ := ok_notes (P := P) (w := w) (base := base) T hS
  have b : Binds K fd p_Pattern_least [] := FunD.bindsN F fun _ _ _ _ _ _ us hl => match us, hl with | [_], _ => rfl
  refine ⟨fd, F.ok sc_Pattern_least (fun vs H Q E h => ?_) (fun cdv A outer s H vs Q E hr h => ?_), b, F.kp⟩
  · obtain ⟨p, rfl, _⟩ := h
    rfl
  · obtain ⟨p, rfl, ⟨dx, d, t, h1, h2, h3⟩, k⟩ := h
    refine ⟨_, PSs.nox (pss_one (ps_ret (pmake T.mk_Notes O_Notes_init (hr.mono (by decide)) rfl (T.g_Notes) pass0 (pa_cons
      (pe_dc (own := [("name", 1), ("low", 2), ("high", 3)]) rfl sc_Pattern_least.nd (pi_tup (pe_fldK (K := K) (pv 0))) (blkOk_by (own := [("name", 1), ("low", 2), ("high", 3)]) (N := n_Pattern_least) (sc := defScope s_Pattern_least) (by decide +kernel)) (fun _ _ _ _ _ => (pg_tupK (K := K) (n := 3) (pgs_cons (pg_name (i := 1) sc_Pattern_least.nd rfl (Or.inl rfl)) (pgs_cons (pg_name (i := 2) sc_Pattern_least.nd rfl (Or.inl rfl)) (pgs_cons (pg_name (i := 3) sc_Pattern_least.nd rfl (Or.inl rfl)) pgs_nil))))) (fun _ _ _ _ _ => pts_nil) (fun _ _ _ _ _ => (pv 1)) (fun _ _ _ _ _ => pe_never)) pa_nil)))), ?_⟩
    refine ⟨_, rfl, p, _, dx, _, _, rfl, h1, T.c_Pattern, T.n_Pattern_listed, look_plisted _ _, t, rfl, ⟨_, SqT.of h3⟩, fun D hD => ?_⟩
    have nD : t ≠ D := ne_of_none h3 hD
    refine dc_it (walk_tup (K := K) (a := t) (xs := [])) (fun i H' => H' = upd H D (.dK [])) rfl (fun i H' _ q => by rw [q]; exact SqT.of (by rw [upd_ne nD]; exact h3)) (fun i x H1 H2 hi => absurd hi (Nat.not_lt_zero _)) ?_
    rintro H' rfl
    intro m dx2 hm hdx hne
    have e1 : Ex H (upd H D (.dK [])) := (Ex.refl H).new hD
    have m1 : (upd (upd H D (.dK [])) dx2 (.own m)) m = none := by rw [upd_ne hne.symm]; exact hm
    have e2 := (e1.new (o := .own m) hdx).new (o := .ins (He.ga K "Notes") dx2 []) m1
    have e2' : Ex (upd H D (.dK [])) (upd (upd (upd H D (.dK [])) dx2 (.own m)) m (.ins (He.ga K "Notes") dx2 [])) := ((Ex.refl _).new hdx).new m1
    refine ⟨m, dx2, D, [], rfl, upd_same, e2' D _ upd_same, DI.nil, fun H4 hd' k4 hd0 N4 => ⟨rfl, ?_⟩⟩
    have fm : H m = none := e1.back hm
    refine k m hd' H4 (fun b o q => k4 b o (e2 b o q) (off1 (ne_of_none q fm))) fm (N4.congr fun s => rfl)
def spAround (K : PySem.W.Frag) : Sp := fun vs H Q _ => ∃ (v : V) (l p : Addr), vs = [v, .ref l] ∧ H l = some (.lst [.ref p]) ∧ PatAt K H p ∧ Q (.ref p) H
theorem ok_around (T : TX K mg) : Ok P w K mg base CX0 2 a_first_around p_first_around (spAround K) := by
  obtain ⟨fd, F⟩ := T.d.def_ 16 (d := d_first_around) rfl
  obtain ⟨_, O_Pattern_contains⟩ := ok_has (P := P) (w := w) (base := base) T
  have b : Binds K fd p_first_around [] := FunD.bindsN F fun _ _ _ _ _ _ us hl => match us, hl with | [_, _], _ => rfl
  refine ⟨fd, F.ok sc_first_around (fun vs H Q E h => ?_) (fun cdv A outer s H vs Q E hr h => ?_), b, F.kp⟩
  · obtain ⟨v, l, p, rfl, _⟩ := h
    rfl
  · obtain ⟨v, l, p, rfl, hl, hP, k⟩ := h
    refine ⟨_, PSs.nox (pss_cons (ps_for PassesOwn.never rfl (pi_list (pv 1)) (pg_name (i := 2) sc_first_around.nd rfl (Or.inl rfl)) (pss_one
      (ps_if (pt_cmpR (op_inO O_Pattern_contains.fn (hr.mono (by decide)) T.m_Pattern_contains O_Pattern_contains.b pass0) (pv 0) (pv 2) (by rfl))
      (pss_one (ps_ret (pv 2))) pss_nil))) (pss_one (ps_ret pe_non))), ?_⟩
    refine ⟨_, rfl, l, rfl, ⟨_, SqL.of hl⟩, ?_⟩
    refine for_it (walk_list (K := K) (a := l) (xs := [.ref p])) (fun i σ H' => i = 0 ∧ σ = [some v, some (.ref l), none] ∧ H' = H) ⟨rfl, rfl, rfl⟩ (fun i σ H' _ q => by rw [q.2.2]; exact SqL.of hl) ?_ (fun σ H' q => absurd q.1 (fun z => by cases z))
    rintro i x σ H1 H2 hi ⟨rfl, rfl, rfl⟩ ⟨rfl, hx⟩
    cases Option.some.inj hx
    obtain ⟨dx, d, t, h1, h2, h3⟩ := id hP
    refine ⟨_, rfl, _, rfl, p, dx, _, rfl, h1, p, v, rfl, hP, true, rfl, true, rfl, ?_⟩
    refine yes ?_
    exact ⟨_, rfl, k⟩
def spOut (K : PySem.W.Frag) : Sp := fun vs H Q _ => ∃ (p l p' : Addr), vs = [.ref p, .ref l] ∧ PatAt K H p ∧ H l = some (.lst [.ref p']) ∧ PatAt K H p' ∧ ∀ H', Ex H H' → Q .non H'
theorem ok_out (T : TX K mg) (hS : SOk S) : Ok P w K mg base CX0 6 a_least_outside p_least_outside (spOut K) := by
  obtain ⟨fd, F⟩ := T.d.def_ 17 (d := d_least_outside) rfl
  obtain ⟨_, O_Pattern_least⟩ := ok_least (P := P) (w := w) (base := base) T hS
  obtain ⟨_, O_first_around⟩ := ok_around (P := P) (w := w) (base := base) T
  obtain ⟨_, O_Pattern_sub⟩ := ok_sub (P := P) (w := w) (base := base) T
  have b : Binds K fd p_least_outside [] := FunD.bindsN F fun _ _ _ _ _ _ us hl => match us, hl with | [_, _], _ => rfl
  refine ⟨fd, F.ok sc_least_outside (fun vs H Q E h => ?_) (fun cdv A outer s H vs Q E hr h => ?_), b, F.kp⟩
  · obtain ⟨p, l, p', rfl, _⟩ := h
    rfl
  · obtain ⟨p, l, p', rfl, hP, hl, hP', k⟩ := h
    refine ⟨_, PSs.nox (pss_cons (ps_set (i := 2) sc_least_outside.nd rfl (Or.inl rfl) (pe_lst (pa_cons (pe_tup (pa_cons (pe_meth0 (pv 0) T.c_Pattern T.m_Pattern_least O_Pattern_least.fn (hr.mono (by decide)) O_Pattern_least.b .nil pass0) (pa_cons (pv 0) pa_nil))) pa_nil)))
      (pss_cons
      (ps_while PassesOwn.never (pt_cmpR op_gt (pe_callB call_len rfl (T.free_len) (by decide +kernel) (pa_cons (pv 2) pa_nil)) pe_int (nomark _))
      (pss_cons (ps_asg (pe_bm0 PySem.F.plainAttrs_list PySem.F.slot_list_pop PySem.F.type_list_pop mt_pop (pv 2)) (pg_tupK (K := K) (n := 2) (pgs_cons (pg_name (i := 3) sc_least_outside.nd rfl (Or.inl rfl)) (pgs_cons (pg_name (i := 4) sc_least_outside.nd rfl (Or.inl rfl)) pgs_nil))))
      (pss_cons (ps_set (i := 5) sc_least_outside.nd rfl (Or.inl rfl) (pcall O_first_around (hr.mono (by decide)) rfl (T.g_first_around) pass0 (pa_cons (pv 3) (pa_cons (pv 1) pa_nil))))
      (pss_cons (ps_if (pt_cmpR op_isN (pv 5) pe_non (nomark _)) pss_never pss_nil) (pss_one
      (ps_for PassesOwn.never rfl (pi_list (pe_op (op_binO O_Pattern_sub.fn (hr.mono (by decide)) T.m_Pattern_sub T.first_Pattern O_Pattern_sub.b pass0) (pv 4) (pv 5))) (pg_name (i := 6) sc_least_outside.nd rfl (Or.inl rfl)) pss_never))))))
      (pss_one (ps_ret pe_non)))), ?_⟩
    obtain ⟨dx, d, t, h1, h2, h3⟩ := id hP
    refine ⟨_, rfl, p, dx, _, rfl, h1, look_least _ _, p, rfl, hP, fun m hd H1 e1 hm N1 => ?_⟩
    refine ⟨_, rfl, small (by show 2 ≤ 100000; decide), fun q hq => ⟨small (by show 1 ≤ 100000; decide), fun r hr => ?_⟩⟩
    have e2 := (e1.new (o := .tup [.ref m, .ref p]) hq)
    have gq : (upd H1 q (.tup [.ref m, .ref p])) q = some (.tup [.ref m, .ref p]) := upd_same
    generalize upd H1 q (.tup [.ref m, .ref p]) = H2 at e2 gq hr
    have fr := e2.back hr
    refine ⟨fun n σ H' => ∃ v3 v4 v5 v6 : Option V, σ = [some (.ref p), some (.ref l), some (.ref r), v3, v4, v5, v6] ∧ Kp [r] H2 H' ∧ ((n = 1 ∧ H' r = some (.lst [.ref q])) ∨ (n = 0 ∧ H' r = some (.lst []))),
      ⟨1, _, _, _, _, rfl, (Kp.refl _ _).new hr, .inl ⟨rfl, upd_same⟩⟩, ?_⟩
    rintro n σ H3 ⟨v3, v4, v5, v6, rfl, k3, hn⟩
    have e3 : Ex H H3 := fun b o z => k3 b o (e2 b o z) (off1 (ne_of_none z fr))
    rcases hn with ⟨rfl, h3'⟩ | ⟨rfl, h3'⟩
    · refine ⟨_, rfl, _, 1, rfl, .inl ⟨_, SqL.of h3', rfl⟩, _, _, rfl, rfl, _, rfl, ite2 (fun _ => ?_) (fun z => absurd (decide_eq_true (by decide)) z)⟩
      refine ⟨fun σ H' => ∃ v3 v4 v5 v6 : Option V, σ = [some (.ref p), some (.ref l), some (.ref r), v3, v4, v5, v6] ∧ Kp [r] H2 H' ∧ H' r = some (.lst []), fun σ' H' ⟨v3, v4, v5, v6, z1, z2, z3⟩ => ⟨0, by decide, v3, v4, v5, v6, z1, z2, .inr ⟨rfl, z3⟩⟩, ?_⟩
      refine ⟨_, rfl, .inl ⟨rfl, _, SqL.of h3'⟩, r, _, .ref q, rfl, rfl, h3', rfl, ?_⟩
      have k4 : Kp [r] H2 (upd H3 r (.lst [])) := k3.upd (on1 r)
      have e4 : Ex H (upd H3 r (.lst [])) := fun b o z => k4 b o (e2 b o z) (off1 (ne_of_none z fr))
      have nqr : q ≠ r := ne_of_none gq hr
      refine ⟨q, _, rfl, SqT.of (k4 q _ gq (off1 nqr)), rfl, _, _, rfl, _, _, rfl, rfl, ?_⟩
      refine ⟨_, rfl, _, rfl, _, l, p', rfl, e4 l _ hl, hP'.ex e4, ?_⟩
      refine ⟨_, rfl, rfl, _, rfl, ite2 (fun z => ?_) (fun _ => ?_)⟩
      · have := of_decide_eq_true z
        cases this
      obtain ⟨dx', d', t', h1', h2', h3''⟩ := hP'.ex e4
      obtain ⟨dxp, dp, tp, hp1, hp2, hp3⟩ := hP.ex e4
      refine ⟨_, rfl, _, rfl, p, p', _, _, _, _, rfl, rfl, hp1, h1', p, p', rfl, hP.ex e4, hP'.ex e4, fun y H5 e5 hy hy5 => ⟨y, rfl, y, rfl, ⟨_, SqL.of hy5⟩, ?_⟩⟩
      refine for_it (walk_list (K := K) (a := y) (xs := [])) (fun i σ' H' => σ' = _ ∧ H' = H5) ⟨rfl, rfl⟩ (fun i σ' H' _ z => by rw [z.2]; exact SqL.of hy5) (fun i x σ' H1 H2 hi => absurd hi (Nat.not_lt_zero _)) ?_
      rintro σ' H' ⟨rfl, rfl⟩
      exact ⟨_, _, _, _, rfl, k4.ex e5, e5 r _ upd_same⟩
    · refine ⟨_, rfl, _, 0, rfl, .inl ⟨_, SqL.of h3', rfl⟩, _, _, rfl, rfl, _, rfl, ite2 (fun z => ?_) (fun _ => ?_)⟩
      · exact absurd (of_decide_eq_true z) (by decide)
      · exact k H3 e3
end
end Sk
set_option Elab.async false
set_option linter.all false
set_option maxRecDepth 100000
set_option maxHeartbeats 4000000
namespace Sk
open PySem L2
/-! a test of two written texts -/
/-! ### names, steps, scenes -/
def letters : Str := "abcdefghijklmnopqrstuvwxyz"
def NmOk (s : Str) : Prop := 1 ≤ s.length ∧ s.length ≤ 8 ∧ ∀ c ∈ s.cps.toList, c ∈ letters.cps.toList
inductive Stp where
  | sho (w : Str) | st (n : Str) (k : Int) | ad (n : Str) (k : Int) | scn (n : Str)
def Stp.vs : Stp → List V
  | .sho w => [.str "show", .str w]
  | .st n k => [.str "set", .str n, .int k]
  | .ad n k => [.str "add", .str n, .int k]
  | .scn n => [.str "scene", .str n]
def Stp.nm : Stp → Str
  | .sho w => w
  | .st n _ => n
  | .ad n _ => n
  | .scn n => n
def StpAt (H : Hp) (a : Addr) (s : Stp) : Prop := H a = some (.tup s.vs)
/-- two lists, pairwise -/
def Pw {α β : Type} (R : α → β → Prop) (rs : List α) (xs : List β) : Prop := rs.length = xs.length ∧ ∀ (i : Nat) r x, rs[i]? = some r → xs[i]? = some x → R r x
theorem Pw.nil {α β : Type} {R : α → β → Prop} : Pw R [] [] := ⟨rfl, fun i r x a _ => by cases a⟩
theorem Pw.mono {α β : Type} {R R' : α → β → Prop} {rs : List α} {xs : List β} (h : Pw R rs xs) (f : ∀ r x, R r x → R' r x) : Pw R' rs xs := ⟨h.1, fun i r x a b => f r x (h.2 i r x a b)⟩
theorem Pw.snoc {α β : Type} {R : α → β → Prop} {rs : List α} {xs : List β} {r : α} {x : β} (h : Pw R rs xs) (e : R r x) : Pw R (rs ++ [r]) (xs ++ [x]) := by
  refine ⟨by rw [List.length_append, List.length_append, h.1]; rfl, fun i r' x' a b => ?_⟩
  rcases snoc_at a with a | ⟨a, ea⟩
  · have hi : i < xs.length := by
      rw [← h.1]
      exact (List.getElem?_eq_some_iff.mp a).1
    rw [List.getElem?_append_left hi] at b
    exact h.2 i r' x' a b
  · rw [a, h.1, List.getElem?_append_right (Nat.le_refl _), Nat.sub_self] at b
    have e2 : x = x' := Option.some.inj b
    rw [← e2, ← ea]
    exact e
theorem Pw.cons {α β : Type} {R : α → β → Prop} {rs : List α} {xs : List β} {r : α} {x : β} (h : Pw R rs xs) (e : R r x) : Pw R (r :: rs) (x :: xs) := by
  refine ⟨congrArg Nat.succ h.1, fun i r' x' a b => ?_⟩
  cases i with
  | zero =>
    cases a
    cases b
    exact e
  | succ i => exact h.2 i r' x' a b
theorem Pw.at {α β : Type} {R : α → β → Prop} {rs : List α} {xs : List β} (h : Pw R rs xs) {i : Nat} {r : α} (e : rs[i]? = some r) : ∃ x, xs[i]? = some x ∧ R r x := by
  have hi : i < xs.length := by
    rw [← h.1]
    exact (List.getElem?_eq_some_iff.mp e).1
  exact ⟨xs[i], List.getElem?_eq_getElem hi, h.2 i r _ e (List.getElem?_eq_getElem hi)⟩
theorem Pw.at' {α β : Type} {R : α → β → Prop} {rs : List α} {xs : List β} (h : Pw R rs xs) {i : Nat} {x : β} (e : xs[i]? = some x) : ∃ r, rs[i]? = some r ∧ R r x := by
  have hi : i < rs.length := by
    rw [h.1]
    exact (List.getElem?_eq_some_iff.mp e).1
  exact ⟨rs[i], List.getElem?_eq_getElem hi, h.2 i _ x (List.getElem?_eq_getElem hi) e⟩
theorem Pw.take {α β : Type} {R : α → β → Prop} {rs : List α} {xs : List β} (h : Pw R rs xs) (n : Nat) : Pw R (rs.take n) (xs.take n) := by
  refine ⟨by rw [List.length_take, List.length_take, h.1], fun i r x a b => ?_⟩
  rw [List.getElem?_take] at a b
  split at a
  · rename_i c
    rw [if_pos c] at b
    exact h.2 i r x a b
  · cases a
theorem Pw.append {α β : Type} {R : α → β → Prop} {rs rs' : List α} {xs xs' : List β} (h : Pw R rs xs) (h' : Pw R rs' xs') : Pw R (rs ++ rs') (xs ++ xs') := by
  refine ⟨by rw [List.length_append, List.length_append, h.1, h'.1], fun i r x a b => ?_⟩
  by_cases c : i < rs.length
  · rw [List.getElem?_append_left c] at a
    rw [List.getElem?_append_left (by rw [← h.1]; exact c)] at b
    exact h.2 i r x a b
  · rw [List.getElem?_append_right (Nat.le_of_not_lt c)] at a
    rw [List.getElem?_append_right (by rw [← h.1]; exact Nat.le_of_not_lt c), ← h.1] at b
    exact h'.2 _ r x a b
theorem Pw.reverse {α β : Type} {R : α → β → Prop} {rs : List α} {xs : List β} (h : Pw R rs xs) : Pw R rs.reverse xs.reverse := by
  refine ⟨by rw [List.length_reverse, List.length_reverse, h.1], fun i r x a b => ?_⟩
  have hi : i < rs.length := by
    have := (List.getElem?_eq_some_iff.mp a).1
    rw [List.length_reverse] at this
    exact this
  rw [List.getElem?_reverse hi] at a
  rw [List.getElem?_reverse (by rw [← h.1]; exact hi), ← h.1] at b
  exact h.2 _ r x a b
def StpsAt (H : Hp) (l : Addr) (ss : List Stp) : Prop := ∃ rs : List Addr, H l = some (.lst (rs.map V.ref)) ∧ Pw (StpAt H) rs ss
theorem StpAt.ex {H H' : Hp} {a : Addr} {s : Stp} (h : StpAt H a s) (e : Ex H H') : StpAt H' a s := e _ _ h
theorem StpsAt.ex {H H' : Hp} {l : Addr} {ss : List Stp} (h : StpsAt H l ss) (e : Ex H H') : StpsAt H' l ss := by
  obtain ⟨rs, h1, h2⟩ := h
  exact ⟨rs, e _ _ h1, h2.mono fun r x q => q.ex e⟩
structure Scn where
  name : Str
  steps : List Stp
  skip : Bool
def SkAt (H : Hp) (v : V) (b : Bool) : Prop := match b with
  | false => v = .non
  | true => ∃ q, v = .ref q ∧ H q = some (.lst [])
theorem SkAt.ex {H H' : Hp} {v : V} {b : Bool} (h : SkAt H v b) (e : Ex H H') : SkAt H' v b := by
  cases b with
  | false => exact h
  | true =>
    obtain ⟨q, h1, h2⟩ := h
    exact ⟨q, h1, e _ _ h2⟩
def ScnAt (H : Hp) (a : Addr) (c : Scn) : Prop := ∃ l v, H a = some (.tup [.str c.name, .ref l, v]) ∧ StpsAt H l c.steps ∧ SkAt H v c.skip
theorem ScnAt.ex {H H' : Hp} {a : Addr} {c : Scn} (h : ScnAt H a c) (e : Ex H H') : ScnAt H' a c := by
  obtain ⟨l, v, h1, h2, h3⟩ := h
  exact ⟨l, v, e _ _ h1, h2.ex e, h3.ex e⟩
def ScnsAt (H : Hp) (l : Addr) (cs : List Scn) : Prop := ∃ rs : List Addr, H l = some (.lst (rs.map V.ref)) ∧ Pw (ScnAt H) rs cs
theorem ScnsAt.ex {H H' : Hp} {l : Addr} {cs : List Scn} (h : ScnsAt H l cs) (e : Ex H H') : ScnsAt H' l cs := by
  obtain ⟨rs, h1, h2⟩ := h
  exact ⟨rs, e _ _ h1, h2.mono fun r x q => q.ex e⟩
/-- what is asked of a scene by itself -/
def ScnOk (c : Scn) : Prop := NmOk c.name ∧ (∀ s ∈ c.steps, NmOk s.nm) ∧ c.steps.length ≤ 1000
section
variable {P : Program} {w : World} {K : PySem.W.Frag} {mg : Str → Option Value} {base : Heap}
def spIsName : Sp := fun vs H Q _ => ∃ s : Str, vs = [.str s] ∧ NmOk s ∧ ∀ H', Ex H H' → Q (.bl true) H'
theorem kit_ss : PySem.W.kitOne K (.type "str") (.type "str") = some true := kit_ty (by decide +kernel)
theorem kit_ii : PySem.W.kitOne K (.type "int") (.type "int") = some true := kit_ty (by decide +kernel)
theorem kit_ib : PySem.W.kitOne K (.type "int") (.type "bool") = some false := kit_ty (by decide +kernel)
theorem kit_tt : PySem.W.kitOne K (.type "tuple") (.type "tuple") = some true := kit_ty (by decide +kernel)
theorem kit_ll : PySem.W.kitOne K (.type "list") (.type "list") = some true := kit_ty (by decide +kernel)
theorem ok_isname (T : TX K mg) : Ok P w K mg base CX0 1 a_is_name p_is_name spIsName := by
  obtain ⟨fd, F⟩ := T.d.def_ 18 (d := d_is_name) rfl
  have b : Binds K fd p_is_name [] := FunD.bindsN F fun _ _ _ _ _ _ us hl => match us, hl with | [_], _ => rfl
  refine ⟨fd, F.ok sc_is_name (fun vs H Q E h => ?_) (fun cdv A outer s H vs Q E hr h => ?_), b, F.kp⟩
  · obtain ⟨z, rfl, _⟩ := h
    rfl
  · obtain ⟨z, rfl, ⟨n1, n2, n3⟩, k⟩ := h
    refine ⟨_, PSs.nox (pss_one (ps_ret (pe_and (pe_callB (isiK (K := K)) rfl (T.free_isinstance) (by decide +kernel) (pa_cons (pv 0) (pa_cons (pe_bltn (v := .ty "str") rfl (T.free_str) (by decide +kernel) rfl) pa_nil))) (pe_and (pe_chain op_le op_le pe_int (pe_callB call_len_str rfl (T.free_len) (by decide +kernel) (pa_cons (pv 0) pa_nil)) pe_int) (pe_one (pe_callB (cr_all rfl) rfl (T.free_all) (by decide +kernel) (pa_cons
      (pe_lc (own := [("char", 1)]) rfl sc_is_name.nd (pi_str (pv 0)) (blkOk_by (own := [("char", 1)]) (N := n_is_name) (sc := defScope s_is_name) (by decide +kernel)) (fun _ _ _ _ _ => pg_name (i := 1) sc_is_name.nd rfl (Or.inl rfl)) (fun _ _ _ _ _ => pts_nil) (fun _ _ _ _ _ => (by exact (pe_cmpR op_in_sign (pv 1) (pe_glob (v := .str "abcdefghijklmnopqrstuvwxyz") rfl (T.c_LETTERS).choose_spec ⟨_, rfl⟩) rfl)))) pa_nil))))))), ?_⟩
    refine ⟨_, rfl, _, _, _, _, true, rfl, .ty _, .base (.str z), kit_ss, true, rfl, ?_⟩
    refine yes ?_
    refine ⟨_, rfl, _, rfl, small (by omega), _, _, rfl, rfl, _, rfl, ?_⟩
    refine ite2 (fun _ => ?_) (fun c => absurd (decide_eq_true (by omega)) c)
    refine ⟨_, _, rfl, rfl, true, congrArg V.bl (decide_eq_true (by omega)), ?_⟩
    refine yes ?_
    refine ⟨_, rfl, _, rfl, fun D hD => ?_⟩
    refine lc_it walk_str (fun i H' => H' D = some (.lst ((List.replicate i true).map V.bl)) ∧ Kp [D] H H') ⟨upd_same, (Kp.refl _ _).new hD⟩ (fun i H' _ _ => True.intro) ?_ ?_
    · rintro i x H1 H2 hi ⟨h1, k1⟩ ⟨rfl, c, hc, rfl⟩
      refine ⟨rfl, ?_⟩
      refine ⟨_, rfl, c, letters, rfl, rfl, ?_⟩
      have hm : c ∈ z.cps.toList := by
        obtain ⟨hl, e⟩ := Array.getElem?_eq_some_iff.mp hc
        rw [← e]
        exact Array.getElem_mem_toList hl
      rw [decide_eq_true (n3 c hm)]
      have hil : i ≤ 8 := by
        have : z.cps.size = z.length := rfl
        omega
      refine ⟨_, h1, by rw [List.length_map, List.length_replicate]; exact small' (by omega), ?_, k1.upd (on1 D)⟩
      rw [upd_same, List.replicate_succ', List.map_append]
      rfl
    · rintro H1 ⟨h1, k1⟩
      refine ⟨D, _, rfl, SqL.of h1, ?_⟩
      have e : (List.replicate z.cps.size true).all id = true := by
        rw [List.all_eq_true]
        intro x hx
        rw [(List.mem_replicate.mp hx).2]
        rfl
      rw [e]
      exact k H1 fun b o q => k1 b o q (off1 (ne_of_none q hD))
def spIsInt : Sp := fun vs H Q _ => ∃ i : Int, vs = [.int i] ∧ Q (.bl true) H
theorem ok_isint (T : TX K mg) : Ok P w K mg base CX0 1 a_is_integer p_is_integer spIsInt := by
  obtain ⟨fd, F⟩ := T.d.def_ 19 (d := d_is_integer) rfl
  have b : Binds K fd p_is_integer [] := FunD.bindsN F fun _ _ _ _ _ _ us hl => match us, hl with | [_], _ => rfl
  refine ⟨fd, F.ok sc_is_integer (fun vs H Q E h => ?_) (fun cdv A outer s H vs Q E hr h => ?_), b, F.kp⟩
  · obtain ⟨z, rfl, _⟩ := h
    rfl
  · obtain ⟨z, rfl, k⟩ := h
    refine ⟨_, PSs.nox (pss_one (ps_ret (pe_and (pe_callB (isiK (K := K)) rfl (T.free_isinstance) (by decide +kernel) (pa_cons (pv 0) (pa_cons (pe_bltn (v := .ty "int") rfl (T.free_int) (by decide +kernel) rfl) pa_nil))) (pe_one (pe_not (pe_callB (isiK (K := K)) rfl (T.free_isinstance) (by decide +kernel) (pa_cons (pv 0) (pa_cons (pe_bltn (v := .ty "bool") rfl (T.free_bool) (by decide +kernel) rfl) pa_nil)))))))), ?_⟩
    refine ⟨_, rfl, _, _, _, _, true, rfl, .ty _, .base (.int z), kit_ii, true, rfl, ?_⟩
    refine yes ?_
    exact ⟨_, rfl, _, _, _, _, false, rfl, .ty _, .base (.int z), kit_ib, false, rfl, k⟩
def spIsSkip : Sp := fun vs H Q _ => ∃ (v : V) (b : Bool), vs = [v] ∧ SkAt H v b ∧ ∀ H', Ex H H' → Q (.bl true) H'
theorem ok_isskip (T : TX K mg) : Ok P w K mg base CX0 1 a_is_skip p_is_skip spIsSkip := by
  obtain ⟨fd, F⟩ := T.d.def_ 20 (d := d_is_skip) rfl
  have b : Binds K fd p_is_skip [] := FunD.bindsN F fun _ _ _ _ _ _ us hl => match us, hl with | [_], _ => rfl
  refine ⟨fd, F.ok sc_is_skip (fun vs H Q E h => ?_) (fun cdv A outer s H vs Q E hr h => ?_), b, F.kp⟩
  · obtain ⟨z, _, rfl, _⟩ := h
    rfl
  · obtain ⟨v, b, rfl, hv, k⟩ := h
    refine ⟨_, PSs.nox (pss_cons (ps_if (pt_cmpR op_isN (pv 0) pe_non (nomark _)) (pss_one (ps_ret pe_bl)) pss_nil) (pss_cons
      (ps_if (pt_not (pt_val (pe_callB (isiK (K := K)) rfl (T.free_isinstance) (by decide +kernel) (pa_cons (pv 0) (pa_cons (pe_bltn (v := .ty "list") rfl (T.free_list) (by decide +kernel) rfl) pa_nil)))))
      (pss_one (ps_ret pe_bl)) pss_nil) (pss_one (ps_ret (pe_callB (cr_all rfl) rfl (T.free_all) (by decide +kernel) (pa_cons
      (pe_lc (own := [("row", 1)]) rfl sc_is_skip.nd (pi_list (pv 0)) (blkOk_by (own := [("row", 1)]) (N := n_is_skip) (sc := defScope s_is_skip) (by decide +kernel)) (fun _ _ _ _ _ => pg_name (i := 1) sc_is_skip.nd rfl (Or.inl rfl)) (fun _ _ _ _ _ => pts_nil) (fun _ _ _ _ _ => (by exact pe_never))) pa_nil)))))), ?_⟩
    refine ⟨_, rfl, rfl, _, rfl, ?_⟩
    cases b with
    | false =>
      obtain rfl : v = .non := hv
      refine ite2 (fun _ => ?_) (fun c => absurd (decide_eq_true rfl) c)
      exact k H (Ex.refl H)
    | true =>
      obtain ⟨q, rfl, hq⟩ := hv
      refine ite2 (fun c => ?_) (fun _ => ?_)
      · have := of_decide_eq_true c
        cases this
      refine ⟨_, rfl, _, _, _, _, true, rfl, .ty _, .base (.lst hq), kit_ll, true, rfl, ?_⟩
      refine nope ?_
      refine ⟨_, rfl, q, rfl, ⟨_, SqL.of hq⟩, fun D hD => ?_⟩
      have nD : q ≠ D := ne_of_none hq hD
      refine lc_list (K := K) (a := q) (xs := []) (fun i H' => H' D = some (.lst []) ∧ Ex H H') ⟨upd_same, (Ex.refl H).new hD⟩ (fun i H' _ z => SqL.of (z.2 _ _ hq)) (fun i x H' hx => by cases hx) ?_
      rintro H1 ⟨h1, e1⟩
      exact ⟨D, [], rfl, SqL.of h1, k H1 e1⟩
def spIsStep : Sp := fun vs H Q _ => ∃ (a : Addr) (s : Stp), vs = [.ref a, .int 1] ∧ StpAt H a s ∧ NmOk s.nm ∧ ∀ H', Ex H H' → Q (.bl true) H'
theorem ok_isstep (T : TX K mg) : Ok P w K mg base CX0 2 a_is_step p_is_step spIsStep := by
  obtain ⟨fd, F⟩ := T.d.def_ 21 (d := d_is_step) rfl
  obtain ⟨_, O_is_name⟩ := ok_isname (P := P) (w := w) (base := base) T
  obtain ⟨_, O_is_integer⟩ := ok_isint (P := P) (w := w) (base := base) T
  have b : Binds K fd p_is_step [] := FunD.bindsN F fun _ _ _ _ _ _ us hl => match us, hl with | [_, _], _ => rfl
  refine ⟨fd, F.ok sc_is_step (fun vs H Q E h => ?_) (fun cdv A outer s H vs Q E hr h => ?_), b, F.kp⟩
  · obtain ⟨z, _, rfl, _⟩ := h
    rfl
  · obtain ⟨a, st, rfl, ha, hn, k⟩ := h
    refine ⟨_, PSs.nox (pss_cons
      (ps_if (PW.pt (pw_or (pt_cmpR op_gt (pv 1) (pe_glob (v := .int 5) rfl (T.c_DEEPEST).choose_spec ⟨_, rfl⟩) (nomark _)) (pw_or (pt_not (pt_val (pe_callB (isiK (K := K)) rfl (T.free_isinstance) (by decide +kernel) (pa_cons (pv 0) (pa_cons (pe_bltn (v := .ty "tuple") rfl (T.free_tuple) (by decide +kernel) rfl) pa_nil))))) (pw_or (pt_cmpR op_lt (pe_callB call_len rfl (T.free_len) (by decide +kernel) (pa_cons (pv 0) pa_nil)) pe_int (nomark _)) (pw_or1 (pt_not (pt_val (pe_callB (isiK (K := K)) rfl (T.free_isinstance) (by decide +kernel) (pa_cons (pe_ix (ix_tupK (K := K)) (pv 0) pe_int (fun _ _ => rfl)) (pa_cons (pe_bltn (v := .ty "str") rfl (T.free_str) (by decide +kernel) rfl) pa_nil))))))))))
      (pss_one (ps_ret pe_bl)) pss_nil)
      (pss_cons (ps_par (i := 2) (j := 3) rfl sc_is_step.nd rfl rfl (by decide) rfl rfl (pa_cons (pe_ix (ix_tupK (K := K)) (pv 0) pe_int (fun _ _ => rfl)) (pa_cons (pe_callB call_len rfl (T.free_len) (by decide +kernel) (pa_cons (pv 0) pa_nil)) pa_nil)) (by rfl))
      (pss_cons (ps_if (pt_cmpR op_eq (pv 2) pe_str (nomark _)) pss_never pss_nil) (pss_cons
      (ps_if (pt_not (pt_val (pcall O_is_name (hr.mono (by decide)) rfl (T.g_is_name) pass0 (pa_cons (pe_ix (ix_tupK (K := K)) (pv 0) pe_int (fun _ _ => rfl)) pa_nil))))
      (pss_one (ps_ret pe_bl)) pss_nil) (pss_cons
      (ps_if (PW.pt (pw_or (pt_cmpR op_eq (pv 2) pe_str (nomark _)) (pw_or1 (pt_cmpR op_eq (pv 2) pe_str (nomark _)))))
      (pss_one (ps_ret (pe_cmpR op_eq (pv 3) pe_int (nomark _)))) pss_nil) (pss_cons
      (ps_if (PW.pt (pw_or (pt_cmpR op_eq (pv 2) pe_str (nomark _)) (pw_or1 (pt_cmpR op_eq (pv 2) pe_str (nomark _)))))
      (pss_one (ps_ret (pe_and (pe_cmpR op_eq (pv 3) pe_int (nomark _)) (pe_one (pcall O_is_integer (hr.mono (by decide)) rfl (T.g_is_integer) pass0 (pa_cons (pe_ix (ix_tupK (K := K)) (pv 0) pe_int (fun _ _ => rfl)) pa_nil)))))) pss_nil)
      (pss_cons (ps_if (pt_cmpR op_eq (pv 2) pe_str (nomark _)) pss_never pss_nil) (pss_cons ps_never (pss_one ps_never))))))))), ?_⟩
    have ha : H a = some (.tup st.vs) := ha
    refine ⟨_, rfl, _, _, rfl, rfl, _, rfl, ?_⟩
    refine ite2 (fun c => absurd (of_decide_eq_true c) (by decide +kernel)) (fun _ => ?_)
    refine ⟨_, rfl, _, _, _, _, true, rfl, .ty _, .base (.tup ha), kit_tt, true, rfl, ?_⟩
    refine nope ?_
    refine ⟨_, rfl, _, st.vs.length, rfl, .inr ⟨_, SqT.of ha, rfl⟩, _, _, rfl, rfl, _, rfl, ?_⟩
    refine ite2 (fun c => ?_) (fun _ => ?_)
    · have c := of_decide_eq_true c
      cases st <;> (simp only [Stp.vs, List.length_cons, List.length_nil] at c; omega)
    cases st with
    | sho x =>
      refine ⟨_, rfl, a, _, 0, _, rfl, rfl, SqT.of ha, rfl, _, _, _, _, true, rfl, .ty _, .base (.str _), kit_ss, true, rfl, ?_⟩
      refine nope ?_
      refine ⟨_, rfl, a, _, 0, _, rfl, rfl, SqT.of ha, rfl, _, rfl, _, 2, rfl, .inr ⟨_, SqT.of ha, rfl⟩, _, _, rfl, ?_⟩
      refine ⟨_, rfl, rfl, _, rfl, ?_⟩
      refine ite2 (fun c => absurd (of_decide_eq_true c) (by decide +kernel)) (fun _ => ?_)
      refine ⟨_, rfl, a, _, 1, _, rfl, rfl, SqT.of ha, rfl, x, rfl, hn, fun H1 e1 => ⟨true, rfl, ?_⟩⟩
      refine nope ?_
      refine ⟨_, rfl, rfl, _, rfl, ?_⟩
      refine ite2 (fun _ => ?_) (fun c => absurd (decide_eq_true (by first | rfl | decide +kernel)) c)
      refine ⟨_, rfl, rfl, ?_⟩
      exact k H1 e1
    | scn x =>
      refine ⟨_, rfl, a, _, 0, _, rfl, rfl, SqT.of ha, rfl, _, _, _, _, true, rfl, .ty _, .base (.str _), kit_ss, true, rfl, ?_⟩
      refine nope ?_
      refine ⟨_, rfl, a, _, 0, _, rfl, rfl, SqT.of ha, rfl, _, rfl, _, 2, rfl, .inr ⟨_, SqT.of ha, rfl⟩, _, _, rfl, ?_⟩
      refine ⟨_, rfl, rfl, _, rfl, ?_⟩
      refine ite2 (fun c => absurd (of_decide_eq_true c) (by decide +kernel)) (fun _ => ?_)
      refine ⟨_, rfl, a, _, 1, _, rfl, rfl, SqT.of ha, rfl, x, rfl, hn, fun H1 e1 => ⟨true, rfl, ?_⟩⟩
      refine nope ?_
      refine ⟨_, rfl, rfl, _, rfl, ?_⟩
      refine ite2 (fun c => absurd (of_decide_eq_true c) (by decide +kernel)) (fun _ => ?_)
      refine ⟨_, rfl, rfl, _, rfl, ?_⟩
      refine ite2 (fun _ => ?_) (fun c => absurd (decide_eq_true (by first | rfl | decide +kernel)) c)
      refine ⟨_, rfl, rfl, ?_⟩
      exact k H1 e1
    | st x i =>
      refine ⟨_, rfl, a, _, 0, _, rfl, rfl, SqT.of ha, rfl, _, _, _, _, true, rfl, .ty _, .base (.str _), kit_ss, true, rfl, ?_⟩
      refine nope ?_
      refine ⟨_, rfl, a, _, 0, _, rfl, rfl, SqT.of ha, rfl, _, rfl, _, 3, rfl, .inr ⟨_, SqT.of ha, rfl⟩, _, _, rfl, ?_⟩
      refine ⟨_, rfl, rfl, _, rfl, ?_⟩
      refine ite2 (fun c => absurd (of_decide_eq_true c) (by decide +kernel)) (fun _ => ?_)
      refine ⟨_, rfl, a, _, 1, _, rfl, rfl, SqT.of ha, rfl, x, rfl, hn, fun H1 e1 => ⟨true, rfl, ?_⟩⟩
      refine nope ?_
      refine ⟨_, rfl, rfl, _, rfl, ?_⟩
      refine ite2 (fun c => absurd (of_decide_eq_true c) (by decide +kernel)) (fun _ => ?_)
      refine ⟨_, rfl, rfl, _, rfl, ?_⟩
      refine ite2 (fun c => absurd (of_decide_eq_true c) (by decide +kernel)) (fun _ => ?_)
      refine ⟨_, rfl, rfl, _, rfl, ?_⟩
      refine ite2 (fun _ => ?_) (fun c => absurd (decide_eq_true (by first | rfl | decide +kernel)) c)
      refine ⟨_, rfl, rfl, true, rfl, ?_⟩
      refine yes ?_
      exact ⟨_, rfl, a, _, 2, _, rfl, rfl, SqT.of (e1 _ _ ha), rfl, i, rfl, k H1 e1⟩
    | ad x i =>
      refine ⟨_, rfl, a, _, 0, _, rfl, rfl, SqT.of ha, rfl, _, _, _, _, true, rfl, .ty _, .base (.str _), kit_ss, true, rfl, ?_⟩
      refine nope ?_
      refine ⟨_, rfl, a, _, 0, _, rfl, rfl, SqT.of ha, rfl, _, rfl, _, 3, rfl, .inr ⟨_, SqT.of ha, rfl⟩, _, _, rfl, ?_⟩
      refine ⟨_, rfl, rfl, _, rfl, ?_⟩
      refine ite2 (fun c => absurd (of_decide_eq_true c) (by decide +kernel)) (fun _ => ?_)
      refine ⟨_, rfl, a, _, 1, _, rfl, rfl, SqT.of ha, rfl, x, rfl, hn, fun H1 e1 => ⟨true, rfl, ?_⟩⟩
      refine nope ?_
      refine ⟨_, rfl, rfl, _, rfl, ?_⟩
      refine ite2 (fun c => absurd (of_decide_eq_true c) (by decide +kernel)) (fun _ => ?_)
      refine ⟨_, rfl, rfl, _, rfl, ?_⟩
      refine ite2 (fun c => absurd (of_decide_eq_true c) (by decide +kernel)) (fun _ => ?_)
      refine ⟨_, rfl, rfl, _, rfl, ?_⟩
      refine ite2 (fun c => absurd (of_decide_eq_true c) (by decide +kernel)) (fun _ => ?_)
      refine ⟨_, rfl, rfl, _, rfl, ?_⟩
      refine ite2 (fun _ => ?_) (fun c => absurd (decide_eq_true (by first | rfl | decide +kernel)) c)
      refine ⟨_, rfl, rfl, true, rfl, ?_⟩
      refine yes ?_
      exact ⟨_, rfl, a, _, 2, _, rfl, rfl, SqT.of (e1 _ _ ha), rfl, i, rfl, k H1 e1⟩
def spAreSteps : Sp := fun vs H Q _ => ∃ (l : Addr) (ss : List Stp), vs = [.ref l, .int 1] ∧ StpsAt H l ss ∧ (∀ s ∈ ss, NmOk s.nm) ∧ ss.length ≤ 1000 ∧ ∀ H', Ex H H' → Q (.bl true) H'
theorem ok_aresteps (T : TX K mg) : Ok P w K mg base CX0 3 a_are_steps p_are_steps spAreSteps := by
  obtain ⟨fd, F⟩ := T.d.def_ 22 (d := d_are_steps) rfl
  obtain ⟨_, O_is_step⟩ := ok_isstep (P := P) (w := w) (base := base) T
  have b : Binds K fd p_are_steps [] := FunD.bindsN F fun _ _ _ _ _ _ us hl => match us, hl with | [_, _], _ => rfl
  refine ⟨fd, F.ok sc_are_steps (fun vs H Q E h => ?_) (fun cdv A outer s H vs Q E hr h => ?_), b, F.kp⟩
  · obtain ⟨z, _, rfl, _⟩ := h
    rfl
  · obtain ⟨l, ss, rfl, ⟨rs, hl, hrs⟩, hn, hlen, k⟩ := h
    refine ⟨_, PSs.nox (pss_one (ps_ret (pe_and (pe_callB (isiK (K := K)) rfl (T.free_isinstance) (by decide +kernel) (pa_cons (pv 0) (pa_cons (pe_bltn (v := .ty "list") rfl (T.free_list) (by decide +kernel) rfl) pa_nil))) (pe_one (pe_callB (cr_all rfl) rfl (T.free_all) (by decide +kernel) (pa_cons
      (pe_lc (own := [("step", 2)]) rfl sc_are_steps.nd (pi_list (pv 0)) (blkOk_by (own := [("step", 2)]) (N := n_are_steps) (sc := defScope s_are_steps) (by decide +kernel)) (fun _ _ _ _ _ => pg_name (i := 2) sc_are_steps.nd rfl (Or.inl rfl)) (fun _ _ _ _ _ => pts_nil) (fun _ _ _ _ _ => (by exact (pcall O_is_step (hr.mono (by decide)) rfl (T.g_is_step) pass0 (pa_cons (pv 2) (pa_cons (pv 1) pa_nil)))))) pa_nil)))))), ?_⟩
    refine ⟨_, rfl, _, _, _, _, true, rfl, .ty _, .base (.lst hl), kit_ll, true, rfl, ?_⟩
    refine yes ?_
    refine ⟨_, rfl, l, rfl, ⟨_, SqL.of hl⟩, fun D hD => ?_⟩
    have nD : l ≠ D := ne_of_none hl hD
    refine lc_list (K := K) (a := l) (xs := rs.map V.ref) (fun i H' => H' D = some (.lst ((List.replicate i true).map V.bl)) ∧ Kp [D] H H') ⟨upd_same, (Kp.refl _ _).new hD⟩ (fun i H' _ z => SqL.of (z.2 _ _ hl (off1 nD))) ?_ ?_
    · rintro i x H1 hx ⟨h1, k1⟩
      obtain ⟨r, hr', rfl⟩ := map_at hx
      obtain ⟨st, hs, ha⟩ := hrs.at hr'
      have ha : H r = some (.tup st.vs) := ha
      refine ⟨rfl, ?_⟩
      refine ⟨_, rfl, _, rfl, r, st, rfl, k1 r _ ha (off1 (ne_of_none ha hD)), hn st (List.mem_of_getElem? hs), fun H2 e2 => ?_⟩
      have hi : i < ss.length := (List.getElem?_eq_some_iff.mp hs).1
      refine ⟨_, e2 _ _ h1, by rw [List.length_map, List.length_replicate]; exact small' (by omega), ?_, (k1.ex e2).upd (on1 D)⟩
      rw [upd_same, List.replicate_succ', List.map_append]
      rfl
    · rintro H1 ⟨h1, k1⟩
      refine ⟨D, _, rfl, SqL.of h1, ?_⟩
      have e : ∀ n, (List.replicate n true).all id = true := fun n => by
        rw [List.all_eq_true]
        intro x hx
        rw [(List.mem_replicate.mp hx).2]
        rfl
      rw [e]
      exact k H1 fun b o q => k1 b o q (off1 (ne_of_none q hD))
def spIsScene : Sp := fun vs H Q _ => ∃ (a : Addr) (c : Scn), vs = [.ref a] ∧ ScnAt H a c ∧ ScnOk c ∧ ∀ H', Ex H H' → Q (.bl true) H'
theorem ok_isscene (T : TX K mg) : Ok P w K mg base CX0 4 a_is_scene p_is_scene spIsScene := by
  obtain ⟨fd, F⟩ := T.d.def_ 23 (d := d_is_scene) rfl
  obtain ⟨_, O_is_name⟩ := ok_isname (P := P) (w := w) (base := base) T
  obtain ⟨_, O_are_steps⟩ := ok_aresteps (P := P) (w := w) (base := base) T
  obtain ⟨_, O_is_skip⟩ := ok_isskip (P := P) (w := w) (base := base) T
  have b : Binds K fd p_is_scene [] := FunD.bindsN F fun _ _ _ _ _ _ us hl => match us, hl with | [_], _ => rfl
  refine ⟨fd, F.ok sc_is_scene (fun vs H Q E h => ?_) (fun cdv A outer s H vs Q E hr h => ?_), b, F.kp⟩
  · obtain ⟨z, _, rfl, _⟩ := h
    rfl
  · obtain ⟨a, c, rfl, ⟨l, v, ha, hl, hv⟩, ⟨c1, c2, c3⟩, k⟩ := h
    refine ⟨_, PSs.nox (pss_cons
      (ps_if (PW.pt (pw_or (pt_not (pt_val (pe_callB (isiK (K := K)) rfl (T.free_isinstance) (by decide +kernel) (pa_cons (pv 0) (pa_cons (pe_bltn (v := .ty "tuple") rfl (T.free_tuple) (by decide +kernel) rfl) pa_nil))))) (pw_or (pt_cmpR op_ne (pe_callB call_len rfl (T.free_len) (by decide +kernel) (pa_cons (pv 0) pa_nil)) pe_int (nomark _)) (pw_or1 (pt_not (pt_val (pcall O_is_name (hr.mono (by decide)) rfl (T.g_is_name) pass0 (pa_cons (pe_ix (ix_tupK (K := K)) (pv 0) pe_int (fun _ _ => rfl)) pa_nil))))))))
      (pss_one (ps_ret pe_bl)) pss_nil)
      (pss_one (ps_ret (pe_and (pcall O_are_steps (hr.mono (by decide)) rfl (T.g_are_steps) pass0 (pa_cons (pe_ix (ix_tupK (K := K)) (pv 0) pe_int (fun _ _ => rfl)) (pa_cons pe_int pa_nil))) (pe_one (pcall O_is_skip (hr.mono (by decide)) rfl (T.g_is_skip) pass0 (pa_cons (pe_ix (ix_tupK (K := K)) (pv 0) pe_int (fun _ _ => rfl)) pa_nil))))))), ?_⟩
    refine ⟨_, rfl, _, _, _, _, true, rfl, .ty _, .base (.tup ha), kit_tt, true, rfl, ?_⟩
    refine nope ?_
    refine ⟨_, rfl, _, 3, rfl, .inr ⟨_, SqT.of ha, rfl⟩, rfl, _, rfl, ?_⟩
    refine ite2 (fun z => ?_) (fun _ => ?_)
    · have q : (!decide (V.int ((3 : Nat) : Int) = V.int 3)) = false := by decide +kernel
      rw [q] at z
      cases z
    refine ⟨_, rfl, a, _, 0, _, rfl, rfl, SqT.of ha, rfl, c.name, rfl, c1, fun H1 e1 => ⟨true, rfl, ?_⟩⟩
    refine nope ?_
    refine ⟨_, rfl, a, _, 1, _, rfl, rfl, SqT.of (e1 _ _ ha), rfl, l, c.steps, rfl, hl.ex e1, c2, c3, fun H2 e2 => ⟨true, rfl, ?_⟩⟩
    refine yes ?_
    have e3 := e1.trans e2
    exact ⟨_, rfl, a, _, 2, _, rfl, rfl, SqT.of (e3 _ _ ha), rfl, v, c.skip, rfl, hv.ex e3, fun H4 e4 => k H4 (e3.trans e4)⟩
end
end Sk
set_option Elab.async false
set_option linter.all false
set_option maxRecDepth 100000
set_option maxHeartbeats 4000000
namespace Sk
open PySem L2
section
variable {P : Program} {w : World} {K : PySem.W.Frag} {mg : Str → Option Value} {base : Heap}
/-! ### the story's checks -/
def spInner : Sp := fun vs H Q _ => ∃ (a : Addr) (s : Stp), vs = [.ref a] ∧ StpAt H a s ∧ ∀ q, H q = none → Q (.ref q) (upd H q (.lst []))
theorem kind0 (s : Stp) : ∃ r, s.vs = r ∧ (∃ x, r[0]? = some (.str x) ∧ ¬ (V.str x = V.str "if") ∧ ¬ (V.str x = V.str "choose")) := by
  cases s <;> exact ⟨_, rfl, _, rfl, by decide +kernel, by decide +kernel⟩
theorem at0 {vs : List V} {v : V} (h : vs[0]? = some v) : atI vs 0 = some v := atI_nat (j := 0) h
theorem ok_inner (T : TX K mg) : Ok P w K mg base CX0 1 a_inner_lists p_inner_lists spInner := by
  obtain ⟨fd, F⟩ := T.d.def_ 24 (d := d_inner_lists) rfl
  have b : Binds K fd p_inner_lists [] := FunD.bindsN F fun _ _ _ _ _ _ us hl => match us, hl with | [_], _ => rfl
  refine ⟨fd, F.ok sc_inner_lists (fun vs H Q E h => ?_) (fun cdv A outer s H vs Q E hr h => ?_), b, F.kp⟩
  · obtain ⟨z, _, rfl, _⟩ := h
    rfl
  · obtain ⟨a, st, rfl, ha, k⟩ := h
    have ha : H a = some (.tup st.vs) := ha
    refine ⟨_, PSs.nox (pss_cons (ps_if (pt_cmpR op_eq (pe_ix (ix_tupK (K := K)) (pv 0) pe_int (fun _ _ => rfl)) pe_str (nomark _)) pss_never pss_nil) (pss_cons
      (ps_if (pt_cmpR op_eq (pe_ix (ix_tupK (K := K)) (pv 0) pe_int (fun _ _ => rfl)) pe_str (nomark _)) pss_never pss_nil)
      (pss_one (ps_ret (pe_lst pa_nil))))), ?_⟩
    obtain ⟨_, rfl, x, hx, n1, n2⟩ := kind0 st
    have h0 := at0 hx
    refine ⟨_, rfl, a, _, 0, _, rfl, rfl, SqT.of ha, h0, rfl, _, rfl, ite2 (fun c => absurd (of_decide_eq_true c) n1) (fun _ => ?_)⟩
    refine ⟨_, rfl, a, _, 0, _, rfl, rfl, SqT.of ha, h0, rfl, _, rfl, ite2 (fun c => absurd (of_decide_eq_true c) n2) (fun _ => ?_)⟩
    exact ⟨Nat.zero_le _, k⟩
def spPlayed : Sp := fun vs H Q _ => ∃ (l : Addr) (ss : List Stp), vs = [.ref l] ∧ StpsAt H l ss ∧ ss.length ≤ 1000 ∧ ∀ (q : Addr) (ns : List Str) (H' : Hp), Ex H H' → H q = none → H' q = some (.lst (ns.map V.str)) → ns.length ≤ 1000 → (∀ n ∈ ns, Stp.scn n ∈ ss) → Q (.ref q) H'
theorem ok_played (T : TX K mg) : Ok P w K mg base CX0 2 a_played_names p_played_names spPlayed := by
  obtain ⟨fd, F⟩ := T.d.def_ 25 (d := d_played_names) rfl
  obtain ⟨_, O_inner_lists⟩ := ok_inner (P := P) (w := w) (base := base) T
  have b : Binds K fd p_played_names [] := FunD.bindsN F fun _ _ _ _ _ _ us hl => match us, hl with | [_], _ => rfl
  refine ⟨fd, F.ok sc_played_names (fun vs H Q E h => ?_) (fun cdv A outer s H vs Q E hr h => ?_), b, F.kp⟩
  · obtain ⟨z, _, rfl, _⟩ := h
    rfl
  · obtain ⟨l, ss, rfl, ⟨rs, hl, hrs⟩, hlen, k⟩ := h
    refine ⟨_, PSs.nox (pss_cons (ps_set (i := 1) sc_played_names.nd rfl (Or.inl rfl) (pe_lst pa_nil))
      (pss_cons (ps_set (i := 2) sc_played_names.nd rfl (Or.inl rfl) (pe_callTy call_list_of rfl (T.free_list) (by decide +kernel) (pa_cons (pv 0) pa_nil)))
      (pss_cons
      (ps_while PassesOwn.never (pt_cmpR op_gt (pe_callB call_len rfl (T.free_len) (by decide +kernel) (pa_cons (pv 2) pa_nil)) pe_int (nomark _))
      (pss_cons (ps_set (i := 3) sc_played_names.nd rfl (Or.inl rfl) (pe_bm0 PySem.F.plainAttrs_list PySem.F.slot_list_pop PySem.F.type_list_pop mt_pop (pv 2)))
      (C8.pss_cut (ps_if (pt_cmpR op_eq (pe_ix (ix_tupK (K := K)) (pv 3) pe_int (fun _ _ => rfl)) pe_str (nomark _))
      (pss_one (ps_expr (pe_bm PySem.F.plainAttrs_list PySem.F.slot_list_append PySem.F.type_list_append mt_append (pv 1) (pa_cons (pe_ix (ix_tupK (K := K)) (pv 3) pe_int (fun _ _ => rfl)) pa_nil)))) pss_nil)
      (pss_one
      (ps_for PassesOwn.never rfl (pi_list (pcall O_inner_lists (hr.mono (by decide)) rfl (T.g_inner_lists) pass0 (pa_cons (pv 3) pa_nil))) (pg_name (i := 4) sc_played_names.nd rfl (Or.inl rfl))
      (pss_one (ps_expr (pe_bm PySem.F.plainAttrs_list PySem.F.slot_list_extend PySem.F.type_list_extend mt_extend (pv 2) (pa_cons (pv 4) pa_nil)))))))))
      (pss_one (ps_ret (pv 1)))))), ?_⟩
    refine ⟨Nat.zero_le _, fun q hq => ?_⟩
    have e1 : Ex H (upd H q (.lst [])) := (Ex.refl H).new hq
    refine ⟨_, rfl, l, _, rfl, .inl (SqL.of (e1 _ _ hl)), fun r hr0 => ?_⟩
    have nqr : q ≠ r := ne_of_none upd_same hr0
    have fr : H r = none := e1.back hr0
    have e2 : Ex H (upd (upd H q (.lst [])) r (.lst (rs.map V.ref))) := e1.new hr0
    have lrs : rs.length ≤ 1000 := by
      rw [hrs.1]
      exact hlen
    refine ⟨fun n σ H' => ∃ (v3 v4 : Option V) (ns : List Str), σ = [some (.ref l), some (.ref q), some (.ref r), v3, v4] ∧ n ≤ rs.length ∧ H' r = some (.lst ((rs.take n).map V.ref)) ∧ H' q = some (.lst (ns.map V.str)) ∧ ns.length + n ≤ rs.length ∧ (∀ n ∈ ns, Stp.scn n ∈ ss) ∧ Kp [q, r] H H',
      ⟨rs.length, none, none, [], rfl, Nat.le_refl _, by rw [upd_same, List.take_length], by rw [upd_ne nqr, upd_same] <;> rfl, by show 0 + rs.length ≤ _; omega, fun n m => absurd m List.not_mem_nil, e2.kp _⟩, ?_⟩
    rintro n σ H3 ⟨v3, v4, ns, rfl, hn, h3r, h3q, hnl, hns, k3⟩
    have m1 : q ∈ [q, r] := List.mem_cons_self
    have m2 : r ∈ [q, r] := List.mem_cons_of_mem _ (on1 r)
    have off : ∀ {b : Addr} {o : HO}, H b = some o → b ∉ [q, r] := fun {b o} z m => by
      rcases List.mem_cons.mp m with m | m
      · exact ne_of_none z hq m
      · exact ne_of_none z fr (List.mem_singleton.mp m)
    have ln : ((rs.take n).map V.ref).length = n := by rw [List.length_map, List.length_take]; omega
    refine ⟨_, rfl, _, ((rs.take n).map V.ref).length, rfl, .inl ⟨_, SqL.of h3r, rfl⟩, _, _, rfl, rfl, _, rfl, ite2 (fun c => ?_) (fun c => ?_)⟩
    · have hpos : 0 < n := by
        have c := of_decide_eq_true c
        omega
      obtain ⟨m, rfl⟩ := Nat.exists_eq_succ_of_ne_zero (Nat.pos_iff_ne_zero.mp hpos)
      have hm : m < rs.length := by omega
      have hrm := List.getElem?_eq_getElem hm
      obtain ⟨st, hst, hat⟩ := hrs.at hrm
      have hat : H rs[m] = some (.tup st.vs) := hat
      obtain ⟨_, hvs, x, hx, _, _⟩ := kind0 st
      subst hvs
      have tk : rs.take (m + 1) = rs.take m ++ [rs[m]] := take_snoc hrm
      refine ⟨fun σ H' => ∃ (v3 v4 : Option V) (ns : List Str), σ = [some (.ref l), some (.ref q), some (.ref r), v3, v4] ∧ H' r = some (.lst ((rs.take m).map V.ref)) ∧ H' q = some (.lst (ns.map V.str)) ∧ ns.length + m ≤ rs.length ∧ (∀ n ∈ ns, Stp.scn n ∈ ss) ∧ Kp [q, r] H H',
        fun σ' H' ⟨v3, v4, ns, z1, z2, z3, z4, z5, z6⟩ => ⟨m, Nat.lt_succ_self m, v3, v4, ns, z1, by omega, z2, z3, z4, z5, z6⟩, ?_⟩
      refine ⟨_, rfl, .inl ⟨rfl, _, SqL.of h3r⟩, r, _, .ref rs[m], rfl, rfl, h3r, ?_, ?_⟩
      · rw [ln, tk, List.map_append]
        show _[m]? = _
        rw [List.getElem?_append_right (by rw [List.length_map, List.length_take]; omega), List.length_map, List.length_take, Nat.min_eq_left (by omega), Nat.sub_self]
        rfl
      have edl : ((rs.take (m + 1)).map V.ref).dropLast = (rs.take m).map V.ref := by
        rw [tk, List.map_append]
        exact List.dropLast_concat
      rw [edl]
      have k4 : Kp [q, r] H (upd H3 r (.lst ((rs.take m).map V.ref))) := k3.upd m2
      have g4q : (upd H3 r (.lst ((rs.take m).map V.ref))) q = some (.lst (ns.map V.str)) := by rw [upd_ne nqr]; exact h3q
      have g4r : (upd H3 r (.lst ((rs.take m).map V.ref))) r = some (.lst ((rs.take m).map V.ref)) := upd_same
      generalize upd H3 r (.lst ((rs.take m).map V.ref)) = H4 at k4 g4q g4r
      have hat4 : H4 rs[m] = some (.tup st.vs) := k4 _ _ hat (off hat)
      have h0 := at0 hx
      refine ⟨fun σ H' => ∃ (ns : List Str), σ = [some (.ref l), some (.ref q), some (.ref r), some (.ref rs[m]), v4] ∧ H' r = some (.lst ((rs.take m).map V.ref)) ∧ H' q = some (.lst (ns.map V.str)) ∧ ns.length + m ≤ rs.length ∧ (∀ n ∈ ns, Stp.scn n ∈ ss) ∧ Kp [q, r] H H', ?_, ?_⟩
      · refine ⟨_, rfl, rs[m], _, 0, _, rfl, rfl, SqT.of hat4, h0, rfl, _, rfl, ?_⟩
        cases st with
        | scn y =>
          cases Option.some.inj hx
          refine ite2 (fun _ => ?_) (fun c => absurd (decide_eq_true rfl) c)
          refine ⟨_, rfl, .inl ⟨rfl, _, SqL.of g4q⟩, _, rfl, rs[m], _, 1, _, rfl, rfl, SqT.of hat4, rfl, q, _, _, rfl, rfl, g4q, by rw [List.length_map]; exact small' (by omega), ns ++ [y], rfl, ?_, ?_, ?_, ?_, k4.upd m1⟩
          · rw [upd_ne nqr.symm]
            exact g4r
          · rw [upd_same, List.map_append]
            rfl
          · rw [List.length_append]
            show ns.length + 1 + m ≤ _
            omega
          · intro z mz
            rcases List.mem_append.mp mz with mz | mz
            · exact hns z mz
            · rw [List.mem_singleton.mp mz]
              exact List.mem_of_getElem? hst
        | sho y =>
          cases Option.some.inj hx
          refine ite2 (fun c => absurd (of_decide_eq_true c) (by decide +kernel)) (fun _ => ?_)
          exact ⟨ns, rfl, g4r, g4q, by omega, hns, k4⟩
        | st y i =>
          cases Option.some.inj hx
          refine ite2 (fun c => absurd (of_decide_eq_true c) (by decide +kernel)) (fun _ => ?_)
          exact ⟨ns, rfl, g4r, g4q, by omega, hns, k4⟩
        | ad y i =>
          cases Option.some.inj hx
          refine ite2 (fun c => absurd (of_decide_eq_true c) (by decide +kernel)) (fun _ => ?_)
          exact ⟨ns, rfl, g4r, g4q, by omega, hns, k4⟩
      · rintro σ H5 ⟨ns', rfl, q5r, q5q, l5, o5, k5⟩
        refine ⟨_, rfl, rs[m], st, rfl, k5 _ _ hat (off hat), fun y hy => ⟨y, rfl, ⟨_, SqL.of upd_same⟩, ?_⟩⟩
        have e5 : Ex H5 (upd H5 y (.lst [])) := (Ex.refl _).new hy
        have gy : (upd H5 y (.lst [])) y = some (.lst []) := upd_same
        refine for_it (walk_list (K := K) (a := y) (xs := [])) (fun i σ' H' => σ' = [some (.ref l), some (.ref q), some (.ref r), some (.ref rs[m]), v4] ∧ H' y = some (.lst []) ∧ Ex H5 H') ⟨rfl, gy, e5⟩ (fun i σ' H' _ z => SqL.of z.2.1) (fun i x σ' H1 H2 hi => absurd hi (Nat.not_lt_zero _)) ?_
        rintro σ' H6 ⟨rfl, _, e6⟩
        exact ⟨_, v4, ns', rfl, e6 _ _ q5r, e6 _ _ q5q, l5, o5, k5.ex e6⟩
    · refine ⟨_, rfl, ?_⟩
      have eH : Ex H H3 := fun b o z => k3 b o z (off z)
      exact k q ns H3 eH hq h3q (by omega) hns
end
end Sk
set_option Elab.async false
set_option linter.all false
set_option maxRecDepth 100000
set_option maxHeartbeats 4000000
namespace Sk
open PySem L2
theorem inV_yes {x : Str} {ns : List Str} (h : x ∈ ns) : inV (.str x) (ns.map V.str) = true := by
  refine List.any_eq_true.mpr ⟨.str x, List.mem_map.mpr ⟨x, h, rfl⟩, ?_⟩
  show (x == x) = true
  exact beq_self_eq_true x
theorem inV_no {x : Str} {ns : List Str} (h : x ∉ ns) : inV (.str x) (ns.map V.str) = false := by
  cases e : inV (.str x) (ns.map V.str) with
  | false => rfl
  | true =>
    obtain ⟨v, hv, q⟩ := List.any_eq_true.mp e
    obtain ⟨y, hy, rfl⟩ := List.mem_map.mp hv
    have q : (y == x) = true := q
    exact absurd (by rw [← beq_iff_eq.mp q]; exact hy) h
theorem flat_strs (ns : List Str) : (ns.map V.str).all flatV = true := by
  rw [List.all_eq_true]
  intro v hv
  obtain ⟨y, _, rfl⟩ := List.mem_map.mp hv
  rfl
theorem cut_to {α : Type} (f : α → V) (ns : List α) (i : Nat) : cutV (ns.map f) none (some (i : Int)) = (ns.take i).map f := by
  unfold cutV
  rw [HT.sIx_none, HT.sIx_nat, Nat.sub_zero, List.drop_zero, ← List.map_take, List.length_map]
  by_cases c : i ≤ ns.length
  · rw [Nat.min_eq_left c]
  · rw [Nat.min_eq_right (by omega), List.take_length, List.take_of_length_le (by omega)]
theorem cut_from {α : Type} (f : α → V) (ns : List α) (i : Nat) : cutV (ns.map f) (some (i : Int)) none = (ns.drop i).map f := by
  unfold cutV
  rw [HT.sIx_none, HT.sIx_nat, ← List.map_drop, List.take_of_length_le (by rw [List.length_map, List.length_drop, List.length_map]; omega)]
  by_cases c : i ≤ ns.length
  · rw [List.length_map, Nat.min_eq_left c]
  · rw [List.length_map, Nat.min_eq_right (by omega), List.drop_length, List.drop_of_length_le (by omega)]
section
variable {P : Program} {w : World} {K : PySem.W.Frag} {mg : Str → Option Value} {base : Heap}
def spItemName : Sp := fun vs H Q _ => ∃ (a : Addr) (c : Scn), vs = [.ref a] ∧ ScnAt H a c ∧ ScnOk c ∧ ∀ H', Ex H H' → Q (.str c.name) H'
theorem ok_itemname (T : TX K mg) : Ok P w K mg base CX0 2 a_item_name p_item_name spItemName := by
  obtain ⟨fd, F⟩ := T.d.def_ 26 (d := d_item_name) rfl
  obtain ⟨_, O_is_name⟩ := ok_isname (P := P) (w := w) (base := base) T
  have b : Binds K fd p_item_name [] := FunD.bindsN F fun _ _ _ _ _ _ us hl => match us, hl with | [_], _ => rfl
  refine ⟨fd, F.ok sc_item_name (fun vs H Q E h => ?_) (fun cdv A outer s H vs Q E hr h => ?_), b, F.kp⟩
  · obtain ⟨z, _, rfl, _⟩ := h
    rfl
  · obtain ⟨a, c, rfl, ⟨l, v, ha, hl, hv⟩, ⟨c1, c2, c3⟩, k⟩ := h
    refine ⟨_, PSs.nox (pss_cons
      (ps_if (PW.pt (pw_and (pt_val (pe_callB (isiK (K := K)) rfl (T.free_isinstance) (by decide +kernel) (pa_cons (pv 0) (pa_cons (pe_bltn (v := .ty "tuple") rfl (T.free_tuple) (by decide +kernel) rfl) pa_nil)))) (pw_and (pt_cmpR op_eq (pe_callB call_len rfl (T.free_len) (by decide +kernel) (pa_cons (pv 0) pa_nil)) pe_int (nomark _)) (pw_and1 (pt_val (pcall O_is_name (hr.mono (by decide)) rfl (T.g_is_name) pass0 (pa_cons (pe_ix (ix_tupK (K := K)) (pv 0) pe_int (fun _ _ => rfl)) pa_nil)))))))
      (pss_one (ps_ret (pe_ix (ix_tupK (K := K)) (pv 0) pe_int (fun _ _ => rfl)))) pss_nil) (pss_one (ps_ret pe_non))), ?_⟩
    refine ⟨_, rfl, _, _, _, _, true, rfl, .ty _, .base (.tup ha), kit_tt, true, rfl, ?_⟩
    refine yes ?_
    refine ⟨_, rfl, _, 3, rfl, .inr ⟨_, SqT.of ha, rfl⟩, rfl, _, rfl, ?_⟩
    refine ite2 (fun _ => ?_) (fun z => absurd (decide_eq_true rfl) z)
    refine ⟨_, rfl, a, _, 0, _, rfl, rfl, SqT.of ha, rfl, c.name, rfl, c1, fun H1 e1 => ⟨true, rfl, ?_⟩⟩
    refine yes ?_
    exact ⟨_, rfl, a, _, 0, _, rfl, rfl, SqT.of (e1 _ _ ha), rfl, k H1 e1⟩
/-- the scenes' names are told apart, and each plays later ones -/
def StyOk (cs : List Scn) : Prop := (∀ c ∈ cs, ScnOk c) ∧ (cs.map Scn.name).Nodup ∧ (∀ (i : Nat) c, cs[i]? = some c → ∀ n, Stp.scn n ∈ c.steps → n ∈ (cs.map Scn.name).drop (i + 1)) ∧ cs.length ≤ 100 ∧ 0 < cs.length
def spFault : Sp := fun vs H Q _ => ∃ (l : Addr) (cs : List Scn), vs = [.ref l] ∧ ScnsAt H l cs ∧ StyOk cs ∧ ∀ H', Ex H H' → Q .non H'
theorem ok_fault (T : TX K mg) : Ok P w K mg base CX0 5 a_first_fault p_first_fault spFault := by
  obtain ⟨fd, F⟩ := T.d.def_ 27 (d := d_first_fault) rfl
  obtain ⟨_, O_item_name⟩ := ok_itemname (P := P) (w := w) (base := base) T
  obtain ⟨_, O_is_scene⟩ := ok_isscene (P := P) (w := w) (base := base) T
  obtain ⟨_, O_played_names⟩ := ok_played (P := P) (w := w) (base := base) T
  have b : Binds K fd p_first_fault [] := FunD.bindsN F fun _ _ _ _ _ _ us hl => match us, hl with | [_], _ => rfl
  refine ⟨fd, F.ok sc_first_fault (fun vs H Q E h => ?_) (fun cdv A outer s H vs Q E hr h => ?_), b, F.kp⟩
  · obtain ⟨z, _, rfl, _⟩ := h
    rfl
  · obtain ⟨l, cs, rfl, ⟨rs, hl, hrs⟩, ⟨s1, s2, s3, s4, s5⟩, k⟩ := h
    refine ⟨_, PSs.nox (pss_cons (ps_set (i := 1) sc_first_fault.nd rfl (Or.inr rfl)
      (pe_lc (own := [("item", 3)]) rfl sc_first_fault.nd (pi_list (pv 0)) (blkOk_by (own := [("item", 3)]) (N := n_first_fault) (sc := defScope s_first_fault) (by decide +kernel)) (fun _ _ _ _ _ => pg_name (i := 3) sc_first_fault.nd rfl (Or.inl rfl)) (fun _ _ _ _ _ => pts_nil) (fun _ _ _ _ _ => (by exact (pcall O_item_name (hr.mono (by decide)) rfl (T.g_item_name) pass0 (pa_cons (pv 3) pa_nil))))))
      (pss_cons
      (ps_for PassesOwn.never rfl (pi_enum rfl (T.free_enumerate) (pa_cons (pv 0) pa_nil)) (pg_tupK (K := K) (n := 2) (pgs_cons (pg_name (i := 2) sc_first_fault.nd rfl (Or.inr rfl)) (pgs_cons (pg_name (i := 3) sc_first_fault.nd rfl (Or.inl rfl)) pgs_nil)))
      (pss_cons
      (ps_if (PW.pt (pw_or (pt_not (pt_val (pcall O_is_scene (hr.mono (by decide)) rfl (T.g_is_scene) pass0 (pa_cons (pv 3) pa_nil)))) (pw_or1 (pt_cmpR (inSK (K := K)) (pe_ix (ix_listK (K := K)) (pv 1) (pv 2) (fun _ _ => rfl)) (pe_slice (sl_list : SlR _ (rSlL K)) (pv 1) po_none (po_some (pv 2))) (by rfl)))))
      (pss_one (ps_ret (pv 2))) pss_nil) (pss_one (ps_if (pt_not (pt_val (pe_callB (cr_all rfl) rfl (T.free_all) (by decide +kernel) (pa_cons
      (pe_lc (own := [("name", 4)]) rfl sc_first_fault.nd (pi_list (pcall O_played_names (hr.mono (by decide)) rfl (T.g_played_names) pass0 (pa_cons (pe_ix (ix_tupK (K := K)) (pv 3) pe_int (fun _ _ => rfl)) pa_nil))) (blkOk_by (own := [("name", 4)]) (N := n_first_fault) (sc := defScope s_first_fault) (by decide +kernel)) (fun _ _ _ _ _ => pg_name (i := 4) sc_first_fault.nd rfl (Or.inl rfl)) (fun _ _ _ _ _ => pts_nil) (fun _ _ _ _ _ => (by exact (pe_cmpR (inSK (K := K)) (pv 4) (pe_slice (sl_list : SlR _ (rSlL K)) (pv 1) (po_some (pe_op op_add (pv 2) pe_int)) po_none) (by rfl))))) pa_nil))))
      (pss_one (ps_ret (pv 2))) pss_nil)))) (pss_one (ps_ret pe_non)))), ?_⟩
    refine ⟨_, rfl, l, rfl, ⟨_, SqL.of hl⟩, fun q hq => ?_⟩
    have nq : l ≠ q := ne_of_none hl hq
    have lcs := hrs.1
    refine lc_list (K := K) (a := l) (xs := rs.map V.ref) (fun i H' => H' q = some (.lst (((cs.take i).map Scn.name).map V.str)) ∧ Kp [q] H H') ⟨upd_same, (Kp.refl _ _).new hq⟩ (fun i H' _ z => SqL.of (z.2 _ _ hl (off1 nq))) ?_ ?_
    · rintro i x H1 hx ⟨h1, k1⟩
      obtain ⟨r, hr', rfl⟩ := map_at hx
      obtain ⟨c, hc, ha⟩ := hrs.at hr'
      have e1 : Ex H H1 := fun b o z => k1 b o z (off1 (ne_of_none z hq))
      refine ⟨rfl, ?_⟩
      refine ⟨_, rfl, r, c, rfl, ha.ex e1, s1 c (List.mem_of_getElem? hc), fun H2 e2 => ?_⟩
      have hi : i < cs.length := (List.getElem?_eq_some_iff.mp hc).1
      refine ⟨_, e2 _ _ h1, by rw [List.length_map, List.length_map, List.length_take]; exact small' (by omega), ?_, (k1.ex e2).upd (on1 q)⟩
      rw [upd_same, take_snoc hc, List.map_append, List.map_append]
      rfl
    · rintro H1 ⟨h1, k1⟩
      have e1 : Ex H H1 := fun b o z => k1 b o z (off1 (ne_of_none z hq))
      rw [List.length_map, lcs, List.take_length] at h1
      refine ⟨_, rfl, l, rs.map V.ref, rfl, SqL.of (e1 _ _ hl), ?_⟩
      refine for_it (walk_enum (K := K) (a := l) (xs := rs.map V.ref)) (fun i σ H' => ∃ v2 v3 : Option V, σ = [some (.ref l), some (.ref q), v2, v3, none] ∧ Ex H1 H') ⟨_, _, rfl, Ex.refl _⟩ (fun i σ H' _ z => ?_) ?_ ?_
      · obtain ⟨_, _, _, e⟩ := z
        exact SqL.of (e _ _ (e1 _ _ hl))
      · rintro i x σ H2 H3 hi ⟨v2, v3, rfl, e2⟩ ⟨U, x1, x2, rfl, hU, rfl, hx1, hx2⟩
        cases Option.some.inj hx1
        obtain ⟨r, hr', rfl⟩ := map_at hx2
        obtain ⟨c, hc, ha⟩ := hrs.at hr'
        have hilt : i < cs.length := (List.getElem?_eq_some_iff.mp hc).1
        have e3 : Ex H1 (upd H2 U (.tup [.int (i : Int), .ref r])) := e2.new hU
        have gU : (upd H2 U (.tup [.int (i : Int), .ref r])) U = some (.tup [.int (i : Int), .ref r]) := upd_same
        generalize upd H2 U (.tup [.int (i : Int), .ref r]) = H4 at e3 gU
        refine ⟨U, _, rfl, SqT.of gU, rfl, _, _, rfl, _, _, rfl, rfl, ?_⟩
        refine ⟨_, rfl, r, c, rfl, ha.ex (e1.trans e3), s1 c (List.mem_of_getElem? hc), fun H5 e5 => ⟨true, rfl, ?_⟩⟩
        refine nope ?_
        have e6 := e3.trans e5
        have hat : atI ((cs.map Scn.name).map V.str) (i : Int) = some (.str c.name) := atI_nat (by rw [List.getElem?_map, List.getElem?_map, hc]; rfl)
        refine ⟨_, rfl, _, rfl, q, _, _, _, rfl, rfl, SqL.of (e6 _ _ h1), hat, _, rfl, _, rfl, _, rfl, q, _, rfl, SqL.of (e6 _ _ h1), fun p1 hp1 => ?_⟩
        rw [cut_to]
        have e7 : Ex H5 (upd H5 p1 (.lst (((cs.map Scn.name).take i).map V.str))) := (Ex.refl _).new hp1
        have fresh : c.name ∉ (cs.map Scn.name).take i := by
          intro m
          have n := s2
          have hg : (cs.map Scn.name)[i]? = some c.name := by rw [List.getElem?_map, hc]; rfl
          have hl2 := (List.getElem?_eq_some_iff.mp hg).1
          rw [← List.take_append_drop i (cs.map Scn.name)] at n
          refine (List.nodup_append.mp n).2.2 c.name m c.name ?_ rfl
          rw [List.drop_eq_getElem_cons hl2, (List.getElem?_eq_some_iff.mp hg).2]
          exact List.mem_cons_self
        refine ⟨p1, _, rfl, .inl (SqL.of upd_same), rfl, flat_strs _, ?_⟩
        rw [inV_no fresh]
        refine ⟨false, rfl, ?_⟩
        refine nope ?_
        have e8 := e6.trans e7
        obtain ⟨sl, sv, ga, gl, gv⟩ := ha.ex (e1.trans e8)
        have okc := s1 c (List.mem_of_getElem? hc)
        refine ⟨_, rfl, r, _, 1, _, rfl, rfl, SqT.of ga, rfl, sl, c.steps, rfl, gl, okc.2.2, fun q2 ns H9 e9 hq2 hns lns mns => ⟨q2, rfl, ⟨_, SqL.of hns⟩, fun D hD => ?_⟩⟩
        have nD : q2 ≠ D := ne_of_none hns hD
        have e10 := e8.trans e9
        refine lc_list (K := K) (a := q2) (xs := ns.map V.str) (fun j H' => H' D = some (.lst ((List.replicate j true).map V.bl)) ∧ Kp [D] H9 H') ⟨upd_same, (Kp.refl _ _).new hD⟩ (fun j H' _ z => SqL.of (z.2 _ _ hns (off1 nD))) ?_ ?_
        · rintro j x H10 hx ⟨g1, kk1⟩
          obtain ⟨nm, hnm, rfl⟩ := map_at hx
          have mnm : nm ∈ (cs.map Scn.name).drop (i + 1) := s3 i c hc nm (mns nm (List.mem_of_getElem? hnm))
          have hj : j < ns.length := (List.getElem?_eq_some_iff.mp hnm).1
          have gq : H10 q = some (.lst ((cs.map Scn.name).map V.str)) := kk1 q _ (e10 _ _ h1) (off1 (ne_of_none (e10 _ _ h1) hD))
          refine ⟨rfl, ?_⟩
          refine ⟨_, rfl, _, rfl, _, rfl, _, _, rfl, rfl, ((i + 1 : Nat) : Int), rfl, q, _, rfl, SqL.of gq, fun p2 hp2 => ?_⟩
          rw [cut_from]
          have nD2 : p2 ≠ D := fun z => by
            rw [z, g1] at hp2
            cases hp2
          refine ⟨p2, _, rfl, .inl (SqL.of upd_same), rfl, flat_strs _, ?_⟩
          rw [inV_yes mnm]
          refine ⟨_, by rw [upd_ne nD2.symm]; exact g1, by rw [List.length_map, List.length_replicate]; exact small' (by omega), ?_, (kk1.new hp2).upd (on1 D)⟩
          rw [upd_same, List.replicate_succ', List.map_append]
          rfl
        · rintro H10 ⟨g1, kk1⟩
          refine ⟨D, _, rfl, SqL.of g1, ?_⟩
          have e : ∀ n, (List.replicate n true).all id = true := fun n => by
            rw [List.all_eq_true]
            intro x hx
            rw [(List.mem_replicate.mp hx).2]
            rfl
          rw [e]
          refine ⟨true, rfl, ?_⟩
          refine nope ?_
          exact ⟨_, _, rfl, fun b o z => kk1 b o (e10 b o z) (off1 (ne_of_none (e10 b o z) hD))⟩
      · rintro σ H2 ⟨v2, v3, rfl, e2⟩
        exact k H2 (e1.trans e2)
end
end Sk
set_option Elab.async false
set_option linter.all false
set_option maxRecDepth 100000
set_option maxHeartbeats 4000000
namespace Sk
open PySem L2
theorem nodup_idx {α : Type} : ∀ (l : List α), l.Nodup → ∀ (i j : Nat) (x : α), l[i]? = some x → l[j]? = some x → i = j
  | [], _, i, j, x, h, _ => by cases h
  | y :: l, n, 0, 0, x, _, _ => rfl
  | y :: l, n, 0, j + 1, x, h, h' => by
    have e : y = x := Option.some.inj h
    have h' : l[j]? = some x := h'
    exact absurd (List.mem_of_getElem? h') (by rw [← e]; exact (List.nodup_cons.mp n).1)
  | y :: l, n, i + 1, 0, x, h, h' => by
    have e : y = x := Option.some.inj h'
    have h : l[i]? = some x := h
    exact absurd (List.mem_of_getElem? h) (by rw [← e]; exact (List.nodup_cons.mp n).1)
  | y :: l, n, i + 1, j + 1, x, h, h' => congrArg Nat.succ (nodup_idx l (List.nodup_cons.mp n).2 i j x h h')
section
variable {P : Program} {w : World} {K : PySem.W.Frag} {mg : Str → Option Value} {base : Heap}
/-! ### a story -/
def StoryAt (K : PySem.W.Frag) (H : Hp) (s : Addr) (cs : List Scn) : Prop := ∃ dx l, H s = some (.ins (He.ga K "Story") dx [("kept", .ref l)]) ∧ ScnsAt H l cs
theorem StoryAt.ex {H H' : Hp} {s : Addr} {cs : List Scn} (h : StoryAt K H s cs) (e : Ex H H') : StoryAt K H' s cs := by
  obtain ⟨dx, l, h1, h2⟩ := h
  exact ⟨dx, l, e _ _ h1, h2.ex e⟩
theorem look_kept (v : V) (r : List (Str × V)) : ((("kept" : Str), v) :: r).lookup ("kept" : Str) = some v := by
  simp [List.lookup]
theorem look_names (v : V) : ([(("kept" : Str), v)] : List (Str × V)).lookup ("names" : Str) = none := by
  have q : (("names" : Str) == "kept") = false := by decide +kernel
  simp [List.lookup, q]
def spKSteps : Sp := fun vs H Q _ => ∃ (l : Addr) (ss : List Stp), vs = [.ref l] ∧ StpsAt H l ss ∧ ss.length ≤ 1000 ∧ ∀ q H', Ex H H' → H q = none → StpsAt H' q ss → Q (.ref q) H'
theorem ok_ksteps (T : TX K mg) : Ok P w K mg base CX0 1 a_kept_steps p_kept_steps spKSteps := by
  obtain ⟨fd, F⟩ := T.d.def_ 28 (d := d_kept_steps) rfl
  have b : Binds K fd p_kept_steps [] := FunD.bindsN F fun _ _ _ _ _ _ us hl => match us, hl with | [_], _ => rfl
  refine ⟨fd, F.ok sc_kept_steps (fun vs H Q E h => ?_) (fun cdv A outer s H vs Q E hr h => ?_), b, F.kp⟩
  · obtain ⟨z, _, rfl, _⟩ := h
    rfl
  · obtain ⟨l, ss, rfl, ⟨rs, hl, hrs⟩, hlen, k⟩ := h
    refine ⟨_, PSs.nox (pss_cons (ps_set (i := 1) sc_kept_steps.nd rfl (Or.inl rfl) (pe_lst pa_nil)) (pss_cons
      (ps_for PassesOwn.never rfl (pi_list (pv 0)) (pg_name (i := 2) sc_kept_steps.nd rfl (Or.inl rfl)) (pss_one
      (ps_if (pt_cmpR op_eq (pe_ix (ix_tupK (K := K)) (pv 2) pe_int (fun _ _ => rfl)) pe_str (nomark _)) pss_never (pss_one
      (ps_if (pt_cmpR op_eq (pe_ix (ix_tupK (K := K)) (pv 2) pe_int (fun _ _ => rfl)) pe_str (nomark _)) pss_never
      (pss_one (ps_expr (pe_bm PySem.F.plainAttrs_list PySem.F.slot_list_append PySem.F.type_list_append mt_append (pv 1) (pa_cons (pv 2) pa_nil)))))))))
      (pss_one (ps_ret (pv 1))))), ?_⟩
    refine ⟨Nat.zero_le _, fun q hq => ?_⟩
    have e1 : Ex H (upd H q (.lst [])) := (Ex.refl H).new hq
    have nq : l ≠ q := ne_of_none hl hq
    have lrs : rs.length ≤ 1000 := by
      rw [hrs.1]
      exact hlen
    refine ⟨_, rfl, l, rfl, ⟨_, SqL.of (e1 _ _ hl)⟩, ?_⟩
    refine for_it (walk_list (K := K) (a := l) (xs := rs.map V.ref)) (fun i σ H' => ∃ v2 v3 v4 v5 v6 : Option V, σ = [some (.ref l), some (.ref q), v2, v3, v4, v5, v6] ∧ H' q = some (.lst ((rs.take i).map V.ref)) ∧ Kp [q] H H') ⟨_, _, _, _, _, rfl, upd_same, e1.kp _⟩ (fun i σ H' _ z => ?_) ?_ ?_
    · obtain ⟨_, _, _, _, _, _, _, e⟩ := z
      exact SqL.of (e _ _ hl (off1 nq))
    · rintro i x σ H2 H3 hi ⟨v2, v3, v4, v5, v6, rfl, hq2, k2⟩ ⟨rfl, hx⟩
      obtain ⟨r, hr', rfl⟩ := map_at hx
      obtain ⟨st, hst, hat⟩ := hrs.at hr'
      have hat : H r = some (.tup st.vs) := hat
      obtain ⟨_, hvs, x, hx0, n1, n2⟩ := kind0 st
      subst hvs
      have h0 := at0 hx0
      have ir : i < rs.length := (List.getElem?_eq_some_iff.mp hr').1
      have g3 : H3 r = some (.tup st.vs) := k2 r _ hat (off1 (ne_of_none hat hq))
      refine ⟨_, rfl, r, _, 0, _, rfl, rfl, SqT.of g3, h0, rfl, _, rfl, ite2 (fun c => absurd (of_decide_eq_true c) n1) (fun _ => ?_)⟩
      refine ⟨_, rfl, r, _, 0, _, rfl, rfl, SqT.of g3, h0, rfl, _, rfl, ite2 (fun c => absurd (of_decide_eq_true c) n2) (fun _ => ?_)⟩
      refine ⟨_, rfl, .inl ⟨rfl, _, SqL.of hq2⟩, _, rfl, q, _, _, rfl, rfl, hq2, by rw [List.length_map, List.length_take]; exact small' (by omega), _, _, _, _, _, rfl, ?_, k2.upd (on1 q)⟩
      rw [upd_same, take_snoc hr', List.map_append]
      rfl
    · rintro σ H2 ⟨v2, v3, v4, v5, v6, rfl, hq2, k2⟩
      rw [List.length_map, List.take_length] at hq2
      have eH : Ex H H2 := fun b o z => k2 b o z (off1 (ne_of_none z hq))
      exact ⟨_, rfl, k q H2 eH hq ⟨rs, hq2, hrs.mono fun r x z => z.ex eH⟩⟩
def spKSkip : Sp := fun vs H Q _ => ∃ (v : V) (b : Bool), vs = [v] ∧ SkAt H v b ∧ ∀ v' H', Ex H H' → SkAt H' v' b → (∀ q, v' = .ref q → H q = none) → Q v' H'
theorem ok_kskip (T : TX K mg) : Ok P w K mg base CX0 1 a_kept_skip p_kept_skip spKSkip := by
  obtain ⟨fd, F⟩ := T.d.def_ 29 (d := d_kept_skip) rfl
  have b : Binds K fd p_kept_skip [] := FunD.bindsN F fun _ _ _ _ _ _ us hl => match us, hl with | [_], _ => rfl
  refine ⟨fd, F.ok sc_kept_skip (fun vs H Q E h => ?_) (fun cdv A outer s H vs Q E hr h => ?_), b, F.kp⟩
  · obtain ⟨z, _, rfl, _⟩ := h
    rfl
  · obtain ⟨v, b, rfl, hv, k⟩ := h
    refine ⟨_, PSs.nox (pss_cons (ps_if (pt_cmpR op_isN (pv 0) pe_non (nomark _)) (pss_one (ps_ret pe_non)) pss_nil)
      (pss_cons (ps_set (i := 1) sc_kept_skip.nd rfl (Or.inl rfl) (pe_lst pa_nil)) (pss_cons
      (ps_for PassesOwn.never rfl (pi_list (pv 0)) (pg_tupK (K := K) (n := 2) (pgs_cons (pg_name (i := 2) sc_kept_skip.nd rfl (Or.inl rfl)) (pgs_cons (pg_name (i := 3) sc_kept_skip.nd rfl (Or.inl rfl)) pgs_nil))) pss_never)
      (pss_one (ps_ret (pv 1)))))), ?_⟩
    refine ⟨_, rfl, rfl, _, rfl, ?_⟩
    cases b with
    | false =>
      obtain rfl : v = .non := hv
      refine ite2 (fun _ => ?_) (fun c => absurd (decide_eq_true rfl) c)
      exact k .non H (Ex.refl H) rfl (fun q z => by cases z)
    | true =>
      obtain ⟨q, rfl, hq⟩ := hv
      refine ite2 (fun c => ?_) (fun _ => ?_)
      · have := of_decide_eq_true c
        cases this
      refine ⟨Nat.zero_le _, fun r hr0 => ?_⟩
      have e1 : Ex H (upd H r (.lst [])) := (Ex.refl H).new hr0
      have g1 : (upd H r (.lst [])) r = some (.lst []) := upd_same
      refine ⟨_, rfl, q, rfl, ⟨_, SqL.of (e1 _ _ hq)⟩, ?_⟩
      refine for_it (walk_list (K := K) (a := q) (xs := [])) (fun i σ' H' => ∃ v2 v3 v4 v5 v6 : Option V, σ' = [some (.ref q), some (.ref r), v2, v3, v4, v5, v6] ∧ H' r = some (.lst []) ∧ Ex H H') ⟨_, _, _, _, _, rfl, g1, e1⟩ (fun i σ' H' _ z => ?_) (fun i x σ' H1 H2 hi => absurd hi (Nat.not_lt_zero _)) ?_
      · obtain ⟨_, _, _, _, _, _, _, e⟩ := z
        exact SqL.of (e _ _ hq)
      · rintro σ' H2 ⟨_, _, _, _, _, rfl, hr2, e2⟩
        exact ⟨_, rfl, k _ H2 e2 ⟨r, rfl, hr2⟩ (fun q z => by cases z; exact hr0)⟩
def ScnA (H : Hp) (a l : Addr) (v : V) (c : Scn) : Prop := H a = some (.tup [.str c.name, .ref l, v]) ∧ StpsAt H l c.steps ∧ SkAt H v c.skip
theorem ScnA.kp {H H' : Hp} {D a l : Addr} {v : V} {c : Scn} {xs : List V} (h : ScnA H a l v c) (e : Kp [D] H H') (hD : H D = some (.lst xs)) (n1 : l ≠ D) (n2 : v ≠ .ref D) : ScnA H' a l v c := by
  obtain ⟨h1, ⟨rs, h2, h3⟩, h4⟩ := h
  refine ⟨kp1_tup e h1 hD (fun ys z => by cases z), ⟨rs, e _ _ h2 (off1 n1), h3.mono fun r x q => kp1_tup e q hD (fun ys z => by cases z)⟩, ?_⟩
  cases hs : c.skip with
  | false =>
    rw [hs] at h4
    exact h4
  | true =>
    rw [hs] at h4
    obtain ⟨q, rfl, hq⟩ := h4
    exact ⟨q, rfl, e _ _ hq (off1 fun z => n2 (by rw [z]))⟩
theorem ScnAt.kpIns {H H' : Hp} {D a C dx : Addr} {fs : List (Str × V)} {c : Scn} (h : ScnAt H a c) (e : Kp [D] H H') (hD : H D = some (.ins C dx fs)) : ScnAt H' a c := by
  obtain ⟨l, v, h1, ⟨rs, h2, h3⟩, h4⟩ := h
  have nl : ∀ {b : Addr} {xs : List V}, H b = some (.lst xs) → H' b = some (.lst xs) := fun {b xs} q => e _ _ q (off1 (ne_of q hD (by intro z; cases z)))
  refine ⟨l, v, kp1_tup e h1 hD (fun ys z => by cases z), ⟨rs, nl h2, h3.mono fun r x q => kp1_tup e q hD (fun ys z => by cases z)⟩, ?_⟩
  cases hs : c.skip with
  | false =>
    rw [hs] at h4
    exact h4
  | true =>
    rw [hs] at h4
    obtain ⟨q, rfl, hq⟩ := h4
    exact ⟨q, rfl, nl hq⟩
def spKScene : Sp := fun vs H Q _ => ∃ (a : Addr) (c : Scn), vs = [.ref a] ∧ ScnAt H a c ∧ ScnOk c ∧ ∀ a' l' v' H', Ex H H' → H a' = none → H l' = none → (∀ q, v' = .ref q → H q = none) → ScnA H' a' l' v' c → Q (.ref a') H'
theorem ok_kscene (T : TX K mg) : Ok P w K mg base CX0 2 a_kept_scene p_kept_scene spKScene := by
  obtain ⟨fd, F⟩ := T.d.def_ 30 (d := d_kept_scene) rfl
  obtain ⟨_, O_kept_steps⟩ := ok_ksteps (P := P) (w := w) (base := base) T
  obtain ⟨_, O_kept_skip⟩ := ok_kskip (P := P) (w := w) (base := base) T
  have b : Binds K fd p_kept_scene [] := FunD.bindsN F fun _ _ _ _ _ _ us hl => match us, hl with | [_], _ => rfl
  refine ⟨fd, F.ok sc_kept_scene (fun vs H Q E h => ?_) (fun cdv A outer s H vs Q E hr h => ?_), b, F.kp⟩
  · obtain ⟨z, _, rfl, _⟩ := h
    rfl
  · obtain ⟨a, c, rfl, ⟨l, v, ha, hl, hv⟩, ⟨c1, c2, c3⟩, k⟩ := h
    refine ⟨_, PSs.nox (pss_one (ps_ret (pe_tup (pa_cons (pe_ix (ix_tupK (K := K)) (pv 0) pe_int (fun _ _ => rfl)) (pa_cons (pcall O_kept_steps (hr.mono (by decide)) rfl (T.g_kept_steps) pass0 (pa_cons (pe_ix (ix_tupK (K := K)) (pv 0) pe_int (fun _ _ => rfl)) pa_nil)) (pa_cons (pcall O_kept_skip (hr.mono (by decide)) rfl (T.g_kept_skip) pass0 (pa_cons (pe_ix (ix_tupK (K := K)) (pv 0) pe_int (fun _ _ => rfl)) pa_nil)) pa_nil)))))), ?_⟩
    refine ⟨_, rfl, a, _, 0, _, rfl, rfl, SqT.of ha, rfl, _, rfl, a, _, 1, _, rfl, rfl, SqT.of ha, rfl, l, c.steps, rfl, hl, c3, fun q H1 e1 hq hq1 => ?_⟩
    refine ⟨_, rfl, a, _, 2, _, rfl, rfl, SqT.of (e1 _ _ ha), rfl, v, c.skip, rfl, hv.ex e1, fun v' H2 e2 hv2 nv2 => ⟨small (by show 3 ≤ 100000; decide), fun t ht => ?_⟩⟩
    have e3 := e1.trans e2
    have e4 : Ex H2 (upd H2 t (.tup [.str c.name, .ref q, v'])) := (Ex.refl _).new ht
    exact k t q v' _ (e3.trans e4) (e3.back ht) hq (fun r z => e1.back (nv2 r z)) ⟨upd_same, (hq1.ex e2).ex e4, hv2.ex e4⟩
def spStory (K : PySem.W.Frag) : Sp := fun vs H Q _ => ∃ (s dx l : Addr) (cs : List Scn), vs = [.ref s, .ref l] ∧ H s = some (.ins (He.ga K "Story") dx []) ∧ ScnsAt H l cs ∧ StyOk cs ∧ ∀ H', Kp [s] H H' → StoryAt K H' s cs → Q .non H'
theorem ok_story (T : TX K mg) : Ok P w K mg base CX0 6 a_Story_init p_Story_init (spStory K) := by
  obtain ⟨fd, F⟩ := T.d.def_ 31 (d := d_Story_init) rfl
  obtain ⟨_, O_first_fault⟩ := ok_fault (P := P) (w := w) (base := base) T
  obtain ⟨_, O_kept_scene⟩ := ok_kscene (P := P) (w := w) (base := base) T
  have b : Binds K fd p_Story_init [] := FunD.bindsN F fun _ _ _ _ _ _ us hl => match us, hl with | [_, _], _ => rfl
  refine ⟨fd, F.ok sc_Story_init (fun vs H Q E h => ?_) (fun cdv A outer s H vs Q E hr h => ?_), b, F.kp⟩
  · obtain ⟨z, _, _, _, rfl, _⟩ := h
    rfl
  · obtain ⟨st, dx, l, cs, rfl, hst, hcs, hok, k⟩ := h
    obtain ⟨rs, hl, hrs⟩ := id hcs
    refine ⟨_, PSs.nox (pss_cons
      (ps_if (PW.pt (pw_or (pt_not (pt_val (pe_callB (isiK (K := K)) rfl (T.free_isinstance) (by decide +kernel) (pa_cons (pv 1) (pa_cons (pe_bltn (v := .ty "list") rfl (T.free_list) (by decide +kernel) rfl) pa_nil))))) (pw_or1 (pt_cmpR op_eq (pe_callB call_len rfl (T.free_len) (by decide +kernel) (pa_cons (pv 1) pa_nil)) pe_int (nomark _))))) pss_never pss_nil)
      (pss_cons (ps_set (i := 2) sc_Story_init.nd rfl (Or.inl rfl) (pcall O_first_fault (hr.mono (by decide)) rfl (T.g_first_fault) pass0 (pa_cons (pv 1) pa_nil)))
      (pss_cons (ps_if (pt_cmpR op_notN (pv 2) pe_non (nomark _)) pss_never pss_nil) (pss_one (ps_fld (pv 0)
      (pe_lc (own := [("scene", 3)]) rfl sc_Story_init.nd (pi_list (pv 1)) (blkOk_by (own := [("scene", 3)]) (N := n_Story_init) (sc := defScope s_Story_init) (by decide +kernel)) (fun _ _ _ _ _ => pg_name (i := 3) sc_Story_init.nd rfl (Or.inl rfl)) (fun _ _ _ _ _ => pts_nil) (fun _ _ _ _ _ => (by exact (pcall O_kept_scene (hr.mono (by decide)) rfl (T.g_kept_scene) pass0 (pa_cons (pv 3) pa_nil))))) rfl))))), ?_⟩
    refine ⟨_, rfl, _, _, _, _, true, rfl, .ty _, .base (.lst hl), kit_ll, true, rfl, ?_⟩
    refine nope ?_
    refine ⟨_, rfl, _, (rs.map V.ref).length, rfl, .inl ⟨_, SqL.of hl, rfl⟩, rfl, _, rfl, ite2 (fun c => ?_) (fun _ => ?_)⟩
    · have c := V.int.inj (of_decide_eq_true c)
      rw [List.length_map, hrs.1] at c
      have := hok.2.2.2.2
      omega
    refine ⟨_, rfl, l, cs, rfl, hcs, hok, fun H1 e1 => ?_⟩
    refine ⟨_, rfl, rfl, _, rfl, ite2 (fun c => ?_) (fun _ => ?_)⟩
    · rw [decide_eq_true rfl] at c
      cases c
    refine ⟨_, rfl, l, rfl, ⟨_, SqL.of (e1 _ _ hl)⟩, fun D hD => ?_⟩
    have fD := e1.back hD
    have nD : l ≠ D := ne_of_none (e1 _ _ hl) hD
    have hlen := hok.2.2.2.1
    refine lc_list (K := K) (a := l) (xs := rs.map V.ref) (fun i H' => ∃ ts : List Addr, H' D = some (.lst (ts.map V.ref)) ∧ Pw (fun r c => ∃ l v, ScnA H' r l v c ∧ l ≠ D ∧ v ≠ .ref D) ts (cs.take i) ∧ Kp [D] H1 H') ⟨[], upd_same, Pw.nil, (Kp.refl _ _).new hD⟩ (fun i H' _ z => ?_) ?_ ?_
    · obtain ⟨_, _, _, e⟩ := z
      exact SqL.of (e _ _ (e1 _ _ hl) (off1 nD))
    · rintro i x H2 hx ⟨ts, h2, p2, k2⟩
      obtain ⟨r, hr', rfl⟩ := map_at hx
      obtain ⟨c, hc, ha⟩ := hrs.at hr'
      have e2 : Ex H H2 := fun b o z => k2 b o (e1 b o z) (off1 (ne_of_none z fD))
      refine ⟨rfl, ?_⟩
      refine ⟨_, rfl, r, c, rfl, ha.ex e2, hok.1 c (List.mem_of_getElem? hc), fun a' l' v' H3 e3 ha' hl' hv' hac => ?_⟩
      have hi : i < cs.length := (List.getElem?_eq_some_iff.mp hc).1
      have tl : ts.length = i := by
        rw [p2.1, List.length_take]
        omega
      have g3 := e3 _ _ h2
      have k4 : Kp [D] H3 (upd H3 D (.lst (ts.map V.ref ++ [V.ref a']))) := (Kp.refl _ _).upd (on1 D)
      have nl : l' ≠ D := fun z => by
        rw [z, h2] at hl'
        cases hl'
      have nv : v' ≠ .ref D := fun z => by
        have := hv' D z
        rw [h2] at this
        cases this
      refine ⟨_, g3, by rw [List.length_map]; exact small' (by omega), ts ++ [a'], ?_, ?_, (k2.ex e3).upd (on1 D)⟩
      · rw [upd_same, List.map_append]
        rfl
      · rw [take_snoc hc]
        have p3 : Pw (fun r c => ∃ l v, ScnA H3 r l v c ∧ l ≠ D ∧ v ≠ .ref D) (ts ++ [a']) (cs.take i ++ [c]) := by
          refine Pw.snoc (p2.mono ?_) ⟨l', v', hac, nl, nv⟩
          rintro r c ⟨l, v, z1, z2, z3⟩
          exact ⟨l, v, ⟨e3 _ _ z1.1, z1.2.1.ex e3, z1.2.2.ex e3⟩, z2, z3⟩
        refine p3.mono ?_
        rintro r c ⟨l, v, z1, z2, z3⟩
        exact ⟨l, v, ScnA.kp z1 k4 g3 z2 z3, z2, z3⟩
    · rintro H2 ⟨ts, h2, p2, k2⟩
      rw [List.length_map, hrs.1, List.take_length] at p2
      have e2 : Ex H H2 := fun b o z => k2 b o (e1 b o z) (off1 (ne_of_none z fD))
      refine ⟨_, rfl, st, _, dx, [], rfl, e2 _ _ hst, T.c_Story, T.n_Story_kept, (by show 0 < 1000; decide), ?_⟩
      have k5 : Kp [st] H2 (upd H2 st (.ins (He.ga K "Story") dx [("kept", .ref D)])) := (Kp.refl _ _).upd (on1 st)
      refine k _ ((e2.kp [st]).trans k5) ⟨dx, D, upd_same, ts, ?_, p2.mono fun r c ⟨l, v, z1, _, _⟩ => ScnAt.kpIns ⟨l, v, z1.1, z1.2.1, z1.2.2⟩ k5 (e2 _ _ hst)⟩
      exact k5 _ _ h2 (off1 (ne_of h2 (e2 _ _ hst) (by intro z; cases z)))
def spNames (K : PySem.W.Frag) : Sp := fun vs H Q _ => ∃ (s : Addr) (cs : List Scn), vs = [.ref s] ∧ StoryAt K H s cs ∧ cs.length ≤ 100 ∧ ∀ q H', Ex H H' → H q = none → H' q = some (.lst ((cs.map Scn.name).map V.str)) → Q (.ref q) H'
theorem ok_names (T : TX K mg) : Ok P w K mg base CX0 1 a_Story_names p_Story_names (spNames K) := by
  obtain ⟨fd, F⟩ := T.d.def_ 32 (d := d_Story_names) rfl
  have b : Binds K fd p_Story_names [] := FunD.bindsN F fun _ _ _ _ _ _ us hl => match us, hl with | [_], _ => rfl
  refine ⟨fd, F.ok sc_Story_names (fun vs H Q E h => ?_) (fun cdv A outer s H vs Q E hr h => ?_), b, F.kp⟩
  · obtain ⟨z, _, rfl, _⟩ := h
    rfl
  · obtain ⟨st, cs, rfl, ⟨dx, l, hst, rs, hl, hrs⟩, hlen, k⟩ := h
    refine ⟨_, PSs.nox (pss_one (ps_ret
      (pe_lc (own := [("scene", 1)]) rfl sc_Story_names.nd (pi_list (pe_fldK (K := K) (pv 0))) (blkOk_by (own := [("scene", 1)]) (N := n_Story_names) (sc := defScope s_Story_names) (by decide +kernel)) (fun _ _ _ _ _ => pg_name (i := 1) sc_Story_names.nd rfl (Or.inl rfl)) (fun _ _ _ _ _ => pts_nil) (fun _ _ _ _ _ => (by exact (pe_ix (ix_tupK (K := K)) (pv 1) pe_int (fun _ _ => rfl))))))), ?_⟩
    refine ⟨_, rfl, st, _, dx, _, _, rfl, hst, T.c_Story, T.n_Story_kept, look_kept _ _, l, rfl, ⟨_, SqL.of hl⟩, fun D hD => ?_⟩
    have nD : l ≠ D := ne_of_none hl hD
    refine lc_list (K := K) (a := l) (xs := rs.map V.ref) (fun i H' => H' D = some (.lst (((cs.take i).map Scn.name).map V.str)) ∧ Kp [D] H H') ⟨upd_same, (Kp.refl _ _).new hD⟩ (fun i H' _ z => SqL.of (z.2 _ _ hl (off1 nD))) ?_ ?_
    · rintro i x H2 hx ⟨h2, k2⟩
      obtain ⟨r, hr', rfl⟩ := map_at hx
      obtain ⟨c, hc, l', v', ha, _⟩ := hrs.at hr'
      have hi : i < cs.length := (List.getElem?_eq_some_iff.mp hc).1
      refine ⟨rfl, ?_⟩
      refine ⟨_, rfl, r, _, 0, _, rfl, rfl, SqT.of (k2 _ _ ha (off1 (ne_of_none ha hD))), rfl, _, h2, by rw [List.length_map, List.length_map, List.length_take]; exact small' (by omega), ?_, k2.upd (on1 D)⟩
      rw [upd_same, take_snoc hc, List.map_append, List.map_append]
      rfl
    · rintro H2 ⟨h2, k2⟩
      rw [List.length_map, hrs.1, List.take_length] at h2
      exact k D H2 (fun b o z => k2 b o z (off1 (ne_of_none z hD))) hD h2
/-- the heap without the things at ws -/
def off (ws : List Addr) (H : Hp) : Hp := fun x => if x ∈ ws then none else H x
theorem off_sub (ws : List Addr) (H : Hp) : Ex (off ws H) H := fun b o q => by
  unfold off at q
  split at q
  · cases q
  · exact q
theorem off_at {ws : List Addr} {H : Hp} {b : Addr} {o : HO} (h : H b = some o) (n : b ∉ ws) : off ws H b = some o := by
  unfold off
  rw [if_neg n]
  exact h
theorem off_ex {ws : List Addr} {H H' : Hp} (e : Ex H H') : Ex (off ws H) (off ws H') := fun b o q => by
  unfold off at q
  split at q
  · cases q
  · rename_i c
    exact off_at (e _ _ q) c
theorem off_kp {ws : List Addr} {H H' : Hp} (e : Kp ws H H') : Ex (off ws H) (off ws H') := fun b o q => by
  unfold off at q
  split at q
  · cases q
  · rename_i c
    exact off_at (e _ _ q c) c
theorem off_cons {w : Addr} {ws : List Addr} {H : Hp} (h : H w = none) : Ex (off ws H) (off (w :: ws) H) := fun b o q => by
  unfold off at q
  split at q
  · cases q
  · rename_i c
    refine off_at q fun m => ?_
    rcases List.mem_cons.mp m with m | m
    · rw [m, h] at q
      cases q
    · exact c m
theorem off_less {w : Addr} {ws : List Addr} {H : Hp} : Ex (off (w :: ws) H) (off ws H) := fun b o q => by
  unfold off at q
  split at q
  · cases q
  · rename_i c
    exact off_at q fun m => c (List.mem_cons_of_mem _ m)
/-- what stands at ws is no tuple, no instance -/
def OwnW (ws : List Addr) (H : Hp) : Prop := ∀ w ∈ ws, ∃ o, H w = some o ∧ (∀ xs, o ≠ .tup xs) ∧ ∀ C dx fs, o ≠ .ins C dx fs
theorem OwnW.ex {ws : List Addr} {H H' : Hp} (h : OwnW ws H) (e : Ex H H') : OwnW ws H' := fun w m => by
  obtain ⟨o, q, r⟩ := h w m
  exact ⟨o, e _ _ q, r⟩
theorem OwnW.nil {H : Hp} : OwnW [] H := fun w m => absurd m List.not_mem_nil
theorem OwnW.cons {w : Addr} {ws : List Addr} {H : Hp} {o : HO} (h : OwnW ws H) (q : H w = some o) (r1 : ∀ xs, o ≠ .tup xs) (r2 : ∀ C dx fs, o ≠ .ins C dx fs) : OwnW (w :: ws) H := fun x m => by
  rcases List.mem_cons.mp m with m | m
  · rw [m]
    exact ⟨o, q, r1, r2⟩
  · exact h x m
theorem OwnW.new {ws : List Addr} {H : Hp} {x : Addr} (h : OwnW ws H) (q : H x = none) : x ∉ ws := fun m => by
  obtain ⟨o, e, _⟩ := h x m
  rw [q] at e
  cases e
theorem OwnW.tup {ws : List Addr} {H : Hp} {x : Addr} {xs : List V} (h : OwnW ws H) (q : H x = some (.tup xs)) : x ∉ ws := fun m => by
  obtain ⟨o, e, r, _⟩ := h x m
  rw [q] at e
  exact r xs (Option.some.inj e).symm
theorem OwnW.ins {ws : List Addr} {H : Hp} {x C dx : Addr} {fs : List (Str × V)} (h : OwnW ws H) (q : H x = some (.ins C dx fs)) : x ∉ ws := fun m => by
  obtain ⟨o, e, _, r⟩ := h x m
  rw [q] at e
  exact r C dx fs (Option.some.inj e).symm
theorem ChgAt.off {S : List Str} {ws : List Addr} {H : Hp} {c : Addr} {L : Chg} (h : ChgAt K S H c L) (o : OwnW ws H) : ChgAt K S (off ws H) c L := by
  obtain ⟨dx, t, h1, ⟨rs, h2, h3, h4⟩, h5⟩ := h
  exact ⟨dx, t, off_at h1 (o.ins h1), ⟨rs, off_at h2 (o.tup h2), h3, fun i r x a b => off_at (h4 i r x a b) (o.tup (h4 i r x a b))⟩, h5⟩
/-- the scene of a name -/
def spFind (K : PySem.W.Frag) : Sp := fun vs H Q _ => ∃ (s : Addr) (cs : List Scn) (i : Nat) (c : Scn) (B : Hp), vs = [.ref s, .str c.name] ∧ StoryAt K B s cs ∧ (cs.map Scn.name).Nodup ∧ cs[i]? = some c ∧ Ex B H ∧ ∀ a, ScnAt B a c → Q (.ref a) H
theorem ok_find (T : TX K mg) : Ok P w K mg base CX0 1 a_find_scene p_find_scene (spFind K) := by
  obtain ⟨fd, F⟩ := T.d.def_ 33 (d := d_find_scene) rfl
  have b : Binds K fd p_find_scene [] := FunD.bindsN F fun _ _ _ _ _ _ us hl => match us, hl with | [_, _], _ => rfl
  refine ⟨fd, F.ok sc_find_scene (fun vs H Q E h => ?_) (fun cdv A outer s H vs Q E hr h => ?_), b, F.kp⟩
  · obtain ⟨z, _, _, _, _, rfl, _⟩ := h
    rfl
  · obtain ⟨st, cs, j, c, B, rfl, ⟨dx, l, hst, rs, hl, hrs⟩, hnd, hj, eB, k⟩ := h
    have hst := eB _ _ hst
    have hl := eB _ _ hl
    refine ⟨_, PSs.nox (pss_cons (ps_for PassesOwn.never rfl (pi_list (pe_fldK (K := K) (pv 0))) (pg_name (i := 2) sc_find_scene.nd rfl (Or.inl rfl)) (pss_one
      (ps_if (pt_cmpR op_eq (pe_ix (ix_tupK (K := K)) (pv 2) pe_int (fun _ _ => rfl)) (pv 1) (nomark _)) (pss_one (ps_ret (pv 2))) pss_nil)))
      (pss_one ps_never)), ?_⟩
    refine ⟨_, rfl, st, _, dx, _, _, rfl, hst, T.c_Story, T.n_Story_kept, look_kept _ _, l, rfl, ⟨_, SqL.of hl⟩, ?_⟩
    have hjl : j < cs.length := (List.getElem?_eq_some_iff.mp hj).1
    refine for_it (walk_list (K := K) (a := l) (xs := rs.map V.ref)) (fun i σ H' => ∃ v2 : Option V, σ = [some (.ref st), some (.str c.name), v2] ∧ H' = H ∧ i ≤ j) ⟨_, rfl, rfl, Nat.zero_le _⟩ (fun i σ H' _ z => ?_) ?_ ?_
    · obtain ⟨_, _, z, _⟩ := z
      rw [z]
      exact SqL.of hl
    · rintro i x σ H2 H3 hi ⟨v2, rfl, rfl, hij⟩ ⟨rfl, hx⟩
      obtain ⟨r, hr', rfl⟩ := map_at hx
      obtain ⟨c', hc', ha'⟩ := hrs.at hr'
      obtain ⟨l', v', ha, hl', hv'⟩ := id ha'
      have ha := eB _ _ ha
      refine ⟨_, rfl, r, _, 0, _, rfl, rfl, SqT.of ha, rfl, _, rfl, rfl, _, rfl, ite2 (fun z => ?_) (fun z => ?_)⟩
      · have z : c'.name = c.name := V.str.inj (of_decide_eq_true z)
        have e : i = j := by
          have g1 : (cs.map Scn.name)[i]? = some c.name := by rw [List.getElem?_map, hc', ← z]; rfl
          have g2 : (cs.map Scn.name)[j]? = some c.name := by rw [List.getElem?_map, hj]; rfl
          exact nodup_idx _ hnd i j _ g1 g2
        subst e
        rw [hc'] at hj
        cases hj
        exact ⟨_, rfl, k r ha'⟩
      · refine ⟨_, rfl, rfl, ?_⟩
        by_cases e : i = j
        · subst e
          rw [hc'] at hj
          cases hj
          exact absurd (decide_eq_true rfl) z
        · omega
    · rintro σ H2 ⟨v2, rfl, rfl, hij⟩
      rw [List.length_map, hrs.1] at hij
      omega
end
end Sk
set_option Elab.async false
set_option linter.all false
set_option maxRecDepth 100000
set_option maxHeartbeats 4000000
namespace Sk
open PySem L2
/-! ### what is left of a scene -/
inductive LeftAt (H : Hp) : V → List Stp → Prop
  | nil : LeftAt H .non []
  | cons {t l : Addr} {n : Nat} {below : V} {ss R : List Stp} : H t = some (.tup [.ref l, .int (n : Int), below]) → StpsAt H l ss → n < ss.length → LeftAt H below R → LeftAt H (.ref t) (ss.drop n ++ R)
theorem LeftAt.ex {H H' : Hp} {v : V} {R : List Stp} (h : LeftAt H v R) (e : Ex H H') : LeftAt H' v R := by
  induction h with
  | nil => exact .nil
  | cons h1 h2 h3 _ ih => exact .cons (e _ _ h1) (h2.ex e) h3 ih
section
variable {P : Program} {w : World} {K : PySem.W.Frag} {mg : Str → Option Value} {base : Heap} {S : List Str}
def spAhead : Sp := fun vs H Q _ => ∃ (l : Addr) (v : V) (ss R : List Stp) (ws : List Addr), vs = [.ref l, v] ∧ StpsAt (off ws H) l ss ∧ LeftAt (off ws H) v R ∧ OwnW ws H ∧ ∀ v' H', Ex H H' → LeftAt (off ws H') v' (ss ++ R) → Q v' H'
theorem ok_ahead (T : TX K mg) : Ok P w K mg base CX0 1 a_ahead p_ahead spAhead := by
  obtain ⟨fd, F⟩ := T.d.def_ 34 (d := d_ahead) rfl
  have b : Binds K fd p_ahead [] := FunD.bindsN F fun _ _ _ _ _ _ us hl => match us, hl with | [_, _], _ => rfl
  refine ⟨fd, F.ok sc_ahead (fun vs H Q E h => ?_) (fun cdv A outer s H vs Q E hr h => ?_), b, F.kp⟩
  · obtain ⟨z, _, _, _, _, rfl, _⟩ := h
    rfl
  · obtain ⟨l, v, ss, R, ws, rfl, hl0, hv, ow, k⟩ := h
    obtain ⟨rs, hl, hrs⟩ := id hl0
    have hl := off_sub ws H _ _ hl
    refine ⟨_, PSs.nox (pss_cons (ps_if (pt_cmpR op_eq (pe_callB call_len rfl (T.free_len) (by decide +kernel) (pa_cons (pv 0) pa_nil)) pe_int (nomark _))
      (pss_one (ps_ret (pv 1))) pss_nil) (pss_one (ps_ret (pe_tup (pa_cons (pv 0) (pa_cons pe_int (pa_cons (pv 1) pa_nil))))))), ?_⟩
    refine ⟨_, rfl, _, (rs.map V.ref).length, rfl, .inl ⟨_, SqL.of hl, rfl⟩, rfl, _, rfl, ite2 (fun c => ?_) (fun c => ?_)⟩
    · have c := V.int.inj (of_decide_eq_true c)
      rw [List.length_map, hrs.1] at c
      have e : ss = [] := List.length_eq_zero_iff.mp (by omega)
      subst e
      exact ⟨_, rfl, k v H (Ex.refl H) hv⟩
    · have hp : 0 < ss.length := by
        rcases Nat.eq_zero_or_pos ss.length with z | z
        · refine absurd (decide_eq_true ?_) c
          rw [List.length_map, hrs.1, z]
          rfl
        · exact z
      refine ⟨_, rfl, _, rfl, small (by show 3 ≤ 100000; decide), fun t ht => ?_⟩
      have e : Ex H (upd H t (.tup [.ref l, .int 0, v])) := (Ex.refl H).new ht
      exact k _ _ e (LeftAt.cons (n := 0) (off_at upd_same (ow.new ht)) (hl0.ex (off_ex e)) hp (hv.ex (off_ex e)))
/-! ### where one stands -/
/-- a spot of the walk: its change does g, its words W, left R -/
def SpAt (K : PySem.W.Frag) (S : List Str) (H : Hp) (t p : Addr) (g : (Str → Int) → Str → Int) (W : List Str) (R : List Stp) : Prop :=
  ∃ c wl sl lv L, H t = some (.tup [.ref p, .ref c, .ref wl, .ref sl, lv]) ∧ PatAt K H p ∧ ChgAt K S H c L ∧ (∀ f s, act L f s = g f s) ∧ H wl = some (.lst (W.map V.str)) ∧ H sl = some (.lst []) ∧ LeftAt H lv R
/-- a stop: how, at what, behind it -/
def StopAt (K : PySem.W.Frag) (S : List Str) (H : Hp) (t p : Addr) (g : (Str → Int) → Str → Int) (W : List Str) (how : Str) (what : V) (R : List Stp) : Prop :=
  ∃ c wl sl lv L, H t = some (.tup [.ref p, .ref c, .ref wl, .ref sl, .str how, what, lv]) ∧ PatAt K H p ∧ ChgAt K S H c L ∧ (∀ f s, act L f s = g f s) ∧ H wl = some (.lst (W.map V.str)) ∧ H sl = some (.lst []) ∧ LeftAt H lv R
theorem SpAt.ex {H H' : Hp} {t p : Addr} {g : (Str → Int) → Str → Int} {W : List Str} {R : List Stp} (h : SpAt K S H t p g W R) (e : Ex H H') : SpAt K S H' t p g W R := by
  obtain ⟨c, wl, sl, lv, L, h1, h2, h3, h4, h5, h6, h7⟩ := h
  exact ⟨c, wl, sl, lv, L, e _ _ h1, h2.ex e, h3.ex e, h4, e _ _ h5, e _ _ h6, h7.ex e⟩
theorem StopAt.ex {H H' : Hp} {t p : Addr} {g : (Str → Int) → Str → Int} {W : List Str} {how : Str} {what : V} {R : List Stp} (h : StopAt K S H t p g W how what R) (e : Ex H H') : StopAt K S H' t p g W how what R := by
  obtain ⟨c, wl, sl, lv, L, h1, h2, h3, h4, h5, h6, h7⟩ := h
  exact ⟨c, wl, sl, lv, L, e _ _ h1, h2.ex e, h3.ex e, h4, e _ _ h5, e _ _ h6, h7.ex e⟩
/-- what a step does to the notes -/
def doS : Stp → (Str → Int) → Str → Int
  | .st n k, f => fun x => if x = n then k else f x
  | .ad n k, f => fun x => if x = n then f x + k else f x
  | _, f => f
/-- the steps' notes are among S, the scenes that are played are there -/
def StpsOk (S : List Str) (cs : List Scn) (R : List Stp) : Prop := ∀ s ∈ R, match s with
  | .st n _ => n ∈ S
  | .ad n _ => n ∈ S
  | .scn n => ∃ (i : Nat) (c : Scn), cs[i]? = some c ∧ c.name = n
  | .sho _ => True
/-- where one step leads -/
def Res1 (K : PySem.W.Frag) (S : List Str) (cs : List Scn) (H : Hp) (on so p : Addr) (g : (Str → Int) → Str → Int) (W : List Str) : List Stp → Prop
  | [] => H on = some (.lst []) ∧ ∃ z, H so = some (.lst [.ref z]) ∧ StopAt K S H z p g W "ended" .non []
  | .sho x :: R => H so = some (.lst []) ∧ ∃ z, H on = some (.lst [.ref z]) ∧ SpAt K S H z p g (W ++ [x]) R
  | .st n k :: R => H so = some (.lst []) ∧ ∃ z, H on = some (.lst [.ref z]) ∧ SpAt K S H z p (fun f => doS (.st n k) (g f)) W R
  | .ad n k :: R => H so = some (.lst []) ∧ ∃ z, H on = some (.lst [.ref z]) ∧ SpAt K S H z p (fun f => doS (.ad n k) (g f)) W R
  | .scn n :: R => ∃ (i : Nat) (c : Scn), cs[i]? = some c ∧ c.name = n ∧ ((c.skip = false ∧ H so = some (.lst []) ∧ ∃ z, H on = some (.lst [.ref z]) ∧ SpAt K S H z p g W (c.steps ++ R)) ∨
      (c.skip = true ∧ H on = some (.lst []) ∧ ∃ z, H so = some (.lst [.ref z]) ∧ StopAt K S H z p g W "skip" (.str n) R))
def spStep (K : PySem.W.Frag) (S : List Str) (cs : List Scn) : Sp := fun vs H Q _ => ∃ (s t p : Addr) (g : (Str → Int) → Str → Int) (W : List Str) (R : List Stp) (ws : List Addr), vs = [.ref s, .ref t] ∧ StoryAt K (off ws H) s cs ∧ (cs.map Scn.name).Nodup ∧ SpAt K S (off ws H) t p g W R ∧ StpsOk S cs R ∧ W.length ≤ 50000 ∧ OwnW ws H ∧
  ∀ t' on so H', Ex H H' → H' t' = some (.tup [.ref on, .ref so]) → H on = none → H so = none → Res1 K S cs (off ws H') on so p g W R → Q (.ref t') H'
theorem LeftAt.pop {H : Hp} {v : V} {s : Stp} {R : List Stp} (h : LeftAt H v (s :: R)) : ∃ (t l : Addr) (n : Nat) (below : V) (ss R' : List Stp), v = .ref t ∧ H t = some (.tup [.ref l, .int (n : Int), below]) ∧ StpsAt H l ss ∧ n < ss.length ∧ LeftAt H below R' ∧ ss[n]? = some s ∧ R = ss.drop (n + 1) ++ R' := by
  generalize e : s :: R = R0 at h
  cases h with
  | nil => cases e
  | cons h1 h2 h3 h4 =>
    rename_i t l n below ss R'
    rw [List.drop_eq_getElem_cons h3, List.cons_append] at e
    injection e with e1 e2
    exact ⟨t, l, n, below, ss, R', rfl, h1, h2, h3, h4, by rw [List.getElem?_eq_getElem h3, e1], e2⟩
theorem ok_step (T : TX K mg) (hS : SOk S) (cs : List Scn) : Ok P w K mg base CX0 4 a_step_on p_step_on (spStep K S cs) := by
  obtain ⟨fd, F⟩ := T.d.def_ 35 (d := d_step_on) rfl
  obtain ⟨_, O_Change_rshift⟩ := ok_shift (P := P) (w := w) (base := base) T hS
  obtain ⟨_, O_Change_init, _⟩ := ok_chg (P := P) (w := w) (base := base) T hS
  obtain ⟨_, O_find_scene⟩ := ok_find (P := P) (w := w) (base := base) T
  obtain ⟨_, O_ahead⟩ := ok_ahead (P := P) (w := w) (base := base) T
  have b : Binds K fd p_step_on [] := FunD.bindsN F fun _ _ _ _ _ _ us hl => match us, hl with | [_, _], _ => rfl
  refine ⟨fd, F.ok sc_step_on (fun vs H Q E h => ?_) (fun cdv A outer s H vs Q E hr h => ?_), b, F.kp⟩
  · obtain ⟨z, _, _, _, _, _, _, rfl, _⟩ := h
    rfl
  · obtain ⟨st, t, p, g, W, R, ws, rfl, hst, hnd, hsp, hok, hW, ow, k⟩ := h
    obtain ⟨c, wl, sl, lv, L, h1, h2, h3, h4, h5, h6, h7⟩ := id hsp
    have h1 := off_sub _ _ _ _ h1
    refine ⟨_, PSs.nox (pss_cons (ps_asg (pv 1) (pg_tupK (K := K) (n := 5) (pgs_cons (pg_name (i := 2) sc_step_on.nd rfl (Or.inl rfl)) (pgs_cons (pg_name (i := 3) sc_step_on.nd rfl (Or.inr rfl)) (pgs_cons (pg_name (i := 4) sc_step_on.nd rfl (Or.inr rfl)) (pgs_cons (pg_name (i := 5) sc_step_on.nd rfl (Or.inr rfl)) (pgs_cons (pg_name (i := 6) sc_step_on.nd rfl (Or.inl rfl)) pgs_nil)))))))
      (pss_cons (ps_if (pt_cmpR op_isN (pv 6) pe_non (nomark _))
      (pss_one (ps_ret (pe_tup (pa_cons (pe_lst pa_nil) (pa_cons (pe_lst (pa_cons (pe_tup (pa_cons (pv 2) (pa_cons (pv 3) (pa_cons (pv 4) (pa_cons (pv 5) (pa_cons pe_str (pa_cons pe_non (pa_cons pe_non pa_nil)))))))) pa_nil)) pa_nil))))) pss_nil)
      (pss_cons (ps_asg (pv 6) (pg_tupK (K := K) (n := 3) (pgs_cons (pg_name (i := 7) sc_step_on.nd rfl (Or.inl rfl)) (pgs_cons (pg_name (i := 8) sc_step_on.nd rfl (Or.inl rfl)) (pgs_cons (pg_name (i := 9) sc_step_on.nd rfl (Or.inl rfl)) pgs_nil)))))
      (pss_cons (ps_set (i := 10) sc_step_on.nd rfl (Or.inl rfl) (pe_ix (ix_listK (K := K)) (pv 7) (pv 8) (fun _ _ => rfl)))
      (C8.pss_cut (ps_set (i := 6) sc_step_on.nd rfl (Or.inl rfl) (pe_ifExp (pt_cmpR op_lt (pe_op op_add (pv 8) pe_int) (pe_callB call_len rfl (T.free_len) (by decide +kernel) (pa_cons (pv 7) pa_nil)) (nomark _)) (pe_tup (pa_cons (pv 7) (pa_cons (pe_op op_add (pv 8) pe_int) (pa_cons (pv 9) pa_nil)))) (pv 9)))
      (pss_cons (ps_set (i := 11) sc_step_on.nd rfl (Or.inl rfl) (pe_ix (ix_tupK (K := K)) (pv 10) pe_int (fun _ _ => rfl))) (pss_cons
      (ps_if (pt_cmpR op_eq (pv 11) pe_str (nomark _))
      (pss_one (ps_ret (pe_tup (pa_cons (pe_lst (pa_cons (pe_tup (pa_cons (pv 2) (pa_cons (pv 3) (pa_cons (pe_op op_cat (pv 4) (pe_lst (pa_cons (pe_ix (ix_tupK (K := K)) (pv 10) pe_int (fun _ _ => rfl)) pa_nil))) (pa_cons (pv 5) (pa_cons (pv 6) pa_nil)))))) pa_nil)) (pa_cons (pe_lst pa_nil) pa_nil))))) pss_nil)
      (pss_cons (ps_if (PW.pt (pw_or (pt_cmpR op_eq (pv 11) pe_str (nomark _)) (pw_or1 (pt_cmpR op_eq (pv 11) pe_str (nomark _)))))
      (pss_one (ps_ret (pe_tup (pa_cons (pe_lst (pa_cons (pe_tup (pa_cons (pv 2) (pa_cons (pe_op (op_binO O_Change_rshift.fn (hr.mono (by decide)) T.m_Change_rshift T.first_Change O_Change_rshift.b pass0) (pv 3) (pmake T.mk_Change O_Change_init (hr.mono (by decide)) rfl (T.g_Change) pass0 (pa_cons (pe_disp (pps_cons (pe_ix (ix_tupK (K := K)) (pv 10) pe_int (fun _ _ => rfl)) (pe_tup (pa_cons (pv 11) (pa_cons (pe_ix (ix_tupK (K := K)) (pv 10) pe_int (fun _ _ => rfl)) pa_nil))) pps_nil) (by rfl) (by rfl) (fun z => by cases z) (by decide)) pa_nil))) (pa_cons (pv 4) (pa_cons (pv 5) (pa_cons (pv 6) pa_nil)))))) pa_nil)) (pa_cons (pe_lst pa_nil) pa_nil))))) pss_nil)
      (pss_cons (ps_if (pt_cmpR op_eq (pv 11) pe_str (nomark _)) pss_never pss_nil) (pss_cons
      (ps_if (pt_cmpR op_eq (pv 11) pe_str (nomark _)) pss_never pss_nil) (pss_cons
      (ps_if (pt_cmpR op_eq (pv 11) pe_str (nomark _)) pss_never pss_nil)
      (pss_cons (ps_set (i := 14) sc_step_on.nd rfl (Or.inl rfl) (pcall O_find_scene (hr.mono (by decide)) rfl (T.g_find_scene) pass0 (pa_cons (pv 0) (pa_cons (pe_ix (ix_tupK (K := K)) (pv 10) pe_int (fun _ _ => rfl)) pa_nil))))
      (pss_cons (ps_if (pt_cmpR op_isN (pe_ix (ix_tupK (K := K)) (pv 14) pe_int (fun _ _ => rfl)) pe_non (nomark _))
      (pss_one (ps_ret (pe_tup (pa_cons (pe_lst (pa_cons (pe_tup (pa_cons (pv 2) (pa_cons (pv 3) (pa_cons (pv 4) (pa_cons (pv 5) (pa_cons (pcall O_ahead (hr.mono (by decide)) rfl (T.g_ahead) pass0 (pa_cons (pe_ix (ix_tupK (K := K)) (pv 14) pe_int (fun _ _ => rfl)) (pa_cons (pv 6) pa_nil))) pa_nil)))))) pa_nil)) (pa_cons (pe_lst pa_nil) pa_nil))))) pss_nil)
      (pss_one (ps_ret (pe_tup (pa_cons (pe_lst pa_nil) (pa_cons (pe_lst (pa_cons (pe_tup (pa_cons (pv 2) (pa_cons (pv 3) (pa_cons (pv 4) (pa_cons (pv 5) (pa_cons pe_str (pa_cons (pe_ix (ix_tupK (K := K)) (pv 10) pe_int (fun _ _ => rfl)) (pa_cons (pv 6) pa_nil)))))))) pa_nil)) pa_nil)))))))))))))))))), ?_⟩
    refine ⟨_, rfl, t, _, rfl, SqT.of h1, rfl, _, _, rfl, _, _, rfl, _, _, rfl, _, _, rfl, _, _, rfl, rfl, ?_⟩
    refine ⟨_, rfl, rfl, _, rfl, ?_⟩
    cases R with
    | nil =>
      have elv : lv = .non := by
        generalize eR : ([] : List Stp) = R0 at h7
        cases h7 with
        | nil => rfl
        | cons _ _ h3 _ =>
          rw [List.drop_eq_getElem_cons h3] at eR
          cases eR
      subst elv
      refine ite2 (fun _ => ?_) (fun z => absurd (decide_eq_true rfl) z)
      refine ⟨Nat.zero_le _, fun on hon => ⟨_, rfl, _, rfl, _, rfl, _, rfl, small (by show 7 ≤ 100000; decide), fun z hz => ⟨small (by show 1 ≤ 100000; decide), fun so hso => ⟨small (by show 2 ≤ 100000; decide), fun t' ht' => ?_⟩⟩⟩⟩
      have e1 := (Ex.refl H).new (o := .lst []) hon
      have e2 := (Ex.refl (upd H on (.lst []))).new (o := .tup [.ref p, .ref c, .ref wl, .ref sl, .str "ended", .non, .non]) hz
      have e3 := (Ex.refl (upd (upd H on (.lst [])) z (.tup [.ref p, .ref c, .ref wl, .ref sl, .str "ended", .non, .non]))).new (o := .lst [.ref z]) hso
      have e4 := (Ex.refl (upd (upd (upd H on (.lst [])) z (.tup [.ref p, .ref c, .ref wl, .ref sl, .str "ended", .non, .non])) so (.lst [.ref z]))).new (o := .tup [.ref on, .ref so]) ht'
      have eT := ((e1.trans e2).trans e3).trans e4
      have eO := off_ex (ws := ws) eT
      refine k t' on so _ eT upd_same hon ((e1.trans e2).back hso) ⟨?_, z, ?_, c, wl, sl, .non, L, ?_, h2.ex eO, h3.ex eO, h4, eO _ _ h5, eO _ _ h6, .nil⟩
      · exact off_at ((e2.trans (e3.trans e4)) _ _ upd_same) (ow.new hon)
      · exact off_at (e4 _ _ upd_same) (ow.new ((e1.trans e2).back hso))
      · exact off_at ((e3.trans e4) _ _ upd_same) (ow.new (e1.back hz))
    | cons stp R =>
      obtain ⟨tl, l, n, below, ss, R', rfl, g1, g2, g3, g4, g5, g6⟩ := h7.pop
      refine ite2 (fun z => ?_) (fun _ => ?_)
      · have := of_decide_eq_true z
        cases this
      have g1 := off_sub _ _ _ _ g1
      obtain ⟨rs, gl, grs⟩ := id g2
      have gl := off_sub _ _ _ _ gl
      obtain ⟨r, hr1, hat⟩ := grs.at' g5
      have hat : H r = some (.tup stp.vs) := off_sub _ _ _ _ hat
      have hat0 : atI (rs.map V.ref) (n : Int) = some (.ref r) := atI_nat (by rw [List.getElem?_map, hr1]; rfl)
      refine ⟨_, rfl, tl, _, rfl, SqT.of g1, rfl, _, _, rfl, _, _, rfl, _, _, rfl, rfl, ?_⟩
      refine ⟨_, rfl, _, rfl, l, _, _, _, rfl, rfl, SqL.of gl, hat0, ?_⟩
      -- what is left behind the step
      refine ⟨fun σ H1 => ∃ lv, σ = [some (.ref st), some (.ref t), some (.ref p), some (.ref c), some (.ref wl), some (.ref sl), some lv, some (.ref l), some (.int (n : Int)), some below, some (.ref r), none, none, none, none, none] ∧ Ex H H1 ∧ LeftAt (off ws H1) lv R, ?_, ?_⟩
      · have lrs : (rs.map V.ref).length = ss.length := by rw [List.length_map, grs.1]
        refine ⟨_, rfl, _, _, rfl, rfl, _, rfl, _, (rs.map V.ref).length, rfl, .inl ⟨_, SqL.of gl, rfl⟩, _, _, rfl, rfl, _, rfl, ite2 (fun z => ?_) (fun z => ?_)⟩
        · have z := of_decide_eq_true z
          rw [lrs] at z
          refine ⟨_, rfl, _, rfl, _, _, rfl, rfl, _, rfl, small (by show 3 ≤ 100000; decide), fun q hq => ?_⟩
          have e : Ex H (upd H q (.tup [.ref l, .int ((n : Int) + 1), below])) := (Ex.refl H).new hq
          refine ⟨_, rfl, e, ?_⟩
          rw [g6]
          exact LeftAt.cons (n := n + 1) (off_at upd_same (ow.new hq)) (g2.ex (off_ex e)) (by omega) (g4.ex (off_ex e))
        · refine ⟨_, rfl, below, rfl, Ex.refl H, ?_⟩
          have e : ss.length ≤ n + 1 := by
            rcases Nat.lt_or_ge (n + 1) ss.length with q | q
            · refine absurd (decide_eq_true ?_) z
              rw [lrs]
              omega
            · exact q
          rw [g6, List.drop_of_length_le e]
          exact g4
      · rintro σ H1 ⟨lv, rfl, e1, hlv⟩
        have hat1 : H1 r = some (.tup stp.vs) := e1 _ _ hat
        have okR : StpsOk S cs R := fun s m => hok s (List.mem_cons_of_mem _ m)
        have o1 := ow.ex e1
        have eo1 := off_ex (ws := ws) e1
        have P1 := h2.ex eo1
        have C1 := h3.ex (eo1.trans (off_sub ws H1))
        have W1o := eo1 _ _ h5
        have S1 := eo1 _ _ h6
        have W1 := off_sub _ _ _ _ W1o
        have nwl : wl ∉ ws := by
          intro m
          unfold off at W1o
          rw [if_pos m] at W1o
          cases W1o
        have fin : ∀ (H3 : Hp) (c' wl' : Addr) (lv' : V) (L' : Chg) (g' : (Str → Int) → Str → Int) (W' : List Str) (R' : List Stp), Ex H1 H3 → ChgAt K S H3 c' L' → (∀ f s, act L' f s = g' f s) → H3 wl' = some (.lst (W'.map V.str)) → wl' ∉ ws → LeftAt (off ws H3) lv' R' →
            (∀ H' on so z, H' so = some (.lst []) → H' on = some (.lst [.ref z]) → SpAt K S H' z p g' W' R' → Res1 K S cs H' on so p g W (stp :: R)) →
            ∀ z, H3 z = none → ∀ on, (upd H3 z (.tup [.ref p, .ref c', .ref wl', .ref sl, lv'])) on = none → ∀ so, (upd (upd H3 z (.tup [.ref p, .ref c', .ref wl', .ref sl, lv'])) on (.lst [.ref z])) so = none →
            ∀ t', (upd (upd (upd H3 z (.tup [.ref p, .ref c', .ref wl', .ref sl, lv'])) on (.lst [.ref z])) so (.lst [])) t' = none → Q (.ref t') (upd (upd (upd (upd H3 z (.tup [.ref p, .ref c', .ref wl', .ref sl, lv'])) on (.lst [.ref z])) so (.lst [])) t' (.tup [.ref on, .ref so])) := by
          intro H3 c' wl' lv' L' g' W' R' e3 C3 hg W3 nw3 hl3 res z hz on hon so hso t' ht'
          have o3 := o1.ex e3
          have nz := o3.new hz
          have non := o3.new ((Ex.refl H3).new (o := .tup [.ref p, .ref c', .ref wl', .ref sl, lv']) hz |>.back hon)
          have nso : so ∉ ws := o3.new ((((Ex.refl H3).new (o := .tup [.ref p, .ref c', .ref wl', .ref sl, lv']) hz).new (o := .lst [.ref z]) hon).back hso)
          have e4 := (Ex.refl H3).new (o := .tup [.ref p, .ref c', .ref wl', .ref sl, lv']) hz
          have gz : (upd H3 z (.tup [.ref p, .ref c', .ref wl', .ref sl, lv'])) z = some (.tup [.ref p, .ref c', .ref wl', .ref sl, lv']) := upd_same
          generalize upd H3 z (.tup [.ref p, .ref c', .ref wl', .ref sl, lv']) = H4 at e4 gz hon hso ht' ⊢
          have e5 := (Ex.refl H4).new (o := .lst [.ref z]) hon
          have gon : (upd H4 on (.lst [.ref z])) on = some (.lst [.ref z]) := upd_same
          generalize upd H4 on (.lst [.ref z]) = H5 at e5 gon hso ht' ⊢
          have e6 := (Ex.refl H5).new (o := .lst []) hso
          have gso : (upd H5 so (.lst [])) so = some (.lst []) := upd_same
          generalize upd H5 so (.lst []) = H6 at e6 gso ht' ⊢
          have e7 := (Ex.refl H6).new (o := .tup [.ref on, .ref so]) ht'
          have e37 := ((e4.trans e5).trans e6).trans e7
          have e17 := e3.trans e37
          have eo := off_ex (ws := ws) e17
          refine k t' on so _ (e1.trans e17) upd_same (((e1.trans e3).trans e4).back hon) ((((e1.trans e3).trans e4).trans e5).back hso) (res _ on so z (off_at (e7 _ _ gso) nso) (off_at ((e6.trans e7) _ _ gon) non) ⟨c', wl', sl, lv', L', off_at (((e5.trans e6).trans e7) _ _ gz) nz, P1.ex eo, (C3.ex e37).off (o3.ex e37), hg, off_at (e37 _ _ W3) nw3, eo _ _ S1, hl3.ex (off_ex e37)⟩)
        -- a change by one part
        have chg : ∀ (nm : Str) (kd : Bool) (i : Int), nm ∈ S → ∀ pd, H1 pd = none → ∀ u, (upd H1 pd (.dK [])) u = none → (upd (upd H1 pd (.dK [])) u (.tup [.str (kindS kd), .int i])) pd = some (.dK []) ∧
            PDf S (upd (upd (upd H1 pd (.dK [])) u (.tup [.str (kindS kd), .int i])) pd (.dK (mergeK [] [(Sum.inr nm, V.ref u)]))) pd (fun s => if s = nm then some (kd, i) else none) ∧ Ex H1 (upd (upd (upd H1 pd (.dK [])) u (.tup [.str (kindS kd), .int i])) pd (.dK (mergeK [] [(Sum.inr nm, V.ref u)]))) := by
          intro nm kd i hm pd hpd u hu
          have n1 : pd ≠ u := ne_of_none upd_same hu
          refine ⟨by rw [upd_ne n1, upd_same], ⟨[(Sum.inr nm, V.ref u)], upd_same, List.nodup_cons.mpr ⟨List.not_mem_nil, .nil⟩, fun kv m => ⟨nm, hm, by rw [List.mem_singleton.mp m]⟩, fun s => ?_⟩, (((Ex.refl H1).new hpd).new hu).mut hpd⟩
          by_cases q : s = nm
          · simp only [if_pos q]
            exact ⟨u, valV_pos (by rw [q]), by show _ = _; rw [upd_ne n1.symm, upd_same]⟩
          · simp only [if_neg q]
            exact valV_neg fun z => q (Sum.inr.inj z).symm
        have ga : ∀ (L1 L3 : Chg) (nm : Str) (kd : Bool) (i : Int), (∀ s, L1.lookup s = keepP (if s = nm then some (kd, i) else none)) → (∀ f s, act L3 f s = act L1 (act L f) s) → ∀ f s, act L3 f s = if s = nm then opA (some (kd, i)) (g f s) else g f s := by
          intro L1 L3 nm kd i q1 q2 f s
          rw [q2 f s]
          unfold act
          rw [q1 s, opA_keep]
          have q3 := h4 f s
          unfold act at q3
          by_cases q : s = nm
          · rw [if_pos q, if_pos q, q3]
          · rw [if_neg q, if_neg q]
            exact q3
        cases stp with
        | sho x =>
          refine ⟨_, rfl, r, _, 0, _, rfl, rfl, SqT.of hat1, rfl, ?_⟩
          refine ⟨_, rfl, rfl, _, rfl, ?_⟩
          refine ite2 (fun _ => ?_) (fun c => absurd (decide_eq_true (by first | rfl | decide +kernel)) c)
          refine ⟨_, rfl, _, rfl, _, rfl, _, rfl, r, _, 1, _, rfl, rfl, SqT.of hat1, rfl, small (by show 1 ≤ 100000; decide), fun q1 hq1 => ?_⟩
          have e2 := (Ex.refl H1).new (o := .lst [.str x]) hq1
          refine ⟨wl, q1, _, _, rfl, rfl, e2 _ _ W1, upd_same, by rw [List.length_map]; exact small (by show W.length + 1 ≤ 100000; omega), fun q2 hq2 => ?_⟩
          have e3 := e2.new (o := .lst (W.map V.str ++ [.str x])) hq2
          have gq2 : (upd (upd H1 q1 (.lst [.str x])) q2 (.lst (W.map V.str ++ [.str x]))) q2 = some (.lst ((W ++ [x]).map V.str)) := by
            rw [upd_same, List.map_append]
            rfl
          exact ⟨_, rfl, _, rfl, small (by show 5 ≤ 100000; decide), fun z hz => ⟨small (by show 1 ≤ 100000; decide), fun on hon => ⟨Nat.zero_le _, fun so hso => ⟨small (by show 2 ≤ 100000; decide), fun t' ht' =>
            fin _ c q2 lv L g (W ++ [x]) R e3 (C1.ex e3) h4 gq2 (o1.new (((Ex.refl H1).new (o := .lst [.str x]) hq1).back hq2)) (hlv.ex (off_ex e3)) (fun H' on so z a b c => ⟨a, z, b, c⟩) z hz on hon so hso t' ht'⟩⟩⟩⟩
        | st nm i =>
          have hm : nm ∈ S := hok _ List.mem_cons_self
          refine ⟨_, rfl, r, _, 0, _, rfl, rfl, SqT.of hat1, rfl, ?_⟩
          refine ⟨_, rfl, rfl, _, rfl, ?_⟩
          refine ite2 (fun c => absurd (of_decide_eq_true c) (by decide +kernel)) (fun _ => ?_)
          refine ⟨_, rfl, rfl, _, rfl, ?_⟩
          refine ite2 (fun _ => ?_) (fun c => absurd (decide_eq_true (by first | rfl | decide +kernel)) c)
          refine ⟨_, rfl, _, rfl, fun pd hpd => ?_⟩
          have ep := (Ex.refl H1).new (o := .dK []) hpd
          refine ⟨_, rfl, r, _, 1, _, rfl, rfl, SqT.of (ep _ _ hat1), rfl, _, rfl, _, rfl, r, _, 2, _, rfl, rfl, SqT.of (ep _ _ hat1), rfl, small (by show 2 ≤ 100000; decide), fun u hu => ?_⟩
          obtain ⟨c1, c2, c3⟩ := chg nm true i hm pd hpd u hu
          refine ⟨c1, [(Sum.inr nm, V.ref u)], rfl, (by show 1 ≤ 15; decide), ?_⟩
          intro x dx hx hdx hne
          have m1 : (upd (upd (upd (upd H1 pd (.dK [])) u (.tup [.str (kindS true), .int i])) pd (.dK (mergeK [] [(Sum.inr nm, V.ref u)]))) dx (.own x)) x = none := by
            rw [upd_ne hne.symm]
            exact hx
          have e2 := ((Ex.refl (upd (upd (upd H1 pd (.dK [])) u (.tup [.str (kindS true), .int i])) pd (.dK (mergeK [] [(Sum.inr nm, V.ref u)])))).new hdx).new (o := .ins (He.ga K "Change") dx []) m1
          refine ⟨x, dx, .ref pd, fun s => if s = nm then some (true, i) else none, rfl, upd_same, .inr ⟨pd, rfl, c2.ex e2⟩, fun H2 L1 k2 C2 hl1 => ⟨rfl, ?_⟩⟩
          have e3 : Ex H1 H2 := fun b o q => k2 b o (e2 b o (c3 b o q)) (off1 (ne_of_none (c3 b o q) hx))
          obtain ⟨da, ta, ga1, _, _⟩ := C1.ex e3
          obtain ⟨db, tb, gb1, _, _⟩ := id C2
          refine ⟨c, x, da, db, _, _, rfl, rfl, ga1, gb1, c, x, L, L1, rfl, C1.ex e3, C2, fun c' L3 H3 e4 hc' C3 ha3 => ⟨c', rfl, ?_⟩⟩
          have e5 := e3.trans e4
          exact ⟨_, rfl, _, rfl, _, rfl, small (by show 5 ≤ 100000; decide), fun z hz => ⟨small (by show 1 ≤ 100000; decide), fun on hon => ⟨Nat.zero_le _, fun so hso => ⟨small (by show 2 ≤ 100000; decide), fun t' ht' =>
            fin _ c' wl lv L3 (fun f => doS (.st nm i) (g f)) W R e5 C3 (fun f s => ga L1 L3 nm true i hl1 ha3 f s) (e5 _ _ W1) nwl (hlv.ex (off_ex e5)) (fun H' on so z a b c => ⟨a, z, b, c⟩) z hz on hon so hso t' ht'⟩⟩⟩⟩
        | ad nm i =>
          have hm : nm ∈ S := hok _ List.mem_cons_self
          refine ⟨_, rfl, r, _, 0, _, rfl, rfl, SqT.of hat1, rfl, ?_⟩
          refine ⟨_, rfl, rfl, _, rfl, ?_⟩
          refine ite2 (fun c => absurd (of_decide_eq_true c) (by decide +kernel)) (fun _ => ?_)
          refine ⟨_, rfl, rfl, _, rfl, ?_⟩
          refine ite2 (fun c => absurd (of_decide_eq_true c) (by decide +kernel)) (fun _ => ?_)
          refine ⟨_, rfl, rfl, _, rfl, ?_⟩
          refine ite2 (fun _ => ?_) (fun c => absurd (decide_eq_true (by first | rfl | decide +kernel)) c)
          refine ⟨_, rfl, _, rfl, fun pd hpd => ?_⟩
          have ep := (Ex.refl H1).new (o := .dK []) hpd
          refine ⟨_, rfl, r, _, 1, _, rfl, rfl, SqT.of (ep _ _ hat1), rfl, _, rfl, _, rfl, r, _, 2, _, rfl, rfl, SqT.of (ep _ _ hat1), rfl, small (by show 2 ≤ 100000; decide), fun u hu => ?_⟩
          obtain ⟨c1, c2, c3⟩ := chg nm false i hm pd hpd u hu
          refine ⟨c1, [(Sum.inr nm, V.ref u)], rfl, (by show 1 ≤ 15; decide), ?_⟩
          intro x dx hx hdx hne
          have m1 : (upd (upd (upd (upd H1 pd (.dK [])) u (.tup [.str (kindS false), .int i])) pd (.dK (mergeK [] [(Sum.inr nm, V.ref u)]))) dx (.own x)) x = none := by
            rw [upd_ne hne.symm]
            exact hx
          have e2 := ((Ex.refl (upd (upd (upd H1 pd (.dK [])) u (.tup [.str (kindS false), .int i])) pd (.dK (mergeK [] [(Sum.inr nm, V.ref u)])))).new hdx).new (o := .ins (He.ga K "Change") dx []) m1
          refine ⟨x, dx, .ref pd, fun s => if s = nm then some (false, i) else none, rfl, upd_same, .inr ⟨pd, rfl, c2.ex e2⟩, fun H2 L1 k2 C2 hl1 => ⟨rfl, ?_⟩⟩
          have e3 : Ex H1 H2 := fun b o q => k2 b o (e2 b o (c3 b o q)) (off1 (ne_of_none (c3 b o q) hx))
          obtain ⟨da, ta, ga1, _, _⟩ := C1.ex e3
          obtain ⟨db, tb, gb1, _, _⟩ := id C2
          refine ⟨c, x, da, db, _, _, rfl, rfl, ga1, gb1, c, x, L, L1, rfl, C1.ex e3, C2, fun c' L3 H3 e4 hc' C3 ha3 => ⟨c', rfl, ?_⟩⟩
          have e5 := e3.trans e4
          exact ⟨_, rfl, _, rfl, _, rfl, small (by show 5 ≤ 100000; decide), fun z hz => ⟨small (by show 1 ≤ 100000; decide), fun on hon => ⟨Nat.zero_le _, fun so hso => ⟨small (by show 2 ≤ 100000; decide), fun t' ht' =>
            fin _ c' wl lv L3 (fun f => doS (.ad nm i) (g f)) W R e5 C3 (fun f s => ga L1 L3 nm false i hl1 ha3 f s) (e5 _ _ W1) nwl (hlv.ex (off_ex e5)) (fun H' on so z a b c => ⟨a, z, b, c⟩) z hz on hon so hso t' ht'⟩⟩⟩⟩
        | scn nm =>
          obtain ⟨i, sc, hsc, hnm⟩ := hok _ List.mem_cons_self
          refine ⟨_, rfl, r, _, 0, _, rfl, rfl, SqT.of hat1, rfl, ?_⟩
          refine ⟨_, rfl, rfl, _, rfl, ?_⟩
          refine ite2 (fun c => absurd (of_decide_eq_true c) (by decide +kernel)) (fun _ => ?_)
          refine ⟨_, rfl, rfl, _, rfl, ?_⟩
          refine ite2 (fun c => absurd (of_decide_eq_true c) (by decide +kernel)) (fun _ => ?_)
          refine ⟨_, rfl, rfl, _, rfl, ?_⟩
          refine ite2 (fun c => absurd (of_decide_eq_true c) (by decide +kernel)) (fun _ => ?_)
          refine ⟨_, rfl, rfl, _, rfl, ?_⟩
          refine ite2 (fun c => absurd (of_decide_eq_true c) (by decide +kernel)) (fun _ => ?_)
          refine ⟨_, rfl, rfl, _, rfl, ?_⟩
          refine ite2 (fun c => absurd (of_decide_eq_true c) (by decide +kernel)) (fun _ => ?_)
          refine ⟨_, rfl, rfl, _, rfl, ?_⟩
          refine ite2 (fun c => absurd (of_decide_eq_true c) (by decide +kernel)) (fun _ => ?_)
          refine ⟨_, rfl, _, rfl, r, _, 1, _, rfl, rfl, SqT.of hat1, rfl, st, cs, i, sc, off ws H1, by rw [hnm]; rfl, hst.ex eo1, hnd, hsc, off_sub _ _, fun a ha => ?_⟩
          obtain ⟨la, va, ha1, ha2, ha3⟩ := ha
          have ha1 := off_sub _ _ _ _ ha1
          refine ⟨_, rfl, a, _, 2, _, rfl, rfl, SqT.of ha1, rfl, rfl, _, rfl, ?_⟩
          cases hsk : sc.skip with
          | false =>
            rw [hsk] at ha3
            obtain rfl : va = .non := ha3
            refine ite2 (fun _ => ?_) (fun q => absurd (decide_eq_true rfl) q)
            refine ⟨_, rfl, _, rfl, _, rfl, _, rfl, _, rfl, a, _, 1, _, rfl, rfl, SqT.of ha1, rfl, _, rfl, la, lv, sc.steps, R, ws, rfl, ha2, hlv, o1, fun v' H2 e2 hv' => ?_⟩
            exact ⟨small (by show 5 ≤ 100000; decide), fun z hz => ⟨small (by show 1 ≤ 100000; decide), fun on hon => ⟨Nat.zero_le _, fun so hso => ⟨small (by show 2 ≤ 100000; decide), fun t' ht' =>
              fin _ c wl v' L g W (sc.steps ++ R) e2 (C1.ex e2) h4 (e2 _ _ W1) nwl hv' (fun H' on so z a b c => ⟨i, sc, hsc, hnm, .inl ⟨hsk, a, z, b, c⟩⟩) z hz on hon so hso t' ht'⟩⟩⟩⟩
          | true =>
            rw [hsk] at ha3
            obtain ⟨qv, rfl, hqv⟩ := ha3
            refine ite2 (fun q => ?_) (fun _ => ?_)
            · have := of_decide_eq_true q
              cases this
            refine ⟨Nat.zero_le _, fun on hon => ?_⟩
            have f1 := (Ex.refl H1).new (o := .lst []) hon
            have gon : (upd H1 on (.lst [])) on = some (.lst []) := upd_same
            generalize upd H1 on (.lst []) = H2 at f1 gon
            refine ⟨_, rfl, _, rfl, _, rfl, _, rfl, _, rfl, r, _, 1, _, rfl, rfl, SqT.of (f1 _ _ hat1), rfl, _, rfl, small (by show 7 ≤ 100000; decide), fun z hz => ?_⟩
            have f2 := (Ex.refl H2).new (o := .tup [.ref p, .ref c, .ref wl, .ref sl, .str "skip", .str nm, lv]) hz
            have gz : (upd H2 z (.tup [.ref p, .ref c, .ref wl, .ref sl, .str "skip", .str nm, lv])) z = some (.tup [.ref p, .ref c, .ref wl, .ref sl, .str "skip", .str nm, lv]) := upd_same
            generalize upd H2 z (.tup [.ref p, .ref c, .ref wl, .ref sl, .str "skip", .str nm, lv]) = H3 at f2 gz
            refine ⟨small (by show 1 ≤ 100000; decide), fun so hso => ?_⟩
            have f3 := (Ex.refl H3).new (o := .lst [.ref z]) hso
            have gso : (upd H3 so (.lst [.ref z])) so = some (.lst [.ref z]) := upd_same
            generalize upd H3 so (.lst [.ref z]) = H4 at f3 gso
            refine ⟨small (by show 2 ≤ 100000; decide), fun t' ht' => ?_⟩
            have f4 := (Ex.refl H4).new (o := .tup [.ref on, .ref so]) ht'
            have fT := ((f1.trans f2).trans f3).trans f4
            have fo := off_ex (ws := ws) fT
            refine k t' on so _ (e1.trans fT) upd_same (e1.back hon) (((e1.trans f1).trans f2).back hso) ⟨i, sc, hsc, hnm, .inr ⟨hsk, off_at (((f2.trans f3).trans f4) _ _ gon) (o1.new hon), z, off_at (f4 _ _ gso) (o1.new ((f1.trans f2).back hso)), c, wl, sl, lv, L, off_at ((f3.trans f4) _ _ gz) (o1.new (f1.back hz)), P1.ex fo, (C1.ex fT).off (o1.ex fT), h4, fo _ _ W1o, fo _ _ S1, hlv.ex fo⟩⟩
end
end Sk
set_option Elab.async false
set_option linter.all false
set_option maxRecDepth 100000
set_option maxHeartbeats 4000000
namespace Sk
open PySem L2
/-! ### as far as a stop -/
/-- from R by n turns over the plain steps ws as far as the end (o none) or a scene that is asked for, R' behind it -/
inductive Adv (cs : List Scn) : Nat → List Stp → List Stp → Option Scn → List Stp → Prop
  | done : Adv cs 0 [] [] none []
  | sho {n : Nat} {x : Str} {R ws R' : List Stp} {o : Option Scn} : Adv cs n R ws o R' → Adv cs (n + 1) (.sho x :: R) (.sho x :: ws) o R'
  | st {n : Nat} {x : Str} {k : Int} {R ws R' : List Stp} {o : Option Scn} : Adv cs n R ws o R' → Adv cs (n + 1) (.st x k :: R) (.st x k :: ws) o R'
  | ad {n : Nat} {x : Str} {k : Int} {R ws R' : List Stp} {o : Option Scn} : Adv cs n R ws o R' → Adv cs (n + 1) (.ad x k :: R) (.ad x k :: ws) o R'
  | opn {n i : Nat} {c : Scn} {R ws R' : List Stp} {o : Option Scn} : cs[i]? = some c → c.skip = false → Adv cs n (c.steps ++ R) ws o R' → Adv cs (n + 1) (.scn c.name :: R) ws o R'
  | ask {i : Nat} {c : Scn} {R : List Stp} : cs[i]? = some c → c.skip = true → Adv cs 0 (.scn c.name :: R) [] (some c) R
theorem Kp.mono {ws ws' : List Addr} {H H' : Hp} (h : Kp ws H H') (m : ∀ x ∈ ws, x ∈ ws') : Kp ws' H H' := fun b o q n => h b o q fun z => n (m b z)
theorem OwnW.upd {ws : List Addr} {H : Hp} {a : Addr} {u : HO} (h : OwnW ws H) (r1 : ∀ xs, u ≠ .tup xs) (r2 : ∀ C dx fs, u ≠ .ins C dx fs) : OwnW ws (upd H a u) := fun x m => by
  by_cases c : x = a
  · rw [c]
    exact ⟨u, upd_same, r1, r2⟩
  · obtain ⟨o, q, r⟩ := h x m
    exact ⟨o, by rw [upd_ne c]; exact q, r⟩
theorem off_upd {ws : List Addr} {H : Hp} {a : Addr} {u : HO} (m : a ∈ ws) : Ex (off ws H) (off ws (upd H a u)) := off_kp ((Kp.refl ws H).upd m)
def wordsOf (ws : List Stp) : List Str := ws.filterMap fun s => match s with
  | .sho x => some x
  | _ => none
def doAll (ws : List Stp) (f : Str → Int) : Str → Int := ws.foldl (fun f s => doS s f) f
def howS (o : Option Scn) : Str := match o with
  | none => "ended"
  | some _ => "skip"
def whatV (o : Option Scn) : V := match o with
  | none => .non
  | some c => .str c.name
/-- the stop of a walk -/
def FinAt (K : PySem.W.Frag) (S : List Str) (H : Hp) (z p : Addr) (g : (Str → Int) → Str → Int) (W : List Str) (ws : List Stp) (o : Option Scn) (R' : List Stp) : Prop :=
  StopAt K S H z p (fun f => doAll ws (g f)) (W ++ wordsOf ws) (howS o) (whatV o) R'
section
variable {P : Program} {w : World} {K : PySem.W.Frag} {mg : Str → Option Value} {base : Heap} {S : List Str}
def spAdv (K : PySem.W.Frag) (S : List Str) (cs : List Scn) : Sp := fun vs H Q _ => ∃ (s p c : Addr) (lv : V) (L : Chg) (g : (Str → Int) → Str → Int) (n : Nat) (R as R' : List Stp) (o : Option Scn) (ws : List Addr), vs = [.ref s, .ref p, .ref c, lv] ∧ StoryAt K (off ws H) s cs ∧ (cs.map Scn.name).Nodup ∧
  (∀ c ∈ cs, StpsOk S cs c.steps) ∧ PatAt K (off ws H) p ∧ ChgAt K S (off ws H) c L ∧ (∀ f s, act L f s = g f s) ∧ LeftAt (off ws H) lv R ∧ StpsOk S cs R ∧ Adv cs n R as o R' ∧ n ≤ 20000 ∧ OwnW ws H ∧
  ∀ q z H', Ex H H' → H q = none → H' q = some (.lst [.ref z]) → FinAt K S (off (q :: ws) H') z p g [] as o R' → Q (.ref q) H'
theorem Adv.words {cs : List Scn} {n : Nat} {R as R' : List Stp} {o : Option Scn} (h : Adv cs n R as o R') : (wordsOf as).length ≤ n := by
  induction h with
  | done => exact Nat.le_refl _
  | ask => exact Nat.le_refl _
  | sho _ ih => exact Nat.succ_le_succ ih
  | st _ ih => exact Nat.le_succ_of_le ih
  | ad _ ih => exact Nat.le_succ_of_le ih
  | opn _ _ _ ih => exact Nat.le_succ_of_le ih
theorem StpsOk.append {cs : List Scn} {R R' : List Stp} (h : StpsOk S cs R) (h' : StpsOk S cs R') : StpsOk S cs (R ++ R') := fun s m => (List.mem_append.mp m).elim (h s) (h' s)
theorem ok_adv (T : TX K mg) (hS : SOk S) (cs : List Scn) : Ok P w K mg base CX0 5 a_advance p_advance (spAdv K S cs) := by
  obtain ⟨fd, F⟩ := T.d.def_ 36 (d := d_advance) rfl
  obtain ⟨_, O_step_on⟩ := ok_step (P := P) (w := w) (base := base) T hS cs
  have b : Binds K fd p_advance [] := FunD.bindsN F fun _ _ _ _ _ _ us hl => match us, hl with | [_, _, _, _], _ => rfl
  refine ⟨fd, F.ok sc_advance (fun vs H Q E h => ?_) (fun cdv A outer s H vs Q E hr h => ?_), b, F.kp⟩
  · obtain ⟨z, _, _, _, _, _, _, _, _, _, _, _, rfl, _⟩ := h
    rfl
  · obtain ⟨st, p, c, lv, L, g, n, R, as, R', o, ws, rfl, hst, hnd, hcs, hp, hc, hL, hlv, hok, hadv, hn, ow, k⟩ := h
    refine ⟨_, PSs.nox (pss_cons (ps_set (i := 4) sc_advance.nd rfl (Or.inl rfl) (pe_lst pa_nil)) (pss_cons (ps_set (i := 5) sc_advance.nd rfl (Or.inl rfl) pe_dnewK)
      (pss_cons (ps_set (i := 6) sc_advance.nd rfl (Or.inl rfl) (pe_lst (pa_cons (pe_tup (pa_cons (pv 1) (pa_cons (pv 2) (pa_cons (pe_lst pa_nil) (pa_cons (pe_lst pa_nil) (pa_cons (pv 3) pa_nil)))))) pa_nil)))
      (pss_cons
      (ps_while PassesOwn.never (pt_cmpR op_gt (pe_callB call_len rfl (T.free_len) (by decide +kernel) (pa_cons (pv 6) pa_nil)) pe_int (nomark _))
      (C8.pss_cut (ps_asg (pcall O_step_on (hr.mono (by decide)) rfl (T.g_step_on) pass0 (pa_cons (pv 0) (pa_cons (pe_bm0 PySem.F.plainAttrs_list PySem.F.slot_list_pop PySem.F.type_list_pop mt_pop (pv 6)) pa_nil))) (pg_tupK (K := K) (n := 2) (pgs_cons (pg_name (i := 7) sc_advance.nd rfl (Or.inl rfl)) (pgs_cons (pg_name (i := 8) sc_advance.nd rfl (Or.inl rfl)) pgs_nil))))
      (pss_cons (ps_expr (pe_bm PySem.F.plainAttrs_list PySem.F.slot_list_extend PySem.F.type_list_extend mt_extend (pv 6) (pa_cons (pv 7) pa_nil)))
      (C8.pss_cut (ps_for PassesOwn.never rfl (pi_list (pv 8)) (pg_name (i := 9) sc_advance.nd rfl (Or.inl rfl))
      (pss_cons (ps_expr (pe_bm PySem.F.plainAttrs_list PySem.F.slot_list_append PySem.F.type_list_append mt_append (pv 4) (pa_cons (pv 9) pa_nil)))
      (pss_one (ps_dputX hr.units (pv 5) (pe_callTy call_tuple_of rfl (T.free_tuple) (by decide +kernel) (pa_cons (pe_ix (ix_tupK (K := K)) (pv 9) pe_int (fun _ _ => rfl)) pa_nil)) pe_bl))))
      (pss_one
      (ps_if (pt_cmpR op_gt (pe_callB call_lenX rfl (T.free_len) (by decide +kernel) (pa_cons (pv 5) pa_nil)) (pe_glob (v := .int 300) rfl (T.c_MOST_RUNS).choose_spec ⟨_, rfl⟩) (nomark _)) pss_never pss_nil))))))
      (pss_one (ps_ret (pv 4))))))), ?_⟩
    refine ⟨Nat.zero_le _, fun fo hfo => fun ru hru => ?_⟩
    have e1 := (Ex.refl H).new (o := .lst []) hfo
    have fru := e1.back hru
    have gfo : (upd H fo (.lst [])) fo = some (.lst []) := upd_same
    have e2 := (Ex.refl (upd H fo (.lst []))).new (o := .dK []) hru
    have gru : (upd (upd H fo (.lst [])) ru (.dK [])) ru = some (.dK []) := upd_same
    have gfo := e2 _ _ gfo
    have e12 := e1.trans e2
    generalize upd (upd H fo (.lst [])) ru (.dK []) = H2 at e12 gru gfo
    refine ⟨_, rfl, _, rfl, Nat.zero_le _, fun wl hwl => ⟨Nat.zero_le _, fun sl hsl => ⟨_, rfl, small (by show 5 ≤ 100000; decide), fun t ht => ⟨small (by show 1 ≤ 100000; decide), fun pi hpi => ?_⟩⟩⟩⟩
    have e3 := (Ex.refl H2).new (o := .lst []) hwl
    have gwl : (upd H2 wl (.lst [])) wl = some (.lst []) := upd_same
    generalize upd H2 wl (.lst []) = H3 at e3 gwl hsl ht hpi
    have e4 := (Ex.refl H3).new (o := .lst []) hsl
    have gsl : (upd H3 sl (.lst [])) sl = some (.lst []) := upd_same
    generalize upd H3 sl (.lst []) = H4 at e4 gsl ht hpi
    have e5 := (Ex.refl H4).new (o := .tup [.ref p, .ref c, .ref wl, .ref sl, lv]) ht
    have gt : (upd H4 t (.tup [.ref p, .ref c, .ref wl, .ref sl, lv])) t = some (.tup [.ref p, .ref c, .ref wl, .ref sl, lv]) := upd_same
    generalize upd H4 t (.tup [.ref p, .ref c, .ref wl, .ref sl, lv]) = H5 at e5 gt hpi
    have e6 := (Ex.refl H5).new (o := .lst [.ref t]) hpi
    have gpi : (upd H5 pi (.lst [.ref t])) pi = some (.lst [.ref t]) := upd_same
    have e36 := ((e3.trans e4).trans e5).trans e6
    have e16 := e12.trans e36
    have gfo6 := e36 _ _ gfo
    have gru6 := e36 _ _ gru
    have gt6 := e6 _ _ gt
    have gsl6 := (e5.trans e6) _ _ gsl
    have gwl6 := ((e4.trans e5).trans e6) _ _ gwl
    have ow6 := ow.ex e16
    have nfr : fo ≠ ru := ne_of gfo gru (by intro z; cases z)
    have nwl : wl ≠ fo ∧ wl ≠ pi ∧ wl ≠ ru := ⟨(ne_of_none gfo hwl).symm, ne_of_none (((e4.trans e5)) _ _ gwl) hpi, (ne_of_none gru hwl).symm⟩
    have nsl : sl ≠ fo ∧ sl ≠ pi ∧ sl ≠ ru := ⟨(ne_of_none (e3 _ _ gfo) hsl).symm, ne_of_none (e5 _ _ gsl) hpi, (ne_of_none (e3 _ _ gru) hsl).symm⟩
    have npf : pi ≠ fo ∧ pi ≠ ru := ⟨(ne_of_none ((e3.trans (e4.trans e5)) _ _ gfo) hpi).symm, (ne_of_none ((e3.trans (e4.trans e5)) _ _ gru) hpi).symm⟩
    have fpi : H pi = none := ((e12.trans ((e3.trans e4).trans e5))).back hpi
    generalize upd H5 pi (.lst [.ref t]) = H6 at e6 gpi e36 e16 gfo6 gru6 gt6 gsl6 gwl6 ow6
    have ow7 : OwnW (pi :: ru :: fo :: ws) H6 := ((ow6.cons gfo6 (fun xs z => by cases z) (fun C dx fs z => by cases z)).cons gru6 (fun xs z => by cases z) (fun C dx fs z => by cases z)).cons gpi (fun xs z => by cases z) (fun C dx fs z => by cases z)
    have eo : Ex (off ws H) (off (pi :: ru :: fo :: ws) H6) := ((off_cons hfo).trans ((off_cons (ws := fo :: ws) fru).trans (off_cons (ws := ru :: fo :: ws) fpi))).trans (off_ex e16)
    have sp0 : SpAt K S (off (pi :: ru :: fo :: ws) H6) t p g [] R := by
      have nw : wl ∉ pi :: ru :: fo :: ws := by
        intro m
        rcases List.mem_cons.mp m with m | m
        · exact nwl.2.1 m
        · rcases List.mem_cons.mp m with m | m
          · exact nwl.2.2 m
          · rcases List.mem_cons.mp m with m | m
            · exact nwl.1 m
            · exact (ow.ex e12).new hwl m
      have ns : sl ∉ pi :: ru :: fo :: ws := by
        intro m
        rcases List.mem_cons.mp m with m | m
        · exact nsl.2.1 m
        · rcases List.mem_cons.mp m with m | m
          · exact nsl.2.2 m
          · rcases List.mem_cons.mp m with m | m
            · exact nsl.1 m
            · exact (ow.ex (e12.trans e3)).new hsl m
      exact ⟨c, wl, sl, lv, L, off_at gt6 (ow7.tup gt6), hp.ex eo, hc.ex eo, hL, off_at gwl6 nw, off_at gsl6 ns, hlv.ex eo⟩
    have st0 := hst.ex eo
    have hW7 : ∀ x ∈ [pi, ru, fo], x ∈ pi :: ru :: fo :: ws := by
      intro x m
      simp only [List.mem_cons, List.not_mem_nil, or_false] at m ⊢
      rcases m with m | m | m
      · exact .inl m
      · exact .inr (.inl m)
      · exact .inr (.inr (.inl m))
    have mpi : pi ∈ [pi, ru, fo] := List.mem_cons_self
    have mru : ru ∈ [pi, ru, fo] := List.mem_cons_of_mem _ List.mem_cons_self
    have mfo : fo ∈ [pi, ru, fo] := List.mem_cons_of_mem _ (List.mem_cons_of_mem _ (on1 fo))
    generalize hWW : pi :: ru :: fo :: ws = W7 at ow7 sp0 st0 hW7
    refine ⟨fun m σ H' => ∃ v7 v8 v9 : Option V, σ = [some (.ref st), some (.ref p), some (.ref c), some lv, some (.ref fo), some (.ref ru), some (.ref pi), v7, v8, v9] ∧ Kp [pi, ru, fo] H6 H' ∧ OwnW W7 H' ∧
        ((∃ (n : Nat) (R as1 : List Stp) (g1 : (Str → Int) → Str → Int) (W1 : List Str) (t1 : Addr), m = n + 1 ∧ H' pi = some (.lst [.ref t1]) ∧ H' fo = some (.lst []) ∧ H' ru = some (.dK []) ∧ SpAt K S (off W7 H') t1 p g1 W1 R ∧ StpsOk S cs R ∧ Adv cs n R as1 o R' ∧ W1.length + n ≤ 40000 ∧ W1 ++ wordsOf as1 = wordsOf as ∧ ∀ f, doAll as1 (g1 f) = doAll as (g f)) ∨
          (m = 0 ∧ H' pi = some (.lst []) ∧ ∃ z, H' fo = some (.lst [.ref z]) ∧ FinAt K S (off W7 H') z p g [] as o R')),
      ⟨n + 1, none, none, none, rfl, Kp.refl _ _, ow7, .inl ⟨n, R, as, g, [], t, rfl, gpi, gfo6, gru6, sp0, hok, hadv, by show 0 + n ≤ _; omega, rfl, fun f => rfl⟩⟩, ?_⟩
    rintro m σ H7 ⟨v7, v8, v9, rfl, k7, o7, hm⟩
    rcases hm with ⟨n1, R1, as1, g1, W1, t1, rfl, q1, q2, q3, q4, q5, q6, q7, q8, q9⟩ | ⟨rfl, q1, z, q2, q3⟩
    · refine ⟨_, rfl, _, 1, rfl, .inl ⟨_, SqL.of q1, rfl⟩, _, _, rfl, rfl, _, rfl, ite2 (fun _ => ?_) (fun z => absurd (decide_eq_true (by decide)) z)⟩
      refine ⟨fun σ H' => ∃ m', m' < n1 + 1 ∧ ∃ v7 v8 v9 : Option V, σ = [some (.ref st), some (.ref p), some (.ref c), some lv, some (.ref fo), some (.ref ru), some (.ref pi), v7, v8, v9] ∧ Kp [pi, ru, fo] H6 H' ∧ OwnW W7 H' ∧
        ((∃ (n : Nat) (R as1 : List Stp) (g1 : (Str → Int) → Str → Int) (W1 : List Str) (t1 : Addr), m' = n + 1 ∧ H' pi = some (.lst [.ref t1]) ∧ H' fo = some (.lst []) ∧ H' ru = some (.dK []) ∧ SpAt K S (off W7 H') t1 p g1 W1 R ∧ StpsOk S cs R ∧ Adv cs n R as1 o R' ∧ W1.length + n ≤ 40000 ∧ W1 ++ wordsOf as1 = wordsOf as ∧ ∀ f, doAll as1 (g1 f) = doAll as (g f)) ∨
          (m' = 0 ∧ H' pi = some (.lst []) ∧ ∃ z, H' fo = some (.lst [.ref z]) ∧ FinAt K S (off W7 H') z p g [] as o R')), fun σ' H' q => q, ?_⟩
      -- onward, stops
      refine ⟨fun σ H8 => ∃ (on so : Addr), σ = [some (.ref st), some (.ref p), some (.ref c), some lv, some (.ref fo), some (.ref ru), some (.ref pi), some (.ref on), some (.ref so), v9] ∧ Kp [pi, ru, fo] H6 H8 ∧ OwnW W7 H8 ∧ H8 pi = some (.lst []) ∧ H8 fo = some (.lst []) ∧ H8 ru = some (.dK []) ∧ on ≠ pi ∧ so ≠ pi ∧ so ≠ fo ∧
        ((∃ (z : Addr) (n : Nat) (R as1 : List Stp) (g1 : (Str → Int) → Str → Int) (W1 : List Str), n < n1 ∧ H8 so = some (.lst []) ∧ H8 on = some (.lst [.ref z]) ∧ SpAt K S (off W7 H8) z p g1 W1 R ∧ StpsOk S cs R ∧ Adv cs n R as1 o R' ∧ W1.length + n ≤ 40000 ∧ W1 ++ wordsOf as1 = wordsOf as ∧ ∀ f, doAll as1 (g1 f) = doAll as (g f)) ∨
          (∃ z, H8 on = some (.lst []) ∧ H8 so = some (.lst [.ref z]) ∧ FinAt K S (off W7 H8) z p g [] as o R')), ?_, ?_⟩
      · have k8 : Kp [pi, ru, fo] H6 (upd H7 pi (.lst [])) := k7.upd mpi
        have o8 : OwnW W7 (upd H7 pi (.lst [])) := o7.upd (fun xs z => by cases z) (fun C dx fs z => by cases z)
        have x8 : Ex (off W7 H7) (off W7 (upd H7 pi (.lst []))) := off_upd (hW7 _ mpi)
        have p8 : (upd H7 pi (.lst [])) pi = some (.lst []) := upd_same
        have f8 : (upd H7 pi (.lst [])) fo = some (.lst []) := by rw [upd_ne npf.1.symm]; exact q2
        have r8 : (upd H7 pi (.lst [])) ru = some (.dK []) := by rw [upd_ne npf.2.symm]; exact q3
        refine ⟨_, rfl, _, rfl, .inl ⟨rfl, _, SqL.of q1⟩, pi, _, .ref t1, rfl, rfl, q1, rfl, ?_⟩
        refine ⟨st, t1, p, g1, W1, R1, W7, rfl, ?_, hnd, q4.ex x8, q5, by omega, o8, fun t' on so H8 e8 ht' hon hso res => ?_⟩
        · exact st0.ex ((off_kp (k7.mono hW7)).trans x8)
        have s8 := off_sub W7 H8
        have non : on ≠ pi := fun z => by
          rw [z] at hon
          exact nomatch hon.symm.trans p8
        have nsp : so ≠ pi := fun z => by
          rw [z] at hso
          exact nomatch hso.symm.trans p8
        have nsf : so ≠ fo := fun z => by
          rw [z] at hso
          exact nomatch hso.symm.trans f8
        refine ⟨t', _, rfl, SqT.of ht', rfl, _, _, rfl, _, _, rfl, rfl, ?_⟩
        refine ⟨on, so, rfl, k8.ex e8, o8.ex e8, e8 _ _ p8, e8 _ _ f8, e8 _ _ r8, non, nsp, nsf, ?_⟩
        cases q6 with
        | done =>
          obtain ⟨r1, z, r2, r3⟩ := res
          refine .inr ⟨z, s8 _ _ r1, s8 _ _ r2, ?_⟩
          have eW : W1 = wordsOf as := by
            rw [← q8]
            exact (List.append_nil W1).symm
          obtain ⟨c', wl', sl', lv', L', y1, y2, y3, y4, y5⟩ := r3
          refine ⟨c', wl', sl', lv', L', y1, y2, y3, fun f s => ?_, ?_⟩
          · rw [y4 f s]
            exact congrFun (q9 f) s
          · rw [← eW]
            exact y5
        | ask hc1 hs1 =>
          obtain ⟨i', c', hc', hn', hr⟩ := res
          rename_i i0 c0
          have ec : c' = c0 := by
            have g1 : (cs.map Scn.name)[i']? = some c0.name := by rw [List.getElem?_map, hc', ← hn']; rfl
            have g2 : (cs.map Scn.name)[i0]? = some c0.name := by rw [List.getElem?_map, hc1]; rfl
            have := nodup_idx _ hnd i' i0 _ g1 g2
            subst this
            rw [hc'] at hc1
            exact Option.some.inj hc1
          subst ec
          rcases hr with ⟨hf, _⟩ | ⟨_, r1, z, r2, r3⟩
          · rw [hs1] at hf
            cases hf
          refine .inr ⟨z, s8 _ _ r1, s8 _ _ r2, ?_⟩
          have eW : W1 = wordsOf as := by
            rw [← q8]
            exact (List.append_nil W1).symm
          obtain ⟨c', wl', sl', lv', L', y1, y2, y3, y4, y5⟩ := r3
          refine ⟨c', wl', sl', lv', L', y1, y2, y3, fun f s => ?_, ?_⟩
          · rw [y4 f s]
            exact congrFun (q9 f) s
          · rw [← eW]
            exact y5
        | sho hA =>
          rename_i n2 x R2 as2
          obtain ⟨r1, z, r2, r3⟩ := res
          refine .inl ⟨z, n2, R2, as2, g1, W1 ++ [x], Nat.lt_succ_self _, s8 _ _ r1, s8 _ _ r2, r3, fun s m => q5 s (List.mem_cons_of_mem _ m), hA, by rw [List.length_append]; show W1.length + 1 + n2 ≤ _; omega, ?_, fun f => q9 f⟩
          rw [List.append_assoc]
          exact q8
        | st hA =>
          rename_i n2 x kk R2 as2
          obtain ⟨r1, z, r2, r3⟩ := res
          exact .inl ⟨z, n2, R2, as2, _, W1, Nat.lt_succ_self _, s8 _ _ r1, s8 _ _ r2, r3, fun s m => q5 s (List.mem_cons_of_mem _ m), hA, by omega, q8, fun f => q9 f⟩
        | ad hA =>
          rename_i n2 x kk R2 as2
          obtain ⟨r1, z, r2, r3⟩ := res
          exact .inl ⟨z, n2, R2, as2, _, W1, Nat.lt_succ_self _, s8 _ _ r1, s8 _ _ r2, r3, fun s m => q5 s (List.mem_cons_of_mem _ m), hA, by omega, q8, fun f => q9 f⟩
        | opn hc1 hs1 hA =>
          rename_i n2 i0 c0 R2
          obtain ⟨i', c', hc', hn', hr⟩ := res
          have ec : c' = c0 := by
            have g1 : (cs.map Scn.name)[i']? = some c0.name := by rw [List.getElem?_map, hc', ← hn']; rfl
            have g2 : (cs.map Scn.name)[i0]? = some c0.name := by rw [List.getElem?_map, hc1]; rfl
            have := nodup_idx _ hnd i' i0 _ g1 g2
            subst this
            rw [hc'] at hc1
            exact Option.some.inj hc1
          subst ec
          rcases hr with ⟨_, r1, z, r2, r3⟩ | ⟨hf, _⟩
          · exact .inl ⟨z, n2, _, as1, g1, W1, Nat.lt_succ_self _, s8 _ _ r1, s8 _ _ r2, r3, (hcs _ (List.mem_of_getElem? hc1)).append fun s m => q5 s (List.mem_cons_of_mem _ m), hA, by omega, q8, q9⟩
          · rw [hs1] at hf
            cases hf
      · rintro σ H8 ⟨on, so, rfl, k8, o8, p8, f8, r8, non, nsp, nsf, hh⟩
        rcases hh with ⟨z, n2, R2, as2, g2, W2, y1, y2, y3, y4, y5, y6, y7, y8, y9⟩ | ⟨z, y1, y2, y3⟩
        · -- one goes on
          refine ⟨_, rfl, .inl ⟨rfl, _, SqL.of p8⟩, _, rfl, pi, on, _, _, rfl, rfl, p8, y3, (by show 0 + 1 ≤ sizeLine; exact small (by decide)), ?_⟩
          have k9 : Kp [pi, ru, fo] H6 (upd H8 pi (.lst ([] ++ [.ref z]))) := k8.upd mpi
          have o9 : OwnW W7 (upd H8 pi (.lst ([] ++ [.ref z]))) := o8.upd (fun xs z => by cases z) (fun C dx fs z => by cases z)
          have x9 : Ex (off W7 H8) (off W7 (upd H8 pi (.lst ([] ++ [.ref z])))) := off_upd (hW7 _ mpi)
          have p9 : (upd H8 pi (.lst ([] ++ [.ref z]))) pi = some (.lst [.ref z]) := upd_same
          have f9 : (upd H8 pi (.lst ([] ++ [.ref z]))) fo = some (.lst []) := by rw [upd_ne npf.1.symm]; exact f8
          have r9 : (upd H8 pi (.lst ([] ++ [.ref z]))) ru = some (.dK []) := by rw [upd_ne npf.2.symm]; exact r8
          have s9 : (upd H8 pi (.lst ([] ++ [.ref z]))) so = some (.lst []) := by rw [upd_ne nsp]; exact y2
          generalize upd H8 pi (.lst ([] ++ [.ref z])) = H9 at k9 o9 x9 p9 f9 r9 s9
          refine ⟨fun σ H' => ∃ v9, σ = [some (.ref st), some (.ref p), some (.ref c), some lv, some (.ref fo), some (.ref ru), some (.ref pi), some (.ref on), some (.ref so), v9] ∧ H' = H9, ?_, ?_⟩
          · refine ⟨_, rfl, so, rfl, ⟨_, SqL.of s9⟩, ?_⟩
            refine for_it (walk_list (K := K) (a := so) (xs := [])) (fun i σ' H' => (∃ v9, σ' = [some (.ref st), some (.ref p), some (.ref c), some lv, some (.ref fo), some (.ref ru), some (.ref pi), some (.ref on), some (.ref so), v9]) ∧ H' = H9) ⟨⟨_, rfl⟩, rfl⟩ (fun i σ' H' _ z => by rw [z.2]; exact SqL.of s9) (fun i x σ' H1 H2 hi => absurd hi (Nat.not_lt_zero _)) ?_
            rintro σ' H' ⟨⟨v, rfl⟩, rfl⟩
            exact ⟨v, rfl, rfl⟩
          · rintro σ H' ⟨v9', rfl, rfl⟩
            refine ⟨_, rfl, ru, 0, rfl, .inl ⟨rfl, r9⟩, _, _, rfl, rfl, _, rfl, ite2 (fun q => absurd (of_decide_eq_true q) (by decide)) (fun _ => ?_)⟩
            exact ⟨n2 + 1, by omega, _, _, _, rfl, k9, o9, .inl ⟨n2, R2, as2, g2, W2, z, rfl, p9, f9, r9, y4.ex x9, y5, y6, y7, y8, y9⟩⟩
        · -- a stop
          refine ⟨_, rfl, .inl ⟨rfl, _, SqL.of p8⟩, _, rfl, pi, on, _, _, rfl, rfl, p8, y1, (by show 0 + 0 ≤ sizeLine; exact small (by decide)), ?_⟩
          have k9 : Kp [pi, ru, fo] H6 (upd H8 pi (.lst ([] ++ []))) := k8.upd mpi
          have o9 : OwnW W7 (upd H8 pi (.lst ([] ++ []))) := o8.upd (fun xs z => by cases z) (fun C dx fs z => by cases z)
          have x9 : Ex (off W7 H8) (off W7 (upd H8 pi (.lst ([] ++ [])))) := off_upd (hW7 _ mpi)
          have p9 : (upd H8 pi (.lst ([] ++ []))) pi = some (.lst []) := upd_same
          have f9 : (upd H8 pi (.lst ([] ++ []))) fo = some (.lst []) := by rw [upd_ne npf.1.symm]; exact f8
          have r9 : (upd H8 pi (.lst ([] ++ []))) ru = some (.dK []) := by rw [upd_ne npf.2.symm]; exact r8
          have s9 : (upd H8 pi (.lst ([] ++ []))) so = some (.lst [.ref z]) := by rw [upd_ne nsp]; exact y2
          have y4 := y3.ex x9
          generalize upd H8 pi (.lst ([] ++ [])) = H9 at k9 o9 x9 p9 f9 r9 s9 y4
          refine ⟨fun σ H' => ∃ v9, σ = [some (.ref st), some (.ref p), some (.ref c), some lv, some (.ref fo), some (.ref ru), some (.ref pi), some (.ref on), some (.ref so), v9] ∧ Kp [pi, ru, fo] H6 H' ∧ OwnW W7 H' ∧ H' pi = some (.lst []) ∧ H' fo = some (.lst [.ref z]) ∧ H' ru = some (LenD 1 ru) ∧ FinAt K S (off W7 H') z p g [] as o R', ?_, ?_⟩
          · refine ⟨_, rfl, so, rfl, ⟨_, SqL.of s9⟩, ?_⟩
            refine for_it (walk_list (K := K) (a := so) (xs := [.ref z])) (fun i σ' H' => ∃ v9, σ' = [some (.ref st), some (.ref p), some (.ref c), some lv, some (.ref fo), some (.ref ru), some (.ref pi), some (.ref on), some (.ref so), v9] ∧ ((i = 0 ∧ H' = H9) ∨ (i = 1 ∧ H' so = some (.lst [.ref z]) ∧ Kp [pi, ru, fo] H6 H' ∧ OwnW W7 H' ∧ H' pi = some (.lst []) ∧ H' fo = some (.lst [.ref z]) ∧ H' ru = some (LenD 1 ru) ∧ FinAt K S (off W7 H') z p g [] as o R')))
              ⟨_, rfl, .inl ⟨rfl, rfl⟩⟩ (fun i σ' H' _ q => ?_) ?_ ?_
            · obtain ⟨_, _, ⟨_, e⟩ | ⟨_, e, _⟩⟩ := q
              · rw [e]
                exact SqL.of s9
              · exact SqL.of e
            · rintro i x σ' H10 H11 hi ⟨v9', rfl, hh⟩ ⟨rfl, hx⟩
              have i0 : i = 0 := by
                have : i < 1 := hi
                omega
              subst i0
              rcases hh with ⟨_, rfl⟩ | ⟨z, _⟩
              · cases Option.some.inj hx
                obtain ⟨c', wl', sl', lv', L', w1, w2, w3, w4, w5, w6, w7⟩ := id y4
                have w1 := off_sub _ _ _ _ w1
                have w6o := w6
                have w6 := off_sub _ _ _ _ w6
                have nsl : sl' ∉ W7 := by
                  intro m
                  unfold off at w6o
                  rw [if_pos m] at w6o
                  cases w6o
                refine ⟨_, rfl, .inl ⟨rfl, _, SqL.of f9⟩, _, rfl, fo, _, _, rfl, rfl, f9, (by show 0 < sizeLine; exact small' (by decide)), ?_⟩
                have k10 : Kp [pi, ru, fo] H6 (upd H11 fo (.lst ([] ++ [.ref z]))) := k9.upd mfo
                have o10 : OwnW W7 (upd H11 fo (.lst ([] ++ [.ref z]))) := o9.upd (fun xs z => by cases z) (fun C dx fs z => by cases z)
                have x10 : Ex (off W7 H11) (off W7 (upd H11 fo (.lst ([] ++ [.ref z])))) := off_upd (hW7 _ mfo)
                have f10 : (upd H11 fo (.lst ([] ++ [.ref z]))) fo = some (.lst [.ref z]) := upd_same
                have p10 : (upd H11 fo (.lst ([] ++ [.ref z]))) pi = some (.lst []) := by rw [upd_ne npf.1]; exact p9
                have r10 : (upd H11 fo (.lst ([] ++ [.ref z]))) ru = some (.dK []) := by rw [upd_ne nfr.symm]; exact r9
                have s10 : (upd H11 fo (.lst ([] ++ [.ref z]))) so = some (.lst [.ref z]) := by rw [upd_ne nsf]; exact s9
                have z10 : (upd H11 fo (.lst ([] ++ [.ref z]))) z = some (.tup [.ref p, .ref c', .ref wl', .ref sl', .str (howS o), whatV o, lv']) := by rw [upd_ne (ne_of w1 f9 (by intro z; cases z))]; exact w1
                have l10 : (upd H11 fo (.lst ([] ++ [.ref z]))) sl' = some (.lst []) := by rw [upd_ne (fun q => nsl (by rw [q]; exact hW7 _ mfo))]; exact w6
                have y10 := y4.ex x10
                generalize upd H11 fo (.lst ([] ++ [.ref z])) = H12 at k10 o10 x10 f10 p10 r10 s10 z10 l10 y10
                refine ⟨_, rfl, _, rfl, z, _, 3, _, rfl, rfl, SqT.of z10, rfl, sl', _, rfl, .inl ⟨SqL.of l10, fun u hu => ?_⟩⟩
                have e11 := (Ex.refl H12).new (o := .tup []) hu
                refine ⟨ru, u, .tup [], rfl, rfl, e11 _ _ r10, .tup upd_same .nil, by decide, ?_⟩
                have x12 : Ex (off W7 (upd H12 u (.tup []))) (off W7 (upd (upd H12 u (.tup [])) ru (LenD 1 ru))) := off_upd (hW7 _ mru)
                refine ⟨_, rfl, .inr ⟨rfl, ?_, (k10.ex e11).upd mru, (o10.ex e11).upd (fun xs z => by cases z) (fun C dx fs z => by cases z), ?_, ?_, upd_same, y10.ex ((off_ex e11).trans x12)⟩⟩
                · rw [upd_ne (ne_of s10 r10 (by intro z; cases z))]
                  exact e11 _ _ s10
                · rw [upd_ne npf.2]
                  exact e11 _ _ p10
                · rw [upd_ne nfr]
                  exact e11 _ _ f10
              · cases z
            · rintro σ' H10 ⟨v9', rfl, ⟨q, _⟩ | ⟨_, _, q⟩⟩
              · cases q
              · exact ⟨_, rfl, q⟩
          · rintro σ H10 ⟨v9', rfl, k10, o10, p10, f10, r10, y10⟩
            refine ⟨_, rfl, ru, 1, rfl, .inr ⟨by decide, r10⟩, _, _, rfl, rfl, _, rfl, ite2 (fun q => absurd (of_decide_eq_true q) (by decide)) (fun _ => ?_)⟩
            exact ⟨0, by omega, _, _, _, rfl, k10, o10, .inr ⟨rfl, p10, z, f10, y10⟩⟩
    · refine ⟨_, rfl, _, 0, rfl, .inl ⟨_, SqL.of q1, rfl⟩, _, _, rfl, rfl, _, rfl, ite2 (fun z => ?_) (fun _ => ?_)⟩
      · exact absurd (of_decide_eq_true z) (by decide)
      · refine ⟨_, rfl, ?_⟩
        have eH : Ex H H7 := fun b o y => k7 b o (e16 b o y) fun m => by
          simp only [List.mem_cons, List.not_mem_nil, or_false] at m
          rcases m with m | m | m
          · exact ne_of_none y fpi m
          · exact ne_of_none y fru m
          · exact ne_of_none y hfo m
        refine k fo z H7 eH hfo q2 ?_
        have x : Ex (off W7 H7) (off (fo :: ws) H7) := by
          rw [← hWW]
          exact (off_less (w := pi)).trans (off_less (w := ru))
        exact q3.ex x
end
end Sk
set_option Elab.async false
set_option linter.all false
set_option maxRecDepth 100000
set_option maxHeartbeats 4000000
namespace Sk
open PySem L2
/-! ### ways -/
def wfs (b t g w e : V) : List (Str × V) := [("box", b), ("turn", t), ("given", g), ("words", w), ("close", e)]
theorem putF_other {f g : Str} {v u : V} {r : List (Str × V)} (h : ¬ f = g) : putF g v ((f, u) :: r) = (f, u) :: putF g v r := by
  simp only [putF]
  rw [if_neg h]
theorem look_next {f g : Str} {u : V} {r : List (Str × V)} (h : ¬ g = f) : ((f, u) :: r).lookup g = r.lookup g := by
  show (match g == f with | true => some u | false => r.lookup g) = _
  rw [beq_eq_false_iff_ne.mpr h]
theorem look_here {f : Str} {u : V} {r : List (Str × V)} : ((f, u) :: r).lookup f = some u := by
  show (match f == f with | true => some u | false => r.lookup f) = _
  rw [beq_self_eq_true]
def WayAt (K : PySem.W.Frag) (S : List Str) (H : Hp) (y : Addr) (g : (Str → Int) → Str → Int) (k : Nat) (W : List Str) : Prop :=
  ∃ dx p c L gl wl, H y = some (.ins (He.ga K "Way") dx (wfs (.ref p) (.ref c) (.ref gl) (.ref wl) (.str "ended"))) ∧ PatAt K H p ∧ ChgAt K S H c L ∧ (∀ f s, act L f s = g f s) ∧ H gl = some (.lst (List.replicate k (.str "watch"))) ∧ H wl = some (.lst (W.map V.str))
theorem WayAt.ex {K : PySem.W.Frag} {S : List Str} {H H' : Hp} {y : Addr} {g : (Str → Int) → Str → Int} {k : Nat} {W : List Str} (h : WayAt K S H y g k W) (e : Ex H H') : WayAt K S H' y g k W := by
  obtain ⟨dx, p, c, L, gl, wl, h1, h2, h3, h4, h5, h6⟩ := h
  exact ⟨dx, p, c, L, gl, wl, e _ _ h1, h2.ex e, h3.ex e, h4, e _ _ h5, e _ _ h6⟩
section
variable {P : Program} {w : World} {K : PySem.W.Frag} {mg : Str → Option Value} {base : Heap} {S : List Str}
def spWay (K : PySem.W.Frag) : Sp := fun vs H Q _ => ∃ (y dx : Addr) (b t g w e : V), vs = [.ref y, b, t, g, w, e] ∧ H y = some (.ins (He.ga K "Way") dx []) ∧ ∀ H', Kp [y] H H' → H' y = some (.ins (He.ga K "Way") dx (wfs b t g w e)) → Q .non H'
theorem ok_way (T : TX K mg) : Ok P w K mg base CX0 1 a_Way_init p_Way_init (spWay K) := by
  obtain ⟨fd, F⟩ := T.d.def_ 37 (d := d_Way_init) rfl
  have b : Binds K fd p_Way_init [] := FunD.bindsN F fun _ _ _ _ _ _ us hl => match us, hl with | [_, _, _, _, _, _], _ => rfl
  refine ⟨fd, F.ok sc_Way_init (fun vs H Q E h => ?_) (fun cdv A outer s H vs Q E hr h => ?_), b, F.kp⟩
  · obtain ⟨z, _, _, _, _, _, _, rfl, _⟩ := h
    rfl
  · obtain ⟨y, dx, b, t, g, w, e, rfl, hy, k⟩ := h
    refine ⟨_, PSs.nox (pss_cons (ps_fld (pv 0) (pv 1) rfl) (pss_cons (ps_fld (pv 0) (pv 2) rfl) (pss_cons (ps_fld (pv 0) (pv 3) rfl) (pss_cons (ps_fld (pv 0) (pv 4) rfl)
      (pss_one (ps_fld (pv 0) (pv 5) rfl)))))), ?_⟩
    refine ⟨_, rfl, _, rfl, y, _, dx, [], rfl, hy, T.c_Way, T.n_Way_box, (by show 0 < 1000; decide), ?_⟩
    rw [show putF ("box" : Str) b [] = ([("box", b)] : List (Str × V)) from rfl]
    refine ⟨_, rfl, _, rfl, y, _, dx, _, rfl, upd_same, T.c_Way, T.n_Way_turn, (by show 1 < 1000; decide), ?_⟩
    rw [show putF ("turn" : Str) t [("box", b)] = ([("box", b), ("turn", t)] : List (Str × V)) by rw [putF_other (by decide +kernel)] <;> rfl]
    refine ⟨_, rfl, _, rfl, y, _, dx, _, rfl, upd_same, T.c_Way, T.n_Way_given, (by show 2 < 1000; decide), ?_⟩
    rw [show putF ("given" : Str) g [("box", b), ("turn", t)] = ([("box", b), ("turn", t), ("given", g)] : List (Str × V)) by rw [putF_other (by decide +kernel), putF_other (by decide +kernel)] <;> rfl]
    refine ⟨_, rfl, _, rfl, y, _, dx, _, rfl, upd_same, T.c_Way, T.n_Way_words, (by show 3 < 1000; decide), ?_⟩
    rw [show putF ("words" : Str) w [("box", b), ("turn", t), ("given", g)] = ([("box", b), ("turn", t), ("given", g), ("words", w)] : List (Str × V)) by rw [putF_other (by decide +kernel), putF_other (by decide +kernel), putF_other (by decide +kernel)] <;> rfl]
    refine ⟨_, rfl, _, rfl, y, _, dx, _, rfl, upd_same, T.c_Way, T.n_Way_close, (by show 4 < 1000; decide), ?_⟩
    rw [show putF ("close" : Str) e [("box", b), ("turn", t), ("given", g), ("words", w)] = wfs b t g w e by rw [putF_other (by decide +kernel), putF_other (by decide +kernel), putF_other (by decide +kernel), putF_other (by decide +kernel)] <;> rfl]
    exact k _ (((((((Kp.refl [y] H).upd (on1 y)).upd (on1 y)).upd (on1 y)).upd (on1 y)).upd (on1 y))) upd_same
/-- a getter of a field -/
def spGF (C : Addr) (f : Str) : Sp := fun vs H Q _ => ∃ a dx fs v, vs = [.ref a] ∧ H a = some (.ins C dx fs) ∧ fs.lookup f = some v ∧ Q v H
theorem ok_pattern (T : TX K mg) : ∃ fd, OkG P w K mg base 1 a_Way_pattern fd p_Way_pattern (spGF (He.ga K "Way") "box") := by
  obtain ⟨⟨fd, F⟩, _⟩ := T.p.get 0 (d := d_Way_pattern) rfl
  have b : Binds K fd p_Way_pattern [] := FunD.bindsN F fun _ _ _ _ _ _ us hl => match us, hl with | [_], _ => rfl
  refine ⟨fd, F.ok sc_Way_pattern (fun vs H Q E h => ?_) (fun cdv A outer s H vs Q E hr h => ?_), b⟩
  · obtain ⟨z, _, _, _, rfl, _⟩ := h
    rfl
  · obtain ⟨y, dx, fs, v, rfl, hy, hl, k⟩ := h
    exact ⟨_, PSs.nox (pss_one (ps_ret (pe_fldK (K := K) (pv 0)))), ⟨_, rfl, y, _, dx, _, _, rfl, hy, T.c_Way, T.n_Way_box, hl, k⟩⟩
theorem ok_end (T : TX K mg) : ∃ fd, OkG P w K mg base 1 a_Way_end fd p_Way_end (spGF (He.ga K "Way") "close") := by
  obtain ⟨⟨fd, F⟩, _⟩ := T.p.get 3 (d := d_Way_end) rfl
  have b : Binds K fd p_Way_end [] := FunD.bindsN F fun _ _ _ _ _ _ us hl => match us, hl with | [_], _ => rfl
  refine ⟨fd, F.ok sc_Way_end (fun vs H Q E h => ?_) (fun cdv A outer s H vs Q E hr h => ?_), b⟩
  · obtain ⟨z, _, _, _, rfl, _⟩ := h
    rfl
  · obtain ⟨y, dx, fs, v, rfl, hy, hl, k⟩ := h
    exact ⟨_, PSs.nox (pss_one (ps_ret (pe_fldK (K := K) (pv 0)))), ⟨_, rfl, y, _, dx, _, _, rfl, hy, T.c_Way, T.n_Way_close, hl, k⟩⟩
/-- a getter of a list's copy -/
def spGL (C : Addr) (f : Str) : Sp := fun vs H Q _ => ∃ a dx fs l xs, vs = [.ref a] ∧ H a = some (.ins C dx fs) ∧ fs.lookup f = some (.ref l) ∧ H l = some (.lst xs) ∧ ∀ q, H q = none → Q (.ref q) (upd H q (.lst xs))
theorem ok_answers (T : TX K mg) : ∃ fd, OkG P w K mg base 1 a_Way_answers fd p_Way_answers (spGL (He.ga K "Way") "given") := by
  obtain ⟨⟨fd, F⟩, _⟩ := T.p.get 1 (d := d_Way_answers) rfl
  have b : Binds K fd p_Way_answers [] := FunD.bindsN F fun _ _ _ _ _ _ us hl => match us, hl with | [_], _ => rfl
  refine ⟨fd, F.ok sc_Way_answers (fun vs H Q E h => ?_) (fun cdv A outer s H vs Q E hr h => ?_), b⟩
  · obtain ⟨z, _, _, _, _, rfl, _⟩ := h
    rfl
  · obtain ⟨y, dx, fs, l, xs, rfl, hy, hl, hx, k⟩ := h
    exact ⟨_, PSs.nox (pss_one (ps_ret (pe_callTy call_list_of rfl (T.free_list) (by decide +kernel) (pa_cons (pe_fldK (K := K) (pv 0)) pa_nil)))), ⟨_, rfl, y, _, dx, _, _, rfl, hy, T.c_Way, T.n_Way_given, hl, l, _, rfl, .inl (SqL.of hx), k⟩⟩
theorem ok_wshown (T : TX K mg) : ∃ fd, OkG P w K mg base 1 a_Way_shown fd p_Way_shown (spGL (He.ga K "Way") "words") := by
  obtain ⟨⟨fd, F⟩, _⟩ := T.p.get 2 (d := d_Way_shown) rfl
  have b : Binds K fd p_Way_shown [] := FunD.bindsN F fun _ _ _ _ _ _ us hl => match us, hl with | [_], _ => rfl
  refine ⟨fd, F.ok sc_Way_shown (fun vs H Q E h => ?_) (fun cdv A outer s H vs Q E hr h => ?_), b⟩
  · obtain ⟨z, _, _, _, _, rfl, _⟩ := h
    rfl
  · obtain ⟨y, dx, fs, l, xs, rfl, hy, hl, hx, k⟩ := h
    exact ⟨_, PSs.nox (pss_one (ps_ret (pe_callTy call_list_of rfl (T.free_list) (by decide +kernel) (pa_cons (pe_fldK (K := K) (pv 0)) pa_nil)))), ⟨_, rfl, y, _, dx, _, _, rfl, hy, T.c_Way, T.n_Way_words, hl, l, _, rfl, .inl (SqL.of hx), k⟩⟩
/-- a way led over notes -/
def spWCall (K : PySem.W.Frag) (S : List Str) : Sp := fun vs H Q _ => ∃ (y n hd : Addr) (g : (Str → Int) → Str → Int) (k : Nat) (W : List Str) (f : Str → Int), vs = [.ref y, .ref n] ∧ WayAt K S H y g k W ∧ NotesA K S H n hd f ∧ ∀ m hd' H', Ex H H' → H m = none → H hd' = none → NotesA K S H' m hd' (g f) → Q (.ref m) H'
theorem ok_wcall (T : TX K mg) (hS : SOk S) : Ok P w K mg base CX0 6 a_Way_call p_Way_call (spWCall K S) := by
  obtain ⟨fd, F⟩ := T.d.def_ 38 (d := d_Way_call) rfl
  obtain ⟨_, O_Change_call⟩ := ok_ccall (P := P) (w := w) (base := base) T hS
  have b : Binds K fd p_Way_call [] := FunD.bindsN F fun _ _ _ _ _ _ us hl => match us, hl with | [_, _], _ => rfl
  refine ⟨fd, F.ok sc_Way_call (fun vs H Q E h => ?_) (fun cdv A outer s H vs Q E hr h => ?_), b, F.kp⟩
  · obtain ⟨z, _, _, _, _, _, _, rfl, _⟩ := h
    rfl
  · obtain ⟨y, n, hd, g, kk, W, f, rfl, ⟨dx, p, c, L, gl, wl, h1, h2, h3, h4, h5, h6⟩, hN, k⟩ := h
    refine ⟨_, PSs.nox (pss_one (ps_ret (pe_fldCall (pv 0) T.call_Change O_Change_call.fn (hr.mono (by decide)) O_Change_call.b pass0 (pa_cons (pv 1) pa_nil)))), ?_⟩
    obtain ⟨dc, tc, g1, _⟩ := id h3
    refine ⟨_, rfl, y, _, dx, _, c, rfl, h1, T.c_Way, T.n_Way_turn, ?_, _, rfl, dc, _, g1, c, n, hd, L, f, rfl, h3, hN, fun m hd' H' e1 e2 e3 e4 => ?_⟩
    · exact (look_next (by decide +kernel)).trans look_here
    · exact k m hd' H' e1 e2 e3 (e4.congr fun s => h4 f s)
def spFnl : Sp := fun vs H Q _ => ∃ (l : Addr) (v : V), vs = [.ref l, v] ∧ H l = some (.lst []) ∧ Q (.int 0) H
theorem ok_fnl (T : TX K mg) : Ok P w K mg base CX0 1 a_first_not_less p_first_not_less spFnl := by
  obtain ⟨fd, F⟩ := T.d.def_ 39 (d := d_first_not_less) rfl
  have b : Binds K fd p_first_not_less [] := FunD.bindsN F fun _ _ _ _ _ _ us hl => match us, hl with | [_, _], _ => rfl
  refine ⟨fd, F.ok sc_first_not_less (fun vs H Q E h => ?_) (fun cdv A outer s H vs Q E hr h => ?_), b, F.kp⟩
  · obtain ⟨z, _, rfl, _⟩ := h
    rfl
  · obtain ⟨l, v, rfl, hl, k⟩ := h
    refine ⟨_, PSs.nox (pss_cons (ps_set (i := 2) sc_first_not_less.nd rfl (Or.inl rfl) pe_int)
      (pss_cons (ps_set (i := 3) sc_first_not_less.nd rfl (Or.inl rfl) (pe_callB call_len rfl (T.free_len) (by decide +kernel) (pa_cons (pv 0) pa_nil)))
      (pss_cons (ps_while PassesOwn.never (pt_cmpR op_lt (pv 2) (pv 3) (nomark _)) pss_never) (pss_one (ps_ret (pv 2)))))), ?_⟩
    refine ⟨_, rfl, _, 0, rfl, .inl ⟨_, SqL.of hl, rfl⟩, ?_⟩
    refine ⟨fun m σ H' => σ = [some (.ref l), some v, some (.int 0), some (.int 0), none] ∧ H' = H, ⟨0, rfl, rfl⟩, ?_⟩
    rintro m σ H' ⟨rfl, rfl⟩
    refine ⟨_, rfl, _, rfl, _, _, rfl, rfl, _, rfl, ite2 (fun z => absurd (of_decide_eq_true z) (by decide)) (fun _ => ?_)⟩
    exact ⟨_, rfl, k⟩
/-- a spot of ways -/
def Sp6 (K : PySem.W.Frag) (S : List Str) (H : Hp) (t p : Addr) (g : (Str → Int) → Str → Int) (k : Nat) (W : List Str) (R : List Stp) : Prop :=
  ∃ c L al wl sl lv, H t = some (.tup [.ref p, .ref c, .ref al, .ref wl, .ref sl, lv]) ∧ PatAt K H p ∧ ChgAt K S H c L ∧ (∀ f s, act L f s = g f s) ∧ H al = some (.lst (List.replicate k (.str "watch"))) ∧ H wl = some (.lst (W.map V.str)) ∧ H sl = some (.lst []) ∧ LeftAt H lv R
theorem Sp6.ex {H H' : Hp} {t p : Addr} {g : (Str → Int) → Str → Int} {k : Nat} {W : List Str} {R : List Stp} (h : Sp6 K S H t p g k W R) (e : Ex H H') : Sp6 K S H' t p g k W R := by
  obtain ⟨c, L, al, wl, sl, lv, h1, h2, h3, h4, h5, h6, h7, h8⟩ := h
  exact ⟨c, L, al, wl, sl, lv, e _ _ h1, h2.ex e, h3.ex e, h4, e _ _ h5, e _ _ h6, e _ _ h7, h8.ex e⟩
theorem off_mem {ws : List Addr} {H : Hp} {b : Addr} {o : HO} (h : off ws H b = some o) : b ∉ ws := fun m => by
  unfold off at h
  rw [if_pos m] at h
  cases h
def spAft (K : PySem.W.Frag) (S : List Str) : Sp := fun vs H Q _ => ∃ (t a p : Addr) (g : (Str → Int) → Str → Int) (k : Nat) (W : List Str) (R : List Stp) (c : Scn) (ws : List Addr), vs = [.ref t, .ref a, .bl false] ∧ Sp6 K S (off ws H) t p g k W R ∧ ScnAt (off ws H) a c ∧ k ≤ 50000 ∧ OwnW ws H ∧
  ∀ q z H', Ex H H' → H q = none → H' q = some (.lst [.ref z]) → Sp6 K S (off ws H') z p g (k + 1) W (c.steps ++ R) → Q (.ref q) H'
theorem ok_aft (T : TX K mg) : Ok P w K mg base CX0 2 a_after_scene p_after_scene (spAft K S) := by
  obtain ⟨fd, F⟩ := T.d.def_ 40 (d := d_after_scene) rfl
  obtain ⟨_, O_ahead⟩ := ok_ahead (P := P) (w := w) (base := base) T
  have b : Binds K fd p_after_scene [] := FunD.bindsN F fun _ _ _ _ _ _ us hl => match us, hl with | [_, _, _], _ => rfl
  refine ⟨fd, F.ok sc_after_scene (fun vs H Q E h => ?_) (fun cdv A outer s H vs Q E hr h => ?_), b, F.kp⟩
  · obtain ⟨z, _, _, _, _, _, _, _, _, rfl, _⟩ := h
    rfl
  · obtain ⟨t, a, p, g, kk, W, R, c, ws, rfl, ⟨cc, L, al, wl, sl, lv, h1, h2, h3, h4, h5, h6, h7, h8⟩, ⟨la, va, g1, g2, g3⟩, hk, ow, k⟩ := h
    refine ⟨_, PSs.nox (pss_cons (ps_asg (pv 0) (pg_tupK (K := K) (n := 6) (pgs_cons (pg_name (i := 3) sc_after_scene.nd rfl (Or.inl rfl)) (pgs_cons (pg_name (i := 4) sc_after_scene.nd rfl (Or.inl rfl)) (pgs_cons (pg_name (i := 5) sc_after_scene.nd rfl (Or.inl rfl)) (pgs_cons (pg_name (i := 6) sc_after_scene.nd rfl (Or.inl rfl)) (pgs_cons (pg_name (i := 7) sc_after_scene.nd rfl (Or.inl rfl)) (pgs_cons (pg_name (i := 8) sc_after_scene.nd rfl (Or.inl rfl)) pgs_nil))))))))
      (pss_cons (ps_set (i := 9) sc_after_scene.nd rfl (Or.inl rfl) (pe_lst (pa_cons (pe_tup (pa_cons (pv 3) (pa_cons (pv 4) (pa_cons (pe_op op_cat (pv 5) (pe_lst (pa_cons pe_str pa_nil))) (pa_cons (pv 6) (pa_cons (pv 7) (pa_cons (pcall O_ahead (hr.mono (by decide)) rfl (T.g_ahead) pass0 (pa_cons (pe_ix (ix_tupK (K := K)) (pv 1) pe_int (fun _ _ => rfl)) (pa_cons (pv 8) pa_nil))) pa_nil))))))) pa_nil)))
      (pss_cons (ps_if (pt_val (pv 2)) pss_never pss_nil) (pss_one (ps_ret (pv 9)))))), ?_⟩
    have h1s := off_sub _ _ _ _ h1
    refine ⟨_, rfl, t, _, rfl, SqT.of h1s, rfl, _, _, rfl, _, _, rfl, _, _, rfl, _, _, rfl, _, _, rfl, _, _, rfl, rfl, ?_⟩
    refine ⟨_, rfl, _, rfl, _, rfl, small (by show 1 ≤ 100000; decide), fun q1 hq1 => ?_⟩
    have e1 := (Ex.refl H).new (o := .lst [.str "watch"]) hq1
    refine ⟨al, q1, _, _, rfl, rfl, e1 _ _ (off_sub _ _ _ _ h5), upd_same, by rw [List.length_replicate]; exact small (by show kk + 1 ≤ 100000; omega), fun q2 hq2 => ?_⟩
    have e2 := e1.new (o := .lst (List.replicate kk (.str "watch") ++ [.str "watch"])) hq2
    have gq2 : (upd (upd H q1 (.lst [.str "watch"])) q2 (.lst (List.replicate kk (.str "watch") ++ [.str "watch"]))) q2 = some (.lst (List.replicate (kk + 1) (.str "watch"))) := by
      rw [upd_same, List.replicate_succ']
    have nq2 := ow.new (e1.back hq2)
    generalize upd (upd H q1 (.lst [.str "watch"])) q2 (.lst (List.replicate kk (.str "watch") ++ [.str "watch"])) = H2 at e2 gq2
    have eo2 := off_ex (ws := ws) e2
    refine ⟨_, rfl, _, rfl, _, rfl, a, _, 1, _, rfl, rfl, SqT.of (off_sub _ _ _ _ (eo2 _ _ g1)), rfl, _, rfl, la, lv, c.steps, R, ws, rfl, g2.ex eo2, h8.ex eo2, ow.ex e2, fun v' H3 e3 hv' => ?_⟩
    refine ⟨small (by show 6 ≤ 100000; decide), fun z hz => ⟨small (by show 1 ≤ 100000; decide), fun q hq => ?_⟩⟩
    have e4 := (Ex.refl H3).new (o := .tup [.ref p, .ref cc, .ref q2, .ref wl, .ref sl, v']) hz
    have gz : (upd H3 z (.tup [.ref p, .ref cc, .ref q2, .ref wl, .ref sl, v'])) z = some (.tup [.ref p, .ref cc, .ref q2, .ref wl, .ref sl, v']) := upd_same
    generalize upd H3 z (.tup [.ref p, .ref cc, .ref q2, .ref wl, .ref sl, v']) = H4 at e4 gz hq
    have e5 := (Ex.refl H4).new (o := .lst [.ref z]) hq
    have e23 := e2.trans e3
    have eT := (e23.trans e4).trans e5
    have eo := off_ex (ws := ws) eT
    refine ⟨_, rfl, _, rfl, ?_⟩
    refine nope ?_
    refine ⟨_, rfl, ?_⟩
    refine k q z _ eT ((e23.trans e4).back hq) upd_same ⟨cc, L, q2, wl, sl, v', off_at (e5 _ _ gz) (ow.new (e23.back hz)), h2.ex eo, h3.ex eo, h4, off_at ((e3.trans (e4.trans e5)) _ _ gq2) nq2, eo _ _ h6, eo _ _ h7, hv'.ex (off_ex (e4.trans e5))⟩
end
end Sk
set_option Elab.async false
set_option linter.all false
set_option maxRecDepth 100000
set_option maxHeartbeats 4000000
namespace Sk
open PySem L2
/-! ### all ways of a scene: one -/
/-- all through R, each scene with a skip watched: the plain steps in order, k questions -/
inductive Run (cs : List Scn) : List Stp → List Stp → Nat → Prop
  | fin {n : Nat} {R as : List Stp} : Adv cs n R as none [] → n ≤ 20000 → Run cs R as 0
  | ask {n k : Nat} {R as as' R' : List Stp} {c : Scn} {i : Nat} : Adv cs n R as (some c) R' → n ≤ 20000 → cs[i]? = some c → Run cs (c.steps ++ R') as' k → Run cs R (as ++ as') (k + 1)
theorem words_app (a b : List Stp) : wordsOf (a ++ b) = wordsOf a ++ wordsOf b := by
  unfold wordsOf
  rw [List.filterMap_append]
theorem doAll_app (a b : List Stp) (f : Str → Int) : doAll (a ++ b) f = doAll b (doAll a f) := by
  unfold doAll
  rw [List.foldl_append]
theorem nk_watch {H : Hp} : ∀ k : Nat, ∃ ks, NKVs H (List.replicate k (.str "watch")) ks ∧ NestedKey.depthAll ks = 0
  | 0 => ⟨[], .nil, rfl⟩
  | k + 1 => by
    obtain ⟨ks, h1, h2⟩ := nk_watch (H := H) k
    refine ⟨.text "watch" :: ks, .cons (.str _) h1, ?_⟩
    show max 0 (NestedKey.depthAll ks) = 0
    rw [h2]
    rfl
theorem Adv.ok {S : List Str} {cs : List Scn} (hcs : ∀ c ∈ cs, StpsOk S cs c.steps) {n : Nat} {R as R' : List Stp} {o : Option Scn} (h : Adv cs n R as o R') : StpsOk S cs R → StpsOk S cs R' := by
  induction h with
  | done => exact fun q => q
  | ask => exact fun q s m => q s (List.mem_cons_of_mem _ m)
  | sho _ ih => exact fun q => ih fun s m => q s (List.mem_cons_of_mem _ m)
  | st _ ih => exact fun q => ih fun s m => q s (List.mem_cons_of_mem _ m)
  | ad _ ih => exact fun q => ih fun s m => q s (List.mem_cons_of_mem _ m)
  | opn hc _ _ ih => exact fun q => ih ((hcs _ (List.mem_of_getElem? hc)).append fun s m => q s (List.mem_cons_of_mem _ m))
section
variable {P : Program} {w : World} {K : PySem.W.Frag} {mg : Str → Option Value} {base : Heap} {S : List Str}
def spWays (K : PySem.W.Frag) (S : List Str) (cs : List Scn) : Sp := fun vs H Q _ => ∃ (s : Addr) (i : Nat) (c : Scn) (as : List Stp) (k : Nat), vs = [.ref s, .str c.name, .bl false] ∧ StoryAt K H s cs ∧ (cs.map Scn.name).Nodup ∧ (∀ c ∈ cs, StpsOk S cs c.steps) ∧ cs[i]? = some c ∧ Run cs c.steps as k ∧ k ≤ 1000 ∧ (wordsOf as).length ≤ 20000 ∧
  ∀ q y H', Ex H H' → H q = none → H' q = some (.lst [.ref y]) → WayAt K S H' y (fun f => doAll as f) k (wordsOf as) → Q (.ref q) H'
theorem ok_ways (T : TX K mg) (hS : SOk S) (cs : List Scn) : ∃ fd, OkD P w K mg base CX0 7 a_ways fd p_ways (spWays K S cs) [.bl false] := by
  obtain ⟨fd, F⟩ := T.d.def_ 41 (d := d_ways) rfl
  obtain ⟨_, O_advance⟩ := ok_adv (P := P) (w := w) (base := base) T hS cs
  obtain ⟨_, O_find_scene⟩ := ok_find (P := P) (w := w) (base := base) T
  obtain ⟨_, O_ahead⟩ := ok_ahead (P := P) (w := w) (base := base) T
  obtain ⟨_, O_after_scene⟩ := ok_aft (P := P) (w := w) (base := base) (S := S) T
  obtain ⟨_, O_first_not_less⟩ := ok_fnl (P := P) (w := w) (base := base) T
  obtain ⟨_, O_Pattern_least⟩ := ok_least (P := P) (w := w) (base := base) T hS
  obtain ⟨_, O_Way_init⟩ := ok_way (P := P) (w := w) (base := base) T
  obtain ⟨_, O_Pattern_init⟩ := ok_pat (P := P) (w := w) (base := base) T
  obtain ⟨_, _, O_Change_init⟩ := ok_chg (P := P) (w := w) (base := base) T hS
  obtain ⟨dsP, hvP, hbP⟩ := O_Pattern_init.d
  obtain ⟨dsC, hvC, hbC⟩ := O_Change_init.d
  have bd : ∃ ds, Vals [V.bl false] ds ∧ Binds K fd p_ways ds := FunD.binds0 (ps := p_ways) F 2 (List.cons_ne_nil _ _) rfl fun D doc pm an cdv ct us ks hl hk => match us, hl, ks, hk with
    | [_, _], _, [_], _ => ⟨_, _, _, _, _, _, rfl, rfl, rfl⟩
  refine ⟨fd, F.ok sc_ways (fun vs H Q E h => ?_) (fun cdv A outer s H vs Q E hr h => ?_), bd, F.kp⟩
  · obtain ⟨z, _, _, _, _, rfl, _⟩ := h
    rfl
  · obtain ⟨st, i, c, as, kk, rfl, hst, hnd, hcs, hci, hrun, hk, hwl, k⟩ := h
    refine ⟨_, PSs.nox (pss_cons (ps_set (i := 3) sc_ways.nd rfl (Or.inl rfl) (pe_lst pa_nil)) (pss_cons (ps_set (i := 4) sc_ways.nd rfl (Or.inl rfl) (pe_lst pa_nil))
      (pss_cons (ps_set (i := 5) sc_ways.nd rfl (Or.inl rfl) pe_dnewK)
      (pss_cons (ps_set (i := 6) sc_ways.nd rfl (Or.inl rfl) (pe_lst (pa_cons (pe_tup (pa_cons (pe_make0 T.mk_Pattern O_Pattern_init.fn (hr.mono (by decide)) rfl (T.g_Pattern) hbP hvP pass0) (pa_cons (pe_make0 T.mk_Change O_Change_init.fn (hr.mono (by decide)) rfl (T.g_Change) hbC hvC pass0) (pa_cons (pe_lst pa_nil) (pa_cons (pe_lst pa_nil) (pa_cons (pe_lst pa_nil) (pa_cons (pcall O_ahead (hr.mono (by decide)) rfl (T.g_ahead) pass0 (pa_cons (pe_ix (ix_tupK (K := K)) (pcall O_find_scene (hr.mono (by decide)) rfl (T.g_find_scene) pass0 (pa_cons (pv 0) (pa_cons (pv 1) pa_nil))) pe_int (fun _ _ => rfl)) (pa_cons pe_non pa_nil))) pa_nil))))))) pa_nil)))
      (pss_cons
      (ps_while PassesOwn.never (pt_cmpR op_gt (pe_callB call_len rfl (T.free_len) (by decide +kernel) (pa_cons (pv 6) pa_nil)) pe_int (nomark _))
      (pss_cons (ps_set (i := 7) sc_ways.nd rfl (Or.inl rfl) (pe_bm0 PySem.F.plainAttrs_list PySem.F.slot_list_pop PySem.F.type_list_pop mt_pop (pv 6)))
      (pss_one
      (ps_for PassesOwn.never rfl (pi_list (pcall O_advance (hr.mono (by decide)) rfl (T.g_advance) pass0 (pa_cons (pv 0) (pa_cons (pe_ix (ix_tupK (K := K)) (pv 7) pe_int (fun _ _ => rfl)) (pa_cons (pe_ix (ix_tupK (K := K)) (pv 7) pe_int (fun _ _ => rfl)) (pa_cons (pe_ix (ix_tupK (K := K)) (pv 7) pe_int (fun _ _ => rfl)) pa_nil)))))) (pg_tupK (K := K) (n := 7) (pgs_cons (pg_name (i := 8) sc_ways.nd rfl (Or.inl rfl)) (pgs_cons (pg_name (i := 9) sc_ways.nd rfl (Or.inl rfl)) (pgs_cons (pg_name (i := 10) sc_ways.nd rfl (Or.inl rfl)) (pgs_cons (pg_name (i := 11) sc_ways.nd rfl (Or.inl rfl)) (pgs_cons (pg_name (i := 12) sc_ways.nd rfl (Or.inl rfl)) (pgs_cons (pg_name (i := 13) sc_ways.nd rfl (Or.inl rfl)) (pgs_cons (pg_name (i := 14) sc_ways.nd rfl (Or.inl rfl)) pgs_nil))))))))
      (pss_cons (ps_set (i := 15) sc_ways.nd rfl (Or.inl rfl) (pe_tup (pa_cons (pv 8) (pa_cons (pv 9) (pa_cons (pe_ix (ix_tupK (K := K)) (pv 7) pe_int (fun _ _ => rfl)) (pa_cons (pe_op op_cat (pe_ix (ix_tupK (K := K)) (pv 7) pe_int (fun _ _ => rfl)) (pv 10)) (pa_cons (pe_op op_cat (pe_ix (ix_tupK (K := K)) (pv 7) pe_int (fun _ _ => rfl)) (pv 11)) (pa_cons (pv 14) pa_nil))))))))
      (pss_cons (ps_set (i := 16) sc_ways.nd rfl (Or.inl rfl) (pe_lst (pa_cons (pv 8) pa_nil))) (C8.pss_cut
      (ps_if (pt_cmpR op_eq (pv 12) pe_str (nomark _)) pss_never (pss_one (ps_if (pt_cmpR op_eq (pv 12) pe_str (nomark _))
      (pss_cons (ps_expr (pe_bm PySem.F.plainAttrs_list PySem.F.slot_list_extend PySem.F.type_list_extend mt_extend (pv 6) (pa_cons (pcall O_after_scene (hr.mono (by decide)) rfl (T.g_after_scene) pass0 (pa_cons (pv 15) (pa_cons (pcall O_find_scene (hr.mono (by decide)) rfl (T.g_find_scene) pass0 (pa_cons (pv 0) (pa_cons (pv 13) pa_nil))) (pa_cons (pv 2) pa_nil)))) pa_nil)))
      (pss_one (ps_set (i := 16) sc_ways.nd rfl (Or.inl rfl) (pe_lst pa_nil)))) pss_nil))) (pss_one
      (ps_for PassesOwn.never rfl (pi_list (pv 16)) (pg_name (i := 18) sc_ways.nd rfl (Or.inl rfl))
      (pss_cons (ps_dputX hr.units (pv 5) (pe_tup (pa_cons (pe_callTy call_tuple_of rfl (T.free_tuple) (by decide +kernel) (pa_cons (pe_ix (ix_tupK (K := K)) (pv 15) pe_int (fun _ _ => rfl)) pa_nil)) (pa_cons (pe_callTy call_tuple_of rfl (T.free_tuple) (by decide +kernel) (pa_cons (pe_ix (ix_tupK (K := K)) (pv 15) pe_int (fun _ _ => rfl)) pa_nil)) pa_nil))) pe_bl)
      (pss_cons
      (ps_if (pt_cmpR op_gt (pe_callB call_lenX rfl (T.free_len) (by decide +kernel) (pa_cons (pv 5) pa_nil)) (pe_glob (v := .int 300) rfl (T.c_MOST_RUNS).choose_spec ⟨_, rfl⟩) (nomark _)) pss_never pss_nil)
      (pss_cons (ps_set (i := 19) sc_ways.nd rfl (Or.inl rfl) (pe_tup (pa_cons (pe_ix (ix_tupK (K := K)) (pv 15) pe_int (fun _ _ => rfl)) (pa_cons (pe_meth0 (pv 18) T.c_Pattern T.m_Pattern_least O_Pattern_least.fn (hr.mono (by decide)) O_Pattern_least.b .nil pass0) pa_nil))))
      (pss_cons (ps_set (i := 20) sc_ways.nd rfl (Or.inl rfl) (pcall O_first_not_less (hr.mono (by decide)) rfl (T.g_first_not_less) pass0 (pa_cons (pv 4) (pa_cons (pv 19) pa_nil))))
      (pss_cons (ps_expr (pe_bm PySem.F.plainAttrs_list PySem.F.slot_list_insert PySem.F.type_list_insert mt_insert (pv 4) (pa_cons (pv 20) (pa_cons (pv 19) pa_nil))))
      (pss_one (ps_expr (pe_bm PySem.F.plainAttrs_list PySem.F.slot_list_insert PySem.F.type_list_insert mt_insert (pv 3) (pa_cons (pv 20) (pa_cons (pmake T.mk_Way O_Way_init (hr.mono (by decide)) rfl (T.g_Way) pass0 (pa_cons (pv 18) (pa_cons (pv 9) (pa_cons (pe_ix (ix_tupK (K := K)) (pv 15) pe_int (fun _ _ => rfl)) (pa_cons (pe_ix (ix_tupK (K := K)) (pv 15) pe_int (fun _ _ => rfl)) (pa_cons (pv 12) pa_nil)))))) pa_nil)))))))))))))))))))
      (pss_one (ps_ret (pv 3)))))))), ?_⟩
    refine ⟨Nat.zero_le _, fun fo hfo => ⟨Nat.zero_le _, fun ke hke => fun ru hru => ?_⟩⟩
    have e1 := (Ex.refl H).new (o := .lst []) hfo
    have gfo : (upd H fo (.lst [])) fo = some (.lst []) := upd_same
    have fke := e1.back hke
    generalize upd H fo (.lst []) = H1 at e1 gfo hke hru
    have nfk : fo ≠ ke := ne_of_none gfo hke
    have e2 := (Ex.refl H1).new (o := .lst []) hke
    have gke : (upd H1 ke (.lst [])) ke = some (.lst []) := upd_same
    have gfo := e2 _ _ gfo
    have e12 := e1.trans e2
    generalize upd H1 ke (.lst []) = H2 at e2 e12 gke gfo hru
    have fru := e12.back hru
    have nfr : fo ≠ ru := ne_of_none gfo hru
    have nkr : ke ≠ ru := ne_of_none gke hru
    have e3 := (Ex.refl H2).new (o := .dK []) hru
    have gru : (upd H2 ru (.dK [])) ru = some (.dK []) := upd_same
    have gfo := e3 _ _ gfo
    have gke := e3 _ _ gke
    have e13 := e12.trans e3
    generalize upd H2 ru (.dK []) = H3 at e3 e13 gru gke gfo
    have ow3 : OwnW [ru, ke, fo] H3 := ((OwnW.nil.cons gfo (fun xs z => by cases z) (fun C dx fs z => by cases z)).cons gke (fun xs z => by cases z) (fun C dx fs z => by cases z)).cons gru (fun xs z => by cases z) (fun C dx fs z => by cases z)
    have enil : Ex H (off [] H) := fun b o q => off_at q List.not_mem_nil
    have eoff : Ex H (off [ru, ke, fo] H) := enil.trans ((off_cons hfo).trans ((off_cons (ws := [fo]) fke).trans (off_cons (ws := [ke, fo]) fru)))
    -- Pattern()
    intro p dp hp hdp hnep
    have m1 : (upd H3 dp (.own p)) p = none := by rw [upd_ne hnep.symm]; exact hp
    have f1 : Ex H3 (upd (upd H3 dp (.own p)) p (.ins (He.ga K "Pattern") dp [])) := ((Ex.refl H3).new hdp).new m1
    refine ⟨p, dp, rfl, upd_same, fun H4 pd k4 hpd P4 => ⟨rfl, ?_⟩⟩
    have e4 : Ex H3 H4 := fun b o q => k4 b o (f1 b o q) (off1 (ne_of_none q hp))
    have npd : pd ∉ [ru, ke, fo] := ow3.new (f1.back hpd)
    -- Change()
    intro cc dc hcc hdc hnec
    have m2 : (upd H4 dc (.own cc)) cc = none := by rw [upd_ne hnec.symm]; exact hcc
    have f2 : Ex H4 (upd (upd H4 dc (.own cc)) cc (.ins (He.ga K "Change") dc [])) := ((Ex.refl H4).new hdc).new m2
    refine ⟨cc, dc, .non, fun _ => none, rfl, upd_same, .inl ⟨rfl, fun _ => rfl⟩, fun H5 L0 k5 C5 hl5 => ⟨rfl, ?_⟩⟩
    have e5 : Ex H4 H5 := fun b o q => k5 b o (f2 b o q) (off1 (ne_of_none q hcc))
    have a0 : ∀ f s, act L0 f s = f s := fun f s => by
      show opA (L0.lookup s) (f s) = f s
      rw [hl5 s]
      rfl
    refine ⟨Nat.zero_le _, fun al hal => ⟨Nat.zero_le _, fun wl hwl2 => ⟨Nat.zero_le _, fun sl hsl => ?_⟩⟩⟩
    have e6 := (Ex.refl H5).new (o := .lst []) hal
    have gal : (upd H5 al (.lst [])) al = some (.lst []) := upd_same
    generalize upd H5 al (.lst []) = H6 at e6 gal hwl2 hsl
    have e7 := (Ex.refl H6).new (o := .lst []) hwl2
    have gwl : (upd H6 wl (.lst [])) wl = some (.lst []) := upd_same
    generalize upd H6 wl (.lst []) = H7 at e7 gwl hsl
    have e8 := (Ex.refl H7).new (o := .lst []) hsl
    have gsl : (upd H7 sl (.lst [])) sl = some (.lst []) := upd_same
    generalize upd H7 sl (.lst []) = H8 at e8 gsl
    have e35 := e4.trans e5
    have nal := (ow3.ex e35).new hal
    have nwl := (ow3.ex (e35.trans e6)).new hwl2
    have nsl := (ow3.ex (e35.trans (e6.trans e7))).new hsl
    have e38 := e35.trans (e6.trans (e7.trans e8))
    have ow8 := ow3.ex e38
    have eo8 : Ex H (off [ru, ke, fo] H8) := eoff.trans (off_ex (e13.trans e38))
    refine ⟨_, rfl, _, rfl, st, cs, i, c, off [ru, ke, fo] H8, rfl, hst.ex eo8, hnd, hci, off_sub _ _, fun a ha => ?_⟩
    obtain ⟨la, va, ha1, ha2, ha3⟩ := ha
    refine ⟨a, _, 1, _, rfl, rfl, SqT.of (off_sub _ _ _ _ ha1), rfl, la, .non, c.steps, [], [ru, ke, fo], rfl, ha2, .nil, ow8, fun lv H9 e9 hlv => ?_⟩
    rw [List.append_nil] at hlv
    refine ⟨small (by show 6 ≤ 100000; decide), fun t ht => ⟨small (by show 1 ≤ 100000; decide), fun pi hpi => ?_⟩⟩
    have ow9 := ow8.ex e9
    have e10 := (Ex.refl H9).new (o := .tup [.ref p, .ref cc, .ref al, .ref wl, .ref sl, lv]) ht
    have gt : (upd H9 t (.tup [.ref p, .ref cc, .ref al, .ref wl, .ref sl, lv])) t = some (.tup [.ref p, .ref cc, .ref al, .ref wl, .ref sl, lv]) := upd_same
    generalize upd H9 t (.tup [.ref p, .ref cc, .ref al, .ref wl, .ref sl, lv]) = H10 at e10 gt hpi
    have e11 := (Ex.refl H10).new (o := .lst [.ref t]) hpi
    have gpi : (upd H10 pi (.lst [.ref t])) pi = some (.lst [.ref t]) := upd_same
    have e310 := (e38.trans e9).trans e10
    have ow10 := ow3.ex e310
    have npi := ow10.new hpi
    have fpi : H pi = none := (e13.trans e310).back hpi
    have eoc : Ex (off [ru, ke, fo] H10) (off (pi :: [ru, ke, fo]) H10) := off_cons hpi
    have eo11 : Ex H (off (pi :: [ru, ke, fo]) (upd H10 pi (.lst [.ref t]))) := (eoff.trans (off_ex (e13.trans e310))).trans (eoc.trans (off_ex e11))
    have x9 : Ex (off [ru, ke, fo] H9) (off (pi :: [ru, ke, fo]) (upd H10 pi (.lst [.ref t]))) := (off_ex e10).trans (eoc.trans (off_ex e11))
    have x4 : Ex (off [ru, ke, fo] H4) (off (pi :: [ru, ke, fo]) (upd H10 pi (.lst [.ref t]))) := (off_ex (e5.trans (e6.trans (e7.trans (e8.trans e9))))).trans x9
    have x8 : Ex (off [ru, ke, fo] H8) (off (pi :: [ru, ke, fo]) (upd H10 pi (.lst [.ref t]))) := (off_ex e9).trans x9
    have ow4 := ow3.ex e4
    have P11 : PatAt K (off (pi :: [ru, ke, fo]) (upd H10 pi (.lst [.ref t]))) p := by
      obtain ⟨dx, tt, y1, y2, y3⟩ := P4
      exact PatAt.ex ⟨dx, pd, tt, off_at y1 (ow4.ins y1), off_at y2 npd, off_at y3 (ow4.tup y3)⟩ x4
    have sp11 : Sp6 K S (off (pi :: [ru, ke, fo]) (upd H10 pi (.lst [.ref t]))) t p (fun f => f) 0 [] c.steps :=
      ⟨cc, L0, al, wl, sl, lv, (eoc.trans (off_ex e11)) _ _ (off_at gt (ow10.tup gt)), P11, (C5.off (ow3.ex e35)).ex ((off_ex (e6.trans (e7.trans e8))).trans x8), a0, x8 _ _ (off_at (e8 _ _ (e7 _ _ gal)) nal), x8 _ _ (off_at (e8 _ _ gwl) nwl), x8 _ _ (off_at gsl nsl), hlv.ex x9⟩
    have gfo := (e310.trans e11) _ _ gfo
    have gke := (e310.trans e11) _ _ gke
    have gru := (e310.trans e11) _ _ gru
    have eH11 := (e13.trans e310).trans e11
    have ow11 : OwnW (pi :: [ru, ke, fo]) (upd H10 pi (.lst [.ref t])) := (ow10.ex e11).cons gpi (fun xs z => by cases z) (fun C dx fs z => by cases z)
    generalize upd H10 pi (.lst [.ref t]) = H11 at e11 gpi eo11 x9 x4 x8 P11 sp11 gfo gke gru eH11 ow11
    have st11 := hst.ex eo11
    have npf : pi ≠ fo := fun z => npi (by rw [z]; exact List.mem_cons_of_mem _ (List.mem_cons_of_mem _ (on1 fo)))
    have npk : pi ≠ ke := fun z => npi (by rw [z]; exact List.mem_cons_of_mem _ List.mem_cons_self)
    have npr : pi ≠ ru := fun z => npi (by rw [z]; exact List.mem_cons_self)
    have mpi : pi ∈ pi :: [ru, ke, fo] := List.mem_cons_self
    have mru : ru ∈ pi :: [ru, ke, fo] := List.mem_cons_of_mem _ List.mem_cons_self
    have mke : ke ∈ pi :: [ru, ke, fo] := List.mem_cons_of_mem _ (List.mem_cons_of_mem _ List.mem_cons_self)
    have mfo : fo ∈ pi :: [ru, ke, fo] := List.mem_cons_of_mem _ (List.mem_cons_of_mem _ (List.mem_cons_of_mem _ (on1 fo)))
    have hHW : ∀ b o, H b = some o → b ∉ pi :: [ru, ke, fo] := fun b o y m => by
      simp only [List.mem_cons, List.not_mem_nil, or_false] at m
      rcases m with m | m | m | m
      · exact ne_of_none y fpi m
      · exact ne_of_none y fru m
      · exact ne_of_none y fke m
      · exact ne_of_none y hfo m
    have okc : StpsOk S cs c.steps := hcs c (List.mem_of_getElem? hci)
    generalize pi :: [ru, ke, fo] = W at eo11 x9 x4 x8 P11 sp11 ow11 st11 mpi mru mke mfo hHW eoc
    -- what holds ahead of a turn; m turns are left
    have INV : ∃ INV : Nat → Hp → Prop, ∀ m H', INV m H' ↔ (Kp W H11 H' ∧ OwnW W H' ∧
        ((∃ (k1 : Nat) (R as1 : List Stp) (g1 : (Str → Int) → Str → Int) (W1 : List Str) (t1 : Addr), m = k1 + 1 ∧ H' pi = some (.lst [.ref t1]) ∧ H' fo = some (.lst []) ∧ H' ke = some (.lst []) ∧ H' ru = some (.dK []) ∧ Sp6 K S (off W H') t1 p g1 (kk - k1) W1 R ∧ StpsOk S cs R ∧ Run cs R as1 k1 ∧ k1 ≤ kk ∧ W1 ++ wordsOf as1 = wordsOf as ∧ ∀ f, doAll as1 (g1 f) = doAll as f) ∨
          (m = 0 ∧ H' pi = some (.lst []) ∧ ∃ y, H' fo = some (.lst [.ref y]) ∧ WayAt K S H' y (fun f => doAll as f) kk (wordsOf as)))) := ⟨_, fun m H' => Iff.rfl⟩
    obtain ⟨INV, hINV⟩ := INV
    have i0 : INV (kk + 1) H11 := (hINV _ _).mpr ⟨Kp.refl _ _, ow11, .inl ⟨kk, c.steps, as, fun f => f, [], t, rfl, gpi, gfo, gke, gru, by rw [Nat.sub_self]; exact sp11, okc, hrun, Nat.le_refl _, rfl, fun f => rfl⟩⟩
    refine ⟨fun m σ H' => (∃ v7 v8 v9 v10 v11 v12 v13 v14 v15 v16 v17 v18 v19 v20 : Option V, σ = [some (.ref st), some (.str c.name), some (.bl false), some (.ref fo), some (.ref ke), some (.ref ru), some (.ref pi), v7, v8, v9, v10, v11, v12, v13, v14, v15, v16, v17, v18, v19, v20]) ∧ INV m H',
      ⟨kk + 1, ⟨_, _, _, _, _, _, _, _, _, _, _, _, _, _, rfl⟩, i0⟩, ?_⟩
    rintro m σ H12 ⟨⟨v7, v8, v9, v10, v11, v12, v13, v14, v15, v16, v17, v18, v19, v20, rfl⟩, hm⟩
    obtain ⟨k12, o12, hm⟩ := (hINV _ _).mp hm
    rcases hm with ⟨k1, R, as1, g1, W1, t1, rfl, q1, q2, q3, q4, q5, q6, q7, q8, q9, q10⟩ | ⟨rfl, q1, y, q2, q3⟩
    · refine ⟨_, rfl, _, 1, rfl, .inl ⟨_, SqL.of q1, rfl⟩, _, _, rfl, rfl, _, rfl, ite2 (fun _ => ?_) (fun z => absurd (decide_eq_true (by decide)) z)⟩
      refine ⟨fun σ H' => ∃ m', m' < k1 + 1 ∧ (∃ v7 v8 v9 v10 v11 v12 v13 v14 v15 v16 v17 v18 v19 v20 : Option V, σ = [some (.ref st), some (.str c.name), some (.bl false), some (.ref fo), some (.ref ke), some (.ref ru), some (.ref pi), v7, v8, v9, v10, v11, v12, v13, v14, v15, v16, v17, v18, v19, v20]) ∧ INV m' H', fun σ' H' q => q, ?_⟩
      refine ⟨_, rfl, .inl ⟨rfl, _, SqL.of q1⟩, pi, _, .ref t1, rfl, rfl, q1, rfl, ?_⟩
      have k13 : Kp W H11 (upd H12 pi (.lst [])) := k12.upd mpi
      have o13 : OwnW W (upd H12 pi (.lst [])) := o12.upd (fun xs z => by cases z) (fun C dx fs z => by cases z)
      have x13 : Ex (off W H12) (off W (upd H12 pi (.lst []))) := off_upd mpi
      have p13 : (upd H12 pi (.lst [])) pi = some (.lst []) := upd_same
      have f13 : (upd H12 pi (.lst [])) fo = some (.lst []) := by rw [upd_ne npf.symm]; exact q2
      have ke13 : (upd H12 pi (.lst [])) ke = some (.lst []) := by rw [upd_ne npk.symm]; exact q3
      have r13 : (upd H12 pi (.lst [])) ru = some (.dK []) := by rw [upd_ne npr.symm]; exact q4
      have s13 := q5.ex x13
      have e13' : ([V.ref t1] : List V).dropLast = [] := rfl
      rw [e13']
      generalize upd H12 pi (.lst []) = H13 at k13 o13 x13 p13 f13 ke13 r13 s13
      have st13 := st11.ex (off_kp k13)
      obtain ⟨c1, L1, al1, wl1, sl1, lv1, y1, y2, y3, y4, y5, y6, y7, y8⟩ := s13
      have y1s := off_sub _ _ _ _ y1
      -- the walk
      have hadv : ∃ (n : Nat) (as' R' : List Stp) (o : Option Scn), Adv cs n R as' o R' ∧ n ≤ 20000 ∧ ((o = none ∧ R' = [] ∧ as1 = as' ∧ k1 = 0) ∨ (∃ (c' : Scn) (i' : Nat) (as2 : List Stp) (k2 : Nat), o = some c' ∧ cs[i']? = some c' ∧ Run cs (c'.steps ++ R') as2 k2 ∧ as1 = as' ++ as2 ∧ k1 = k2 + 1)) := by
        cases q7 with
        | fin hA hn => exact ⟨_, _, _, _, hA, hn, .inl ⟨rfl, rfl, rfl, rfl⟩⟩
        | ask hA hn hc hR => exact ⟨_, _, _, _, hA, hn, .inr ⟨_, _, _, _, rfl, hc, hR, rfl, rfl⟩⟩
      obtain ⟨n, as', R', o, hA, hn, hcase⟩ := hadv
      refine ⟨_, rfl, _, rfl, t1, _, 0, _, rfl, rfl, SqT.of y1s, rfl, _, rfl, t1, _, 1, _, rfl, rfl, SqT.of y1s, rfl, _, rfl, t1, _, 5, _, rfl, rfl, SqT.of y1s, rfl, ?_⟩
      refine ⟨st, p, c1, lv1, L1, g1, n, R, as', R', o, W, rfl, st13, hnd, hcs, y2, y3, y4, y8, q6, hA, hn, o13, fun q z H14 e14 hq hq14 fin => ⟨q, rfl, ⟨_, SqL.of hq14⟩, ?_⟩⟩
      have fin := fin.ex off_less
      refine for_it (walk_list (K := K) (a := q) (xs := [.ref z])) (fun i σ' H' => ((i = 0 ∧ ∃ v8 v9 v10 v11 v12 v13 v14 v15 v16 v17 v18 v19 v20 : Option V, σ' = [some (.ref st), some (.str c.name), some (.bl false), some (.ref fo), some (.ref ke), some (.ref ru), some (.ref pi), some (.ref t1), v8, v9, v10, v11, v12, v13, v14, v15, v16, v17, v18, v19, v20] ∧ H' = H14) ∨
          (i = 1 ∧ H' q = some (.lst [.ref z]) ∧ ∃ m', m' < k1 + 1 ∧ (∃ v7 v8 v9 v10 v11 v12 v13 v14 v15 v16 v17 v18 v19 v20 : Option V, σ' = [some (.ref st), some (.str c.name), some (.bl false), some (.ref fo), some (.ref ke), some (.ref ru), some (.ref pi), v7, v8, v9, v10, v11, v12, v13, v14, v15, v16, v17, v18, v19, v20]) ∧ INV m' H')))
        (.inl ⟨rfl, _, _, _, _, _, _, _, _, _, _, _, _, _, rfl, rfl⟩) (fun i σ' H' _ y => ?_) ?_ ?_
      · rcases y with ⟨_, _, _, _, _, _, _, _, _, _, _, _, _, _, _, y⟩ | ⟨_, y, _⟩
        · rw [y]
          exact SqL.of hq14
        · exact SqL.of y
      · rintro i2 x σ' H15 H16 hi2 hh ⟨rfl, hx⟩
        have i0 : i2 = 0 := by
          have : i2 < 1 := hi2
          omega
        subst i0
        rcases hh with ⟨_, u8, u9, u10, u11, u12, u13, u14, u15, u16, u17, u18, u19, u20, rfl, hH⟩ | ⟨y, _⟩
        · cases Option.some.inj hx
          rw [hH]
          clear hH
          have k14 := k13.ex e14
          have o14 := o13.ex e14
          have p14 := e14 _ _ p13
          have f14 := e14 _ _ f13
          have ke14 := e14 _ _ ke13
          have r14 := e14 _ _ r13
          have y1t := e14 _ _ y1s
          have x14 : Ex (off W H13) (off W H14) := off_ex e14
          have st14 := st13.ex x14
          obtain ⟨c2, wl2, sl2, lv2, L2, z1, z2, z3, z4, z5, z6, z7⟩ := fin
          have z1s := off_sub _ _ _ _ z1
          have hw1 := off_sub _ _ _ _ (x14 _ _ y6)
          have hw2 := off_sub _ _ _ _ z5
          have hs1 := off_sub _ _ _ _ (x14 _ _ y7)
          have hs2 := off_sub _ _ _ _ z6
          have hal := off_sub _ _ _ _ (x14 _ _ y5)
          have hlen : W1.length + (wordsOf as').length ≤ 20000 := by
            have q := congrArg List.length q9
            rw [List.length_append] at q
            have q' : (wordsOf as').length ≤ (wordsOf as1).length := by
              rcases hcase with ⟨_, _, e, _⟩ | ⟨_, _, as2, _, _, _, _, e, _⟩
              · rw [e]
                exact Nat.le_refl _
              · rw [e, words_app, List.length_append]
                exact Nat.le_add_right _ _
            omega
          refine ⟨z, _, rfl, SqT.of z1s, rfl, _, _, rfl, _, _, rfl, _, _, rfl, _, _, rfl, _, _, rfl, _, _, rfl, _, _, rfl, rfl, ?_⟩
          refine ⟨_, rfl, _, rfl, _, rfl, t1, _, 2, _, rfl, rfl, SqT.of y1t, rfl, _, rfl, t1, _, 3, _, rfl, rfl, SqT.of y1t, rfl, _, rfl, wl1, wl2, _, _, rfl, rfl, hw1, hw2, (by rw [List.length_map, List.length_map, List.nil_append]; exact small (by omega)), fun wq hwq => ?_⟩
          have e15 := (Ex.refl H14).new (o := .lst (W1.map V.str ++ ([] ++ wordsOf as').map V.str)) hwq
          have gwq : (upd H14 wq (.lst (W1.map V.str ++ ([] ++ wordsOf as').map V.str))) wq = some (.lst ((W1 ++ wordsOf as').map V.str)) := by
            rw [upd_same, List.nil_append, List.map_append]
          have nwq := o14.new hwq
          generalize upd H14 wq (.lst (W1.map V.str ++ ([] ++ wordsOf as').map V.str)) = H15' at e15 gwq
          refine ⟨_, rfl, t1, _, 4, _, rfl, rfl, SqT.of (e15 _ _ y1t), rfl, _, rfl, sl1, sl2, _, _, rfl, rfl, e15 _ _ hs1, e15 _ _ hs2, (by show 0 + 0 ≤ sizeLine; exact small (by decide)), fun sq hsq => ?_⟩
          have e16 := (Ex.refl H15').new (o := .lst ([] ++ [])) hsq
          have gsq : (upd H15' sq (.lst ([] ++ []))) sq = some (.lst []) := upd_same
          have nsq := (o14.ex e15).new hsq
          generalize upd H15' sq (.lst ([] ++ [])) = H16' at e16 gsq
          refine ⟨_, rfl, small (by show 6 ≤ 100000; decide), fun he hhe => ?_⟩
          have e17 := (Ex.refl H16').new (o := .tup [.ref p, .ref c2, .ref al1, .ref wq, .ref sq, lv2]) hhe
          have ghe : (upd H16' he (.tup [.ref p, .ref c2, .ref al1, .ref wq, .ref sq, lv2])) he = some (.tup [.ref p, .ref c2, .ref al1, .ref wq, .ref sq, lv2]) := upd_same
          generalize upd H16' he (.tup [.ref p, .ref c2, .ref al1, .ref wq, .ref sq, lv2]) = H17 at e17 ghe
          refine ⟨_, rfl, small (by show 1 ≤ 100000; decide), fun bx hbx => ?_⟩
          have e18 := (Ex.refl H17).new (o := .lst [.ref p]) hbx
          have gbx : (upd H17 bx (.lst [.ref p])) bx = some (.lst [.ref p]) := upd_same
          have ghe := e18 _ _ ghe
          have gsq := (e17.trans e18) _ _ gsq
          have gwq := (e16.trans (e17.trans e18)) _ _ gwq
          have e48 := e15.trans (e16.trans (e17.trans e18))
          have o17 := o14.ex (e15.trans (e16.trans e17))
          have nbx := o17.new hbx
          generalize upd H17 bx (.lst [.ref p]) = H18 at e18 gbx ghe gsq gwq e48
          have k18 := k14.ex e48
          have o18 := o14.ex e48
          have x18 : Ex (off W H14) (off W H18) := off_ex e48
          have p18 := e48 _ _ p14
          have f18 := e48 _ _ f14
          have ke18 := e48 _ _ ke14
          have r18 := e48 _ _ r14
          have q18 := e48 _ _ hq14
          have nqp : q ≠ pi := fun y => by
            rw [y] at hq
            exact nomatch hq.symm.trans p13
          have nqf : q ≠ fo := fun y => by
            rw [y] at hq
            exact nomatch hq.symm.trans f13
          have nqk : q ≠ ke := fun y => by
            rw [y] at hq
            exact nomatch hq.symm.trans ke13
          have nqr : q ≠ ru := fun y => by
            rw [y] at hq
            exact nomatch hq.symm.trans r13
          have gA : ∀ f s, act L2 f s = (fun f => doAll as' (g1 f)) f s := z4
          refine ⟨fun σ H' => ∃ bx' u17 : Option V, σ = [some (.ref st), some (.str c.name), some (.bl false), some (.ref fo), some (.ref ke), some (.ref ru), some (.ref pi), some (.ref t1), some (.ref p), some (.ref c2), some (.ref wl2), some (.ref sl2), some (.str (howS o)), some (whatV o), some lv2, some (.ref he), bx', u17, u18, u19, u20] ∧ H' q = some (.lst [.ref z]) ∧
              ((o = none ∧ bx' = some (.ref bx) ∧ H' = H18) ∨ (∃ b, bx' = some (.ref b) ∧ H' b = some (.lst []) ∧ ∃ m', m' < k1 + 1 ∧ INV m' H')), ?_, ?_⟩
          · refine ⟨_, rfl, rfl, _, rfl, ?_⟩
            rcases hcase with ⟨rfl, rfl, _, _⟩ | ⟨c', i', as2, k2, rfl, hc', hR, has, hk1⟩
            · refine ite2 (fun c => absurd (of_decide_eq_true c) (by decide +kernel)) (fun _ => ?_)
              refine ⟨_, rfl, rfl, _, rfl, ?_⟩
              refine ite2 (fun c => absurd (of_decide_eq_true c) (by decide +kernel)) (fun _ => ?_)
              exact ⟨_, _, rfl, q18, .inl ⟨rfl, rfl, rfl⟩⟩
            · refine ite2 (fun y => absurd (of_decide_eq_true y) (show ¬ (V.str "skip" = V.str "choose") by decide +kernel)) (fun _ => ?_)
              refine ⟨_, rfl, rfl, _, rfl, ?_⟩
              refine ite2 (fun _ => ?_) (fun y => absurd (decide_eq_true rfl) y)
              have sp18 : Sp6 K S (off W H18) he p (fun f => doAll as' (g1 f)) (kk - k1) (W1 ++ wordsOf as') R' :=
                ⟨c2, L2, al1, wq, sq, lv2, off_at ghe (o18.tup ghe), z2.ex x18, z3.ex x18, gA, (x14.trans x18) _ _ y5, off_at gwq nwq, off_at gsq nsq, z7.ex x18⟩
              refine ⟨_, rfl, .inl ⟨rfl, _, SqL.of p18⟩, ?_⟩
              refine ⟨_, rfl, _, rfl, _, rfl, st, cs, i', c', off W H18, rfl, st14.ex x18, hnd, hc', off_sub _ _, fun a' ha' => ?_⟩
              refine ⟨_, rfl, he, a', p, _, kk - k1, _, R', c', W, rfl, sp18, ha', by omega, o18, fun q2 zz H19 e19 hq2 hq19 sp19 => ?_⟩
              have p19 := e19 _ _ p18
              refine ⟨pi, q2, _, _, rfl, rfl, p19, hq19, (by show 0 + 1 ≤ sizeLine; exact small (by decide)), ?_⟩
              have k20 : Kp W H11 (upd H19 pi (.lst ([] ++ [.ref zz]))) := (k18.ex e19).upd mpi
              have o20 : OwnW W (upd H19 pi (.lst ([] ++ [.ref zz]))) := (o18.ex e19).upd (fun xs z => by cases z) (fun C dx fs z => by cases z)
              have x20 : Ex (off W H19) (off W (upd H19 pi (.lst ([] ++ [.ref zz])))) := off_upd mpi
              have p20 : (upd H19 pi (.lst ([] ++ [.ref zz]))) pi = some (.lst [.ref zz]) := upd_same
              have f20 : (upd H19 pi (.lst ([] ++ [.ref zz]))) fo = some (.lst []) := by rw [upd_ne npf.symm]; exact e19 _ _ f18
              have ke20 : (upd H19 pi (.lst ([] ++ [.ref zz]))) ke = some (.lst []) := by rw [upd_ne npk.symm]; exact e19 _ _ ke18
              have r20 : (upd H19 pi (.lst ([] ++ [.ref zz]))) ru = some (.dK []) := by rw [upd_ne npr.symm]; exact e19 _ _ r18
              have q20 : (upd H19 pi (.lst ([] ++ [.ref zz]))) q = some (.lst [.ref z]) := by rw [upd_ne nqp]; exact e19 _ _ q18
              have sp20 := sp19.ex x20
              generalize upd H19 pi (.lst ([] ++ [.ref zz])) = H20 at k20 o20 x20 p20 f20 ke20 r20 q20 sp20
              refine ⟨Nat.zero_le _, fun b2 hb2 => ?_⟩
              have e21 := (Ex.refl H20).new (o := .lst []) hb2
              refine ⟨_, _, rfl, e21 _ _ q20, .inr ⟨b2, rfl, upd_same, k2 + 1, by omega, (hINV _ _).mpr ⟨k20.ex e21, o20.ex e21, .inl ⟨k2, c'.steps ++ R', as2, fun f => doAll as' (g1 f), W1 ++ wordsOf as', zz, rfl, e21 _ _ p20, e21 _ _ f20, e21 _ _ ke20, e21 _ _ r20, ?_, ?_, hR, by omega, ?_, fun f => ?_⟩⟩⟩⟩
              · have ek : kk - k2 = kk - k1 + 1 := by omega
                rw [ek]
                exact sp20.ex (off_ex e21)
              · exact (hcs _ (List.mem_of_getElem? hc')).append (hA.ok hcs q6)
              · rw [List.append_assoc, ← words_app, ← has]
                exact q9
              · show doAll as2 (doAll as' (g1 f)) = _
                rw [← doAll_app, ← has]
                exact q10 f
          · rintro σ H19 ⟨bx', u17, rfl, q19, ⟨hon, rfl, hH⟩ | ⟨b2, rfl, hb2, m', hm', hi'⟩⟩
            · rcases hcase with ⟨_, hR', has, hk1⟩ | ⟨_, _, _, _, h, _⟩
              · rw [hH]
                clear hH q19
                refine ⟨_, rfl, bx, rfl, ⟨_, SqL.of gbx⟩, ?_⟩
                refine for_it (walk_list (K := K) (a := bx) (xs := [.ref p])) (fun j σ' H' => ((j = 0 ∧ σ' = [some (.ref st), some (.str c.name), some (.bl false), some (.ref fo), some (.ref ke), some (.ref ru), some (.ref pi), some (.ref t1), some (.ref p), some (.ref c2), some (.ref wl2), some (.ref sl2), some (.str (howS o)), some (whatV o), some lv2, some (.ref he), some (.ref bx), u17, u18, u19, u20] ∧ H' = H18) ∨
                    (j = 1 ∧ H' bx = some (.lst [.ref p]) ∧ H' q = some (.lst [.ref z]) ∧ (∃ v7 v8 v9 v10 v11 v12 v13 v14 v15 v16 v17 v18 v19 v20 : Option V, σ' = [some (.ref st), some (.str c.name), some (.bl false), some (.ref fo), some (.ref ke), some (.ref ru), some (.ref pi), v7, v8, v9, v10, v11, v12, v13, v14, v15, v16, v17, v18, v19, v20]) ∧ INV 0 H')))
                  (.inl ⟨rfl, rfl, rfl⟩) (fun j σ' H' _ y => ?_) ?_ ?_
                · rcases y with ⟨_, _, y⟩ | ⟨_, y, _⟩
                  · rw [y]
                    exact SqL.of gbx
                  · exact SqL.of y
                · rintro j x σ' H20 H21 hj hh ⟨rfl, hx⟩
                  have j0 : j = 0 := by
                    have : j < 1 := hj
                    omega
                  subst j0
                  rcases hh with ⟨_, rfl, hH⟩ | ⟨y, _⟩
                  · cases Option.some.inj hx
                    rw [hH]
                    clear hH
                    -- runs[..] = True
                    have hal18 := e48 _ _ hal
                    refine ⟨_, rfl, _, rfl, he, _, 2, _, rfl, rfl, SqT.of ghe, rfl, al1, _, rfl, .inl ⟨SqL.of hal18, fun t2 ht2 => ?_⟩⟩
                    have h1 := (Ex.refl H18).new (o := .tup (List.replicate (kk - k1) (.str "watch"))) ht2
                    have gt2 : (upd H18 t2 (.tup (List.replicate (kk - k1) (.str "watch")))) t2 = some (.tup (List.replicate (kk - k1) (.str "watch"))) := upd_same
                    generalize upd H18 t2 (.tup (List.replicate (kk - k1) (.str "watch"))) = G1 at h1 gt2
                    refine ⟨_, rfl, he, _, 4, _, rfl, rfl, SqT.of (h1 _ _ ghe), rfl, sq, _, rfl, .inl ⟨SqL.of (h1 _ _ gsq), fun t3 ht3 => ⟨small (by show 2 ≤ 100000; decide), fun t4 ht4 => ?_⟩⟩⟩
                    have h2 := (Ex.refl G1).new (o := .tup []) ht3
                    have gt3 : (upd G1 t3 (.tup [])) t3 = some (.tup []) := upd_same
                    generalize upd G1 t3 (.tup []) = G2 at h2 gt3 ht4
                    have h3 := (Ex.refl G2).new (o := .tup [.ref t2, .ref t3]) ht4
                    have gt4 : (upd G2 t4 (.tup [.ref t2, .ref t3])) t4 = some (.tup [.ref t2, .ref t3]) := upd_same
                    generalize upd G2 t4 (.tup [.ref t2, .ref t3]) = G3 at h3 gt4
                    have h13 := h1.trans (h2.trans h3)
                    obtain ⟨ks, nk, dk⟩ := nk_watch (H := G3) (kk - k1)
                    refine ⟨ru, t4, .tup [.tup ks, .tup []], rfl, rfl, h13 _ _ r18, .tup gt4 (.cons (.tup ((h2.trans h3) _ _ gt2) nk) (.cons (.tup (h3 _ _ gt3) .nil) .nil)), ?_, ?_⟩
                    · show max (NestedKey.depthAll ks + 1) (max (0 + 1) 0) + 1 ≤ 8
                      rw [dk]
                      decide
                    have k4 : Kp W H11 (upd G3 ru (LenD 1 ru)) := (k18.ex h13).upd mru
                    have o4 : OwnW W (upd G3 ru (LenD 1 ru)) := (o18.ex h13).upd (fun xs z => by cases z) (fun C dx fs z => by cases z)
                    have x4' : Ex (off W H18) (off W (upd G3 ru (LenD 1 ru))) := (off_ex h13).trans (off_upd mru)
                    have r4 : (upd G3 ru (LenD 1 ru)) ru = some (LenD 1 ru) := upd_same
                    have p4 : (upd G3 ru (LenD 1 ru)) pi = some (.lst []) := by rw [upd_ne npr]; exact h13 _ _ p18
                    have f4 : (upd G3 ru (LenD 1 ru)) fo = some (.lst []) := by rw [upd_ne nfr]; exact h13 _ _ f18
                    have ke4 : (upd G3 ru (LenD 1 ru)) ke = some (.lst []) := by rw [upd_ne nkr]; exact h13 _ _ ke18
                    have q4' : (upd G3 ru (LenD 1 ru)) q = some (.lst [.ref z]) := by rw [upd_ne nqr]; exact h13 _ _ q18
                    have b4 : (upd G3 ru (LenD 1 ru)) bx = some (.lst [.ref p]) := by rw [upd_ne (fun y => nbx (by rw [y]; exact mru))]; exact h13 _ _ gbx
                    have he4 : off W (upd G3 ru (LenD 1 ru)) he = some (.tup [.ref p, .ref c2, .ref al1, .ref wq, .ref sq, lv2]) := x4' _ _ (off_at ghe (o18.tup ghe))
                    have al4 := (x14.trans (x18.trans x4')) _ _ y5
                    have wq4 := x4' _ _ (off_at gwq nwq)
                    have P4' := z2.ex (x18.trans x4')
                    have C4 := z3.ex (x18.trans x4')
                    generalize upd G3 ru (LenD 1 ru) = G4 at k4 o4 x4' r4 p4 f4 ke4 q4' b4 he4 al4 wq4 P4' C4
                    refine ⟨_, rfl, ru, 1, rfl, .inr ⟨by decide, r4⟩, _, _, rfl, rfl, _, rfl, ite2 (fun y => absurd (of_decide_eq_true y) (by decide)) (fun _ => ?_)⟩
                    -- key
                    have sub4 := off_sub W G4
                    obtain ⟨dpp, ddd, dtt, hp1, hp2, hp3⟩ := P4'.ex sub4
                    refine ⟨_, rfl, he, _, 2, _, rfl, rfl, SqT.of (sub4 _ _ he4), rfl, _, rfl, p, dpp, _, rfl, hp1, look_least _ _, p, rfl, P4'.ex sub4, fun mm hd G5 h5 hmm N5 => ⟨small (by show 2 ≤ 100000; decide), fun ky hky => ?_⟩⟩
                    have h6 := h5.new (o := .tup [.ref al1, .ref mm]) hky
                    generalize upd G5 ky (.tup [.ref al1, .ref mm]) = G6 at h6
                    refine ⟨_, rfl, _, rfl, ke, _, rfl, h6 _ _ ke4, ?_⟩
                    -- keys.insert, found.insert
                    refine ⟨_, rfl, .inl ⟨rfl, _, SqL.of (h6 _ _ ke4)⟩, _, rfl, _, rfl, ke, _, 0, _, rfl, rfl, h6 _ _ ke4, (by show 0 < sizeLine; exact small' (by decide)), by decide, by decide, ?_⟩
                    have k7 := (k4.ex h6).upd (o := .lst (([] : List V).take (0 : Int).toNat ++ [.ref ky] ++ ([] : List V).drop (0 : Int).toNat)) mke
                    have o7 := (o4.ex h6).upd (a := ke) (u := .lst (([] : List V).take (0 : Int).toNat ++ [.ref ky] ++ ([] : List V).drop (0 : Int).toNat)) (fun xs z => by cases z) (fun C dx fs z => by cases z)
                    have x7 : Ex (off W G4) (off W (upd G6 ke (.lst (([] : List V).take (0 : Int).toNat ++ [.ref ky] ++ ([] : List V).drop (0 : Int).toNat)))) := (off_ex h6).trans (off_upd mke)
                    have p7 : (upd G6 ke (.lst (([] : List V).take (0 : Int).toNat ++ [.ref ky] ++ ([] : List V).drop (0 : Int).toNat))) pi = some (.lst []) := by rw [upd_ne npk]; exact h6 _ _ p4
                    have f7 : (upd G6 ke (.lst (([] : List V).take (0 : Int).toNat ++ [.ref ky] ++ ([] : List V).drop (0 : Int).toNat))) fo = some (.lst []) := by rw [upd_ne nfk]; exact h6 _ _ f4
                    have q7' : (upd G6 ke (.lst (([] : List V).take (0 : Int).toNat ++ [.ref ky] ++ ([] : List V).drop (0 : Int).toNat))) q = some (.lst [.ref z]) := by rw [upd_ne nqk]; exact h6 _ _ q4'
                    have b7 : (upd G6 ke (.lst (([] : List V).take (0 : Int).toNat ++ [.ref ky] ++ ([] : List V).drop (0 : Int).toNat))) bx = some (.lst [.ref p]) := by rw [upd_ne (fun y => nbx (by rw [y]; exact mke))]; exact h6 _ _ b4
                    have he7 := x7 _ _ he4
                    have al7 := x7 _ _ al4
                    have wq7 := x7 _ _ wq4
                    have P7 := P4'.ex x7
                    have C7 := C4.ex x7
                    generalize upd G6 ke (.lst (([] : List V).take (0 : Int).toNat ++ [.ref ky] ++ ([] : List V).drop (0 : Int).toNat)) = G7 at k7 o7 x7 p7 f7 q7' b7 he7 al7 wq7 P7 C7
                    have sub7 := off_sub W G7
                    refine ⟨_, rfl, .inl ⟨rfl, _, SqL.of f7⟩, _, rfl, _, rfl, _, rfl, _, rfl, he, _, 2, _, rfl, rfl, SqT.of (sub7 _ _ he7), rfl, _, rfl, he, _, 3, _, rfl, rfl, SqT.of (sub7 _ _ he7), rfl, _, rfl, fun y dy hy hdy hny => ?_⟩
                    have m3 : (upd G7 dy (.own y)) y = none := by rw [upd_ne hny.symm]; exact hy
                    have h8 : Ex G7 (upd (upd G7 dy (.own y)) y (.ins (He.ga K "Way") dy [])) := ((Ex.refl G7).new hdy).new m3
                    refine ⟨y, dy, _, _, _, _, _, rfl, upd_same, fun G8 k8 hy8 => ⟨rfl, ?_⟩⟩
                    have h9 : Ex G7 G8 := fun b o e => k8 b o (h8 b o e) (off1 (ne_of_none e hy))
                    refine ⟨fo, _, 0, _, rfl, rfl, h9 _ _ f7, (by show 0 < sizeLine; exact small' (by decide)), by decide, by decide, ?_⟩
                    have k10 := (k7.ex h9).upd (o := .lst (([] : List V).take (0 : Int).toNat ++ [.ref y] ++ ([] : List V).drop (0 : Int).toNat)) mfo
                    have o10 := (o7.ex h9).upd (a := fo) (u := .lst (([] : List V).take (0 : Int).toNat ++ [.ref y] ++ ([] : List V).drop (0 : Int).toNat)) (fun xs z => by cases z) (fun C dx fs z => by cases z)
                    have x10 : Ex (off W G7) (off W (upd G8 fo (.lst (([] : List V).take (0 : Int).toNat ++ [.ref y] ++ ([] : List V).drop (0 : Int).toNat)))) := (off_ex h9).trans (off_upd mfo)
                    have x10' := x10.trans (off_sub W _)
                    refine .inr ⟨rfl, ?_, ?_, ⟨_, _, _, _, _, _, _, _, _, _, _, _, _, _, rfl⟩, (hINV _ _).mpr ⟨k10, o10, .inr ⟨rfl, ?_, y, upd_same, dy, p, c2, L2, al1, wq, ?_, P7.ex x10', C7.ex x10', ?_, ?_, ?_⟩⟩⟩
                    · rw [upd_ne (fun y => nbx (by rw [y]; exact mfo))]
                      exact h9 _ _ b7
                    · rw [upd_ne nqf]
                      exact h9 _ _ q7'
                    · rw [upd_ne npf]
                      exact h9 _ _ p7
                    · rw [upd_ne (ne_of hy8 (h9 _ _ f7) (by intro z; cases z)), hy8, hon]
                      rfl
                    · intro f s
                      have q := q10 f
                      rw [has] at q
                      rw [gA f s]
                      exact congrFun q s
                    · rw [x10' _ _ al7, hk1, Nat.sub_zero]
                    · rw [x10' _ _ wq7, ← q9, has]
                  · cases y
                · rintro σ' H20 (⟨y, _⟩ | ⟨_, _, y1, y2, y3⟩)
                  · cases y
                  · exact .inr ⟨rfl, y1, 0, by omega, y2, y3⟩
              · rw [hon] at h
                cases h
            · refine ⟨_, rfl, b2, rfl, ⟨_, SqL.of hb2⟩, ?_⟩
              refine for_it (walk_list (K := K) (a := b2) (xs := [])) (fun i σ' H' => σ' = _ ∧ H' = H19) ⟨rfl, rfl⟩ (fun i σ' H' _ y => by rw [y.2]; exact SqL.of hb2) (fun i x σ' H1 H2 hi => absurd hi (Nat.not_lt_zero _)) ?_
              rintro σ' H' ⟨rfl, rfl⟩
              exact .inr ⟨rfl, q19, m', hm', ⟨_, _, _, _, _, _, _, _, _, _, _, _, _, _, rfl⟩, hi'⟩
        · cases y
      · rintro σ' H15 (⟨y, _⟩ | ⟨_, _, y⟩)
        · cases y
        · exact y
    · refine ⟨_, rfl, _, 0, rfl, .inl ⟨_, SqL.of q1, rfl⟩, _, _, rfl, rfl, _, rfl, ite2 (fun z => ?_) (fun _ => ?_)⟩
      · exact absurd (of_decide_eq_true z) (by decide)
      · refine ⟨_, rfl, ?_⟩
        have eH : Ex H H12 := fun b o y => k12 b o (eH11 b o y) (hHW b o y)
        exact k fo y H12 eH hfo q2 q3
end
end Sk
set_option Elab.async false
set_option linter.all false
set_option maxRecDepth 100000
set_option maxHeartbeats 4000000
namespace Sk
open PySem L2
/-- a test that is never asked -/
def tNevT : TT := fun _ _ _ => False
theorem pt_never {X : Cx} {e : Expr} : PT X e tNevT := ⟨fun _ _ _ _ _ _ h => h.elim⟩
section
variable {P : Program} {w : World} {K : PySem.W.Frag} {mg : Str → Option Value} {base : Heap} {S : List Str}
theorem look_close (b t g w e : V) : (wfs b t g w e).lookup ("close" : Str) = some e :=
  (look_next (by decide +kernel)).trans ((look_next (by decide +kernel)).trans ((look_next (by decide +kernel)).trans ((look_next (by decide +kernel)).trans look_here)))
theorem look_box (b t g w e : V) : (wfs b t g w e).lookup ("box" : Str) = some b := look_here
theorem look_given (b t g w e : V) : (wfs b t g w e).lookup ("given" : Str) = some g := (look_next (by decide +kernel)).trans ((look_next (by decide +kernel)).trans look_here)
theorem look_words (b t g w e : V) : (wfs b t g w e).lookup ("words" : Str) = some w := (look_next (by decide +kernel)).trans ((look_next (by decide +kernel)).trans ((look_next (by decide +kernel)).trans look_here))
def spOutc (K : PySem.W.Frag) (S : List Str) (cs : List Scn) : Sp := fun vs H Q _ => ∃ (s n hd : Addr) (i : Nat) (c : Scn) (as : List Stp) (k : Nat) (f : Str → Int), vs = [.ref s, .str c.name, .ref n] ∧ StoryAt K H s cs ∧ (cs.map Scn.name).Nodup ∧ (∀ c ∈ cs, StpsOk S cs c.steps) ∧ cs[i]? = some c ∧ Run cs c.steps as k ∧ k ≤ 1000 ∧ (wordsOf as).length ≤ 20000 ∧ NotesA K S H n hd f ∧
  ∀ q m hd' H', Ex H H' → H q = none → H' q = some (.lst [.ref m]) → NotesA K S H' m hd' (doAll as f) → Q (.ref q) H'
theorem ok_outc (T : TX K mg) (hS : SOk S) (cs : List Scn) : Ok P w K mg base CX0 8 a_outcomes p_outcomes (spOutc K S cs) := by
  obtain ⟨fd, F⟩ := T.d.def_ 42 (d := d_outcomes) rfl
  obtain ⟨_, O_ways⟩ := ok_ways (P := P) (w := w) (base := base) T hS cs
  obtain ⟨dsW, hvW, hbW⟩ := O_ways.d
  obtain ⟨_, O_Way_end⟩ := ok_end (P := P) (w := w) (base := base) T
  obtain ⟨_, O_Way_pattern⟩ := ok_pattern (P := P) (w := w) (base := base) T
  obtain ⟨_, O_Pattern_contains⟩ := ok_has (P := P) (w := w) (base := base) T
  obtain ⟨_, O_Way_call⟩ := ok_wcall (P := P) (w := w) (base := base) T hS
  obtain ⟨_, O_first_not_less⟩ := ok_fnl (P := P) (w := w) (base := base) T
  have b : Binds K fd p_outcomes [] := FunD.bindsN F fun _ _ _ _ _ _ us hl => match us, hl with | [_, _, _], _ => rfl
  refine ⟨fd, F.ok sc_outcomes (fun vs H Q E h => ?_) (fun cdv A outer s H vs Q E hr h => ?_), b, F.kp⟩
  · obtain ⟨z, _, _, _, _, _, _, _, rfl, _⟩ := h
    rfl
  · obtain ⟨st, n, hd, i, c, as, kk, f, rfl, hst, hnd, hcs, hci, hrun, hk, hwl, hN, k⟩ := h
    refine ⟨_, PSs.nox (pss_cons (ps_set (i := 3) sc_outcomes.nd rfl (Or.inl rfl) (pe_lst pa_nil)) (pss_cons
      (ps_for PassesOwn.never rfl (pi_list (pe_call O_ways.fn (hr.mono (by decide)) rfl (T.g_ways) O_ways.k hbW hvW pass0 (pa_cons (pv 0) (pa_cons (pv 1) pa_nil)))) (pg_name (i := 4) sc_outcomes.nd rfl (Or.inl rfl))
      (pss_one
      (ps_if (PW.pt (pw_and (pt_cmpR op_eq (pe_prop (pv 4) T.c_Way T.p_Way_end O_Way_end.fn (hr.mono (by decide)) O_Way_end.b .nil pass0 rfl) pe_str (nomark _)) (pw_and1 (pt_cmpR (op_inO O_Pattern_contains.fn (hr.mono (by decide)) T.m_Pattern_contains O_Pattern_contains.b pass0) (pv 2) (pe_prop (pv 4) T.c_Way T.p_Way_pattern O_Way_pattern.fn (hr.mono (by decide)) O_Way_pattern.b .nil pass0 rfl) (by rfl)))))
      (pss_cons (ps_set (i := 5) sc_outcomes.nd rfl (Or.inl rfl) (pe_callOw (pv 4) T.call_Way O_Way_call.fn (hr.mono (by decide)) O_Way_call.b pass0 (pa_cons (pv 2) pa_nil)))
      (pss_cons (ps_set (i := 6) sc_outcomes.nd rfl (Or.inl rfl) (pcall O_first_not_less (hr.mono (by decide)) rfl (T.g_first_not_less) pass0 (pa_cons (pv 3) (pa_cons (pv 5) pa_nil))))
      (pss_one
      (ps_if (PW.pt (pw_or (pt_cmpR op_eq (pv 6) (pe_callB call_len rfl (T.free_len) (by decide +kernel) (pa_cons (pv 3) pa_nil)) (nomark _)) (pw_or1 pt_never)))
      (pss_one (ps_expr (pe_bm PySem.F.plainAttrs_list PySem.F.slot_list_insert PySem.F.type_list_insert mt_insert (pv 3) (pa_cons (pv 6) (pa_cons (pv 5) pa_nil))))) pss_nil)))) pss_nil)))
      (pss_one (ps_ret (pv 3))))), ?_⟩
    refine ⟨Nat.zero_le _, fun fo hfo => ?_⟩
    have e1 := (Ex.refl H).new (o := .lst []) hfo
    have gfo : (upd H fo (.lst [])) fo = some (.lst []) := upd_same
    generalize upd H fo (.lst []) = H1 at e1 gfo
    refine ⟨_, rfl, _, rfl, st, i, c, as, kk, rfl, hst.ex e1, hnd, hcs, hci, hrun, hk, hwl, fun q y H2 e2 hq hq2 WY => ⟨q, rfl, ⟨_, SqL.of hq2⟩, ?_⟩⟩
    have gfo2 := e2 _ _ gfo
    have nqf : q ≠ fo := fun z => by
      rw [z] at hq
      exact nomatch hq.symm.trans gfo
    have e12 := e1.trans e2
    have N2 := hN.ex e12
    refine for_it (walk_list (K := K) (a := q) (xs := [.ref y])) (fun j σ' H' => ((j = 0 ∧ σ' = [some (.ref st), some (.str c.name), some (.ref n), some (.ref fo), none, none, none] ∧ H' = H2) ∨
        (j = 1 ∧ H' q = some (.lst [.ref y]) ∧ (∃ v4 v5 v6 : Option V, σ' = [some (.ref st), some (.str c.name), some (.ref n), some (.ref fo), v4, v5, v6]) ∧ Kp [fo] H2 H' ∧ ∃ m hd', H' fo = some (.lst [.ref m]) ∧ NotesA K S H' m hd' (doAll as f))))
      (.inl ⟨rfl, rfl, rfl⟩) (fun j σ' H' _ z => ?_) ?_ ?_
    · rcases z with ⟨_, _, z⟩ | ⟨_, z, _⟩
      · rw [z]
        exact SqL.of hq2
      · exact SqL.of z
    · rintro j x σ' H3 H4 hj hh ⟨rfl, hx⟩
      have j0 : j = 0 := by
        have : j < 1 := hj
        omega
      subst j0
      rcases hh with ⟨_, rfl, hH⟩ | ⟨z, _⟩
      · cases Option.some.inj hx
        rw [hH]
        clear hH
        obtain ⟨dx, p, c', L, gl, wl, w1, w2, w3, w4, w5, w6⟩ := id WY
        obtain ⟨dp, dd, dt, p1, p2, p3⟩ := id w2
        refine ⟨_, rfl, y, dx, _, rfl, w1, y, dx, _, _, rfl, w1, look_close _ _ _ _ _, rfl, _, rfl, ?_⟩
        refine ite2 (fun _ => ?_) (fun z => absurd (decide_eq_true rfl) z)
        refine ⟨_, rfl, _, rfl, y, dx, _, rfl, w1, y, dx, _, _, rfl, w1, look_box _ _ _ _ _, p, dp, _, rfl, p1, p, _, rfl, w2, true, rfl, true, rfl, ?_⟩
        refine yes ?_
        refine ⟨_, rfl, y, rfl, _, rfl, dx, _, w1, y, n, hd, _, kk, _, f, rfl, WY, N2, fun m hd' H5 e5 hm hhd N5 => ?_⟩
        have g5 := e5 _ _ gfo2
        refine ⟨_, rfl, _, rfl, fo, _, rfl, g5, ?_⟩
        refine ⟨_, rfl, _, rfl, _, 0, rfl, .inl ⟨_, SqL.of g5, rfl⟩, rfl, _, rfl, ?_⟩
        refine ite2 (fun _ => ?_) (fun z => absurd (decide_eq_true rfl) z)
        refine ⟨_, rfl, .inl ⟨rfl, _, SqL.of g5⟩, _, rfl, _, rfl, fo, _, 0, _, rfl, rfl, g5, (by show 0 < sizeLine; exact small' (by decide)), by decide, by decide, ?_⟩
        have k6 : Kp [fo] H5 (upd H5 fo (.lst (([] : List V).take (0 : Int).toNat ++ [.ref m] ++ ([] : List V).drop (0 : Int).toNat))) := (Kp.refl _ _).upd (on1 fo)
        have nm : m ≠ fo := fun z => by
          rw [z] at hm
          exact nomatch hm.symm.trans gfo2
        have nh : hd' ≠ fo := fun z => by
          rw [z] at hhd
          exact nomatch hhd.symm.trans gfo2
        exact .inr ⟨rfl, k6 _ _ (e5 _ _ hq2) (off1 nqf), ⟨_, _, _, rfl⟩, (e5.kp _).trans k6, m, hd', upd_same, N5.kp k6 (off1 nm) (off1 nh)⟩
      · cases z
    · rintro σ' H3 (⟨z, _⟩ | ⟨_, _, ⟨v4, v5, v6, rfl⟩, k3, m, hd', g3, N3⟩)
      · cases z
      · exact ⟨_, rfl, k fo m hd' H3 (fun b o z => k3 b o (e12 b o z) (off1 (ne_of_none z hfo))) hfo g3 N3⟩
end
end Sk
set_option Elab.async false
set_option linter.all false
set_option maxRecDepth 100000
set_option maxHeartbeats 4000000
namespace Sk
open PySem L2
/-! ### plays -/
def pfs (st fi sc cu wo gi op as le sd : V) : List (Str × V) := [("story", st), ("first", fi), ("scene", sc), ("current", cu), ("words", wo), ("given", gi), ("options", op), ("asked", as), ("left", le), ("standing", sd)]
section
variable {st fi sc cu wo gi op as le sd v : V}
theorem put_sd : putF ("standing" : Str) v (pfs st fi sc cu wo gi op as le sd) = pfs st fi sc cu wo gi op as le v := by rfl
theorem put_as : putF ("asked" : Str) v (pfs st fi sc cu wo gi op as le sd) = pfs st fi sc cu wo gi op v le sd := by rfl
theorem lk_st : (pfs st fi sc cu wo gi op as le sd).lookup ("story" : Str) = some st := by rfl
theorem lk_cu : (pfs st fi sc cu wo gi op as le sd).lookup ("current" : Str) = some cu := by rfl
theorem lk_wo : (pfs st fi sc cu wo gi op as le sd).lookup ("words" : Str) = some wo := by rfl
theorem lk_gi : (pfs st fi sc cu wo gi op as le sd).lookup ("given" : Str) = some gi := by rfl
theorem lk_as : (pfs st fi sc cu wo gi op as le sd).lookup ("asked" : Str) = some as := by rfl
theorem lk_le : (pfs st fi sc cu wo gi op as le sd).lookup ("left" : Str) = some le := by rfl
theorem lk_sd : (pfs st fi sc cu wo gi op as le sd).lookup ("standing" : Str) = some sd := by rfl
theorem lk_enter : (pfs st fi sc cu wo gi op as le sd).lookup ("enter" : Str) = none := by rfl
theorem lk_do : (pfs st fi sc cu wo gi op as le sd).lookup ("do" : Str) = none := by rfl
theorem lk_advance : (pfs st fi sc cu wo gi op as le sd).lookup ("advance" : Str) = none := by rfl
theorem pfs_ne {C D dx dy hd t : Addr} : HO.ins C dx (pfs st fi sc cu wo gi op as le sd) ≠ HO.ins D dy (nfs hd t) := by
  intro z
  injection z with _ _ z
  have := congrArg List.length z
  cases this
end
/-- what is asked -/
def AskAt (H : Hp) (v : V) (o : Option Scn) : Prop := match o with
  | none => v = .non
  | some c => ∃ q, v = .ref q ∧ H q = some (.tup [.str "skip", .str c.name])
/-- a play at pl; B: what stands apart from it -/
def PlS (K : PySem.W.Frag) (S : List Str) (cs : List Scn) (B H : Hp) (pl : Addr) (f : Str → Int) (W : List Str) (k : Nat) (R : List Stp) (o : Option Scn) (sd : Str) : Prop :=
  ∃ dx s fi sc cu hd wo gi op asv le rs, H pl = some (.ins (He.ga K "Play") dx (pfs (.ref s) fi sc (.ref cu) (.ref wo) (.ref gi) op asv (.ref le) (.str sd))) ∧ StoryAt K B s cs ∧ NotesA K S H cu hd f ∧ H wo = some (.lst (W.map V.str)) ∧ H gi = some (.lst (List.replicate k (.str "watch"))) ∧
    H le = some (.lst (rs.map V.ref)) ∧ Pw (StpAt B) rs R.reverse ∧ AskAt H asv o ∧ (B pl = none ∧ B cu = none ∧ B hd = none ∧ B wo = none ∧ B gi = none ∧ B le = none) ∧ (wo ≠ gi ∧ wo ≠ le ∧ gi ≠ le) ∧ Ex B H
section
variable {P : Program} {w : World} {K : PySem.W.Frag} {mg : Str → Option Value} {base : Heap} {S : List Str}
theorem AskAt.kp {H H' : Hp} {v : V} {o : Option Scn} {ws : List Addr} (h : AskAt H v o) (e : Kp ws H H') (n : ∀ q xs, H q = some (.tup xs) → q ∉ ws) : AskAt H' v o := by
  cases o with
  | none => exact h
  | some c =>
    obtain ⟨q, h1, h2⟩ := h
    exact ⟨q, h1, e _ _ h2 (n q _ h2)⟩
/-- the play with what is left changed -/
def spEnter (K : PySem.W.Frag) (S : List Str) (cs : List Scn) : Sp := fun vs H Q _ => ∃ (pl : Addr) (B : Hp) (f : Str → Int) (W : List Str) (k : Nat) (R : List Stp) (i : Nat) (c : Scn), vs = [.ref pl, .str c.name] ∧ PlS K S cs B H pl f W k R none "moving" ∧ (cs.map Scn.name).Nodup ∧ cs[i]? = some c ∧ R.length ≤ 40000 ∧ c.steps.length ≤ 1000 ∧
  ∀ H', (c.skip = false → PlS K S cs B H' pl f W k (c.steps ++ R) none "moving") → (c.skip = true → PlS K S cs B H' pl f W k R (some c) "asking") → Q .non H'
theorem ok_enter (T : TX K mg) (cs : List Scn) : Ok P w K mg base CX0 2 a_Play_enter p_Play_enter (spEnter K S cs) := by
  obtain ⟨fd, F⟩ := T.d.def_ 48 (d := d_Play_enter) rfl
  obtain ⟨_, O_find_scene⟩ := ok_find (P := P) (w := w) (base := base) T
  have b : Binds K fd p_Play_enter [] := FunD.bindsN F fun _ _ _ _ _ _ us hl => match us, hl with | [_, _], _ => rfl
  refine ⟨fd, F.ok sc_Play_enter (fun vs H Q E h => ?_) (fun cdv A outer s H vs Q E hr h => ?_), b, F.kp⟩
  · obtain ⟨z, _, _, _, _, _, _, _, rfl, _⟩ := h
    rfl
  · obtain ⟨pl, B, f, W, kk, R, i, c, rfl, hP, hnd, hci, hR, hc1, k⟩ := h
    obtain ⟨dx, s, fi, sc, cu, hd, wo, gi, op, asv, le, rs, h1, h2, h3, h4, h5, h6, h7, h8, ⟨b1, b2, b3, b4, b5, b6⟩, ⟨n1, n2, n3⟩, hB⟩ := id hP
    obtain rfl : asv = .non := h8
    refine ⟨_, PSs.nox (pss_cons (ps_set (i := 2) sc_Play_enter.nd rfl (Or.inl rfl) (pcall O_find_scene (hr.mono (by decide)) rfl (T.g_find_scene) pass0 (pa_cons (pe_fldK (K := K) (pv 0)) (pa_cons (pv 1) pa_nil))))
      (pss_one (ps_if (pt_cmpR op_isN (pe_ix (ix_tupK (K := K)) (pv 2) pe_int (fun _ _ => rfl)) pe_non (nomark _))
      (pss_one (ps_expr (pe_bm PySem.F.plainAttrs_list PySem.F.slot_list_extend PySem.F.type_list_extend mt_extend (pe_fldK (K := K) (pv 0)) (pa_cons (pe_revL (pe_ix (ix_tupK (K := K)) (pv 2) pe_int (fun _ _ => rfl))) pa_nil))))
      (pss_cons (ps_fld (pv 0) pe_str rfl) (pss_one (ps_fld (pv 0) (pe_tup (pa_cons pe_str (pa_cons (pv 1) pa_nil))) rfl)))))), ?_⟩
    -- what stands apart, as the heap without what belongs to the play
    refine ⟨_, rfl, pl, _, dx, _, _, rfl, h1, T.c_Play, T.n_Play_story, lk_st, _, rfl, s, cs, i, c, B, rfl, h2, hnd, hci, hB, fun a ha => ?_⟩
    obtain ⟨la, va, g1, ⟨ls, g2, g3⟩, g4⟩ := ha
    refine ⟨_, rfl, a, _, 2, _, rfl, rfl, SqT.of (hB _ _ g1), rfl, rfl, _, rfl, ?_⟩
    cases hsk : c.skip with
    | false =>
      rw [hsk] at g4
      obtain rfl : va = .non := g4
      refine ite2 (fun _ => ?_) (fun y => absurd (decide_eq_true rfl) y)
      refine ⟨_, rfl, pl, _, dx, _, _, rfl, h1, T.c_Play, T.n_Play_left, lk_le, .inl ⟨rfl, _, SqL.of h6⟩, _, rfl, a, _, 1, _, rfl, rfl, SqT.of (hB _ _ g1), rfl, la, _, rfl, SqL.of (hB _ _ g2), fun q hq => ?_⟩
      have e1 := (Ex.refl H).new (o := .lst (ls.map V.ref).reverse) hq
      have lls : ls.length ≤ 1000 := by
        rw [g3.1]
        exact hc1
      have lrs : rs.length ≤ 40000 := by
        rw [h7.1, List.length_reverse]
        exact hR
      refine ⟨le, q, _, _, rfl, rfl, e1 _ _ h6, upd_same, by rw [List.length_map, List.length_reverse, List.length_map]; exact small (by omega), ?_⟩
      have eq : rs.map V.ref ++ (ls.map V.ref).reverse = (rs ++ ls.reverse).map V.ref := by rw [List.map_append, List.map_reverse]
      rw [eq]
      have k2 : Kp [le] H (upd (upd H q (.lst (ls.map V.ref).reverse)) le (.lst ((rs ++ ls.reverse).map V.ref))) := (e1.kp _).upd (on1 le)
      refine k _ (fun _ => ?_) (fun y => by rw [hsk] at y; cases y)
      obtain ⟨_, _, _, nh1, nh2, _⟩ := id h3
      refine ⟨dx, s, fi, sc, cu, hd, wo, gi, op, .non, le, rs ++ ls.reverse, k2 _ _ h1 (off1 (ne_of h1 h6 (by intro z; cases z))), h2, h3.kp k2 (off1 (ne_of nh1 h6 (by intro z; cases z))) (off1 (ne_of nh2 h6 (by intro z; cases z))), k2 _ _ h4 (off1 n2), k2 _ _ h5 (off1 n3), upd_same, ?_, rfl, ⟨b1, b2, b3, b4, b5, b6⟩, ⟨n1, n2, n3⟩, fun b o y => k2 b o (hB b o y) (off1 (ne_of_none y b6))⟩
      rw [List.reverse_append]
      exact h7.append g3.reverse
    | true =>
      rw [hsk] at g4
      obtain ⟨qv, rfl, hqv⟩ := g4
      refine ite2 (fun y => ?_) (fun _ => ?_)
      · have := of_decide_eq_true y
        cases this
      refine ⟨_, rfl, pl, _, dx, _, rfl, h1, T.c_Play, T.n_Play_standing, (by show 10 < 1000; decide), ?_⟩
      rw [put_sd]
      refine ⟨_, rfl, small (by show 2 ≤ 100000; decide), fun t ht => ?_⟩
      have npt : pl ≠ t := ne_of_none upd_same ht
      refine ⟨_, rfl, pl, _, dx, _, rfl, (by rw [upd_ne npt]; exact upd_same), T.c_Play, T.n_Play_asked, (by show 10 < 1000; decide), ?_⟩
      rw [put_as]
      have k1 : Kp [pl] H (upd (upd (upd H pl (.ins (He.ga K "Play") dx (pfs (.ref s) fi sc (.ref cu) (.ref wo) (.ref gi) op .non (.ref le) (.str "asking")))) t (.tup [.str "skip", .str c.name])) pl (.ins (He.ga K "Play") dx (pfs (.ref s) fi sc (.ref cu) (.ref wo) (.ref gi) op (.ref t) (.ref le) (.str "asking")))) :=
        (((Kp.refl [pl] H).upd (on1 pl)).new ht).upd (on1 pl)
      refine k _ (fun y => by rw [hsk] at y; cases y) (fun _ => ?_)
      obtain ⟨_, _, _, nh1, nh2, _⟩ := id h3
      refine ⟨dx, s, fi, sc, cu, hd, wo, gi, op, .ref t, le, rs, upd_same, h2, h3.kp k1 (off1 (ne_of nh1 h1 (fun z => pfs_ne z.symm))) (off1 (ne_of nh2 h1 (by intro z; cases z))), k1 _ _ h4 (off1 (ne_of h4 h1 (by intro z; cases z))), k1 _ _ h5 (off1 (ne_of h5 h1 (by intro z; cases z))), k1 _ _ h6 (off1 (ne_of h6 h1 (by intro z; cases z))), h7, ⟨t, rfl, ?_⟩, ⟨b1, b2, b3, b4, b5, b6⟩, ⟨n1, n2, n3⟩, fun b o y => k1 b o (hB b o y) (off1 (ne_of_none y b1))⟩
      rw [upd_ne npt.symm, upd_same]
end
end Sk
set_option Elab.async false
set_option linter.all false
set_option maxRecDepth 100000
set_option maxHeartbeats 4000000
namespace Sk
open PySem L2
section
variable {P : Program} {w : World} {K : PySem.W.Frag} {mg : Str → Option Value} {base : Heap} {S : List Str}
/-- the play behind one step -/
def ResP (K : PySem.W.Frag) (S : List Str) (cs : List Scn) (B H : Hp) (pl : Addr) (f : Str → Int) (W : List Str) (k : Nat) (R : List Stp) : Stp → Prop
  | .sho x => PlS K S cs B H pl f (W ++ [x]) k R none "moving"
  | .st n i => PlS K S cs B H pl (doS (.st n i) f) W k R none "moving"
  | .ad n i => PlS K S cs B H pl (doS (.ad n i) f) W k R none "moving"
  | .scn n => ∃ (i : Nat) (c : Scn), cs[i]? = some c ∧ c.name = n ∧ ((c.skip = false ∧ PlS K S cs B H pl f W k (c.steps ++ R) none "moving") ∨ (c.skip = true ∧ PlS K S cs B H pl f W k R (some c) "asking"))
def spDo (K : PySem.W.Frag) (S : List Str) (cs : List Scn) : Sp := fun vs H Q _ => ∃ (pl a : Addr) (B : Hp) (f : Str → Int) (W : List Str) (k : Nat) (R : List Stp) (stp : Stp), vs = [.ref pl, .ref a] ∧ StpAt B a stp ∧ PlS K S cs B H pl f W k R none "moving" ∧ (cs.map Scn.name).Nodup ∧ StpsOk S cs (stp :: R) ∧ (∀ c ∈ cs, c.steps.length ≤ 1000) ∧ W.length ≤ 40000 ∧ R.length ≤ 40000 ∧
  ∀ H', ResP K S cs B H' pl f W k R stp → Q .non H'
theorem ok_do (T : TX K mg) (hS : SOk S) (cs : List Scn) : Ok P w K mg base CX0 4 a_Play_do p_Play_do (spDo K S cs) := by
  obtain ⟨fd, F⟩ := T.d.def_ 47 (d := d_Play_do) rfl
  obtain ⟨_, O_Notes_setitem⟩ := ok_setitem (P := P) (w := w) (base := base) T hS
  obtain ⟨_, O_Notes_getitem⟩ := ok_getitem (P := P) (w := w) (base := base) (S := S) T
  obtain ⟨_, O_Play_enter⟩ := ok_enter (P := P) (w := w) (base := base) (S := S) T cs
  have b : Binds K fd p_Play_do [] := FunD.bindsN F fun _ _ _ _ _ _ us hl => match us, hl with | [_, _], _ => rfl
  refine ⟨fd, F.ok sc_Play_do (fun vs H Q E h => ?_) (fun cdv A outer s H vs Q E hr h => ?_), b, F.kp⟩
  · obtain ⟨z, _, _, _, _, _, _, _, rfl, _⟩ := h
    rfl
  · obtain ⟨pl, a, B, f, W, kk, R, stp, rfl, ha, hP, hnd, hok, hcs, hW, hR, k⟩ := h
    obtain ⟨dx, s, fi, sc, cu, hd, wo, gi, op, asv, le, rs, h1, h2, h3, h4, h5, h6, h7, h8, ⟨b1, b2, b3, b4, b5, b6⟩, ⟨n1, n2, n3⟩, hB⟩ := id hP
    obtain rfl : asv = .non := h8
    have hat : H a = some (.tup stp.vs) := hB _ _ ha
    obtain ⟨dn, tn, kvs, nh1, nh2, _⟩ := id h3
    have npc : pl ≠ cu := ne_of h1 nh1 pfs_ne
    have nph : pl ≠ hd := ne_of h1 nh2 (by intro z; cases z)
    refine ⟨_, PSs.nox (pss_cons (ps_par (i := 2) (j := 3) rfl sc_Play_do.nd rfl rfl (by decide) rfl rfl (pa_cons (pe_ix (ix_tupK (K := K)) (pv 1) pe_int (fun _ _ => rfl)) (pa_cons (pe_ix (ix_tupK (K := K)) (pv 1) pe_int (fun _ _ => rfl)) pa_nil)) (by rfl))
      (pss_one (ps_if (pt_cmpR op_eq (pv 2) pe_str (nomark _))
      (pss_one (ps_expr (pe_bm PySem.F.plainAttrs_list PySem.F.slot_list_append PySem.F.type_list_append mt_append (pe_fldK (K := K) (pv 0)) (pa_cons (pv 3) pa_nil))))
      (pss_one (ps_if (pt_cmpR op_eq (pv 2) pe_str (nomark _))
      (pss_one (ps_asg (pe_ix (ix_tupK (K := K)) (pv 1) pe_int (fun _ _ => rfl)) (pg_sub (pe_fldK (K := K) (pv 0)) (pv 3) (set_own O_Notes_setitem.fn (hr.mono (by decide)) T.m_Notes_setitem T.noseq_Notes O_Notes_setitem.b pass0))))
      (pss_one (ps_if (pt_cmpR op_eq (pv 2) pe_str (nomark _))
      (pss_one (ps_asg (pe_op op_add (pe_ixO O_Notes_getitem.fn (hr.mono (by decide)) T.m_Notes_getitem T.fi_Notes_getitem O_Notes_getitem.b pass0 (pe_fldK (K := K) (pv 0)) (pv 3)) (pe_ix (ix_tupK (K := K)) (pv 1) pe_int (fun _ _ => rfl))) (pg_sub (pe_fldK (K := K) (pv 0)) (pv 3) (set_own O_Notes_setitem.fn (hr.mono (by decide)) T.m_Notes_setitem T.noseq_Notes O_Notes_setitem.b pass0))))
      (pss_one (ps_if (pt_cmpR op_eq (pv 2) pe_str (nomark _)) pss_never (pss_one (ps_if (pt_cmpR op_eq (pv 2) pe_str (nomark _))
      (pss_one (ps_expr (pe_meth (pv 0) T.c_Play T.m_Play_enter O_Play_enter.fn (hr.mono (by decide)) O_Play_enter.b .nil pass0 (pa_cons (pv 3) pa_nil))))
      (pss_one (ps_if (pt_cmpR op_eq (pv 2) pe_str (nomark _)) pss_never (pss_one (ps_if pt_never pss_never pss_nil))))))))))))))), ?_⟩
    -- the notes set
    have setN : ∀ (nm : Str) (i : Int), nm ∈ S → ∀ H' hd', Kp [cu, hd] H H' → H hd' = none → NotesA K S H' cu hd' (fun x => if x = nm then i else f x) → PlS K S cs B H' pl (fun x => if x = nm then i else f x) W kk R none "moving" := by
      intro nm i hm H' hd' k' hhd N'
      have off2 : ∀ {b : Addr} {xs : List V}, H b = some (.lst xs) → H' b = some (.lst xs) := fun {b xs} y => k' _ _ y fun m => by
        rcases List.mem_cons.mp m with m | m
        · exact ne_of y nh1 (by intro z; cases z) m
        · exact ne_of y nh2 (by intro z; cases z) (List.mem_singleton.mp m)
      refine ⟨dx, s, fi, sc, cu, hd', wo, gi, op, .non, le, rs, k' _ _ h1 (fun m => ?_), h2, N', off2 h4, off2 h5, off2 h6, h7, rfl, ⟨b1, b2, hB.back hhd, b4, b5, b6⟩, ⟨n1, n2, n3⟩, fun b o y => k' b o (hB b o y) fun m => ?_⟩
      · rcases List.mem_cons.mp m with m | m
        · exact npc m
        · exact nph (List.mem_singleton.mp m)
      · rcases List.mem_cons.mp m with m | m
        · exact ne_of_none y b2 m
        · exact ne_of_none y b3 (List.mem_singleton.mp m)
    cases stp with
    | sho x =>
      refine ⟨_, rfl, a, _, 0, _, rfl, rfl, SqT.of hat, rfl, _, rfl, a, _, 1, _, rfl, rfl, SqT.of hat, rfl, _, _, rfl, ?_⟩
      refine ⟨_, rfl, rfl, _, rfl, ?_⟩
      refine ite2 (fun _ => ?_) (fun c => absurd (decide_eq_true (by first | rfl | decide +kernel)) c)
      refine ⟨_, rfl, pl, _, dx, _, _, rfl, h1, T.c_Play, T.n_Play_words, lk_wo, .inl ⟨rfl, _, SqL.of h4⟩, _, rfl, wo, _, _, rfl, rfl, h4, by rw [List.length_map]; exact small' (by omega), ?_⟩
      have k2 : Kp [wo] H (upd H wo (.lst (W.map V.str ++ [.str x]))) := (Kp.refl _ _).upd (on1 wo)
      refine k _ ⟨dx, s, fi, sc, cu, hd, wo, gi, op, .non, le, rs, k2 _ _ h1 (off1 (ne_of h1 h4 (by intro z; cases z))), h2, h3.kp k2 (off1 (ne_of nh1 h4 (by intro z; cases z))) (off1 (ne_of nh2 h4 (by intro z; cases z))), ?_, k2 _ _ h5 (off1 n1.symm), k2 _ _ h6 (off1 n2.symm), h7, rfl, ⟨b1, b2, b3, b4, b5, b6⟩, ⟨n1, n2, n3⟩, fun b o y => k2 b o (hB b o y) (off1 (ne_of_none y b4))⟩
      rw [upd_same, List.map_append]
      rfl
    | st nm i =>
      have hm : nm ∈ S := hok _ List.mem_cons_self
      refine ⟨_, rfl, a, _, 0, _, rfl, rfl, SqT.of hat, rfl, _, rfl, a, _, 1, _, rfl, rfl, SqT.of hat, rfl, _, _, rfl, ?_⟩
      refine ⟨_, rfl, rfl, _, rfl, ?_⟩
      refine ite2 (fun c => absurd (of_decide_eq_true c) (by decide +kernel)) (fun _ => ?_)
      refine ⟨_, rfl, rfl, _, rfl, ?_⟩
      refine ite2 (fun _ => ?_) (fun c => absurd (decide_eq_true (by first | rfl | decide +kernel)) c)
      refine ⟨_, rfl, a, _, 2, _, rfl, rfl, SqT.of hat, rfl, _, rfl, pl, _, dx, _, _, rfl, h1, T.c_Play, T.n_Play_current, lk_cu, _, rfl, cu, dn, _, rfl, nh1, cu, hd, nm, i, f, rfl, h3, hm, fun H' hd' k' hhd N' => ?_⟩
      exact k H' (setN nm i hm H' hd' k' hhd N')
    | ad nm i =>
      have hm : nm ∈ S := hok _ List.mem_cons_self
      refine ⟨_, rfl, a, _, 0, _, rfl, rfl, SqT.of hat, rfl, _, rfl, a, _, 1, _, rfl, rfl, SqT.of hat, rfl, _, _, rfl, ?_⟩
      refine ⟨_, rfl, rfl, _, rfl, ?_⟩
      refine ite2 (fun c => absurd (of_decide_eq_true c) (by decide +kernel)) (fun _ => ?_)
      refine ⟨_, rfl, rfl, _, rfl, ?_⟩
      refine ite2 (fun c => absurd (of_decide_eq_true c) (by decide +kernel)) (fun _ => ?_)
      refine ⟨_, rfl, rfl, _, rfl, ?_⟩
      refine ite2 (fun _ => ?_) (fun c => absurd (decide_eq_true (by first | rfl | decide +kernel)) c)
      refine ⟨_, rfl, pl, _, dx, _, _, rfl, h1, T.c_Play, T.n_Play_current, lk_cu, _, rfl, cu, dn, _, rfl, nh1, cu, hd, nm, f, rfl, h3, _, rfl, a, _, 2, _, rfl, rfl, SqT.of hat, rfl, _, _, rfl, rfl, ?_⟩
      refine ⟨_, rfl, pl, _, dx, _, _, rfl, h1, T.c_Play, T.n_Play_current, lk_cu, _, rfl, cu, dn, _, rfl, nh1, cu, hd, nm, f nm + i, f, rfl, h3, hm, fun H' hd' k' hhd N' => ?_⟩
      refine k H' ?_
      have q := setN nm (f nm + i) hm H' hd' k' hhd N'
      have e : (fun x => if x = nm then f nm + i else f x) = doS (.ad nm i) f := funext fun x => by
        show _ = if x = nm then f x + i else f x
        by_cases c : x = nm
        · rw [if_pos c, if_pos c, c]
        · rw [if_neg c, if_neg c]
      rw [e] at q
      exact q
    | scn nm =>
      obtain ⟨i, c, hci, hcn⟩ := hok _ List.mem_cons_self
      subst hcn
      refine ⟨_, rfl, a, _, 0, _, rfl, rfl, SqT.of hat, rfl, _, rfl, a, _, 1, _, rfl, rfl, SqT.of hat, rfl, _, _, rfl, ?_⟩
      refine ⟨_, rfl, rfl, _, rfl, ?_⟩
      refine ite2 (fun c => absurd (of_decide_eq_true c) (by decide +kernel)) (fun _ => ?_)
      refine ⟨_, rfl, rfl, _, rfl, ?_⟩
      refine ite2 (fun c => absurd (of_decide_eq_true c) (by decide +kernel)) (fun _ => ?_)
      refine ⟨_, rfl, rfl, _, rfl, ?_⟩
      refine ite2 (fun c => absurd (of_decide_eq_true c) (by decide +kernel)) (fun _ => ?_)
      refine ⟨_, rfl, rfl, _, rfl, ?_⟩
      refine ite2 (fun c => absurd (of_decide_eq_true c) (by decide +kernel)) (fun _ => ?_)
      refine ⟨_, rfl, rfl, _, rfl, ?_⟩
      refine ite2 (fun _ => ?_) (fun c => absurd (decide_eq_true (by first | rfl | decide +kernel)) c)
      refine ⟨_, rfl, pl, dx, _, rfl, h1, lk_enter, _, rfl, pl, B, f, W, kk, R, i, c, rfl, hP, hnd, hci, hR, hcs c (List.mem_of_getElem? hci), fun H' q1 q2 => ?_⟩
      refine k H' ⟨i, c, hci, rfl, ?_⟩
      cases hsk : c.skip with
      | false => exact .inl ⟨rfl, q1 hsk⟩
      | true => exact .inr ⟨rfl, q2 hsk⟩
end
end Sk
set_option Elab.async false
set_option linter.all false
set_option maxRecDepth 100000
set_option maxHeartbeats 4000000
namespace Sk
open PySem L2
theorem Pw.last {α β : Type} {R : α → β → Prop} {rs : List α} {xs : List β} {x : β} (h : Pw R rs (xs ++ [x])) : ∃ rs' r, rs = rs' ++ [r] ∧ Pw R rs' xs ∧ R r x := by
  have hx : (xs ++ [x])[xs.length]? = some x := by
    rw [List.getElem?_append_right (Nat.le_refl _), Nat.sub_self]
    rfl
  obtain ⟨r, hr, hR⟩ := h.at' hx
  have hl : rs.length = xs.length + 1 := by
    have := h.1
    rw [List.length_append] at this
    exact this
  have e : rs = rs.take xs.length ++ [r] := by
    rw [← take_snoc hr, List.take_of_length_le (by omega)]
  refine ⟨rs.take xs.length, r, e, ?_, hR⟩
  have q := h.take xs.length
  rw [List.take_append_of_le_length (Nat.le_refl _), List.take_length] at q
  exact q
/-- a bound of all that is gone through -/
def wsum (ω : Stp → Nat) (R : List Stp) : Nat := (R.map ω).sum
theorem wsum_app (ω : Stp → Nat) (a b : List Stp) : wsum ω (a ++ b) = wsum ω a + wsum ω b := by
  unfold wsum
  rw [List.map_append, List.sum_append]
theorem wsum_len (ω : Stp → Nat) (h : ∀ s, 1 ≤ ω s) : ∀ R : List Stp, R.length ≤ wsum ω R
  | [] => Nat.zero_le _
  | s :: R => by
    have := wsum_len ω h R
    have := h s
    show R.length + 1 ≤ (ω s :: R.map ω).sum
    rw [List.sum_cons]
    unfold wsum at this
    have q : wsum ω R = (R.map ω).sum := rfl
    omega
theorem wsum_cons (ω : Stp → Nat) (s : Stp) (R : List Stp) : wsum ω (s :: R) = ω s + wsum ω R := by
  unfold wsum
  rw [List.map_cons, List.sum_cons]
def WtOk (cs : List Scn) (ω : Stp → Nat) : Prop := (∀ s, 1 ≤ ω s) ∧ ∀ c ∈ cs, wsum ω c.steps + 1 ≤ ω (.scn c.name)
def sdOf (o : Option Scn) : Str := match o with
  | none => "ended"
  | some _ => "asking"
section
variable {P : Program} {w : World} {K : PySem.W.Frag} {mg : Str → Option Value} {base : Heap} {S : List Str}
/-- a play ahead of its advance: where it stands is not told yet -/
def PlP (K : PySem.W.Frag) (S : List Str) (cs : List Scn) (B H : Hp) (pl : Addr) (f : Str → Int) (W : List Str) (k : Nat) (R : List Stp) : Prop :=
  ∃ dx s fi sc cu hd wo gi op asv le rs fs0, H pl = some (.ins (He.ga K "Play") dx fs0) ∧ (3 ≤ fs0.length ∧ fs0.length ≤ 10 ∧ ∀ v, putF ("standing" : Str) v fs0 = pfs (.ref s) fi sc (.ref cu) (.ref wo) (.ref gi) op asv (.ref le) v) ∧ StoryAt K B s cs ∧ NotesA K S H cu hd f ∧ H wo = some (.lst (W.map V.str)) ∧ H gi = some (.lst (List.replicate k (.str "watch"))) ∧
    H le = some (.lst (rs.map V.ref)) ∧ Pw (StpAt B) rs R.reverse ∧ (B pl = none ∧ B cu = none ∧ B hd = none ∧ B wo = none ∧ B gi = none ∧ B le = none) ∧ (wo ≠ gi ∧ wo ≠ le ∧ gi ≠ le) ∧ Ex B H
theorem PlS.pre {cs : List Scn} {B H : Hp} {pl : Addr} {f : Str → Int} {W : List Str} {k : Nat} {R : List Stp} {o : Option Scn} {sd : Str} (h : PlS K S cs B H pl f W k R o sd) : PlP K S cs B H pl f W k R := by
  obtain ⟨dx, s, fi, sc, cu, hd, wo, gi, op, asv, le, rs, h1, h2, h3, h4, h5, h6, h7, h8, hb, hn, hB⟩ := h
  exact ⟨dx, s, fi, sc, cu, hd, wo, gi, op, asv, le, rs, _, h1, ⟨by show 3 ≤ 10; decide, by show 10 ≤ 10; decide, fun v => put_sd⟩, h2, h3, h4, h5, h6, h7, hb, hn, hB⟩
def spPAdv (K : PySem.W.Frag) (S : List Str) (cs : List Scn) : Sp := fun vs H Q _ => ∃ (pl : Addr) (B : Hp) (f : Str → Int) (W : List Str) (k : Nat) (R as R' : List Stp) (o : Option Scn) (n : Nat) (ω : Stp → Nat), vs = [.ref pl] ∧ PlP K S cs B H pl f W k R ∧ (cs.map Scn.name).Nodup ∧ (∀ c ∈ cs, StpsOk S cs c.steps) ∧ (∀ c ∈ cs, c.steps.length ≤ 1000) ∧ StpsOk S cs R ∧
  WtOk cs ω ∧ wsum ω R ≤ 1000 ∧ Adv cs n R as o R' ∧ W.length + n ≤ 40000 ∧ ∀ H', PlS K S cs B H' pl (doAll as f) (W ++ wordsOf as) k R' o (sdOf o) → Q .non H'
theorem PlS.setT (T : TX K mg) {cs : List Scn} {B H : Hp} {pl : Addr} {f : Str → Int} {W : List Str} {k : Nat} {R : List Stp} {o : Option Scn} {sd : Str} : True := True.intro
theorem ok_padv (T : TX K mg) (hS : SOk S) (cs : List Scn) : Ok P w K mg base CX0 5 a_Play_advance p_Play_advance (spPAdv K S cs) := by
  obtain ⟨fd, F⟩ := T.d.def_ 46 (d := d_Play_advance) rfl
  obtain ⟨_, O_Play_do⟩ := ok_do (P := P) (w := w) (base := base) T hS cs
  have b : Binds K fd p_Play_advance [] := FunD.bindsN F fun _ _ _ _ _ _ us hl => match us, hl with | [_], _ => rfl
  refine ⟨fd, F.ok sc_Play_advance (fun vs H Q E h => ?_) (fun cdv A outer s H vs Q E hr h => ?_), b, F.kp⟩
  · obtain ⟨z, _, _, _, _, _, _, _, _, _, _, rfl, _⟩ := h
    rfl
  · obtain ⟨pl, B, f, W, kk, R, as, R', o, n, ω, rfl, hP, hnd, hcs, hcl, hok, hω, hwR, hA, hWn, k⟩ := h
    obtain ⟨dx, s, fi, sc, cu, hd, wo, gi, op, asv, le, rs, fs0, h1, ⟨fl1, fl2, hput⟩, h2, h3, h4, h5, h6, h7, ⟨b1, b2, b3, b4, b5, b6⟩, ⟨n1, n2, n3⟩, hB⟩ := id hP
    obtain ⟨dn, tn, kvs, nh1, nh2, _⟩ := id h3
    have fne : ∀ {C dy x y : Addr}, HO.ins C dy (nfs x y) ≠ HO.ins (He.ga K "Play") dx fs0 := fun z => by
      injection z with _ _ z
      have q := congrArg List.length z
      have q2 : 2 = fs0.length := q
      omega
    refine ⟨_, PSs.nox (pss_cons (ps_fld (pv 0) pe_str rfl) (pss_cons (ps_fld (pv 0) pe_non rfl) (pss_one
      (ps_while PassesOwn.never (pt_cmpR op_eq (pe_fldK (K := K) (pv 0)) pe_str (nomark _)) (pss_one
      (ps_if (pt_cmpR op_eq (pe_callB call_len rfl (T.free_len) (by decide +kernel) (pa_cons (pe_fldK (K := K) (pv 0)) pa_nil)) pe_int (nomark _))
      (pss_one (ps_fld (pv 0) pe_str rfl))
      (pss_one (ps_expr (pe_meth (pv 0) T.c_Play T.m_Play_do O_Play_do.fn (hr.mono (by decide)) O_Play_do.b .nil pass0 (pa_cons (pe_bm0 PySem.F.plainAttrs_list PySem.F.slot_list_pop PySem.F.type_list_pop mt_pop (pe_fldK (K := K) (pv 0))) pa_nil)))))))))), ?_⟩
    refine ⟨_, rfl, pl, _, dx, _, rfl, h1, T.c_Play, T.n_Play_standing, (by omega), ?_⟩
    rw [hput]
    refine ⟨_, rfl, pl, _, dx, _, rfl, upd_same, T.c_Play, T.n_Play_asked, (by show 10 < 1000; decide), ?_⟩
    rw [put_as]
    have k1 : Kp [pl] H (upd (upd H pl (.ins (He.ga K "Play") dx (pfs (.ref s) fi sc (.ref cu) (.ref wo) (.ref gi) op asv (.ref le) (.str "moving")))) pl (.ins (He.ga K "Play") dx (pfs (.ref s) fi sc (.ref cu) (.ref wo) (.ref gi) op .non (.ref le) (.str "moving")))) :=
      ((Kp.refl [pl] H).upd (on1 pl)).upd (on1 pl)
    have P0 : PlS K S cs B (upd (upd H pl (.ins (He.ga K "Play") dx (pfs (.ref s) fi sc (.ref cu) (.ref wo) (.ref gi) op asv (.ref le) (.str "moving")))) pl (.ins (He.ga K "Play") dx (pfs (.ref s) fi sc (.ref cu) (.ref wo) (.ref gi) op .non (.ref le) (.str "moving")))) pl f W kk R none "moving" :=
      ⟨dx, s, fi, sc, cu, hd, wo, gi, op, .non, le, rs, upd_same, h2, h3.kp k1 (off1 (ne_of nh1 h1 fne)) (off1 (ne_of nh2 h1 (by intro z; cases z))), k1 _ _ h4 (off1 (ne_of h4 h1 (by intro z; cases z))), k1 _ _ h5 (off1 (ne_of h5 h1 (by intro z; cases z))), k1 _ _ h6 (off1 (ne_of h6 h1 (by intro z; cases z))), h7, rfl, ⟨b1, b2, b3, b4, b5, b6⟩, ⟨n1, n2, n3⟩, fun b o y => k1 b o (hB b o y) (off1 (ne_of_none y b1))⟩
    generalize upd (upd H pl (.ins (He.ga K "Play") dx (pfs (.ref s) fi sc (.ref cu) (.ref wo) (.ref gi) op asv (.ref le) (.str "moving")))) pl (.ins (He.ga K "Play") dx (pfs (.ref s) fi sc (.ref cu) (.ref wo) (.ref gi) op .non (.ref le) (.str "moving"))) = H1 at P0
    clear h1 h3 h4 h5 h6 nh1 nh2 hB k1 b2 b3 b4 b5 b6 h7
    have INV : ∃ INV : Nat → Hp → Prop, ∀ m H', INV m H' ↔ ((∃ (n : Nat) (R as1 : List Stp) (f1 : Str → Int) (W1 : List Str), m = n + 1 ∧ PlS K S cs B H' pl f1 W1 kk R none "moving" ∧ StpsOk S cs R ∧ wsum ω R ≤ 1000 ∧ Adv cs n R as1 o R' ∧ W1.length + n ≤ 40000 ∧ W1 ++ wordsOf as1 = W ++ wordsOf as ∧ doAll as1 f1 = doAll as f) ∨
        (m = 0 ∧ PlS K S cs B H' pl (doAll as f) (W ++ wordsOf as) kk R' o (sdOf o))) := ⟨_, fun m H' => Iff.rfl⟩
    obtain ⟨INV, hINV⟩ := INV
    refine ⟨fun m σ H' => σ = [some (.ref pl)] ∧ INV m H', ⟨n + 1, rfl, (hINV _ _).mpr (.inl ⟨n, R, as, f, W, rfl, P0, hok, hwR, hA, hWn, rfl, rfl⟩)⟩, ?_⟩
    rintro m σ H2 ⟨rfl, hm⟩
    rcases (hINV _ _).mp hm with ⟨n1', R1, as1, f1, W1, rfl, q1, q2, q3, q4, q5, q6, q7⟩ | ⟨rfl, q1⟩
    · obtain ⟨dx, s, fi, sc, cu, hd, wo, gi, op, asv, le, rs, h1, h2, h3, h4, h5, h6, h7, h8, ⟨b1, b2, b3, b4, b5, b6⟩, ⟨n1, n2, n3⟩, hB⟩ := id q1
      obtain rfl : asv = .non := h8
      obtain ⟨dn, tn, kvs, nh1, nh2, _⟩ := id h3
      refine ⟨_, rfl, pl, _, dx, _, _, rfl, h1, T.c_Play, T.n_Play_standing, lk_sd, rfl, _, rfl, ite2 (fun _ => ?_) (fun y => absurd (decide_eq_true rfl) y)⟩
      refine ⟨fun σ H' => ∃ m', m' < n1' + 1 ∧ σ = [some (.ref pl)] ∧ INV m' H', fun σ' H' y => y, ?_⟩
      refine ⟨_, rfl, pl, _, dx, _, _, rfl, h1, T.c_Play, T.n_Play_left, lk_le, _, (rs.map V.ref).length, rfl, .inl ⟨_, SqL.of h6, rfl⟩, rfl, _, rfl, ?_⟩
      cases hR1 : R1 with
      | nil =>
        subst hR1
        have er : rs = [] := List.length_eq_zero_iff.mp h7.1
        subst er
        refine ite2 (fun _ => ?_) (fun y => absurd (decide_eq_true rfl) y)
        refine ⟨_, rfl, pl, _, dx, _, rfl, h1, T.c_Play, T.n_Play_standing, (by show 10 < 1000; decide), ?_⟩
        rw [put_sd]
        have k1 : Kp [pl] H2 (upd H2 pl (.ins (He.ga K "Play") dx (pfs (.ref s) fi sc (.ref cu) (.ref wo) (.ref gi) op .non (.ref le) (.str "ended")))) := (Kp.refl [pl] H2).upd (on1 pl)
        refine ⟨0, Nat.succ_pos _, rfl, (hINV _ _).mpr (.inr ⟨rfl, ?_⟩)⟩
        cases q4 with
        | done =>
          have eW : W ++ wordsOf as = W1 := by
            rw [← q6]
            exact List.append_nil W1
          rw [eW, ← q7]
          exact ⟨dx, s, fi, sc, cu, hd, wo, gi, op, .non, le, [], upd_same, h2, h3.kp k1 (off1 (ne_of nh1 h1 (fun z => pfs_ne z.symm))) (off1 (ne_of nh2 h1 (by intro z; cases z))), k1 _ _ h4 (off1 (ne_of h4 h1 (by intro z; cases z))), k1 _ _ h5 (off1 (ne_of h5 h1 (by intro z; cases z))), k1 _ _ h6 (off1 (ne_of h6 h1 (by intro z; cases z))), h7, rfl, ⟨b1, b2, b3, b4, b5, b6⟩, ⟨n1, n2, n3⟩, fun b o y => k1 b o (hB b o y) (off1 (ne_of_none y b1))⟩
      | cons stp R2 =>
        subst hR1
        rw [List.reverse_cons] at h7
        obtain ⟨rs', r, rfl, hp', hat⟩ := h7.last
        refine ite2 (fun y => ?_) (fun _ => ?_)
        · have y := V.int.inj (of_decide_eq_true y)
          rw [List.length_map, List.length_append] at y
          simp at y
          omega
        have edl : ((rs' ++ [r]).map V.ref).dropLast = rs'.map V.ref := by
          rw [List.map_append]
          exact List.dropLast_concat
        refine ⟨_, rfl, pl, dx, _, rfl, h1, lk_do, _, rfl, pl, _, dx, _, _, rfl, h1, T.c_Play, T.n_Play_left, lk_le, .inl ⟨rfl, _, SqL.of h6⟩, le, _, .ref r, rfl, rfl, h6, ?_, ?_⟩
        · rw [List.map_append, List.length_append, List.length_map]
          show _[rs'.length + 1 - 1]? = _
          rw [Nat.add_sub_cancel, List.getElem?_append_right (by rw [List.length_map]; exact Nat.le_refl _), List.length_map, Nat.sub_self]
          rfl
        rw [edl]
        have k1 : Kp [le] H2 (upd H2 le (.lst (rs'.map V.ref))) := (Kp.refl [le] H2).upd (on1 le)
        have P1 : PlS K S cs B (upd H2 le (.lst (rs'.map V.ref))) pl f1 W1 kk R2 none "moving" :=
          ⟨dx, s, fi, sc, cu, hd, wo, gi, op, .non, le, rs', k1 _ _ h1 (off1 (ne_of h1 h6 (by intro z; cases z))), h2, h3.kp k1 (off1 (ne_of nh1 h6 (by intro z; cases z))) (off1 (ne_of nh2 h6 (by intro z; cases z))), k1 _ _ h4 (off1 n2), k1 _ _ h5 (off1 n3), upd_same, hp', rfl, ⟨b1, b2, b3, b4, b5, b6⟩, ⟨n1, n2, n3⟩, fun b o y => k1 b o (hB b o y) (off1 (ne_of_none y b6))⟩
        have q2' : StpsOk S cs R2 := fun s m => q2 s (List.mem_cons_of_mem _ m)
        have q3' := q3
        rw [wsum_cons] at q3'
        have lR2 := wsum_len ω hω.1 R2
        refine ⟨pl, r, B, f1, W1, kk, R2, stp, rfl, hat, P1, hnd, q2, hcl, by omega, by omega, fun H3 res => ?_⟩
        cases q4 with
        | ask hc1 hs1 =>
          rename_i i0 c0
          obtain ⟨i', c', hc', hn', hr⟩ := res
          have ec : c' = c0 := by
            have g1 : (cs.map Scn.name)[i']? = some c0.name := by rw [List.getElem?_map, hc', ← hn']; rfl
            have g2 : (cs.map Scn.name)[i0]? = some c0.name := by rw [List.getElem?_map, hc1]; rfl
            have := nodup_idx _ hnd i' i0 _ g1 g2
            subst this
            rw [hc'] at hc1
            exact Option.some.inj hc1
          subst ec
          rcases hr with ⟨hf, _⟩ | ⟨_, hp⟩
          · rw [hs1] at hf
            cases hf
          refine ⟨0, Nat.succ_pos _, rfl, (hINV _ _).mpr (.inr ⟨rfl, ?_⟩)⟩
          have eW : W ++ wordsOf as = W1 := by
            rw [← q6]
            exact List.append_nil W1
          rw [eW, ← q7]
          exact hp
        | sho hA2 =>
          rename_i n2 x as2
          refine ⟨n2 + 1, Nat.lt_succ_self _, rfl, (hINV _ _).mpr (.inl ⟨n2, R2, as2, f1, W1 ++ [x], rfl, res, q2', by omega, hA2, by rw [List.length_append]; show W1.length + 1 + n2 ≤ _; omega, ?_, q7⟩)⟩
          rw [List.append_assoc]
          exact q6
        | st hA2 =>
          rename_i n2 x i as2
          exact ⟨n2 + 1, Nat.lt_succ_self _, rfl, (hINV _ _).mpr (.inl ⟨n2, R2, as2, _, W1, rfl, res, q2', by omega, hA2, by omega, q6, q7⟩)⟩
        | ad hA2 =>
          rename_i n2 x i as2
          exact ⟨n2 + 1, Nat.lt_succ_self _, rfl, (hINV _ _).mpr (.inl ⟨n2, R2, as2, _, W1, rfl, res, q2', by omega, hA2, by omega, q6, q7⟩)⟩
        | opn hc1 hs1 hA2 =>
          rename_i n2 i0 c0
          obtain ⟨i', c', hc', hn', hr⟩ := res
          have ec : c' = c0 := by
            have g1 : (cs.map Scn.name)[i']? = some c0.name := by rw [List.getElem?_map, hc', ← hn']; rfl
            have g2 : (cs.map Scn.name)[i0]? = some c0.name := by rw [List.getElem?_map, hc1]; rfl
            have := nodup_idx _ hnd i' i0 _ g1 g2
            subst this
            rw [hc'] at hc1
            exact Option.some.inj hc1
          subst ec
          rcases hr with ⟨_, hp⟩ | ⟨hf, _⟩
          · have wc := hω.2 c' (List.mem_of_getElem? hc')
            refine ⟨n2 + 1, Nat.lt_succ_self _, rfl, (hINV _ _).mpr (.inl ⟨n2, c'.steps ++ R2, as1, f1, W1, rfl, hp, (hcs _ (List.mem_of_getElem? hc')).append q2', by rw [wsum_app]; omega, hA2, by omega, q6, q7⟩)⟩
          · rw [hs1] at hf
            cases hf
    · obtain ⟨dx, s, fi, sc, cu, hd, wo, gi, op, asv, le, rs, h1, h2, h3⟩ := id q1
      refine ⟨_, rfl, pl, _, dx, _, _, rfl, h1, T.c_Play, T.n_Play_standing, lk_sd, rfl, _, rfl, ite2 (fun y => ?_) (fun _ => ?_)⟩
      · cases o with
        | none => exact absurd (of_decide_eq_true y) (show ¬ (V.str "ended" = V.str "moving") by decide +kernel)
        | some c => exact absurd (of_decide_eq_true y) (show ¬ (V.str "asking" = V.str "moving") by decide +kernel)
      · exact k H2 q1
end
end Sk
set_option Elab.async false
set_option linter.all false
set_option maxRecDepth 100000
set_option maxHeartbeats 4000000
namespace Sk
open PySem L2
section
variable {P : Program} {w : World} {K : PySem.W.Frag} {mg : Str → Option Value} {base : Heap} {S : List Str}
def spAns (K : PySem.W.Frag) (S : List Str) (cs : List Scn) : Sp := fun vs H Q _ => ∃ (pl : Addr) (B : Hp) (f : Str → Int) (W : List Str) (k : Nat) (R as R' : List Stp) (o : Option Scn) (n i : Nat) (c : Scn) (ω : Stp → Nat), vs = [.ref pl, .str "watch"] ∧ PlS K S cs B H pl f W k R (some c) "asking" ∧ cs[i]? = some c ∧ (cs.map Scn.name).Nodup ∧ (∀ c ∈ cs, StpsOk S cs c.steps) ∧ (∀ c ∈ cs, c.steps.length ≤ 1000) ∧ StpsOk S cs R ∧
  WtOk cs ω ∧ wsum ω (c.steps ++ R) ≤ 1000 ∧ Adv cs n (c.steps ++ R) as o R' ∧ W.length + n ≤ 40000 ∧ k ≤ 1000 ∧ ∀ H', PlS K S cs B H' pl (doAll as f) (W ++ wordsOf as) (k + 1) R' o (sdOf o) → Q .non H'
theorem ok_ans (T : TX K mg) (hS : SOk S) (cs : List Scn) : Ok P w K mg base CX0 6 a_Play_answer p_Play_answer (spAns K S cs) := by
  obtain ⟨fd, F⟩ := T.d.def_ 50 (d := d_Play_answer) rfl
  obtain ⟨_, O_find_scene⟩ := ok_find (P := P) (w := w) (base := base) T
  obtain ⟨_, O_Play_advance⟩ := ok_padv (P := P) (w := w) (base := base) T hS cs
  have b : Binds K fd p_Play_answer [] := FunD.bindsN F fun _ _ _ _ _ _ us hl => match us, hl with | [_, _], _ => rfl
  refine ⟨fd, F.ok sc_Play_answer (fun vs H Q E h => ?_) (fun cdv A outer s H vs Q E hr h => ?_), b, F.kp⟩
  · obtain ⟨z, _, _, _, _, _, _, _, _, _, _, _, _, rfl, _⟩ := h
    rfl
  · obtain ⟨pl, B, f, W, kk, R, as, R', o, n, i, c, ω, rfl, hP, hci, hnd, hcs, hcl, hok, hω, hwR, hA, hWn, hk, k⟩ := h
    obtain ⟨dx, s, fi, sc, cu, hd, wo, gi, op, asv, le, rs, h1, h2, h3, h4, h5, h6, h7, ⟨tq, rfl, h8⟩, ⟨b1, b2, b3, b4, b5, b6⟩, ⟨n1, n2, n3⟩, hB⟩ := id hP
    obtain ⟨dn, tn, kvs, nh1, nh2, _⟩ := id h3
    refine ⟨_, PSs.nox (pss_cons (ps_if (pt_cmpR op_isN (pe_fldK (K := K) (pv 0)) pe_non (nomark _)) pss_never pss_nil)
      (pss_cons (ps_asg (pe_fldK (K := K) (pv 0)) (pg_tupK (K := K) (n := 2) (pgs_cons (pg_name (i := 2) sc_Play_answer.nd rfl (Or.inl rfl)) (pgs_cons (pg_name (i := 3) sc_Play_answer.nd rfl (Or.inl rfl)) pgs_nil))))
      (pss_cons (ps_set (i := 4) sc_Play_answer.nd rfl (Or.inl rfl) (pe_ifExp (pt_cmpR op_eq (pv 2) pe_str (nomark _)) (pe_lst (pa_cons pe_str (pa_cons pe_str pa_nil))) (pv 3)))
      (pss_cons
      (ps_if (PW.pt (pw_or (pt_not (pt_val (pe_callB (isiK (K := K)) rfl (T.free_isinstance) (by decide +kernel) (pa_cons (pv 1) (pa_cons (pe_bltn (v := .ty "str") rfl (T.free_str) (by decide +kernel) rfl) pa_nil))))) (pw_or1 (pt_cmpR (notInSK (K := K)) (pv 1) (pv 4) (by rfl))))) pss_never pss_nil)
      (pss_cons (ps_expr (pe_bm PySem.F.plainAttrs_list PySem.F.slot_list_append PySem.F.type_list_append mt_append (pe_fldK (K := K) (pv 0)) (pa_cons (pv 1) pa_nil)))
      (pss_cons (ps_if (pt_cmpR op_eq (pv 2) pe_str (nomark _)) pss_never (pss_one (ps_if (pt_cmpR op_eq (pv 1) pe_str (nomark _))
      (pss_one (ps_expr (pe_bm PySem.F.plainAttrs_list PySem.F.slot_list_extend PySem.F.type_list_extend mt_extend (pe_fldK (K := K) (pv 0)) (pa_cons (pe_revL (pe_ix (ix_tupK (K := K)) (pcall O_find_scene (hr.mono (by decide)) rfl (T.g_find_scene) pass0 (pa_cons (pe_fldK (K := K) (pv 0)) (pa_cons (pv 3) pa_nil))) pe_int (fun _ _ => rfl))) pa_nil)))) pss_never)))
      (pss_one (ps_expr (pe_meth0 (pv 0) T.c_Play T.m_Play_advance O_Play_advance.fn (hr.mono (by decide)) O_Play_advance.b .nil pass0))))))))), ?_⟩
    refine ⟨_, rfl, pl, _, dx, _, _, rfl, h1, T.c_Play, T.n_Play_asked, lk_as, rfl, _, rfl, ite2 (fun y => ?_) (fun _ => ?_)⟩
    · have := of_decide_eq_true y
      cases this
    refine ⟨_, rfl, pl, _, dx, _, _, rfl, h1, T.c_Play, T.n_Play_asked, lk_as, tq, _, rfl, SqT.of h8, rfl, _, _, rfl, _, _, rfl, rfl, ?_⟩
    refine ⟨_, rfl, rfl, _, rfl, ?_⟩
    refine ite2 (fun _ => ?_) (fun c => absurd (decide_eq_true (by first | rfl | decide +kernel)) c)
    refine ⟨small (by show 2 ≤ 100000; decide), fun ps hps => ?_⟩
    have e1 := (Ex.refl H).new (o := .lst [.str "watch", .str "skip"]) hps
    have gps : (upd H ps (.lst [.str "watch", .str "skip"])) ps = some (.lst [.str "watch", .str "skip"]) := upd_same
    generalize upd H ps (.lst [.str "watch", .str "skip"]) = H1 at e1 gps
    refine ⟨_, rfl, _, _, _, _, true, rfl, .ty _, .base (.str _), kit_ss, true, rfl, ?_⟩
    refine nope ?_
    refine ⟨_, rfl, _, rfl, ps, _, rfl, .inl (SqL.of gps), rfl, rfl, ?_⟩
    have ein : (if true = true then !inV (.str "watch") [.str "watch", .str "skip"] else inV (.str "watch") [.str "watch", .str "skip"]) = false := by decide +kernel
    rw [ein]
    refine ⟨false, rfl, ?_⟩
    refine nope ?_
    -- given.append
    refine ⟨_, rfl, pl, _, dx, _, _, rfl, e1 _ _ h1, T.c_Play, T.n_Play_given, lk_gi, .inl ⟨rfl, _, SqL.of (e1 _ _ h5)⟩, _, rfl, gi, _, _, rfl, rfl, e1 _ _ h5, by rw [List.length_replicate]; exact small' (by omega), ?_⟩
    have k2 : Kp [gi, le] H (upd H1 gi (.lst (List.replicate kk (.str "watch") ++ [.str "watch"]))) := (e1.kp _).upd List.mem_cons_self
    have g2 : (upd H1 gi (.lst (List.replicate kk (.str "watch") ++ [.str "watch"]))) gi = some (.lst (List.replicate (kk + 1) (.str "watch"))) := by
      rw [upd_same, List.replicate_succ']
    have l2 : (upd H1 gi (.lst (List.replicate kk (.str "watch") ++ [.str "watch"]))) le = some (.lst (rs.map V.ref)) := by rw [upd_ne n3.symm]; exact e1 _ _ h6
    generalize upd H1 gi (.lst (List.replicate kk (.str "watch") ++ [.str "watch"])) = H2 at k2 g2 l2
    have offI : ∀ {b : Addr} {C dy : Addr} {fs : List (Str × V)}, H b = some (.ins C dy fs) → b ∉ [gi, le] := fun {b C dy fs} y m => by
      rcases List.mem_cons.mp m with m | m
      · exact ne_of y h5 (by intro z; cases z) m
      · exact ne_of y h6 (by intro z; cases z) (List.mem_singleton.mp m)
    have offB : ∀ {b : Addr} {u : HO}, B b = some u → b ∉ [gi, le] := fun {b u} y m => by
      rcases List.mem_cons.mp m with m | m
      · exact ne_of_none y b5 m
      · exact ne_of_none y b6 (List.mem_singleton.mp m)
    have offH : hd ∉ [gi, le] := fun m => by
      rcases List.mem_cons.mp m with m | m
      · exact ne_of nh2 h5 (by intro z; cases z) m
      · exact ne_of nh2 h6 (by intro z; cases z) (List.mem_singleton.mp m)
    have offW : wo ∉ [gi, le] := fun m => by
      rcases List.mem_cons.mp m with m | m
      · exact n1 m
      · exact n2 (List.mem_singleton.mp m)
    have hB2 : Ex B H2 := fun b o y => k2 b o (hB b o y) (offB y)
    have h1' := k2 _ _ h1 (offI h1)
    refine ⟨_, rfl, rfl, _, rfl, ?_⟩
    refine ite2 (fun c => absurd (of_decide_eq_true c) (by decide +kernel)) (fun _ => ?_)
    refine ⟨_, rfl, rfl, _, rfl, ?_⟩
    refine ite2 (fun _ => ?_) (fun c => absurd (decide_eq_true (by first | rfl | decide +kernel)) c)
    -- left.extend
    refine ⟨_, rfl, pl, _, dx, _, _, rfl, h1', T.c_Play, T.n_Play_left, lk_le, .inl ⟨rfl, _, SqL.of l2⟩, ?_⟩
    refine ⟨_, rfl, pl, _, dx, _, _, rfl, h1', T.c_Play, T.n_Play_story, lk_st, _, rfl, s, cs, i, c, B, rfl, h2, hnd, hci, hB2, fun a ha => ?_⟩
    obtain ⟨la, va, g1, ⟨ls, gl, g3⟩, g4⟩ := ha
    refine ⟨a, _, 1, _, rfl, rfl, SqT.of (hB2 _ _ g1), rfl, la, _, rfl, SqL.of (hB2 _ _ gl), fun q hq => ?_⟩
    have e3 := (Ex.refl H2).new (o := .lst (ls.map V.ref).reverse) hq
    have lls : ls.length ≤ 1000 := by
      rw [g3.1]
      exact hcl c (List.mem_of_getElem? hci)
    have wl := wsum_len ω hω.1 R
    have wa := wsum_app ω c.steps R
    have lrs : rs.length ≤ 1000 := by
      rw [h7.1, List.length_reverse]
      omega
    refine ⟨le, q, _, _, rfl, rfl, e3 _ _ l2, upd_same, by rw [List.length_map, List.length_reverse, List.length_map]; exact small (by omega), ?_⟩
    have eq : rs.map V.ref ++ (ls.map V.ref).reverse = (rs ++ ls.reverse).map V.ref := by rw [List.map_append, List.map_reverse]
    rw [eq]
    have k4 : Kp [gi, le] H (upd (upd H2 q (.lst (ls.map V.ref).reverse)) le (.lst ((rs ++ ls.reverse).map V.ref))) := (k2.ex e3).upd (List.mem_cons_of_mem _ (on1 le))
    have g5 : (upd (upd H2 q (.lst (ls.map V.ref).reverse)) le (.lst ((rs ++ ls.reverse).map V.ref))) gi = some (.lst (List.replicate (kk + 1) (.str "watch"))) := by rw [upd_ne n3]; exact e3 _ _ g2
    have l5 : (upd (upd H2 q (.lst (ls.map V.ref).reverse)) le (.lst ((rs ++ ls.reverse).map V.ref))) le = some (.lst ((rs ++ ls.reverse).map V.ref)) := upd_same
    generalize upd (upd H2 q (.lst (ls.map V.ref).reverse)) le (.lst ((rs ++ ls.reverse).map V.ref)) = H5 at k4 g5 l5
    have h15 := k4 _ _ h1 (offI h1)
    refine ⟨_, rfl, pl, dx, _, rfl, h15, lk_advance, pl, B, f, W, kk + 1, c.steps ++ R, as, R', o, n, ω, rfl, ?_, hnd, hcs, hcl, (hcs c (List.mem_of_getElem? hci)).append hok, hω, hwR, hA, hWn, k⟩
    refine ⟨dx, s, fi, sc, cu, hd, wo, gi, op, .ref tq, le, rs ++ ls.reverse, _, h15, ⟨by show 3 ≤ 10; decide, by show 10 ≤ 10; decide, fun v => put_sd⟩, h2, h3.kp k4 (offI nh1) offH, k4 _ _ h4 offW, g5, l5, ?_, ⟨b1, b2, b3, b4, b5, b6⟩, ⟨n1, n2, n3⟩, fun b o y => k4 b o (hB b o y) (offB y)⟩
    rw [List.reverse_append]
    exact h7.append g3.reverse
end
end Sk
set_option Elab.async false
set_option linter.all false
set_option maxRecDepth 100000
set_option maxHeartbeats 4000000
namespace Sk
open PySem L2
def p3 (st fi sc : V) : List (Str × V) := [("story", st), ("first", fi), ("scene", sc)]
def p4 (st fi sc cu : V) : List (Str × V) := [("story", st), ("first", fi), ("scene", sc), ("current", cu)]
def p5 (st fi sc cu wo : V) : List (Str × V) := [("story", st), ("first", fi), ("scene", sc), ("current", cu), ("words", wo)]
def p6 (st fi sc cu wo gi : V) : List (Str × V) := [("story", st), ("first", fi), ("scene", sc), ("current", cu), ("words", wo), ("given", gi)]
def p7 (st fi sc cu wo gi op : V) : List (Str × V) := [("story", st), ("first", fi), ("scene", sc), ("current", cu), ("words", wo), ("given", gi), ("options", op)]
def p8 (st fi sc cu wo gi op as : V) : List (Str × V) := [("story", st), ("first", fi), ("scene", sc), ("current", cu), ("words", wo), ("given", gi), ("options", op), ("asked", as)]
def p9 (st fi sc cu wo gi op as le : V) : List (Str × V) := [("story", st), ("first", fi), ("scene", sc), ("current", cu), ("words", wo), ("given", gi), ("options", op), ("asked", as), ("left", le)]
section
variable {st fi sc cu wo gi op as le v : V}
theorem q4 : putF ("current" : Str) v (p3 st fi sc) = p4 st fi sc v := by rfl
theorem q5 : putF ("words" : Str) v (p4 st fi sc cu) = p5 st fi sc cu v := by rfl
theorem q6 : putF ("given" : Str) v (p5 st fi sc cu wo) = p6 st fi sc cu wo v := by rfl
theorem q7 : putF ("options" : Str) v (p6 st fi sc cu wo gi) = p7 st fi sc cu wo gi v := by rfl
theorem q8 : putF ("asked" : Str) v (p7 st fi sc cu wo gi op) = p8 st fi sc cu wo gi op v := by rfl
theorem q9 : putF ("left" : Str) v (p8 st fi sc cu wo gi op as) = p9 st fi sc cu wo gi op as v := by rfl
theorem q10 : putF ("standing" : Str) v (p9 st fi sc cu wo gi op as le) = pfs st fi sc cu wo gi op as le v := by rfl
theorem l3 : (p3 st fi sc).lookup ("first" : Str) = some fi := by rfl
theorem l8a : (p8 st fi sc cu wo gi op as).lookup ("story" : Str) = some st := by rfl
theorem l8b : (p8 st fi sc cu wo gi op as).lookup ("scene" : Str) = some sc := by rfl
theorem l9 : (p9 st fi sc cu wo gi op as le).lookup ("advance" : Str) = none := by rfl
theorem l3r : (p3 st fi sc).lookup ("restart" : Str) = none := by rfl
end
section
variable {P : Program} {w : World} {K : PySem.W.Frag} {mg : Str → Option Value} {base : Heap} {S : List Str}
def spRest (K : PySem.W.Frag) (S : List Str) (cs : List Scn) : Sp := fun vs H Q _ => ∃ (pl dx s fi hfi : Addr) (B : Hp) (f : Str → Int) (as R' : List Stp) (o : Option Scn) (n i : Nat) (c : Scn) (ω : Stp → Nat), vs = [.ref pl] ∧ H pl = some (.ins (He.ga K "Play") dx (p3 (.ref s) (.ref fi) (.str c.name))) ∧ B pl = none ∧ Ex B H ∧ StoryAt K B s cs ∧ NotesA K S H fi hfi f ∧ cs[i]? = some c ∧ (cs.map Scn.name).Nodup ∧ (∀ c ∈ cs, StpsOk S cs c.steps) ∧ (∀ c ∈ cs, c.steps.length ≤ 1000) ∧
  WtOk cs ω ∧ wsum ω c.steps ≤ 1000 ∧ Adv cs n c.steps as o R' ∧ n ≤ 40000 ∧ ∀ H', PlS K S cs B H' pl (doAll as f) (wordsOf as) 0 R' o (sdOf o) → Q .non H'
theorem ok_rest (T : TX K mg) (hS : SOk S) (cs : List Scn) : Ok P w K mg base CX0 6 a_Play_restart p_Play_restart (spRest K S cs) := by
  obtain ⟨fd, F⟩ := T.d.def_ 45 (d := d_Play_restart) rfl
  obtain ⟨_, O_copied⟩ := ok_copied (P := P) (w := w) (base := base) T hS
  obtain ⟨_, O_find_scene⟩ := ok_find (P := P) (w := w) (base := base) T
  obtain ⟨_, O_Play_advance⟩ := ok_padv (P := P) (w := w) (base := base) T hS cs
  have b : Binds K fd p_Play_restart [] := FunD.bindsN F fun _ _ _ _ _ _ us hl => match us, hl with | [_], _ => rfl
  refine ⟨fd, F.ok sc_Play_restart (fun vs H Q E h => ?_) (fun cdv A outer s H vs Q E hr h => ?_), b, F.kp⟩
  · obtain ⟨z, _, _, _, _, _, _, _, _, _, _, _, _, _, rfl, _⟩ := h
    rfl
  · obtain ⟨pl, dx, s, fi, hfi, B, f, as, R', o, n, i, c, ω, rfl, h1, hBp, hB, hst, hN, hci, hnd, hcs, hcl, hω, hw, hA, hn, k⟩ := h
    refine ⟨_, PSs.nox (pss_cons (ps_fld (pv 0) (pcall O_copied (hr.mono (by decide)) rfl (T.g_copied) pass0 (pa_cons (pe_fldK (K := K) (pv 0)) pa_nil)) rfl)
      (pss_cons (ps_fld (pv 0) (pe_lst pa_nil) rfl) (pss_cons (ps_fld (pv 0) (pe_lst pa_nil) rfl) (pss_cons (ps_fld (pv 0) (pe_lst pa_nil) rfl)
      (pss_cons (ps_fld (pv 0) pe_non rfl)
      (pss_cons (ps_fld (pv 0) (pe_revL (pe_ix (ix_tupK (K := K)) (pcall O_find_scene (hr.mono (by decide)) rfl (T.g_find_scene) pass0 (pa_cons (pe_fldK (K := K) (pv 0)) (pa_cons (pe_fldK (K := K) (pv 0)) pa_nil))) pe_int (fun _ _ => rfl))) rfl)
      (pss_one (ps_expr (pe_meth0 (pv 0) T.c_Play T.m_Play_advance O_Play_advance.fn (hr.mono (by decide)) O_Play_advance.b .nil pass0))))))))), ?_⟩
    refine ⟨_, rfl, pl, _, dx, _, _, rfl, h1, T.c_Play, T.n_Play_first, l3, fi, hfi, f, rfl, hN, fun m hd H1 e1 hm hhd N1 => ?_⟩
    have npm : pl ≠ m := ne_of_none h1 hm
    have nph : pl ≠ hd := ne_of_none h1 hhd
    refine ⟨_, rfl, pl, _, dx, _, rfl, e1 _ _ h1, T.c_Play, T.n_Play_current, (by show 3 < 1000; decide), ?_⟩
    rw [q4]
    have k2 : Kp [pl] H1 (upd H1 pl (.ins (He.ga K "Play") dx (p4 (.ref s) (.ref fi) (.str c.name) (.ref m)))) := (Kp.refl _ _).upd (on1 pl)
    have g2 : (upd H1 pl (.ins (He.ga K "Play") dx (p4 (.ref s) (.ref fi) (.str c.name) (.ref m)))) pl = some (.ins (He.ga K "Play") dx (p4 (.ref s) (.ref fi) (.str c.name) (.ref m))) := upd_same
    have N2 := N1.kp k2 (off1 npm.symm) (off1 nph.symm)
    have B2 : Ex B (upd H1 pl (.ins (He.ga K "Play") dx (p4 (.ref s) (.ref fi) (.str c.name) (.ref m)))) := fun b o y => k2 b o (e1 _ _ (hB b o y)) (off1 (ne_of_none y hBp))
    have fm : B m = none := hB.back hm
    have fh : B hd = none := hB.back hhd
    generalize upd H1 pl (.ins (He.ga K "Play") dx (p4 (.ref s) (.ref fi) (.str c.name) (.ref m))) = H2 at k2 g2 N2 B2
    -- words
    refine ⟨Nat.zero_le _, fun wo hwo => ?_⟩
    have fw := B2.back hwo
    have e3 := (Ex.refl H2).new (o := .lst []) hwo
    have npw : pl ≠ wo := ne_of_none g2 hwo
    refine ⟨_, rfl, pl, _, dx, _, rfl, e3 _ _ g2, T.c_Play, T.n_Play_words, (by show 4 < 1000; decide), ?_⟩
    rw [q5]
    have k3 : Kp [pl] H2 (upd (upd H2 wo (.lst [])) pl (.ins (He.ga K "Play") dx (p5 (.ref s) (.ref fi) (.str c.name) (.ref m) (.ref wo)))) := (e3.kp _).upd (on1 pl)
    have g3 : (upd (upd H2 wo (.lst [])) pl (.ins (He.ga K "Play") dx (p5 (.ref s) (.ref fi) (.str c.name) (.ref m) (.ref wo)))) pl = some (.ins (He.ga K "Play") dx (p5 (.ref s) (.ref fi) (.str c.name) (.ref m) (.ref wo))) := upd_same
    have w3 : (upd (upd H2 wo (.lst [])) pl (.ins (He.ga K "Play") dx (p5 (.ref s) (.ref fi) (.str c.name) (.ref m) (.ref wo)))) wo = some (.lst []) := by rw [upd_ne npw.symm, upd_same]
    generalize upd (upd H2 wo (.lst [])) pl (.ins (He.ga K "Play") dx (p5 (.ref s) (.ref fi) (.str c.name) (.ref m) (.ref wo))) = H3 at k3 g3 w3
    have N3 := N2.kp k3 (off1 npm.symm) (off1 nph.symm)
    have B3 : Ex B H3 := fun b o y => k3 b o (B2 b o y) (off1 (ne_of_none y hBp))
    -- given
    refine ⟨Nat.zero_le _, fun gi hgi => ?_⟩
    have fg := B3.back hgi
    have e4 := (Ex.refl H3).new (o := .lst []) hgi
    have npg : pl ≠ gi := ne_of_none g3 hgi
    have nwg : wo ≠ gi := ne_of_none w3 hgi
    refine ⟨_, rfl, pl, _, dx, _, rfl, e4 _ _ g3, T.c_Play, T.n_Play_given, (by show 5 < 1000; decide), ?_⟩
    rw [q6]
    have k4 : Kp [pl] H3 (upd (upd H3 gi (.lst [])) pl (.ins (He.ga K "Play") dx (p6 (.ref s) (.ref fi) (.str c.name) (.ref m) (.ref wo) (.ref gi)))) := (e4.kp _).upd (on1 pl)
    have g4 : (upd (upd H3 gi (.lst [])) pl (.ins (He.ga K "Play") dx (p6 (.ref s) (.ref fi) (.str c.name) (.ref m) (.ref wo) (.ref gi)))) pl = some (.ins (He.ga K "Play") dx (p6 (.ref s) (.ref fi) (.str c.name) (.ref m) (.ref wo) (.ref gi))) := upd_same
    have i4 : (upd (upd H3 gi (.lst [])) pl (.ins (He.ga K "Play") dx (p6 (.ref s) (.ref fi) (.str c.name) (.ref m) (.ref wo) (.ref gi)))) gi = some (.lst []) := by rw [upd_ne npg.symm, upd_same]
    generalize upd (upd H3 gi (.lst [])) pl (.ins (He.ga K "Play") dx (p6 (.ref s) (.ref fi) (.str c.name) (.ref m) (.ref wo) (.ref gi))) = H4 at k4 g4 i4
    have N4 := N3.kp k4 (off1 npm.symm) (off1 nph.symm)
    have B4 : Ex B H4 := fun b o y => k4 b o (B3 b o y) (off1 (ne_of_none y hBp))
    have w4 := k4 _ _ w3 (off1 npw.symm)
    -- options, asked
    refine ⟨Nat.zero_le _, fun op hop => ?_⟩
    have e5 := (Ex.refl H4).new (o := .lst []) hop
    refine ⟨_, rfl, pl, _, dx, _, rfl, e5 _ _ g4, T.c_Play, T.n_Play_options, (by show 6 < 1000; decide), ?_⟩
    rw [q7]
    refine ⟨_, rfl, pl, _, dx, _, rfl, upd_same, T.c_Play, T.n_Play_asked, (by show 7 < 1000; decide), ?_⟩
    rw [q8]
    have k5 : Kp [pl] H4 (upd (upd (upd H4 op (.lst [])) pl (.ins (He.ga K "Play") dx (p7 (.ref s) (.ref fi) (.str c.name) (.ref m) (.ref wo) (.ref gi) (.ref op)))) pl (.ins (He.ga K "Play") dx (p8 (.ref s) (.ref fi) (.str c.name) (.ref m) (.ref wo) (.ref gi) (.ref op) .non))) := ((e5.kp _).upd (on1 pl)).upd (on1 pl)
    have g5 : (upd (upd (upd H4 op (.lst [])) pl (.ins (He.ga K "Play") dx (p7 (.ref s) (.ref fi) (.str c.name) (.ref m) (.ref wo) (.ref gi) (.ref op)))) pl (.ins (He.ga K "Play") dx (p8 (.ref s) (.ref fi) (.str c.name) (.ref m) (.ref wo) (.ref gi) (.ref op) .non))) pl = some (.ins (He.ga K "Play") dx (p8 (.ref s) (.ref fi) (.str c.name) (.ref m) (.ref wo) (.ref gi) (.ref op) .non)) := upd_same
    generalize upd (upd (upd H4 op (.lst [])) pl (.ins (He.ga K "Play") dx (p7 (.ref s) (.ref fi) (.str c.name) (.ref m) (.ref wo) (.ref gi) (.ref op)))) pl (.ins (He.ga K "Play") dx (p8 (.ref s) (.ref fi) (.str c.name) (.ref m) (.ref wo) (.ref gi) (.ref op) .non)) = H5 at k5 g5
    have N5 := N4.kp k5 (off1 npm.symm) (off1 nph.symm)
    have B5 : Ex B H5 := fun b o y => k5 b o (B4 b o y) (off1 (ne_of_none y hBp))
    have w5 := k5 _ _ w4 (off1 npw.symm)
    have i5 := k5 _ _ i4 (off1 npg.symm)
    -- left
    refine ⟨_, rfl, pl, _, dx, _, _, rfl, g5, T.c_Play, T.n_Play_story, l8a, _, rfl, pl, _, dx, _, _, rfl, g5, T.c_Play, T.n_Play_scene, l8b, s, cs, i, c, B, rfl, hst, hnd, hci, B5, fun a ha => ?_⟩
    obtain ⟨la, va, g1, ⟨ls, gl, g3'⟩, _⟩ := ha
    refine ⟨a, _, 1, _, rfl, rfl, SqT.of (B5 _ _ g1), rfl, la, _, rfl, SqL.of (B5 _ _ gl), fun le hle => ?_⟩
    have fl := B5.back hle
    have e6 := (Ex.refl H5).new (o := .lst (ls.map V.ref).reverse) hle
    have npl : pl ≠ le := ne_of_none g5 hle
    refine ⟨_, rfl, pl, _, dx, _, rfl, e6 _ _ g5, T.c_Play, T.n_Play_left, (by show 8 < 1000; decide), ?_⟩
    rw [q9]
    have k6 : Kp [pl] H5 (upd (upd H5 le (.lst (ls.map V.ref).reverse)) pl (.ins (He.ga K "Play") dx (p9 (.ref s) (.ref fi) (.str c.name) (.ref m) (.ref wo) (.ref gi) (.ref op) .non (.ref le)))) := (e6.kp _).upd (on1 pl)
    have g6 : (upd (upd H5 le (.lst (ls.map V.ref).reverse)) pl (.ins (He.ga K "Play") dx (p9 (.ref s) (.ref fi) (.str c.name) (.ref m) (.ref wo) (.ref gi) (.ref op) .non (.ref le)))) pl = some (.ins (He.ga K "Play") dx (p9 (.ref s) (.ref fi) (.str c.name) (.ref m) (.ref wo) (.ref gi) (.ref op) .non (.ref le))) := upd_same
    have lf6 : (upd (upd H5 le (.lst (ls.map V.ref).reverse)) pl (.ins (He.ga K "Play") dx (p9 (.ref s) (.ref fi) (.str c.name) (.ref m) (.ref wo) (.ref gi) (.ref op) .non (.ref le)))) le = some (.lst (ls.reverse.map V.ref)) := by rw [upd_ne npl.symm, upd_same, List.map_reverse]
    generalize upd (upd H5 le (.lst (ls.map V.ref).reverse)) pl (.ins (He.ga K "Play") dx (p9 (.ref s) (.ref fi) (.str c.name) (.ref m) (.ref wo) (.ref gi) (.ref op) .non (.ref le))) = H6 at k6 g6 lf6
    refine ⟨_, rfl, pl, dx, _, rfl, g6, l9, pl, B, f, [], 0, c.steps, as, R', o, n, ω, rfl, ?_, hnd, hcs, hcl, hcs c (List.mem_of_getElem? hci), hω, hw, hA, by show 0 + n ≤ _; omega, k⟩
    exact ⟨dx, s, .ref fi, .str c.name, m, hd, wo, gi, .ref op, .non, le, ls.reverse, _, g6, ⟨by show 3 ≤ 9; decide, by show 9 ≤ 10; decide, fun v => q10⟩, hst, N5.kp k6 (off1 npm.symm) (off1 nph.symm), k6 _ _ w5 (off1 npw.symm), k6 _ _ i5 (off1 npg.symm), lf6, g3'.reverse, ⟨hBp, fm, fh, fw, fg, fl⟩, ⟨nwg, ne_of_none w5 hle, ne_of_none i5 hle⟩, fun b o y => k6 b o (B5 b o y) (off1 (ne_of_none y hBp))⟩
end
end Sk
set_option Elab.async false
set_option linter.all false
set_option maxRecDepth 100000
set_option maxHeartbeats 4000000
namespace Sk
open PySem L2
section
variable {P : Program} {w : World} {K : PySem.W.Frag} {mg : Str → Option Value} {base : Heap} {S : List Str}
def p1 (st : V) : List (Str × V) := [("story", st)]
def p2 (st fi : V) : List (Str × V) := [("story", st), ("first", fi)]
theorem p1q {st : V} : putF ("story" : Str) st [] = p1 st := by rfl
theorem p2q {st fi : V} : putF ("first" : Str) fi (p1 st) = p2 st fi := by rfl
theorem p3q {st fi sc : V} : putF ("scene" : Str) sc (p2 st fi) = p3 st fi sc := by rfl
def spPlay (K : PySem.W.Frag) (S : List Str) (cs : List Scn) : Sp := fun vs H Q _ => ∃ (pl dx s n0 hd0 : Addr) (B : Hp) (f : Str → Int) (as R' : List Stp) (o : Option Scn) (n i : Nat) (c : Scn) (ω : Stp → Nat), vs = [.ref pl, .ref s, .ref n0, .str c.name] ∧ H pl = some (.ins (He.ga K "Play") dx []) ∧ B pl = none ∧ Ex B H ∧ StoryAt K B s cs ∧ NotesA K S B n0 hd0 f ∧ cs[i]? = some c ∧ (cs.map Scn.name).Nodup ∧ cs.length ≤ 100 ∧ (∀ c ∈ cs, StpsOk S cs c.steps) ∧ (∀ c ∈ cs, c.steps.length ≤ 1000) ∧
  WtOk cs ω ∧ wsum ω c.steps ≤ 1000 ∧ Adv cs n c.steps as o R' ∧ n ≤ 40000 ∧ ∀ H', PlS K S cs B H' pl (doAll as f) (wordsOf as) 0 R' o (sdOf o) → Q .non H'
theorem ok_play (T : TX K mg) (hS : SOk S) (cs : List Scn) : ∃ fd, FnOk P w K mg base CX0 7 (He.fAd K a_Play_init) fd p_Play_init (spPlay K S cs) ∧ FunD K d_Play_init.name d_Play_init.qual d_Play_init.params d_Play_init.body d_Play_init.scope (d_Play_init.dvs K) (d_Play_init.kws K) (He.fAd K d_Play_init.at_) fd := by
  obtain ⟨fd, F⟩ := T.d.def_ 44 (d := d_Play_init) rfl
  obtain ⟨_, O_copied⟩ := ok_copied (P := P) (w := w) (base := base) T hS
  obtain ⟨_, O_Story_names⟩ := ok_names (P := P) (w := w) (base := base) T
  obtain ⟨_, O_Play_restart⟩ := ok_rest (P := P) (w := w) (base := base) T hS cs
  refine ⟨fd, F.ok sc_Play_init (fun vs H Q E h => ?_) (fun cdv A outer s H vs Q E hr h => ?_), F⟩
  · obtain ⟨z, _, _, _, _, _, _, _, _, _, _, _, _, _, rfl, _⟩ := h
    rfl
  · obtain ⟨pl, dx, s, n0, hd0, B, f, as, R', o, n, i, c, ω, rfl, h1, hBp, hB, hst, hN, hci, hnd, hlen, hcs, hcl, hω, hw, hA, hn, k⟩ := h
    refine ⟨_, PSs.nox (pss_cons (ps_set (i := 4) sc_Play_init.nd rfl (Or.inl rfl) (pe_meth0 (pv 1) T.c_Story T.m_Story_names O_Story_names.fn (hr.mono (by decide)) O_Story_names.b .nil pass0))
      (pss_cons (ps_if (pt_cmpR op_isN (pv 3) pe_non (nomark _))
      (pss_one (ps_set (i := 3) sc_Play_init.nd rfl (Or.inl rfl) (pe_ix (ix_listK (K := K)) (pv 4) pe_int (fun _ _ => rfl)))) pss_nil) (pss_cons
      (ps_if (pt_cmpR (notInSK (K := K)) (pv 3) (pv 4) (by rfl)) pss_never pss_nil) (pss_cons (ps_fld (pv 0) (pv 1) rfl)
      (pss_cons (ps_fld (pv 0) (pcall O_copied (hr.mono (by decide)) rfl (T.g_copied) pass0 (pa_cons (pv 2) pa_nil)) rfl)
      (pss_cons (ps_fld (pv 0) (pv 3) rfl)
      (pss_one (ps_expr (pe_meth0 (pv 0) T.c_Play T.m_Play_restart O_Play_restart.fn (hr.mono (by decide)) O_Play_restart.b .nil pass0))))))))), ?_⟩
    obtain ⟨ds, l0, g1, g2⟩ := id hst
    refine ⟨_, rfl, s, ds, _, rfl, hB _ _ g1, look_names _, s, cs, rfl, hst.ex hB, hlen, fun q H1 e1 hq hq1 => ?_⟩
    refine ⟨_, rfl, rfl, _, rfl, ite2 (fun y => ?_) (fun _ => ?_)⟩
    · have := of_decide_eq_true y
      cases this
    have hm : c.name ∈ cs.map Scn.name := List.mem_map.mpr ⟨c, List.mem_of_getElem? hci, rfl⟩
    refine ⟨_, rfl, _, rfl, q, _, rfl, .inl (SqL.of hq1), rfl, flat_strs _, ?_⟩
    rw [inV_yes hm]
    refine ⟨false, rfl, ?_⟩
    refine nope ?_
    refine ⟨_, rfl, _, rfl, pl, _, dx, [], rfl, e1 _ _ h1, T.c_Play, T.n_Play_story, (by show 0 < 1000; decide), ?_⟩
    rw [p1q]
    have k2 : Kp [pl] H (upd H1 pl (.ins (He.ga K "Play") dx (p1 (.ref s)))) := (e1.kp _).upd (on1 pl)
    have g2' : (upd H1 pl (.ins (He.ga K "Play") dx (p1 (.ref s)))) pl = some (.ins (He.ga K "Play") dx (p1 (.ref s))) := upd_same
    have B2 : Ex B (upd H1 pl (.ins (He.ga K "Play") dx (p1 (.ref s)))) := fun b o y => k2 b o (hB b o y) (off1 (ne_of_none y hBp))
    generalize upd H1 pl (.ins (He.ga K "Play") dx (p1 (.ref s))) = H2 at k2 g2' B2
    refine ⟨_, rfl, n0, hd0, f, rfl, hN.ex B2, fun m hd H3 e3 hm3 hhd3 N3 => ?_⟩
    have npm : m ≠ pl := fun y => by
      rw [y, g2'] at hm3
      cases hm3
    have nph : hd ≠ pl := fun y => by
      rw [y, g2'] at hhd3
      cases hhd3
    refine ⟨_, rfl, pl, _, dx, _, rfl, e3 _ _ g2', T.c_Play, T.n_Play_first, (by show 1 < 1000; decide), ?_⟩
    rw [p2q]
    refine ⟨_, rfl, _, rfl, pl, _, dx, _, rfl, upd_same, T.c_Play, T.n_Play_scene, (by show 2 < 1000; decide), ?_⟩
    rw [p3q]
    have k4 : Kp [pl] H3 (upd (upd H3 pl (.ins (He.ga K "Play") dx (p2 (.ref s) (.ref m)))) pl (.ins (He.ga K "Play") dx (p3 (.ref s) (.ref m) (.str c.name)))) := ((Kp.refl _ _).upd (on1 pl)).upd (on1 pl)
    have g4 : (upd (upd H3 pl (.ins (He.ga K "Play") dx (p2 (.ref s) (.ref m)))) pl (.ins (He.ga K "Play") dx (p3 (.ref s) (.ref m) (.str c.name)))) pl = some (.ins (He.ga K "Play") dx (p3 (.ref s) (.ref m) (.str c.name))) := upd_same
    generalize upd (upd H3 pl (.ins (He.ga K "Play") dx (p2 (.ref s) (.ref m)))) pl (.ins (He.ga K "Play") dx (p3 (.ref s) (.ref m) (.str c.name))) = H4 at k4 g4
    exact ⟨_, rfl, pl, dx, _, rfl, g4, l3r, pl, dx, s, m, hd, B, f, as, R', o, n, i, c, ω, rfl, g4, hBp, fun b o y => k4 b o (e3 _ _ (B2 b o y)) (off1 (ne_of_none y hBp)), hst, N3.kp k4 (off1 npm) (off1 nph), hci, hnd, hcs, hcl, hω, hw, hA, hn, k⟩
end
end Sk
set_option Elab.async false
set_option linter.all false
set_option maxRecDepth 100000
set_option maxHeartbeats 4000000
namespace Sk
open PySem L2
section
variable {P : Program} {w : World} {K : PySem.W.Frag} {mg : Str → Option Value} {base : Heap} {S : List Str}
theorem ok_state (T : TX K mg) : ∃ fd, OkG P w K mg base 1 a_Play_state fd p_Play_state (spGF (He.ga K "Play") "standing") := by
  obtain ⟨⟨fd, F⟩, _⟩ := T.p.get 4 (d := d_Play_state) rfl
  have b : Binds K fd p_Play_state [] := FunD.bindsN F fun _ _ _ _ _ _ us hl => match us, hl with | [_], _ => rfl
  refine ⟨fd, F.ok sc_Play_state (fun vs H Q E h => ?_) (fun cdv A outer s H vs Q E hr h => ?_), b⟩
  · obtain ⟨z, _, _, _, rfl, _⟩ := h
    rfl
  · obtain ⟨y, dx, fs, v, rfl, hy, hl, k⟩ := h
    exact ⟨_, PSs.nox (pss_one (ps_ret (pe_fldK (K := K) (pv 0)))), ⟨_, rfl, y, _, dx, _, _, rfl, hy, T.c_Play, T.n_Play_standing, hl, k⟩⟩
theorem ok_pshown (T : TX K mg) : ∃ fd, OkG P w K mg base 1 a_Play_shown fd p_Play_shown (spGL (He.ga K "Play") "words") := by
  obtain ⟨⟨fd, F⟩, _⟩ := T.p.get 5 (d := d_Play_shown) rfl
  have b : Binds K fd p_Play_shown [] := FunD.bindsN F fun _ _ _ _ _ _ us hl => match us, hl with | [_], _ => rfl
  refine ⟨fd, F.ok sc_Play_shown (fun vs H Q E h => ?_) (fun cdv A outer s H vs Q E hr h => ?_), b⟩
  · obtain ⟨z, _, _, _, _, rfl, _⟩ := h
    rfl
  · obtain ⟨y, dx, fs, l, xs, rfl, hy, hl, hx, k⟩ := h
    exact ⟨_, PSs.nox (pss_one (ps_ret (pe_callTy call_list_of rfl (T.free_list) (by decide +kernel) (pa_cons (pe_fldK (K := K) (pv 0)) pa_nil)))), ⟨_, rfl, y, _, dx, _, _, rfl, hy, T.c_Play, T.n_Play_words, hl, l, _, rfl, .inl (SqL.of hx), k⟩⟩
/-- the notes of a play: a copy -/
def spPN (K : PySem.W.Frag) (S : List Str) : Sp := fun vs H Q _ => ∃ a dx fs n hd f, vs = [.ref a] ∧ H a = some (.ins (He.ga K "Play") dx fs) ∧ fs.lookup ("current" : Str) = some (.ref n) ∧ NotesA K S H n hd f ∧ ∀ m hd' H', Ex H H' → H m = none → H hd' = none → NotesA K S H' m hd' f → Q (.ref m) H'
theorem ok_pnotes (T : TX K mg) (hS : SOk S) : ∃ fd, OkG P w K mg base 6 a_Play_notes fd p_Play_notes (spPN K S) := by
  obtain ⟨⟨fd, F⟩, _⟩ := T.p.get 6 (d := d_Play_notes) rfl
  obtain ⟨_, O_copied⟩ := ok_copied (P := P) (w := w) (base := base) T hS
  have b : Binds K fd p_Play_notes [] := FunD.bindsN F fun _ _ _ _ _ _ us hl => match us, hl with | [_], _ => rfl
  refine ⟨fd, F.ok sc_Play_notes (fun vs H Q E h => ?_) (fun cdv A outer s H vs Q E hr h => ?_), b⟩
  · obtain ⟨z, _, _, _, _, _, rfl, _⟩ := h
    rfl
  · obtain ⟨y, dx, fs, n, hd, f, rfl, hy, hl, hN, k⟩ := h
    exact ⟨_, PSs.nox (pss_one (ps_ret (pcall O_copied (hr.mono (by decide)) rfl (T.g_copied) pass0 (pa_cons (pe_fldK (K := K) (pv 0)) pa_nil)))), ⟨_, rfl, y, _, dx, _, _, rfl, hy, T.c_Play, T.n_Play_current, hl, n, hd, f, rfl, hN, k⟩⟩
/-- len of a play -/
def spPLen (K : PySem.W.Frag) : Sp := fun vs H Q _ => ∃ a dx fs l, ∃ xs : List V, vs = [.ref a] ∧ H a = some (.ins (He.ga K "Play") dx fs) ∧ fs.lookup ("given" : Str) = some (.ref l) ∧ H l = some (.lst xs) ∧ Q (.int (xs.length : Nat)) H
theorem ok_plen (T : TX K mg) : Ok P w K mg base CX0 1 a_Play_len p_Play_len (spPLen K) := by
  obtain ⟨fd, F⟩ := T.d.def_ 49 (d := d_Play_len) rfl
  have b : Binds K fd p_Play_len [] := FunD.bindsN F fun _ _ _ _ _ _ us hl => match us, hl with | [_], _ => rfl
  refine ⟨fd, F.ok sc_Play_len (fun vs H Q E h => ?_) (fun cdv A outer s H vs Q E hr h => ?_), b, F.kp⟩
  · obtain ⟨z, _, _, _, _, rfl, _⟩ := h
    rfl
  · obtain ⟨y, dx, fs, l, xs, rfl, hy, hl, hx, k⟩ := h
    exact ⟨_, PSs.nox (pss_one (ps_ret (pe_callB call_len rfl (T.free_len) (by decide +kernel) (pa_cons (pe_fldK (K := K) (pv 0)) pa_nil)))), ⟨_, rfl, y, _, dx, _, _, rfl, hy, T.c_Play, T.n_Play_given, hl, _, xs.length, rfl, .inl ⟨_, SqL.of hx, rfl⟩, k⟩⟩
end
end Sk
set_option Elab.async false
set_option linter.all false
set_option maxRecDepth 100000
set_option maxHeartbeats 4000000
namespace Sk
open PySem L2
/-! ### the law's draws -/
/-- a source: one integer -/
def Src (H : Hp) (a : Addr) : Prop := ∃ n : Int, H a = some (.lst [.int n])
section
variable {P : Program} {w : World} {K : PySem.W.Frag} {mg : Str → Option Value} {base : Heap} {S : List Str}
def spDraw : Sp := fun vs H Q _ => ∃ (a : Addr) (m : Int), vs = [.ref a, .int m] ∧ Src H a ∧ 0 < m ∧ m ≤ 10 ^ 40 ∧ ∀ (r : Int) H', 0 ≤ r → r < m → Src H' a → Kp [a] H H' → Q (.int r) H'
theorem ok_draw (T : TX K mg) : Ok P w K mg base CX0 1 a_Ldraw p_Ldraw spDraw := by
  obtain ⟨fd, F⟩ := T.d.def_ 54 (d := d_Ldraw) rfl
  have b : Binds K fd p_Ldraw [] := FunD.bindsN F fun _ _ _ _ _ _ us hl => match us, hl with | [_, _], _ => rfl
  refine ⟨fd, F.ok sc_Ldraw (fun vs H Q E h => ?_) (fun cdv A outer s H vs Q E hr h => ?_), b, F.kp⟩
  · obtain ⟨z, _, rfl, _⟩ := h
    rfl
  · obtain ⟨a, m, rfl, ⟨n, ha⟩, hm, hm2, k⟩ := h
    refine ⟨_, PSs.nox (pss_cons (ps_asg (pe_callB call_divmodW rfl (T.free_divmod) (by decide +kernel) (pa_cons (pe_callTy call_int1 rfl (T.free_int) (by decide +kernel) (pa_cons (pe_ix (ix_listK (K := K)) (pv 0) pe_int (fun _ _ => rfl)) pa_nil)) (pa_cons (pv 1) pa_nil))) (pg_tupK (K := K) (n := 2) (pgs_cons (pg_sub (pv 0) pe_int set_list) (pgs_cons (pg_name (i := 2) sc_Ldraw.nd rfl (Or.inl rfl)) pgs_nil))))
      (pss_one (ps_ret (pv 2)))), ?_⟩
    have hd : CDivP n m := by
      refine ⟨hm, PyProof.noPylong_of_log2 ?_⟩
      have h0 : m.natAbs ≠ 0 := by omega
      refine (Nat.log2_lt h0).mpr (Nat.lt_of_le_of_lt (show m.natAbs ≤ 10 ^ 40 by omega) ?_)
      exact Nat.lt_of_lt_of_le (show (10 : Nat) ^ 40 < 2 ^ 140 by decide +kernel) (Nat.pow_le_pow_right (by decide) (by decide))
    refine ⟨_, rfl, a, _, 0, _, rfl, rfl, SqL.of ha, rfl, .inl ⟨n, rfl, ?_⟩⟩
    refine ⟨_, rfl, n, m, rfl, hd, fun p hp => ?_⟩
    have npa : a ≠ p := ne_of_none ha hp
    refine ⟨p, _, rfl, SqT.of upd_same, rfl, _, _, rfl, ?_⟩
    refine ⟨_, rfl, a, _, 0, 0, rfl, rfl, (by rw [upd_ne npa]; exact ha), rfl, _, _, rfl, rfl, ?_⟩
    refine ⟨_, rfl, ?_⟩
    exact k (n % m) _ (Int.emod_nonneg _ (by omega)) (Int.emod_lt_of_pos _ hm) ⟨n / m, upd_same⟩ (((Kp.refl _ _).new hp).upd (on1 a))
def spNumber : Sp := fun vs H Q _ => ∃ a : Addr, vs = [.ref a] ∧ Src H a ∧ ∀ (r : Int) H', Src H' a → Kp [a] H H' → Q (.int r) H'
theorem Src.ne {H : Hp} {a p : Addr} (h : Src H a) (e : H p = none) : p ≠ a := by
  obtain ⟨ns, q⟩ := h
  exact (ne_of_none q e).symm
theorem Src.new {H : Hp} {a p : Addr} {o : HO} (h : Src H a) (e : H p = none) : Src (upd H p o) a := by
  obtain ⟨ns, q⟩ := h
  exact ⟨ns, by rw [upd_ne (ne_of_none q e)]; exact q⟩
theorem ok_number (T : TX K mg) : Ok P w K mg base CX0 2 a_Lnumber p_Lnumber spNumber := by
  obtain ⟨fd, F⟩ := T.d.def_ 59 (d := d_Lnumber) rfl
  obtain ⟨_, O_Ldraw⟩ := ok_draw (P := P) (w := w) (base := base) T
  have b : Binds K fd p_Lnumber [] := FunD.bindsN F fun _ _ _ _ _ _ us hl => match us, hl with | [_], _ => rfl
  refine ⟨fd, F.ok sc_Lnumber (fun vs H Q E h => ?_) (fun cdv A outer s H vs Q E hr h => ?_), b, F.kp⟩
  · obtain ⟨z, rfl, _⟩ := h
    rfl
  · obtain ⟨a, rfl, hS, k⟩ := h
    refine ⟨_, PSs.nox (pss_cons (ps_set (i := 1) sc_Lnumber.nd rfl (Or.inl rfl) (pe_ix (ix_listK (K := K)) (pe_lst (pa_cons pe_int (pa_cons pe_int (pa_cons (pe_op op_pow pe_int pe_int) pa_nil)))) (pcall O_Ldraw (hr.mono (by decide)) rfl (T.g_Ldraw) pass0 (pa_cons (pv 0) (pa_cons pe_int pa_nil))) (fun _ _ => rfl)))
      (pss_one (ps_ret (pe_op op_mul (pe_ix (ix_listK (K := K)) (pe_lst (pa_cons pe_int (pa_cons (pe_un un_neg pe_int) pa_nil))) (pcall O_Ldraw (hr.mono (by decide)) rfl (T.g_Ldraw) pass0 (pa_cons (pv 0) (pa_cons pe_int pa_nil))) (fun _ _ => rfl)) (pcall O_Ldraw (hr.mono (by decide)) rfl (T.g_Ldraw) pass0 (pa_cons (pv 0) (pa_cons (pv 1) pa_nil))))))), ?_⟩
    refine ⟨_, _, rfl, rfl, ⟨by decide, by decide, by decide⟩, small (by show 3 ≤ 100000; decide), fun p hp => ?_⟩
    have S1 := hS.new (o := .lst [V.int 4, V.int 12, V.int (10 ^ (36 : Int).toNat)]) hp
    have np := hS.ne hp
    refine ⟨_, rfl, a, 3, rfl, S1, by decide, by decide, fun r H2 r0 r1 S2 k2 => ?_⟩
    obtain ⟨y, hy1, hy2⟩ := at_in (l := [V.int 4, V.int 12, V.int (10 ^ (36 : Int).toNat)]) r0 r1
    have all : ∀ v ∈ [V.int 4, V.int 12, V.int (10 ^ (36 : Int).toNat)], ∃ z : Int, v = V.int z ∧ 0 < z ∧ z ≤ 10 ^ 40 := by
      intro v hv
      simp only [List.mem_cons, List.not_mem_nil, or_false] at hv
      rcases hv with h | h | h
      · exact ⟨_, h, by decide, by decide⟩
      · exact ⟨_, h, by decide, by decide⟩
      · exact ⟨_, h, by decide +kernel, by decide +kernel⟩
    obtain ⟨size, rfl, s0, s1⟩ := all y (List.mem_of_getElem? hy1)
    refine ⟨p, _, r, _, rfl, rfl, SqL.of (k2 p _ upd_same (off1 np)), hy2, ?_⟩
    have k2' : Kp [a] H H2 := ((Kp.refl [a] H).new hp).trans k2
    refine ⟨_, rfl, small (by show 2 ≤ 100000; decide), fun q hq => ?_⟩
    have S3 := S2.new (o := .lst [V.int 1, V.int (-1)]) hq
    have nq := S2.ne hq
    refine ⟨_, rfl, a, 2, rfl, S3, by decide, by decide, fun r' H4 r0' r1' S4 k4 => ?_⟩
    obtain ⟨y', hy1', hy2'⟩ := at_in (l := [V.int 1, V.int (-1)]) r0' r1'
    have all' : ∀ v ∈ [V.int 1, V.int (-1)], ∃ z : Int, v = V.int z ∧ -2 < z ∧ z < 2 := by
      intro v hv
      simp only [List.mem_cons, List.not_mem_nil, or_false] at hv
      rcases hv with h | h
      · exact ⟨_, h, by decide, by decide⟩
      · exact ⟨_, h, by decide, by decide⟩
    obtain ⟨sg, rfl, g0, g1⟩ := all' y' (List.mem_of_getElem? hy1')
    refine ⟨q, _, r', _, rfl, rfl, SqL.of (k4 q _ upd_same (off1 nq)), hy2', ?_⟩
    refine ⟨_, rfl, _, rfl, a, size, rfl, S4, s0, s1, fun r2 H5 _ _ S5 k5 => ?_⟩
    exact ⟨_, _, rfl, rfl, .inl ⟨by omega, by omega⟩, k _ H5 S5 (((k2'.new hq).trans k4).trans k5)⟩
end
end Sk
set_option Elab.async false
set_option linter.all false
set_option maxRecDepth 100000
set_option maxHeartbeats 4000000
namespace Sk
open PySem L2
/-! ### a cell of the script -/
section
variable {P : Program} {w : World} {K : PySem.W.Frag} {mg : Str → Option Value} {base : Heap} {S : List Str}
theorem at_pad {P : V → Prop} {xs : List V} {k : Nat} (h : ∀ v ∈ xs, P v) (h0 : P (.int 0)) :
    ∃ v, P v ∧ atI (xs ++ (List.replicate (k + 1) [V.int 0]).flatten) (k : Int) = some v := by
  have all : ∀ v ∈ xs ++ (List.replicate (k + 1) [V.int 0]).flatten, P v := by
    intro v hv
    rcases List.mem_append.mp hv with q | q
    · exact h v q
    · obtain ⟨l, hl, q2⟩ := List.mem_flatten.mp q
      rw [List.eq_of_mem_replicate hl] at q2
      rw [List.mem_singleton.mp q2]
      exact h0
  have len : (k : Int) < ((xs ++ (List.replicate (k + 1) [V.int 0]).flatten).length : Int) := by
    have : (List.replicate (k + 1) [V.int 0]).flatten.length = k + 1 := by simp
    rw [List.length_append, this]
    omega
  obtain ⟨v, q1, q2⟩ := at_in (z := (k : Int)) (by omega) len
  exact ⟨v, all v (List.mem_of_getElem? q1), q2⟩
/-- the script: a list of integers -/
def spCell (K : PySem.W.Frag) : Sp := fun vs H Q _ => ∃ (a : Addr) (xs : List V) (k : Nat), vs = [.ref a, .int k] ∧ SqL K H a xs ∧ (∀ v ∈ xs, ∃ z : Int, v = .int z) ∧ xs.length + k ≤ 90000 ∧
  ∀ (z : Int) H', Kp [] H H' → Q (.int z) H'
theorem ok_cell (T : TX K mg) : Ok P w K mg base CX0 1 a_Lcell p_Lcell (spCell K) := by
  obtain ⟨fd, F⟩ := T.d.def_ 52 (d := d_Lcell) rfl
  have b : Binds K fd p_Lcell [] := FunD.bindsN F fun _ _ _ _ _ _ us hl => match us, hl with | [_, _], _ => rfl
  refine ⟨fd, F.ok sc_Lcell (fun vs H Q E h => ?_) (fun cdv A outer s H vs Q E hr h => ?_), b, F.kp⟩
  · obtain ⟨z, _, _, rfl, _⟩ := h
    rfl
  · obtain ⟨a, xs, n, rfl, ha, hi, hl, k⟩ := h
    refine ⟨_, PSs.nox (pss_one (ps_ret (pe_ix (ix_listK (K := K)) (pe_op op_cat (pe_callTy call_list_of rfl (T.free_list) (by decide +kernel) (pa_cons (pv 0) pa_nil)) (pe_op op_rep (pe_lst (pa_cons pe_int pa_nil)) (pe_op op_add (pv 1) pe_int))) (pv 1) (fun _ _ => rfl)))), ?_⟩
    refine ⟨_, rfl, a, xs, rfl, .inl ha, fun l hl0 => ?_⟩
    refine ⟨small (by show 1 ≤ 100000; decide), fun p hp => ?_⟩
    have nlp : l ≠ p := ne_of_none (upd_same : upd H l (.lst xs) l = _) hp
    refine ⟨_, rfl, n, 1, rfl, rfl, ?_⟩
    refine ⟨p, (n : Int) + 1, [V.int 0], rfl, rfl, upd_same, by omega, by omega, ?_, fun q hq => ?_⟩
    · refine small ?_
      show 1 * ((n : Int) + 1).toNat ≤ 100000
      omega
    have e1 : ((n : Int) + 1).toNat = n + 1 := by omega
    rw [e1]
    have nq : l ≠ q := ne_of_none (by rw [upd_ne nlp]; exact upd_same) hq
    refine ⟨l, q, xs, _, rfl, rfl, by rw [upd_ne nq, upd_ne nlp]; exact upd_same, upd_same, ?_, fun r hr2 => ?_⟩
    · refine small ?_
      have : (List.replicate (n + 1) [V.int 0]).flatten.length = n + 1 := by simp
      rw [this]
      omega
    obtain ⟨v, ⟨z, rfl⟩, hat⟩ := at_pad (k := n) hi ⟨0, rfl⟩
    refine ⟨_, rfl, r, _, n, _, rfl, rfl, SqL.of upd_same, hat, ?_⟩
    exact k z _ (((((Kp.refl _ _).new hl0).new hp).new hq).new hr2)
end
end Sk
set_option Elab.async false
set_option linter.all false
set_option maxRecDepth 100000
set_option maxHeartbeats 4000000
namespace Sk
open PySem L2
/-! ### a source out of a cell -/
section
variable {P : Program} {w : World} {K : PySem.W.Frag} {mg : Str → Option Value} {base : Heap} {S : List Str}
/-- a cell of any size; a place below one thousand -/
def spSource : Sp := fun vs H Q _ => ∃ (c : Int) (n : Nat), vs = [.int c, .int n] ∧ n ≤ 1000 ∧ ∀ a H', Ex H H' → H a = none → Src H' a → Q (.ref a) H'
theorem ok_source (T : TX K mg) : Ok P w K mg base CX0 1 a_Lsource p_Lsource spSource := by
  obtain ⟨fd, F⟩ := T.d.def_ 53 (d := d_Lsource) rfl
  have b : Binds K fd p_Lsource [] := FunD.bindsN F fun _ _ _ _ _ _ us hl => match us, hl with | [_, _], _ => rfl
  refine ⟨fd, F.ok sc_Lsource (fun vs H Q E h => ?_) (fun cdv A outer s H vs Q E hr h => ?_), b, F.kp⟩
  · obtain ⟨z, _, rfl, _⟩ := h
    rfl
  · obtain ⟨c, n, rfl, hn, k⟩ := h
    refine ⟨_, PSs.nox (pss_cons (ps_if (pt_cmpR op_ge (pv 0) (pe_op op_pow pe_int pe_int) (nomark _))
      (pss_one (ps_ret (pe_lst (pa_cons (pe_op op_sub (pv 0) (pe_op op_pow pe_int pe_int)) pa_nil)))) pss_nil)
      (pss_cons (ps_set (i := 2) sc_Lsource.nd rfl (Or.inl rfl) (pe_op op_add (pe_op op_add (pe_op op_mod (pe_callTy call_int1 rfl (T.free_int) (by decide +kernel) (pa_cons (pv 0) pa_nil)) pe_int) (pe_op op_mul pe_int (pv 1))) pe_int))
      (pss_cons (ps_set (i := 3) sc_Lsource.nd rfl (Or.inl rfl) pe_int) (pss_cons
      (ps_for PassesOwn.never rfl (pi_range1 rfl (T.free_range) (pa_cons pe_int pa_nil)) (pg_name (i := 4) sc_Lsource.nd rfl (Or.inl rfl))
      (pss_cons (ps_set (i := 2) sc_Lsource.nd rfl (Or.inl rfl) (pe_op op_add (pe_op op_add (pe_op op_add (pe_op op_mul (pv 2) (pv 2)) (pe_op op_mul pe_int (pv 2))) (pe_op op_mul pe_int (pv 4))) pe_int))
      (pss_cons (ps_set (i := 2) sc_Lsource.nd rfl (Or.inl rfl) (pe_op op_mod (pe_callTy call_int1 rfl (T.free_int) (by decide +kernel) (pa_cons (pv 2) pa_nil)) pe_int))
      (pss_one (ps_set (i := 3) sc_Lsource.nd rfl (Or.inl rfl) (pe_op op_add (pe_op op_mul (pv 3) pe_int) (pe_op op_mod (pe_op op_fdiv (pv 2) pe_int) pe_int)))))))
      (pss_one (ps_ret (pe_lst (pa_cons (pv 3) pa_nil)))))))), ?_⟩
    refine ⟨_, rfl, _, _, rfl, rfl, ⟨by decide, by decide, by decide⟩, _, _, rfl, rfl, ?_⟩
    refine ⟨_, rfl, ite2 (fun hc => ?_) (fun hc => ?_)⟩
    · refine ⟨_, rfl, _, _, rfl, rfl, ⟨by decide, by decide, by decide⟩, _, _, rfl, rfl, small (by show 1 ≤ 100000; decide), fun p hp => ?_⟩
      exact k p _ ((Ex.refl _).new hp) hp ⟨_, upd_same⟩
    · refine ⟨_, rfl, .inl ⟨c, rfl, ?_⟩⟩
      refine ⟨_, _, rfl, rfl, (by show (0 : Int) < _; decide), _, rfl, _, _, rfl, rfl, .inl ⟨by decide, by decide⟩, _, _, rfl, rfl, _, _, rfl, rfl, ?_⟩
      have b0 : 0 ≤ c % 999999999989 := Int.emod_nonneg _ (by decide)
      have b1 : c % 999999999989 < 999999999989 := Int.emod_lt_of_pos _ (by decide)
      refine ⟨_, rfl, by decide, by decide, for_range (lo := 0) (n := 40) (fun i σ H' => H' = H ∧ ∃ (p t : Int) (v : Option V), 0 ≤ p ∧ p < 2 ^ 61 ∧ σ = [some (.int c), some (.int n), some (.int p), some (.int t), v]) ⟨rfl, _, 0, none, ?_, ?_, rfl⟩ ?_ ?_⟩
      · omega
      · omega
      · rintro i σ H' hi ⟨rfl, p, t, v, p0, p1, rfl⟩
        refine ⟨_, rfl, _, rfl, _, _, rfl, rfl, .inl ⟨by omega, by omega⟩, _, rfl, _, _, rfl, rfl, .inl ⟨by decide, by decide⟩, _, _, rfl, rfl, _, rfl, _, _, rfl, rfl, .inl ⟨by decide, by decide⟩, _, _, rfl, rfl, _, _, rfl, rfl, ?_⟩
        refine ⟨_, rfl, .inl ⟨_, rfl, _, _, rfl, rfl, (by show (0 : Int) < _; decide), ?_⟩⟩
        refine ⟨_, rfl, _, _, rfl, rfl, .inr ⟨by decide, by decide⟩, _, rfl, _, _, rfl, rfl, ⟨by decide, by decide⟩, _, _, rfl, rfl, (by show (0 : Int) < _; decide), _, _, rfl, rfl, ?_⟩
        exact ⟨rfl, _, _, _, Int.emod_nonneg _ (by decide), Int.lt_trans (Int.emod_lt_of_pos _ (by decide)) (by decide), rfl⟩
      · rintro σ H' ⟨rfl, p, t, v, p0, p1, rfl⟩
        refine ⟨_, rfl, small (by show 1 ≤ 100000; decide), fun a ha => ?_⟩
        exact k a _ ((Ex.refl _).new ha) ha ⟨_, upd_same⟩
end
end Sk
set_option Elab.async false
set_option linter.all false
set_option maxRecDepth 100000
set_option maxHeartbeats 4000000
namespace Sk
open PySem L2
/-! ### names drawn (given what _law_name promises) -/
section
variable {P : Program} {w : World} {K : PySem.W.Frag} {mg : Str → Option Value} {base : Heap} {S : List Str}
def spLname : Sp := fun vs H Q _ => ∃ (a o : Addr) (xs : List Str), vs = [.ref a, .ref o] ∧ Src H a ∧ H o = some (.lst (xs.map V.str)) ∧ (∀ s ∈ xs, NmOk s) ∧ xs.length ≤ 4 ∧
  ∀ (z : Str) H', NmOk z → z ∉ xs → Src H' a → Kp [a] H H' → Q (.str z) H'
def spLnames : Sp := fun vs H Q _ => ∃ (a : Addr) (n : Nat), vs = [.ref a, .int n] ∧ Src H a ∧ n ≤ 5 ∧
  ∀ (xs : List Str) (p : Addr) H', xs.length = n → (∀ s ∈ xs, NmOk s) → xs.Nodup → H' p = some (.lst (xs.map V.str)) → H p = none → Src H' a → Kp [a] H H' → Q (.ref p) H'
theorem Src.upd_ {H : Hp} {a p : Addr} {o : HO} (h : Src H a) (n : a ≠ p) : Src (upd H p o) a := by
  obtain ⟨z, q⟩ := h
  exact ⟨z, by rw [upd_ne n]; exact q⟩
theorem ok_lnames (T : TX K mg) (O_Lname : Ok P w K mg base CX0 2 a_Lname p_Lname spLname) : Ok P w K mg base CX0 3 a_Lnames p_Lnames spLnames := by
  obtain ⟨fd, F⟩ := T.d.def_ 56 (d := d_Lnames) rfl
  obtain ⟨_, O_Lname⟩ := O_Lname
  have b : Binds K fd p_Lnames [] := FunD.bindsN F fun _ _ _ _ _ _ us hl => match us, hl with | [_, _], _ => rfl
  refine ⟨fd, F.ok sc_Lnames (fun vs H Q E h => ?_) (fun cdv A outer s H vs Q E hr h => ?_), b, F.kp⟩
  · obtain ⟨z, _, rfl, _⟩ := h
    rfl
  · obtain ⟨a, n, rfl, hS, hn, k⟩ := h
    refine ⟨_, PSs.nox (pss_cons (ps_set (i := 2) sc_Lnames.nd rfl (Or.inl rfl) (pe_lst pa_nil)) (pss_cons
      (ps_for PassesOwn.never rfl (pi_range1 rfl (T.free_range) (pa_cons (pv 1) pa_nil)) (pg_name (i := 3) sc_Lnames.nd rfl (Or.inl rfl))
      (pss_one (ps_expr (pe_bm PySem.F.plainAttrs_list PySem.F.slot_list_append PySem.F.type_list_append mt_append (pv 2) (pa_cons (pcall O_Lname (hr.mono (by decide)) rfl (T.g_Lname) pass0 (pa_cons (pv 0) (pa_cons (pv 2) pa_nil))) pa_nil)))))
      (pss_one (ps_ret (pv 2))))), ?_⟩
    refine ⟨small (by show 0 ≤ 100000; decide), fun p hp => ?_⟩
    have nap : a ≠ p := (hS.ne hp).symm
    refine ⟨_, rfl, _, rfl, by omega, by omega, for_range (lo := 0) (n := n) (fun i σ H' => Src H' a ∧ Kp [a] H H' ∧ ∃ (xs : List Str) (v : Option V), xs.length = i ∧ (∀ s ∈ xs, NmOk s) ∧ xs.Nodup ∧ H' p = some (.lst (xs.map V.str)) ∧ σ = [some (.ref a), some (.int n), some (.ref p), v]) ⟨hS.new hp, (Kp.refl _ _).new hp, [], none, rfl, (fun s h => by cases h), List.nodup_nil, upd_same, rfl⟩ ?_ ?_⟩
    · rintro i σ H' hi ⟨S1, k1, xs, v, hx, hok, hnd, hpx, rfl⟩
      refine ⟨_, rfl, .inl ⟨rfl, _, SqL.of hpx⟩, _, rfl, _, rfl, a, p, xs, rfl, S1, hpx, hok, by omega, fun z H2 hz hnz S2 k2 => ?_⟩
      have hp2 := k2 p _ hpx (off1 nap.symm)
      refine ⟨p, _, _, rfl, rfl, hp2, small (by rw [List.length_map]; omega), ?_⟩
      refine ⟨S2.upd_ nap, (k1.trans k2).mut hp, xs ++ [z], _, by rw [List.length_append, hx]; rfl, ?_, ?_, ?_, rfl⟩
      · intro s hs
        rcases List.mem_append.mp hs with q | q
        · exact hok s q
        · rw [List.mem_singleton.mp q]; exact hz
      · rw [List.nodup_append]
        refine ⟨hnd, List.nodup_cons.mpr ⟨List.not_mem_nil, List.nodup_nil⟩, fun x hx y hy e => ?_⟩
        rw [List.mem_singleton.mp hy] at e
        exact hnz (e ▸ hx)
      · rw [List.map_append]; exact upd_same
    · rintro σ H' ⟨S1, k1, xs, v, hx, hok, hnd, hpx, rfl⟩
      exact ⟨_, rfl, k xs p H' hx hok hnd hpx hp S1 k1⟩
end
end Sk
set_option Elab.async false
set_option linter.all false
set_option maxRecDepth 100000
set_option maxHeartbeats 4000000
namespace Sk
open PySem L2
/-! ### plain steps drawn -/
section
variable {P : Program} {w : World} {K : PySem.W.Frag} {mg : Str → Option Value} {base : Heap} {S : List Str}
def PlainS (ns ws : List Str) (s : Stp) : Prop := (∃ x ∈ ws, s = .sho x) ∨ ∃ x ∈ ns, ∃ k : Int, s = .st x k ∨ s = .ad x k
def spPlain : Sp := fun vs H Q _ => ∃ (a n u : Addr) (ns ws : List Str), vs = [.ref a, .ref n, .ref u] ∧ Src H a ∧ H n = some (.lst (ns.map V.str)) ∧ H u = some (.lst (ws.map V.str)) ∧ ns.length = 3 ∧ ws.length = 4 ∧
  ∀ (p : Addr) (ss : List Stp) H', StpsAt H' p ss → ss.length ≤ 3 → (∀ s ∈ ss, PlainS ns ws s) → H p = none → Src H' a → Kp [a] H H' → Q (.ref p) H'
theorem src_str {H : Hp} {a o : Addr} {xs : List Str} (h : Src H a) (e : H o = some (.lst (xs.map V.str))) : o ≠ a := by
  intro q
  obtain ⟨z, h⟩ := h
  rw [q, h] at e
  cases xs with
  | nil => cases e
  | cons y ys => cases e
theorem ok_plain (T : TX K mg) : Ok P w K mg base CX0 3 a_Lplain p_Lplain spPlain := by
  obtain ⟨fd, F⟩ := T.d.def_ 60 (d := d_Lplain) rfl
  obtain ⟨_, O_Ldraw⟩ := ok_draw (P := P) (w := w) (base := base) T
  obtain ⟨_, O_Lnumber⟩ := ok_number (P := P) (w := w) (base := base) T
  have b : Binds K fd p_Lplain [] := FunD.bindsN F fun _ _ _ _ _ _ us hl => match us, hl with | [_, _, _], _ => rfl
  refine ⟨fd, F.ok sc_Lplain (fun vs H Q E h => ?_) (fun cdv A outer s H vs Q E hr h => ?_), b, F.kp⟩
  · obtain ⟨_, _, _, _, _, rfl, _⟩ := h
    rfl
  · obtain ⟨a, n, u, ns, ws, rfl, hS, hn, hu, ln, lu, k⟩ := h
    refine ⟨_, PSs.nox (pss_cons (ps_set (i := 3) sc_Lplain.nd rfl (Or.inl rfl) (pe_lst pa_nil)) (pss_cons
      (ps_for PassesOwn.never rfl (pi_range1 rfl (T.free_range) (pa_cons (pcall O_Ldraw (hr.mono (by decide)) rfl (T.g_Ldraw) pass0 (pa_cons (pv 0) (pa_cons pe_int pa_nil))) pa_nil)) (pg_name (i := 4) sc_Lplain.nd rfl (Or.inl rfl))
      (pss_cons (ps_set (i := 5) sc_Lplain.nd rfl (Or.inl rfl) (pcall O_Ldraw (hr.mono (by decide)) rfl (T.g_Ldraw) pass0 (pa_cons (pv 0) (pa_cons pe_int pa_nil))))
      (pss_cons (ps_set (i := 6) sc_Lplain.nd rfl (Or.inl rfl) (pe_ix (ix_listK (K := K)) (pv 1) (pcall O_Ldraw (hr.mono (by decide)) rfl (T.g_Ldraw) pass0 (pa_cons (pv 0) (pa_cons pe_int pa_nil))) (fun _ _ => rfl)))
      (pss_cons (ps_set (i := 7) sc_Lplain.nd rfl (Or.inl rfl) (pe_ix (ix_listK (K := K)) (pv 2) (pcall O_Ldraw (hr.mono (by decide)) rfl (T.g_Ldraw) pass0 (pa_cons (pv 0) (pa_cons pe_int pa_nil))) (fun _ _ => rfl)))
      (pss_one (ps_expr (pe_bm PySem.F.plainAttrs_list PySem.F.slot_list_append PySem.F.type_list_append mt_append (pv 3) (pa_cons (pe_ix (ix_listK (K := K)) (pe_lst (pa_cons (pe_tup (pa_cons pe_str (pa_cons (pv 7) pa_nil))) (pa_cons (pe_tup (pa_cons pe_str (pa_cons (pv 6) (pa_cons (pcall O_Lnumber (hr.mono (by decide)) rfl (T.g_Lnumber) pass0 (pa_cons (pv 0) pa_nil)) pa_nil)))) (pa_cons (pe_tup (pa_cons pe_str (pa_cons (pv 6) (pa_cons (pcall O_Lnumber (hr.mono (by decide)) rfl (T.g_Lnumber) pass0 (pa_cons (pv 0) pa_nil)) pa_nil)))) pa_nil)))) (pv 5) (fun _ _ => rfl)) pa_nil))))))))
      (pss_one (ps_ret (pv 3))))), ?_⟩
    refine ⟨small (by show 0 ≤ 100000; decide), fun p hp => ?_⟩
    have nap : a ≠ p := (hS.ne hp).symm
    refine ⟨_, rfl, a, 4, rfl, hS.new hp, by decide, by decide, fun m H1 m0 m1 S1 k1 => ?_⟩
    have hp1 := k1 p _ upd_same (off1 nap.symm)
    have k1' : Kp [a] H H1 := ((Kp.refl _ _).new hp).trans k1
    refine ⟨_, rfl, by omega, by omega, for_range (lo := 0) (n := m.toNat) (fun i σ H' => Src H' a ∧ Kp [a] H H' ∧ ∃ (ss : List Stp) (v1 v2 v3 v4 : Option V), ss.length = i ∧ (∀ s ∈ ss, PlainS ns ws s) ∧ StpsAt H' p ss ∧ σ = [some (.ref a), some (.ref n), some (.ref u), some (.ref p), v1, v2, v3, v4]) ⟨S1, k1', [], none, none, none, none, rfl, (fun s h => by cases h), ⟨[], hp1, Pw.nil⟩, rfl⟩ ?_ ?_⟩
    · rintro i σ H' hi ⟨S2, k2, ss, v1, v2, v3, v4, hx, hok, ⟨rs, hpx, hrs⟩, rfl⟩
      refine ⟨_, rfl, a, 3, rfl, S2, by decide, by decide, fun kd H3 kd0 kd1 S3 k3 => ?_⟩
      have ka := k2.trans k3
      refine ⟨_, rfl, _, rfl, a, 3, rfl, S3, by decide, by decide, fun ni H4 ni0 ni1 S4 k4 => ?_⟩
      have kb := ka.trans k4
      obtain ⟨x, hx1, hx2⟩ := at_in (l := ns.map V.str) (z := ni) ni0 (by rw [List.length_map, ln]; exact ni1)
      refine ⟨n, _, ni, _, rfl, rfl, SqL.of (kb n _ hn (off1 (src_str hS hn))), hx2, ?_⟩
      refine ⟨_, rfl, _, rfl, a, 4, rfl, S4, by decide, by decide, fun ui H5 ui0 ui1 S5 k5 => ?_⟩
      have kc := kb.trans k5
      obtain ⟨y, hy1, hy2⟩ := at_in (l := ws.map V.str) (z := ui) ui0 (by rw [List.length_map, lu]; exact ui1)
      refine ⟨u, _, ui, _, rfl, rfl, SqL.of (kc u _ hu (off1 (src_str hS hu))), hy2, ?_⟩
      obtain ⟨xn, hxn, rfl⟩ : ∃ z ∈ ns, x = V.str z := by
        obtain ⟨z, hz, e⟩ := List.mem_map.mp (List.mem_of_getElem? hx1)
        exact ⟨z, hz, e.symm⟩
      obtain ⟨yw, hyw, rfl⟩ : ∃ z ∈ ws, y = V.str z := by
        obtain ⟨z, hz, e⟩ := List.mem_map.mp (List.mem_of_getElem? hy1)
        exact ⟨z, hz, e.symm⟩
      refine ⟨_, rfl, .inl ⟨rfl, _, SqL.of ((k3.trans (k4.trans k5)) p _ hpx (off1 nap.symm))⟩, _, rfl, small (by show 2 ≤ 100000; decide), fun t1 ht1 => ?_⟩
      refine ⟨_, rfl, _, rfl, a, rfl, S5.new ht1, fun q1 H6 S7 k6 => ?_⟩
      refine ⟨small (by show 3 ≤ 100000; decide), fun t2 ht2 => ?_⟩
      refine ⟨_, rfl, _, rfl, a, rfl, S7.new ht2, fun q2 H7 S9 k7 => ?_⟩
      refine ⟨small (by show 3 ≤ 100000; decide), fun t3 ht3 => ?_⟩
      refine ⟨small (by show 3 ≤ 100000; decide), fun l hl => ?_⟩
      have KC : Kp [a] H6 (upd (upd H7 t3 (.tup [.str "set", .str xn, .int q2])) l (.lst [.ref t1, .ref t2, .ref t3])) := ((((Kp.refl [a] H6).new ht2).trans k7).new ht3).new hl
      have KB : Kp [a] (upd H6 t2 (.tup [.str "add", .str xn, .int q1])) (upd (upd H7 t3 (.tup [.str "set", .str xn, .int q2])) l (.lst [.ref t1, .ref t2, .ref t3])) := (k7.new ht3).new hl
      have KA : Kp [a] H' (upd (upd H7 t3 (.tup [.str "set", .str xn, .int q2])) l (.lst [.ref t1, .ref t2, .ref t3])) := (((k3.trans (k4.trans k5)).new ht1).trans k6).trans KC
      have S10 := (S9.new (o := .tup [.str "set", .str xn, .int q2]) ht3).new (o := .lst [.ref t1, .ref t2, .ref t3]) hl
      have f1 := KC t1 _ (k6 t1 _ upd_same (off1 (S5.ne ht1))) (off1 (S5.ne ht1))
      have f2 := KB t2 _ upd_same (off1 (S7.ne ht2))
      have n3 : t3 ≠ l := ne_of_none upd_same hl
      have f3 : (upd (upd H7 t3 (.tup [.str "set", .str xn, .int q2])) l (.lst [.ref t1, .ref t2, .ref t3])) t3 = some (.tup [.str "set", .str xn, .int q2]) := by rw [upd_ne n3]; exact upd_same
      have fl : (upd (upd H7 t3 (.tup [.str "set", .str xn, .int q2])) l (.lst [.ref t1, .ref t2, .ref t3])) l = some (.lst [.ref t1, .ref t2, .ref t3]) := upd_same
      generalize hH8 : upd (upd H7 t3 (.tup [.str "set", .str xn, .int q2])) l (.lst [.ref t1, .ref t2, .ref t3]) = H8 at *
      obtain ⟨v, hv1, hv2⟩ := at_in (l := [V.ref t1, V.ref t2, V.ref t3]) kd0 kd1
      obtain ⟨t, st, rfl, hst, hpl⟩ : ∃ t st, v = V.ref t ∧ StpAt H8 t st ∧ PlainS ns ws st := by
        have hm := List.mem_of_getElem? hv1
        simp only [List.mem_cons, List.not_mem_nil, or_false] at hm
        rcases hm with e | e | e
        · exact ⟨t1, .sho yw, e, f1, .inl ⟨yw, hyw, rfl⟩⟩
        · exact ⟨t2, .ad xn q1, e, f2, .inr ⟨xn, hxn, q1, .inr rfl⟩⟩
        · exact ⟨t3, .st xn q2, e, f3, .inr ⟨xn, hxn, q2, .inl rfl⟩⟩
      refine ⟨_, rfl, l, _, kd, _, rfl, rfl, SqL.of fl, hv2, ?_⟩
      have hp8 := KA p _ hpx (off1 nap.symm)
      have keep : ∀ r s, StpAt H8 r s → StpAt (upd H8 p (.lst (rs.map V.ref ++ [V.ref t]))) r s := by
        intro r s hs
        have nr : r ≠ p := by
          intro e
          have hs : H8 r = _ := hs
          rw [e, hp8] at hs
          cases hs
        show upd H8 p _ r = _
        rw [upd_ne nr]
        exact hs
      have back : ∀ r s, StpAt H' r s → StpAt H8 r s := by
        intro r s hs
        refine KA r _ hs (off1 ?_)
        intro e
        obtain ⟨z, q⟩ := S2
        have hs : H' r = _ := hs
        rw [e, q] at hs
        cases hs
      refine ⟨p, _, _, rfl, rfl, hp8, small (by rw [List.length_map, hrs.1]; omega), ?_⟩
      refine ⟨S10.upd_ nap, (k2.trans KA).mut hp, ss ++ [st], _, _, _, _, by rw [List.length_append, hx]; rfl, ?_, ⟨rs ++ [t], ?_, ?_⟩, rfl⟩
      · intro s hs
        rcases List.mem_append.mp hs with q | q
        · exact hok s q
        · rw [List.mem_singleton.mp q]; exact hpl
      · rw [List.map_append]; exact upd_same
      · exact (hrs.mono fun r s q => keep r s (back r s q)).snoc (keep t st hst)
    · rintro σ H' ⟨S2, k2, ss, v1, v2, v3, v4, hx, hok, hst, rfl⟩
      exact ⟨_, rfl, k p ss H' hst (by omega) hok hp S2 k2⟩
end
end Sk
set_option Elab.async false
set_option linter.all false
namespace Sk
open PySem L2
/-! ### what a list of steps comes to, when each scene is played out -/
inductive Flt (cs : List Scn) : Nat → List Stp → List Stp → Nat → Prop
  | nil : Flt cs 0 [] [] 0
  | sho {n k : Nat} {x : Str} {R as : List Stp} : Flt cs n R as k → Flt cs (n + 1) (.sho x :: R) (.sho x :: as) k
  | st {n k : Nat} {x : Str} {z : Int} {R as : List Stp} : Flt cs n R as k → Flt cs (n + 1) (.st x z :: R) (.st x z :: as) k
  | ad {n k : Nat} {x : Str} {z : Int} {R as : List Stp} : Flt cs n R as k → Flt cs (n + 1) (.ad x z :: R) (.ad x z :: as) k
  | opn {m n k k1 i : Nat} {c : Scn} {R as as1 : List Stp} : cs[i]? = some c → c.skip = false → Flt cs m c.steps as1 k1 → Flt cs n R as k → Flt cs (m + n + 1) (.scn c.name :: R) (as1 ++ as) (k1 + k)
  | ask {m n k k1 i : Nat} {c : Scn} {R as as1 : List Stp} : cs[i]? = some c → c.skip = true → Flt cs m c.steps as1 k1 → Flt cs n R as k → Flt cs (m + n + 1) (.scn c.name :: R) (as1 ++ as) (k1 + k + 1)
inductive RunB (cs : List Scn) : Nat → List Stp → List Stp → Nat → Prop
  | fin {b n : Nat} {R as : List Stp} : Adv cs n R as none [] → n ≤ b → RunB cs b R as 0
  | ask {b b' n k : Nat} {R as as' R' : List Stp} {c : Scn} {i : Nat} : Adv cs n R as (some c) R' → n ≤ b → cs[i]? = some c → b' ≤ 20000 → RunB cs b' (c.steps ++ R') as' k → RunB cs b R (as ++ as') (k + 1)
theorem RunB.run {cs : List Scn} {b k : Nat} {R as : List Stp} (h : RunB cs b R as k) (hb : b ≤ 20000) : Run cs R as k := by
  induction h with
  | fin a h => exact .fin a (Nat.le_trans h hb)
  | ask a h e h' _ ih => exact .ask a (Nat.le_trans h hb) e (ih h')
theorem RunB.pre {cs : List Scn} {b k : Nat} {R R2 as pre : List Stp} (h : RunB cs b R as k) (f : ∀ n as o R', Adv cs n R as o R' → Adv cs (n + 1) R2 (pre ++ as) o R') : RunB cs (b + 1) R2 (pre ++ as) k := by
  cases h with
  | fin a h => exact .fin (f _ _ _ _ a) (by omega)
  | ask a h e h' r =>
    rw [← List.append_assoc]
    exact .ask (f _ _ _ _ a) (by omega) e h' r
theorem Flt.go {cs : List Scn} {m k1 : Nat} {ss as1 : List Stp} (h : Flt cs m ss as1 k1) : ∀ {b k : Nat} {R as : List Stp}, RunB cs b R as k → m + b ≤ 20000 → RunB cs (m + b) (ss ++ R) (as1 ++ as) (k1 + k) := by
  induction h with
  | nil => intro b k R as r _; simpa using r
  | @sho n k0 x _ _ _ ih =>
    intro b k R as r hb
    have := (ih r (by omega)).pre (R2 := .sho x :: (_ ++ R)) (pre := [.sho x]) fun _ _ _ _ a => .sho a
    rw [show n + 1 + b = n + b + 1 by omega]
    exact this
  | @st n k0 x z _ _ _ ih =>
    intro b k R as r hb
    have := (ih r (by omega)).pre (R2 := .st x z :: (_ ++ R)) (pre := [.st x z]) fun _ _ _ _ a => .st a
    rw [show n + 1 + b = n + b + 1 by omega]
    exact this
  | @ad n k0 x z _ _ _ ih =>
    intro b k R as r hb
    have := (ih r (by omega)).pre (R2 := .ad x z :: (_ ++ R)) (pre := [.ad x z]) fun _ _ _ _ a => .ad a
    rw [show n + 1 + b = n + b + 1 by omega]
    exact this
  | @opn m n k0 k1 i c _ _ _ hi hs _ _ ih1 ih =>
    intro b k R as r hb
    have := (ih1 (ih r (by omega)) (by omega)).pre (R2 := .scn c.name :: (_ ++ R)) (pre := []) fun _ _ _ _ a => .opn hi hs a
    rw [show m + n + 1 + b = m + (n + b) + 1 by omega, List.append_assoc, show k1 + k0 + k = k1 + (k0 + k) by omega]
    exact this
  | @ask m n k0 k1 i c _ _ _ hi hs _ _ ih1 ih =>
    intro b k R as r hb
    have := ih1 (ih r (by omega)) (by omega)
    rw [show k1 + k0 + 1 + k = k1 + (k0 + k) + 1 by omega, List.append_assoc]
    exact RunB.ask (as := []) (.ask hi hs) (Nat.zero_le _) hi (by omega) this
theorem Flt.run {cs : List Scn} {m k : Nat} {ss as : List Stp} (h : Flt cs m ss as k) (hm : m ≤ 20000) : Run cs ss as k := by
  have := h.go (b := 0) (k := 0) (R := []) (as := []) (.fin .done (Nat.le_refl _)) hm
  rw [List.append_nil, List.append_nil] at this
  exact this.run hm
theorem Flt.plain {cs : List Scn} {ns ws : List Str} : ∀ {ss : List Stp}, (∀ s ∈ ss, PlainS ns ws s) → Flt cs ss.length ss ss 0
  | [], _ => .nil
  | s :: ss, h => by
    have t := Flt.plain (cs := cs) fun x m => h x (List.mem_cons_of_mem _ m)
    rcases h s List.mem_cons_self with ⟨x, _, rfl⟩ | ⟨x, _, z, rfl | rfl⟩
    · exact .sho t
    · exact .st t
    · exact .ad t
/-- steps of which each scene is the same one -/
def isScn : Stp → Bool
  | .scn _ => true
  | _ => false
theorem Flt.mix {cs : List Scn} {ns ws : List Str} {c : Scn} {i m k1 : Nat} {as1 : List Stp} (hi : cs[i]? = some c) (hf : Flt cs m c.steps as1 k1) : ∀ {ss : List Stp}, (∀ s ∈ ss, PlainS ns ws s ∨ s = .scn c.name) →
    Flt cs (ss.length + m * (ss.filter isScn).length) ss (ss.flatMap fun s => if isScn s then as1 else [s]) ((k1 + if c.skip then 1 else 0) * (ss.filter isScn).length)
  | [], _ => .nil
  | s :: ss, h => by
    have t := Flt.mix hi hf fun x m => h x (List.mem_cons_of_mem _ m)
    rcases h s List.mem_cons_self with (⟨x, _, rfl⟩ | ⟨x, _, z, rfl | rfl⟩) | rfl
    · rw [List.length_cons, Nat.add_right_comm]
      exact .sho t
    · rw [List.length_cons, Nat.add_right_comm]
      exact .st t
    · rw [List.length_cons, Nat.add_right_comm]
      exact .ad t
    · have e : ((Stp.scn c.name :: ss).filter isScn).length = (ss.filter isScn).length + 1 := rfl
      rw [e, List.length_cons, Nat.mul_succ, Nat.mul_succ, show ss.length + 1 + (m * (ss.filter isScn).length + m) = m + (ss.length + m * (ss.filter isScn).length) + 1 by omega]
      cases hs : c.skip with
      | true =>
        rw [hs] at t
        have r := Flt.ask hi hs hf t
        simp only [if_true] at r ⊢
        rw [show (k1 + 1) * (ss.filter isScn).length + (k1 + 1) = k1 + (k1 + 1) * (ss.filter isScn).length + 1 by omega]
        exact r
      | false =>
        rw [hs] at t
        have r := Flt.opn hi hs hf t
        simp only [Bool.false_eq_true, if_false, Nat.add_zero] at r ⊢
        rw [Nat.add_comm (k1 * _) k1]
        exact r
end Sk
set_option Elab.async false
set_option linter.all false
set_option maxRecDepth 100000
set_option maxHeartbeats 4000000
namespace Sk
open PySem L2
/-! ### a name drawn -/
/-! ### data as such -/
/-- data of depth at most n -/
def Lay (n : Nat) (d : PyData) : Prop := d.canLay0 = true ∧ d.depth ≤ n
theorem Lay.shaped {n : Nat} {d : PyData} (h : Lay n d) (hn : n ≤ 64) : SeqAt.shaped d = true := by
  show (_ && _) = true
  rw [h.1, decide_eq_true (Nat.le_trans h.2 hn)]
  rfl
theorem lay_all {n : Nat} : ∀ {ds : List PyData}, (∀ d ∈ ds, Lay n d) → PyData.canLayAll0 ds = true ∧ PyData.depthAll ds ≤ n
  | [], _ => ⟨rfl, Nat.zero_le _⟩
  | d :: ds, h => by
    obtain ⟨a, b⟩ := lay_all fun x m => h x (List.mem_cons_of_mem _ m)
    obtain ⟨c, e⟩ := h d List.mem_cons_self
    refine ⟨?_, ?_⟩
    · show (_ && _) = true
      rw [c, a]
      rfl
    · show max d.depth (PyData.depthAll ds) ≤ n
      omega
theorem Lay.list {n : Nat} {ds : List PyData} (h : ∀ d ∈ ds, Lay n d) : Lay (n + 1) (.list ds) := ⟨(lay_all h).1, Nat.succ_le_succ (lay_all h).2⟩
theorem Lay.tup {n : Nat} {ds : List PyData} (h : ∀ d ∈ ds, Lay n d) : Lay (n + 1) (.tuple ds) := ⟨(lay_all h).1, Nat.succ_le_succ (lay_all h).2⟩
theorem Lay.mono {n m : Nat} {d : PyData} (h : Lay n d) (e : n ≤ m) : Lay m d := ⟨h.1, Nat.le_trans h.2 e⟩
theorem Lay.int (n : Nat) (i : Int) : Lay n (.int i) := ⟨rfl, Nat.zero_le _⟩
theorem Lay.str (n : Nat) {x : Str} (h : ∀ c ∈ x.cps.toList, c ∈ letters.cps.toList) : Lay n (.str x) := ⟨by
  show x.cps.all (· < 0x110000) = true
  rw [Array.all_eq_true']
  intro c hc
  have all : ∀ c ∈ letters.cps.toList, decide (c < 0x110000) = true := by decide +kernel
  exact all c (h c (Array.mem_toList_iff.mpr hc)), Nat.zero_le _⟩
theorem NmOk.lay {s : Str} (h : NmOk s) (n : Nat) : Lay n (.str s) := Lay.str n h.2.2
theorem dp_all {K : PySem.W.Frag} {H : Hp} {α : Type} (f : α → V) (g : α → PyData) : ∀ (xs : List α), (∀ x ∈ xs, Dp K H (f x) (g x)) → DpAll K H (xs.map f) (xs.map g)
  | [], _ => .nil
  | x :: xs, h => .cons (h x List.mem_cons_self) (dp_all f g xs fun y m => h y (List.mem_cons_of_mem _ m))
theorem dp_strs {K : PySem.W.Frag} {H : Hp} {a : Addr} {xs : List Str} (h : H a = some (.lst (xs.map V.str))) : Dp K H (.ref a) (.list (xs.map PyData.str)) := .lst (SqL.of h) (dp_all _ _ _ fun x _ => .str x)
theorem lay_strs {xs : List Str} (h : ∀ s ∈ xs, NmOk s) : Lay 1 (.list (xs.map PyData.str)) := Lay.list fun d m => by
  obtain ⟨x, hx, rfl⟩ := List.mem_map.mp m
  exact (h x hx).lay 0
instance (s : Str) : Decidable (NmOk s) := inferInstanceAs (Decidable (_ ∧ _ ∧ _))
section
variable {P : Program} {w : World} {K : PySem.W.Frag} {mg : Str → Option Value} {base : Heap} {S : List Str}
theorem app_cps (a b : Str) : (a ++ b).cps.toList = a.cps.toList ++ b.cps.toList := by
  show (Str.append a b).cps.toList = _
  unfold Str.append
  simp
theorem join_cps : ∀ ys : List Str, (Str.join "" ys).cps.toList = ys.flatMap (·.cps.toList)
  | [] => rfl
  | [x] => by simp [Str.join]
  | x :: y :: r => by
    have ih := join_cps (y :: r)
    show (x ++ "" ++ Str.join "" (y :: r)).cps.toList = _
    rw [app_cps, app_cps, ih]
    show (x.cps.toList ++ []) ++ _ = _
    rw [List.append_nil]
    rfl
abbrev someL : List Str := ["watch", "skip", "scene", "ended", "stuck", "end", "else", "option", "row", "if"]
theorem some_ok : ∀ s ∈ someL, NmOk s := by decide +kernel
abbrev fiveL : List Str := ["q", "kk", "jjj", "x", "ghghghgh"]
theorem five_ok : ∀ s ∈ fiveL, NmOk s := by decide +kernel
theorem five_left {xs : List Str} (h : xs.length ≤ 4) : ∃ z r, fiveL.filter (fun s => decide (s ∉ xs)) = z :: r := by
  cases e : fiveL.filter (fun s => decide (s ∉ xs)) with
  | cons z r => exact ⟨z, r, rfl⟩
  | nil =>
    have all : ∀ s ∈ fiveL, s ∈ xs := by
      intro s m
      by_cases c : s ∈ xs
      · exact c
      · have : s ∈ fiveL.filter (fun s => decide (s ∉ xs)) := List.mem_filter.mpr ⟨m, decide_eq_true c⟩
        rw [e] at this
        cases this
    have := nodup_len fiveL xs (by decide +kernel) all
    have : fiveL.length = 5 := rfl
    omega
/-- names put together of letters -/
theorem nm_join {ys : List Str} (h1 : 1 ≤ ys.length) (h2 : ys.length ≤ 8) (h : ∀ y ∈ ys, y.cps.toList.length = 1 ∧ ∀ c ∈ y.cps.toList, c ∈ letters.cps.toList) : NmOk (Str.join "" ys) := by
  have len : ∀ ys : List Str, (∀ y ∈ ys, y.cps.toList.length = 1) → (ys.flatMap (·.cps.toList)).length = ys.length := by
    intro ys
    induction ys with
    | nil => exact fun _ => rfl
    | cons y ys ih =>
      intro h
      rw [List.flatMap_cons, List.length_append, h y List.mem_cons_self, ih fun z m => h z (List.mem_cons_of_mem _ m), List.length_cons]
      omega
  have e : (Str.join "" ys).length = ys.length := by
    show (Str.join "" ys).cps.size = _
    rw [← Array.length_toList, join_cps, len ys fun y m => (h y m).1]
  refine ⟨by omega, by omega, ?_⟩
  intro c hc
  rw [join_cps] at hc
  obtain ⟨y, hy, hc⟩ := List.mem_flatMap.mp hc
  exact (h y hy).2 c hc
theorem nm_cut {a b : Str} (ha : NmOk a) (hb : NmOk b) : NmOk (cutS (a ++ b) none (some 8)) := by
  have e : (cutS (a ++ b) none (some 8)).cps.toList = ((a ++ b).cps.toList).take 8 := by
    show ((((a ++ b).cps.toList.drop (HT.sIx (a ++ b).length 0 none)).take (HT.sIx (a ++ b).length (a ++ b).length (some 8) - HT.sIx (a ++ b).length 0 none)).toArray).toList = _
    rw [show HT.sIx (a ++ b).length 0 none = 0 from rfl, show HT.sIx (a ++ b).length (a ++ b).length (some 8) = min 8 (a ++ b).length from HT.sIx_nat _ _ 8, Nat.sub_zero, List.drop_zero]
    have l : (a ++ b).length = (a ++ b).cps.toList.length := by
      rw [Array.length_toList]
      rfl
    rw [l, List.take_eq_take_iff]
    omega
  have l2 : (cutS (a ++ b) none (some 8)).length = min 8 ((a ++ b).cps.toList).length := by
    show (cutS (a ++ b) none (some 8)).cps.size = _
    rw [← Array.length_toList, e, List.length_take]
  have l3 : (a ++ b).cps.toList.length = a.length + b.length := by
    rw [app_cps, List.length_append, Array.length_toList, Array.length_toList]
    rfl
  obtain ⟨a1, a2, a3⟩ := ha
  obtain ⟨b1, b2, b3⟩ := hb
  refine ⟨by omega, by omega, fun c hc => ?_⟩
  rw [e] at hc
  have hc := List.mem_of_mem_take hc
  rw [app_cps] at hc
  rcases List.mem_append.mp hc with q | q
  · exact a3 c q
  · exact b3 c q
theorem sum_ones : ∀ {ys : List Str}, (∀ y ∈ ys, y.cps.toList.length = 1) → (ys.map (·.length)).sum = ys.length
  | [], _ => rfl
  | y :: ys, h => by
    have e : y.length = 1 := by
      have := h y List.mem_cons_self
      rw [Array.length_toList] at this
      exact this
    rw [List.map_cons, List.sum_cons, sum_ones fun z m => h z (List.mem_cons_of_mem _ m), e, List.length_cons]
    omega
theorem last_at {xs : List Str} (h : xs ≠ []) : ∃ z ∈ xs, atI (xs.map V.str) (-1) = some (V.str z) := by
  have hp : 0 < xs.length := List.length_pos_iff.mpr h
  have hl : xs.length - 1 < xs.length := by omega
  refine ⟨xs[xs.length - 1], List.getElem_mem hl, ?_⟩
  have q : ixN (xs.map V.str).length (-1) = some (xs.length - 1) := by
    unfold ixN
    rw [List.length_map]
    rw [if_neg (by decide)]
    split
    · congr 1
      omega
    · omega
  unfold atI
  rw [q]
  show (xs.map V.str)[xs.length - 1]? = _
  rw [List.getElem?_map, List.getElem?_eq_getElem hl]
  rfl
theorem filt_snoc {α : Type} {p : α → Bool} {l : List α} {i : Nat} {x : α} (h : l[i]? = some x) : (l.take (i + 1)).filter p = (l.take i).filter p ++ if p x then [x] else [] := by
  rw [take_snoc h, List.filter_append]
  congr 1
  cases e : p x with
  | true => rw [List.filter_cons_of_pos e]; rfl
  | false => rw [List.filter_cons_of_neg (by rw [e]; exact Bool.false_ne_true)]; rfl
theorem ok_lname (T : TX K mg) : Ok P w K mg base CX0 2 a_Lname p_Lname spLname := by
  obtain ⟨fd, F⟩ := T.d.def_ 55 (d := d_Lname) rfl
  obtain ⟨_, O_Ldraw⟩ := ok_draw (P := P) (w := w) (base := base) T
  have b : Binds K fd p_Lname [] := FunD.bindsN F fun _ _ _ _ _ _ us hl => match us, hl with | [_, _], _ => rfl
  refine ⟨fd, F.ok sc_Lname (fun vs H Q E h => ?_) (fun cdv A outer s H vs Q E hr h => ?_), b, F.kp⟩
  · obtain ⟨_, _, _, rfl, _⟩ := h
    rfl
  · obtain ⟨a, o, xs, rfl, hS, ho, hok, hl, k⟩ := h
    refine ⟨_, PSs.nox (pss_cons (ps_set (i := 2) sc_Lname.nd rfl (Or.inl rfl) (pcall O_Ldraw (hr.mono (by decide)) rfl (T.g_Ldraw) pass0 (pa_cons (pv 0) (pa_cons pe_int pa_nil))))
      (pss_cons (ps_set (i := 3) sc_Lname.nd rfl (Or.inl rfl) (pe_lst (pa_cons pe_str (pa_cons pe_str (pa_cons pe_str (pa_cons pe_str (pa_cons pe_str (pa_cons pe_str (pa_cons pe_str (pa_cons pe_str (pa_cons pe_str (pa_cons pe_str pa_nil))))))))))))
      (pss_cons (ps_set (i := 4) sc_Lname.nd rfl (Or.inl rfl) (pe_join pe_str
      (pe_lc (own := [("k", 5)]) rfl sc_Lname.nd (pi_range1 rfl (T.free_range) (pa_cons (pe_op op_add pe_int (pcall O_Ldraw (hr.mono (by decide)) rfl (T.g_Ldraw) pass0 (pa_cons (pv 0) (pa_cons pe_int pa_nil)))) pa_nil)) (blkOk_by (own := [("k", 5)]) (N := n_Lname) (sc := defScope s_Lname) (by decide +kernel)) (fun _ _ _ _ _ => pg_name (i := 5) sc_Lname.nd rfl (Or.inl rfl)) (fun _ _ _ _ _ => pts_nil) (fun _ _ _ _ _ => (by exact (pe_ix ix_str pe_str (pcall O_Ldraw (hr.mono (by decide)) rfl (T.g_Ldraw) pass0 (pa_cons (pv 0) (pa_cons pe_int pa_nil))) (fun _ _ => rfl))))) rfl))
      (C8.pss_cut (ps_if (pt_cmpR op_eq (pv 2) pe_int (nomark _))
      (pss_one (ps_set (i := 4) sc_Lname.nd rfl (Or.inl rfl) (pe_ix (ix_listK (K := K)) (pv 3) (pcall O_Ldraw (hr.mono (by decide)) rfl (T.g_Ldraw) pass0 (pa_cons (pv 0) (pa_cons pe_int pa_nil))) (fun _ _ => rfl)))) pss_nil)
      (C8.pss_cut
      (ps_if (PW.pt (pw_and (pt_cmpR op_eq (pv 2) pe_int (nomark _)) (pw_and1 (pt_cmpR (neDK (K := K) hr.units) (pv 1) (pe_lst pa_nil) (nomark _)))))
      (pss_one (ps_set (i := 4) sc_Lname.nd rfl (Or.inl rfl) (pe_slice sl_str (pe_op op_add_str (pe_ix (ix_listK (K := K)) (pv 1) (pe_un un_neg pe_int) (fun _ _ => rfl)) (pv 4)) po_none (po_some pe_int)))) pss_nil)
      (C8.pss_cut (ps_if (pt_cmpR (inSK (K := K)) (pv 4) (pv 1) (by rfl))
      (pss_one (ps_set (i := 4) sc_Lname.nd rfl (Or.inl rfl) (pe_ix (ix_listK (K := K))
      (pe_lc (own := [("one", 6)]) rfl sc_Lname.nd (pi_list (pe_lst (pa_cons pe_str (pa_cons pe_str (pa_cons pe_str (pa_cons pe_str (pa_cons pe_str pa_nil))))))) (blkOk_by (own := [("one", 6)]) (N := n_Lname) (sc := defScope s_Lname) (by decide +kernel)) (fun _ _ _ _ _ => pg_name (i := 6) sc_Lname.nd rfl (Or.inl rfl)) (fun _ _ _ _ _ => pts_one (pt_cmpR (notInSK (K := K)) (pv 6) (pv 1) (by rfl))) (fun _ _ _ _ _ => (by exact (pv 6)))) pe_int (fun _ _ => rfl)))) pss_nil)
      (pss_one (ps_ret (pv 4))))))))), ?_⟩
    have nao : o ≠ a := src_str hS ho
    refine ⟨_, rfl, a, 6, rfl, hS, by decide, by decide, fun kd H1 kd0 kd1 S1 k1 => ?_⟩
    refine ⟨small (by show 10 ≤ 100000; decide), fun q hq => ?_⟩
    have S2 := S1.new (o := .lst [V.str "watch", V.str "skip", V.str "scene", V.str "ended", V.str "stuck", V.str "end", V.str "else", V.str "option", V.str "row", V.str "if"]) hq
    have nqa : q ≠ a := S1.ne hq
    refine ⟨⟨_, rfl⟩, _, rfl, a, 8, rfl, S2, by decide, by decide, fun m H3 m0 m1 S3 k3 => ?_⟩
    have q3 := k3 q _ upd_same (off1 nqa)
    refine ⟨1, m, rfl, rfl, ?_⟩
    refine ⟨_, rfl, by omega, by omega, fun D hD => ?_⟩
    have k13 := ((k1.new hq).trans k3)
    have nDa : D ≠ a := S3.ne hD
    refine lc_range (lo := 0) (n := (1 + m).toNat) (fun i H' => Src H' a ∧ Kp [a] H3 H' ∧ ∃ ys : List Str, ys.length = i ∧ H' D = some (.lst (ys.map V.str)) ∧ ∀ y ∈ ys, y.cps.toList.length = 1 ∧ ∀ c ∈ y.cps.toList, c ∈ letters.cps.toList) ⟨S3.new hD, (Kp.refl _ _).new hD, [], rfl, upd_same, (fun y h => by cases h)⟩ ?_ ?_
    · rintro i H' hi ⟨S4, k4, ys, hy, hD4, hys⟩
      refine ⟨rfl, ?_⟩
      refine ⟨_, rfl, a, 26, rfl, S4, by decide, by decide, fun r H5 r0 r1 S5 k5 => ?_⟩
      obtain ⟨c, hc1, hc2⟩ := at_in (l := letters.cps.toList) r0 r1
      refine ⟨letters, r, c, rfl, rfl, small (by decide +kernel), hc2, ?_⟩
      have hD5 := k5 _ _ hD4 (off1 nDa)
      refine ⟨_, hD5, by rw [List.length_map, hy]; exact small' (by omega), ?_⟩
      refine ⟨S5.upd_ nDa.symm, (k4.trans k5).mut hD, ys ++ [⟨#[c]⟩], by rw [List.length_append, hy]; rfl, by rw [List.map_append]; exact upd_same, ?_⟩
      intro y m
      rcases List.mem_append.mp m with m | m
      · exact hys y m
      · rw [List.mem_singleton.mp m]
        refine ⟨rfl, fun d md => ?_⟩
        rw [List.mem_singleton.mp md]
        exact List.mem_of_getElem? hc1
    · rintro H5 ⟨S5, k5, ys, hy, hD5, hys⟩
      refine ⟨"", D, ys, rfl, rfl, .inl (SqL.of hD5), ?_, ?_⟩
      · rw [sum_ones fun y m => (hys y m).1]
        show ys.length + ys.length * 0 ≤ _
        omega
      rw [TL.join_eq]
      have nz := nm_join (ys := ys) (by omega) (by omega) hys
      generalize Str.join "" ys = z0 at nz
      have k15 := k13.trans k5
      have q5 := k5 q _ q3 (off1 nqa)
      have o5 := k15 o _ ho (off1 nao)
      -- kind 5
      refine ⟨fun σ H' => ∃ z, NmOk z ∧ Src H' a ∧ Kp [a] H H' ∧ σ = [some (.ref a), some (.ref o), some (.int kd), some (.ref q), some (.str z), none, none], ?_, ?_⟩
      · refine ⟨_, rfl, rfl, _, rfl, ite2 (fun c => ?_) (fun c => ?_)⟩
        · refine ⟨_, rfl, _, rfl, a, 10, rfl, S5, by decide, by decide, fun r H6 r0 r1 S6 k6 => ?_⟩
          obtain ⟨y, hy1, hy2⟩ := at_in (l := someL.map V.str) r0 r1
          obtain ⟨y, hy, rfl⟩ := map_at hy1
          exact ⟨q, _, r, _, rfl, rfl, SqL.of (k6 q _ q5 (off1 nqa)), hy2, y, some_ok y (List.mem_of_getElem? hy), S6, k15.trans k6, rfl⟩
        · exact ⟨z0, nz, S5, k15, rfl⟩
      rintro σ H6 ⟨z1, nz1, S6, k16, rfl⟩
      have o6 := k16 o _ ho (off1 nao)
      -- kind 4
      refine ⟨fun σ H' => ∃ z, NmOk z ∧ Src H' a ∧ Kp [a] H H' ∧ σ = [some (.ref a), some (.ref o), some (.int kd), some (.ref q), some (.str z), none, none], ?_, ?_⟩
      · refine ⟨_, rfl, rfl, _, rfl, ite2 (fun c => ?_) (fun c => ?_)⟩
        · refine ⟨_, rfl, small (by show 0 ≤ 100000; decide), fun p hp => ?_⟩
          have o7 : (upd H6 p (.lst [])) o = some (.lst (xs.map V.str)) := by rw [upd_ne (ne_of_none o6 hp)]; exact o6
          refine ⟨_, .list [], dp_strs o7, .lst (SqL.of upd_same) .nil, (lay_strs hok).shaped (by decide), rfl, _, rfl, ?_⟩
          cases xs with
          | nil => exact nope ⟨z1, nz1, S6.new hp, k16.new hp, rfl⟩
          | cons x0 xr =>
            refine yes ?_
            obtain ⟨zl, ml, al⟩ := last_at (xs := x0 :: xr) (by intro z; cases z)
            refine ⟨_, rfl, _, rfl, o, _, -1, _, rfl, rfl, SqL.of o7, al, _, rfl, _, _, rfl, rfl, small ?_, _, rfl, _, rfl, small ?_, _, nm_cut (hok zl ml) nz1, S6.new hp, k16.new hp, rfl⟩
            · have := (hok zl ml).2.1
              have := nz1.2.1
              omega
            · rw [Str.length_append]
              have := (hok zl ml).2.1
              have := nz1.2.1
              omega
        · exact ⟨z1, nz1, S6, k16, rfl⟩
      rintro σ H7 ⟨z2, nz2, S7, k17, rfl⟩
      have o7 := k17 o _ ho (off1 nao)
      -- taken already
      refine ⟨fun σ H' => ∃ z, NmOk z ∧ z ∉ xs ∧ Src H' a ∧ Kp [a] H H' ∧ σ = [some (.ref a), some (.ref o), some (.int kd), some (.ref q), some (.str z), none, none], ?_, ?_⟩
      · refine ⟨_, rfl, _, rfl, o, _, rfl, .inl (SqL.of o7), rfl, flat_strs _, ?_⟩
        by_cases hm : z2 ∈ xs
        · rw [inV_yes hm]
          refine ⟨true, rfl, yes ?_⟩
          refine ⟨small (by show 5 ≤ 100000; decide), fun c hc => ?_⟩
          have nca : c ≠ a := S7.ne hc
          have S8 := S7.new (o := .lst (fiveL.map V.str)) hc
          have o8 : (upd H7 c (.lst (fiveL.map V.str))) o = some (.lst (xs.map V.str)) := by rw [upd_ne (ne_of_none o7 hc)]; exact o7
          have c8 : (upd H7 c (.lst (fiveL.map V.str))) c = some (.lst (fiveL.map V.str)) := upd_same
          have k18 := k17.new (o := .lst (fiveL.map V.str)) hc
          show _
          refine ⟨c, rfl, ⟨_, SqL.of c8⟩, fun D2 hD2 => ?_⟩
          have n1 : c ≠ D2 := ne_of_none c8 hD2
          have n2 : o ≠ D2 := ne_of_none o8 hD2
          have n3 : D2 ≠ a := S8.ne hD2
          refine lc_list (K := K) (a := c) (xs := fiveL.map V.str) (fun i H' => H' D2 = some (.lst (((fiveL.take i).filter (fun s => decide (s ∉ xs))).map V.str)) ∧ Kp [D2] (upd H7 c (.lst (fiveL.map V.str))) H') ⟨upd_same, (Kp.refl _ _).new hD2⟩ (fun i H' _ z => SqL.of (z.2 _ _ c8 (off1 n1))) ?_ ?_
          · rintro i x H2 hx ⟨h2, k2⟩
            obtain ⟨s, hs, rfl⟩ := map_at hx
            have o2 := k2 _ _ o8 (off1 n2)
            refine ⟨rfl, ?_⟩
            refine ⟨_, rfl, _, rfl, o, _, rfl, .inl (SqL.of o2), rfl, flat_strs _, ?_⟩
            rw [filt_snoc hs]
            by_cases ms : s ∈ xs
            · rw [inV_yes ms]
              refine ⟨false, rfl, nope ⟨?_, k2⟩⟩
              rw [h2, decide_eq_false (not_not_intro ms)]
              simp
            · rw [inV_no ms]
              refine ⟨true, rfl, yes ⟨_, rfl, _, h2, ?_, ?_, k2.upd (on1 D2)⟩⟩
              · have := List.length_filter_le (fun s => decide (s ∉ xs)) (fiveL.take i)
                have := List.length_take_le' i fiveL
                have : fiveL.length = 5 := rfl
                rw [List.length_map]
                exact small' (by omega)
              · rw [upd_same, decide_eq_true ms, List.map_append]
                rfl
          · rintro H2 ⟨h2, k2⟩
            rw [List.length_map, List.take_length] at h2
            obtain ⟨z, r, e⟩ := five_left hl
            have mz : z ∈ fiveL.filter (fun s => decide (s ∉ xs)) := by rw [e]; exact List.mem_cons_self
            obtain ⟨m1, m2⟩ := List.mem_filter.mp mz
            rw [e] at h2
            have k2' : Ex (upd H7 c (.lst (fiveL.map V.str))) H2 := fun b o q => k2 b o q (off1 (ne_of_none q hD2))
            obtain ⟨sn, hsn⟩ := S8
            exact ⟨D2, _, 0, _, rfl, rfl, SqL.of h2, atI_nat (j := 0) rfl, z, five_ok z m1, of_decide_eq_true m2, ⟨sn, k2' _ _ hsn⟩, k18.ex k2', rfl⟩
        · rw [inV_no hm]
          exact ⟨false, rfl, nope ⟨z2, nz2, hm, S7, k17, rfl⟩⟩
      rintro σ H8 ⟨z3, nz3, hz3, S8, k18, rfl⟩
      exact ⟨_, rfl, k z3 H8 nz3 hz3 S8 k18⟩
end
end Sk
set_option Elab.async false
set_option linter.all false
set_option maxRecDepth 100000
set_option maxHeartbeats 4000000
namespace Sk
open PySem L2
/-! ### resumed -/
/-- what is left to be answered, where a play stands -/
def Rest (cs : List Scn) (o : Option Scn) (R as : List Stp) (k : Nat) : Prop := match o with
  | none => R = [] ∧ as = [] ∧ k = 0
  | some c => ∃ (i k' : Nat), cs[i]? = some c ∧ k = k' + 1 ∧ Run cs (c.steps ++ R) as k'
theorem Run.adv {cs : List Scn} {R as : List Stp} {k : Nat} (h : Run cs R as k) : ∃ n as1 as2 o R', Adv cs n R as1 o R' ∧ n ≤ 20000 ∧ as = as1 ++ as2 ∧ Rest cs o R' as2 k := by
  cases h with
  | fin a hn => exact ⟨_, _, [], none, [], a, hn, (List.append_nil _).symm, rfl, rfl, rfl⟩
  | ask a hn hi r => exact ⟨_, _, _, _, _, a, hn, rfl, _, _, hi, rfl, r⟩
theorem Adv.wt {cs : List Scn} {ω : Stp → Nat} (hω : WtOk cs ω) {n : Nat} {R as R' : List Stp} {o : Option Scn} (h : Adv cs n R as o R') : match o with
    | none => True
    | some c => ∀ i : Nat, cs[i]? = some c → wsum ω (c.steps ++ R') ≤ wsum ω R := by
  induction h with
  | done => exact True.intro
  | @sho n x R ws R' o _ ih =>
    cases o with
    | none => exact True.intro
    | some c =>
      intro i hi
      have := ih i hi
      rw [wsum_cons]
      omega
  | @st n x k R ws R' o _ ih =>
    cases o with
    | none => exact True.intro
    | some c =>
      intro i hi
      have := ih i hi
      rw [wsum_cons]
      omega
  | @ad n x k R ws R' o _ ih =>
    cases o with
    | none => exact True.intro
    | some c =>
      intro i hi
      have := ih i hi
      rw [wsum_cons]
      omega
  | @opn n i c R ws R' o hi hs _ ih =>
    cases o with
    | none => exact True.intro
    | some c' =>
      intro j hj
      have := ih j hj
      have w := hω.2 c (List.mem_of_getElem? hi)
      rw [wsum_app] at this
      rw [wsum_cons]
      rw [wsum_app] at *
      omega
  | @ask i c R hi hs =>
    intro j hj
    have w := hω.2 c (List.mem_of_getElem? hi)
    rw [wsum_app, wsum_cons]
    omega
section
variable {P : Program} {w : World} {K : PySem.W.Frag} {mg : Str → Option Value} {base : Heap} {S : List Str}
theorem PlS.ext {cs : List Scn} {B H H' : Hp} {pl : Addr} {f : Str → Int} {W : List Str} {k : Nat} {R : List Stp} {o : Option Scn} {sd : Str} (h : PlS K S cs B H pl f W k R o sd) (e : Ex H H') : PlS K S cs B H' pl f W k R o sd := by
  obtain ⟨dx, s, fi, sc, cu, hd, wo, gi, op, asv, le, rs, h1, h2, h3, h4, h5, h6, h7, h8, hb, hn, hB⟩ := h
  exact ⟨dx, s, fi, sc, cu, hd, wo, gi, op, asv, le, rs, e _ _ h1, h2, h3.ex e, e _ _ h4, e _ _ h5, e _ _ h6, h7, h8.kp (e.kp []) (fun _ _ _ => List.not_mem_nil), hb, hn, hB.trans e⟩
theorem PlS.ex {cs : List Scn} {B H : Hp} {pl : Addr} {f : Str → Int} {W : List Str} {k : Nat} {R : List Stp} {o : Option Scn} {sd : Str} (h : PlS K S cs B H pl f W k R o sd) : Ex B H := by
  obtain ⟨dx, s, fi, sc, cu, hd, wo, gi, op, asv, le, rs, h1, h2, h3, h4, h5, h6, h7, h8, hb, hn, hB⟩ := h
  exact hB
theorem PlS.look {cs : List Scn} {B H : Hp} {pl : Addr} {f : Str → Int} {W : List Str} {k : Nat} {R : List Stp} {o : Option Scn} {sd : Str} (h : PlS K S cs B H pl f W k R o sd) : ∃ dx fs, H pl = some (.ins (He.ga K "Play") dx fs) ∧ fs.lookup ("answer" : Str) = none := by
  obtain ⟨dx, s, fi, sc, cu, hd, wo, gi, op, asv, le, rs, h1, h2, h3, h4, h5, h6, h7, h8, hb, hn, hB⟩ := h
  exact ⟨dx, _, h1, by rfl⟩
def spRes (K : PySem.W.Frag) (S : List Str) (cs : List Scn) : Sp := fun vs H Q _ => ∃ (s n0 hd0 bk : Addr) (f : Str → Int) (as : List Stp) (k i : Nat) (c : Scn) (ω : Stp → Nat), vs = [.ref s, .ref n0, .ref bk, .str c.name] ∧ StoryAt K H s cs ∧ NotesA K S H n0 hd0 f ∧ H bk = some (.lst (List.replicate k (.str "watch"))) ∧
  cs[i]? = some c ∧ (cs.map Scn.name).Nodup ∧ cs.length ≤ 100 ∧ (∀ c ∈ cs, StpsOk S cs c.steps) ∧ (∀ c ∈ cs, c.steps.length ≤ 1000) ∧ WtOk cs ω ∧ wsum ω c.steps ≤ 1000 ∧ Run cs c.steps as k ∧ k ≤ 1000 ∧ (wordsOf as).length ≤ 20000 ∧
  ∀ pl H', H pl = none → PlS K S cs H H' pl (doAll as f) (wordsOf as) k [] none "ended" → Q (.ref pl) H'
theorem ok_resumed (T : TX K mg) (hS : SOk S) (cs : List Scn) : ∃ fd, FnOk P w K mg base CX0 9 (He.fAd K a_resumed) fd p_resumed (spRes K S cs) ∧ FunD K d_resumed.name d_resumed.qual d_resumed.params d_resumed.body d_resumed.scope (d_resumed.dvs K) (d_resumed.kws K) (He.fAd K d_resumed.at_) fd := by
  obtain ⟨fd, F⟩ := T.d.def_ 51 (d := d_resumed) rfl
  obtain ⟨fdP, O_Play_init, FP⟩ := ok_play (P := P) (w := w) (base := base) T hS cs
  obtain ⟨_, O_Play_answer⟩ := ok_ans (P := P) (w := w) (base := base) T hS cs
  obtain ⟨mvP, hbPl⟩ := FP.kbinds0 (ps := p_Play_init) 3 ["scene"] [] (fun us _ ws => us ++ ws) (by intro z; cases z) (fun q h => by cases h) (fun a _ c => a.append c) (fun _ _ _ _ _ _ us mv ws l1 l2 l3 => match us, mv, ws, l1, l2, l3 with | [_, _, _], [], [_], _, _, _ => rfl)
  refine ⟨fd, F.ok sc_resumed (fun vs H Q E h => ?_) (fun cdv A outer s H vs Q E hr h => ?_), F⟩
  · obtain ⟨_, _, _, _, _, _, _, _, _, _, rfl, _⟩ := h
    rfl
  · obtain ⟨s, n0, hd0, bk, f, as, kk, i, c, ω, rfl, hst, hN, hbk, hci, hnd, hlen, hcs, hcl, hω, hw, hR, hk, hW, k⟩ := h
    refine ⟨_, PSs.nox (pss_cons (ps_set (i := 4) sc_resumed.nd rfl (Or.inl rfl) (pe_makeK T.mk_Play O_Play_init (hr.mono (by decide)) rfl (T.g_Play) hbPl pass0 (pa_cons (pv 0) (pa_cons (pv 1) pa_nil)) (pk_cons (pv 3) pk_nil)))
      (pss_cons
      (ps_for PassesOwn.never rfl (pi_enum rfl (T.free_enumerate) (pa_cons (pv 2) pa_nil)) (pg_tupK (K := K) (n := 2) (pgs_cons (pg_name (i := 5) sc_resumed.nd rfl (Or.inl rfl)) (pgs_cons (pg_name (i := 6) sc_resumed.nd rfl (Or.inl rfl)) pgs_nil)))
      (pss_one (ps_try_many (Wout := fun _ _ _ _ => False) (tb := fun _ => _) rfl rfl takes_none5 (fun _ _ _ _ _ =>
      (pss_one (ps_expr (pe_meth (pv 4) T.c_Play T.m_Play_answer O_Play_answer.fn (hr.mono (by decide)) O_Play_answer.b .nil pass0 (pa_cons (pv 6) pa_nil))))) (HdsOk.cons (ts := fun _ _ _ => tNever) ⟨rfl, by decide, Or.inl T.g_PlayOver⟩ (fun _ _ _ _ _ _ _ => pss_never) (HdsOk.cons (ts := fun _ _ _ => tNever) ⟨rfl, by decide, Or.inl T.g_InvalidAnswer⟩ (fun _ _ _ _ _ _ _ => pss_never) .nil)))))
      (pss_one (ps_ret (pv 4))))), ?_⟩
    obtain ⟨n1, as1, as2, o1, R1, hA, hn1, rfl, hrest⟩ := hR.adv
    refine ⟨_, rfl, _, rfl, _, rfl, rfl, rfl, fun pl dx hpl hdx hne => ?_⟩
    have hpl1 : (upd H dx (.own pl)) pl = none := by rw [upd_ne hne.symm]; exact hpl
    have e1 : Ex H (upd (upd H dx (.own pl)) pl (.ins (He.ga K "Play") dx [])) := ((Ex.refl H).new hdx).new hpl1
    refine ⟨pl, dx, s, n0, hd0, H, f, as1, R1, o1, n1, i, c, ω, rfl, upd_same, hpl, e1, hst, hN, hci, hnd, hlen, hcs, hcl, hω, hw, hA, by omega, fun H1 P1 => ⟨rfl, ?_⟩⟩
    have wds : ∀ a b : List Stp, (wordsOf a).length ≤ (wordsOf (a ++ b)).length := fun a b => by rw [words_app, List.length_append]; omega
    have ok1 := hA.ok hcs (hcs c (List.mem_of_getElem? hci))
    have wt1 := hA.wt hω
    refine ⟨_, rfl, bk, List.replicate kk (.str "watch"), rfl, SqL.of (P1.ex _ _ hbk), ?_⟩
    refine for_it (walk_enum (K := K) (a := bk) (xs := List.replicate kk (V.str "watch"))) (fun j σ H' => ∃ (v5 v6 : Option V) (ad ar R : List Stp) (o : Option Scn), σ = [some (.ref s), some (.ref n0), some (.ref bk), some (.str c.name), some (.ref pl), v5, v6] ∧ as1 ++ as2 = ad ++ ar ∧ PlS K S cs H H' pl (doAll ad f) (wordsOf ad) j R o (sdOf o) ∧ Rest cs o R ar (kk - j) ∧ j ≤ kk ∧
      StpsOk S cs R ∧ (match o with | none => True | some c' => wsum ω (c'.steps ++ R) ≤ 1000)) ⟨_, _, as1, as2, R1, o1, rfl, rfl, P1, hrest, Nat.zero_le _, ok1, ?_⟩ (fun j σ H' _ z => ?_) ?_ ?_
    · cases o1 with
      | none => exact True.intro
      | some c' =>
        obtain ⟨i', _, hi', _⟩ := hrest
        exact Nat.le_trans (wt1 i' hi') hw
    · obtain ⟨_, _, _, _, _, _, _, _, z, _⟩ := z
      exact SqL.of (z.ex _ _ hbk)
    · rintro j x σ H2 H3 hj ⟨v5, v6, ad, ar, R, o, rfl, hsp, hP, hre, hjk, hok, hwt⟩ ⟨U, x1, x2, rfl, hU, rfl, hx1, hx2⟩
      cases Option.some.inj hx1
      rw [List.length_replicate] at hj
      have hx2 : (List.replicate kk (V.str "watch"))[j]? = some x2 := hx2
      rw [List.getElem?_replicate, if_pos hj] at hx2
      cases Option.some.inj hx2
      have gU : (upd H2 U (.tup [.int (j : Int), .str "watch"])) U = some (.tup [.int (j : Int), .str "watch"]) := upd_same
      have hP3 := hP.ext ((Ex.refl _).new (o := .tup [.int (j : Int), .str "watch"]) hU)
      refine ⟨U, _, rfl, SqT.of gU, rfl, _, _, rfl, _, _, rfl, rfl, ?_⟩
      cases o with
      | none =>
        obtain ⟨_, _, z⟩ := hre
        omega
      | some c' =>
        obtain ⟨i', k', hi', hk', hr'⟩ := hre
        obtain ⟨n2, a1, a2, o2, R2, hA2, hn2, rfl, hre2⟩ := hr'.adv
        have ok2 := hA2.ok hcs ((hcs c' (List.mem_of_getElem? hi')).append hok)
        have wt2 := hA2.wt hω
        have wl : (wordsOf ad).length ≤ 20000 := Nat.le_trans (wds ad _) (by rw [← hsp]; exact hW)
        obtain ⟨dx2, fs, h2p, h2l⟩ := hP3.look
        refine ⟨_, rfl, pl, dx2, fs, rfl, h2p, h2l, _, rfl, ?_⟩
        refine ⟨pl, H, doAll ad f, wordsOf ad, j, R, a1, R2, o2, n2, i', c', ω, rfl, hP3, hi', hnd, hcs, hcl, hok, hω, hwt, hA2, by omega, by omega, fun H4 P4 => ?_⟩
        refine ⟨_, _, ad ++ a1, a2, R2, o2, rfl, by rw [hsp, List.append_assoc], ?_, ?_, hj, ok2, ?_⟩
        · rw [doAll_app, words_app]
          exact P4
        · have e : kk - (j + 1) = k' := by omega
          rw [e]
          exact hre2
        · cases o2 with
          | none => exact True.intro
          | some c2 =>
            obtain ⟨i2, _, hi2, _⟩ := hre2
            exact Nat.le_trans (wt2 i2 hi2) hwt
    · rintro σ H2 ⟨v5, v6, ad, ar, R, o, rfl, hsp, hP, hre, hjk, hok, hwt⟩
      rw [List.length_replicate, Nat.sub_self] at hre
      cases o with
      | some c' =>
        obtain ⟨_, _, _, z, _⟩ := hre
        cases z
      | none =>
        obtain ⟨rfl, rfl, _⟩ := hre
        rw [List.append_nil] at hsp
        refine ⟨_, rfl, k pl H2 hpl ?_⟩
        rw [hsp]
        rw [List.length_replicate] at hP
        exact hP
end
end Sk
set_option Elab.async false
set_option linter.all false
set_option maxRecDepth 100000
set_option maxHeartbeats 4000000
namespace Sk
open PySem L2
/-! ### notes as the law tells them -/
section
variable {P : Program} {w : World} {K : PySem.W.Frag} {mg : Str → Option Value} {base : Heap} {S : List Str}
def spLpairs (S : List Str) : Sp := fun vs H Q _ => ∃ (d : Addr) (kvs : KD), vs = [.ref d] ∧ H d = some (.dK kvs) ∧ DI S kvs ∧ ∀ p rs ns H', Ex H H' → H' p = some (.lst (rs.map V.ref)) → Ord (dv kvs) ns → ns.length ≤ 10 → (∀ s ∈ ns, s ∈ S) → PrsAt H' (dv kvs) rs ns → Q (.ref p) H'
theorem DI.at_key {kvs : KD} (h : DI S kvs) {s : Str} (m : (Sum.inr s : L2.Key) ∈ kvs.map (·.1)) : lk kvs s = some (dv kvs s) := by
  obtain ⟨p, hp, e⟩ := List.mem_map.mp m
  obtain ⟨i, hi, q⟩ := List.mem_iff_getElem.mp hp
  have q2 : kvs[i]? = some p := by rw [List.getElem?_eq_getElem hi, q]
  obtain ⟨k, v⟩ := p
  obtain ⟨s', j, rfl, rfl, _⟩ := h.at q2
  cases Sum.inr.inj e
  have q3 := h.lk_at q2
  unfold dv
  rw [q3]
  rfl
theorem ok_lpairs (T : TX K mg) (hS : SOk S) : Ok P w K mg base CX0 1 a_Lpairs p_Lpairs (spLpairs S) := by
  obtain ⟨fd, F⟩ := T.d.def_ 57 (d := d_Lpairs) rfl
  have b : Binds K fd p_Lpairs [] := FunD.bindsN F fun _ _ _ _ _ _ us hl => match us, hl with | [_], _ => rfl
  refine ⟨fd, F.ok sc_Lpairs (fun vs H Q E h => ?_) (fun cdv A outer s H vs Q E hr h => ?_), b, F.kp⟩
  · obtain ⟨_, _, rfl, _⟩ := h
    rfl
  · obtain ⟨d, kvs, rfl, hd, hI, k⟩ := h
    refine ⟨_, PSs.nox (pss_one (ps_ret
      (pe_lc (own := [("name", 1)]) rfl sc_Lpairs.nd (pi_list (pe_callB cr_sortedS rfl (T.free_sorted) (by decide +kernel) (pa_cons (pe_lock
      (pe_lc (own := [("one", 2)]) rfl sc_Lpairs.nd (pi_keys (pv 0)) (blkOk_by (own := [("one", 2)]) (N := n_Lpairs) (sc := defScope s_Lpairs) (by decide +kernel)) (fun _ _ _ _ _ => pg_name (i := 2) sc_Lpairs.nd rfl (Or.inl rfl)) (fun _ _ _ _ _ => pts_nil) (fun _ _ _ _ _ => (by exact (pe_callTy SkE.call_str_str rfl (T.free_str) (by decide +kernel) (pa_cons (pv 2) pa_nil)))))) pa_nil))) (blkOk_by (own := [("name", 1)]) (N := n_Lpairs) (sc := defScope s_Lpairs) (by decide +kernel)) (fun _ _ _ _ _ => pg_name (i := 1) sc_Lpairs.nd rfl (Or.inl rfl)) (fun _ _ _ _ _ => pts_one (pt_cmpR op_ne (pe_dget (hu_of hr) (pv 0) (pv 1) (fun _ _ => rfl)) pe_int (nomark _))) (fun _ _ _ _ _ => (by exact (pe_tup (pa_cons (pv 1) (pa_cons (pe_dget (hu_of hr) (pv 0) (pv 1) (fun _ _ => rfl)) pa_nil)))))))), ?_⟩
    have hl := hI.len hS
    obtain ⟨ks, ek, lks, nk, hks⟩ := hI.keys
    have inK : ∀ s ∈ ks, (Sum.inr s : L2.Key) ∈ kvs.map (·.1) := fun s m => by
      rw [ek]
      exact List.mem_map.mpr ⟨s, m, rfl⟩
    refine ⟨d, _, hd, trivial, fun od => ⟨_, rfl, d, od, rfl, .inl ⟨kvs, upd_same, fun D hD => ?_⟩⟩⟩
    have nd : d ≠ D := ne_of_none upd_same hD
    refine lc_it walk_keys (fun i H' => H' D = some (.lst ((ks.take i).map V.str)) ∧ Kp [D] (upd H d (.frz od (.dK kvs))) H') ⟨upd_same, (Kp.refl _ _).new hD⟩ (fun i H' _ p => p.2 d _ upd_same (off1 nd)) ?_ ?_
    · rintro i x H1 H2 hi ⟨h1, e⟩ ⟨rfl, ky, v, hv, rfl⟩
      obtain ⟨s, j, rfl, rfl, hs⟩ := hI.at hv
      have hks2 : ks[i]? = some s := by
        have q : (kvs.map (·.1))[i]? = some (Sum.inr s) := by rw [List.getElem?_map, hv]; rfl
        rw [ek, List.getElem?_map] at q
        obtain ⟨s', h1, h2⟩ := Option.map_eq_some_iff.mp q
        rw [h1, Sum.inr.inj h2]
      refine ⟨rfl, ?_⟩
      refine ⟨_, rfl, s, rfl, _, h1, by rw [List.length_map, List.length_take]; exact small' (by omega), ?_, e.upd (on1 D)⟩
      rw [upd_same, take_snoc hks2, List.map_append]
      rfl
    · rintro H' ⟨h1, e⟩
      have h1' : (upd H' d (.dK kvs)) D = some (.lst (ks.map V.str)) := by
        rw [upd_ne nd.symm, h1, List.take_of_length_le (by omega)]
      have e1 : Ex H (upd H' d (.dK kvs)) := ex_unlock hd hD e
      refine ⟨e d _ upd_same (off1 nd), D, ks, rfl, SqL.of h1', by omega, fun ys p hp hsrt hnp => ⟨p, rfl, ⟨_, SqL.of upd_same⟩, fun D2 hD2 => ?_⟩⟩
      clear h1
      generalize upd H' d (.dK kvs) = H1 at e1 h1' hnp hD2
      have e2 : Ex H (upd H1 p (.lst (ys.map V.str))) := e1.new hnp
      have gp : (upd H1 p (.lst (ys.map V.str))) p = some (.lst (ys.map V.str)) := upd_same
      generalize upd H1 p (.lst (ys.map V.str)) = H2 at e2 gp hD2
      have hyl : ys.length ≤ 10 := by
        have := hp.length_eq
        omega
      have fD : H D2 = none := e2.back hD2
      have nD2 : p ≠ D2 := ne_of_none gp hD2
      refine lc_list (K := K) (a := p) (xs := ys.map V.str) (fun i H' => ∃ rs : List Addr, H' D2 = some (.lst (rs.map V.ref)) ∧ Kp [D2] H2 H' ∧ PrsAt H' (dv kvs) rs ((ys.take i).filter fun s => decide (dv kvs s ≠ 0))) ⟨[], upd_same, (Kp.refl _ _).new hD2, PrsAt.nil⟩ (fun i H' _ q => ?_) ?_ ?_
      · obtain ⟨rs, _, e, _⟩ := q
        exact SqL.of (e p _ gp (off1 nD2))
      · rintro i x H3 hx ⟨rs, hr1, e, hr⟩
        obtain ⟨s, hs, rfl⟩ := map_at hx
        have ms : s ∈ ks := hp.mem_iff.mp (List.mem_of_getElem? hs)
        have hd3 : H3 d = some (.dK kvs) := e d _ (e2 d _ hd) (off1 (ne_of_none (e2 d _ hd) hD2))
        have dg : DGet H3 d (V.str s) (some (V.int (dv kvs s))) := .inl ⟨kvs, Sum.inr s, .inl hd3, rfl, by rw [hI.val, hI.at_key (inK s ms)]; rfl⟩
        refine ⟨rfl, _, rfl, _, rfl, d, _, rfl, dg, rfl, _, rfl, ?_⟩
        rw [filt_snoc hs]
        refine ite2 (fun hc => ?_) (fun hc => ?_)
        · have hj0 : dv kvs s ≠ 0 := by
            intro z
            rw [z] at hc
            have q : (!decide (V.int 0 = V.int 0)) = false := by rw [decide_eq_true rfl] <;> rfl
            rw [q] at hc
            cases hc
          refine ⟨_, rfl, _, rfl, _, rfl, d, _, rfl, dg, small (by show 2 ≤ 100000; decide), fun q hq => ?_⟩
          have nq : q ≠ D2 := fun z => by
            rw [z, hr1] at hq
            cases hq
          have lr : rs.length ≤ 10 := by
            have q2 := hr.1
            have q3 := List.length_filter_le (fun s => decide (dv kvs s ≠ 0)) (ys.take i)
            rw [List.length_take] at q3
            omega
          refine ⟨rs.map V.ref, by rw [upd_ne nq.symm]; exact hr1, by rw [List.length_map]; exact small' (by omega), rs ++ [q], ?_, (e.new hq).upd (on1 D2), ?_⟩
          · rw [upd_same, List.map_append]
            rfl
          · rw [decide_eq_true hj0]
            have e5 : Kp [D2] H3 (upd (upd H3 q (.tup [.str s, .int (dv kvs s)])) D2 (.lst (rs.map V.ref ++ [V.ref q]))) := ((Kp.refl [D2] H3).new hq).upd (on1 D2)
            exact (hr.kp e5 hr1).snoc (by rw [upd_ne nq, upd_same])
        · have hj0 : dv kvs s = 0 := by
            by_cases z : dv kvs s = 0
            · exact z
            · refine absurd ?_ hc
              rw [decide_eq_false (fun q => z (V.int.inj q))]
              rfl
          refine ⟨rs, hr1, e, ?_⟩
          rw [decide_eq_false (not_not_intro hj0)]
          show PrsAt H3 (dv kvs) rs (_ ++ [])
          rw [List.append_nil]
          exact hr
      · rintro H3 ⟨rs, hr1, e, hr⟩
        rw [List.length_map, List.take_length] at hr
        have e3 : Ex H H3 := fun b o q => e b o (e2 b o q) (off1 (ne_of_none q fD))
        have lf := List.length_filter_le (fun s => decide (dv kvs s ≠ 0)) ys
        refine k D2 rs _ H3 e3 hr1 ⟨(sorted_pw ys hsrt).filter _, (hp.nodup_iff.mpr nk).filter _, fun s => ?_⟩ (by omega) (fun s m => hks s (hp.mem_iff.mp (List.mem_filter.mp m).1)) hr
        rw [List.mem_filter, decide_eq_true_iff, hp.mem_iff]
        refine ⟨fun z => z.2, fun z => ⟨?_, z⟩⟩
        have : (Sum.inr s : L2.Key) ∈ kvs.map (·.1) := by
          cases q : lk kvs s with
          | some i => exact lk_in q
          | none =>
            refine absurd ?_ z
            unfold dv
            rw [q]
            rfl
        rw [ek] at this
        obtain ⟨s', h1, h2⟩ := List.mem_map.mp this
        rw [← Sum.inr.inj h2]
        exact h1
def spLare (K : PySem.W.Frag) (S : List Str) : Sp := fun vs H Q _ => ∃ (n hd d : Addr) (f : Str → Int) (kvs : KD), vs = [.ref n, .ref d] ∧ NotesA K S H n hd f ∧ H d = some (.dK kvs) ∧ DI S kvs ∧ (∀ s, f s = dv kvs s) ∧ ∀ H', Ex H H' → Q (.bl true) H'
/-- pairs as data -/
def pdt (f : Str → Int) (s : Str) : PyData := .tuple [.str s, .int (f s)]
theorem prs_all {H : Hp} {f : Str → Int} : ∀ (rs : List Addr) (ns : List Str), PrsAt H f rs ns → DpAll K H (rs.map V.ref) (ns.map (pdt f))
  | [], [], _ => .nil
  | [], n :: ns, h => by cases h.1
  | r :: rs, [], h => by cases h.1
  | r :: rs, n :: ns, h => .cons (.tup (SqT.of (h.2 0 r n rfl rfl)) (.cons (.str n) (.cons (.int _) .nil))) (prs_all rs ns ⟨Nat.succ.inj h.1, fun i r' s a b => h.2 (i + 1) r' s a b⟩)
theorem prs_dp {H : Hp} {p : Addr} {f : Str → Int} {rs : List Addr} {ns : List Str} (hp : H p = some (.lst (rs.map V.ref))) (h : PrsAt H f rs ns) : Dp K H (.ref p) (.list (ns.map (pdt f))) := .lst (SqL.of hp) (prs_all rs ns h)
theorem prs_lay {f : Str → Int} {ns : List Str} (h : ∀ s ∈ ns, NmOk s) : Lay 2 (.list (ns.map (pdt f))) := Lay.list fun d m => by
  obtain ⟨s, hs, rfl⟩ := List.mem_map.mp m
  refine Lay.tup fun d md => ?_
  simp only [List.mem_cons, List.not_mem_nil, or_false] at md
  rcases md with rfl | rfl
  · exact (h s hs).lay 0
  · exact Lay.int 0 _
theorem ok_lare (T : TX K mg) (hS : SOk S) (hN : ∀ s ∈ S, NmOk s) : Ok P w K mg base CX0 2 a_Lare_notes p_Lare_notes (spLare K S) := by
  obtain ⟨fd, F⟩ := T.d.def_ 58 (d := d_Lare_notes) rfl
  obtain ⟨_, O_Notes_pairs⟩ := ok_pairs (P := P) (w := w) (base := base) T hS
  obtain ⟨_, O_Lpairs⟩ := ok_lpairs (P := P) (w := w) (base := base) T hS
  have b : Binds K fd p_Lare_notes [] := FunD.bindsN F fun _ _ _ _ _ _ us hl => match us, hl with | [_, _], _ => rfl
  refine ⟨fd, F.ok sc_Lare_notes (fun vs H Q E h => ?_) (fun cdv A outer s H vs Q E hr h => ?_), b, F.kp⟩
  · obtain ⟨_, _, _, _, _, rfl, _⟩ := h
    rfl
  · obtain ⟨n, hd, d, f, kvs, rfl, hNA, hdk, hI, hf, k⟩ := h
    refine ⟨_, PSs.nox (pss_cons
      (ps_if (pt_not (pt_val (pe_callB (isiK (K := K)) rfl (T.free_isinstance) (by decide +kernel) (pa_cons (pv 0) (pa_cons (pe_glob (v := .ref (He.ga K "Notes")) rfl (T.g_Notes) rfl) pa_nil)))))
      (pss_one (ps_ret pe_bl)) pss_nil)
      (pss_cons (ps_set (i := 2) sc_Lare_notes.nd rfl (Or.inl rfl) (pe_meth0 (pv 0) T.c_Notes T.m_Notes_pairs O_Notes_pairs.fn (hr.mono (by decide)) O_Notes_pairs.b .nil pass0))
      (pss_cons
      (ps_if (PW.pt (pw_or (pt_not (pt_val (pe_callB (isiK (K := K)) rfl (T.free_isinstance) (by decide +kernel) (pa_cons (pv 2) (pa_cons (pe_bltn (v := .ty "list") rfl (T.free_list) (by decide +kernel) rfl) pa_nil))))) (pw_or1 (pt_cmpR (neDK (K := K) hr.units) (pv 2) (pcall O_Lpairs (hr.mono (by decide)) rfl (T.g_Lpairs) pass0 (pa_cons (pv 1) pa_nil)) (nomark _)))))
      (pss_one (ps_ret pe_bl)) pss_nil) (pss_one (ps_ret (pe_callB (cr_all rfl) rfl (T.free_all) (by decide +kernel) (pa_cons
      (pe_lc (own := [("name", 3), ("k", 4)]) rfl sc_Lare_notes.nd (pi_list (pv 2)) (blkOk_by (own := [("name", 3), ("k", 4)]) (N := n_Lare_notes) (sc := defScope s_Lare_notes) (by decide +kernel)) (fun _ _ _ _ _ => (pg_tupK (K := K) (n := 2) (pgs_cons (pg_name (i := 3) sc_Lare_notes.nd rfl (Or.inl rfl)) (pgs_cons (pg_name (i := 4) sc_Lare_notes.nd rfl (Or.inl rfl)) pgs_nil)))) (fun _ _ _ _ _ => pts_nil) (fun _ _ _ _ _ => (by exact (pe_and (pe_callB (isiK (K := K)) rfl (T.free_isinstance) (by decide +kernel) (pa_cons (pv 4) (pa_cons (pe_bltn (v := .ty "int") rfl (T.free_int) (by decide +kernel) rfl) pa_nil))) (pe_one (pe_not (pe_callB (isiK (K := K)) rfl (T.free_isinstance) (by decide +kernel) (pa_cons (pv 4) (pa_cons (pe_bltn (v := .ty "bool") rfl (T.free_bool) (by decide +kernel) rfl) pa_nil))))))))) pa_nil))))))), ?_⟩
    obtain ⟨dx, t, kv2, q1, _⟩ := id hNA
    obtain rfl : f = dv kvs := funext hf
    refine ⟨_, rfl, _, _, _, _, true, rfl, .own _, ty_ins T (C := "Notes") (by decide) T.c_Notes q1, is_ins T (by decide), true, rfl, nope ?_⟩
    refine ⟨_, rfl, n, dx, _, rfl, q1, no_pairs _ _, n, hd, _, rfl, hNA, fun p rs ns H1 e1 hp hp1 ord hl hns hrs => ?_⟩
    refine ⟨_, rfl, _, _, _, _, true, rfl, .ty _, .base (.lst hp1), kit_ll, true, rfl, nope ?_⟩
    refine ⟨_, rfl, _, rfl, d, kvs, rfl, e1 _ _ hdk, hI, fun p2 rs2 ns2 H2 e2 hp2 ord2 hl2 hns2 hrs2 => ?_⟩
    obtain rfl := ord.uniq ord2
    have ly := prs_lay (f := dv kvs) fun s m => hN s (hns s m)
    refine ⟨_, _, prs_dp (e2 _ _ hp1) (hrs.ex e2), prs_dp hp2 hrs2, ly.shaped (by decide), ly.shaped (by decide), _, rfl, ?_⟩
    rw [SeqAt.eqv_refl _ ly.1]
    refine nope ?_
    have hp12 := e2 _ _ hp1
    have hrs12 := hrs.ex e2
    refine ⟨_, rfl, p, rfl, ⟨_, SqL.of hp12⟩, fun D hD => ?_⟩
    have nD : p ≠ D := ne_of_none hp12 hD
    refine lc_list (K := K) (a := p) (xs := rs.map V.ref) (fun j H' => H' D = some (.lst ((List.replicate j true).map V.bl)) ∧ Kp [D] H2 H') ⟨upd_same, (Kp.refl _ _).new hD⟩ (fun j H' _ z => SqL.of (z.2 _ _ hp12 (off1 nD))) ?_ ?_
    · rintro j x H3 hx ⟨g1, kk1⟩
      obtain ⟨r, hr', rfl⟩ := map_at hx
      have hj : j < ns.length := by
        rw [← hrs.1]
        exact (List.getElem?_eq_some_iff.mp hr').1
      have hr3 := hrs12.2 j r _ hr' (List.getElem?_eq_getElem hj)
      refine ⟨r, _, rfl, SqT.of (kk1 _ _ hr3 (off1 (ne_of_none hr3 hD))), rfl, _, _, rfl, _, _, rfl, rfl, rfl, ?_⟩
      refine ⟨_, rfl, _, _, _, _, true, rfl, .ty _, .base (.int _), kit_ii, true, rfl, yes ?_⟩
      refine ⟨_, rfl, _, _, _, _, false, rfl, .ty _, .base (.int _), kit_ib, false, rfl, ?_⟩
      refine ⟨_, g1, by rw [List.length_map, List.length_replicate]; exact small' (by omega), ?_, kk1.upd (on1 D)⟩
      rw [upd_same, List.replicate_succ', List.map_append]
      rfl
    · rintro H3 ⟨g1, kk1⟩
      refine ⟨D, _, rfl, SqL.of g1, ?_⟩
      have e : ∀ n, (List.replicate n true).all id = true := fun n => by
        rw [List.all_eq_true]
        intro x hx
        rw [(List.mem_replicate.mp hx).2]
        rfl
      rw [e]
      exact k H3 fun b o z => kk1 b o (e2 _ _ (e1 b o z)) (off1 (ne_of_none (e2 _ _ (e1 b o z)) hD))
end
end Sk
set_option Elab.async false
set_option linter.all false
set_option maxRecDepth 100000
set_option maxHeartbeats 4000000
namespace Sk
open PySem L2
/-! ### what a play does, as the law lists it -/
/-- none: a question; else a step -/
def ItmAt (H : Hp) (v : V) (x : Option Stp) : Prop := match x with
  | none => v = .str "watch"
  | some s => ∃ r, v = .ref r ∧ StpAt H r s
theorem ItmAt.ex {H H' : Hp} {v : V} {x : Option Stp} (h : ItmAt H v x) (e : Ex H H') : ItmAt H' v x := by
  cases x with
  | none => exact h
  | some s =>
    obtain ⟨r, h1, h2⟩ := h
    exact ⟨r, h1, h2.ex e⟩
def FltAt (H : Hp) (l : Addr) (fs : List (Option Stp)) : Prop := ∃ vs, H l = some (.lst vs) ∧ Pw (ItmAt H) vs fs
theorem FltAt.ex {H H' : Hp} {l : Addr} {fs : List (Option Stp)} (h : FltAt H l fs) (e : Ex H H') : FltAt H' l fs := by
  obtain ⟨vs, h1, h2⟩ := h
  exact ⟨vs, e _ _ h1, h2.mono fun v x q => q.ex e⟩
def stpsOf (fs : List (Option Stp)) : List Stp := fs.filterMap id
def wchOf (fs : List (Option Stp)) : Nat := fs.countP Option.isNone
/-- a step of no scene, its note among S -/
def FlatS (S : List Str) (s : Stp) : Prop := NmOk s.nm ∧ match s with
  | .scn _ => False
  | .st n _ => n ∈ S
  | .ad n _ => n ∈ S
  | .sho _ => True
theorem stps_snoc (fs : List (Option Stp)) (x : Option Stp) : stpsOf (fs ++ [x]) = stpsOf fs ++ match x with | none => [] | some s => [s] := by
  unfold stpsOf
  rw [List.filterMap_append]
  cases x <;> rfl
theorem wch_snoc (fs : List (Option Stp)) (x : Option Stp) : wchOf (fs ++ [x]) = wchOf fs + match x with | none => 1 | some _ => 0 := by
  unfold wchOf
  rw [List.countP_append]
  cases x <;> rfl
theorem words_le (as : List Stp) : (wordsOf as).length ≤ as.length := by
  unfold wordsOf
  exact List.length_filterMap_le _ _
theorem stps_le (fs : List (Option Stp)) : (stpsOf fs).length ≤ fs.length := by
  unfold stpsOf
  exact List.length_filterMap_le _ _
theorem words_snoc (as : List Stp) (s : Stp) : wordsOf (as ++ [s]) = wordsOf as ++ match s with | .sho x => [x] | _ => [] := by
  rw [words_app]
  cases s <;> rfl
theorem doAll_snoc (as : List Stp) (s : Stp) (f : Str → Int) : doAll (as ++ [s]) f = doS s (doAll as f) := by
  rw [doAll_app]
  rfl
theorem dv_put (kvs : KD) (n s : Str) (k : Int) : dv (putK kvs (Sum.inr n) (.int k)) s = if s = n then k else dv kvs s := by
  unfold dv
  rw [lk_put]
  by_cases c : s = n
  · rw [if_pos c, if_pos c]
    rfl
  · rw [if_neg c, if_neg c]
/-- a step as data -/
def stpD : Stp → PyData
  | .sho w => .tuple [.str "show", .str w]
  | .st n k => .tuple [.str "set", .str n, .int k]
  | .ad n k => .tuple [.str "add", .str n, .int k]
  | .scn n => .tuple [.str "scene", .str n]
def itmD : Option Stp → PyData
  | none => .str "watch"
  | some s => stpD s
theorem lay_lit (n : Nat) {x : Str} (h : x.cps.toList.all (fun c => decide (c ∈ letters.cps.toList)) = true) : Lay n (.str x) := Lay.str n fun c m => of_decide_eq_true (List.all_eq_true.mp h c m)
theorem stp_lay {s : Stp} (h : NmOk s.nm) : Lay 1 (stpD s) := by
  cases s with
  | sho w =>
    refine Lay.tup fun d md => ?_
    simp only [List.mem_cons, List.not_mem_nil, or_false] at md
    rcases md with rfl | rfl
    · exact lay_lit 0 (by decide +kernel)
    · exact NmOk.lay h 0
  | scn w =>
    refine Lay.tup fun d md => ?_
    simp only [List.mem_cons, List.not_mem_nil, or_false] at md
    rcases md with rfl | rfl
    · exact lay_lit 0 (by decide +kernel)
    · exact NmOk.lay h 0
  | st w k =>
    refine Lay.tup fun d md => ?_
    simp only [List.mem_cons, List.not_mem_nil, or_false] at md
    rcases md with rfl | rfl | rfl
    · exact lay_lit 0 (by decide +kernel)
    · exact NmOk.lay h 0
    · exact Lay.int 0 k
  | ad w k =>
    refine Lay.tup fun d md => ?_
    simp only [List.mem_cons, List.not_mem_nil, or_false] at md
    rcases md with rfl | rfl | rfl
    · exact lay_lit 0 (by decide +kernel)
    · exact NmOk.lay h 0
    · exact Lay.int 0 k
theorem stp_dp {K : PySem.W.Frag} {H : Hp} {r : Addr} {s : Stp} (h : StpAt H r s) : Dp K H (.ref r) (stpD s) := by
  have h : H r = some (.tup s.vs) := h
  cases s with
  | sho w => exact .tup (SqT.of h) (.cons (.str _) (.cons (.str _) .nil))
  | scn w => exact .tup (SqT.of h) (.cons (.str _) (.cons (.str _) .nil))
  | st w k => exact .tup (SqT.of h) (.cons (.str _) (.cons (.str _) (.cons (.int _) .nil)))
  | ad w k => exact .tup (SqT.of h) (.cons (.str _) (.cons (.str _) (.cons (.int _) .nil)))
theorem itm_lay {x : Option Stp} (h : ∀ s, x = some s → NmOk s.nm) : Lay 1 (itmD x) := by
  cases x with
  | none => exact lay_lit 1 (by decide +kernel)
  | some s => exact stp_lay (h s rfl)
theorem itm_dp {K : PySem.W.Frag} {H : Hp} {v : V} {x : Option Stp} (h : ItmAt H v x) : Dp K H v (itmD x) := by
  cases x with
  | none =>
    obtain rfl : v = .str "watch" := h
    exact .str _
  | some s =>
    obtain ⟨r, rfl, h⟩ := h
    exact stp_dp h
theorem itm_eq (x : Option Stp) : PyData.eqv (itmD x) (.str "watch") = x.isNone := by
  cases x with
  | none => decide +kernel
  | some s => cases s <;> rfl
section
variable {P : Program} {w : World} {K : PySem.W.Frag} {mg : Str → Option Value} {base : Heap} {S : List Str}
def spDone : Sp := fun vs H Q _ => ∃ (S : List Str), SOk S ∧ ∃ (l d : Addr) (fs : List (Option Stp)) (kvs : KD), vs = [.ref l, .ref d] ∧ FltAt H l fs ∧ (∀ s, some s ∈ fs → FlatS S s) ∧ fs.length ≤ 5000 ∧ H d = some (.dK kvs) ∧ DI S kvs ∧ (∀ s ∈ S, (Sum.inr s : L2.Key) ∈ kvs.map (·.1)) ∧
  ∀ t wl dl al kvs' H', Ex H H' → H' t = some (.tup [.ref wl, .ref dl, .ref al]) → H' wl = some (.lst ((wordsOf (stpsOf fs)).map V.str)) → H' dl = some (.dK kvs') → DI S kvs' → (∀ s, dv kvs' s = doAll (stpsOf fs) (dv kvs) s) → H' al = some (.lst (List.replicate (wchOf fs) (.str "watch"))) → Q (.ref t) H'
theorem put_keys {kvs : KD} {n : Str} {k : Int} {s : Str} (h : (Sum.inr s : L2.Key) ∈ kvs.map (·.1)) (hI : DI S kvs) (hn : n ∈ S) : (Sum.inr s : L2.Key) ∈ (putK kvs (Sum.inr n) (V.int k)).map (·.1) := by
  have q : lk (putK kvs (Sum.inr n) (.int k)) s = some (if s = n then k else dv kvs s) := by
    rw [lk_put]
    by_cases c : s = n
    · rw [if_pos c, if_pos c]
    · rw [if_neg c, if_neg c, hI.at_key h]
  exact lk_in q
theorem ok_done (T : TX K mg) : Ok P w K mg base CX0 1 a_Ldone p_Ldone spDone := by
  obtain ⟨fd, F⟩ := T.d.def_ 62 (d := d_Ldone) rfl
  have b : Binds K fd p_Ldone [] := FunD.bindsN F fun _ _ _ _ _ _ us hl => match us, hl with | [_, _], _ => rfl
  refine ⟨fd, F.ok sc_Ldone (fun vs H Q E h => ?_) (fun cdv A outer s H vs Q E hr h => ?_), b, F.kp⟩
  · obtain ⟨_, _, _, _, _, _, rfl, _⟩ := h
    rfl
  · obtain ⟨S, hS, l, d, fs, kvs, rfl, ⟨vs, hl, hvs⟩, hfl, hlen, hd, hI, hkeys, k⟩ := h
    refine ⟨_, PSs.nox (pss_cons (ps_set (i := 2) sc_Ldone.nd rfl (Or.inl rfl) (pe_lst pa_nil))
      (pss_cons (ps_set (i := 3) sc_Ldone.nd rfl (Or.inl rfl) (pe_callTy call_dictD rfl (T.free_dict) (by decide +kernel) (pa_cons (pv 1) pa_nil)))
      (pss_cons (ps_for PassesOwn.never rfl (pi_list (pv 0)) (pg_name (i := 4) sc_Ldone.nd rfl (Or.inl rfl)) (pss_cons
      (ps_if (pt_cmpR op_eq (pe_ix (ix_seqK (K := K)) (pv 4) pe_int (fun _ _ => rfl)) pe_str (nomark _))
      (pss_one (ps_expr (pe_bm PySem.F.plainAttrs_list PySem.F.slot_list_append PySem.F.type_list_append mt_append (pv 2) (pa_cons (pe_ix (ix_seqK (K := K)) (pv 4) pe_int (fun _ _ => rfl)) pa_nil)))) pss_nil)
      (pss_cons (ps_if (pt_cmpR op_eq (pe_ix (ix_seqK (K := K)) (pv 4) pe_int (fun _ _ => rfl)) pe_str (nomark _))
      (pss_one (ps_dput (hu_of hr) (pv 3) (pe_ix (ix_seqK (K := K)) (pv 4) pe_int (fun _ _ => rfl)) (pe_ix (ix_seqK (K := K)) (pv 4) pe_int (fun _ _ => rfl)) rfl)) pss_nil)
      (pss_one (ps_if (pt_cmpR op_eq (pe_ix (ix_seqK (K := K)) (pv 4) pe_int (fun _ _ => rfl)) pe_str (nomark _))
      (pss_one (ps_dput (hu_of hr) (pv 3) (pe_ix (ix_seqK (K := K)) (pv 4) pe_int (fun _ _ => rfl)) (pe_op op_add (pe_dget (hu_of hr) (pv 3) (pe_ix (ix_seqK (K := K)) (pv 4) pe_int (fun _ _ => rfl)) (fun _ _ => rfl)) (pe_ix (ix_seqK (K := K)) (pv 4) pe_int (fun _ _ => rfl))) rfl)) pss_nil)))))
      (pss_one (ps_ret (pe_tup (pa_cons (pv 2) (pa_cons (pv 3) (pa_cons
      (pe_lc (own := [("step", 4)]) rfl sc_Ldone.nd (pi_list (pv 0)) (blkOk_by (own := [("step", 4)]) (N := n_Ldone) (sc := defScope s_Ldone) (by decide +kernel)) (fun _ _ _ _ _ => pg_name (i := 4) sc_Ldone.nd rfl (Or.inl rfl)) (fun _ _ _ _ _ => pts_one (pt_cmpR (eqDK (K := K) hr.units) (pv 4) pe_str (nomark _))) (fun _ _ _ _ _ => (by exact pe_str))) pa_nil))))))))), ?_⟩
    have lvs := hvs.1
    refine ⟨small (by show 0 ≤ 100000; decide), fun wl hwl => ?_⟩
    have e1 := (Ex.refl H).new (o := .lst []) hwl
    refine ⟨_, rfl, d, kvs, rfl, .inl (e1 _ _ hd), fun dl hdl => ?_⟩
    have e2 := e1.new (o := .dK kvs) hdl
    have nwd : wl ≠ dl := ne_of_none upd_same hdl
    have w2 : (upd (upd H wl (.lst [])) dl (.dK kvs)) wl = some (.lst []) := by rw [upd_ne nwd]; exact upd_same
    have d2 : (upd (upd H wl (.lst [])) dl (.dK kvs)) dl = some (.dK kvs) := upd_same
    have hdl0 : H dl = none := e1.back hdl
    generalize upd (upd H wl (.lst [])) dl (.dK kvs) = H2 at e2 w2 d2
    have offH : ∀ {b : Addr} {o : HO}, H b = some o → b ∉ [wl, dl] := fun {b o} y m => by
      rcases List.mem_cons.mp m with m | m
      · exact ne_of_none y hwl m
      · exact ne_of_none y hdl0 (List.mem_singleton.mp m)
    refine ⟨_, rfl, l, rfl, ⟨_, SqL.of (e2 _ _ hl)⟩, ?_⟩
    refine for_it (walk_list (K := K) (a := l) (xs := vs)) (fun i σ H' => ∃ (v4 : Option V) (kv : KD), σ = [some (.ref l), some (.ref d), some (.ref wl), some (.ref dl), v4] ∧ H' wl = some (.lst ((wordsOf (stpsOf (fs.take i))).map V.str)) ∧ H' dl = some (.dK kv) ∧ DI S kv ∧ (∀ s ∈ S, (Sum.inr s : L2.Key) ∈ kv.map (·.1)) ∧ (∀ s, dv kv s = doAll (stpsOf (fs.take i)) (dv kvs) s) ∧ Kp [wl, dl] H2 H') ⟨_, kvs, rfl, w2, d2, hI, hkeys, fun _ => rfl, Kp.refl _ _⟩ (fun i σ H' _ z => ?_) ?_ ?_
    · obtain ⟨_, _, _, _, _, _, _, _, k3⟩ := z
      exact SqL.of (k3 _ _ (e2 _ _ hl) (offH hl))
    · rintro i x σ H3' H3 hi ⟨v4, kv, rfl, w3, d3, I3, K3, f3, k3⟩ ⟨rfl, hx⟩
      obtain ⟨y, hy, hat⟩ := hvs.at hx
      have hil : i < fs.length := (List.getElem?_eq_some_iff.mp hy).1
      have hat := hat.ex e2
      rw [take_snoc hy, stps_snoc]
      have wlen : (wordsOf (stpsOf (fs.take i))).length ≤ i := by
        have a1 := words_le (stpsOf (fs.take i))
        have a2 := stps_le (fs.take i)
        have a3 : (fs.take i).length ≤ i := List.length_take_le _ _
        omega
      cases y with
      | none =>
        obtain rfl : x = .str "watch" := hat
        refine ⟨_, rfl, .inr (.inr ⟨"watch", 0, 119, rfl, rfl, small (by decide +kernel), by decide +kernel, rfl, _, rfl, ?_⟩)⟩
        refine ite2 (fun c => absurd (of_decide_eq_true c) (by decide +kernel)) (fun _ => ?_)
        refine ⟨_, rfl, .inr (.inr ⟨"watch", 0, 119, rfl, rfl, small (by decide +kernel), by decide +kernel, rfl, _, rfl, ?_⟩)⟩
        refine ite2 (fun c => absurd (of_decide_eq_true c) (by decide +kernel)) (fun _ => ?_)
        refine ⟨_, rfl, .inr (.inr ⟨"watch", 0, 119, rfl, rfl, small (by decide +kernel), by decide +kernel, rfl, _, rfl, ?_⟩)⟩
        refine ite2 (fun c => absurd (of_decide_eq_true c) (by decide +kernel)) (fun _ => ?_)
        show ∃ v4 kv, _
        rw [List.append_nil]
        exact ⟨_, kv, rfl, w3, d3, I3, K3, f3, k3⟩
      | some s =>
        obtain ⟨r, rfl, hr⟩ := hat
        have hfs := hfl s (List.mem_of_getElem? hy)
        have hr3 : H3 r = some (.tup s.vs) := by
          refine k3 _ _ hr fun m => ?_
          have hr : H2 r = some (.tup s.vs) := hr
          rcases List.mem_cons.mp m with m | m
          · exact ne_of hr w2 (by intro z; cases z) m
          · exact ne_of hr d2 (by intro z; cases z) (List.mem_singleton.mp m)
        have ln3 := I3.len hS
        cases s with
        | scn n => exact absurd hfs.2 id
        | sho x =>
          refine ⟨_, rfl, .inr (.inl ⟨r, _, 0, _, rfl, rfl, SqT.of hr3, rfl, rfl, _, rfl, ?_⟩)⟩
          refine ite2 (fun _ => ?_) (fun c => absurd (decide_eq_true (by first | rfl | decide +kernel)) c)
          refine ⟨_, rfl, .inl ⟨rfl, _, SqL.of w3⟩, _, rfl, .inr (.inl ⟨r, _, 1, _, rfl, rfl, SqT.of hr3, rfl, wl, _, _, rfl, rfl, w3, by rw [List.length_map]; exact small' (by omega), ?_⟩)⟩
          have k4 : Kp [wl, dl] H2 (upd H3 wl (.lst ((wordsOf (stpsOf (fs.take i))).map V.str ++ [V.str x]))) := k3.upd List.mem_cons_self
          have w4 : (upd H3 wl (.lst ((wordsOf (stpsOf (fs.take i))).map V.str ++ [V.str x]))) wl = some (.lst ((wordsOf (stpsOf (fs.take i)) ++ [x]).map V.str)) := by rw [upd_same, List.map_append]; rfl
          have d4 : (upd H3 wl (.lst ((wordsOf (stpsOf (fs.take i))).map V.str ++ [V.str x]))) dl = some (.dK kv) := by rw [upd_ne nwd.symm]; exact d3
          have r4 : (upd H3 wl (.lst ((wordsOf (stpsOf (fs.take i))).map V.str ++ [V.str x]))) r = some (.tup (Stp.sho x).vs) := by rw [upd_ne (ne_of hr3 w3 (by intro z; cases z))]; exact hr3
          generalize upd H3 wl (.lst ((wordsOf (stpsOf (fs.take i))).map V.str ++ [V.str x])) = H4 at k4 w4 d4 r4
          refine ⟨_, rfl, .inr (.inl ⟨r, _, 0, _, rfl, rfl, SqT.of r4, rfl, rfl, _, rfl, ?_⟩)⟩
          refine ite2 (fun c => absurd (of_decide_eq_true c) (by decide +kernel)) (fun _ => ?_)
          refine ⟨_, rfl, .inr (.inl ⟨r, _, 0, _, rfl, rfl, SqT.of r4, rfl, rfl, _, rfl, ?_⟩)⟩
          refine ite2 (fun c => absurd (of_decide_eq_true c) (by decide +kernel)) (fun _ => ?_)
          refine ⟨_, kv, rfl, ?_, d4, I3, K3, fun s => ?_, k4⟩
          · rw [words_snoc]
            exact w4
          · rw [doAll_snoc]
            exact f3 s
        | st n z =>
          have hn : n ∈ S := hfs.2
          refine ⟨_, rfl, .inr (.inl ⟨r, _, 0, _, rfl, rfl, SqT.of hr3, rfl, rfl, _, rfl, ?_⟩)⟩
          refine ite2 (fun c => absurd (of_decide_eq_true c) (by decide +kernel)) (fun _ => ?_)
          refine ⟨_, rfl, .inr (.inl ⟨r, _, 0, _, rfl, rfl, SqT.of hr3, rfl, rfl, _, rfl, ?_⟩)⟩
          refine ite2 (fun _ => ?_) (fun c => absurd (decide_eq_true (by first | rfl | decide +kernel)) c)
          refine ⟨_, rfl, .inr (.inl ⟨r, _, 2, _, rfl, rfl, SqT.of hr3, rfl, _, rfl, _, rfl, .inr (.inl ⟨r, _, 1, _, rfl, rfl, SqT.of hr3, rfl, dl, _, rfl, DPut.k (k := Sum.inr n) d3 (small' (by omega)), ?_⟩)⟩)⟩
          have k4 : Kp [wl, dl] H2 (upd H3 dl (.dK (putK kv (Sum.inr n) (.int z)))) := k3.upd (List.mem_cons_of_mem _ (on1 dl))
          have w4 : (upd H3 dl (.dK (putK kv (Sum.inr n) (.int z)))) wl = some (.lst ((wordsOf (stpsOf (fs.take i))).map V.str)) := by rw [upd_ne nwd]; exact w3
          have d4 : (upd H3 dl (.dK (putK kv (Sum.inr n) (.int z)))) dl = some (.dK (putK kv (Sum.inr n) (.int z))) := upd_same
          have r4 : (upd H3 dl (.dK (putK kv (Sum.inr n) (.int z)))) r = some (.tup (Stp.st n z).vs) := by rw [upd_ne (ne_of hr3 d3 (by intro z; cases z))]; exact hr3
          generalize upd H3 dl (.dK (putK kv (Sum.inr n) (.int z))) = H4 at k4 w4 d4 r4
          refine ⟨_, rfl, .inr (.inl ⟨r, _, 0, _, rfl, rfl, SqT.of r4, rfl, rfl, _, rfl, ?_⟩)⟩
          refine ite2 (fun c => absurd (of_decide_eq_true c) (by decide +kernel)) (fun _ => ?_)
          refine ⟨_, _, rfl, ?_, d4, I3.put hn z, fun s m => put_keys (K3 s m) I3 hn, fun s => ?_, k4⟩
          · rw [words_snoc]
            show H4 wl = some (.lst ((_ ++ []).map V.str))
            rw [List.append_nil]
            exact w4
          · rw [doAll_snoc, dv_put, f3 s]
            rfl
        | ad n z =>
          have hn : n ∈ S := hfs.2
          refine ⟨_, rfl, .inr (.inl ⟨r, _, 0, _, rfl, rfl, SqT.of hr3, rfl, rfl, _, rfl, ?_⟩)⟩
          refine ite2 (fun c => absurd (of_decide_eq_true c) (by decide +kernel)) (fun _ => ?_)
          refine ⟨_, rfl, .inr (.inl ⟨r, _, 0, _, rfl, rfl, SqT.of hr3, rfl, rfl, _, rfl, ?_⟩)⟩
          refine ite2 (fun c => absurd (of_decide_eq_true c) (by decide +kernel)) (fun _ => ?_)
          refine ⟨_, rfl, .inr (.inl ⟨r, _, 0, _, rfl, rfl, SqT.of hr3, rfl, rfl, _, rfl, ?_⟩)⟩
          refine ite2 (fun _ => ?_) (fun c => absurd (decide_eq_true (by first | rfl | decide +kernel)) c)
          have dg : DGet H3 dl (V.str n) (some (V.int (dv kv n))) := .inl ⟨kv, Sum.inr n, .inl d3, rfl, by rw [I3.val, I3.at_key (K3 n hn)]; rfl⟩
          refine ⟨_, rfl, _, rfl, .inr (.inl ⟨r, _, 1, _, rfl, rfl, SqT.of hr3, rfl, dl, _, rfl, dg, _, rfl, .inr (.inl ⟨r, _, 2, _, rfl, rfl, SqT.of hr3, rfl, _, _, rfl, rfl, _, rfl, _, rfl, .inr (.inl ⟨r, _, 1, _, rfl, rfl, SqT.of hr3, rfl, dl, _, rfl, DPut.k (k := Sum.inr n) d3 (small' (by omega)), ?_⟩)⟩)⟩)⟩
          refine ⟨_, _, rfl, ?_, upd_same, I3.put hn _, fun s m => put_keys (K3 s m) I3 hn, fun s => ?_, k3.upd (List.mem_cons_of_mem _ (on1 dl))⟩
          · rw [words_snoc]
            show (upd H3 dl _) wl = some (.lst ((_ ++ []).map V.str))
            rw [List.append_nil, upd_ne nwd]
            exact w3
          · rw [doAll_snoc, dv_put]
            show _ = if s = n then doAll (stpsOf (fs.take i)) (dv kvs) s + z else doAll (stpsOf (fs.take i)) (dv kvs) s
            by_cases c : s = n
            · rw [if_pos c, if_pos c, f3 n, c]
            · rw [if_neg c, if_neg c, f3 s]
    · rintro σ H3 ⟨v4, kv, rfl, w3, d3, I3, K3, f3, k3⟩
      rw [lvs, List.take_length] at w3
      have f3 : ∀ s, dv kv s = doAll (stpsOf fs) (dv kvs) s := fun s => by
        have := f3 s
        rw [lvs, List.take_length] at this
        exact this
      have hl3 := k3 _ _ (e2 _ _ hl) (offH hl)
      have e3 : Ex H H3 := fun b o q => k3 b o (e2 b o q) (offH q)
      refine ⟨_, rfl, _, rfl, _, rfl, l, rfl, ⟨_, SqL.of hl3⟩, fun D hD => ?_⟩
      have nD : l ≠ D := ne_of_none hl3 hD
      refine lc_list (K := K) (a := l) (xs := vs) (fun i H' => H' D = some (.lst (List.replicate (wchOf (fs.take i)) (.str "watch"))) ∧ Kp [D] H3 H') ⟨upd_same, (Kp.refl _ _).new hD⟩ (fun j H' _ z => SqL.of (z.2 _ _ hl3 (off1 nD))) ?_ ?_
      · rintro i x H4 hx ⟨g1, kk1⟩
        obtain ⟨y, hy, hat⟩ := hvs.at hx
        have hil : i < fs.length := (List.getElem?_eq_some_iff.mp hy).1
        have e4 : Ex H3 H4 := fun b o z => kk1 b o z (off1 (ne_of_none z hD))
        have hat := hat.ex (e3.trans e4)
        have ly := itm_lay (x := y) fun s e => (hfl s (by rw [← e]; exact List.mem_of_getElem? hy)).1
        refine ⟨rfl, ?_⟩
        refine ⟨_, rfl, _, _, itm_dp hat, .str "watch", ly.shaped (by decide), (lay_lit 0 (by decide +kernel) : Lay 0 (.str "watch")).shaped (by decide), _, rfl, ?_⟩
        rw [itm_eq, take_snoc hy, wch_snoc]
        cases y with
        | none =>
          refine yes ?_
          refine ⟨_, g1, ?_, ?_, kk1.upd (on1 D)⟩
          · rw [List.length_replicate]
            have a1 : wchOf (fs.take i) ≤ (fs.take i).length := List.countP_le_length
            have a2 : (fs.take i).length ≤ i := List.length_take_le _ _
            exact small' (by omega)
          · rw [upd_same]
            show _ = some (HO.lst (List.replicate (wchOf (fs.take i) + 1) _))
            rw [List.replicate_succ']
        | some s => exact nope ⟨g1, kk1⟩
      · rintro H4 ⟨g1, kk1⟩
        rw [lvs, List.take_length] at g1
        have e4 : Ex H3 H4 := fun b o z => kk1 b o z (off1 (ne_of_none z hD))
        refine ⟨small (by show 3 ≤ 100000; decide), fun t ht => ?_⟩
        have e5 := (Ex.refl H4).new (o := .tup [.ref wl, .ref dl, .ref D]) ht
        exact k t wl dl D kv _ ((e3.trans e4).trans e5) upd_same (e5 _ _ (e4 _ _ w3)) (e5 _ _ (e4 _ _ d3)) I3 f3 (e5 _ _ g1)
end
end Sk
set_option Elab.async false
set_option linter.all false
set_option maxRecDepth 100000
set_option maxHeartbeats 4000000
namespace Sk
open PySem L2
/-! ### a scene drawn -/
/-- what steps come to, each scene among them as pd -/
def flatOf (pd : List (Option Stp)) (ss : List Stp) : List (Option Stp) := ss.flatMap fun s => if isScn s then pd else [some s]
def scnN (ss : List Stp) : Nat := (ss.filter isScn).length
/-- what a play of a scene adds -/
def playedOf (c : Scn) (fs : List (Option Stp)) : List (Option Stp) := List.replicate (if c.skip then 1 else 0) none ++ fs
/-- a scene, what its play does, its size -/
structure Ent where
  c : Scn
  fs : List (Option Stp)
  sz : Nat
theorem flat_cons (pd : List (Option Stp)) (s : Stp) (ss : List Stp) : flatOf pd (s :: ss) = (if isScn s then pd else [some s]) ++ flatOf pd ss := rfl
theorem flat_app (pd : List (Option Stp)) (a b : List Stp) : flatOf pd (a ++ b) = flatOf pd a ++ flatOf pd b := by
  unfold flatOf
  rw [List.flatMap_append]
theorem flat_plain {ns ws : List Str} (pd : List (Option Stp)) : ∀ {ss : List Stp}, (∀ s ∈ ss, PlainS ns ws s) → flatOf pd ss = ss.map some
  | [], _ => rfl
  | s :: ss, h => by
    have ih := flat_plain pd fun x m => h x (List.mem_cons_of_mem _ m)
    rw [flat_cons, ih]
    rcases h s List.mem_cons_self with ⟨x, _, rfl⟩ | ⟨x, _, z, rfl | rfl⟩ <;> rfl
theorem scnN_plain {ns ws : List Str} : ∀ {ss : List Stp}, (∀ s ∈ ss, PlainS ns ws s) → scnN ss = 0
  | [], _ => rfl
  | s :: ss, h => by
    have ih := scnN_plain fun x m => h x (List.mem_cons_of_mem _ m)
    unfold scnN at *
    rcases h s List.mem_cons_self with ⟨x, _, rfl⟩ | ⟨x, _, z, rfl | rfl⟩ <;> exact ih
theorem scnN_cons (s : Stp) (ss : List Stp) : scnN (s :: ss) = (if isScn s then 1 else 0) + scnN ss := by
  unfold scnN
  cases h : isScn s with
  | true => rw [List.filter_cons_of_pos h, List.length_cons, if_pos rfl, Nat.add_comm]
  | false => rw [List.filter_cons_of_neg (by rw [h]; exact Bool.false_ne_true), if_neg Bool.false_ne_true, Nat.zero_add]
theorem scnN_app (a b : List Stp) : scnN (a ++ b) = scnN a + scnN b := by
  unfold scnN
  rw [List.filter_append, List.length_append]
theorem wch_app (a b : List (Option Stp)) : wchOf (a ++ b) = wchOf a + wchOf b := List.countP_append
theorem stps_app (a b : List (Option Stp)) : stpsOf (a ++ b) = stpsOf a ++ stpsOf b := List.filterMap_append
theorem flat_wch (pd : List (Option Stp)) : ∀ ss : List Stp, wchOf (flatOf pd ss) = wchOf pd * scnN ss
  | [] => rfl
  | s :: ss => by
    rw [flat_cons, wch_app, flat_wch pd ss, scnN_cons]
    cases h : isScn s with
    | true =>
      simp only [if_true]
      rw [Nat.mul_add, Nat.mul_one]
    | false =>
      simp only [Bool.false_eq_true, if_false]
      rw [Nat.zero_add]
      show 0 + _ = _
      rw [Nat.zero_add]
theorem flat_stps (pd : List (Option Stp)) : ∀ ss : List Stp, stpsOf (flatOf pd ss) = ss.flatMap fun s => if isScn s then stpsOf pd else [s]
  | [] => rfl
  | s :: ss => by
    rw [flat_cons, stps_app, flat_stps pd ss, List.flatMap_cons]
    cases h : isScn s <;> rfl
theorem len_fs : ∀ fs : List (Option Stp), fs.length = (stpsOf fs).length + wchOf fs
  | [] => rfl
  | none :: fs => by
    have ih := len_fs fs
    have e1 : stpsOf (none :: fs) = stpsOf fs := rfl
    have e2 : wchOf (none :: fs) = wchOf fs + 1 := by simp [wchOf]
    rw [e1, e2, List.length_cons, ih]
    omega
  | some s :: fs => by
    have ih := len_fs fs
    have e1 : stpsOf (some s :: fs) = s :: stpsOf fs := rfl
    have e2 : wchOf (some s :: fs) = wchOf fs := by simp [wchOf]
    rw [e1, e2, List.length_cons, List.length_cons, ih]
    omega
theorem flat_len {pd : List (Option Stp)} {m : Nat} (h : (stpsOf pd).length ≤ m) : ∀ ss : List Stp, (stpsOf (flatOf pd ss)).length ≤ ss.length + m * scnN ss
  | [] => Nat.zero_le _
  | s :: ss => by
    have ih := flat_len h ss
    rw [flat_cons, stps_app, List.length_append, scnN_cons, List.length_cons]
    cases hs : isScn s with
    | true =>
      simp only [if_true]
      rw [Nat.mul_add, Nat.mul_one]
      omega
    | false =>
      simp only [Bool.false_eq_true, if_false]
      rw [Nat.zero_add]
      have : (stpsOf [some s]).length = 1 := rfl
      omega
theorem played_wch (c : Scn) (fs : List (Option Stp)) : wchOf (playedOf c fs) = wchOf fs + if c.skip then 1 else 0 := by
  unfold playedOf
  rw [wch_app]
  cases c.skip
  · show 0 + _ = _ + 0
    omega
  · show 1 + _ = _ + 1
    omega
theorem played_stps (c : Scn) (fs : List (Option Stp)) : stpsOf (playedOf c fs) = stpsOf fs := by
  unfold playedOf
  rw [stps_app]
  cases c.skip <;> rfl
theorem played_mem {c : Scn} {fs : List (Option Stp)} {s : Stp} (h : some s ∈ playedOf c fs) : some s ∈ fs := by
  unfold playedOf at h
  rcases List.mem_append.mp h with h | h
  · cases (List.mem_replicate.mp h).2
  · exact h
/-- what a scene drawn is, given the next one -/
def NextE (ns ws : List Str) (o : Option Ent) (e : Ent) : Prop := match o with
  | none => (∀ s ∈ e.c.steps, PlainS ns ws s) ∧ e.c.steps.length ≤ 3 ∧ e.fs = e.c.steps.map some ∧ e.sz = e.c.steps.length
  | some e' => (∀ s ∈ e.c.steps, PlainS ns ws s ∨ s = .scn e'.c.name) ∧ e.c.steps.length ≤ 6 ∧ e.fs = flatOf (playedOf e'.c e'.fs) e.c.steps ∧ e.sz = e.c.steps.length + e'.sz * scnN e.c.steps ∧ e.sz ≤ 600 ∧ wchOf e.fs ≤ 200
/-- what is known of a scene drawn -/
structure EntOk (ns : List Str) (e : Ent) : Prop where
  fl : ∀ s, some s ∈ e.fs → FlatS ns s
  le : (stpsOf e.fs).length ≤ e.sz
  sz : e.sz ≤ 600
  wc : wchOf e.fs ≤ 200
theorem PlainS.flat {ns ws : List Str} (hn : ∀ s ∈ ns, NmOk s) (hw : ∀ s ∈ ws, NmOk s) {s : Stp} (h : PlainS ns ws s) : FlatS ns s := by
  rcases h with ⟨x, m, rfl⟩ | ⟨x, m, z, rfl | rfl⟩
  · exact ⟨hw x m, True.intro⟩
  · exact ⟨hn x m, m⟩
  · exact ⟨hn x m, m⟩
theorem flat_mem {pd : List (Option Stp)} {s : Stp} : ∀ {ss : List Stp}, some s ∈ flatOf pd ss → some s ∈ pd ∨ (s ∈ ss ∧ isScn s = false)
  | [], h => by cases h
  | x :: ss, h => by
    rw [flat_cons] at h
    rcases List.mem_append.mp h with h | h
    · cases hs : isScn x with
      | true =>
        rw [hs, if_pos rfl] at h
        exact .inl h
      | false =>
        rw [hs, if_neg Bool.false_ne_true] at h
        cases Option.some.inj (List.mem_singleton.mp h)
        exact .inr ⟨List.mem_cons_self, hs⟩
    · exact (flat_mem h).imp id fun z => ⟨List.mem_cons_of_mem _ z.1, z.2⟩
theorem stps_map (ss : List Stp) : stpsOf (ss.map some) = ss := by
  unfold stpsOf
  rw [List.filterMap_map]
  exact List.filterMap_some
theorem wch_map (ss : List Stp) : wchOf (ss.map some) = 0 := by
  have h := len_fs (ss.map some)
  rw [stps_map, List.length_map] at h
  omega
theorem NextE.ok {ns ws : List Str} (hn : ∀ s ∈ ns, NmOk s) (hw : ∀ s ∈ ws, NmOk s) {o : Option Ent} {e : Ent} (ho : ∀ e', o = some e' → EntOk ns e') (h : NextE ns ws o e) : EntOk ns e := by
  cases o with
  | none =>
    obtain ⟨h1, h2, h3, h4⟩ := h
    refine ⟨fun s m => ?_, ?_, by omega, ?_⟩
    · rw [h3] at m
      obtain ⟨s', m, z⟩ := List.mem_map.mp m
      cases z
      exact (h1 s m).flat hn hw
    · rw [h3, stps_map, h4]
      exact Nat.le_refl _
    · rw [h3, wch_map]
      exact Nat.zero_le _
  | some e' =>
    obtain ⟨h1, h2, h3, h4, h5, h6⟩ := h
    have o' := ho e' rfl
    refine ⟨fun s m => ?_, ?_, h5, h6⟩
    · rw [h3] at m
      rcases flat_mem m with m | ⟨m, q⟩
      · exact o'.fl s (played_mem m)
      · rcases h1 s m with z | z
        · exact z.flat hn hw
        · rw [z] at q
          cases q
    · rw [h3, h4]
      exact flat_len (by rw [played_stps]; exact o'.le) _
/-- on the heap -/
def EntAt (H : Hp) (t : Addr) (e : Ent) : Prop := ∃ sa fl, H t = some (.tup [.ref sa, .ref fl, .int (e.sz : Int)]) ∧ ScnAt H sa e.c ∧ FltAt H fl e.fs
def LatAt (H : Hp) (v : V) (o : Option Ent) : Prop := match o with
  | none => v = .non
  | some e => ∃ t, v = .ref t ∧ EntAt H t e
theorem EntAt.ex {H H' : Hp} {t : Addr} {e : Ent} (h : EntAt H t e) (x : Ex H H') : EntAt H' t e := by
  obtain ⟨sa, fl, h1, h2, h3⟩ := h
  exact ⟨sa, fl, x _ _ h1, h2.ex x, h3.ex x⟩
/-- tuples, and lists that hold no integer, are no source -/
theorem Src.kp {ws : List Addr} {H H' : Hp} {a : Addr} (h : Src H a) (e : Kp ws H H') (n : a ∉ ws) : Src H' a := by
  obtain ⟨z, q⟩ := h
  exact ⟨z, e _ _ q n⟩
theorem src_tup {H : Hp} {a r : Addr} {xs : List V} (h : Src H a) (e : H r = some (.tup xs)) : r ≠ a := by
  intro q
  obtain ⟨z, h⟩ := h
  rw [q, h] at e
  cases e
theorem src_lst {H : Hp} {a r : Addr} {xs : List V} (h : Src H a) (e : H r = some (.lst xs)) (n : ∀ v ∈ xs, ∀ z : Int, v ≠ .int z) : r ≠ a := by
  intro q
  obtain ⟨z, h⟩ := h
  rw [q, h] at e
  cases e
  exact n _ List.mem_cons_self z rfl
theorem itm_noint {H : Hp} {vs : List V} {fs : List (Option Stp)} (h : Pw (ItmAt H) vs fs) : ∀ v ∈ vs, ∀ z : Int, v ≠ .int z := by
  intro v m z e
  obtain ⟨i, hi, q⟩ := List.mem_iff_getElem.mp m
  obtain ⟨x, _, hx⟩ := h.at (by rw [List.getElem?_eq_getElem hi, q])
  cases x with
  | none =>
    rw [e] at hx
    cases hx
  | some s =>
    obtain ⟨r, hr, _⟩ := hx
    rw [e] at hr
    cases hr
/-- the heap apart from what is changed: sources, and lists apart -/
theorem stps_kp {H H' : Hp} {ws : List Addr} {l : Addr} {ss : List Stp} (h : StpsAt H l ss) (e : Kp ws H H') (n : l ∉ ws) (nt : ∀ r xs, H r = some (.tup xs) → r ∉ ws) : StpsAt H' l ss := by
  obtain ⟨rs, h1, h2⟩ := h
  exact ⟨rs, e _ _ h1 n, h2.mono fun r s q => e _ _ q (nt _ _ q)⟩
theorem flt_kp {H H' : Hp} {ws : List Addr} {l : Addr} {fs : List (Option Stp)} (h : FltAt H l fs) (e : Kp ws H H') (n : l ∉ ws) (nt : ∀ r xs, H r = some (.tup xs) → r ∉ ws) : FltAt H' l fs := by
  obtain ⟨rs, h1, h2⟩ := h
  refine ⟨rs, e _ _ h1 n, h2.mono fun v x q => ?_⟩
  cases x with
  | none => exact q
  | some s =>
    obtain ⟨r, q1, q2⟩ := q
    exact ⟨r, q1, e _ _ q2 (nt _ _ q2)⟩
theorem stps_src {H : Hp} {a l : Addr} {ss : List Stp} (h : Src H a) (e : StpsAt H l ss) : l ≠ a := by
  obtain ⟨rs, h1, h2⟩ := e
  refine src_lst h h1 fun v m z q => ?_
  obtain ⟨r, _, e⟩ := List.mem_map.mp m
  rw [q] at e
  cases e
theorem ent_kp {H H' : Hp} {a t : Addr} {e : Ent} (h : EntAt H t e) (hS : Src H a) (x : Kp [a] H H') : EntAt H' t e := by
  obtain ⟨sa, fl, h1, ⟨l, v, h2, h3, h4⟩, h5⟩ := h
  have nt : ∀ r xs, H r = some (.tup xs) → r ∉ [a] := fun r xs q => off1 (src_tup hS q)
  refine ⟨sa, fl, x _ _ h1 (nt _ _ h1), ⟨l, v, x _ _ h2 (nt _ _ h2), stps_kp h3 x (off1 (stps_src hS h3)) nt, ?_⟩, ?_⟩
  · cases hb : e.c.skip with
    | false =>
      rw [hb] at h4
      exact h4
    | true =>
      rw [hb] at h4
      obtain ⟨q, q1, q2⟩ := h4
      exact ⟨q, q1, x _ _ q2 (off1 (src_lst hS q2 fun v m => by cases m))⟩
  · obtain ⟨vs, g1, g2⟩ := id h5
    exact flt_kp h5 x (off1 (src_lst hS g1 (itm_noint g2))) nt
end Sk
set_option Elab.async false
set_option linter.all false
set_option maxRecDepth 100000
set_option maxHeartbeats 4000000
namespace Sk
open PySem L2
section
variable {P : Program} {w : World} {K : PySem.W.Frag} {mg : Str → Option Value} {base : Heap} {S : List Str}
def spScene : Sp := fun vs H Q _ => ∃ (a n u : Addr) (z : Str) (lv rv : V) (bs : Bool) (o : Option Ent) (ns ws : List Str), vs = [.ref a, .str z, .ref n, .ref u, lv, rv] ∧ Src H a ∧ H n = some (.lst (ns.map V.str)) ∧ H u = some (.lst (ws.map V.str)) ∧ ns.length = 3 ∧ ws.length = 4 ∧
  (∀ s ∈ ns, NmOk s) ∧ (∀ s ∈ ws, NmOk s) ∧ NmOk z ∧ LatAt H lv o ∧ SkAt H rv bs ∧ (∀ e, o = some e → EntOk ns e ∧ NmOk e.c.name) ∧
  ∀ (t : Addr) (e : Ent) H', e.c.name = z → e.c.skip = bs → NextE ns ws o e → EntAt H' t e → Src H' a → Kp [a] H H' → Q (.ref t) H'
theorem itms_dp {H : Hp} : ∀ (vs : List V) (fs : List (Option Stp)), Pw (ItmAt H) vs fs → DpAll K H vs (fs.map itmD)
  | [], [], _ => .nil
  | [], x :: fs, h => by cases h.1
  | v :: vs, [], h => by cases h.1
  | v :: vs, x :: fs, h => .cons (itm_dp (h.2 0 v x rfl rfl)) (itms_dp vs fs ⟨Nat.succ.inj h.1, fun i v' x' a b => h.2 (i + 1) v' x' a b⟩)
theorem flt_dp {H : Hp} {l : Addr} {fs : List (Option Stp)} (h : FltAt H l fs) : Dp K H (.ref l) (.list (fs.map itmD)) := by
  obtain ⟨vs, h1, h2⟩ := h
  exact .lst (SqL.of h1) (itms_dp vs fs h2)
theorem flt_lay {fs : List (Option Stp)} (h : ∀ s, some s ∈ fs → NmOk s.nm) : Lay 2 (.list (fs.map itmD)) := Lay.list fun d m => by
  obtain ⟨x, hx, rfl⟩ := List.mem_map.mp m
  exact itm_lay fun s e => h s (by rw [← e]; exact hx)
theorem flt_cnt (fs : List (Option Stp)) : (fs.map itmD).countP (fun z => PyData.eqv z (.str "watch")) = wchOf fs := by
  rw [List.countP_map]
  unfold wchOf
  congr 1
  funext x
  exact itm_eq x
theorem Pw.take' {α β : Type} {R : α → β → Prop} {rs : List α} {xs : List β} (h : Pw R rs xs) (n : Nat) : Pw R (rs.take n) (xs.take n) := by
  refine ⟨by rw [List.length_take, List.length_take, h.1], fun i r x a b => ?_⟩
  rw [List.getElem?_take] at a b
  split at a
  · rename_i c
    rw [if_pos c] at b
    exact h.2 i r x a b
  · cases a
theorem Pw.drop' {α β : Type} {R : α → β → Prop} {rs : List α} {xs : List β} (h : Pw R rs xs) (n : Nat) : Pw R (rs.drop n) (xs.drop n) := by
  refine ⟨by rw [List.length_drop, List.length_drop, h.1], fun i r x a b => ?_⟩
  rw [List.getElem?_drop] at a b
  exact h.2 _ r x a b
theorem Kp.sub {ws vs : List Addr} {H H' : Hp} (h : Kp ws H H') (e : ∀ b ∈ ws, b ∈ vs) : Kp vs H H' := fun b o q n => h b o q fun m => n (e b m)
theorem ok_scene (T : TX K mg) : Ok P w K mg base CX0 4 a_Lscene p_Lscene spScene := by
  obtain ⟨fd, F⟩ := T.d.def_ 61 (d := d_Lscene) rfl
  obtain ⟨_, O_Ldraw⟩ := ok_draw (P := P) (w := w) (base := base) T
  obtain ⟨_, O_Lplain⟩ := ok_plain (P := P) (w := w) (base := base) T
  have b : Binds K fd p_Lscene [] := FunD.bindsN F fun _ _ _ _ _ _ us hl => match us, hl with | [_, _, _, _, _, _], _ => rfl
  refine ⟨fd, F.ok sc_Lscene (fun vs H Q E h => ?_) (fun cdv A outer s H vs Q E hr h => ?_), b, F.kp⟩
  · obtain ⟨_, _, _, _, _, _, _, _, _, _, rfl, _⟩ := h
    rfl
  · obtain ⟨a, n, u, z, lv, rv, bs, o, ns, ws, rfl, hS, hn, hu, ln, lu, on, ou, oz, hlat, hsk, ho, k⟩ := h
    refine ⟨_, PSs.nox (pss_cons (ps_set (i := 6) sc_Lscene.nd rfl (Or.inl rfl) (pcall O_Lplain (hr.mono (by decide)) rfl (T.g_Lplain) pass0 (pa_cons (pv 0) (pa_cons (pv 2) (pa_cons (pv 3) pa_nil)))))
      (pss_cons (ps_set (i := 7) sc_Lscene.nd rfl (Or.inl rfl) (pe_op op_add pe_int (pcall O_Ldraw (hr.mono (by decide)) rfl (T.g_Ldraw) pass0 (pa_cons (pv 0) (pa_cons pe_int pa_nil)))))
      (pss_cons (ps_set (i := 8) sc_Lscene.nd rfl (Or.inl rfl) (pe_callTy call_list_of rfl (T.free_list) (by decide +kernel) (pa_cons (pv 6) pa_nil)))
      (pss_cons (ps_set (i := 9) sc_Lscene.nd rfl (Or.inl rfl) (pe_callB call_len rfl (T.free_len) (by decide +kernel) (pa_cons (pv 6) pa_nil)))
      (pss_cons (ps_if (pt_cmpR op_isN (pv 4) pe_non (nomark _))
      (pss_one (ps_ret (pe_tup (pa_cons (pe_tup (pa_cons (pv 1) (pa_cons (pv 6) (pa_cons (pv 5) pa_nil)))) (pa_cons (pv 8) (pa_cons (pv 9) pa_nil)))))) pss_nil)
      (pss_cons (ps_set (i := 10) sc_Lscene.nd rfl (Or.inl rfl) (pe_op op_cat (pe_op op_rep (pe_lst (pa_cons pe_str pa_nil)) (pe_callTy call_int1 rfl (T.free_int) (by decide +kernel) (pa_cons (pe_cmpR op_notN (pe_ix (ix_tupK (K := K)) (pe_ix (ix_tupK (K := K)) (pv 4) pe_int (fun _ _ => rfl)) pe_int (fun _ _ => rfl)) pe_non (nomark _)) pa_nil))) (pe_ix (ix_tupK (K := K)) (pv 4) pe_int (fun _ _ => rfl))))
      (pss_cons (ps_for PassesOwn.never rfl (pi_range1 rfl (T.free_range) (pa_cons (pv 7) pa_nil)) (pg_name (i := 11) sc_Lscene.nd rfl (Or.inl rfl))
      (pss_one
      (ps_if (PW.pt (pw_and (pt_cmpR op_le (pe_op op_add (pe_op op_add (pv 9) pe_int) (pe_ix (ix_tupK (K := K)) (pv 4) pe_int (fun _ _ => rfl))) pe_int (nomark _)) (pw_and1 (pt_cmpR op_le (pe_op op_add (pe_bm PySem.F.plainAttrs_list PySem.F.slot_list_count PySem.F.type_list_count (mt_countD (hu65 hr)) (pv 8) (pa_cons pe_str pa_nil)) (pe_bm PySem.F.plainAttrs_list PySem.F.slot_list_count PySem.F.type_list_count (mt_countD (hu65 hr)) (pv 10) (pa_cons pe_str pa_nil))) pe_int (nomark _)))))
      (pss_cons (ps_expr (pe_bm PySem.F.plainAttrs_list PySem.F.slot_list_insert PySem.F.type_list_insert mt_insert (pv 6) (pa_cons (pcall O_Ldraw (hr.mono (by decide)) rfl (T.g_Ldraw) pass0 (pa_cons (pv 0) (pa_cons (pe_op op_add (pe_callB call_len rfl (T.free_len) (by decide +kernel) (pa_cons (pv 6) pa_nil)) pe_int) pa_nil))) (pa_cons (pe_tup (pa_cons pe_str (pa_cons (pe_ix (ix_tupK (K := K)) (pe_ix (ix_tupK (K := K)) (pv 4) pe_int (fun _ _ => rfl)) pe_int (fun _ _ => rfl)) pa_nil))) pa_nil))))
      (pss_cons (ps_set (i := 9) sc_Lscene.nd rfl (Or.inl rfl) (pe_op op_add (pe_op op_add (pv 9) pe_int) (pe_ix (ix_tupK (K := K)) (pv 4) pe_int (fun _ _ => rfl))))
      (pss_cons (ps_set (i := 8) sc_Lscene.nd rfl (Or.inl rfl) (pe_lst pa_nil)) (pss_one
      (ps_for PassesOwn.never rfl (pi_list (pv 6)) (pg_name (i := 12) sc_Lscene.nd rfl (Or.inl rfl))
      (pss_one (ps_set (i := 8) sc_Lscene.nd rfl (Or.inl rfl) (pe_op op_cat (pv 8) (pe_ifExp (pt_cmpR op_eq (pe_ix (ix_tupK (K := K)) (pv 12) pe_int (fun _ _ => rfl)) pe_str (nomark _)) (pv 10) (pe_lst (pa_cons (pv 12) pa_nil))))))))))) pss_nil)))
      (pss_one (ps_ret (pe_tup (pa_cons (pe_tup (pa_cons (pv 1) (pa_cons (pv 6) (pa_cons (pv 5) pa_nil)))) (pa_cons (pv 8) (pa_cons (pv 9) pa_nil))))))))))))), ?_⟩
    refine ⟨_, rfl, _, rfl, _, rfl, a, n, u, ns, ws, rfl, hS, hn, hu, ln, lu, fun st ss H1 hst hs3 hpla hst0 S1 k1 => ?_⟩
    have nast : st ≠ a := stps_src S1 hst
    refine ⟨_, rfl, a, 3, rfl, S1, by decide, by decide, fun tm H2 t0 t1 S2 k2 => ?_⟩
    refine ⟨1, tm, rfl, rfl, ?_⟩
    have hst2 := stps_kp hst k2 (off1 nast) fun r xs q => off1 (src_tup S1 q)
    have k12 := k1.trans k2
    have hst0' := hst0
    obtain ⟨rs0, g1, g2⟩ := id hst2
    refine ⟨_, rfl, st, _, rfl, .inl (SqL.of g1), fun f0 hf0 => ?_⟩
    have e3 := (Ex.refl H2).new (o := .lst (rs0.map V.ref)) hf0
    have hst3 := hst2.ex e3
    have nsf : st ≠ f0 := ne_of_none g1 hf0
    have hfl3 : FltAt (upd H2 f0 (.lst (rs0.map V.ref))) f0 (ss.map some) := by
      refine ⟨_, upd_same, by rw [List.length_map, List.length_map, g2.1], fun i r x p q => ?_⟩
      obtain ⟨r', hr1, rfl⟩ := map_at p
      obtain ⟨s', hs1, hs2⟩ := g2.at hr1
      rw [List.getElem?_map, hs1] at q
      cases Option.some.inj q
      exact ⟨r', rfl, e3 _ _ hs2⟩
    have S3 := S2.new (o := .lst (rs0.map V.ref)) hf0
    have k3 := k12.ex e3
    have naf : f0 ≠ a := S2.ne hf0
    clear e3
    generalize upd H2 f0 (.lst (rs0.map V.ref)) = H3 at hst3 hfl3 S3 k3
    obtain ⟨rs3, g3, g4⟩ := id hst3
    refine ⟨_, rfl, _, rs3.length, rfl, .inl ⟨_, SqL.of g3, by rw [List.length_map]⟩, ?_⟩
    have l3 : rs3.length = ss.length := g4.1
    have offt : ∀ {H' : Hp} {r : Addr} {xs : List V}, Src H' a → H' r = some (.tup xs) → r ∉ [a] := fun hS q => off1 (src_tup hS q)
    have hsk3 : SkAt H3 rv bs := by
      cases bs with
      | false => exact hsk
      | true =>
        obtain ⟨q, q1, q2⟩ := hsk
        exact ⟨q, q1, k3 _ _ q2 (off1 (src_lst hS q2 fun v m => by cases m))⟩
    refine ⟨_, rfl, rfl, _, rfl, ?_⟩
    cases o with
    | none =>
      obtain rfl : lv = .non := hlat
      refine ite2 (fun _ => ?_) (fun c => absurd (decide_eq_true rfl) c)
      refine ⟨_, rfl, _, rfl, _, rfl, small (by show 3 ≤ 100000; decide), fun t1 ht1 => ?_⟩
      refine ⟨_, rfl, _, rfl, small (by show 3 ≤ 100000; decide), fun t2 ht2 => ?_⟩
      have e4 := (Ex.refl H3).new (o := .tup [.str z, .ref st, rv]) ht1
      have n12 : t1 ≠ t2 := ne_of_none upd_same ht2
      have e5 := e4.new (o := .tup [.ref t1, .ref f0, .int (rs3.length : Int)]) ht2
      refine k t2 ⟨⟨z, ss, bs⟩, ss.map some, rs3.length⟩ _ rfl rfl ⟨hpla, hs3, rfl, l3⟩ ⟨t1, f0, upd_same, ⟨st, rv, by rw [upd_ne n12]; exact upd_same, hst3.ex e5, hsk3.ex e5⟩, hfl3.ex e5⟩ ((S3.new ht1).new ht2) (k3.ex e5)
    | some e' =>
      obtain ⟨lt, rfl, hlt⟩ := hlat
      refine ite2 (fun c => absurd (of_decide_eq_true c) (fun y => by cases y)) (fun _ => ?_)
      obtain ⟨oe, onm⟩ := ho e' rfl
      have hlt3 := ent_kp hlt hS k3
      obtain ⟨sa, fl', m1, ⟨ls', v', m2, m3, m4⟩, m5⟩ := id hlt3
      obtain ⟨vs', m6, m7⟩ := id m5
      refine ⟨small (by show 1 ≤ 100000; decide), fun w1 hw1 => ?_⟩
      have e4 := (Ex.refl H3).new (o := .lst [.str "watch"]) hw1
      have gw1 : (upd H3 w1 (.lst [.str "watch"])) w1 = some (.lst [.str "watch"]) := upd_same
      generalize upd H3 w1 (.lst [.str "watch"]) = H4 at e4 gw1
      refine ⟨_, rfl, lt, _, 0, _, rfl, rfl, SqT.of (e4 _ _ m1), rfl, sa, _, 2, _, rfl, rfl, SqT.of (e4 _ _ m2), rfl, ?_⟩
      refine ⟨rfl, .inr ⟨_, rfl, ?_⟩⟩
      have ek : (if (!decide (v' = V.non)) = true then (1 : Int) else 0) = ((if e'.c.skip then 1 else 0 : Nat) : Int) := by
        cases hb : e'.c.skip with
        | false =>
          rw [hb] at m4
          obtain rfl : v' = .non := m4
          rfl
        | true =>
          rw [hb] at m4
          obtain ⟨q, rfl, _⟩ := m4
          rfl
      rw [ek]
      have lefs : e'.fs.length ≤ 800 := by
        have := len_fs e'.fs
        have := oe.le
        have := oe.sz
        have := oe.wc
        omega
      have lsk : (if e'.c.skip then 1 else 0 : Nat) ≤ 1 := by split <;> decide
      refine ⟨w1, _, _, rfl, rfl, gw1, by omega, by omega, small ?_, fun p5 hp5 => ?_⟩
      · show 1 * ((if e'.c.skip then 1 else 0 : Nat) : Int).toNat ≤ 100000
        omega
      have e5 := e4.new (o := .lst (List.replicate ((if e'.c.skip then 1 else 0 : Nat) : Int).toNat [V.str "watch"]).flatten) hp5
      have gp5 : (upd H4 p5 (.lst (List.replicate ((if e'.c.skip then 1 else 0 : Nat) : Int).toNat [V.str "watch"]).flatten)) p5 = some (.lst (List.replicate (if e'.c.skip then 1 else 0) (V.str "watch"))) := by
        rw [upd_same]
        congr 2
        cases e'.c.skip <;> rfl
      generalize upd H4 p5 (.lst (List.replicate ((if e'.c.skip then 1 else 0 : Nat) : Int).toNat [V.str "watch"]).flatten) = H5 at e5 gp5
      refine ⟨_, rfl, lt, _, 1, _, rfl, rfl, SqT.of (e5 _ _ m1), rfl, p5, fl', _, _, rfl, rfl, gp5, e5 _ _ m6, small ?_, fun pl hpl => ?_⟩
      · rw [List.length_replicate, m7.1]
        omega
      have e6 := e5.new (o := .lst (List.replicate (if e'.c.skip then 1 else 0) (V.str "watch") ++ vs')) hpl
      have gpl : (upd H5 pl (.lst (List.replicate (if e'.c.skip then 1 else 0) (V.str "watch") ++ vs'))) pl = some (.lst (List.replicate (if e'.c.skip then 1 else 0) (V.str "watch") ++ vs')) := upd_same
      have npla : pl ≠ a := by
        obtain ⟨zz, hz⟩ := S3
        exact (ne_of_none (e5 _ _ hz) hpl).symm
      have nplst : pl ≠ st := (ne_of_none (e5 _ _ g3) hpl).symm
      generalize upd H5 pl (.lst (List.replicate (if e'.c.skip then 1 else 0) (V.str "watch") ++ vs')) = H7 at e6 gpl
      have pw7 : Pw (ItmAt H7) (List.replicate (if e'.c.skip then 1 else 0) (V.str "watch") ++ vs') (playedOf e'.c e'.fs) := by
        refine Pw.append ⟨by rw [List.length_replicate, List.length_replicate], fun i r x p q => ?_⟩ (m7.mono fun v x q => q.ex e6)
        rw [List.eq_of_mem_replicate (List.mem_of_getElem? p), List.eq_of_mem_replicate (List.mem_of_getElem? q)]
        rfl
      have S7 : Src H7 a := S3.kp (e6.kp []) List.not_mem_nil
      have hst7 := hst3.ex e6
      have g7 := e6 _ _ g3
      have m17 := e6 _ _ m1
      have m27 := e6 _ _ m2
      have k7 := k3.ex e6
      have hfl7 := hfl3.ex e6
      have hsk7 := hsk3.ex e6
      have wpd : wchOf (playedOf e'.c e'.fs) ≤ 201 := by
        rw [played_wch]
        have := oe.wc
        omega
      have lpd : (playedOf e'.c e'.fs).length ≤ 801 := by
        unfold playedOf
        rw [List.length_append, List.length_replicate]
        omega
      have fpd : ∀ s, some s ∈ playedOf e'.c e'.fs → FlatS ns s := fun s m => oe.fl s (played_mem m)
      have spd : (stpsOf (playedOf e'.c e'.fs)).length ≤ e'.sz := by
        rw [played_stps]
        exact oe.le
      have skk : ∀ {H' : Hp}, Kp [a, st] H7 H' → SkAt H' rv bs := by
        intro H' kk
        cases bs with
        | false => exact hsk7
        | true =>
          obtain ⟨q, q1, q2⟩ := id hsk7
          refine ⟨q, q1, kk _ _ q2 fun m => ?_⟩
          rcases List.mem_cons.mp m with m | m
          · exact src_lst S7 q2 (fun v m => by cases m) m
          · obtain ⟨q', q1', q2'⟩ := hsk
            have e1 : q = q' := by
              rw [q1'] at q1
              cases q1
              rfl
            have := List.mem_singleton.mp m
            rw [← e1, this, hst0] at q2'
            cases q2'
      generalize hpd : playedOf e'.c e'.fs = pd at *
      clear e4 e5 e6 gw1 gp5 m3 m4 m5 m6 m7 hfl3 hst3 hsk3 g3 hlt3 hst2 g1 g2
      have offT : ∀ {r : Addr} {xs : List V}, H7 r = some (.tup xs) → r ∉ [a, st] := fun {r xs} q m => by
        rcases List.mem_cons.mp m with m | m
        · exact src_tup S7 q m
        · exact ne_of q g7 (by intro z; cases z) (List.mem_singleton.mp m)
      have offT' : ∀ {H' : Hp} {rs : List Addr} {r : Addr} {xs : List V}, Src H' a → H' st = some (.lst (rs.map V.ref)) → H' r = some (.tup xs) → r ∉ [a, st] := fun {H' rs r xs} hs hl q m => by
        rcases List.mem_cons.mp m with m | m
        · exact src_tup hs q m
        · exact ne_of q hl (by intro z; cases z) (List.mem_singleton.mp m)
      have mst : st ∈ [a, st] := List.mem_cons_of_mem _ (on1 st)
      have offPl : pl ∉ [a, st] := fun m => by
        rcases List.mem_cons.mp m with m | m
        · exact npla m
        · exact nplst (List.mem_singleton.mp m)
      refine ⟨_, rfl, 1 + tm, rfl, by omega, by omega, for_range (lo := 0) (n := (1 + tm).toNat) (fun i σ H' => ∃ (sq : List Stp) (fs : List (Option Stp)) (fl : Addr) (v11 v12 : Option V) (sz : Nat), σ = [some (.ref a), some (.str z), some (.ref n), some (.ref u), some (.ref lt), some rv, some (.ref st), some (.int (1 + tm)), some (.ref fl), some (.int (sz : Int)), some (.ref pl), v11, v12] ∧
        StpsAt H' st sq ∧ FltAt H' fl fs ∧ fl ≠ st ∧ (∀ s ∈ sq, PlainS ns ws s ∨ s = .scn e'.c.name) ∧ sq.length ≤ 3 + i ∧ fs = flatOf pd sq ∧ sz = sq.length + e'.sz * scnN sq ∧ sz ≤ 600 ∧ wchOf fs ≤ 200 ∧ Src H' a ∧ Kp [a, st] H7 H') ⟨ss, _, f0, none, none, rs3.length, rfl, hst7, hfl7, nsf.symm, fun s m => .inl (hpla s m), by omega, (flat_plain pd hpla).symm, by rw [scnN_plain hpla]; omega, by omega, by rw [wch_map]; exact Nat.zero_le _, S7, Kp.refl _ _⟩ ?_ ?_⟩
      · rintro i σ H8 hi ⟨sq, fs, fl, v11, v12, sz, rfl, q1, q2, q3, q4, q5, q6, q7, q8, q9, S8, k8⟩
        have m18 := k8 _ _ m17 (offT m17)
        have m28 := k8 _ _ m27 (offT m27)
        have gpl8 := k8 _ _ gpl offPl
        have pw8 : Pw (ItmAt H8) (List.replicate (if e'.c.skip then 1 else 0) (V.str "watch") ++ vs') pd := pw7.mono fun v x q => by
          cases x with
          | none => exact q
          | some s =>
            obtain ⟨r, h1, h2⟩ := q
            exact ⟨r, h1, k8 _ _ h2 (offT h2)⟩
        obtain ⟨rs8, g8, p8⟩ := id q1
        obtain ⟨vs8, gf8, pf8⟩ := id q2
        have lsq : rs8.length = sq.length := p8.1
        refine ⟨_, rfl, _, _, rfl, rfl, _, rfl, lt, _, 2, _, rfl, rfl, SqT.of m18, rfl, _, _, rfl, rfl, _, _, rfl, rfl, _, rfl, ite2 (fun c1 => ?_) (fun c1 => ?_)⟩
        · have dfs : ∀ s, some s ∈ fs → NmOk s.nm := fun s m => by
            rw [q6] at m
            rcases flat_mem m with m | ⟨m, q⟩
            · exact (fpd s m).1
            · rcases q4 s m with z | z
              · exact (z.flat on ou).1
              · rw [z] at q
                cases q
          refine ⟨_, rfl, .inl ⟨rfl, _, SqL.of gf8⟩, fl, _, _, _, rfl, rfl, flt_dp q2, .str _, (flt_lay dfs).shaped (by decide), (lay_lit 0 (by decide +kernel) : Lay 0 (.str "watch")).shaped (by decide), ?_⟩
          refine ⟨_, rfl, .inl ⟨rfl, _, SqL.of gpl8⟩, pl, _, _, _, rfl, rfl, flt_dp ⟨_, gpl8, pw8⟩, .str _, (flt_lay fun s m => (fpd s m).1).shaped (by decide), (lay_lit 0 (by decide +kernel) : Lay 0 (.str "watch")).shaped (by decide), ?_⟩
          rw [flt_cnt, flt_cnt]
          refine ⟨_, _, rfl, rfl, _, _, rfl, rfl, _, rfl, ite2 (fun c2 => ?_) (fun c2 => ?_)⟩
          · have c1 := of_decide_eq_true c1
            have c2 := of_decide_eq_true c2
            have g8l : (rs8.map V.ref).length = sq.length := by rw [List.length_map, lsq]
            refine ⟨_, rfl, .inl ⟨rfl, _, SqL.of g8⟩, _, rfl, _, rfl, _, sq.length, rfl, .inl ⟨_, SqL.of g8, g8l.symm⟩, _, _, rfl, rfl, a, _, rfl, S8, by omega, by omega, fun ip H9 ip0 ip1 S9 k9 => ?_⟩
            have k9' := k8.trans (k9.sub (vs := [a, st]) fun b m => by rw [List.mem_singleton.mp m]; exact List.mem_cons_self)
            have m19 := k9' _ _ m17 (offT m17)
            have m29 := k9' _ _ m27 (offT m27)
            have gpl9 := k9' _ _ gpl offPl
            have g9 := k9 _ _ g8 (off1 nast)
            have p9 : Pw (StpAt H9) rs8 sq := p8.mono fun r s q => k9 _ _ q (off1 (src_tup S8 q))
            refine ⟨_, rfl, lt, _, 0, _, rfl, rfl, SqT.of m19, rfl, sa, _, 0, _, rfl, rfl, SqT.of m29, rfl, small (by show 2 ≤ 100000; decide), fun tp htp => ?_⟩
            have x10 := (Ex.refl H9).new (o := .tup [.str "scene", .str e'.c.name]) htp
            have gtp : (upd H9 tp (.tup [.str "scene", .str e'.c.name])) tp = some (.tup (Stp.scn e'.c.name).vs) := upd_same
            have g10 := x10 _ _ g9
            have S10 := S9.new (o := .tup [.str "scene", .str e'.c.name]) htp
            have k10 := k9'.ex x10
            have p10 : Pw (StpAt (upd H9 tp (.tup [.str "scene", .str e'.c.name]))) rs8 sq := p9.mono fun r s q => x10 _ _ q
            generalize upd H9 tp (.tup [.str "scene", .str e'.c.name]) = H10 at gtp g10 S10 k10 p10
            refine ⟨st, _, ip, _, rfl, rfl, g10, by rw [g8l]; exact small' (by omega), ip0, by omega, ?_⟩
            have k11 : Kp [a, st] H7 (upd H10 st (.lst ((rs8.map V.ref).take ip.toNat ++ [V.ref tp] ++ (rs8.map V.ref).drop ip.toNat))) := k10.upd mst
            have x11 : Kp [st] H10 (upd H10 st (.lst ((rs8.map V.ref).take ip.toNat ++ [V.ref tp] ++ (rs8.map V.ref).drop ip.toNat))) := (Kp.refl _ _).upd (on1 st)
            have g11 : (upd H10 st (.lst ((rs8.map V.ref).take ip.toNat ++ [V.ref tp] ++ (rs8.map V.ref).drop ip.toNat))) st = some (.lst ((rs8.take ip.toNat ++ [tp] ++ rs8.drop ip.toNat).map V.ref)) := by
              rw [upd_same, List.map_append, List.map_append, List.map_take, List.map_drop]
              rfl
            have S11 := S10.upd_ (p := st) (o := .lst ((rs8.map V.ref).take ip.toNat ++ [V.ref tp] ++ (rs8.map V.ref).drop ip.toNat)) nast.symm
            have nt10 : ∀ {r : Addr} {xs : List V}, H10 r = some (.tup xs) → r ∉ [st] := fun q => off1 (ne_of q g10 (by intro z; cases z))
            generalize upd H10 st (.lst ((rs8.map V.ref).take ip.toNat ++ [V.ref tp] ++ (rs8.map V.ref).drop ip.toNat)) = H11 at k11 x11 g11 S11
            have p11 : Pw (StpAt H11) (rs8.take ip.toNat ++ [tp] ++ rs8.drop ip.toNat) (sq.take ip.toNat ++ [Stp.scn e'.c.name] ++ sq.drop ip.toNat) := by
              have pm : Pw (StpAt H11) rs8 sq := p10.mono fun r s q => x11 _ _ q (nt10 q)
              refine Pw.append (Pw.append (pm.take' _) ?_) (pm.drop' _)
              exact Pw.nil.snoc (R := StpAt H11) (x11 _ _ gtp (nt10 gtp))
            have ipl : ip.toNat ≤ sq.length := by omega
            have lsq1 : (sq.take ip.toNat ++ [Stp.scn e'.c.name] ++ sq.drop ip.toNat).length = sq.length + 1 := by
              rw [List.length_append, List.length_append, List.length_take, List.length_drop]
              show min ip.toNat sq.length + 1 + _ = _
              omega
            have nsq1 : scnN (sq.take ip.toNat ++ [Stp.scn e'.c.name] ++ sq.drop ip.toNat) = scnN sq + 1 := by
              have h0 : scnN sq = scnN (sq.take ip.toNat) + scnN (sq.drop ip.toNat) := by rw [← scnN_app, List.take_append_drop]
              rw [scnN_app, scnN_app, h0]
              show _ + 1 + _ = _
              omega
            have msq1 : ∀ s ∈ sq.take ip.toNat ++ [Stp.scn e'.c.name] ++ sq.drop ip.toNat, PlainS ns ws s ∨ s = .scn e'.c.name := by
              intro s m
              rcases List.mem_append.mp m with m | m
              · rcases List.mem_append.mp m with m | m
                · exact q4 s (List.mem_of_mem_take m)
                · exact .inr (List.mem_singleton.mp m)
              · exact q4 s (List.mem_of_mem_drop m)
            generalize sq.take ip.toNat ++ [Stp.scn e'.c.name] ++ sq.drop ip.toNat = sq1 at p11 lsq1 nsq1 msq1
            generalize rs8.take ip.toNat ++ [tp] ++ rs8.drop ip.toNat = rs1 at p11 g11
            have esz : ((sz : Int) + 1 + (e'.sz : Int)) = ((sz + 1 + e'.sz : Nat) : Int) := by omega
            have m111 := k11 _ _ m17 (offT m17)
            refine ⟨_, rfl, _, _, rfl, rfl, _, rfl, lt, _, 2, _, rfl, rfl, SqT.of m111, rfl, _, _, rfl, rfl, ?_⟩
            have sz1 : sz + 1 + e'.sz = sq1.length + e'.sz * scnN sq1 := by
              rw [nsq1, lsq1, Nat.mul_add, Nat.mul_one]
              omega
            have sz1' : sz + 1 + e'.sz ≤ 600 := by omega
            have wc1 : wchOf (flatOf pd sq1) ≤ 200 := by
              rw [flat_wch, nsq1, Nat.mul_add, Nat.mul_one, ← flat_wch, ← q6]
              omega
            have lfl1 : (flatOf pd sq1).length ≤ 800 := by
              have h1 := len_fs (flatOf pd sq1)
              have h2 := flat_len spd sq1
              omega
            have gpl11 := k11 _ _ gpl offPl
            have pw11 : Pw (ItmAt H11) (List.replicate (if e'.c.skip then 1 else 0) (V.str "watch") ++ vs') pd := pw7.mono fun v x q => by
              cases x with
              | none => exact q
              | some s =>
                obtain ⟨r, h1, h2⟩ := q
                exact ⟨r, h1, k11 _ _ h2 (offT h2)⟩
            refine ⟨small (by show 0 ≤ 100000; decide), fun f1 hf1 => ?_⟩
            have x12 := (Ex.refl H11).new (o := .lst []) hf1
            have gf1 : (upd H11 f1 (.lst [])) f1 = some (.lst []) := upd_same
            have nf1 : f1 ≠ st := (ne_of_none g11 hf1).symm
            generalize upd H11 f1 (.lst []) = H12 at x12 gf1
            refine ⟨_, rfl, st, rfl, ⟨_, SqL.of (x12 _ _ g11)⟩, ?_⟩
            refine for_it (walk_list (K := K) (a := st) (xs := rs1.map V.ref)) (fun j σ H' => ∃ (fl : Addr) (v12 : Option V), σ = [some (.ref a), some (.str z), some (.ref n), some (.ref u), some (.ref lt), some rv, some (.ref st), some (.int (1 + tm)), some (.ref fl), some (.int ((sz : Int) + 1 + (e'.sz : Int))), some (.ref pl), some (.int (0 + (i : Int))), v12] ∧ FltAt H' fl (flatOf pd (sq1.take j)) ∧ fl ≠ st ∧ Ex H11 H') ⟨f1, _, rfl, ⟨[], gf1, Pw.nil⟩, nf1, x12⟩ (fun j σ H' _ zz => ?_) ?_ ?_
            · obtain ⟨_, _, _, _, _, x⟩ := zz
              exact SqL.of (x _ _ g11)
            · rintro j x σ H13 H13' hj ⟨fl2, v12', rfl, ⟨vs2, gf2, pf2⟩, nfl2, x13⟩ ⟨rfl, hx⟩
              obtain ⟨r, hr1, rfl⟩ := map_at hx
              obtain ⟨s, hs1, hs2⟩ := p11.at hr1
              have hs2 : H11 r = some (.tup s.vs) := hs2
              have hs13 := x13 _ _ hs2
              have ej : flatOf pd (sq1.take (j + 1)) = flatOf pd (sq1.take j) ++ if isScn s then pd else [some s] := by
                rw [take_snoc hs1, flat_app]
                show _ ++ (_ ++ []) = _
                rw [List.append_nil]
              have lj : vs2.length ≤ 800 := by
                rw [pf2.1]
                have h1 : flatOf pd sq1 = flatOf pd (sq1.take j) ++ flatOf pd (sq1.drop j) := by rw [← flat_app, List.take_append_drop]
                have h2 := congrArg List.length h1
                rw [List.length_append] at h2
                omega
              have fin : ∀ (y : Addr) (zs : List V) (H14 : Hp), Ex H13' H14 → H14 y = some (.lst zs) → Pw (ItmAt H14) zs (if isScn s then pd else [some s]) → zs.length ≤ 900 → ∃ l b xs ws, V.ref fl2 = .ref l ∧ V.ref y = .ref b ∧ H14 l = some (.lst xs) ∧ H14 b = some (.lst ws) ∧ xs.length + ws.length ≤ sizeLine ∧ ∀ p, H14 p = none →
                  (∃ (fl : Addr) (v12 : Option V), [some (V.ref a), some (.str z), some (.ref n), some (.ref u), some (.ref lt), some rv, some (.ref st), some (.int (1 + tm)), some (.ref p), some (.int ((sz : Int) + 1 + (e'.sz : Int))), some (.ref pl), some (.int (0 + (i : Int))), some (.ref r)] = [some (.ref a), some (.str z), some (.ref n), some (.ref u), some (.ref lt), some rv, some (.ref st), some (.int (1 + tm)), some (.ref fl), some (.int ((sz : Int) + 1 + (e'.sz : Int))), some (.ref pl), some (.int (0 + (i : Int))), v12] ∧
                    FltAt (upd H14 p (.lst (xs ++ ws))) fl (flatOf pd (sq1.take (j + 1))) ∧ fl ≠ st ∧ Ex H11 (upd H14 p (.lst (xs ++ ws)))) := by
                intro y zs H14 x14 gy py ly
                refine ⟨fl2, y, vs2, zs, rfl, rfl, x14 _ _ gf2, gy, small (by omega), fun p hp => ?_⟩
                have x15 := (Ex.refl H14).new (o := .lst (vs2 ++ zs)) hp
                refine ⟨p, _, rfl, ⟨_, upd_same, ?_⟩, ?_, (x13.trans x14).trans x15⟩
                · rw [ej]
                  exact Pw.append (pf2.mono fun v x q => q.ex (x14.trans x15)) (py.mono fun v x q => q.ex x15)
                · exact (ne_of_none (x14 _ _ (x13 _ _ g11)) hp).symm
              cases s with
              | scn nm =>
                refine ⟨_, rfl, _, rfl, r, _, 0, _, rfl, rfl, SqT.of hs13, rfl, rfl, _, rfl, ?_⟩
                refine ite2 (fun _ => ?_) (fun c => absurd (decide_eq_true (by first | rfl | decide +kernel)) c)
                refine ⟨_, rfl, ?_⟩
                refine fin pl _ H13' (Ex.refl _) (x13 _ _ gpl11) (pw11.mono fun v x q => q.ex x13) ?_
                rw [pw11.1]
                omega
              | sho w1 =>
                refine ⟨_, rfl, _, rfl, r, _, 0, _, rfl, rfl, SqT.of hs13, rfl, rfl, _, rfl, ?_⟩
                refine ite2 (fun c => absurd (of_decide_eq_true c) (by decide +kernel)) (fun _ => ?_)
                refine ⟨_, rfl, small (by show 1 ≤ 100000; decide), fun y hy => ?_⟩
                have xy := (Ex.refl H13').new (o := .lst [.ref r]) hy
                exact fin y _ _ xy upd_same (Pw.nil.snoc (R := ItmAt _) ⟨r, rfl, xy _ _ hs13⟩) (by show 1 ≤ 900; decide)
              | st w1 z1 =>
                refine ⟨_, rfl, _, rfl, r, _, 0, _, rfl, rfl, SqT.of hs13, rfl, rfl, _, rfl, ?_⟩
                refine ite2 (fun c => absurd (of_decide_eq_true c) (by decide +kernel)) (fun _ => ?_)
                refine ⟨_, rfl, small (by show 1 ≤ 100000; decide), fun y hy => ?_⟩
                have xy := (Ex.refl H13').new (o := .lst [.ref r]) hy
                exact fin y _ _ xy upd_same (Pw.nil.snoc (R := ItmAt _) ⟨r, rfl, xy _ _ hs13⟩) (by show 1 ≤ 900; decide)
              | ad w1 z1 =>
                refine ⟨_, rfl, _, rfl, r, _, 0, _, rfl, rfl, SqT.of hs13, rfl, rfl, _, rfl, ?_⟩
                refine ite2 (fun c => absurd (of_decide_eq_true c) (by decide +kernel)) (fun _ => ?_)
                refine ⟨_, rfl, small (by show 1 ≤ 100000; decide), fun y hy => ?_⟩
                have xy := (Ex.refl H13').new (o := .lst [.ref r]) hy
                exact fin y _ _ xy upd_same (Pw.nil.snoc (R := ItmAt _) ⟨r, rfl, xy _ _ hs13⟩) (by show 1 ≤ 900; decide)
            · rintro σ H13 ⟨fl2, v12', rfl, pf2, nfl2, x13⟩
              rw [List.length_map, p11.1, List.take_length] at pf2
              exact ⟨sq1, _, fl2, _, v12', sz + 1 + e'.sz, by rw [← esz], ⟨rs1, x13 _ _ g11, p11.mono fun r s q => x13 _ _ q⟩, pf2, nfl2, msq1, by omega, rfl, sz1, sz1', wc1, S11.kp (x13.kp []) List.not_mem_nil, k11.ex x13⟩
          · exact ⟨sq, fs, fl, _, v12, sz, rfl, q1, q2, q3, q4, by omega, q6, q7, q8, q9, S8, k8⟩
        · exact ⟨sq, fs, fl, _, v12, sz, rfl, q1, q2, q3, q4, by omega, q6, q7, q8, q9, S8, k8⟩
      · rintro σ H8 ⟨sq, fs, fl, v11, v12, sz, rfl, q1, q2, q3, q4, q5, q6, q7, q8, q9, S8, k8⟩
        refine ⟨_, rfl, _, rfl, _, rfl, small (by show 3 ≤ 100000; decide), fun t1 ht1 => ?_⟩
        refine ⟨_, rfl, _, rfl, small (by show 3 ≤ 100000; decide), fun t2 ht2 => ?_⟩
        have x4 := (Ex.refl H8).new (o := .tup [.str z, .ref st, rv]) ht1
        have n12 : t1 ≠ t2 := ne_of_none upd_same ht2
        have x5 := x4.new (o := .tup [.ref t1, .ref fl, .int (sz : Int)]) ht2
        refine k t2 ⟨⟨z, sq, bs⟩, fs, sz⟩ _ rfl rfl ⟨q4, by show sq.length ≤ 6; omega, by rw [hpd]; exact q6, q7, q8, q9⟩ ⟨t1, fl, upd_same, ⟨st, rv, by rw [upd_ne n12]; exact upd_same, q1.ex x5, (skk k8).ex x5⟩, q2.ex x5⟩ ((S8.new ht1).new ht2) ?_
        refine (k7.then_ k8 fun b m => ?_).ex x5
        rcases List.mem_cons.mp m with m | m
        · exact .inl (by rw [m]; exact on1 a)
        · exact .inr (by rw [List.mem_singleton.mp m]; exact hst0)
end
end Sk
set_option Elab.async false
set_option linter.all false
set_option maxRecDepth 100000
set_option maxHeartbeats 4000000
namespace Sk
open PySem L2
/-! ### what the law asks of one scene -/
section
variable {P : Program} {w : World} {K : PySem.W.Frag} {mg : Str → Option Value} {base : Heap} {S : List Str}
/-- Notes(dict(d)): all that was there is there still -/
theorem mk_ex {H H' : Hp} {p no dx : Addr} {o i : HO} (hp : H p = none) (hno : (upd H p o) no = none) (hdx : (upd H p o) dx = none) (hne : dx ≠ no) (k : Kp [no] (upd (upd (upd H p o) dx (.own no)) no i) H') : Ex H H' := by
  have e1 := (Ex.refl H).new (o := o) hp
  have e2 := e1.new (o := .own no) hdx
  have hno2 : (upd (upd H p o) dx (.own no)) no = none := by rw [upd_ne hne.symm]; exact hno
  have e3 := e2.new (o := i) hno2
  exact fun b u q => k b u (e3 b u q) (off1 (ne_of_none (e1 b u q) hno))
theorem mk_at {H : Hp} {p no dx : Addr} {o i : HO} (hno : (upd H p o) no = none) (hdx : (upd H p o) dx = none) : (upd (upd (upd H p o) dx (.own no)) no i) p = some o := by
  have g : (upd H p o) p = some o := upd_same
  rw [upd_ne (ne_of_none g hno), upd_ne (ne_of_none g hdx)]
  exact g
def spGood (K : PySem.W.Frag) : Sp := fun vs H Q _ => ∃ (S : List Str) (cs : List Scn), SOk S ∧ (∀ s ∈ S, NmOk s) ∧ ∃ (s due wl dl al vd : Addr) (i : Nat) (c : Scn) (as : List Stp) (k : Nat) (kvs kvs' : KD) (ω : Stp → Nat), vs = [.ref s, .str c.name, .ref due, .ref vd] ∧ StoryAt K H s cs ∧
  cs[i]? = some c ∧ (cs.map Scn.name).Nodup ∧ cs.length ≤ 100 ∧ (∀ c ∈ cs, StpsOk S cs c.steps) ∧ (∀ c ∈ cs, c.steps.length ≤ 1000) ∧ WtOk cs ω ∧ wsum ω c.steps ≤ 1000 ∧ Run cs c.steps as k ∧ k ≤ 1000 ∧ (wordsOf as).length ≤ 20000 ∧ (∀ x ∈ wordsOf as, NmOk x) ∧
  H due = some (.tup [.ref wl, .ref dl, .ref al]) ∧ H wl = some (.lst ((wordsOf as).map V.str)) ∧ H dl = some (.dK kvs') ∧ DI S kvs' ∧ H vd = some (.dK kvs) ∧ DI S kvs ∧ (∀ s, dv kvs' s = doAll as (dv kvs) s) ∧ H al = some (.lst (List.replicate k (.str "watch"))) ∧ ∀ H', Ex H H' → Q (.bl true) H'
theorem ok_good (T : TX K mg) : Ok P w K mg base CX0 10 a_Lgood p_Lgood (spGood K) := by
  obtain ⟨fd, F⟩ := T.d.def_ 63 (d := d_Lgood) rfl
  have b : Binds K fd p_Lgood [] := FunD.bindsN F fun _ _ _ _ _ _ us hl => match us, hl with | [_, _, _, _], _ => rfl
  refine ⟨fd, F.ok sc_Lgood (fun vs H Q E h => ?_) (fun cdv A outer s H vs Q E hr h => ?_), b, F.kp⟩
  · obtain ⟨_, _, _, _, _, _, _, _, _, _, _, _, _, _, _, _, _, rfl, _⟩ := h
    rfl
  · obtain ⟨S, cs, hS, hN, st, due, wl, dl, al, vd, i, c, as, kk, kvs, kvs', ω, rfl, hst, hci, hnd, hlen, hcs, hcl, hω, hw, hrun, hk, hwl, hwn, hdue, h1, h2, hI', h3, hI, hf, h4, k⟩ := h
    obtain ⟨_, O_ways⟩ := ok_ways (P := P) (w := w) (base := base) T hS cs
    obtain ⟨dsW, hvW, hbW⟩ := O_ways.d
    obtain ⟨_, O_Pattern_init⟩ := ok_pat (P := P) (w := w) (base := base) T
    obtain ⟨dsP, hvP, hbP⟩ := O_Pattern_init.d
    obtain ⟨_, O_Way_answers⟩ := ok_answers (P := P) (w := w) (base := base) T
    obtain ⟨_, O_Way_shown⟩ := ok_wshown (P := P) (w := w) (base := base) T
    obtain ⟨_, O_Way_end⟩ := ok_end (P := P) (w := w) (base := base) T
    obtain ⟨_, O_Way_pattern⟩ := ok_pattern (P := P) (w := w) (base := base) T
    obtain ⟨_, O_Pattern_contains⟩ := ok_has (P := P) (w := w) (base := base) T
    obtain ⟨_, O_least_outside⟩ := ok_out (P := P) (w := w) (base := base) T hS
    obtain ⟨_, O_Notes_init⟩ := ok_notes (P := P) (w := w) (base := base) T hS
    obtain ⟨_, O_Way_call⟩ := ok_wcall (P := P) (w := w) (base := base) T hS
    obtain ⟨_, O_Lare_notes⟩ := ok_lare (P := P) (w := w) (base := base) T hS hN
    obtain ⟨_, O_outcomes⟩ := ok_outc (P := P) (w := w) (base := base) T hS cs
    obtain ⟨fdR, O_resumed, FR⟩ := ok_resumed (P := P) (w := w) (base := base) T hS cs
    have kpR := FR.kp
    obtain ⟨mvR, hbR⟩ := FR.kbinds0 (ps := p_resumed) 3 ["scene"] [] (fun us _ ws => us ++ ws) (by intro z; cases z) (fun q h => by cases h) (fun a _ c => a.append c) (fun _ _ _ _ _ _ us mv ws l1 l2 l3 => match us, mv, ws, l1, l2, l3 with | [_, _, _], [], [_], _, _, _ => rfl)
    obtain ⟨_, O_Play_state⟩ := ok_state (P := P) (w := w) (base := base) T
    obtain ⟨_, O_Play_shown⟩ := ok_pshown (P := P) (w := w) (base := base) T
    obtain ⟨_, O_Play_notes⟩ := ok_pnotes (P := P) (w := w) (base := base) T hS
    obtain ⟨_, O_Play_len⟩ := ok_plen (P := P) (w := w) (base := base) T
    refine ⟨_, PSs.nox (pss_cons (ps_asg (pv 2) (pg_tupK (K := K) (n := 3) (pgs_cons (pg_name (i := 4) sc_Lgood.nd rfl (Or.inl rfl)) (pgs_cons (pg_name (i := 5) sc_Lgood.nd rfl (Or.inl rfl)) (pgs_cons (pg_name (i := 6) sc_Lgood.nd rfl (Or.inl rfl)) pgs_nil)))))
      (pss_cons (ps_set (i := 7) sc_Lgood.nd rfl (Or.inr rfl) (pe_call O_ways.fn (hr.mono (by decide)) rfl (T.g_ways) O_ways.k hbW hvW pass0 (pa_cons (pv 0) (pa_cons (pv 1) pa_nil))))
      (pss_cons
      (ps_if (PW.pt (pw_or (pt_not (pt_val (pe_callB (isiK (K := K)) rfl (T.free_isinstance) (by decide +kernel) (pa_cons (pv 7) (pa_cons (pe_bltn (v := .ty "list") rfl (T.free_list) (by decide +kernel) rfl) pa_nil))))) (pw_or1 (pt_not (pt_val (pe_callB (cr_all rfl) rfl (T.free_all) (by decide +kernel) (pa_cons
      (pe_lc (own := [("way", 9)]) rfl sc_Lgood.nd (pi_list (pv 7)) (blkOk_by (own := [("way", 9)]) (N := n_Lgood) (sc := defScope s_Lgood) (by decide +kernel)) (fun _ _ _ _ _ => pg_name (i := 9) sc_Lgood.nd rfl (Or.inl rfl)) (fun _ _ _ _ _ => pts_nil) (fun _ _ _ _ _ => (by exact (pe_callB (isiK (K := K)) rfl (T.free_isinstance) (by decide +kernel) (pa_cons (pv 9) (pa_cons (pe_glob (v := .ref (He.ga K "Way")) rfl (T.g_Way) rfl) pa_nil)))))) pa_nil)))))))
      (pss_one (ps_ret pe_bl)) pss_nil) (pss_cons
      (ps_for PassesOwn.never rfl (pi_range1 rfl (T.free_range) (pa_cons (pe_callB call_len rfl (T.free_len) (by decide +kernel) (pa_cons (pv 7) pa_nil)) pa_nil)) (pg_name (i := 8) sc_Lgood.nd rfl (Or.inr rfl))
      (pss_cons
      (ps_if (PW.pt (pw_or (pt_cmpR (neDK (K := K) hr.units) (pe_prop (pe_ix (ix_listK (K := K)) (pv 7) (pv 8) (fun _ _ => rfl)) T.c_Way T.p_Way_answers O_Way_answers.fn (hr.mono (by decide)) O_Way_answers.b .nil pass0 rfl) (pv 6) (nomark _)) (pw_or (pt_cmpR (neDK (K := K) hr.units) (pe_prop (pe_ix (ix_listK (K := K)) (pv 7) (pv 8) (fun _ _ => rfl)) T.c_Way T.p_Way_shown O_Way_shown.fn (hr.mono (by decide)) O_Way_shown.b .nil pass0 rfl) (pv 4) (nomark _)) (pw_or1 (pt_cmpR op_ne (pe_prop (pe_ix (ix_listK (K := K)) (pv 7) (pv 8) (fun _ _ => rfl)) T.c_Way T.p_Way_end O_Way_end.fn (hr.mono (by decide)) O_Way_end.b .nil pass0 rfl) pe_str (nomark _))))))
      (pss_one (ps_ret pe_bl)) pss_nil) (pss_one (ps_if (pt_not (pt_val (pe_callB (cr_all rfl) rfl (T.free_all) (by decide +kernel) (pa_cons
      (pe_lc (own := [("way", 9)]) rfl sc_Lgood.nd (pi_list (pe_slice (sl_list : SlR _ (rSlL K)) (pv 7) po_none (po_some (pv 8)))) (blkOk_by (own := [("way", 9)]) (N := n_Lgood) (sc := defScope s_Lgood) (by decide +kernel)) (fun _ _ _ _ _ => pg_name (i := 9) sc_Lgood.nd rfl (Or.inl rfl)) (fun _ _ _ _ _ => pts_nil) (fun _ _ _ _ _ => (by exact pe_never))) pa_nil))))
      (pss_one (ps_ret pe_bl)) pss_nil)))) (pss_cons
      (ps_if (pt_cmpR op_notN (pcall O_least_outside (hr.mono (by decide)) rfl (T.g_least_outside) pass0 (pa_cons (pe_make0 T.mk_Pattern O_Pattern_init.fn (hr.mono (by decide)) rfl (T.g_Pattern) hbP hvP pass0) (pa_cons
      (pe_lc (own := [("way", 9)]) rfl sc_Lgood.nd (pi_list (pv 7)) (blkOk_by (own := [("way", 9)]) (N := n_Lgood) (sc := defScope s_Lgood) (by decide +kernel)) (fun _ _ _ _ _ => pg_name (i := 9) sc_Lgood.nd rfl (Or.inl rfl)) (fun _ _ _ _ _ => pts_nil) (fun _ _ _ _ _ => (by exact (pe_prop (pv 9) T.c_Way T.p_Way_pattern O_Way_pattern.fn (hr.mono (by decide)) O_Way_pattern.b .nil pass0 rfl)))) pa_nil))) pe_non (nomark _))
      (pss_one (ps_ret pe_bl)) pss_nil) (pss_cons (ps_for PassesOwn.never rfl (pi_list (pv 7)) (pg_name (i := 9) sc_Lgood.nd rfl (Or.inl rfl))
      (pss_one
      (ps_if (PW.pt (pw_and (pt_cmpR (op_inO O_Pattern_contains.fn (hr.mono (by decide)) T.m_Pattern_contains O_Pattern_contains.b pass0) (pmake T.mk_Notes O_Notes_init (hr.mono (by decide)) rfl (T.g_Notes) pass0 (pa_cons (pe_callTy call_dictD rfl (T.free_dict) (by decide +kernel) (pa_cons (pv 3) pa_nil)) pa_nil)) (pe_prop (pv 9) T.c_Way T.p_Way_pattern O_Way_pattern.fn (hr.mono (by decide)) O_Way_pattern.b .nil pass0 rfl) (by rfl)) (pw_and1 (pt_not (pt_val (pcall O_Lare_notes (hr.mono (by decide)) rfl (T.g_Lare_notes) pass0 (pa_cons (pe_callOw (pv 9) T.call_Way O_Way_call.fn (hr.mono (by decide)) O_Way_call.b pass0 (pa_cons (pmake T.mk_Notes O_Notes_init (hr.mono (by decide)) rfl (T.g_Notes) pass0 (pa_cons (pe_callTy call_dictD rfl (T.free_dict) (by decide +kernel) (pa_cons (pv 3) pa_nil)) pa_nil)) pa_nil)) (pa_cons (pv 5) pa_nil))))))))
      (pss_one (ps_ret pe_bl)) pss_nil)))
      (pss_cons (ps_set (i := 10) sc_Lgood.nd rfl (Or.inl rfl) (pcall O_outcomes (hr.mono (by decide)) rfl (T.g_outcomes) pass0 (pa_cons (pv 0) (pa_cons (pv 1) (pa_cons (pmake T.mk_Notes O_Notes_init (hr.mono (by decide)) rfl (T.g_Notes) pass0 (pa_cons (pe_callTy call_dictD rfl (T.free_dict) (by decide +kernel) (pa_cons (pv 3) pa_nil)) pa_nil)) pa_nil)))))
      (pss_cons (ps_set (i := 11) sc_Lgood.nd rfl (Or.inl rfl) (pe_callN O_resumed (hr.mono (by decide)) rfl (T.g_resumed) kpR hbR pass0 (pa_cons (pv 0) (pa_cons (pmake T.mk_Notes O_Notes_init (hr.mono (by decide)) rfl (T.g_Notes) pass0 (pa_cons (pe_callTy call_dictD rfl (T.free_dict) (by decide +kernel) (pa_cons (pv 3) pa_nil)) pa_nil)) (pa_cons (pe_callTy call_list_of rfl (T.free_list) (by decide +kernel) (pa_cons (pv 6) pa_nil)) pa_nil))) (pk_cons (pv 1) pk_nil)))
      (pss_cons
      (ps_if (PW.pt (pw_or (pt_cmpR op_ne (pe_prop (pv 11) T.c_Play T.p_Play_state O_Play_state.fn (hr.mono (by decide)) O_Play_state.b .nil pass0 rfl) pe_str (nomark _)) (pw_or (pt_cmpR (neDK (K := K) hr.units) (pe_prop (pv 11) T.c_Play T.p_Play_shown O_Play_shown.fn (hr.mono (by decide)) O_Play_shown.b .nil pass0 rfl) (pv 4) (nomark _)) (pw_or1 (pt_not (pt_val (pcall O_Lare_notes (hr.mono (by decide)) rfl (T.g_Lare_notes) pass0 (pa_cons (pe_prop (pv 11) T.c_Play T.p_Play_notes O_Play_notes.fn (hr.mono (by decide)) O_Play_notes.b .nil pass0 rfl) (pa_cons (pv 5) pa_nil)))))))))
      (pss_one (ps_ret pe_bl)) pss_nil)
      (pss_one (ps_ret (pe_and (pe_cmpR op_eq (pe_callB call_len rfl (T.free_len) (by decide +kernel) (pa_cons (pv 10) pa_nil)) pe_int (nomark _)) (pe_and (pcall O_Lare_notes (hr.mono (by decide)) rfl (T.g_Lare_notes) pass0 (pa_cons (pe_ix (ix_listK (K := K)) (pv 10) pe_int (fun _ _ => rfl)) (pa_cons (pv 5) pa_nil))) (pe_one (pe_cmpR op_eq (pe_callB (call_lenO O_Play_len.fn (hr.mono (by decide)) T.m_Play_len O_Play_len.b pass0) rfl (T.free_len) (by decide +kernel) (pa_cons (pv 11) pa_nil)) (pe_callB call_len rfl (T.free_len) (by decide +kernel) (pa_cons (pv 6) pa_nil)) (nomark _)))))))))))))))), ?_⟩
    have eR : List.replicate kk (V.str "watch") = (List.replicate kk ("watch" : Str)).map V.str := by rw [List.map_replicate]
    have lyA : Lay 1 (.list ((List.replicate kk ("watch" : Str)).map PyData.str)) := lay_strs fun s m => by
      rw [List.eq_of_mem_replicate m]
      decide +kernel
    have lyW : Lay 1 (.list ((wordsOf as).map PyData.str)) := lay_strs hwn
    have dpA : ∀ {H' : Hp} {p : Addr}, H' p = some (.lst (List.replicate kk (V.str "watch"))) → Dp K H' (.ref p) (.list ((List.replicate kk ("watch" : Str)).map PyData.str)) := fun h => dp_strs (by rw [← eR]; exact h)
    refine ⟨_, rfl, due, _, rfl, SqT.of hdue, rfl, _, _, rfl, _, _, rfl, _, _, rfl, rfl, ?_⟩
    refine ⟨_, rfl, _, rfl, st, i, c, as, kk, rfl, hst, hnd, hcs, hci, hrun, hk, hwl, fun q y H2 e2 hq hq2 WY => ?_⟩
    refine ⟨_, rfl, _, _, _, _, true, rfl, .ty _, .base (.lst hq2), kit_ll, true, rfl, nope ?_⟩
    refine ⟨_, rfl, q, rfl, ⟨_, SqL.of hq2⟩, fun D hD => ?_⟩
    have nD : q ≠ D := ne_of_none hq2 hD
    refine lc_list (K := K) (a := q) (xs := [V.ref y]) (fun j H' => H' D = some (.lst ((List.replicate j true).map V.bl)) ∧ Kp [D] H2 H') ⟨upd_same, (Kp.refl _ _).new hD⟩ (fun j H' _ z => SqL.of (z.2 _ _ hq2 (off1 nD))) ?_ ?_
    · rintro j x H3 hx ⟨g1, kk1⟩
      have hj : j < 1 := (List.getElem?_eq_some_iff.mp hx).1
      obtain rfl : j = 0 := by omega
      cases Option.some.inj hx
      obtain ⟨dx, p, c', L, gl, wl', w1, w2, w3, w4, w5, w6⟩ := id WY
      refine ⟨rfl, ?_⟩
      refine ⟨_, rfl, _, _, _, _, true, rfl, .own _, ty_ins T (C := "Way") (by decide) T.c_Way (kk1 _ _ w1 (off1 (ne_of_none w1 hD))), is_ins T (by decide), ?_⟩
      exact ⟨_, g1, by show 0 < sizeLine; exact small' (by decide), upd_same, kk1.upd (on1 D)⟩
    rintro H3 ⟨g1, kk1⟩
    have e3 : Ex H2 H3 := fun b o z => kk1 b o z (off1 (ne_of_none z hD))
    refine ⟨D, [true], rfl, SqL.of g1, true, rfl, nope ?_⟩
    have e23 := e2.trans e3
    have hq3 := e3 _ _ hq2
    have WY3 := WY.ex e3
    clear g1 kk1 hD nD
    refine ⟨_, rfl, _, 1, rfl, .inl ⟨_, SqL.of hq3, rfl⟩, _, rfl, by decide, by decide, for_range (lo := 0) (n := 1) (fun j σ H' => ∃ v8 : Option V, σ = [some (.ref st), some (.str c.name), some (.ref due), some (.ref vd), some (.ref wl), some (.ref dl), some (.ref al), some (.ref q), v8, none, none, none] ∧ Ex H3 H') ⟨_, rfl, Ex.refl _⟩ ?_ ?_⟩
    · rintro j σ H4 hj ⟨v8, rfl, e4⟩
      obtain rfl : j = 0 := by omega
      have hq4 := e4 _ _ hq3
      obtain ⟨dx, p, c', L, gl, wl', w1, w2, w3, w4, w5, w6⟩ := WY3.ex e4
      have hat : atI [V.ref y] (0 + ((0 : Nat) : Int)) = some (V.ref y) := atI_nat (j := 0) rfl
      have e34 := e23.trans e4
      refine ⟨_, rfl, _, rfl, q, _, _, _, rfl, rfl, SqL.of hq4, hat, y, dx, _, rfl, w1, y, dx, _, gl, _, rfl, w1, look_given _ _ _ _ _, w5, fun q1 hq1 => ?_⟩
      have x5 := (Ex.refl H4).new (o := .lst (List.replicate kk (V.str "watch"))) hq1
      refine ⟨_, rfl, _, _, dpA upd_same, dpA (x5 _ _ (e34 _ _ h4)), lyA.shaped (by decide), lyA.shaped (by decide), _, rfl, ?_⟩
      rw [SeqAt.eqv_refl _ lyA.1]
      refine nope ?_
      generalize upd H4 q1 (.lst (List.replicate kk (V.str "watch"))) = H5 at x5
      refine ⟨_, rfl, _, rfl, q, _, _, _, rfl, rfl, SqL.of (x5 _ _ hq4), hat, y, dx, _, rfl, x5 _ _ w1, y, dx, _, wl', _, rfl, x5 _ _ w1, look_words _ _ _ _ _, x5 _ _ w6, fun q2 hq2' => ?_⟩
      have x6 := (Ex.refl H5).new (o := .lst ((wordsOf as).map V.str)) hq2'
      refine ⟨_, rfl, _, _, dp_strs upd_same, dp_strs (x6 _ _ (x5 _ _ (e34 _ _ h1))), lyW.shaped (by decide), lyW.shaped (by decide), _, rfl, ?_⟩
      rw [SeqAt.eqv_refl _ lyW.1]
      refine nope ?_
      have x56 := x5.trans x6
      clear x6
      generalize upd H5 q2 (.lst ((wordsOf as).map V.str)) = H6 at x56
      refine ⟨_, rfl, _, rfl, q, _, _, _, rfl, rfl, SqL.of (x56 _ _ hq4), hat, y, dx, _, rfl, x56 _ _ w1, y, dx, _, _, rfl, x56 _ _ w1, look_close _ _ _ _ _, rfl, _, rfl, ?_⟩
      refine ite2 (fun z => absurd z (by decide +kernel)) (fun _ => ?_)
      refine ⟨_, rfl, _, rfl, _, rfl, q, _, rfl, SqL.of (x56 _ _ hq4), fun p1 hp1 => ⟨p1, rfl, ⟨_, SqL.of upd_same⟩, fun D2 hD2 => ?_⟩⟩
      have x7 := x56.new (o := .lst (cutV [V.ref y] none (some (0 + ((0 : Nat) : Int))))) hp1
      have gp1 : (upd H6 p1 (.lst (cutV [V.ref y] none (some (0 + ((0 : Nat) : Int)))))) p1 = some (.lst []) := by
        rw [upd_same]
        rfl
      have n1 : p1 ≠ D2 := ne_of_none gp1 hD2
      refine lc_list (K := K) (a := p1) (xs := []) (fun j H' => H' D2 = some (.lst []) ∧ Kp [D2] (upd H6 p1 (.lst (cutV [V.ref y] none (some (0 + ((0 : Nat) : Int)))))) H') ⟨upd_same, (Kp.refl _ _).new hD2⟩ (fun j H' _ z => SqL.of (z.2 _ _ gp1 (off1 n1))) ?_ ?_
      · rintro j x H7 hx _
        cases hx
      · rintro H7 ⟨g7, k7⟩
        refine ⟨D2, [], rfl, SqL.of g7, true, rfl, nope ?_⟩
        exact ⟨_, rfl, (e4.trans x7).trans fun b o z => k7 b o z (off1 (ne_of_none z hD2))⟩
    · rintro σ H4 ⟨v8, rfl, e4⟩
      have hq4 := e4 _ _ hq3
      have WY4 := WY3.ex e4
      have e34 := e23.trans e4
      clear e3 e4 e23 hq3 WY3
      -- nothing outside
      refine fun px dxp hpx hdxp hne => ⟨px, dxp, rfl, upd_same, fun H5 dd k5 hdd PA => ⟨rfl, ?_⟩⟩
      have hpx1 : (upd H4 dxp (.own px)) px = none := by rw [upd_ne hne.symm]; exact hpx
      have x5 : Ex H4 H5 := fun b o z => k5 b o ((((Ex.refl H4).new (o := .own px) hdxp).new (o := .ins (He.ga K "Pattern") dxp []) hpx1) b o z) (off1 (ne_of_none z hpx))
      have PP := PA.at
      refine ⟨_, rfl, q, rfl, ⟨_, SqL.of (x5 _ _ hq4)⟩, fun D2 hD2 => ?_⟩
      have hq5 := x5 _ _ hq4
      have WY5 := WY4.ex x5
      obtain ⟨dx, p, c', L, gl, wl', w1, w2, w3, w4, w5, w6⟩ := id WY5
      have n1 : q ≠ D2 := ne_of_none hq5 hD2
      refine lc_list (K := K) (a := q) (xs := [V.ref y]) (fun j H' => H' D2 = some (.lst (List.replicate j (V.ref p))) ∧ Kp [D2] H5 H') ⟨upd_same, (Kp.refl _ _).new hD2⟩ (fun j H' _ z => SqL.of (z.2 _ _ hq5 (off1 n1))) ?_ ?_
      · rintro j x H6 hx ⟨g6, k6⟩
        have hj : j < 1 := (List.getElem?_eq_some_iff.mp hx).1
        obtain rfl : j = 0 := by omega
        cases Option.some.inj hx
        have w1' := k6 _ _ w1 (off1 (ne_of_none w1 hD2))
        refine ⟨rfl, ?_⟩
        exact ⟨_, rfl, y, dx, _, rfl, w1', y, dx, _, _, rfl, w1', look_box _ _ _ _ _, _, g6, by show 0 < sizeLine; exact small' (by decide), upd_same, k6.upd (on1 D2)⟩
      rintro H6 ⟨g6, k6⟩
      have x6 : Ex H5 H6 := fun b o z => k6 b o z (off1 (ne_of_none z hD2))
      refine ⟨px, D2, p, rfl, PP.ex x6, g6, w2.ex x6, fun H7 x7 => ⟨rfl, _, rfl, ?_⟩⟩
      refine ite2 (fun z => absurd z (by decide +kernel)) (fun _ => ?_)
      have x47 := (x5.trans x6).trans x7
      have hq7 := x47 _ _ hq4
      have WY7 := WY4.ex x47
      have e37 := e34.trans x47
      clear x5 x6 x7 x47 hq5 WY5 w1 w2 w3 w4 w5 w6 hD2 n1 g6 k6 PP PA k5 hpx hdxp hpx1 hne hq4 WY4 e34 hq2 hq e2 WY
      -- each way
      refine ⟨_, rfl, q, rfl, ⟨_, SqL.of hq7⟩, ?_⟩
      refine for_it (walk_list (K := K) (a := q) (xs := [V.ref y])) (fun j σ H' => ∃ v9 : Option V, σ = [some (.ref st), some (.str c.name), some (.ref due), some (.ref vd), some (.ref wl), some (.ref dl), some (.ref al), some (.ref q), v8, v9, none, none] ∧ Ex H7 H') ⟨_, rfl, Ex.refl _⟩ (fun j σ H' _ z => ?_) ?_ ?_
      · obtain ⟨_, _, z⟩ := z
        exact SqL.of (z _ _ hq7)
      · rintro j x σ H8' H8 hj ⟨v9, rfl, x8⟩ ⟨rfl, hx⟩
        have hj : j < 1 := (List.getElem?_eq_some_iff.mp hx).1
        obtain rfl : j = 0 := by omega
        cases Option.some.inj hx
        have e8 := e37.trans x8
        have WY8 := WY7.ex x8
        refine ⟨_, rfl, vd, kvs, rfl, .inl (e8 _ _ h3), fun p1 hp1 no dno hno hdno hne => ⟨no, dno, p1, kvs, rfl, upd_same, mk_at hno hdno, hI, fun H9 hd9 k9 hhd9 N9 => ⟨rfl, ?_⟩⟩⟩
        have x9 := mk_ex hp1 hno hdno hne k9
        have WY9 := WY8.ex x9
        obtain ⟨dx, p, c', L, gl, wl', w1, w2, w3, w4, w5, w6⟩ := id WY9
        obtain ⟨pdx, pd, pt, p1', p2', p3'⟩ := id w2
        refine ⟨_, rfl, y, dx, _, rfl, w1, y, dx, _, _, rfl, w1, look_box _ _ _ _ _, p, pdx, _, rfl, p1', p, _, rfl, w2, true, rfl, true, rfl, ?_⟩
        refine yes ?_
        refine ⟨_, rfl, y, rfl, ?_⟩
        refine ⟨_, rfl, vd, kvs, rfl, .inl (x9 _ _ (e8 _ _ h3)), fun p2 hp2 no2 dno2 hno2 hdno2 hne2 => ⟨no2, dno2, p2, kvs, rfl, upd_same, mk_at hno2 hdno2, hI, fun H10 hd10 k10 hhd10 N10 => ⟨rfl, ?_⟩⟩⟩
        have x10 := mk_ex hp2 hno2 hdno2 hne2 k10
        refine ⟨dx, _, x10 _ _ w1, y, no2, hd10, _, kk, _, _, rfl, WY9.ex x10, N10, fun m hd11 H11 x11 hm hhd11 N11 => ?_⟩
        have e11 := e8.trans (x9.trans (x10.trans x11))
        refine ⟨_, rfl, m, hd11, dl, _, kvs', rfl, N11, e11 _ _ h2, hI', fun s => (hf s).symm, fun H12 x12 => ⟨true, rfl, nope ?_⟩⟩
        exact ⟨_, rfl, ((x8.trans x9).trans (x10.trans x11)).trans x12⟩
      rintro σ H8 ⟨v9, rfl, x8⟩
      have e8 := e37.trans x8
      clear hq7 WY7 e37 x8
      -- outcomes
      refine ⟨_, rfl, _, rfl, ?_⟩
      refine ⟨_, rfl, vd, kvs, rfl, .inl (e8 _ _ h3), fun p1 hp1 no dno hno hdno hne => ⟨no, dno, p1, kvs, rfl, upd_same, mk_at hno hdno, hI, fun H9 hd9 k9 hhd9 N9 => ⟨rfl, ?_⟩⟩⟩
      have x9 := mk_ex hp1 hno hdno hne k9
      have e9 := e8.trans x9
      refine ⟨st, no, hd9, i, c, as, kk, _, rfl, hst.ex e9, hnd, hcs, hci, hrun, hk, hwl, N9, fun so m hdm H10 x10 hso hso1 Nm => ?_⟩
      have e10 := e9.trans x10
      clear x9 x10 k9 hp1 hno hdno hne hhd9 N9
      -- a play
      refine ⟨_, rfl, ?_⟩
      refine ⟨_, rfl, vd, kvs, rfl, .inl (e10 _ _ h3), fun p1 hp1 n2 dno hno hdno hne => ⟨n2, dno, p1, kvs, rfl, upd_same, mk_at hno hdno, hI, fun H11 hd11 k11 hhd11 N11 => ⟨rfl, ?_⟩⟩⟩
      have x11 := mk_ex hp1 hno hdno hne k11
      have e11 := e10.trans x11
      refine ⟨_, rfl, al, _, rfl, .inl (SqL.of (e11 _ _ h4)), fun bk hbk => ?_⟩
      have x12 := (Ex.refl H11).new (o := .lst (List.replicate kk (V.str "watch"))) hbk
      have gbk : (upd H11 bk (.lst (List.replicate kk (V.str "watch")))) bk = some (.lst (List.replicate kk (V.str "watch"))) := upd_same
      generalize upd H11 bk (.lst (List.replicate kk (V.str "watch"))) = H12 at x12 gbk
      have e12 := e11.trans x12
      refine ⟨_, rfl, rfl, rfl, st, n2, hd11, bk, _, as, kk, i, c, ω, rfl, hst.ex e12, N11.ex x12, gbk, hci, hnd, hlen, hcs, hcl, hω, hw, hrun, hk, hwl, fun pl H13 hpl hP => ?_⟩
      have e13 := e12.trans hP.ex
      have hso13 := hP.ex _ _ (x12 _ _ (x11 _ _ hso1))
      have Nm13 := Nm.ex ((x11.trans x12).trans hP.ex)
      obtain ⟨pdx, s', fi, sc, cu, hdc, wo, gi, op, asv, le, rs, g1, _, g3, g4, g5, _⟩ := hP
      clear x11 x12 gbk hbk e11 e12 e10 e9 e8 N11 k11 hp1 hno hdno hne hhd11 Nm hso1 hso hpl
      refine ⟨_, rfl, pl, pdx, _, rfl, g1, pl, pdx, _, _, rfl, g1, (by rfl), rfl, _, rfl, ?_⟩
      refine ite2 (fun z => absurd z (by decide +kernel)) (fun _ => ?_)
      refine ⟨_, rfl, pl, pdx, _, rfl, g1, pl, pdx, _, wo, _, rfl, g1, (by rfl), g4, fun q2 hq2' => ?_⟩
      have x14 := (Ex.refl H13).new (o := .lst ((wordsOf as).map V.str)) hq2'
      refine ⟨_, rfl, _, _, dp_strs upd_same, dp_strs (x14 _ _ (e13 _ _ h1)), lyW.shaped (by decide), lyW.shaped (by decide), _, rfl, ?_⟩
      rw [SeqAt.eqv_refl _ lyW.1]
      refine nope ?_
      generalize upd H13 q2 (.lst ((wordsOf as).map V.str)) = H14 at x14
      refine ⟨_, rfl, pl, pdx, _, rfl, x14 _ _ g1, pl, pdx, _, cu, hdc, _, rfl, x14 _ _ g1, lk_cu, g3.ex x14, fun m2 hd15 H15 x15 hm2 hhd15 N15 => ?_⟩
      have e15 := e13.trans (x14.trans x15)
      refine ⟨_, rfl, m2, hd15, dl, _, kvs', rfl, N15, e15 _ _ h2, hI', fun s => (hf s).symm, fun H16 x16 => ⟨true, rfl, nope ?_⟩⟩
      have x1316 := (x14.trans x15).trans x16
      have e16 := e13.trans x1316
      refine ⟨_, rfl, _, 1, rfl, .inl ⟨_, SqL.of (x1316 _ _ hso13), rfl⟩, rfl, _, rfl, ?_⟩
      refine ite2 (fun _ => ?_) (fun z => absurd (decide_eq_true rfl) z)
      refine ⟨_, rfl, so, _, 0, _, rfl, rfl, SqL.of (x1316 _ _ hso13), atI_nat (j := 0) rfl, _, rfl, m, hdm, dl, _, kvs', rfl, Nm13.ex x1316, e16 _ _ h2, hI', fun s => (hf s).symm, fun H17 x17 => ⟨true, rfl, yes ?_⟩⟩
      have x1317 := x1316.trans x17
      refine ⟨_, rfl, pl, pdx, _, rfl, x1317 _ _ g1, pl, pdx, _, gi, _, rfl, x1317 _ _ g1, (by rfl), x1317 _ _ g5, ?_⟩
      have lr : (List.replicate kk (V.str "watch")).length = kk := List.length_replicate ..
      refine ⟨_, rfl, by omega, by omega, _, rfl, _, kk, rfl, .inl ⟨_, SqL.of (x1317 _ _ (e13 _ _ h4)), lr.symm⟩, rfl, ?_⟩
      rw [List.length_replicate, decide_eq_true rfl]
      exact k H17 (e13.trans x1317)
end
end Sk
set_option Elab.async false
set_option linter.all false
set_option maxRecDepth 100000
set_option maxHeartbeats 4000000
namespace Sk
open PySem L2
/-! ### all scenes drawn -/
inductive Chain (ns ws : List Str) : List Ent → Prop
  | nil : Chain ns ws []
  | cons {e : Ent} {es : List Ent} : NextE ns ws es.head? e → Chain ns ws es → Chain ns ws (e :: es)
theorem Chain.at {ns ws : List Str} {es : List Ent} (h : Chain ns ws es) : ∀ {i : Nat} {e : Ent}, es[i]? = some e → NextE ns ws es[i + 1]? e := by
  induction h with
  | nil =>
    intro i e z
    cases z
  | @cons e0 es n _ ih =>
    intro i e z
    cases i with
    | zero =>
      cases Option.some.inj z
      cases es <;> exact n
    | succ i => exact ih z
theorem Chain.ok {ns ws : List Str} (hn : ∀ s ∈ ns, NmOk s) (hw : ∀ s ∈ ws, NmOk s) {es : List Ent} (h : Chain ns ws es) : ∀ e ∈ es, EntOk ns e := by
  induction h with
  | nil =>
    intro e m
    cases m
  | @cons e0 es n _ ih =>
    intro e m
    rcases List.mem_cons.mp m with rfl | m
    · refine n.ok hn hw fun e' z => ih e' ?_
      cases es with
      | nil => cases z
      | cons a b =>
        cases Option.some.inj z
        exact List.mem_cons_self
    · exact ih e m
theorem Chain.flt {ns ws : List Str} {es : List Ent} (h : Chain ns ws es) : ∀ {cs : List Scn}, (∀ e ∈ es, ∃ i : Nat, cs[i]? = some e.c) → ∀ e ∈ es, Flt cs e.sz e.c.steps (stpsOf e.fs) (wchOf e.fs) := by
  induction h with
  | nil =>
    intro cs _ e m
    cases m
  | @cons e0 es n _ ih =>
    intro cs hcs e m
    have hcs' := fun e m => hcs e (List.mem_cons_of_mem _ m)
    rcases List.mem_cons.mp m with rfl | m
    · cases es with
      | nil =>
        obtain ⟨h1, h2, h3, h4⟩ := n
        rw [h3, h4, stps_map, wch_map]
        exact Flt.plain h1
      | cons e' es =>
        obtain ⟨h1, h2, h3, h4, h5, h6⟩ := n
        have f := ih hcs' e' List.mem_cons_self
        obtain ⟨i, hi⟩ := hcs' e' List.mem_cons_self
        have r := Flt.mix hi f h1
        rw [h3, h4, flat_stps, flat_wch, played_wch, played_stps]
        exact r
    · exact ih hcs' e m
theorem wsum_mix {ns ws : List Str} {ω : Stp → Nat} {nm : Str} {z : Nat} (h0 : ∀ s, isScn s = false → ω s = 1) (h1 : ω (.scn nm) = z + 1) : ∀ {ss : List Stp}, (∀ s ∈ ss, PlainS ns ws s ∨ s = .scn nm) → wsum ω ss = ss.length + z * scnN ss
  | [], _ => rfl
  | s :: ss, h => by
    have ih := wsum_mix h0 h1 fun x m => h x (List.mem_cons_of_mem _ m)
    rw [wsum_cons, ih, scnN_cons, List.length_cons]
    rcases h s List.mem_cons_self with (⟨x, _, rfl⟩ | ⟨x, _, k, rfl | rfl⟩) | rfl
    · rw [h0 _ rfl]
      show 1 + (ss.length + z * scnN ss) = ss.length + 1 + z * (0 + scnN ss)
      rw [Nat.zero_add]
      omega
    · rw [h0 _ rfl]
      show 1 + (ss.length + z * scnN ss) = ss.length + 1 + z * (0 + scnN ss)
      rw [Nat.zero_add]
      omega
    · rw [h0 _ rfl]
      show 1 + (ss.length + z * scnN ss) = ss.length + 1 + z * (0 + scnN ss)
      rw [Nat.zero_add]
      omega
    · rw [h1]
      show z + 1 + (ss.length + z * scnN ss) = ss.length + 1 + z * (1 + scnN ss)
      rw [Nat.mul_add, Nat.mul_one]
      omega
theorem wsum_congr {ω ω' : Stp → Nat} {ss : List Stp} (h : ∀ s ∈ ss, ω s = ω' s) : wsum ω ss = wsum ω' ss := by
  unfold wsum
  rw [List.map_congr_left h]
theorem Chain.wt {ns ws : List Str} {es : List Ent} (h : Chain ns ws es) (nd : (es.map fun e => e.c.name).Nodup) : ∃ ω : Stp → Nat, (∀ s, 1 ≤ ω s) ∧ (∀ s, isScn s = false → ω s = 1) ∧ (∀ e ∈ es, ω (.scn e.c.name) = e.sz + 1) ∧ ∀ e ∈ es, wsum ω e.c.steps = e.sz := by
  induction h with
  | nil =>
    refine ⟨fun _ => 1, fun _ => Nat.le_refl _, fun _ _ => rfl, ?_, ?_⟩
    · intro e m
      cases m
    · intro e m
      cases m
  | @cons e0 es n hc ih =>
    rw [List.map_cons, List.nodup_cons] at nd
    obtain ⟨nd1, nd2⟩ := nd
    obtain ⟨ω, w1, w2, w3, w4⟩ := ih nd2
    have nm : ∀ e ∈ es, e.c.name ≠ e0.c.name := fun e m q => nd1 (by rw [← q]; exact List.mem_map.mpr ⟨e, m, rfl⟩)
    let ω' : Stp → Nat := fun s => match s with
      | .scn n => if n = e0.c.name then e0.sz + 1 else ω (.scn n)
      | s => ω s
    have a1 : ∀ s, 1 ≤ ω' s := by
      intro s
      cases s with
      | scn n =>
        show 1 ≤ if n = e0.c.name then e0.sz + 1 else ω (.scn n)
        split
        · omega
        · exact w1 _
      | sho x => exact w1 _
      | st x k => exact w1 _
      | ad x k => exact w1 _
    have a2 : ∀ s, isScn s = false → ω' s = 1 := by
      intro s q
      cases s with
      | scn n => cases q
      | sho x => exact w2 _ rfl
      | st x k => exact w2 _ rfl
      | ad x k => exact w2 _ rfl
    have a3 : ∀ e ∈ es, ω' (.scn e.c.name) = e.sz + 1 := by
      intro e m
      show (if e.c.name = e0.c.name then e0.sz + 1 else ω (.scn e.c.name)) = _
      rw [if_neg (nm e m)]
      exact w3 e m
    have a4 : ω' (.scn e0.c.name) = e0.sz + 1 := by
      show (if e0.c.name = e0.c.name then e0.sz + 1 else ω (.scn e0.c.name)) = _
      rw [if_pos rfl]
    have w0 : ∀ (e : Ent) (o : Option Ent), NextE ns ws o e → (∀ e', o = some e' → e' ∈ es) → wsum ω' e.c.steps = e.sz := by
      intro e o n ho
      cases o with
      | none =>
        obtain ⟨h1, h2, h3, h4⟩ := n
        rw [wsum_mix (nm := e0.c.name) (z := e0.sz) a2 a4 (fun s m => Or.inl (h1 s m)), scnN_plain h1, h4, Nat.mul_zero, Nat.add_zero]
      | some e' =>
        obtain ⟨h1, h2, h3, h4, h5, h6⟩ := n
        rw [wsum_mix a2 (a3 e' (ho e' rfl)) h1, h4]
    refine ⟨ω', a1, a2, ?_, ?_⟩
    · intro e m
      rcases List.mem_cons.mp m with rfl | m
      · exact a4
      · exact a3 e m
    · intro e m
      rcases List.mem_cons.mp m with rfl | m
      · refine w0 e _ n fun e' z => ?_
        cases es with
        | nil => cases z
        | cons a b =>
          cases Option.some.inj z
          exact List.mem_cons_self
      · obtain ⟨i, hi, q⟩ := List.mem_iff_getElem.mp m
        have q2 : es[i]? = some e := by rw [List.getElem?_eq_getElem hi, q]
        exact w0 e _ (hc.at q2) fun e' z => List.mem_of_getElem? z
theorem PlainS.nm {ns ws : List Str} (hn : ∀ s ∈ ns, NmOk s) (hw : ∀ s ∈ ws, NmOk s) {s : Stp} (h : PlainS ns ws s) : NmOk s.nm := (h.flat hn hw).1
/-- all that the walk asks of the scenes -/
theorem Chain.sty {ns ws : List Str} (hn : ∀ s ∈ ns, NmOk s) (hw : ∀ s ∈ ws, NmOk s) {es : List Ent} (h : Chain ns ws es) (nd : (es.map fun e => e.c.name).Nodup) (hm : ∀ e ∈ es, NmOk e.c.name) (hl : es.length ≤ 100) (h0 : 0 < es.length) :
    StyOk (es.map Ent.c) ∧ (∀ c ∈ es.map Ent.c, StpsOk ns (es.map Ent.c) c.steps) ∧ (∀ c ∈ es.map Ent.c, c.steps.length ≤ 1000) := by
  have names : (es.map Ent.c).map Scn.name = es.map fun e => e.c.name := by rw [List.map_map]; rfl
  have inE : ∀ c ∈ es.map Ent.c, ∃ (i : Nat) (e : Ent), es[i]? = some e ∧ e.c = c := by
    intro c m
    obtain ⟨e, me, rfl⟩ := List.mem_map.mp m
    obtain ⟨i, hi, q⟩ := List.mem_iff_getElem.mp me
    exact ⟨i, e, by rw [List.getElem?_eq_getElem hi, q], rfl⟩
  have stp : ∀ (i : Nat) (e : Ent), es[i]? = some e → (∀ s ∈ e.c.steps, PlainS ns ws s ∨ ∃ e', es[i + 1]? = some e' ∧ s = .scn e'.c.name) ∧ e.c.steps.length ≤ 6 := by
    intro i e hi
    have n := h.at hi
    cases q : es[i + 1]? with
    | none =>
      rw [q] at n
      obtain ⟨h1, h2, _⟩ := n
      exact ⟨fun s m => .inl (h1 s m), by omega⟩
    | some e' =>
      rw [q] at n
      obtain ⟨h1, h2, _⟩ := n
      exact ⟨fun s m => (h1 s m).imp id fun z => ⟨e', rfl, z⟩, h2⟩
  refine ⟨⟨?_, by rw [names]; exact nd, ?_, by rw [List.length_map]; exact hl, by rw [List.length_map]; exact h0⟩, ?_, ?_⟩
  · intro c m
    obtain ⟨i, e, hi, rfl⟩ := inE c m
    obtain ⟨s1, s2⟩ := stp i e hi
    refine ⟨hm e (List.mem_of_getElem? hi), fun s ms => ?_, by omega⟩
    rcases s1 s ms with z | ⟨e', q, rfl⟩
    · exact z.nm hn hw
    · exact hm e' (List.mem_of_getElem? q)
  · intro i c hi n ms
    rw [List.getElem?_map] at hi
    obtain ⟨e, he, rfl⟩ := Option.map_eq_some_iff.mp hi
    obtain ⟨s1, s2⟩ := stp i e he
    rcases s1 _ ms with z | ⟨e', q, z⟩
    · rcases z with ⟨x, _, z⟩ | ⟨x, _, k, z | z⟩ <;> cases z
    · cases z
      rw [names]
      have q2 : ((es.map fun e => e.c.name).drop (i + 1))[0]? = some e'.c.name := by
        rw [List.getElem?_drop, List.getElem?_map, Nat.add_zero, q]
        rfl
      exact List.mem_of_getElem? q2
  · intro c m
    obtain ⟨i, e, hi, rfl⟩ := inE c m
    obtain ⟨s1, s2⟩ := stp i e hi
    intro s ms
    rcases s1 s ms with z | ⟨e', q, rfl⟩
    · rcases z with ⟨x, _, rfl⟩ | ⟨x, mx, k, rfl | rfl⟩
      · exact True.intro
      · exact mx
      · exact mx
    · exact ⟨i + 1, e'.c, by rw [List.getElem?_map, q]; rfl, rfl⟩
  · intro c m
    obtain ⟨i, e, hi, rfl⟩ := inE c m
    obtain ⟨s1, s2⟩ := stp i e hi
    omega
end Sk
set_option Elab.async false
set_option linter.all false
set_option maxRecDepth 100000
set_option maxHeartbeats 4000000
namespace Sk
open PySem L2
/-! ### the law -/
abbrev eightL : List Str := ["ba", "be", "bi", "bo", "bu", "by", "ca", "ce"]
theorem eight_ok : ∀ s ∈ eightL, NmOk s := by decide +kernel
theorem filt_two {α : Type} (p : α → Bool) : ∀ l : List α, (l.filter p).length + (l.filter fun x => !p x).length = l.length
  | [] => rfl
  | x :: l => by
    have ih := filt_two p l
    cases h : p x with
    | true => rw [List.filter_cons_of_pos h, List.filter_cons_of_neg (by rw [h]; exact Bool.false_ne_true), List.length_cons, List.length_cons]; omega
    | false => rw [List.filter_cons_of_neg (by rw [h]; exact Bool.false_ne_true), List.filter_cons_of_pos (by rw [h]; rfl), List.length_cons, List.length_cons]; omega
/-- the names: three drawn ones, and those of eight that are not among them -/
theorem names_all {n3 : List Str} (l3 : n3.length = 3) (h3 : ∀ s ∈ n3, NmOk s) (d3 : n3.Nodup) : 8 ≤ (n3 ++ eightL.filter fun s => decide (s ∉ n3)).length ∧ (n3 ++ eightL.filter fun s => decide (s ∉ n3)).length ≤ 11 ∧ (n3 ++ eightL.filter fun s => decide (s ∉ n3)).Nodup ∧ ∀ s ∈ n3 ++ eightL.filter fun s => decide (s ∉ n3), NmOk s := by
  have nd8 : eightL.Nodup := by decide +kernel
  have f := filt_two (fun s => decide (s ∉ n3)) eightL
  have g : (eightL.filter fun x => !decide (x ∉ n3)).length ≤ n3.length := by
    refine nodup_len _ _ (nd8.filter _) fun x m => ?_
    have := (List.mem_filter.mp m).2
    by_cases c : x ∈ n3
    · exact c
    · rw [decide_eq_true c] at this
      cases this
  have e8 : eightL.length = 8 := rfl
  have le := List.length_filter_le (fun s => decide (s ∉ n3)) eightL
  rw [List.length_append]
  refine ⟨by omega, by omega, ?_, ?_⟩
  · rw [List.nodup_append]
    refine ⟨d3, nd8.filter _, fun x hx y hy e => ?_⟩
    have := of_decide_eq_true (List.mem_filter.mp hy).2
    exact this (e ▸ hx)
  · intro s m
    rcases List.mem_append.mp m with m | m
    · exact h3 s m
    · exact eight_ok s (List.mem_filter.mp m).1
section
variable {P : Program} {w : World} {K : PySem.W.Frag} {mg : Str → Option Value} {base : Heap} {S : List Str}
def spLaw (K : PySem.W.Frag) : Sp := fun vs H Q _ => ∃ (a : Addr) (ns : List Int), vs = [.ref a] ∧ SqL K H a (ns.map V.int) ∧ ns.length ≤ 63 ∧ ∀ H', Q (.bl true) H'
theorem Kp.ex1 {H H' : Hp} {a : Addr} (k : Kp [a] H H') {H0 : Hp} (e : Ex H0 H) (h : H0 a = none) : Ex H0 H' := fun b o q => k b o (e b o q) (off1 (ne_of_none q h))
theorem SkAt.kpS {H H' : Hp} {a : Addr} {v : V} {b : Bool} (h : SkAt H v b) (hS : Src H a) (k : Kp [a] H H') : SkAt H' v b := by
  cases b with
  | false => exact h
  | true =>
    obtain ⟨q, h1, h2⟩ := h
    exact ⟨q, h1, k _ _ h2 (off1 (src_lst hS h2 fun v m => by cases m))⟩
theorem LatAt.ex {H H' : Hp} {v : V} {o : Option Ent} (h : LatAt H v o) (e : Ex H H') : LatAt H' v o := by
  cases o with
  | none => exact h
  | some x =>
    obtain ⟨t, h1, h2⟩ := h
    exact ⟨t, h1, h2.ex e⟩
theorem src_ne_nons {H : Hp} {a l l0 : Addr} (h : Src H a) (e : H l = some (.lst [.non, .non, .non, .ref l0])) : l ≠ a := by
  intro q
  obtain ⟨z, h⟩ := h
  rw [q, h] at e
  cases e
theorem ent_cons {H : Hp} {t : Addr} {e : Ent} {ts : List Addr} {es : List Ent} (h : EntAt H t e) (hs : Pw (EntAt H) ts es) : Pw (EntAt H) (t :: ts) (e :: es) := by
  refine ⟨by rw [List.length_cons, List.length_cons, hs.1], fun i r x p q => ?_⟩
  cases i with
  | zero =>
    cases Option.some.inj p
    cases Option.some.inj q
    exact h
  | succ i => exact hs.2 i r x p q
theorem ok_law (T : TX K mg) : ∃ fd, (∀ base : Heap, OkF P w K mg base CX0 11 a_law fd p_law (spLaw K)) ∧ ∀ (s : Shared) (v : Value), BindsTo s fd ⟨[v], []⟩ [("script", v)] := by
  obtain ⟨fd, F⟩ := T.d.def_ 64 (d := d_law) rfl
  have bA := FunD.bindsA (ps := p_law) F fun _ _ _ _ _ _ us hl => match us, hl with | [_], _ => rfl
  refine ⟨fd, fun base => ?_, fun s v => bA s [v] rfl⟩
  obtain ⟨_, O_Lcell⟩ := ok_cell (P := P) (w := w) (base := base) T
  obtain ⟨_, O_Lsource⟩ := ok_source (P := P) (w := w) (base := base) T
  obtain ⟨_, O_Lnames⟩ := ok_lnames (P := P) (w := w) (base := base) T (ok_lname T)
  obtain ⟨_, O_Lnumber⟩ := ok_number (P := P) (w := w) (base := base) T
  obtain ⟨_, O_Ldraw⟩ := ok_draw (P := P) (w := w) (base := base) T
  obtain ⟨_, O_Lscene⟩ := ok_scene (P := P) (w := w) (base := base) T
  obtain ⟨_, O_Story_init⟩ := ok_story (P := P) (w := w) (base := base) T
  obtain ⟨_, O_Ldone⟩ := ok_done (P := P) (w := w) (base := base) T
  obtain ⟨_, O_Lgood⟩ := ok_good (P := P) (w := w) (base := base) T
  have b : Binds K fd p_law [] := FunD.bindsN F fun _ _ _ _ _ _ us hl => match us, hl with | [_], _ => rfl
  refine ⟨F.ok sc_law (fun vs H Q E h => ?_) (fun cdv A outer s H vs Q E hr h => ?_), b, F.kp⟩
  · obtain ⟨_, _, rfl, _⟩ := h
    rfl
  · obtain ⟨sc, is, rfl, hsc, hl63, k⟩ := h
    have hint : ∀ v ∈ is.map V.int, ∃ z : Int, v = .int z := fun v m => by
      obtain ⟨z, _, e⟩ := List.mem_map.mp m
      exact ⟨z, e.symm⟩
    have lis : (is.map V.int).length ≤ 63 := by rw [List.length_map]; exact hl63
    refine ⟨_, PSs.nox (pss_cons (ps_set (i := 1) sc_law.nd rfl (Or.inl rfl) (pcall O_Lsource (hr.mono (by decide)) rfl (T.g_Lsource) pass0 (pa_cons (pcall O_Lcell (hr.mono (by decide)) rfl (T.g_Lcell) pass0 (pa_cons (pv 0) (pa_cons pe_int pa_nil))) (pa_cons pe_int pa_nil))))
      (pss_cons (ps_set (i := 2) sc_law.nd rfl (Or.inl rfl) (pcall O_Lnames (hr.mono (by decide)) rfl (T.g_Lnames) pass0 (pa_cons (pv 1) (pa_cons pe_int pa_nil))))
      (pss_cons (ps_set (i := 3) sc_law.nd rfl (Or.inl rfl) (pcall O_Lnames (hr.mono (by decide)) rfl (T.g_Lnames) pass0 (pa_cons (pv 1) (pa_cons pe_int pa_nil))))
      (pss_cons (ps_set (i := 4) sc_law.nd rfl (Or.inr rfl) (pcall O_Lnames (hr.mono (by decide)) rfl (T.g_Lnames) pass0 (pa_cons (pv 1) (pa_cons pe_int pa_nil))))
      (pss_cons (ps_set (i := 4) sc_law.nd rfl (Or.inr rfl) (pe_op op_cat (pv 4)
      (pe_lc (own := [("one", 14)]) rfl sc_law.nd (pi_list (pe_lst (pa_cons pe_str (pa_cons pe_str (pa_cons pe_str (pa_cons pe_str (pa_cons pe_str (pa_cons pe_str (pa_cons pe_str (pa_cons pe_str pa_nil)))))))))) (blkOk_by (own := [("one", 14)]) (N := n_law) (sc := defScope s_law) (by decide +kernel)) (fun _ _ _ _ _ => pg_name (i := 14) sc_law.nd rfl (Or.inl rfl)) (fun _ _ _ _ _ => pts_one (pt_cmpR (notInSK (K := K)) (pv 14) (pv 4) (by rfl))) (fun _ _ _ _ _ => (by exact (pv 14))))))
      (pss_cons (ps_set (i := 5) sc_law.nd rfl (Or.inl rfl) pe_dnewK) (pss_cons
      (ps_for PassesOwn.never rfl (pi_list (pv 2)) (pg_name (i := 6) sc_law.nd rfl (Or.inl rfl))
      (pss_one (ps_dput (hu_of hr) (pv 5) (pv 6) (pcall O_Lnumber (hr.mono (by decide)) rfl (T.g_Lnumber) pass0 (pa_cons (pv 1) pa_nil)) rfl)))
      (pss_cons (ps_set (i := 7) sc_law.nd rfl (Or.inl rfl) (pe_op op_add pe_int (pcall O_Ldraw (hr.mono (by decide)) rfl (T.g_Ldraw) pass0 (pa_cons (pv 1) (pa_cons pe_int pa_nil)))))
      (pss_cons (ps_set (i := 8) sc_law.nd rfl (Or.inl rfl) (pe_lst pa_nil)) (pss_cons (ps_set (i := 9) sc_law.nd rfl (Or.inl rfl) pe_non) (pss_cons
      (ps_for PassesOwn.never rfl (pi_range1 rfl (T.free_range) (pa_cons (pv 7) pa_nil)) (pg_name (i := 10) sc_law.nd rfl (Or.inl rfl))
      (pss_cons (ps_set (i := 1) sc_law.nd rfl (Or.inl rfl) (pcall O_Lsource (hr.mono (by decide)) rfl (T.g_Lsource) pass0 (pa_cons (pcall O_Lcell (hr.mono (by decide)) rfl (T.g_Lcell) pass0 (pa_cons (pv 0) (pa_cons (pe_op op_add (pv 10) pe_int) pa_nil))) (pa_cons (pe_op op_add (pv 10) pe_int) pa_nil))))
      (pss_cons (ps_set (i := 11) sc_law.nd rfl (Or.inl rfl) (pe_ix (ix_listK (K := K)) (pe_lst (pa_cons pe_non (pa_cons pe_non (pa_cons pe_non (pa_cons (pe_lst pa_nil) pa_nil))))) (pcall O_Ldraw (hr.mono (by decide)) rfl (T.g_Ldraw) pass0 (pa_cons (pv 1) (pa_cons pe_int pa_nil))) (fun _ _ => rfl)))
      (pss_cons (ps_set (i := 9) sc_law.nd rfl (Or.inl rfl) (pcall O_Lscene (hr.mono (by decide)) rfl (T.g_Lscene) pass0 (pa_cons (pv 1) (pa_cons (pe_ix (ix_listK (K := K)) (pv 4) (pv 10) (fun _ _ => rfl)) (pa_cons (pv 2) (pa_cons (pv 3) (pa_cons (pv 9) (pa_cons (pv 11) pa_nil))))))))
      (pss_one (ps_set (i := 8) sc_law.nd rfl (Or.inl rfl) (pe_op op_cat (pe_lst (pa_cons (pv 9) pa_nil)) (pv 8))))))))
      (pss_cons (ps_set (i := 12) sc_law.nd rfl (Or.inl rfl) (pmake T.mk_Story O_Story_init (hr.mono (by decide)) rfl (T.g_Story) pass0 (pa_cons
      (pe_lc (own := [("one", 14)]) rfl sc_law.nd (pi_list (pv 8)) (blkOk_by (own := [("one", 14)]) (N := n_law) (sc := defScope s_law) (by decide +kernel)) (fun _ _ _ _ _ => pg_name (i := 14) sc_law.nd rfl (Or.inl rfl)) (fun _ _ _ _ _ => pts_nil) (fun _ _ _ _ _ => (by exact (pe_ix (ix_tupK (K := K)) (pv 14) pe_int (fun _ _ => rfl))))) pa_nil)))
      (pss_cons (ps_set (i := 1) sc_law.nd rfl (Or.inl rfl) (pcall O_Lsource (hr.mono (by decide)) rfl (T.g_Lsource) pass0 (pa_cons (pcall O_Lcell (hr.mono (by decide)) rfl (T.g_Lcell) pass0 (pa_cons (pv 0) (pa_cons (pe_op op_add (pv 7) pe_int) pa_nil))) (pa_cons (pe_op op_add (pv 7) pe_int) pa_nil))))
      (pss_cons
      (ps_for PassesOwn.never rfl (pi_list (pe_lst (pa_cons pe_int (pa_cons (pcall O_Ldraw (hr.mono (by decide)) rfl (T.g_Ldraw) pass0 (pa_cons (pv 1) (pa_cons (pv 7) pa_nil))) pa_nil)))) (pg_name (i := 13) sc_law.nd rfl (Or.inl rfl))
      (pss_one
      (ps_if (pt_not (pt_val (pcall O_Lgood (hr.mono (by decide)) rfl (T.g_Lgood) pass0 (pa_cons (pv 12) (pa_cons (pe_ix (ix_listK (K := K)) (pv 4) (pe_op op_sub (pe_op op_sub (pv 7) pe_int) (pv 13)) (fun _ _ => rfl)) (pa_cons (pcall O_Ldone (hr.mono (by decide)) rfl (T.g_Ldone) pass0 (pa_cons (pe_ix (ix_tupK (K := K)) (pe_ix (ix_listK (K := K)) (pv 8) (pv 13) (fun _ _ => rfl)) pe_int (fun _ _ => rfl)) (pa_cons (pv 5) pa_nil))) (pa_cons (pv 5) pa_nil)))))))
      (pss_one (ps_ret pe_bl)) pss_nil))) (pss_one (ps_ret pe_bl)))))))))))))))), ?_⟩
    refine ⟨_, rfl, sc, _, 0, rfl, hsc, hint, by omega, fun z0 H1 k1 => ⟨z0, 0, rfl, by decide, fun s1 H2 e2 hs1 S1 => ?_⟩⟩
    have x2 : Ex H H2 := k1.nil.trans e2
    have fs1 : H s1 = none := k1.nil.back hs1
    refine ⟨_, rfl, s1, 3, rfl, S1, by decide, fun ns pn H3 ln on nd hpn _ S3 k3 => ?_⟩
    have x3 := k3.ex1 x2 fs1
    refine ⟨_, rfl, s1, 4, rfl, S3, by decide, fun ws pw H4 lw ow _ hpw _ S4 k4 => ?_⟩
    have x4 := k4.ex1 x3 fs1
    have hpn4 := k4 _ _ hpn (off1 (src_str S3 hpn))
    refine ⟨_, rfl, s1, 3, rfl, S4, by decide, fun n3 p3 H5 l3 o3 d3 hp3 _ S5 k5 => ?_⟩
    have x5 := k5.ex1 x4 fs1
    have hpn5 := k5 _ _ hpn4 (off1 (src_str S4 hpn4))
    have hpw5 := k5 _ _ hpw (off1 (src_str S4 hpw))
    obtain ⟨m8, m11, ndm, okm⟩ := names_all l3 o3 d3
    -- all names
    refine ⟨_, rfl, small (by show 8 ≤ 100000; decide), fun c hc => ?_⟩
    have y6 := (Ex.refl H5).new (o := .lst (eightL.map V.str)) hc
    have gc : (upd H5 c (.lst (eightL.map V.str))) c = some (.lst (eightL.map V.str)) := upd_same
    refine ⟨c, rfl, ⟨_, SqL.of gc⟩, fun D hD => ?_⟩
    have hp36 := y6 _ _ hp3
    have n1 : c ≠ D := ne_of_none gc hD
    have n2 : p3 ≠ D := ne_of_none hp36 hD
    refine lc_list (K := K) (a := c) (xs := eightL.map V.str) (fun i H' => H' D = some (.lst (((eightL.take i).filter (fun s => decide (s ∉ n3))).map V.str)) ∧ Kp [D] (upd H5 c (.lst (eightL.map V.str))) H') ⟨upd_same, (Kp.refl _ _).new hD⟩ (fun i H' _ z => SqL.of (z.2 _ _ gc (off1 n1))) ?_ ?_
    · rintro i x H6 hx ⟨g6, k6⟩
      obtain ⟨s, hs, rfl⟩ := map_at hx
      refine ⟨rfl, ?_⟩
      refine ⟨_, rfl, _, rfl, p3, _, rfl, .inl (SqL.of (k6 _ _ hp36 (off1 n2))), rfl, flat_strs _, ?_⟩
      rw [filt_snoc hs]
      by_cases ms : s ∈ n3
      · rw [inV_yes ms]
        refine ⟨false, rfl, nope ⟨?_, k6⟩⟩
        rw [g6, decide_eq_false (not_not_intro ms)]
        simp
      · rw [inV_no ms]
        refine ⟨true, rfl, yes ⟨_, rfl, _, g6, ?_, ?_, k6.upd (on1 D)⟩⟩
        · have a1 := List.length_filter_le (fun s => decide (s ∉ n3)) (eightL.take i)
          have a2 := List.length_take_le' i eightL
          have a3 : eightL.length = 8 := rfl
          rw [List.length_map]
          exact small' (by omega)
        · rw [upd_same, decide_eq_true ms, List.map_append]
          rfl
    rintro H6 ⟨g6, k6⟩
    rw [List.length_map, List.take_length] at g6
    have z6 : Ex H5 H6 := fun b o q => k6 b o (y6 b o q) (off1 (ne_of_none (y6 b o q) hD))
    have hp36' := z6 _ _ hp3
    refine ⟨p3, D, _, _, rfl, rfl, hp36', g6, small (by rw [List.length_map, List.length_map]; rw [List.length_append] at m11; omega), fun pm hpm => ?_⟩
    have z7 := z6.new (o := .lst (n3.map V.str ++ (eightL.filter fun s => decide (s ∉ n3)).map V.str)) hpm
    have gpm : (upd H6 pm (.lst (n3.map V.str ++ (eightL.filter fun s => decide (s ∉ n3)).map V.str))) pm = some (.lst ((n3 ++ eightL.filter fun s => decide (s ∉ n3)).map V.str)) := by rw [upd_same, List.map_append]
    generalize upd H6 pm (.lst (n3.map V.str ++ (eightL.filter fun s => decide (s ∉ n3)).map V.str)) = H7 at z7 gpm
    generalize (n3 ++ eightL.filter fun s => decide (s ∉ n3)) = nm at m8 m11 ndm okm gpm
    clear g6 k6 z6 hp36' y6 gc hD n1 n2 hp36 hc hp3 hpm
    have x7 := x5.trans z7
    have S7 := S5.kp (z7.kp []) List.not_mem_nil
    have hpn7 := z7 _ _ hpn5
    have hpw7 := z7 _ _ hpw5
    clear z7 hpn5 hpw5 hpn4 hpw hpn k1 k3 k4 k5 S1 S3 S4 S5 x2 x3 x4 x5 hs1 e2
    -- values
    refine fun d hd => ?_
    have y8 := (Ex.refl H7).new (o := .dK []) hd
    have gd : (upd H7 d (.dK [])) d = some (.dK []) := upd_same
    have S8 := S7.new (o := .dK []) hd
    have nds : d ≠ s1 := S7.ne hd
    generalize upd H7 d (.dK []) = H8 at y8 gd S8
    have hS8 : SOk ns := ⟨by omega, fun s m => (on s m).2.1⟩
    refine ⟨_, rfl, pn, rfl, ⟨_, SqL.of (y8 _ _ hpn7)⟩, ?_⟩
    have fd7 : H7 d = none := hd
    refine for_it (walk_list (K := K) (a := pn) (xs := ns.map V.str)) (fun i σ H' => ∃ (kv : KD) (v6 : Option V), σ = [some (.ref sc), some (.ref s1), some (.ref pn), some (.ref pw), some (.ref pm), some (.ref d), v6, none, none, none, none, none, none, none, none] ∧ Src H' s1 ∧ H' d = some (.dK kv) ∧ DI ns kv ∧ (∀ s ∈ ns.take i, (Sum.inr s : L2.Key) ∈ kv.map (·.1)) ∧ Kp [s1, d] H8 H') ⟨[], _, rfl, S8, gd, DI.nil, (fun s h => by cases h), Kp.refl _ _⟩ (fun i σ H' _ z => ?_) ?_ ?_
    · obtain ⟨_, _, _, _, _, _, _, kk⟩ := z
      refine SqL.of (kk _ _ (y8 _ _ hpn7) fun m => ?_)
      rcases List.mem_cons.mp m with m | m
      · exact src_str S8 (y8 _ _ hpn7) m
      · exact ne_of_none hpn7 hd (List.mem_singleton.mp m)
    · rintro i x σ H9' H9 hi ⟨kv, v6, rfl, S9, d9, I9, K9, k9⟩ ⟨rfl, hx⟩
      obtain ⟨s, hs, rfl⟩ := map_at hx
      have ms : s ∈ ns := List.mem_of_getElem? hs
      have ln9 := I9.len hS8
      refine ⟨_, rfl, s1, rfl, S9, fun r H10 S10 k10 => ?_⟩
      have d10 := k10 _ _ d9 (off1 nds)
      refine ⟨_, rfl, _, rfl, d, _, rfl, DPut.k (k := Sum.inr s) d10 (small' (by omega)), ?_⟩
      refine ⟨_, _, rfl, S10.upd_ nds.symm, upd_same, I9.put ms r, fun s' m => ?_, (k9.trans (k10.sub fun b m => by rw [List.mem_singleton.mp m]; exact List.mem_cons_self)).upd (List.mem_cons_of_mem _ (on1 d))⟩
      rw [take_snoc hs] at m
      by_cases c : s' = s
      · refine lk_in (i := r) ?_
        rw [lk_put, if_pos c]
      · rcases List.mem_append.mp m with m | m
        · exact put_keys (K9 s' m) I9 ms
        · exact absurd (List.mem_singleton.mp m) c
    rintro σ H9 ⟨kvs, v6, rfl, S9, d9, I9, K9, k9⟩
    rw [List.length_map, List.take_length] at K9
    have x9 : Ex H H9 := fun b o q => k9 b o (y8 b o (x7 b o q)) fun m => by
      rcases List.mem_cons.mp m with m | m
      · exact ne_of_none q fs1 m
      · exact ne_of_none (x7 _ _ q) hd (List.mem_singleton.mp m)
    have off9 : ∀ {b : Addr} {xs : List Str}, H8 b = some (.lst (xs.map V.str)) → b ∉ [s1, d] := fun {b xs} q m => by
      rcases List.mem_cons.mp m with m | m
      · exact src_str S8 q m
      · exact ne_of q gd (by intro z; cases z) (List.mem_singleton.mp m)
    have hpn9 := k9 _ _ (y8 _ _ hpn7) (off9 (y8 _ _ hpn7))
    have hpw9 := k9 _ _ (y8 _ _ hpw7) (off9 (y8 _ _ hpw7))
    have hpm9 := k9 _ _ (y8 _ _ gpm) (off9 (y8 _ _ gpm))
    clear k9 y8 gd S8 hd fd7 hpn7 hpw7 gpm x7 S7 off9
    -- many
    refine ⟨_, rfl, s1, 7, rfl, S9, by decide, by decide, fun mi H10 m0 m1 S10 k10 => ⟨2, mi, rfl, rfl, ?_⟩⟩
    obtain ⟨m, rfl⟩ := Int.eq_ofNat_of_zero_le m0
    have x10 := k10.ex1 x9 fs1
    have hpn10 := k10 _ _ hpn9 (off1 (src_str S9 hpn9))
    have hpw10 := k10 _ _ hpw9 (off1 (src_str S9 hpw9))
    have hpm10 := k10 _ _ hpm9 (off1 (src_str S9 hpm9))
    have d10 := k10 _ _ d9 (off1 nds)
    refine ⟨small (by show 0 ≤ 100000; decide), fun e0 he0 => ?_⟩
    have y11 := (Ex.refl H10).new (o := .lst []) he0
    have ge0 : (upd H10 e0 (.lst [])) e0 = some (.lst []) := upd_same
    generalize upd H10 e0 (.lst []) = H11 at y11 ge0
    have x11 := x10.trans y11
    have hpn11 := y11 _ _ hpn10
    have hpw11 := y11 _ _ hpw10
    have hpm11 := y11 _ _ hpm10
    have d11 := y11 _ _ d10
    have hsc11 : SqL K H11 sc (is.map V.int) := Same.seq x11 hsc
    clear k10 hpn9 hpw9 hpm9 d9 S9 x9 hpn10 hpw10 hpm10 d10 y11 he0 x10 S10
    refine ⟨_, rfl, 2 + (m : Int), rfl, by omega, by omega, for_range (lo := 0) (n := (2 + (m : Int)).toNat) (fun i σ H' => ∃ (es : List Ent) (ts : List Addr) (ev s : Addr) (lv : V) (v10 v11 : Option V), σ = [some (.ref sc), some (.ref s), some (.ref pn), some (.ref pw), some (.ref pm), some (.ref d), v6, some (.int (2 + (m : Int))), some (.ref ev), some lv, v10, v11, none, none, none] ∧
      Chain ns ws es ∧ es.length = i ∧ (es.map fun e => e.c.name) = (nm.take i).reverse ∧ H' ev = some (.lst (ts.map V.ref)) ∧ Pw (EntAt H') ts es ∧ LatAt H' lv es.head? ∧ Ex H11 H') ⟨[], [], e0, s1, .non, none, none, rfl, .nil, rfl, rfl, ge0, Pw.nil, rfl, Ex.refl _⟩ ?_ ?_⟩
    · rintro i σ H12 hi ⟨es, ts, ev, s0, lv, v10, v11, rfl, hC, hel, hnm, hev, hts, hlat, x12⟩
      have hi12 : i ≤ 20 := by omega
      refine ⟨_, rfl, _, rfl, _, _, rfl, rfl, ?_⟩
      have hs12 : SqL K H12 sc (is.map V.int) := Same.seq x12 hsc11
      have ei : (0 + (i : Int) + 1) = ((i + 1 : Nat) : Int) := by omega
      refine ⟨sc, _, i + 1, by show [V.ref sc, V.int (0 + (i : Int) + 1)] = _; rw [ei], hs12, hint, by omega, fun z1 H13 k13 => ?_⟩
      refine ⟨_, rfl, _, _, rfl, rfl, z1, i + 1, by show [V.int z1, V.int (0 + (i : Int) + 1)] = _; rw [ei], by omega, fun s H14 e14 hs14 S14 => ?_⟩
      have x14 : Ex H12 H14 := k13.nil.trans e14
      have fs12 : H12 s = none := k13.nil.back hs14
      -- rows
      refine ⟨small (by show 0 ≤ 100000; decide), fun l0 hl0 => ?_⟩
      have y15 := (Ex.refl H14).new (o := .lst []) hl0
      have gl0 : (upd H14 l0 (.lst [])) l0 = some (.lst []) := upd_same
      generalize upd H14 l0 (.lst []) = H15 at y15 gl0
      refine ⟨small (by show 4 ≤ 100000; decide), fun l4 hl4 => ?_⟩
      have y16 := (Ex.refl H15).new (o := .lst [.non, .non, .non, .ref l0]) hl4
      have gl4 : (upd H15 l4 (.lst [.non, .non, .non, .ref l0])) l4 = some (.lst [.non, .non, .non, .ref l0]) := upd_same
      generalize upd H15 l4 (.lst [.non, .non, .non, .ref l0]) = H16 at y16 gl4
      have S16 : Src H16 s := S14.kp ((y15.trans y16).kp []) List.not_mem_nil
      refine ⟨_, rfl, s, 4, rfl, S16, by decide, by decide, fun r H17 r0 r1 S17 k17 => ?_⟩
      obtain ⟨rv, hr1, hr2⟩ := at_in (l := [V.non, V.non, V.non, V.ref l0]) r0 r1
      have nl4s : l4 ≠ s := src_ne_nons S16 gl4
      refine ⟨l4, _, r, rv, rfl, rfl, SqL.of (k17 _ _ gl4 (off1 nl4s)), hr2, ?_⟩
      have x17 : Ex H12 H17 := k17.ex1 (x14.trans (y15.trans y16)) fs12
      have gl017 : H17 l0 = some (.lst []) := k17 _ _ (y16 _ _ gl0) (off1 (src_lst S16 (y16 _ _ gl0) fun v m => by cases m))
      obtain ⟨bs, hsk⟩ : ∃ bs, SkAt H17 rv bs := by
        have hm := List.mem_of_getElem? hr1
        simp only [List.mem_cons, List.not_mem_nil, or_false] at hm
        rcases hm with e | e | e | e
        · exact ⟨false, e⟩
        · exact ⟨false, e⟩
        · exact ⟨false, e⟩
        · exact ⟨true, l0, e, gl017⟩
      clear y15 y16 gl0 gl4 hl0 hl4 hr1 hr2 k17 S16 S14 hs14 e14 k13
      -- the scene
      have x1117 := x12.trans x17
      have hpm17 := x1117 _ _ hpm11
      have hin : i < nm.length := by omega
      have hnmi : nm[i]? = some nm[i] := List.getElem?_eq_getElem hin
      have hat : atI (nm.map V.str) (0 + (i : Int)) = some (V.str nm[i]) := by
        rw [Int.zero_add]
        exact atI_nat (by rw [List.getElem?_map, hnmi]; rfl)
      have okes := hC.ok on ow
      refine ⟨_, rfl, _, rfl, _, rfl, pm, _, _, _, rfl, rfl, SqL.of hpm17, hat, _, rfl, _, rfl, _, rfl, _, rfl, ?_⟩
      refine ⟨s, pn, pw, nm[i], lv, rv, bs, es.head?, ns, ws, rfl, S17, x1117 _ _ hpn11, x1117 _ _ hpw11, ln, lw, on, ow, okm _ (List.getElem_mem hin), hlat.ex x17, hsk, fun e q => ?_, fun t e H18 q1 q2 q3 q4 S18 k18 => ?_⟩
      · have me : e ∈ es := List.mem_of_head? q
        refine ⟨okes e me, ?_⟩
        have : e.c.name ∈ es.map fun e => e.c.name := List.mem_map.mpr ⟨e, me, rfl⟩
        rw [hnm, List.mem_reverse] at this
        exact okm _ (List.mem_of_mem_take this)
      have x18 : Ex H12 H18 := k18.ex1 x17 fs12
      refine ⟨_, rfl, small (by show 1 ≤ 100000; decide), fun l1 hl1 => ?_⟩
      have y19 := (Ex.refl H18).new (o := .lst [.ref t]) hl1
      have gl1 : (upd H18 l1 (.lst [.ref t])) l1 = some (.lst [.ref t]) := upd_same
      generalize upd H18 l1 (.lst [.ref t]) = H19 at y19 gl1
      have x19 := x18.trans y19
      have lts : ts.length = i := by rw [hts.1, hel]
      refine ⟨_, rfl, l1, ev, _, _, rfl, rfl, gl1, x19 _ _ hev, small (by rw [List.length_map, lts]; show 1 + i ≤ 100000; omega), fun ev' hev' => ?_⟩
      have y20 := (Ex.refl H19).new (o := .lst ([V.ref t] ++ ts.map V.ref)) hev'
      have x20 := x19.trans y20
      refine ⟨e :: es, t :: ts, ev', s, .ref t, _, _, rfl, .cons q3 hC, by rw [List.length_cons, hel], ?_, upd_same, ?_, ⟨t, rfl, q4.ex (y19.trans y20)⟩, x12.trans x20⟩
      · rw [List.map_cons, hnm, q1, take_snoc hnmi, List.reverse_append]
        rfl
      · exact ent_cons (q4.ex (y19.trans y20)) (hts.mono fun r x q => q.ex x20)
    · rintro σ H12 ⟨es, ts, ev, s0, lv, v10, v11, rfl, hC, hel, hnm, hev, hts, hlat, x12⟩
      have hM : (2 + (m : Int)).toNat = m + 2 := by omega
      rw [hM] at hel hnm
      have lts : ts.length = m + 2 := by rw [hts.1, hel]
      have ndE : (es.map fun e => e.c.name).Nodup := by
        rw [hnm]
        exact (List.reverse_perm _).nodup_iff.mpr (ndm.sublist (List.take_sublist _ _))
      have okE : ∀ e ∈ es, NmOk e.c.name := by
        intro e me
        have : e.c.name ∈ es.map fun e => e.c.name := List.mem_map.mpr ⟨e, me, rfl⟩
        rw [hnm, List.mem_reverse] at this
        exact okm _ (List.mem_of_mem_take this)
      have okes := hC.ok on ow
      obtain ⟨sty, stO, stL⟩ := hC.sty on ow ndE okE (by omega) (by omega)
      obtain ⟨ω, w1, w2, w3, w4⟩ := hC.wt ndE
      have flt := hC.flt (cs := es.map Ent.c) fun e me => by
        obtain ⟨i, hi, q⟩ := List.mem_iff_getElem.mp me
        exact ⟨i, by rw [List.getElem?_map, List.getElem?_eq_getElem hi, q]; rfl⟩
      have hω : WtOk (es.map Ent.c) ω := ⟨w1, fun c mc => by
        obtain ⟨e, me, rfl⟩ := List.mem_map.mp mc
        rw [w3 e me, w4 e me]
        exact Nat.le_refl _⟩
      clear hlat w1 w2 w3
      -- the story
      refine ⟨_, rfl, ev, rfl, ⟨_, SqL.of hev⟩, fun D hD => ?_⟩
      have n1 : ev ≠ D := ne_of_none hev hD
      refine lc_list (K := K) (a := ev) (xs := ts.map V.ref) (fun i H' => ∃ sas : List Addr, H' D = some (.lst (sas.map V.ref)) ∧ sas.length = i ∧ (∀ (j : Nat) sa e, sas[j]? = some sa → es[j]? = some e → ScnAt H12 sa e.c) ∧ Kp [D] H12 H') ⟨[], upd_same, rfl, (fun j sa e q => by cases q), (Kp.refl _ _).new hD⟩ (fun i H' _ z => ?_) ?_ ?_
      · obtain ⟨_, _, _, _, kk⟩ := z
        exact SqL.of (kk _ _ hev (off1 n1))
      · rintro i x H13 hx ⟨sas, g13, l13, a13, k13⟩
        obtain ⟨t, ht, rfl⟩ := map_at hx
        obtain ⟨e, he, sa, fl, q1, q2, q3⟩ := hts.at ht
        have hil : i < es.length := (List.getElem?_eq_some_iff.mp he).1
        refine ⟨rfl, ?_⟩
        refine ⟨_, rfl, t, _, 0, _, rfl, rfl, SqT.of (k13 _ _ q1 (off1 (ne_of_none q1 hD))), rfl, _, g13, by rw [List.length_map, l13]; exact small' (by omega), ?_⟩
        refine ⟨sas ++ [sa], by rw [upd_same, List.map_append]; rfl, by rw [List.length_append, l13]; rfl, fun j sa' e' p1 p2 => ?_, k13.upd (on1 D)⟩
        rcases snoc_at p1 with p1 | ⟨p1, p3⟩
        · exact a13 j sa' e' p1 p2
        · rw [p1, l13, he] at p2
          cases p2
          rw [← p3]
          exact q2
      rintro H13 ⟨sas, g13, l13, a13, k13⟩
      have y13 : Ex H12 H13 := fun b o q => k13 b o q (off1 (ne_of_none q hD))
      have hscs : ScnsAt H13 D (es.map Ent.c) := by
        refine ⟨sas, g13, by rw [l13, List.length_map, List.length_map, lts, hel], fun j sa c p1 p2 => ?_⟩
        rw [List.getElem?_map] at p2
        obtain ⟨e, he, rfl⟩ := Option.map_eq_some_iff.mp p2
        exact (a13 j sa e p1 he).ex y13
      refine fun st dx hst hdx hne => ?_
      have hst1 : (upd H13 dx (.own st)) st = none := by rw [upd_ne hne.symm]; exact hst
      have y14 : Ex H13 (upd (upd H13 dx (.own st)) st (.ins (He.ga K "Story") dx [])) := ((Ex.refl H13).new hdx).new hst1
      refine ⟨st, dx, D, es.map Ent.c, rfl, upd_same, hscs.ex y14, sty, fun H14 k14 SA => ⟨rfl, ?_⟩⟩
      have y1214 : Ex H12 H14 := fun b o q => k14 b o (y14 b o (y13 b o q)) (off1 (ne_of_none (y13 b o q) hst))
      have x14 := x12.trans y1214
      have hts14 : Pw (EntAt H14) ts es := hts.mono fun r e q => q.ex y1214
      have hev14 := y1214 _ _ hev
      clear hscs a13 g13 l13 k13 y13 y14 k14 hD n1 hts hev y1214 hst hst1 hdx hne x12
      -- the last source
      have hs14 : SqL K H14 sc (is.map V.int) := Same.seq x14 hsc11
      have em : (2 + (m : Int) + 1) = ((m + 3 : Nat) : Int) := by omega
      refine ⟨_, rfl, _, rfl, _, _, rfl, rfl, sc, _, m + 3, by show [V.ref sc, V.int (2 + (m : Int) + 1)] = _; rw [em], hs14, hint, by omega, fun z1 H15 k15 => ?_⟩
      refine ⟨_, rfl, _, _, rfl, rfl, z1, m + 3, by show [V.int z1, V.int (2 + (m : Int) + 1)] = _; rw [em], by omega, fun s H16 e16 hs16 S16 => ?_⟩
      have y16 : Ex H14 H16 := k15.nil.trans e16
      have fs14 : H14 s = none := k15.nil.back hs16
      refine ⟨_, rfl, _, rfl, s, 2 + (m : Int), rfl, S16, by omega, by omega, fun r H17 r0 r1 S17 k17 => ?_⟩
      have y17 : Ex H14 H17 := k17.ex1 y16 fs14
      refine ⟨small (by show 2 ≤ 100000; decide), fun l hl => ?_⟩
      have y18 := (Ex.refl H17).new (o := .lst [.int 0, .int r]) hl
      have gl : (upd H17 l (.lst [.int 0, .int r])) l = some (.lst [.int 0, .int r]) := upd_same
      generalize upd H17 l (.lst [.int 0, .int r]) = H18 at y18 gl
      have y1418 := y17.trans y18
      clear y16 y17 y18 S16 S17 k17 hs16 e16 k15 hl
      refine ⟨l, rfl, ⟨_, SqL.of gl⟩, ?_⟩
      refine for_it (walk_list (K := K) (a := l) (xs := [V.int 0, V.int r])) (fun j σ H' => ∃ v13 : Option V, σ = [some (.ref sc), some (.ref s), some (.ref pn), some (.ref pw), some (.ref pm), some (.ref d), v6, some (.int (2 + (m : Int))), some (.ref ev), some lv, v10, v11, some (.ref st), v13, none] ∧ Ex H18 H') ⟨_, rfl, Ex.refl _⟩ (fun j σ H' _ z => ?_) ?_ ?_
      · obtain ⟨_, _, x⟩ := z
        exact SqL.of (x _ _ gl)
      · rintro j x σ H19' H19 hj ⟨v13, rfl, y19⟩ ⟨rfl, hx⟩
        obtain ⟨at_, rfl, ha⟩ : ∃ at_ : Nat, x = .int (at_ : Int) ∧ at_ < m + 2 := by
          have hm := List.mem_of_getElem? hx
          simp only [List.mem_cons, List.not_mem_nil, or_false] at hm
          rcases hm with e | e
          · exact ⟨0, e, by omega⟩
          · obtain ⟨r', rfl⟩ := Int.eq_ofNat_of_zero_le r0
            exact ⟨r', e, by omega⟩
        have y1419 := y1418.trans y19
        have x1119 := x14.trans y1419
        have hae : at_ < es.length := by omega
        obtain ⟨e, he⟩ : ∃ e, es[at_]? = some e := ⟨_, List.getElem?_eq_getElem hae⟩
        have hat : at_ < ts.length := by omega
        obtain ⟨e', he', sa, fl, g1, g2, g3⟩ := hts14.at (List.getElem?_eq_getElem hat)
        have ee : e' = e := by
          rw [he] at he'
          exact (Option.some.inj he').symm
        subst ee
        have me : e' ∈ es := List.mem_of_getElem? he
        have hname : nm[m + 1 - at_]? = some e'.c.name := by
          have q : (es.map fun e => e.c.name)[at_]? = some e'.c.name := by rw [List.getElem?_map, he]; rfl
          have lt : (nm.take (m + 2)).length = m + 2 := by rw [List.length_take]; omega
          rw [hnm, List.getElem?_reverse (by rw [lt]; omega), lt, List.getElem?_take] at q
          split at q
          · rw [show m + 2 - 1 - at_ = m + 1 - at_ by omega] at q
            exact q
          · cases q
        have hatn : atI (nm.map V.str) (2 + (m : Int) - 1 - (at_ : Int)) = some (V.str e'.c.name) := by
          rw [show (2 + (m : Int) - 1 - (at_ : Int)) = ((m + 1 - at_ : Nat) : Int) by omega]
          exact atI_nat (by rw [List.getElem?_map, hname]; rfl)
        have hate : atI (ts.map V.ref) (at_ : Int) = some (V.ref ts[at_]) := atI_nat (by rw [List.getElem?_map, List.getElem?_eq_getElem hat]; rfl)
        have oe := okes e' me
        have lfs : e'.fs.length ≤ 800 := by
          have a1 := len_fs e'.fs
          have a2 := oe.le
          have a3 := oe.sz
          have a4 := oe.wc
          omega
        have keysI : ∀ s ∈ ns, (Sum.inr s : L2.Key) ∈ kvs.map (·.1) := K9
        refine ⟨_, rfl, _, rfl, _, rfl, _, _, rfl, rfl, _, rfl, _, _, rfl, rfl, pm, _, _, _, rfl, rfl, SqL.of (x1119 _ _ hpm11), hatn, ?_⟩
        refine ⟨_, rfl, _, rfl, ev, _, _, _, rfl, rfl, SqL.of (y1419 _ _ hev14), hate, _, _, 1, _, rfl, rfl, SqT.of (y1419 _ _ g1), rfl, _, rfl, ?_⟩
        refine ⟨ns, hS8, fl, d, e'.fs, kvs, rfl, g3.ex y1419, oe.fl, by omega, x1119 _ _ d11, I9, keysI, fun t wl dl al kvs' H20 y20 t1 t2 t3 t4 t5 t6 => ?_⟩
        have y1420 := y1419.trans y20
        have hc : (es.map Ent.c)[at_]? = some e'.c := by rw [List.getElem?_map, he]; rfl
        have lst : (stpsOf e'.fs).length ≤ 600 := Nat.le_trans oe.le oe.sz
        have lwd := words_le (stpsOf e'.fs)
        refine ⟨_, rfl, ns, es.map Ent.c, hS8, on, st, t, wl, dl, al, d, at_, e'.c, stpsOf e'.fs, wchOf e'.fs, kvs, kvs', ω, rfl, SA.ex y1420, hc, sty.2.1, sty.2.2.2.1, stO, stL, hω, ?_, (flt e' me).run (by have := oe.sz; omega), by have := oe.wc; omega, by omega, ?_, t1, t2, t3, t4, (x14.trans y1420) _ _ d11, I9, t5, t6, fun H21 y21 => ⟨true, rfl, nope ?_⟩⟩
        · rw [w4 e' me]
          have := oe.sz
          omega
        · intro x mx
          obtain ⟨s', ms', q⟩ := List.mem_filterMap.mp mx
          obtain ⟨y, my, q2⟩ := List.mem_filterMap.mp ms'
          obtain rfl : y = some s' := q2
          have nmx := (oe.fl s' my).1
          cases s' with
          | sho z => cases q; exact nmx
          | st a b => cases q
          | ad a b => cases q
          | scn a => cases q
        · exact ⟨_, rfl, (y19.trans y20).trans y21⟩
      · rintro σ H19 ⟨v13, rfl, _⟩
        exact k _
end
end Sk
set_option Elab.async false
set_option linter.all false
set_option maxRecDepth 100000
set_option maxHeartbeats 0
open PySem PySem.W PySem.Calls PyProof.Rows
theorem PySem.Challenge.cw_sceneskips_k77_plays_of_many_steps_holds : PySem.Challenge.rw_sceneskips_k77_plays_of_many_steps.Holds := by
  w_on; o_law
  refine HandSHeadRun.head_any (r := OpenLaw.row PySem.Challenge.rw_sceneskips_k77_plays_of_many_steps) (q := view (OpenLaw.row PySem.Challenge.rw_sceneskips_k77_plays_of_many_steps).prog [92]) (H := Sk.hk) (ob := Sk.ob) (M := 100000) (loose := Sk.loose) (d := HandSHeadRun.topDef (OpenLaw.row PySem.Challenge.rw_sceneskips_k77_plays_of_many_steps).prog 92) (kwd := []) Sk.ob_eq
    (by kernel_rfl) (fun s => by kernel_rfl) Sk.run (by kernel_rfl) (by kernel_rfl) (by kernel_rfl) (by rfl) (by first | assumption | decide +kernel) (by decide +kernel) ⟨rfl, rfl, rfl, rfl, rfl, by decide +kernel⟩ ?hw ?hc
  case hw => w_witness2
  case hc =>
    refine L2.walk_ofE (l := PySem.Challenge.rw_sceneskips_k77_plays_of_many_steps) (n := 63) (k := 11) (x := "script") (CX := L2.CX0) rfl (by decide) (by kernel_rfl) ⟨rfl, by decide, by decide⟩ ?F (fun _ _ _ _ z => z)
    intro w mg fa h Y G hmg0
    obtain ⟨K, KX, c⟩ := Y
    have hmg : mg ("law" : PySem.Str) = some (.ref fa) := by
      have e : (HandSHeadRun.topDef (OpenLaw.row PySem.Challenge.rw_sceneskips_k77_plays_of_many_steps).prog 92).name = ("law" : PySem.Str) := by kernel_rfl
      rw [← e]
      exact hmg0
    have T : Sk.TX K mg := ⟨c.d, c.x, c.g, He.int_ok KX G (c.d.fact 116 rfl), He.int_ok KX G (c.d.fact 117 rfl), He.str_ok KX G (c.d.fact 118 rfl), fun {y} q => He.glo_ok KX G q, fun {y} q => He.free_ok KX G q⟩
    obtain ⟨fd, O, hb⟩ := Sk.ok_law (P := (PySem.Challenge.rw_sceneskips_k77_plays_of_many_steps).prog) (w := w) T
    have efa : fa = He.fAd K Sk.a_law := by
      have q := hmg.symm.trans T.g_law
      cases q
      rfl
    subst efa
    exact ⟨K, fd, Sk.spLaw K, KX, hb, fun H a ns hl _ hS => ⟨a, ns, rfl, hS, hl, fun _ => rfl⟩, fun base _ _ => (O base).fn⟩
