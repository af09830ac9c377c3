import PyProof.Rows.All
import Wide.All
import OpenK.AllK
import Wide.FinOn
import KE.KOpsOwn
import HandS.ForMost
import HandS.ForExc
import HandS.More
import HandS.Star
import HandS.ClsMeth
import HandS.OwnEq
import HandS.ExcInit
import HandS.Property
import KE.KStateDown
import HandS.Head0
import HandS.Head1
import HandS.Head2
import HandS.HeadEnd
import HandS.HeadHook1
import HandS.HeadHook2
import HandS.HeadHook3
import HandS.HeadHook4
import HandS.HeadNt
import HandS.HeadWalk
import KE.KExcIs
import HandS.IsInst
import HandS.ExcIs
import HandS.ExcField
import HandS.TryMany
import HandS.Wide
import HandS.SetFor
import HandS.Style
import HandS.Flow
import HandS.Deep
import HandS.Codes
import HandS.Comp
import HandS.Zip
import HandS.Walk
import HandS.TupAny
import HandS.TupMul
import HandS.Small
import HandS.NoneIn
import HandS.DictComp
import PySem.Challenge.RW_levelcascades_k24_value_forms
import HandS.Defaults
import HandS.Conv
import HandS.Lambda
import HandS.Nested
import HandS.NestedK
import HandS.Zip0
set_option Elab.async false
set_option linter.all false
set_option maxRecDepth 100000
set_option maxHeartbeats 0
/-! Operators that a class of the text defines itself, as rules of readings; static methods. -/
namespace OwX
open PySem PySem.Spec PyProof.Rows L2 ClX
section
variable {X : Cx} {CX : CXT} {k : Nat} {C g : Addr} {sp : Sp} {E : XK} {pins : List (Addr × Obj)} {σ : L2.St} {H : Hp} {s : Shared} {Q : VK}
/-- a def runs at an around with the body's frames -/
theorem call_own {A' : Around} {us : List Value} {vs : List V} (F : FnR X.prog X.w X.K X.mg X.base CX k g sp) (hr : Room k A') (hfr : A'.frames = X.A.frames) (hx : Passes CX X E) (I : Inv X pins σ H s) (r : Vals vs us) (h : sp vs H Q E) :
    wpAny (model X.prog X.w) A' (call (.ref g) us) (EP X pins σ Q) X.xe s := by
  have e := I.env0
  refine wpAny_call (codeAny_mono (F A' X.stack s H us vs Q E hr ⟨by rw [hfr]; exact e.frames, e.mod, e.bs, e.bsz, e.funs, e.frf, e.hok, e.bare⟩ r h) fun r s' hq => ?_)
  cases r with
  | error er => exact hx pins σ H s er s' I hq
  | ok fl =>
    cases fl with
    | ret u => exact I.after hq
    | next => exact False.elim hq
    | brk => exact False.elim hq
    | cont => exact False.elim hq
/-- an instance of C, as the library looks at it -/
theorem inst_at {a dx : Addr} {fs : List (Str × V)} (I : Inv X pins σ H s) (h : H a = some (.ins C dx fs)) : ∃ od, PySem.W.InstAt s.heap a (PySem.W.instObj C dx) C (some od) := by
  obtain ⟨mA, O, _⟩ := ins_get I.hok h
  obtain ⟨od, J, _⟩ := O.look
  exact ⟨od, J⟩
/-- x and y are instances of C; the own method's promise -/
def rOwn2 (C : Addr) (sp : Sp) (E : XK) : R2 := fun x y H Q => ∃ a b dx dy fs gs, x = .ref a ∧ y = .ref b ∧ H a = some (.ins C dx fs) ∧ H b = some (.ins C dy gs) ∧ sp [.ref a, .ref b] H (fun v H' => (∃ c, v = .bl c) ∧ Q v H') E
/-- x a value, y an instance: in, not in -/
def rOwnIn (C : Addr) (sp : Sp) (E : XK) (neg : Bool) : R2 := fun x y H Q => ∃ b dy gs, y = .ref b ∧ H b = some (.ins C dy gs) ∧ sp [.ref b, x] H (fun v H' => ∃ c, v = .bl c ∧ Q (.bl (if neg then !c else c)) H') E
/-- x and y are instances, a value that is no NotImplemented comes out -/
def rOwnB (C : Addr) (sp : Sp) (E : XK) : R2 := fun x y H Q => ∃ a b dx dy fs gs, x = .ref a ∧ y = .ref b ∧ H a = some (.ins C dx fs) ∧ H b = some (.ins C dy gs) ∧ sp [.ref a, .ref b] H Q E
theorem cmpBack {v : Value} {s' : Shared} {P : Value → Shared → Prop} {w : V} (r : RelV w v) (h : P v s') : PySem.W.CmpBack P v s' := by
  cases w with
  | non => cases r; exact h
  | bl b => cases r; exact h
  | int i => obtain ⟨t, rfl⟩ := r; exact h
  | str x => obtain ⟨t, rfl⟩ := r; exact h
  | byt b => obtain ⟨t, rfl⟩ := r; exact h
  | flt b => obtain ⟨t, rfl⟩ := r; exact h
  | ref a => cases r; exact h
  | ty n => cases r; exact h
theorem cmp_own {op : CmpOp} {n : Str} (hn : (cmpInfo op).2.1 = n) (m : Meth X.K C n g) (F : FnR X.prog X.w X.K X.mg X.base CX k g sp) (hr : Room k X.A) (hx : Passes CX X E) {x y : V} {v u : Value} (I : Inv X pins σ H s) (rx : RelV x v) (ry : RelV y u)
    (h : rOwn2 C sp E x y H Q) : wpAny (model X.prog X.w) X.A (richCompare op v u) (EP X pins σ Q) X.xe s := by
  obtain ⟨a, b, dx, dy, fs, gs, rfl, rfl, ha, hb, hs⟩ := h
  cases rx
  cases ry
  obtain ⟨od, J⟩ := inst_at I ha
  obtain ⟨od', J'⟩ := inst_at I hb
  obtain ⟨m0, hF⟩ := I.fr
  refine PySem.W.cmp_K (op := op) (tb := .ref C) hr.units0 hF I.ok.mod.kin J J'.type (by simp [PySem.W.notFirst]) (by rw [hn]; exact m.at_) m.fn ?_
  refine thn (call_own (vs := [.ref a, .ref b]) F hr rfl hx I (.cons rfl (.cons rfl .nil)) hs) fun r s' hq => ?_
  obtain ⟨w, H', I', rw', hc, q⟩ := hq
  exact cmpBack rw' ⟨w, H', I', rw', q⟩
theorem op_eqO (m : Meth X.K C "__eq__" g) (F : FnR X.prog X.w X.K X.mg X.base CX k g sp) (hr : Room k X.A) (hx : Passes CX X E) : OpR X (compareOp .Eq) (rOwn2 C sp E) := by
  intro pins s σ H x y v u Q I rx ry hq
  exact cmp_own (op := .Eq) rfl m F hr hx I rx ry hq
theorem op_leO (m : Meth X.K C "__le__" g) (F : FnR X.prog X.w X.K X.mg X.base CX k g sp) (hr : Room k X.A) (hx : Passes CX X E) : OpR X (compareOp .LtE) (rOwn2 C sp E) := by
  intro pins s σ H x y v u Q I rx ry hq
  exact cmp_own (op := .LtE) rfl m F hr hx I rx ry hq
theorem op_inO (m : Meth X.K C "__contains__" g) (F : FnR X.prog X.w X.K X.mg X.base CX k g sp) (hr : Room k X.A) (hx : Passes CX X E) : OpR X (compareOp .In) (rOwnIn C sp E false) := by
  intro pins s σ H x y v u Q I rx ry hq
  obtain ⟨b, dy, gs, rfl, hb, hs⟩ := hq
  cases ry
  obtain ⟨od, J⟩ := inst_at I hb
  obtain ⟨m0, hF⟩ := I.fr
  refine PySem.W.in_K hF I.ok.mod.kin J m.at_ m.fn ?_
  refine thn (call_own (vs := [.ref b, x]) F hr rfl hx I (.cons rfl (.cons rx .nil)) hs) fun r s' hq => ?_
  obtain ⟨w, H', I', rw', c, rfl, q⟩ := hq
  cases rw'
  exact wpAny_truthy_bool ⟨.bl c, H', I', rfl, q⟩
theorem op_niO (m : Meth X.K C "__contains__" g) (F : FnR X.prog X.w X.K X.mg X.base CX k g sp) (hr : Room k X.A) (hx : Passes CX X E) : OpR X (compareOp .NotIn) (rOwnIn C sp E true) := by
  intro pins s σ H x y v u Q I rx ry hq
  obtain ⟨b, dy, gs, rfl, hb, hs⟩ := hq
  cases ry
  obtain ⟨od, J⟩ := inst_at I hb
  obtain ⟨m0, hF⟩ := I.fr
  refine PySem.W.notIn_K hF I.ok.mod.kin J m.at_ m.fn ?_
  refine thn (call_own (vs := [.ref b, x]) F hr rfl hx I (.cons rfl (.cons rx .nil)) hs) fun r s' hq => ?_
  obtain ⟨w, H', I', rw', c, rfl, q⟩ := hq
  cases rw'
  exact wpAny_truthy_bool ⟨.bl (!c), H', I', rfl, q⟩
/-- a binary operator of two instances -/
theorem op_binO {op : Operator} {n : Str} (hn : PySem.dunder op.info.2 = n) (hc : PySem.W.selfFirst X.K C = true) (m : Meth X.K C n g) (F : FnR X.prog X.w X.K X.mg X.base CX k g sp) (hr : Room k X.A) (hx : Passes CX X E) : OpR X (binaryOp op) (rOwnB C sp E) := by
  intro pins s σ H x y v u Q I rx ry hq
  obtain ⟨a, b, dx, dy, fs, gs, rfl, rfl, ha, hb, hs⟩ := hq
  cases rx
  cases ry
  obtain ⟨od, J⟩ := inst_at I ha
  obtain ⟨od', J'⟩ := inst_at I hb
  obtain ⟨m0, hF⟩ := I.fr
  refine PySem.W.binop_K hF I.ok.mod.kin J J'.type hc (by rw [hn]; exact m.at_) m.fn ?_
  refine thn (call_own (vs := [.ref a, .ref b]) F hr rfl hx I (.cons rfl (.cons rfl .nil)) hs) fun r s' hq => ?_
  obtain ⟨w, H', I', rw', q⟩ := hq
  exact cmpBack rw' ⟨w, H', I', rw', q⟩
/-- ~x, -x -/
def rOwn1 (C : Addr) (sp : Sp) (E : XK) : V → Hp → VK → Prop := fun x H Q => ∃ a dx fs, x = .ref a ∧ H a = some (.ins C dx fs) ∧ sp [.ref a] H Q E
theorem un_invO (m : Meth X.K C "__invert__" g) (F : FnR X.prog X.w X.K X.mg X.base CX k g sp) (hr : Room k X.A) (hx : Passes CX X E) : UnR X (unaryOp .Invert) (rOwn1 C sp E) := by
  intro pins s σ H x v Q I rx hq
  obtain ⟨a, dx, fs, rfl, ha, hs⟩ := hq
  cases rx
  obtain ⟨od, J⟩ := inst_at I ha
  obtain ⟨m0, hF⟩ := I.fr
  exact PySem.W.ksp_inv hF I.ok.mod.kin J m.at_ m.fn (call_own (vs := [.ref a]) F hr rfl hx I (.cons rfl .nil) hs)
/-- len(x) by an own __len__ -/
def rOwnLen (C : Addr) (sp : Sp) (E : XK) : List V → Hp → VK → Prop := fun xs H Q => ∃ a dx fs, xs = [.ref a] ∧ H a = some (.ins C dx fs) ∧ sp [.ref a] H (fun v H' => ∃ n : Int, v = .int n ∧ 0 ≤ n ∧ n < 2 ^ 63 ∧ Q (.int n) H') E
theorem call_lenO (m : Meth X.K C "__len__" g) (F : FnR X.prog X.w X.K X.mg X.base CX k g sp) (hr : Room (k + 1) X.A) (hx : Passes CX X E) : CallR X (.builtin "len") (rOwnLen C sp E) := by
  intro pins s σ H xs us Q I r h
  obtain ⟨a, dx, fs, rfl, ha, hs⟩ := h
  obtain ⟨u, rfl, rx⟩ := vals1 r
  cases rx
  obtain ⟨od, J⟩ := inst_at I ha
  obtain ⟨m0, hF⟩ := I.fr
  refine PySem.W.len_K hF I.ok.mod.kin J m.at_ m.fn ?_
  refine thn (call_own (vs := [.ref a]) F hr.in1 rfl hx I (.cons rfl .nil) hs) fun r s' hq => ?_
  obtain ⟨w, H', I', rw', n, rfl, h0, h1, q⟩ := hq
  obtain ⟨t, rfl⟩ := rw'
  exact ⟨⟨h0, h1⟩, ⟨.int n, H', I'.tok _, ⟨_, rfl⟩, q⟩⟩
/-- the truth of an instance by its own __bool__ -/
def rOwnTru (C : Addr) (sp : Sp) (E : XK) : V → Hp → (Bool → Hp → Prop) → Prop := fun x H Q => ∃ a dx fs, x = .ref a ∧ H a = some (.ins C dx fs) ∧ sp [.ref a] H (fun v H' => ∃ c, v = .bl c ∧ Q c H') E
theorem truthy_own (m : Meth X.K C "__bool__" g) (F : FnR X.prog X.w X.K X.mg X.base CX k g sp) {A' : Around} (hr : Room k A') (hfr : A'.frames = X.A.frames) (hx : Passes CX X E) {x : V} {v : Value} {Q : Bool → Hp → Prop} (I : Inv X pins σ H s) (rx : RelV x v) (h : rOwnTru C sp E x H Q) :
    wpAny (model X.prog X.w) A' (truthy v) (TP X pins σ Q) X.xe s := by
  obtain ⟨a, dx, fs, rfl, ha, hs⟩ := h
  cases rx
  obtain ⟨od, J⟩ := inst_at I ha
  obtain ⟨m0, hF⟩ := I.fr
  refine PySem.W.truthy_K hF I.ok.mod.kin J m.at_ m.fn ?_
  refine thn (call_own (vs := [.ref a]) F hr hfr hx I (.cons rfl .nil) hs) fun r s' hq => ?_
  obtain ⟨w, H', I', rw', c, rfl, q⟩ := hq
  cases rw'
  exact ⟨H', I', q⟩
theorem tru_own (m : Meth X.K C "__bool__" g) (F : FnR X.prog X.w X.K X.mg X.base CX k g sp) (hr : Room k X.A) (hx : Passes CX X E) : TruR X (rOwnTru C sp E) := by
  intro pins s σ H x v Q I rx h
  exact truthy_own m F hr rfl hx I rx h
/-- x[i] by an own __getitem__ -/
def rOwnIx (C : Addr) (sp : Sp) (E : XK) : R2 := fun x y H Q => ∃ a dx fs, x = .ref a ∧ H a = some (.ins C dx fs) ∧ sp [.ref a, y] H Q E
theorem pe_ixO {a b : Expr} {ta tb : TE} {pos : Pos} (m : Meth X.K C "__getitem__" g) (hf : PySem.W.fnIn X.K g = true) (F : FnR X.prog X.w X.K X.mg X.base CX k g sp) (hr : Room (k + 1) X.A) (hx : Passes CX X E) (ha : PE X a ta) (hb : PE X b tb)
    (hs : ∀ x i, subscripted b true (.ref x) i = runValue (.builtin "lifetime.subscript" ⟨[.ref x, i], []⟩) := by intro _ _; rfl) : PE X (.Subscript a b pos) (tOp (rOwnIx C sp E) ta tb) := by
  refine ⟨fun pins s σ H Q I h => ?_⟩
  refine Subscript_ (binT ha hb I h fun v u s2 x y H2 I2 rx ry q => ?_)
  obtain ⟨p, dx, fs, rfl, hp, hsp⟩ := q
  cases rx
  obtain ⟨od, J⟩ := inst_at I2 hp
  obtain ⟨m0, hF⟩ := I2.fr
  exact PySem.W.sub_K hF I2.ok.mod.kin J m.at_ hf m.fn (call_own (vs := [.ref p, y]) F hr.in1 rfl hx I2 (.cons rfl (.cons ry .nil)) hsp) (hs _ _)
/-- x[i] = v by an own __setitem__ -/
def rOwnSet (C : Addr) (sp : Sp) (E : XK) : TSet := fun o i v H Q => ∃ a dx fs, o = .ref a ∧ H a = some (.ins C dx fs) ∧ sp [.ref a, i, v] H (fun _ H' => Q H') E
theorem set_own (hq : PySem.W.noSeq X.K C = true) (m : Meth X.K C "__setitem__" g) (F : FnR X.prog X.w X.K X.mg X.base CX k g sp) (hr : Room k X.A) (hx : Passes CX X E) : PSet X (rOwnSet C sp E) := by
  intro pins s σ H o i v ou iu vu Q I ro ri rv h
  obtain ⟨a, dx, fs, rfl, ha, hs⟩ := h
  cases ro
  obtain ⟨od, J⟩ := inst_at I ha
  obtain ⟨m0, hF⟩ := I.fr
  refine PySem.W.ksp_setItem hF I.ok.mod.kin J hq m.at_ m.fn ?_
  refine thn (call_own (vs := [.ref a, i, v]) F hr rfl hx I (.cons rfl (.cons ri (.cons rv .nil))) hs) fun r s' z => ?_
  obtain ⟨w, H', I', rw', q⟩ := z
  exact ⟨H', I', q⟩
/-- C.m is a static method: its record at p, its def at g -/
structure SMet (K : PySem.W.Frag) (C : Addr) (mc : Value) (m : Str) (p g : Addr) : Prop where
  at_ : PySem.W.findCls K (.ref C) mc m = some (.get (.builtin "staticmethod.__get__") (.ref p) .none (.ref C))
  rc : ∃ rest, PySem.W.recIn K p "staticmethod" = some (.ref g :: rest)
  kp : PySem.W.keepIn K (.ref g) = true
theorem getmethsm_ok {pl : Sem Bool} {p : Addr} {mc : Value} {m : Str} {E : Value → Shared → Prop} {A : Around} {Q : Value × List Value → Shared → Prop} (I : Inv X pins σ H s) (r : CRead X.K C mc) (c : SMet X.K C mc m p g)
    (h : ∀ s', Inv X pins σ H s' → Q (.ref g, []) s') : wpAny (model X.prog X.w) A (getMethod (.ref C) m pl) Q E s := by
  obtain ⟨rest, hp⟩ := c.rc
  refine PySem.W.method_cls I.kIn r.ga (PySem.W.cls_bind I.kIn r.rd c.at_ ?_)
  refine wpAny_call (PySem.W.sm_get (s := { s with toks := s.toks + 1 }) I.kIn hp (PySem.W.handed_on rfl ?_))
  exact h _ (I.tok _)
/-- o.m(e, ..), o the class -/
def tSMeth (C : Addr) (sp : Sp) (E : XK) (ta : TE) (t : TA) : TE := fun σ H Q => ta σ H fun x H1 => x = .ref C ∧ t σ H1 fun vs H2 => sp vs H2 Q E
theorem pe_smeth {o e : Expr} {es : List Expr} {m : Str} {mc : Value} {p : Addr} {pos apos : Pos} {ta : TE} {t : TA} {pl : Sem Bool} (he : PE X o ta) (r : CRead X.K C mc) (c : SMet X.K C mc m p g) (F : FnR X.prog X.w X.K X.mg X.base CX k g sp) (hr : Room k X.A) (hx : Passes CX X E) (ha : PA X (e :: es) t)
    (hst : starEach (e :: es) X.env = (false, eval e X.env) :: starEach es X.env := by rfl) (hpl : (backTo pos (starEach es X.env)).any (·.1) = false := by rfl)
    (ht : eval (.Call (.Attribute o m apos) (e :: es) [] pos) X.env = (do
      let ov ← eval o X.env
      standAt apos.atName
      let (f, first) ← holding [ov] (getMethod ov m pl)
      callWith pos f first (backTo pos (starEach (e :: es) X.env)) (backToKw pos (keywordEach [] X.env))) := by rfl) :
    PE X (.Call (.Attribute o m apos) (e :: es) [] pos) (tSMeth C sp E ta t) := by
  refine ⟨fun pins s σ H Q I h => ?_⟩
  refine PySem.W.methodCall_KW (pl := pl) (thn (he.run pins s σ H _ I h) fun u s1 ⟨x, H1, I1, rx, ex, q⟩ => ?_) ht
  subst ex
  obtain rfl : u = Value.ref C := rx
  refine getmethsm_ok I1 r c fun s2 I2 => ?_
  refine PySem.W.callWith_K (first := []) (h₀ := X.base) I.ok.mod.kin c.kp (thn (ha.run pos _ s2 σ H1 _ I2 q) fun us s3 ⟨vs, H2, I3, rv, q2⟩ => ⟨I3.kIn, ?_⟩) hst hpl
  exact call_own F hr rfl hx I3 rv q2
theorem pe_smeth0 {o : Expr} {m : Str} {mc : Value} {p : Addr} {pos apos : Pos} {ta : TE} {pl : Sem Bool} (he : PE X o ta) (r : CRead X.K C mc) (c : SMet X.K C mc m p g) (F : FnR X.prog X.w X.K X.mg X.base CX k g sp) (hr : Room k X.A) (hx : Passes CX X E)
    (ht : eval (.Call (.Attribute o m apos) [] [] pos) X.env = (do
      let ov ← eval o X.env
      standAt apos.atName
      let (f, first) ← holding [ov] (getMethod ov m pl)
      callWith pos f first (backTo pos (starEach [] X.env)) (backToKw pos (keywordEach [] X.env))) := by rfl) :
    PE X (.Call (.Attribute o m apos) [] [] pos) (tSMeth C sp E ta tNil) := by
  refine ⟨fun pins s σ H Q I h => ?_⟩
  refine PySem.W.methodCall_KW (pl := pl) (thn (he.run pins s σ H _ I h) fun u s1 ⟨x, H1, I1, rx, ex, q⟩ => ?_) ht
  subst ex
  obtain rfl : u = Value.ref C := rx
  refine getmethsm_ok I1 r c fun s2 I2 => ?_
  exact PySem.W.callWith_K0 (first := []) I2.kIn c.kp (call_own F hr rfl hx I2 .nil q)
end
end OwX

set_option Elab.async false
set_option linter.all false
set_option maxRecDepth 100000
set_option maxHeartbeats 0
/-! A Hook of one's own: Bools of K, defs at any address, empty tables of code objects. -/
namespace HeZ
open PySem PySem.Spec PyProof.Rows L2
abbrev Fb := PySem.W.Frag → Bool
def obsK (fb : List Fb) (fn : List He5.DefA) (K : PySem.W.Frag) : He.AlD := ((fb.all fun f => f K) && fn.all fun d => d.ok K, fn.map fun d => He5.fnA K (d.at_ K))
abbrev AlZ : Type := He.AlD × Bool
def obsZ (n : Nat) (fb : List Fb) (fn : List He5.DefA) (tf : List He.Defn) (g : Addr → Option Obj) : AlZ := (obsK fb fn (He.frT g (He5.asA g n)), He.tabsB g tf (He.frT g (He5.asA g n)))
def valZ (fn : List He5.DefA) : AlZ := ((true, fn.map He5.DefA.val), true)
structure SaysZ (fb : List Fb) (fn : List He5.DefA) (tf : List He.Defn) (h : Heap) (K : PySem.W.Frag) : Prop where
  t : obsK fb fn K = (true, fn.map He5.DefA.val)
  hd : ∀ p ∈ tf, PySem.W.codeHdIn K (He.cT K p).1 (He.cT K p).2 = true
  out : ∀ p ∈ tf, K.lookup (He.cT K p).2 = none
  empty : ∀ p ∈ tf, h.get? (He.cT K p).2 = some { cls := .none, data := .fields #[] }
theorem saysZ_of {n : Nat} {fb : List Fb} {fn : List He5.DefA} {tf : List He.Defn} {h : Heap} (e : obsZ n fb fn tf h.get? = valZ fn) : SaysZ fb fn tf h (He.frT h.get? (He5.asA h.get? n)) := by
  have e1 : obsK fb fn (He.frT h.get? (He5.asA h.get? n)) = (true, fn.map He5.DefA.val) := congrArg (fun z : AlZ => z.1) e
  have h2 : He.tabsB h.get? tf (He.frT h.get? (He5.asA h.get? n)) = true := congrArg (fun z : AlZ => z.2) e
  have key : ∀ p ∈ tf, PySem.W.codeHdIn (He.frT h.get? (He5.asA h.get? n)) (He.cT (He.frT h.get? (He5.asA h.get? n)) p).1 (He.cT (He.frT h.get? (He5.asA h.get? n)) p).2 = true ∧ ∃ o, h.get? (He.cT (He.frT h.get? (He5.asA h.get? n)) p).2 = some o ∧ He.emptyTab o = true := fun p hp => by
    obtain ⟨h3, h4⟩ := He.ba (List.all_eq_true.mp h2 p hp)
    refine ⟨h3, ?_⟩
    cases q : h.get? (He.cT (He.frT h.get? (He5.asA h.get? n)) p).2 with
    | none =>
      rw [q] at h4
      cases h4
    | some o =>
      rw [q] at h4
      exact ⟨o, rfl, h4⟩
  exact ⟨e1, fun p hp => (key p hp).1, fun p hp => by
    obtain ⟨_, o, q, z⟩ := key p hp
    exact He.frT_none q z, fun p hp => by
    obtain ⟨_, o, q, z⟩ := key p hp
    rw [q, He.emptyTab_eq z]⟩
def hookZ (n : Nat) (fb : List Fb) (fn : List He5.DefA) (tf : List He.Defn) : PySem.W.Hook where
  α := AlZ
  obs := fun s => obsZ n fb fn tf s.heap.get?
  val := fun _ => valZ fn
  says := fun _ h => ∃ K : PySem.W.Frag, K.In h ∧ SaysZ fb fn tf h K
  of := fun _ _ e => ⟨_, He.frT_in, saysZ_of e⟩
  keeps := fun _ _ _ ⟨K, hK, c⟩ k => ⟨K, PySem.W.Frag.In.keeps hK k, ⟨c.t, c.hd, c.out, fun p hp => k _ _ (c.empty p hp)⟩⟩
theorem obsZ_eq {n : Nat} {fb : List Fb} {fn : List He5.DefA} {tf : List He.Defn} {g : Addr → Option Obj} {s : Shared} (h : ∀ a, g a = s.heap.get? a) : obsZ n fb fn tf g = (hookZ n fb fn tf).obs s := by
  have e : g = s.heap.get? := funext h
  rw [e] <;> rfl
section
variable {fb : List Fb} {fn : List He5.DefA} {tf : List He.Defn} {h : Heap} {K : PySem.W.Frag}
theorem SaysZ.fact (c : SaysZ fb fn tf h K) (i : Nat) {f : Fb} (e : fb[i]? = some f := by rfl) : f K = true := by
  have c1 := (He.ba (show ((fb.all fun f => f K) && fn.all fun d => d.ok K) = true from congrArg (fun z : He.AlD => z.1) c.t)).1
  exact List.all_eq_true.mp c1 f (List.mem_of_getElem? e)
theorem SaysZ.def_ (c : SaysZ fb fn tf h K) (i : Nat) {d : He5.DefA} (e0 : fn[i]? = some d := by rfl) : ∃ fd, L2.FunD K d.name d.qual d.params d.body d.scope (d.dvs K) (d.kws K) (d.at_ K) fd := by
  have c2 := (He.ba (show ((fb.all fun f => f K) && fn.all fun d => d.ok K) = true from congrArg (fun z : He.AlD => z.1) c.t)).2
  have e : fn.map (fun d => He5.fnA K (d.at_ K)) = fn.map He5.DefA.val := congrArg (fun z : He.AlD => z.2) c.t
  have e2 : (fn.map fun d => He5.fnA K (d.at_ K))[i]? = (fn.map He5.DefA.val)[i]? := by rw [e]
  rw [List.getElem?_map, List.getElem?_map, e0] at e2
  exact He5.DefA.funD (Option.some.inj e2) (List.all_eq_true.mp c2 d (List.mem_of_getElem? e0))
end
end HeZ

set_option Elab.async false
set_option linter.all false
set_option maxRecDepth 100000
set_option maxHeartbeats 0
/-! Exceptions of the text with their own dict: isinstance, facts by Bools; own operators within a try. -/
namespace OwX
open PySem PySem.Spec PyProof.Rows L2 ClX
/-! ### facts by Bools -/
theorem ba {a b : Bool} (h : (a && b) = true) : a = true ∧ b = true := Bool.and_eq_true_iff.mp h
def dq (a b : Option (Option Value)) : Bool := decide (a = b)
theorem dq_ok {a b : Option (Option Value)} (h : dq a b = true) : a = b := of_decide_eq_true h
/-- an exception class: its object's form -/
def oexB (K : PySem.W.Frag) (C : Addr) : Bool := (match K.lookup C with
  | some ⟨.type t, _, .cls cd, sl⟩ => decide (t = "type") && (match cd.mro, sl.toList with
    | .ref C1 :: bm, [_, _, _, _, some (.builtin n), _] => decide (C1 = C) && (decide (n = "ValueError.__new__") && (cd.hasDict && (!cd.hasDel && PySem.HandSPX.refsVE bm)))
    | _, _ => false)
  | _ => false) && (dq (PySem.W.findIn K (.ref C) "__setattr__") (some (some (.builtin "object.__setattr__"))) && (decide (PySem.W.subIn K (.ref C) (.type "BaseException") = some true) && (decide (PySem.W.typeIn K (.ref C) = some (.type "type")) && PySem.W.keepIn K (.ref C))))
theorem oex_ok {K : PySem.W.Frag} {C : Addr} (h : oexB K C = true) : OexC K C := by
  obtain ⟨h0, h⟩ := ba h
  obtain ⟨h1, h⟩ := ba h
  obtain ⟨h2, h⟩ := ba h
  obtain ⟨h3, h4⟩ := ba h
  refine ⟨?_, dq_ok h1, of_decide_eq_true h2, of_decide_eq_true h3, h4⟩
  clear h1 h2 h3 h4
  split at h0
  · rename_i t dd cd sl ho
    obtain ⟨e0, h6⟩ := ba h0
    have e0 := of_decide_eq_true e0
    clear h0
    subst e0
    split at h6
    · rename_i C1 bm k0 k1 k2 k3 n k5 hm hs
      obtain ⟨e1, h0⟩ := ba h6
      obtain ⟨e2, h0⟩ := ba h0
      obtain ⟨e3, h0⟩ := ba h0
      obtain ⟨e4, e5⟩ := ba h0
      have e1 := of_decide_eq_true e1
      have e2 := of_decide_eq_true e2
      subst e1 e2
      obtain ⟨nm, bs, mro, ns, qn, hd, sn, sub, ab, col, del⟩ := cd
      have f4 : del = false := by simpa using e4
      have f5 : mro = .ref C1 :: bm := hm
      have f3 : hd = true := e3
      clear e3 e4 hm h0 h6
      subst f3
      subst f4
      subst f5
      obtain ⟨l⟩ := sl
      have f6 : l = [k0, k1, k2, k3, some (.builtin "ValueError.__new__"), k5] := hs
      subst f6
      exact ⟨nm, qn, ns, bs, bm, sn, sub, ab, col, dd, k0, k1, k2, k3, k5, ho, e5⟩
    · cases h6
  · cases h0
/-- what isinstance asks of a class of instances -/
structure IsC (K : PySem.W.Frag) (C : Addr) : Prop where
  ha : PySem.W.findIn K (.ref C) "__class__" = some (some (.builtin "object.__class__"))
  hn : PySem.W.specialIn K (.builtin "object.__class__") "__get__" = some (some (.builtin "getset_descriptor.__get__"))
  ht : PySem.W.takesIn K (.builtin "object.__class__") = some true
  hm : PySem.W.mroIn K C (.type "object") = some true
def isB (K : PySem.W.Frag) (C : Addr) : Bool := dq (PySem.W.findIn K (.ref C) "__class__") (some (some (.builtin "object.__class__"))) && (dq (PySem.W.specialIn K (.builtin "object.__class__") "__get__") (some (some (.builtin "getset_descriptor.__get__"))) &&
  (decide (PySem.W.takesIn K (.builtin "object.__class__") = some true) && decide (PySem.W.mroIn K C (.type "object") = some true)))
theorem is_ok {K : PySem.W.Frag} {C : Addr} (h : isB K C = true) : IsC K C := by
  obtain ⟨h1, h⟩ := ba h
  obtain ⟨h2, h⟩ := ba h
  obtain ⟨h3, h4⟩ := ba h
  exact ⟨dq_ok h1, dq_ok h2, of_decide_eq_true h3, of_decide_eq_true h4⟩
theorem tyx_ins {K : PySem.W.Frag} {H : Hp} {a C dx : Addr} {fs : List (Str × V)} (c : Cls K C) (i : IsC K C) (e : H a = some (.ins C dx fs)) : TyX K H (.ref a) (.ref C) := .base (.ins e c i.ha i.hn i.ht i.hm)
/-- isinstance(x, C) of K's classes -/
def kiB (K : PySem.W.Frag) (t u : Value) (b : Bool) : Bool := decide (PySem.W.kitOne K t u = some b)
theorem ki_ok {K : PySem.W.Frag} {t u : Value} {b : Bool} (h : kiB K t u b = true) : PySem.W.kitOne K t u = some b := of_decide_eq_true h
def exmB (K : PySem.W.Frag) (t u : Value) (b : Bool) : Bool := decide (PySem.W.exmOne K t u = some b)
theorem exm_ok {K : PySem.W.Frag} {t u : Value} {b : Bool} (h : exmB K t u b = true) : PySem.W.exmOne K t u = some b := of_decide_eq_true h
/-- the class reads as usual, its number slots are its own, it is no sequence -/
def creadB (K : PySem.W.Frag) (C : Addr) : Bool := PySem.W.readsIn K C (.type "type") && dq (PySem.W.specialIn K (.ref C) "__getattribute__") (some (some (.builtin "type.__getattribute__")))
theorem cread_ok {K : PySem.W.Frag} {C : Addr} (h : creadB K C = true) : CRead K C (.type "type") := by
  obtain ⟨h1, h2⟩ := ba h
  exact ⟨h1, dq_ok h2⟩
def smB (K : PySem.W.Frag) (C : Addr) (m : Str) : Bool := He5.wrapB K C "staticmethod" "staticmethod.__get__" m && PySem.W.keepIn K (.ref (He5.wf K C "staticmethod" m))
theorem sm_ok {K : PySem.W.Frag} {C : Addr} {m : Str} (h : smB K C m = true) : SMet K C (.type "type") m (He.ma K C m) (He5.wf K C "staticmethod" m) := by
  obtain ⟨h1, h2⟩ := ba h
  obtain ⟨h3, h4⟩ := He5.wrapB_ok h1
  exact ⟨h3, h4, h2⟩
def propB (K : PySem.W.Frag) (C : Addr) (f : Str) : Bool := dq (PySem.W.findIn K (.ref C) f) (some (some (.ref (He.ma K C f)))) && (dq (PySem.W.specialIn K (.ref (He.ma K C f)) "__get__") (some (some (.builtin "property.__get__"))) &&
  (decide (PySem.W.takesIn K (.ref (He.ma K C f)) = some true) && (match PySem.W.recIn K (He.ma K C f) "property" with
    | some (.ref _ :: _) => true
    | _ => false)))
theorem prop_ok {K : PySem.W.Frag} {C : Addr} {f : Str} (h : propB K C f = true) : PropOf K C f (He.ma K C f) (He5.wf K C "property" f) := by
  obtain ⟨h1, h⟩ := ba h
  obtain ⟨h2, h⟩ := ba h
  obtain ⟨h3, h4⟩ := ba h
  refine ⟨dq_ok h1, dq_ok h2, of_decide_eq_true h3, ?_⟩
  unfold He5.wf
  split at h4
  · rename_i g r e
    exact ⟨r, by rw [e]⟩
  · cases h4
/-- an exception class with isinstance and attributes -/
structure ExcK (K : PySem.W.Frag) (C : Addr) : Prop where
  ox : OexC K C
  xf : XfC K C
  is_ : IsC K C
  it : PySem.W.findIn K (.ref C) "__init__" = some (some (.ref (He.ma K C "__init__")))
  ti : PySem.W.typeIn K (.ref (He.ma K C "__init__")) = some (.type "function")
def excB (K : PySem.W.Frag) (C : Addr) : Bool := oexB K C && (xfB K C && (isB K C && (dq (PySem.W.findIn K (.ref C) "__init__") (some (some (.ref (He.ma K C "__init__")))) && decide (PySem.W.typeIn K (.ref (He.ma K C "__init__")) = some (.type "function")))))
theorem exc_ok {K : PySem.W.Frag} {C : Addr} (h : excB K C = true) : ExcK K C := by
  obtain ⟨h1, h⟩ := ba h
  obtain ⟨h2, h⟩ := ba h
  obtain ⟨h3, h⟩ := ba h
  obtain ⟨h4, h5⟩ := ba h
  exact ⟨oex_ok h1, xfB_ok h2, is_ok h3, dq_ok h4, of_decide_eq_true h5⟩
/-! ### isinstance of the exception that a suite holds -/
def rIsX (K : PySem.W.Frag) (D a : Addr) (cls : Value) (d : Option Addr) : List V → Hp → VK → Prop := fun xs H Q => ∃ (c : V) (cv : Value) (b : Bool) (dd : Addr) (fs : List (Str × V)), xs = [.ref a, c] ∧ ClsV c cv ∧ cls = .ref D ∧ d = some dd ∧ H dd = some (.xd fs) ∧ PySem.W.kitOne K (.ref D) cv = some b ∧ Q (.bl b) H
theorem call_isX {X : Cx} {a D : Addr} {oe : Obj} {cls : Value} {d : Option Addr} {pn : List (Addr × Obj)} (C : ExcK X.K D) (hz : Zc cls d oe) (hf : ∃ vs, oe.data = .fields vs) : CallR (X.suite a ((a, oe) :: pn)) (.builtin "isinstance") (rIsX X.K D a cls d) := by
  intro pins s σ H xs us Q I r h
  obtain ⟨c, cv, b, dd, fs, rfl, k, rfl, rfl, hd, e, q⟩ := h
  obtain ⟨u1, u2, rfl, r1, r2⟩ := vals2 r
  cases r1
  have e2 := k.eq r2
  subst e2
  obtain ⟨ha, _⟩ := I.pin (a, oe) (List.mem_append_left _ List.mem_cons_self)
  obtain ⟨vs, hv⟩ := hf
  obtain ⟨mA, hns, _⟩ := (show ObjOk X.prog X.w H s.heap dd (.xd fs) from I.hok dd _ hd)
  obtain ⟨od, ho, _⟩ := lookIn_ns hns
  have J : PySem.W.InstAt s.heap a oe D (some od) := ⟨ha, hz.1, by unfold PySem.W.notCls; rw [hv] <;> rfl, by rw [hz.2]; exact ho⟩
  have hc : (PySem.W.clsIn X.K D).isSome = true := by
    obtain ⟨cd, hc, _⟩ := PySem.W.any_some C.xf.hdC
    rw [hc] <;> rfl
  exact PySem.W.kia_one (PySem.W.kitx_exc hc C.xf.ga C.xf.gg C.xf.exC C.is_.ha C.is_.hn C.is_.ht C.is_.hm) I.kIn J e (fun z => nomatch z) fun tk => ⟨.bl b, H, I.kept (t' := tk) fun _ _ z => z, rfl, q⟩
/-! ### bool(x) of an instance with an own __bool__ -/
theorem bool_new_ref {prog : Program} {w : World} (l : Addr) : MeetsIn prog w (Builtin.«bool.__new__» ⟨[.type "bool", .ref l], []⟩)
    (fun A R s => wpAny (model prog w) A.in1 (truthy (.ref l)) (fun b s' => R (.ok (.ret (.bool b))) s') (fun e s' => R (.error e) s') s) :=
  .of_wp fun A R s h => by
    obtain ⟨hp, g, d, tk, os⟩ := s
    have f1 := F.conv_sub_bool
    repeat (any_goals (first | assumption | (refine wpAny_bind (wpAny_mono h (fun b s' q => ?_) fun e s' q => ?_)) | wp_step))
    all_goals first | exact q | exact ⟨_, rfl, q⟩ | skip
def rOwnBool (C : Addr) (sp : Sp) (E : XK) : List V → Hp → VK → Prop := fun xs H Q => ∃ a, xs = [.ref a] ∧ rOwnTru C sp E (.ref a) H fun b H' => Q (.bl b) H'
theorem call_boolO {X : Cx} {CX : CXT} {k : Nat} {C g : Addr} {sp : Sp} {E : XK} (m : Meth X.K C "__bool__" g) (F : FnR X.prog X.w X.K X.mg X.base CX k g sp) (hr : Room (k + 2) X.A) (hx : Passes CX X E) : CallR X (.type "bool") (rOwnBool C sp E) := by
  intro pins s σ H xs us Q I r h
  obtain ⟨a, rfl, h⟩ := h
  obtain ⟨u, rfl, rx⟩ := vals1 r
  cases rx
  refine callType_newIn PySem.F.called_bool PySem.F.newNe_bool (PySem.F.typeCall_bool_1 _) (PySem.F.newCall_bool_1 _) (fun obj => PySem.F.args_object_init_2 obj _) PySem.F.entry_bool_new (bool_new_ref a) ?_
  refine thn (truthy_own (x := .ref a) m F hr.in1.in1 rfl hx I rfl h) fun b s' q => ?_
  obtain ⟨H', I', q⟩ := q
  exact ⟨rfl, .bl b, H', I', rfl, q⟩
/-! ### own operators where what is raised is wished for at the slots -/
section
variable {X : Cx} {CX : CXT} {k : Nat} {C g : Addr} {sp : Sp} {E : L2.St → XK} {pins : List (Addr × Obj)} {σ : L2.St} {H : Hp} {s : Shared} {Q : VK}
theorem call_ownS {A' : Around} {us : List Value} {vs : List V} (F : FnR X.prog X.w X.K X.mg X.base CX k g sp) (hr : Room k A') (hfr : A'.frames = X.A.frames) (hx : ∀ σ, PassesAt CX X σ (E σ)) (I : Inv X pins σ H s) (r : Vals vs us) (h : sp vs H Q (E σ)) :
    wpAny (model X.prog X.w) A' (call (.ref g) us) (EP X pins σ Q) X.xe s := by
  have e := I.env0
  refine wpAny_call (codeAny_mono (F A' X.stack s H us vs Q (E σ) hr ⟨by rw [hfr]; exact e.frames, e.mod, e.bs, e.bsz, e.funs, e.frf, e.hok, e.bare⟩ r h) fun r s' hq => ?_)
  cases r with
  | error er => exact hx σ pins H s er s' I hq
  | ok fl =>
    cases fl with
    | ret u => exact I.after hq
    | next => exact False.elim hq
    | brk => exact False.elim hq
    | cont => exact False.elim hq
def tIxOS (C : Addr) (sp : Sp) (E : L2.St → XK) (ta tb : TE) : TE := fun σ H Q => ta σ H fun x H1 => tb σ H1 fun y H2 => rOwnIx C sp (E σ) x y H2 Q
theorem pe_ixOS {a b : Expr} {ta tb : TE} {pos : Pos} (m : Meth X.K C "__getitem__" g) (hf : PySem.W.fnIn X.K g = true) (F : FnR X.prog X.w X.K X.mg X.base CX k g sp) (hr : Room (k + 1) X.A) (hx : ∀ σ, PassesAt CX X σ (E σ)) (ha : PE X a ta) (hb : PE X b tb)
    (hs : ∀ x i, subscripted b true (.ref x) i = runValue (.builtin "lifetime.subscript" ⟨[.ref x, i], []⟩) := by intro _ _; rfl) : PE X (.Subscript a b pos) (tIxOS C sp E ta tb) := by
  refine ⟨fun pins s σ H Q I h => ?_⟩
  refine Subscript_ (binT ha hb I h fun v u s2 x y H2 I2 rx ry q => ?_)
  obtain ⟨p, dx, fs, rfl, hp, hsp⟩ := q
  cases rx
  obtain ⟨od, J⟩ := inst_at I2 hp
  obtain ⟨m0, hF⟩ := I2.fr
  exact PySem.W.sub_K hF I2.ok.mod.kin J m.at_ hf m.fn (call_ownS (vs := [.ref p, y]) F hr.in1 rfl hx I2 (.cons rfl (.cons ry .nil)) hsp) (hs _ _)
/-- f(e, ..) by positions, the wish at the slots -/
def tCallRS (sp : Sp) (E : L2.St → XK) (t : TA) : TE := fun σ H Q => t σ H fun vs H1 => sp vs H1 Q (E σ)
theorem pe_callRS {x : Str} {p pos : Pos} {e : Expr} {es : List Expr} {t : TA} (F : FnR X.prog X.w X.K X.mg X.base CX k g sp) (hr : Room k X.A) (hk : PySem.W.keepIn X.K (.ref g) = true) (hg : Gl X x) (hm : X.mg x = some (.ref g)) (hx : ∀ σ, PassesAt CX X σ (E σ)) (ha : PA X (e :: es) t)
    (hdb : (x == ("__debug__" : Str)) = false := by decide) (he : starEach (e :: es) X.env = (false, eval e X.env) :: starEach es X.env := by rfl) (hpl : (backTo pos (starEach es X.env)).any (·.1) = false := by rfl) : PE X (.Call (.Name x p) (e :: es) [] pos) (tCallRS sp E t) := by
  refine ⟨fun pins s σ H Q I h => ?_⟩
  refine wpAny_Call_Name_kw (ld_glob I hg hm ?_ hdb)
  refine PySem.W.callWith_K (h₀ := X.base) I.ok.mod.kin hk (thn (ha.run pos pins s σ H _ I h) fun us s1 ⟨vs, H1, I1, r, q⟩ => ⟨I1.kIn, ?_⟩) he hpl
  exact call_ownS F hr rfl hx I1 r q
end
end OwX

set_option Elab.async false
set_option linter.all false
set_option maxRecDepth 100000
set_option maxHeartbeats 0
/-! A def's promise by positions, from its datum. -/
namespace OwX
open PySem PySem.Spec PyProof.Rows L2 ClX
section
variable {P : Program} {w : World} {K : PySem.W.Frag} {mg : Str → Option Value} {base : Heap} {x qual : Str} {params : Arguments} {body : List Stmt} {scope : Scope} {f : Addr} {N ps : List Str} {k : Nat} {sp : Sp}
abbrev Body (P : Program) (w : World) (K : PySem.W.Frag) (mg : Str → Option Value) (base : Heap) (N : List Str) (qual : Str) (scope : Scope) (body : List Stmt) (f : Addr) (k : Nat) (sp : Sp) : Prop :=
  ∀ (cdv : Value) (A : Around) (outer : List Env) (s : Shared) (H : Hp) (vs : List V) (Q : VK) (E : XK), Room k (A.deeper (envOfC qual scope s.heap.objs.size f cdv)) → sp vs H Q E →
      ∃ t, PSs (cxOf (L2.CX P w) P w K mg base N qual scope f cdv A outer s H E) body t ∧ t { nx := fun _ H' => Q .non H', rt := Q } (start N vs) H
abbrev BindsN (x qual : Str) (params : Arguments) (body : List Stmt) (scope : Scope) (ps : List Str) : Prop :=
  ∀ (kV doc pm : Value) (an : Option Addr) (cdv ct : Value) (us : List Value), us.length = ps.length → bindArgs (PySem.W.fnOf x qual params body scope .none kV doc pm an cdv ct) ⟨us, []⟩ = pure (ps.zip us)
theorem fnok (F : ∃ fd, FunD K x qual params body scope [] [] f fd) (S : FnScope N ps scope) (hb : BindsN x qual params body scope ps) (len : ∀ vs H Q E, sp vs H Q E → vs.length = ps.length) (h : Body P w K mg base N qual scope body f k sp) :
    ∃ fd, FnOk P w K mg base (L2.CX P w) (k + 1) f fd ps sp ∧ Binds K fd ps [] := by
  obtain ⟨fd, F⟩ := F
  exact ⟨fd, F.ok S len h, F.bindsN hb⟩
theorem fnr (F : ∃ fd, FunD K x qual params body scope [] [] f fd) (S : FnScope N ps scope) (hb : BindsN x qual params body scope ps) (len : ∀ vs H Q E, sp vs H Q E → vs.length = ps.length) (h : Body P w K mg base N qual scope body f k sp) :
    FnR P w K mg base (L2.CX P w) (k + 1) f sp := by
  obtain ⟨fd, F, b⟩ := fnok F S hb len h
  exact (F.raw b .nil).imp fun vs H Q E q => by rw [List.append_nil]; exact q
/-- f(e, ..) by positions, nothing raised -/
def tCr (sp : Sp) (t : TA) : TE := fun σ H Q => t σ H fun vs H1 => sp vs H1 Q E0
/-- .. what is raised goes on to E -/
def tCrX (sp : Sp) (E : XK) (t : TA) : TE := fun σ H Q => t σ H fun vs H1 => sp vs H1 Q E
theorem pe_crX {X : Cx} {g : Addr} {E : XK} {nm : Str} {p pos : Pos} {e : Expr} {es : List Expr} {t : TA} (F : FnR X.prog X.w X.K X.mg X.base (L2.CX X.prog X.w) k g sp) (hr : Room k X.A) (hk : PySem.W.keepIn X.K (.ref g) = true) (hg : Gl X nm) (hm : X.mg nm = some (.ref g)) (hx : Passes (L2.CX X.prog X.w) X E) (ha : PA X (e :: es) t)
    (hdb : (nm == ("__debug__" : Str)) = false := by decide) (he : starEach (e :: es) X.env = (false, eval e X.env) :: starEach es X.env := by rfl) (hpl : (backTo pos (starEach es X.env)).any (·.1) = false := by rfl) : PE X (.Call (.Name nm p) (e :: es) [] pos) (tCrX sp E t) := by
  refine ⟨fun pins s σ H Q I h => ?_⟩
  refine wpAny_Call_Name_kw (ld_glob I hg hm ?_ hdb)
  refine PySem.W.callWith_K (h₀ := X.base) I.ok.mod.kin hk (thn (ha.run pos pins s σ H _ I h) fun us s1 ⟨vs, H1, I1, r, q⟩ => ⟨I1.kIn, ?_⟩) he hpl
  exact call_own F hr rfl hx I1 r q
theorem pe_cr {X : Cx} {g : Addr} {nm : Str} {p pos : Pos} {e : Expr} {es : List Expr} {t : TA} (F : FnR X.prog X.w X.K X.mg X.base (L2.CX X.prog X.w) k g sp) (hr : Room k X.A) (hk : PySem.W.keepIn X.K (.ref g) = true) (hg : Gl X nm) (hm : X.mg nm = some (.ref g)) (ha : PA X (e :: es) t)
    (hdb : (nm == ("__debug__" : Str)) = false := by decide) (he : starEach (e :: es) X.env = (false, eval e X.env) :: starEach es X.env := by rfl) (hpl : (backTo pos (starEach es X.env)).any (·.1) = false := by rfl) : PE X (.Call (.Name nm p) (e :: es) [] pos) (tCr sp t) :=
  pe_crX F hr hk hg hm passL ha hdb he hpl
/-- C(e, ..): a new instance, then __init__'s promise; what is raised goes on to E -/
def tMkX (C : Addr) (sp : Sp) (E : XK) (t : TA) : TE := fun σ H Q => t σ H fun vs H1 => ∀ x dx, H1 x = none → H1 dx = none → dx ≠ x → sp (.ref x :: vs) (upd (upd H1 dx (.own x)) x (.ins C dx [])) (fun v H2 => v = .non ∧ Q (.ref x) H2) E
def tMk (C : Addr) (sp : Sp) (t : TA) : TE := tMkX C sp E0 t
theorem pe_mkX {X : Cx} {C g : Addr} {E : XK} {nm : Str} {p pos : Pos} {e : Expr} {es : List Expr} {t : TA} (M : Mk X.K C g) (F : FnR X.prog X.w X.K X.mg X.base (L2.CX X.prog X.w) k g sp) (hr : Room (k + 1) X.A) (hg : Gl X nm) (hm : X.mg nm = some (.ref C)) (hx : Passes (L2.CX X.prog X.w) X E) (ha : PA X (e :: es) t)
    (hdb : (nm == ("__debug__" : Str)) = false := by decide) (he : starEach (e :: es) X.env = (false, eval e X.env) :: starEach es X.env := by rfl) (hpl : (backTo pos (starEach es X.env)).any (·.1) = false := by rfl) : PE X (.Call (.Name nm p) (e :: es) [] pos) (tMkX C sp E t) :=
  StX.pe_makeR M F hr hg hm hx ha hdb he hpl
theorem pe_mk {X : Cx} {C g : Addr} {nm : Str} {p pos : Pos} {e : Expr} {es : List Expr} {t : TA} (M : Mk X.K C g) (F : FnR X.prog X.w X.K X.mg X.base (L2.CX X.prog X.w) k g sp) (hr : Room (k + 1) X.A) (hg : Gl X nm) (hm : X.mg nm = some (.ref C)) (ha : PA X (e :: es) t)
    (hdb : (nm == ("__debug__" : Str)) = false := by decide) (he : starEach (e :: es) X.env = (false, eval e X.env) :: starEach es X.env := by rfl) (hpl : (backTo pos (starEach es X.env)).any (·.1) = false := by rfl) : PE X (.Call (.Name nm p) (e :: es) [] pos) (tMk C sp t) :=
  pe_mkX M F hr hg hm passL ha hdb he hpl
/-- x = e, the name's kind found -/
theorem sx {X : Cx} (i : Nat) {nm : Str} {e : Expr} {te : TE} {pos pos' : Pos} (hN : X.N.Nodup) (he : PE X e te) (hi : X.N[i]? = some nm := by rfl) (hx : Loc X.env.scope nm := by first | exact Or.inl rfl | exact Or.inr rfl) (hs : swapsWith e (some (.Name nm pos')) pos.line X.env = pure false := by rfl)
    (hf : X.fn nm = true ∨ X.env.scope.names.lookup nm = some .local := by first | exact .inl rfl | exact .inr rfl) : PS X (.Assign [.Name nm pos'] e pos) (tAsg te (gName i)) := ps_set hN hi hx he hs hf
/-- a target's name -/
theorem gx {X : Cx} (i : Nat) {nm : Str} {pos : Pos} (hN : X.N.Nodup) (hi : X.N[i]? = some nm := by rfl) (hx : Loc X.env.scope nm := by first | exact Or.inl rfl | exact Or.inr rfl)
    (hf : X.fn nm = true ∨ X.env.scope.names.lookup nm = some .local := by first | exact .inl rfl | exact .inr rfl) : PG X (.Name nm pos) (gName i) := pg_name hN hi hx hf
theorem kp_of {dvs : List V} {kws : List (Str × V)} (F : ∃ fd, FunD K x qual params body scope dvs kws f fd) : PySem.W.keepIn K (.ref f) = true := by
  obtain ⟨fd, F⟩ := F
  exact F.kp
end
end OwX

set_option Elab.async false
set_option linter.all false
set_option maxRecDepth 100000
set_option maxHeartbeats 0
/-! Readings, one lemma a piece; the words go and hp are made of them. -/
namespace Rd
open PySem PySem.Spec PyProof.Rows L2 OwX
section
variable {K : PySem.W.Frag} {σ : L2.St} {H H' : Hp} {Q : VK} {i j : Int} {v x y : V} {ta tb tc te : TE} {t u : TS} {D : Ends} {a p C dx : Addr} {fs : List (Str × V)} {f : Str} {xs ys : List V} {b : Bool} {n : Nat}
/-! ### expressions -/
theorem var {n : Nat} (h : σ[n]? = some (some v)) (k : Q v H) : tVar n σ H Q := ⟨v, h, k⟩
theorem con (k : Q v H) : tC v σ H Q := k
theorem op {r : R2} (k : ta σ H fun x H1 => tb σ H1 fun y H2 => r x y H2 Q) : tOp r ta tb σ H Q := k
theorem un {r : V → Hp → VK → Prop} (k : ta σ H fun x H1 => r x H1 Q) : tUn r ta σ H Q := k
theorem i0 {g : Int → Int → V} (k : Q (g i j) H) : rI0 g (.int i) (.int j) H Q := ⟨i, j, rfl, rfl, k⟩
theorem iC {c : Int → Int → Prop} {g : Int → Int → V} (s : c i j) (k : Q (g i j) H) : rI c g (.int i) (.int j) H Q := ⟨i, j, rfl, rfl, s, k⟩
theorem iu {g : Int → V} (k : Q (g i) H) : rU g (.int i) H Q := ⟨i, rfl, k⟩
theorem nil {R : List V → Hp → Prop} (k : R [] H) : tNil σ H R := k
theorem cons {tr : TA} {R : List V → Hp → Prop} (k : ta σ H fun x H1 => tr σ H1 fun xs H2 => R (x :: xs) H2) : tCons ta tr σ H R := k
theorem cb {r : List V → Hp → VK → Prop} {t : TA} (k : t σ H fun vs H1 => r vs H1 Q) : tCB r t σ H Q := k
theorem ifx {t : TT} (k : t σ H fun c H1 => if c = true then ta σ H1 Q else tb σ H1 Q) : tIf t ta tb σ H Q := k
theorem chain {r r' : R2} (k : ta σ H fun x H1 => tb σ H1 fun y H2 => r x y H2 fun z H3 => ∃ c, z = .bl c ∧ (if c = true then tc σ H3 fun w' H4 => r' y w' H4 Q else Q (.bl false) H3)) : tChain r r' ta tb tc σ H Q := k
theorem chainB {r' : R2} {c : Bool} (k1 : c = true → tc σ H fun w' H4 => r' y w' H4 Q) (k2 : c = false → Q (.bl false) H) : ∃ d, V.bl c = .bl d ∧ (if d = true then tc σ H fun w' H4 => r' y w' H4 Q else Q (.bl false) H) := ⟨c, rfl, by
  cases c with
  | true => rw [if_pos rfl]; exact k1 rfl
  | false => rw [if_neg Bool.false_ne_true]; exact k2 rfl⟩
theorem eqs (s : scal x y = true) (k : Q (.bl (decide (x = y))) H) : rEq x y H Q := ⟨s, k⟩
theorem nes (s : scal x y = true) (k : Q (.bl (!decide (x = y))) H) : rNe x y H Q := ⟨s, k⟩
theorem tup {t : TA} (k : t σ H fun xs H1 => xs.length ≤ sizeLine ∧ ∀ p, H1 p = none → Q (.ref p) (upd H1 p (.tup xs))) : tTup t σ H Q := k
theorem lst {t : TA} (k : t σ H fun xs H1 => xs.length ≤ sizeLine ∧ ∀ p, H1 p = none → Q (.ref p) (upd H1 p (.lst xs))) : tLst t σ H Q := k
theorem fld (k : ta σ H fun x H1 => ∃ a C dx fs v, x = .ref a ∧ H1 a = some (.ins C dx fs) ∧ Cls K C ∧ NoAttr K C f ∧ fs.lookup f = some v ∧ Q v H1) : tFld K ta f σ H Q := k
theorem ixL {xs : List V} (h : SqL K H p xs) (e : atI xs i = some v) (k : Q v H) : rIxL K (.ref p) (.int i) H Q := ⟨p, xs, i, v, rfl, rfl, h, e, k⟩
theorem ixT {xs : List V} (h : SqT K H p xs) (e : atI xs i = some v) (k : Q v H) : rIxT K (.ref p) (.int i) H Q := ⟨p, xs, i, v, rfl, rfl, h, e, k⟩
theorem andV (k : ta σ H fun x H1 => ∃ c, x = .bl c ∧ if c = true then tb σ H1 Q else Q (.bl false) H1) : tAndV ta tb σ H Q := k
theorem orV (k : ta σ H fun x H1 => ∃ c, x = .bl c ∧ if c = true then Q (.bl true) H1 else tb σ H1 Q) : tOrV ta tb σ H Q := k
theorem notV (k : ta σ H fun x H1 => ∃ c, x = .bl c ∧ Q (.bl (!c)) H1) : tNotV ta σ H Q := k
theorem bm {T : String} {r : V → List V → Hp → VK → Prop} {t : TA} (k : ta σ H fun x H1 => tyV K T x H1 ∧ t σ H1 fun xs H2 => r x xs H2 Q) : tBM K T r ta t σ H Q := k
theorem bm0 {T : String} {r : V → List V → Hp → VK → Prop} (k : ta σ H fun x H1 => tyV K T x H1 ∧ r x [] H1 Q) : tBM0 K T r ta σ H Q := k
theorem blx {A : Bool → Prop} {c : Bool} (k : A c) : ∃ d, V.bl c = .bl d ∧ A d := ⟨c, rfl, k⟩
/-! ### built-in calls by values, with names -/
def rInt : List V → Hp → VK → Prop := fun xs H Q => (∃ i, xs = [.int i] ∧ Q (.int i) H) ∨ ∃ k, xs = [.bl k] ∧ Q (.int (if k = true then 1 else 0)) H
theorem c_int {X : Cx} : CallR X (.type "int") rInt := call_int1
theorem int1 (k : Q (.int i) H) : rInt [.int i] H Q := .inl ⟨i, rfl, k⟩
theorem intB (k : Q (.int (if b = true then 1 else 0)) H) : rInt [.bl b] H Q := .inr ⟨b, rfl, k⟩
def rLen (K : PySem.W.Frag) : List V → Hp → VK → Prop := fun xs H Q => ∃ p ys, xs = [.ref p] ∧ (SqL K H p ys ∨ SqT K H p ys) ∧ Q (.int ys.length) H
theorem c_len {X : Cx} (h : X.K = K := by rfl) : CallR X (.builtin "len") (rLen K) := by subst h; exact call_len_seq
theorem lenL (h : SqL K H p xs) (k : Q (.int xs.length) H) : rLen K [.ref p] H Q := ⟨p, xs, rfl, .inl h, k⟩
theorem lenT (h : SqT K H p xs) (k : Q (.int xs.length) H) : rLen K [.ref p] H Q := ⟨p, xs, rfl, .inr h, k⟩
def rMax : List V → Hp → VK → Prop := fun xs H Q => ∃ i j, xs = [.int i, .int j] ∧ Q (.int (if j > i then j else i)) H
def rMin : List V → Hp → VK → Prop := fun xs H Q => ∃ i j, xs = [.int i, .int j] ∧ Q (.int (if j < i then j else i)) H
theorem c_max {X : Cx} (hc : X.calm = true) : CallR X (.builtin "max") rMax := call_max2 hc
theorem c_min {X : Cx} (hc : X.calm = true) : CallR X (.builtin "min") rMin := call_min2 hc
theorem maxI (k : Q (.int (if j > i then j else i)) H) : rMax [.int i, .int j] H Q := ⟨i, j, rfl, k⟩
theorem minI (k : Q (.int (if j < i then j else i)) H) : rMin [.int i, .int j] H Q := ⟨i, j, rfl, k⟩
def rLst (K : PySem.W.Frag) : List V → Hp → VK → Prop := fun xs H Q => ∃ p ys, xs = [.ref p] ∧ (SqL K H p ys ∨ SqT K H p ys) ∧ ∀ l, H l = none → Q (.ref l) (upd H l (.lst ys))
theorem c_list {X : Cx} (h : X.K = K := by rfl) : CallR X (.type "list") (rLst K) := by subst h; exact call_list_of
theorem listL (h : SqL K H p xs) (k : ∀ l, H l = none → Q (.ref l) (upd H l (.lst xs))) : rLst K [.ref p] H Q := ⟨p, xs, rfl, .inl h, k⟩
theorem listT (h : SqT K H p xs) (k : ∀ l, H l = none → Q (.ref l) (upd H l (.lst xs))) : rLst K [.ref p] H Q := ⟨p, xs, rfl, .inr h, k⟩
/-! ### tests -/
theorem test (k : te σ H fun x H' => ∃ k, x = .bl k ∧ D.nx σ H') : True := trivial
theorem tst {R : Bool → Hp → Prop} (k : te σ H fun x H' => ∃ k, x = .bl k ∧ R k H') : tTest te σ H R := k
theorem tb_ {R : Bool → Hp → Prop} (k : te σ H fun x H' => ∃ k, x = .bl k ∧ R k H') : tB te σ H R := k
theorem not_ {t : TT} {R : Bool → Hp → Prop} (k : t σ H fun c H1 => R (!c) H1) : tNot t σ H R := k
theorem and_ {t u : TT} {R : Bool → Hp → Prop} (k : t σ H fun c H1 => if c = true then u σ H1 R else R false H1) : tAnd t u σ H R := k
theorem or_ {t u : TT} {R : Bool → Hp → Prop} (k : t σ H fun c H1 => if c = true then R true H1 else u σ H1 R) : tOr t u σ H R := k
/-! ### statements -/
theorem seq (k : t { D with nx := u D } σ H) : tSeq t u D σ H := k
theorem asg {g : TG} (k : te σ H fun x H1 => g x σ H1 D.nx) : tAsg te g D σ H := k
theorem name {n : Nat} {R : L2.St → Hp → Prop} (k : R (σ.set n (some v)) H) : gName n v σ H R := k
theorem ret (k : te σ H D.rt) : tRet te D σ H := k
theorem ifS {c : TT} (k : c σ H fun b H1 => if b = true then t D σ H1 else u D σ H1) : tIfS c t u D σ H := k
theorem next (k : D.nx σ H) : tNext D σ H := k
theorem drop (k : te σ H fun _ H1 => D.nx σ H1) : tDrop te D σ H := k
theorem gsub {to ti : TE} {s : TSet} {R : L2.St → Hp → Prop} (k : to σ H fun o H1 => ti σ H1 fun i H2 => s o i v H2 fun H3 => R σ H3) : gSub to ti s v σ H R := k
theorem setL {R : Hp → Prop} {n : Nat} (h : H p = some (.lst xs)) (e : ixN xs.length i = some n) (k : R (upd H p (.lst (xs.set n v)))) : rSetL (.ref p) (.int i) v H R := ⟨p, xs, i, n, rfl, rfl, h, e, k⟩
end
theorem cr {σ : L2.St} {H : Hp} {Q : VK} {sp : Sp} {t : TA} (k : t σ H fun vs H1 => sp vs H1 Q E0) : tCr sp t σ H Q := k
theorem crX {σ : L2.St} {H : Hp} {Q : VK} {sp : Sp} {E : XK} {t : TA} (k : t σ H fun vs H1 => sp vs H1 Q E) : tCrX sp E t σ H Q := k
theorem ixOS {C : Addr} {sp : Sp} {E : L2.St → XK} {ta tb : TE} {σ : L2.St} {H : Hp} {Q : VK} (k : ta σ H fun x H1 => tb σ H1 fun y H2 => rOwnIx C sp (E σ) x y H2 Q) : tIxOS C sp E ta tb σ H Q := k
theorem xf {D dd : Addr} {ea : Addr} {f : Str} {te : TE} {σ : L2.St} {H : Hp} {Q : VK} {fs : List (Str × V)} {v : V} (hd : H dd = some (.xd fs)) (hv : fs.lookup f = some v) (h : te σ H fun x H1 => x = .ref ea ∧ H1 = H) (mono : ∀ R R' : VK, (∀ v H, R v H → R' v H) → te σ H R → te σ H R') (q : Q v H) : tXf ea (.ref D) (some dd) D f te σ H Q :=
  mono _ _ (fun x H1 ⟨h1, h2⟩ => ⟨h1, rfl, dd, fs, v, rfl, by rw [h2]; exact hd, hv, by rw [h2]; exact q⟩) h
theorem xfv {D dd : Addr} {ea : Addr} {f : Str} {i : Nat} {σ : L2.St} {H : Hp} {Q : VK} {fs : List (Str × V)} {v : V} (hd : H dd = some (.xd fs)) (hi : σ[i]? = some (some (.ref ea))) (hv : fs.lookup f = some v) (q : Q v H) : tXf ea (.ref D) (some dd) D f (tVar i) σ H Q :=
  ⟨.ref ea, hi, rfl, rfl, dd, fs, v, rfl, hd, hv, q⟩
theorem isX {K : PySem.W.Frag} {D dd ea : Addr} {H : Hp} {Q : VK} {fs : List (Str × V)} {c : V} {cv : Value} {b : Bool} (hd : H dd = some (.xd fs)) (hc : ClsV c cv) (e : PySem.W.kitOne K (.ref D) cv = some b) (q : Q (.bl b) H) : rIsX K D ea (.ref D) (some dd) [.ref ea, c] H Q :=
  ⟨c, cv, b, dd, fs, rfl, hc, rfl, rfl, hd, e, q⟩
/-! ### names of built-ins -/
theorem bt_abs : bootBuiltins "abs" = some (.builtin "abs") := by decide +kernel
theorem bt_any : bootBuiltins "any" = some (.builtin "any") := by decide +kernel
theorem bt_all : bootBuiltins "all" = some (.builtin "all") := by decide +kernel
theorem bt_dict : bootBuiltins "dict" = some (.type "dict") := by decide +kernel
theorem bt_enumerate : bootBuiltins "enumerate" = some (.type "enumerate") := by decide +kernel
theorem bt_isinstance : bootBuiltins "isinstance" = some (.builtin "isinstance") := by decide +kernel
theorem bt_iter : bootBuiltins "iter" = some (.builtin "iter") := by decide +kernel
theorem bt_len : bootBuiltins "len" = some (.builtin "len") := by decide +kernel
theorem bt_max : bootBuiltins "max" = some (.builtin "max") := by decide +kernel
theorem bt_min : bootBuiltins "min" = some (.builtin "min") := by decide +kernel
theorem bt_range : bootBuiltins "range" = some (.type "range") := by decide +kernel
theorem bt_repr : bootBuiltins "repr" = some (.builtin "repr") := by decide +kernel
theorem bt_reversed : bootBuiltins "reversed" = some (.type "reversed") := by decide +kernel
theorem bt_set : bootBuiltins "set" = some (.type "set") := by decide +kernel
theorem bt_sorted : bootBuiltins "sorted" = some (.builtin "sorted") := by decide +kernel
theorem bt_str : bootBuiltins "str" = some (.type "str") := by decide +kernel
theorem bt_sum : bootBuiltins "sum" = some (.builtin "sum") := by decide +kernel
theorem bt_tuple : bootBuiltins "tuple" = some (.type "tuple") := by decide +kernel
theorem bt_int : bootBuiltins "int" = some (.type "int") := by decide +kernel
theorem bt_bool : bootBuiltins "bool" = some (.type "bool") := by decide +kernel
theorem bt_list : bootBuiltins "list" = some (.type "list") := by decide +kernel
theorem bt_type : bootBuiltins "type" = some (.type "type") := by decide +kernel
theorem bt_zip : bootBuiltins "zip" = some (.type "zip") := by decide +kernel
theorem bt_next : bootBuiltins "next" = some (.builtin "next") := by decide +kernel
theorem bt_ValueError : bootBuiltins "ValueError" = some (.type "ValueError") := by decide +kernel
def MkR (C : Addr) (sp : Sp) (E : XK) (vs : List V) (H1 : Hp) (Q : VK) : Prop := ∀ x dx, H1 x = none → H1 dx = none → dx ≠ x → sp (.ref x :: vs) (upd (upd H1 dx (.own x)) x (.ins C dx [])) (fun v H2 => v = .non ∧ Q (.ref x) H2) E
theorem mk {C : Addr} {σ : L2.St} {H : Hp} {Q : VK} {sp : Sp} {t : TA} (k : t σ H fun vs H1 => MkR C sp E0 vs H1 Q) : tMk C sp t σ H Q := k
theorem mkX {C : Addr} {σ : L2.St} {H : Hp} {Q : VK} {E : XK} {sp : Sp} {t : TA} (k : t σ H fun vs H1 => MkR C sp E vs H1 Q) : tMkX C sp E t σ H Q := k
/-! ### ifs -/
theorem iteb {c : Bool} {A B : Prop} (h1 : c = true → A) (h2 : c = false → B) : if c = true then A else B := by
  cases c with
  | true => rw [if_pos rfl]; exact h1 rfl
  | false => rw [if_neg Bool.false_ne_true]; exact h2 rfl
theorem ited {p : Prop} [Decidable p] {A B : Prop} (h1 : p → A) (h2 : ¬ p → B) : if decide p = true then A else B :=
  iteb (fun e => h1 (of_decide_eq_true e)) fun e => h2 (of_decide_eq_false e)
theorem iten {p : Prop} [Decidable p] {A B : Prop} (h1 : ¬ p → A) (h2 : p → B) : if (!decide p) = true then A else B :=
  iteb (fun e => h1 (by simpa using e)) fun e => h2 (by simpa using e)
theorem iteNT {A B : Prop} (h : B) : if (!true) = true then A else B := h
theorem iteNF {A B : Prop} (h : A) : if (!false) = true then A else B := h
/-! ### sizes, places -/
theorem sz {n : Nat} (h : n ≤ 100000) : n ≤ sizeLine := Nat.le_trans h (by decide)
theorem szr {n : Nat} (h : Nat.ble n 100000 = true) : n ≤ sizeLine := sz (Nat.le_of_ble_eq_true h)
theorem szl {n : Nat} (h : n < 100000) : n < sizeLine := Nat.lt_of_lt_of_le h (by decide)
theorem nat_at {α : Type} {xs : List α} {j : Nat} {z : Int} {v : α} (e : z = (j : Int)) (h : xs[j]? = some v) : atI xs z = some v := by rw [e]; exact atI_nat h
theorem ixN_nat {n j : Nat} {z : Int} (e : z = (j : Int)) (h : j < n) : ixN n z = some j := by
  unfold ixN
  rw [if_pos (by omega), if_pos (by omega), e]
  rfl
/-! ### heaps -/
theorem ext_app {H H' : Hp} {a : Addr} {o : HO} (e : Ext H H') (h : H a = some o) : H' a = some o := e a o h
theorem new_app {H : Hp} {a p : Addr} {o u : HO} (n : H p = none) (h : H a = some o) : upd H p u a = some o := Ext.upd n a o h
theorem upd_app {H : Hp} {a p : Addr} {o u : HO} (ne : a ≠ p) (h : H a = some o) : upd H p u a = some o := by rw [upd_ne ne]; exact h
theorem ext_new {H : Hp} {p : Addr} {u : HO} (n : H p = none) : Ext H (upd H p u) := Ext.upd n
theorem ext_free {H H' : Hp} (e : Ext H H') {p : Addr} (n : H' p = none) : H p = none := by
  cases q : H p with
  | none => rfl
  | some o => rw [e p o q] at n; cases n
theorem ext_L {K : PySem.W.Frag} {H H' : Hp} {a : Addr} {xs : List V} (e : Ext H H') (h : SqL K H a xs) : SqL K H' a xs := h.ext e
theorem ext_T {K : PySem.W.Frag} {H H' : Hp} {a : Addr} {xs : List V} (e : Ext H H') (h : SqT K H a xs) : SqT K H' a xs := h.ext e
/-- a heap without the objects at O -/
def hid (O : List Addr) (H : Hp) : Hp := fun b => if b ∈ O then none else H b
theorem hid_ne {O : List Addr} {a : Addr} {H : Hp} (h : a ∉ O) : hid O H a = H a := if_neg h
theorem hid_in {O : List Addr} {a : Addr} {H : Hp} (h : a ∈ O) : hid O H a = none := if_pos h
theorem hid_nil {H : Hp} : hid [] H = H := by funext b; exact hid_ne (by simp)
theorem hid_at {O : List Addr} {a : Addr} {H : Hp} {o : HO} (h : hid O H a = some o) : H a = some o ∧ a ∉ O := by
  by_cases e : a ∈ O
  · rw [hid_in e] at h; cases h
  · rw [hid_ne e] at h; exact ⟨h, e⟩
theorem hid_upd {O : List Addr} {p : Addr} {H : Hp} {u : HO} (h : p ∈ O) : hid O (upd H p u) = hid O H := by
  funext b
  by_cases e : b ∈ O
  · rw [hid_in e, hid_in e]
  · rw [hid_ne e, hid_ne e, upd_ne (fun z => e (by rw [z]; exact h))]
theorem hid_ext {O : List Addr} {H : Hp} : Ext (hid O H) H := fun a o h => (hid_at h).1
theorem ext_rfl {H : Hp} : Ext H H := fun _ _ h => h
theorem ext_hid {O : List Addr} {H H' : Hp} (e : Ext H H') : Ext (hid O H) (hid O H') := fun a o h => by
  obtain ⟨h1, h2⟩ := hid_at h
  rw [hid_ne h2]
  exact e a o h1
/-- a new object, O's stay hidden -/
theorem hid_new {O : List Addr} {p : Addr} {H : Hp} {u : HO} (h : p ∉ O) : hid O (upd H p u) p = some u := by rw [hid_ne h, upd_same]
theorem not_in {O : List Addr} {p : Addr} {H : Hp} (h : H p = none) (ho : ∀ a ∈ O, ∃ u, H a = some u) : p ∉ O := fun z => by
  obtain ⟨u, e⟩ := ho p z
  rw [h] at e; cases e
theorem ext_hid_new {O : List Addr} {p : Addr} {H : Hp} {u : HO} (h : H p = none) : Ext (hid O H) (hid O (upd H p u)) := ext_hid (Ext.upd h)
theorem ext_hid_upd {O : List Addr} {p : Addr} {H : Hp} {u : HO} (h : p ∈ O) : Ext (hid O H) (hid O (upd H p u)) := by rw [hid_upd h]; exact ext_rfl
/-- from a heap that does not know O -/
theorem ext_to_hid {O : List Addr} {H H' : Hp} (e : Ext H H') (h : ∀ a ∈ O, H a = none) : Ext H (hid O H') := fun a o q => by
  rw [hid_ne (fun z => by rw [h a z] at q; cases q)]
  exact e a o q
/-! ### pairs -/
theorem paired_snoc {α β : Type} {R : α → β → Prop} {a : α} {b : β} (h : R a b) : ∀ {xs : List α} {ys : List β}, Paired R xs ys → Paired R (xs ++ [a]) (ys ++ [b])
  | _, _, .nil => .cons h .nil
  | _, _, .cons r t => .cons r (paired_snoc h t)
theorem paired_map {α β : Type} {f : α → β} : ∀ {xs : List α} {ys : List β}, Paired (fun a b => b = f a) xs ys → ys = xs.map f
  | _, _, .nil => rfl
  | _, _, .cons r t => by rw [r, paired_map t]; rfl
theorem paired_of_map {α β : Type} {f : α → β} {R : α → β → Prop} (h : ∀ a, R a (f a)) : ∀ xs : List α, Paired R xs (xs.map f)
  | [] => .nil
  | x :: xs => .cons (h x) (paired_of_map h xs)
theorem paired_len {α β : Type} {R : α → β → Prop} : ∀ {xs : List α} {ys : List β}, Paired R xs ys → xs.length = ys.length
  | _, _, .nil => rfl
  | _, _, .cons _ t => by rw [List.length_cons, List.length_cons, paired_len t]
theorem paired_imp {α β : Type} {R S : α → β → Prop} (h : ∀ a b, R a b → S a b) : ∀ {xs : List α} {ys : List β}, Paired R xs ys → Paired S xs ys
  | _, _, .nil => .nil
  | _, _, .cons r t => .cons (h _ _ r) (paired_imp h t)
theorem paired_at {α β : Type} {R : α → β → Prop} : ∀ {xs : List α} {ys : List β} {i : Nat} {x : α}, Paired R xs ys → xs[i]? = some x → ∃ y, ys[i]? = some y ∧ R x y
  | _, _, _, _, .nil, e => by simp at e
  | _, _, 0, _, .cons r _, e => by simp at e; subst e; exact ⟨_, rfl, r⟩
  | _, _, i + 1, x, .cons _ t, e => by
    obtain ⟨y, h1, h2⟩ := paired_at (i := i) (x := x) t (by simpa using e)
    exact ⟨y, by simpa using h1, h2⟩
theorem paired_mapl {α β γ : Type} {f : α → γ} {R : γ → β → Prop} : ∀ {xs : List α} {ys : List β}, Paired (fun a b => R (f a) b) xs ys → Paired R (xs.map f) ys
  | _, _, .nil => .nil
  | _, _, .cons r t => .cons r (paired_mapl t)
theorem take_snoc {α : Type} {l : List α} {i : Nat} {x : α} (h : l[i]? = some x) : l.take (i + 1) = l.take i ++ [x] := by
  rw [List.take_succ, h]; rfl
theorem filter_snoc {α : Type} (keep : α → Bool) {l : List α} {i : Nat} {x : α} (h : l[i]? = some x) : (l.take (i + 1)).filter keep = (l.take i).filter keep ++ (if keep x = true then [x] else []) := by
  rw [take_snoc h, List.filter_append]
  congr 1
  cases e : keep x with
  | true => simp [e]
  | false => simp [e]
/-! ### comprehensions: the items told, what each kept one gives -/
section
variable {α : Type} {J : It} {G : Hp → Prop} {Y : Nat → Hp → V → Hp → Prop} {items : List α} {Yi : α → Hp → V → Hp → Prop}
theorem lcG (w : Walk J items.length G Y) (hy : ∀ i H x H', Y i H x H' → ∃ it, items[i]? = some it ∧ Yi it H x H') (hn : items.length < 100000)
    {g : TG} {tt : TT} {te : TE} {vs : List Nat} {σ : L2.St} {H1 : Hp} {D : Addr} {Qd : Hp → Prop} (O : List Addr) (I : Hp → Prop) (keep : α → Bool) (R : α → V → Hp → Prop) (mono : ∀ a y H H', Ext H H' → R a y H → R a y H')
    (hD : H1 D = none) (hO : D ∉ O) (hI : ∀ H u, I H → I (upd H D u)) (i0 : I H1) (hG : ∀ H, Ext (hid O H1) (hid O H) → I H → G H)
    (hs : ∀ (i : Nat) it x H H' acc, items[i]? = some it → Ext (hid O H1) (hid O H) → I H → H D = some (.lst acc) → Yi it H x H' → ∀ (Qy : VK) (Qn : Hp → Prop),
      (∀ y H4, Ext (hid O H) (hid O H4) → I H4 → keep it = true → R it y (hid (D :: O) H4) → Qy y H4) → (∀ H3, Ext (hid O H) (hid O H3) → I H3 → keep it = false → Qn H3) →
      g x (wipe σ vs) H' fun σ2 H2 => wipe σ2 vs = wipe σ vs ∧ tt σ2 H2 fun b H3 => if b = true then te σ2 H3 Qy else Qn H3)
    (hd : ∀ ys H, Ext (hid O H1) (hid O H) → I H → H D = some (.lst ys) → Paired (fun a y => R a y (hid (D :: O) H)) (items.filter keep) ys → Qd H) :
    ∃ W : Nat → Nat → Hp → Prop, (∃ m, W 0 m (upd H1 D (.lst []))) ∧ ∀ i m H, W i m H →
      (J.stop i H ∧ Qd H) ∨ (J.go i H ∧ ∃ Nx : Hp → Prop, (∀ H', Nx H' → ∃ m', m' < m ∧ W (i + 1) m' H') ∧ ∀ x H', J.yld i H x H' → g x (wipe σ vs) H' fun σ2 H2 => wipe σ2 vs = wipe σ vs ∧ tt σ2 H2 fun b H3 =>
        if b = true then te σ2 H3 fun y H4 => ∃ acc, H4 D = some (.lst acc) ∧ acc.length < sizeLine ∧ Nx (upd H4 D (.lst (acc ++ [y]))) else Nx H3) := by
  have dd : ∀ H u, hid (D :: O) (upd H D u) = hid (D :: O) H := fun H u => hid_upd List.mem_cons_self
  have fe : ∀ {H : Hp} {u : HO}, Ext (hid O H1) (hid O H) → Ext (hid O H1) (hid O (upd H D u)) := fun {H u} e a o h => by
    have e2 := e a o h
    obtain ⟨h1, h2⟩ := hid_at h
    rw [hid_ne h2, upd_ne (ne_of_none h1 hD)]
    exact (hid_at e2).1
  have keepD : ∀ {H H4 : Hp} {u : HO}, Ext (hid O H) (hid O H4) → H D = some u → H4 D = some u := fun {H H4 u} e h => by
    have e2 := e D u (by rw [hid_ne hO]; exact h)
    exact (hid_at e2).1
  have hidD : ∀ {H H4 : Hp}, Ext (hid O H) (hid O H4) → Ext (hid (D :: O) H) (hid (D :: O) H4) := fun {H H4} e a o h => by
    obtain ⟨h1, h2⟩ := hid_at h
    have e2 := e a o (by rw [hid_ne fun z => h2 (List.mem_cons_of_mem _ z)]; exact h1)
    rw [hid_ne h2]
    exact (hid_at e2).1
  refine lc_it w (fun i H => Ext (hid O H1) (hid O H) ∧ I H ∧ ∃ ys, H D = some (.lst ys) ∧ Paired (fun a y => R a y (hid (D :: O) H)) ((items.take i).filter keep) ys)
    ⟨fe ext_rfl, hI _ _ i0, [], upd_same, .nil⟩ (fun i H hi p => hG H p.1 p.2.1) ?_ ?_
  · rintro i x H H' hi ⟨e, hi2, ys, hys, pr⟩ y
    obtain ⟨it, hit, yi⟩ := hy i H x H' y
    have hlen : ys.length < 100000 := by
      have h1 := paired_len pr
      have h2 := List.length_filter_le keep (items.take i)
      rw [List.length_take] at h2
      omega
    refine hs i it x H H' ys hit e hi2 hys yi _ _ (fun v H4 e4 i4 k4 r4 => ?_) (fun H3 e3 i3 k3 => ?_)
    · refine ⟨ys, keepD e4 hys, szl hlen, fe (e.trans e4), hI _ _ i4, ys ++ [v], upd_same, ?_⟩
      rw [filter_snoc keep hit, if_pos k4, dd]
      exact paired_snoc (R := fun a y => R a y (hid (D :: O) H4)) r4 (paired_imp (fun a b r => mono a b _ _ (hidD e4) r) pr)
    · refine ⟨e.trans e3, i3, ys, keepD e3 hys, ?_⟩
      rw [filter_snoc keep hit, k3, if_neg Bool.false_ne_true, List.append_nil]
      exact paired_imp (fun a b r => mono a b _ _ (hidD e3) r) pr
  · rintro H ⟨e, hi2, ys, hys, pr⟩
    rw [List.take_length] at pr
    exact hd ys H e hi2 hys pr
end
/-- over a list, a tuple, a range: what is yielded -/
theorem yat {α : Type} {xs : List α} {emb : α → V} : ∀ i H x H', YAt (xs.map emb) i H x H' → ∃ it, xs[i]? = some it ∧ (H' = H ∧ x = emb it) := fun i H x H' h => by
  obtain ⟨rfl, h⟩ := h
  rw [List.getElem?_map] at h
  cases e : xs[i]? with
  | none => rw [e] at h; cases h
  | some it => rw [e] at h; exact ⟨it, rfl, rfl, (Option.some.inj h).symm⟩
theorem yfn {n : Nat} {f : Nat → V} : ∀ i H x H', i < n → YFn f i H x H' → ∃ it, (List.range n)[i]? = some it ∧ (H' = H ∧ x = f it) := fun i H x H' hi h => by
  obtain ⟨rfl, rfl⟩ := h
  exact ⟨i, by rw [List.getElem?_range hi], rfl, rfl⟩
section
variable {α : Type} {J : It} {G : Hp → Prop} {Y : Nat → Hp → V → Hp → Prop} {items : List α} {K : PySem.W.Frag}
/-- nothing but new objects; the elements' values by their items -/
theorem lcE {emb : α → V} (w : Walk J items.length G Y) (hy : ∀ i H x H', Y i H x H' → ∃ it, items[i]? = some it ∧ (H' = H ∧ x = emb it)) (hn : items.length < 100000)
    {g : TG} {tt : TT} {te : TE} {vs : List Nat} {σ : L2.St} {H1 : Hp} {D : Addr} {Qd : Hp → Prop} (keep : α → Bool) (R : α → V → Hp → Prop) (mono : ∀ a y H H', Ext H H' → R a y H → R a y H')
    (hD : H1 D = none) (hG : ∀ H, Ext H1 H → G H)
    (hs : ∀ (i : Nat) it H acc, items[i]? = some it → Ext H1 H → H D = some (.lst acc) → ∀ (Qy : VK) (Qn : Hp → Prop),
      (∀ y H4, Ext H H4 → keep it = true → R it y (hid [D] H4) → Qy y H4) → (∀ H3, Ext H H3 → keep it = false → Qn H3) →
      g (emb it) (wipe σ vs) H fun σ2 H2 => wipe σ2 vs = wipe σ vs ∧ tt σ2 H2 fun b H3 => if b = true then te σ2 H3 Qy else Qn H3)
    (hd : ∀ ys H, Ext H1 H → H D = some (.lst ys) → Paired (fun a y => R a y (hid [D] H)) (items.filter keep) ys → Qd H) :
    ∃ W : Nat → Nat → Hp → Prop, (∃ m, W 0 m (upd H1 D (.lst []))) ∧ ∀ i m H, W i m H →
      (J.stop i H ∧ Qd H) ∨ (J.go i H ∧ ∃ Nx : Hp → Prop, (∀ H', Nx H' → ∃ m', m' < m ∧ W (i + 1) m' H') ∧ ∀ x H', J.yld i H x H' → g x (wipe σ vs) H' fun σ2 H2 => wipe σ2 vs = wipe σ vs ∧ tt σ2 H2 fun b H3 =>
        if b = true then te σ2 H3 fun y H4 => ∃ acc, H4 D = some (.lst acc) ∧ acc.length < sizeLine ∧ Nx (upd H4 D (.lst (acc ++ [y]))) else Nx H3) := by
  have z : ∀ {H H' : Hp}, Ext (hid [] H) (hid [] H') ↔ Ext H H' := fun {H H'} => by rw [hid_nil, hid_nil]
  refine lcG w (Yi := fun it H x H' => H' = H ∧ x = emb it) hy hn [] (fun _ => True) keep R mono hD (by simp) (fun _ _ _ => trivial) trivial (fun H e _ => hG H (z.mp e)) ?_ ?_
  · rintro i it x H H' acc hit e _ ha ⟨rfl, rfl⟩ Qy Qn ky kn
    exact hs i it H' acc hit (z.mp e) ha Qy Qn (fun y H4 e4 => ky y H4 (z.mpr e4) trivial) (fun H3 e3 => kn H3 (z.mpr e3) trivial)
  · intro ys H e _ hys pr
    exact hd ys H (z.mp e) hys pr
end
theorem walk_rangeN {n : Nat} : Walk (Itr 0 n) (List.range n).length (fun _ => True) (fun i H x H' => i < n ∧ YFn (fun i => .int (0 + (i : Nat))) i H x H') := by
  rw [List.length_range]
  exact ⟨fun _ _ hi _ => hi, fun _ _ => Nat.le_refl _, fun i _ _ _ hi _ y => ⟨hi, y⟩⟩
theorem yrng {n : Nat} : ∀ i H x H', (i < n ∧ YFn (fun i => V.int (0 + (i : Nat))) i H x H') → ∃ it, (List.range n)[i]? = some it ∧ (H' = H ∧ x = V.int (it : Nat)) := fun i H x H' h => by
  obtain ⟨it, h1, h2, h3⟩ := yfn i H x H' h.1 h.2
  exact ⟨it, h1, h2, by rw [h3, Int.zero_add]⟩
theorem walk_listM {α : Type} {K : PySem.W.Frag} {a : Addr} {xs : List α} {emb : α → V} : Walk (Itl K a) xs.length (fun H => SqL K H a (xs.map emb)) (YAt (xs.map emb)) := by
  have w := walk_list (K := K) (a := a) (xs := xs.map emb)
  rw [List.length_map] at w
  exact w
theorem walk_tupM {α : Type} {K : PySem.W.Frag} {a : Addr} {xs : List α} {emb : α → V} : Walk (Itt K a) xs.length (fun H => SqT K H a (xs.map emb)) (YAt (xs.map emb)) := by
  have w := walk_tup (K := K) (a := a) (xs := xs.map emb)
  rw [List.length_map] at w
  exact w
/-- values that say nothing of the heap -/
theorem pure_mono {α : Type} {f : α → V} : ∀ (a : α) (y : V) (H H' : Hp), Ext H H' → y = f a → y = f a := fun _ _ _ _ _ h => h
/-! ### what is walked -/
def LcB (J : It) (g : TG) (tt : TT) (te : TE) (vs : List Nat) (σ : L2.St) (H1 : Hp) (Q : VK) : Prop := ∀ D, H1 D = none → ∃ W : Nat → Nat → Hp → Prop, (∃ m, W 0 m (upd H1 D (.lst []))) ∧ ∀ i m H, W i m H →
  (J.stop i H ∧ Q (.ref D) H) ∨ (J.go i H ∧ ∃ Nx : Hp → Prop, (∀ H', Nx H' → ∃ m', m' < m ∧ W (i + 1) m' H') ∧ ∀ x H', J.yld i H x H' → g x (wipe σ vs) H' fun σ2 H2 => wipe σ2 vs = wipe σ vs ∧ tt σ2 H2 fun b H3 =>
    if b = true then te σ2 H3 fun y H4 => ∃ acc, H4 D = some (.lst acc) ∧ acc.length < sizeLine ∧ Nx (upd H4 D (.lst (acc ++ [y]))) else Nx H3)
def ForB (J : It) (g : TG) (tb : TS) (D : Ends) (σ : L2.St) (H1 : Hp) : Prop := ∃ W : Nat → Nat → L2.St → Hp → Prop, (∃ m, W 0 m σ H1) ∧ ∀ i m σ H, W i m σ H →
  (J.stop i H ∧ D.nx σ H) ∨ (J.go i H ∧ ∃ N : L2.St → Hp → Prop, (∀ σ' H', N σ' H' → ∃ m', m' < m ∧ W (i + 1) m' σ' H') ∧ ∀ x H', J.yld i H x H' → g x σ H' fun σ2 H2 => tb { D with nx := N, ct := N, bk := D.nx } σ2 H2)
section
variable {K : PySem.W.Frag} {g : TG} {tt : TT} {te tl : TE} {ta : TA} {vs : List Nat} {σ : L2.St} {H : Hp} {Q : VK} {tb : TS} {D : Ends} {wi : TI}
theorem lcT (k : tl σ H fun x H1 => ∃ a, x = .ref a ∧ (∃ xs, SqT K H1 a xs) ∧ LcB (Itt K a) g tt te vs σ H1 Q) : tLc (iTup K tl) g tt te vs σ H Q := k
theorem lcL (k : tl σ H fun x H1 => ∃ a, x = .ref a ∧ (∃ xs, SqL K H1 a xs) ∧ LcB (Itl K a) g tt te vs σ H1 Q) : tLc (iList K tl) g tt te vs σ H Q := k
theorem lcR (k : ta σ H fun vs' H1 => ∃ j : Int, vs' = [.int j] ∧ -(2 ^ 62) ≤ j ∧ j < 2 ^ 62 ∧ LcB (Itr 0 j.toNat) g tt te vs σ H1 Q) : tLc (iRng1 ta) g tt te vs σ H Q := k
theorem forT (k : tl σ H fun x H1 => ∃ a, x = .ref a ∧ (∃ xs, SqT K H1 a xs) ∧ ForB (Itt K a) g tb D σ H1) : tFor (iTup K tl) g tb D σ H := k
theorem forL (k : tl σ H fun x H1 => ∃ a, x = .ref a ∧ (∃ xs, SqL K H1 a xs) ∧ ForB (Itl K a) g tb D σ H1) : tFor (iList K tl) g tb D σ H := k
theorem forR (k : ta σ H fun vs' H1 => ∃ j : Int, vs' = [.int j] ∧ -(2 ^ 62) ≤ j ∧ j < 2 ^ 62 ∧ ForB (Itr 0 j.toNat) g tb D σ H1) : tFor (iRng1 ta) g tb D σ H := k
theorem yes {R : Bool → Hp → Prop} (k : R true H) : tYes σ H R := k
end
/-! ### data: == by an encoding -/
structure Enc {α : Type} [DecidableEq α] (f : α → PyData) (k : Nat) : Prop where
  eq : ∀ a b, PyData.eqv (f a) (f b) = decide (a = b)
  lay : ∀ a, (f a).canLay0 = true
  dep : ∀ a, (f a).depth ≤ k
theorem eqvAll_map {α : Type} [DecidableEq α] {f : α → PyData} (h : ∀ a b, PyData.eqv (f a) (f b) = decide (a = b)) : ∀ xs ys : List α, PyData.eqvAll (xs.map f) (ys.map f) = decide (xs = ys)
  | [], [] => by simp [PyData.eqvAll]
  | [], _ :: _ => by simp [PyData.eqvAll]
  | _ :: _, [] => by simp [PyData.eqvAll]
  | x :: xs, y :: ys => by
    rw [List.map_cons, List.map_cons, PyData.eqvAll, h, eqvAll_map h xs ys, Bool.eq_iff_iff]
    simp
theorem layAll_map {α : Type} {f : α → PyData} (h : ∀ a, (f a).canLay0 = true) : ∀ xs : List α, PyData.canLayAll0 (xs.map f) = true
  | [] => by simp [PyData.canLayAll0]
  | x :: xs => by rw [List.map_cons, PyData.canLayAll0, h, layAll_map h xs]; rfl
theorem depAll_map {α : Type} {f : α → PyData} {k : Nat} (h : ∀ a, (f a).depth ≤ k) : ∀ xs : List α, PyData.depthAll (xs.map f) ≤ k
  | [] => by simp [PyData.depthAll]
  | x :: xs => by rw [List.map_cons, PyData.depthAll]; exact Nat.max_le.mpr ⟨h x, depAll_map h xs⟩
section
variable {α β : Type} [DecidableEq α] [DecidableEq β] {f : α → PyData} {g : β → PyData} {k m : Nat}
theorem Enc.shaped (e : Enc f k) (h : k ≤ 64 := by decide) (a : α) : SeqAt.shaped (f a) = true := by
  unfold SeqAt.shaped
  rw [e.lay a, decide_eq_true (Nat.le_trans (e.dep a) h)]; rfl
theorem Enc.int : Enc PyData.int 0 := ⟨fun a b => by rw [PyData.eqv]; exact Bool.beq_eq_decide_eq a b, fun a => by rw [PyData.canLay0], fun a => by rw [PyData.depth]; exact Nat.le_refl _⟩
theorem Enc.bool : Enc PyData.bool 0 := ⟨fun a b => by rw [PyData.eqv]; exact Bool.beq_eq_decide_eq a b, fun a => by rw [PyData.canLay0], fun a => by rw [PyData.depth]; exact Nat.le_refl _⟩
theorem Enc.list (e : Enc f k) : Enc (fun xs : List α => PyData.list (xs.map f)) (k + 1) :=
  ⟨fun a b => by rw [PyData.eqv]; exact eqvAll_map e.eq a b, fun a => by rw [PyData.canLay0]; exact layAll_map e.lay a, fun a => by rw [PyData.depth]; exact Nat.succ_le_succ (depAll_map e.dep a)⟩
theorem Enc.tuple (e : Enc f k) : Enc (fun xs : List α => PyData.tuple (xs.map f)) (k + 1) :=
  ⟨fun a b => by rw [PyData.eqv]; exact eqvAll_map e.eq a b, fun a => by rw [PyData.canLay0]; exact layAll_map e.lay a, fun a => by rw [PyData.depth]; exact Nat.succ_le_succ (depAll_map e.dep a)⟩
theorem Enc.pair (e : Enc f k) (e' : Enc g m) : Enc (fun p : α × β => PyData.tuple [f p.1, g p.2]) (max k m + 1) :=
  ⟨fun a b => by
    rw [PyData.eqv, PyData.eqvAll, PyData.eqvAll, PyData.eqvAll, e.eq, e'.eq, Bool.eq_iff_iff]
    simp [Prod.ext_iff], fun a => by rw [PyData.canLay0, PyData.canLayAll0, PyData.canLayAll0, PyData.canLayAll0, e.lay, e'.lay]; rfl,
   fun a => by
    rw [PyData.depth, PyData.depthAll, PyData.depthAll, PyData.depthAll]
    have h1 := e.dep a.1
    have h2 := e'.dep a.2
    omega⟩
theorem dpAll_map {K : PySem.W.Frag} {H : Hp} {emb : α → V} (h : ∀ a, Dp K H (emb a) (f a)) : ∀ xs : List α, DpAll K H (xs.map emb) (xs.map f)
  | [] => .nil
  | x :: xs => .cons (h x) (dpAll_map h xs)
theorem dpAll_paired {K : PySem.W.Frag} {H : Hp} {R : α → V → Prop} (h : ∀ a v, R a v → Dp K H v (f a)) : ∀ {xs : List α} {ys : List V}, Paired R xs ys → DpAll K H ys (xs.map f)
  | _, _, .nil => .nil
  | _, _, .cons r t => .cons (h _ _ r) (dpAll_paired h t)
end
section
variable {K : PySem.W.Frag} {H : Hp} {Q : VK} {x y : V} {α : Type} [DecidableEq α] {f : α → PyData} {k : Nat} {a b : α}
theorem eqD (e : Enc f k) (hx : Dp K H x (f a)) (hy : Dp K H y (f b)) (q : Q (.bl (decide (a = b))) H) (h : k ≤ 64 := by decide) : rEqD K x y H Q := ⟨_, _, hx, hy, e.shaped h a, e.shaped h b, by rw [e.eq]; exact q⟩
theorem neD (e : Enc f k) (hx : Dp K H x (f a)) (hy : Dp K H y (f b)) (q : Q (.bl (!decide (a = b))) H) (h : k ≤ 64 := by decide) : rNeD K x y H Q := ⟨_, _, hx, hy, e.shaped h a, e.shaped h b, by rw [e.eq]; exact q⟩
theorem dp_ints {p : Addr} {xs : List Int} (h : SqL K H p (xs.map V.int)) : Dp K H (.ref p) (PyData.list (xs.map PyData.int)) := .lst h (dpAll_map (fun a => .int a) xs)
theorem dp_tints {p : Addr} {xs : List Int} (h : SqT K H p (xs.map V.int)) : Dp K H (.ref p) (PyData.tuple (xs.map PyData.int)) := .tup h (dpAll_map (fun a => .int a) xs)
end
abbrev encInts : Enc (fun xs : List Int => PyData.list (xs.map PyData.int)) 1 := Enc.int.list
abbrev encTInts : Enc (fun xs : List Int => PyData.tuple (xs.map PyData.int)) 1 := Enc.int.tuple
/-! ### tuple(..) of a list or a tuple -/
def rTupOf (K : PySem.W.Frag) : List V → Hp → VK → Prop := fun xs H Q => ∃ p ys, xs = [.ref p] ∧ ((SqL K H p ys ∧ ∀ l, H l = none → Q (.ref l) (upd H l (.tup ys))) ∨ (SqT K H p ys ∧ Q (.ref p) H))
theorem c_tuple {K : PySem.W.Frag} {X : Cx} (h : X.K = K := by rfl) : CallR X (.type "tuple") (rTupOf K) := by subst h; exact call_tuple_of
theorem c_isi {K : PySem.W.Frag} {X : Cx} (h : X.K = K := by rfl) : CallR X (.builtin "isinstance") (rIsi K) := by subst h; exact call_isi
theorem tupL {K : PySem.W.Frag} {H : Hp} {Q : VK} {p : Addr} {xs : List V} (h : SqL K H p xs) (k : ∀ l, H l = none → Q (.ref l) (upd H l (.tup xs))) : rTupOf K [.ref p] H Q := ⟨p, xs, rfl, .inl ⟨h, k⟩⟩
theorem tupT {K : PySem.W.Frag} {H : Hp} {Q : VK} {p : Addr} {xs : List V} (h : SqT K H p xs) (k : Q (.ref p) H) : rTupOf K [.ref p] H Q := ⟨p, xs, rfl, .inr ⟨h, k⟩⟩
end Rd

set_option Elab.async false
set_option linter.all false
set_option maxRecDepth 100000
set_option maxHeartbeats 0
/-! Rules with the fragment named, so that they can stand within blocks. -/
namespace L2
theorem Room.units1 {k : Nat} {A : PySem.Around} (r : Room k A) : A.units + 1 < PySem.cLine := by have := r.un; omega
theorem Room.units65 {k : Nat} {A : PySem.Around} (r : Room k A) : A.units + 65 < PySem.cLine := by have := r.un; omega
end L2
namespace OwX
open PySem PySem.Spec PyProof.Rows L2
section
variable {X : Cx} {k : Nat} {C f : Addr} {m : Str} {sp : Sp} {o e : Expr} {es : List Expr} {ta : TE} {t : TA} {apos pos : Pos} {pl : Sem Bool} {E : XK}
/-- o.m(e, ..), what is raised goes on to E -/
theorem pe_meX (c : Cls X.K C) (hm : Meth X.K C m f) (F : FnR X.prog X.w X.K X.mg X.base (L2.CX X.prog X.w) k f sp) (hr : Room k X.A) (hx : Passes (L2.CX X.prog X.w) X E) (he : PE X o ta) (ha : PA X (e :: es) t)
    (hst : starEach (e :: es) X.env = (false, eval e X.env) :: starEach es X.env := by rfl) (hpl : (backTo pos (starEach es X.env)).any (·.1) = false := by rfl)
    (ht : eval (.Call (.Attribute o m apos) (e :: es) [] pos) X.env = (do
      let ov ← eval o X.env
      standAt apos.atName
      let (f, first) ← holding [ov] (getMethod ov m pl)
      callWith pos f first (backTo pos (starEach (e :: es) X.env)) (backToKw pos (keywordEach [] X.env))) := by rfl) :
    PE X (.Call (.Attribute o m apos) (e :: es) [] pos) (tMethR C m sp E ta t) := pe_methR (pl := pl) he c hm F hr hx ha hst hpl ht
theorem pe_me (c : Cls X.K C) (hm : Meth X.K C m f) (F : FnR X.prog X.w X.K X.mg X.base (L2.CX X.prog X.w) k f sp) (hr : Room k X.A) (he : PE X o ta) (ha : PA X (e :: es) t)
    (hst : starEach (e :: es) X.env = (false, eval e X.env) :: starEach es X.env := by rfl) (hpl : (backTo pos (starEach es X.env)).any (·.1) = false := by rfl)
    (ht : eval (.Call (.Attribute o m apos) (e :: es) [] pos) X.env = (do
      let ov ← eval o X.env
      standAt apos.atName
      let (f, first) ← holding [ov] (getMethod ov m pl)
      callWith pos f first (backTo pos (starEach (e :: es) X.env)) (backToKw pos (keywordEach [] X.env))) := by rfl) :
    PE X (.Call (.Attribute o m apos) (e :: es) [] pos) (tMethR C m sp E0 ta t) := pe_methR (pl := pl) he c hm F hr passL ha hst hpl ht
/-- o.m() -/
def tMe0 (C : Addr) (m : Str) (sp : Sp) (E : XK) (ta : TE) : TE := fun σ H Q => ta σ H fun x H1 => ∃ a dx fs, x = .ref a ∧ H1 a = some (.ins C dx fs) ∧ fs.lookup m = none ∧ sp [.ref a] H1 Q E
theorem pe_me0X (c : Cls X.K C) (hm : Meth X.K C m f) (F : FnR X.prog X.w X.K X.mg X.base (L2.CX X.prog X.w) k f sp) (hr : Room k X.A) (hx : Passes (L2.CX X.prog X.w) X E) (he : PE X o ta)
    (ht : eval (.Call (.Attribute o m apos) [] [] pos) X.env = (do
      let ov ← eval o X.env
      standAt apos.atName
      let (f, first) ← holding [ov] (getMethod ov m pl)
      callWith pos f first (backTo pos (starEach [] X.env)) (backToKw pos (keywordEach [] X.env))) := by rfl) :
    PE X (.Call (.Attribute o m apos) [] [] pos) (tMe0 C m sp E ta) := by
  refine ⟨fun pins s σ H Q I h => ?_⟩
  refine PySem.W.methodCall_KW (pl := pl) (thn (he.run pins s σ H _ I h) fun u s1 ⟨x, H1, I1, rx, a, dx, fs, ex, ea, l, q⟩ => ?_) ht
  subst ex
  obtain rfl : u = Value.ref a := rx
  refine getmeth_ok I1 ea c hm l ?_
  exact PySem.W.callWith_K0 (first := [.ref a]) I1.kIn hm.kp (call_own (us := [.ref a]) (vs := [.ref a]) F hr rfl hx I1 (.cons rfl .nil) q)
theorem pe_me0 (c : Cls X.K C) (hm : Meth X.K C m f) (F : FnR X.prog X.w X.K X.mg X.base (L2.CX X.prog X.w) k f sp) (hr : Room k X.A) (he : PE X o ta)
    (ht : eval (.Call (.Attribute o m apos) [] [] pos) X.env = (do
      let ov ← eval o X.env
      standAt apos.atName
      let (f, first) ← holding [ov] (getMethod ov m pl)
      callWith pos f first (backTo pos (starEach [] X.env)) (backToKw pos (keywordEach [] X.env))) := by rfl) :
    PE X (.Call (.Attribute o m apos) [] [] pos) (tMe0 C m sp E0 ta) := pe_me0X (pl := pl) c hm F hr passL he ht
end
end OwX
namespace GW
open PySem PySem.Spec PyProof.Rows L2 OwX
variable {K : PySem.W.Frag} {X : Cx}
section
variable {o e e1 e2 tg l : Expr} {f : Str} {ta tb tl : TE} {t : TA} {pos p : Pos}
theorem fld (he : PE X e ta) (h : X.K = K := by rfl) (hb : attributeBase e f X.env (eval e X.env) = eval e X.env := by rfl) : PE X (.Attribute e f pos) (tFld K ta f) := by subst h; exact pe_fld he hb
theorem ixL (h : X.K = K := by rfl) : IxR X (rIxL K) := by subst h; exact ix_list
theorem ixT (h : X.K = K := by rfl) : IxR X (rIxT K) := by subst h; exact ix_tup
theorem eqD (hu : X.A.units + 64 < cLine) (h : X.K = K := by rfl) : OpR X (compareOp .Eq) (rEqD K) := by subst h; exact op_eqD hu
theorem neD (hu : X.A.units + 64 < cLine) (h : X.K = K := by rfl) : OpR X (compareOp .NotEq) (rNeD K) := by subst h; exact op_neD hu
theorem inS (h : X.K = K := by rfl) : OpR X (compareOp .In) (rIn K false) := by subst h; exact op_in_seq
theorem niS (h : X.K = K := by rfl) : OpR X (compareOp .NotIn) (rIn K true) := by subst h; exact op_notIn_seq
theorem inD (hu : X.A.units + 65 < cLine) (h : X.K = K := by rfl) : OpR X (compareOp .In) (rInD K) := by subst h; exact op_inD hu
theorem niD (hu : X.A.units + 65 < cLine) (h : X.K = K := by rfl) : OpR X (compareOp .NotIn) (rNotInD K) := by subst h; exact op_notInD hu
theorem catT (h : X.K = K := by rfl) : OpR X (binaryOp .Add) (rCatT K) := by subst h; exact op_catT
theorem ltT (hu : X.A.units < cLine) (h : X.K = K := by rfl) : OpR X (compareOp .Lt) (rLtT K) := by subst h; exact op_ltT hu
theorem slL (h : X.K = K := by rfl) : SlR X (rSlL K) := by subst h; exact sl_list
theorem slA (h : X.K = K := by rfl) : SlR X (rSlA K) := by subst h; exact sl_tupA
theorem sum (hc : X.calm = true) (h : X.K = K := by rfl) : CallR X (.builtin "sum") (rSum K) := by subst h; exact cr_sum hc
theorem any (hc : X.calm = true) (h : X.K = K := by rfl) : CallR X (.builtin "any") (rAny K) := by subst h; exact cr_any hc
theorem all (hc : X.calm = true) (h : X.K = K := by rfl) : CallR X (.builtin "all") (rAll K) := by subst h; exact cr_all hc
theorem max (hc : X.calm = true) (h : X.K = K := by rfl) : CallR X (.builtin "max") (rMax K) := by subst h; exact cr_max hc
theorem min (hc : X.calm = true) (h : X.K = K := by rfl) : CallR X (.builtin "min") (rMin K) := by subst h; exact cr_min hc
theorem pi_list (hl : PE X l tl) (h : X.K = K := by rfl) : PI X tg l (iList K tl) := by subst h; exact L2.pi_list hl
theorem pi_tup (hl : PE X l tl) (h : X.K = K := by rfl) : PI X tg l (iTup K tl) := by subst h; exact L2.pi_tup hl
theorem revL {k : Nat} {p1 p2 p3 : Pos} (he : PE X e ta) (h : X.K = K := by rfl) : PE X (.Subscript e (.Slice none none (some (.UnaryOp .USub (.Constant (.int 1) k p1) p2)) p3) pos) (tRevL K ta) := by subst h; exact pe_revL he
theorem zip {elts : List Expr} {kk : Nat} {tpos : Pos} (hg : Gl X "zip") (hm : X.mg "zip" = none) (ha : PA X [e, e2] t) (h : X.K = K := by rfl)
    (hs : starEach [e, e2] X.env = (false, eval e X.env) :: starEach [e2] X.env := by rfl) (hpl : (backTo pos (starEach [e2] X.env)).any (·.1) = false := by rfl) :
    PI X (.Tuple elts kk tpos) (.Call (.Name "zip" p) [e, e2] [] pos) (iZip K t) := by subst h; exact L2.pi_zip hg hm ha hs hpl
theorem zipA {elts : List Expr} {kk : Nat} {tpos : Pos} (hg : Gl X "zip") (hm : X.mg "zip" = none) (ha : PA X [e, e2] t) (h : X.K = K := by rfl)
    (hs : starEach [e, e2] X.env = (false, eval e X.env) :: starEach [e2] X.env := by rfl) (hpl : (backTo pos (starEach [e2] X.env)).any (·.1) = false := by rfl) :
    PI X (.Tuple elts kk tpos) (.Call (.Name "zip" p) [e, e2] [] pos) (RZ.iZipA K t) := by subst h; exact RZ.pi_zipA hg hm ha hs hpl
theorem enum {elts : List Expr} {kk : Nat} {tpos : Pos} (hg : Gl X "enumerate") (hm : X.mg "enumerate" = none) (ha : PA X [e] t) (h : X.K = K := by rfl) (hs : starEach [e] X.env = [(false, eval e X.env)] := by rfl) :
    PI X (.Tuple elts kk tpos) (.Call (.Name "enumerate" p) [e] [] pos) (iEnum K t) := by subst h; exact pi_enum hg hm ha hs
theorem unl {es : List Expr} {k : Nat} {t : TGs} {n : Nat} (hc : X.calm = true) (g : PGs X es t) (h : X.K = K := by rfl)
    (hn : (assignEach es X.env).length = n := by rfl) (hst : (assignEach es X.env).findIdx? (·.1) = none := by rfl) : PG X (.Tuple es k pos) (gUnl K n t) := by subst h; exact pg_unl hc g hn hst
theorem tup {es : List Expr} {k : Nat} {t : TGs} {n : Nat} (hc : X.calm = true) (g : PGs X es t) (h : X.K = K := by rfl)
    (hn : (assignEach es X.env).length = n := by rfl) (hst : (assignEach es X.env).findIdx? (·.1) = none := by rfl) : PG X (.Tuple es k pos) (gTup K n t) := by subst h; exact pg_tup hc g hn hst
end
theorem bm {T : String} {name : Str} {id : String} {r : V → List V → Hp → VK → Prop} {o e : Expr} {es : List Expr} {to : TE} {t : TA} {apos cpos : Pos} (pa : PlainAttrs T) (slot : Slot T name id) (hty : typeOf (.builtin id) = pure (.type "method_descriptor")) (hm : MtR X id r) (ho : PE X o to) (ha : PA X (e :: es) t) (h : X.K = K := by rfl)
    (hbase : attributeBase o name X.env (eval o X.env) = eval o X.env := by rfl)
    (hfew : ((backTo cpos (starEach (e :: es) X.env)).all (fun x => !x.1) && (backToKw cpos (keywordEach [] X.env)).all (fun x => x.1.isSome)
      && decide ((e :: es).length + ([] : List Keyword).length + (if ([] : List Keyword).isEmpty then 0 else 1) < 30)) = true := by rfl)
    (hline : (apos.endLine == cpos.line) = true := by rfl) (hs : starEach (e :: es) X.env = (false, eval e X.env) :: starEach es X.env := by rfl) (hplain : (backTo cpos (starEach es X.env)).any (·.1) = false := by rfl) :
    PE X (.Call (.Attribute o name apos) (e :: es) [] cpos) (tBM K T r to t) := by subst h; exact pe_bm pa slot hty hm ho ha hbase hfew hline hs hplain
def rIsN : R2 := fun x y H Q => y = .non ∧ Q (.bl (decide (x = .non))) H
def rNotN : R2 := fun x y H Q => y = .non ∧ Q (.bl (!decide (x = .non))) H
theorem isN : OpR X (compareOp .Is) rIsN := op_isN
theorem notN : OpR X (compareOp .IsNot) rNotN := op_notN
theorem cnt (h : X.K = K := by rfl) : MtR X "list.count" (rCntI K) := by subst h; exact mt_lcount
end GW
namespace Rd
open PySem PySem.Spec PyProof.Rows L2 OwX
section
variable {K : PySem.W.Frag} {σ : L2.St} {H : Hp} {Q : VK} {p : Addr} {xs ys : List V} {v y : V} {a b : Bool}
theorem mev {C a dx : Addr} {fs : List (Str × V)} {m : Str} {sp : Sp} {E : XK} {i : Nat} {t : TA} (h1 : σ[i]? = some (some (.ref a))) (h2 : H a = some (.ins C dx fs)) (l : fs.lookup m = none) (k : t σ H fun vs H2 => sp (.ref a :: vs) H2 Q E) : tMethR C m sp E (tVar i) t σ H Q := ⟨.ref a, h1, a, dx, fs, rfl, h2, l, k⟩
theorem me0v {C a dx : Addr} {fs : List (Str × V)} {m : Str} {sp : Sp} {E : XK} {i : Nat} (h1 : σ[i]? = some (some (.ref a))) (h2 : H a = some (.ins C dx fs)) (l : fs.lookup m = none) (k : sp [.ref a] H Q E) : tMe0 C m sp E (tVar i) σ H Q := ⟨.ref a, h1, a, dx, fs, rfl, h2, l, k⟩
theorem propv {C a dx : Addr} {fs : List (Str × V)} {sp : Sp} {E : XK} {i : Nat} {ds : List V} (h1 : σ[i]? = some (some (.ref a))) (h2 : H a = some (.ins C dx fs)) (k : sp (.ref a :: ds) H Q E) : tProp C sp ds E (tVar i) σ H Q := ⟨.ref a, h1, a, dx, fs, rfl, h2, k⟩
theorem isNn (k : Q (.bl true) H) : GW.rIsN .non .non H Q := ⟨rfl, by simpa using k⟩
theorem isNr (k : Q (.bl false) H) : GW.rIsN (.ref p) .non H Q := ⟨rfl, by simpa using k⟩
theorem notNn (k : Q (.bl false) H) : GW.rNotN .non .non H Q := ⟨rfl, by simpa using k⟩
theorem notNr (k : Q (.bl true) H) : GW.rNotN (.ref p) .non H Q := ⟨rfl, by simpa using k⟩
theorem bmLv {r : V → List V → Hp → VK → Prop} {i : Nat} {t : TA} (h1 : σ[i]? = some (some (.ref p))) (h2 : SqL K H p xs) (k : t σ H fun vs H2 => r (.ref p) vs H2 Q) : tBM K "list" r (tVar i) t σ H Q := ⟨.ref p, h1, .inl ⟨rfl, xs, h2⟩, k⟩
theorem bmLm {r : V → List V → Hp → VK → Prop} {i : Nat} {t : TA} (h1 : σ[i]? = some (some (.ref p))) (h2 : ∃ xs, SqL K H p xs) (k : t σ H fun vs H2 => r (.ref p) vs H2 Q) : tBM K "list" r (tVar i) t σ H Q := ⟨.ref p, h1, .inl ⟨rfl, h2⟩, k⟩
theorem appendL (h : H p = some (.lst xs)) (l : xs.length < sizeLine) (k : Q .non (upd H p (.lst (xs ++ [y])))) : rAppend (.ref p) [y] H Q := ⟨p, xs, y, rfl, rfl, h, l, k⟩
theorem countL {ns : List Int} {z : Int} (h : SqL K H p (ns.map V.int)) (k : Q (.int (ns.count z : Nat)) H) : rCntI K (.ref p) [.int z] H Q := ⟨p, ns, z, rfl, rfl, h, k⟩
theorem catL {q : Addr} (h1 : H p = some (.lst xs)) (h2 : H q = some (.lst ys)) (l : xs.length + ys.length ≤ sizeLine) (k : ∀ r, H r = none → Q (.ref r) (upd H r (.lst (xs ++ ys)))) : rCat (.ref p) (.ref q) H Q := ⟨p, q, xs, ys, rfl, rfl, h1, h2, l, k⟩
theorem repL {n : Int} (h1 : H p = some (.lst xs)) (l1 : -(2 ^ 63) ≤ n) (l2 : n < 2 ^ 63) (l : xs.length * n.toNat ≤ sizeLine) (k : ∀ r, H r = none → Q (.ref r) (upd H r (.lst (List.replicate n.toNat xs).flatten))) : rRep (.ref p) (.int n) H Q := ⟨p, n, xs, rfl, rfl, h1, l1, l2, l, k⟩
theorem sl {r : V → Option Int → Option Int → Hp → VK → Prop} {te : TE} {tl th : TO} (k : te σ H fun x H1 => tl σ H1 fun l H2 => th σ H2 fun u H3 => r x l u H3 Q) : tSl r te tl th σ H Q := k
theorem po0 {R : Option Int → Hp → Prop} (k : R none H) : tNoPart σ H R := k
theorem poI {R : Option Int → Hp → Prop} {te : TE} (k : te σ H fun x H1 => ∃ i, x = .int i ∧ R (some i) H1) : tPart te σ H R := k
theorem ixi {A : Int → Prop} {i : Int} (k : A i) : ∃ j, V.int i = .int j ∧ A j := ⟨i, rfl, k⟩
theorem cutL {lo hi : Option Int} (h : SqL K H p xs) (k : ∀ q, H q = none → Q (.ref q) (upd H q (.lst (cutV xs lo hi)))) : rSlL K (.ref p) lo hi H Q := ⟨p, xs, rfl, h, k⟩
theorem revLv {i : Nat} (h1 : σ[i]? = some (some (.ref p))) (h2 : SqL K H p xs) (k : ∀ q, H q = none → Q (.ref q) (upd H q (.lst xs.reverse))) : tRevL K (tVar i) σ H Q := ⟨.ref p, h1, p, xs, rfl, h2, k⟩
theorem isB (k : Q (.bl (decide (a = b))) H) : rIsB (.bl a) (.bl b) H Q := ⟨a, b, rfl, rfl, k⟩
theorem notB (k : Q (.bl (!decide (a = b))) H) : rNotB (.bl a) (.bl b) H Q := ⟨a, b, rfl, rfl, k⟩
theorem notBtt (k : Q (.bl false) H) : rNotB (.bl true) (.bl true) H Q := ⟨true, true, rfl, rfl, k⟩
theorem notBff (k : Q (.bl false) H) : rNotB (.bl false) (.bl false) H Q := ⟨false, false, rfl, rfl, k⟩
theorem notBtf (k : Q (.bl true) H) : rNotB (.bl true) (.bl false) H Q := ⟨true, false, rfl, rfl, k⟩
theorem notBft (k : Q (.bl true) H) : rNotB (.bl false) (.bl true) H Q := ⟨false, true, rfl, rfl, k⟩
theorem neSame (e : a = b) (k : Q (.bl false) H) : rNe (.bl a) (.bl b) H Q := ⟨rfl, by subst e; rw [decide_eq_true rfl]; exact k⟩
theorem cut_map {α : Type} {f : α → V} {zs : List α} {lo hi : Option Int} : cutV (zs.map f) lo hi = ((zs.drop (HT.sIx zs.length 0 lo)).take (HT.sIx zs.length zs.length hi - HT.sIx zs.length 0 lo)).map f := by
  unfold cutV
  rw [List.length_map, List.map_take, List.map_drop]
theorem cut_len {α : Type} {zs : List α} {i j : Nat} : ((zs.drop i).take j).length ≤ zs.length := by
  rw [List.length_take, List.length_drop]; omega
theorem cutI {zs : List Int} {lo hi : Option Int} (h : SqL K H p (zs.map V.int)) (k : ∀ q (ts : List Int), ts.length ≤ zs.length → H q = none → Q (.ref q) (upd H q (.lst (ts.map V.int)))) : rSlL K (.ref p) lo hi H Q :=
  cutL h fun q hq => by rw [cut_map]; exact k q _ cut_len hq
theorem catI {q : Addr} {zs ts : List Int} (h1 : H p = some (.lst (zs.map V.int))) (h2 : H q = some (.lst (ts.map V.int))) (l : zs.length + ts.length ≤ 100000) (k : ∀ r, H r = none → Q (.ref r) (upd H r (.lst ((zs ++ ts).map V.int)))) : rCat (.ref p) (.ref q) H Q :=
  catL h1 h2 (sz (by simpa using l)) fun r hr => by rw [← List.map_append]; exact k r hr
theorem revI {i : Nat} {zs : List Int} (h1 : σ[i]? = some (some (.ref p))) (h2 : SqL K H p (zs.map V.int)) (k : ∀ q, H q = none → Q (.ref q) (upd H q (.lst (zs.reverse.map V.int)))) : tRevL K (tVar i) σ H Q :=
  revLv h1 h2 fun q hq => by rw [← List.map_reverse]; exact k q hq
theorem setI {R : Hp → Prop} {zs : List Int} {i z : Int} {n : Nat} (h : H p = some (.lst (zs.map V.int))) (e : i = (n : Int)) (l : n < zs.length) (k : R (upd H p (.lst ((zs.set n z).map V.int)))) : rSetL (.ref p) (.int i) (.int z) H R :=
  setL h (ixN_nat e (by rw [List.length_map]; exact l)) (by rw [← List.map_set]; exact k)
theorem repI {n : Nat} {z : Int} (h1 : H p = some (.lst [V.int z])) (l1 : n ≤ 10000) (k : ∀ r, H r = none → Q (.ref r) (upd H r (.lst ((List.replicate n z).map V.int)))) : rRep (.ref p) (.int n) H Q :=
  repL h1 (by omega) (by omega) (sz (by simp; omega)) fun r hr => by
    have e : (List.replicate (n : Int).toNat [V.int z]).flatten = (List.replicate n z).map V.int := by
      rw [Int.toNat_natCast]
      clear l1 k
      induction n with
      | zero => rfl
      | succ n ih => rw [List.replicate_succ, List.replicate_succ, List.flatten_cons, ih]; rfl
    rw [e]
    exact k r hr
theorem smeth {C : Addr} {sp : Sp} {E : XK} {t : TA} (k : t σ H fun vs H2 => sp vs H2 Q E) : tSMeth C sp E (tC (.ref C)) t σ H Q := ⟨rfl, k⟩
theorem par {i j : Nat} {ta : TA} {D : Ends} (k : ta σ H fun vs H1 => ∃ v w, vs = [v, w] ∧ D.nx ((σ.set i (some v)).set j (some w)) H1) : tPar i j ta D σ H := k
theorem par2 {x y : V} {A : V → V → Prop} (k : A x y) : ∃ v w, [x, y] = [v, w] ∧ A v w := ⟨x, y, rfl, k⟩
theorem sumL {ns : List Int} (h : SqL K H p (ns.map V.int)) (k : Q (.int ns.sum) H) : rSum K [.ref p] H Q := ⟨p, ns, rfl, h, k⟩
end
end Rd
namespace L2
open PySem PySem.Spec PyProof.Rows OwX
mutual
theorem Dp.ext {K : PySem.W.Frag} {H H' : Hp} {v : V} {d : PyData} (h : Dp K H v d) (e : Ext H H') : Dp K H' v d := match h with
  | .non => .non
  | .bl b => .bl b
  | .int i => .int i
  | .str x => .str x
  | .lst h a => .lst (Rd.ext_L e h) (DpAll.ext a e)
  | .tup h a => .tup (Rd.ext_T e h) (DpAll.ext a e)
theorem DpAll.ext {K : PySem.W.Frag} {H H' : Hp} {vs : List V} {ds : List PyData} (h : DpAll K H vs ds) (e : Ext H H') : DpAll K H' vs ds := match h with
  | .nil => .nil
  | .cons h t => .cons (Dp.ext h e) (DpAll.ext t e)
end
end L2

set_option Elab.async false
set_option linter.all false
set_option maxRecDepth 100000
set_option maxHeartbeats 0
/-! A dict by a comprehension whose keys are tuples. -/
namespace OwX
open PySem PySem.Spec PyProof.Rows L2
/-- in the block of a comprehension -/
abbrev InBlk (X : Cx) (scope : Scope) (J : Cx → Prop) : Prop := ∀ (s : Shared) (H : Hp) (C : Addr) (cl : List (Str × Addr)) (fp : List Addr), J (X.blk s H scope (compEnvC scope cl C X.env) fp)
/-- the turns' reading: the dict at D grows -/
def TurnsT (J : It) (g : TG) (tt : TT) (tk tv : TE) (vs : List Nat) (σ : L2.St) (D : Addr) (W : Nat → Nat → Hp → Prop) (Z : Hp → Prop) : Prop := ∀ i m H, W i m H →
  (J.stop i H ∧ Z H) ∨ (J.go i H ∧ ∃ Nx : Hp → Prop, (∀ H', Nx H' → ∃ m', m' < m ∧ W (i + 1) m' H') ∧ ∀ x H', J.yld i H x H' → g x (wipe σ vs) H' fun σ2 H2 => wipe σ2 vs = wipe σ vs ∧ tt σ2 H2 fun b H3 =>
    if b = true then tk σ2 H3 fun y H4 => tv σ2 H4 fun z H5 => ∃ kvs ks b, y = .ref b ∧ H5 b = some (.tup (ks.map kV)) ∧ H5 D = some (.dT kvs) ∧ kvs.length < sizeLine ∧ Nx (upd H5 D (.dT (putK kvs ks z))) else Nx H3)
def tDcT (wi : TI) (g : TG) (tt : TT) (tk tv : TE) (vs : List Nat) : TE := fun σ H Q => wi σ H fun J H1 => ∀ D, H1 D = none → ∃ W : Nat → Nat → Hp → Prop, (∃ m, W 0 m (upd H1 D (.dT []))) ∧ TurnsT J g tt tk tv vs σ D W (fun H => Q (.ref D) H)
section
variable {X : Cx} {pins : List (Addr × Obj)} {σ : L2.St} {H : Hp} {s : Shared}
/-- one entry more -/
theorem put_tuple {D b : Addr} {kvs : List (List Key × V)} {ks : List Key} {v : V} {r : Value} {E : Value → Shared → Prop} {R : Unit → Shared → Prop} (hu : X.A.units < cLine) (I : Inv X pins σ H s) (hD : H D = some (.dT kvs)) (hl : kvs.length < sizeLine) (hb : H b = some (.tup (ks.map kV))) (rv : RelV v r)
    (k : ∀ s', Inv X pins σ (upd H D (.dT (putK kvs ks v))) s' → R () s') : wpAny (model X.prog X.w) X.A (dictSet D (.ref b) r) R E s := by
  obtain ⟨z, hd, ents, rel, dd⟩ := dt_of I.hok hD
  have few : ents.length ≤ sizeLine := Paired.length rel ▸ z
  have room : (putK kvs ks v).length ≤ sizeLine := Nat.le_trans (length_putK kvs ks v) hl
  refine wpAny_dictSet_heap (hsz := few) hu (key_of I.hok hb) dd fun h' dd' hs => k _ ?_
  obtain ⟨ob, es, ep, ho, d2, d3, d4, _, d6⟩ := dd'
  refine d_write I (by rw [hD]; trivial) hs ⟨ob, ho⟩ ⟨room, hd, _, (rel.put ks hb rv).keeps fun c ys hc => ?_, ob, es, ep, ho, d2, d3, d4, d6⟩
  rw [upd_ne (ne_of hc hD (by intro q; cases q))]
  exact hc
section
variable {kx vx tg iter : Expr} {ifs : List Expr} {scope : Scope} {own : List (Str × Nat)} {pos : Pos} {wi : TI} {g : TG} {tt : TT} {tk tv : TE}
theorem dct_run {p2 : Pos} {use : Option (Value → Sem Unit)} {R : Value → Shared → Prop} (hu : X.A.units < cLine) (hc : X.calm = true) (hN : X.N.Nodup) (I : Inv X pins σ H s) (hi : PI X tg iter wi) (ok : BlkOk X.N X.env.scope scope own)
    (jg : InBlk X scope fun Y => PG Y tg g) (jt : InBlk X scope fun Y => PTs Y ifs tt) (jk : InBlk X scope fun Y => PE Y kx tk) (jv : InBlk X scope fun Y => PE Y vx tv) (hs : ∀ x, foldedSetIterable iter X.env x = pure x)
    (h : tDcT wi g tt tk tv (own.map (·.2)) σ H Q)
    (back : ∀ D C s' m H', Inv X pins σ H' s' → Q (.ref D) H' → s'.heap.Ns C m → FpOk X pins H' C → compPost (model X.prog X.w) X.A X.xe use R (.ref D) C (.ok .next) s') :
    wpAny (model X.prog X.w) X.A (comprehension (.DictComp kx vx [⟨tg, iter, ifs, 0⟩] scope pos) scope X.env p2 newDict false (eval iter X.env) use) R X.xe s := by
  have cellsOf : ∀ y ∈ scope.names, y.2 = .free → ∃ c, X.env.cells.lookup y.1 = some c := by
    intro y hy e
    cases ok.free y hy e with
    | inl q => exact I.ok.has _ (.inl q)
    | inr q => exact I.ok.has _ (.inr q)
  refine wpAny_comprehension_free (use := use) rfl hs (closure_ok cellsOf) ok.kind (fun y hy e => (ok.uniq y hy).trans (by rw [e])) (thn (hi.run pins s σ H _ I h) fun xv s1 hx => thn hx fun itv s2 h2 => ?_)
  obtain ⟨it, fp, tn, J, H2, rfl, I2, T, start, apart, q⟩ := h2
  refine wpAny_newObj_type (newEnv_comp ?_)
  generalize eD : s2.heap.objs.size = D
  obtain ⟨W, ⟨m0, w0⟩, turn⟩ := q D (I2.hok.fresh (Nat.le_of_eq eD))
  generalize e3 : ({ s2 with heap := s2.heap.push { cls := .type "dict", data := .dict #[] } } : Shared) = s3
  have hp3 : s3.heap = s2.heap.push { cls := .type "dict", data := .dict #[] } := by rw [← e3]
  have I3 : Inv X pins σ (upd H2 D (.dT [])) s3 := by
    subst e3
    refine I2.laid (t' := s2.toks) (fun _ _ e => Heap.get?_push_of_some _ e) (Nat.le_of_eq eD) ?_
    subst eD
    exact dt_empty s2.heap I2.big
  have below : ∀ b ∈ fp, b < s2.heap.objs.size := fun b hb => (T.obj _ _ start b hb).elim fun _ e => Heap.lt_size e.1
  have ap3 : ∀ b ∈ fp, FpOk X pins (upd H2 D (.dT [])) b ∧ b < s3.heap.objs.size := by
    intro b hb
    have lt := below b hb
    obtain ⟨a1, a2⟩ := apart b hb
    exact ⟨⟨(upd_ne (by rw [← eD]; exact Nat.ne_of_lt lt)).trans a1, a2⟩, by rw [hp3, Heap.size_push]; exact Nat.lt_succ_of_lt lt⟩
  have start3 : tn 0 s3.heap := T.keep _ _ _ start fun b _ o e => by rw [hp3]; exact Heap.get?_push_of_some _ e
  have I4 := block_start I3 ok hN ap3
  have kg := jg s3 (upd H2 D (.dT [])) s3.heap.objs.size (cellsFrom (s3.heap.objs.size + 1) scope.names (cloFrom X.env.cells scope.names [])) fp
  have kt := jt s3 (upd H2 D (.dT [])) s3.heap.objs.size (cellsFrom (s3.heap.objs.size + 1) scope.names (cloFrom X.env.cells scope.names [])) fp
  have kk := jk s3 (upd H2 D (.dT [])) s3.heap.objs.size (cellsFrom (s3.heap.objs.size + 1) scope.names (cloFrom X.env.cells scope.names [])) fp
  have kv := jv s3 (upd H2 D (.dT [])) s3.heap.objs.size (cellsFrom (s3.heap.objs.size + 1) scope.names (cloFrom X.env.cells scope.names [])) fp
  have gone : ∀ b ∈ fp, (upd H2 D (.dT [])) b = none := fun b hb => (ap3 b hb).1.1
  show codeAny _ _ (.compStart (.DictComp kx vx [⟨tg, iter, ifs, 0⟩] scope pos) 0 (.ref it) (.ref D) (compEnvC scope (cellsFrom (s3.heap.objs.size + 1) scope.names (cloFrom X.env.cells scope.names [])) s3.heap.objs.size X.env))
    (compPost (model X.prog X.w) X.A X.xe use R (.ref D) s3.heap.objs.size) { s3 with heap := pushCells (s3.heap.push { cls := .type "dict", data := .dict #[] }) scope.names }
  generalize ee : compEnvC scope (cellsFrom (s3.heap.objs.size + 1) scope.names (cloFrom X.env.cells scope.names [])) s3.heap.objs.size X.env = en at I4 kg kt kk kv ⊢
  have locs : en.locals = s3.heap.objs.size := by rw [← ee]; rfl
  generalize eH : upd H2 D (.dT []) = H3 at I3 I4 kg kt kk kv w0 gone ap3
  generalize e4 : ({ s3 with heap := pushCells (s3.heap.push { cls := .type "dict", data := .dict #[] }) scope.names } : Shared) = s4 at I4 ⊢
  have start4 : tn 0 s4.heap := T.keep _ _ _ start3 fun b _ o e => by rw [← e4]; exact pushCells_keeps _ _ _ _ (Heap.get?_push_of_some _ e)
  have free : ∀ {τ : L2.St} {G : Hp} {t : Shared}, Inv (X.blk s3 H3 scope en fp) [] τ G t → (∀ b ∈ fp, G b = none) → ∀ b ∈ fp, FpOk (X.blk s3 H3 scope en fp) [] G b := by
    intro τ G t Y n b hb
    have xf := Y.ok.exf b hb
    exact ⟨n b hb, xf.1, Y.ok.exfs b hb, .inl hb, fun x c e => xf.2 x c e, fun p hp => absurd (show p ∈ ([] : List (Addr × Obj)) ++ [] from hp) (by simp)⟩
  have loop : codeAny (model X.prog X.w) X.A (.compLoop (.DictComp kx vx [⟨tg, iter, ifs, 0⟩] scope pos) 0 (.ref it) (.ref D) en) (compPost (model X.prog X.w) X.A X.xe use R (.ref D) s3.heap.objs.size) s4 := by
    refine compLoop_anyD (fun n t => ∃ i G, Inv (X.blk s3 H3 scope en fp) [] (wipe σ (own.map (·.2))) G t ∧ tn i t.heap ∧ (∀ b ∈ fp, G b = none) ∧ W i n G) ?_ m0 ⟨0, H3, I4, start4, gone, w0⟩
    rintro n s5 ⟨i, H5, I5, t5, n5, w5⟩
    cases turn i n H5 w5 with
    | inl hh =>
      obtain ⟨stop, last⟩ := hh
      refine thnF (T.done (X.blk s3 H3 scope en fp) rfl rfl rfl hc i [] s5 _ H5 (fun _ _ => False) I5 (free I5 n5) t5 stop) fun r s6 ⟨rr, I6⟩ => ?_
      subst rr
      have I7 : Inv X pins σ H5 s6 := I3.call' (ch := fp) I6.os I6.base I6.hok I6.bare fun b hb => (ap3 b hb).1.2.elim fun c1 c2 => ⟨c2.2.1, c1, c2.2.2.1, c2.2.2.2⟩
      have out : H5 s3.heap.objs.size = none := locs ▸ (I6.free : H5 en.locals = none)
      obtain ⟨mm, hn, _⟩ := I6.loc
      exact back D s3.heap.objs.size s6 mm H5 I7 last (locs ▸ (hn : s6.heap.Ns en.locals mm)) (I3.fpOk (Nat.le_refl _) out)
    | inr hh =>
      obtain ⟨go, Nx, less, step⟩ := hh
      refine thnF (T.item (X.blk s3 H3 scope en fp) rfl rfl rfl hc i [] s5 _ H5 (fun _ _ => False) I5 (free I5 n5) t5 go) fun r s6 ⟨u, rr, h6⟩ => ?_
      subst rr
      refine thnF h6 fun _ s7 ⟨x, H7, I7, r7, y7, t7, n7⟩ => ?_
      refine thnF (kg.run _ s7 _ H7 x u _ (I7.pinned (free I7 n7) (T.obj _ _ t7)) r7 (step x H7 y7)) fun _ s8 ⟨τ, H8, I8, wp8, q8⟩ => ?_
      refine thnF (kt.run _ s8 τ H8 _ I8 q8) fun b s9 ⟨H9, I9, q9⟩ => ?_
      have next : ∀ {t : Shared} {G : Hp}, Inv (X.blk s3 H3 scope en fp) ([] ++ pinsAt fp s7.heap) τ G t → Nx G → ∃ m, m < n ∧ ∃ i G, Inv (X.blk s3 H3 scope en fp) [] (wipe σ (own.map (·.2))) G t ∧ tn i t.heap ∧ (∀ b ∈ fp, G b = none) ∧ W i m G := by
        intro t G Y nx
        obtain ⟨m', lt, w'⟩ := less G nx
        have pinned : ∀ b ∈ fp, ∀ o, s7.heap.get? b = some o → t.heap.get? b = some o ∧ G b = none := by
          intro b hb o e
          have z := Y.pin (b, o) (List.mem_append_right _ (List.mem_append_right _ (mem_pinsAt hb e)))
          exact ⟨z.1, z.2.1⟩
        refine ⟨m', lt, i + 1, G, (Y.unpinned (pins := [])).weak ((wipe_length _ _).symm ▸ ((wipe_length τ (own.map (·.2))) ▸ (congrArg List.length wp8).symm ▸ wipe_length _ _ ▸ rfl)) (fun j v e => (wipe_some (wp8.symm ▸ e)).1), T.keep _ _ _ t7 fun b hb o e => (pinned b hb o e).1, fun b hb => ?_, w'⟩
        obtain ⟨o, e, _⟩ := T.obj _ _ t7 b hb
        exact (pinned b hb o e).2
      cases b with
      | false =>
        rw [if_neg Bool.false_ne_true] at q9 ⊢
        exact next I9 q9
      | true =>
        rw [if_pos rfl] at q9 ⊢
        refine thnF (kk.run _ s9 τ H9 _ I9 q9) fun z s10 ⟨yk, H10, I10, r10, q10⟩ => thnF (kv.run _ s10 τ H10 _ I10 q10) fun z2 s11 ⟨yv, H11, I11, r11, kvs, ks, b, ek, hb, hD, hl, nx⟩ => ?_
        subst ek
        obtain rfl : z = .ref b := r10
        exact put_tuple (X := X.blk s3 H3 scope en fp) hu I11 hD hl hb r11 fun s12 I12 => next I12 nx
  exact codeAny_compStart_dict loop (T.self X.A 0 _ _ _ start4 loop)
theorem pe_dct (hu : X.A.units < cLine) (hc : X.calm = true) (hN : X.N.Nodup) (hi : PI X tg iter wi) (ok : BlkOk X.N X.env.scope scope own) (jg : InBlk X scope fun Y => PG Y tg g) (jt : InBlk X scope fun Y => PTs Y ifs tt) (jk : InBlk X scope fun Y => PE Y kx tk) (jv : InBlk X scope fun Y => PE Y vx tv)
    (hs : ∀ x, foldedSetIterable iter X.env x = pure x := by intro _; rfl) : PE X (.DictComp kx vx [⟨tg, iter, ifs, 0⟩] scope pos) (tDcT wi g tt tk tv (own.map (·.2))) :=
  ⟨fun pins s σ H Q I h => by
    rw [arm_eval_DictComp]
    exact dct_run hu hc hN I hi ok jg jt jk jv hs h fun D C s' m H' I' q hn f => ⟨m, hn, fun h'' sb => ⟨.ref D, H', I'.turned (t' := s'.toks) (fun b o hb e => (sb.2 b hb).trans e) f.1 f.2.1 f.2.2.2.1 f.2.2.2.2.1 f.2.2.2.2.2, rfl, q⟩⟩⟩
end
end
end OwX
namespace Rd
open PySem PySem.Spec PyProof.Rows L2 OwX
def DctB (J : It) (g : TG) (tt : TT) (tk tv : TE) (vs : List Nat) (σ : L2.St) (H1 : Hp) (Q : VK) : Prop := ∀ D, H1 D = none → ∃ W : Nat → Nat → Hp → Prop, (∃ m, W 0 m (upd H1 D (.dT []))) ∧ TurnsT J g tt tk tv vs σ D W (fun H => Q (.ref D) H)
section
variable {K : PySem.W.Frag} {g : TG} {tt : TT} {tk tv tl : TE} {ta : TA} {vs : List Nat} {σ : L2.St} {H : Hp} {Q : VK} {tb : TS} {D : Ends}
theorem dctL (k : tl σ H fun x H1 => ∃ a, x = .ref a ∧ (∃ xs, SqL K H1 a xs) ∧ DctB (Itl K a) g tt tk tv vs σ H1 Q) : tDcT (iList K tl) g tt tk tv vs σ H Q := k
theorem dctT (k : tl σ H fun x H1 => ∃ a, x = .ref a ∧ (∃ xs, SqT K H1 a xs) ∧ DctB (Itt K a) g tt tk tv vs σ H1 Q) : tDcT (iTup K tl) g tt tk tv vs σ H Q := k
theorem forE (k : ta σ H fun vs' H1 => ∃ a xs, vs' = [.ref a] ∧ SqL K H1 a xs ∧ ForB (Ite K a) g tb D σ H1) : tFor (iEnum K ta) g tb D σ H := k
end
theorem dcP {α : Type} {J : It} {G : Hp → Prop} {Y : Nat → Hp → V → Hp → Prop} {items : List α} (w : Walk J items.length G Y) (B : α → V → Prop) (hy : ∀ i H x H', Y i H x H' → ∃ it, items[i]? = some it ∧ (H' = H ∧ B it x)) (hn : items.length < 100000)
    {g : TG} {tk tv : TE} {vs : List Nat} {σ : L2.St} {H1 : Hp} {D : Addr} {Z : Hp → Prop} (key : α → List Key) (hD : H1 D = none) (hG : ∀ H, Ext H1 H → G H)
    (hs : ∀ (i : Nat) it x H kvs, items[i]? = some it → B it x → Ext H1 H → H D = some (.dT kvs) → ∀ Rk : V → V → Hp → Prop, (∀ b z H5, H5 b = some (.tup ((key it).map kV)) → Ext H H5 → Rk (.ref b) z H5) → g x (wipe σ vs) H fun σ2 H2 => wipe σ2 vs = wipe σ vs ∧ tk σ2 H2 fun y H4 => tv σ2 H4 fun z H5 => Rk y z H5)
    (hd : ∀ kvs H, Ext H1 H → H D = some (.dT kvs) → (∀ k, (valV kvs k).isSome = true ↔ k ∈ items.map key) → Z H) :
    ∃ W : Nat → Nat → Hp → Prop, (∃ m, W 0 m (upd H1 D (.dT []))) ∧ TurnsT J g tYes tk tv vs σ D W Z := by
  have fe : ∀ {H : Hp} {u : HO}, Ext H1 H → Ext H1 (upd H D u) := fun {H u} e a o h => by
    rw [upd_ne (ne_of_none h hD)]
    exact e a o h
  refine ⟨fun i m H => m = items.length - i ∧ i ≤ items.length ∧ Ext H1 H ∧ ∃ kvs, H D = some (.dT kvs) ∧ kvs.length ≤ i ∧ ∀ k, (valV kvs k).isSome = true ↔ k ∈ (items.take i).map key, ⟨_, rfl, Nat.zero_le _, fe ext_rfl, [], upd_same, Nat.le_refl _, fun k => by simp [valV]⟩, ?_⟩
  rintro i m H ⟨rfl, hi, e, kvs, hk, hl, hv⟩
  have q := hG H e
  by_cases hlt : i < items.length
  · refine .inr ⟨w.goes i H hlt q, fun H => Ext H1 H ∧ ∃ kvs, H D = some (.dT kvs) ∧ kvs.length ≤ i + 1 ∧ ∀ k, (valV kvs k).isSome = true ↔ k ∈ (items.take (i + 1)).map key, fun H' p' => ⟨items.length - (i + 1), by omega, rfl, hlt, p'⟩, fun x H' y => ?_⟩
    obtain ⟨it, ha, rfl, hB⟩ := hy i H x H' (w.yields i H x H' hlt q y)
    refine hs i it x H' kvs ha hB e hk _ fun b z H5 hb e5 => ?_
    refine ⟨kvs, key it, b, rfl, hb, e5 _ _ hk, szl (by omega), fe (e.trans e5), _, upd_same, Nat.le_trans (length_putK _ _ _) (by omega), fun k => ?_⟩
    rw [valV_put, take_snoc ha, List.map_append]
    by_cases c : k = key it
    · rw [if_pos c, c]
      simp
    · rw [if_neg c, hv k, List.mem_append, List.map_cons, List.map_nil, List.mem_singleton]
      exact ⟨.inl, fun h => h.resolve_right c⟩
  · have ei : i = items.length := by omega
    subst ei
    rw [List.take_length] at hv
    exact .inl ⟨w.stops H q, hd kvs H e hk hv⟩
end Rd

set_option Elab.async false
set_option linter.all false
set_option maxRecDepth 100000
set_option maxHeartbeats 0
/-! try with several clauses that name their exception; calls and instances within a try. -/
namespace OwX
open PySem PySem.Spec PyProof.Rows L2
abbrev Suite := Addr → Value → Option Addr → TS
/-- the ends of a suite: its name is gone behind it -/
def outE (i : Nat) (D : Ends) : Ends := { nx := fun σ H => D.nx (σ.set i none) H, rt := D.rt, bk := fun σ H => D.bk (σ.set i none) H, ct := fun σ H => D.ct (σ.set i none) H }
def wCl (K : PySem.W.Frag) (i : Nat) (Wout : WX) (D : Ends) : List (Value × Suite) → WX
  | [] => Wout
  | q :: r => fun cls d σ H => ∃ b, PySem.W.exmOne K cls q.1 = some b ∧ (b = true → ∀ a, H a = none → q.2 a cls d (outE i D) (σ.set i (some (.ref a))) H) ∧ (b = false → wCl K i Wout D r cls d σ H)
inductive ClOk (X : Cx) (n : Str) : List ExceptHandler → List (Value × Suite) → Prop
  | nil : ClOk X n [] []
  | cons {x : Str} {c : Value} {ts : Suite} {st : Stmt} {sts : List Stmt} {p1 p2 : Pos} {hs : List ExceptHandler} {l : List (Value × Suite)} (nm : Names X x c)
      (su : ∀ (a : Addr) (oe : Obj) (cls : Value) (d : Option Addr) (pn : List (Addr × Obj)), Zc cls d oe → (∃ vs, oe.data = .fields vs) → PSs (X.suite a ((a, oe) :: pn)) (st :: sts) (ts a cls d)) (r : ClOk X n hs l) :
      ClOk X n (.ExceptHandler (some (.Name x p1)) (some n) (st :: sts) p2 :: hs) ((c, ts) :: l)
section
variable {X : Cx} {n : Str} {i : Nat} {body : List Stmt} {h0 : ExceptHandler} {hs : List ExceptHandler} {l : List (Value × Suite)} {pos : Pos} {tb : WX → TS} {Wout : WX}
theorem ps_try_cl (st : X.stack = X.env :: X.outer) (fr : X.env.frame = some X.env.locals) (nd : X.N.Nodup) (at_ : X.N[i]? = some n) (lo : X.env.kindOf n = some .local) (tk : Takes X Wout)
    (pb : ∀ (W : WX) (pn : List (Addr × Obj)) (xe : Value → Shared → Prop), Takes (X.tr pn xe) W → PassesOwn (model X.prog X.w) X.A X.env xe → PSs (X.tr pn xe) body (tb W)) (cl : ClOk X n (h0 :: hs) l) :
    PS X (.Try body (h0 :: hs) [] [] pos) (fun D σ H => tb (wCl X.K i Wout D l) D σ H) := by
  refine ⟨fun pins s σ H D I h => wpAny_Try_except ?_⟩
  have frames : X.A.frames = some (X.env :: X.outer) := I.ok.frames.trans (by rw [st])
  have okX := I.ok
  refine wpAny_mono ((pb (wCl X.K i Wout D l) (X.pn ++ pins) (fun e s₁ => wpAny (model X.prog X.w) X.A (noteFrame e X.env) (fun _ s₂ => wpAny (model X.prog X.w) X.A (setFlight e none) (fun _ s₃ => wpAny (model X.prog X.w) X.A (handleBy e X.env (h0 :: hs)) (SP X pins D) X.xe s₃) X.xe s₂) X.xe s₁)
    (fun u t up => ?_) PassesOwn.looking).run [] s σ H D (I.toTry _) h) (fun f t up => ?_) fun _ _ z => z
  · obtain ⟨a, B, t0, _, τ, G, cls, d, rfl, J0, nB, uu, sk, nA, osE, agE, wish⟩ := up
    have J := J0.ofTry okX
    refine Sky.land Zc.steady frames fr (st ▸ sk) fun g3 fly3 v3 => ?_
    have J3 : Inv X pins τ G { t with heap := g3 } := J.landed nB fly3.1 (uu.trans v3) osE agE
    obtain ⟨o3, w3, e3, z3, d3⟩ := fly3.there
    have offF : a ∉ frs (X.env :: X.outer) := fun hm => by
      obtain ⟨_, o', e', nf⟩ := fly3.2.2.1.mem hm
      cases e3.symm.trans e'
      exact nf _ d3
    have offL : a ≠ X.env.locals := fun z => offF (List.mem_filterMap.mpr ⟨X.env, List.mem_cons_self, fr.trans (congrArg some z.symm)⟩)
    have offS : a ∉ X.fs := fun hm => let ⟨e, he, q⟩ := List.mem_filterMap.mp hm; offF (List.mem_filterMap.mpr ⟨e, List.mem_cons_of_mem _ he, q⟩)
    have S3 := J3.suite e3 d3 nA offL offS
    suffices turns : ∀ {hs' : List ExceptHandler} {l' : List (Value × Suite)}, ClOk X n hs' l' → wCl X.K i Wout D l' cls d τ G → wpAny (model X.prog X.w) X.A (handleBy (.ref a) X.env hs') (SP X pins D) X.xe { t with heap := g3 } from turns cl wish
    intro hs' l' c
    induction c with
    | nil =>
      intro out
      refine wpAny_handleBy_nil ?_
      obtain ⟨_, _, _, oe, vs, T, oT, _, he, _, hd, h1, _⟩ := id fly3
      unfold PySem.passOn
      refine wpAny_bind (wpAny_field he hd h1 ?_)
      rw [if_neg (by simp)]
      have on_ : wpAny (model X.prog X.w) X.A (setFlight (.ref a) X.env.frame) (fun _ s4 => wpAny (model X.prog X.w) X.A (throw (.ref a) : Sem Flow) (SP X pins D) X.xe s4) X.xe { t with heap := g3 } := by
        rw [fr]
        exact HandSPX.setFlight_upZ fly3 fun g4 fly4 v4 => wpAny_throw (tk _ _ ⟨a, B, t0, pins, τ, G, cls, d, rfl, J, nB, (uu.trans v3).trans v4, .inr (.inr (st.symm ▸ fly4)), nA, osE, agE, out⟩)
      first | exact wpAny_bind (wpAny_pure (wpAny_bind on_)) | exact wpAny_bind on_
    | @cons x c ts st0 sts p1 p2 hs2 l2 nm su r ih =>
      intro hw
      obtain ⟨b, isB, yes, no⟩ := hw
      refine wpAny_handleBy_cons (codeAny_handlers_test ?_) (by intro q; cases q)
      have looks : PySem.W.Looks (model X.prog X.w) g3 (typeOf (.ref a)) cls := fun A Q E s k q => wpAny_typeOf_ref (k _ _ e3) (by rw [z3.1]; exact q)
      have named : ∀ {Q : Value → Shared → Prop} {E : Value → Shared → Prop}, Q c { t with heap := g3 } → wpAny (model X.prog X.w) (X.A.mark (some (.ref a))) (eval (.Name x p1) X.env) Q E { t with heap := g3 } := by
        intro Q E q
        obtain ⟨g, dbg, hm | ⟨hm, hv, hnn⟩⟩ := nm
        · exact ld_glob (X := X.suite a ((a, o3) :: (X.pn ++ pins))) S3 g hm q dbg
        · exact ld_blt (X := X.suite a ((a, o3) :: (X.pn ++ pins))) S3 g hm hv q hnn dbg
      refine named ((PySem.W.exm_one (M := model X.prog X.w) J3.kIn looks isB).here ?_)
      cases b with
      | false =>
        show wpAny _ X.A (handleBy (.ref a) X.env hs2) _ _ _
        exact ih (no rfl)
      | true =>
        refine codeAny_handlers_suite_as (HandSPX.lands_againZ fly3 fun g4 fly4 v4 => ?_)
        have J4 : Inv X pins τ G { t with heap := g4 } := J.landed nB fly4.1 ((uu.trans v3).trans v4) osE agE
        obtain ⟨o4, w4, e4, z4, d4⟩ := fly4.there
        refine store_ok (X := X.suite a ((a, o4) :: (X.pn ++ pins))) (v := .ref a) (J4.suite e4 d4 nA offL offS) nd at_ (.inl lo) rfl (fun s5 S5 => ?_) (.inr lo)
        refine wpAny_mono ((su a o4 cls d (X.pn ++ pins) z4 ⟨_, d4⟩).run [] s5 _ G _ S5 (yes rfl a nA)) (fun f s6 up => ?_) fun _ _ z => False.elim z
        have after : ∀ {σ6 : L2.St} {H6 : Hp} {Q : Shared → Prop}, Inv (X.suite a ((a, o4) :: (X.pn ++ pins))) [] σ6 H6 s6 → (∀ s7, Inv X pins (σ6.set i none) H6 s7 → Q s7) → wpAny (model X.prog X.w) X.A (do bindName X.env n .none; unbindBehindTheSuite X.env n p2) (fun _ s7 => Q s7) X.xe s6 :=
          fun S6 k => gone_ok (S6.unsuite okX) nd at_ lo k
        cases f with
        | next => obtain ⟨_, _, S6, q⟩ := up; exact after S6 fun _ J7 => ⟨_, _, J7, q⟩
        | brk => obtain ⟨_, _, S6, q⟩ := up; exact after S6 fun _ J7 => ⟨_, _, J7, q⟩
        | cont => obtain ⟨_, _, S6, q⟩ := up; exact after S6 fun _ J7 => ⟨_, _, J7, q⟩
        | ret u => obtain ⟨_, _, _, S6, rv, q⟩ := up; exact after S6 fun _ J7 => ⟨_, _, _, J7, rv, q⟩
  · cases f with
    | next => obtain ⟨_, _, S6, q⟩ := up; exact wpAny_execs_nil ⟨_, _, S6.ofTry okX, q⟩
    | brk => obtain ⟨_, _, S6, q⟩ := up; exact ⟨_, _, S6.ofTry okX, q⟩
    | cont => obtain ⟨_, _, S6, q⟩ := up; exact ⟨_, _, S6.ofTry okX, q⟩
    | ret u => obtain ⟨_, _, _, S6, rv, q⟩ := up; exact ⟨_, _, _, S6.ofTry okX, rv, q⟩
end
end OwX
namespace OwX
open PySem PySem.Spec PyProof.Rows L2
/-- what a def's body lets out goes to its caller -/
theorem passE {X : Cx} {E₁ : Value → Shared → Prop} {F : XK} (hs : X.stack = X.env :: X.outer) (hf : X.env.frame = some X.env.locals) (hex : X.ex = []) (hx : X.xe = fun e s' => wpAny (model X.prog X.w) X.A (leaving X.env e) (fun _ s'' => L2.CX X.prog X.w X.outer X.H_0 X.s_0 F e s'') E₁ s') : Passes (L2.CX X.prog X.w) X F :=
  passes_call (L2.takes_of hs hf hex hx) fun _ _ _ _ h => h
section
variable {X : Cx} {CX : CXT} {k : Nat} {C g : Addr} {sp : Sp} {E : L2.St → XK}
theorem make_at {pins : List (Addr × Obj)} {σ : L2.St} {H : Hp} {s : Shared} {Q : VK} {us : List Value} {vs : List V} (M : Mk X.K C g) (F : FnR X.prog X.w X.K X.mg X.base CX k g sp) (hr : Room (k + 1) X.A) (hx : ∀ σ, PassesAt CX X σ (E σ)) (I : Inv X pins σ H s) (r : Vals vs us)
    (h : Rd.MkR C sp (E σ) vs H Q) : wpAny (model X.prog X.w) X.A (call (.ref C) us) (EP X pins σ Q) X.xe s := by
  have now := h (s.heap.objs.size + 1) s.heap.objs.size (I.hok.fresh (Nat.le_succ _)) (I.hok.fresh (Nat.le_refl _)) (Nat.ne_of_lt (Nat.lt_succ_self _))
  have I2 := Inv.made (C := C) I
  have r2 : Vals (V.ref (s.heap.objs.size + 1) :: vs) (Value.ref (s.heap.objs.size + 1) :: us) := .cons rfl r
  refine wpAny_call (L2.make_map (f := g) I.kIn M.makes M.init (beq_iff_eq.mp M.fn) (codeAny_mono (F _ X.stack _ _ _ _ _ (E σ) (hr.make C us []) (I2.env0.make C us []) r2 now) fun res s' up => ?_))
  cases res with
  | error e => exact hx σ pins _ _ e s' I2 up
  | ok fl =>
    cases fl with
    | ret u =>
      obtain ⟨v, H', I3, rv, rfl, q⟩ := I2.after up
      exact ⟨rv, V.ref (s.heap.objs.size + 1), H', I3, rfl, q⟩
    | next => exact up.elim
    | brk => exact up.elim
    | cont => exact up.elim
/-- C(e, ..), the wish at the slots -/
def tMkRS (C : Addr) (sp : Sp) (E : L2.St → XK) (t : TA) : TE := fun σ H Q => t σ H fun vs H1 => Rd.MkR C sp (E σ) vs H1 Q
theorem pe_mkRS {nm : Str} {p pos : Pos} {e : Expr} {es : List Expr} {t : TA} (M : Mk X.K C g) (F : FnR X.prog X.w X.K X.mg X.base CX k g sp) (hr : Room (k + 1) X.A) (hg : Gl X nm) (hm : X.mg nm = some (.ref C)) (hx : ∀ σ, PassesAt CX X σ (E σ)) (ha : PA X (e :: es) t)
    (hdb : (nm == ("__debug__" : Str)) = false := by decide) (he : starEach (e :: es) X.env = (false, eval e X.env) :: starEach es X.env := by rfl) (hpl : (backTo pos (starEach es X.env)).any (·.1) = false := by rfl) : PE X (.Call (.Name nm p) (e :: es) [] pos) (tMkRS C sp E t) :=
  ⟨fun pins s σ H Q I h => wpAny_Call_Name_kw (ld_glob I hg hm (PySem.W.callWith_K (h₀ := X.base) I.ok.mod.kin M.kp (thn (ha.run pos pins s σ H _ I h) fun us s1 ⟨vs, H1, I1, r, q⟩ => ⟨I1.kIn, make_at M F hr hx I1 r q⟩) he hpl) hdb)⟩
end
end OwX
namespace Rd
open PySem PySem.Spec PyProof.Rows L2 OwX
theorem mkRS {C : Addr} {σ : L2.St} {H : Hp} {Q : VK} {E : L2.St → XK} {sp : Sp} {t : TA} (k : t σ H fun vs H1 => MkR C sp (E σ) vs H1 Q) : tMkRS C sp E t σ H Q := k
theorem callRS {σ : L2.St} {H : Hp} {Q : VK} {E : L2.St → XK} {sp : Sp} {t : TA} (k : t σ H fun vs H1 => sp vs H1 Q (E σ)) : tCallRS sp E t σ H Q := k
/-! ### comprehensions over values that stand for items -/
section
variable {α β : Type} {J : It} {G : Hp → Prop} {Y : Nat → Hp → V → Hp → Prop} {items : List α}
theorem lcB (w : Walk J items.length G Y) (B : α → V → Prop) (hy : ∀ i H x H', Y i H x H' → ∃ it, items[i]? = some it ∧ (H' = H ∧ B it x)) (hn : items.length < 100000)
    {g : TG} {tt : TT} {te : TE} {vs : List Nat} {σ : L2.St} {H1 : Hp} {D : Addr} {Qd : Hp → Prop} (keep : α → Bool) (R : α → V → Hp → Prop) (mono : ∀ a y H H', Ext H H' → R a y H → R a y H')
    (hD : H1 D = none) (hG : ∀ H, Ext H1 H → G H)
    (hs : ∀ (i : Nat) it x H acc, items[i]? = some it → B it x → Ext H1 H → H D = some (.lst acc) → ∀ (Qy : VK) (Qn : Hp → Prop),
      (∀ y H4, Ext H H4 → keep it = true → R it y (hid [D] H4) → Qy y H4) → (∀ H3, Ext H H3 → keep it = false → Qn H3) →
      g x (wipe σ vs) H fun σ2 H2 => wipe σ2 vs = wipe σ vs ∧ tt σ2 H2 fun b H3 => if b = true then te σ2 H3 Qy else Qn H3)
    (hd : ∀ ys H, Ext H1 H → H D = some (.lst ys) → Paired (fun a y => R a y (hid [D] H)) (items.filter keep) ys → Qd H) :
    ∃ W : Nat → Nat → Hp → Prop, (∃ m, W 0 m (upd H1 D (.lst []))) ∧ ∀ i m H, W i m H →
      (J.stop i H ∧ Qd H) ∨ (J.go i H ∧ ∃ Nx : Hp → Prop, (∀ H', Nx H' → ∃ m', m' < m ∧ W (i + 1) m' H') ∧ ∀ x H', J.yld i H x H' → g x (wipe σ vs) H' fun σ2 H2 => wipe σ2 vs = wipe σ vs ∧ tt σ2 H2 fun b H3 =>
        if b = true then te σ2 H3 fun y H4 => ∃ acc, H4 D = some (.lst acc) ∧ acc.length < sizeLine ∧ Nx (upd H4 D (.lst (acc ++ [y]))) else Nx H3) := by
  have z : ∀ {H H' : Hp}, Ext (hid [] H) (hid [] H') ↔ Ext H H' := fun {H H'} => by rw [hid_nil, hid_nil]
  refine lcG w (Yi := fun it H x H' => H' = H ∧ B it x) hy hn [] (fun _ => True) keep R mono hD (by simp) (fun _ _ _ => trivial) trivial (fun H e _ => hG H (z.mp e)) ?_ ?_
  · rintro i it x H H' acc hit e _ ha ⟨rfl, hB⟩ Qy Qn ky kn
    exact hs i it x H' acc hit hB (z.mp e) ha Qy Qn (fun y H4 e4 => ky y H4 (z.mpr e4) trivial) (fun H3 e3 => kn H3 (z.mpr e3) trivial)
  · intro ys H e _ hys pr
    exact hd ys H (z.mp e) hys pr
/-- the values at a list stand for items -/
theorem yB {B : α → V → Prop} {vs : List V} (pr : Paired B items vs) : ∀ i H x H', YAt vs i H x H' → ∃ it, items[i]? = some it ∧ (H' = H ∧ B it x) := fun i H x H' h => by
  obtain ⟨rfl, h⟩ := h
  have key : ∀ {items : List α} {vs : List V} {i : Nat}, Paired B items vs → vs[i]? = some x → ∃ it, items[i]? = some it ∧ B it x := by
    clear h pr
    intro items vs i pr
    induction pr generalizing i with
    | nil => intro h; simp at h
    | cons r t ih =>
      intro h
      cases i with
      | zero => simp at h; subst h; exact ⟨_, by simp, r⟩
      | succ i => simp at h; obtain ⟨it, h1, h2⟩ := ih h; exact ⟨it, by simpa using h1, h2⟩
  obtain ⟨it, h1, h2⟩ := key pr h
  exact ⟨it, h1, rfl, h2⟩
theorem walk_lB {K : PySem.W.Frag} {a : Addr} {B : α → V → Prop} {vs : List V} (pr : Paired B items vs) : Walk (Itl K a) items.length (fun H => SqL K H a vs) (YAt vs) := by
  rw [paired_len pr]; exact walk_list
theorem walk_tB {K : PySem.W.Frag} {a : Addr} {B : α → V → Prop} {vs : List V} (pr : Paired B items vs) : Walk (Itt K a) items.length (fun H => SqT K H a vs) (YAt vs) := by
  rw [paired_len pr]; exact walk_tup
end
/-! ### two fors -/
theorem paired_app {α β : Type} {R : α → β → Prop} : ∀ {xs xs' : List α} {ys ys' : List β}, Paired R xs ys → Paired R xs' ys' → Paired R (xs ++ xs') (ys ++ ys')
  | _, _, _, _, .nil, h => h
  | _, _, _, _, .cons r t, h => .cons r (paired_app t h)
theorem flat_len {α β : Type} {f : α → List β} {M : Nat} : ∀ {xs : List α}, (∀ x ∈ xs, (f x).length ≤ M) → (xs.flatMap f).length ≤ xs.length * M
  | [], _ => by simp
  | x :: xs, h => by
    have h1 := flat_len (f := f) (M := M) (xs := xs) fun y hy => h y (List.mem_cons_of_mem _ hy)
    have h2 := h x List.mem_cons_self
    rw [List.flatMap_cons, List.length_append, List.length_cons, Nat.succ_mul]
    omega
/-- the inner for of a comprehension of two, in its turn -/
def In2 (g1 : TG) (tt1 : TT) (te : TE) (vs1 : List Nat) (D : Addr) (J1 : It) (σ2 : L2.St) (H4 : Hp) (Nx : Hp → Prop) : Prop := ∃ W1 : Nat → Nat → Hp → Prop, (∃ m, W1 0 m H4) ∧ ∀ j k H, W1 j k H →
  (J1.stop j H ∧ Nx H) ∨ (J1.go j H ∧ ∃ Nx1 : Hp → Prop, (∀ H', Nx1 H' → ∃ k', k' < k ∧ W1 (j + 1) k' H') ∧ ∀ x H', J1.yld j H x H' → g1 x (wipe σ2 vs1) H' fun σ3 H5 => wipe σ3 vs1 = wipe σ2 vs1 ∧ tt1 σ3 H5 fun b H6 =>
    if b = true then te σ3 H6 fun y H7 => ∃ acc, H7 D = some (.lst acc) ∧ acc.length < sizeLine ∧ Nx1 (upd H7 D (.lst (acc ++ [y]))) else Nx1 H6)
theorem lc2 {α β : Type} {J : It} {G : Hp → Prop} {Y : Nat → Hp → V → Hp → Prop} {items : List α} {sub : α → List β} {M : Nat} (w : Walk J items.length G Y) (B : α → V → Prop) (hy : ∀ i H x H', Y i H x H' → ∃ it, items[i]? = some it ∧ (H' = H ∧ B it x))
    (hM : ∀ a ∈ items, (sub a).length ≤ M) (hn : items.length * M + M < 100000)
    {g g1 : TG} {wi1 : TI} {tt1 : TT} {te : TE} {vs vs1 : List Nat} {σ : L2.St} {H1 : Hp} {D : Addr} {Qd : Hp → Prop} (keep : α → β → Bool) (R : α × β → V → Hp → Prop) (mono : ∀ a y H H', Ext H H' → R a y H → R a y H')
    (hD : H1 D = none) (hG : ∀ H, Ext H1 H → G H)
    (hs : ∀ (i : Nat) a x H, items[i]? = some a → B a x → Ext H1 H → (∃ acc, H D = some (.lst acc)) → ∀ Nx : Hp → Prop,
      (∀ {J1 : It} {H4 : Hp} {σ2 : L2.St} {G1 : Hp → Prop} {Y1 : Nat → Hp → V → Hp → Prop} (B1 : β → V → Prop), Ext H H4 → Walk J1 (sub a).length G1 Y1 → (∀ i H x H', Y1 i H x H' → ∃ it, (sub a)[i]? = some it ∧ (H' = H ∧ B1 it x)) → (∀ H', Ext H1 H' → Ext (hid [D] H4) (hid [D] H') → G1 H') →
        (∀ (j : Nat) b x H5 acc, (sub a)[j]? = some b → B1 b x → Ext H1 H5 → Ext (hid [D] H4) (hid [D] H5) → H5 D = some (.lst acc) → ∀ (Qy : VK) (Qn : Hp → Prop), (∀ y H7, Ext H5 H7 → keep a b = true → R (a, b) y (hid [D] H7) → Qy y H7) → (∀ H6, Ext H5 H6 → keep a b = false → Qn H6) →
          g1 x (wipe σ2 vs1) H5 fun σ3 H6 => wipe σ3 vs1 = wipe σ2 vs1 ∧ tt1 σ3 H6 fun bb H7 => if bb = true then te σ3 H7 Qy else Qn H7) → In2 g1 tt1 te vs1 D J1 σ2 H4 Nx) →
      g x (wipe σ vs) H fun σ2 H2 => wipe σ2 vs = wipe σ vs ∧ wi1 σ2 H2 fun J1 H4 => In2 g1 tt1 te vs1 D J1 σ2 H4 Nx)
    (hd : ∀ ys H, Ext H1 H → H D = some (.lst ys) → Paired (fun a y => R a y (hid [D] H)) (items.flatMap fun a => ((sub a).filter (keep a)).map fun b => (a, b)) ys → Qd H) :
    ∃ W : Nat → Nat → Hp → Prop, (∃ m, W 0 m (upd H1 D (.lst []))) ∧ ∀ i m H, W i m H →
      (J.stop i H ∧ Qd H) ∨ (J.go i H ∧ ∃ Nx : Hp → Prop, (∀ H', Nx H' → ∃ m', m' < m ∧ W (i + 1) m' H') ∧ ∀ x H', J.yld i H x H' → g x (wipe σ vs) H' fun σ2 H2 => wipe σ2 vs = wipe σ vs ∧ tYes σ2 H2 fun b H3 =>
        if b = true then wi1 σ2 H3 fun J1 H4 => In2 g1 tt1 te vs1 D J1 σ2 H4 Nx else Nx H3) := by
  have fe : ∀ {H : Hp} {u : HO}, Ext H1 H → Ext H1 (upd H D u) := fun {H u} e a o h => by
    rw [upd_ne (ne_of_none h hD)]
    exact e a o h
  have hidD : ∀ {H : Hp} {u : HO}, hid [D] (upd H D u) = hid [D] H := fun {H u} => hid_upd (by simp)
  let F : α → List (α × β) := fun a => ((sub a).filter (keep a)).map fun b => (a, b)
  have lenF : ∀ a ∈ items, (F a).length ≤ M := fun a ha => by
    have h1 := hM a ha
    have h2 := List.length_filter_le (keep a) (sub a)
    simp only [F, List.length_map]
    omega
  refine ⟨fun i m H => m = items.length - i ∧ i ≤ items.length ∧ Ext H1 H ∧ ∃ ys, H D = some (.lst ys) ∧ Paired (fun a y => R a y (hid [D] H)) ((items.take i).flatMap F) ys, ⟨_, rfl, Nat.zero_le _, fe ext_rfl, [], upd_same, .nil⟩, ?_⟩
  rintro i m H ⟨rfl, hi, e, ys, hys, pr⟩
  have q := hG H e
  by_cases hlt : i < items.length
  · refine .inr ⟨w.goes i H hlt q, fun H => Ext H1 H ∧ ∃ ys, H D = some (.lst ys) ∧ Paired (fun a y => R a y (hid [D] H)) ((items.take (i + 1)).flatMap F) ys, fun H' p' => ⟨items.length - (i + 1), by omega, rfl, hlt, p'⟩, fun x H' y => ?_⟩
    obtain ⟨a, ha, rfl, hB⟩ := hy i H x H' (w.yields i H x H' hlt q y)
    have hbase : ((items.take i).flatMap F).length ≤ i * M := by
      have h := flat_len (f := F) (M := M) (xs := items.take i) fun x hx => lenF x (List.mem_of_mem_take hx)
      rw [List.length_take, Nat.min_eq_left (Nat.le_of_lt hlt)] at h
      exact h
    have hiM : i * M ≤ items.length * M := Nat.mul_le_mul_right M (Nat.le_of_lt hlt)
    have haM := hM a (List.mem_of_getElem? ha)
    refine hs i a x H' ha hB e ⟨ys, hys⟩ _ fun {J1 H4 σ2 G1 Y1} B1 e4 w1 y1 g1' body => ?_
    refine ⟨fun j k H => k = (sub a).length - j ∧ j ≤ (sub a).length ∧ Ext H1 H ∧ Ext (hid [D] H4) (hid [D] H) ∧ ∃ ys, H D = some (.lst ys) ∧ Paired (fun a y => R a y (hid [D] H)) ((items.take i).flatMap F ++ (((sub a).take j).filter (keep a)).map fun b => (a, b)) ys,
      ⟨_, rfl, Nat.zero_le _, e.trans e4, ext_rfl, ys, e4 _ _ hys, by
        rw [List.take_zero, List.filter_nil, List.map_nil, List.append_nil]
        exact paired_imp (fun a b r => mono a b _ _ (ext_hid e4) r) pr⟩, ?_⟩
    rintro j k H5 ⟨rfl, hj, e5, e5', ys5, hys5, pr5⟩
    have q1 := g1' H5 e5 e5'
    by_cases hjt : j < (sub a).length
    · refine .inr ⟨w1.goes j H5 hjt q1, _, fun H' p' => ⟨(sub a).length - (j + 1), by omega, rfl, hjt, p'⟩, fun x1 H6 y6 => ?_⟩
      obtain ⟨b, hb, rfl, hB1⟩ := y1 j H5 x1 H6 (w1.yields j H5 x1 H6 hjt q1 y6)
      have few : ys5.length < 100000 := by
        have h1 := paired_len pr5
        rw [List.length_append, List.length_map] at h1
        have h2 := List.length_filter_le (keep a) ((sub a).take j)
        rw [List.length_take] at h2
        omega
      refine body j b x1 H6 ys5 hb hB1 e5 e5' hys5 _ _ (fun y H7 e7 k7 r7 => ?_) (fun H7 e7 k7 => ?_)
      · refine ⟨ys5, e7 _ _ hys5, szl few, fe (e5.trans e7), ?_, ys5 ++ [y], upd_same, ?_⟩
        · rw [hidD]; exact e5'.trans (ext_hid e7)
        · rw [filter_snoc (keep a) hb, if_pos k7, List.map_append, ← List.append_assoc, hidD]
          exact paired_snoc (R := fun a y => R a y (hid [D] H7)) r7 (paired_imp (fun a b r => mono a b _ _ (ext_hid e7) r) pr5)
      · refine ⟨e5.trans e7, e5'.trans (ext_hid e7), ys5, e7 _ _ hys5, ?_⟩
        rw [filter_snoc (keep a) hb, k7, if_neg Bool.false_ne_true, List.append_nil]
        exact paired_imp (fun a b r => mono a b _ _ (ext_hid e7) r) pr5
    · have ej : j = (sub a).length := by omega
      subst ej
      refine .inl ⟨w1.stops H5 q1, e5, ys5, hys5, ?_⟩
      rw [take_snoc ha, List.flatMap_append, List.flatMap_singleton]
      rw [List.take_length] at pr5
      exact pr5
  · have ei : i = items.length := by omega
    subst ei
    rw [List.take_length] at pr
    exact .inl ⟨w.stops H q, hd ys H e hys pr⟩
end Rd
namespace OwX
open PySem PySem.Spec PyProof.Rows L2
theorem gcI {mg : Str → Option Value} {x : Str} {n : Int} (h : ∃ t, mg x = some (.int n t)) : ∃ u, mg x = some u ∧ RelV (.int n) u := let ⟨t, e⟩ := h; ⟨_, e, t, rfl⟩
end OwX
namespace GW
open PySem PySem.Spec PyProof.Rows L2 OwX
def rBoolT (K : PySem.W.Frag) : List V → Hp → VK → Prop := fun xs H Q => ∃ (a : Addr) (zs : List V), xs = [.ref a] ∧ SqT K H a zs ∧ Q (.bl (!zs.isEmpty)) H
theorem boolT {K : PySem.W.Frag} {X : Cx} (h : X.K = K := by rfl) : CallR X (.type "bool") (rBoolT K) := by
  subst h
  intro pins s σ H xs us Q I r h
  obtain ⟨a, zs, rfl, hz, q⟩ := h
  obtain ⟨u, rfl, rx⟩ := vals1 r
  cases rx
  refine callType_newIn PySem.F.called_bool PySem.F.newNe_bool (PySem.F.typeCall_bool_1 _) (PySem.F.newCall_bool_1 _) (fun obj => PySem.F.args_object_init_2 obj _) PySem.F.entry_bool_new (bool_new_ref a) ?_
  obtain ⟨its, rv, pl, hsz⟩ := I.tuple hz
  have hl := line63
  have few : its.length ≤ sizeLine := by rw [← rv.length]; exact hsz
  refine truthy_tuple pl (by simp only [List.size_toArray]; have h3 := Nat.lt_of_le_of_lt few hl; omega) ⟨rfl, .bl _, H, I.tok _, rfl, ?_⟩
  rw [isEmpty_of rv]
  exact q
end GW

namespace Rd
open PySem PySem.Spec PyProof.Rows L2 OwX
def Lc2B (J : It) (g : TG) (wi1 : TI) (g1 : TG) (tt1 : TT) (te : TE) (vs vs1 : List Nat) (σ : L2.St) (H1 : Hp) (Q : VK) : Prop := ∀ D, H1 D = none → ∃ W : Nat → Nat → Hp → Prop, (∃ m, W 0 m (upd H1 D (.lst []))) ∧ ∀ i m H, W i m H →
  (J.stop i H ∧ Q (.ref D) H) ∨ (J.go i H ∧ ∃ Nx : Hp → Prop, (∀ H', Nx H' → ∃ m', m' < m ∧ W (i + 1) m' H') ∧ ∀ x H', J.yld i H x H' → g x (wipe σ vs) H' fun σ2 H2 => wipe σ2 vs = wipe σ vs ∧ tYes σ2 H2 fun b H3 =>
    if b = true then wi1 σ2 H3 fun J1 H4 => In2 g1 tt1 te vs1 D J1 σ2 H4 Nx else Nx H3)
section
variable {K : PySem.W.Frag} {g g1 : TG} {tt1 : TT} {te tl : TE} {ta : TA} {vs vs1 : List Nat} {σ : L2.St} {H : Hp} {Q : VK} {wi1 : TI}
theorem lc2T (k : tl σ H fun x H1 => ∃ a, x = .ref a ∧ (∃ xs, SqT K H1 a xs) ∧ Lc2B (Itt K a) g wi1 g1 tt1 te vs vs1 σ H1 Q) : tLc2 (iTup K tl) g tYes wi1 g1 tt1 te vs vs1 σ H Q := k
theorem lc2L (k : tl σ H fun x H1 => ∃ a, x = .ref a ∧ (∃ xs, SqL K H1 a xs) ∧ Lc2B (Itl K a) g wi1 g1 tt1 te vs vs1 σ H1 Q) : tLc2 (iList K tl) g tYes wi1 g1 tt1 te vs vs1 σ H Q := k
theorem lc2R (k : ta σ H fun vs' H1 => ∃ j : Int, vs' = [.int j] ∧ -(2 ^ 62) ≤ j ∧ j < 2 ^ 62 ∧ Lc2B (Itr 0 j.toNat) g wi1 g1 tt1 te vs vs1 σ H1 Q) : tLc2 (iRng1 ta) g tYes wi1 g1 tt1 te vs vs1 σ H Q := k
theorem inR2 {R : It → Hp → Prop} (k : ta σ H fun vs H1 => ∃ i j : Int, vs = [.int i, .int j] ∧ (-(2 ^ 62) ≤ i ∧ i < 2 ^ 62 ∧ -(2 ^ 62) ≤ j ∧ j < 2 ^ 62) ∧ R (Itr i (j - i).toNat) H1) : iRng2 ta σ H R := k
theorem inR1 {R : It → Hp → Prop} (k : ta σ H fun vs H1 => ∃ j : Int, vs = [.int j] ∧ -(2 ^ 62) ≤ j ∧ j < 2 ^ 62 ∧ R (Itr 0 j.toNat) H1) : iRng1 ta σ H R := k
theorem inT {R : It → Hp → Prop} (k : tl σ H fun x H1 => ∃ a, x = .ref a ∧ (∃ xs, SqT K H1 a xs) ∧ R (Itt K a) H1) : iTup K tl σ H R := k
theorem inL {R : It → Hp → Prop} (k : tl σ H fun x H1 => ∃ a, x = .ref a ∧ (∃ xs, SqL K H1 a xs) ∧ R (Itl K a) H1) : iList K tl σ H R := k
end
theorem walk_from {lo : Int} {n : Nat} : Walk (Itr lo n) (List.range n).length (fun _ => True) (fun i H x H' => i < n ∧ YFn (fun i => .int (lo + (i : Nat))) i H x H') := by
  rw [List.length_range]
  exact ⟨fun _ _ hi _ => hi, fun _ _ => Nat.le_refl _, fun i _ _ _ hi _ y => ⟨hi, y⟩⟩
theorem yfrom {lo : Int} {n : Nat} : ∀ i H x H', (i < n ∧ YFn (fun i => V.int (lo + (i : Nat))) i H x H') → ∃ it, (List.range n)[i]? = some it ∧ (H' = H ∧ x = V.int (lo + (it : Nat))) := fun i H x H' h => yfn i H x H' h.1 h.2
end Rd

namespace Rd
open PySem PySem.Spec PyProof.Rows L2 OwX
theorem paired_back {α β : Type} {R : α → β → Prop} {x : β} : ∀ {xs : List α} {ys : List β} {i : Nat}, Paired R xs ys → ys[i]? = some x → ∃ a, xs[i]? = some a ∧ R a x
  | _, _, _, .nil, h => by simp at h
  | _, _, 0, .cons r _, h => by simp at h; subst h; exact ⟨_, by simp, r⟩
  | _, _, i + 1, .cons _ t, h => by
    obtain ⟨a, h1, h2⟩ := paired_back (i := i) t (by simpa using h)
    exact ⟨a, by simpa using h1, h2⟩
theorem setF {K : PySem.W.Frag} {i : Nat} {x : Addr} {tv : TE} {f : Str} {D : Ends} {σ : L2.St} {H : Hp} (h : σ[i]? = some (some (.ref x))) (k : tv σ H fun y H1 => ∃ C dx fs, H1 x = some (.ins C dx fs) ∧ Cls K C ∧ NoAttr K C f ∧ fs.length < 1000 ∧ D.nx σ (upd H1 x (.ins C dx (putF f y fs))))
    (mono : ∀ R R' : VK, (∀ v H, R v H → R' v H) → tv σ H R → tv σ H R') : sFld K (tVar i) tv f D σ H :=
  mono _ _ (fun y H1 ⟨C, dx, fs, h1, h2, h3, h4, h5⟩ => ⟨.ref x, h, x, C, dx, fs, rfl, h1, h2, h3, h4, h5⟩) k
theorem sF {K : PySem.W.Frag} {ta tv : TE} {f : Str} {D : Ends} {σ : L2.St} {H : Hp} (k : tv σ H fun y H1 => ta σ H1 fun x H2 => ∃ a C dx fs, x = .ref a ∧ H2 a = some (.ins C dx fs) ∧ Cls K C ∧ NoAttr K C f ∧ fs.length < 1000 ∧ D.nx σ (upd H2 a (.ins C dx (putF f y fs)))) : sFld K ta tv f D σ H := k
theorem fldv {K : PySem.W.Frag} {σ : L2.St} {H : Hp} {n : Nat} {a C dx : Addr} {fs : List (Str × V)} {f : Str} {v : V} {Q : VK} (e : σ[n]? = some (some (.ref a))) (h : H a = some (.ins C dx fs)) (c : Cls K C) (na : NoAttr K C f) (l : fs.lookup f = some v) (k : Q v H) : tFld K (tVar n) f σ H Q := ⟨.ref a, e, a, C, dx, fs, v, rfl, h, c, na, l, k⟩
theorem dIn {ty td : TE} {σ : L2.St} {H : Hp} {Q : VK} (k : ty σ H fun y H1 => td σ H1 fun x H2 => ∃ a o, x = .ref a ∧ DGet H2 a y o ∧ Q (.bl o.isSome) H2) : tDIn ty td σ H Q := k
theorem dNi {ty td : TE} {σ : L2.St} {H : Hp} {Q : VK} (k : ty σ H fun y H1 => td σ H1 fun x H2 => ∃ a o, x = .ref a ∧ DGet H2 a y o ∧ Q (.bl (!o.isSome)) H2) : tDNotIn ty td σ H Q := k
/-- an int by a test, one way on -/
theorem ifI {p : Prop} [Decidable p] {i j : Int} {t : TT} {ta tb : TE} {σ : L2.St} {H : Hp} {Q : VK} (ht : ∀ R : Bool → Hp → Prop, R (decide p) H → t σ H R) (ha : ∀ R : VK, R (.int i) H → ta σ H R) (hb : ∀ R : VK, R (.int j) H → tb σ H R) (k : Q (.int (if p then i else j)) H) : tIf t ta tb σ H Q := by
  refine ht _ ?_
  by_cases c : p
  · rw [if_pos c] at k
    rw [decide_eq_true c, if_pos rfl]
    exact ha _ k
  · rw [if_neg c] at k
    rw [decide_eq_false c, if_neg Bool.false_ne_true]
    exact hb _ k
end Rd

set_option Elab.async false
set_option linter.all false
set_option maxRecDepth 100000
set_option maxHeartbeats 0
/-! The text by places, its defs as data, what is read off the top (printed by gen.py). -/
namespace Lv
open PySem PySem.Spec PyProof.Rows L2 OwX
def top (i : Nat) : Stmt := PySem.Challenge.pw_levelcascades_k24_value_forms.main.body.getD i (.Pass ⟨0, 0, 0, 0⟩)
abbrev s_BadTeams_init : Stmt := inClass (top 3) 0
abbrev s_BadPair_init : Stmt := inClass (top 4) 0
abbrev s_BadLength_init : Stmt := inClass (top 5) 0
abbrev s_BadResult_init : Stmt := inClass (top 6) 0
abbrev s_NoIndex_init : Stmt := inClass (top 7) 0
abbrev s_BadFactor_init : Stmt := inClass (top 8) 0
abbrev s_BadWhat_init : Stmt := inClass (top 9) 0
abbrev s_BadTeam_init : Stmt := inClass (top 10) 0
abbrev s_sign_of : Stmt := top 13
abbrev s_in_scope : Stmt := top 14
abbrev s_points_for : Stmt := top 15
abbrev s_share : Stmt := top 16
abbrev s_value : Stmt := top 17
abbrev s_Form_init : Stmt := inClass (top 19) 0
abbrev s_Form_len : Stmt := inClass (top 19) 3
abbrev s_Form_bool : Stmt := inClass (top 19) 4
abbrev s_Form_iter : Stmt := inClass (top 19) 5
abbrev s_Form_getitem : Stmt := inClass (top 19) 6
abbrev s_Form_eq : Stmt := inClass (top 19) 7
abbrev s_Form_add : Stmt := inClass (top 19) 8
abbrev s_Form_sub : Stmt := inClass (top 19) 9
abbrev s_Form_neg : Stmt := inClass (top 19) 10
abbrev s_Form_mul : Stmt := inClass (top 19) 11
abbrev s_Form_rmul : Stmt := inClass (top 19) 12
abbrev s_Form_call : Stmt := inClass (top 19) 13
abbrev s_Form_sign : Stmt := inClass (top 19) 14
abbrev s_goal_parts : Stmt := top 20
abbrev s_value_form : Stmt := top 21
abbrev s_two_teams : Stmt := top 25
abbrev s_Fixtures_init : Stmt := inClass (top 26) 0
abbrev s_Fixtures_len : Stmt := inClass (top 26) 1
abbrev s_Fixtures_iter : Stmt := inClass (top 26) 2
abbrev s_Fixtures_getitem : Stmt := inClass (top 26) 3
abbrev s_Fixtures_contains : Stmt := inClass (top 26) 4
abbrev s_Fixtures_eq : Stmt := inClass (top 26) 5
abbrev s_Fixtures_of : Stmt := inClass (top 26) 6
abbrev s_fair : Stmt := top 28
abbrev s_copied : Stmt := top 29
abbrev s_flat : Stmt := top 30
abbrev s_times : Stmt := top 31
abbrev s_Sheet_init : Stmt := inClass (top 32) 0
abbrev s_Sheet_results : Stmt := inClass (top 32) 1
abbrev s_Sheet_goals : Stmt := inClass (top 32) 2
abbrev s_Sheet_len : Stmt := inClass (top 32) 4
abbrev s_Sheet_iter : Stmt := inClass (top 32) 5
abbrev s_Sheet_getitem : Stmt := inClass (top 32) 6
abbrev s_Sheet_setitem : Stmt := inClass (top 32) 7
abbrev s_Sheet_contains : Stmt := inClass (top 32) 8
abbrev s_Sheet_eq : Stmt := inClass (top 32) 9
abbrev s_Sheet_mul : Stmt := inClass (top 32) 10
abbrev s_Sheet_rmul : Stmt := inClass (top 32) 11
abbrev s_law_pool : Stmt := top 34
abbrev s_law_take : Stmt := top 35
abbrev s_law_one : Stmt := top 36
abbrev s_law_pairs : Stmt := top 37
abbrev s_law_base : Stmt := top 38
abbrev s_law_goals : Stmt := top 39
abbrev s_law_is_form : Stmt := top 40
abbrev s_law_total : Stmt := top 41
abbrev s_law_value_parts : Stmt := top 42
abbrev s_law_told : Stmt := top 43
abbrev s_law_refused : Stmt := top 44
abbrev s_law : Stmt := top 45
abbrev N_BadTeams_init : List Str := ["self", "teams"]
abbrev P_BadTeams_init : List Str := ["self", "teams"]
abbrev a_BadTeams_init (K : PySem.W.Frag) : Addr := He.ma K (He.ga K "BadTeams") "__init__"
theorem sc_BadTeams_init : FnScope N_BadTeams_init P_BadTeams_init (defScope s_BadTeams_init) := ⟨rfl, rfl, rfl, by decide +kernel, rfl, by decide +kernel, by decide +kernel⟩
abbrev N_BadPair_init : List Str := ["self", "index"]
abbrev P_BadPair_init : List Str := ["self", "index"]
abbrev a_BadPair_init (K : PySem.W.Frag) : Addr := He.ma K (He.ga K "BadPair") "__init__"
theorem sc_BadPair_init : FnScope N_BadPair_init P_BadPair_init (defScope s_BadPair_init) := ⟨rfl, rfl, rfl, by decide +kernel, rfl, by decide +kernel, by decide +kernel⟩
abbrev N_BadLength_init : List Str := ["self", "count"]
abbrev P_BadLength_init : List Str := ["self", "count"]
abbrev a_BadLength_init (K : PySem.W.Frag) : Addr := He.ma K (He.ga K "BadLength") "__init__"
theorem sc_BadLength_init : FnScope N_BadLength_init P_BadLength_init (defScope s_BadLength_init) := ⟨rfl, rfl, rfl, by decide +kernel, rfl, by decide +kernel, by decide +kernel⟩
abbrev N_BadResult_init : List Str := ["self", "index"]
abbrev P_BadResult_init : List Str := ["self", "index"]
abbrev a_BadResult_init (K : PySem.W.Frag) : Addr := He.ma K (He.ga K "BadResult") "__init__"
theorem sc_BadResult_init : FnScope N_BadResult_init P_BadResult_init (defScope s_BadResult_init) := ⟨rfl, rfl, rfl, by decide +kernel, rfl, by decide +kernel, by decide +kernel⟩
abbrev N_NoIndex_init : List Str := ["self", "index"]
abbrev P_NoIndex_init : List Str := ["self", "index"]
abbrev a_NoIndex_init (K : PySem.W.Frag) : Addr := He.ma K (He.ga K "NoIndex") "__init__"
theorem sc_NoIndex_init : FnScope N_NoIndex_init P_NoIndex_init (defScope s_NoIndex_init) := ⟨rfl, rfl, rfl, by decide +kernel, rfl, by decide +kernel, by decide +kernel⟩
abbrev N_BadFactor_init : List Str := ["self", "factor"]
abbrev P_BadFactor_init : List Str := ["self", "factor"]
abbrev a_BadFactor_init (K : PySem.W.Frag) : Addr := He.ma K (He.ga K "BadFactor") "__init__"
theorem sc_BadFactor_init : FnScope N_BadFactor_init P_BadFactor_init (defScope s_BadFactor_init) := ⟨rfl, rfl, rfl, by decide +kernel, rfl, by decide +kernel, by decide +kernel⟩
abbrev N_BadWhat_init : List Str := ["self", "what"]
abbrev P_BadWhat_init : List Str := ["self", "what"]
abbrev a_BadWhat_init (K : PySem.W.Frag) : Addr := He.ma K (He.ga K "BadWhat") "__init__"
theorem sc_BadWhat_init : FnScope N_BadWhat_init P_BadWhat_init (defScope s_BadWhat_init) := ⟨rfl, rfl, rfl, by decide +kernel, rfl, by decide +kernel, by decide +kernel⟩
abbrev N_BadTeam_init : List Str := ["self", "team"]
abbrev P_BadTeam_init : List Str := ["self", "team"]
abbrev a_BadTeam_init (K : PySem.W.Frag) : Addr := He.ma K (He.ga K "BadTeam") "__init__"
theorem sc_BadTeam_init : FnScope N_BadTeam_init P_BadTeam_init (defScope s_BadTeam_init) := ⟨rfl, rfl, rfl, by decide +kernel, rfl, by decide +kernel, by decide +kernel⟩
abbrev N_sign_of : List Str := ["number"]
abbrev P_sign_of : List Str := ["number"]
abbrev a_sign_of (K : PySem.W.Frag) : Addr := He.ga K "sign_of"
theorem sc_sign_of : FnScope N_sign_of P_sign_of (defScope s_sign_of) := ⟨rfl, rfl, rfl, by decide +kernel, rfl, by decide +kernel, by decide +kernel⟩
abbrev N_in_scope : List Str := ["pair", "base"]
abbrev P_in_scope : List Str := ["pair", "base"]
abbrev a_in_scope (K : PySem.W.Frag) : Addr := He.ga K "in_scope"
theorem sc_in_scope : FnScope N_in_scope P_in_scope (defScope s_in_scope) := ⟨rfl, rfl, rfl, by decide +kernel, rfl, by decide +kernel, by decide +kernel⟩
abbrev N_points_for : List Str := ["points", "sign"]
abbrev P_points_for : List Str := ["points", "sign"]
abbrev a_points_for (K : PySem.W.Frag) : Addr := He.ga K "points_for"
theorem sc_points_for : FnScope N_points_for P_points_for (defScope s_points_for) := ⟨rfl, rfl, rfl, by decide +kernel, rfl, by decide +kernel, by decide +kernel⟩
abbrev N_share : List Str := ["what", "points", "at_home", "own", "other"]
abbrev P_share : List Str := ["what", "points", "at_home", "own", "other"]
abbrev a_share (K : PySem.W.Frag) : Addr := He.ga K "share"
theorem sc_share : FnScope N_share P_share (defScope s_share) := ⟨rfl, rfl, rfl, by decide +kernel, rfl, by decide +kernel, by decide +kernel⟩
abbrev N_value : List Str := ["what", "points", "sheet", "team", "base", "total", "pair", "result"]
abbrev P_value : List Str := ["what", "points", "sheet", "team", "base"]
abbrev a_value (K : PySem.W.Frag) : Addr := He.ga K "value"
theorem sc_value : FnScope N_value P_value (defScope s_value) := ⟨rfl, rfl, rfl, by decide +kernel, rfl, by decide +kernel, by decide +kernel⟩
abbrev N_Form_init : List Str := ["self", "parts"]
abbrev P_Form_init : List Str := ["self", "parts"]
abbrev a_Form_init (K : PySem.W.Frag) : Addr := He.ma K (He.ga K "Form") "__init__"
theorem sc_Form_init : FnScope N_Form_init P_Form_init (defScope s_Form_init) := ⟨rfl, rfl, rfl, by decide +kernel, rfl, by decide +kernel, by decide +kernel⟩
abbrev N_Form_len : List Str := ["self"]
abbrev P_Form_len : List Str := ["self"]
abbrev a_Form_len (K : PySem.W.Frag) : Addr := He.ma K (He.ga K "Form") "__len__"
theorem sc_Form_len : FnScope N_Form_len P_Form_len (defScope s_Form_len) := ⟨rfl, rfl, rfl, by decide +kernel, rfl, by decide +kernel, by decide +kernel⟩
abbrev N_Form_bool : List Str := ["self", "part"]
abbrev P_Form_bool : List Str := ["self"]
abbrev a_Form_bool (K : PySem.W.Frag) : Addr := He.ma K (He.ga K "Form") "__bool__"
theorem sc_Form_bool : FnScope N_Form_bool P_Form_bool (defScope s_Form_bool) := ⟨rfl, rfl, rfl, by decide +kernel, rfl, by decide +kernel, by decide +kernel⟩
abbrev N_Form_iter : List Str := ["self"]
abbrev P_Form_iter : List Str := ["self"]
abbrev a_Form_iter (K : PySem.W.Frag) : Addr := He.ma K (He.ga K "Form") "__iter__"
theorem sc_Form_iter : FnScope N_Form_iter P_Form_iter (defScope s_Form_iter) := ⟨rfl, rfl, rfl, by decide +kernel, rfl, by decide +kernel, by decide +kernel⟩
abbrev N_Form_getitem : List Str := ["self", "at"]
abbrev P_Form_getitem : List Str := ["self", "at"]
abbrev a_Form_getitem (K : PySem.W.Frag) : Addr := He.ma K (He.ga K "Form") "__getitem__"
theorem sc_Form_getitem : FnScope N_Form_getitem P_Form_getitem (defScope s_Form_getitem) := ⟨rfl, rfl, rfl, by decide +kernel, rfl, by decide +kernel, by decide +kernel⟩
abbrev N_Form_eq : List Str := ["self", "other"]
abbrev P_Form_eq : List Str := ["self", "other"]
abbrev a_Form_eq (K : PySem.W.Frag) : Addr := He.ma K (He.ga K "Form") "__eq__"
theorem sc_Form_eq : FnScope N_Form_eq P_Form_eq (defScope s_Form_eq) := ⟨rfl, rfl, rfl, by decide +kernel, rfl, by decide +kernel, by decide +kernel⟩
abbrev N_Form_add : List Str := ["self", "other", "one", "two"]
abbrev P_Form_add : List Str := ["self", "other"]
abbrev a_Form_add (K : PySem.W.Frag) : Addr := He.ma K (He.ga K "Form") "__add__"
theorem sc_Form_add : FnScope N_Form_add P_Form_add (defScope s_Form_add) := ⟨rfl, rfl, rfl, by decide +kernel, rfl, by decide +kernel, by decide +kernel⟩
abbrev N_Form_sub : List Str := ["self", "other", "one", "two"]
abbrev P_Form_sub : List Str := ["self", "other"]
abbrev a_Form_sub (K : PySem.W.Frag) : Addr := He.ma K (He.ga K "Form") "__sub__"
theorem sc_Form_sub : FnScope N_Form_sub P_Form_sub (defScope s_Form_sub) := ⟨rfl, rfl, rfl, by decide +kernel, rfl, by decide +kernel, by decide +kernel⟩
abbrev N_Form_neg : List Str := ["self", "part"]
abbrev P_Form_neg : List Str := ["self"]
abbrev a_Form_neg (K : PySem.W.Frag) : Addr := He.ma K (He.ga K "Form") "__neg__"
theorem sc_Form_neg : FnScope N_Form_neg P_Form_neg (defScope s_Form_neg) := ⟨rfl, rfl, rfl, by decide +kernel, rfl, by decide +kernel, by decide +kernel⟩
abbrev N_Form_mul : List Str := ["self", "factor", "part"]
abbrev P_Form_mul : List Str := ["self", "factor"]
abbrev a_Form_mul (K : PySem.W.Frag) : Addr := He.ma K (He.ga K "Form") "__mul__"
theorem sc_Form_mul : FnScope N_Form_mul P_Form_mul (defScope s_Form_mul) := ⟨rfl, rfl, rfl, by decide +kernel, rfl, by decide +kernel, by decide +kernel⟩
abbrev N_Form_rmul : List Str := ["self", "factor", "part"]
abbrev P_Form_rmul : List Str := ["self", "factor"]
abbrev a_Form_rmul (K : PySem.W.Frag) : Addr := He.ma K (He.ga K "Form") "__rmul__"
theorem sc_Form_rmul : FnScope N_Form_rmul P_Form_rmul (defScope s_Form_rmul) := ⟨rfl, rfl, rfl, by decide +kernel, rfl, by decide +kernel, by decide +kernel⟩
abbrev N_Form_call : List Str := ["self", "values", "part", "number"]
abbrev P_Form_call : List Str := ["self", "values"]
abbrev a_Form_call (K : PySem.W.Frag) : Addr := He.ma K (He.ga K "Form") "__call__"
theorem sc_Form_call : FnScope N_Form_call P_Form_call (defScope s_Form_call) := ⟨rfl, rfl, rfl, by decide +kernel, rfl, by decide +kernel, by decide +kernel⟩
abbrev N_Form_sign : List Str := ["self", "values", "part", "number"]
abbrev P_Form_sign : List Str := ["self", "values"]
abbrev a_Form_sign (K : PySem.W.Frag) : Addr := He.ma K (He.ga K "Form") "sign"
theorem sc_Form_sign : FnScope N_Form_sign P_Form_sign (defScope s_Form_sign) := ⟨rfl, rfl, rfl, by decide +kernel, rfl, by decide +kernel, by decide +kernel⟩
abbrev N_goal_parts : List Str := ["what", "at_home"]
abbrev P_goal_parts : List Str := ["what", "at_home"]
abbrev a_goal_parts (K : PySem.W.Frag) : Addr := He.ga K "goal_parts"
theorem sc_goal_parts : FnScope N_goal_parts P_goal_parts (defScope s_goal_parts) := ⟨rfl, rfl, rfl, by decide +kernel, rfl, by decide +kernel, by decide +kernel⟩
abbrev N_value_form : List Str := ["fixtures", "what", "team", "base", "parts", "pair"]
abbrev P_value_form : List Str := ["fixtures", "what", "team", "base"]
abbrev a_value_form (K : PySem.W.Frag) : Addr := He.ga K "value_form"
theorem sc_value_form : FnScope N_value_form P_value_form (defScope s_value_form) := ⟨rfl, rfl, rfl, by decide +kernel, rfl, by decide +kernel, by decide +kernel⟩
abbrev N_two_teams : List Str := ["pair", "teams"]
abbrev P_two_teams : List Str := ["pair", "teams"]
abbrev a_two_teams (K : PySem.W.Frag) : Addr := He.ga K "two_teams"
theorem sc_two_teams : FnScope N_two_teams P_two_teams (defScope s_two_teams) := ⟨rfl, rfl, rfl, by decide +kernel, rfl, by decide +kernel, by decide +kernel⟩
abbrev N_Fixtures_init : List Str := ["self", "teams", "pairs", "kept", "index", "pair"]
abbrev P_Fixtures_init : List Str := ["self", "teams", "pairs"]
abbrev a_Fixtures_init (K : PySem.W.Frag) : Addr := He.ma K (He.ga K "Fixtures") "__init__"
theorem sc_Fixtures_init : FnScope N_Fixtures_init P_Fixtures_init (defScope s_Fixtures_init) := ⟨rfl, rfl, rfl, by decide +kernel, rfl, by decide +kernel, by decide +kernel⟩
abbrev N_Fixtures_len : List Str := ["self"]
abbrev P_Fixtures_len : List Str := ["self"]
abbrev a_Fixtures_len (K : PySem.W.Frag) : Addr := He.ma K (He.ga K "Fixtures") "__len__"
theorem sc_Fixtures_len : FnScope N_Fixtures_len P_Fixtures_len (defScope s_Fixtures_len) := ⟨rfl, rfl, rfl, by decide +kernel, rfl, by decide +kernel, by decide +kernel⟩
abbrev N_Fixtures_iter : List Str := ["self"]
abbrev P_Fixtures_iter : List Str := ["self"]
abbrev a_Fixtures_iter (K : PySem.W.Frag) : Addr := He.ma K (He.ga K "Fixtures") "__iter__"
theorem sc_Fixtures_iter : FnScope N_Fixtures_iter P_Fixtures_iter (defScope s_Fixtures_iter) := ⟨rfl, rfl, rfl, by decide +kernel, rfl, by decide +kernel, by decide +kernel⟩
abbrev N_Fixtures_getitem : List Str := ["self", "at"]
abbrev P_Fixtures_getitem : List Str := ["self", "at"]
abbrev a_Fixtures_getitem (K : PySem.W.Frag) : Addr := He.ma K (He.ga K "Fixtures") "__getitem__"
theorem sc_Fixtures_getitem : FnScope N_Fixtures_getitem P_Fixtures_getitem (defScope s_Fixtures_getitem) := ⟨rfl, rfl, rfl, by decide +kernel, rfl, by decide +kernel, by decide +kernel⟩
abbrev N_Fixtures_contains : List Str := ["self", "pair"]
abbrev P_Fixtures_contains : List Str := ["self", "pair"]
abbrev a_Fixtures_contains (K : PySem.W.Frag) : Addr := He.ma K (He.ga K "Fixtures") "__contains__"
theorem sc_Fixtures_contains : FnScope N_Fixtures_contains P_Fixtures_contains (defScope s_Fixtures_contains) := ⟨rfl, rfl, rfl, by decide +kernel, rfl, by decide +kernel, by decide +kernel⟩
abbrev N_Fixtures_eq : List Str := ["self", "other"]
abbrev P_Fixtures_eq : List Str := ["self", "other"]
abbrev a_Fixtures_eq (K : PySem.W.Frag) : Addr := He.ma K (He.ga K "Fixtures") "__eq__"
theorem sc_Fixtures_eq : FnScope N_Fixtures_eq P_Fixtures_eq (defScope s_Fixtures_eq) := ⟨rfl, rfl, rfl, by decide +kernel, rfl, by decide +kernel, by decide +kernel⟩
abbrev N_Fixtures_of : List Str := ["self", "team", "index", "pair"]
abbrev P_Fixtures_of : List Str := ["self", "team"]
abbrev a_Fixtures_of (K : PySem.W.Frag) : Addr := He.ma K (He.ga K "Fixtures") "of"
theorem sc_Fixtures_of : FnScope N_Fixtures_of P_Fixtures_of (defScope s_Fixtures_of) := ⟨rfl, rfl, rfl, by decide +kernel, rfl, by decide +kernel, by decide +kernel⟩
abbrev N_fair : List Str := ["result"]
abbrev P_fair : List Str := ["result"]
abbrev a_fair (K : PySem.W.Frag) : Addr := He.ga K "fair"
theorem sc_fair : FnScope N_fair P_fair (defScope s_fair) := ⟨rfl, rfl, rfl, by decide +kernel, rfl, by decide +kernel, by decide +kernel⟩
abbrev N_copied : List Str := ["result"]
abbrev P_copied : List Str := ["result"]
abbrev a_copied (K : PySem.W.Frag) : Addr := He.ga K "copied"
theorem sc_copied : FnScope N_copied P_copied (defScope s_copied) := ⟨rfl, rfl, rfl, by decide +kernel, rfl, by decide +kernel, by decide +kernel⟩
abbrev N_flat : List Str := ["results", "goals", "home", "away"]
abbrev P_flat : List Str := ["results"]
abbrev a_flat (K : PySem.W.Frag) : Addr := He.ga K "flat"
theorem sc_flat : FnScope N_flat P_flat (defScope s_flat) := ⟨rfl, rfl, rfl, by decide +kernel, rfl, by decide +kernel, by decide +kernel⟩
abbrev N_times : List Str := ["result", "factor"]
abbrev P_times : List Str := ["result", "factor"]
abbrev a_times (K : PySem.W.Frag) : Addr := He.ga K "times"
theorem sc_times : FnScope N_times P_times (defScope s_times) := ⟨rfl, rfl, rfl, by decide +kernel, rfl, by decide +kernel, by decide +kernel⟩
abbrev N_Sheet_init : List Str := ["self", "fixtures", "results", "given", "index", "result"]
abbrev P_Sheet_init : List Str := ["self", "fixtures", "results"]
abbrev a_Sheet_init (K : PySem.W.Frag) : Addr := He.ma K (He.ga K "Sheet") "__init__"
theorem sc_Sheet_init : FnScope N_Sheet_init P_Sheet_init (defScope s_Sheet_init) := ⟨rfl, rfl, rfl, by decide +kernel, rfl, by decide +kernel, by decide +kernel⟩
abbrev N_Sheet_results : List Str := ["self"]
abbrev P_Sheet_results : List Str := ["self"]
abbrev a_Sheet_results (K : PySem.W.Frag) : Addr := He5.wf K (He.ga K "Sheet") "property" "results"
theorem sc_Sheet_results : FnScope N_Sheet_results P_Sheet_results (defScope s_Sheet_results) := ⟨rfl, rfl, rfl, by decide +kernel, rfl, by decide +kernel, by decide +kernel⟩
abbrev N_Sheet_goals : List Str := ["self", "result"]
abbrev P_Sheet_goals : List Str := ["self"]
abbrev a_Sheet_goals (K : PySem.W.Frag) : Addr := He5.wf K (He.ga K "Sheet") "property" "goals"
theorem sc_Sheet_goals : FnScope N_Sheet_goals P_Sheet_goals (defScope s_Sheet_goals) := ⟨rfl, rfl, rfl, by decide +kernel, rfl, by decide +kernel, by decide +kernel⟩
abbrev N_Sheet_len : List Str := ["self", "result"]
abbrev P_Sheet_len : List Str := ["self"]
abbrev a_Sheet_len (K : PySem.W.Frag) : Addr := He.ma K (He.ga K "Sheet") "__len__"
theorem sc_Sheet_len : FnScope N_Sheet_len P_Sheet_len (defScope s_Sheet_len) := ⟨rfl, rfl, rfl, by decide +kernel, rfl, by decide +kernel, by decide +kernel⟩
abbrev N_Sheet_iter : List Str := ["self"]
abbrev P_Sheet_iter : List Str := ["self"]
abbrev a_Sheet_iter (K : PySem.W.Frag) : Addr := He.ma K (He.ga K "Sheet") "__iter__"
theorem sc_Sheet_iter : FnScope N_Sheet_iter P_Sheet_iter (defScope s_Sheet_iter) := ⟨rfl, rfl, rfl, by decide +kernel, rfl, by decide +kernel, by decide +kernel⟩
abbrev N_Sheet_getitem : List Str := ["self", "at"]
abbrev P_Sheet_getitem : List Str := ["self", "at"]
abbrev a_Sheet_getitem (K : PySem.W.Frag) : Addr := He.ma K (He.ga K "Sheet") "__getitem__"
theorem sc_Sheet_getitem : FnScope N_Sheet_getitem P_Sheet_getitem (defScope s_Sheet_getitem) := ⟨rfl, rfl, rfl, by decide +kernel, rfl, by decide +kernel, by decide +kernel⟩
abbrev N_Sheet_setitem : List Str := ["self", "at", "worth"]
abbrev P_Sheet_setitem : List Str := ["self", "at", "worth"]
abbrev a_Sheet_setitem (K : PySem.W.Frag) : Addr := He.ma K (He.ga K "Sheet") "__setitem__"
theorem sc_Sheet_setitem : FnScope N_Sheet_setitem P_Sheet_setitem (defScope s_Sheet_setitem) := ⟨rfl, rfl, rfl, by decide +kernel, rfl, by decide +kernel, by decide +kernel⟩
abbrev N_Sheet_contains : List Str := ["self", "at"]
abbrev P_Sheet_contains : List Str := ["self", "at"]
abbrev a_Sheet_contains (K : PySem.W.Frag) : Addr := He.ma K (He.ga K "Sheet") "__contains__"
theorem sc_Sheet_contains : FnScope N_Sheet_contains P_Sheet_contains (defScope s_Sheet_contains) := ⟨rfl, rfl, rfl, by decide +kernel, rfl, by decide +kernel, by decide +kernel⟩
abbrev N_Sheet_eq : List Str := ["self", "other"]
abbrev P_Sheet_eq : List Str := ["self", "other"]
abbrev a_Sheet_eq (K : PySem.W.Frag) : Addr := He.ma K (He.ga K "Sheet") "__eq__"
theorem sc_Sheet_eq : FnScope N_Sheet_eq P_Sheet_eq (defScope s_Sheet_eq) := ⟨rfl, rfl, rfl, by decide +kernel, rfl, by decide +kernel, by decide +kernel⟩
abbrev N_Sheet_mul : List Str := ["self", "factor", "result"]
abbrev P_Sheet_mul : List Str := ["self", "factor"]
abbrev a_Sheet_mul (K : PySem.W.Frag) : Addr := He.ma K (He.ga K "Sheet") "__mul__"
theorem sc_Sheet_mul : FnScope N_Sheet_mul P_Sheet_mul (defScope s_Sheet_mul) := ⟨rfl, rfl, rfl, by decide +kernel, rfl, by decide +kernel, by decide +kernel⟩
abbrev N_Sheet_rmul : List Str := ["self", "factor", "result"]
abbrev P_Sheet_rmul : List Str := ["self", "factor"]
abbrev a_Sheet_rmul (K : PySem.W.Frag) : Addr := He.ma K (He.ga K "Sheet") "__rmul__"
theorem sc_Sheet_rmul : FnScope N_Sheet_rmul P_Sheet_rmul (defScope s_Sheet_rmul) := ⟨rfl, rfl, rfl, by decide +kernel, rfl, by decide +kernel, by decide +kernel⟩
abbrev N_law_pool : List Str := ["script", "k", "cell", "big", "mixed"]
abbrev P_law_pool : List Str := ["script", "k"]
abbrev a_law_pool (K : PySem.W.Frag) : Addr := He.ga K "_law_pool"
theorem sc_law_pool : FnScope N_law_pool P_law_pool (defScope s_law_pool) := ⟨rfl, rfl, rfl, by decide +kernel, rfl, by decide +kernel, by decide +kernel⟩
abbrev N_law_take : List Str := ["pool", "bound", "result"]
abbrev P_law_take : List Str := ["pool", "bound"]
abbrev a_law_take (K : PySem.W.Frag) : Addr := He.ga K "_law_take"
theorem sc_law_take : FnScope N_law_take P_law_take (defScope s_law_take) := ⟨rfl, rfl, rfl, by decide +kernel, rfl, by decide +kernel, by decide +kernel⟩
abbrev N_law_one : List Str := ["pool", "things"]
abbrev P_law_one : List Str := ["pool", "things"]
abbrev a_law_one (K : PySem.W.Frag) : Addr := He.ga K "_law_one"
theorem sc_law_one : FnScope N_law_one P_law_one (defScope s_law_one) := ⟨rfl, rfl, rfl, by decide +kernel, rfl, by decide +kernel, by decide +kernel⟩
abbrev N_law_pairs : List Str := ["pool", "teams", "most", "left", "at", "found", "turn"]
abbrev P_law_pairs : List Str := ["pool", "teams", "most"]
abbrev a_law_pairs (K : PySem.W.Frag) : Addr := He.ga K "_law_pairs"
theorem sc_law_pairs : FnScope N_law_pairs P_law_pairs (defScope s_law_pairs) := ⟨rfl, rfl, rfl, by decide +kernel, rfl, by decide +kernel, by decide +kernel⟩
abbrev N_law_base : List Str := ["pool", "teams", "some", "team"]
abbrev P_law_base : List Str := ["pool", "teams"]
abbrev a_law_base (K : PySem.W.Frag) : Addr := He.ga K "_law_base"
theorem sc_law_base : FnScope N_law_base P_law_base (defScope s_law_base) := ⟨rfl, rfl, rfl, by decide +kernel, rfl, by decide +kernel, by decide +kernel⟩
abbrev N_law_goals : List Str := ["pool"]
abbrev P_law_goals : List Str := ["pool"]
abbrev a_law_goals (K : PySem.W.Frag) : Addr := He.ga K "_law_goals"
theorem sc_law_goals : FnScope N_law_goals P_law_goals (defScope s_law_goals) := ⟨rfl, rfl, rfl, by decide +kernel, rfl, by decide +kernel, by decide +kernel⟩
abbrev N_law_is_form : List Str := ["form", "parts", "part"]
abbrev P_law_is_form : List Str := ["form", "parts"]
abbrev a_law_is_form (K : PySem.W.Frag) : Addr := He.ga K "_law_is_form"
theorem sc_law_is_form : FnScope N_law_is_form P_law_is_form (defScope s_law_is_form) := ⟨rfl, rfl, rfl, by decide +kernel, rfl, by decide +kernel, by decide +kernel⟩
abbrev N_law_total : List Str := ["parts", "values", "at"]
abbrev P_law_total : List Str := ["parts", "values"]
abbrev a_law_total (K : PySem.W.Frag) : Addr := He.ga K "_law_total"
theorem sc_law_total : FnScope N_law_total P_law_total (defScope s_law_total) := ⟨rfl, rfl, rfl, by decide +kernel, rfl, by decide +kernel, by decide +kernel⟩
abbrev N_law_value_parts : List Str := ["pairs", "what", "team", "base", "found", "home", "away", "inside", "own", "other", "both"]
abbrev P_law_value_parts : List Str := ["pairs", "what", "team", "base"]
abbrev a_law_value_parts (K : PySem.W.Frag) : Addr := He.ga K "_law_value_parts"
theorem sc_law_value_parts : FnScope N_law_value_parts P_law_value_parts (defScope s_law_value_parts) := ⟨rfl, rfl, rfl, by decide +kernel, rfl, by decide +kernel, by decide +kernel⟩
abbrev N_law_told : List Str := ["function", "e"]
abbrev P_law_told : List Str := ["function"]
abbrev a_law_told (K : PySem.W.Frag) : Addr := He.ga K "_law_told"
theorem sc_law_told : FnScope N_law_told P_law_told (defScope s_law_told) := ⟨rfl, rfl, rfl, by decide +kernel, rfl, by decide +kernel, by decide +kernel⟩
abbrev N_law_refused : List Str := ["fixtures", "teams", "word", "bad"]
abbrev P_law_refused : List Str := ["fixtures", "teams", "word", "bad"]
abbrev a_law_refused (K : PySem.W.Frag) : Addr := He.ga K "_law_refused"
theorem sc_law_refused : FnScope N_law_refused P_law_refused (defScope s_law_refused) := ⟨rfl, rfl, rfl, by decide +kernel, rfl, by decide +kernel, by decide +kernel⟩
abbrev N_law : List Str := ["script", "k", "pool", "teams", "pairs", "fixtures", "base", "results", "pair", "sheet", "goals", "what", "team", "parts", "form", "plain", "bad"]
abbrev P_law : List Str := ["script"]
abbrev a_law (K : PySem.W.Frag) : Addr := He.ga K "law"
theorem sc_law : FnScope N_law P_law (defScope s_law) := ⟨rfl, rfl, rfl, by decide +kernel, rfl, by decide +kernel, by decide +kernel⟩
/-! ### data of the defs -/
def d_BadTeams_init : He5.DefA := ⟨fun K => a_BadTeams_init K, "__init__", "BadTeams.__init__", defArgs s_BadTeams_init, defBody s_BadTeams_init, defScope s_BadTeams_init, [], []⟩
def d_BadPair_init : He5.DefA := ⟨fun K => a_BadPair_init K, "__init__", "BadPair.__init__", defArgs s_BadPair_init, defBody s_BadPair_init, defScope s_BadPair_init, [], []⟩
def d_BadLength_init : He5.DefA := ⟨fun K => a_BadLength_init K, "__init__", "BadLength.__init__", defArgs s_BadLength_init, defBody s_BadLength_init, defScope s_BadLength_init, [], []⟩
def d_BadResult_init : He5.DefA := ⟨fun K => a_BadResult_init K, "__init__", "BadResult.__init__", defArgs s_BadResult_init, defBody s_BadResult_init, defScope s_BadResult_init, [], []⟩
def d_NoIndex_init : He5.DefA := ⟨fun K => a_NoIndex_init K, "__init__", "NoIndex.__init__", defArgs s_NoIndex_init, defBody s_NoIndex_init, defScope s_NoIndex_init, [], []⟩
def d_BadFactor_init : He5.DefA := ⟨fun K => a_BadFactor_init K, "__init__", "BadFactor.__init__", defArgs s_BadFactor_init, defBody s_BadFactor_init, defScope s_BadFactor_init, [], []⟩
def d_BadWhat_init : He5.DefA := ⟨fun K => a_BadWhat_init K, "__init__", "BadWhat.__init__", defArgs s_BadWhat_init, defBody s_BadWhat_init, defScope s_BadWhat_init, [], []⟩
def d_BadTeam_init : He5.DefA := ⟨fun K => a_BadTeam_init K, "__init__", "BadTeam.__init__", defArgs s_BadTeam_init, defBody s_BadTeam_init, defScope s_BadTeam_init, [], []⟩
def d_sign_of : He5.DefA := ⟨fun K => a_sign_of K, "sign_of", "sign_of", defArgs s_sign_of, defBody s_sign_of, defScope s_sign_of, [], []⟩
def d_in_scope : He5.DefA := ⟨fun K => a_in_scope K, "in_scope", "in_scope", defArgs s_in_scope, defBody s_in_scope, defScope s_in_scope, [], []⟩
def d_points_for : He5.DefA := ⟨fun K => a_points_for K, "points_for", "points_for", defArgs s_points_for, defBody s_points_for, defScope s_points_for, [], []⟩
def d_share : He5.DefA := ⟨fun K => a_share K, "share", "share", defArgs s_share, defBody s_share, defScope s_share, [], []⟩
def d_value : He5.DefA := ⟨fun K => a_value K, "value", "value", defArgs s_value, defBody s_value, defScope s_value, [.non], []⟩
def d_Form_init : He5.DefA := ⟨fun K => a_Form_init K, "__init__", "Form.__init__", defArgs s_Form_init, defBody s_Form_init, defScope s_Form_init, [], []⟩
def d_Form_len : He5.DefA := ⟨fun K => a_Form_len K, "__len__", "Form.__len__", defArgs s_Form_len, defBody s_Form_len, defScope s_Form_len, [], []⟩
def d_Form_bool : He5.DefA := ⟨fun K => a_Form_bool K, "__bool__", "Form.__bool__", defArgs s_Form_bool, defBody s_Form_bool, defScope s_Form_bool, [], []⟩
def d_Form_iter : He5.DefA := ⟨fun K => a_Form_iter K, "__iter__", "Form.__iter__", defArgs s_Form_iter, defBody s_Form_iter, defScope s_Form_iter, [], []⟩
def d_Form_getitem : He5.DefA := ⟨fun K => a_Form_getitem K, "__getitem__", "Form.__getitem__", defArgs s_Form_getitem, defBody s_Form_getitem, defScope s_Form_getitem, [], []⟩
def d_Form_eq : He5.DefA := ⟨fun K => a_Form_eq K, "__eq__", "Form.__eq__", defArgs s_Form_eq, defBody s_Form_eq, defScope s_Form_eq, [], []⟩
def d_Form_add : He5.DefA := ⟨fun K => a_Form_add K, "__add__", "Form.__add__", defArgs s_Form_add, defBody s_Form_add, defScope s_Form_add, [], []⟩
def d_Form_sub : He5.DefA := ⟨fun K => a_Form_sub K, "__sub__", "Form.__sub__", defArgs s_Form_sub, defBody s_Form_sub, defScope s_Form_sub, [], []⟩
def d_Form_neg : He5.DefA := ⟨fun K => a_Form_neg K, "__neg__", "Form.__neg__", defArgs s_Form_neg, defBody s_Form_neg, defScope s_Form_neg, [], []⟩
def d_Form_mul : He5.DefA := ⟨fun K => a_Form_mul K, "__mul__", "Form.__mul__", defArgs s_Form_mul, defBody s_Form_mul, defScope s_Form_mul, [], []⟩
def d_Form_rmul : He5.DefA := ⟨fun K => a_Form_rmul K, "__rmul__", "Form.__rmul__", defArgs s_Form_rmul, defBody s_Form_rmul, defScope s_Form_rmul, [], []⟩
def d_Form_call : He5.DefA := ⟨fun K => a_Form_call K, "__call__", "Form.__call__", defArgs s_Form_call, defBody s_Form_call, defScope s_Form_call, [], []⟩
def d_Form_sign : He5.DefA := ⟨fun K => a_Form_sign K, "sign", "Form.sign", defArgs s_Form_sign, defBody s_Form_sign, defScope s_Form_sign, [], []⟩
def d_goal_parts : He5.DefA := ⟨fun K => a_goal_parts K, "goal_parts", "goal_parts", defArgs s_goal_parts, defBody s_goal_parts, defScope s_goal_parts, [], []⟩
def d_value_form : He5.DefA := ⟨fun K => a_value_form K, "value_form", "value_form", defArgs s_value_form, defBody s_value_form, defScope s_value_form, [.non], []⟩
def d_two_teams : He5.DefA := ⟨fun K => a_two_teams K, "two_teams", "two_teams", defArgs s_two_teams, defBody s_two_teams, defScope s_two_teams, [], []⟩
def d_Fixtures_init : He5.DefA := ⟨fun K => a_Fixtures_init K, "__init__", "Fixtures.__init__", defArgs s_Fixtures_init, defBody s_Fixtures_init, defScope s_Fixtures_init, [], []⟩
def d_Fixtures_len : He5.DefA := ⟨fun K => a_Fixtures_len K, "__len__", "Fixtures.__len__", defArgs s_Fixtures_len, defBody s_Fixtures_len, defScope s_Fixtures_len, [], []⟩
def d_Fixtures_iter : He5.DefA := ⟨fun K => a_Fixtures_iter K, "__iter__", "Fixtures.__iter__", defArgs s_Fixtures_iter, defBody s_Fixtures_iter, defScope s_Fixtures_iter, [], []⟩
def d_Fixtures_getitem : He5.DefA := ⟨fun K => a_Fixtures_getitem K, "__getitem__", "Fixtures.__getitem__", defArgs s_Fixtures_getitem, defBody s_Fixtures_getitem, defScope s_Fixtures_getitem, [], []⟩
def d_Fixtures_contains : He5.DefA := ⟨fun K => a_Fixtures_contains K, "__contains__", "Fixtures.__contains__", defArgs s_Fixtures_contains, defBody s_Fixtures_contains, defScope s_Fixtures_contains, [], []⟩
def d_Fixtures_eq : He5.DefA := ⟨fun K => a_Fixtures_eq K, "__eq__", "Fixtures.__eq__", defArgs s_Fixtures_eq, defBody s_Fixtures_eq, defScope s_Fixtures_eq, [], []⟩
def d_Fixtures_of : He5.DefA := ⟨fun K => a_Fixtures_of K, "of", "Fixtures.of", defArgs s_Fixtures_of, defBody s_Fixtures_of, defScope s_Fixtures_of, [], []⟩
def d_fair : He5.DefA := ⟨fun K => a_fair K, "fair", "fair", defArgs s_fair, defBody s_fair, defScope s_fair, [], []⟩
def d_copied : He5.DefA := ⟨fun K => a_copied K, "copied", "copied", defArgs s_copied, defBody s_copied, defScope s_copied, [], []⟩
def d_flat : He5.DefA := ⟨fun K => a_flat K, "flat", "flat", defArgs s_flat, defBody s_flat, defScope s_flat, [], []⟩
def d_times : He5.DefA := ⟨fun K => a_times K, "times", "times", defArgs s_times, defBody s_times, defScope s_times, [], []⟩
def d_Sheet_init : He5.DefA := ⟨fun K => a_Sheet_init K, "__init__", "Sheet.__init__", defArgs s_Sheet_init, defBody s_Sheet_init, defScope s_Sheet_init, [.non], []⟩
def d_Sheet_results : He5.DefA := ⟨fun K => a_Sheet_results K, "results", "Sheet.results", defArgs s_Sheet_results, defBody s_Sheet_results, defScope s_Sheet_results, [], []⟩
def d_Sheet_goals : He5.DefA := ⟨fun K => a_Sheet_goals K, "goals", "Sheet.goals", defArgs s_Sheet_goals, defBody s_Sheet_goals, defScope s_Sheet_goals, [], []⟩
def d_Sheet_len : He5.DefA := ⟨fun K => a_Sheet_len K, "__len__", "Sheet.__len__", defArgs s_Sheet_len, defBody s_Sheet_len, defScope s_Sheet_len, [], []⟩
def d_Sheet_iter : He5.DefA := ⟨fun K => a_Sheet_iter K, "__iter__", "Sheet.__iter__", defArgs s_Sheet_iter, defBody s_Sheet_iter, defScope s_Sheet_iter, [], []⟩
def d_Sheet_getitem : He5.DefA := ⟨fun K => a_Sheet_getitem K, "__getitem__", "Sheet.__getitem__", defArgs s_Sheet_getitem, defBody s_Sheet_getitem, defScope s_Sheet_getitem, [], []⟩
def d_Sheet_setitem : He5.DefA := ⟨fun K => a_Sheet_setitem K, "__setitem__", "Sheet.__setitem__", defArgs s_Sheet_setitem, defBody s_Sheet_setitem, defScope s_Sheet_setitem, [], []⟩
def d_Sheet_contains : He5.DefA := ⟨fun K => a_Sheet_contains K, "__contains__", "Sheet.__contains__", defArgs s_Sheet_contains, defBody s_Sheet_contains, defScope s_Sheet_contains, [], []⟩
def d_Sheet_eq : He5.DefA := ⟨fun K => a_Sheet_eq K, "__eq__", "Sheet.__eq__", defArgs s_Sheet_eq, defBody s_Sheet_eq, defScope s_Sheet_eq, [], []⟩
def d_Sheet_mul : He5.DefA := ⟨fun K => a_Sheet_mul K, "__mul__", "Sheet.__mul__", defArgs s_Sheet_mul, defBody s_Sheet_mul, defScope s_Sheet_mul, [], []⟩
def d_Sheet_rmul : He5.DefA := ⟨fun K => a_Sheet_rmul K, "__rmul__", "Sheet.__rmul__", defArgs s_Sheet_rmul, defBody s_Sheet_rmul, defScope s_Sheet_rmul, [], []⟩
def d_law_pool : He5.DefA := ⟨fun K => a_law_pool K, "_law_pool", "_law_pool", defArgs s_law_pool, defBody s_law_pool, defScope s_law_pool, [], []⟩
def d_law_take : He5.DefA := ⟨fun K => a_law_take K, "_law_take", "_law_take", defArgs s_law_take, defBody s_law_take, defScope s_law_take, [], []⟩
def d_law_one : He5.DefA := ⟨fun K => a_law_one K, "_law_one", "_law_one", defArgs s_law_one, defBody s_law_one, defScope s_law_one, [], []⟩
def d_law_pairs : He5.DefA := ⟨fun K => a_law_pairs K, "_law_pairs", "_law_pairs", defArgs s_law_pairs, defBody s_law_pairs, defScope s_law_pairs, [], []⟩
def d_law_base : He5.DefA := ⟨fun K => a_law_base K, "_law_base", "_law_base", defArgs s_law_base, defBody s_law_base, defScope s_law_base, [], []⟩
def d_law_goals : He5.DefA := ⟨fun K => a_law_goals K, "_law_goals", "_law_goals", defArgs s_law_goals, defBody s_law_goals, defScope s_law_goals, [], []⟩
def d_law_is_form : He5.DefA := ⟨fun K => a_law_is_form K, "_law_is_form", "_law_is_form", defArgs s_law_is_form, defBody s_law_is_form, defScope s_law_is_form, [], []⟩
def d_law_total : He5.DefA := ⟨fun K => a_law_total K, "_law_total", "_law_total", defArgs s_law_total, defBody s_law_total, defScope s_law_total, [], []⟩
def d_law_value_parts : He5.DefA := ⟨fun K => a_law_value_parts K, "_law_value_parts", "_law_value_parts", defArgs s_law_value_parts, defBody s_law_value_parts, defScope s_law_value_parts, [], []⟩
def d_law_told : He5.DefA := ⟨fun K => a_law_told K, "_law_told", "_law_told", defArgs s_law_told, defBody s_law_told, defScope s_law_told, [], []⟩
def d_law_refused : He5.DefA := ⟨fun K => a_law_refused K, "_law_refused", "_law_refused", defArgs s_law_refused, defBody s_law_refused, defScope s_law_refused, [], []⟩
def d_law : He5.DefA := ⟨fun K => a_law K, "law", "law", defArgs s_law, defBody s_law, defScope s_law, [], []⟩
def fn : List He5.DefA := [d_BadTeams_init, d_BadPair_init, d_BadLength_init, d_BadResult_init, d_NoIndex_init, d_BadFactor_init, d_BadWhat_init, d_BadTeam_init, d_sign_of, d_in_scope, d_points_for, d_share, d_value, d_Form_init, d_Form_len, d_Form_bool, d_Form_iter, d_Form_getitem, d_Form_eq, d_Form_add, d_Form_sub, d_Form_neg, d_Form_mul, d_Form_rmul, d_Form_call, d_Form_sign, d_goal_parts, d_value_form, d_two_teams, d_Fixtures_init, d_Fixtures_len, d_Fixtures_iter, d_Fixtures_getitem, d_Fixtures_contains, d_Fixtures_eq, d_Fixtures_of, d_fair, d_copied, d_flat, d_times, d_Sheet_init, d_Sheet_results, d_Sheet_goals, d_Sheet_len, d_Sheet_iter, d_Sheet_getitem, d_Sheet_setitem, d_Sheet_contains, d_Sheet_eq, d_Sheet_mul, d_Sheet_rmul, d_law_pool, d_law_take, d_law_one, d_law_pairs, d_law_base, d_law_goals, d_law_is_form, d_law_total, d_law_value_parts, d_law_told, d_law_refused, d_law]
def fb0 : List HeZ.Fb := [fun K => (He.Fa.glo "CascadeError").ok K,
  fun K => (He.Fa.glo "BadTeams").ok K,
  fun K => (He.Fa.glo "BadPair").ok K,
  fun K => (He.Fa.glo "BadLength").ok K,
  fun K => (He.Fa.glo "BadResult").ok K,
  fun K => (He.Fa.glo "NoIndex").ok K,
  fun K => (He.Fa.glo "BadFactor").ok K,
  fun K => (He.Fa.glo "BadWhat").ok K,
  fun K => (He.Fa.glo "BadTeam").ok K,
  fun K => (He.Fa.glo "sign_of").ok K,
  fun K => (He.Fa.glo "in_scope").ok K,
  fun K => (He.Fa.glo "points_for").ok K,
  fun K => (He.Fa.glo "share").ok K,
  fun K => (He.Fa.glo "value").ok K,
  fun K => (He.Fa.glo "Form").ok K,
  fun K => (He.Fa.glo "goal_parts").ok K,
  fun K => (He.Fa.glo "value_form").ok K,
  fun K => (He.Fa.glo "two_teams").ok K,
  fun K => (He.Fa.glo "Fixtures").ok K,
  fun K => (He.Fa.glo "fair").ok K,
  fun K => (He.Fa.glo "copied").ok K,
  fun K => (He.Fa.glo "flat").ok K,
  fun K => (He.Fa.glo "times").ok K,
  fun K => (He.Fa.glo "Sheet").ok K,
  fun K => (He.Fa.glo "_law_pool").ok K,
  fun K => (He.Fa.glo "_law_take").ok K,
  fun K => (He.Fa.glo "_law_one").ok K,
  fun K => (He.Fa.glo "_law_pairs").ok K,
  fun K => (He.Fa.glo "_law_base").ok K,
  fun K => (He.Fa.glo "_law_goals").ok K,
  fun K => (He.Fa.glo "_law_is_form").ok K,
  fun K => (He.Fa.glo "_law_total").ok K,
  fun K => (He.Fa.glo "_law_value_parts").ok K,
  fun K => (He.Fa.glo "_law_told").ok K,
  fun K => (He.Fa.glo "_law_refused").ok K,
  fun K => (He.Fa.glo "law").ok K,
  fun K => (He.Fa.free "ValueError").ok K,
  fun K => (He.Fa.free "any").ok K,
  fun K => (He.Fa.free "bool").ok K,
  fun K => (He.Fa.free "enumerate").ok K,
  fun K => (He.Fa.free "int").ok K,
  fun K => (He.Fa.free "isinstance").ok K,
  fun K => (He.Fa.free "iter").ok K,
  fun K => (He.Fa.free "len").ok K,
  fun K => (He.Fa.free "list").ok K,
  fun K => (He.Fa.free "max").ok K,
  fun K => (He.Fa.free "min").ok K,
  fun K => (He.Fa.free "property").ok K,
  fun K => (He.Fa.free "range").ok K,
  fun K => (He.Fa.free "staticmethod").ok K]
def fb1 : List HeZ.Fb := [fun K => (He.Fa.free "sum").ok K,
  fun K => (He.Fa.free "tuple").ok K,
  fun K => (He.Fa.free "zip").ok K,
  fun K => (He.Fa.glo "WHATS").ok K,
  fun K => He.tupB K "WHATS" [.str "points", .str "wins", .str "margin", .str "scored", .str "away"],
  fun K => (He.Fa.int "FEWEST" 2).ok K,
  fun K => (He.Fa.int "MOST" 6).ok K,
  fun K => excB K (He.ga K "BadTeams"),
  fun K => (He.Fa.noat "BadTeams" "teams").ok K,
  fun K => excB K (He.ga K "BadPair"),
  fun K => (He.Fa.noat "BadPair" "index").ok K,
  fun K => excB K (He.ga K "BadLength"),
  fun K => (He.Fa.noat "BadLength" "count").ok K,
  fun K => excB K (He.ga K "BadResult"),
  fun K => (He.Fa.noat "BadResult" "index").ok K,
  fun K => excB K (He.ga K "NoIndex"),
  fun K => (He.Fa.noat "NoIndex" "index").ok K,
  fun K => excB K (He.ga K "BadFactor"),
  fun K => (He.Fa.noat "BadFactor" "factor").ok K,
  fun K => excB K (He.ga K "BadWhat"),
  fun K => (He.Fa.noat "BadWhat" "what").ok K,
  fun K => excB K (He.ga K "BadTeam"),
  fun K => (He.Fa.noat "BadTeam" "team").ok K,
  fun K => (He.Fa.cls "Form").ok K,
  fun K => (He.Fa.mkr "Form").ok K,
  fun K => isB K (He.ga K "Form"),
  fun K => creadB K (He.ga K "Form"),
  fun K => PySem.W.selfFirst K (He.ga K "Form"),
  fun K => PySem.W.noSeq K (He.ga K "Form"),
  fun K => kiB K (.ref (He.ga K "Form")) (.ref (He.ga K "Form")) true,
  fun K => decide (PySem.W.mroIn K (He.ga K "Form") (.type "int") = some false),
  fun K => (He.Fa.noat "Form" "parts").ok K,
  fun K => (He.Fa.meth "Form" "__init__").ok K,
  fun K => (He.Fa.meth "Form" "__len__").ok K,
  fun K => (He.Fa.meth "Form" "__bool__").ok K,
  fun K => (He.Fa.meth "Form" "__iter__").ok K,
  fun K => (He.Fa.meth "Form" "__getitem__").ok K,
  fun K => PySem.W.fnIn K (a_Form_getitem K),
  fun K => (He.Fa.meth "Form" "__eq__").ok K,
  fun K => (He.Fa.meth "Form" "__add__").ok K,
  fun K => (He.Fa.meth "Form" "__sub__").ok K,
  fun K => (He.Fa.meth "Form" "__neg__").ok K,
  fun K => (He.Fa.meth "Form" "__mul__").ok K,
  fun K => (He.Fa.meth "Form" "__rmul__").ok K,
  fun K => (He.Fa.meth "Form" "__call__").ok K,
  fun K => PySem.W.fnIn K (a_Form_call K),
  fun K => (He.Fa.meth "Form" "sign").ok K,
  fun K => (He.Fa.cls "Fixtures").ok K,
  fun K => (He.Fa.mkr "Fixtures").ok K,
  fun K => isB K (He.ga K "Fixtures")]
def fb2 : List HeZ.Fb := [fun K => creadB K (He.ga K "Fixtures"),
  fun K => PySem.W.selfFirst K (He.ga K "Fixtures"),
  fun K => PySem.W.noSeq K (He.ga K "Fixtures"),
  fun K => kiB K (.ref (He.ga K "Fixtures")) (.ref (He.ga K "Fixtures")) true,
  fun K => (He.Fa.noat "Fixtures" "teams").ok K,
  fun K => (He.Fa.noat "Fixtures" "pairs").ok K,
  fun K => (He.Fa.meth "Fixtures" "__init__").ok K,
  fun K => (He.Fa.meth "Fixtures" "__len__").ok K,
  fun K => (He.Fa.meth "Fixtures" "__iter__").ok K,
  fun K => (He.Fa.meth "Fixtures" "__getitem__").ok K,
  fun K => PySem.W.fnIn K (a_Fixtures_getitem K),
  fun K => (He.Fa.meth "Fixtures" "__contains__").ok K,
  fun K => (He.Fa.meth "Fixtures" "__eq__").ok K,
  fun K => (He.Fa.meth "Fixtures" "of").ok K,
  fun K => (He.Fa.cls "Sheet").ok K,
  fun K => (He.Fa.mkr "Sheet").ok K,
  fun K => isB K (He.ga K "Sheet"),
  fun K => creadB K (He.ga K "Sheet"),
  fun K => PySem.W.selfFirst K (He.ga K "Sheet"),
  fun K => PySem.W.noSeq K (He.ga K "Sheet"),
  fun K => kiB K (.ref (He.ga K "Sheet")) (.ref (He.ga K "Sheet")) true,
  fun K => decide (PySem.W.mroIn K (He.ga K "Sheet") (.type "int") = some false),
  fun K => (He.Fa.noat "Sheet" "fixtures").ok K,
  fun K => (He.Fa.noat "Sheet" "held").ok K,
  fun K => (He.Fa.meth "Sheet" "__init__").ok K,
  fun K => propB K (He.ga K "Sheet") "results",
  fun K => propB K (He.ga K "Sheet") "goals",
  fun K => (He.Fa.meth "Sheet" "__len__").ok K,
  fun K => (He.Fa.meth "Sheet" "__iter__").ok K,
  fun K => (He.Fa.meth "Sheet" "__getitem__").ok K,
  fun K => PySem.W.fnIn K (a_Sheet_getitem K),
  fun K => (He.Fa.meth "Sheet" "__setitem__").ok K,
  fun K => (He.Fa.meth "Sheet" "__contains__").ok K,
  fun K => (He.Fa.meth "Sheet" "__eq__").ok K,
  fun K => (He.Fa.meth "Sheet" "__mul__").ok K,
  fun K => (He.Fa.meth "Sheet" "__rmul__").ok K,
  fun K => kiB K (.ref (He.ga K "BadTeam")) (.ref (He.ga K "BadWhat")) false,
  fun K => kiB K (.ref (He.ga K "BadTeam")) (.ref (He.ga K "CascadeError")) true,
  fun K => kiB K (.ref (He.ga K "BadWhat")) (.ref (He.ga K "BadTeam")) false,
  fun K => kiB K (.ref (He.ga K "BadWhat")) (.ref (He.ga K "CascadeError")) true,
  fun K => exmB K (.ref (He.ga K "BadTeam")) (.ref (He.ga K "BadTeam")) true,
  fun K => exmB K (.ref (He.ga K "BadTeam")) (.ref (He.ga K "BadWhat")) false,
  fun K => exmB K (.ref (He.ga K "BadWhat")) (.ref (He.ga K "BadTeam")) false,
  fun K => exmB K (.ref (He.ga K "BadWhat")) (.ref (He.ga K "BadWhat")) true]
def fb : List HeZ.Fb := fb0 ++ fb1 ++ fb2
def tf : List He.Defn := [("_law_refused", none)]
/-- what the top has left -/
structure Tx (K : PySem.W.Frag) (mg : Str → Option Value) : Prop where
  ex : ∃ h : Heap, K.In h ∧ h.Ns mainGlobals mg ∧ HeZ.SaysZ fb fn tf h K
section
variable {K : PySem.W.Frag} {mg : Str → Option Value} (T : Tx K mg)
include T
theorem Tx.g_CascadeError : mg "CascadeError" = some (.ref (He.ga K "CascadeError")) := by
  obtain ⟨h, X, G, c⟩ := T.ex
  exact He.glo_ok X G (c.fact 0)
theorem Tx.g_BadTeams : mg "BadTeams" = some (.ref (He.ga K "BadTeams")) := by
  obtain ⟨h, X, G, c⟩ := T.ex
  exact He.glo_ok X G (c.fact 1)
theorem Tx.g_BadPair : mg "BadPair" = some (.ref (He.ga K "BadPair")) := by
  obtain ⟨h, X, G, c⟩ := T.ex
  exact He.glo_ok X G (c.fact 2)
theorem Tx.g_BadLength : mg "BadLength" = some (.ref (He.ga K "BadLength")) := by
  obtain ⟨h, X, G, c⟩ := T.ex
  exact He.glo_ok X G (c.fact 3)
theorem Tx.g_BadResult : mg "BadResult" = some (.ref (He.ga K "BadResult")) := by
  obtain ⟨h, X, G, c⟩ := T.ex
  exact He.glo_ok X G (c.fact 4)
theorem Tx.g_NoIndex : mg "NoIndex" = some (.ref (He.ga K "NoIndex")) := by
  obtain ⟨h, X, G, c⟩ := T.ex
  exact He.glo_ok X G (c.fact 5)
theorem Tx.g_BadFactor : mg "BadFactor" = some (.ref (He.ga K "BadFactor")) := by
  obtain ⟨h, X, G, c⟩ := T.ex
  exact He.glo_ok X G (c.fact 6)
theorem Tx.g_BadWhat : mg "BadWhat" = some (.ref (He.ga K "BadWhat")) := by
  obtain ⟨h, X, G, c⟩ := T.ex
  exact He.glo_ok X G (c.fact 7)
theorem Tx.g_BadTeam : mg "BadTeam" = some (.ref (He.ga K "BadTeam")) := by
  obtain ⟨h, X, G, c⟩ := T.ex
  exact He.glo_ok X G (c.fact 8)
theorem Tx.g_sign_of : mg "sign_of" = some (.ref (He.ga K "sign_of")) := by
  obtain ⟨h, X, G, c⟩ := T.ex
  exact He.glo_ok X G (c.fact 9)
theorem Tx.g_in_scope : mg "in_scope" = some (.ref (He.ga K "in_scope")) := by
  obtain ⟨h, X, G, c⟩ := T.ex
  exact He.glo_ok X G (c.fact 10)
theorem Tx.g_points_for : mg "points_for" = some (.ref (He.ga K "points_for")) := by
  obtain ⟨h, X, G, c⟩ := T.ex
  exact He.glo_ok X G (c.fact 11)
theorem Tx.g_share : mg "share" = some (.ref (He.ga K "share")) := by
  obtain ⟨h, X, G, c⟩ := T.ex
  exact He.glo_ok X G (c.fact 12)
theorem Tx.g_value : mg "value" = some (.ref (He.ga K "value")) := by
  obtain ⟨h, X, G, c⟩ := T.ex
  exact He.glo_ok X G (c.fact 13)
theorem Tx.g_Form : mg "Form" = some (.ref (He.ga K "Form")) := by
  obtain ⟨h, X, G, c⟩ := T.ex
  exact He.glo_ok X G (c.fact 14)
theorem Tx.g_goal_parts : mg "goal_parts" = some (.ref (He.ga K "goal_parts")) := by
  obtain ⟨h, X, G, c⟩ := T.ex
  exact He.glo_ok X G (c.fact 15)
theorem Tx.g_value_form : mg "value_form" = some (.ref (He.ga K "value_form")) := by
  obtain ⟨h, X, G, c⟩ := T.ex
  exact He.glo_ok X G (c.fact 16)
theorem Tx.g_two_teams : mg "two_teams" = some (.ref (He.ga K "two_teams")) := by
  obtain ⟨h, X, G, c⟩ := T.ex
  exact He.glo_ok X G (c.fact 17)
theorem Tx.g_Fixtures : mg "Fixtures" = some (.ref (He.ga K "Fixtures")) := by
  obtain ⟨h, X, G, c⟩ := T.ex
  exact He.glo_ok X G (c.fact 18)
theorem Tx.g_fair : mg "fair" = some (.ref (He.ga K "fair")) := by
  obtain ⟨h, X, G, c⟩ := T.ex
  exact He.glo_ok X G (c.fact 19)
theorem Tx.g_copied : mg "copied" = some (.ref (He.ga K "copied")) := by
  obtain ⟨h, X, G, c⟩ := T.ex
  exact He.glo_ok X G (c.fact 20)
theorem Tx.g_flat : mg "flat" = some (.ref (He.ga K "flat")) := by
  obtain ⟨h, X, G, c⟩ := T.ex
  exact He.glo_ok X G (c.fact 21)
theorem Tx.g_times : mg "times" = some (.ref (He.ga K "times")) := by
  obtain ⟨h, X, G, c⟩ := T.ex
  exact He.glo_ok X G (c.fact 22)
theorem Tx.g_Sheet : mg "Sheet" = some (.ref (He.ga K "Sheet")) := by
  obtain ⟨h, X, G, c⟩ := T.ex
  exact He.glo_ok X G (c.fact 23)
theorem Tx.g_law_pool : mg "_law_pool" = some (.ref (He.ga K "_law_pool")) := by
  obtain ⟨h, X, G, c⟩ := T.ex
  exact He.glo_ok X G (c.fact 24)
theorem Tx.g_law_take : mg "_law_take" = some (.ref (He.ga K "_law_take")) := by
  obtain ⟨h, X, G, c⟩ := T.ex
  exact He.glo_ok X G (c.fact 25)
theorem Tx.g_law_one : mg "_law_one" = some (.ref (He.ga K "_law_one")) := by
  obtain ⟨h, X, G, c⟩ := T.ex
  exact He.glo_ok X G (c.fact 26)
theorem Tx.g_law_pairs : mg "_law_pairs" = some (.ref (He.ga K "_law_pairs")) := by
  obtain ⟨h, X, G, c⟩ := T.ex
  exact He.glo_ok X G (c.fact 27)
theorem Tx.g_law_base : mg "_law_base" = some (.ref (He.ga K "_law_base")) := by
  obtain ⟨h, X, G, c⟩ := T.ex
  exact He.glo_ok X G (c.fact 28)
theorem Tx.g_law_goals : mg "_law_goals" = some (.ref (He.ga K "_law_goals")) := by
  obtain ⟨h, X, G, c⟩ := T.ex
  exact He.glo_ok X G (c.fact 29)
theorem Tx.g_law_is_form : mg "_law_is_form" = some (.ref (He.ga K "_law_is_form")) := by
  obtain ⟨h, X, G, c⟩ := T.ex
  exact He.glo_ok X G (c.fact 30)
theorem Tx.g_law_total : mg "_law_total" = some (.ref (He.ga K "_law_total")) := by
  obtain ⟨h, X, G, c⟩ := T.ex
  exact He.glo_ok X G (c.fact 31)
theorem Tx.g_law_value_parts : mg "_law_value_parts" = some (.ref (He.ga K "_law_value_parts")) := by
  obtain ⟨h, X, G, c⟩ := T.ex
  exact He.glo_ok X G (c.fact 32)
theorem Tx.g_law_told : mg "_law_told" = some (.ref (He.ga K "_law_told")) := by
  obtain ⟨h, X, G, c⟩ := T.ex
  exact He.glo_ok X G (c.fact 33)
theorem Tx.g_law_refused : mg "_law_refused" = some (.ref (He.ga K "_law_refused")) := by
  obtain ⟨h, X, G, c⟩ := T.ex
  exact He.glo_ok X G (c.fact 34)
theorem Tx.g_law : mg "law" = some (.ref (He.ga K "law")) := by
  obtain ⟨h, X, G, c⟩ := T.ex
  exact He.glo_ok X G (c.fact 35)
theorem Tx.f_ValueError : mg "ValueError" = none := by
  obtain ⟨h, X, G, c⟩ := T.ex
  exact He.free_ok X G (c.fact 36)
theorem Tx.f_any : mg "any" = none := by
  obtain ⟨h, X, G, c⟩ := T.ex
  exact He.free_ok X G (c.fact 37)
theorem Tx.f_bool : mg "bool" = none := by
  obtain ⟨h, X, G, c⟩ := T.ex
  exact He.free_ok X G (c.fact 38)
theorem Tx.f_enumerate : mg "enumerate" = none := by
  obtain ⟨h, X, G, c⟩ := T.ex
  exact He.free_ok X G (c.fact 39)
theorem Tx.f_int : mg "int" = none := by
  obtain ⟨h, X, G, c⟩ := T.ex
  exact He.free_ok X G (c.fact 40)
theorem Tx.f_isinstance : mg "isinstance" = none := by
  obtain ⟨h, X, G, c⟩ := T.ex
  exact He.free_ok X G (c.fact 41)
theorem Tx.f_iter : mg "iter" = none := by
  obtain ⟨h, X, G, c⟩ := T.ex
  exact He.free_ok X G (c.fact 42)
theorem Tx.f_len : mg "len" = none := by
  obtain ⟨h, X, G, c⟩ := T.ex
  exact He.free_ok X G (c.fact 43)
theorem Tx.f_list : mg "list" = none := by
  obtain ⟨h, X, G, c⟩ := T.ex
  exact He.free_ok X G (c.fact 44)
theorem Tx.f_max : mg "max" = none := by
  obtain ⟨h, X, G, c⟩ := T.ex
  exact He.free_ok X G (c.fact 45)
theorem Tx.f_min : mg "min" = none := by
  obtain ⟨h, X, G, c⟩ := T.ex
  exact He.free_ok X G (c.fact 46)
theorem Tx.f_property : mg "property" = none := by
  obtain ⟨h, X, G, c⟩ := T.ex
  exact He.free_ok X G (c.fact 47)
theorem Tx.f_range : mg "range" = none := by
  obtain ⟨h, X, G, c⟩ := T.ex
  exact He.free_ok X G (c.fact 48)
theorem Tx.f_staticmethod : mg "staticmethod" = none := by
  obtain ⟨h, X, G, c⟩ := T.ex
  exact He.free_ok X G (c.fact 49)
theorem Tx.f_sum : mg "sum" = none := by
  obtain ⟨h, X, G, c⟩ := T.ex
  exact He.free_ok X G (c.fact 50)
theorem Tx.f_tuple : mg "tuple" = none := by
  obtain ⟨h, X, G, c⟩ := T.ex
  exact He.free_ok X G (c.fact 51)
theorem Tx.f_zip : mg "zip" = none := by
  obtain ⟨h, X, G, c⟩ := T.ex
  exact He.free_ok X G (c.fact 52)
theorem Tx.g_WHATS : mg "WHATS" = some (.ref (He.ga K "WHATS")) := by
  obtain ⟨h, X, G, c⟩ := T.ex
  exact He.glo_ok X G (c.fact 53)
theorem Tx.t_WHATS : ∀ H : Hp, SqT K H (He.ga K "WHATS") [V.str "points", V.str "wins", V.str "margin", V.str "scored", V.str "away"] := by
  obtain ⟨h, X, G, c⟩ := T.ex
  exact fun H => He.tupB_ok (c.fact 54) H
theorem Tx.v_FEWEST : ∃ t, mg "FEWEST" = some (.int 2 t) := by
  obtain ⟨h, X, G, c⟩ := T.ex
  exact He.int_ok X G (c.fact 55)
theorem Tx.v_MOST : ∃ t, mg "MOST" = some (.int 6 t) := by
  obtain ⟨h, X, G, c⟩ := T.ex
  exact He.int_ok X G (c.fact 56)
theorem Tx.x_BadTeams : ExcK K (He.ga K "BadTeams") := by
  obtain ⟨h, X, G, c⟩ := T.ex
  exact exc_ok (c.fact 57)
theorem Tx.n_BadTeams_teams : NoAttr K (He.ga K "BadTeams") "teams" := by
  obtain ⟨h, X, G, c⟩ := T.ex
  exact He.noat_ok (x := "BadTeams") (c.fact 58)
theorem Tx.x_BadPair : ExcK K (He.ga K "BadPair") := by
  obtain ⟨h, X, G, c⟩ := T.ex
  exact exc_ok (c.fact 59)
theorem Tx.n_BadPair_index : NoAttr K (He.ga K "BadPair") "index" := by
  obtain ⟨h, X, G, c⟩ := T.ex
  exact He.noat_ok (x := "BadPair") (c.fact 60)
theorem Tx.x_BadLength : ExcK K (He.ga K "BadLength") := by
  obtain ⟨h, X, G, c⟩ := T.ex
  exact exc_ok (c.fact 61)
theorem Tx.n_BadLength_count : NoAttr K (He.ga K "BadLength") "count" := by
  obtain ⟨h, X, G, c⟩ := T.ex
  exact He.noat_ok (x := "BadLength") (c.fact 62)
theorem Tx.x_BadResult : ExcK K (He.ga K "BadResult") := by
  obtain ⟨h, X, G, c⟩ := T.ex
  exact exc_ok (c.fact 63)
theorem Tx.n_BadResult_index : NoAttr K (He.ga K "BadResult") "index" := by
  obtain ⟨h, X, G, c⟩ := T.ex
  exact He.noat_ok (x := "BadResult") (c.fact 64)
theorem Tx.x_NoIndex : ExcK K (He.ga K "NoIndex") := by
  obtain ⟨h, X, G, c⟩ := T.ex
  exact exc_ok (c.fact 65)
theorem Tx.n_NoIndex_index : NoAttr K (He.ga K "NoIndex") "index" := by
  obtain ⟨h, X, G, c⟩ := T.ex
  exact He.noat_ok (x := "NoIndex") (c.fact 66)
theorem Tx.x_BadFactor : ExcK K (He.ga K "BadFactor") := by
  obtain ⟨h, X, G, c⟩ := T.ex
  exact exc_ok (c.fact 67)
theorem Tx.n_BadFactor_factor : NoAttr K (He.ga K "BadFactor") "factor" := by
  obtain ⟨h, X, G, c⟩ := T.ex
  exact He.noat_ok (x := "BadFactor") (c.fact 68)
theorem Tx.x_BadWhat : ExcK K (He.ga K "BadWhat") := by
  obtain ⟨h, X, G, c⟩ := T.ex
  exact exc_ok (c.fact 69)
theorem Tx.n_BadWhat_what : NoAttr K (He.ga K "BadWhat") "what" := by
  obtain ⟨h, X, G, c⟩ := T.ex
  exact He.noat_ok (x := "BadWhat") (c.fact 70)
theorem Tx.x_BadTeam : ExcK K (He.ga K "BadTeam") := by
  obtain ⟨h, X, G, c⟩ := T.ex
  exact exc_ok (c.fact 71)
theorem Tx.n_BadTeam_team : NoAttr K (He.ga K "BadTeam") "team" := by
  obtain ⟨h, X, G, c⟩ := T.ex
  exact He.noat_ok (x := "BadTeam") (c.fact 72)
theorem Tx.c_Form : Cls K (He.ga K "Form") := by
  obtain ⟨h, X, G, c⟩ := T.ex
  exact He.cls_ok (x := "Form") (c.fact 73)
theorem Tx.k_Form : Mk K (He.ga K "Form") (a_Form_init K) := by
  obtain ⟨h, X, G, c⟩ := T.ex
  exact He.mkr_ok (x := "Form") (c.fact 74)
theorem Tx.i_Form : IsC K (He.ga K "Form") := by
  obtain ⟨h, X, G, c⟩ := T.ex
  exact is_ok (c.fact 75)
theorem Tx.r_Form : ClX.CRead K (He.ga K "Form") (.type "type") := by
  obtain ⟨h, X, G, c⟩ := T.ex
  exact cread_ok (c.fact 76)
theorem Tx.sf_Form : PySem.W.selfFirst K (He.ga K "Form") = true := by
  obtain ⟨h, X, G, c⟩ := T.ex
  exact (c.fact 77)
theorem Tx.ns_Form : PySem.W.noSeq K (He.ga K "Form") = true := by
  obtain ⟨h, X, G, c⟩ := T.ex
  exact (c.fact 78)
theorem Tx.is_Form : PySem.W.kitOne K (.ref (He.ga K "Form")) (.ref (He.ga K "Form")) = some true := by
  obtain ⟨h, X, G, c⟩ := T.ex
  exact ki_ok (c.fact 79)
theorem Tx.ni_Form : PySem.W.mroIn K (He.ga K "Form") (.type "int") = some false := by
  obtain ⟨h, X, G, c⟩ := T.ex
  exact of_decide_eq_true (c.fact 80)
theorem Tx.n_Form_parts : NoAttr K (He.ga K "Form") "parts" := by
  obtain ⟨h, X, G, c⟩ := T.ex
  exact He.noat_ok (x := "Form") (c.fact 81)
theorem Tx.m_Form_init : Meth K (He.ga K "Form") "__init__" (a_Form_init K) := by
  obtain ⟨h, X, G, c⟩ := T.ex
  exact He.meth_ok (x := "Form") (c.fact 82)
theorem Tx.m_Form_len : Meth K (He.ga K "Form") "__len__" (a_Form_len K) := by
  obtain ⟨h, X, G, c⟩ := T.ex
  exact He.meth_ok (x := "Form") (c.fact 83)
theorem Tx.m_Form_bool : Meth K (He.ga K "Form") "__bool__" (a_Form_bool K) := by
  obtain ⟨h, X, G, c⟩ := T.ex
  exact He.meth_ok (x := "Form") (c.fact 84)
theorem Tx.m_Form_iter : Meth K (He.ga K "Form") "__iter__" (a_Form_iter K) := by
  obtain ⟨h, X, G, c⟩ := T.ex
  exact He.meth_ok (x := "Form") (c.fact 85)
theorem Tx.m_Form_getitem : Meth K (He.ga K "Form") "__getitem__" (a_Form_getitem K) := by
  obtain ⟨h, X, G, c⟩ := T.ex
  exact He.meth_ok (x := "Form") (c.fact 86)
theorem Tx.fi_Form_getitem : PySem.W.fnIn K (a_Form_getitem K) = true := by
  obtain ⟨h, X, G, c⟩ := T.ex
  exact (c.fact 87)
theorem Tx.m_Form_eq : Meth K (He.ga K "Form") "__eq__" (a_Form_eq K) := by
  obtain ⟨h, X, G, c⟩ := T.ex
  exact He.meth_ok (x := "Form") (c.fact 88)
theorem Tx.m_Form_add : Meth K (He.ga K "Form") "__add__" (a_Form_add K) := by
  obtain ⟨h, X, G, c⟩ := T.ex
  exact He.meth_ok (x := "Form") (c.fact 89)
theorem Tx.m_Form_sub : Meth K (He.ga K "Form") "__sub__" (a_Form_sub K) := by
  obtain ⟨h, X, G, c⟩ := T.ex
  exact He.meth_ok (x := "Form") (c.fact 90)
theorem Tx.m_Form_neg : Meth K (He.ga K "Form") "__neg__" (a_Form_neg K) := by
  obtain ⟨h, X, G, c⟩ := T.ex
  exact He.meth_ok (x := "Form") (c.fact 91)
theorem Tx.m_Form_mul : Meth K (He.ga K "Form") "__mul__" (a_Form_mul K) := by
  obtain ⟨h, X, G, c⟩ := T.ex
  exact He.meth_ok (x := "Form") (c.fact 92)
theorem Tx.m_Form_rmul : Meth K (He.ga K "Form") "__rmul__" (a_Form_rmul K) := by
  obtain ⟨h, X, G, c⟩ := T.ex
  exact He.meth_ok (x := "Form") (c.fact 93)
theorem Tx.m_Form_call : Meth K (He.ga K "Form") "__call__" (a_Form_call K) := by
  obtain ⟨h, X, G, c⟩ := T.ex
  exact He.meth_ok (x := "Form") (c.fact 94)
theorem Tx.fi_Form_call : PySem.W.fnIn K (a_Form_call K) = true := by
  obtain ⟨h, X, G, c⟩ := T.ex
  exact (c.fact 95)
theorem Tx.m_Form_sign : Meth K (He.ga K "Form") "sign" (a_Form_sign K) := by
  obtain ⟨h, X, G, c⟩ := T.ex
  exact He.meth_ok (x := "Form") (c.fact 96)
theorem Tx.c_Fixtures : Cls K (He.ga K "Fixtures") := by
  obtain ⟨h, X, G, c⟩ := T.ex
  exact He.cls_ok (x := "Fixtures") (c.fact 97)
theorem Tx.k_Fixtures : Mk K (He.ga K "Fixtures") (a_Fixtures_init K) := by
  obtain ⟨h, X, G, c⟩ := T.ex
  exact He.mkr_ok (x := "Fixtures") (c.fact 98)
theorem Tx.i_Fixtures : IsC K (He.ga K "Fixtures") := by
  obtain ⟨h, X, G, c⟩ := T.ex
  exact is_ok (c.fact 99)
theorem Tx.r_Fixtures : ClX.CRead K (He.ga K "Fixtures") (.type "type") := by
  obtain ⟨h, X, G, c⟩ := T.ex
  exact cread_ok (c.fact 100)
theorem Tx.sf_Fixtures : PySem.W.selfFirst K (He.ga K "Fixtures") = true := by
  obtain ⟨h, X, G, c⟩ := T.ex
  exact (c.fact 101)
theorem Tx.ns_Fixtures : PySem.W.noSeq K (He.ga K "Fixtures") = true := by
  obtain ⟨h, X, G, c⟩ := T.ex
  exact (c.fact 102)
theorem Tx.is_Fixtures : PySem.W.kitOne K (.ref (He.ga K "Fixtures")) (.ref (He.ga K "Fixtures")) = some true := by
  obtain ⟨h, X, G, c⟩ := T.ex
  exact ki_ok (c.fact 103)
theorem Tx.n_Fixtures_teams : NoAttr K (He.ga K "Fixtures") "teams" := by
  obtain ⟨h, X, G, c⟩ := T.ex
  exact He.noat_ok (x := "Fixtures") (c.fact 104)
theorem Tx.n_Fixtures_pairs : NoAttr K (He.ga K "Fixtures") "pairs" := by
  obtain ⟨h, X, G, c⟩ := T.ex
  exact He.noat_ok (x := "Fixtures") (c.fact 105)
theorem Tx.m_Fixtures_init : Meth K (He.ga K "Fixtures") "__init__" (a_Fixtures_init K) := by
  obtain ⟨h, X, G, c⟩ := T.ex
  exact He.meth_ok (x := "Fixtures") (c.fact 106)
theorem Tx.m_Fixtures_len : Meth K (He.ga K "Fixtures") "__len__" (a_Fixtures_len K) := by
  obtain ⟨h, X, G, c⟩ := T.ex
  exact He.meth_ok (x := "Fixtures") (c.fact 107)
theorem Tx.m_Fixtures_iter : Meth K (He.ga K "Fixtures") "__iter__" (a_Fixtures_iter K) := by
  obtain ⟨h, X, G, c⟩ := T.ex
  exact He.meth_ok (x := "Fixtures") (c.fact 108)
theorem Tx.m_Fixtures_getitem : Meth K (He.ga K "Fixtures") "__getitem__" (a_Fixtures_getitem K) := by
  obtain ⟨h, X, G, c⟩ := T.ex
  exact He.meth_ok (x := "Fixtures") (c.fact 109)
theorem Tx.fi_Fixtures_getitem : PySem.W.fnIn K (a_Fixtures_getitem K) = true := by
  obtain ⟨h, X, G, c⟩ := T.ex
  exact (c.fact 110)
theorem Tx.m_Fixtures_contains : Meth K (He.ga K "Fixtures") "__contains__" (a_Fixtures_contains K) := by
  obtain ⟨h, X, G, c⟩ := T.ex
  exact He.meth_ok (x := "Fixtures") (c.fact 111)
theorem Tx.m_Fixtures_eq : Meth K (He.ga K "Fixtures") "__eq__" (a_Fixtures_eq K) := by
  obtain ⟨h, X, G, c⟩ := T.ex
  exact He.meth_ok (x := "Fixtures") (c.fact 112)
theorem Tx.m_Fixtures_of : Meth K (He.ga K "Fixtures") "of" (a_Fixtures_of K) := by
  obtain ⟨h, X, G, c⟩ := T.ex
  exact He.meth_ok (x := "Fixtures") (c.fact 113)
theorem Tx.c_Sheet : Cls K (He.ga K "Sheet") := by
  obtain ⟨h, X, G, c⟩ := T.ex
  exact He.cls_ok (x := "Sheet") (c.fact 114)
theorem Tx.k_Sheet : Mk K (He.ga K "Sheet") (a_Sheet_init K) := by
  obtain ⟨h, X, G, c⟩ := T.ex
  exact He.mkr_ok (x := "Sheet") (c.fact 115)
theorem Tx.i_Sheet : IsC K (He.ga K "Sheet") := by
  obtain ⟨h, X, G, c⟩ := T.ex
  exact is_ok (c.fact 116)
theorem Tx.r_Sheet : ClX.CRead K (He.ga K "Sheet") (.type "type") := by
  obtain ⟨h, X, G, c⟩ := T.ex
  exact cread_ok (c.fact 117)
theorem Tx.sf_Sheet : PySem.W.selfFirst K (He.ga K "Sheet") = true := by
  obtain ⟨h, X, G, c⟩ := T.ex
  exact (c.fact 118)
theorem Tx.ns_Sheet : PySem.W.noSeq K (He.ga K "Sheet") = true := by
  obtain ⟨h, X, G, c⟩ := T.ex
  exact (c.fact 119)
theorem Tx.is_Sheet : PySem.W.kitOne K (.ref (He.ga K "Sheet")) (.ref (He.ga K "Sheet")) = some true := by
  obtain ⟨h, X, G, c⟩ := T.ex
  exact ki_ok (c.fact 120)
theorem Tx.ni_Sheet : PySem.W.mroIn K (He.ga K "Sheet") (.type "int") = some false := by
  obtain ⟨h, X, G, c⟩ := T.ex
  exact of_decide_eq_true (c.fact 121)
theorem Tx.n_Sheet_fixtures : NoAttr K (He.ga K "Sheet") "fixtures" := by
  obtain ⟨h, X, G, c⟩ := T.ex
  exact He.noat_ok (x := "Sheet") (c.fact 122)
theorem Tx.n_Sheet_held : NoAttr K (He.ga K "Sheet") "held" := by
  obtain ⟨h, X, G, c⟩ := T.ex
  exact He.noat_ok (x := "Sheet") (c.fact 123)
theorem Tx.m_Sheet_init : Meth K (He.ga K "Sheet") "__init__" (a_Sheet_init K) := by
  obtain ⟨h, X, G, c⟩ := T.ex
  exact He.meth_ok (x := "Sheet") (c.fact 124)
theorem Tx.p_Sheet_results : PropOf K (He.ga K "Sheet") "results" (He.ma K (He.ga K "Sheet") "results") (a_Sheet_results K) := by
  obtain ⟨h, X, G, c⟩ := T.ex
  exact prop_ok (c.fact 125)
theorem Tx.p_Sheet_goals : PropOf K (He.ga K "Sheet") "goals" (He.ma K (He.ga K "Sheet") "goals") (a_Sheet_goals K) := by
  obtain ⟨h, X, G, c⟩ := T.ex
  exact prop_ok (c.fact 126)
theorem Tx.m_Sheet_len : Meth K (He.ga K "Sheet") "__len__" (a_Sheet_len K) := by
  obtain ⟨h, X, G, c⟩ := T.ex
  exact He.meth_ok (x := "Sheet") (c.fact 127)
theorem Tx.m_Sheet_iter : Meth K (He.ga K "Sheet") "__iter__" (a_Sheet_iter K) := by
  obtain ⟨h, X, G, c⟩ := T.ex
  exact He.meth_ok (x := "Sheet") (c.fact 128)
theorem Tx.m_Sheet_getitem : Meth K (He.ga K "Sheet") "__getitem__" (a_Sheet_getitem K) := by
  obtain ⟨h, X, G, c⟩ := T.ex
  exact He.meth_ok (x := "Sheet") (c.fact 129)
theorem Tx.fi_Sheet_getitem : PySem.W.fnIn K (a_Sheet_getitem K) = true := by
  obtain ⟨h, X, G, c⟩ := T.ex
  exact (c.fact 130)
theorem Tx.m_Sheet_setitem : Meth K (He.ga K "Sheet") "__setitem__" (a_Sheet_setitem K) := by
  obtain ⟨h, X, G, c⟩ := T.ex
  exact He.meth_ok (x := "Sheet") (c.fact 131)
theorem Tx.m_Sheet_contains : Meth K (He.ga K "Sheet") "__contains__" (a_Sheet_contains K) := by
  obtain ⟨h, X, G, c⟩ := T.ex
  exact He.meth_ok (x := "Sheet") (c.fact 132)
theorem Tx.m_Sheet_eq : Meth K (He.ga K "Sheet") "__eq__" (a_Sheet_eq K) := by
  obtain ⟨h, X, G, c⟩ := T.ex
  exact He.meth_ok (x := "Sheet") (c.fact 133)
theorem Tx.m_Sheet_mul : Meth K (He.ga K "Sheet") "__mul__" (a_Sheet_mul K) := by
  obtain ⟨h, X, G, c⟩ := T.ex
  exact He.meth_ok (x := "Sheet") (c.fact 134)
theorem Tx.m_Sheet_rmul : Meth K (He.ga K "Sheet") "__rmul__" (a_Sheet_rmul K) := by
  obtain ⟨h, X, G, c⟩ := T.ex
  exact He.meth_ok (x := "Sheet") (c.fact 135)
theorem Tx.is_BadTeam_BadWhat : PySem.W.kitOne K (.ref (He.ga K "BadTeam")) (.ref (He.ga K "BadWhat")) = some false := by
  obtain ⟨h, X, G, c⟩ := T.ex
  exact ki_ok (c.fact 136)
theorem Tx.is_BadTeam_CascadeError : PySem.W.kitOne K (.ref (He.ga K "BadTeam")) (.ref (He.ga K "CascadeError")) = some true := by
  obtain ⟨h, X, G, c⟩ := T.ex
  exact ki_ok (c.fact 137)
theorem Tx.is_BadWhat_BadTeam : PySem.W.kitOne K (.ref (He.ga K "BadWhat")) (.ref (He.ga K "BadTeam")) = some false := by
  obtain ⟨h, X, G, c⟩ := T.ex
  exact ki_ok (c.fact 138)
theorem Tx.is_BadWhat_CascadeError : PySem.W.kitOne K (.ref (He.ga K "BadWhat")) (.ref (He.ga K "CascadeError")) = some true := by
  obtain ⟨h, X, G, c⟩ := T.ex
  exact ki_ok (c.fact 139)
theorem Tx.ex_BadTeam_BadTeam : PySem.W.exmOne K (.ref (He.ga K "BadTeam")) (.ref (He.ga K "BadTeam")) = some true := by
  obtain ⟨h, X, G, c⟩ := T.ex
  exact exm_ok (c.fact 140)
theorem Tx.ex_BadTeam_BadWhat : PySem.W.exmOne K (.ref (He.ga K "BadTeam")) (.ref (He.ga K "BadWhat")) = some false := by
  obtain ⟨h, X, G, c⟩ := T.ex
  exact exm_ok (c.fact 141)
theorem Tx.ex_BadWhat_BadTeam : PySem.W.exmOne K (.ref (He.ga K "BadWhat")) (.ref (He.ga K "BadTeam")) = some false := by
  obtain ⟨h, X, G, c⟩ := T.ex
  exact exm_ok (c.fact 142)
theorem Tx.ex_BadWhat_BadWhat : PySem.W.exmOne K (.ref (He.ga K "BadWhat")) (.ref (He.ga K "BadWhat")) = some true := by
  obtain ⟨h, X, G, c⟩ := T.ex
  exact exm_ok (c.fact 143)
theorem Tx.d_BadTeams_init : ∃ fd, FunD K "__init__" "BadTeams.__init__" (defArgs s_BadTeams_init) (defBody s_BadTeams_init) (defScope s_BadTeams_init) [] [] (a_BadTeams_init K) fd := by
  obtain ⟨h, X, G, c⟩ := T.ex
  exact c.def_ 0
theorem Tx.d_BadPair_init : ∃ fd, FunD K "__init__" "BadPair.__init__" (defArgs s_BadPair_init) (defBody s_BadPair_init) (defScope s_BadPair_init) [] [] (a_BadPair_init K) fd := by
  obtain ⟨h, X, G, c⟩ := T.ex
  exact c.def_ 1
theorem Tx.d_BadLength_init : ∃ fd, FunD K "__init__" "BadLength.__init__" (defArgs s_BadLength_init) (defBody s_BadLength_init) (defScope s_BadLength_init) [] [] (a_BadLength_init K) fd := by
  obtain ⟨h, X, G, c⟩ := T.ex
  exact c.def_ 2
theorem Tx.d_BadResult_init : ∃ fd, FunD K "__init__" "BadResult.__init__" (defArgs s_BadResult_init) (defBody s_BadResult_init) (defScope s_BadResult_init) [] [] (a_BadResult_init K) fd := by
  obtain ⟨h, X, G, c⟩ := T.ex
  exact c.def_ 3
theorem Tx.d_NoIndex_init : ∃ fd, FunD K "__init__" "NoIndex.__init__" (defArgs s_NoIndex_init) (defBody s_NoIndex_init) (defScope s_NoIndex_init) [] [] (a_NoIndex_init K) fd := by
  obtain ⟨h, X, G, c⟩ := T.ex
  exact c.def_ 4
theorem Tx.d_BadFactor_init : ∃ fd, FunD K "__init__" "BadFactor.__init__" (defArgs s_BadFactor_init) (defBody s_BadFactor_init) (defScope s_BadFactor_init) [] [] (a_BadFactor_init K) fd := by
  obtain ⟨h, X, G, c⟩ := T.ex
  exact c.def_ 5
theorem Tx.d_BadWhat_init : ∃ fd, FunD K "__init__" "BadWhat.__init__" (defArgs s_BadWhat_init) (defBody s_BadWhat_init) (defScope s_BadWhat_init) [] [] (a_BadWhat_init K) fd := by
  obtain ⟨h, X, G, c⟩ := T.ex
  exact c.def_ 6
theorem Tx.d_BadTeam_init : ∃ fd, FunD K "__init__" "BadTeam.__init__" (defArgs s_BadTeam_init) (defBody s_BadTeam_init) (defScope s_BadTeam_init) [] [] (a_BadTeam_init K) fd := by
  obtain ⟨h, X, G, c⟩ := T.ex
  exact c.def_ 7
theorem Tx.d_sign_of : ∃ fd, FunD K "sign_of" "sign_of" (defArgs s_sign_of) (defBody s_sign_of) (defScope s_sign_of) [] [] (a_sign_of K) fd := by
  obtain ⟨h, X, G, c⟩ := T.ex
  exact c.def_ 8
theorem Tx.d_in_scope : ∃ fd, FunD K "in_scope" "in_scope" (defArgs s_in_scope) (defBody s_in_scope) (defScope s_in_scope) [] [] (a_in_scope K) fd := by
  obtain ⟨h, X, G, c⟩ := T.ex
  exact c.def_ 9
theorem Tx.d_points_for : ∃ fd, FunD K "points_for" "points_for" (defArgs s_points_for) (defBody s_points_for) (defScope s_points_for) [] [] (a_points_for K) fd := by
  obtain ⟨h, X, G, c⟩ := T.ex
  exact c.def_ 10
theorem Tx.d_share : ∃ fd, FunD K "share" "share" (defArgs s_share) (defBody s_share) (defScope s_share) [] [] (a_share K) fd := by
  obtain ⟨h, X, G, c⟩ := T.ex
  exact c.def_ 11
theorem Tx.d_value : ∃ fd, FunD K "value" "value" (defArgs s_value) (defBody s_value) (defScope s_value) [V.non] [] (a_value K) fd := by
  obtain ⟨h, X, G, c⟩ := T.ex
  exact c.def_ 12
theorem Tx.d_Form_init : ∃ fd, FunD K "__init__" "Form.__init__" (defArgs s_Form_init) (defBody s_Form_init) (defScope s_Form_init) [] [] (a_Form_init K) fd := by
  obtain ⟨h, X, G, c⟩ := T.ex
  exact c.def_ 13
theorem Tx.d_Form_len : ∃ fd, FunD K "__len__" "Form.__len__" (defArgs s_Form_len) (defBody s_Form_len) (defScope s_Form_len) [] [] (a_Form_len K) fd := by
  obtain ⟨h, X, G, c⟩ := T.ex
  exact c.def_ 14
theorem Tx.d_Form_bool : ∃ fd, FunD K "__bool__" "Form.__bool__" (defArgs s_Form_bool) (defBody s_Form_bool) (defScope s_Form_bool) [] [] (a_Form_bool K) fd := by
  obtain ⟨h, X, G, c⟩ := T.ex
  exact c.def_ 15
theorem Tx.d_Form_iter : ∃ fd, FunD K "__iter__" "Form.__iter__" (defArgs s_Form_iter) (defBody s_Form_iter) (defScope s_Form_iter) [] [] (a_Form_iter K) fd := by
  obtain ⟨h, X, G, c⟩ := T.ex
  exact c.def_ 16
theorem Tx.d_Form_getitem : ∃ fd, FunD K "__getitem__" "Form.__getitem__" (defArgs s_Form_getitem) (defBody s_Form_getitem) (defScope s_Form_getitem) [] [] (a_Form_getitem K) fd := by
  obtain ⟨h, X, G, c⟩ := T.ex
  exact c.def_ 17
theorem Tx.d_Form_eq : ∃ fd, FunD K "__eq__" "Form.__eq__" (defArgs s_Form_eq) (defBody s_Form_eq) (defScope s_Form_eq) [] [] (a_Form_eq K) fd := by
  obtain ⟨h, X, G, c⟩ := T.ex
  exact c.def_ 18
theorem Tx.d_Form_add : ∃ fd, FunD K "__add__" "Form.__add__" (defArgs s_Form_add) (defBody s_Form_add) (defScope s_Form_add) [] [] (a_Form_add K) fd := by
  obtain ⟨h, X, G, c⟩ := T.ex
  exact c.def_ 19
theorem Tx.d_Form_sub : ∃ fd, FunD K "__sub__" "Form.__sub__" (defArgs s_Form_sub) (defBody s_Form_sub) (defScope s_Form_sub) [] [] (a_Form_sub K) fd := by
  obtain ⟨h, X, G, c⟩ := T.ex
  exact c.def_ 20
theorem Tx.d_Form_neg : ∃ fd, FunD K "__neg__" "Form.__neg__" (defArgs s_Form_neg) (defBody s_Form_neg) (defScope s_Form_neg) [] [] (a_Form_neg K) fd := by
  obtain ⟨h, X, G, c⟩ := T.ex
  exact c.def_ 21
theorem Tx.d_Form_mul : ∃ fd, FunD K "__mul__" "Form.__mul__" (defArgs s_Form_mul) (defBody s_Form_mul) (defScope s_Form_mul) [] [] (a_Form_mul K) fd := by
  obtain ⟨h, X, G, c⟩ := T.ex
  exact c.def_ 22
theorem Tx.d_Form_rmul : ∃ fd, FunD K "__rmul__" "Form.__rmul__" (defArgs s_Form_rmul) (defBody s_Form_rmul) (defScope s_Form_rmul) [] [] (a_Form_rmul K) fd := by
  obtain ⟨h, X, G, c⟩ := T.ex
  exact c.def_ 23
theorem Tx.d_Form_call : ∃ fd, FunD K "__call__" "Form.__call__" (defArgs s_Form_call) (defBody s_Form_call) (defScope s_Form_call) [] [] (a_Form_call K) fd := by
  obtain ⟨h, X, G, c⟩ := T.ex
  exact c.def_ 24
theorem Tx.d_Form_sign : ∃ fd, FunD K "sign" "Form.sign" (defArgs s_Form_sign) (defBody s_Form_sign) (defScope s_Form_sign) [] [] (a_Form_sign K) fd := by
  obtain ⟨h, X, G, c⟩ := T.ex
  exact c.def_ 25
theorem Tx.d_goal_parts : ∃ fd, FunD K "goal_parts" "goal_parts" (defArgs s_goal_parts) (defBody s_goal_parts) (defScope s_goal_parts) [] [] (a_goal_parts K) fd := by
  obtain ⟨h, X, G, c⟩ := T.ex
  exact c.def_ 26
theorem Tx.d_value_form : ∃ fd, FunD K "value_form" "value_form" (defArgs s_value_form) (defBody s_value_form) (defScope s_value_form) [V.non] [] (a_value_form K) fd := by
  obtain ⟨h, X, G, c⟩ := T.ex
  exact c.def_ 27
theorem Tx.d_two_teams : ∃ fd, FunD K "two_teams" "two_teams" (defArgs s_two_teams) (defBody s_two_teams) (defScope s_two_teams) [] [] (a_two_teams K) fd := by
  obtain ⟨h, X, G, c⟩ := T.ex
  exact c.def_ 28
theorem Tx.d_Fixtures_init : ∃ fd, FunD K "__init__" "Fixtures.__init__" (defArgs s_Fixtures_init) (defBody s_Fixtures_init) (defScope s_Fixtures_init) [] [] (a_Fixtures_init K) fd := by
  obtain ⟨h, X, G, c⟩ := T.ex
  exact c.def_ 29
theorem Tx.d_Fixtures_len : ∃ fd, FunD K "__len__" "Fixtures.__len__" (defArgs s_Fixtures_len) (defBody s_Fixtures_len) (defScope s_Fixtures_len) [] [] (a_Fixtures_len K) fd := by
  obtain ⟨h, X, G, c⟩ := T.ex
  exact c.def_ 30
theorem Tx.d_Fixtures_iter : ∃ fd, FunD K "__iter__" "Fixtures.__iter__" (defArgs s_Fixtures_iter) (defBody s_Fixtures_iter) (defScope s_Fixtures_iter) [] [] (a_Fixtures_iter K) fd := by
  obtain ⟨h, X, G, c⟩ := T.ex
  exact c.def_ 31
theorem Tx.d_Fixtures_getitem : ∃ fd, FunD K "__getitem__" "Fixtures.__getitem__" (defArgs s_Fixtures_getitem) (defBody s_Fixtures_getitem) (defScope s_Fixtures_getitem) [] [] (a_Fixtures_getitem K) fd := by
  obtain ⟨h, X, G, c⟩ := T.ex
  exact c.def_ 32
theorem Tx.d_Fixtures_contains : ∃ fd, FunD K "__contains__" "Fixtures.__contains__" (defArgs s_Fixtures_contains) (defBody s_Fixtures_contains) (defScope s_Fixtures_contains) [] [] (a_Fixtures_contains K) fd := by
  obtain ⟨h, X, G, c⟩ := T.ex
  exact c.def_ 33
theorem Tx.d_Fixtures_eq : ∃ fd, FunD K "__eq__" "Fixtures.__eq__" (defArgs s_Fixtures_eq) (defBody s_Fixtures_eq) (defScope s_Fixtures_eq) [] [] (a_Fixtures_eq K) fd := by
  obtain ⟨h, X, G, c⟩ := T.ex
  exact c.def_ 34
theorem Tx.d_Fixtures_of : ∃ fd, FunD K "of" "Fixtures.of" (defArgs s_Fixtures_of) (defBody s_Fixtures_of) (defScope s_Fixtures_of) [] [] (a_Fixtures_of K) fd := by
  obtain ⟨h, X, G, c⟩ := T.ex
  exact c.def_ 35
theorem Tx.d_fair : ∃ fd, FunD K "fair" "fair" (defArgs s_fair) (defBody s_fair) (defScope s_fair) [] [] (a_fair K) fd := by
  obtain ⟨h, X, G, c⟩ := T.ex
  exact c.def_ 36
theorem Tx.d_copied : ∃ fd, FunD K "copied" "copied" (defArgs s_copied) (defBody s_copied) (defScope s_copied) [] [] (a_copied K) fd := by
  obtain ⟨h, X, G, c⟩ := T.ex
  exact c.def_ 37
theorem Tx.d_flat : ∃ fd, FunD K "flat" "flat" (defArgs s_flat) (defBody s_flat) (defScope s_flat) [] [] (a_flat K) fd := by
  obtain ⟨h, X, G, c⟩ := T.ex
  exact c.def_ 38
theorem Tx.d_times : ∃ fd, FunD K "times" "times" (defArgs s_times) (defBody s_times) (defScope s_times) [] [] (a_times K) fd := by
  obtain ⟨h, X, G, c⟩ := T.ex
  exact c.def_ 39
theorem Tx.d_Sheet_init : ∃ fd, FunD K "__init__" "Sheet.__init__" (defArgs s_Sheet_init) (defBody s_Sheet_init) (defScope s_Sheet_init) [V.non] [] (a_Sheet_init K) fd := by
  obtain ⟨h, X, G, c⟩ := T.ex
  exact c.def_ 40
theorem Tx.d_Sheet_results : ∃ fd, FunD K "results" "Sheet.results" (defArgs s_Sheet_results) (defBody s_Sheet_results) (defScope s_Sheet_results) [] [] (a_Sheet_results K) fd := by
  obtain ⟨h, X, G, c⟩ := T.ex
  exact c.def_ 41
theorem Tx.d_Sheet_goals : ∃ fd, FunD K "goals" "Sheet.goals" (defArgs s_Sheet_goals) (defBody s_Sheet_goals) (defScope s_Sheet_goals) [] [] (a_Sheet_goals K) fd := by
  obtain ⟨h, X, G, c⟩ := T.ex
  exact c.def_ 42
theorem Tx.d_Sheet_len : ∃ fd, FunD K "__len__" "Sheet.__len__" (defArgs s_Sheet_len) (defBody s_Sheet_len) (defScope s_Sheet_len) [] [] (a_Sheet_len K) fd := by
  obtain ⟨h, X, G, c⟩ := T.ex
  exact c.def_ 43
theorem Tx.d_Sheet_iter : ∃ fd, FunD K "__iter__" "Sheet.__iter__" (defArgs s_Sheet_iter) (defBody s_Sheet_iter) (defScope s_Sheet_iter) [] [] (a_Sheet_iter K) fd := by
  obtain ⟨h, X, G, c⟩ := T.ex
  exact c.def_ 44
theorem Tx.d_Sheet_getitem : ∃ fd, FunD K "__getitem__" "Sheet.__getitem__" (defArgs s_Sheet_getitem) (defBody s_Sheet_getitem) (defScope s_Sheet_getitem) [] [] (a_Sheet_getitem K) fd := by
  obtain ⟨h, X, G, c⟩ := T.ex
  exact c.def_ 45
theorem Tx.d_Sheet_setitem : ∃ fd, FunD K "__setitem__" "Sheet.__setitem__" (defArgs s_Sheet_setitem) (defBody s_Sheet_setitem) (defScope s_Sheet_setitem) [] [] (a_Sheet_setitem K) fd := by
  obtain ⟨h, X, G, c⟩ := T.ex
  exact c.def_ 46
theorem Tx.d_Sheet_contains : ∃ fd, FunD K "__contains__" "Sheet.__contains__" (defArgs s_Sheet_contains) (defBody s_Sheet_contains) (defScope s_Sheet_contains) [] [] (a_Sheet_contains K) fd := by
  obtain ⟨h, X, G, c⟩ := T.ex
  exact c.def_ 47
theorem Tx.d_Sheet_eq : ∃ fd, FunD K "__eq__" "Sheet.__eq__" (defArgs s_Sheet_eq) (defBody s_Sheet_eq) (defScope s_Sheet_eq) [] [] (a_Sheet_eq K) fd := by
  obtain ⟨h, X, G, c⟩ := T.ex
  exact c.def_ 48
theorem Tx.d_Sheet_mul : ∃ fd, FunD K "__mul__" "Sheet.__mul__" (defArgs s_Sheet_mul) (defBody s_Sheet_mul) (defScope s_Sheet_mul) [] [] (a_Sheet_mul K) fd := by
  obtain ⟨h, X, G, c⟩ := T.ex
  exact c.def_ 49
theorem Tx.d_Sheet_rmul : ∃ fd, FunD K "__rmul__" "Sheet.__rmul__" (defArgs s_Sheet_rmul) (defBody s_Sheet_rmul) (defScope s_Sheet_rmul) [] [] (a_Sheet_rmul K) fd := by
  obtain ⟨h, X, G, c⟩ := T.ex
  exact c.def_ 50
theorem Tx.d_law_pool : ∃ fd, FunD K "_law_pool" "_law_pool" (defArgs s_law_pool) (defBody s_law_pool) (defScope s_law_pool) [] [] (a_law_pool K) fd := by
  obtain ⟨h, X, G, c⟩ := T.ex
  exact c.def_ 51
theorem Tx.d_law_take : ∃ fd, FunD K "_law_take" "_law_take" (defArgs s_law_take) (defBody s_law_take) (defScope s_law_take) [] [] (a_law_take K) fd := by
  obtain ⟨h, X, G, c⟩ := T.ex
  exact c.def_ 52
theorem Tx.d_law_one : ∃ fd, FunD K "_law_one" "_law_one" (defArgs s_law_one) (defBody s_law_one) (defScope s_law_one) [] [] (a_law_one K) fd := by
  obtain ⟨h, X, G, c⟩ := T.ex
  exact c.def_ 53
theorem Tx.d_law_pairs : ∃ fd, FunD K "_law_pairs" "_law_pairs" (defArgs s_law_pairs) (defBody s_law_pairs) (defScope s_law_pairs) [] [] (a_law_pairs K) fd := by
  obtain ⟨h, X, G, c⟩ := T.ex
  exact c.def_ 54
theorem Tx.d_law_base : ∃ fd, FunD K "_law_base" "_law_base" (defArgs s_law_base) (defBody s_law_base) (defScope s_law_base) [] [] (a_law_base K) fd := by
  obtain ⟨h, X, G, c⟩ := T.ex
  exact c.def_ 55
theorem Tx.d_law_goals : ∃ fd, FunD K "_law_goals" "_law_goals" (defArgs s_law_goals) (defBody s_law_goals) (defScope s_law_goals) [] [] (a_law_goals K) fd := by
  obtain ⟨h, X, G, c⟩ := T.ex
  exact c.def_ 56
theorem Tx.d_law_is_form : ∃ fd, FunD K "_law_is_form" "_law_is_form" (defArgs s_law_is_form) (defBody s_law_is_form) (defScope s_law_is_form) [] [] (a_law_is_form K) fd := by
  obtain ⟨h, X, G, c⟩ := T.ex
  exact c.def_ 57
theorem Tx.d_law_total : ∃ fd, FunD K "_law_total" "_law_total" (defArgs s_law_total) (defBody s_law_total) (defScope s_law_total) [] [] (a_law_total K) fd := by
  obtain ⟨h, X, G, c⟩ := T.ex
  exact c.def_ 58
theorem Tx.d_law_value_parts : ∃ fd, FunD K "_law_value_parts" "_law_value_parts" (defArgs s_law_value_parts) (defBody s_law_value_parts) (defScope s_law_value_parts) [] [] (a_law_value_parts K) fd := by
  obtain ⟨h, X, G, c⟩ := T.ex
  exact c.def_ 59
theorem Tx.d_law_told : ∃ fd, FunD K "_law_told" "_law_told" (defArgs s_law_told) (defBody s_law_told) (defScope s_law_told) [] [] (a_law_told K) fd := by
  obtain ⟨h, X, G, c⟩ := T.ex
  exact c.def_ 60
theorem Tx.d_law_refused : ∃ fd, FunD K "_law_refused" "_law_refused" (defArgs s_law_refused) (defBody s_law_refused) (defScope s_law_refused) [] [] (a_law_refused K) fd := by
  obtain ⟨h, X, G, c⟩ := T.ex
  exact c.def_ 61
theorem Tx.d_law : ∃ fd, FunD K "law" "law" (defArgs s_law) (defBody s_law) (defScope s_law) [] [] (a_law K) fd := by
  obtain ⟨h, X, G, c⟩ := T.ex
  exact c.def_ 62
end
def names0 : List Str := ["_wall", "CascadeError", "BadTeams", "BadPair", "BadLength", "BadResult", "NoIndex", "BadFactor", "BadWhat", "BadTeam", "WHATS", "sign_of", "in_scope", "points_for", "share", "value", "Form", "goal_parts", "value_form", "FEWEST"]
def names1 : List Str := ["MOST", "two_teams", "Fixtures", "fair", "copied", "flat", "times", "Sheet", "_law_pool", "_law_take", "_law_one", "_law_pairs", "_law_base", "_law_goals", "_law_is_form", "_law_total", "_law_value_parts", "_law_told", "_law_refused"]
def names : List Str := names0 ++ names1
abbrev lawAt : Nat := 45
end Lv

set_option Elab.async false
set_option linter.all false
set_option maxRecDepth 100000
set_option maxHeartbeats 0
/-! An error of the text with one field. -/
namespace Lv
open PySem PySem.Spec PyProof.Rows L2 OwX
/-! ### an error with one field -/
/-- an error's __init__ stores its one value -/
def sp_ex (C : Addr) (f : Str) : Sp := fun vs H Q _ => ∃ (a : Addr) (v : V), vs = [.ref a, v] ∧ H a = some (exo a C none) ∧ ∀ dx, H dx = none → dx ≠ a → Q .non (upd (upd H dx (exd dx [(f, v)])) a (exo a C (some dx)))
theorem mk_ex {C : Addr} {f : Str} {ta : TA} {σ : L2.St} {H : Hp} {W : XK} (h : ta σ H fun vs H1 => ∃ v, vs = [v] ∧ ∀ d, H1 d = none → W (.ref C) (some d) (upd H1 d (.xd [(f, v)]))) (mono : ∀ R R' : List V → Hp → Prop, (∀ vs H, R vs H → R' vs H) → ta σ H R → ta σ H R') : tMkO C (sp_ex C f) [] ta σ H W := by
  refine mono _ _ (fun vs H1 q => ?_) h
  obtain ⟨v, rfl, q⟩ := q
  refine ⟨(show 1 ≤ 1000 by decide), fun a ha => ⟨a, v, rfl, upd_same, fun dx hd ne => ⟨rfl, ?_⟩⟩⟩
  rw [upd_ne ne] at hd
  refine ⟨dx, [(f, v)], upd_same, by rw [upd_ne ne, upd_same], hd, ?_⟩
  have e : upd (del (upd (upd (upd H1 a (exo a C none)) dx (exd dx [(f, v)])) a (exo a C (some dx))) a) dx (.xd [(f, v)]) = upd H1 dx (.xd [(f, v)]) := by
    funext b
    by_cases h1 : b = dx
    · rw [h1, upd_same, upd_same]
    · rw [upd_ne h1, upd_ne h1]
      by_cases h2 : b = a
      · rw [h2, del_same, ha]
      · rw [del_ne h2, upd_ne h2, upd_ne h1, upd_ne h2]
  rw [e]
  exact q dx hd
theorem raise_ex {C : Addr} {f : Str} {i : Nat} {σ : L2.St} {H : Hp} {v : V} {W : XK} (hv : σ[i]? = some (some v)) (k : ∀ d, H d = none → W (.ref C) (some d) (upd H d (.xd [(f, v)]))) : tMkO C (sp_ex C f) [] (tCons (tVar i) tNil) σ H W :=
  mk_ex ⟨v, hv, v, rfl, k⟩ fun R R' m ⟨u, h1, h2⟩ => ⟨u, h1, m _ _ h2⟩
end Lv

set_option Elab.async false
set_option linter.all false
set_option maxRecDepth 100000
set_option maxHeartbeats 0
/-! Defs with defaults by positions; list.extend of a tuple; readings of pop, list(range), name op= e, three names at once. -/
namespace OwX
open PySem PySem.Spec PyProof.Rows L2 ClX
section
variable {P : Program} {w : World} {K : PySem.W.Frag} {mg : Str → Option Value} {base : Heap} {x qual : Str} {params : Arguments} {body : List Stmt} {scope : Scope} {f : Addr} {N ps : List Str} {k : Nat} {sp : Sp}
/-- the binding with m defaults, n values written, the defaults behind the first j filling up -/
abbrev BindsD (x qual : Str) (params : Arguments) (body : List Stmt) (scope : Scope) (ps : List Str) (m n j : Nat) : Prop :=
  ∀ (T : Addr) (kV doc pm : Value) (an : Option Addr) (cdv ct : Value) (us its : List Value), us.length = n → its.length = m →
    ∃ k, bindArgs (PySem.W.fnOf x qual params body scope (.ref T) kV doc pm an cdv ct) ⟨us, []⟩ = seqItems? (.ref T) >>= k ∧ k (some its.toArray) = pure (ps.zip (us ++ its.drop j))
theorem fnrD {dvs : List V} (n j : Nat) (F : ∃ fd, FunD K x qual params body scope dvs [] f fd) (S : FnScope N ps scope) (hd : dvs ≠ []) (hn : n + (dvs.length - j) = ps.length) (hb : BindsD x qual params body scope ps dvs.length n j) (len : ∀ vs H Q E, sp vs H Q E → vs.length = ps.length)
    (h : Body P w K mg base N qual scope body f k sp) : FnR P w K mg base (L2.CX P w) (k + 1) f fun vs H Q E => sp (vs ++ dvs.drop j) H Q E := by
  obtain ⟨fd, F⟩ := F
  obtain ⟨ds, r, b⟩ := F.binds1 n j hd hn hb
  exact (F.ok S len h).raw b r
end
end OwX
namespace GW
open PySem PySem.Spec PyProof.Rows L2 OwX
section
variable {X : Cx} {K : PySem.W.Frag}
/-- list.extend of any object of type tuple -/
theorem ext_tup (l b : Addr) (xs ys : Array Value) (n m : Nat) (dd : Option Addr) (sl : Array (Option Value)) (h0 : ¬(!xs.isEmpty && Builtin.List.listTooLong (xs.size + ys.size)) = true) (h1 : xs.size ≤ sizeLine) (h2 : xs.size + ys.size ≤ sizeLine + 1) :
    Meets (Builtin.«list.extend» ⟨[.ref l, .ref b], []⟩) fun _ R s => s.heap.get? l = some { cls := .type "list", dict := none, data := .seq xs n, slots := #[] } ∧ s.heap.get? b = some { cls := .type "tuple", dict := dd, data := .seq ys m, slots := sl } ∧ R (.ok (.ret Value.none)) { s with heap := s.heap.update l (Obj.mapSeq fun x => x ++ ys), toks := s.toks } :=
  .of_wp fun prog w A R s h => by
    obtain ⟨hp, g, d, tk, os⟩ := s
    obtain ⟨hl, hb, h⟩ := h
    have f1 := AutoSeq1.idx_int; have f2 := AutoSeq1.sub_tuple_tuple; have f3 := AutoSeq1.sub_list_list; have f4 := AutoSeq1.sub_tuple_list; have f5 := AutoSeq1.sub_list_tuple
    have z : (xs ++ ys).size ≤ sizeLine + 1 := by rw [Array.size_append]; exact h2
    wp_walk using (wpAny_updateSeq hl rfl (hz := h1) (_hz' := z)), AutoSeq1.wpAny_loadPart' hl, AutoSeq1.wpAny_loadPart' hb
    exact ⟨_, rfl, h⟩
/-- l.extend(t), t a tuple -/
def rExtT (K : PySem.W.Frag) : V → List V → Hp → VK → Prop := fun x vs H Q => ∃ l b xs zs, x = .ref l ∧ vs = [.ref b] ∧ H l = some (.lst xs) ∧ SqT K H b zs ∧ xs.length + zs.length ≤ sizeLine ∧ Q .non (upd H l (.lst (xs ++ zs)))
theorem mt_extT (h : X.K = K := by rfl) : MtR X "list.extend" (rExtT K) := by
  subst h
  intro pins s σ H x vs v us Q I rx rv h
  obtain ⟨l, b, xs, zs, rfl, rfl, hH, hB, hz, q⟩ := h
  cases rx
  obtain ⟨u, rfl, ru⟩ := rv.one
  cases ru
  obtain ⟨z, its, n, r, hl, e⟩ := I.lstM hH
  obtain ⟨its2, r2, ⟨o2, e2, c2, n2, d2⟩, z2⟩ := I.tuple hB
  have hl2 := r2.length
  have hsz : its.toArray.size + its2.toArray.size ≤ sizeLine := by rw [List.size_toArray, List.size_toArray]; omega
  have hlong : ¬ (!its.toArray.isEmpty && Builtin.List.listTooLong (its.toArray.size + its2.toArray.size)) = true := by
    rw [notLongL hsz, Bool.and_false]
    exact Bool.false_ne_true
  obtain ⟨cls, dd, data, sl⟩ := o2
  simp only at c2 d2
  subst c2 d2
  refine call_meets F.slot_list_extend ⟨_, e, rfl⟩ F.entry_list_extend (F.args_list_extend_2 _ _)
    (ext_tup l b its.toArray its2.toArray n n2 dd sl hlong (by rw [List.size_toArray]; omega) (by omega)) ⟨e, e2, ?_⟩
  refine ⟨.non, _, I.lset (its' := its ++ its2) hH e (by simp) (r.append r2) ?_, rfl, q⟩
  rw [List.length_append]
  omega
theorem idx (h : X.K = K := by rfl) : MtR X "list.index" (rIndex K) := by subst h; exact mt_index
end
end GW
namespace Rd
open PySem PySem.Spec PyProof.Rows L2 OwX
section
variable {K : PySem.W.Frag} {σ : L2.St} {H : Hp} {Q : VK} {p : Addr} {xs ys : List V} {v y : V}
theorem extT {b : Addr} {zs : List V} (h : H p = some (.lst xs)) (hb : SqT K H b zs) (l : xs.length + zs.length ≤ sizeLine) (k : Q .non (upd H p (.lst (xs ++ zs)))) : GW.rExtT K (.ref p) [.ref b] H Q := ⟨p, b, xs, zs, rfl, rfl, h, hb, l, k⟩
theorem popAt {i : Nat} (h : H p = some (.lst xs)) (hi : xs[i]? = some y) (l : xs.length < 1000000) (k : Q y (upd H p (.lst (xs.eraseIdx i)))) : rPopAt (.ref p) [.int i] H Q := by
  have hl := (List.getElem?_eq_some_iff.mp hi).1
  refine ⟨p, xs, i, i, y, rfl, rfl, h, by omega, by omega, ?_, hi, k⟩
  unfold seqIndex?
  simp
  omega
theorem aug {i : Nat} {te : TE} {ti : TIp} {D : Ends} {x : V} (h1 : σ[i]? = some (some x)) (k : te σ H fun y H1 => ti x y H1 fun z H2 => D.nx (σ.set i (some z)) H2) : tAug i te ti D σ H := ⟨x, h1, k⟩
theorem ipi {f : Int → Int → Int} {i j : Int} (k : Q (.int (f i j)) H) : ipI f (.int i) (.int j) H Q := ⟨i, j, rfl, rfl, k⟩
theorem par3 {i j l : Nat} {ta : TA} {D : Ends} (k : ta σ H fun vs H1 => ∃ u v w, vs = [u, v, w] ∧ D.nx (((σ.set i (some u)).set j (some v)).set l (some w)) H1) : tPar3 i j l ta D σ H := k
theorem par33 {x y z : V} {A : V → V → V → Prop} (k : A x y z) : ∃ u v w, [x, y, z] = [u, v, w] ∧ A u v w := ⟨x, y, z, rfl, k⟩
theorem rg1 {te : TE} {R : Int → Int → Hp → Prop} (k : te σ H fun x H1 => ∃ n, x = .int n ∧ R 0 n H1) : tRg1 te σ H R := k
theorem lstRg {te : L2.St → Hp → (Int → Int → Hp → Prop) → Prop} (k : te σ H fun a b H1 => RgOk a b ∧ ∀ q, H1 q = none → Q (.ref q) (upd H1 q (.lst (rgV a b)))) : tLstRg te σ H Q := k
theorem rgV_nat (n : Nat) : rgV 0 n = (List.range n).map fun i => V.int (i : Nat) := by
  unfold rgV
  rw [Int.sub_zero, Int.toNat_natCast]
  simp
end
end Rd

set_option linter.all false
namespace Rs
abbrev Pr := Int × Int
end Rs

set_option Elab.async false
set_option linter.all false
set_option maxRecDepth 100000
set_option maxHeartbeats 0
/-! Pairs of whole numbers in the heap. -/
namespace Lv
open PySem PySem.Spec PyProof.Rows L2 OwX Rs
/-- v stands for the pair p -/
def PT (H : Hp) (p : Pr) (v : V) : Prop := ∃ a, v = .ref a ∧ H a = some (.tup [.int p.1, .int p.2])
theorem PT.ext {H H' : Hp} {p : Pr} {v : V} (h : PT H p v) (e : Ext H H') : PT H' p v := by
  obtain ⟨a, h1, h2⟩ := h
  exact ⟨a, h1, e _ _ h2⟩
theorem PT.hid {H : Hp} {O : List Addr} {p : Pr} {v : V} (h : PT (Rd.hid O H) p v) : PT H p v := h.ext Rd.hid_ext
/-- a list, a tuple of pairs -/
def PL (H : Hp) (l : Addr) (ps : List Pr) : Prop := ∃ vs, H l = some (.lst vs) ∧ Paired (PT H) ps vs
def PU (H : Hp) (l : Addr) (ps : List Pr) : Prop := ∃ vs, H l = some (.tup vs) ∧ Paired (PT H) ps vs
theorem PL.ext {H H' : Hp} {l : Addr} {ps : List Pr} (h : PL H l ps) (e : Ext H H') : PL H' l ps := by
  obtain ⟨vs, h1, h2⟩ := h
  exact ⟨vs, e _ _ h1, Rd.paired_imp (fun _ _ r => r.ext e) h2⟩
theorem PU.ext {H H' : Hp} {l : Addr} {ps : List Pr} (h : PU H l ps) (e : Ext H H') : PU H' l ps := by
  obtain ⟨vs, h1, h2⟩ := h
  exact ⟨vs, e _ _ h1, Rd.paired_imp (fun _ _ r => r.ext e) h2⟩
theorem PL.of {H : Hp} {D : Addr} {ps : List Pr} {ys : List V} (h : H D = some (.lst ys)) (pr : Paired (fun a y => PT (Rd.hid [D] H) a y) ps ys) : PL H D ps := ⟨ys, h, Rd.paired_imp (fun _ _ r => r.hid) pr⟩
theorem PT.new {H : Hp} {D t : Addr} {acc : List V} {p : Pr} (hD : H D = some (.lst acc)) (ht : H t = none) : PT (Rd.hid [D] (upd H t (.tup [.int p.1, .int p.2]))) p (.ref t) :=
  ⟨t, rfl, by rw [Rd.hid_ne (by simp; exact fun z => by rw [z, hD] at ht; cases ht), upd_same]⟩
theorem PT.upd {H : Hp} {l : Addr} {q : Pr} {v : V} {ys : List V} {u : HO} (h : PT H q v) (hl : H l = some (.lst ys)) : PT (upd H l u) q v := by
  obtain ⟨a, h1, h2⟩ := h
  exact ⟨a, h1, by rw [upd_ne (ne_of h2 hl (by intro z; cases z))]; exact h2⟩
theorem PL.upd {H : Hp} {l m : Addr} {ps : List Pr} {ys : List V} {u : HO} (h : PL H m ps) (ne : m ≠ l) (hl : H l = some (.lst ys)) : PL (upd H l u) m ps := by
  obtain ⟨vs, h1, h2⟩ := h
  exact ⟨vs, by rw [upd_ne ne]; exact h1, Rd.paired_imp (fun _ _ r => r.upd hl) h2⟩
def encP : Pr → PyData := fun p => .tuple [.int p.1, .int p.2]
theorem encP_ok : Rd.Enc encP 1 := Rd.Enc.pair Rd.Enc.int Rd.Enc.int
theorem PT.keep {H H' : Hp} {D : Addr} {p : Pr} {v : V} (h : PT H p v) (n : H D = none) (e : Ext H H') : PT (Rd.hid [D] H') p v := by
  obtain ⟨a, h1, h2⟩ := h
  exact ⟨a, h1, by rw [Rd.hid_ne (by simp; exact ne_of_none h2 n)]; exact e _ _ h2⟩
section
variable {K : PySem.W.Frag}
/-- home, away = the pair -/
theorem un2 {n m : Nat} {σ : L2.St} {H : Hp} {v : V} {p : Pr} {Q : L2.St → Hp → Prop} (h : PT H p v) (k : Q ((σ.set n (some (.int p.1))).set m (some (.int p.2))) H) : gTup K 2 (gCons (gName n) (gCons (gName m) gNil)) v σ H Q := by
  obtain ⟨a, rfl, h2⟩ := h
  exact ⟨a, _, rfl, SqT.of h2, rfl, _, _, rfl, _, _, rfl, rfl, k⟩
theorem dp_pt {H : Hp} {p : Pr} {v : V} (h : PT H p v) : Dp K H v (encP p) := by
  obtain ⟨a, rfl, h2⟩ := h
  exact .tup (SqT.of h2) (.cons (.int _) (.cons (.int _) .nil))
/-- m.append(v) -/
theorem appP {H : Hp} {m : Addr} {ps : List Pr} {q : Pr} {v : V} {Q : VK} (h : PL H m ps) (hv : PT H q v) (len : ps.length < 50000) (k : ∀ ys u, H m = some (.lst ys) → PL (upd H m u) m (ps ++ [q]) → Q .non (upd H m u)) : rAppend (.ref m) [v] H Q := by
  obtain ⟨vs, h1, h2⟩ := h
  have l1 := Rd.paired_len h2
  refine Rd.appendL h1 (Rd.szl (by omega)) (k vs _ h1 ⟨_, upd_same, ?_⟩)
  exact Rd.paired_snoc (R := PT _) (hv.upd h1) (Rd.paired_imp (fun _ _ r => r.upd h1) h2)
theorem dp_pl {H : Hp} {l : Addr} {ps : List Pr} (h : PL H l ps) : Dp K H (.ref l) (.list (ps.map encP)) := by
  obtain ⟨vs, h1, h2⟩ := h
  exact .lst (SqL.of h1) (Rd.dpAll_paired (fun _ _ z => dp_pt z) h2)
theorem dp_pu {H : Hp} {l : Addr} {ps : List Pr} (h : PU H l ps) : Dp K H (.ref l) (.tuple (ps.map encP)) := by
  obtain ⟨vs, h1, h2⟩ := h
  exact .tup (SqT.of h1) (Rd.dpAll_paired (fun _ _ z => dp_pt z) h2)
theorem any_iff {α : Type} [DecidableEq α] {f : α → PyData} {n : Nat} (e : Rd.Enc f n) (x : α) (xs : List α) : ((xs.map f).any fun z => PyData.eqv z (f x)) = true ↔ x ∈ xs := by
  rw [List.any_map, List.any_eq_true]
  constructor
  · rintro ⟨y, hy, h⟩
    have h2 : PyData.eqv (f y) (f x) = true := h
    rw [e.eq, decide_eq_true_iff] at h2
    rw [← h2]; exact hy
  · intro h
    exact ⟨x, h, by show PyData.eqv (f x) (f x) = true; rw [e.eq, decide_eq_true rfl]⟩
/-- a pair in a list of pairs -/
theorem inP {H : Hp} {l : Addr} {ps : List Pr} {v : V} {q : Pr} {Q : VK} (h : PL H l ps) (hq : PT H q v) (k : ∀ c : Bool, (c = true ↔ q ∈ ps) → Q (.bl c) H) : rInD K v (.ref l) H Q :=
  ⟨encP q, ps.map encP, dp_pt hq, dp_pl h, encP_ok.shaped (by decide) _, encP_ok.list.shaped (by decide) _, k _ (any_iff encP_ok _ _)⟩
theorem niP {H : Hp} {l : Addr} {ps : List Pr} {v : V} {q : Pr} {Q : VK} (h : PL H l ps) (hq : PT H q v) (k : ∀ c : Bool, (c = true ↔ q ∉ ps) → Q (.bl c) H) : rNotInD K v (.ref l) H Q :=
  ⟨encP q, ps.map encP, dp_pt hq, dp_pl h, encP_ok.shaped (by decide) _, encP_ok.list.shaped (by decide) _, k _ (by rw [Bool.not_eq_true', ← Bool.not_eq_true, any_iff encP_ok])⟩
end
end Lv

set_option Elab.async false
set_option linter.all false
set_option maxRecDepth 100000
set_option maxHeartbeats 0
/-! Lambdas with parameters, handed to a def that calls them. -/
namespace LaX
open PySem PySem.Spec PyProof.Rows L2 LamX OwX
/-- the function at f keeps sp in every state that comes of (s0, H0) -/
structure FnS (P : Program) (w : World) (K : PySem.W.Frag) (mg : Str → Option Value) (base : Heap) (outer : List Env) (s0 : Shared) (H0 : Hp) (k : Nat) (f : Addr) (sp : Sp) : Prop where
  at_ : ∀ (s : Shared) (H : Hp), Un (frs outer) [] H0 H s0.heap s.heap → PySem.W.FnAt f s.heap
  run : ∀ (A : Around) (outer' : List Env) (s : Shared) (H : Hp) (us : List Value) (vs : List V) (Q : VK) (E : XK), Room k A → Env0 P w K mg base A outer' s H → Un (frs outer) [] H0 H s0.heap s.heap → Vals vs us → sp vs H Q E →
    codeAny (model P w) A (.call (.ref f) ⟨us, []⟩) (CR (L2.CX P w) outer' P w H s Q E) s
/-- a def that is handed such a function -/
def FnG (P : Program) (w : World) (K : PySem.W.Frag) (mg : Str → Option Value) (base : Heap) (k kf : Nat) (g : Addr) (sp : Addr → Sp → Sp) : Prop :=
  ∀ (A : Around) (outer : List Env) (s : Shared) (H : Hp) (us : List Value) (vs : List V) (Q : VK) (E : XK) (f : Addr) (spf : Sp), Room k A → Env0 P w K mg base A outer s H → Vals vs us → FnS P w K mg base outer s H kf f spf → sp f spf vs H Q E →
    codeAny (model P w) A (.call (.ref g) ⟨us, []⟩) (CR (L2.CX P w) outer P w H s Q E) s
section
variable {P : Program} {w : World} {K : PySem.W.Frag} {mg : Str → Option Value} {base : Heap} {x qual : Str} {params : Arguments} {body : List Stmt} {scope : Scope} {g : Addr} {N ps : List Str} {k kf : Nat} {sp : Addr → Sp → Sp}
theorem fng (F : ∃ fd, FunD K x qual params body scope [] [] g fd) (S : FnScope N ps scope) (hb : BindsN x qual params body scope ps) (len : ∀ f spf vs H Q E, sp f spf vs H Q E → vs.length = ps.length)
    (h : ∀ (cdv : Value) (A : Around) (outer : List Env) (s : Shared) (H : Hp) (vs : List V) (Q : VK) (E : XK) (f : Addr) (spf : Sp), FnS P w K mg base outer s H kf f spf → Room k (A.deeper (envOfC qual scope s.heap.objs.size g cdv)) → sp f spf vs H Q E →
      ∃ t, PSs (cxOf (L2.CX P w) P w K mg base N qual scope g cdv A outer s H E) body t ∧ t { nx := fun _ H' => Q .non H', rt := Q } (start N vs) H) : FnG P w K mg base (k + 1) kf g sp := by
  intro A outer s H us vs Q E f spf hr e0 rv Ff hsp
  obtain ⟨fd, F⟩ := F
  obtain ⟨oc, od, dV, kV, doc, pm, an, cdv, ct, osl, rfl, lk, hcd, hD, hK⟩ := id F.ex
  have hl := len _ _ _ _ _ _ hsp
  have b := F.bindsN hb s us (e0.mod.kin.keeps fun b o e => (e0.bs b o e).1) (by rw [List.append_nil, ← rv.length]; exact hl)
  rw [List.append_nil] at b
  exact run_ofS (N := N) (ps := ps) lk hcd S hr e0 b rv hl fun hr' => h cdv A outer s H vs Q E f spf Ff hr' hsp
/-- .. its code object told -/
theorem fnrT {spg : Sp} {f : Addr} (p : He.Defn) (hp : He.fAd K p = f) (F : ∃ fd, FunD K x qual params body scope [] [] f fd) (S : FnScope N ps scope) (hb : BindsN x qual params body scope ps) (len : ∀ vs H Q E, spg vs H Q E → vs.length = ps.length)
    (h : ∀ (cdv : Value) (A : Around) (outer : List Env) (s : Shared) (H : Hp) (vs : List V) (Q : VK) (E : XK), cdv = .ref (He.cT K p).1 → Room k (A.deeper (envOfC qual scope s.heap.objs.size f cdv)) → spg vs H Q E →
      ∃ t, PSs (cxOf (L2.CX P w) P w K mg base N qual scope f cdv A outer s H E) body t ∧ t { nx := fun _ H' => Q .non H', rt := Q } (start N vs) H) : FnR P w K mg base (L2.CX P w) (k + 1) f spg := by
  obtain ⟨fd, F⟩ := F
  obtain ⟨oc, od, dV, kV, doc, pm, an, cdv, ct, osl, rfl, lk, hcd, hD, hK⟩ := id F.ex
  have hc : cdv = .ref (He.cT K p).1 := by
    obtain ⟨c, rfl⟩ := He.codeIn_ref hcd
    have e := He.codeOf_eq (p := p) (by rw [hp]; exact lk) rfl
    show Value.ref c = .ref (He.codeOf K p)
    rw [e]
  intro A outer s H us vs Q E hr e0 rv hsp
  have hl := len _ _ _ _ hsp
  have b := F.bindsN hb s us (e0.mod.kin.keeps fun b o e => (e0.bs b o e).1) (by rw [List.append_nil, ← rv.length]; exact hl)
  rw [List.append_nil] at b
  exact run_ofS (N := N) (ps := ps) lk hcd S hr e0 b rv hl fun hr' => h cdv A outer s H vs Q E hc hr' hsp
end
/-! ### the lambda as a function made here -/
/-- the words of a lambda made in X, as those of a nested def without a body -/
abbrev lamF (X : Cx) (params : Arguments) (scope : Scope) (c' : Addr) : NdefX.NF := ⟨"<lambda>", X.env.qual ++ "<lambda>", params, [], scope, cloFrom X.env.cells scope.names [], c'⟩
abbrev lamX (X : Cx) (N : List Str) (params : Arguments) (scope : Scope) (f c' : Addr) (A : Around) (outer : List Env) (s : Shared) (H : Hp) (E : XK) : Cx :=
  NdefX.ncx (L2.CX X.prog X.w) X.prog X.w X.K X.mg X.base N (lamF X params scope c') f A outer s H E
theorem cells_on {cl : List (Str × Addr)} {fr : List Str} {ws : List (Option V)} {fs : List Addr} {h h1 : Heap} {H H1 : Hp} (C : NdefX.CellsAt cl fr ws h H) (u : Un fs [] H H1 h h1) : NdefX.CellsAt cl fr ws h1 H1 := by
  have mv : ∀ {c : Addr} {v : Option Value}, H c = none → h.IsCell c v → h1.IsCell c v ∧ H1 c = none := fun {c v} n z => by
    obtain ⟨ob, e, d⟩ := z
    obtain ⟨sl, e1⟩ := u.any e n (fun m => nomatch m)
    exact ⟨⟨_, e1, d⟩, u.free c ob e n (fun m => nomatch m)⟩
  refine ⟨C.len, fun y c e => ?_, C.inj, fun i y e => ?_⟩
  · obtain ⟨n, v, z⟩ := C.all y c e
    exact ⟨(mv n z).2, v, (mv n z).1⟩
  · obtain ⟨c, e1, k⟩ := C.has i y e
    exact ⟨c, e1, fun v ev => let ⟨u1, r, z⟩ := k v ev; ⟨u1, r, (mv (C.all y c e1).1 z).1⟩⟩
/-- what the lambda promises -/
def spLam (c' : Addr) (q : Str) (n : Nat) (N : List Str) (ws : List (Option V)) (tb : XK → TE) : Sp := fun vs H Q E => vs.length = n ∧ H c' = some (CodeO c' q) ∧ tb E (NdefX.startF N vs ws) H Q
section
variable {X : Cx} {pins : List (Addr × Obj)} {σ : L2.St} {H : Hp} {s : Shared} {N ps fr : List Str} {js : List Nat}
theorem lam_fnS {f c' : Addr} {pm ctv : Value} {params : Arguments} {body : Expr} {scope : Scope} {k : Nat} {tb : XK → TE} (I : Inv X pins σ H s) (S : NdefX.NScope N ps fr scope)
    (hfree : ∀ y ∈ scope.names, y.2 = .free → X.env.scope.names.lookup y.1 = some .cell ∨ X.env.scope.names.lookup y.1 = some .free) (hjs : js.map (fun j => X.N[j]?) = fr.map some)
    (made : s.heap.get? f = some (PySem.W.kla_obj "<lambda>" (X.env.qual ++ "<lambda>") params body scope (cloFrom X.env.cells scope.names []) pm c' ctv)) (untr : H f = none) (nofr : f ∉ frs X.stack)
    (hbind : ∀ us : List Value, us.length = ps.length → bindArgs (PySem.W.kla_fn "<lambda>" (X.env.qual ++ "<lambda>") params body scope (cloFrom X.env.cells scope.names []) pm (.ref c') ctv) ⟨us, []⟩ = pure (ps.zip us))
    (hbody : ∀ (A : Around) (outer : List Env) (s : Shared) (H : Hp) (E : XK), Room k (A.deeper (NdefX.envF (lamF X params scope c') f s.heap.objs.size)) → PE (lamX X N params scope f c' A outer s H E) body (tb E)) :
    FnS X.prog X.w X.K X.mg X.base X.stack s H (k + 1) f (spLam c' (X.env.qual ++ "<lambda>") ps.length N (js.map (NdefX.slotAt σ)) tb) := by
  have cs := NdefX.cells_of I (NdefX.Caps.made I.ok hfree (fun y hy => PySem.mem_of_lookup (S.frk y hy)) hjs)
  have stays : ∀ (t : Shared) (G : Hp), Un (frs X.stack) [] H G s.heap t.heap → t.heap.get? f = some (PySem.W.kla_obj "<lambda>" (X.env.qual ++ "<lambda>") params body scope (cloFrom X.env.cells scope.names []) pm c' ctv) := fun t G u => u.keep f _ made untr nofr (fun m => nomatch m)
  refine ⟨fun t G u => ⟨_, _, _, _, stays t G u⟩, fun A outer' t G us vs Q E hr e0 u rv ⟨nv, hc, rd⟩ => ?_⟩
  obtain ⟨⟨oc, cv, tok, c1, c2, c3⟩, _, _⟩ := e0.hok c' _ hc
  refine PySem.W.kla_callFunE hr.depth (stays t G u) rfl S.co S.gen rfl ⟨c', oc, cv, tok, rfl, c1, c2, c3⟩ ?_
  rw [hbind us (by rw [← rv.length]; exact nv)]
  refine wpAny_pure (wpAny_newFunctionEnv S.nocell (fun ⟨n, _⟩ hy => S.par n (List.of_mem_zip hy).1) (fun hp hns hsb => ⟨(e0.mod.nolimit.keeps fun b o e => (e0.bs b o e).1).fresh _ hsb, ?_⟩) S.kind)
  have old : ∀ b o, t.heap.get? b = some o → hp.get? b = some o := fun b o e => hsb.extBut b o (Nat.ne_of_lt (Heap.lt_size e)) (Heap.get?_push_of_some _ e)
  have J := NdefX.inv_startN (CX := L2.CX X.prog X.w) (F := lamF X params scope c') (f := f) (E := E) (tk := t.toks + (ps.zip us).length) S hr.hd e0 nv rv (cells_on cs u) hns old
  exact PySem.W.kla_codeExpr (wpAny_mono ((hbody A outer' t G E (hr.deeper _)).run [] _ _ G Q J rd) (fun v t' ⟨w', G', J', r', q⟩ => ⟨w', G', J'.os, J'.bare, J'.base, J'.hok, r', q⟩) fun _ _ z => z)
end
/-! ### g(lambda: ..), g(e, lambda: ..) -/
def tLamG (T : List (Addr × Str)) (sp : Addr → Sp → Sp) (q : Str) (n : Nat) (N : List Str) (js : List Nat) (tb : XK → TE) (E : XK) (t : TA) : TE := fun σ H Q => t σ H fun vs H0 => Tabs T H0 ∧
  ∀ f c' H1, ExtN H0 H1 → Tabs T H1 → H1 f = none → H1 c' = some (CodeO c' q) → sp f (spLam c' q n N (js.map (NdefX.slotAt σ)) tb) (vs ++ [.ref f]) H1 Q E
/-- what the maker of a lambda must have -/
structure LamOk (X : Cx) (T : List (Addr × Str)) (c P : Addr) (params : Arguments) (body : Expr) (scope : Scope) (N ps fr : List Str) (js : List Nat) : Prop where
  TB : TabB X.base X.mg c P
  code : X.env.code = .ref c
  mem : (P, X.env.qual ++ "<lambda>") ∈ T
  one : ∀ p ∈ T, p.1 = P → p.2 = X.env.qual ++ "<lambda>"
  ns : NdefX.NScope N ps fr scope
  free : ∀ y ∈ scope.names, y.2 = .free → X.env.scope.names.lookup y.1 = some .cell ∨ X.env.scope.names.lookup y.1 = some .free
  caps : js.map (fun j => X.N[j]?) = fr.map some
  dflt : defaultsOf params X.env = ([], [])
  bind : ∀ (q : Str) (cl : List (Str × Addr)) (pm cv ctv : Value) (us : List Value), us.length = ps.length → bindArgs (PySem.W.kla_fn "<lambda>" q params body scope cl pm cv ctv) ⟨us, []⟩ = pure (ps.zip us)
theorem free_by {sc scope : Scope} (h : (scope.names.all fun y => !decide (y.2 = .free) || (decide (sc.names.lookup y.1 = some .cell) || decide (sc.names.lookup y.1 = some .free))) = true) : ∀ y ∈ scope.names, y.2 = .free → sc.names.lookup y.1 = some .cell ∨ sc.names.lookup y.1 = some .free := fun y hy e => by
  have z := List.all_eq_true.mp h y hy
  rw [e] at z
  simpa using z
section
variable {X : Cx} {T : List (Addr × Str)} {x : Str} {g c P : Addr} {k kg : Nat} {sp : Addr → Sp → Sp} {params : Arguments} {body : Expr} {scope : Scope} {tb : XK → TE} {p lpos pos : Pos} {E : XK} {N ps fr : List Str} {js : List Nat} {e : Expr} {te : TE}
theorem g_run {pins : List (Addr × Obj)} {σ : L2.St} {H : Hp} {s : Shared} {Q : VK} {us : List Value} {vs : List V} {f : Addr} {spf : Sp} (G : FnG X.prog X.w X.K X.mg X.base kg k g sp) (hr : Room kg X.A) (hx : Passes (L2.CX X.prog X.w) X E) (I : Inv X pins σ H s) (r : Vals vs us) (Ff : FnS X.prog X.w X.K X.mg X.base X.stack s H k f spf) (h : sp f spf vs H Q E) :
    wpAny (model X.prog X.w) X.A (call (.ref g) us) (EP X pins σ Q) X.xe s :=
  wpAny_call (codeAny_mono (G X.A X.stack s H us vs Q E f spf hr I.env0 r Ff h) fun r s2 hq => match r, hq with
    | .error e, hq => hx pins σ H s e s2 I hq
    | .ok (.ret _), hq => I.after hq
    | .ok .next, hq => False.elim hq
    | .ok .brk, hq => False.elim hq
    | .ok .cont, hq => False.elim hq)
/-- the lambda made, then what follows -/
theorem lam_made {pins : List (Addr × Obj)} {σ : L2.St} {H : Hp} {s : Shared} {E2 : Value → Shared → Prop} {Q2 : Value → Shared → Prop} (L : LamOk X T c P params body scope N ps fr js) (I : Inv X pins σ H s) (hT : Tabs T H)
    (hbody : ∀ (A : Around) (outer : List Env) (s : Shared) (H : Hp) (E : XK) (f c' : Addr), Room k (A.deeper (NdefX.envF (lamF X params scope c') f s.heap.objs.size)) → PE (lamX X N params scope f c' A outer s H E) body (tb E))
    (h : ∀ (f c' : Addr) (H1 : Hp) (s1 : Shared), Inv X pins σ H1 s1 → ExtN H H1 → Tabs T H1 → H1 f = none → H1 c' = some (CodeO c' (X.env.qual ++ "<lambda>")) → FnS X.prog X.w X.K X.mg X.base X.stack s1 H1 (k + 1) f (spLam c' (X.env.qual ++ "<lambda>") ps.length N (js.map (NdefX.slotAt σ)) tb) → Q2 (.ref f) s1) :
    wpAny (model X.prog X.w) X.A (eval (.Lambda params body scope lpos) X.env) Q2 E2 s := by
  have has : ∀ y ∈ scope.names, y.2 = .free → ∃ c, X.env.cells.lookup y.1 = some c := fun y hy e => (L.free y hy e).elim (fun z => I.ok.has _ (.inl z)) fun z => I.ok.has _ (.inr z)
  exact lam_make2 I L.TB L.code L.mem L.one hT L.dflt has fun f c' pm ctv H1 s1 J eN T1 made untr nofr co => h f c' H1 s1 J eN T1 untr co (lam_fnS J L.ns L.free L.caps made untr nofr (fun us hl => L.bind _ _ _ _ _ us hl) fun A outer t G E2 r2 => hbody A outer t G E2 f c' r2)
theorem pe_lam1 (G : FnG X.prog X.w X.K X.mg X.base kg (k + 1) g sp) (hr : Room kg X.A) (hk : PySem.W.keepIn X.K (.ref g) = true) (hg : Gl X x) (hm : X.mg x = some (.ref g)) (hx : Passes (L2.CX X.prog X.w) X E) (L : LamOk X T c P params body scope N ps fr js)
    (hbody : ∀ (A : Around) (outer : List Env) (s : Shared) (H : Hp) (E : XK) (f c' : Addr), Room k (A.deeper (NdefX.envF (lamF X params scope c') f s.heap.objs.size)) → PE (lamX X N params scope f c' A outer s H E) body (tb E))
    (hdb : (x == ("__debug__" : Str)) = false := by decide) : PE X (.Call (.Name x p) [.Lambda params body scope lpos] [] pos) (tLamG T sp (X.env.qual ++ "<lambda>") ps.length N js tb E tNil) :=
  ⟨fun pins s σ H Q I ⟨hT, h⟩ => wpAny_Call_Name_kw (ld_glob I hg hm (PySem.W.callWith_K (h₀ := X.base) I.ok.mod.kin hk (Calls.spliced_cons (rest := backTo pos (starEach [] X.env)) (lam_made L I hT hbody fun f c' H1 s1 J eN T1 untr co Ff =>
    Calls.spliced_nil ⟨J.kIn, g_run (us := [.ref f]) (vs := [.ref f]) G hr hx J (.cons rfl .nil) Ff (h f c' H1 eN T1 untr co)⟩)) (by rfl) (by rfl)) hdb)⟩
theorem pe_lam2 (G : FnG X.prog X.w X.K X.mg X.base kg (k + 1) g sp) (hr : Room kg X.A) (hk : PySem.W.keepIn X.K (.ref g) = true) (hg : Gl X x) (hm : X.mg x = some (.ref g)) (hx : Passes (L2.CX X.prog X.w) X E) (he : PE X e te) (L : LamOk X T c P params body scope N ps fr js)
    (hbody : ∀ (A : Around) (outer : List Env) (s : Shared) (H : Hp) (E : XK) (f c' : Addr), Room k (A.deeper (NdefX.envF (lamF X params scope c') f s.heap.objs.size)) → PE (lamX X N params scope f c' A outer s H E) body (tb E))
    (hdb : (x == ("__debug__" : Str)) = false := by decide) (hst : starEach [e, .Lambda params body scope lpos] X.env = (false, eval e X.env) :: starEach [.Lambda params body scope lpos] X.env := by rfl) (hpl : (backTo pos (starEach [.Lambda params body scope lpos] X.env)).any (·.1) = false := by rfl) :
    PE X (.Call (.Name x p) [e, .Lambda params body scope lpos] [] pos) (tLamG T sp (X.env.qual ++ "<lambda>") ps.length N js tb E (tCons te tNil)) := by
  refine ⟨fun pins s σ H Q I h => wpAny_Call_Name_kw (ld_glob I hg hm (PySem.W.callWith_K (h₀ := X.base) I.ok.mod.kin hk ?_ hst hpl) hdb)⟩
  rw [hst]
  exact Calls.spliced_cons (rest := backTo pos (starEach [.Lambda params body scope lpos] X.env)) (thn (he.run pins s σ H _ I h) fun u s1 ⟨v, H0, I0, rv, hT, h1⟩ => Calls.spliced_cons (rest := backTo pos (starEach [] X.env)) (lam_made L I0 hT hbody fun f c' H1 s2 J eN T1 untr co Ff =>
    Calls.spliced_nil ⟨J.kIn, g_run (us := [u, .ref f]) (vs := [v, .ref f]) G hr hx J (.cons rv (.cons rfl .nil)) Ff (h1 f c' H1 eN T1 untr co)⟩))
end
/-! ### the call of what was handed -/
def tCallF (f : Addr) (i : Nat) (sp : Sp) (E : L2.St → XK) (t : TA) : TE := fun σ H Q => σ[i]? = some (some (.ref f)) ∧ t σ H fun vs H1 => sp vs H1 Q (E σ)
section
variable {X : Cx} {f : Addr} {k i : Nat} {sp : Sp} {a : Str} {p1 p2 : Pos} {E : L2.St → XK} {e : Expr} {es : List Expr} {t : TA}
theorem f_run {pins : List (Addr × Obj)} {σ : L2.St} {H : Hp} {s : Shared} {Q : VK} {us : List Value} {vs : List V} (F : FnS X.prog X.w X.K X.mg X.base X.outer X.s_0 X.H_0 k f sp) (hex : X.ex = []) (hr : Room k X.A) (hx : ∀ σ, PassesAt (L2.CX X.prog X.w) X σ (E σ)) (I : Inv X pins σ H s) (r : Vals vs us) (h : sp vs H Q (E σ)) :
    wpAny (model X.prog X.w) X.A (call (.ref f) us) (EP X pins σ Q) X.xe s :=
  wpAny_call (codeAny_mono (F.run X.A X.stack s H us vs Q (E σ) hr I.env0 (hex ▸ I.base) r h) fun r s2 hq => match r, hq with
    | .error e, hq => hx σ pins H s e s2 I hq
    | .ok (.ret _), hq => I.after hq
    | .ok .next, hq => False.elim hq
    | .ok .brk, hq => False.elim hq
    | .ok .cont, hq => False.elim hq)
/-- the name of what was handed, read -/
theorem f_name {pins : List (Addr × Obj)} {σ : L2.St} {H : Hp} {s : Shared} {R : Value → Shared → Prop} (I : Inv X pins σ H s) (hs : σ[i]? = some (some (.ref f))) (hN : X.N[i]? = some a) (hv : Vis X.env.scope a) (hd : (a == ("__debug__" : Str)) = false) (hcd : (a == ("__classdict__" : Str)) = false)
    (h : ∀ s1, Inv X pins σ H s1 → R (.ref f) s1) : wpAny (model X.prog X.w) X.A (eval (.Name a p1) X.env) R X.xe s :=
  thn ((pe_var (pos := p1) (i := i) hN hv hd hcd).run pins s σ H (fun v H1 => v = .ref f ∧ H1 = H) I ⟨.ref f, hs, rfl, rfl⟩) fun u s1 ⟨v, H1, J, rv, e1, e2⟩ => by
    subst e1 e2
    have e3 : u = Value.ref f := rv
    rw [e3]
    exact h s1 J
theorem pe_callF0 (F : FnS X.prog X.w X.K X.mg X.base X.outer X.s_0 X.H_0 k f sp) (hr : Room k X.A) (hx : ∀ σ, PassesAt (L2.CX X.prog X.w) X σ (E σ)) (hN : X.N[i]? = some a) (hv : Vis X.env.scope a) (hex : X.ex = [] := by rfl)
    (hd : (a == ("__debug__" : Str)) = false := by decide) (hcd : (a == ("__classdict__" : Str)) = false := by decide) : PE X (.Call (.Name a p1) [] [] p2) (tCallF f i sp E tNil) :=
  ⟨fun pins s σ H Q I ⟨hs, h⟩ => wpAny_Call_Name_kw (f_name I hs hN hv hd hcd fun s1 J => PySem.W.callWith_F0 (F.at_ s1 H (hex ▸ J.base)) (f_run (us := []) (vs := []) F hex hr hx J .nil h))⟩
theorem pe_callF (F : FnS X.prog X.w X.K X.mg X.base X.outer X.s_0 X.H_0 k f sp) (hr : Room k X.A) (hx : ∀ σ, PassesAt (L2.CX X.prog X.w) X σ (E σ)) (hN : X.N[i]? = some a) (hv : Vis X.env.scope a) (ha : PA X (e :: es) t) (hex : X.ex = [] := by rfl)
    (hd : (a == ("__debug__" : Str)) = false := by decide) (hcd : (a == ("__classdict__" : Str)) = false := by decide)
    (he : starEach (e :: es) X.env = (false, eval e X.env) :: starEach es X.env := by rfl) (hpl : (backTo p2 (starEach es X.env)).any (·.1) = false := by rfl) : PE X (.Call (.Name a p1) (e :: es) [] p2) (tCallF f i sp E t) :=
  ⟨fun pins s σ H Q I ⟨hs, h⟩ => wpAny_Call_Name_kw (f_name I hs hN hv hd hcd fun s1 J => PySem.W.callWith_F (F.at_ s1 H (hex ▸ J.base)) (thn (ha.run p2 pins s1 σ H _ J h) fun us s2 ⟨vs, H2, J2, rv, q2⟩ => ⟨F.at_ s2 H2 (hex ▸ J2.base), f_run F hex hr hx J2 rv q2⟩) he hpl)⟩
end
theorem passAtL {X : Cx} {E : XK} (h : Passes (L2.CX X.prog X.w) X E) : ∀ σ : L2.St, PassesAt (L2.CX X.prog X.w) X σ ((fun _ => E) σ) := fun σ pins H s e s' I c => h pins σ H s e s' I c
theorem passF {X : Cx} {E₁ : Value → Shared → Prop} {F : XK} (hs : X.stack = X.env :: X.outer) (hf : X.env.frame = some X.env.locals) (hex : X.ex = [])
    (hx : X.xe = fun e s' => wpAny (model X.prog X.w) X.A (leaving X.env e) (fun _ s'' => L2.CX X.prog X.w X.outer X.H_0 X.s_0 F e s'') E₁ s') : Passes (L2.CX X.prog X.w) X F :=
  passes_call (L2.takes_of hs hf hex hx) fun _ _ _ _ h => h
end LaX
namespace OwX
open PySem PySem.Spec PyProof.Rows L2
/-- o(e, ..), o an instance of C -/
def tCallOK (C : Addr) (sp : Sp) (E : XK) (tf : TE) (t : TA) : TE := fun σ H Q => tf σ H fun y H1 => ∃ a, y = V.ref a ∧ t σ H1 fun vs H2 => (∃ dx fs, H2 a = some (.ins C dx fs)) ∧ sp (V.ref a :: vs) H2 Q E
theorem pe_callOK {X : Cx} {k : Nat} {C g : Addr} {sp : Sp} {E : XK} {fe e : Expr} {es : List Expr} {tf : TE} {t : TA} {pos : Pos} (hf : PE X fe tf) (c : StX.CallO X.K C g) (F : FnR X.prog X.w X.K X.mg X.base (L2.CX X.prog X.w) k g sp) (hr : Room k X.A) (hx : Passes (L2.CX X.prog X.w) X E) (ha : PA X (e :: es) t)
    (ht : eval (.Call fe (e :: es) [] pos) X.env = (do callWith pos (← eval fe X.env) [] (backTo pos (starEach (e :: es) X.env)) (backToKw pos (keywordEach [] X.env))) := by rfl)
    (he : starEach (e :: es) X.env = (false, eval e X.env) :: starEach es X.env := by rfl) (hpl : (backTo pos (starEach es X.env)).any (·.1) = false := by rfl) : PE X (.Call fe (e :: es) [] pos) (tCallOK C sp E tf t) := by
  refine ⟨fun pins s σ H Q I h => Call_ (thn (hf.run pins s σ H _ I h) fun u s1 ⟨y, H1, J, ry, a, ey, q⟩ => ?_) ht⟩
  subst ey
  have eu : u = Value.ref a := ry
  rw [eu]
  refine StX.callO_with (thn (ha.run pos pins s1 σ H1 _ J q) fun us s2 ⟨vs, H2, J2, r, hi, q2⟩ => ?_) he hpl
  obtain ⟨ox, od, hj, hd⟩ := StX.insC_at J2 (.inr hi)
  exact ⟨⟨C, ox, od, hj, hd⟩, StX.run_callO c F hr hx J2 (.inr hi) r q2⟩
end OwX

set_option Elab.async false
set_option linter.all false
set_option maxRecDepth 100000
set_option maxHeartbeats 0
/-! zip of a tuple and a list. -/
namespace ZM
open PySem RZ
section
variable {prog : Program} {w : World} {A : Around} {E : Value → Shared → Prop} {s : Shared} {z TI TO i1 i2 l1 l2 : Addr} {k1 k2 : Nat} {xs ys : Array Value} {x y a b : Value}
/-- what the zip object and its parts are at a turn: i1 walks the tuple l1, i2 the list l2 -/
structure At (h : Heap) (z TI TO i1 i2 l1 l2 : Addr) (k1 k2 : Nat) (f0 a b : Value) : Prop where
  z : IsZip h z TI TO f0
  ti : IsPair h TI (.ref i1) (.ref i2)
  to : IsPair h TO a b
  p : h.IsTupleIter i1 l1 k1
  q : h.IsListIter i2 l2 k2
theorem item (D : ZipApart z TI TO i1 i2 l1 l2) (Z : At s.heap z TI TO i1 i2 l1 l2 k1 k2 .none a b) (tl : s.heap.IsTuple l1 xs) (ll : s.heap.IsList l2 ys) (ex : xs[k1]? = some x) (ey : ys[k2]? = some y) {Q : Value → Shared → Prop}
    (k : ∀ g, At g z TI TO i1 i2 l1 l2 (k1 + 1) (k2 + 1) (rawInt s.heap.objs.size) x y → IsPair g s.heap.objs.size x y → (∀ c o, c ≠ z → c ≠ TO → c ≠ i1 → c ≠ i2 → s.heap.get? c = some o → g.get? c = some o) → Q (.ref s.heap.objs.size) { s with heap := g }) :
    wpAny (model prog w) A (Builtin.«zip.__next__» ⟨[.ref z], []⟩) (fun fin t => ∃ v, fin = .done (.ret v) ∧ Q v t) E s := by
  show wpAny _ _ (field (.ref z) 2 >>= _) _ _ s
  refine wpAny_bind (wpAny_field Z.z rfl (x := .bool false) rfl ?_)
  show wpAny _ _ (field (.ref z) 3 >>= _) _ _ s
  refine wpAny_bind (wpAny_field Z.z rfl (x := .ref TI) rfl (wpAny_bind (wpAny_seqItems Z.ti rfl ?_)))
  show wpAny _ _ (Builtin.SmallTypes.ownedTupleIsFree (.ref z) >>= _) _ _ s
  refine wpAny_bind ?_
  unfold Builtin.SmallTypes.ownedTupleIsFree
  refine wpAny_bind (wpAny_field Z.z rfl (x := .none) rfl (wpAny_pure ?_))
  simp only [if_true]
  refine wpAny_bind (wpAny_rule (wpAny_bind (wpAny_field Z.z rfl (x := .ref TO) rfl (wpAny_bind (wpAny_setField_rec Z.z (by simp) fun g1 zr1 m1 => wpAny_bind ?_)))))
  have z1 : IsZip g1 z TI TO .ellipsis := zr1
  simp only [List.zipIdx_cons, List.zipIdx_nil, List.forIn_cons, List.forIn_nil]
  -- the tuple's item
  refine wpAny_bind (wpAny_bind (wpAny_onRaise ?_))
  show wpAny _ _ (Builtin.SmallTypes.nextOf (.ref i1) >>= _) _ _ { s with heap := g1 }
  refine wpAny_bind (nextOf_tuple_item (Z.p.extBut m1.extBut D.i1z) (tl.extBut m1.extBut D.l1z) ex fun g2 p2 m2 => wpAny_pure ?_)
  have t2 : IsPair g2 TO a b := m2.extBut _ _ D.TOi1 (m1.extBut _ _ D.TOz Z.to)
  refine wpAny_bind (wpAny_seqItems t2 rfl (wpAny_bind (wpAny_updateSeq_pair t2 fun g3 tr3 m3 => wpAny_bind (wpAny_letGo (wpAny_pure ?_)))))
  have t3 : IsPair g3 TO x b := tr3
  -- the list's item
  refine wpAny_bind (wpAny_bind (wpAny_onRaise ?_))
  show wpAny _ _ (Builtin.SmallTypes.nextOf (.ref i2) >>= _) _ _ { s with heap := g3 }
  have qs := ((Z.q.extBut m1.extBut D.i2z).extBut m2.extBut D.i12.symm).extBut m3.extBut D.TOi2.symm
  have ls := ((ll.extBut m1.extBut D.l2z).extBut m2.extBut D.l2i1).extBut m3.extBut D.l2TO
  refine wpAny_bind (wpAny_nextOf_list_item qs ls ey fun g4 q4 m4 => wpAny_pure ?_)
  have t4 : IsPair g4 TO x b := m4.extBut _ _ D.TOi2 t3
  refine wpAny_bind (wpAny_seqItems t4 rfl (wpAny_bind (wpAny_updateSeq_pair t4 fun g5 tr5 m5 => wpAny_bind (wpAny_letGo (wpAny_pure (wpAny_pure ?_))))))
  have t5 : IsPair g5 TO x y := tr5
  refine wpAny_bind (wpAny_seqItems t5 rfl (wpAny_bind (wpAny_newTuple ?_)))
  -- behind both
  have sz : g5.objs.size = s.heap.objs.size := by rw [m5.1, m4.1, m3.1, m2.1, m1.1]
  have thr : ∀ c o, c ≠ z → c ≠ TO → c ≠ i1 → c ≠ i2 → s.heap.get? c = some o → g5.get? c = some o := fun c o n1 n2 n3 n4 e =>
    m5.extBut _ _ n2 (m4.extBut _ _ n4 (m3.extBut _ _ n2 (m2.extBut _ _ n3 (m1.extBut _ _ n1 e))))
  have z5 : IsZip g5 z TI TO .ellipsis := m5.extBut _ _ D.TOz.symm (m4.extBut _ _ D.i2z.symm (m3.extBut _ _ D.TOz.symm (m2.extBut _ _ D.i1z.symm z1)))
  have p5 : g5.IsTupleIter i1 l1 (k1 + 1) := ((p2.extBut m3.extBut D.TOi1.symm).extBut m4.extBut D.i12).extBut m5.extBut D.TOi1.symm
  have q5 : g5.IsListIter i2 l2 (k2 + 1) := q4.extBut m5.extBut D.TOi2.symm
  have zlt : z < g5.objs.size := Heap.lt_size z5
  show wpAny _ _ (Builtin.SmallTypes.ownedTupleHandOut (.ref z) (.ref g5.objs.size) >>= _) _ _ _
  refine wpAny_bind ?_
  unfold Builtin.SmallTypes.ownedTupleHandOut
  have z6 : IsZip (g5.push { cls := .type "tuple", data := .seq #[x, y] }) z TI TO .ellipsis := Heap.get?_push_of_some _ z5
  refine wpAny_bind (wpAny_setField_rec z6 (by simp) fun g7 zr7 m7 => ?_)
  have z7 : IsZip g7 z TI TO (rawInt g5.objs.size) := zr7
  refine wpAny_setField_rec z7 (by simp) fun g8 zr8 m8 => wpAny_pure ⟨_, rfl, ?_⟩
  have z8 : IsZip g8 z TI TO (rawInt g5.objs.size) := zr8
  have fin : ∀ c o, c ≠ z → g5.get? c = some o → g8.get? c = some o := fun c o n e => m8.extBut _ _ n (m7.extBut _ _ n (Heap.get?_push_of_some _ e))
  have n8 : IsPair g8 g5.objs.size x y := m8.extBut _ _ (Nat.ne_of_gt zlt) (m7.extBut _ _ (Nat.ne_of_gt zlt) (Heap.get?_push_size _ rfl))
  rw [sz] at z8 n8
  show Q (.ref g5.objs.size) _
  rw [sz]
  exact k g8 ⟨z8, fin _ _ D.TIz (thr _ _ D.TIz D.TITO D.TIi1 D.TIi2 Z.ti), fin _ _ D.TOz t5, p5.at fun o e => fin _ o D.i1z e, q5.at fun o e => fin _ o D.i2z e⟩ n8 fun c o n1 n2 n3 n4 e => fin c o n1 (thr c o n1 n2 n3 n4 e)
theorem ends (hh : A.handled = none) (D : ZipApart z TI TO i1 i2 l1 l2) (Z : At s.heap z TI TO i1 i2 l1 l2 k1 k2 .none a b) (tl : s.heap.IsTuple l1 xs) (ll : s.heap.IsList l2 ys) (en : xs[k1]? = none ∨ ys[k2]? = none) {Q : Fin → Shared → Prop}
    (k : ∀ g e, (∀ c o, c ≠ z → c ≠ TO → c ≠ i1 → c ≠ i2 → s.heap.get? c = some o → g.get? c = some o) → (∃ o, g.get? e = some o ∧ o.cls = .type "StopIteration") → E (.ref e) { s with heap := g }) :
    wpAny (model prog w) A (Builtin.«zip.__next__» ⟨[.ref z], []⟩) Q E s := by
  show wpAny _ _ (field (.ref z) 2 >>= _) _ _ s
  refine wpAny_bind (wpAny_field Z.z rfl (x := .bool false) rfl ?_)
  show wpAny _ _ (field (.ref z) 3 >>= _) _ _ s
  refine wpAny_bind (wpAny_field Z.z rfl (x := .ref TI) rfl (wpAny_bind (wpAny_seqItems Z.ti rfl ?_)))
  show wpAny _ _ (Builtin.SmallTypes.ownedTupleIsFree (.ref z) >>= _) _ _ s
  refine wpAny_bind ?_
  unfold Builtin.SmallTypes.ownedTupleIsFree
  refine wpAny_bind (wpAny_field Z.z rfl (x := .none) rfl (wpAny_pure ?_))
  simp only [if_true]
  refine wpAny_bind (wpAny_rule (wpAny_bind (wpAny_field Z.z rfl (x := .ref TO) rfl (wpAny_bind (wpAny_setField_rec Z.z (by simp) fun g1 zr1 m1 => wpAny_bind ?_)))))
  have z1 : IsZip g1 z TI TO .ellipsis := zr1
  simp only [List.zipIdx_cons, List.zipIdx_nil, List.forIn_cons, List.forIn_nil]
  refine wpAny_bind (wpAny_bind (wpAny_onRaise ?_))
  show wpAny _ _ (Builtin.SmallTypes.nextOf (.ref i1) >>= _) _ _ { s with heap := g1 }
  have ps := Z.p.extBut m1.extBut D.i1z
  have ts := tl.extBut m1.extBut D.l1z
  have isz : ∀ {g : Heap} {e : Addr} {oe : Obj}, IsZip g z TI TO .ellipsis → g.get? e = some oe → oe.cls = .type "StopIteration" → e ≠ z := fun {g e oe} hz ho hc q => by
    rw [q, hz] at ho
    cases ho
    simp at hc
  cases ex : xs[k1]? with
  | none =>
    refine wpAny_bind (nextOf_tuple_end hh ps ts ex fun g2 e m2 he => ?_)
    obtain ⟨oe, ho, hc⟩ := he
    have z2 : IsZip g2 z TI TO .ellipsis := m2 _ _ D.i1z.symm z1
    exact wpAny_setField_rec z2 (by simp) fun g3 _ m3 => k g3 e (fun c o n1 _ n3 _ q => m3.extBut _ _ n1 (m2 _ _ n3 (m1.extBut _ _ n1 q))) ⟨oe, m3.extBut _ _ (isz z2 ho hc) ho, hc⟩
  | some x =>
    have ey : ys[k2]? = none := en.elim (fun q => by rw [ex] at q; cases q) id
    refine wpAny_bind (nextOf_tuple_item ps ts ex fun g2 p2 m2 => wpAny_pure ?_)
    have t2 : IsPair g2 TO a b := m2.extBut _ _ D.TOi1 (m1.extBut _ _ D.TOz Z.to)
    refine wpAny_bind (wpAny_seqItems t2 rfl (wpAny_bind (wpAny_updateSeq_pair t2 fun g3 tr3 m3 => wpAny_bind (wpAny_letGo (wpAny_pure ?_)))))
    refine wpAny_bind (wpAny_bind (wpAny_onRaise ?_))
    show wpAny _ _ (Builtin.SmallTypes.nextOf (.ref i2) >>= _) _ _ { s with heap := g3 }
    have qs := ((Z.q.extBut m1.extBut D.i2z).extBut m2.extBut D.i12.symm).extBut m3.extBut D.TOi2.symm
    have ls := ((ll.extBut m1.extBut D.l2z).extBut m2.extBut D.l2i1).extBut m3.extBut D.l2TO
    refine wpAny_bind (wpAny_nextOf_list_end hh qs ls ey fun g4 e m4 he => ?_)
    obtain ⟨oe, ho, hc⟩ := he
    have z4 : IsZip g4 z TI TO .ellipsis := m4 _ _ D.i2z.symm (m3.extBut _ _ D.TOz.symm (m2.extBut _ _ D.i1z.symm z1))
    exact wpAny_setField_rec z4 (by simp) fun g5 _ m5 => k g5 e (fun c o n1 n2 n3 n4 q => m5.extBut _ _ n1 (m4 _ _ n4 (m3.extBut _ _ n2 (m2.extBut _ _ n3 (m1.extBut _ _ n1 q))))) ⟨oe, m5.extBut _ _ (isz z4 ho hc) ho, hc⟩
theorem next_item (D : ZipApart z TI TO i1 i2 l1 l2) (Z : At s.heap z TI TO i1 i2 l1 l2 k1 k2 .none a b) (tl : s.heap.IsTuple l1 xs) (ll : s.heap.IsList l2 ys) (ex : xs[k1]? = some x) (ey : ys[k2]? = some y) {Q : Option Value → Shared → Prop}
    (k : ∀ g, At g z TI TO i1 i2 l1 l2 (k1 + 1) (k2 + 1) (rawInt s.heap.objs.size) x y → IsPair g s.heap.objs.size x y → (∀ c o, c ≠ z → c ≠ TO → c ≠ i1 → c ≠ i2 → s.heap.get? c = some o → g.get? c = some o) → Q (some (.ref s.heap.objs.size)) { s with heap := g }) :
    wpAny (model prog w) A (pyNext (.ref z)) Q E s := by
  have ty : s.TypeIs (.ref z) "zip" := ⟨_, Z.z, rfl⟩
  unfold pyNext
  exact wpAny_bind (wpAny_attempt (wpAny_callSpecial?_slot (name := Str.ofString "__next__") ty F.slot_zip_next (wpAny_call_entry F.slot_zip_next ty F.entry_zip_next (item D Z tl ll ex ey fun g Z2 n m => wpAny_pure (k g Z2 n m)) (F.args_zip_next_1 _))))
theorem next_ends (hh : A.handled = none) (D : ZipApart z TI TO i1 i2 l1 l2) (Z : At s.heap z TI TO i1 i2 l1 l2 k1 k2 .none a b) (tl : s.heap.IsTuple l1 xs) (ll : s.heap.IsList l2 ys) (en : xs[k1]? = none ∨ ys[k2]? = none) {Q : Option Value → Shared → Prop}
    (k : ∀ g, (∀ c o, c ≠ z → c ≠ TO → c ≠ i1 → c ≠ i2 → s.heap.get? c = some o → g.get? c = some o) → Q none { s with heap := g }) : wpAny (model prog w) A (pyNext (.ref z)) Q E s := by
  have ty : s.TypeIs (.ref z) "zip" := ⟨_, Z.z, rfl⟩
  unfold pyNext
  refine wpAny_bind (wpAny_attempt (wpAny_callSpecial?_slot (name := Str.ofString "__next__") ty F.slot_zip_next (wpAny_call_entry F.slot_zip_next ty F.entry_zip_next (ends (A := A.in1) (show A.in1.handled = none from hh) D Z tl ll en fun g e m ⟨o, ho, hc⟩ => ?_) (F.args_zip_next_1 _))))
  exact wpAny_bind (wpAny_isInstance (T := "StopIteration") (b := true) ⟨o, ho, hc⟩ isSubtype_stop (wpAny_pure (k _ m)))
/-- the heap with the new zip object, and what it is made of -/
abbrev h1 (h : Heap) (l1 : Addr) : Heap := h.push { cls := .type "tuple_iterator", data := .fields #[.ref l1, .int 0 0] }
abbrev h2 (h : Heap) (l1 l2 : Addr) : Heap := (h1 h l1).push { cls := .type "list_iterator", data := .fields #[.ref l2, .int 0 0] }
abbrev h3 (h : Heap) (l1 l2 : Addr) : Heap := (h2 h l1 l2).push { cls := .type "tuple", data := .seq #[.ref h.objs.size, .ref (h1 h l1).objs.size] }
abbrev h4 (h : Heap) (l1 l2 : Addr) : Heap := (h3 h l1 l2).push { cls := .type "tuple", data := .seq #[.none, .none] }
abbrev h5 (h : Heap) (l1 l2 : Addr) : Heap := (h4 h l1 l2).push { cls := .type "zip", data := .fields #[.none, .bool false, .bool false, .ref (h2 h l1 l2).objs.size, .ref (h3 h l1 l2).objs.size] }
end
theorem meets_new (l1 l2 : Addr) (xs ys : Array Value) :
    Meets (Builtin.«zip.__new__» ⟨[.type "zip", .ref l1, .ref l2], []⟩) (fun _ R s => s.heap.IsTuple l1 xs ∧ s.heap.IsList l2 ys ∧ R (.ok (.ret (.ref (h4 s.heap l1 l2).objs.size))) { s with heap := h5 s.heap l1 l2 }) :=
  .of_wp fun prog w A R s h => by
    obtain ⟨hp, g, d, tk, os⟩ := s
    obtain ⟨e1, e2, h⟩ := h
    have hsub := sub_zip
    have L1 : Heap.IsTuple (Shared.heap ⟨hp, g, d, tk, os⟩) l1 xs := e1
    have L2 : Heap.IsList (Shared.heap ⟨hp.push { cls := .type "tuple_iterator", data := .fields #[.ref l1, .int 0 0] }, g, d, tk, os⟩) l2 ys := Heap.IsList.push e2 _
    wp_walk using wpAny_pyIter_tuple L1, wpAny_pyIter_list L2
    exact ⟨_, rfl, h⟩
section
variable {prog : Program} {w : World} {A : Around} {E : Value → Shared → Prop} {s : Shared}
theorem made {l1 l2 : Addr} {xs ys : Array Value} {Q : Value → Shared → Prop} (tl : s.heap.IsTuple l1 xs) (ll : s.heap.IsList l2 ys)
    (k : ∀ g, At g (s.heap.objs.size + 4) (s.heap.objs.size + 2) (s.heap.objs.size + 3) s.heap.objs.size (s.heap.objs.size + 1) l1 l2 0 0 .none .none .none → (∀ c o, s.heap.get? c = some o → g.get? c = some o) → Q (.ref (s.heap.objs.size + 4)) { s with heap := g }) :
    wpAny (model prog w) A (call (.type "zip") [.ref l1, .ref l2]) Q E s := by
  refine callType_new F.called_zip (by decide) (F.typeCall_zip_2 _ _) (F.newCall_zip_2 _ _) (fun obj => F.args_object_init_3 obj _ _) F.entry_zip_new (meets_new l1 l2 xs ys) ⟨tl, ll, ?_⟩
  generalize hn : s.heap.objs.size = n at *
  have n1 : (h1 s.heap l1).objs.size = n + 1 := by rw [Heap.size_push, hn]
  have n2 : (h2 s.heap l1 l2).objs.size = n + 2 := by rw [Heap.size_push, n1]
  have n3 : (h3 s.heap l1 l2).objs.size = n + 3 := by rw [Heap.size_push, n2]
  have n4 : (h4 s.heap l1 l2).objs.size = n + 4 := by rw [Heap.size_push, n3]
  have o5 : (h5 s.heap l1 l2).get? (h4 s.heap l1 l2).objs.size = some _ := Heap.get?_push_size _ rfl
  have o4 : (h5 s.heap l1 l2).get? (h3 s.heap l1 l2).objs.size = some _ := Heap.get?_push_of_some _ (Heap.get?_push_size _ rfl)
  have o3 : (h5 s.heap l1 l2).get? (h2 s.heap l1 l2).objs.size = some _ := Heap.get?_push_of_some _ (Heap.get?_push_of_some _ (Heap.get?_push_size _ rfl))
  have o2 : (h5 s.heap l1 l2).get? (h1 s.heap l1).objs.size = some _ := Heap.get?_push_of_some _ (Heap.get?_push_of_some _ (Heap.get?_push_of_some _ (Heap.get?_push_size _ rfl)))
  have o1 : (h5 s.heap l1 l2).get? s.heap.objs.size = some _ := Heap.get?_push_of_some _ (Heap.get?_push_of_some _ (Heap.get?_push_of_some _ (Heap.get?_push_of_some _ (Heap.get?_push_size _ rfl))))
  show _ ∧ _
  rw [n2, n3, n4] at o5
  rw [hn, n1, n2] at o3
  rw [n3] at o4
  rw [n1] at o2
  rw [hn] at o1
  rw [n4]
  exact ⟨⟨_, o5, rfl⟩, k _ ⟨o5, o3, o4, ⟨_, o1, rfl, rfl⟩, ⟨_, o2, rfl, rfl⟩⟩ fun c o e => Heap.get?_push_of_some _ (Heap.get?_push_of_some _ (Heap.get?_push_of_some _ (Heap.get?_push_of_some _ (Heap.get?_push_of_some _ e))))⟩
end
/-! ### over the layer -/
open PySem.Spec PyProof.Rows L2
/-- the tuple at a, the list at b -/
def ItM (K : PySem.W.Frag) (a b : Addr) : It :=
  ⟨fun i H => ∃ (xs ys : List V) (x y : V), SqT K H a xs ∧ SqL K H b ys ∧ xs[i]? = some x ∧ ys[i]? = some y,
    fun i H v H' => ∃ T x y, v = .ref T ∧ H T = none ∧ H' = upd H T (.tup [x, y]) ∧ (∀ xs, SqT K H a xs → xs[i]? = some x) ∧ ∀ ys, SqL K H b ys → ys[i]? = some y,
    fun i H => ∃ xs ys : List V, SqT K H a xs ∧ SqL K H b ys ∧ (xs.length ≤ i ∨ ys.length ≤ i)⟩
theorem turnM {P : Program} {w : World} {K : PySem.W.Frag} {elts : List Expr} {kk : Nat} {tpos : Pos} {a b z TI TO i1 i2 : Addr} (D : ZipApart z TI TO i1 i2 a b) :
    Turn P w K (.Tuple elts kk tpos) (ItM K a b) [z, TI, TO, i1, i2] z (fun i h => ∃ x y, At h z TI TO i1 i2 a b i i .none x y) where
  mem := by simp
  obj := fun i h ⟨x, y, Z⟩ c hc => by
    obtain ⟨o1, e1, _, d1⟩ := Z.p
    obtain ⟨o2, e2, _, d2⟩ := Z.q
    simp only [List.mem_cons, List.not_mem_nil, or_false] at hc
    rcases hc with e | e | e | e | e <;> rw [e]
    · exact ⟨_, Z.z, fun v q => nomatch q⟩
    · exact ⟨_, Z.ti, fun v q => nomatch q⟩
    · exact ⟨_, Z.to, fun v q => nomatch q⟩
    · exact ⟨o1, e1, fun v q => by rw [d1] at q; cases q⟩
    · exact ⟨o2, e2, fun v q => by rw [d2] at q; cases q⟩
  keep := fun i h h' ⟨x, y, Z⟩ k => ⟨x, y, k z (by simp) _ Z.z, k TI (by simp) _ Z.ti, k TO (by simp) _ Z.to, Z.p.at fun o q => k i1 (by simp) o q, Z.q.at fun o q => k i2 (by simp) o q⟩
  item := by
    intro X hP hw hK hc i pins s σ H E I hf ⟨x0, y0, Z⟩ ⟨xs, ys, x, y, qx, qy, hx, hy⟩
    subst hP hw hK
    obtain ⟨t1, r1, p1, _⟩ := I.tuple qx
    obtain ⟨t2, r2, p2, _⟩ := I.list qy
    obtain ⟨u1, g1, ru1⟩ := r1.get hx
    obtain ⟨u2, g2, ru2⟩ := r2.get hy
    have zl : z < s.heap.objs.size := Heap.lt_size Z.z
    refine next_item D Z p1 p2.isList (x := u1) (y := u2) (by simpa using g1) (by simpa using g2) fun g Z2 n m => ⟨_, rfl, wpAny_letOwnedTupleGo_zip (s := { s with heap := g }) Z2.z fun g' z' sb => ?_⟩
    have nT : g'.get? s.heap.objs.size = some { cls := .type "tuple", data := .seq #[u1, u2] } := (sb.2 _ (Nat.ne_of_gt zl)).trans n
    have new : ObjOk X.prog X.w (upd H s.heap.objs.size (.tup [x, y])) g' s.heap.objs.size (.tup [x, y]) := ⟨by show 2 ≤ sizeLine; decide, [u1, u2], .cons ru1 (.cons ru2 .nil), ⟨_, nT, rfl, _, rfl⟩⟩
    have J : Inv X pins σ (upd H s.heap.objs.size (.tup [x, y])) { s with heap := g' } := I.turnedNew (t' := s.toks) (ch := [z, TI, TO, i1, i2])
      (fun c o hb q => (sb.2 c (fun e => hb (by simp [e]))).trans (m c o (fun e => hb (by simp [e])) (fun e => hb (by simp [e])) (fun e => hb (by simp [e])) (fun e => hb (by simp [e])) q)) hf (Nat.le_refl _) new
    refine ⟨.ref s.heap.objs.size, _, J, rfl, ⟨_, x, y, rfl, I.hok.fresh (Nat.le_refl _), rfl, fun l hl => by rw [I.tuple_inj hl qx]; exact hx, fun l hl => by rw [I.list_inj hl qy]; exact hy⟩, ⟨u1, u2, z', (sb.2 _ D.TIz).trans Z2.ti, (sb.2 _ D.TOz).trans Z2.to, Z2.p.at fun o q => (sb.2 _ D.i1z).trans q, Z2.q.at fun o q => (sb.2 _ D.i2z).trans q⟩, fun c hm => ?_⟩
    have lt : c < s.heap.objs.size := by
      simp only [List.mem_cons, List.not_mem_nil, or_false] at hm
      obtain ⟨_, e1, _⟩ := Z.p
      obtain ⟨_, e2, _⟩ := Z.q
      rcases hm with e | e | e | e | e <;> rw [e]
      · exact zl
      · exact Heap.lt_size Z.ti
      · exact Heap.lt_size Z.to
      · exact Heap.lt_size e1
      · exact Heap.lt_size e2
    rw [upd_ne (Nat.ne_of_lt lt)]
    exact (hf c hm).1
  done := by
    intro X hP hw hK hc i pins s σ H E I hf ⟨x0, y0, Z⟩ ⟨xs, ys, qx, qy, hend⟩
    subst hP hw hK
    obtain ⟨t1, r1, p1, _⟩ := I.tuple qx
    obtain ⟨t2, r2, p2, _⟩ := I.list qy
    have n1 := r1.length
    have n2 := r2.length
    have he : t1.toArray[i]? = none ∨ t2.toArray[i]? = none := hend.elim (fun q => .inl (by simp; omega)) fun q => .inr (by simp; omega)
    exact next_ends (I.ok.hd hc) D Z p1 p2.isList he fun g m => ⟨rfl, I.turnedL (t' := s.toks) (ch := [z, TI, TO, i1, i2]) (fun c o hb q => m c o (fun e => hb (by simp [e])) (fun e => hb (by simp [e])) (fun e => hb (by simp [e])) (fun e => hb (by simp [e])) q) hf⟩
  self := fun A i s Q E ⟨x, y, Z⟩ h => wpAny_pyIter_zip Z.z h
/-- a tuple at a; at b a tuple or a list -/
def iZipM (K : PySem.W.Frag) (ta : TA) : TI := fun σ H R => ta σ H fun vs H1 => ∃ a b xs ys, vs = [.ref a, .ref b] ∧ SqT K H1 a xs ∧ ((SqT K H1 b ys ∧ R (RZ.ItzT K a b) H1) ∨ (SqL K H1 b ys ∧ R (ItM K a b) H1))
theorem pi_zipM {K : PySem.W.Frag} {X : Cx} {e e2 : Expr} {ta : TA} {p pos tpos : Pos} {elts : List Expr} {kk : Nat} (hg : Gl X "zip") (hm : X.mg "zip" = none) (ha : PA X [e, e2] ta) (h : X.K = K := by rfl)
    (hs : starEach [e, e2] X.env = (false, eval e X.env) :: starEach [e2] X.env := by rfl) (hpl : (backTo pos (starEach [e2] X.env)).any (·.1) = false := by rfl) :
    PI X (.Tuple elts kk tpos) (.Call (.Name "zip" p) [e, e2] [] pos) (iZipM K ta) := by
  subst h
  refine ⟨fun pins s σ H R I h => Call_ (ld_blt I hg hm PyProof.Rows.boot_zip (PyProof.Rows.callWith_type1 (thn (ha.run pos pins s σ H _ I h) fun us s1 ⟨vs, H1, J, r1, a, b, xs, ys, ex, qx, q⟩ => ?_) hs hpl))⟩
  subst ex
  obtain ⟨u1, u2, rfl, ru1, ru2⟩ := vals2 r1
  obtain rfl : u1 = Value.ref a := ru1
  obtain rfl : u2 = Value.ref b := ru2
  have fresh : ∀ c, c ∈ [s1.heap.objs.size + 4, s1.heap.objs.size + 2, s1.heap.objs.size + 3, s1.heap.objs.size, s1.heap.objs.size + 1] → FpOk X pins H1 c := fun c hc => by
    have le : s1.heap.objs.size ≤ c := by
      simp only [List.mem_cons, List.not_mem_nil, or_false] at hc
      omega
    exact J.fpOk le (J.hok.fresh le)
  obtain ⟨t1, r1', p1, _⟩ := J.tuple qx
  obtain ⟨o1, ho1, _⟩ := id p1
  rcases q with ⟨qy, q⟩ | ⟨qy, q⟩
  · obtain ⟨t2, r2', p2, _⟩ := J.tuple qy
    obtain ⟨o2, ho2, _⟩ := id p2
    refine RZ.call_zipT (show s1.heap.IsTuple a t1.toArray from p1) (show s1.heap.IsTuple b t2.toArray from p2) fun g gz gti gto g1 g2 _ kp => wpAny_pyIter_zip gz ?_
    have ap := PySem.W.ktu_apart s1.heap.objs.size a b (Heap.lt_size ho1) (Heap.lt_size ho2)
    generalize s1.heap.objs.size = n at gz gti gto g1 g2 fresh ap ⊢
    exact ⟨n + 4, [n + 4, n + 2, n + 3, n, n + 1], fun i h => IsZip h (n + 4) (n + 2) (n + 3) .none ∧ IsPair h (n + 2) (.ref n) (.ref (n + 1)) ∧ (∃ x y, IsPair h (n + 3) x y) ∧ h.IsTupleIter n a i ∧ h.IsTupleIter (n + 1) b i, RZ.ItzT X.K a b, H1, rfl, J.kept (t' := s1.toks) kp, RZ.turn_zipT ap, ⟨gz, gti, ⟨_, _, gto⟩, g1, g2⟩, fresh, q⟩
  · obtain ⟨t2, r2', p2, _⟩ := J.list qy
    refine made (show s1.heap.IsTuple a t1.toArray from p1) p2.isList fun g Z kp => wpAny_pyIter_zip Z.z ?_
    have ap := PySem.W.ktu_apart s1.heap.objs.size a b (Heap.lt_size ho1) p2.lt
    generalize s1.heap.objs.size = n at Z fresh ap ⊢
    exact ⟨n + 4, [n + 4, n + 2, n + 3, n, n + 1], fun i h => ∃ x y, At h (n + 4) (n + 2) (n + 3) n (n + 1) a b i i .none x y, ItM X.K a b, H1, rfl, J.kept (t' := s1.toks) kp, turnM ap, ⟨_, _, Z⟩, fresh, q⟩
end ZM
namespace GW
open PySem PySem.Spec PyProof.Rows L2 OwX
theorem zipM {K : PySem.W.Frag} {X : Cx} {e e2 : Expr} {t : TA} {p pos tpos : Pos} {elts : List Expr} {kk : Nat} (hg : Gl X "zip") (hm : X.mg "zip" = none) (ha : PA X [e, e2] t) (h : X.K = K := by rfl)
    (hs : starEach [e, e2] X.env = (false, eval e X.env) :: starEach [e2] X.env := by rfl) (hpl : (backTo pos (starEach [e2] X.env)).any (·.1) = false := by rfl) :
    PI X (.Tuple elts kk tpos) (.Call (.Name "zip" p) [e, e2] [] pos) (ZM.iZipM K t) := ZM.pi_zipM hg hm ha h hs hpl
end GW
namespace Rd
open PySem PySem.Spec PyProof.Rows L2 OwX
section
variable {K : PySem.W.Frag} {a b : Addr} {xs ys : List V}
theorem walk_zipM {n : Nat} (hn : n = min xs.length ys.length) : Walk (ZM.ItM K a b) n (fun H => SqT K H a xs ∧ SqL K H b ys) (YPair (fun i => xs[i]?) (fun i => ys[i]?)) := by
  subst hn
  refine ⟨fun i _ hi q => ?_, fun _ q => ⟨xs, ys, q.1, q.2, by omega⟩, fun i H v H' _ q ⟨T, x, z, h1, h2, h3, h4, h5⟩ => ⟨T, x, z, h1, h2, h3, h4 xs q.1, h5 ys q.2⟩⟩
  have h1 : i < xs.length := by omega
  have h2 : i < ys.length := by omega
  exact ⟨xs, ys, xs[i], ys[i], q.1, q.2, by simp [h1], by simp [h2]⟩
theorem lcZM {g : TG} {tt : TT} {te : TE} {ta : TA} {vs : List Nat} {σ : L2.St} {H : Hp} {Q : VK} (k : ta σ H fun vs' H1 => ∃ a b xs ys, vs' = [.ref a, .ref b] ∧ SqT K H1 a xs ∧ ((SqT K H1 b ys ∧ LcB (RZ.ItzT K a b) g tt te vs σ H1 Q) ∨ (SqL K H1 b ys ∧ LcB (ZM.ItM K a b) g tt te vs σ H1 Q))) : tLc (ZM.iZipM K ta) g tt te vs σ H Q := k
end
end Rd

set_option Elab.async false
set_option linter.all false
set_option maxRecDepth 100000
set_option maxHeartbeats 0
/-! Forms: the class, its errors. -/
namespace Lv
open PySem PySem.Spec PyProof.Rows L2 OwX
local macro_rules | `(tactic| walk_at "side") => `(tactic| first
  | exact (show CMul _ _ from .inl ⟨by decide, by decide⟩) | exact (show CMul _ _ from .inr ⟨by decide, by decide⟩) | exact (show CMul _ _ from .inl ⟨by omega, by omega⟩) | exact (show CMul _ _ from .inr ⟨by omega, by omega⟩)
  | exact (show CPow _ _ from ⟨by decide, by decide, by decide⟩)
  | exact (show CDiv _ _ from ⟨by decide, by decide⟩) | exact (show CDiv _ _ from ⟨by omega, by omega⟩)
  | exact (show (0 : Int) < _ by decide) | exact (show (0 : Int) < _ by omega) | exact (show ¬ (_ : Int) = 0 by decide) | exact (show ¬ (_ : Int) = 0 by omega) | assumption)
local macro_rules | `(tactic| walk_at "hp") => `(tactic| first
  | assumption | exact upd_same
  | (refine' SqL.of ?h1; (case h1 => walk_at "hp")) | (refine' SqT.of ?h1; (case h1 => walk_at "hp"))
  | (refine' Rd.new_app ?h1 ?h2; (case h1 => assumption); (case h2 => walk_at "hp"))
  | (refine' Rd.upd_app ?h1 ?h2; (case h1 => first | assumption | exact Ne.symm (by assumption)); (case h2 => walk_at "hp"))
  | (refine' Rd.ext_app ?h1 ?h2; (case h1 => assumption); (case h2 => walk_at "hp"))
  | (refine' Rd.ext_L ?h1 ?h2; (case h1 => assumption); (case h2 => walk_at "hp"))
  | (refine' Rd.ext_T ?h1 ?h2; (case h1 => assumption); (case h2 => walk_at "hp")))
local macro_rules | `(tactic| walk_at "go") => `(tactic| repeat (first
  | with_reducible refine Rd.con ?_
  | ((with_reducible refine' Rd.var ?h1 ?_); (case h1 => rfl))
  | with_reducible refine Rd.op ?_
  | with_reducible refine Rd.un ?_
  | with_reducible refine Rd.i0 ?_
  | with_reducible refine Rd.iu ?_
  | ((with_reducible refine Rd.iC ?h1 ?_); (case h1 => walk_at "side"))
  | with_reducible refine Rd.nil ?_
  | with_reducible refine Rd.cons ?_
  | with_reducible refine Rd.cb ?_
  | with_reducible refine Rd.int1 ?_
  | with_reducible refine Rd.intB ?_
  | with_reducible refine Rd.maxI ?_
  | with_reducible refine Rd.minI ?_
  | with_reducible refine Rd.blx ?_
  | with_reducible refine Rd.tst ?_
  | with_reducible refine Rd.tb_ ?_
  | with_reducible refine Rd.not_ ?_
  | with_reducible refine Rd.and_ ?_
  | with_reducible refine Rd.or_ ?_
  | with_reducible refine Rd.ifx ?_
  | with_reducible refine Rd.chain ?_
  | with_reducible refine Rd.andV ?_
  | with_reducible refine Rd.orV ?_
  | with_reducible refine Rd.notV ?_
  | with_reducible refine Rd.seq ?_
  | with_reducible refine Rd.asg ?_
  | with_reducible refine Rd.name ?_
  | with_reducible refine Rd.ret ?_
  | with_reducible refine Rd.ifS ?_
  | with_reducible refine Rd.next ?_
  | with_reducible refine Rd.drop ?_
  | with_reducible refine Rd.gsub ?_
  | with_reducible refine Rd.cr ?_
  | with_reducible refine Rd.crX ?_
  | with_reducible refine Rd.ixOS ?_
  | ((with_reducible refine' Rd.xfv ?h1 ?h2 ?h3 ?_); (case h1 => walk_at "hp"); (case h2 => rfl); (case h3 => rfl))
  | ((with_reducible refine' Rd.bmLv ?h1 ?h2 ?_); (case h1 => rfl); (case h2 => walk_at "hp"))
  | ((with_reducible refine' Rd.countL ?h1 ?_); (case h1 => walk_at "hp"))
  | ((with_reducible refine' Rd.sumL ?h1 ?_); (case h1 => walk_at "hp"))
  | ((with_reducible refine' Rd.listL ?h1 ?_); (case h1 => walk_at "hp"))
  | ((with_reducible refine' Rd.listT ?h1 ?_); (case h1 => walk_at "hp"))
  | with_reducible refine Rd.isNn ?_
  | with_reducible refine Rd.isNr ?_
  | with_reducible refine Rd.notNn ?_
  | with_reducible refine Rd.notNr ?_
  | with_reducible refine Rd.isB ?_
  | with_reducible refine Rd.notBtt ?_
  | with_reducible refine Rd.notBff ?_
  | with_reducible refine Rd.notBtf ?_
  | with_reducible refine Rd.notBft ?_
  | with_reducible refine Rd.notB ?_
  | with_reducible refine Rd.smeth ?_
  | with_reducible refine Rd.sl ?_
  | with_reducible refine Rd.po0 ?_
  | with_reducible refine Rd.poI ?_
  | with_reducible refine Rd.ixi ?_
  | with_reducible refine Rd.par ?_
  | with_reducible refine Rd.par2 ?_
  | with_reducible refine Rd.mkRS ?_
  | with_reducible refine Rd.callRS ?_
  | with_reducible refine Rd.mk ?_
  | with_reducible refine Rd.mkX ?_
  | with_reducible refine Rd.sF ?_
  | with_reducible refine Rd.dIn ?_
  | with_reducible refine Rd.dNi ?_
  | with_reducible refine Rd.dctL ?_
  | with_reducible refine Rd.dctT ?_
  | with_reducible refine Rd.forE ?_
  | with_reducible refine Rd.lc2T ?_
  | with_reducible refine Rd.lc2L ?_
  | with_reducible refine Rd.lc2R ?_
  | with_reducible refine Rd.inR2 ?_
  | with_reducible refine Rd.inR1 ?_
  | with_reducible refine Rd.inT ?_
  | with_reducible refine Rd.inL ?_
  | with_reducible refine Rd.lcT ?_
  | with_reducible refine Rd.lcL ?_
  | with_reducible refine Rd.lcR ?_
  | with_reducible refine Rd.forT ?_
  | with_reducible refine Rd.forL ?_
  | with_reducible refine Rd.forR ?_
  | with_reducible refine Rd.yes ?_
  | with_reducible refine iteT ?_
  | with_reducible refine iteF ?_
  | with_reducible refine Rd.iteNT ?_
  | with_reducible refine Rd.iteNF ?_
  | with_reducible refine Rd.tup ?_
  | with_reducible refine Rd.lst ?_
  | ((with_reducible refine Rd.eqs ?h1 ?_); (case h1 => rfl))
  | ((with_reducible refine Rd.nes ?h1 ?_); (case h1 => rfl))
  | ((with_reducible refine' Rd.ixL ?h1 ?h2 ?_); (case h1 => walk_at "hp"); (case h2 => first | rfl | assumption))
  | ((with_reducible refine' Rd.ixT ?h1 ?h2 ?_); (case h1 => walk_at "hp"); (case h2 => first | rfl | assumption))
  | ((with_reducible refine' Rd.lenL ?h1 ?_); (case h1 => walk_at "hp"))
  | ((with_reducible refine' Rd.lenT ?h1 ?_); (case h1 => walk_at "hp"))
  | ((with_reducible refine' Rd.setL ?h1 ?h2 ?_); (case h1 => walk_at "hp"); (case h2 => first | rfl | assumption))))
section
variable {base : Heap} {P : Program} {w : World} {mg : Str → Option Value} {K : PySem.W.Frag}
theorem ok_NoIndex (T : Tx K mg) : ∃ fd, FnOk P w K mg base (L2.CX P w) 1 (a_NoIndex_init K) fd P_NoIndex_init (sp_ex (He.ga K "NoIndex") "index") ∧ Binds K fd P_NoIndex_init [] := by
  refine fnok T.d_NoIndex_init sc_NoIndex_init (fun _ _ _ _ _ _ us hl => match us, hl with | [_, _], _ => rfl) (fun vs H Q E h => ?_) (fun cdv A outer s H vs Q E hr h => ?_)
  · obtain ⟨a, v, rfl, _⟩ := h
    rfl
  · obtain ⟨a, v, rfl, ha, k⟩ := h
    refine ⟨_, pss_one (ps_ost (pv 0) (pv 1)), ?_⟩
    exact ⟨_, rfl, _, rfl, a, _, rfl, T.x_NoIndex.ox, T.n_NoIndex_index, .inl ⟨ha, fun dx hd ne => k dx hd ne⟩⟩
/-! ### the class Form -/
abbrev CF (K : PySem.W.Frag) : Addr := He.ga K "Form"
def fsF (q : Addr) : List (Str × V) := [("parts", .ref q)]
theorem fsF_parts (q : Addr) : (fsF q).lookup ("parts" : Str) = some (.ref q) := by unfold fsF; simp [List.lookup]
def FormAt (K : PySem.W.Frag) (H : Hp) (a : Addr) (xs : List Int) : Prop := ∃ dx q, H a = some (.ins (CF K) dx (fsF q)) ∧ H q = some (.tup (xs.map V.int))
theorem FormAt.ext {H H' : Hp} {a : Addr} {xs : List Int} (h : FormAt K H a xs) (e : Ext H H') : FormAt K H' a xs := by
  obtain ⟨dx, q, h1, h2⟩ := h
  exact ⟨dx, q, e _ _ h1, e _ _ h2⟩
/-- e.parts -/
theorem fld_parts (T : Tx K mg) {σ : L2.St} {H : Hp} {n : Nat} {a : Addr} {xs : List Int} {Q : VK} (h : FormAt K H a xs) (e : σ[n]? = some (some (.ref a))) (k : ∀ q, H q = some (.tup (xs.map V.int)) → Q (.ref q) H) : tFld K (tVar n) "parts" σ H Q := by
  obtain ⟨dx, q, h1, h2⟩ := h
  exact ⟨.ref a, e, a, CF K, dx, fsF q, _, rfl, h1, T.c_Form, T.n_Form_parts, fsF_parts q, k q h2⟩
def sp_Form_init (K : PySem.W.Frag) : Sp := fun vs H Q _ => ∃ (x dx a : Addr) (xs : List Int), vs = [.ref x, .ref a] ∧ H x = some (.ins (CF K) dx []) ∧ (H a = some (.lst (xs.map V.int)) ∨ H a = some (.tup (xs.map V.int))) ∧
  ∀ H', (∀ b o, b ≠ x → H b = some o → H' b = some o) → FormAt K H' x xs → Q .non H'
theorem ok_Form_init (T : Tx K mg) : FnR P w K mg base (L2.CX P w) 1 (a_Form_init K) (sp_Form_init K) := by
  refine fnr T.d_Form_init sc_Form_init (fun _ _ _ _ _ _ us hl => match us, hl with | [_, _], _ => rfl) (fun vs H Q E h => ?_) (fun cdv A outer s H vs Q E hr h => ?_)
  · obtain ⟨x, dx, a, xs, rfl, _⟩ := h
    rfl
  · obtain ⟨x, dx, a, xs, rfl, hx, ha, k⟩ := h
    refine ⟨_, pss_one (ps_fld (pv 0) (pe_callTy (Rd.c_tuple (K := K)) (by rfl) T.f_tuple Rd.bt_tuple (pa_cons (pv 1) pa_nil)) rfl), ?_⟩
    show tCB (Rd.rTupOf K) (tCons (tVar 1) tNil) _ _ _
    walk_at "go"
    rcases ha with ha | ha
    · refine Rd.tupL (SqL.of ha) fun q hq => ?_
      have nx : x ≠ q := ne_of_none hx hq
      refine ⟨_, rfl, x, CF K, dx, [], rfl, by rw [upd_ne nx]; exact hx, T.c_Form, T.n_Form_parts, by decide, ?_⟩
      refine k _ (fun b o ne e => ?_) ⟨dx, q, upd_same, ?_⟩
      · rw [upd_ne ne, upd_ne (ne_of_none e hq)]; exact e
      · rw [upd_ne nx.symm, upd_same]
    · refine Rd.tupT (SqT.of ha) ?_
      have nx : x ≠ a := ne_of hx ha (by intro z; cases z)
      refine ⟨_, rfl, x, CF K, dx, [], rfl, hx, T.c_Form, T.n_Form_parts, by decide, ?_⟩
      refine k _ (fun b o ne e => ?_) ⟨dx, a, upd_same, ?_⟩
      · rw [upd_ne ne]; exact e
      · rw [upd_ne nx.symm]; exact ha
/-- Form(e) -/
theorem mk_form {H : Hp} {a : Addr} {xs : List Int} {Q : VK} {E : XK} (ha : H a = some (.lst (xs.map V.int)) ∨ H a = some (.tup (xs.map V.int))) (k : ∀ x H', Ext H H' → H x = none → FormAt K H' x xs → Q (.ref x) H') :
    Rd.MkR (CF K) (sp_Form_init K) E [.ref a] H Q := by
  intro x dx hx hd ne
  refine ⟨x, dx, a, xs, rfl, upd_same, ?_, fun H' kp F => ⟨rfl, k x H' (fun b o e => kp b o (ne_of_none e hx) ?_) hx F⟩⟩
  · rcases ha with ha | ha
    · exact .inl (by rw [upd_ne (ne_of_none ha hx), upd_ne (ne_of_none ha hd)]; exact ha)
    · exact .inr (by rw [upd_ne (ne_of_none ha hx), upd_ne (ne_of_none ha hd)]; exact ha)
  · rw [upd_ne (ne_of_none e hx), upd_ne (ne_of_none e hd)]; exact e
def sp_Form_len (K : PySem.W.Frag) : Sp := fun vs H Q _ => ∃ (a : Addr) (xs : List Int), vs = [.ref a] ∧ FormAt K H a xs ∧ Q (.int xs.length) H
theorem ok_Form_len (T : Tx K mg) : FnR P w K mg base (L2.CX P w) 1 (a_Form_len K) (sp_Form_len K) := by
  refine fnr T.d_Form_len sc_Form_len (fun _ _ _ _ _ _ us hl => match us, hl with | [_], _ => rfl) (fun vs H Q E h => ?_) (fun cdv A outer s H vs Q E hr h => ?_)
  · obtain ⟨a, xs, rfl, _⟩ := h
    rfl
  · obtain ⟨a, xs, rfl, F, k⟩ := h
    refine ⟨_, pss_one (ps_ret (pe_callB (Rd.c_len (K := K)) (by rfl) T.f_len boot_len (pa_cons (pe_fld (pv 0) rfl) pa_nil))), ?_⟩
    walk_at "go"
    refine fld_parts T F rfl fun q hq => ?_
    walk_at "go"
    rw [List.length_map]
    exact k
def sp_Form_bool (K : PySem.W.Frag) : Sp := fun vs H Q _ => ∃ (a : Addr) (xs : List Int), vs = [.ref a] ∧ FormAt K H a xs ∧ xs.length ≤ 1000 ∧ ∀ H', Ext H H' → Q (.bl (xs.any fun z => z != 0)) H'
theorem ok_Form_bool (T : Tx K mg) : FnR P w K mg base (L2.CX P w) 1 (a_Form_bool K) (sp_Form_bool K) := by
  refine fnr T.d_Form_bool sc_Form_bool (fun _ _ _ _ _ _ us hl => match us, hl with | [_], _ => rfl) (fun vs H Q E h => ?_) (fun cdv A outer s H vs Q E hr h => ?_)
  · obtain ⟨a, xs, rfl, _⟩ := h
    rfl
  · obtain ⟨a, xs, rfl, F, hl, k⟩ := h
    refine ⟨_, pss_one (ps_ret (pe_callB (cr_any rfl) (by rfl) T.f_any Rd.bt_any (pa_cons
      (pe_lc (own := [("part", 1)]) rfl sc_Form_bool.nd (pi_tup (pe_fld (pv 0) rfl)) (blkOk_by (own := [("part", 1)]) (N := N_Form_bool) (sc := defScope s_Form_bool) (by decide +kernel)) (fun _ _ _ _ _ => pg_name (i := 1) sc_Form_bool.nd rfl (Or.inl rfl)) (fun _ _ _ _ _ => pts_nil)
        (fun _ _ _ _ _ => pe_cmpR op_ne (pv 1) pe_int (nomark _))) pa_nil))), ?_⟩
    walk_at "go"
    refine fld_parts T F rfl fun q hq => ?_
    refine ⟨q, rfl, ⟨_, SqT.of hq⟩, fun D hD => ?_⟩
    refine Rd.lcE (emb := V.int) (Rd.walk_tupM (K := K) (a := q)) Rd.yat (by omega) (fun _ => true) (fun z y _ => y = .bl (!decide (V.int z = .int 0))) (fun _ _ _ _ _ h => h) hD (fun H' e => SqT.of (e _ _ hq)) ?_ ?_
    · intro i it H' acc hi e ha Qy Qn ky kn
      walk_at "go"
      refine ⟨rfl, ?_⟩
      walk_at "go"
      exact ky _ _ Rd.ext_rfl rfl rfl
    · intro ys H' e hys pr
      have e2 := Rd.paired_map pr
      rw [List.filter_eq_self.mpr (fun _ _ => rfl)] at e2
      refine ⟨D, xs.map fun z => !decide (V.int z = .int 0), rfl, SqL.of (by rw [hys, e2, List.map_map]; rfl), ?_⟩
      rw [List.any_map]
      have e3 : (xs.any fun z => z != 0) = xs.any (id ∘ fun z => !decide (V.int z = .int 0)) := by
        congr 1; funext z; simp [dec_int]; rfl
      rw [← e3]
      exact k H' e
def sp_Form_getitem (K : PySem.W.Frag) : Sp := fun vs H Q E => ∃ (a : Addr) (xs : List Int) (i : Int), vs = [.ref a, .int i] ∧ FormAt K H a xs ∧
  (∀ (n : Nat) (z : Int), i = n → xs[n]? = some z → Q (.int z) H) ∧ ((i < 0 ∨ (xs.length : Int) ≤ i) → ∀ d, H d = none → E (.ref (He.ga K "NoIndex")) (some d) (upd H d (.xd [("index", .int i)])))
theorem ok_Form_getitem (T : Tx K mg) : FnR P w K mg base (L2.CX P w) 3 (a_Form_getitem K) (sp_Form_getitem K) := by
  obtain ⟨fdN, FN, bN⟩ := ok_NoIndex (P := P) (w := w) (base := base) T
  refine fnr T.d_Form_getitem sc_Form_getitem (fun _ _ _ _ _ _ us hl => match us, hl with | [_, _], _ => rfl) (fun vs H Q E h => ?_) (fun cdv A outer s H vs Q E hr h => ?_)
  · obtain ⟨a, xs, i, rfl, _⟩ := h
    rfl
  · obtain ⟨a, xs, i, rfl, F, k1, k2⟩ := h
    refine ⟨_, pss_cons (ps_if (pt_not (pt_chain op_le op_lt pe_int (pv 1) (pe_callB (Rd.c_len (K := K)) (by rfl) T.f_len boot_len (pa_cons (pe_fld (pv 0) rfl) pa_nil))))
        (pss_one (ps_raise rfl (takes_of rfl rfl rfl rfl) (pmk_oex T.x_NoIndex.ox T.x_NoIndex.it T.x_NoIndex.ti FN hr bN .nil passL rfl T.g_NoIndex (pa_cons (pv 1) pa_nil)))) pss_nil)
      (pss_one (ps_ret (pe_ix ix_tup (pe_fld (pv 0) rfl) (pv 1) (fun _ _ => rfl)))), ?_⟩
    have bad : (i < 0 ∨ (xs.length : Int) ≤ i) → tMkO (He.ga K "NoIndex") (sp_ex (He.ga K "NoIndex") "index") [] (tCons (tVar 1) tNil) (start N_Form_getitem [.ref a, .int i]) H fun cls d H' => E cls d H' := fun c =>
      mk_ex ⟨_, rfl, _, rfl, k2 c⟩ fun R R' m ⟨v, h1, h2⟩ => ⟨v, h1, m _ _ h2⟩
    walk_at "go"
    refine Rd.ited (fun c => ?_) (fun c => ?_)
    · walk_at "go"
      refine fld_parts T F rfl fun q hq => ?_
      walk_at "go"
      rw [List.length_map]
      refine Rd.iten (fun c2 => bad (.inr (by omega))) (fun c2 => ?_)
      walk_at "go"
      refine fld_parts T F rfl fun q hq => ?_
      have hl : i.toNat < xs.length := by omega
      have hat : atI (xs.map V.int) i = some (V.int xs[i.toNat]) := Rd.nat_at (j := i.toNat) (by omega) (by rw [List.getElem?_map, List.getElem?_eq_getElem hl]; rfl)
      walk_at "go"
      exact k1 i.toNat _ (by omega) (List.getElem?_eq_getElem hl)
    · walk_at "go"
      exact bad (.inl (by omega))
def sp_Form_eq (K : PySem.W.Frag) : Sp := fun vs H Q _ => ∃ (a b : Addr) (xs ys : List Int), vs = [.ref a, .ref b] ∧ FormAt K H a xs ∧ FormAt K H b ys ∧ Q (.bl (decide (xs = ys))) H
theorem ok_Form_eq (T : Tx K mg) : FnR P w K mg base (L2.CX P w) 1 (a_Form_eq K) (sp_Form_eq K) := by
  refine fnr T.d_Form_eq sc_Form_eq (fun _ _ _ _ _ _ us hl => match us, hl with | [_, _], _ => rfl) (fun vs H Q E h => ?_) (fun cdv A outer s H vs Q E hr h => ?_)
  · obtain ⟨a, b, xs, ys, rfl, _⟩ := h
    rfl
  · obtain ⟨a, b, xs, ys, rfl, F, G, k⟩ := h
    refine ⟨_, pss_one (ps_ret (pe_and (pe_callB (Rd.c_isi (K := K)) (by rfl) T.f_isinstance Rd.bt_isinstance (pa_cons (pv 1) (pa_cons (pe_glob (v := .ref (CF K)) (by rfl) T.g_Form rfl) pa_nil)))
      (pe_one (pe_cmpR (op_eqD hr.units) (pe_fld (pv 0) rfl) (pe_fld (pv 1) rfl) (nomark _))))), ?_⟩
    walk_at "go"
    obtain ⟨dy, r, h1, h2⟩ := id G
    refine ⟨_, _, _, _, true, rfl, .own _, tyx_ins T.c_Form T.i_Form h1, T.is_Form, ?_⟩
    refine ⟨true, rfl, ?_⟩
    refine Rd.iteb (fun _ => ?_) (fun z => by cases z)
    walk_at "go"
    refine fld_parts T F rfl fun q hq => ?_
    walk_at "go"
    refine fld_parts T G rfl fun q2 hq2 => ?_
    exact Rd.eqD Rd.encTInts (Rd.dp_tints (SqT.of hq)) (Rd.dp_tints (SqT.of hq2)) k
theorem eq_form {H : Hp} {f g : Addr} {xs ys : List Int} {Q : VK} {E : XK} (F : FormAt K H f xs) (G : FormAt K H g ys) (q : Q (.bl (decide (xs = ys))) H) : rOwn2 (CF K) (sp_Form_eq K) E (.ref f) (.ref g) H Q := by
  obtain ⟨dx, q1, h1, _⟩ := id F
  obtain ⟨dy, q2, h2, _⟩ := id G
  exact ⟨f, g, dx, dy, _, _, rfl, rfl, h1, h2, f, g, xs, ys, rfl, F, G, ⟨_, rfl⟩, q⟩
theorem eq_form_t {H : Hp} {f g : Addr} {xs : List Int} {Q : VK} {E : XK} (F : FormAt K H f xs) (G : FormAt K H g xs) (q : Q (.bl true) H) : rOwn2 (CF K) (sp_Form_eq K) E (.ref f) (.ref g) H Q := eq_form F G (by rw [decide_eq_true rfl]; exact q)
theorem eq_form_f {H : Hp} {f g : Addr} {xs ys : List Int} {Q : VK} {E : XK} (F : FormAt K H f xs) (G : FormAt K H g ys) (ne : xs ≠ ys) (q : Q (.bl false) H) : rOwn2 (CF K) (sp_Form_eq K) E (.ref f) (.ref g) H Q := eq_form F G (by rw [decide_eq_false ne]; exact q)
end
end Lv

set_option Elab.async false
set_option linter.all false
set_option maxRecDepth 100000
set_option maxHeartbeats 0
/-! Forms added, subtracted, their value. -/
namespace Rd
open PySem PySem.Spec PyProof.Rows L2 OwX
section
variable {K : PySem.W.Frag} {a b : Addr} {xs ys : List V}
theorem walk_zipT {n : Nat} (hn : n = min xs.length ys.length) : Walk (RZ.ItzT K a b) n (fun H => SqT K H a xs ∧ SqT K H b ys) (YPair (fun i => xs[i]?) (fun i => ys[i]?)) := by
  subst hn
  refine ⟨fun i _ hi q => ?_, fun _ q => ⟨xs, ys, q.1, q.2, by omega⟩, fun i H v H' _ q y => ?_⟩
  · have h1 : i < xs.length := by omega
    have h2 : i < ys.length := by omega
    exact ⟨xs, ys, xs[i], ys[i], q.1, q.2, by simp [h1], by simp [h2]⟩
  · obtain ⟨T, x, z, h1, h2, h3, h4, h5⟩ := y
    exact ⟨T, x, z, h1, h2, h3, h4 xs q.1, h5 ys q.2⟩
/-- a, b = the pair that zip or enumerate made -/
theorem unP {σ : L2.St} {H : Hp} {n m : Nat} {T : Addr} {x y : V} {R : L2.St → Hp → Prop} (k : R ((σ.set n (some x)).set m (some y)) (upd H T (.tup [x, y]))) : gTup K 2 (gCons (gName n) (gCons (gName m) gNil)) (.ref T) σ (upd H T (.tup [x, y])) R :=
  ⟨T, _, rfl, SqT.of upd_same, rfl, _, _, rfl, _, _, rfl, rfl, k⟩
theorem lcZT {g : TG} {tt : TT} {te : TE} {ta : TA} {vs : List Nat} {σ : L2.St} {H : Hp} {Q : VK} (k : ta σ H fun vs' H1 => ∃ a b xs ys, vs' = [.ref a, .ref b] ∧ SqT K H1 a xs ∧ SqT K H1 b ys ∧ LcB (RZ.ItzT K a b) g tt te vs σ H1 Q) (mono : ∀ R R' : List V → Hp → Prop, (∀ v H, R v H → R' v H) → ta σ H R → ta σ H R') : tLc (RZ.iZipA K ta) g tt te vs σ H Q :=
  mono _ _ (fun vs' H1 ⟨a, b, xs, ys, e, h1, h2, h3⟩ => ⟨a, b, xs, ys, e, .inr ⟨h1, h2, h3⟩⟩) k
theorem forZT {g : TG} {tb : TS} {D : Ends} {ta : TA} {σ : L2.St} {H : Hp} (k : ta σ H fun vs' H1 => ∃ a b xs ys, vs' = [.ref a, .ref b] ∧ SqT K H1 a xs ∧ SqT K H1 b ys ∧ ForB (RZ.ItzT K a b) g tb D σ H1) (mono : ∀ R R' : List V → Hp → Prop, (∀ v H, R v H → R' v H) → ta σ H R → ta σ H R') : tFor (RZ.iZipA K ta) g tb D σ H :=
  mono _ _ (fun vs' H1 ⟨a, b, xs, ys, e, h1, h2, h3⟩ => ⟨a, b, xs, ys, e, .inr ⟨h1, h2, h3⟩⟩) k
end
theorem paired_out {α : Type} {f : α → V} : ∀ {xs : List α} {ys : List V}, Paired (fun a y => y = f a) xs ys → ys = xs.map f := fun h => paired_map h
end Rd
namespace Lv
open PySem PySem.Spec PyProof.Rows L2 OwX
local macro_rules | `(tactic| walk_at "side") => `(tactic| first
  | exact (show CMul _ _ from .inl ⟨by decide, by decide⟩) | exact (show CMul _ _ from .inr ⟨by decide, by decide⟩) | exact (show CMul _ _ from .inl ⟨by omega, by omega⟩) | exact (show CMul _ _ from .inr ⟨by omega, by omega⟩)
  | exact (show CPow _ _ from ⟨by decide, by decide, by decide⟩)
  | exact (show CDiv _ _ from ⟨by decide, by decide⟩) | exact (show CDiv _ _ from ⟨by omega, by omega⟩)
  | exact (show (0 : Int) < _ by decide) | exact (show (0 : Int) < _ by omega) | exact (show ¬ (_ : Int) = 0 by decide) | exact (show ¬ (_ : Int) = 0 by omega) | assumption)
local macro_rules | `(tactic| walk_at "hp") => `(tactic| first
  | assumption | exact upd_same
  | (refine' SqL.of ?h1; (case h1 => walk_at "hp")) | (refine' SqT.of ?h1; (case h1 => walk_at "hp"))
  | (refine' Rd.new_app ?h1 ?h2; (case h1 => assumption); (case h2 => walk_at "hp"))
  | (refine' Rd.upd_app ?h1 ?h2; (case h1 => first | assumption | exact Ne.symm (by assumption)); (case h2 => walk_at "hp"))
  | (refine' Rd.ext_app ?h1 ?h2; (case h1 => assumption); (case h2 => walk_at "hp"))
  | (refine' Rd.ext_L ?h1 ?h2; (case h1 => assumption); (case h2 => walk_at "hp"))
  | (refine' Rd.ext_T ?h1 ?h2; (case h1 => assumption); (case h2 => walk_at "hp")))
local macro_rules | `(tactic| walk_at "go") => `(tactic| repeat (first
  | with_reducible refine Rd.con ?_
  | ((with_reducible refine' Rd.var ?h1 ?_); (case h1 => rfl))
  | with_reducible refine Rd.op ?_
  | with_reducible refine Rd.un ?_
  | with_reducible refine Rd.i0 ?_
  | with_reducible refine Rd.iu ?_
  | ((with_reducible refine Rd.iC ?h1 ?_); (case h1 => walk_at "side"))
  | with_reducible refine Rd.nil ?_
  | with_reducible refine Rd.cons ?_
  | with_reducible refine Rd.cb ?_
  | with_reducible refine Rd.int1 ?_
  | with_reducible refine Rd.intB ?_
  | with_reducible refine Rd.maxI ?_
  | with_reducible refine Rd.minI ?_
  | with_reducible refine Rd.blx ?_
  | with_reducible refine Rd.tst ?_
  | with_reducible refine Rd.tb_ ?_
  | with_reducible refine Rd.not_ ?_
  | with_reducible refine Rd.and_ ?_
  | with_reducible refine Rd.or_ ?_
  | with_reducible refine Rd.ifx ?_
  | with_reducible refine Rd.chain ?_
  | with_reducible refine Rd.andV ?_
  | with_reducible refine Rd.orV ?_
  | with_reducible refine Rd.notV ?_
  | with_reducible refine Rd.seq ?_
  | with_reducible refine Rd.asg ?_
  | with_reducible refine Rd.name ?_
  | with_reducible refine Rd.ret ?_
  | with_reducible refine Rd.ifS ?_
  | with_reducible refine Rd.next ?_
  | with_reducible refine Rd.drop ?_
  | with_reducible refine Rd.gsub ?_
  | with_reducible refine Rd.cr ?_
  | with_reducible refine Rd.crX ?_
  | with_reducible refine Rd.ixOS ?_
  | ((with_reducible refine' Rd.xfv ?h1 ?h2 ?h3 ?_); (case h1 => walk_at "hp"); (case h2 => rfl); (case h3 => rfl))
  | ((with_reducible refine' Rd.bmLv ?h1 ?h2 ?_); (case h1 => rfl); (case h2 => walk_at "hp"))
  | ((with_reducible refine' Rd.countL ?h1 ?_); (case h1 => walk_at "hp"))
  | ((with_reducible refine' Rd.sumL ?h1 ?_); (case h1 => walk_at "hp"))
  | ((with_reducible refine' Rd.listL ?h1 ?_); (case h1 => walk_at "hp"))
  | ((with_reducible refine' Rd.listT ?h1 ?_); (case h1 => walk_at "hp"))
  | with_reducible refine Rd.isNn ?_
  | with_reducible refine Rd.isNr ?_
  | with_reducible refine Rd.notNn ?_
  | with_reducible refine Rd.notNr ?_
  | with_reducible refine Rd.isB ?_
  | with_reducible refine Rd.notBtt ?_
  | with_reducible refine Rd.notBff ?_
  | with_reducible refine Rd.notBtf ?_
  | with_reducible refine Rd.notBft ?_
  | with_reducible refine Rd.notB ?_
  | with_reducible refine Rd.smeth ?_
  | with_reducible refine Rd.sl ?_
  | with_reducible refine Rd.po0 ?_
  | with_reducible refine Rd.poI ?_
  | with_reducible refine Rd.ixi ?_
  | with_reducible refine Rd.par ?_
  | with_reducible refine Rd.par2 ?_
  | with_reducible refine Rd.mkRS ?_
  | with_reducible refine Rd.callRS ?_
  | with_reducible refine Rd.mk ?_
  | with_reducible refine Rd.mkX ?_
  | with_reducible refine Rd.sF ?_
  | with_reducible refine Rd.dIn ?_
  | with_reducible refine Rd.dNi ?_
  | with_reducible refine Rd.dctL ?_
  | with_reducible refine Rd.dctT ?_
  | with_reducible refine Rd.forE ?_
  | with_reducible refine Rd.lc2T ?_
  | with_reducible refine Rd.lc2L ?_
  | with_reducible refine Rd.lc2R ?_
  | with_reducible refine Rd.inR2 ?_
  | with_reducible refine Rd.inR1 ?_
  | with_reducible refine Rd.inT ?_
  | with_reducible refine Rd.inL ?_
  | with_reducible refine Rd.lcT ?_
  | with_reducible refine Rd.lcL ?_
  | with_reducible refine Rd.lcR ?_
  | with_reducible refine Rd.forT ?_
  | with_reducible refine Rd.forL ?_
  | with_reducible refine Rd.forR ?_
  | with_reducible refine Rd.yes ?_
  | with_reducible refine iteT ?_
  | with_reducible refine iteF ?_
  | with_reducible refine Rd.iteNT ?_
  | with_reducible refine Rd.iteNF ?_
  | with_reducible refine Rd.tup ?_
  | with_reducible refine Rd.lst ?_
  | ((with_reducible refine Rd.eqs ?h1 ?_); (case h1 => rfl))
  | ((with_reducible refine Rd.nes ?h1 ?_); (case h1 => rfl))
  | ((with_reducible refine' Rd.ixL ?h1 ?h2 ?_); (case h1 => walk_at "hp"); (case h2 => first | rfl | assumption))
  | ((with_reducible refine' Rd.ixT ?h1 ?h2 ?_); (case h1 => walk_at "hp"); (case h2 => first | rfl | assumption))
  | ((with_reducible refine' Rd.lenL ?h1 ?_); (case h1 => walk_at "hp"))
  | ((with_reducible refine' Rd.lenT ?h1 ?_); (case h1 => walk_at "hp"))
  | ((with_reducible refine' Rd.setL ?h1 ?h2 ?_); (case h1 => walk_at "hp"); (case h2 => first | rfl | assumption))))
section
variable {base : Heap} {P : Program} {w : World} {mg : Str → Option Value} {K : PySem.W.Frag}
theorem ok_BadLength (T : Tx K mg) : ∃ fd, FnOk P w K mg base (L2.CX P w) 1 (a_BadLength_init K) fd P_BadLength_init (sp_ex (He.ga K "BadLength") "count") ∧ Binds K fd P_BadLength_init [] := by
  refine fnok T.d_BadLength_init sc_BadLength_init (fun _ _ _ _ _ _ us hl => match us, hl with | [_, _], _ => rfl) (fun vs H Q E h => ?_) (fun cdv A outer s H vs Q E hr h => ?_)
  · obtain ⟨a, v, rfl, _⟩ := h
    rfl
  · obtain ⟨a, v, rfl, ha, k⟩ := h
    refine ⟨_, pss_one (ps_ost (pv 0) (pv 1)), ?_⟩
    exact ⟨_, rfl, _, rfl, a, _, rfl, T.x_BadLength.ox, T.n_BadLength_count, .inl ⟨ha, fun dx hd ne => k dx hd ne⟩⟩
theorem zip_int {f : Int → Int → Int} : ∀ {xs ys : List Int}, (xs.zip ys).map (fun q : Int × Int => V.int (f q.1 q.2)) = (List.zipWith f xs ys).map V.int
  | [], _ => rfl
  | _ :: _, [] => rfl
  | x :: xs, y :: ys => by
    rw [List.zip_cons_cons, List.map_cons, zip_int, List.zipWith_cons_cons, List.map_cons]
/-- two rows of ints walked together, an int made of each pair -/
theorem lcZ {J : It} {G : Hp → Prop} {H1 : Hp} {D : Addr} {xs ys : List Int} {g : TG} {tt : TT} {te : TE} {vs : List Nat} {σ : L2.St} {Z : Hp → Prop} (wk : Walk J (xs.zip ys).length G (YPair (fun i => (xs.map V.int)[i]?) (fun i => (ys.map V.int)[i]?))) (hG : ∀ H, Ext H1 H → G H) (f : Int → Int → Int) (hn : xs.length < 100000) (hD : H1 D = none)
    (hs : ∀ x y T H, x ∈ xs → y ∈ ys → Ext H1 H → H T = none → ∀ (Qy : VK) (Qn : Hp → Prop), (∀ H', Ext (upd H T (.tup [.int x, .int y])) H' → Qy (.int (f x y)) H') →
      g (.ref T) (wipe σ vs) (upd H T (.tup [.int x, .int y])) fun σ2 H2 => wipe σ2 vs = wipe σ vs ∧ tt σ2 H2 fun b H3 => if b = true then te σ2 H3 Qy else Qn H3)
    (hd : ∀ H, Ext H1 H → H D = some (.lst ((List.zipWith f xs ys).map V.int)) → Z H) :
    ∃ W : Nat → Nat → Hp → Prop, (∃ m, W 0 m (upd H1 D (.lst []))) ∧ ∀ i m H, W i m H →
      (J.stop i H ∧ Z H) ∨ (J.go i H ∧ ∃ Nx : Hp → Prop, (∀ H', Nx H' → ∃ m', m' < m ∧ W (i + 1) m' H') ∧ ∀ x H', J.yld i H x H' → g x (wipe σ vs) H' fun σ2 H2 => wipe σ2 vs = wipe σ vs ∧ tt σ2 H2 fun b H3 =>
        if b = true then te σ2 H3 fun y H4 => ∃ acc, H4 D = some (.lst acc) ∧ acc.length < sizeLine ∧ Nx (upd H4 D (.lst (acc ++ [y]))) else Nx H3) := by
  refine Rd.lcG (α := Int × Int) (items := xs.zip ys) wk (Yi := fun q H x H' => ∃ T, x = .ref T ∧ H T = none ∧ H' = upd H T (.tup [.int q.1, .int q.2])) (fun i H x H' y => ?_) (by rw [List.length_zip]; omega) [] (fun _ => True) (fun _ => true) (fun q y _ => y = .int (f q.1 q.2)) (fun _ _ _ _ _ h => h) hD (by simp) (fun _ _ _ => trivial) trivial (fun H e _ => ?_) ?_ ?_
  · obtain ⟨T, x', y', h1, h2, h3, h4, h5⟩ := y
    have h4 : (xs.map V.int)[i]? = some x' := h4
    have h5 : (ys.map V.int)[i]? = some y' := h5
    rw [List.getElem?_map] at h4 h5
    cases e1 : xs[i]? with
    | none => rw [e1] at h4; cases h4
    | some x0 => cases e2 : ys[i]? with
      | none => rw [e2] at h5; cases h5
      | some y0 =>
        rw [e1] at h4; rw [e2] at h5
        cases h4; cases h5
        exact ⟨(x0, y0), List.getElem?_zip_eq_some.mpr ⟨e1, e2⟩, T, h1, h2, h3⟩
  · rw [Rd.hid_nil, Rd.hid_nil] at e
    exact hG H e
  · rintro i ⟨x, y⟩ v H H' acc hit e _ hacc ⟨T, rfl, hT, rfl⟩ Qy Qn ky kn
    rw [Rd.hid_nil, Rd.hid_nil] at e
    rw [List.getElem?_zip_eq_some] at hit
    refine hs x y T H (List.mem_of_getElem? hit.1) (List.mem_of_getElem? hit.2) e hT Qy Qn fun H' e' => ky _ H' ?_ trivial rfl rfl
    rw [Rd.hid_nil, Rd.hid_nil]
    exact (Ext.upd hT).trans e'
  · intro zs H e _ hzs pr
    rw [Rd.hid_nil, Rd.hid_nil] at e
    rw [List.filter_eq_self.mpr (fun _ _ => rfl)] at pr
    have q := Rd.paired_map (f := fun q : Int × Int => V.int (f q.1 q.2)) pr
    refine hd H e ?_
    rw [hzs, q]
    rw [zip_int]
theorem zip_len {xs ys : List Int} : (xs.zip ys).length = min (xs.map V.int).length (ys.map V.int).length := by rw [List.length_zip, List.length_map, List.length_map]
/-- two tuples of ints -/
theorem lcZip {H1 : Hp} {a b D : Addr} {xs ys : List Int} {g : TG} {tt : TT} {te : TE} {vs : List Nat} {σ : L2.St} {Z : Hp → Prop} (f : Int → Int → Int) (ha : H1 a = some (.tup (xs.map V.int))) (hb : H1 b = some (.tup (ys.map V.int))) (hl : xs.length = ys.length) (hn : xs.length < 100000) (hD : H1 D = none)
    (hs : ∀ x y T H, x ∈ xs → y ∈ ys → Ext H1 H → H T = none → ∀ (Qy : VK) (Qn : Hp → Prop), (∀ H', Ext (upd H T (.tup [.int x, .int y])) H' → Qy (.int (f x y)) H') →
      g (.ref T) (wipe σ vs) (upd H T (.tup [.int x, .int y])) fun σ2 H2 => wipe σ2 vs = wipe σ vs ∧ tt σ2 H2 fun b H3 => if b = true then te σ2 H3 Qy else Qn H3)
    (hd : ∀ H, Ext H1 H → H D = some (.lst ((List.zipWith f xs ys).map V.int)) → Z H) :
    ∃ W : Nat → Nat → Hp → Prop, (∃ m, W 0 m (upd H1 D (.lst []))) ∧ ∀ i m H, W i m H →
      ((RZ.ItzT K a b).stop i H ∧ Z H) ∨ ((RZ.ItzT K a b).go i H ∧ ∃ Nx : Hp → Prop, (∀ H', Nx H' → ∃ m', m' < m ∧ W (i + 1) m' H') ∧ ∀ x H', (RZ.ItzT K a b).yld i H x H' → g x (wipe σ vs) H' fun σ2 H2 => wipe σ2 vs = wipe σ vs ∧ tt σ2 H2 fun b H3 =>
        if b = true then te σ2 H3 fun y H4 => ∃ acc, H4 D = some (.lst acc) ∧ acc.length < sizeLine ∧ Nx (upd H4 D (.lst (acc ++ [y]))) else Nx H3) :=
  lcZ (Rd.walk_zipT (K := K) (a := a) (b := b) zip_len) (fun H e => ⟨SqT.of (e _ _ ha), SqT.of (e _ _ hb)⟩) f hn hD hs hd
/-- a tuple and a list of ints -/
theorem lcZipM {H1 : Hp} {a b D : Addr} {xs ys : List Int} {g : TG} {tt : TT} {te : TE} {vs : List Nat} {σ : L2.St} {Z : Hp → Prop} (f : Int → Int → Int) (ha : H1 a = some (.tup (xs.map V.int))) (hb : H1 b = some (.lst (ys.map V.int))) (hl : xs.length = ys.length) (hn : xs.length < 100000) (hD : H1 D = none)
    (hs : ∀ x y T H, x ∈ xs → y ∈ ys → Ext H1 H → H T = none → ∀ (Qy : VK) (Qn : Hp → Prop), (∀ H', Ext (upd H T (.tup [.int x, .int y])) H' → Qy (.int (f x y)) H') →
      g (.ref T) (wipe σ vs) (upd H T (.tup [.int x, .int y])) fun σ2 H2 => wipe σ2 vs = wipe σ vs ∧ tt σ2 H2 fun b H3 => if b = true then te σ2 H3 Qy else Qn H3)
    (hd : ∀ H, Ext H1 H → H D = some (.lst ((List.zipWith f xs ys).map V.int)) → Z H) :
    ∃ W : Nat → Nat → Hp → Prop, (∃ m, W 0 m (upd H1 D (.lst []))) ∧ ∀ i m H, W i m H →
      ((ZM.ItM K a b).stop i H ∧ Z H) ∨ ((ZM.ItM K a b).go i H ∧ ∃ Nx : Hp → Prop, (∀ H', Nx H' → ∃ m', m' < m ∧ W (i + 1) m' H') ∧ ∀ x H', (ZM.ItM K a b).yld i H x H' → g x (wipe σ vs) H' fun σ2 H2 => wipe σ2 vs = wipe σ vs ∧ tt σ2 H2 fun b H3 =>
        if b = true then te σ2 H3 fun y H4 => ∃ acc, H4 D = some (.lst acc) ∧ acc.length < sizeLine ∧ Nx (upd H4 D (.lst (acc ++ [y]))) else Nx H3) :=
  lcZ (Rd.walk_zipM (K := K) (a := a) (b := b) zip_len) (fun H e => ⟨SqT.of (e _ _ ha), SqL.of (e _ _ hb)⟩) f hn hD hs hd
def sp_Form_add (K : PySem.W.Frag) : Sp := fun vs H Q E => ∃ (a b : Addr) (xs ys : List Int), vs = [.ref a, .ref b] ∧ FormAt K H a xs ∧ FormAt K H b ys ∧ xs.length ≤ 1000 ∧
  (xs.length = ys.length → ∀ x H', Ext H H' → H x = none → FormAt K H' x (List.zipWith (fun p q => p + q) xs ys) → Q (.ref x) H') ∧ (xs.length ≠ ys.length → ∀ d H', Ext H H' → H' d = some (.xd [("count", .int ys.length)]) → E (.ref (He.ga K "BadLength")) (some d) H')
theorem ok_Form_add (T : Tx K mg) : FnR P w K mg base (L2.CX P w) 5 (a_Form_add K) (sp_Form_add K) := by
  obtain ⟨fdN_BadLength, FN_BadLength, bN_BadLength⟩ := ok_BadLength (P := P) (w := w) (base := base) T
  refine fnr T.d_Form_add sc_Form_add (fun _ _ _ _ _ _ us hl => match us, hl with | [_, _], _ => rfl) (fun vs H Q E h => ?_) (fun cdv A outer s H vs Q E hr h => ?_)
  · obtain ⟨a, b, xs, ys, rfl, _⟩ := h
    rfl
  · obtain ⟨a, b, xs, ys, rfl, F, G, hn, k1, k2⟩ := h
    refine ⟨_, (pss_cons (ps_if (pt_cmpR op_ne (pe_callB (Rd.c_len (K := K)) (by rfl) T.f_len Rd.bt_len (pa_cons (GW.fld (K := K) (pv 0)) pa_nil)) (pe_callB (Rd.c_len (K := K)) (by rfl) T.f_len Rd.bt_len (pa_cons (GW.fld (K := K) (pv 1)) pa_nil)) (nomark _)) (pss_one (ps_raise rfl (takes_of rfl rfl rfl rfl) (pmk_oex T.x_BadLength.ox T.x_BadLength.it T.x_BadLength.ti FN_BadLength (hr.mono (by decide)) bN_BadLength .nil passL (by rfl) T.g_BadLength (pa_cons (pe_callB (Rd.c_len (K := K)) (by rfl) T.f_len Rd.bt_len (pa_cons (GW.fld (K := K) (pv 1)) pa_nil)) pa_nil)))) pss_nil) (pss_one (ps_ret (pe_mk T.k_Form (ok_Form_init T) (hr.mono (by decide)) (by rfl) T.g_Form (pa_cons (pe_lc (own := [("one", 2), ("two", 3)]) rfl sc_Form_add.nd (GW.zipA (K := K) (by rfl) T.f_zip (pa_cons (GW.fld (K := K) (pv 0)) (pa_cons (GW.fld (K := K) (pv 1)) pa_nil))) (blkOk_by (own := [("one", 2), ("two", 3)]) (N := N_Form_add) (sc := defScope s_Form_add) (by decide +kernel)) (fun _ _ _ _ _ => (GW.tup (K := K) (n := 2) rfl (pgs_cons (gx 2 sc_Form_add.nd) (pgs_cons (gx 3 sc_Form_add.nd) pgs_nil)))) (fun _ _ _ _ _ => pts_nil) (fun _ _ _ _ _ => (pe_op op_add (pv 2) (pv 3)))) pa_nil))))), ?_⟩
    walk_at "go"
    refine fld_parts T F rfl fun q hq => ?_
    walk_at "go"
    refine fld_parts T G rfl fun r hr2 => ?_
    walk_at "go"
    rw [List.length_map, List.length_map]
    refine Rd.iten (fun c => ?_) (fun c => ?_)
    · refine mk_ex ?_ (fun R R' m h => ?_)
      · walk_at "go"
        refine fld_parts T G rfl fun r3 hr3 => ?_
        walk_at "go"
        refine ⟨_, rfl, fun d hd => ?_⟩
        rw [List.length_map]
        exact k2 (fun e => c (by rw [e])) d _ (Ext.upd hd) upd_same
      · obtain ⟨vv, h1, aa, C, dx, fs, vq, h2, h3, h4, h5, h6, pp, zz, h7, h8, h9⟩ := h
        exact ⟨vv, h1, aa, C, dx, fs, vq, h2, h3, h4, h5, h6, pp, zz, h7, h8, m _ _ h9⟩
    · have c : xs.length = ys.length := by have := V.int.inj c; omega
      walk_at "go"
      refine Rd.lcZT ?_ (fun R R' m h => ?_)
      · walk_at "go"
        refine fld_parts T F rfl fun q hq => ?_
        walk_at "go"
        refine fld_parts T G rfl fun r hr2 => ?_
        walk_at "go"
        refine ⟨q, r, _, _, rfl, SqT.of hq, SqT.of hr2, fun D hD => ?_⟩
        refine lcZip (fun p q => p + q) hq hr2 c (by omega) hD (fun x y t H' _ _ e ht Qy Qn ky => ?_) (fun H' e hys => ?_)
        · refine Rd.unP ?_
          refine ⟨rfl, ?_⟩
          walk_at "go"
          exact ky _ Rd.ext_rfl
        · walk_at "go"
          exact mk_form (.inl hys) fun x H2 e2 hx F2 => k1 c x H2 (e.trans e2) (Rd.ext_free e hx) F2
      · obtain ⟨vv, h1, aa, C, dx, fs, vq, h2, h3, h4, h5, h6, v2, g1, a2, C2, dx2, fs2, vq2, g2, g3, g4, g5, g6, g7⟩ := h
        exact ⟨vv, h1, aa, C, dx, fs, vq, h2, h3, h4, h5, h6, v2, g1, a2, C2, dx2, fs2, vq2, g2, g3, g4, g5, g6, m _ _ g7⟩
def sp_Form_sub (K : PySem.W.Frag) : Sp := fun vs H Q E => ∃ (a b : Addr) (xs ys : List Int), vs = [.ref a, .ref b] ∧ FormAt K H a xs ∧ FormAt K H b ys ∧ xs.length ≤ 1000 ∧
  (xs.length = ys.length → ∀ x H', Ext H H' → H x = none → FormAt K H' x (List.zipWith (fun p q => p - q) xs ys) → Q (.ref x) H') ∧ (xs.length ≠ ys.length → ∀ d H', Ext H H' → H' d = some (.xd [("count", .int ys.length)]) → E (.ref (He.ga K "BadLength")) (some d) H')
theorem ok_Form_sub (T : Tx K mg) : FnR P w K mg base (L2.CX P w) 5 (a_Form_sub K) (sp_Form_sub K) := by
  obtain ⟨fdN_BadLength, FN_BadLength, bN_BadLength⟩ := ok_BadLength (P := P) (w := w) (base := base) T
  refine fnr T.d_Form_sub sc_Form_sub (fun _ _ _ _ _ _ us hl => match us, hl with | [_, _], _ => rfl) (fun vs H Q E h => ?_) (fun cdv A outer s H vs Q E hr h => ?_)
  · obtain ⟨a, b, xs, ys, rfl, _⟩ := h
    rfl
  · obtain ⟨a, b, xs, ys, rfl, F, G, hn, k1, k2⟩ := h
    refine ⟨_, (pss_cons (ps_if (pt_cmpR op_ne (pe_callB (Rd.c_len (K := K)) (by rfl) T.f_len Rd.bt_len (pa_cons (GW.fld (K := K) (pv 0)) pa_nil)) (pe_callB (Rd.c_len (K := K)) (by rfl) T.f_len Rd.bt_len (pa_cons (GW.fld (K := K) (pv 1)) pa_nil)) (nomark _)) (pss_one (ps_raise rfl (takes_of rfl rfl rfl rfl) (pmk_oex T.x_BadLength.ox T.x_BadLength.it T.x_BadLength.ti FN_BadLength (hr.mono (by decide)) bN_BadLength .nil passL (by rfl) T.g_BadLength (pa_cons (pe_callB (Rd.c_len (K := K)) (by rfl) T.f_len Rd.bt_len (pa_cons (GW.fld (K := K) (pv 1)) pa_nil)) pa_nil)))) pss_nil) (pss_one (ps_ret (pe_mk T.k_Form (ok_Form_init T) (hr.mono (by decide)) (by rfl) T.g_Form (pa_cons (pe_lc (own := [("one", 2), ("two", 3)]) rfl sc_Form_sub.nd (GW.zipA (K := K) (by rfl) T.f_zip (pa_cons (GW.fld (K := K) (pv 0)) (pa_cons (GW.fld (K := K) (pv 1)) pa_nil))) (blkOk_by (own := [("one", 2), ("two", 3)]) (N := N_Form_sub) (sc := defScope s_Form_sub) (by decide +kernel)) (fun _ _ _ _ _ => (GW.tup (K := K) (n := 2) rfl (pgs_cons (gx 2 sc_Form_sub.nd) (pgs_cons (gx 3 sc_Form_sub.nd) pgs_nil)))) (fun _ _ _ _ _ => pts_nil) (fun _ _ _ _ _ => (pe_op op_sub (pv 2) (pv 3)))) pa_nil))))), ?_⟩
    walk_at "go"
    refine fld_parts T F rfl fun q hq => ?_
    walk_at "go"
    refine fld_parts T G rfl fun r hr2 => ?_
    walk_at "go"
    rw [List.length_map, List.length_map]
    refine Rd.iten (fun c => ?_) (fun c => ?_)
    · refine mk_ex ?_ (fun R R' m h => ?_)
      · walk_at "go"
        refine fld_parts T G rfl fun r3 hr3 => ?_
        walk_at "go"
        refine ⟨_, rfl, fun d hd => ?_⟩
        rw [List.length_map]
        exact k2 (fun e => c (by rw [e])) d _ (Ext.upd hd) upd_same
      · obtain ⟨vv, h1, aa, C, dx, fs, vq, h2, h3, h4, h5, h6, pp, zz, h7, h8, h9⟩ := h
        exact ⟨vv, h1, aa, C, dx, fs, vq, h2, h3, h4, h5, h6, pp, zz, h7, h8, m _ _ h9⟩
    · have c : xs.length = ys.length := by have := V.int.inj c; omega
      walk_at "go"
      refine Rd.lcZT ?_ (fun R R' m h => ?_)
      · walk_at "go"
        refine fld_parts T F rfl fun q hq => ?_
        walk_at "go"
        refine fld_parts T G rfl fun r hr2 => ?_
        walk_at "go"
        refine ⟨q, r, _, _, rfl, SqT.of hq, SqT.of hr2, fun D hD => ?_⟩
        refine lcZip (fun p q => p - q) hq hr2 c (by omega) hD (fun x y t H' _ _ e ht Qy Qn ky => ?_) (fun H' e hys => ?_)
        · refine Rd.unP ?_
          refine ⟨rfl, ?_⟩
          walk_at "go"
          exact ky _ Rd.ext_rfl
        · walk_at "go"
          exact mk_form (.inl hys) fun x H2 e2 hx F2 => k1 c x H2 (e.trans e2) (Rd.ext_free e hx) F2
      · obtain ⟨vv, h1, aa, C, dx, fs, vq, h2, h3, h4, h5, h6, v2, g1, a2, C2, dx2, fs2, vq2, g2, g3, g4, g5, g6, g7⟩ := h
        exact ⟨vv, h1, aa, C, dx, fs, vq, h2, h3, h4, h5, h6, v2, g1, a2, C2, dx2, fs2, vq2, g2, g3, g4, g5, g6, m _ _ g7⟩
end
end Lv

set_option Elab.async false
set_option linter.all false
set_option maxRecDepth 100000
set_option maxHeartbeats 0
/-! A form's value. -/
namespace Lv
open PySem PySem.Spec PyProof.Rows L2 OwX
local macro_rules | `(tactic| walk_at "side") => `(tactic| first
  | exact (show CMul _ _ from .inl ⟨by decide, by decide⟩) | exact (show CMul _ _ from .inr ⟨by decide, by decide⟩) | exact (show CMul _ _ from .inl ⟨by omega, by omega⟩) | exact (show CMul _ _ from .inr ⟨by omega, by omega⟩)
  | exact (show CPow _ _ from ⟨by decide, by decide, by decide⟩)
  | exact (show CDiv _ _ from ⟨by decide, by decide⟩) | exact (show CDiv _ _ from ⟨by omega, by omega⟩)
  | exact (show (0 : Int) < _ by decide) | exact (show (0 : Int) < _ by omega) | exact (show ¬ (_ : Int) = 0 by decide) | exact (show ¬ (_ : Int) = 0 by omega) | assumption)
local macro_rules | `(tactic| walk_at "hp") => `(tactic| first
  | assumption | exact upd_same
  | (refine' SqL.of ?h1; (case h1 => walk_at "hp")) | (refine' SqT.of ?h1; (case h1 => walk_at "hp"))
  | (refine' Rd.new_app ?h1 ?h2; (case h1 => assumption); (case h2 => walk_at "hp"))
  | (refine' Rd.upd_app ?h1 ?h2; (case h1 => first | assumption | exact Ne.symm (by assumption)); (case h2 => walk_at "hp"))
  | (refine' Rd.ext_app ?h1 ?h2; (case h1 => assumption); (case h2 => walk_at "hp"))
  | (refine' Rd.ext_L ?h1 ?h2; (case h1 => assumption); (case h2 => walk_at "hp"))
  | (refine' Rd.ext_T ?h1 ?h2; (case h1 => assumption); (case h2 => walk_at "hp")))
local macro_rules | `(tactic| walk_at "go") => `(tactic| repeat (first
  | with_reducible refine Rd.con ?_
  | ((with_reducible refine' Rd.var ?h1 ?_); (case h1 => rfl))
  | with_reducible refine Rd.op ?_
  | with_reducible refine Rd.un ?_
  | with_reducible refine Rd.i0 ?_
  | with_reducible refine Rd.iu ?_
  | ((with_reducible refine Rd.iC ?h1 ?_); (case h1 => walk_at "side"))
  | with_reducible refine Rd.nil ?_
  | with_reducible refine Rd.cons ?_
  | with_reducible refine Rd.cb ?_
  | with_reducible refine Rd.int1 ?_
  | with_reducible refine Rd.intB ?_
  | with_reducible refine Rd.maxI ?_
  | with_reducible refine Rd.minI ?_
  | with_reducible refine Rd.blx ?_
  | with_reducible refine Rd.tst ?_
  | with_reducible refine Rd.tb_ ?_
  | with_reducible refine Rd.not_ ?_
  | with_reducible refine Rd.and_ ?_
  | with_reducible refine Rd.or_ ?_
  | with_reducible refine Rd.ifx ?_
  | with_reducible refine Rd.chain ?_
  | with_reducible refine Rd.andV ?_
  | with_reducible refine Rd.orV ?_
  | with_reducible refine Rd.notV ?_
  | with_reducible refine Rd.seq ?_
  | with_reducible refine Rd.asg ?_
  | with_reducible refine Rd.name ?_
  | with_reducible refine Rd.ret ?_
  | with_reducible refine Rd.ifS ?_
  | with_reducible refine Rd.next ?_
  | with_reducible refine Rd.drop ?_
  | with_reducible refine Rd.gsub ?_
  | with_reducible refine Rd.cr ?_
  | with_reducible refine Rd.crX ?_
  | with_reducible refine Rd.ixOS ?_
  | ((with_reducible refine' Rd.xfv ?h1 ?h2 ?h3 ?_); (case h1 => walk_at "hp"); (case h2 => rfl); (case h3 => rfl))
  | ((with_reducible refine' Rd.bmLv ?h1 ?h2 ?_); (case h1 => rfl); (case h2 => walk_at "hp"))
  | ((with_reducible refine' Rd.countL ?h1 ?_); (case h1 => walk_at "hp"))
  | ((with_reducible refine' Rd.sumL ?h1 ?_); (case h1 => walk_at "hp"))
  | ((with_reducible refine' Rd.listL ?h1 ?_); (case h1 => walk_at "hp"))
  | ((with_reducible refine' Rd.listT ?h1 ?_); (case h1 => walk_at "hp"))
  | with_reducible refine Rd.isNn ?_
  | with_reducible refine Rd.isNr ?_
  | with_reducible refine Rd.notNn ?_
  | with_reducible refine Rd.notNr ?_
  | with_reducible refine Rd.isB ?_
  | with_reducible refine Rd.notBtt ?_
  | with_reducible refine Rd.notBff ?_
  | with_reducible refine Rd.notBtf ?_
  | with_reducible refine Rd.notBft ?_
  | with_reducible refine Rd.notB ?_
  | with_reducible refine Rd.smeth ?_
  | with_reducible refine Rd.sl ?_
  | with_reducible refine Rd.po0 ?_
  | with_reducible refine Rd.poI ?_
  | with_reducible refine Rd.ixi ?_
  | with_reducible refine Rd.par ?_
  | with_reducible refine Rd.par2 ?_
  | with_reducible refine Rd.mkRS ?_
  | with_reducible refine Rd.callRS ?_
  | with_reducible refine Rd.mk ?_
  | with_reducible refine Rd.mkX ?_
  | with_reducible refine Rd.sF ?_
  | with_reducible refine Rd.dIn ?_
  | with_reducible refine Rd.dNi ?_
  | with_reducible refine Rd.dctL ?_
  | with_reducible refine Rd.dctT ?_
  | with_reducible refine Rd.forE ?_
  | with_reducible refine Rd.lc2T ?_
  | with_reducible refine Rd.lc2L ?_
  | with_reducible refine Rd.lc2R ?_
  | with_reducible refine Rd.inR2 ?_
  | with_reducible refine Rd.inR1 ?_
  | with_reducible refine Rd.inT ?_
  | with_reducible refine Rd.inL ?_
  | with_reducible refine Rd.lcT ?_
  | with_reducible refine Rd.lcL ?_
  | with_reducible refine Rd.lcR ?_
  | with_reducible refine Rd.forT ?_
  | with_reducible refine Rd.forL ?_
  | with_reducible refine Rd.forR ?_
  | with_reducible refine Rd.yes ?_
  | with_reducible refine iteT ?_
  | with_reducible refine iteF ?_
  | with_reducible refine Rd.iteNT ?_
  | with_reducible refine Rd.iteNF ?_
  | with_reducible refine Rd.tup ?_
  | with_reducible refine Rd.lst ?_
  | ((with_reducible refine Rd.eqs ?h1 ?_); (case h1 => rfl))
  | ((with_reducible refine Rd.nes ?h1 ?_); (case h1 => rfl))
  | ((with_reducible refine' Rd.ixL ?h1 ?h2 ?_); (case h1 => walk_at "hp"); (case h2 => first | rfl | assumption))
  | ((with_reducible refine' Rd.ixT ?h1 ?h2 ?_); (case h1 => walk_at "hp"); (case h2 => first | rfl | assumption))
  | ((with_reducible refine' Rd.lenL ?h1 ?_); (case h1 => walk_at "hp"))
  | ((with_reducible refine' Rd.lenT ?h1 ?_); (case h1 => walk_at "hp"))
  | ((with_reducible refine' Rd.setL ?h1 ?h2 ?_); (case h1 => walk_at "hp"); (case h2 => first | rfl | assumption))))
section
variable {base : Heap} {P : Program} {w : World} {mg : Str → Option Value} {K : PySem.W.Frag}
def dot (xs ys : List Int) : Int := (List.zipWith (fun p q => p * q) xs ys).sum
/-- a list or a tuple of ints -/
def SqI (H : Hp) (b : Addr) (ys : List Int) : Prop := H b = some (.lst (ys.map V.int)) ∨ H b = some (.tup (ys.map V.int))
theorem SqI.ext {H H' : Hp} {b : Addr} {ys : List Int} (h : SqI H b ys) (e : Ext H H') : SqI H' b ys := h.imp (e _ _) (e _ _)
theorem SqI.len {H : Hp} {b : Addr} {ys : List Int} {Q : VK} (h : SqI H b ys) (k : Q (.int ys.length) H) : Rd.rLen K [.ref b] H Q := by
  rcases h with h | h
  · exact Rd.lenL (SqL.of h) (by rw [List.length_map]; exact k)
  · exact Rd.lenT (SqT.of h) (by rw [List.length_map]; exact k)
def sp_Form_call (K : PySem.W.Frag) : Sp := fun vs H Q E => ∃ (a b : Addr) (xs ys : List Int), vs = [.ref a, .ref b] ∧ FormAt K H a xs ∧ SqI H b ys ∧ xs.length ≤ 1000 ∧ (∀ x ∈ xs, -(2 ^ 64) < x ∧ x < 2 ^ 64) ∧
  (xs.length = ys.length → ∀ H', Ext H H' → Q (.int (dot xs ys)) H') ∧ (xs.length ≠ ys.length → ∀ d H', Ext H H' → H' d = some (.xd [("count", .int ys.length)]) → E (.ref (He.ga K "BadLength")) (some d) H')
theorem ok_Form_call (T : Tx K mg) : FnR P w K mg base (L2.CX P w) 5 (a_Form_call K) (sp_Form_call K) := by
  obtain ⟨fdN_BadLength, FN_BadLength, bN_BadLength⟩ := ok_BadLength (P := P) (w := w) (base := base) T
  refine fnr T.d_Form_call sc_Form_call (fun _ _ _ _ _ _ us hl => match us, hl with | [_, _], _ => rfl) (fun vs H Q E h => ?_) (fun cdv A outer s H vs Q E hr h => ?_)
  · obtain ⟨a, b, xs, ys, rfl, _⟩ := h
    rfl
  · obtain ⟨a, b, xs, ys, rfl, F, G, hn, hx, k1, k2⟩ := h
    refine ⟨_, (pss_cons (ps_if (pt_cmpR op_ne (pe_callB (Rd.c_len (K := K)) (by rfl) T.f_len Rd.bt_len (pa_cons (pv 1) pa_nil)) (pe_callB (Rd.c_len (K := K)) (by rfl) T.f_len Rd.bt_len (pa_cons (GW.fld (K := K) (pv 0)) pa_nil)) (nomark _)) (pss_one (ps_raise rfl (takes_of rfl rfl rfl rfl) (pmk_oex T.x_BadLength.ox T.x_BadLength.it T.x_BadLength.ti FN_BadLength (hr.mono (by decide)) bN_BadLength .nil passL (by rfl) T.g_BadLength (pa_cons (pe_callB (Rd.c_len (K := K)) (by rfl) T.f_len Rd.bt_len (pa_cons (pv 1) pa_nil)) pa_nil)))) pss_nil) (pss_one (ps_ret (pe_callB (GW.sum (K := K) rfl) (by rfl) T.f_sum Rd.bt_sum (pa_cons (pe_lc (own := [("part", 2), ("number", 3)]) rfl sc_Form_call.nd (GW.zipM (K := K) (by rfl) T.f_zip (pa_cons (GW.fld (K := K) (pv 0)) (pa_cons (pv 1) pa_nil))) (blkOk_by (own := [("part", 2), ("number", 3)]) (N := N_Form_call) (sc := defScope s_Form_call) (by decide +kernel)) (fun _ _ _ _ _ => (GW.tup (K := K) (n := 2) rfl (pgs_cons (gx 2 sc_Form_call.nd) (pgs_cons (gx 3 sc_Form_call.nd) pgs_nil)))) (fun _ _ _ _ _ => pts_nil) (fun _ _ _ _ _ => (pe_op op_mul (pv 2) (pv 3)))) pa_nil))))), ?_⟩
    walk_at "go"
    refine SqI.len G ?_
    walk_at "go"
    refine fld_parts T F rfl fun q hq => ?_
    walk_at "go"
    rw [List.length_map]
    refine Rd.iten (fun c => ?_) (fun c => ?_)
    · refine mk_ex ?_ (fun R R' m h => ?_)
      · walk_at "go"
        refine SqI.len G ?_
        walk_at "go"
        refine ⟨_, rfl, fun d hd => ?_⟩
        exact k2 (fun e => c (by rw [e])) d _ (Ext.upd hd) upd_same
      · obtain ⟨vv, h1, pp, zz, h7, h8, h9⟩ := h
        exact ⟨vv, h1, pp, zz, h7, h8, m _ _ h9⟩
    · have c : xs.length = ys.length := by have := V.int.inj c; omega
      walk_at "go"
      refine Rd.lcZM ?_
      walk_at "go"
      refine fld_parts T F rfl fun q hq => ?_
      walk_at "go"
      have done : ∀ H' D, Ext H H' → H' D = some (.lst ((List.zipWith (fun p q => p * q) xs ys).map V.int)) → Q (.int (dot xs ys)) H' := fun H' D e hD => k1 c H' e
      rcases G with G | G
      · refine ⟨q, b, _, _, rfl, SqT.of hq, .inr ⟨SqL.of G, fun D hD => ?_⟩⟩
        refine lcZipM (fun p q => p * q) hq G c (by omega) hD (fun x y t H' hxm _ e ht Qy Qn ky => ?_) (fun H' e hys => ?_)
        · have hx := hx x hxm
          refine Rd.unP ?_
          refine ⟨rfl, ?_⟩
          walk_at "go"
          exact ky _ Rd.ext_rfl
        · walk_at "go"
          exact done H' D e hys
      · refine ⟨q, b, _, _, rfl, SqT.of hq, .inl ⟨SqT.of G, fun D hD => ?_⟩⟩
        refine lcZip (fun p q => p * q) hq G c (by omega) hD (fun x y t H' hxm _ e ht Qy Qn ky => ?_) (fun H' e hys => ?_)
        · have hx := hx x hxm
          refine Rd.unP ?_
          refine ⟨rfl, ?_⟩
          walk_at "go"
          exact ky _ Rd.ext_rfl
        · walk_at "go"
          exact done H' D e hys
end
end Lv

set_option Elab.async false
set_option linter.all false
set_option maxRecDepth 100000
set_option maxHeartbeats 0
set_option pp.maxSteps 3000
/-! Fixtures and the scope. -/
namespace Rd
open PySem PySem.Spec PyProof.Rows L2 OwX
section
variable {K : PySem.W.Frag} {H : Hp} {Q : VK} {p : Addr}
theorem inV_int {z : Int} {ns : List Int} : inV (.int z) (ns.map V.int) = ns.contains z := by
  unfold inV
  induction ns with
  | nil => rfl
  | cons c cs ih =>
    rw [List.map_cons, List.any_cons, ih, List.contains_cons]
    congr 1
    show (c == z) = (z == c)
    exact Bool.beq_comm
theorem flat_ints {ns : List Int} : (ns.map V.int).all flatV = true := by
  rw [List.all_map]
  exact List.all_eq_true.mpr fun _ _ => rfl
theorem inI {z : Int} {ns : List Int} (h : H p = some (.tup (ns.map V.int)) ∨ H p = some (.lst (ns.map V.int))) (k : Q (.bl (ns.contains z)) H) : rIn K false (.int z) (.ref p) H Q :=
  ⟨p, _, rfl, h.elim (fun h => .inr (SqT.of h)) fun h => .inl (SqL.of h), rfl, flat_ints, by rw [if_neg (by decide), inV_int]; exact k⟩
end
end Rd
namespace Lv
open PySem PySem.Spec PyProof.Rows L2 OwX Rs
local macro_rules | `(tactic| walk_at "side") => `(tactic| first
  | exact (show CMul _ _ from .inl ⟨by decide, by decide⟩) | exact (show CMul _ _ from .inr ⟨by decide, by decide⟩) | exact (show CMul _ _ from .inl ⟨by omega, by omega⟩) | exact (show CMul _ _ from .inr ⟨by omega, by omega⟩)
  | exact (show CPow _ _ from ⟨by decide, by decide, by decide⟩)
  | exact (show CDiv _ _ from ⟨by decide, by decide⟩) | exact (show CDiv _ _ from ⟨by omega, by omega⟩)
  | exact (show (0 : Int) < _ by decide) | exact (show (0 : Int) < _ by omega) | exact (show ¬ (_ : Int) = 0 by decide) | exact (show ¬ (_ : Int) = 0 by omega) | assumption)
local macro_rules | `(tactic| walk_at "hp") => `(tactic| first
  | assumption | exact upd_same
  | (refine' SqL.of ?h1; (case h1 => walk_at "hp")) | (refine' SqT.of ?h1; (case h1 => walk_at "hp"))
  | (refine' Rd.new_app ?h1 ?h2; (case h1 => assumption); (case h2 => walk_at "hp"))
  | (refine' Rd.upd_app ?h1 ?h2; (case h1 => first | assumption | exact Ne.symm (by assumption)); (case h2 => walk_at "hp"))
  | (refine' Rd.ext_app ?h1 ?h2; (case h1 => assumption); (case h2 => walk_at "hp"))
  | (refine' Rd.ext_L ?h1 ?h2; (case h1 => assumption); (case h2 => walk_at "hp"))
  | (refine' Rd.ext_T ?h1 ?h2; (case h1 => assumption); (case h2 => walk_at "hp")))
local macro_rules | `(tactic| walk_at "go") => `(tactic| repeat (first
  | with_reducible refine Rd.con ?_
  | ((with_reducible refine' Rd.var ?h1 ?_); (case h1 => rfl))
  | with_reducible refine Rd.op ?_
  | with_reducible refine Rd.un ?_
  | with_reducible refine Rd.i0 ?_
  | with_reducible refine Rd.iu ?_
  | ((with_reducible refine Rd.iC ?h1 ?_); (case h1 => walk_at "side"))
  | with_reducible refine Rd.nil ?_
  | with_reducible refine Rd.cons ?_
  | with_reducible refine Rd.cb ?_
  | with_reducible refine Rd.int1 ?_
  | with_reducible refine Rd.intB ?_
  | with_reducible refine Rd.maxI ?_
  | with_reducible refine Rd.minI ?_
  | with_reducible refine Rd.blx ?_
  | with_reducible refine Rd.tst ?_
  | with_reducible refine Rd.tb_ ?_
  | with_reducible refine Rd.not_ ?_
  | with_reducible refine Rd.and_ ?_
  | with_reducible refine Rd.or_ ?_
  | with_reducible refine Rd.ifx ?_
  | with_reducible refine Rd.chain ?_
  | with_reducible refine Rd.andV ?_
  | with_reducible refine Rd.orV ?_
  | with_reducible refine Rd.notV ?_
  | with_reducible refine Rd.seq ?_
  | with_reducible refine Rd.asg ?_
  | with_reducible refine Rd.name ?_
  | with_reducible refine Rd.ret ?_
  | with_reducible refine Rd.ifS ?_
  | with_reducible refine Rd.next ?_
  | with_reducible refine Rd.drop ?_
  | with_reducible refine Rd.gsub ?_
  | with_reducible refine Rd.cr ?_
  | with_reducible refine Rd.crX ?_
  | with_reducible refine Rd.ixOS ?_
  | ((with_reducible refine' Rd.xfv ?h1 ?h2 ?h3 ?_); (case h1 => walk_at "hp"); (case h2 => rfl); (case h3 => rfl))
  | ((with_reducible refine' Rd.bmLv ?h1 ?h2 ?_); (case h1 => rfl); (case h2 => walk_at "hp"))
  | ((with_reducible refine' Rd.countL ?h1 ?_); (case h1 => walk_at "hp"))
  | ((with_reducible refine' Rd.sumL ?h1 ?_); (case h1 => walk_at "hp"))
  | ((with_reducible refine' Rd.listL ?h1 ?_); (case h1 => walk_at "hp"))
  | ((with_reducible refine' Rd.listT ?h1 ?_); (case h1 => walk_at "hp"))
  | with_reducible refine Rd.isNn ?_
  | with_reducible refine Rd.isNr ?_
  | with_reducible refine Rd.notNn ?_
  | with_reducible refine Rd.notNr ?_
  | with_reducible refine Rd.isB ?_
  | with_reducible refine Rd.notBtt ?_
  | with_reducible refine Rd.notBff ?_
  | with_reducible refine Rd.notBtf ?_
  | with_reducible refine Rd.notBft ?_
  | with_reducible refine Rd.notB ?_
  | with_reducible refine Rd.smeth ?_
  | with_reducible refine Rd.sl ?_
  | with_reducible refine Rd.po0 ?_
  | with_reducible refine Rd.poI ?_
  | with_reducible refine Rd.ixi ?_
  | with_reducible refine Rd.par ?_
  | with_reducible refine Rd.par3 ?_
  | with_reducible refine Rd.par33 ?_
  | ((with_reducible refine' Rd.aug ?h1 ?_); (case h1 => rfl))
  | with_reducible refine Rd.ipi ?_
  | with_reducible refine Rd.lstRg ?_
  | with_reducible refine Rd.rg1 ?_
  | with_reducible refine Rd.par2 ?_
  | with_reducible refine Rd.mkRS ?_
  | with_reducible refine Rd.callRS ?_
  | with_reducible refine Rd.mk ?_
  | with_reducible refine Rd.mkX ?_
  | with_reducible refine Rd.sF ?_
  | with_reducible refine Rd.dIn ?_
  | with_reducible refine Rd.dNi ?_
  | with_reducible refine Rd.dctL ?_
  | with_reducible refine Rd.dctT ?_
  | with_reducible refine Rd.forE ?_
  | with_reducible refine Rd.lc2T ?_
  | with_reducible refine Rd.lc2L ?_
  | with_reducible refine Rd.lc2R ?_
  | with_reducible refine Rd.inR2 ?_
  | with_reducible refine Rd.inR1 ?_
  | with_reducible refine Rd.inT ?_
  | with_reducible refine Rd.inL ?_
  | with_reducible refine Rd.lcT ?_
  | with_reducible refine Rd.lcL ?_
  | with_reducible refine Rd.lcR ?_
  | with_reducible refine Rd.forT ?_
  | with_reducible refine Rd.forL ?_
  | with_reducible refine Rd.forR ?_
  | with_reducible refine Rd.yes ?_
  | with_reducible refine iteT ?_
  | with_reducible refine iteF ?_
  | with_reducible refine Rd.iteNT ?_
  | with_reducible refine Rd.iteNF ?_
  | with_reducible refine Rd.tup ?_
  | with_reducible refine Rd.lst ?_
  | ((with_reducible refine Rd.eqs ?h1 ?_); (case h1 => rfl))
  | ((with_reducible refine Rd.nes ?h1 ?_); (case h1 => rfl))
  | ((with_reducible refine' Rd.ixL ?h1 ?h2 ?_); (case h1 => walk_at "hp"); (case h2 => first | rfl | assumption))
  | ((with_reducible refine' Rd.ixT ?h1 ?h2 ?_); (case h1 => walk_at "hp"); (case h2 => first | rfl | assumption))
  | ((with_reducible refine' Rd.lenL ?h1 ?_); (case h1 => walk_at "hp"))
  | ((with_reducible refine' Rd.lenT ?h1 ?_); (case h1 => walk_at "hp"))
  | ((with_reducible refine' Rd.setL ?h1 ?h2 ?_); (case h1 => walk_at "hp"); (case h2 => first | rfl | assumption))))
/-- a base: none, or a tuple of teams -/
def BsAt (H : Hp) (v : V) : Option (List Int) → Prop
  | none => v = .non
  | some l => ∃ t, v = .ref t ∧ H t = some (.tup (l.map V.int))
theorem BsAt.ext {H H' : Hp} {v : V} {b : Option (List Int)} (h : BsAt H v b) (e : Ext H H') : BsAt H' v b := by
  cases b with
  | none => exact h
  | some l =>
    obtain ⟨t, h1, h2⟩ := h
    exact ⟨t, h1, e _ _ h2⟩
def scopeF (p : Pr) : Option (List Int) → Bool
  | none => true
  | some l => l.contains p.1 && l.contains p.2
section
variable {base : Heap} {P : Program} {w : World} {mg : Str → Option Value} {K : PySem.W.Frag}
def sp_in_scope : Sp := fun vs H Q _ => ∃ (v b : V) (p : Pr) (o : Option (List Int)), vs = [v, b] ∧ PT H p v ∧ BsAt H b o ∧ Q (.bl (scopeF p o)) H
theorem ok_in_scope (T : Tx K mg) : FnR P w K mg base (L2.CX P w) 1 (a_in_scope K) sp_in_scope := by
  refine fnr T.d_in_scope sc_in_scope (fun _ _ _ _ _ _ us hl => match us, hl with | [_, _], _ => rfl) (fun vs H Q E h => ?_) (fun cdv A outer s H vs Q E hr h => ?_)
  · obtain ⟨v, b, p, o, rfl, _⟩ := h
    rfl
  · obtain ⟨v, b, p, o, rfl, ⟨t, rfl, hp⟩, hb, k⟩ := h
    refine ⟨_, (pss_one (ps_ret (pe_or (pe_cmpR GW.isN (pv 1) pe_non (nomark _)) (pe_one (pe_and (pe_cmpR (GW.inS (K := K)) (pe_ix (GW.ixT (K := K)) (pv 0) pe_int (fun _ _ => rfl)) (pv 1) rfl) (pe_one (pe_cmpR (GW.inS (K := K)) (pe_ix (GW.ixT (K := K)) (pv 0) pe_int (fun _ _ => rfl)) (pv 1) rfl))))))), ?_⟩
    cases o with
    | none =>
      cases hb
      walk_at "go"
      exact k
    | some l =>
      obtain ⟨u, rfl, hu⟩ := hb
      walk_at "go"
      refine Rd.inI (.inl hu) ?_
      walk_at "go"
      cases h1 : l.contains p.1 with
      | false =>
        simp only [scopeF, h1, Bool.false_and] at k
        walk_at "go"
        exact k
      | true =>
        simp only [scopeF, h1, Bool.true_and] at k
        walk_at "go"
        refine Rd.inI (.inl hu) ?_
        walk_at "go"
        exact k
/-! ### two_teams -/
def twoF (p : Pr) (n : Int) : Bool := decide (0 ≤ p.1) && decide (p.1 < n) && (decide (0 ≤ p.2) && decide (p.2 < n)) && decide (p.1 ≠ p.2)
def sp_two_teams : Sp := fun vs H Q _ => ∃ (v : V) (p : Pr) (n : Int), vs = [v, .int n] ∧ PT H p v ∧ twoF p n = true ∧ Q (.bl true) H
theorem ok_two_teams (T : Tx K mg) : FnR P w K mg base (L2.CX P w) 1 (a_two_teams K) sp_two_teams := by
  refine fnr T.d_two_teams sc_two_teams (fun _ _ _ _ _ _ us hl => match us, hl with | [_, _], _ => rfl) (fun vs H Q E h => ?_) (fun cdv A outer s H vs Q E hr h => ?_)
  · obtain ⟨v, p, n, rfl, _⟩ := h
    rfl
  · obtain ⟨v, p, n, rfl, ⟨t, rfl, hp⟩, ok, k⟩ := h
    refine ⟨_, (pss_one (ps_ret (pe_and (pe_chain op_le op_lt pe_int (pe_ix (GW.ixT (K := K)) (pv 0) pe_int (fun _ _ => rfl)) (pv 1)) (pe_and (pe_chain op_le op_lt pe_int (pe_ix (GW.ixT (K := K)) (pv 0) pe_int (fun _ _ => rfl)) (pv 1)) (pe_one (pe_cmpR op_ne (pe_ix (GW.ixT (K := K)) (pv 0) pe_int (fun _ _ => rfl)) (pe_ix (GW.ixT (K := K)) (pv 0) pe_int (fun _ _ => rfl)) (nomark _))))))), ?_⟩
    unfold twoF at ok
    simp only [Bool.and_eq_true, decide_eq_true_eq] at ok
    obtain ⟨⟨⟨h1, h2⟩, h3, h4⟩, h5⟩ := ok
    walk_at "go"
    rw [decide_eq_true h1]
    walk_at "go"
    rw [decide_eq_true h2]
    walk_at "go"
    rw [decide_eq_true h3]
    walk_at "go"
    rw [decide_eq_true h4]
    walk_at "go"
    rw [decide_eq_false (fun e => h5 (V.int.inj e))]
    exact k
/-! ### goal_parts -/
def goalF (what : Str) (c : Bool) : Pr :=
  if what = "margin" then (if c = true then (1, -1) else (-1, 1)) else if what = "scored" then (if c = true then (1, 0) else (0, 1)) else (if c = true then (0, 0) else (0, 1))
def sp_goal_parts : Sp := fun vs H Q _ => ∃ (what : Str) (c : Bool), vs = [.str what, .bl c] ∧ ∀ t, H t = none → Q (.ref t) (upd H t (.tup [.int (goalF what c).1, .int (goalF what c).2]))
theorem ok_goal_parts (T : Tx K mg) : FnR P w K mg base (L2.CX P w) 1 (a_goal_parts K) sp_goal_parts := by
  refine fnr T.d_goal_parts sc_goal_parts (fun _ _ _ _ _ _ us hl => match us, hl with | [_, _], _ => rfl) (fun vs H Q E h => ?_) (fun cdv A outer s H vs Q E hr h => ?_)
  · obtain ⟨what, c, rfl, _⟩ := h
    rfl
  · obtain ⟨what, c, rfl, k⟩ := h
    refine ⟨_, (pss_cons (ps_if (pt_cmpR op_eq (pv 0) pe_str (nomark _)) (pss_one (ps_ret (pe_ifExp (pt_val (pv 1)) (pe_tup (pa_cons pe_int (pa_cons (pe_un un_neg pe_int) pa_nil))) (pe_tup (pa_cons (pe_un un_neg pe_int) (pa_cons pe_int pa_nil)))))) pss_nil) (pss_cons (ps_if (pt_cmpR op_eq (pv 0) pe_str (nomark _)) (pss_one (ps_ret (pe_ifExp (pt_val (pv 1)) (pe_tup (pa_cons pe_int (pa_cons pe_int pa_nil))) (pe_tup (pa_cons pe_int (pa_cons pe_int pa_nil)))))) pss_nil) (pss_one (ps_ret (pe_ifExp (pt_val (pv 1)) (pe_tup (pa_cons pe_int (pa_cons pe_int pa_nil))) (pe_tup (pa_cons pe_int (pa_cons pe_int pa_nil)))))))), ?_⟩
    unfold goalF at k
    walk_at "go"
    refine Rd.ited (fun h1 => ?_) (fun h1 => ?_)
    · rw [if_pos (V.str.inj h1)] at k
      walk_at "go"
      cases c
      · walk_at "go"
        exact ⟨Rd.szr rfl, fun t ht => k t ht⟩
      · walk_at "go"
        exact ⟨Rd.szr rfl, fun t ht => k t ht⟩
    rw [if_neg (fun z => h1 (by rw [z]))] at k
    walk_at "go"
    refine Rd.ited (fun h2 => ?_) (fun h2 => ?_)
    · rw [if_pos (V.str.inj h2)] at k
      walk_at "go"
      cases c
      · walk_at "go"
        exact ⟨Rd.szr rfl, fun t ht => k t ht⟩
      · walk_at "go"
        exact ⟨Rd.szr rfl, fun t ht => k t ht⟩
    rw [if_neg (fun z => h2 (by rw [z]))] at k
    walk_at "go"
    cases c
    · walk_at "go"
      exact ⟨Rd.szr rfl, fun t ht => k t ht⟩
    · walk_at "go"
      exact ⟨Rd.szr rfl, fun t ht => k t ht⟩
end
end Lv

set_option Elab.async false
set_option linter.all false
set_option maxRecDepth 100000
set_option maxHeartbeats 0
set_option pp.maxSteps 3000
/-! value_form. -/
namespace Rd
open PySem PySem.Spec PyProof.Rows L2 OwX
section
variable {K : PySem.W.Frag} {H : Hp} {Q : VK} {p : Addr}
theorem inV_str {z : Str} {ns : List Str} : inV (.str z) (ns.map V.str) = ns.contains z := by
  unfold inV
  induction ns with
  | nil => rfl
  | cons c cs ih =>
    rw [List.map_cons, List.any_cons, ih, List.contains_cons]
    congr 1
    show (c == z) = (z == c)
    exact Bool.beq_comm
theorem flat_strs {ns : List Str} : (ns.map V.str).all flatV = true := by
  rw [List.all_map]
  exact List.all_eq_true.mpr fun _ _ => rfl
theorem niStr {z : Str} {ns : List Str} (h : SqT K H p (ns.map V.str)) (k : Q (.bl (!ns.contains z)) H) : rIn K true (.str z) (.ref p) H Q :=
  ⟨p, _, rfl, .inr h, rfl, flat_strs, by rw [if_pos rfl, inV_str]; exact k⟩
end
end Rd
namespace Lv
open PySem PySem.Spec PyProof.Rows L2 OwX Rs
local macro_rules | `(tactic| walk_at "side") => `(tactic| first
  | exact (show CMul _ _ from .inl ⟨by decide, by decide⟩) | exact (show CMul _ _ from .inr ⟨by decide, by decide⟩) | exact (show CMul _ _ from .inl ⟨by omega, by omega⟩) | exact (show CMul _ _ from .inr ⟨by omega, by omega⟩)
  | exact (show CPow _ _ from ⟨by decide, by decide, by decide⟩)
  | exact (show CDiv _ _ from ⟨by decide, by decide⟩) | exact (show CDiv _ _ from ⟨by omega, by omega⟩)
  | exact (show (0 : Int) < _ by decide) | exact (show (0 : Int) < _ by omega) | exact (show ¬ (_ : Int) = 0 by decide) | exact (show ¬ (_ : Int) = 0 by omega) | assumption)
local macro_rules | `(tactic| walk_at "hp") => `(tactic| first
  | assumption | exact upd_same
  | (refine' SqL.of ?h1; (case h1 => walk_at "hp")) | (refine' SqT.of ?h1; (case h1 => walk_at "hp"))
  | (refine' Rd.new_app ?h1 ?h2; (case h1 => assumption); (case h2 => walk_at "hp"))
  | (refine' Rd.upd_app ?h1 ?h2; (case h1 => first | assumption | exact Ne.symm (by assumption)); (case h2 => walk_at "hp"))
  | (refine' Rd.ext_app ?h1 ?h2; (case h1 => assumption); (case h2 => walk_at "hp"))
  | (refine' Rd.ext_L ?h1 ?h2; (case h1 => assumption); (case h2 => walk_at "hp"))
  | (refine' Rd.ext_T ?h1 ?h2; (case h1 => assumption); (case h2 => walk_at "hp")))
local macro_rules | `(tactic| walk_at "go") => `(tactic| repeat (first
  | with_reducible refine Rd.con ?_
  | ((with_reducible refine' Rd.var ?h1 ?_); (case h1 => rfl))
  | with_reducible refine Rd.op ?_
  | with_reducible refine Rd.un ?_
  | with_reducible refine Rd.i0 ?_
  | with_reducible refine Rd.iu ?_
  | ((with_reducible refine Rd.iC ?h1 ?_); (case h1 => walk_at "side"))
  | with_reducible refine Rd.nil ?_
  | with_reducible refine Rd.cons ?_
  | with_reducible refine Rd.cb ?_
  | with_reducible refine Rd.int1 ?_
  | with_reducible refine Rd.intB ?_
  | with_reducible refine Rd.maxI ?_
  | with_reducible refine Rd.minI ?_
  | with_reducible refine Rd.blx ?_
  | with_reducible refine Rd.tst ?_
  | with_reducible refine Rd.tb_ ?_
  | with_reducible refine Rd.not_ ?_
  | with_reducible refine Rd.and_ ?_
  | with_reducible refine Rd.or_ ?_
  | with_reducible refine Rd.ifx ?_
  | with_reducible refine Rd.chain ?_
  | with_reducible refine Rd.andV ?_
  | with_reducible refine Rd.orV ?_
  | with_reducible refine Rd.notV ?_
  | with_reducible refine Rd.seq ?_
  | with_reducible refine Rd.asg ?_
  | with_reducible refine Rd.name ?_
  | with_reducible refine Rd.ret ?_
  | with_reducible refine Rd.ifS ?_
  | with_reducible refine Rd.next ?_
  | with_reducible refine Rd.drop ?_
  | with_reducible refine Rd.gsub ?_
  | with_reducible refine Rd.cr ?_
  | with_reducible refine Rd.crX ?_
  | with_reducible refine Rd.ixOS ?_
  | ((with_reducible refine' Rd.xfv ?h1 ?h2 ?h3 ?_); (case h1 => walk_at "hp"); (case h2 => rfl); (case h3 => rfl))
  | ((with_reducible refine' Rd.bmLv ?h1 ?h2 ?_); (case h1 => rfl); (case h2 => walk_at "hp"))
  | ((with_reducible refine' Rd.countL ?h1 ?_); (case h1 => walk_at "hp"))
  | ((with_reducible refine' Rd.sumL ?h1 ?_); (case h1 => walk_at "hp"))
  | ((with_reducible refine' Rd.listL ?h1 ?_); (case h1 => walk_at "hp"))
  | ((with_reducible refine' Rd.listT ?h1 ?_); (case h1 => walk_at "hp"))
  | with_reducible refine Rd.isNn ?_
  | with_reducible refine Rd.isNr ?_
  | with_reducible refine Rd.notNn ?_
  | with_reducible refine Rd.notNr ?_
  | with_reducible refine Rd.isB ?_
  | with_reducible refine Rd.notBtt ?_
  | with_reducible refine Rd.notBff ?_
  | with_reducible refine Rd.notBtf ?_
  | with_reducible refine Rd.notBft ?_
  | with_reducible refine Rd.notB ?_
  | with_reducible refine Rd.smeth ?_
  | with_reducible refine Rd.sl ?_
  | with_reducible refine Rd.po0 ?_
  | with_reducible refine Rd.poI ?_
  | with_reducible refine Rd.ixi ?_
  | with_reducible refine Rd.par ?_
  | with_reducible refine Rd.par3 ?_
  | with_reducible refine Rd.par33 ?_
  | ((with_reducible refine' Rd.aug ?h1 ?_); (case h1 => rfl))
  | with_reducible refine Rd.ipi ?_
  | with_reducible refine Rd.lstRg ?_
  | with_reducible refine Rd.rg1 ?_
  | with_reducible refine Rd.par2 ?_
  | with_reducible refine Rd.mkRS ?_
  | with_reducible refine Rd.callRS ?_
  | with_reducible refine Rd.mk ?_
  | with_reducible refine Rd.mkX ?_
  | with_reducible refine Rd.sF ?_
  | with_reducible refine Rd.dIn ?_
  | with_reducible refine Rd.dNi ?_
  | with_reducible refine Rd.dctL ?_
  | with_reducible refine Rd.dctT ?_
  | with_reducible refine Rd.forE ?_
  | with_reducible refine Rd.lc2T ?_
  | with_reducible refine Rd.lc2L ?_
  | with_reducible refine Rd.lc2R ?_
  | with_reducible refine Rd.inR2 ?_
  | with_reducible refine Rd.inR1 ?_
  | with_reducible refine Rd.inT ?_
  | with_reducible refine Rd.inL ?_
  | with_reducible refine Rd.lcT ?_
  | with_reducible refine Rd.lcL ?_
  | with_reducible refine Rd.lcR ?_
  | with_reducible refine Rd.forT ?_
  | with_reducible refine Rd.forL ?_
  | with_reducible refine Rd.forR ?_
  | with_reducible refine Rd.yes ?_
  | with_reducible refine iteT ?_
  | with_reducible refine iteF ?_
  | with_reducible refine Rd.iteNT ?_
  | with_reducible refine Rd.iteNF ?_
  | with_reducible refine Rd.tup ?_
  | with_reducible refine Rd.lst ?_
  | ((with_reducible refine Rd.eqs ?h1 ?_); (case h1 => rfl))
  | ((with_reducible refine Rd.nes ?h1 ?_); (case h1 => rfl))
  | ((with_reducible refine' Rd.ixL ?h1 ?h2 ?_); (case h1 => walk_at "hp"); (case h2 => first | rfl | assumption))
  | ((with_reducible refine' Rd.ixT ?h1 ?h2 ?_); (case h1 => walk_at "hp"); (case h2 => first | rfl | assumption))
  | ((with_reducible refine' Rd.lenL ?h1 ?_); (case h1 => walk_at "hp"))
  | ((with_reducible refine' Rd.lenT ?h1 ?_); (case h1 => walk_at "hp"))
  | ((with_reducible refine' Rd.setL ?h1 ?h2 ?_); (case h1 => walk_at "hp"); (case h2 => first | rfl | assumption))))
abbrev CX_ (K : PySem.W.Frag) : Addr := He.ga K "Fixtures"
def fsX (n : Int) (q : Addr) : List (Str × V) := [("teams", .int n), ("pairs", .ref q)]
theorem fsX_teams (n : Int) (q : Addr) : (fsX n q).lookup ("teams" : Str) = some (.int n) := rfl
theorem fsX_pairs (n : Int) (q : Addr) : (fsX n q).lookup ("pairs" : Str) = some (.ref q) := rfl
theorem PT.back {H : Hp} {l : Addr} {p : Pr} {v : V} {xs : List V} (h : PT (L2.upd H l (.lst xs)) p v) : PT H p v := by
  obtain ⟨a, rfl, h⟩ := h
  have : a ≠ l := fun z => by rw [z, upd_same] at h; cases h
  rw [upd_ne this] at h
  exact ⟨a, rfl, h⟩
/-- fixtures of n teams with these pairs -/
def FixAt (K : PySem.W.Frag) (H : Hp) (f : Addr) (n : Int) (ps : List Pr) : Prop := ∃ dx q, H f = some (.ins (CX_ K) dx (fsX n q)) ∧ PU H q ps
theorem FixAt.ext {K : PySem.W.Frag} {H H' : Hp} {f : Addr} {n : Int} {ps : List Pr} (h : FixAt K H f n ps) (e : Ext H H') : FixAt K H' f n ps := by
  obtain ⟨dx, q, h1, h2⟩ := h
  exact ⟨dx, q, e _ _ h1, h2.ext e⟩
def whats : List Str := ["margin", "scored", "away"]
def playsF (p : Pr) (team : Int) : Bool := [p.1, p.2].contains team
/-- the factors of one fixture's goals -/
def oneF (what : Str) (team : Int) (o : Option (List Int)) (p : Pr) : List Int :=
  if (playsF p team && scopeF p o) = true then [(goalF what (decide (p.1 = team))).1, (goalF what (decide (p.1 = team))).2] else [0, 0]
def partsF (ps : List Pr) (what : Str) (team : Int) (o : Option (List Int)) : List Int := ps.flatMap (oneF what team o)
theorem oneF_len (what : Str) (team : Int) (o : Option (List Int)) (p : Pr) : (oneF what team o p).length = 2 := by
  unfold oneF
  split <;> rfl
theorem partsF_len (ps : List Pr) (what : Str) (team : Int) (o : Option (List Int)) : (partsF ps what team o).length = 2 * ps.length := by
  unfold partsF
  induction ps with
  | nil => rfl
  | cons p ps ih => rw [List.flatMap_cons, List.length_append, ih, oneF_len, List.length_cons]; omega
theorem ext_none {H H' : Hp} {a : Addr} (e : Ext H H') (n : H' a = none) : H a = none := by
  cases h : H a with
  | none => rfl
  | some o => rw [e _ _ h] at n; cases n
theorem ext_mut {H H' : Hp} {l : Addr} {u : HO} (e : Ext H H') (n : H l = none) : Ext H (upd H' l u) := fun b o h => by
  have : b ≠ l := fun z => by rw [z, n] at h; cases h
  rw [upd_ne this]
  exact e b o h
section
variable {base : Heap} {P : Program} {w : World} {mg : Str → Option Value} {K : PySem.W.Frag}
theorem ok_BadWhat (T : Tx K mg) : ∃ fd, FnOk P w K mg base (L2.CX P w) 1 (a_BadWhat_init K) fd P_BadWhat_init (sp_ex (He.ga K "BadWhat") "what") ∧ Binds K fd P_BadWhat_init [] := by
  refine fnok T.d_BadWhat_init sc_BadWhat_init (fun _ _ _ _ _ _ us hl => match us, hl with | [_, _], _ => rfl) (fun vs H Q E h => ?_) (fun cdv A outer s H vs Q E hr h => ?_)
  · obtain ⟨a, v, rfl, _⟩ := h
    rfl
  · obtain ⟨a, v, rfl, ha, k⟩ := h
    refine ⟨_, pss_one (ps_ost (pv 0) (pv 1)), ?_⟩
    exact ⟨_, rfl, _, rfl, a, _, rfl, T.x_BadWhat.ox, T.n_BadWhat_what, .inl ⟨ha, fun dx hd ne => k dx hd ne⟩⟩
theorem ok_BadTeam (T : Tx K mg) : ∃ fd, FnOk P w K mg base (L2.CX P w) 1 (a_BadTeam_init K) fd P_BadTeam_init (sp_ex (He.ga K "BadTeam") "team") ∧ Binds K fd P_BadTeam_init [] := by
  refine fnok T.d_BadTeam_init sc_BadTeam_init (fun _ _ _ _ _ _ us hl => match us, hl with | [_, _], _ => rfl) (fun vs H Q E h => ?_) (fun cdv A outer s H vs Q E hr h => ?_)
  · obtain ⟨a, v, rfl, _⟩ := h
    rfl
  · obtain ⟨a, v, rfl, ha, k⟩ := h
    refine ⟨_, pss_one (ps_ost (pv 0) (pv 1)), ?_⟩
    exact ⟨_, rfl, _, rfl, a, _, rfl, T.x_BadTeam.ox, T.n_BadTeam_team, .inl ⟨ha, fun dx hd ne => k dx hd ne⟩⟩
theorem fld_teams (T : Tx K mg) {σ : L2.St} {H : Hp} {i : Nat} {f : Addr} {n : Int} {ps : List Pr} {Q : VK} (h : FixAt K H f n ps) (e : σ[i]? = some (some (.ref f))) (k : Q (.int n) H) : tFld K (tVar i) "teams" σ H Q := by
  obtain ⟨dx, q, h1, h2⟩ := h
  exact ⟨.ref f, e, f, _, dx, _, _, rfl, h1, T.c_Fixtures, T.n_Fixtures_teams, fsX_teams n q, k⟩
theorem fld_pairs (T : Tx K mg) {σ : L2.St} {H : Hp} {i : Nat} {f : Addr} {n : Int} {ps : List Pr} {Q : VK} (h : FixAt K H f n ps) (e : σ[i]? = some (some (.ref f))) (k : ∀ q, PU H q ps → Q (.ref q) H) : tFld K (tVar i) "pairs" σ H Q := by
  obtain ⟨dx, q, h1, h2⟩ := h
  exact ⟨.ref f, e, f, _, dx, _, _, rfl, h1, T.c_Fixtures, T.n_Fixtures_pairs, fsX_pairs n q, k q h2⟩
def sp_value_form (K : PySem.W.Frag) : Sp := fun vs H Q E => ∃ (f : Addr) (n : Int) (ps : List Pr) (what : Str) (team : Int) (b : V) (o : Option (List Int)), vs = [.ref f, .str what, .int team, b] ∧ FixAt K H f n ps ∧ ps.length ≤ 1000 ∧ BsAt H b o ∧
  (what ∉ whats → ∀ d H', Ext H H' → H' d = some (.xd [("what", .str what)]) → E (.ref (He.ga K "BadWhat")) (some d) H') ∧
  (what ∈ whats → ¬ (0 ≤ team ∧ team < n) → ∀ d H', Ext H H' → H' d = some (.xd [("team", .int team)]) → E (.ref (He.ga K "BadTeam")) (some d) H') ∧
  (what ∈ whats → 0 ≤ team → team < n → ∀ x H', Ext H H' → H x = none → FormAt K H' x (partsF ps what team o) → Q (.ref x) H')
theorem bd_value_form (T : Tx K mg) : Body P w K mg base N_value_form "value_form" (defScope s_value_form) (defBody s_value_form) (a_value_form K) 5 (sp_value_form K) := by
  obtain ⟨fdN_BadWhat, FN_BadWhat, bN_BadWhat⟩ := ok_BadWhat (P := P) (w := w) (base := base) T
  obtain ⟨fdN_BadTeam, FN_BadTeam, bN_BadTeam⟩ := ok_BadTeam (P := P) (w := w) (base := base) T
  intro cdv A outer s H vs Q E hr h
  obtain ⟨f, n, ps, what, team, b, o, rfl, F, len, hb, k1, k2, k3⟩ := h
  refine ⟨_, (pss_cons (ps_if (pt_cmpR (GW.niS (K := K)) (pv 1) (pe_tup (pa_cons pe_str (pa_cons pe_str (pa_cons pe_str pa_nil)))) rfl) (pss_one (ps_raise rfl (takes_of rfl rfl rfl rfl) (pmk_oex T.x_BadWhat.ox T.x_BadWhat.it T.x_BadWhat.ti FN_BadWhat (hr.mono (by decide)) bN_BadWhat .nil passL (by rfl) T.g_BadWhat (pa_cons (pv 1) pa_nil)))) pss_nil) (pss_cons (ps_if (pt_not (pt_chain op_le op_lt pe_int (pv 2) (GW.fld (K := K) (pv 0)))) (pss_one (ps_raise rfl (takes_of rfl rfl rfl rfl) (pmk_oex T.x_BadTeam.ox T.x_BadTeam.it T.x_BadTeam.ti FN_BadTeam (hr.mono (by decide)) bN_BadTeam .nil passL (by rfl) T.g_BadTeam (pa_cons (pv 2) pa_nil)))) pss_nil) (pss_cons (sx 4 sc_value_form.nd (pe_lst pa_nil)) (pss_cons (ps_for (passes_of rfl) rfl (GW.pi_tup (K := K) (GW.fld (K := K) (pv 0))) (gx 5 sc_value_form.nd) (pss_one (ps_if (PW.pt (pw_and (pt_cmpR (GW.inS (K := K)) (pv 2) (pv 5) rfl) (pw_and1 (pt_val (pe_cr (ok_in_scope T) (hr.mono (by decide)) (kp_of T.d_in_scope) (by rfl) T.g_in_scope (pa_cons (pv 5) (pa_cons (pv 3) pa_nil))))))) (pss_one (ps_expr (GW.bm (K := K) PySem.F.plainAttrs_list PySem.F.slot_list_extend PySem.F.type_list_extend (GW.mt_extT (K := K)) (pv 4) (pa_cons (pe_cr (ok_goal_parts T) (hr.mono (by decide)) (kp_of T.d_goal_parts) (by rfl) T.g_goal_parts (pa_cons (pv 1) (pa_cons (pe_cmpR op_eq (pe_ix (GW.ixT (K := K)) (pv 5) pe_int (fun _ _ => rfl)) (pv 2) (nomark _)) pa_nil))) pa_nil)))) (pss_one (ps_expr (GW.bm (K := K) PySem.F.plainAttrs_list PySem.F.slot_list_extend PySem.F.type_list_extend (GW.mt_extT (K := K)) (pv 4) (pa_cons (pe_tup (pa_cons pe_int (pa_cons pe_int pa_nil))) pa_nil))))))) (pss_one (ps_ret (pe_mk T.k_Form (ok_Form_init T) (hr.mono (by decide)) (by rfl) T.g_Form (pa_cons (pv 4) pa_nil)))))))), ?_⟩
  have badT : ∀ {H' : Hp} {σ : L2.St}, Ext H H' → what ∈ whats → ¬ (0 ≤ team ∧ team < n) → σ[2]? = some (some (.int team)) → tMkO (He.ga K "BadTeam") (sp_ex (He.ga K "BadTeam") "team") [] (tCons (tVar 2) tNil) σ H' fun cls d H' => E cls d H' :=
    fun e c1 c2 h => raise_ex h fun d hd => k2 c1 c2 d _ (e.trans (Ext.upd hd)) upd_same
  walk_at "go"
  refine ⟨Rd.szr rfl, fun u hu => ?_⟩
  refine Rd.niStr (ns := whats) (SqT.of upd_same) ?_
  have e0 := Ext.upd (o := .tup (whats.map V.str)) hu
  change ∃ k, V.bl (!whats.contains what) = V.bl k ∧ _
  refine ⟨_, rfl, ?_⟩
  cases c1 : whats.contains what with
  | false =>
    walk_at "go"
    exact raise_ex rfl fun d hd => k1 (fun z => by rw [List.contains_iff_mem.mpr z] at c1; cases c1) d _ (e0.trans (Ext.upd hd)) upd_same
  | true =>
    have c1 : what ∈ whats := List.contains_iff_mem.mp c1
    have F := F.ext e0
    have hb := hb.ext e0
    change if (!true) = true then _ else tNext _ _ (upd H u (.tup (whats.map V.str)))
    generalize upd H u (.tup (whats.map V.str)) = H1 at e0 F hb
    walk_at "go"
    refine Rd.ited (fun c2 => ?_) (fun c2 => ?_)
    rotate_left
    · walk_at "go"
      exact badT e0 c1 (fun z => c2 z.1) rfl
    walk_at "go"
    refine fld_teams T F rfl ?_
    walk_at "go"
    refine Rd.iten (fun c3 => badT e0 c1 (fun z => c3 z.2) rfl) (fun c3 => ?_)
    have k3 := k3 c1 c2 c3
    clear badT k1 k2
    walk_at "go"
    refine ⟨Rd.szr rfl, fun l hl => ?_⟩
    walk_at "go"
    refine fld_pairs T (F.ext (Ext.upd hl)) rfl fun q hq => ?_
    obtain ⟨vs, hvs, pr⟩ := hq
    have hvs1 : H1 q = some (.tup vs) := by
      have : q ≠ l := fun z => by rw [z, upd_same] at hvs; cases hvs
      rw [upd_ne this] at hvs
      exact hvs
    refine ⟨q, rfl, ⟨vs, SqT.of hvs⟩, ?_⟩
    refine for_tup (xs := vs) (fun i σ H' => ∃ v, σ = [some (.ref f), some (.str what), some (.int team), some b, some (.ref l), v] ∧ Ext H1 H' ∧ H' l = some (.lst ((partsF (ps.take i) what team o).map V.int))) ⟨none, rfl, Ext.upd hl, upd_same⟩ ?_ ?_ ?_
    · rintro i σ H' _ ⟨v, _, e, _⟩
      exact SqT.of (e _ _ hvs1)
    · rintro i y σ H' hy ⟨v, rfl, e, hl2⟩
      obtain ⟨p, hp, hpy⟩ := Rd.paired_back pr hy
      have hpy := hpy.back.ext e
      obtain ⟨t, rfl, ht⟩ := id hpy
      have il : i < ps.length := (List.getElem?_eq_some_iff.mp hp).1
      have len2 : (partsF (ps.take i) what team o).length ≤ 2000 := by
        rw [partsF_len, List.length_take]
        omega
      have len3 : ∀ {zs : List V}, zs.length = 2 → ((partsF (ps.take i) what team o).map V.int).length + zs.length ≤ 100000 := fun hz => by
        rw [List.length_map, hz]
        omega
      have step : ∀ {H2 : Hp} (zs : List Int), Ext H1 H2 → zs = oneF what team o p → H2 l = some (.lst ((partsF (ps.take i) what team o).map V.int ++ zs.map V.int)) → Ext H1 H2 ∧ H2 l = some (.lst ((partsF (ps.take (i + 1)) what team o).map V.int)) := fun {H2} zs e2 ez h2 => by
        refine ⟨e2, ?_⟩
        rw [h2, List.take_succ, hp, ez]
        unfold partsF
        rw [List.flatMap_append, List.map_append]
        simp
      walk_at "go"
      refine Rd.inI (ns := [p.1, p.2]) (.inl ht) ?_
      refine ⟨_, rfl, ?_⟩
      cases c4 : [p.1, p.2].contains team with
      | false =>
        walk_at "go"
        refine ⟨Rd.szr rfl, fun t0 ht0 => ?_⟩
        walk_at "go"
        refine Rd.extT (zs := [.int _, .int _]) (Rd.new_app ht0 hl2) (SqT.of upd_same) (Rd.sz (len3 rfl)) ?_
        refine ⟨_, rfl, step [0, 0] (ext_mut (e.trans (Ext.upd ht0)) hl) ?_ upd_same⟩
        unfold oneF playsF
        rw [c4]
        rfl
      | true =>
        walk_at "go"
        refine ⟨_, b, p, o, rfl, hpy, hb.ext e, ?_⟩
        refine ⟨_, rfl, ?_⟩
        cases c5 : scopeF p o with
        | false =>
          walk_at "go"
          refine ⟨Rd.szr rfl, fun t0 ht0 => ?_⟩
          walk_at "go"
          refine Rd.extT (zs := [.int _, .int _]) (Rd.new_app ht0 hl2) (SqT.of upd_same) (Rd.sz (len3 rfl)) ?_
          refine ⟨_, rfl, step [0, 0] (ext_mut (e.trans (Ext.upd ht0)) hl) ?_ upd_same⟩
          unfold oneF
          rw [c5, Bool.and_false]
          rfl
        | true =>
          walk_at "go"
          refine ⟨what, _, rfl, fun t0 ht0 => ?_⟩
          walk_at "go"
          refine Rd.extT (zs := [.int _, .int _]) (Rd.new_app ht0 hl2) (SqT.of upd_same) (Rd.sz (len3 rfl)) ?_
          refine ⟨_, rfl, step [_, _] (ext_mut (e.trans (Ext.upd ht0)) hl) ?_ upd_same⟩
          unfold oneF playsF
          rw [c4, c5]
          simp
    · rintro σ H' ⟨v, rfl, e, hl2⟩
      rw [← Rd.paired_len pr, List.take_length] at hl2
      walk_at "go"
      exact mk_form (.inl hl2) fun x H2 e2 nx X => k3 x H2 ((e0.trans e).trans e2) (ext_none (e0.trans e) nx) X
theorem ok_value_form (T : Tx K mg) : FnR P w K mg base (L2.CX P w) 6 (a_value_form K) (sp_value_form K) :=
  (fnrD (dvs := [V.non]) 4 1 T.d_value_form sc_value_form (by simp) rfl (fun _ _ _ _ _ _ _ us its h1 h2 => match us, its, h1, h2 with | [_, _, _, _], [_], _, _ => ⟨_, rfl, rfl⟩) (fun vs H Q E h => by
    obtain ⟨f, n, ps, what, team, b, o, rfl, _⟩ := h
    rfl) (bd_value_form T)).imp fun vs H Q E q => by rw [show ([V.non] : List V).drop 1 = [] from rfl, List.append_nil]; exact q
theorem ok_value_form_d (T : Tx K mg) : FnR P w K mg base (L2.CX P w) 6 (a_value_form K) fun vs H Q E => sp_value_form K (vs ++ [.non]) H Q E :=
  fnrD (dvs := [V.non]) 3 0 T.d_value_form sc_value_form (by simp) rfl (fun _ _ _ _ _ _ _ us its h1 h2 => match us, its, h1, h2 with | [_, _, _], [_], _, _ => ⟨_, rfl, rfl⟩) (fun vs H Q E h => by
    obtain ⟨f, n, ps, what, team, b, o, rfl, _⟩ := h
    rfl) (bd_value_form T)
end
end Lv

set_option Elab.async false
set_option linter.all false
set_option maxRecDepth 100000
set_option maxHeartbeats 0
set_option pp.maxSteps 3000
/-! Fixtures: made, compared. -/
namespace Lv
open PySem PySem.Spec PyProof.Rows L2 OwX Rs
local macro_rules | `(tactic| walk_at "side") => `(tactic| first
  | exact (show CMul _ _ from .inl ⟨by decide, by decide⟩) | exact (show CMul _ _ from .inr ⟨by decide, by decide⟩) | exact (show CMul _ _ from .inl ⟨by omega, by omega⟩) | exact (show CMul _ _ from .inr ⟨by omega, by omega⟩)
  | exact (show CPow _ _ from ⟨by decide, by decide, by decide⟩)
  | exact (show CDiv _ _ from ⟨by decide, by decide⟩) | exact (show CDiv _ _ from ⟨by omega, by omega⟩)
  | exact (show (0 : Int) < _ by decide) | exact (show (0 : Int) < _ by omega) | exact (show ¬ (_ : Int) = 0 by decide) | exact (show ¬ (_ : Int) = 0 by omega) | assumption)
local macro_rules | `(tactic| walk_at "hp") => `(tactic| first
  | assumption | exact upd_same
  | (refine' SqL.of ?h1; (case h1 => walk_at "hp")) | (refine' SqT.of ?h1; (case h1 => walk_at "hp"))
  | (refine' Rd.new_app ?h1 ?h2; (case h1 => assumption); (case h2 => walk_at "hp"))
  | (refine' Rd.upd_app ?h1 ?h2; (case h1 => first | assumption | exact Ne.symm (by assumption)); (case h2 => walk_at "hp"))
  | (refine' Rd.ext_app ?h1 ?h2; (case h1 => assumption); (case h2 => walk_at "hp"))
  | (refine' Rd.ext_L ?h1 ?h2; (case h1 => assumption); (case h2 => walk_at "hp"))
  | (refine' Rd.ext_T ?h1 ?h2; (case h1 => assumption); (case h2 => walk_at "hp")))
local macro_rules | `(tactic| walk_at "go") => `(tactic| repeat (first
  | with_reducible refine Rd.con ?_
  | ((with_reducible refine' Rd.var ?h1 ?_); (case h1 => rfl))
  | with_reducible refine Rd.op ?_
  | with_reducible refine Rd.un ?_
  | with_reducible refine Rd.i0 ?_
  | with_reducible refine Rd.iu ?_
  | ((with_reducible refine Rd.iC ?h1 ?_); (case h1 => walk_at "side"))
  | with_reducible refine Rd.nil ?_
  | with_reducible refine Rd.cons ?_
  | with_reducible refine Rd.cb ?_
  | with_reducible refine Rd.int1 ?_
  | with_reducible refine Rd.intB ?_
  | with_reducible refine Rd.maxI ?_
  | with_reducible refine Rd.minI ?_
  | with_reducible refine Rd.blx ?_
  | with_reducible refine Rd.tst ?_
  | with_reducible refine Rd.tb_ ?_
  | with_reducible refine Rd.not_ ?_
  | with_reducible refine Rd.and_ ?_
  | with_reducible refine Rd.or_ ?_
  | with_reducible refine Rd.ifx ?_
  | with_reducible refine Rd.chain ?_
  | with_reducible refine Rd.andV ?_
  | with_reducible refine Rd.orV ?_
  | with_reducible refine Rd.notV ?_
  | with_reducible refine Rd.seq ?_
  | with_reducible refine Rd.asg ?_
  | with_reducible refine Rd.name ?_
  | with_reducible refine Rd.ret ?_
  | with_reducible refine Rd.ifS ?_
  | with_reducible refine Rd.next ?_
  | with_reducible refine Rd.drop ?_
  | with_reducible refine Rd.gsub ?_
  | with_reducible refine Rd.cr ?_
  | with_reducible refine Rd.crX ?_
  | with_reducible refine Rd.ixOS ?_
  | ((with_reducible refine' Rd.xfv ?h1 ?h2 ?h3 ?_); (case h1 => walk_at "hp"); (case h2 => rfl); (case h3 => rfl))
  | ((with_reducible refine' Rd.bmLv ?h1 ?h2 ?_); (case h1 => rfl); (case h2 => walk_at "hp"))
  | ((with_reducible refine' Rd.countL ?h1 ?_); (case h1 => walk_at "hp"))
  | ((with_reducible refine' Rd.sumL ?h1 ?_); (case h1 => walk_at "hp"))
  | ((with_reducible refine' Rd.listL ?h1 ?_); (case h1 => walk_at "hp"))
  | ((with_reducible refine' Rd.listT ?h1 ?_); (case h1 => walk_at "hp"))
  | with_reducible refine Rd.isNn ?_
  | with_reducible refine Rd.isNr ?_
  | with_reducible refine Rd.notNn ?_
  | with_reducible refine Rd.notNr ?_
  | with_reducible refine Rd.isB ?_
  | with_reducible refine Rd.notBtt ?_
  | with_reducible refine Rd.notBff ?_
  | with_reducible refine Rd.notBtf ?_
  | with_reducible refine Rd.notBft ?_
  | with_reducible refine Rd.notB ?_
  | with_reducible refine Rd.smeth ?_
  | with_reducible refine Rd.sl ?_
  | with_reducible refine Rd.po0 ?_
  | with_reducible refine Rd.poI ?_
  | with_reducible refine Rd.ixi ?_
  | with_reducible refine Rd.par ?_
  | with_reducible refine Rd.par3 ?_
  | with_reducible refine Rd.par33 ?_
  | ((with_reducible refine' Rd.aug ?h1 ?_); (case h1 => rfl))
  | with_reducible refine Rd.ipi ?_
  | with_reducible refine Rd.lstRg ?_
  | with_reducible refine Rd.rg1 ?_
  | with_reducible refine Rd.par2 ?_
  | with_reducible refine Rd.mkRS ?_
  | with_reducible refine Rd.callRS ?_
  | with_reducible refine Rd.mk ?_
  | with_reducible refine Rd.mkX ?_
  | with_reducible refine Rd.sF ?_
  | with_reducible refine Rd.dIn ?_
  | with_reducible refine Rd.dNi ?_
  | with_reducible refine Rd.dctL ?_
  | with_reducible refine Rd.dctT ?_
  | with_reducible refine Rd.forE ?_
  | with_reducible refine Rd.lc2T ?_
  | with_reducible refine Rd.lc2L ?_
  | with_reducible refine Rd.lc2R ?_
  | with_reducible refine Rd.inR2 ?_
  | with_reducible refine Rd.inR1 ?_
  | with_reducible refine Rd.inT ?_
  | with_reducible refine Rd.inL ?_
  | with_reducible refine Rd.lcT ?_
  | with_reducible refine Rd.lcL ?_
  | with_reducible refine Rd.lcR ?_
  | with_reducible refine Rd.forT ?_
  | with_reducible refine Rd.forL ?_
  | with_reducible refine Rd.forR ?_
  | with_reducible refine Rd.yes ?_
  | with_reducible refine iteT ?_
  | with_reducible refine iteF ?_
  | with_reducible refine Rd.iteNT ?_
  | with_reducible refine Rd.iteNF ?_
  | with_reducible refine Rd.tup ?_
  | with_reducible refine Rd.lst ?_
  | ((with_reducible refine Rd.eqs ?h1 ?_); (case h1 => rfl))
  | ((with_reducible refine Rd.nes ?h1 ?_); (case h1 => rfl))
  | ((with_reducible refine' Rd.ixL ?h1 ?h2 ?_); (case h1 => walk_at "hp"); (case h2 => first | rfl | assumption))
  | ((with_reducible refine' Rd.ixT ?h1 ?h2 ?_); (case h1 => walk_at "hp"); (case h2 => first | rfl | assumption))
  | ((with_reducible refine' Rd.lenL ?h1 ?_); (case h1 => walk_at "hp"))
  | ((with_reducible refine' Rd.lenT ?h1 ?_); (case h1 => walk_at "hp"))
  | ((with_reducible refine' Rd.setL ?h1 ?h2 ?_); (case h1 => walk_at "hp"); (case h2 => first | rfl | assumption))))
/-- pairs that make fixtures of n teams -/
structure GoodP (n : Int) (ps : List Pr) : Prop where
  lo : 2 ≤ n
  hi : n ≤ 6
  two : ∀ p ∈ ps, twoF p n = true
  nd : ps.Nodup
theorem nd_take {α : Type} {xs : List α} {i : Nat} {x : α} (nd : xs.Nodup) (h : xs[i]? = some x) : x ∉ xs.take i := by
  intro hx
  obtain ⟨hi, he⟩ := List.getElem?_eq_some_iff.mp h
  have e : xs = xs.take i ++ x :: xs.drop (i + 1) := by rw [← he, ← List.drop_eq_getElem_cons hi, List.take_append_drop]
  rw [e, List.nodup_append] at nd
  exact nd.2.2 x hx x List.mem_cons_self rfl
section
variable {base : Heap} {P : Program} {w : World} {mg : Str → Option Value} {K : PySem.W.Frag}
theorem ok_BadTeams (T : Tx K mg) : ∃ fd, FnOk P w K mg base (L2.CX P w) 1 (a_BadTeams_init K) fd P_BadTeams_init (sp_ex (He.ga K "BadTeams") "teams") ∧ Binds K fd P_BadTeams_init [] := by
  refine fnok T.d_BadTeams_init sc_BadTeams_init (fun _ _ _ _ _ _ us hl => match us, hl with | [_, _], _ => rfl) (fun vs H Q E h => ?_) (fun cdv A outer s H vs Q E hr h => ?_)
  · obtain ⟨a, v, rfl, _⟩ := h
    rfl
  · obtain ⟨a, v, rfl, ha, k⟩ := h
    refine ⟨_, pss_one (ps_ost (pv 0) (pv 1)), ?_⟩
    exact ⟨_, rfl, _, rfl, a, _, rfl, T.x_BadTeams.ox, T.n_BadTeams_teams, .inl ⟨ha, fun dx hd ne => k dx hd ne⟩⟩
theorem ok_BadPair (T : Tx K mg) : ∃ fd, FnOk P w K mg base (L2.CX P w) 1 (a_BadPair_init K) fd P_BadPair_init (sp_ex (He.ga K "BadPair") "index") ∧ Binds K fd P_BadPair_init [] := by
  refine fnok T.d_BadPair_init sc_BadPair_init (fun _ _ _ _ _ _ us hl => match us, hl with | [_, _], _ => rfl) (fun vs H Q E h => ?_) (fun cdv A outer s H vs Q E hr h => ?_)
  · obtain ⟨a, v, rfl, _⟩ := h
    rfl
  · obtain ⟨a, v, rfl, ha, k⟩ := h
    refine ⟨_, pss_one (ps_ost (pv 0) (pv 1)), ?_⟩
    exact ⟨_, rfl, _, rfl, a, _, rfl, T.x_BadPair.ox, T.n_BadPair_index, .inl ⟨ha, fun dx hd ne => k dx hd ne⟩⟩
def sp_Fixtures_init (K : PySem.W.Frag) : Sp := fun vs H Q _ => ∃ (x dx l : Addr) (n : Int) (ps : List Pr), vs = [.ref x, .int n, .ref l] ∧ H x = some (.ins (CX_ K) dx []) ∧ PL H l ps ∧ ps.length ≤ 1000 ∧ GoodP n ps ∧
  ∀ H', (∀ b o, b ≠ x → H b = some o → H' b = some o) → FixAt K H' x n ps → Q .non H'
theorem ok_Fixtures_init (T : Tx K mg) : FnR P w K mg base (L2.CX P w) 3 (a_Fixtures_init K) (sp_Fixtures_init K) := by
  obtain ⟨fdN_BadTeams, FN_BadTeams, bN_BadTeams⟩ := ok_BadTeams (P := P) (w := w) (base := base) T
  obtain ⟨fdN_BadPair, FN_BadPair, bN_BadPair⟩ := ok_BadPair (P := P) (w := w) (base := base) T
  refine fnr T.d_Fixtures_init sc_Fixtures_init (fun _ _ _ _ _ _ us hl => match us, hl with | [_, _, _], _ => rfl) (fun vs H Q E h => ?_) (fun cdv A outer s H vs Q E hr h => ?_)
  · obtain ⟨x, dx, l, n, ps, rfl, _⟩ := h
    rfl
  · obtain ⟨x, dx, l, n, ps, rfl, hx, ⟨ys, hys, pr⟩, hl, G, k⟩ := h
    refine ⟨_, (pss_cons (ps_if (pt_not (pt_chain op_le op_le (C8.pe_gc (by rfl) (OwX.gcI T.v_FEWEST)) (pv 1) (C8.pe_gc (by rfl) (OwX.gcI T.v_MOST)))) (pss_one (ps_raise rfl (takes_of rfl rfl rfl rfl) (pmk_oex T.x_BadTeams.ox T.x_BadTeams.it T.x_BadTeams.ti FN_BadTeams (hr.mono (by decide)) bN_BadTeams .nil passL (by rfl) T.g_BadTeams (pa_cons (pv 1) pa_nil)))) pss_nil) (pss_cons (sx 3 sc_Fixtures_init.nd (pe_lst pa_nil)) (pss_cons (ps_for (passes_of rfl) rfl (GW.enum (K := K) (by rfl) T.f_enumerate (pa_cons (pv 2) pa_nil)) (GW.tup (K := K) (n := 2) rfl (pgs_cons (gx 4 sc_Fixtures_init.nd) (pgs_cons (gx 5 sc_Fixtures_init.nd) pgs_nil))) (pss_cons (ps_if (PW.pt (pw_or (pt_not (pt_val (pe_cr (ok_two_teams T) (hr.mono (by decide)) (kp_of T.d_two_teams) (by rfl) T.g_two_teams (pa_cons (pv 5) (pa_cons (pv 1) pa_nil))))) (pw_or1 (pt_cmpR (GW.inD hr.units65 (K := K)) (pe_tup (pa_cons (pe_ix (GW.ixT (K := K)) (pv 5) pe_int (fun _ _ => rfl)) (pa_cons (pe_ix (GW.ixT (K := K)) (pv 5) pe_int (fun _ _ => rfl)) pa_nil))) (pv 3) rfl)))) (pss_one (ps_raise rfl (takes_of rfl rfl rfl rfl) (pmk_oex T.x_BadPair.ox T.x_BadPair.it T.x_BadPair.ti FN_BadPair (hr.mono (by decide)) bN_BadPair .nil passL (by rfl) T.g_BadPair (pa_cons (pv 4) pa_nil)))) pss_nil) (pss_one (ps_expr (GW.bm (K := K) PySem.F.plainAttrs_list PySem.F.slot_list_append PySem.F.type_list_append mt_append (pv 3) (pa_cons (pe_tup (pa_cons (pe_ix (GW.ixT (K := K)) (pv 5) pe_int (fun _ _ => rfl)) (pa_cons (pe_ix (GW.ixT (K := K)) (pv 5) pe_int (fun _ _ => rfl)) pa_nil))) pa_nil)))))) (pss_cons (ps_fld (pv 0) (pv 1) rfl) (pss_one (ps_fld (pv 0) (pe_callTy (Rd.c_tuple (K := K)) (by rfl) T.f_tuple Rd.bt_tuple (pa_cons (pv 3) pa_nil)) rfl)))))), ?_⟩
    have nlx : l ≠ x := ne_of hys hx (by intro z; cases z)
    walk_at "go"
    rw [decide_eq_true G.lo]
    walk_at "go"
    rw [decide_eq_true G.hi]
    walk_at "go"
    refine ⟨Rd.szr rfl, fun kp hkp => ?_⟩
    walk_at "go"
    refine ⟨l, ys, rfl, SqL.of (Rd.new_app hkp hys), ?_⟩
    refine for_it (walk_enum (K := K) (a := l) (xs := ys)) (fun i σ H' => ∃ v4 v5, σ = [some (.ref x), some (.int n), some (.ref l), some (.ref kp), v4, v5] ∧ Ext H H' ∧ PL H' kp (ps.take i)) ⟨_, _, rfl, Ext.upd hkp, [], upd_same, .nil⟩ ?_ ?_ ?_
    · rintro i σ H' _ ⟨_, _, _, e, _⟩
      exact SqL.of (e _ _ hys)
    · rintro i v σ H1 H2 hi ⟨v4, v5, rfl, e1, hk⟩ ⟨t, ix, y, rfl, nt, rfl, eix, hy⟩
      obtain rfl := Option.some.inj eix
      obtain ⟨p, hp, hpy⟩ := Rd.paired_back pr hy
      have e2 : Ext H (upd H1 t (.tup [.int (i : Nat), y])) := e1.trans (Ext.upd nt)
      have hk := hk.ext (Ext.upd (o := .tup [.int (i : Nat), y]) nt)
      have hpy := hpy.ext e2
      obtain ⟨a, rfl, ha⟩ := id hpy
      refine ⟨t, _, rfl, SqT.of upd_same, rfl, _, _, rfl, _, _, rfl, rfl, ?_⟩
      generalize upd H1 t (.tup [.int (i : Nat), .ref a]) = H3 at e2 ha hk hpy
      have il : i < ps.length := (List.getElem?_eq_some_iff.mp hp).1
      have hmem : p ∈ ps := List.mem_of_getElem? hp
      walk_at "go"
      refine ⟨.ref a, p, n, rfl, hpy, G.two p hmem, ?_⟩
      walk_at "go"
      refine ⟨Rd.szr rfl, fun t2 ht2 => ?_⟩
      have hk := hk.ext (Ext.upd (o := .tup [.int p.1, .int p.2]) ht2)
      have ha2 := Rd.new_app (u := .tup [.int p.1, .int p.2]) ht2 ha
      have e2 := e2.trans (Ext.upd (o := .tup [.int p.1, .int p.2]) ht2)
      walk_at "go"
      refine inP hk ⟨t2, rfl, upd_same⟩ fun c hc => ?_
      generalize upd H3 t2 (.tup [.int p.1, .int p.2]) = H4 at hk ha2 e2
      have c0 : c = false := Bool.eq_false_iff.mpr fun z => nd_take G.nd hp (hc.mp z)
      subst c0
      obtain ⟨ks, hks, prk⟩ := id hk
      walk_at "go"
      refine ⟨Rd.szr rfl, fun t3 ht3 => ?_⟩
      walk_at "go"
      have hk := hk.ext (Ext.upd (o := .tup [.int p.1, .int p.2]) ht3)
      refine appP hk (q := p) ⟨t3, rfl, upd_same⟩ (by rw [List.length_take]; omega) fun zs u hzs hk5 => ?_
      refine ⟨_, _, rfl, ext_mut (e2.trans (Ext.upd ht3)) hkp, ?_⟩
      rw [List.take_succ, hp]
      exact hk5
    rintro σ H1 ⟨v4, v5, rfl, e1, hk⟩
    rw [← Rd.paired_len pr, List.take_length] at hk
    have hx1 := e1 _ _ hx
    walk_at "go"
    refine ⟨x, CX_ K, dx, [], rfl, hx1, T.c_Fixtures, T.n_Fixtures_teams, by decide, ?_⟩
    obtain ⟨ks, hks, prk⟩ := id hk
    have nkx : kp ≠ x := ne_of hks hx1 (by intro z; cases z)
    have hx2 : (upd H1 x (.ins (CX_ K) dx (putF "teams" (.int n) []))) x = some (.ins (CX_ K) dx [("teams", .int n)]) := upd_same
    have e2 : ∀ b o, b ≠ x → H1 b = some o → (upd H1 x (.ins (CX_ K) dx (putF "teams" (.int n) []))) b = some o := fun b o ne h => by rw [upd_ne ne]; exact h
    generalize upd H1 x (.ins (CX_ K) dx (putF "teams" (.int n) [])) = H2 at hx2 e2
    have hk2 := e2 _ _ nkx hks
    have prk := Rd.paired_imp (fun q v (z : PT H1 q v) => show PT H2 q v from by
      obtain ⟨a, e, h⟩ := z
      exact ⟨a, e, e2 _ _ (ne_of h hx1 (by intro z; cases z)) h⟩) prk
    show tCB (Rd.rTupOf K) (tCons (tVar 3) tNil) _ _ _
    walk_at "go"
    refine Rd.tupL (SqL.of hk2) fun q hq => ?_
    have nq : q ≠ x := fun z => by rw [z, hx2] at hq; cases hq
    refine ⟨_, rfl, x, CX_ K, dx, _, rfl, by rw [upd_ne nq.symm]; exact hx2, T.c_Fixtures, T.n_Fixtures_pairs, Nat.le_of_ble_eq_true rfl, ?_⟩
    refine k _ (fun b o ne e => ?_) ⟨dx, q, upd_same, ks, ?_, ?_⟩
    · rw [upd_ne ne, upd_ne (ne_of_none (e2 _ _ ne (e1 _ _ e)) hq)]
      exact e2 _ _ ne (e1 _ _ e)
    · rw [upd_ne nq, upd_same]
    · refine Rd.paired_imp (fun p v (z : PT H2 p v) => ?_) prk
      obtain ⟨a, e, h⟩ := z
      exact ⟨a, e, by rw [upd_ne (ne_of h hx2 (by intro z; cases z)), upd_ne (ne_of_none h hq)]; exact h⟩
/-- Fixtures(n, l) -/
theorem mk_fix {H : Hp} {l : Addr} {n : Int} {ps : List Pr} {Q : VK} {E : XK} (hl : PL H l ps) (len : ps.length ≤ 1000) (G : GoodP n ps) (k : ∀ x H', Ext H H' → H x = none → FixAt K H' x n ps → Q (.ref x) H') : Rd.MkR (CX_ K) (sp_Fixtures_init K) E [.int n, .ref l] H Q := by
  intro x dx hx hd ne
  obtain ⟨vs, hvs, pr⟩ := hl
  refine ⟨x, dx, l, n, ps, rfl, upd_same, ⟨vs, ?_, Rd.paired_imp (fun p v (z : PT H p v) => ?_) pr⟩, len, G, fun H' kp F => ⟨rfl, k x H' (fun b o e => kp b o (ne_of_none e hx) ?_) hx F⟩⟩
  · rw [upd_ne (ne_of_none hvs hx), upd_ne (ne_of_none hvs hd)]; exact hvs
  · obtain ⟨a, e, h⟩ := z
    exact ⟨a, e, by rw [upd_ne (ne_of_none h hx), upd_ne (ne_of_none h hd)]; exact h⟩
  · rw [upd_ne (ne_of_none e hx), upd_ne (ne_of_none e hd)]; exact e
/-! ### == -/
def sp_Fixtures_eq (K : PySem.W.Frag) : Sp := fun vs H Q _ => ∃ (a b : Addr) (n m : Int) (ps qs : List Pr), vs = [.ref a, .ref b] ∧ FixAt K H a n ps ∧ FixAt K H b m qs ∧ Q (.bl (decide (n = m) && decide (ps = qs))) H
theorem ok_Fixtures_eq (T : Tx K mg) : FnR P w K mg base (L2.CX P w) 1 (a_Fixtures_eq K) (sp_Fixtures_eq K) := by
  refine fnr T.d_Fixtures_eq sc_Fixtures_eq (fun _ _ _ _ _ _ us hl => match us, hl with | [_, _], _ => rfl) (fun vs H Q E h => ?_) (fun cdv A outer s H vs Q E hr h => ?_)
  · obtain ⟨a, b, n, m, ps, qs, rfl, _⟩ := h
    rfl
  · obtain ⟨a, b, n, m, ps, qs, rfl, F, G, k⟩ := h
    refine ⟨_, (pss_one (ps_ret (pe_and (pe_callB (Rd.c_isi (K := K)) (by rfl) T.f_isinstance Rd.bt_isinstance (pa_cons (pv 1) (pa_cons (pe_glob (v := .ref (He.ga K "Fixtures")) (by rfl) T.g_Fixtures rfl) pa_nil))) (pe_and (pe_cmpR op_eq (GW.fld (K := K) (pv 0)) (GW.fld (K := K) (pv 1)) (nomark _)) (pe_one (pe_cmpR (GW.eqD hr.units (K := K)) (GW.fld (K := K) (pv 0)) (GW.fld (K := K) (pv 1)) (nomark _))))))), ?_⟩
    walk_at "go"
    obtain ⟨dy, r, h1, h2⟩ := id G
    refine ⟨_, _, _, _, true, rfl, .own _, tyx_ins T.c_Fixtures T.i_Fixtures h1, T.is_Fixtures, ?_⟩
    refine ⟨true, rfl, ?_⟩
    refine Rd.iteb (fun _ => ?_) (fun z => by cases z)
    walk_at "go"
    refine fld_teams T F rfl ?_
    walk_at "go"
    refine fld_teams T G rfl ?_
    walk_at "go"
    refine Rd.ited (fun c => ?_) (fun c => ?_)
    · rw [decide_eq_true (V.int.inj c), Bool.true_and] at k
      walk_at "go"
      refine fld_pairs T F rfl fun q hq => ?_
      walk_at "go"
      refine fld_pairs T G rfl fun q2 hq2 => ?_
      exact Rd.eqD encP_ok.tuple (dp_pu hq) (dp_pu hq2) k
    · rw [decide_eq_false (fun z => c (by rw [z])), Bool.false_and] at k
      exact k
end
end Lv

set_option Elab.async false
set_option linter.all false
set_option maxRecDepth 100000
set_option maxHeartbeats 0
/-! The law's own draws: the pool, a draw, a number. -/
namespace Lv
open PySem PySem.Spec PyProof.Rows L2 OwX
local macro_rules | `(tactic| walk_at "side") => `(tactic| first
  | exact (show CMul _ _ from .inl ⟨by decide, by decide⟩) | exact (show CMul _ _ from .inr ⟨by decide, by decide⟩) | exact (show CMul _ _ from .inl ⟨by omega, by omega⟩) | exact (show CMul _ _ from .inr ⟨by omega, by omega⟩)
  | exact (show CPow _ _ from ⟨by decide, by decide, by decide⟩)
  | exact (show CDiv _ _ from ⟨by decide, by decide⟩) | exact (show CDiv _ _ from ⟨by omega, by omega⟩)
  | exact (show (0 : Int) < _ by decide) | exact (show (0 : Int) < _ by omega) | exact (show ¬ (_ : Int) = 0 by decide) | exact (show ¬ (_ : Int) = 0 by omega) | assumption)
local macro_rules | `(tactic| walk_at "hp") => `(tactic| first
  | assumption | exact upd_same
  | (refine' SqL.of ?h1; (case h1 => walk_at "hp")) | (refine' SqT.of ?h1; (case h1 => walk_at "hp"))
  | (refine' Rd.new_app ?h1 ?h2; (case h1 => assumption); (case h2 => walk_at "hp"))
  | (refine' Rd.upd_app ?h1 ?h2; (case h1 => first | assumption | exact Ne.symm (by assumption)); (case h2 => walk_at "hp"))
  | (refine' Rd.ext_app ?h1 ?h2; (case h1 => assumption); (case h2 => walk_at "hp"))
  | (refine' Rd.ext_L ?h1 ?h2; (case h1 => assumption); (case h2 => walk_at "hp"))
  | (refine' Rd.ext_T ?h1 ?h2; (case h1 => assumption); (case h2 => walk_at "hp")))
local macro_rules | `(tactic| walk_at "go") => `(tactic| repeat (first
  | with_reducible refine Rd.con ?_
  | ((with_reducible refine' Rd.var ?h1 ?_); (case h1 => rfl))
  | with_reducible refine Rd.op ?_
  | with_reducible refine Rd.un ?_
  | with_reducible refine Rd.i0 ?_
  | with_reducible refine Rd.iu ?_
  | ((with_reducible refine Rd.iC ?h1 ?_); (case h1 => walk_at "side"))
  | with_reducible refine Rd.nil ?_
  | with_reducible refine Rd.cons ?_
  | with_reducible refine Rd.cb ?_
  | with_reducible refine Rd.int1 ?_
  | with_reducible refine Rd.intB ?_
  | with_reducible refine Rd.maxI ?_
  | with_reducible refine Rd.minI ?_
  | with_reducible refine Rd.blx ?_
  | with_reducible refine Rd.tst ?_
  | with_reducible refine Rd.tb_ ?_
  | with_reducible refine Rd.not_ ?_
  | with_reducible refine Rd.and_ ?_
  | with_reducible refine Rd.or_ ?_
  | with_reducible refine Rd.ifx ?_
  | with_reducible refine Rd.chain ?_
  | with_reducible refine Rd.andV ?_
  | with_reducible refine Rd.orV ?_
  | with_reducible refine Rd.notV ?_
  | with_reducible refine Rd.seq ?_
  | with_reducible refine Rd.asg ?_
  | with_reducible refine Rd.name ?_
  | with_reducible refine Rd.ret ?_
  | with_reducible refine Rd.ifS ?_
  | with_reducible refine Rd.next ?_
  | with_reducible refine Rd.drop ?_
  | with_reducible refine Rd.gsub ?_
  | with_reducible refine Rd.cr ?_
  | with_reducible refine Rd.crX ?_
  | with_reducible refine Rd.ixOS ?_
  | ((with_reducible refine' Rd.xfv ?h1 ?h2 ?h3 ?_); (case h1 => walk_at "hp"); (case h2 => rfl); (case h3 => rfl))
  | ((with_reducible refine' Rd.bmLv ?h1 ?h2 ?_); (case h1 => rfl); (case h2 => walk_at "hp"))
  | ((with_reducible refine' Rd.countL ?h1 ?_); (case h1 => walk_at "hp"))
  | ((with_reducible refine' Rd.sumL ?h1 ?_); (case h1 => walk_at "hp"))
  | ((with_reducible refine' Rd.listL ?h1 ?_); (case h1 => walk_at "hp"))
  | ((with_reducible refine' Rd.listT ?h1 ?_); (case h1 => walk_at "hp"))
  | with_reducible refine Rd.isNn ?_
  | with_reducible refine Rd.isNr ?_
  | with_reducible refine Rd.notNn ?_
  | with_reducible refine Rd.notNr ?_
  | with_reducible refine Rd.isB ?_
  | with_reducible refine Rd.notBtt ?_
  | with_reducible refine Rd.notBff ?_
  | with_reducible refine Rd.notBtf ?_
  | with_reducible refine Rd.notBft ?_
  | with_reducible refine Rd.notB ?_
  | with_reducible refine Rd.smeth ?_
  | with_reducible refine Rd.sl ?_
  | with_reducible refine Rd.po0 ?_
  | with_reducible refine Rd.poI ?_
  | with_reducible refine Rd.ixi ?_
  | with_reducible refine Rd.par ?_
  | with_reducible refine Rd.par2 ?_
  | with_reducible refine Rd.mkRS ?_
  | with_reducible refine Rd.callRS ?_
  | with_reducible refine Rd.mk ?_
  | with_reducible refine Rd.mkX ?_
  | with_reducible refine Rd.sF ?_
  | with_reducible refine Rd.dIn ?_
  | with_reducible refine Rd.dNi ?_
  | with_reducible refine Rd.dctL ?_
  | with_reducible refine Rd.dctT ?_
  | with_reducible refine Rd.forE ?_
  | with_reducible refine Rd.lc2T ?_
  | with_reducible refine Rd.lc2L ?_
  | with_reducible refine Rd.lc2R ?_
  | with_reducible refine Rd.inR2 ?_
  | with_reducible refine Rd.inR1 ?_
  | with_reducible refine Rd.inT ?_
  | with_reducible refine Rd.inL ?_
  | with_reducible refine Rd.lcT ?_
  | with_reducible refine Rd.lcL ?_
  | with_reducible refine Rd.lcR ?_
  | with_reducible refine Rd.forT ?_
  | with_reducible refine Rd.forL ?_
  | with_reducible refine Rd.forR ?_
  | with_reducible refine Rd.yes ?_
  | with_reducible refine iteT ?_
  | with_reducible refine iteF ?_
  | with_reducible refine Rd.iteNT ?_
  | with_reducible refine Rd.iteNF ?_
  | with_reducible refine Rd.tup ?_
  | with_reducible refine Rd.lst ?_
  | ((with_reducible refine Rd.eqs ?h1 ?_); (case h1 => rfl))
  | ((with_reducible refine Rd.nes ?h1 ?_); (case h1 => rfl))
  | ((with_reducible refine' Rd.ixL ?h1 ?h2 ?_); (case h1 => walk_at "hp"); (case h2 => first | rfl | assumption))
  | ((with_reducible refine' Rd.ixT ?h1 ?h2 ?_); (case h1 => walk_at "hp"); (case h2 => first | rfl | assumption))
  | ((with_reducible refine' Rd.lenL ?h1 ?_); (case h1 => walk_at "hp"))
  | ((with_reducible refine' Rd.lenT ?h1 ?_); (case h1 => walk_at "hp"))
  | ((with_reducible refine' Rd.setL ?h1 ?h2 ?_); (case h1 => walk_at "hp"); (case h2 => first | rfl | assumption))))
/-- the pool's two numbers -/
structure PoolOk (x y : Int) : Prop where
  x0 : 0 ≤ x
  xm : x.natAbs < 2 ^ 1048577
  y0 : 0 ≤ y
  ym : y < 2147483647
theorem natAbs_ediv_lt {x b : Int} {n : Nat} (hx : 0 ≤ x) (hb : 0 < b) (h : x.natAbs < n) : (x / b).natAbs < n := by
  have h1 : 0 ≤ x / b := Int.ediv_nonneg hx (by omega)
  have h2 : x / b ≤ x := Int.ediv_le_self b hx
  omega
theorem small_div {i b : Int} (h0 : 0 < b) (h : b < 2 ^ 200) : CDivW i b := wide_div h0 (b := 200) (by omega) (by decide) (by decide)
theorem fmod_in {x b : Int} (h : 0 < b) : 0 ≤ x.fmod b ∧ x.fmod b < b := by
  rw [Int.fmod_eq_emod_of_nonneg _ (by omega)]
  exact ⟨Int.emod_nonneg _ (by omega), Int.emod_lt_of_pos _ h⟩
theorem nat_bits {z : Int} {m : Nat} (h : Builtin.Int.intBits z ≤ m) : z.natAbs < 2 ^ m := by
  unfold Builtin.Int.intBits at h
  by_cases e : z.natAbs = 0
  · rw [e]; exact Nat.pow_pos (by decide)
  · split at h
    · rename_i q
      exact absurd (by simpa using q) e
    · exact Nat.lt_of_lt_of_le Nat.lt_log2_self (Nat.pow_le_pow_right (by decide) h)
theorem big_ok {z : Int} (h : z.natAbs < 2 ^ 1048576) : 0 ≤ (if (-1 - z) > z then (-1 - z) else z) ∧ (if (-1 - z) > z then (-1 - z) else z).natAbs < 2 ^ 1048577 := by
  have e : (2 : Nat) ^ 1048577 = 2 ^ 1048576 * 2 := Nat.pow_succ 2 1048576
  rw [e]
  generalize (2 : Nat) ^ 1048576 = m at h
  by_cases c : (-1 - z) > z
  · rw [if_pos c]; omega
  · rw [if_neg c]; omega
section
variable {base : Heap} {P : Program} {w : World} {mg : Str → Option Value} {K : PySem.W.Frag}
/-! ### _law_take -/
def sp_take : Sp := fun vs H Q _ => ∃ (p : Addr) (b x y : Int), vs = [.ref p, .int b] ∧ H p = some (.lst [.int x, .int y]) ∧ PoolOk x y ∧ 0 < b ∧ b < 2 ^ 200 ∧
  ∀ r x' y', PoolOk x' y' → 0 ≤ r → r < b → Q (.int r) (upd H p (.lst [.int x', .int y']))
theorem ok_take (T : Tx K mg) : FnR P w K mg base (L2.CX P w) 1 (a_law_take K) sp_take := by
  refine fnr T.d_law_take sc_law_take (fun _ _ _ _ _ _ us hl => match us, hl with | [_, _], _ => rfl) (fun vs H Q E h => ?_) (fun cdv A outer s H vs Q E hr h => ?_)
  · obtain ⟨p, b, x, y, rfl, _⟩ := h
    rfl
  · obtain ⟨p, b, x, y, rfl, hp, ok, h0, hb, k⟩ := h
    refine ⟨_, pss_cons (ps_if (pt_cmpR op_gt (pe_ix ix_list (pv 0) pe_int (fun _ _ => rfl)) pe_int (nomark _))
        (pss_cons (ps_set (i := 2) sc_law_take.nd rfl (Or.inl rfl) (pe_op op_modN (pe_callTy Rd.c_int (by rfl) T.f_int boot_int (pa_cons (pe_ix ix_list (pv 0) pe_int (fun _ _ => rfl)) pa_nil)) (pv 1)))
        (pss_cons (ps_asg (pe_op op_fdivW (pe_ix ix_list (pv 0) pe_int (fun _ _ => rfl)) (pv 1)) (pg_sub (pv 0) pe_int set_list))
        (pss_one (ps_ret (pv 2))))) pss_nil)
      (pss_cons (ps_asg (pe_op op_mod (pe_callTy Rd.c_int (by rfl) T.f_int boot_int (pa_cons (pe_op op_add (pe_op op_mul (pe_ix ix_list (pv 0) pe_int (fun _ _ => rfl)) pe_int) pe_int) pa_nil)) pe_int) (pg_sub (pv 0) pe_int set_list))
      (pss_one (ps_ret (pe_op op_modN (pe_callTy Rd.c_int (by rfl) T.f_int boot_int (pa_cons (pe_op op_fdiv (pe_op op_mod (pe_callTy Rd.c_int (by rfl) T.f_int boot_int (pa_cons (pe_op op_mul (pe_ix ix_list (pv 0) pe_int (fun _ _ => rfl)) (pe_ix ix_list (pv 0) pe_int (fun _ _ => rfl))) pa_nil)) pe_int) pe_int) pa_nil)) (pv 1))))), ?_⟩
    have y0 := ok.y0
    have ym := ok.ym
    have sd : ∀ i, CDivW i b := fun i => small_div h0 hb
    walk_at "go"
    refine Rd.ited (fun hx => ?_) (fun hx => ?_)
    · walk_at "go"
      refine Rd.iC (sd _) ?_
      walk_at "go"
      exact k _ _ _ ⟨Int.ediv_nonneg ok.x0 (by omega), natAbs_ediv_lt ok.x0 h0 ok.xm, ok.y0, ok.ym⟩ (fmod_in h0).1 (fmod_in h0).2
    · have z0 : 0 ≤ (y * 39373 + 7) % 2147483647 := Int.emod_nonneg _ (by decide)
      have z1 : (y * 39373 + 7) % 2147483647 < 2147483647 := Int.emod_lt_of_pos _ (by decide)
      walk_at "go"
      exact k _ _ _ ⟨ok.x0, ok.xm, z0, z1⟩ (fmod_in h0).1 (fmod_in h0).2
/-! ### _law_pool -/
def sp_pool (K : PySem.W.Frag) : Sp := fun vs H Q _ => ∃ (a : Addr) (ns : List Int) (k : Nat), vs = [.ref a, .int k] ∧ SqL K H a (ns.map V.int) ∧ ns.length ≤ 63 ∧ k < 63 ∧ (∀ z ∈ ns, Builtin.Int.intBits z ≤ 1048576) ∧
  ∀ p x y, PoolOk x y → H p = none → Q (.ref p) (upd H p (.lst [.int x, .int y]))
theorem ok_pool (T : Tx K mg) : FnR P w K mg base (L2.CX P w) 1 (a_law_pool K) (sp_pool K) := by
  refine fnr T.d_law_pool sc_law_pool (fun _ _ _ _ _ _ us hl => match us, hl with | [_, _], _ => rfl) (fun vs H Q E h => ?_) (fun cdv A outer s H vs Q E hr h => ?_)
  · obtain ⟨a, ns, k, rfl, _⟩ := h
    rfl
  · obtain ⟨a, ns, j, rfl, hS, hn, hj, hb, kk⟩ := h
    refine ⟨_, pss_cons (ps_set (i := 2) sc_law_pool.nd rfl (Or.inl rfl) pe_int)
      (C8.pss_cut (ps_if (pt_cmpR op_lt (pv 1) (pe_callB (Rd.c_len (K := K)) (by rfl) T.f_len boot_len (pa_cons (pv 0) pa_nil)) (nomark _))
        (pss_one (ps_set (i := 2) sc_law_pool.nd rfl (Or.inl rfl) (pe_ix ix_list (pv 0) (pv 1) (fun _ _ => rfl)))) pss_nil)
      (pss_cons (ps_set (i := 3) sc_law_pool.nd rfl (Or.inl rfl) (pe_callB (Rd.c_max rfl) (by rfl) T.f_max Rd.bt_max (pa_cons (pe_callTy Rd.c_int (by rfl) T.f_int boot_int (pa_cons (pv 2) pa_nil))
          (pa_cons (pe_callTy Rd.c_int (by rfl) T.f_int boot_int (pa_cons (pe_op op_sub (pe_un un_neg pe_int) (pv 2)) pa_nil)) pa_nil))))
      (pss_cons (ps_set (i := 4) sc_law_pool.nd rfl (Or.inl rfl) (pe_op op_mod (pe_callTy Rd.c_int (by rfl) T.f_int boot_int (pa_cons (pe_op op_mul (pe_op op_add (pe_op op_add (pe_op op_add (pe_op op_mod (pe_callTy Rd.c_int (by rfl) T.f_int boot_int (pa_cons (pv 3) pa_nil)) pe_int)
          (pe_op op_mul (pe_op op_mul pe_int (pv 1)) (pv 1))) (pe_op op_mul pe_int (pv 1))) pe_int) pe_int) pa_nil)) pe_int))
      (pss_one (ps_ret (pe_lst (pa_cons (pe_op op_mul (pv 3) (pe_callTy Rd.c_int (by rfl) T.f_int boot_int (pa_cons (pe_cmpR op_ge (pv 3) (pe_op op_pow pe_int pe_int) (nomark _)) pa_nil))) (pa_cons (pv 4) pa_nil)))))))), ?_⟩
    walk_at "go"
    refine ⟨fun σ H' => H' = H ∧ ∃ z : Int, z.natAbs < 2 ^ 1048576 ∧ σ = [some (V.ref a), some (V.int j), some (V.int z), none, none], ?_, ?_⟩
    · walk_at "go"
      refine Rd.ited (fun c => ?_) (fun c => ?_)
      · rw [List.length_map] at c
        have hl : j < ns.length := by omega
        have hat : atI (ns.map V.int) (j : Int) = some (V.int ns[j]) := Rd.nat_at rfl (by rw [List.getElem?_map, List.getElem?_eq_getElem hl]; rfl)
        walk_at "go"
        exact ⟨rfl, _, nat_bits (hb _ (List.getElem_mem hl)), rfl⟩
      · exact ⟨rfl, 0, Nat.pow_pos (by decide), rfl⟩
    · rintro σ H' ⟨rfl, z, hz, rfl⟩
      have hz2 := big_ok hz
      have j0 : (j : Int) < 63 := by omega
      walk_at "go"
      generalize (if -1 - z > z then -1 - z else z) = g at hz2
      have y0 := Int.emod_nonneg ((g % 2147483629 + 6871 * (j : Int) * (j : Int) + 29 * (j : Int) + 13) * 48271) (show (2147483647 : Int) ≠ 0 by decide)
      have y1 := Int.emod_lt_of_pos ((g % 2147483629 + 6871 * (j : Int) * (j : Int) + 29 * (j : Int) + 13) * 48271) (show (0 : Int) < 2147483647 by decide)
      refine ⟨Rd.szr rfl, fun p hp => kk p _ _ ⟨?_, ?_, y0, y1⟩ hp⟩
      · exact Int.mul_nonneg hz2.1 (by split <;> decide)
      · rw [Int.natAbs_mul]
        refine Nat.lt_of_le_of_lt ?_ hz2.2
        have : (if decide ((10 : Int) ^ (18 : Int).toNat ≤ g) = true then (1 : Int) else 0).natAbs ≤ 1 := by split <;> decide
        exact Nat.le_trans (Nat.mul_le_mul_left _ this) (by omega)
end
end Lv

set_option Elab.async false
set_option linter.all false
set_option maxRecDepth 100000
set_option maxHeartbeats 0
/-! Later heaps: all is kept but the pool. -/
namespace Lv
open PySem PySem.Spec PyProof.Rows L2 OwX
/-- the pool at p -/
def Pl (p : Addr) (H : Hp) : Prop := ∃ x y, H p = some (.lst [.int x, .int y]) ∧ PoolOk x y
/-- H' is later than H: what H has but the pool stands -/
structure Lt (p : Addr) (H H' : Hp) : Prop where
  px : Ext (Rd.hid [p] H) (Rd.hid [p] H')
  pl : Pl p H'
section
variable {p a b : Addr} {H H' H'' : Hp} {o u : HO} {K : PySem.W.Frag} {xs : List V}
theorem Lt.rfl (h : Pl p H) : Lt p H H := ⟨Rd.ext_rfl, h⟩
theorem Lt.trans (h : Lt p H H') (h' : Lt p H' H'') : Lt p H H'' := ⟨h.px.trans h'.px, h'.pl⟩
theorem Pl.ext (h : Pl p H) (e : Ext H H') : Pl p H' := by
  obtain ⟨x, y, h1, h2⟩ := h
  exact ⟨x, y, e _ _ h1, h2⟩
theorem Lt.ext (h : Lt p H H') (e : Ext H' H'') : Lt p H H'' := ⟨h.px.trans (Rd.ext_hid e), h.pl.ext e⟩
theorem Lt.of (h : Pl p H) (e : Ext H H') : Lt p H H' := (Lt.rfl h).ext e
theorem Lt.new (h : Lt p H H') (n : H' a = none) : Lt p H (upd H' a u) := h.ext (Ext.upd n)
theorem Lt.at (e : Lt p H H') (ne : a ≠ p) (h : H a = some o) : H' a = some o := by
  have h2 := e.px a o (by rw [Rd.hid_ne (by simpa using ne)]; exact h)
  exact (Rd.hid_at h2).1
theorem Pl.ne (h : Pl p H) (n : H a = none) : a ≠ p := by
  obtain ⟨x, y, h1, _⟩ := h
  exact fun e => by rw [e, h1] at n; cases n
theorem Lt.free (e : Lt p H H') (n : H' a = none) : H a = none := by
  have ne := e.pl.ne n
  cases q : H a with
  | none => exact Eq.refl _
  | some o => rw [e.at ne q] at n; cases n
/-- a change of what H does not know -/
theorem Lt.mut (e : Lt p H H') (n : H a = none) (ne : a ≠ p) : Lt p H (upd H' a u) := by
  refine ⟨fun b o h => ?_, ?_⟩
  · obtain ⟨h1, h2⟩ := Rd.hid_at h
    rw [Rd.hid_ne h2, upd_ne (ne_of_none h1 n)]
    exact e.at (by simpa using h2) h1
  · obtain ⟨x, y, h1, h2⟩ := e.pl
    exact ⟨x, y, by rw [upd_ne ne.symm]; exact h1, h2⟩
theorem Lt.drew {x y : Int} (ok : PoolOk x y) : Lt p H (upd H p (.lst [.int x, .int y])) :=
  ⟨by rw [Rd.hid_upd (by simp)]; exact Rd.ext_rfl, x, y, upd_same, ok⟩
theorem Lt.sq (e : Lt p H H') (ne : a ≠ p) (h : SqL K H a xs) : SqL K H' a xs :=
  h.elim (fun h => .inl (h.elim (fun h => .inl (e.at ne h)) fun ⟨o, h⟩ => .inr ⟨o, e.at ne h⟩)) fun h => .inr h
theorem Lt.st (e : Lt p H H') (ne : a ≠ p) (h : SqT K H a xs) : SqT K H' a xs :=
  h.elim (fun h => .inl (h.elim (fun h => .inl (e.at ne h)) fun ⟨o, h⟩ => .inr ⟨o, e.at ne h⟩)) fun h => .inr h
/-- an object that is no list of two ints is not the pool -/
theorem Pl.ne_ins {C dx : Addr} {fs : List (Str × V)} (h : Pl p H) (e : H a = some (.ins C dx fs)) : a ≠ p := by
  obtain ⟨x, y, h1, _⟩ := h
  exact ne_of e h1 (by intro z; cases z)
theorem Pl.ne_tup {ys : List V} (h : Pl p H) (e : H a = some (.tup ys)) : a ≠ p := by
  obtain ⟨x, y, h1, _⟩ := h
  exact ne_of e h1 (by intro z; cases z)
theorem hid2 (n1 : a ≠ b) (n2 : a ≠ p) (h : H a = some o) : Rd.hid [b, p] H a = some o := by
  rw [Rd.hid_ne (by simp [n1, n2])]; exact h
theorem hid1 (n1 : a ≠ b) (h : H a = some o) : Rd.hid [b] H a = some o := by
  rw [Rd.hid_ne (by simp [n1])]; exact h
theorem draw {b : Int} {Q : VK} {E : XK} (h : Pl p H) (k : ∀ (r : Nat) H', (r : Int) < b → Lt p H H' → Q (.int r) H') (h0 : 0 < b := by omega) (h1 : b < 2 ^ 200 := by omega) : sp_take [.ref p, .int b] H Q E := by
  obtain ⟨x, y, hp, ok⟩ := h
  refine ⟨p, b, x, y, Eq.refl _, hp, ok, h0, h1, fun r x' y' ok' r0 r1 => ?_⟩
  have := k r.toNat _ (by omega) (Lt.drew ok')
  rw [Int.toNat_of_nonneg r0] at this
  exact this
theorem mkPool {sc : Addr} {ns : List Int} {k : Nat} {Q : VK} {E : XK} (h : SqL K H sc (ns.map V.int)) (hn : ns.length ≤ 63) (hk : k < 63) (hb : ∀ z ∈ ns, Builtin.Int.intBits z ≤ 1048576) (kk : ∀ p H', H p = none → Ext H H' → Pl p H' → Q (.ref p) H') : sp_pool K [.ref sc, .int k] H Q E :=
  ⟨sc, ns, k, Eq.refl _, h, hn, hk, hb, fun p x y ok hp => kk p _ hp (Ext.upd hp) ⟨x, y, upd_same, ok⟩⟩
end
theorem SqL.later {p a : Addr} {H H1 H' : Hp} {K : PySem.W.Frag} {xs : List V} (h : SqL K H a xs) (n : H p = none) (e : Ext H H1) (l : Lt p H1 H') : SqL K H' a xs :=
  h.elim (fun h => .inl (h.elim (fun h => .inl (l.at (ne_of_none h n) (e _ _ h))) fun ⟨o, h⟩ => .inr ⟨o, l.at (ne_of_none h n) (e _ _ h)⟩)) fun h => .inr h
/-! ### comprehensions that draw -/
section
variable {α : Type} {J : It} {G : Hp → Prop} {Y : Nat → Hp → V → Hp → Prop} {items : List α} {Yi : α → Hp → V → Hp → Prop} {p : Addr}
theorem lcP (w : Walk J items.length G Y) (hy : ∀ i H x H', Y i H x H' → ∃ it, items[i]? = some it ∧ Yi it H x H') (hn : items.length < 100000)
    {g : TG} {tt : TT} {te : TE} {vs : List Nat} {σ : L2.St} {H1 : Hp} {D : Addr} {Qd : Hp → Prop} (hp : Pl p H1) (keep : α → Bool) (R : α → V → Hp → Prop) (mono : ∀ a y H H', Ext H H' → R a y H → R a y H')
    (hD : H1 D = none) (hG : ∀ H, Lt p H1 H → G H)
    (hs : ∀ (i : Nat) it x H H' acc, items[i]? = some it → Lt p H1 H → H D = some (.lst acc) → Yi it H x H' → ∀ (Qy : VK) (Qn : Hp → Prop),
      (∀ y H4, Lt p H H4 → keep it = true → R it y (Rd.hid [D, p] H4) → Qy y H4) → (∀ H3, Lt p H H3 → keep it = false → Qn H3) →
      g x (wipe σ vs) H' fun σ2 H2 => wipe σ2 vs = wipe σ vs ∧ tt σ2 H2 fun b H3 => if b = true then te σ2 H3 Qy else Qn H3)
    (hd : ∀ ys H, Lt p H1 H → H D = some (.lst ys) → Paired (fun a y => R a y (Rd.hid [D, p] H)) (items.filter keep) ys → Qd H) :
    ∃ W : Nat → Nat → Hp → Prop, (∃ m, W 0 m (upd H1 D (.lst []))) ∧ ∀ i m H, W i m H →
      (J.stop i H ∧ Qd H) ∨ (J.go i H ∧ ∃ Nx : Hp → Prop, (∀ H', Nx H' → ∃ m', m' < m ∧ W (i + 1) m' H') ∧ ∀ x H', J.yld i H x H' → g x (wipe σ vs) H' fun σ2 H2 => wipe σ2 vs = wipe σ vs ∧ tt σ2 H2 fun b H3 =>
        if b = true then te σ2 H3 fun y H4 => ∃ acc, H4 D = some (.lst acc) ∧ acc.length < sizeLine ∧ Nx (upd H4 D (.lst (acc ++ [y]))) else Nx H3) := by
  refine Rd.lcG w hy hn [p] (Pl p) keep R mono hD (by simpa using hp.ne hD) (fun H u h => ?_) hp (fun H e i => hG H ⟨e, i⟩) ?_ ?_
  · obtain ⟨x, y, h1, h2⟩ := h
    exact ⟨x, y, by rw [upd_ne (hp.ne hD).symm]; exact h1, h2⟩
  · intro i it x H H' acc hit e ip ha yi Qy Qn ky kn
    exact hs i it x H H' acc hit ⟨e, ip⟩ ha yi Qy Qn (fun y H4 l => ky y H4 l.px l.pl) (fun H3 l => kn H3 l.px l.pl)
  · intro ys H e ip hys pr
    exact hd ys H ⟨e, ip⟩ hys pr
end
theorem intsOf {α : Type} : ∀ {items : List α} {ys : List V}, Paired (fun _ y => ∃ z : Int, y = V.int z) items ys → ∃ zs : List Int, ys = zs.map V.int ∧ zs.length = items.length
  | _, _, .nil => ⟨[], rfl, rfl⟩
  | _, _, .cons ⟨z, hz⟩ t => by
    obtain ⟨zs, h1, h2⟩ := intsOf t
    exact ⟨z :: zs, by rw [hz, h1]; rfl, by rw [List.length_cons, List.length_cons, h2]⟩
end Lv

set_option Elab.async false
set_option linter.all false
set_option maxRecDepth 100000
set_option maxHeartbeats 0
/-! Later heaps where code objects may have been made: all is kept but the pool and the tables. -/
namespace Lv
open PySem PySem.Spec PyProof.Rows L2 OwX LamX
abbrev Tb := List (Addr × Str)
theorem tabs_lt {T : Tb} {p : Addr} {H H' : Hp} (h : Tabs T H) (pl : Pl p H) (t : Lt p H H') : Tabs T H' := fun q hq => by
  obtain ⟨x, y, hp, _⟩ := pl
  obtain ⟨ps, h1, h2, h3⟩ := h q hq
  refine ⟨ps, t.at (ne_of h1 hp (by intro z; cases z)) h1, h2, fun pos cv hc => ?_⟩
  obtain ⟨c, e1, e2⟩ := h3 pos cv hc
  exact ⟨c, e1, t.at (ne_of e2 hp (by unfold CodeO; intro z; cases z)) e2⟩
structure LtN (T : Tb) (p : Addr) (H H' : Hp) : Prop where
  px : ∀ a o, a ≠ p → (∀ ps, o ≠ .tbl ps) → H a = some o → H' a = some o
  pl : Pl p H'
  tb : Tabs T H'
section
variable {T : Tb} {p a : Addr} {H H' H'' : Hp} {o : HO} {K : PySem.W.Frag} {xs : List V}
theorem LtN.of (h : Pl p H) (t : Tabs T H) : LtN T p H H := ⟨fun _ _ _ _ h => h, h, t⟩
theorem LtN.trans (h : LtN T p H H') (h' : LtN T p H' H'') : LtN T p H H'' := ⟨fun a o n m e => h'.px a o n m (h.px a o n m e), h'.pl, h'.tb⟩
theorem Lt.n (h : Lt p H H') (pl : Pl p H) (t : Tabs T H) : LtN T p H H' := ⟨fun a o n _ e => h.at n e, h.pl, tabs_lt t pl h⟩
theorem LtN.lt (h : LtN T p H H') (t : Lt p H' H'') : LtN T p H H'' := h.trans (t.n h.pl h.tb)
theorem LtN.ext (h : LtN T p H H') (e : Ext H' H'') : LtN T p H H'' := h.lt (Lt.of h.pl e)
theorem LtN.new {u : HO} (h : LtN T p H H') (n : H' a = none) : LtN T p H (upd H' a u) := h.ext (Ext.upd n)
theorem Pl.extN (h : Pl p H) (e : ExtN H H') : Pl p H' := by
  obtain ⟨x, y, h1, h2⟩ := h
  exact ⟨x, y, e _ _ h1 (fun _ z => by cases z), h2⟩
theorem LtN.xt (h : LtN T p H H') (e : ExtN H' H'') (t : Tabs T H'') : LtN T p H H'' := h.trans ⟨fun a o _ m q => e a o q m, h.pl.extN e, t⟩
theorem LtN.at (h : LtN T p H H') (n : a ≠ p) (e : H a = some o) (m : ∀ ps, o ≠ .tbl ps := by intro ps z; cases z) : H' a = some o := h.px a o n m e
theorem LtN.sq (e : LtN T p H H') (ne : a ≠ p) (h : SqL K H a xs) : SqL K H' a xs :=
  h.elim (fun h => .inl (h.elim (fun h => .inl (e.at ne h)) fun ⟨o, h⟩ => .inr ⟨o, e.at ne h⟩)) fun h => .inr h
theorem LtN.st (e : LtN T p H H') (ne : a ≠ p) (h : SqT K H a xs) : SqT K H' a xs :=
  h.elim (fun h => .inl (h.elim (fun h => .inl (e.at ne h)) fun ⟨o, h⟩ => .inr ⟨o, e.at ne h⟩)) fun h => .inr h
theorem extN_at (e : ExtN H H') (h : H a = some o) (m : ∀ ps, o ≠ .tbl ps := by intro ps z; cases z) : H' a = some o := e a o h m
theorem SqL.laterN {H1 : Hp} (h : SqL K H a xs) (n : H p = none) (e : Ext H H1) (l : LtN T p H1 H') : SqL K H' a xs :=
  h.elim (fun h => .inl (h.elim (fun h => .inl (l.at (ne_of_none h n) (e _ _ h))) fun ⟨o, h⟩ => .inr ⟨o, l.at (ne_of_none h n) (e _ _ h)⟩)) fun h => .inr h
end
end Lv

set_option Elab.async false
set_option linter.all false
set_option maxRecDepth 100000
set_option maxHeartbeats 0
/-! Pairs beside the pool; a comprehension whose test draws. -/
namespace Lv
open PySem PySem.Spec PyProof.Rows L2 OwX Rs
section
variable {K : PySem.W.Frag} {p : Addr} {H H' : Hp}
theorem PT.lt {q : Pr} {v : V} (h : PT H q v) (pl : Pl p H) (l : Lt p H H') : PT H' q v := by
  obtain ⟨a, h1, h2⟩ := h
  exact ⟨a, h1, l.at (pl.ne_tup h2) h2⟩
theorem PL.lt {l : Addr} {ps : List Pr} (h : PL H l ps) (ne : l ≠ p) (pl : Pl p H) (t : Lt p H H') : PL H' l ps := by
  obtain ⟨vs, h1, h2⟩ := h
  exact ⟨vs, t.at ne h1, Rd.paired_imp (fun _ _ r => r.lt pl t) h2⟩
theorem PU.lt {l : Addr} {ps : List Pr} (h : PU H l ps) (pl : Pl p H) (t : Lt p H H') : PU H' l ps := by
  obtain ⟨vs, h1, h2⟩ := h
  exact ⟨vs, t.at (pl.ne_tup h1) h1, Rd.paired_imp (fun _ _ r => r.lt pl t) h2⟩
theorem PT.hid2 {D : Addr} {q : Pr} {v : V} {H1 : Hp} (h : PT H1 q v) (n : H1 D = none) (pl : Pl p H1) (t : Lt p H1 H') : PT (Rd.hid [D, p] H') q v := by
  obtain ⟨a, h1, h2⟩ := h
  exact ⟨a, h1, Lv.hid2 (ne_of_none h2 n) (pl.ne_tup h2) (t.at (pl.ne_tup h2) h2)⟩
theorem pick {α : Type} {A : Pr → Prop} {G : Hp} : ∀ {xs : List α} {ys : List V}, Paired (fun _ y => ∃ q, A q ∧ PT G q y) xs ys → ∃ ms, Paired (PT G) ms ys ∧ (∀ q ∈ ms, A q) ∧ ms.length = xs.length
  | _, _, .nil => ⟨[], .nil, by simp, rfl⟩
  | _, _, .cons ⟨q, h1, h2⟩ t => by
    obtain ⟨ms, h3, h4, h5⟩ := pick t
    exact ⟨q :: ms, .cons h2 h3, fun q' hq => by
      rcases List.mem_cons.mp hq with rfl | h
      · exact h1
      · exact h4 _ h, by rw [List.length_cons, List.length_cons, h5]⟩
theorem dec_iff {q : Prop} (i : Decidable q) {b : Bool} (h : b = true ↔ q) : b = @decide q i := by
  cases i with
  | isTrue z => exact h.mpr z
  | isFalse z => cases b with
    | true => exact absurd (h.mp rfl) z
    | false => rfl
theorem bl_ne (a b : Bool) : (!decide (V.bl a = V.bl b)) = (a != b) := by cases a <;> cases b <;> rfl
/-- a comprehension whose test draws: some of the items are kept -/
theorem lcS {α : Type} {J : It} {G : Hp → Prop} {Y : Nat → Hp → V → Hp → Prop} {items : List α} (wk : Walk J items.length G Y) (B : α → V → Prop) (hy : ∀ i H x H', Y i H x H' → ∃ it, items[i]? = some it ∧ (H' = H ∧ B it x)) (hn : items.length < 100000)
    {g : TG} {tt : TT} {te : TE} {vs : List Nat} {σ : L2.St} {H1 : Hp} {D : Addr} {Z : Hp → Prop} (pl : Pl p H1) (R : α → V → Hp → Prop) (mono : ∀ a y H H', Ext H H' → R a y H → R a y H') (hD : H1 D = none) (hG : ∀ H, Lt p H1 H → G H)
    (hs : ∀ (i : Nat) it x H acc, items[i]? = some it → B it x → Lt p H1 H → H D = some (.lst acc) → ∀ (Qy : VK) (Qn : Hp → Prop), (∀ y H4, Lt p H H4 → R it y (Rd.hid [D, p] H4) → Qy y H4) → (∀ H3, Lt p H H3 → Qn H3) →
      g x (wipe σ vs) H fun σ2 H2 => wipe σ2 vs = wipe σ vs ∧ tt σ2 H2 fun b H3 => if b = true then te σ2 H3 Qy else Qn H3)
    (hd : ∀ its ys H, (∀ a ∈ its, a ∈ items) → its.length ≤ items.length → Lt p H1 H → H D = some (.lst ys) → Paired (fun a y => R a y (Rd.hid [D, p] H)) its ys → Z H) :
    ∃ W : Nat → Nat → Hp → Prop, (∃ m, W 0 m (upd H1 D (.lst []))) ∧ ∀ i m H, W i m H →
      (J.stop i H ∧ Z H) ∨ (J.go i H ∧ ∃ Nx : Hp → Prop, (∀ H', Nx H' → ∃ m', m' < m ∧ W (i + 1) m' H') ∧ ∀ x H', J.yld i H x H' → g x (wipe σ vs) H' fun σ2 H2 => wipe σ2 vs = wipe σ vs ∧ tt σ2 H2 fun b H3 =>
        if b = true then te σ2 H3 fun y H4 => ∃ acc, H4 D = some (.lst acc) ∧ acc.length < sizeLine ∧ Nx (upd H4 D (.lst (acc ++ [y]))) else Nx H3) := by
  have nD : D ≠ p := pl.ne hD
  have hidD : ∀ {H : Hp} {u : HO}, Rd.hid [D, p] (upd H D u) = Rd.hid [D, p] H := fun {H u} => Rd.hid_upd (by simp)
  have later : ∀ {H H' : Hp}, Lt p H H' → Ext (Rd.hid [D, p] H) (Rd.hid [D, p] H') := fun {H H'} t a o h => by
    obtain ⟨h1, h2⟩ := Rd.hid_at h
    rw [Rd.hid_ne h2]
    exact t.at (fun z => h2 (by simp [z])) h1
  refine lc_it wk (fun i H => Lt p H1 H ∧ ∃ its ys, H D = some (.lst ys) ∧ Paired (fun a y => R a y (Rd.hid [D, p] H)) its ys ∧ (∀ a ∈ its, a ∈ items) ∧ its.length ≤ i) ⟨(Lt.rfl pl).mut hD nD, [], [], upd_same, .nil, by simp, Nat.le_refl _⟩ (fun i H _ h => hG H h.1) ?_ ?_
  · rintro i x H H' hi ⟨t, its, ys, hys, pr, sub, len⟩ y
    obtain ⟨it, hit, rfl, hB⟩ := hy i H x H' y
    have few : ys.length < 100000 := by
      rw [← Rd.paired_len pr]
      omega
    refine hs i it x H' ys hit hB t hys _ _ (fun v H4 t4 r4 => ?_) (fun H3 t3 => ?_)
    · refine ⟨ys, t4.at nD hys, Rd.szl few, (t.trans t4).mut hD nD, its ++ [it], ys ++ [v], upd_same, ?_, fun a ha => ?_, by simp; exact len⟩
      · rw [hidD]
        exact Rd.paired_snoc (R := fun a y => R a y (Rd.hid [D, p] H4)) r4 (Rd.paired_imp (fun a b r => mono a b _ _ (later t4) r) pr)
      · rcases List.mem_append.mp ha with h | h
        · exact sub a h
        · rw [List.mem_singleton.mp h]; exact List.mem_of_getElem? hit
    · exact ⟨t.trans t3, its, ys, t3.at nD hys, Rd.paired_imp (fun a b r => mono a b _ _ (later t3) r) pr, sub, by omega⟩
  · rintro H ⟨t, its, ys, hys, pr, sub, len⟩
    exact hd its ys H sub len t hys pr
end
end Lv

set_option Elab.async false
set_option linter.all false
set_option maxRecDepth 100000
set_option maxHeartbeats 0
set_option pp.maxSteps 3000
/-! The laws' drawn pairs, bases. -/
namespace Lv
open PySem PySem.Spec PyProof.Rows L2 OwX Rs
local macro_rules | `(tactic| walk_at "side") => `(tactic| first
  | exact (show CMul _ _ from .inl ⟨by decide, by decide⟩) | exact (show CMul _ _ from .inr ⟨by decide, by decide⟩) | exact (show CMul _ _ from .inl ⟨by omega, by omega⟩) | exact (show CMul _ _ from .inr ⟨by omega, by omega⟩)
  | exact (show CPow _ _ from ⟨by decide, by decide, by decide⟩)
  | exact (show CDiv _ _ from ⟨by decide, by decide⟩) | exact (show CDiv _ _ from ⟨by omega, by omega⟩)
  | exact (show (0 : Int) < _ by decide) | exact (show (0 : Int) < _ by omega) | exact (show ¬ (_ : Int) = 0 by decide) | exact (show ¬ (_ : Int) = 0 by omega) | assumption)
local macro_rules | `(tactic| walk_at "hp") => `(tactic| first
  | assumption | exact upd_same
  | (refine' SqL.of ?h1; (case h1 => walk_at "hp")) | (refine' SqT.of ?h1; (case h1 => walk_at "hp"))
  | (refine' Rd.new_app ?h1 ?h2; (case h1 => assumption); (case h2 => walk_at "hp"))
  | (refine' Rd.upd_app ?h1 ?h2; (case h1 => first | assumption | exact Ne.symm (by assumption)); (case h2 => walk_at "hp"))
  | (refine' Rd.ext_app ?h1 ?h2; (case h1 => assumption); (case h2 => walk_at "hp"))
  | (refine' Rd.ext_L ?h1 ?h2; (case h1 => assumption); (case h2 => walk_at "hp"))
  | (refine' Rd.ext_T ?h1 ?h2; (case h1 => assumption); (case h2 => walk_at "hp")))
local macro_rules | `(tactic| walk_at "go") => `(tactic| repeat (first
  | with_reducible refine Rd.con ?_
  | ((with_reducible refine' Rd.var ?h1 ?_); (case h1 => rfl))
  | with_reducible refine Rd.op ?_
  | with_reducible refine Rd.un ?_
  | with_reducible refine Rd.i0 ?_
  | with_reducible refine Rd.iu ?_
  | ((with_reducible refine Rd.iC ?h1 ?_); (case h1 => walk_at "side"))
  | with_reducible refine Rd.nil ?_
  | with_reducible refine Rd.cons ?_
  | with_reducible refine Rd.cb ?_
  | with_reducible refine Rd.int1 ?_
  | with_reducible refine Rd.intB ?_
  | with_reducible refine Rd.maxI ?_
  | with_reducible refine Rd.minI ?_
  | with_reducible refine Rd.blx ?_
  | with_reducible refine Rd.tst ?_
  | with_reducible refine Rd.tb_ ?_
  | with_reducible refine Rd.not_ ?_
  | with_reducible refine Rd.and_ ?_
  | with_reducible refine Rd.or_ ?_
  | with_reducible refine Rd.ifx ?_
  | with_reducible refine Rd.chain ?_
  | with_reducible refine Rd.andV ?_
  | with_reducible refine Rd.orV ?_
  | with_reducible refine Rd.notV ?_
  | with_reducible refine Rd.seq ?_
  | with_reducible refine Rd.asg ?_
  | with_reducible refine Rd.name ?_
  | with_reducible refine Rd.ret ?_
  | with_reducible refine Rd.ifS ?_
  | with_reducible refine Rd.next ?_
  | with_reducible refine Rd.drop ?_
  | with_reducible refine Rd.gsub ?_
  | with_reducible refine Rd.cr ?_
  | with_reducible refine Rd.crX ?_
  | with_reducible refine Rd.ixOS ?_
  | ((with_reducible refine' Rd.xfv ?h1 ?h2 ?h3 ?_); (case h1 => walk_at "hp"); (case h2 => rfl); (case h3 => rfl))
  | ((with_reducible refine' Rd.bmLv ?h1 ?h2 ?_); (case h1 => rfl); (case h2 => walk_at "hp"))
  | ((with_reducible refine' Rd.countL ?h1 ?_); (case h1 => walk_at "hp"))
  | ((with_reducible refine' Rd.sumL ?h1 ?_); (case h1 => walk_at "hp"))
  | ((with_reducible refine' Rd.listL ?h1 ?_); (case h1 => walk_at "hp"))
  | ((with_reducible refine' Rd.listT ?h1 ?_); (case h1 => walk_at "hp"))
  | with_reducible refine Rd.isNn ?_
  | with_reducible refine Rd.isNr ?_
  | with_reducible refine Rd.notNn ?_
  | with_reducible refine Rd.notNr ?_
  | with_reducible refine Rd.isB ?_
  | with_reducible refine Rd.notBtt ?_
  | with_reducible refine Rd.notBff ?_
  | with_reducible refine Rd.notBtf ?_
  | with_reducible refine Rd.notBft ?_
  | with_reducible refine Rd.notB ?_
  | with_reducible refine Rd.smeth ?_
  | with_reducible refine Rd.sl ?_
  | with_reducible refine Rd.po0 ?_
  | with_reducible refine Rd.poI ?_
  | with_reducible refine Rd.ixi ?_
  | with_reducible refine Rd.par ?_
  | with_reducible refine Rd.par3 ?_
  | with_reducible refine Rd.par33 ?_
  | ((with_reducible refine' Rd.aug ?h1 ?_); (case h1 => rfl))
  | with_reducible refine Rd.ipi ?_
  | with_reducible refine Rd.lstRg ?_
  | with_reducible refine Rd.rg1 ?_
  | with_reducible refine Rd.par2 ?_
  | with_reducible refine Rd.mkRS ?_
  | with_reducible refine Rd.callRS ?_
  | with_reducible refine Rd.mk ?_
  | with_reducible refine Rd.mkX ?_
  | with_reducible refine Rd.sF ?_
  | with_reducible refine Rd.dIn ?_
  | with_reducible refine Rd.dNi ?_
  | with_reducible refine Rd.dctL ?_
  | with_reducible refine Rd.dctT ?_
  | with_reducible refine Rd.forE ?_
  | with_reducible refine Rd.lc2T ?_
  | with_reducible refine Rd.lc2L ?_
  | with_reducible refine Rd.lc2R ?_
  | with_reducible refine Rd.inR2 ?_
  | with_reducible refine Rd.inR1 ?_
  | with_reducible refine Rd.inT ?_
  | with_reducible refine Rd.inL ?_
  | with_reducible refine Rd.lcT ?_
  | with_reducible refine Rd.lcL ?_
  | with_reducible refine Rd.lcR ?_
  | with_reducible refine Rd.forT ?_
  | with_reducible refine Rd.forL ?_
  | with_reducible refine Rd.forR ?_
  | with_reducible refine Rd.yes ?_
  | with_reducible refine iteT ?_
  | with_reducible refine iteF ?_
  | with_reducible refine Rd.iteNT ?_
  | with_reducible refine Rd.iteNF ?_
  | with_reducible refine Rd.tup ?_
  | with_reducible refine Rd.lst ?_
  | ((with_reducible refine Rd.eqs ?h1 ?_); (case h1 => rfl))
  | ((with_reducible refine Rd.nes ?h1 ?_); (case h1 => rfl))
  | ((with_reducible refine' Rd.ixL ?h1 ?h2 ?_); (case h1 => walk_at "hp"); (case h2 => first | rfl | assumption))
  | ((with_reducible refine' Rd.ixT ?h1 ?h2 ?_); (case h1 => walk_at "hp"); (case h2 => first | rfl | assumption))
  | ((with_reducible refine' Rd.lenL ?h1 ?_); (case h1 => walk_at "hp"))
  | ((with_reducible refine' Rd.lenT ?h1 ?_); (case h1 => walk_at "hp"))
  | ((with_reducible refine' Rd.setL ?h1 ?h2 ?_); (case h1 => walk_at "hp"); (case h2 => first | rfl | assumption))))
section
variable {K : PySem.W.Frag} {p : Addr} {H H' : Hp}
theorem FixAt.lt {f : Addr} {n : Int} {ps : List Pr} (h : FixAt K H f n ps) (pl : Pl p H) (t : Lt p H H') : FixAt K H' f n ps := by
  obtain ⟨dx, q, h1, h2⟩ := h
  exact ⟨dx, q, t.at (pl.ne_ins h1) h1, h2.lt pl t⟩
theorem BsAt.lt {v : V} {b : Option (List Int)} (h : BsAt H v b) (pl : Pl p H) (t : Lt p H H') : BsAt H' v b := by
  cases b with
  | none => exact h
  | some l =>
    obtain ⟨u, h1, h2⟩ := h
    exact ⟨u, h1, t.at (pl.ne_tup h2) h2⟩
theorem FormAt.lt {a : Addr} {xs : List Int} (h : FormAt K H a xs) (pl : Pl p H) (l : Lt p H H') : FormAt K H' a xs := by
  obtain ⟨dx, q, h1, h2⟩ := h
  exact ⟨dx, q, l.at (pl.ne_ins h1) h1, l.at (pl.ne_tup h2) h2⟩
end
/-! ### all pairs of n teams -/
def keepP (n : Nat) (j : Nat) : Bool := decide (j / n ≠ j % n)
def pairN (n : Nat) (j : Nat) : Pr := (((j / n : Nat) : Int), ((j % n : Nat) : Int))
def allP (n : Nat) : List Pr := ((List.range (n * n)).filter (keepP n)).map (pairN n)
theorem allP_two {n : Nat} (hn : 0 < n) {p : Pr} (h : p ∈ allP n) : twoF p n = true := by
  obtain ⟨j, hj, rfl⟩ := List.mem_map.mp h
  obtain ⟨h1, h2⟩ := List.mem_filter.mp hj
  have h1 := List.mem_range.mp h1
  have h2 : j / n ≠ j % n := of_decide_eq_true h2
  have h3 : j / n < n := (Nat.div_lt_iff_lt_mul hn).mpr h1
  have h4 : j % n < n := Nat.mod_lt _ hn
  unfold twoF pairN
  generalize j / n = x at h2 h3
  generalize j % n = y at h2 h4
  simp only [Bool.and_eq_true, decide_eq_true_eq]
  omega
theorem pairN_inj {n a b : Nat} (e : pairN n a = pairN n b) : a = b := by
  have e1 : ((a / n : Nat) : Int) = ((b / n : Nat) : Int) := congrArg Prod.fst e
  have e2 : ((a % n : Nat) : Int) = ((b % n : Nat) : Int) := congrArg Prod.snd e
  have h1 := Nat.div_add_mod a n
  have h2 := Nat.div_add_mod b n
  rw [← h1, ← h2, Int.ofNat.inj e1, Int.ofNat.inj e2]
theorem allP_nd {n : Nat} : (allP n).Nodup := by
  unfold allP
  show List.Pairwise _ _
  rw [List.pairwise_map]
  exact (List.nodup_range.filter _).imp fun ne e => ne (pairN_inj e)
theorem allP_len {n : Nat} (h : n ≤ 6) : (allP n).length ≤ 36 := by
  unfold allP
  rw [List.length_map]
  refine Nat.le_trans (List.length_filter_le _ _) ?_
  rw [List.length_range]
  exact Nat.mul_le_mul h h
/-- some of the pairs, in whatever order -/
structure Drawn (n m : Nat) (found : List Pr) : Prop where
  le : found.length ≤ m
  good : ∀ p ∈ found, twoF p n = true
  nd : found.Nodup
theorem drawn_of {n m : Nat} {found left : List Pr} (hn : 0 < n) (h : (found ++ left).Perm (allP n)) (le : found.length ≤ m) : Drawn n m found := by
  refine ⟨le, fun p hp => allP_two hn (h.mem_iff.mp (List.mem_append_left _ hp)), ?_⟩
  have := (h.nodup_iff.mpr allP_nd)
  rw [List.nodup_append] at this
  exact this.1
theorem pop_perm {α : Type} {found left all : List α} {i : Nat} {x : α} (h : (found ++ left).Perm all) (hx : left[i]? = some x) : ((found ++ [x]) ++ left.eraseIdx i).Perm all := by
  obtain ⟨hi, he⟩ := List.getElem?_eq_some_iff.mp hx
  refine List.Perm.trans ?_ h
  rw [List.append_assoc]
  refine List.Perm.append_left _ ?_
  rw [List.eraseIdx_eq_take_drop_succ]
  conv => rhs; rw [← List.take_append_drop i left, List.drop_eq_getElem_cons hi, he]
  exact (List.perm_middle (a := x) (l₁ := left.take i) (l₂ := left.drop (i + 1))).symm
theorem paired_erase {α β : Type} {R : α → β → Prop} : ∀ {xs : List α} {ys : List β} (i : Nat), Paired R xs ys → Paired R (xs.eraseIdx i) (ys.eraseIdx i)
  | _, _, _, .nil => .nil
  | _, _, 0, .cons _ pr => pr
  | _, _, i + 1, .cons h pr => .cons h (paired_erase i pr)
/-- left.pop(i) -/
theorem popP {H : Hp} {l : Addr} {ps : List Pr} {i : Nat} {q : Pr} {Q : VK} (h : PL H l ps) (hi : ps[i]? = some q) (len : ps.length < 50000) (k : ∀ v ys u, H l = some (.lst ys) → PT H q v → PL (upd H l u) l (ps.eraseIdx i) → Q v (upd H l u)) : rPopAt (.ref l) [.int i] H Q := by
  obtain ⟨vs, h1, h2⟩ := h
  have l1 := Rd.paired_len h2
  obtain ⟨v, hv, hq⟩ := Rd.paired_at h2 hi
  exact Rd.popAt h1 hv (by omega) (k v vs _ h1 hq ⟨_, upd_same, Rd.paired_imp (fun _ _ r => r.upd h1) (paired_erase i h2)⟩)
section
variable {base : Heap} {P : Program} {w : World} {mg : Str → Option Value} {K : PySem.W.Frag}
def sp_pairs (K : PySem.W.Frag) : Sp := fun vs H Q _ => ∃ (p : Addr) (n m : Nat), vs = [.ref p, .int n, .int m] ∧ Pl p H ∧ 2 ≤ n ∧ n ≤ 6 ∧ m ≤ 20 ∧
  ∀ l ps H', Lt p H H' → H l = none → PL H' l ps → Drawn n m ps → Q (.ref l) H'
theorem ok_pairs (T : Tx K mg) : FnR P w K mg base (L2.CX P w) 2 (a_law_pairs K) (sp_pairs K) := by
  refine fnr T.d_law_pairs sc_law_pairs (fun _ _ _ _ _ _ us hl => match us, hl with | [_, _, _], _ => rfl) (fun vs H Q E h => ?_) (fun cdv A outer s H vs Q E hr h => ?_)
  · obtain ⟨p, n, m, rfl, _⟩ := h
    rfl
  · obtain ⟨p, n, m, rfl, pl, h2, h6, hm, k⟩ := h
    refine ⟨_, (pss_cons (ps_setLc (i := 3) (own := [("at", 4)]) rfl sc_law_pairs.nd rfl rfl rfl (pi_range1 (by rfl) T.f_range (pa_cons (pe_op op_mul (pv 1) (pv 1)) pa_nil)) (blkOk_by (own := [("at", 4)]) (N := N_law_pairs) (sc := defScope s_law_pairs) (by decide +kernel)) (fun _ _ _ _ _ => (gx 4 sc_law_pairs.nd)) (fun _ _ _ _ _ => (pts_one (pt_cmpR op_ne (pe_op op_fdivW (pv 4) (pv 1)) (pe_op op_modN (pe_callTy Rd.c_int (by rfl) T.f_int Rd.bt_int (pa_cons (pv 4) pa_nil)) (pv 1)) (nomark _)))) (fun _ _ _ _ _ => (pe_tup (pa_cons (pe_op op_fdivW (pv 4) (pv 1)) (pa_cons (pe_op op_modN (pe_callTy Rd.c_int (by rfl) T.f_int Rd.bt_int (pa_cons (pv 4) pa_nil)) (pv 1)) pa_nil))))) (pss_cons (sx 5 sc_law_pairs.nd (pe_lst pa_nil)) (pss_cons (ps_for (passes_of rfl) rfl (pi_range1 (by rfl) T.f_range (pa_cons (pe_callB (Rd.c_min rfl) (by rfl) T.f_min Rd.bt_min (pa_cons (pe_callB (Rd.c_len (K := K)) (by rfl) T.f_len Rd.bt_len (pa_cons (pv 3) pa_nil)) (pa_cons (pe_cr (ok_take T) (hr.mono (by decide)) (kp_of T.d_law_take) (by rfl) T.g_law_take (pa_cons (pv 0) (pa_cons (pe_op op_add (pv 2) pe_int) pa_nil))) pa_nil))) pa_nil)) (gx 6 sc_law_pairs.nd) (pss_one (ps_expr (GW.bm (K := K) PySem.F.plainAttrs_list PySem.F.slot_list_append PySem.F.type_list_append mt_append (pv 5) (pa_cons (GW.bm (K := K) PySem.F.plainAttrs_list PySem.F.slot_list_pop PySem.F.type_list_pop mt_popAt (pv 3) (pa_cons (pe_cr (ok_take T) (hr.mono (by decide)) (kp_of T.d_law_take) (by rfl) T.g_law_take (pa_cons (pv 0) (pa_cons (pe_callB (Rd.c_len (K := K)) (by rfl) T.f_len Rd.bt_len (pa_cons (pv 3) pa_nil)) pa_nil))) pa_nil)) pa_nil))))) (pss_one (ps_ret (pv 5)))))), ?_⟩
    have sd : ∀ i, CDivW i (n : Int) := fun i => small_div (by omega) (by omega)
    have nn0 : ¬ (n : Int) = 0 := by omega
    have nsq : n * n ≤ 36 := Nat.mul_le_mul h6 h6
    have cst : (n : Int) * n = ((n * n : Nat) : Int) := by push_cast; rfl
    walk_at "go"
    refine ⟨_, rfl, by rw [cst]; omega, by rw [cst]; omega, fun D hD => ?_⟩
    rw [cst, Int.toNat_natCast]
    refine Rd.lcE (emb := fun j : Nat => V.int j) Rd.walk_rangeN Rd.yrng (by rw [List.length_range]; omega) (keepP n) (fun j y H => PT H (pairN n j) y) (fun _ _ _ _ e h => h.ext e) hD (fun H' e => trivial) ?_ ?_
    · intro j it H' acc hj e hacc Qy Qn ky kn
      have fm : ((it : Int)).fmod (n : Int) = ((it % n : Nat) : Int) := by
        rw [Int.fmod_eq_emod_of_nonneg _ (by omega)]
        rfl
      have fd : (it : Int) / (n : Int) = ((it / n : Nat) : Int) := rfl
      walk_at "go"
      refine ⟨rfl, ?_⟩
      walk_at "go"
      refine Rd.iC (sd _) ?_
      walk_at "go"
      rw [fm, fd]
      refine Rd.iten (fun c => ?_) (fun c => ?_)
      · walk_at "go"
        refine Rd.iC (sd _) ?_
        walk_at "go"
        rw [fm, fd]
        refine ⟨Rd.szr rfl, fun t ht => ?_⟩
        exact ky _ _ (Ext.upd ht) (decide_eq_true fun z => c (by rw [z])) (PT.new (p := pairN n it) hacc ht)
      · exact kn _ Rd.ext_rfl (decide_eq_false fun z => z (Int.ofNat.inj (V.int.inj c)))
    intro ys H1 e1 hys pr
    have left : PL H1 D (allP n) := ⟨ys, hys, Rd.paired_imp (fun _ _ r => PT.hid r) (Rd.paired_mapl pr)⟩
    clear pr hys
    obtain ⟨N, hN⟩ : ∃ N, N = (allP n).length := ⟨_, rfl⟩
    have neD := pl.ne hD
    have t1 := Lt.of pl e1
    have hDn := hD
    obtain ⟨ys, hys, pr⟩ := id left
    walk_at "go"
    refine ⟨Rd.szr rfl, fun fo hfo => ?_⟩
    have left := left.ext (Ext.upd (o := .lst []) hfo)
    have nfo : PL (upd H1 fo (.lst [])) fo [] := ⟨[], upd_same, .nil⟩
    have t2 := t1.new (u := .lst []) hfo
    have hfn := t1.free hfo
    have nef := t1.pl.ne hfo
    have dne : D ≠ fo := ne_of_none hys hfo
    have hlen : ys.length = N := by rw [hN]; exact (Rd.paired_len pr).symm
    have hys := Rd.new_app (u := .lst []) hfo hys
    change gName 5 (V.ref fo) _ (upd H1 fo (.lst [])) _
    generalize upd H1 fo (.lst []) = H2 at left nfo t2 hys
    have N36 := allP_len h6
    rw [← hN] at N36
    walk_at "go"
    refine draw t2.pl (fun r H3 hr l3 => ?_) (by omega) (by omega)
    have left := left.lt neD t2.pl l3
    have nfo := nfo.lt nef t2.pl l3
    have t3 := t2.trans l3
    clear t2 l3 hys
    walk_at "go"
    rw [hlen]
    obtain ⟨M, hM, hM1, hM2⟩ : ∃ M : Nat, (if (r : Int) < (N : Int) then (r : Int) else (N : Int)) = (M : Int) ∧ M ≤ N ∧ M ≤ m := by
      by_cases c : (r : Int) < (N : Int)
      · exact ⟨r, by rw [if_pos c], by omega, by omega⟩
      · exact ⟨N, by rw [if_neg c], by omega, by omega⟩
    rw [hM]
    refine ⟨_, rfl, by omega, by omega, ?_⟩
    rw [Int.toNat_natCast]
    refine for_range (fun i σ H' => ∃ v4 v6, σ = [some (.ref p), some (.int n), some (.int m), some (.ref D), v4, some (.ref fo), v6] ∧ Lt p H H' ∧ ∃ fs ls, PL H' fo fs ∧ PL H' D ls ∧ (fs ++ ls).Perm (allP n) ∧ fs.length = i) ⟨_, _, rfl, t3, [], _, nfo, left, List.Perm.refl _, rfl⟩ ?_ ?_
    rotate_left
    · rintro σ H' ⟨v4, v6, rfl, t, fs, ls, hf, hl, pm, hi⟩
      walk_at "go"
      exact k fo fs H' t hfn hf (drawn_of (by omega) pm (by omega))
    rintro i σ H4 hi ⟨v4, v6, rfl, t, fs, ls, hf, hl, pm, hfi⟩
    have lsum : fs.length + ls.length = N := by rw [hN, ← pm.length_eq, List.length_append]
    obtain ⟨ys, hys, pry⟩ := id hl
    have hly := Rd.paired_len pry
    obtain ⟨fys, hfys, prf⟩ := id hf
    walk_at "go"
    refine draw t.pl (fun r2 H5 hr2 l5 => ?_) (by omega) (by omega)
    have hl := hl.lt neD t.pl l5
    have hf := hf.lt nef t.pl l5
    have t5 := t.trans l5
    have hq := List.getElem?_eq_getElem (show r2 < ls.length by omega)
    walk_at "go"
    refine popP hl hq (by omega) fun v zs u hz hv hl6 => ?_
    have hf6 : PL (upd H5 D u) fo fs := hf.upd (Ne.symm dne) hz
    have hv6 : PT (upd H5 D u) ls[r2] v := hv.upd hz
    have t6 : Lt p H (upd H5 D u) := t5.mut hDn neD
    generalize upd H5 D u = H6 at hl6 hf6 hv6 t6
    walk_at "go"
    refine appP hf6 hv6 (by omega) fun zs2 u2 hz2 hf7 => ?_
    exact ⟨_, _, rfl, t6.mut hfn nef, _, _, hf7, hl6.upd dne hz2, pop_perm pm hq, by rw [List.length_append, hfi]; rfl⟩
/-! ### _law_base -/
def sp_base : Sp := fun vs H Q _ => ∃ (p : Addr) (n : Nat), vs = [.ref p, .int n] ∧ Pl p H ∧ n ≤ 100 ∧ ∀ v b H', Lt p H H' → BsAt H' v b → Q v H'
theorem ok_base (T : Tx K mg) : FnR P w K mg base (L2.CX P w) 2 (a_law_base K) sp_base := by
  refine fnr T.d_law_base sc_law_base (fun _ _ _ _ _ _ us hl => match us, hl with | [_, _], _ => rfl) (fun vs H Q E h => ?_) (fun cdv A outer s H vs Q E hr h => ?_)
  · obtain ⟨p, n, rfl, _⟩ := h
    rfl
  · obtain ⟨p, n, rfl, pl, hn, k⟩ := h
    refine ⟨_, (pss_cons (ps_if (pt_cmpR op_eq (pe_cr (ok_take T) (hr.mono (by decide)) (kp_of T.d_law_take) (by rfl) T.g_law_take (pa_cons (pv 0) (pa_cons pe_int pa_nil))) pe_int (nomark _)) (pss_one (ps_ret pe_non)) pss_nil) (pss_cons (sx 2 sc_law_base.nd (pe_callTy (Rd.c_tuple (K := K)) (by rfl) T.f_tuple Rd.bt_tuple (pa_cons (pe_lc (own := [("team", 3)]) rfl sc_law_base.nd (pi_range1 (by rfl) T.f_range (pa_cons (pv 1) pa_nil)) (blkOk_by (own := [("team", 3)]) (N := N_law_base) (sc := defScope s_law_base) (by decide +kernel)) (fun _ _ _ _ _ => (gx 3 sc_law_base.nd)) (fun _ _ _ _ _ => (pts_one (pt_cmpR op_gt (pe_cr (ok_take T) (hr.mono (by decide)) (kp_of T.d_law_take) (by rfl) T.g_law_take (pa_cons (pv 0) (pa_cons pe_int pa_nil))) pe_int (nomark _)))) (fun _ _ _ _ _ => (pv 3))) pa_nil))) (pss_one (ps_ret (pe_ifExp (pt_cmpR (GW.neD hr.units (K := K)) (pv 2) (pe_tup pa_nil) (nomark _)) (pv 2) (pe_tup (pa_cons (pe_op op_sub (pv 1) pe_int) pa_nil))))))), ?_⟩
    walk_at "go"
    refine draw pl fun r H1 hr1 l1 => ?_
    walk_at "go"
    refine Rd.ited (fun c => ?_) (fun c => ?_)
    · walk_at "go"
      exact k _ none _ l1 rfl
    walk_at "go"
    refine ⟨_, rfl, by omega, by omega, fun D hD => ?_⟩
    rw [Int.toNat_natCast]
    refine lcS Rd.walk_rangeN (fun j : Nat => fun y => y = V.int j) (fun i H x H' h => ?_) (by rw [List.length_range]; omega) l1.pl (fun _ y _ => ∃ z : Int, y = .int z) (fun _ _ _ _ _ h => h) hD (fun _ _ => trivial) ?_ ?_
    · obtain ⟨it, h1, h2, h3⟩ := Rd.yrng i H x H' h
      exact ⟨it, h1, h2, h3⟩
    · rintro i it x H' acc hit rfl lt ha Qy Qn ky kn
      walk_at "go"
      refine ⟨rfl, ?_⟩
      walk_at "go"
      refine draw lt.pl fun r2 H2 hr2 l2 => ?_
      walk_at "go"
      refine Rd.ited (fun c => ?_) (fun c => ?_)
      · walk_at "go"
        exact ky _ _ l2 ⟨_, rfl⟩
      · exact kn _ l2
    intro its ys H2 _ hle l2 hys pr
    obtain ⟨zs, rfl, hz⟩ := intsOf pr
    have l2 := l1.trans l2
    walk_at "go"
    refine Rd.tupL (SqL.of hys) fun t ht => ?_
    have l3 := l2.new (u := .tup (zs.map V.int)) ht
    have htt : (upd H2 t (.tup (zs.map V.int))) t = some (.tup (zs.map V.int)) := upd_same
    change gName 2 (V.ref t) _ (upd H2 t (.tup (zs.map V.int))) _
    generalize upd H2 t (.tup (zs.map V.int)) = H3 at l3 htt
    walk_at "go"
    refine ⟨Rd.szr rfl, fun t0 ht0 => ?_⟩
    refine Rd.neD Rd.encTInts (a := zs) (b := []) (Rd.dp_tints (SqT.of (Rd.new_app ht0 htt))) (Rd.dp_tints (SqT.of upd_same)) ?_
    have l4 := l3.new (u := .tup []) ht0
    have htt := Rd.new_app (u := .tup []) ht0 htt
    change ∃ k, _ ∧ (if k = true then _ else tTup _ _ (upd H3 t0 (.tup [])) _)
    generalize upd H3 t0 (.tup []) = H4 at l4 htt
    refine ⟨_, rfl, ?_⟩
    refine Rd.iten (fun c => ?_) (fun c => ?_)
    · walk_at "go"
      exact k _ (some zs) _ l4 ⟨t, rfl, htt⟩
    · walk_at "go"
      refine ⟨Rd.szr rfl, fun t1 ht1 => ?_⟩
      exact k _ (some [(n : Int) - 1]) _ (l4.new ht1) ⟨t1, rfl, upd_same⟩
end
end Lv

set_option Elab.async false
set_option linter.all false
set_option maxRecDepth 100000
set_option maxHeartbeats 0
/-! The law's own look at a form. -/
namespace Lv
open PySem PySem.Spec PyProof.Rows L2 OwX
local macro_rules | `(tactic| walk_at "side") => `(tactic| first
  | exact (show CMul _ _ from .inl ⟨by decide, by decide⟩) | exact (show CMul _ _ from .inr ⟨by decide, by decide⟩) | exact (show CMul _ _ from .inl ⟨by omega, by omega⟩) | exact (show CMul _ _ from .inr ⟨by omega, by omega⟩)
  | exact (show CPow _ _ from ⟨by decide, by decide, by decide⟩)
  | exact (show CDiv _ _ from ⟨by decide, by decide⟩) | exact (show CDiv _ _ from ⟨by omega, by omega⟩)
  | exact (show (0 : Int) < _ by decide) | exact (show (0 : Int) < _ by omega) | exact (show ¬ (_ : Int) = 0 by decide) | exact (show ¬ (_ : Int) = 0 by omega) | assumption)
local macro_rules | `(tactic| walk_at "hp") => `(tactic| first
  | assumption | exact upd_same
  | (refine' SqL.of ?h1; (case h1 => walk_at "hp")) | (refine' SqT.of ?h1; (case h1 => walk_at "hp"))
  | (refine' Rd.new_app ?h1 ?h2; (case h1 => assumption); (case h2 => walk_at "hp"))
  | (refine' Rd.upd_app ?h1 ?h2; (case h1 => first | assumption | exact Ne.symm (by assumption)); (case h2 => walk_at "hp"))
  | (refine' Rd.ext_app ?h1 ?h2; (case h1 => assumption); (case h2 => walk_at "hp"))
  | (refine' Rd.ext_L ?h1 ?h2; (case h1 => assumption); (case h2 => walk_at "hp"))
  | (refine' Rd.ext_T ?h1 ?h2; (case h1 => assumption); (case h2 => walk_at "hp")))
local macro_rules | `(tactic| walk_at "go") => `(tactic| repeat (first
  | with_reducible refine Rd.con ?_
  | ((with_reducible refine' Rd.var ?h1 ?_); (case h1 => rfl))
  | with_reducible refine Rd.op ?_
  | with_reducible refine Rd.un ?_
  | with_reducible refine Rd.i0 ?_
  | with_reducible refine Rd.iu ?_
  | ((with_reducible refine Rd.iC ?h1 ?_); (case h1 => walk_at "side"))
  | with_reducible refine Rd.nil ?_
  | with_reducible refine Rd.cons ?_
  | with_reducible refine Rd.cb ?_
  | with_reducible refine Rd.int1 ?_
  | with_reducible refine Rd.intB ?_
  | with_reducible refine Rd.maxI ?_
  | with_reducible refine Rd.minI ?_
  | with_reducible refine Rd.blx ?_
  | with_reducible refine Rd.tst ?_
  | with_reducible refine Rd.tb_ ?_
  | with_reducible refine Rd.not_ ?_
  | with_reducible refine Rd.and_ ?_
  | with_reducible refine Rd.or_ ?_
  | with_reducible refine Rd.ifx ?_
  | with_reducible refine Rd.chain ?_
  | with_reducible refine Rd.andV ?_
  | with_reducible refine Rd.orV ?_
  | with_reducible refine Rd.notV ?_
  | with_reducible refine Rd.seq ?_
  | with_reducible refine Rd.asg ?_
  | with_reducible refine Rd.name ?_
  | with_reducible refine Rd.ret ?_
  | with_reducible refine Rd.ifS ?_
  | with_reducible refine Rd.next ?_
  | with_reducible refine Rd.drop ?_
  | with_reducible refine Rd.gsub ?_
  | with_reducible refine Rd.cr ?_
  | with_reducible refine Rd.crX ?_
  | with_reducible refine Rd.ixOS ?_
  | ((with_reducible refine' Rd.xfv ?h1 ?h2 ?h3 ?_); (case h1 => walk_at "hp"); (case h2 => rfl); (case h3 => rfl))
  | ((with_reducible refine' Rd.bmLv ?h1 ?h2 ?_); (case h1 => rfl); (case h2 => walk_at "hp"))
  | ((with_reducible refine' Rd.countL ?h1 ?_); (case h1 => walk_at "hp"))
  | ((with_reducible refine' Rd.sumL ?h1 ?_); (case h1 => walk_at "hp"))
  | ((with_reducible refine' Rd.listL ?h1 ?_); (case h1 => walk_at "hp"))
  | ((with_reducible refine' Rd.listT ?h1 ?_); (case h1 => walk_at "hp"))
  | with_reducible refine Rd.isNn ?_
  | with_reducible refine Rd.isNr ?_
  | with_reducible refine Rd.notNn ?_
  | with_reducible refine Rd.notNr ?_
  | with_reducible refine Rd.isB ?_
  | with_reducible refine Rd.notBtt ?_
  | with_reducible refine Rd.notBff ?_
  | with_reducible refine Rd.notBtf ?_
  | with_reducible refine Rd.notBft ?_
  | with_reducible refine Rd.notB ?_
  | with_reducible refine Rd.smeth ?_
  | with_reducible refine Rd.sl ?_
  | with_reducible refine Rd.po0 ?_
  | with_reducible refine Rd.poI ?_
  | with_reducible refine Rd.ixi ?_
  | with_reducible refine Rd.par ?_
  | with_reducible refine Rd.par2 ?_
  | with_reducible refine Rd.mkRS ?_
  | with_reducible refine Rd.callRS ?_
  | with_reducible refine Rd.mk ?_
  | with_reducible refine Rd.mkX ?_
  | with_reducible refine Rd.sF ?_
  | with_reducible refine Rd.dIn ?_
  | with_reducible refine Rd.dNi ?_
  | with_reducible refine Rd.dctL ?_
  | with_reducible refine Rd.dctT ?_
  | with_reducible refine Rd.forE ?_
  | with_reducible refine Rd.lc2T ?_
  | with_reducible refine Rd.lc2L ?_
  | with_reducible refine Rd.lc2R ?_
  | with_reducible refine Rd.inR2 ?_
  | with_reducible refine Rd.inR1 ?_
  | with_reducible refine Rd.inT ?_
  | with_reducible refine Rd.inL ?_
  | with_reducible refine Rd.lcT ?_
  | with_reducible refine Rd.lcL ?_
  | with_reducible refine Rd.lcR ?_
  | with_reducible refine Rd.forT ?_
  | with_reducible refine Rd.forL ?_
  | with_reducible refine Rd.forR ?_
  | with_reducible refine Rd.yes ?_
  | with_reducible refine iteT ?_
  | with_reducible refine iteF ?_
  | with_reducible refine Rd.iteNT ?_
  | with_reducible refine Rd.iteNF ?_
  | with_reducible refine Rd.tup ?_
  | with_reducible refine Rd.lst ?_
  | ((with_reducible refine Rd.eqs ?h1 ?_); (case h1 => rfl))
  | ((with_reducible refine Rd.nes ?h1 ?_); (case h1 => rfl))
  | ((with_reducible refine' Rd.ixL ?h1 ?h2 ?_); (case h1 => walk_at "hp"); (case h2 => first | rfl | assumption))
  | ((with_reducible refine' Rd.ixT ?h1 ?h2 ?_); (case h1 => walk_at "hp"); (case h2 => first | rfl | assumption))
  | ((with_reducible refine' Rd.lenL ?h1 ?_); (case h1 => walk_at "hp"))
  | ((with_reducible refine' Rd.lenT ?h1 ?_); (case h1 => walk_at "hp"))
  | ((with_reducible refine' Rd.setL ?h1 ?h2 ?_); (case h1 => walk_at "hp"); (case h2 => first | rfl | assumption))))
section
variable {base : Heap} {P : Program} {w : World} {mg : Str → Option Value} {K : PySem.W.Frag}
/-! ### _law_is_form -/
def sp_is_form (K : PySem.W.Frag) : Sp := fun vs H Q _ => ∃ (a l : Addr) (xs ys : List Int), vs = [.ref a, .ref l] ∧ FormAt K H a xs ∧ H l = some (.lst (ys.map V.int)) ∧ xs.length ≤ 1000 ∧ ∀ H', Ext H H' → Q (.bl (decide (xs = ys))) H'
theorem isi_ty {K : PySem.W.Frag} {H : Hp} {x : V} {t n : String} {b : Bool} {Q : VK} (ty : TyX K H x (.type t)) (h : kitB t n = some b) (q : Q (.bl b) H) : rIsi K [x, .ty n] H Q := ⟨x, .ty n, _, _, b, rfl, .ty n, ty, kit_ty h, q⟩
theorem kit_tt : kitB "tuple" "tuple" = some true := by decide +kernel
theorem kit_ii : kitB "int" "int" = some true := by decide +kernel
theorem kit_ib : kitB "int" "bool" = some false := by decide +kernel
theorem isi_form (T : Tx K mg) {H : Hp} {a : Addr} {xs : List Int} {Q : VK} (F : FormAt K H a xs) (q : Q (.bl true) H) : rIsi K [.ref a, .ref (CF K)] H Q := by
  obtain ⟨dx, r, h1, h2⟩ := F
  exact ⟨_, _, _, _, true, rfl, .own _, tyx_ins T.c_Form T.i_Form h1, T.is_Form, q⟩
theorem ok_is_form (T : Tx K mg) : FnR P w K mg base (L2.CX P w) 1 (a_law_is_form K) (sp_is_form K) := by
  refine fnr T.d_law_is_form sc_law_is_form (fun _ _ _ _ _ _ us hl => match us, hl with | [_, _], _ => rfl) (fun vs H Q E h => ?_) (fun cdv A outer s H vs Q E hr h => ?_)
  · obtain ⟨a, l, xs, ys, rfl, _⟩ := h
    rfl
  · obtain ⟨a, l, xs, ys, rfl, F, hl, hn, k⟩ := h
    refine ⟨_, pss_cons (ps_if (PW.pt (pw_or (pt_not (pt_val (pe_callB (Rd.c_isi (K := K)) (by rfl) T.f_isinstance Rd.bt_isinstance (pa_cons (pv 0) (pa_cons (pe_glob (v := .ref (CF K)) (by rfl) T.g_Form rfl) pa_nil)))))
        (pw_or (pt_not (pt_val (pe_callB (Rd.c_isi (K := K)) (by rfl) T.f_isinstance Rd.bt_isinstance (pa_cons (pe_fld (pv 0) rfl) (pa_cons (pe_bltn (v := .ty "tuple") (by rfl) T.f_tuple Rd.bt_tuple rfl) pa_nil)))))
        (pw_or1 (pt_cmpR (op_neD hr.units) (pe_fld (pv 0) rfl) (pe_callTy (Rd.c_tuple (K := K)) (by rfl) T.f_tuple Rd.bt_tuple (pa_cons (pv 1) pa_nil)) (nomark _)))))) (pss_one (ps_ret pe_bl)) pss_nil)
      (pss_one (ps_ret (pe_cmpR (op_eqD hr.units) (pe_lc (own := [("part", 2)]) rfl sc_law_is_form.nd (pi_tup (pe_fld (pv 0) rfl)) (blkOk_by (own := [("part", 2)]) (N := N_law_is_form) (sc := defScope s_law_is_form) (by decide +kernel)) (fun _ _ _ _ _ => gx 2 sc_law_is_form.nd)
          (fun _ _ _ _ _ => pts_one (PW.pt (pw_or (pt_not (pt_val (pe_callB (Rd.c_isi (K := K)) (by rfl) T.f_isinstance Rd.bt_isinstance (pa_cons (pv 2) (pa_cons (pe_bltn (v := .ty "int") (by rfl) T.f_int boot_int rfl) pa_nil)))))
            (pw_or1 (pt_val (pe_callB (Rd.c_isi (K := K)) (by rfl) T.f_isinstance Rd.bt_isinstance (pa_cons (pv 2) (pa_cons (pe_bltn (v := .ty "bool") (by rfl) T.f_bool Rd.bt_bool rfl) pa_nil))))))))
          (fun _ _ _ _ _ => pv 2)) (pe_lst pa_nil) (nomark _)))), ?_⟩
    walk_at "go"
    refine isi_form T F ?_
    walk_at "go"
    refine fld_parts T F rfl fun q hq => ?_
    walk_at "go"
    refine isi_ty (.base (.tup hq)) kit_tt ?_
    walk_at "go"
    refine fld_parts T F rfl fun q2 hq2 => ?_
    walk_at "go"
    refine Rd.tupL (SqL.of hl) fun t ht => ?_
    refine Rd.neD Rd.encTInts (Rd.dp_tints (SqT.of (Rd.new_app ht hq2))) (Rd.dp_tints (SqT.of upd_same)) ?_
    walk_at "go"
    refine Rd.iten (fun c => ?_) (fun c => ?_)
    · walk_at "go"
      rw [← decide_eq_false c]
      exact k _ (Ext.upd ht)
    · have F' := F.ext (Ext.upd (o := .tup (ys.map V.int)) ht)
      walk_at "go"
      refine fld_parts T F' rfl fun q3 hq3 => ?_
      refine ⟨q3, rfl, ⟨_, SqT.of hq3⟩, fun D hD => ?_⟩
      refine Rd.lcE (emb := V.int) (Rd.walk_tupM (K := K) (a := q3)) Rd.yat (by omega) (fun _ => false) (fun z y _ => False) (fun _ _ _ _ _ h => h) hD (fun H' e => SqT.of (e _ _ hq3)) ?_ ?_
      · intro ix it H' acc hi e ha Qy Qn ky kn
        walk_at "go"
        refine ⟨rfl, ?_⟩
        walk_at "go"
        refine isi_ty (.base (.int _)) kit_ii ?_
        walk_at "go"
        refine isi_ty (.base (.int _)) kit_ib ?_
        walk_at "go"
        exact kn _ Rd.ext_rfl rfl
      · intro zs H' e hys pr
        have e2 : zs = [] := by
          have h := Rd.paired_len pr
          rw [List.filter_eq_nil_iff.mpr (by simp)] at h
          exact List.length_eq_zero_iff.mp h.symm
        subst e2
        walk_at "go"
        refine ⟨Rd.szr rfl, fun m hm => ?_⟩
        refine Rd.eqD Rd.encInts (a := []) (b := []) (Rd.dp_ints (SqL.of (Rd.new_app hm hys))) (Rd.dp_ints (SqL.of upd_same)) ?_
        have c2 : decide (xs = ys) = decide (([] : List Int) = []) := by rw [decide_eq_true c]; rfl
        rw [← c2]
        exact k _ (((Ext.upd ht).trans e).trans (Ext.upd hm))
end
end Lv

set_option Elab.async false
set_option linter.all false
set_option maxRecDepth 100000
set_option maxHeartbeats 0
/-! sign_of. -/
namespace Lv
open PySem PySem.Spec PyProof.Rows L2 OwX
local macro_rules | `(tactic| walk_at "side") => `(tactic| first
  | exact (show CMul _ _ from .inl ⟨by decide, by decide⟩) | exact (show CMul _ _ from .inr ⟨by decide, by decide⟩) | exact (show CMul _ _ from .inl ⟨by omega, by omega⟩) | exact (show CMul _ _ from .inr ⟨by omega, by omega⟩)
  | exact (show CPow _ _ from ⟨by decide, by decide, by decide⟩)
  | exact (show CDiv _ _ from ⟨by decide, by decide⟩) | exact (show CDiv _ _ from ⟨by omega, by omega⟩)
  | exact (show (0 : Int) < _ by decide) | exact (show (0 : Int) < _ by omega) | exact (show ¬ (_ : Int) = 0 by decide) | exact (show ¬ (_ : Int) = 0 by omega) | assumption)
local macro_rules | `(tactic| walk_at "hp") => `(tactic| first
  | assumption | exact upd_same
  | (refine' SqL.of ?h1; (case h1 => walk_at "hp")) | (refine' SqT.of ?h1; (case h1 => walk_at "hp"))
  | (refine' Rd.new_app ?h1 ?h2; (case h1 => assumption); (case h2 => walk_at "hp"))
  | (refine' Rd.upd_app ?h1 ?h2; (case h1 => first | assumption | exact Ne.symm (by assumption)); (case h2 => walk_at "hp"))
  | (refine' Rd.ext_app ?h1 ?h2; (case h1 => assumption); (case h2 => walk_at "hp"))
  | (refine' Rd.ext_L ?h1 ?h2; (case h1 => assumption); (case h2 => walk_at "hp"))
  | (refine' Rd.ext_T ?h1 ?h2; (case h1 => assumption); (case h2 => walk_at "hp")))
local macro_rules | `(tactic| walk_at "go") => `(tactic| repeat (first
  | with_reducible refine Rd.con ?_
  | ((with_reducible refine' Rd.var ?h1 ?_); (case h1 => rfl))
  | with_reducible refine Rd.op ?_
  | with_reducible refine Rd.un ?_
  | with_reducible refine Rd.i0 ?_
  | with_reducible refine Rd.iu ?_
  | ((with_reducible refine Rd.iC ?h1 ?_); (case h1 => walk_at "side"))
  | with_reducible refine Rd.nil ?_
  | with_reducible refine Rd.cons ?_
  | with_reducible refine Rd.cb ?_
  | with_reducible refine Rd.int1 ?_
  | with_reducible refine Rd.intB ?_
  | with_reducible refine Rd.maxI ?_
  | with_reducible refine Rd.minI ?_
  | with_reducible refine Rd.blx ?_
  | with_reducible refine Rd.tst ?_
  | with_reducible refine Rd.tb_ ?_
  | with_reducible refine Rd.not_ ?_
  | with_reducible refine Rd.and_ ?_
  | with_reducible refine Rd.or_ ?_
  | with_reducible refine Rd.ifx ?_
  | with_reducible refine Rd.chain ?_
  | with_reducible refine Rd.andV ?_
  | with_reducible refine Rd.orV ?_
  | with_reducible refine Rd.notV ?_
  | with_reducible refine Rd.seq ?_
  | with_reducible refine Rd.asg ?_
  | with_reducible refine Rd.name ?_
  | with_reducible refine Rd.ret ?_
  | with_reducible refine Rd.ifS ?_
  | with_reducible refine Rd.next ?_
  | with_reducible refine Rd.drop ?_
  | with_reducible refine Rd.gsub ?_
  | with_reducible refine Rd.cr ?_
  | with_reducible refine Rd.crX ?_
  | with_reducible refine Rd.ixOS ?_
  | ((with_reducible refine' Rd.xfv ?h1 ?h2 ?h3 ?_); (case h1 => walk_at "hp"); (case h2 => rfl); (case h3 => rfl))
  | ((with_reducible refine' Rd.bmLv ?h1 ?h2 ?_); (case h1 => rfl); (case h2 => walk_at "hp"))
  | ((with_reducible refine' Rd.countL ?h1 ?_); (case h1 => walk_at "hp"))
  | ((with_reducible refine' Rd.sumL ?h1 ?_); (case h1 => walk_at "hp"))
  | ((with_reducible refine' Rd.listL ?h1 ?_); (case h1 => walk_at "hp"))
  | ((with_reducible refine' Rd.listT ?h1 ?_); (case h1 => walk_at "hp"))
  | with_reducible refine Rd.isNn ?_
  | with_reducible refine Rd.isNr ?_
  | with_reducible refine Rd.notNn ?_
  | with_reducible refine Rd.notNr ?_
  | with_reducible refine Rd.isB ?_
  | with_reducible refine Rd.notBtt ?_
  | with_reducible refine Rd.notBff ?_
  | with_reducible refine Rd.notBtf ?_
  | with_reducible refine Rd.notBft ?_
  | with_reducible refine Rd.notB ?_
  | with_reducible refine Rd.smeth ?_
  | with_reducible refine Rd.sl ?_
  | with_reducible refine Rd.po0 ?_
  | with_reducible refine Rd.poI ?_
  | with_reducible refine Rd.ixi ?_
  | with_reducible refine Rd.par ?_
  | with_reducible refine Rd.par2 ?_
  | with_reducible refine Rd.mkRS ?_
  | with_reducible refine Rd.callRS ?_
  | with_reducible refine Rd.mk ?_
  | with_reducible refine Rd.mkX ?_
  | with_reducible refine Rd.sF ?_
  | with_reducible refine Rd.dIn ?_
  | with_reducible refine Rd.dNi ?_
  | with_reducible refine Rd.dctL ?_
  | with_reducible refine Rd.dctT ?_
  | with_reducible refine Rd.forE ?_
  | with_reducible refine Rd.lc2T ?_
  | with_reducible refine Rd.lc2L ?_
  | with_reducible refine Rd.lc2R ?_
  | with_reducible refine Rd.inR2 ?_
  | with_reducible refine Rd.inR1 ?_
  | with_reducible refine Rd.inT ?_
  | with_reducible refine Rd.inL ?_
  | with_reducible refine Rd.lcT ?_
  | with_reducible refine Rd.lcL ?_
  | with_reducible refine Rd.lcR ?_
  | with_reducible refine Rd.forT ?_
  | with_reducible refine Rd.forL ?_
  | with_reducible refine Rd.forR ?_
  | with_reducible refine Rd.yes ?_
  | with_reducible refine iteT ?_
  | with_reducible refine iteF ?_
  | with_reducible refine Rd.iteNT ?_
  | with_reducible refine Rd.iteNF ?_
  | with_reducible refine Rd.tup ?_
  | with_reducible refine Rd.lst ?_
  | ((with_reducible refine Rd.eqs ?h1 ?_); (case h1 => rfl))
  | ((with_reducible refine Rd.nes ?h1 ?_); (case h1 => rfl))
  | ((with_reducible refine' Rd.ixL ?h1 ?h2 ?_); (case h1 => walk_at "hp"); (case h2 => first | rfl | assumption))
  | ((with_reducible refine' Rd.ixT ?h1 ?h2 ?_); (case h1 => walk_at "hp"); (case h2 => first | rfl | assumption))
  | ((with_reducible refine' Rd.lenL ?h1 ?_); (case h1 => walk_at "hp"))
  | ((with_reducible refine' Rd.lenT ?h1 ?_); (case h1 => walk_at "hp"))
  | ((with_reducible refine' Rd.setL ?h1 ?h2 ?_); (case h1 => walk_at "hp"); (case h2 => first | rfl | assumption))))
section
variable {base : Heap} {P : Program} {w : World} {mg : Str → Option Value} {K : PySem.W.Frag}
def sgnF (n : Int) : Int := if n > 0 then 1 else if n < 0 then -1 else 0
def sp_sign_of : Sp := fun vs H Q _ => ∃ n : Int, vs = [.int n] ∧ Q (.int (sgnF n)) H
theorem ok_sign_of (T : Tx K mg) : FnR P w K mg base (L2.CX P w) 1 (a_sign_of K) sp_sign_of := by
  refine fnr T.d_sign_of sc_sign_of (fun _ _ _ _ _ _ us hl => match us, hl with | [_], _ => rfl) (fun vs H Q E h => ?_) (fun cdv A outer s H vs Q E hr h => ?_)
  · obtain ⟨n, rfl, _⟩ := h
    rfl
  · obtain ⟨n, rfl, k⟩ := h
    refine ⟨_, (pss_cons (ps_if (pt_cmpR op_gt (pv 0) pe_int (nomark _)) (pss_one (ps_ret pe_int)) pss_nil) (pss_cons (ps_if (pt_cmpR op_lt (pv 0) pe_int (nomark _)) (pss_one (ps_ret (pe_un un_neg pe_int))) pss_nil) (pss_one (ps_ret pe_int)))), ?_⟩
    unfold sgnF at k
    walk_at "go"
    refine Rd.ited (fun c => ?_) (fun c => ?_)
    · rw [if_pos c] at k
      walk_at "go"
      exact k
    · rw [if_neg c] at k
      walk_at "go"
      refine Rd.ited (fun c2 => ?_) (fun c2 => ?_)
      · rw [if_pos c2] at k
        walk_at "go"
        exact k
      · rw [if_neg c2] at k
        walk_at "go"
        exact k
end
end Lv

set_option linter.all false
set_option maxRecDepth 100000
/-! Cores of results, sets of them: plain. -/
namespace Rs
def cutI (n m : Int) : Int := if n < m then n else m
def core (p : Pr) (r : Int) : Pr := if p.2 ≤ p.1 then (cutI p.2 r + cutI (p.1 - p.2) r, cutI p.2 r) else (cutI p.1 r, cutI p.1 r + cutI (p.2 - p.1) r)
def nn (p : Pr) : Prop := 0 ≤ p.1 ∧ 0 ≤ p.2
def isC (r : Int) (p : Pr) : Prop := nn p ∧ (p.1 ≤ r ∨ p.2 ≤ r) ∧ p.1 - p.2 ≤ r ∧ p.2 - p.1 ≤ r
theorem isC_core {p : Pr} {r : Int} (h : nn p) (hr : 0 ≤ r) : isC r (core p r) := by
  unfold nn at h
  unfold isC nn core cutI
  split <;> split <;> split <;> simp only [] <;> omega
theorem core_isC {p : Pr} {r : Int} (h : isC r p) : core p r = p := by
  obtain ⟨a, b⟩ := p
  unfold isC nn at h
  unfold core cutI
  simp only [] at *
  split <;> split <;> split <;> (apply Prod.ext <;> simp only [] <;> omega)
theorem core_core {p : Pr} {r t : Int} (h : nn p) (ht : 0 ≤ t) (hr : t ≤ r) : core (core p r) t = core p t := by
  obtain ⟨a, b⟩ := p
  unfold nn at h
  unfold core cutI
  simp only [] at *
  by_cases c : b ≤ a
  · rw [if_pos c, if_pos c]
    simp only []
    (repeat' split) <;> (apply Prod.ext <;> simp only [] <;> omega)
  · rw [if_neg c, if_neg c]
    simp only []
    (repeat' split) <;> (apply Prod.ext <;> simp only [] <;> omega)
theorem isC_mono {p : Pr} {r t : Int} (h : isC t p) (hr : t ≤ r) : isC r p := by
  unfold isC nn at *
  omega
/-- all cores, as the program lists them -/
def lowI (r h : Nat) : Nat := if r < h then h - r else 0
def highI (r h : Nat) : Nat := if r < h then r else h + r
def allC (r : Nat) : List Pr := (List.range (2 * r + 1)).flatMap fun h => (List.range (highI r h + 1 - lowI r h)).map fun j => ((h : Int), ((lowI r h + j : Nat) : Int))
theorem mem_allC {r : Nat} {p : Pr} : p ∈ allC r ↔ isC r p := by
  obtain ⟨a, b⟩ := p
  unfold allC isC nn
  simp only [List.mem_flatMap, List.mem_range, List.mem_map, Prod.mk.injEq]
  constructor
  · rintro ⟨h, hh, j, hj, rfl, rfl⟩
    unfold lowI highI at *
    split at hj <;> (try simp only [*, if_true, if_false]) <;> omega
  · rintro ⟨⟨h1, h2⟩, h3, h4, h5⟩
    refine ⟨a.toNat, by omega, b.toNat - lowI r a.toNat, ?_, by omega, ?_⟩
    · unfold lowI highI
      split <;> omega
    · unfold lowI
      split <;> omega
/-- those of reach t whose core at t - 1 is b -/
def resOf (l d : Int) : Pr := if d ≥ 0 then (l + d, l) else (l, l - d)
def near (b : Pr) : List Pr := (let l := if b.2 < b.1 then b.2 else b.1; ([0, 1] : List Int).flatMap fun m => ([-1, 0, 1] : List Int).map fun t => resOf (l + m) (b.1 - b.2 + t))
def splitC (b : Pr) (t : Int) : List Pr := (near b).filter fun x => decide (core x t = x) && decide (core x (t - 1) = b)
theorem mem_splitC {b x : Pr} {t : Int} (ht : 1 ≤ t) (hb : isC (t - 1) b) : x ∈ splitC b t ↔ isC t x ∧ core x (t - 1) = b := by
  unfold splitC
  rw [List.mem_filter, Bool.and_eq_true, decide_eq_true_iff, decide_eq_true_iff]
  constructor
  · rintro ⟨h1, h2, h3⟩
    have hx : nn x := by
      unfold near at h1
      simp only [List.mem_flatMap, List.mem_map, List.mem_cons, List.not_mem_nil, or_false] at h1
      obtain ⟨m, hm, q, hq, rfl⟩ := h1
      unfold isC nn at hb
      unfold nn resOf
      obtain ⟨b1, b2⟩ := b
      simp only [] at *
      split <;> split <;> simp only [] <;> omega
    exact ⟨by rw [← h2]; exact isC_core hx (by omega), h3⟩
  · rintro ⟨h1, h2⟩
    refine ⟨?_, core_isC h1, h2⟩
    obtain ⟨a1, a2⟩ := x
    obtain ⟨b1, b2⟩ := b
    unfold isC nn at hb h1
    unfold near
    simp only [List.mem_flatMap, List.mem_map, List.mem_cons, List.not_mem_nil, or_false]
    simp only [] at *
    unfold core cutI at h2
    simp only [] at h2
    refine ⟨(if a2 < a1 then a2 else a1) - (if b2 < b1 then b2 else b1), ?_, a1 - a2 - (b1 - b2), ?_, ?_⟩
    · (repeat' split at h2) <;> (have e1 := congrArg Prod.fst h2; have e2 := congrArg Prod.snd h2; simp only [] at e1 e2; split <;> split <;> omega)
    · (repeat' split at h2) <;> (have e1 := congrArg Prod.fst h2; have e2 := congrArg Prod.snd h2; simp only [] at e1 e2; omega)
    · unfold resOf
      apply Prod.ext <;> (split <;> simp only [] <;> split <;> split <;> omega)
/-- the set is all or nothing at b -/
def whole (S : Pr → Bool) (b : Pr) (t : Int) : Bool := !((splitC b t).map S).contains true || !((splitC b t).map S).contains false
theorem whole_iff {S : Pr → Bool} {b : Pr} {t : Int} : whole S b t = true ↔ ∀ x ∈ splitC b t, ∀ y ∈ splitC b t, S x = S y := by
  unfold whole
  rw [Bool.or_eq_true, Bool.not_eq_true', Bool.not_eq_true', ← Bool.not_eq_true, ← Bool.not_eq_true, List.contains_iff_mem, List.contains_iff_mem]
  simp only [List.mem_map]
  constructor
  · rintro (h | h) x hx y hy
    · have h1 : S x = false := by cases q : S x with
        | false => rfl
        | true => exact absurd ⟨x, hx, q⟩ h
      have h2 : S y = false := by cases q : S y with
        | false => rfl
        | true => exact absurd ⟨y, hy, q⟩ h
      rw [h1, h2]
    · have h1 : S x = true := by cases q : S x with
        | true => rfl
        | false => exact absurd ⟨x, hx, q⟩ h
      have h2 : S y = true := by cases q : S y with
        | true => rfl
        | false => exact absurd ⟨y, hy, q⟩ h
      rw [h1, h2]
  · intro h
    by_cases c : ∃ a, a ∈ splitC b t ∧ S a = true
    · right
      rintro ⟨y, hy, e⟩
      obtain ⟨x, hx, e2⟩ := c
      have := h x hx y hy
      rw [e, e2] at this
      cases this
    · exact .inl c
def least (S : Pr → Bool) : Nat → Nat
  | 0 => 0
  | t + 1 => if (allC t).all (fun b => whole S b ((t + 1 : Nat) : Int)) = true then least S t else t + 1
theorem least_le (S : Pr → Bool) : ∀ r, least S r ≤ r
  | 0 => Nat.le_refl _
  | t + 1 => by
    unfold least
    split
    · exact Nat.le_trans (least_le S t) (Nat.le_succ _)
    · exact Nat.le_refl _
theorem least_spec {S : Pr → Bool} {x : Pr} (hx : nn x) : ∀ r : Nat, S (core x (least S r : Nat)) = S (core x (r : Nat))
  | 0 => rfl
  | t + 1 => by
    unfold least
    split
    · rename_i h
      rw [least_spec (S := S) hx t]
      have c1 : isC ((t : Nat) : Int) (core x (t : Nat)) := isC_core hx (by omega)
      have hw := whole_iff.mp (List.all_eq_true.mp h _ (mem_allC.mpr c1))
      refine hw _ ((mem_splitC (by omega) (by rw [show (((t + 1 : Nat) : Int) - 1) = ((t : Nat) : Int) by omega]; exact c1)).mpr ?_) _ ((mem_splitC (by omega) (by rw [show (((t + 1 : Nat) : Int) - 1) = ((t : Nat) : Int) by omega]; exact c1)).mpr ?_)
      · rw [show (((t + 1 : Nat) : Int) - 1) = ((t : Nat) : Int) by omega]
        exact ⟨isC_mono c1 (by omega), core_isC c1⟩
      · rw [show (((t + 1 : Nat) : Int) - 1) = ((t : Nat) : Int) by omega]
        exact ⟨isC_core hx (by omega), core_core hx (by omega) (by omega)⟩
    · rfl
/-- the cores that are kept of the members -/
def givenS (ms : List Pr) (r : Nat) : Pr → Bool := fun p => decide (p ∈ ms.map fun m => core m r)
def span (ms : List Pr) (r : Nat) : Nat := least (givenS ms r) r
def kept (ms : List Pr) (r : Nat) : List Pr := (allC (span ms r)).filter (givenS ms r)
theorem mem_kept {ms : List Pr} {r : Nat} {x : Pr} (hx : nn x) : core x (span ms r) ∈ kept ms r ↔ core x r ∈ ms.map fun m => core m r := by
  unfold kept
  rw [List.mem_filter]
  have h1 : core x (span ms r) ∈ allC (span ms r) := mem_allC.mpr (isC_core hx (by omega))
  have h2 := least_spec (S := givenS ms r) hx r
  have h3 : givenS ms r (core x (span ms r)) = givenS ms r (core x r) := h2
  rw [h3]
  unfold givenS
  rw [decide_eq_true_iff]
  exact ⟨fun h => h.2, fun h => ⟨h1, h⟩⟩
theorem allC_len (r : Nat) (h : r ≤ 60) : (allC r).length ≤ 121 * 121 := by
  unfold allC
  have key : ∀ l : List Nat, (l.flatMap fun h => (List.range (highI r h + 1 - lowI r h)).map fun j => ((h : Int), ((lowI r h + j : Nat) : Int))).length ≤ l.length * (2 * r + 1) := by
    intro l
    induction l with
    | nil => simp
    | cons x l ih =>
      rw [List.flatMap_cons, List.length_append, List.length_map, List.length_range, List.length_cons, Nat.succ_mul]
      have : highI r x + 1 - lowI r x ≤ 2 * r + 1 := by unfold highI lowI; split <;> omega
      omega
  have h1 := key (List.range (2 * r + 1))
  rw [List.length_range] at h1
  exact Nat.le_trans h1 (Nat.mul_le_mul (by omega) (by omega))
end Rs

set_option linter.all false
set_option maxRecDepth 100000
/-! Sets of results in their least form: plain. -/
namespace Rs
/-- s and ks are the least form of the set M -/
structure IsR (s : Nat) (ks : List Pr) (M : Pr → Prop) : Prop where
  le : s ≤ 60
  ex : ∃ (ms : List Pr) (r : Nat), r ≤ 60 ∧ (∀ p ∈ ms, nn p) ∧ s = span ms r ∧ ks = kept ms r ∧ ∀ p, nn p → (core p r ∈ ms.map (fun m => core m r) ↔ M p)
theorem isR_of {ms : List Pr} {r : Nat} {M : Pr → Prop} (hr : r ≤ 60) (all : ∀ p ∈ ms, nn p) (h : ∀ p, nn p → (core p r ∈ ms.map (fun m => core m r) ↔ M p)) : IsR (span ms r) (kept ms r) M :=
  ⟨Nat.le_trans (least_le _ _) hr, ms, r, hr, all, rfl, rfl, h⟩
section
variable {s s' : Nat} {ks ks' : List Pr} {M M' : Pr → Prop}
theorem IsR.mem (h : IsR s ks M) {p : Pr} (hp : nn p) : core p s ∈ ks ↔ M p := by
  obtain ⟨ms, r, hr, all, rfl, rfl, hM⟩ := h.ex
  rw [mem_kept hp, hM p hp]
theorem nn_core {p : Pr} {t : Nat} (hp : nn p) : nn (core p (t : Nat)) := (isC_core hp (by omega)).1
theorem core_twice {p : Pr} {r t : Nat} (hp : nn p) (h : r ≤ t) : core (core p (t : Nat)) (r : Nat) = core p (r : Nat) := core_core hp (by omega) (by omega)
theorem IsR.at_ (h : IsR s ks M) {p : Pr} (hp : nn p) {t : Nat} (ht : s ≤ t) : M (core p (t : Nat)) ↔ M p := by
  rw [← h.mem hp, ← h.mem (nn_core hp), core_twice hp ht]
/-- no lesser reach will do -/
theorem IsR.min (h : IsR s ks M) {t : Nat} (ht : t < s) : ¬ ∀ p, nn p → (M (core p (t : Nat)) ↔ M p) := by
  obtain ⟨ms, r, hr, all, hs, rfl, hM⟩ := h.ex
  intro F
  have sub : ∀ x : Pr, isC ((r : Nat) : Int) x → (givenS ms r x = true ↔ M x) := fun x hx => by
    unfold givenS
    rw [decide_eq_true_iff, ← hM x hx.1, core_isC hx]
  have key : ∀ n, n ≤ r → least (givenS ms r) n = s → s ≤ n := fun n _ e => by rw [← e]; exact least_le _ _
  have stop : ∀ n : Nat, n ≤ r → t < least (givenS ms r) n → False := by
    intro n
    induction n with
    | zero => intro _ h; unfold least at h; omega
    | succ n ih =>
      intro hn h
      unfold least at h
      split at h
      · exact ih (by omega) h
      · rename_i no
        apply no
        rw [List.all_eq_true]
        intro b hb
        have hbC := mem_allC.mp hb
        rw [whole_iff]
        have one : ∀ x ∈ splitC b ((n + 1 : Nat) : Int), (givenS ms r x = true ↔ M b) := fun x hx => by
          have hx2 := (mem_splitC (by omega) (by rw [show (((n + 1 : Nat) : Int) - 1) = ((n : Nat) : Int) by omega]; exact hbC)).mp hx
          rw [sub x (isC_mono hx2.1 (by omega))]
          have e : core x ((n : Nat) : Int) = b := by
            have := hx2.2
            rw [show (((n + 1 : Nat) : Int) - 1) = ((n : Nat) : Int) by omega] at this
            exact this
          have c := F x hx2.1.1
          have c2 := F b hbC.1
          have e2 : core b ((t : Nat) : Int) = core x ((t : Nat) : Int) := by rw [← e]; exact core_twice hx2.1.1 (by omega)
          rw [e2] at c2
          rw [← c, c2]
        intro x hx y hy
        have h1 := one x hx
        have h2 := one y hy
        rw [Bool.eq_iff_iff, h1, h2]
  exact stop r (Nat.le_refl _) (by rw [show least (givenS ms r) r = span ms r from rfl, ← hs]; exact ht)
theorem IsR.list (h : IsR s ks M) : ∃ f : Pr → Bool, ks = (allC s).filter f ∧ ∀ p, isC ((s : Nat) : Int) p → (f p = true ↔ M p) := by
  obtain ⟨ms, r, hr, all, rfl, rfl, hM⟩ := h.ex
  refine ⟨givenS ms r, rfl, fun p hp => ?_⟩
  have hx := isC_mono hp (show ((span ms r : Nat) : Int) ≤ (r : Nat) from by have := least_le (givenS ms r) r; unfold span; omega)
  unfold givenS
  rw [decide_eq_true_iff, ← hM p hp.1, core_isC hx]
theorem filter_same {l : List Pr} {f g : Pr → Bool} (h : ∀ p ∈ l, f p = g p) : l.filter f = l.filter g := by
  induction l with
  | nil => rfl
  | cons a l ih =>
    rw [List.filter_cons, List.filter_cons, h a List.mem_cons_self, ih fun p hp => h p (List.mem_cons_of_mem _ hp)]
theorem IsR.eq_iff (h : IsR s ks M) (h' : IsR s' ks' M') : (s = s' ∧ ks = ks') ↔ ∀ p, nn p → (M p ↔ M' p) := by
  constructor
  · rintro ⟨rfl, rfl⟩ p hp
    rw [← h.mem hp, ← h'.mem hp]
  · intro e
    have es : s = s' := by
      rcases Nat.lt_trichotomy s s' with c | c | c
      · exact absurd (fun p hp => by rw [← e p hp, ← e _ (nn_core hp)]; exact h.at_ hp (Nat.le_refl _)) (h'.min c)
      · exact c
      · exact absurd (fun p hp => by rw [e p hp, e _ (nn_core hp)]; exact h'.at_ hp (Nat.le_refl _)) (h.min c)
    subst es
    obtain ⟨f, rfl, hf⟩ := h.list
    obtain ⟨g, rfl, hg⟩ := h'.list
    refine ⟨rfl, filter_same fun p hp => ?_⟩
    have hc := mem_allC.mp hp
    rw [Bool.eq_iff_iff, hf p hc, hg p hc, e p hc.1]
theorem IsR.congr (h : IsR s ks M) (e : ∀ p, nn p → (M p ↔ M' p)) : IsR s ks M' := by
  obtain ⟨ms, r, hr, all, h1, h2, hM⟩ := h.ex
  exact ⟨h.le, ms, r, hr, all, h1, h2, fun p hp => (hM p hp).trans (e p hp)⟩
/-- a set told by its cores of a reach -/
theorem isR_filter {r : Nat} {f : Pr → Bool} {M : Pr → Prop} (hr : r ≤ 60) (hf : ∀ p, nn p → (f (core p (r : Nat)) = true ↔ M p)) : IsR (span ((allC r).filter f) r) (kept ((allC r).filter f) r) M := by
  refine isR_of hr (fun p hp => (mem_allC.mp (List.mem_filter.mp hp).1).1) fun p hp => ?_
  rw [← hf p hp, List.mem_map]
  constructor
  · rintro ⟨m, h1, h2⟩
    rw [List.mem_filter] at h1
    rw [core_isC (mem_allC.mp h1.1)] at h2
    rw [← h2]; exact h1.2
  · intro h
    have hc := isC_core hp (show (0 : Int) ≤ (r : Nat) by omega)
    exact ⟨core p (r : Nat), List.mem_filter.mpr ⟨mem_allC.mpr hc, h⟩, core_isC hc⟩
end
end Rs

set_option linter.all false
set_option maxRecDepth 100000
/-! Flipped sets, the least result: plain. -/
namespace Rs
def swap (p : Pr) : Pr := (p.2, p.1)
theorem swap_swap (p : Pr) : swap (swap p) = p := rfl
theorem nn_swap {p : Pr} : nn (swap p) ↔ nn p := ⟨fun h => ⟨h.2, h.1⟩, fun h => ⟨h.2, h.1⟩⟩
theorem core_swap (p : Pr) {r : Int} (h0 : 0 ≤ r) : core (swap p) r = swap (core p r) := by
  obtain ⟨a, b⟩ := p
  unfold core swap cutI
  simp only []
  (repeat' split) <;> (apply Prod.ext <;> simp only [] <;> omega)
theorem isC_swap {p : Pr} {r : Int} : isC r (swap p) ↔ isC r p := by
  obtain ⟨a, b⟩ := p
  unfold isC nn swap
  simp only []
  omega
/-- the first of the fewest goals -/
def leastStep (best : Option Pr) (q : Pr) : Option Pr := match best with
  | none => some q
  | some b => if q.1 + q.2 < b.1 + b.2 then some q else some b
def leastF (l : List Pr) : Option Pr := l.foldl leastStep none
/-- the least by goals, then by home goals -/
def lex (p q : Pr) : Prop := p.1 + p.2 < q.1 + q.2 ∨ (p.1 + p.2 = q.1 + q.2 ∧ p.1 < q.1)
instance (p q : Pr) : Decidable (lex p q) := by unfold lex; infer_instance
def lessStep (best : Option Pr) (q : Pr) : Option Pr := match best with
  | none => some q
  | some b => if lex q b then some q else some b
def lessF (l : List Pr) : Option Pr := l.foldl lessStep none
theorem eq_of (p q : Pr) (h1 : p.1 + p.2 = q.1 + q.2) (h2 : p.1 = q.1) : p = q := Prod.ext h2 (by omega)
theorem lex_trans {a b c : Pr} (h : lex a b) (h' : lex b c) : lex a c := by unfold lex at *; omega
theorem lex_tri (p q : Pr) : p = q ∨ lex p q ∨ lex q p := by
  by_cases c : p.1 + p.2 = q.1 + q.2 ∧ p.1 = q.1
  · exact .inl (eq_of p q c.1 c.2)
  · unfold lex; omega
theorem lex_irr {p q : Pr} (h : lex p q) (h' : lex q p) : False := by unfold lex at *; omega
/-- b is the least among those of A -/
def LeastOf (A : Pr → Prop) (b : Pr) : Prop := A b ∧ ∀ q, A q → q = b ∨ lex b q
theorem LeastOf.uniq {A : Pr → Prop} {b c : Pr} (h : LeastOf A b) (h' : LeastOf A c) : b = c := by
  rcases h.2 c h'.1 with e | e
  · exact e.symm
  · rcases h'.2 b h.1 with e2 | e2
    · exact e2
    · exact (lex_irr e e2).elim
theorem least_fold : ∀ (l : List Pr) (b : Pr), (∀ q ∈ l, b.1 ≤ q.1) → l.Pairwise (fun p q => p.1 ≤ q.1) → ∃ c, l.foldl leastStep (some b) = some c ∧ LeastOf (fun q => q = b ∨ q ∈ l) c
  | [], b, _, _ => ⟨b, rfl, .inl rfl, fun q h => .inl (by simpa using h)⟩
  | q :: l, b, hb, hs => by
    rw [List.pairwise_cons] at hs
    have hq := hb q List.mem_cons_self
    show ∃ c, l.foldl leastStep (if q.1 + q.2 < b.1 + b.2 then some q else some b) = some c ∧ _
    by_cases c : q.1 + q.2 < b.1 + b.2
    · rw [if_pos c]
      obtain ⟨z, h1, h2, h3⟩ := least_fold l q hs.1 hs.2
      refine ⟨z, h1, ?_, fun r hr => ?_⟩
      · rcases h2 with h | h
        · exact .inr (by rw [h]; exact List.mem_cons_self)
        · exact .inr (List.mem_cons_of_mem _ h)
      · rcases hr with rfl | hr
        · rcases h3 q (.inl rfl) with e | e
          · exact .inr (by rw [← e]; exact .inl c)
          · exact .inr (lex_trans e (.inl c))
        · rcases List.mem_cons.mp hr with rfl | hr
          · exact h3 _ (.inl rfl)
          · exact h3 _ (.inr hr)
    · rw [if_neg c]
      obtain ⟨z, h1, h2, h3⟩ := least_fold l b (fun r hr => hb r (List.mem_cons_of_mem _ hr)) hs.2
      refine ⟨z, h1, ?_, fun r hr => ?_⟩
      · rcases h2 with h | h
        · exact .inl h
        · exact .inr (List.mem_cons_of_mem _ h)
      · have key : q = b ∨ lex b q := by
          rcases lex_tri q b with e | e | e
          · exact .inl e
          · unfold lex at e; omega
          · exact .inr e
        have hzb := h3 b (.inl rfl)
        rcases hr with rfl | hr
        · exact hzb
        · rcases List.mem_cons.mp hr with rfl | hr
          · rcases key with e | e
            · rw [e]; exact hzb
            · rcases hzb with e2 | e2
              · exact .inr (by rw [← e2]; exact e)
              · exact .inr (lex_trans e2 e)
          · exact h3 _ (.inr hr)
theorem least_spec2 {l : List Pr} (hs : l.Pairwise (fun p q => p.1 ≤ q.1)) : (leastF l = none ∧ l = []) ∨ ∃ c, leastF l = some c ∧ LeastOf (· ∈ l) c := by
  cases l with
  | nil => exact .inl ⟨rfl, rfl⟩
  | cons a l =>
    right
    rw [List.pairwise_cons] at hs
    obtain ⟨c, h1, h2, h3⟩ := least_fold l a hs.1 hs.2
    exact ⟨c, h1, List.mem_cons.mpr h2, fun q hq => h3 q (List.mem_cons.mp hq)⟩
theorem less_fold : ∀ (l : List Pr) (b : Pr), ∃ c, l.foldl lessStep (some b) = some c ∧ LeastOf (fun q => q = b ∨ q ∈ l) c
  | [], b => ⟨b, rfl, .inl rfl, fun q h => .inl (by simpa using h)⟩
  | q :: l, b => by
    show ∃ c, l.foldl lessStep (if lex q b then some q else some b) = some c ∧ _
    by_cases c : lex q b
    · rw [if_pos c]
      obtain ⟨z, h1, h2, h3⟩ := less_fold l q
      refine ⟨z, h1, ?_, fun r hr => ?_⟩
      · rcases h2 with h | h
        · exact .inr (by rw [h]; exact List.mem_cons_self)
        · exact .inr (List.mem_cons_of_mem _ h)
      · rcases hr with rfl | hr
        · rcases h3 q (.inl rfl) with e | e
          · exact .inr (by rw [← e]; exact c)
          · exact .inr (lex_trans e c)
        · rcases List.mem_cons.mp hr with rfl | hr
          · exact h3 _ (.inl rfl)
          · exact h3 _ (.inr hr)
    · rw [if_neg c]
      obtain ⟨z, h1, h2, h3⟩ := less_fold l b
      refine ⟨z, h1, ?_, fun r hr => ?_⟩
      · rcases h2 with h | h
        · exact .inl h
        · exact .inr (List.mem_cons_of_mem _ h)
      · have hzb := h3 b (.inl rfl)
        rcases hr with rfl | hr
        · exact hzb
        · rcases List.mem_cons.mp hr with rfl | hr
          · rcases lex_tri r b with e | e | e
            · rw [e]; exact hzb
            · exact absurd e c
            · rcases hzb with e2 | e2
              · exact .inr (by rw [← e2]; exact e)
              · exact .inr (lex_trans e2 e)
          · exact h3 _ (.inr hr)
theorem less_spec {l : List Pr} : (lessF l = none ∧ l = []) ∨ ∃ c, lessF l = some c ∧ LeastOf (· ∈ l) c := by
  cases l with
  | nil => exact .inl ⟨rfl, rfl⟩
  | cons a l =>
    right
    obtain ⟨c, h1, h2, h3⟩ := less_fold l a
    exact ⟨c, h1, List.mem_cons.mpr h2, fun q hq => h3 q (List.mem_cons.mp hq)⟩
theorem allC_asc (r : Nat) : (allC r).Pairwise (fun p q => p.1 ≤ q.1) := by
  unfold allC
  rw [List.pairwise_flatMap]
  constructor
  · intro h _
    rw [List.pairwise_map]
    exact List.Pairwise.imp (fun _ => Int.le_refl _) (List.pairwise_lt_range)
  · refine List.Pairwise.imp (fun {a b} hab => ?_) (List.pairwise_lt_range (n := 2 * r + 1))
    intro x hx y hy
    obtain ⟨_, _, rfl⟩ := List.mem_map.mp hx
    obtain ⟨_, _, rfl⟩ := List.mem_map.mp hy
    show (a : Int) ≤ (b : Int)
    omega
theorem core_le {p : Pr} {r : Int} (h : nn p) (hr : 0 ≤ r) : p = core p r ∨ lex (core p r) p := by
  obtain ⟨a, b⟩ := p
  unfold nn at h
  by_cases e : core (a, b) r = (a, b)
  · exact .inl e.symm
  · right
    left
    have e2 : ¬ ((core (a, b) r).1 = a ∧ (core (a, b) r).2 = b) := fun z => e (Prod.ext z.1 z.2)
    clear e
    unfold core cutI at *
    simp only [] at *
    split at e2 <;> (simp only [] at *; (repeat' split at e2) <;> simp only [*, if_true, if_false] <;> omega)
section
variable {s s' : Nat} {ks ks' : List Pr} {M M' : Pr → Prop}
theorem IsR.kept_mem (h : IsR s ks M) {p : Pr} : p ∈ ks ↔ isC (s : Nat) p ∧ M p := by
  obtain ⟨f, rfl, hf⟩ := h.list
  rw [List.mem_filter, mem_allC]
  exact ⟨fun ⟨h1, h2⟩ => ⟨h1, (hf p h1).mp h2⟩, fun ⟨h1, h2⟩ => ⟨h1, (hf p h1).mpr h2⟩⟩
theorem IsR.asc (h : IsR s ks M) : ks.Pairwise (fun p q => p.1 ≤ q.1) := by
  obtain ⟨f, rfl, hf⟩ := h.list
  exact (allC_asc s).filter _
/-- the least of the cores is the least of all -/
theorem least_all {r : Nat} {cs : List Pr} {b : Pr} (hc : ∀ q ∈ cs, isC (r : Nat) q) (hM : ∀ p, nn p → (core p (r : Nat) ∈ cs ↔ M p)) (h : LeastOf (· ∈ cs) b) : LeastOf (fun p => nn p ∧ M p) b := by
  have hb := hc b h.1
  refine ⟨⟨hb.1, (hM b hb.1).mp (by rw [core_isC hb]; exact h.1)⟩, fun q hq => ?_⟩
  have h1 := h.2 _ ((hM q hq.1).mpr hq.2)
  have h2 := core_le hq.1 (show (0 : Int) ≤ (r : Nat) by omega)
  rcases h2 with e | e
  · rw [← e] at h1; exact h1
  · rcases h1 with e2 | e2
    · exact .inr (by rw [← e2]; exact e)
    · exact .inr (lex_trans e2 e)
theorem none_all {r : Nat} {cs : List Pr} (hM : ∀ p, nn p → (core p (r : Nat) ∈ cs ↔ M p)) (h : cs = []) : ¬ ∃ b, LeastOf (fun p => nn p ∧ M p) b := by
  rintro ⟨b, h1, _⟩
  have := (hM b h1.1).mpr h1.2
  rw [h] at this
  cases this
theorem least_same {r : Nat} {cs : List Pr} (h : IsR s ks M) (hc : ∀ q ∈ cs, isC (r : Nat) q) (hM : ∀ p, nn p → (core p (r : Nat) ∈ cs ↔ M p)) : leastF ks = lessF cs := by
  have hk : ∀ q ∈ ks, isC (s : Nat) q := fun q hq => (h.kept_mem.mp hq).1
  have hkM : ∀ p, nn p → (core p (s : Nat) ∈ ks ↔ M p) := fun p hp => h.mem hp
  rcases least_spec2 h.asc with ⟨h1, e1⟩ | ⟨b, h1, l1⟩
  · rcases less_spec (l := cs) with ⟨h2, e2⟩ | ⟨c, h2, l2⟩
    · rw [h1, h2]
    · exact absurd ⟨c, least_all hc hM l2⟩ (none_all hkM e1)
  · rcases less_spec (l := cs) with ⟨h2, e2⟩ | ⟨c, h2, l2⟩
    · exact absurd ⟨b, least_all hk hkM l1⟩ (none_all hM e2)
    · rw [h1, h2, (least_all hk hkM l1).uniq (least_all hc hM l2)]
/-- flipped -/
theorem isR_flip (h : IsR s ks M) : IsR (span (ks.map swap) s) (kept (ks.map swap) s) (fun p => M (swap p)) := by
  refine isR_of h.le (fun p hp => ?_) fun p hp => ?_
  · obtain ⟨q, hq, rfl⟩ := List.mem_map.mp hp
    exact nn_swap.mpr (h.kept_mem.mp hq).1.1
  · rw [← h.mem (nn_swap.mpr hp), core_swap _ (by omega), List.mem_map]
    constructor
    · rintro ⟨m, hm, e⟩
      obtain ⟨q, hq, rfl⟩ := List.mem_map.mp hm
      rw [core_swap _ (by omega), core_isC (h.kept_mem.mp hq).1] at e
      rw [← e, swap_swap]
      exact hq
    · intro hq
      refine ⟨core p (s : Nat), List.mem_map.mpr ⟨_, hq, swap_swap _⟩, core_isC ?_⟩
      exact isC_core hp (by omega)
theorem flip_le (h : IsR s ks M) (h' : IsR s' ks' (fun p => M (swap p))) : s' ≤ s := by
  rcases Nat.lt_or_ge s s' with c | c
  · refine absurd (fun p hp => ?_) (h'.min c)
    show M (swap (core p (s : Nat))) ↔ M (swap p)
    rw [← core_swap _ (by omega)]
    exact h.at_ (nn_swap.mpr hp) (Nat.le_refl _)
  · exact c
theorem flip_eq (h : IsR s ks M) (h' : IsR s' ks' (fun p => M (swap p))) : s' = s :=
  Nat.le_antisymm (flip_le h h') (flip_le (M := fun p => M (swap p)) h' h)
end
/-- a set of all, of none -/
theorem allC0 : allC 0 = [(0, 0)] := by decide
theorem every_R : IsR (span [(0, 0)] 0) (kept [(0, 0)] 0) (fun _ => True) := by
  refine isR_of (by decide) (fun p hp => by rw [List.mem_singleton.mp hp]; exact ⟨by decide, by decide⟩) fun p hp => ?_
  have := mem_allC.mpr (isC_core hp (show (0 : Int) ≤ ((0 : Nat) : Int) by decide))
  rw [allC0, List.mem_singleton] at this
  rw [this]
  exact ⟨fun _ => trivial, fun _ => by decide⟩
theorem none_R : IsR (span [] 0) (kept [] 0) (fun _ => False) := isR_of (by decide) (fun p hp => by cases hp) fun p hp => Iff.intro (fun h => by simp at h) (fun h => False.elim h)
theorem every_kept : kept [(0, 0)] 0 = [(0, 0)] := by decide
theorem none_kept : kept [] 0 = [] := by decide
end Rs

set_option linter.all false
set_option maxRecDepth 100000
/-! The cascade: plain. -/
namespace Cs
open Rs
inductive What where | points | wins | margin | scored | away
  deriving DecidableEq
inductive Scp where | all | among
  deriving DecidableEq
inductive Thn where | on | anew | rept | again
  deriving DecidableEq
abbrev Lot := List Int
abbrev Row := What × Scp × Thn
structure RuleP where
  rows : List Row
  pts : Int × Int × Int
  back : Nat
def signOf (n : Int) : Int := if n > 0 then 1 else if n < 0 then -1 else 0
theorem signOf_in (n : Int) : -1 ≤ signOf n ∧ signOf n ≤ 1 := by unfold signOf; split <;> (try split) <;> omega
/-! ### parts -/
def insP (cmp : Int → Int → Int) (t : Int) : List Lot → List Lot
  | [] => [[t]]
  | P :: rest => if cmp t (P.headD 0) ≥ 0 then (if cmp t (P.headD 0) = 0 then (P ++ [t]) :: rest else [t] :: P :: rest) else P :: insP cmp t rest
def parted (cmp : Int → Int → Int) (lot : Lot) : List Lot := lot.foldl (fun ps t => insP cmp t ps) []
theorem insP_perm (cmp : Int → Int → Int) (t : Int) : ∀ ps : List Lot, (insP cmp t ps).flatten.Perm (ps.flatten ++ [t])
  | [] => by simp [insP]
  | P :: rest => by
    unfold insP
    split
    · split
      · simp only [List.flatten_cons, List.append_assoc]
        exact List.Perm.append_left P (List.perm_append_comm)
      · show (t :: (P ++ rest.flatten)).Perm _
        exact (List.perm_append_comm (l₁ := [t]) (l₂ := (P :: rest).flatten))
    · simp only [List.flatten_cons, List.append_assoc]
      exact List.Perm.append_left P (insP_perm cmp t rest)
theorem insP_sub (cmp : Int → Int → Int) (t : Int) (l : Lot) : ∀ ps : List Lot, (∀ P ∈ ps, P.Sublist l ∧ P ≠ []) → ∀ P ∈ insP cmp t ps, P.Sublist (l ++ [t]) ∧ P ≠ []
  | [], _, P, h => by
    simp [insP] at h
    subst h
    exact ⟨List.sublist_append_right l [t], by simp⟩
  | Q :: rest, hs, P, h => by
    have hQ := hs Q List.mem_cons_self
    have up : ∀ R : Lot, R.Sublist l ∧ R ≠ [] → R.Sublist (l ++ [t]) ∧ R ≠ [] := fun R hR => ⟨hR.1.trans (List.sublist_append_left l [t]), hR.2⟩
    unfold insP at h
    split at h
    · split at h
      · rcases List.mem_cons.mp h with rfl | h
        · exact ⟨hQ.1.append (List.Sublist.refl [t]), by simp⟩
        · exact up P (hs P (List.mem_cons_of_mem _ h))
      · rcases List.mem_cons.mp h with rfl | h
        · exact ⟨List.sublist_append_right l [t], by simp⟩
        · exact up P (hs P h)
    · rcases List.mem_cons.mp h with rfl | h
      · exact up _ hQ
      · exact insP_sub cmp t l rest (fun R hR => hs R (List.mem_cons_of_mem _ hR)) P h
theorem fold_parts (cmp : Int → Int → Int) : ∀ (l2 l1 : Lot) (ps : List Lot), ps.flatten.Perm l1 → (∀ P ∈ ps, P.Sublist l1 ∧ P ≠ []) →
    ((l2.foldl (fun ps t => insP cmp t ps) ps).flatten.Perm (l1 ++ l2) ∧ ∀ P ∈ l2.foldl (fun ps t => insP cmp t ps) ps, P.Sublist (l1 ++ l2) ∧ P ≠ [])
  | [], l1, ps, h1, h2 => by simpa using ⟨h1, h2⟩
  | t :: l2, l1, ps, h1, h2 => by
    have := fold_parts cmp l2 (l1 ++ [t]) (insP cmp t ps) ((insP_perm cmp t ps).trans (h1.append_right [t])) (insP_sub cmp t l1 ps h2)
    rw [List.append_assoc] at this
    exact this
theorem parted_perm (cmp : Int → Int → Int) (l : Lot) : (parted cmp l).flatten.Perm l := by
  have := (fold_parts cmp l [] [] (List.Perm.refl _) (by simp)).1
  rw [List.nil_append] at this
  exact this
theorem parted_sub (cmp : Int → Int → Int) (l : Lot) : ∀ P ∈ parted cmp l, P.Sublist l ∧ P ≠ [] := by
  have := (fold_parts cmp l [] [] (List.Perm.refl _) (by simp)).2
  rw [List.nil_append] at this
  exact this
theorem sum_flatten : ∀ ps : List Lot, (ps.map List.length).sum = ps.flatten.length
  | [] => rfl
  | P :: ps => by rw [List.map_cons, List.sum_cons, List.flatten_cons, List.length_append, sum_flatten ps]
theorem parted_sum (cmp : Int → Int → Int) (l : Lot) : ((parted cmp l).map List.length).sum = l.length := by
  rw [sum_flatten, (parted_perm cmp l).length_eq]
/-! ### items, where they go -/
structure Item where
  row : Nat
  base : Lot
  lot : Lot
  deriving DecidableEq
def thenAt (R : RuleP) (row : Nat) : Thn := (R.rows[row]?.map (fun r => r.2.2)).getD .on
def round (R : RuleP) (row : Nat) (base part : Lot) : Bool := decide (thenAt R row = .again) && (decide (part = base) && decide (R.back ≤ row))
def jumps (R : RuleP) (it : Item) (part : Lot) : Bool := match thenAt R it.row with
  | .on => false
  | .again => true
  | .anew => decide (part ≠ it.lot)
  | .rept => decide (part ≠ it.base)
def goOn (R : RuleP) (it : Item) (part : Lot) : Item :=
  if part.length = 1 then ⟨it.row, it.base, part⟩
  else if round R it.row it.base part = true then ⟨R.rows.length, it.base, part⟩
  else if jumps R it part = true then ⟨R.back, part, part⟩
  else ⟨it.row + 1, it.base, part⟩
/-- a test's comparison of two teams -/
abbrev Cmp := What → Option Lot → Int → Int → Int
def partsAt (R : RuleP) (c : Cmp) (it : Item) : List Lot := match R.rows[it.row]? with
  | none => []
  | some (what, scope, _) => parted (c what (if scope = .among then some it.base else none)) it.lot
def done (R : RuleP) (it : Item) : Bool := decide (it.lot.length = 1) || decide (R.rows.length ≤ it.row)
def run (R : RuleP) (c : Cmp) : Nat → List Item → List Lot → List Lot
  | 0, _, lots => lots
  | _ + 1, [], lots => lots
  | n + 1, it :: st, lots => if done R it = true then run R c n st (lots ++ [it.lot]) else run R c n ((partsAt R c it).map (goOn R it) ++ st) lots
/-- an item that may come -/
structure ItemOk (R : RuleP) (N : Nat) (it : Item) : Prop where
  sub : it.lot.Sublist it.base
  ne : it.lot ≠ []
  few : it.base.length ≤ N
def rho (R : RuleP) (N : Nat) (it : Item) : Nat := it.lot.length * ((N + 1) * (R.rows.length + 1)) + it.base.length * (R.rows.length + 1) + (R.rows.length - it.row)
def weight (R : RuleP) (N : Nat) (it : Item) : Nat := it.lot.length * (rho R N it + 1)
def meas (R : RuleP) (N : Nat) (st : List Item) : Nat := (st.map (weight R N)).sum
section
variable {R : RuleP} {N : Nat} {it : Item} {part : Lot} {c : Cmp}
theorem rho_lt {a b : Item} (h : a.lot.length < b.lot.length ∨ (a.lot.length = b.lot.length ∧ (a.base.length < b.base.length ∨ (a.base.length = b.base.length ∧ R.rows.length - a.row < R.rows.length - b.row)))) (ha : a.base.length ≤ N) : rho R N a < rho R N b := by
  unfold rho
  generalize R.rows.length = m at *
  have hb : a.base.length * (m + 1) ≤ N * (m + 1) := Nat.mul_le_mul_right _ ha
  have hN : (N + 1) * (m + 1) = N * (m + 1) + (m + 1) := Nat.succ_mul N (m + 1)
  rcases h with h | ⟨h1, h | ⟨h2, h⟩⟩
  · have h1 : (a.lot.length + 1) * ((N + 1) * (m + 1)) ≤ b.lot.length * ((N + 1) * (m + 1)) := Nat.mul_le_mul_right _ h
    rw [Nat.succ_mul] at h1
    omega
  · rw [h1]
    have h2 : (a.base.length + 1) * (m + 1) ≤ b.base.length * (m + 1) := Nat.mul_le_mul_right _ h
    rw [Nat.succ_mul] at h2
    omega
  · rw [h1, h2]; omega
theorem sub_len_eq {a b : Lot} (h : a.Sublist b) : a = b ↔ a.length = b.length := ⟨fun e => by rw [e], fun e => h.eq_of_length e⟩
theorem sub_len_lt {a b : Lot} (h : a.Sublist b) (ne : a ≠ b) : a.length < b.length := Nat.lt_of_le_of_ne h.length_le fun e => ne (h.eq_of_length e)
theorem goOn_ok (ok : ItemOk R N it) (hp : part.Sublist it.lot) (ne : part ≠ []) : ItemOk R N (goOn R it part) := by
  have h1 := hp.trans ok.sub
  unfold goOn
  split
  · exact ⟨h1, ne, ok.few⟩
  · split
    · exact ⟨h1, ne, ok.few⟩
    · split
      · exact ⟨List.Sublist.refl _, ne, Nat.le_trans h1.length_le ok.few⟩
      · exact ⟨h1, ne, ok.few⟩
theorem goOn_lot : (goOn R it part).lot = part := by
  unfold goOn
  split
  · rfl
  · split
    · rfl
    · split <;> rfl
theorem goOn_lt (ok : ItemOk R N it) (nd : done R it = false) (hp : part.Sublist it.lot) (ne : part ≠ []) : rho R N (goOn R it part) < rho R N it := by
  have ok' := goOn_ok ok hp ne
  refine rho_lt ?_ ok'.few
  unfold done at nd
  rw [Bool.or_eq_false_iff, decide_eq_false_iff_not, decide_eq_false_iff_not] at nd
  obtain ⟨n1, n2⟩ := nd
  have hl := hp.length_le
  have l0 : 0 < part.length := List.length_pos_iff.mpr ne
  have l1 : 0 < it.lot.length := by omega
  rw [goOn_lot]
  by_cases e : part.length = it.lot.length
  · right
    refine ⟨e, ?_⟩
    have epart : part = it.lot := hp.eq_of_length e
    unfold goOn
    rw [if_neg (by omega)]
    split
    · right
      exact ⟨rfl, by simp only []; omega⟩
    · rename_i hr
      split
      · rename_i hj
        -- jumps: the base is smaller, or the row greater
        by_cases eb : part = it.base
        · right
          simp only []
          refine ⟨by rw [eb], ?_⟩
          unfold jumps at hj
          unfold round at hr
          cases ht : thenAt R it.row with
          | on => rw [ht] at hj; simp at hj
          | anew => rw [ht] at hj; simp [epart] at hj
          | rept => rw [ht] at hj; simp [eb] at hj
          | again =>
            rw [ht] at hr
            simp [eb] at hr
            omega
        · left
          exact sub_len_lt (hp.trans ok.sub) eb
      · right
        exact ⟨rfl, by simp only []; omega⟩
  · left; omega
theorem sum_weights (ok : ItemOk R N it) (nd : done R it = false) : ∀ ps : List Lot, (∀ P ∈ ps, P.Sublist it.lot ∧ P ≠ []) → (((ps.map (goOn R it)).map (weight R N)).sum ≤ (ps.map List.length).sum * rho R N it)
  | [], _ => by simp
  | P :: ps, h => by
    rw [List.map_cons, List.map_cons, List.sum_cons, List.map_cons, List.sum_cons, Nat.add_mul]
    have h1 := sum_weights ok nd ps fun Q hQ => h Q (List.mem_cons_of_mem _ hQ)
    have hP := h P List.mem_cons_self
    have h2 := goOn_lt ok nd hP.1 hP.2
    have h3 : weight R N (goOn R it P) ≤ P.length * rho R N it := by
      unfold weight
      rw [goOn_lot]
      exact Nat.mul_le_mul_left _ h2
    omega
theorem partsAt_sub : ∀ P ∈ partsAt R c it, P.Sublist it.lot ∧ P ≠ [] := by
  intro P hP
  unfold partsAt at hP
  split at hP
  · cases hP
  · exact parted_sub _ _ P hP
theorem partsAt_perm (nd : done R it = false) : (partsAt R c it).flatten.Perm it.lot := by
  unfold done at nd
  rw [Bool.or_eq_false_iff, decide_eq_false_iff_not, decide_eq_false_iff_not] at nd
  unfold partsAt
  split
  · rename_i h
    rw [List.getElem?_eq_none_iff] at h
    omega
  · exact parted_perm _ _
theorem partsAt_sum (nd : done R it = false) : ((partsAt R c it).map List.length).sum = it.lot.length := by
  rw [sum_flatten, (partsAt_perm nd).length_eq]
theorem weight_pos (ok : ItemOk R N it) : 0 < weight R N it := Nat.mul_pos (List.length_pos_iff.mpr ok.ne) (Nat.succ_pos _)
theorem meas_step (st : List Item) (ok : ItemOk R N it) (nd : done R it = false) : meas R N ((partsAt R c it).map (goOn R it) ++ st) < meas R N (it :: st) := by
  unfold meas
  rw [List.map_append, List.sum_append, List.map_cons, List.sum_cons]
  have h1 := sum_weights ok nd (partsAt R c it) partsAt_sub
  rw [partsAt_sum nd] at h1
  have h2 : weight R N it = it.lot.length * rho R N it + it.lot.length := by unfold weight; rw [Nat.mul_succ]
  have h3 := List.length_pos_iff.mpr ok.ne
  omega
theorem meas_done (st : List Item) (ok : ItemOk R N it) : meas R N st < meas R N (it :: st) := by
  unfold meas
  rw [List.map_cons, List.sum_cons]
  have := weight_pos ok
  omega
theorem step_ok {st : List Item} (ok : ∀ i ∈ it :: st, ItemOk R N i) : ∀ i ∈ (partsAt R c it).map (goOn R it) ++ st, ItemOk R N i := by
  intro i hi
  rcases List.mem_append.mp hi with h | h
  · obtain ⟨P, hP, rfl⟩ := List.mem_map.mp h
    have := partsAt_sub P hP
    exact goOn_ok (ok it List.mem_cons_self) this.1 this.2
  · exact ok i (List.mem_cons_of_mem _ h)
theorem goOn_lots (ps : List Lot) : (ps.map (goOn R it)).map Item.lot = ps := by
  rw [List.map_map]
  conv => rhs; rw [← List.map_id ps]
  exact List.map_congr_left fun P _ => goOn_lot
/-- what is run has each team once -/
theorem run_perm : ∀ (n : Nat) (st : List Item) (lots : List Lot), (∀ i ∈ st, ItemOk R N i) → meas R N st ≤ n → (run R c n st lots).flatten.Perm (lots.flatten ++ (st.map Item.lot).flatten)
  | 0, [], lots, _, _ => by simp [run]
  | 0, it :: st, lots, ok, h => by
    have := meas_done (R := R) (N := N) st (ok it List.mem_cons_self)
    omega
  | n + 1, [], lots, _, _ => by simp [run]
  | n + 1, it :: st, lots, ok, h => by
    unfold run
    split
    · have h1 := meas_done (R := R) (N := N) st (ok it List.mem_cons_self)
      have := run_perm n st (lots ++ [it.lot]) (fun i hi => ok i (List.mem_cons_of_mem _ hi)) (by omega)
      simpa using this
    · rename_i nd
      have nd : done R it = false := by simpa using nd
      have h1 := meas_step (c := c) st (ok it List.mem_cons_self) nd
      have := run_perm n _ lots (step_ok (c := c) ok) (by omega)
      refine this.trans (List.Perm.append_left _ ?_)
      rw [List.map_append, List.flatten_append, goOn_lots, List.map_cons, List.flatten_cons]
      exact (partsAt_perm nd).append_right _
theorem run_ne : ∀ (n : Nat) (st : List Item) (lots : List Lot), (∀ i ∈ st, ItemOk R N i) → (∀ l ∈ lots, l ≠ []) → ∀ l ∈ run R c n st lots, l ≠ []
  | 0, st, lots, ok, h => by simpa [run] using h
  | n + 1, [], lots, _, h => by simpa [run] using h
  | n + 1, it :: st, lots, ok, h => by
    unfold run
    split
    · refine run_ne n st _ (fun i hi => ok i (List.mem_cons_of_mem _ hi)) fun l hl => ?_
      rcases List.mem_append.mp hl with h' | h'
      · exact h l h'
      · rw [List.mem_singleton.mp h']; exact (ok it List.mem_cons_self).ne
    · exact run_ne n _ lots (step_ok (c := c) ok) h
end
/-- the teams 0, 1, .. -/
def teamsOf (N : Nat) : Lot := (List.range N).map fun (i : Nat) => (i : Int)
theorem teamsOf_len (N : Nat) : (teamsOf N).length = N := by unfold teamsOf; rw [List.length_map, List.length_range]
theorem mem_teams {N : Nat} {t : Int} : t ∈ teamsOf N ↔ 0 ≤ t ∧ t < N := by
  unfold teamsOf
  rw [List.mem_map]
  constructor
  · rintro ⟨i, hi, rfl⟩
    rw [List.mem_range] at hi
    omega
  · intro h
    exact ⟨t.toNat, List.mem_range.mpr (by omega), by omega⟩
def item0 (N : Nat) : Item := ⟨0, teamsOf N, teamsOf N⟩
theorem item0_ok {R : RuleP} {N : Nat} (h : 0 < N) : ItemOk R N (item0 N) := ⟨List.Sublist.refl _, fun e => by
  have := teamsOf_len N
  rw [show teamsOf N = [] from e] at this
  simp at this
  omega, by rw [show (item0 N).base = teamsOf N from rfl, teamsOf_len]; exact Nat.le_refl _⟩
def fuel (R : RuleP) (N : Nat) : Nat := meas R N [item0 N]
/-- the order -/
def orderF (R : RuleP) (N : Nat) (c : Cmp) : List Lot := run R c (fuel R N) [item0 N] []
theorem order_perm {R : RuleP} {N : Nat} {c : Cmp} (h : 0 < N) : (orderF R N c).flatten.Perm (teamsOf N) := by
  have := run_perm (R := R) (N := N) (c := c) (fuel R N) [item0 N] [] (fun i hi => by rw [List.mem_singleton.mp hi]; exact item0_ok h) (Nat.le_refl _)
  rw [List.flatten_nil, List.nil_append, List.map_cons, List.map_nil, List.flatten_cons, List.flatten_nil, List.append_nil] at this
  exact this
theorem order_ne {R : RuleP} {N : Nat} {c : Cmp} (h : 0 < N) : ∀ l ∈ orderF R N c, l ≠ [] :=
  run_ne (R := R) (N := N) (c := c) (fuel R N) [item0 N] [] (fun i hi => by rw [List.mem_singleton.mp hi]; exact item0_ok h) (by simp)
/-! ### places -/
def lotNo : List Lot → Int → Nat
  | [], _ => 0
  | L :: ls, t => if t ∈ L then 0 else lotNo ls t + 1
def placeF (lots : List Lot) (t : Int) : Nat := ((lots.take (lotNo lots t + 1)).map List.length).sum
theorem take_sum_le (lots : List Lot) (n : Nat) : ((lots.take n).map List.length).sum ≤ (lots.map List.length).sum := by
  conv => rhs; rw [← List.take_append_drop n lots, List.map_append, List.sum_append]
  omega
theorem place_le {R : RuleP} {N : Nat} {c : Cmp} (h : 0 < N) (t : Int) : placeF (orderF R N c) t ≤ N := by
  have h1 := take_sum_le (orderF R N c) (lotNo (orderF R N c) t + 1)
  rw [sum_flatten (orderF R N c), (order_perm h).length_eq, teamsOf_len] at h1
  exact h1
theorem team_in {R : RuleP} {N : Nat} {c : Cmp} {t : Int} (h : 0 ≤ t ∧ t < N) : ∃ L ∈ orderF R N c, t ∈ L := by
  have h1 : t ∈ (orderF R N c).flatten := (order_perm (by omega)).mem_iff.mpr (mem_teams.mpr h)
  rw [List.mem_flatten] at h1
  exact h1
/-! ### the same signs, the same order -/
theorem run_congr {R : RuleP} {c c' : Cmp} (h : c = c') (n : Nat) (st : List Item) (lots : List Lot) : run R c n st lots = run R c' n st lots := by rw [h]
end Cs

set_option linter.all false
set_option maxRecDepth 100000
/-! The cascade's values, far results: plain. -/
namespace Cs
open Rs
abbrev Pts := Int × Int × Int
def inScope (base : Option Lot) (p : Pr) : Bool := match base with
  | none => true
  | some b => decide (p.1 ∈ b) && decide (p.2 ∈ b)
def ptsFor (pts : Pts) (s : Int) : Int := if s = 1 then pts.1 else if s = 0 then pts.2.1 else pts.2.2
def share (what : What) (pts : Pts) (home : Bool) (own other : Int) : Int := match what with
  | .points => ptsFor pts (signOf (own - other))
  | .wins => if own > other then 1 else 0
  | .margin => own - other
  | .scored => own
  | .away => if home = true then 0 else own
def plays (base : Option Lot) (team : Int) (p : Pr) : Bool := (decide (team = p.1) || decide (team = p.2)) && inScope base p
def contrib (pts : Pts) (what : What) (base : Option Lot) (team : Int) (p : Pr) (r : Option Pr) : Int := match r with
  | none => 0
  | some r => if plays base team p = true then (if p.1 = team then share what pts true r.1 r.2 else share what pts false r.2 r.1) else 0
def valueF (pts : Pts) (pairs : List Pr) (res : List (Option Pr)) (what : What) (base : Option Lot) (team : Int) : Int := ((pairs.zip res).map fun q => contrib pts what base team q.1 q.2).sum
def cmpOf (pts : Pts) (pairs : List Pr) (res : List (Option Pr)) : Cmp := fun what base t u => signOf (valueF pts pairs res what base t - valueF pts pairs res what base u)
def goalsOf (r : Option Pr) : Int := match r with | none => 0 | some r => r.1 + r.2
def goalsF (res : List (Option Pr)) : Int := (res.map goalsOf).sum
def okRes (r : Option Pr) : Prop := ∀ p, r = some p → nn p
theorem sum_set {f : Pr → Option Pr → Int} (h0 : ∀ p, f p none = 0) (r : Pr) : ∀ (ps : List Pr) (rs : List (Option Pr)) (i : Nat) (p : Pr), ps[i]? = some p → rs[i]? = some none →
    ((ps.zip (rs.set i (some r))).map fun q => f q.1 q.2).sum = ((ps.zip rs).map fun q => f q.1 q.2).sum + f p (some r)
  | [], _, _, _, h, _ => by simp at h
  | _ :: _, [], _, _, _, h => by simp at h
  | p0 :: ps, r0 :: rs, 0, p, h, h' => by
    simp at h h'
    subst h; subst h'
    simp only [List.set_cons_zero, List.zip_cons_cons, List.map_cons, List.sum_cons, h0]
    omega
  | p0 :: ps, r0 :: rs, i + 1, p, h, h' => by
    have := sum_set h0 r ps rs i p (by simpa using h) (by simpa using h')
    simp only [List.set_cons_succ, List.zip_cons_cons, List.map_cons, List.sum_cons, this]
    omega
theorem goals_nonneg : ∀ (rs : List (Option Pr)), (∀ r ∈ rs, okRes r) → 0 ≤ goalsF rs
  | [], _ => by simp [goalsF]
  | r :: rs, h => by
    have h1 := goals_nonneg rs fun q hq => h q (List.mem_cons_of_mem _ hq)
    have h2 : 0 ≤ goalsOf r := by
      cases r with
      | none => simp [goalsOf]
      | some p => have := h (some p) List.mem_cons_self p rfl; unfold nn at this; simp only [goalsOf]; omega
    unfold goalsF at *
    rw [List.map_cons, List.sum_cons]
    omega
def counts (what : What) : Bool := match what with | .points => false | .wins => false | _ => true
theorem contrib_le {pts : Pts} {what : What} (hw : counts what = true) {base : Option Lot} {team : Int} {p : Pr} {r : Option Pr} (hr : okRes r) : -goalsOf r ≤ contrib pts what base team p r ∧ contrib pts what base team p r ≤ goalsOf r := by
  cases r with
  | none => simp [goalsOf, contrib]
  | some q =>
    have hq := hr q rfl
    unfold nn at hq
    unfold contrib goalsOf share
    cases what <;> simp only [counts] at hw ⊢ <;> (try cases hw) <;> (repeat' split) <;> (try simp at *) <;> omega
theorem value_le {pts : Pts} {what : What} (hw : counts what = true) {base : Option Lot} {team : Int} : ∀ (ps : List Pr) (rs : List (Option Pr)), (∀ r ∈ rs, okRes r) → -goalsF rs ≤ valueF pts ps rs what base team ∧ valueF pts ps rs what base team ≤ goalsF rs
  | [], rs, h => by
    have := goals_nonneg rs h
    simp [valueF]
    omega
  | _ :: _, [], h => by simp [valueF, goalsF]
  | p :: ps, r :: rs, h => by
    have h1 := value_le hw (pts := pts) (base := base) (team := team) ps rs fun q hq => h q (List.mem_cons_of_mem _ hq)
    have h2 := contrib_le (pts := pts) hw (base := base) (team := team) (p := p) (h r List.mem_cons_self)
    unfold valueF goalsF at *
    rw [List.zip_cons_cons, List.map_cons, List.sum_cons, List.map_cons, List.sum_cons]
    simp only []
    omega
/-! ### a result and its core -/
theorem sign_core {r : Pr} {n : Int} (hr : nn r) (hn : 1 ≤ n) : signOf ((core r n).1 - (core r n).2) = signOf (r.1 - r.2) := by
  obtain ⟨g, h⟩ := r
  unfold nn at hr
  unfold core cutI signOf
  simp only [] at *
  (repeat' split) <;> simp only [] at * <;> omega
theorem signOf_neg (n : Int) : signOf (-n) = - signOf n := by unfold signOf; (repeat' split) <;> omega
/-- a contribution of points or wins hangs on the sign -/
theorem contrib_sign {pts : Pts} {what : What} (hw : counts what = false) {base : Option Lot} {team : Int} {p : Pr} {r s : Pr} (h : signOf (r.1 - r.2) = signOf (s.1 - s.2)) : contrib pts what base team p (some r) = contrib pts what base team p (some s) := by
  have h2 : signOf (r.2 - r.1) = signOf (s.2 - s.1) := by
    rw [show r.2 - r.1 = -(r.1 - r.2) by omega, show s.2 - s.1 = -(s.1 - s.2) by omega, signOf_neg, signOf_neg, h]
  cases what with
  | points =>
    unfold contrib share
    simp only [h, h2]
  | wins =>
    have e1 : (r.1 > r.2) ↔ (s.1 > s.2) := by unfold signOf at h; (repeat' split at h) <;> omega
    have e2 : (r.2 > r.1) ↔ (s.2 > s.1) := by unfold signOf at h; (repeat' split at h) <;> omega
    unfold contrib share
    simp only [e1, e2]
  | margin => cases hw
  | scored => cases hw
  | away => cases hw
/-- the other ones are a factor of each side's goals -/
theorem contrib_lin {pts : Pts} {what : What} (hw : counts what = true) {base : Option Lot} {team : Int} {p : Pr} : ∃ a b : Int, (∀ r : Pr, contrib pts what base team p (some r) = a * r.1 + b * r.2) ∧
    ((what = .margin ∧ b = -a ∧ -1 ≤ a ∧ a ≤ 1) ∨ (what = .scored ∧ ((a = 0 ∧ b = 0) ∨ (a = 1 ∧ b = 0) ∨ (a = 0 ∧ b = 1))) ∨ (what = .away ∧ a = 0 ∧ (b = 0 ∨ b = 1))) := by
  by_cases c1 : plays base team p = true
  · by_cases c2 : p.1 = team
    · cases what with
      | points => cases hw
      | wins => cases hw
      | margin => exact ⟨1, -1, fun r => by unfold contrib share; simp only [c1, c2, if_true]; omega, .inl ⟨rfl, rfl, by decide, by decide⟩⟩
      | scored => exact ⟨1, 0, fun r => by unfold contrib share; simp only [c1, c2, if_true]; omega, .inr (.inl ⟨rfl, .inr (.inl ⟨rfl, rfl⟩)⟩)⟩
      | away => exact ⟨0, 0, fun r => by unfold contrib share; simp only [c1, c2, if_true]; omega, .inr (.inr ⟨rfl, rfl, .inl rfl⟩)⟩
    · cases what with
      | points => cases hw
      | wins => cases hw
      | margin => exact ⟨-1, 1, fun r => by unfold contrib share; simp only [c1, c2, if_true, if_false]; omega, .inl ⟨rfl, rfl, by decide, by decide⟩⟩
      | scored => exact ⟨0, 1, fun r => by unfold contrib share; simp only [c1, c2, if_true, if_false]; omega, .inr (.inl ⟨rfl, .inr (.inr ⟨rfl, rfl⟩)⟩)⟩
      | away => exact ⟨0, 1, fun r => by unfold contrib share; simp only [c1, c2, if_true, if_false, Bool.false_eq_true]; omega, .inr (.inr ⟨rfl, rfl, .inr rfl⟩)⟩
  · refine ⟨0, 0, fun r => by unfold contrib; simp only []; rw [if_neg c1]; omega, ?_⟩
    cases what with
    | points => cases hw
    | wins => cases hw
    | margin => exact .inl ⟨rfl, rfl, by decide, by decide⟩
    | scored => exact .inr (.inl ⟨rfl, .inl ⟨rfl, rfl⟩⟩)
    | away => exact .inr (.inr ⟨rfl, rfl, .inl rfl⟩)
/-- a margin's multiple -/
theorem far_margin {A k n : Int} {r : Pr} (hr : nn r) (hk : -2 ≤ k ∧ k ≤ 2) (hA : -n < A ∧ A < n) : signOf (A + k * (r.1 - r.2)) = signOf (A + k * ((core r n).1 - (core r n).2)) := by
  obtain ⟨g, h⟩ := r
  unfold nn at hr
  simp only [] at *
  have hd : (core (g, h) n).1 - (core (g, h) n).2 = (if g - h > n then n else if h - g > n then -n else g - h) := by
    unfold core cutI
    (repeat' split) <;> simp only [] <;> omega
  rw [hd]
  have : k = -2 ∨ k = -1 ∨ k = 0 ∨ k = 1 ∨ k = 2 := by omega
  rcases this with rfl | rfl | rfl | rfl | rfl <;> (unfold signOf; (repeat' split) <;> omega)
theorem far_goals {A a b n : Int} {r : Pr} (hr : nn r) (hab : (a = 0 ∧ b = 0) ∨ (a = 1 ∧ b = 0) ∨ (a = -1 ∧ b = 0) ∨ (a = 0 ∧ b = 1) ∨ (a = 0 ∧ b = -1) ∨ (a = 1 ∧ b = -1) ∨ (a = -1 ∧ b = 1)) (hA : -n < A ∧ A < n) :
    signOf (A + (a * r.1 + b * r.2)) = signOf (A + (a * (core r n).1 + b * (core r n).2)) := by
  obtain ⟨g, h⟩ := r
  unfold nn at hr
  unfold core cutI
  simp only [] at *
  rcases hab with ⟨rfl, rfl⟩ | ⟨rfl, rfl⟩ | ⟨rfl, rfl⟩ | ⟨rfl, rfl⟩ | ⟨rfl, rfl⟩ | ⟨rfl, rfl⟩ | ⟨rfl, rfl⟩ <;> (unfold signOf; (repeat' split) <;> simp only [] at * <;> omega)
/-- the order hangs on the core -/
theorem cmp_core {pts : Pts} {ps : List Pr} {rs : List (Option Pr)} {i : Nat} {p r : Pr} (hp : ps[i]? = some p) (hi : rs[i]? = some none) (ok : ∀ r ∈ rs, okRes r) (hr : nn r) :
    cmpOf pts ps (rs.set i (some r)) = cmpOf pts ps (rs.set i (some (core r (2 * goalsF rs + 1)))) := by
  have G0 := goals_nonneg rs ok
  have val : ∀ (what : What) (base : Option Lot) (t : Int) (q : Pr), valueF pts ps (rs.set i (some q)) what base t = valueF pts ps rs what base t + contrib pts what base t p (some q) := fun what base t q =>
    sum_set (f := fun p r => contrib pts what base t p r) (fun _ => rfl) q ps rs i p hp hi
  funext what base t u
  unfold cmpOf
  rw [val, val, val, val]
  cases hw : counts what with
  | false =>
    have e := sign_core (n := 2 * goalsF rs + 1) hr (by omega)
    rw [contrib_sign hw e.symm, contrib_sign hw (team := u) e.symm]
  | true =>
    have bt := value_le hw (pts := pts) (base := base) (team := t) ps rs ok
    have bu := value_le hw (pts := pts) (base := base) (team := u) ps rs ok
    obtain ⟨a, b, hab, ht⟩ := contrib_lin (pts := pts) hw (base := base) (team := t) (p := p)
    obtain ⟨c, d, hcd, hu⟩ := contrib_lin (pts := pts) hw (base := base) (team := u) (p := p)
    rw [hab, hab, hcd, hcd]
    generalize valueF pts ps rs what base t = x at bt
    generalize valueF pts ps rs what base u = y at bu
    have hA : -(2 * goalsF rs + 1) < x - y ∧ x - y < 2 * goalsF rs + 1 := by omega
    have shape : ∀ q : Pr, x + (a * q.1 + b * q.2) - (y + (c * q.1 + d * q.2)) = (x - y) + ((a - c) * q.1 + (b - d) * q.2) := fun q => by
      rw [Int.sub_mul, Int.sub_mul]; omega
    rw [shape, shape]
    rcases ht with ⟨h1, h2, h3, h4⟩ | ⟨h1, h2⟩ | ⟨h1, h2, h3⟩
    · rcases hu with ⟨g1, g2, g3, g4⟩ | ⟨g1, g2⟩ | ⟨g1, g2, g3⟩
      · have shape2 : ∀ q : Pr, (a - c) * q.1 + (b - d) * q.2 = (a - c) * (q.1 - q.2) := fun q => by
          rw [h2, g2, Int.mul_sub, show -a - -c = -(a - c) by omega, Int.neg_mul]; omega
        rw [shape2, shape2]
        exact far_margin hr ⟨by omega, by omega⟩ hA
      · rw [h1] at g1; cases g1
      · rw [h1] at g1; cases g1
    · rcases hu with ⟨g1, g2, g3, g4⟩ | ⟨g1, g2⟩ | ⟨g1, g2, g3⟩
      · rw [h1] at g1; cases g1
      · exact far_goals hr (by omega) hA
      · rw [h1] at g1; cases g1
    · rcases hu with ⟨g1, g2, g3, g4⟩ | ⟨g1, g2⟩ | ⟨g1, g2, g3⟩
      · rw [h1] at g1; cases g1
      · rw [h1] at g1; cases g1
      · exact far_goals hr (by omega) hA
/-- the set of the results that give the team a place of at most first -/
def wants (R : RuleP) (N : Nat) (pts : Pts) (ps : List Pr) (rs : List (Option Pr)) (i : Nat) (team : Int) (first : Nat) : Pr → Prop := fun r => placeF (orderF R N (cmpOf pts ps (rs.set i (some r)))) team ≤ first
theorem wants_core {R : RuleP} {N : Nat} {pts : Pts} {ps : List Pr} {rs : List (Option Pr)} {i : Nat} {p r : Pr} {team : Int} {first : Nat} (hp : ps[i]? = some p) (hi : rs[i]? = some none) (ok : ∀ r ∈ rs, okRes r) (hr : nn r) :
    wants R N pts ps rs i team first (core r (2 * goalsF rs + 1)) ↔ wants R N pts ps rs i team first r := by
  unfold wants
  rw [← cmp_core hp hi ok hr]
end Cs

set_option Elab.async false
set_option linter.all false
set_option maxRecDepth 100000
set_option maxHeartbeats 0
set_option pp.maxSteps 3000
/-! Sheets. -/
namespace Lv
open PySem PySem.Spec PyProof.Rows L2 OwX Rs
local macro_rules | `(tactic| walk_at "side") => `(tactic| first
  | exact (show CMul _ _ from .inl ⟨by decide, by decide⟩) | exact (show CMul _ _ from .inr ⟨by decide, by decide⟩) | exact (show CMul _ _ from .inl ⟨by omega, by omega⟩) | exact (show CMul _ _ from .inr ⟨by omega, by omega⟩)
  | exact (show CPow _ _ from ⟨by decide, by decide, by decide⟩)
  | exact (show CDiv _ _ from ⟨by decide, by decide⟩) | exact (show CDiv _ _ from ⟨by omega, by omega⟩)
  | exact (show (0 : Int) < _ by decide) | exact (show (0 : Int) < _ by omega) | exact (show ¬ (_ : Int) = 0 by decide) | exact (show ¬ (_ : Int) = 0 by omega) | assumption)
local macro_rules | `(tactic| walk_at "hp") => `(tactic| first
  | assumption | exact upd_same
  | (refine' SqL.of ?h1; (case h1 => walk_at "hp")) | (refine' SqT.of ?h1; (case h1 => walk_at "hp"))
  | (refine' Rd.new_app ?h1 ?h2; (case h1 => assumption); (case h2 => walk_at "hp"))
  | (refine' Rd.upd_app ?h1 ?h2; (case h1 => first | assumption | exact Ne.symm (by assumption)); (case h2 => walk_at "hp"))
  | (refine' Rd.ext_app ?h1 ?h2; (case h1 => assumption); (case h2 => walk_at "hp"))
  | (refine' Rd.ext_L ?h1 ?h2; (case h1 => assumption); (case h2 => walk_at "hp"))
  | (refine' Rd.ext_T ?h1 ?h2; (case h1 => assumption); (case h2 => walk_at "hp")))
local macro_rules | `(tactic| walk_at "go") => `(tactic| repeat (first
  | with_reducible refine Rd.con ?_
  | ((with_reducible refine' Rd.var ?h1 ?_); (case h1 => rfl))
  | with_reducible refine Rd.op ?_
  | with_reducible refine Rd.un ?_
  | with_reducible refine Rd.i0 ?_
  | with_reducible refine Rd.iu ?_
  | ((with_reducible refine Rd.iC ?h1 ?_); (case h1 => walk_at "side"))
  | with_reducible refine Rd.nil ?_
  | with_reducible refine Rd.cons ?_
  | with_reducible refine Rd.cb ?_
  | with_reducible refine Rd.int1 ?_
  | with_reducible refine Rd.intB ?_
  | with_reducible refine Rd.maxI ?_
  | with_reducible refine Rd.minI ?_
  | with_reducible refine Rd.blx ?_
  | with_reducible refine Rd.tst ?_
  | with_reducible refine Rd.tb_ ?_
  | with_reducible refine Rd.not_ ?_
  | with_reducible refine Rd.and_ ?_
  | with_reducible refine Rd.or_ ?_
  | with_reducible refine Rd.ifx ?_
  | with_reducible refine Rd.chain ?_
  | with_reducible refine Rd.andV ?_
  | with_reducible refine Rd.orV ?_
  | with_reducible refine Rd.notV ?_
  | with_reducible refine Rd.seq ?_
  | with_reducible refine Rd.asg ?_
  | with_reducible refine Rd.name ?_
  | with_reducible refine Rd.ret ?_
  | with_reducible refine Rd.ifS ?_
  | with_reducible refine Rd.next ?_
  | with_reducible refine Rd.drop ?_
  | with_reducible refine Rd.gsub ?_
  | with_reducible refine Rd.cr ?_
  | with_reducible refine Rd.crX ?_
  | with_reducible refine Rd.ixOS ?_
  | ((with_reducible refine' Rd.xfv ?h1 ?h2 ?h3 ?_); (case h1 => walk_at "hp"); (case h2 => rfl); (case h3 => rfl))
  | ((with_reducible refine' Rd.bmLv ?h1 ?h2 ?_); (case h1 => rfl); (case h2 => walk_at "hp"))
  | ((with_reducible refine' Rd.countL ?h1 ?_); (case h1 => walk_at "hp"))
  | ((with_reducible refine' Rd.sumL ?h1 ?_); (case h1 => walk_at "hp"))
  | ((with_reducible refine' Rd.listL ?h1 ?_); (case h1 => walk_at "hp"))
  | ((with_reducible refine' Rd.listT ?h1 ?_); (case h1 => walk_at "hp"))
  | with_reducible refine Rd.isNn ?_
  | with_reducible refine Rd.isNr ?_
  | with_reducible refine Rd.notNn ?_
  | with_reducible refine Rd.notNr ?_
  | with_reducible refine Rd.isB ?_
  | with_reducible refine Rd.notBtt ?_
  | with_reducible refine Rd.notBff ?_
  | with_reducible refine Rd.notBtf ?_
  | with_reducible refine Rd.notBft ?_
  | with_reducible refine Rd.notB ?_
  | with_reducible refine Rd.smeth ?_
  | with_reducible refine Rd.sl ?_
  | with_reducible refine Rd.po0 ?_
  | with_reducible refine Rd.poI ?_
  | with_reducible refine Rd.ixi ?_
  | with_reducible refine Rd.par ?_
  | with_reducible refine Rd.par3 ?_
  | with_reducible refine Rd.par33 ?_
  | ((with_reducible refine' Rd.aug ?h1 ?_); (case h1 => rfl))
  | with_reducible refine Rd.ipi ?_
  | with_reducible refine Rd.lstRg ?_
  | with_reducible refine Rd.rg1 ?_
  | with_reducible refine Rd.par2 ?_
  | with_reducible refine Rd.mkRS ?_
  | with_reducible refine Rd.callRS ?_
  | with_reducible refine Rd.mk ?_
  | with_reducible refine Rd.mkX ?_
  | with_reducible refine Rd.sF ?_
  | with_reducible refine Rd.dIn ?_
  | with_reducible refine Rd.dNi ?_
  | with_reducible refine Rd.dctL ?_
  | with_reducible refine Rd.dctT ?_
  | with_reducible refine Rd.forE ?_
  | with_reducible refine Rd.lc2T ?_
  | with_reducible refine Rd.lc2L ?_
  | with_reducible refine Rd.lc2R ?_
  | with_reducible refine Rd.inR2 ?_
  | with_reducible refine Rd.inR1 ?_
  | with_reducible refine Rd.inT ?_
  | with_reducible refine Rd.inL ?_
  | with_reducible refine Rd.lcT ?_
  | with_reducible refine Rd.lcL ?_
  | with_reducible refine Rd.lcR ?_
  | with_reducible refine Rd.forT ?_
  | with_reducible refine Rd.forL ?_
  | with_reducible refine Rd.forR ?_
  | with_reducible refine Rd.yes ?_
  | with_reducible refine iteT ?_
  | with_reducible refine iteF ?_
  | with_reducible refine Rd.iteNT ?_
  | with_reducible refine Rd.iteNF ?_
  | with_reducible refine Rd.tup ?_
  | with_reducible refine Rd.lst ?_
  | ((with_reducible refine Rd.eqs ?h1 ?_); (case h1 => rfl))
  | ((with_reducible refine Rd.nes ?h1 ?_); (case h1 => rfl))
  | ((with_reducible refine' Rd.ixL ?h1 ?h2 ?_); (case h1 => walk_at "hp"); (case h2 => first | rfl | assumption))
  | ((with_reducible refine' Rd.ixT ?h1 ?h2 ?_); (case h1 => walk_at "hp"); (case h2 => first | rfl | assumption))
  | ((with_reducible refine' Rd.lenL ?h1 ?_); (case h1 => walk_at "hp"))
  | ((with_reducible refine' Rd.lenT ?h1 ?_); (case h1 => walk_at "hp"))
  | ((with_reducible refine' Rd.setL ?h1 ?h2 ?_); (case h1 => walk_at "hp"); (case h2 => first | rfl | assumption))))
/-- a result, or none -/
def RT (H : Hp) (r : Option Pr) (v : V) : Prop := match r with
  | none => v = .non
  | some p => PT H p v
theorem RT.ext {H H' : Hp} {r : Option Pr} {v : V} (h : RT H r v) (e : Ext H H') : RT H' r v := by
  cases r with
  | none => exact h
  | some p => exact PT.ext h e
theorem RT.keep {H H' : Hp} {D : Addr} {r : Option Pr} {v : V} (h : RT H r v) (n : H D = none) (e : Ext H H') : RT (Rd.hid [D] H') r v := by
  cases r with
  | none => exact h
  | some p => exact PT.keep h n e
theorem RT.hid {H : Hp} {O : List Addr} {r : Option Pr} {v : V} (h : RT (Rd.hid O H) r v) : RT H r v := h.ext Rd.hid_ext
/-- a list, a tuple of results -/
def RL (H : Hp) (l : Addr) (rs : List (Option Pr)) : Prop := ∃ vs, H l = some (.lst vs) ∧ Paired (RT H) rs vs
def RU (H : Hp) (l : Addr) (rs : List (Option Pr)) : Prop := ∃ vs, H l = some (.tup vs) ∧ Paired (RT H) rs vs
theorem RL.ext {H H' : Hp} {l : Addr} {rs : List (Option Pr)} (h : RL H l rs) (e : Ext H H') : RL H' l rs := by
  obtain ⟨vs, h1, h2⟩ := h
  exact ⟨vs, e _ _ h1, Rd.paired_imp (fun _ _ r => r.ext e) h2⟩
theorem RU.ext {H H' : Hp} {l : Addr} {rs : List (Option Pr)} (h : RU H l rs) (e : Ext H H') : RU H' l rs := by
  obtain ⟨vs, h1, h2⟩ := h
  exact ⟨vs, e _ _ h1, Rd.paired_imp (fun _ _ r => r.ext e) h2⟩
/-- no negative goals -/
def okR (r : Option Pr) : Prop := ∀ p, r = some p → 0 ≤ p.1 ∧ 0 ≤ p.2
abbrev CS_ (K : PySem.W.Frag) : Addr := He.ga K "Sheet"
def fsS (f h : Addr) : List (Str × V) := [("fixtures", .ref f), ("held", .ref h)]
theorem fsS_fixtures (f h : Addr) : (fsS f h).lookup ("fixtures" : Str) = some (.ref f) := rfl
theorem fsS_held (f h : Addr) : (fsS f h).lookup ("held" : Str) = some (.ref h) := rfl
/-- a sheet: its fixtures at f, its list at h -/
def ShAt (K : PySem.W.Frag) (H : Hp) (s f h : Addr) (n : Int) (ps : List Pr) (rs : List (Option Pr)) : Prop := (∃ dx, H s = some (.ins (CS_ K) dx (fsS f h))) ∧ FixAt K H f n ps ∧ RL H h rs ∧ rs.length = ps.length
theorem ShAt.ext {K : PySem.W.Frag} {H H' : Hp} {s f h : Addr} {n : Int} {ps : List Pr} {rs : List (Option Pr)} (S : ShAt K H s f h n ps rs) (e : Ext H H') : ShAt K H' s f h n ps rs := by
  obtain ⟨⟨dx, h1⟩, h2, h3, h4⟩ := S
  exact ⟨⟨dx, e _ _ h1⟩, h2.ext e, h3.ext e, h4⟩
section
variable {base : Heap} {P : Program} {w : World} {mg : Str → Option Value} {K : PySem.W.Frag}
theorem ok_BadResult (T : Tx K mg) : ∃ fd, FnOk P w K mg base (L2.CX P w) 1 (a_BadResult_init K) fd P_BadResult_init (sp_ex (He.ga K "BadResult") "index") ∧ Binds K fd P_BadResult_init [] := by
  refine fnok T.d_BadResult_init sc_BadResult_init (fun _ _ _ _ _ _ us hl => match us, hl with | [_, _], _ => rfl) (fun vs H Q E h => ?_) (fun cdv A outer s H vs Q E hr h => ?_)
  · obtain ⟨a, v, rfl, _⟩ := h
    rfl
  · obtain ⟨a, v, rfl, ha, k⟩ := h
    refine ⟨_, pss_one (ps_ost (pv 0) (pv 1)), ?_⟩
    exact ⟨_, rfl, _, rfl, a, _, rfl, T.x_BadResult.ox, T.n_BadResult_index, .inl ⟨ha, fun dx hd ne => k dx hd ne⟩⟩
theorem fld_fixtures (T : Tx K mg) {σ : L2.St} {H : Hp} {i : Nat} {s f h : Addr} {n : Int} {ps : List Pr} {rs : List (Option Pr)} {Q : VK} (S : ShAt K H s f h n ps rs) (e : σ[i]? = some (some (.ref s))) (k : Q (.ref f) H) : tFld K (tVar i) "fixtures" σ H Q := by
  obtain ⟨⟨dx, h1⟩, _⟩ := S
  exact ⟨.ref s, e, s, _, dx, _, _, rfl, h1, T.c_Sheet, T.n_Sheet_fixtures, fsS_fixtures f h, k⟩
theorem fld_held (T : Tx K mg) {σ : L2.St} {H : Hp} {i : Nat} {s f h : Addr} {n : Int} {ps : List Pr} {rs : List (Option Pr)} {Q : VK} (S : ShAt K H s f h n ps rs) (e : σ[i]? = some (some (.ref s))) (k : Q (.ref h) H) : tFld K (tVar i) "held" σ H Q := by
  obtain ⟨⟨dx, h1⟩, _⟩ := S
  exact ⟨.ref s, e, s, _, dx, _, _, rfl, h1, T.c_Sheet, T.n_Sheet_held, fsS_held f h, k⟩
/-! ### Fixtures.__len__ -/
def sp_Fixtures_len (K : PySem.W.Frag) : Sp := fun vs H Q _ => ∃ (a : Addr) (n : Int) (ps : List Pr), vs = [.ref a] ∧ FixAt K H a n ps ∧ Q (.int ps.length) H
theorem ok_Fixtures_len (T : Tx K mg) : FnR P w K mg base (L2.CX P w) 1 (a_Fixtures_len K) (sp_Fixtures_len K) := by
  refine fnr T.d_Fixtures_len sc_Fixtures_len (fun _ _ _ _ _ _ us hl => match us, hl with | [_], _ => rfl) (fun vs H Q E h => ?_) (fun cdv A outer s H vs Q E hr h => ?_)
  · obtain ⟨a, n, ps, rfl, _⟩ := h
    rfl
  · obtain ⟨a, n, ps, rfl, F, k⟩ := h
    refine ⟨_, (pss_one (ps_ret (pe_callB (Rd.c_len (K := K)) (by rfl) T.f_len Rd.bt_len (pa_cons (GW.fld (K := K) (pv 0)) pa_nil)))), ?_⟩
    walk_at "go"
    refine fld_pairs T F rfl fun q hq => ?_
    obtain ⟨vs, hvs, pr⟩ := hq
    have e := Rd.paired_len pr
    walk_at "go"
    rw [← e]
    exact k
/-! ### fair, copied -/
def sp_fair : Sp := fun vs H Q _ => ∃ (v : V) (r : Option Pr), vs = [v] ∧ RT H r v ∧ okR r ∧ Q (.bl true) H
theorem ok_fair (T : Tx K mg) : FnR P w K mg base (L2.CX P w) 1 (a_fair K) sp_fair := by
  refine fnr T.d_fair sc_fair (fun _ _ _ _ _ _ us hl => match us, hl with | [_], _ => rfl) (fun vs H Q E h => ?_) (fun cdv A outer s H vs Q E hr h => ?_)
  · obtain ⟨v, r, rfl, _⟩ := h
    rfl
  · obtain ⟨v, r, rfl, hv, ok, k⟩ := h
    refine ⟨_, (pss_one (ps_ret (pe_or (pe_cmpR GW.isN (pv 0) pe_non (nomark _)) (pe_one (pe_and (pe_cmpR op_ge (pe_ix (GW.ixT (K := K)) (pv 0) pe_int (fun _ _ => rfl)) pe_int (nomark _)) (pe_one (pe_cmpR op_ge (pe_ix (GW.ixT (K := K)) (pv 0) pe_int (fun _ _ => rfl)) pe_int (nomark _)))))))), ?_⟩
    cases r with
    | none =>
      cases hv
      walk_at "go"
      exact k
    | some p =>
      obtain ⟨a, rfl, ha⟩ := hv
      obtain ⟨h1, h2⟩ := ok p rfl
      walk_at "go"
      rw [decide_eq_true h1]
      walk_at "go"
      rw [decide_eq_true h2]
      exact k
def sp_copied : Sp := fun vs H Q _ => ∃ (v : V) (r : Option Pr), vs = [v] ∧ RT H r v ∧ ∀ y H', Ext H H' → (∀ (D : Addr) (acc : List V), H D = some (.lst acc) → RT (Rd.hid [D] H') r y) → RT H' r y → Q y H'
theorem ok_copied (T : Tx K mg) : FnR P w K mg base (L2.CX P w) 1 (a_copied K) sp_copied := by
  refine fnr T.d_copied sc_copied (fun _ _ _ _ _ _ us hl => match us, hl with | [_], _ => rfl) (fun vs H Q E h => ?_) (fun cdv A outer s H vs Q E hr h => ?_)
  · obtain ⟨v, r, rfl, _⟩ := h
    rfl
  · obtain ⟨v, r, rfl, hv, k⟩ := h
    refine ⟨_, (pss_cons (ps_if (pt_cmpR GW.isN (pv 0) pe_non (nomark _)) (pss_one (ps_ret pe_non)) pss_nil) (pss_one (ps_ret (pe_tup (pa_cons (pe_ix (GW.ixT (K := K)) (pv 0) pe_int (fun _ _ => rfl)) (pa_cons (pe_ix (GW.ixT (K := K)) (pv 0) pe_int (fun _ _ => rfl)) pa_nil)))))), ?_⟩
    cases r with
    | none =>
      cases hv
      walk_at "go"
      exact k _ _ Rd.ext_rfl (fun _ _ _ => rfl) rfl
    | some p =>
      obtain ⟨a, rfl, ha⟩ := hv
      walk_at "go"
      refine ⟨Rd.szr rfl, fun t ht => ?_⟩
      exact k _ _ (Ext.upd ht) (fun D acc hD => PT.new hD ht) ⟨t, rfl, upd_same⟩
end
end Lv

set_option Elab.async false
set_option linter.all false
set_option maxRecDepth 100000
set_option maxHeartbeats 0
set_option pp.maxSteps 3000
/-! Sheets: made; their results. -/
namespace Lv
open PySem PySem.Spec PyProof.Rows L2 OwX Rs
local macro_rules | `(tactic| walk_at "side") => `(tactic| first
  | exact (show CMul _ _ from .inl ⟨by decide, by decide⟩) | exact (show CMul _ _ from .inr ⟨by decide, by decide⟩) | exact (show CMul _ _ from .inl ⟨by omega, by omega⟩) | exact (show CMul _ _ from .inr ⟨by omega, by omega⟩)
  | exact (show CPow _ _ from ⟨by decide, by decide, by decide⟩)
  | exact (show CDiv _ _ from ⟨by decide, by decide⟩) | exact (show CDiv _ _ from ⟨by omega, by omega⟩)
  | exact (show (0 : Int) < _ by decide) | exact (show (0 : Int) < _ by omega) | exact (show ¬ (_ : Int) = 0 by decide) | exact (show ¬ (_ : Int) = 0 by omega) | assumption)
local macro_rules | `(tactic| walk_at "hp") => `(tactic| first
  | assumption | exact upd_same
  | (refine' SqL.of ?h1; (case h1 => walk_at "hp")) | (refine' SqT.of ?h1; (case h1 => walk_at "hp"))
  | (refine' Rd.new_app ?h1 ?h2; (case h1 => assumption); (case h2 => walk_at "hp"))
  | (refine' Rd.upd_app ?h1 ?h2; (case h1 => first | assumption | exact Ne.symm (by assumption)); (case h2 => walk_at "hp"))
  | (refine' Rd.ext_app ?h1 ?h2; (case h1 => assumption); (case h2 => walk_at "hp"))
  | (refine' Rd.ext_L ?h1 ?h2; (case h1 => assumption); (case h2 => walk_at "hp"))
  | (refine' Rd.ext_T ?h1 ?h2; (case h1 => assumption); (case h2 => walk_at "hp")))
local macro_rules | `(tactic| walk_at "go") => `(tactic| repeat (first
  | with_reducible refine Rd.con ?_
  | ((with_reducible refine' Rd.var ?h1 ?_); (case h1 => rfl))
  | with_reducible refine Rd.op ?_
  | with_reducible refine Rd.un ?_
  | with_reducible refine Rd.i0 ?_
  | with_reducible refine Rd.iu ?_
  | ((with_reducible refine Rd.iC ?h1 ?_); (case h1 => walk_at "side"))
  | with_reducible refine Rd.nil ?_
  | with_reducible refine Rd.cons ?_
  | with_reducible refine Rd.cb ?_
  | with_reducible refine Rd.int1 ?_
  | with_reducible refine Rd.intB ?_
  | with_reducible refine Rd.maxI ?_
  | with_reducible refine Rd.minI ?_
  | with_reducible refine Rd.blx ?_
  | with_reducible refine Rd.tst ?_
  | with_reducible refine Rd.tb_ ?_
  | with_reducible refine Rd.not_ ?_
  | with_reducible refine Rd.and_ ?_
  | with_reducible refine Rd.or_ ?_
  | with_reducible refine Rd.ifx ?_
  | with_reducible refine Rd.chain ?_
  | with_reducible refine Rd.andV ?_
  | with_reducible refine Rd.orV ?_
  | with_reducible refine Rd.notV ?_
  | with_reducible refine Rd.seq ?_
  | with_reducible refine Rd.asg ?_
  | with_reducible refine Rd.name ?_
  | with_reducible refine Rd.ret ?_
  | with_reducible refine Rd.ifS ?_
  | with_reducible refine Rd.next ?_
  | with_reducible refine Rd.drop ?_
  | with_reducible refine Rd.gsub ?_
  | with_reducible refine Rd.cr ?_
  | with_reducible refine Rd.crX ?_
  | with_reducible refine Rd.ixOS ?_
  | ((with_reducible refine' Rd.xfv ?h1 ?h2 ?h3 ?_); (case h1 => walk_at "hp"); (case h2 => rfl); (case h3 => rfl))
  | ((with_reducible refine' Rd.bmLv ?h1 ?h2 ?_); (case h1 => rfl); (case h2 => walk_at "hp"))
  | ((with_reducible refine' Rd.countL ?h1 ?_); (case h1 => walk_at "hp"))
  | ((with_reducible refine' Rd.sumL ?h1 ?_); (case h1 => walk_at "hp"))
  | ((with_reducible refine' Rd.listL ?h1 ?_); (case h1 => walk_at "hp"))
  | ((with_reducible refine' Rd.listT ?h1 ?_); (case h1 => walk_at "hp"))
  | with_reducible refine Rd.isNn ?_
  | with_reducible refine Rd.isNr ?_
  | with_reducible refine Rd.notNn ?_
  | with_reducible refine Rd.notNr ?_
  | with_reducible refine Rd.isB ?_
  | with_reducible refine Rd.notBtt ?_
  | with_reducible refine Rd.notBff ?_
  | with_reducible refine Rd.notBtf ?_
  | with_reducible refine Rd.notBft ?_
  | with_reducible refine Rd.notB ?_
  | with_reducible refine Rd.smeth ?_
  | with_reducible refine Rd.sl ?_
  | with_reducible refine Rd.po0 ?_
  | with_reducible refine Rd.poI ?_
  | with_reducible refine Rd.ixi ?_
  | with_reducible refine Rd.par ?_
  | with_reducible refine Rd.par3 ?_
  | with_reducible refine Rd.par33 ?_
  | ((with_reducible refine' Rd.aug ?h1 ?_); (case h1 => rfl))
  | with_reducible refine Rd.ipi ?_
  | with_reducible refine Rd.lstRg ?_
  | with_reducible refine Rd.rg1 ?_
  | with_reducible refine Rd.par2 ?_
  | with_reducible refine Rd.mkRS ?_
  | with_reducible refine Rd.callRS ?_
  | with_reducible refine Rd.mk ?_
  | with_reducible refine Rd.mkX ?_
  | with_reducible refine Rd.sF ?_
  | with_reducible refine Rd.dIn ?_
  | with_reducible refine Rd.dNi ?_
  | with_reducible refine Rd.dctL ?_
  | with_reducible refine Rd.dctT ?_
  | with_reducible refine Rd.forE ?_
  | with_reducible refine Rd.lc2T ?_
  | with_reducible refine Rd.lc2L ?_
  | with_reducible refine Rd.lc2R ?_
  | with_reducible refine Rd.inR2 ?_
  | with_reducible refine Rd.inR1 ?_
  | with_reducible refine Rd.inT ?_
  | with_reducible refine Rd.inL ?_
  | with_reducible refine Rd.lcT ?_
  | with_reducible refine Rd.lcL ?_
  | with_reducible refine Rd.lcR ?_
  | with_reducible refine Rd.forT ?_
  | with_reducible refine Rd.forL ?_
  | with_reducible refine Rd.forR ?_
  | with_reducible refine Rd.yes ?_
  | with_reducible refine iteT ?_
  | with_reducible refine iteF ?_
  | with_reducible refine Rd.iteNT ?_
  | with_reducible refine Rd.iteNF ?_
  | with_reducible refine Rd.tup ?_
  | with_reducible refine Rd.lst ?_
  | ((with_reducible refine Rd.eqs ?h1 ?_); (case h1 => rfl))
  | ((with_reducible refine Rd.nes ?h1 ?_); (case h1 => rfl))
  | ((with_reducible refine' Rd.ixL ?h1 ?h2 ?_); (case h1 => walk_at "hp"); (case h2 => first | rfl | assumption))
  | ((with_reducible refine' Rd.ixT ?h1 ?h2 ?_); (case h1 => walk_at "hp"); (case h2 => first | rfl | assumption))
  | ((with_reducible refine' Rd.lenL ?h1 ?_); (case h1 => walk_at "hp"))
  | ((with_reducible refine' Rd.lenT ?h1 ?_); (case h1 => walk_at "hp"))
  | ((with_reducible refine' Rd.setL ?h1 ?h2 ?_); (case h1 => walk_at "hp"); (case h2 => first | rfl | assumption))))
section
variable {base : Heap} {P : Program} {w : World} {mg : Str → Option Value} {K : PySem.W.Frag}
theorem FixAt.ins {H : Hp} {f : Addr} {n : Int} {ps : List Pr} (h : FixAt K H f n ps) : ∃ dx q, H f = some (.ins (CX_ K) dx (fsX n q)) := by
  obtain ⟨dx, q, h1, _⟩ := h
  exact ⟨dx, q, h1⟩
theorem lenF {H : Hp} {f : Addr} {n : Int} {ps : List Pr} {Q : VK} {E : XK} (F : FixAt K H f n ps) (l : ps.length ≤ 1000) (k : Q (.int ps.length) H) : rOwnLen (CX_ K) (sp_Fixtures_len K) E [.ref f] H Q := by
  obtain ⟨dx, q, h1⟩ := F.ins
  exact ⟨f, dx, _, rfl, h1, f, n, ps, rfl, F, ps.length, rfl, by omega, by omega, k⟩
def sp_Sheet_init (K : PySem.W.Frag) : Sp := fun vs H Q _ => ∃ (x dx f l : Addr) (n : Int) (ps : List Pr) (rs : List (Option Pr)), vs = [.ref x, .ref f, .ref l] ∧ H x = some (.ins (CS_ K) dx []) ∧ FixAt K H f n ps ∧ RL H l rs ∧ rs.length = ps.length ∧ ps.length ≤ 1000 ∧ (∀ r ∈ rs, okR r) ∧
  ∀ H' h, (∀ b o, b ≠ x → H b = some o → H' b = some o) → H h = none → ShAt K H' x f h n ps rs → Q .non H'
theorem bd_Sheet_init (T : Tx K mg) : Body P w K mg base N_Sheet_init "Sheet.__init__" (defScope s_Sheet_init) (defBody s_Sheet_init) (a_Sheet_init K) 5 (sp_Sheet_init K) := by
  obtain ⟨fdN_BadLength, FN_BadLength, bN_BadLength⟩ := ok_BadLength (P := P) (w := w) (base := base) T
  obtain ⟨fdN_BadResult, FN_BadResult, bN_BadResult⟩ := ok_BadResult (P := P) (w := w) (base := base) T
  intro cdv A outer s H vs Q E hr h
  obtain ⟨x, dx, f, l, n, ps, rs, rfl, hx, F, hl, len, l1000, ok, k⟩ := h
  refine ⟨_, (pss_cons (sx 3 sc_Sheet_init.nd (pe_op op_rep (pe_lst (pa_cons pe_non pa_nil)) (pe_callB (call_lenO T.m_Fixtures_len (ok_Fixtures_len T) (hr.mono (by decide)) passL) (by rfl) T.f_len Rd.bt_len (pa_cons (pv 1) pa_nil)))) (pss_cons (ps_if (pt_cmpR GW.notN (pv 2) pe_non (nomark _)) (pss_one (sx 3 sc_Sheet_init.nd (pe_callTy (Rd.c_list (K := K)) (by rfl) T.f_list Rd.bt_list (pa_cons (pv 2) pa_nil)))) pss_nil) (pss_cons (ps_if (pt_cmpR op_ne (pe_callB (Rd.c_len (K := K)) (by rfl) T.f_len Rd.bt_len (pa_cons (pv 3) pa_nil)) (pe_callB (call_lenO T.m_Fixtures_len (ok_Fixtures_len T) (hr.mono (by decide)) passL) (by rfl) T.f_len Rd.bt_len (pa_cons (pv 1) pa_nil)) (nomark _)) (pss_one (ps_raise rfl (takes_of rfl rfl rfl rfl) (pmk_oex T.x_BadLength.ox T.x_BadLength.it T.x_BadLength.ti FN_BadLength (hr.mono (by decide)) bN_BadLength .nil passL (by rfl) T.g_BadLength (pa_cons (pe_callB (Rd.c_len (K := K)) (by rfl) T.f_len Rd.bt_len (pa_cons (pv 3) pa_nil)) pa_nil)))) pss_nil) (pss_cons (ps_for (passes_of rfl) rfl (GW.enum (K := K) (by rfl) T.f_enumerate (pa_cons (pv 3) pa_nil)) (GW.tup (K := K) (n := 2) rfl (pgs_cons (gx 4 sc_Sheet_init.nd) (pgs_cons (gx 5 sc_Sheet_init.nd) pgs_nil))) (pss_one (ps_if (pt_not (pt_val (pe_cr (ok_fair T) (hr.mono (by decide)) (kp_of T.d_fair) (by rfl) T.g_fair (pa_cons (pv 5) pa_nil)))) (pss_one (ps_raise rfl (takes_of rfl rfl rfl rfl) (pmk_oex T.x_BadResult.ox T.x_BadResult.it T.x_BadResult.ti FN_BadResult (hr.mono (by decide)) bN_BadResult .nil passL (by rfl) T.g_BadResult (pa_cons (pv 4) pa_nil)))) pss_nil))) (pss_cons (ps_fld (pv 0) (pv 1) rfl) (pss_one (ps_fld (pv 0) (pe_lc (own := [("result", 5)]) rfl sc_Sheet_init.nd (GW.pi_list (K := K) (pv 3)) (blkOk_by (own := [("result", 5)]) (N := N_Sheet_init) (sc := defScope s_Sheet_init) (by decide +kernel)) (fun _ _ _ _ _ => (gx 5 sc_Sheet_init.nd)) (fun _ _ _ _ _ => pts_nil) (fun _ _ _ _ _ => (pe_cr (ok_copied T) (hr.mono (by decide)) (kp_of T.d_copied) (by rfl) T.g_copied (pa_cons (pv 5) pa_nil)))) rfl))))))), ?_⟩
  walk_at "go"
  refine ⟨Rd.szr rfl, fun o1 ho1 => ?_⟩
  have e1 := Ext.upd (o := .lst [V.non]) ho1
  walk_at "go"
  refine lenF (F.ext e1) l1000 ?_
  refine Rd.repL upd_same (by omega) (by omega) (Rd.sz (by simp; omega)) fun o2 ho2 => ?_
  have e2 := e1.trans (Ext.upd (o := .lst (List.replicate ((ps.length : Int)).toNat [V.non]).flatten) ho2)
  generalize upd (upd H o1 (.lst [V.non])) o2 (.lst (List.replicate ((ps.length : Int)).toNat [V.non]).flatten) = H1 at e2 ⊢
  clear e1 ho1 ho2
  obtain ⟨ys, hys, pr⟩ := hl
  have hys1 := e2 _ _ hys
  have ly := Rd.paired_len pr
  walk_at "go"
  intro g hg
  have e3 := e2.trans (Ext.upd (o := .lst ys) hg)
  have hgs : (upd H1 g (.lst ys)) g = some (.lst ys) := upd_same
  have hgn := ext_none e2 hg
  generalize upd H1 g (.lst ys) = H2 at e3 hgs ⊢
  clear e2 hys1
  walk_at "go"
  refine lenF (F.ext e3) l1000 ?_
  walk_at "go"
  rw [← ly, len, decide_eq_true rfl]
  walk_at "go"
  refine ⟨g, ys, rfl, SqL.of hgs, ?_⟩
  refine for_it (walk_enum (K := K) (a := g) (xs := ys)) (fun i σ H' => ∃ v4 v5, σ = [some (.ref x), some (.ref f), some (.ref l), some (.ref g), v4, v5] ∧ Ext H2 H') ⟨_, _, rfl, Rd.ext_rfl⟩ ?_ ?_ ?_
  · rintro i σ H' _ ⟨_, _, _, e⟩
    exact SqL.of (e _ _ hgs)
  · rintro i v σ H3 H4 hi ⟨v4, v5, rfl, e⟩ ⟨t, ix, y, rfl, nt, rfl, eix, hy⟩
    obtain rfl := Option.some.inj eix
    obtain ⟨r, hr1, hry⟩ := Rd.paired_back pr hy
    refine ⟨t, _, rfl, SqT.of upd_same, rfl, _, _, rfl, _, _, rfl, rfl, ?_⟩
    have e4 := e.trans (Ext.upd (o := .tup [.int (i : Nat), y]) nt)
    walk_at "go"
    refine ⟨y, r, rfl, hry.ext (e3.trans e4), ok r (List.mem_of_getElem? hr1), ?_⟩
    walk_at "go"
    exact ⟨_, _, rfl, e4⟩
  rintro σ H3 ⟨v4, v5, rfl, e⟩
  have e4 := e3.trans e
  have hgs := e _ _ hgs
  clear e3 e
  have hx3 := e4 _ _ hx
  walk_at "go"
  refine ⟨x, CS_ K, dx, [], rfl, hx3, T.c_Sheet, T.n_Sheet_fixtures, by decide, ?_⟩
  have ngx : g ≠ x := ne_of hgs hx3 (by intro z; cases z)
  have hx4 : (upd H3 x (.ins (CS_ K) dx (putF "fixtures" (.ref f) []))) x = some (.ins (CS_ K) dx [("fixtures", .ref f)]) := upd_same
  have e5 : ∀ b o, b ≠ x → H3 b = some o → (upd H3 x (.ins (CS_ K) dx (putF "fixtures" (.ref f) []))) b = some o := fun b o ne h => by rw [upd_ne ne]; exact h
  generalize upd H3 x (.ins (CS_ K) dx (putF "fixtures" (.ref f) [])) = H4 at hx4 e5
  have ptx : ∀ {r : Option Pr} {v : V}, RT H r v → RT H4 r v := fun {r v} h => by
    cases r with
    | none => exact h
    | some p =>
      obtain ⟨a, e, h⟩ := h
      exact ⟨a, e, e5 _ _ (ne_of (e4 _ _ h) hx3 (by intro z; cases z)) (e4 _ _ h)⟩
  have pr4 := Rd.paired_imp (fun _ _ z => ptx z) pr
  have hg4 := e5 _ _ ngx hgs
  walk_at "go"
  refine ⟨g, rfl, ⟨_, SqL.of hg4⟩, fun D hD => ?_⟩
  refine Rd.lcB (Rd.walk_lB (K := K) (a := g) pr4) (RT H4) (Rd.yB pr4) (by omega) (fun _ => true) (fun r y H => RT H r y) (fun _ _ _ _ e h => h.ext e) hD (fun H' e => SqL.of (e _ _ hg4)) ?_ ?_
  · rintro j r y H5 acc hj hy e ha Qy Qn ky kn
    walk_at "go"
    refine ⟨rfl, ?_⟩
    walk_at "go"
    exact ⟨y, r, rfl, hy.ext e, fun z H6 e6 kD hz => ky _ _ e6 rfl (kD D acc ha)⟩
  intro zs H5 e6 hzs pr5
  rw [List.filter_eq_self.mpr (fun _ _ => rfl)] at pr5
  have hx5 := e6 _ _ hx4
  have nDx : D ≠ x := ne_of hzs hx5 (by intro z; cases z)
  walk_at "go"
  refine ⟨x, CS_ K, dx, _, rfl, hx5, T.c_Sheet, T.n_Sheet_held, Nat.le_of_ble_eq_true rfl, ?_⟩
  have kp : ∀ b o, b ≠ x → H b = some o → (upd H5 x (.ins (CS_ K) dx (putF "held" (.ref D) [("fixtures", .ref f)]))) b = some o := fun b o ne h => by
    rw [upd_ne ne]
    exact e6 _ _ (e5 _ _ ne (e4 _ _ h))
  refine k _ D kp ?_ ⟨⟨dx, upd_same⟩, ?_, ⟨zs, by rw [upd_ne nDx]; exact hzs, ?_⟩, len⟩
  · cases h : H D with
    | none => rfl
    | some o => rw [e5 _ _ nDx (e4 _ _ h)] at hD; cases hD
  · obtain ⟨dy, q, h1, us, h2, prq⟩ := F
    have ne1 : f ≠ x := by
      intro z
      rw [z, hx] at h1
      injection h1 with h1
      injection h1 with _ _ h1
      cases h1
    exact ⟨dy, q, kp _ _ ne1 h1, us, kp _ _ (ne_of h2 hx (by intro z; cases z)) h2, Rd.paired_imp (fun p v z => by
      obtain ⟨a, e, h⟩ := z
      exact ⟨a, e, kp _ _ (ne_of h hx (by intro z; cases z)) h⟩) prq⟩
  · refine Rd.paired_imp (fun r v z => ?_) pr5
    have z := RT.hid z
    cases r with
    | none => exact z
    | some p =>
      obtain ⟨a, e, h⟩ := z
      exact ⟨a, e, by rw [upd_ne (ne_of h hx5 (by intro z; cases z))]; exact h⟩
theorem ok_Sheet_init (T : Tx K mg) : FnR P w K mg base (L2.CX P w) 6 (a_Sheet_init K) (sp_Sheet_init K) :=
  (fnrD (dvs := [V.non]) 3 1 T.d_Sheet_init sc_Sheet_init (by simp) rfl (fun _ _ _ _ _ _ _ us its h1 h2 => match us, its, h1, h2 with | [_, _, _], [_], _, _ => ⟨_, rfl, rfl⟩) (fun vs H Q E h => by
    obtain ⟨x, dx, f, l, n, ps, rs, rfl, _⟩ := h
    rfl) (bd_Sheet_init T)).imp fun vs H Q E q => by rw [show ([V.non] : List V).drop 1 = [] from rfl, List.append_nil]; exact q
/-- Sheet(f, l) -/
theorem mk_sheet {H : Hp} {f l : Addr} {n : Int} {ps : List Pr} {rs : List (Option Pr)} {Q : VK} {E : XK} (F : FixAt K H f n ps) (hl : RL H l rs) (len : rs.length = ps.length) (l1000 : ps.length ≤ 1000) (ok : ∀ r ∈ rs, okR r) (k : ∀ x h H', Ext H H' → H x = none → H h = none → ShAt K H' x f h n ps rs → Q (.ref x) H') : Rd.MkR (CS_ K) (sp_Sheet_init K) E [.ref f, .ref l] H Q := by
  intro x dx hx hd ne
  have e : Ext H (upd (upd H dx (.own x)) x (.ins (CS_ K) dx [])) := fun b o h => by
    rw [upd_ne (ne_of_none h hx), upd_ne (ne_of_none h hd)]
    exact h
  refine ⟨x, dx, f, l, n, ps, rs, rfl, upd_same, F.ext e, hl.ext e, len, l1000, ok, fun H' h kp hh S => ⟨rfl, k x h H' (fun b o eb => kp b o (ne_of_none eb hx) (e _ _ eb)) hx (ext_none e hh) S⟩⟩
/-! ### results -/
def sp_Sheet_results (K : PySem.W.Frag) : Sp := fun vs H Q _ => ∃ (s f h : Addr) (n : Int) (ps : List Pr) (rs : List (Option Pr)), vs = [.ref s] ∧ ShAt K H s f h n ps rs ∧ ∀ t H', Ext H H' → RU H' t rs → Q (.ref t) H'
theorem ok_Sheet_results (T : Tx K mg) : ∃ fd, FnOk P w K mg base (L2.CX P w) 2 (a_Sheet_results K) fd P_Sheet_results (sp_Sheet_results K) ∧ Binds K fd P_Sheet_results [] := by
  refine fnok T.d_Sheet_results sc_Sheet_results (fun _ _ _ _ _ _ us hl => match us, hl with | [_], _ => rfl) (fun vs H Q E h => ?_) (fun cdv A outer s0 H vs Q E hr h => ?_)
  · obtain ⟨s, f, h, n, ps, rs, rfl, _⟩ := h
    rfl
  · obtain ⟨s, f, h, n, ps, rs, rfl, S, k⟩ := h
    refine ⟨_, (pss_one (ps_ret (pe_callTy (Rd.c_tuple (K := K)) (by rfl) T.f_tuple Rd.bt_tuple (pa_cons (GW.fld (K := K) (pv 0)) pa_nil)))), ?_⟩
    walk_at "go"
    refine fld_held T S rfl ?_
    obtain ⟨_, _, ⟨vs, hvs, pr⟩, _⟩ := S
    walk_at "go"
    refine Rd.tupL (SqL.of hvs) fun t ht => ?_
    exact k t _ (Ext.upd ht) ⟨vs, upd_same, Rd.paired_imp (fun _ _ z => z.ext (Ext.upd ht)) pr⟩
end
end Lv

set_option Elab.async false
set_option linter.all false
set_option maxRecDepth 100000
set_option maxHeartbeats 0
set_option pp.maxSteps 3000
/-! What a fixture adds to the value of a team; the value. -/
namespace Rd
open PySem PySem.Spec PyProof.Rows L2 OwX
theorem forZT_ {K : PySem.W.Frag} {g : TG} {tb : TS} {D : Ends} {ta : TA} {σ : L2.St} {H : Hp} (k : tFor (RZ.iZipA K ta) g tb D σ H) : tFor (RZ.iZipA K ta) g tb D σ H := k
theorem cont {D : Ends} {σ : L2.St} {H : Hp} (k : D.ct σ H) : tCont D σ H := k
end Rd
namespace Lv
open PySem PySem.Spec PyProof.Rows L2 OwX Rs
local macro_rules | `(tactic| walk_at "side") => `(tactic| first
  | exact (show CMul _ _ from .inl ⟨by decide, by decide⟩) | exact (show CMul _ _ from .inr ⟨by decide, by decide⟩) | exact (show CMul _ _ from .inl ⟨by omega, by omega⟩) | exact (show CMul _ _ from .inr ⟨by omega, by omega⟩)
  | exact (show CPow _ _ from ⟨by decide, by decide, by decide⟩)
  | exact (show CDiv _ _ from ⟨by decide, by decide⟩) | exact (show CDiv _ _ from ⟨by omega, by omega⟩)
  | exact (show (0 : Int) < _ by decide) | exact (show (0 : Int) < _ by omega) | exact (show ¬ (_ : Int) = 0 by decide) | exact (show ¬ (_ : Int) = 0 by omega) | assumption)
local macro_rules | `(tactic| walk_at "hp") => `(tactic| first
  | assumption | exact upd_same
  | (refine' SqL.of ?h1; (case h1 => walk_at "hp")) | (refine' SqT.of ?h1; (case h1 => walk_at "hp"))
  | (refine' Rd.new_app ?h1 ?h2; (case h1 => assumption); (case h2 => walk_at "hp"))
  | (refine' Rd.upd_app ?h1 ?h2; (case h1 => first | assumption | exact Ne.symm (by assumption)); (case h2 => walk_at "hp"))
  | (refine' Rd.ext_app ?h1 ?h2; (case h1 => assumption); (case h2 => walk_at "hp"))
  | (refine' Rd.ext_L ?h1 ?h2; (case h1 => assumption); (case h2 => walk_at "hp"))
  | (refine' Rd.ext_T ?h1 ?h2; (case h1 => assumption); (case h2 => walk_at "hp")))
local macro_rules | `(tactic| walk_at "go") => `(tactic| repeat (first
  | with_reducible refine Rd.con ?_
  | ((with_reducible refine' Rd.var ?h1 ?_); (case h1 => rfl))
  | with_reducible refine Rd.op ?_
  | with_reducible refine Rd.un ?_
  | with_reducible refine Rd.i0 ?_
  | with_reducible refine Rd.iu ?_
  | ((with_reducible refine Rd.iC ?h1 ?_); (case h1 => walk_at "side"))
  | with_reducible refine Rd.nil ?_
  | with_reducible refine Rd.cons ?_
  | with_reducible refine Rd.cb ?_
  | with_reducible refine Rd.int1 ?_
  | with_reducible refine Rd.intB ?_
  | with_reducible refine Rd.maxI ?_
  | with_reducible refine Rd.minI ?_
  | with_reducible refine Rd.blx ?_
  | with_reducible refine Rd.tst ?_
  | with_reducible refine Rd.tb_ ?_
  | with_reducible refine Rd.not_ ?_
  | with_reducible refine Rd.and_ ?_
  | with_reducible refine Rd.or_ ?_
  | with_reducible refine Rd.ifx ?_
  | with_reducible refine Rd.chain ?_
  | with_reducible refine Rd.andV ?_
  | with_reducible refine Rd.orV ?_
  | with_reducible refine Rd.notV ?_
  | with_reducible refine Rd.seq ?_
  | with_reducible refine Rd.asg ?_
  | with_reducible refine Rd.name ?_
  | with_reducible refine Rd.ret ?_
  | with_reducible refine Rd.ifS ?_
  | with_reducible refine Rd.next ?_
  | with_reducible refine Rd.drop ?_
  | with_reducible refine Rd.gsub ?_
  | with_reducible refine Rd.cr ?_
  | with_reducible refine Rd.crX ?_
  | with_reducible refine Rd.ixOS ?_
  | ((with_reducible refine' Rd.xfv ?h1 ?h2 ?h3 ?_); (case h1 => walk_at "hp"); (case h2 => rfl); (case h3 => rfl))
  | ((with_reducible refine' Rd.bmLv ?h1 ?h2 ?_); (case h1 => rfl); (case h2 => walk_at "hp"))
  | ((with_reducible refine' Rd.countL ?h1 ?_); (case h1 => walk_at "hp"))
  | ((with_reducible refine' Rd.sumL ?h1 ?_); (case h1 => walk_at "hp"))
  | ((with_reducible refine' Rd.listL ?h1 ?_); (case h1 => walk_at "hp"))
  | ((with_reducible refine' Rd.listT ?h1 ?_); (case h1 => walk_at "hp"))
  | with_reducible refine Rd.isNn ?_
  | with_reducible refine Rd.isNr ?_
  | with_reducible refine Rd.notNn ?_
  | with_reducible refine Rd.notNr ?_
  | with_reducible refine Rd.isB ?_
  | with_reducible refine Rd.notBtt ?_
  | with_reducible refine Rd.notBff ?_
  | with_reducible refine Rd.notBtf ?_
  | with_reducible refine Rd.notBft ?_
  | with_reducible refine Rd.notB ?_
  | with_reducible refine Rd.smeth ?_
  | with_reducible refine Rd.sl ?_
  | with_reducible refine Rd.po0 ?_
  | with_reducible refine Rd.poI ?_
  | with_reducible refine Rd.ixi ?_
  | with_reducible refine Rd.par ?_
  | with_reducible refine Rd.par3 ?_
  | with_reducible refine Rd.par33 ?_
  | ((with_reducible refine' Rd.aug ?h1 ?_); (case h1 => rfl))
  | with_reducible refine Rd.ipi ?_
  | with_reducible refine Rd.lstRg ?_
  | with_reducible refine Rd.cont ?_
  | with_reducible refine Rd.rg1 ?_
  | with_reducible refine Rd.par2 ?_
  | with_reducible refine Rd.mkRS ?_
  | with_reducible refine Rd.callRS ?_
  | with_reducible refine Rd.mk ?_
  | with_reducible refine Rd.mkX ?_
  | with_reducible refine Rd.sF ?_
  | with_reducible refine Rd.dIn ?_
  | with_reducible refine Rd.dNi ?_
  | with_reducible refine Rd.dctL ?_
  | with_reducible refine Rd.dctT ?_
  | with_reducible refine Rd.forE ?_
  | with_reducible refine Rd.lc2T ?_
  | with_reducible refine Rd.lc2L ?_
  | with_reducible refine Rd.lc2R ?_
  | with_reducible refine Rd.inR2 ?_
  | with_reducible refine Rd.inR1 ?_
  | with_reducible refine Rd.inT ?_
  | with_reducible refine Rd.inL ?_
  | with_reducible refine Rd.lcT ?_
  | with_reducible refine Rd.lcL ?_
  | with_reducible refine Rd.lcR ?_
  | with_reducible refine Rd.forT ?_
  | with_reducible refine Rd.forL ?_
  | with_reducible refine Rd.forR ?_
  | with_reducible refine Rd.yes ?_
  | with_reducible refine iteT ?_
  | with_reducible refine iteF ?_
  | with_reducible refine Rd.iteNT ?_
  | with_reducible refine Rd.iteNF ?_
  | with_reducible refine Rd.tup ?_
  | with_reducible refine Rd.lst ?_
  | ((with_reducible refine Rd.eqs ?h1 ?_); (case h1 => rfl))
  | ((with_reducible refine Rd.nes ?h1 ?_); (case h1 => rfl))
  | ((with_reducible refine' Rd.ixL ?h1 ?h2 ?_); (case h1 => walk_at "hp"); (case h2 => first | rfl | assumption))
  | ((with_reducible refine' Rd.ixT ?h1 ?h2 ?_); (case h1 => walk_at "hp"); (case h2 => first | rfl | assumption))
  | ((with_reducible refine' Rd.lenL ?h1 ?_); (case h1 => walk_at "hp"))
  | ((with_reducible refine' Rd.lenT ?h1 ?_); (case h1 => walk_at "hp"))
  | ((with_reducible refine' Rd.setL ?h1 ?h2 ?_); (case h1 => walk_at "hp"); (case h2 => first | rfl | assumption))))
def whatStr : Cs.What → Str
  | .points => "points"
  | .wins => "wins"
  | .margin => "margin"
  | .scored => "scored"
  | .away => "away"
def allWhats : List Str := ["points", "wins", "margin", "scored", "away"]
theorem what_mem (w : Cs.What) : whatStr w ∈ allWhats := by cases w <;> simp [whatStr, allWhats]
/-- the points for a win, a draw, a loss -/
def PtAt (H : Hp) (v : V) (p : Cs.Pts) : Prop := ∃ t, v = .ref t ∧ H t = some (.tup [.int p.1, .int p.2.1, .int p.2.2])
theorem PtAt.ext {H H' : Hp} {v : V} {p : Cs.Pts} (h : PtAt H v p) (e : Ext H H') : PtAt H' v p := by
  obtain ⟨t, h1, h2⟩ := h
  exact ⟨t, h1, e _ _ h2⟩
section
variable {base : Heap} {P : Program} {w : World} {mg : Str → Option Value} {K : PySem.W.Frag}
def sp_points_for : Sp := fun vs H Q _ => ∃ (v : V) (p : Cs.Pts) (s : Int), vs = [v, .int s] ∧ PtAt H v p ∧ -1 ≤ s ∧ s ≤ 1 ∧ Q (.int (Cs.ptsFor p s)) H
theorem ok_points_for (T : Tx K mg) : FnR P w K mg base (L2.CX P w) 1 (a_points_for K) sp_points_for := by
  refine fnr T.d_points_for sc_points_for (fun _ _ _ _ _ _ us hl => match us, hl with | [_, _], _ => rfl) (fun vs H Q E h => ?_) (fun cdv A outer s0 H vs Q E hr h => ?_)
  · obtain ⟨v, p, s, rfl, _⟩ := h
    rfl
  · obtain ⟨v, p, s, rfl, ⟨t, rfl, ht⟩, h1, h2, k⟩ := h
    refine ⟨_, (pss_one (ps_ret (pe_ix (GW.ixT (K := K)) (pv 0) (pe_op op_sub pe_int (pv 1)) (fun _ _ => rfl)))), ?_⟩
    have hat : atI [V.int p.1, .int p.2.1, .int p.2.2] (1 - s) = some (.int (Cs.ptsFor p s)) := by
      have : s = -1 ∨ s = 0 ∨ s = 1 := by omega
      rcases this with rfl | rfl | rfl
      · exact Rd.nat_at (j := 2) rfl rfl
      · exact Rd.nat_at (j := 1) rfl rfl
      · exact Rd.nat_at (j := 0) rfl rfl
    walk_at "go"
    exact k
def sp_share : Sp := fun vs H Q _ => ∃ (a : Cs.What) (v : V) (p : Cs.Pts) (c : Bool) (own other : Int), vs = [.str (whatStr a), v, .bl c, .int own, .int other] ∧ PtAt H v p ∧ Q (.int (Cs.share a p c own other)) H
theorem ok_share (T : Tx K mg) : FnR P w K mg base (L2.CX P w) 2 (a_share K) sp_share := by
  refine fnr T.d_share sc_share (fun _ _ _ _ _ _ us hl => match us, hl with | [_, _, _, _, _], _ => rfl) (fun vs H Q E h => ?_) (fun cdv A outer s0 H vs Q E hr h => ?_)
  · obtain ⟨a, v, p, c, own, other, rfl, _⟩ := h
    rfl
  · obtain ⟨a, v, p, c, own, other, rfl, hp, k⟩ := h
    refine ⟨_, (pss_cons (ps_if (pt_cmpR op_eq (pv 0) pe_str (nomark _)) (pss_one (ps_ret (pe_cr (ok_points_for T) (hr.mono (by decide)) (kp_of T.d_points_for) (by rfl) T.g_points_for (pa_cons (pv 1) (pa_cons (pe_cr (ok_sign_of T) (hr.mono (by decide)) (kp_of T.d_sign_of) (by rfl) T.g_sign_of (pa_cons (pe_op op_sub (pv 3) (pv 4)) pa_nil)) pa_nil))))) pss_nil) (pss_cons (ps_if (pt_cmpR op_eq (pv 0) pe_str (nomark _)) (pss_one (ps_ret (pe_callTy Rd.c_int (by rfl) T.f_int Rd.bt_int (pa_cons (pe_cmpR op_gt (pv 3) (pv 4) (nomark _)) pa_nil)))) pss_nil) (pss_cons (ps_if (pt_cmpR op_eq (pv 0) pe_str (nomark _)) (pss_one (ps_ret (pe_op op_sub (pv 3) (pv 4)))) pss_nil) (pss_cons (ps_if (PW.pt (pw_and (pt_cmpR op_eq (pv 0) pe_str (nomark _)) (pw_and1 (pt_val (pv 2))))) (pss_one (ps_ret pe_int)) pss_nil) (pss_one (ps_ret (pv 3))))))), ?_⟩
    cases a with
    | points =>
      simp only [whatStr]
      walk_at "go"
      rw [decide_eq_true rfl]
      walk_at "go"
      refine ⟨_, rfl, ?_⟩
      walk_at "go"
      have b := Cs.signOf_in (own - other)
      exact ⟨v, p, _, rfl, hp, b.1, b.2, k⟩
    | wins =>
      simp only [whatStr]
      walk_at "go"
      rw [decide_eq_false (by decide)]
      walk_at "go"
      rw [decide_eq_true rfl]
      walk_at "go"
      have e : (if decide (own > other) = true then (1 : Int) else 0) = Cs.share .wins p c own other := by
        show _ = if own > other then 1 else 0
        by_cases h : own > other
        · rw [if_pos h, if_pos (decide_eq_true h)]
        · rw [if_neg h, if_neg (by simpa using h)]
      rw [e]
      exact k
    | margin =>
      simp only [whatStr]
      walk_at "go"
      rw [decide_eq_false (by decide)]
      walk_at "go"
      rw [decide_eq_false (by decide)]
      walk_at "go"
      rw [decide_eq_true rfl]
      walk_at "go"
      exact k
    | scored =>
      simp only [whatStr]
      walk_at "go"
      rw [decide_eq_false (by decide)]
      walk_at "go"
      rw [decide_eq_false (by decide)]
      walk_at "go"
      rw [decide_eq_false (by decide)]
      walk_at "go"
      rw [decide_eq_false (by decide)]
      walk_at "go"
      exact k
    | away =>
      simp only [whatStr]
      walk_at "go"
      rw [decide_eq_false (by decide)]
      walk_at "go"
      rw [decide_eq_false (by decide)]
      walk_at "go"
      rw [decide_eq_false (by decide)]
      walk_at "go"
      rw [decide_eq_true rfl]
      cases c
      · walk_at "go"
        exact k
      · walk_at "go"
        exact k
theorem scope_eq (p : Pr) (o : Option (List Int)) : Cs.inScope o p = scopeF p o := by
  cases o with
  | none => rfl
  | some l =>
    show (decide (p.1 ∈ l) && decide (p.2 ∈ l)) = (l.contains p.1 && l.contains p.2)
    rw [List.contains_eq_mem, List.contains_eq_mem]
theorem plays_eq {p : Pr} {team : Int} {o : Option (List Int)} : Cs.plays o team p = ([p.1, p.2].contains team && scopeF p o) := by
  unfold Cs.plays
  rw [scope_eq]
  congr 1
  rw [List.contains_cons, List.contains_cons, List.contains_nil, Bool.or_false]
  rfl
theorem contrib_some {pts : Cs.Pts} {a : Cs.What} {o : Option (List Int)} {team : Int} {p r : Pr} : Cs.contrib pts a o team p (some r) = if Cs.plays o team p = true then (if p.1 = team then Cs.share a pts true r.1 r.2 else Cs.share a pts false r.2 r.1) else 0 := rfl
theorem niI {H : Hp} {Q : VK} {t : Addr} {z : Int} {ns : List Int} (h : H t = some (.tup (ns.map V.int))) (k : Q (.bl (!ns.contains z)) H) : rIn K true (.int z) (.ref t) H Q :=
  ⟨t, _, rfl, .inr (SqT.of h), rfl, Rd.flat_ints, by rw [if_pos rfl, Rd.inV_int]; exact k⟩
def sp_value (K : PySem.W.Frag) : Sp := fun vs H Q _ => ∃ (a : Cs.What) (ptv : V) (pts : Cs.Pts) (s f h : Addr) (n : Int) (ps : List Pr) (rs : List (Option Pr)) (team : Int) (b : V) (o : Option (List Int)), vs = [.str (whatStr a), ptv, .ref s, .int team, b] ∧ PtAt H ptv pts ∧ ShAt K H s f h n ps rs ∧ BsAt H b o ∧ ps.length ≤ 1000 ∧ 0 ≤ team ∧ team < n ∧
  ∀ H', Ext H H' → Q (.int (Cs.valueF pts ps rs a o team)) H'
theorem bd_value (T : Tx K mg) : Body P w K mg base N_value "value" (defScope s_value) (defBody s_value) (a_value K) 4 (sp_value K) := by
  obtain ⟨fdN_BadWhat, FN_BadWhat, bN_BadWhat⟩ := ok_BadWhat (P := P) (w := w) (base := base) T
  obtain ⟨fdN_BadTeam, FN_BadTeam, bN_BadTeam⟩ := ok_BadTeam (P := P) (w := w) (base := base) T
  obtain ⟨fP, FP_Sheet_results, bP_Sheet_results⟩ := ok_Sheet_results (P := P) (w := w) (base := base) T
  intro cdv A outer s0 H vs Q E hr h
  obtain ⟨a, ptv, pts, s, f, h, n, ps, rs, team, b, o, rfl, hp, S, hb, len, t0, t1, k⟩ := h
  refine ⟨_, (pss_cons (ps_if (pt_cmpR (GW.niS (K := K)) (pv 0) (pe_glob (v := .ref (He.ga K "WHATS")) (by rfl) T.g_WHATS rfl) rfl) (pss_one (ps_raise rfl (takes_of rfl rfl rfl rfl) (pmk_oex T.x_BadWhat.ox T.x_BadWhat.it T.x_BadWhat.ti FN_BadWhat (hr.mono (by decide)) bN_BadWhat .nil passL (by rfl) T.g_BadWhat (pa_cons (pv 0) pa_nil)))) pss_nil) (pss_cons (ps_if (pt_not (pt_chain op_le op_lt pe_int (pv 3) (GW.fld (K := K) (GW.fld (K := K) (pv 2))))) (pss_one (ps_raise rfl (takes_of rfl rfl rfl rfl) (pmk_oex T.x_BadTeam.ox T.x_BadTeam.it T.x_BadTeam.ti FN_BadTeam (hr.mono (by decide)) bN_BadTeam .nil passL (by rfl) T.g_BadTeam (pa_cons (pv 3) pa_nil)))) pss_nil) (pss_cons (sx 5 sc_value.nd pe_int) (pss_cons (ps_for (passes_of rfl) rfl (GW.zipA (K := K) (by rfl) T.f_zip (pa_cons (GW.fld (K := K) (GW.fld (K := K) (pv 2))) (pa_cons (pe_prop (pv 2) T.c_Sheet T.p_Sheet_results FP_Sheet_results (hr.mono (by decide)) bP_Sheet_results .nil passL rfl) pa_nil))) (GW.tup (K := K) (n := 2) rfl (pgs_cons (gx 6 sc_value.nd) (pgs_cons (gx 7 sc_value.nd) pgs_nil))) (pss_cons (ps_if (PW.pt (pw_or (pt_cmpR GW.isN (pv 7) pe_non (nomark _)) (pw_or (pt_cmpR (GW.niS (K := K)) (pv 3) (pv 6) rfl) (pw_or1 (pt_not (pt_val (pe_cr (ok_in_scope T) (hr.mono (by decide)) (kp_of T.d_in_scope) (by rfl) T.g_in_scope (pa_cons (pv 6) (pa_cons (pv 4) pa_nil))))))))) (pss_one ps_continue) pss_nil) (pss_one (ps_if (pt_cmpR op_eq (pe_ix (GW.ixT (K := K)) (pv 6) pe_int (fun _ _ => rfl)) (pv 3) (nomark _)) (pss_one (ps_aug (i := 5) sc_value.nd rfl (by first | exact Or.inl rfl | exact Or.inr rfl) (pe_cr (ok_share T) (hr.mono (by decide)) (kp_of T.d_share) (by rfl) T.g_share (pa_cons (pv 0) (pa_cons (pv 1) (pa_cons pe_bl (pa_cons (pe_ix (GW.ixT (K := K)) (pv 7) pe_int (fun _ _ => rfl)) (pa_cons (pe_ix (GW.ixT (K := K)) (pv 7) pe_int (fun _ _ => rfl)) pa_nil)))))) ip_add)) (pss_one (ps_aug (i := 5) sc_value.nd rfl (by first | exact Or.inl rfl | exact Or.inr rfl) (pe_cr (ok_share T) (hr.mono (by decide)) (kp_of T.d_share) (by rfl) T.g_share (pa_cons (pv 0) (pa_cons (pv 1) (pa_cons pe_bl (pa_cons (pe_ix (GW.ixT (K := K)) (pv 7) pe_int (fun _ _ => rfl)) (pa_cons (pe_ix (GW.ixT (K := K)) (pv 7) pe_int (fun _ _ => rfl)) pa_nil)))))) ip_add)))))) (pss_one (ps_ret (pv 5))))))), ?_⟩
  walk_at "go"
  refine Rd.niStr (ns := allWhats) (T.t_WHATS H) ?_
  rw [List.contains_iff_mem.mpr (what_mem a)]
  walk_at "go"
  rw [decide_eq_true t0]
  walk_at "go"
  obtain ⟨⟨dx, h1⟩, ⟨dxf, q, hf, qvs, hq, prq⟩, ⟨hvs, hh, prh⟩, lrs⟩ := id S
  refine ⟨.ref s, rfl, s, _, dx, _, _, rfl, h1, T.c_Sheet, T.n_Sheet_fixtures, fsS_fixtures f h, f, _, dxf, _, _, rfl, hf, T.c_Fixtures, T.n_Fixtures_teams, fsX_teams n q, ?_⟩
  walk_at "go"
  rw [decide_eq_true t1]
  walk_at "go"
  refine ⟨.ref s, rfl, s, _, dx, _, _, rfl, h1, T.c_Sheet, T.n_Sheet_fixtures, fsS_fixtures f h, f, _, dxf, _, _, rfl, hf, T.c_Fixtures, T.n_Fixtures_pairs, fsX_pairs n q, ?_⟩
  walk_at "go"
  refine Rd.propv rfl h1 ⟨s, f, h, n, ps, rs, rfl, S, fun t H1 e1 R => ?_⟩
  obtain ⟨rvs, hr1, prr⟩ := R
  have hq1 := e1 _ _ hq
  have prq := Rd.paired_imp (fun _ _ (z : PT H _ _) => z.ext e1) prq
  have hp1 := hp.ext e1
  have hb1 := hb.ext e1
  have lq := Rd.paired_len prq
  have lr := Rd.paired_len prr
  refine ⟨q, t, qvs, rvs, rfl, .inr ⟨SqT.of hq1, SqT.of hr1, ?_⟩⟩
  refine for_it (Rd.walk_zipT (K := K) (a := q) (b := t) (xs := qvs) (ys := rvs) (n := ps.length) (by omega)) (fun i σ H' => ∃ v6 v7, σ = [some (.str (whatStr a)), some ptv, some (.ref s), some (.int team), some b, some (.int (((ps.zip rs).take i).map fun x => Cs.contrib pts a o team x.1 x.2).sum), v6, v7] ∧ Ext H1 H') ⟨_, _, rfl, Rd.ext_rfl⟩ ?_ ?_ ?_
  · rintro i σ H' _ ⟨_, _, _, e⟩
    exact ⟨SqT.of (e _ _ hq1), SqT.of (e _ _ hr1)⟩
  · rintro i v σ H2 H3 hi ⟨v6, v7, rfl, e2⟩ ⟨tz, x, y, rfl, nt, rfl, hx, hy⟩
    obtain ⟨p, hpi, hpx⟩ := Rd.paired_back prq hx
    obtain ⟨r, hri, hry⟩ := Rd.paired_back prr hy
    refine Rd.unP ?_
    have e3 := e2.trans (Ext.upd (o := .tup [x, y]) nt)
    generalize upd H2 tz (.tup [x, y]) = H4 at e3 ⊢
    have hz : (ps.zip rs)[i]? = some (p, r) := by
      rw [List.getElem?_zip_eq_some]
      exact ⟨hpi, hri⟩
    have es : (((ps.zip rs).take (i + 1)).map fun x => Cs.contrib pts a o team x.1 x.2).sum = (((ps.zip rs).take i).map fun x => Cs.contrib pts a o team x.1 x.2).sum + Cs.contrib pts a o team p r := by
      rw [List.take_succ, hz, List.map_append, List.sum_append]
      simp
    rw [es]
    generalize (((ps.zip rs).take i).map fun x => Cs.contrib pts a o team x.1 x.2).sum = acc
    obtain ⟨pa, rfl, hpa⟩ := hpx.ext e3
    have hry := hry.ext e3
    cases r with
    | none =>
      cases hry
      walk_at "go"
      have e0 : acc + Cs.contrib pts a o team p none = acc := by simp [Cs.contrib]
      rw [e0]
      exact ⟨_, _, rfl, e3⟩
    | some r =>
      obtain ⟨ra, rfl, hra⟩ := hry
      walk_at "go"
      refine niI (ns := [p.1, p.2]) hpa ?_
      refine ⟨_, rfl, ?_⟩
      have pe : Cs.plays o team p = ([p.1, p.2].contains team && scopeF p o) := plays_eq
      cases c1 : [p.1, p.2].contains team with
      | false =>
        have e0 : acc + Cs.contrib pts a o team p (some r) = acc := by
          rw [contrib_some, pe, c1, Bool.false_and, if_neg Bool.false_ne_true, Int.add_zero]
        rw [e0]
        walk_at "go"
        exact ⟨_, _, rfl, e3⟩
      | true =>
        walk_at "go"
        refine ⟨_, b, p, o, rfl, ⟨pa, rfl, hpa⟩, hb1.ext e3, ?_⟩
        refine ⟨_, rfl, ?_⟩
        cases c2 : scopeF p o with
        | false =>
          have e0 : acc + Cs.contrib pts a o team p (some r) = acc := by
            rw [contrib_some, pe, c2, Bool.and_false, if_neg Bool.false_ne_true, Int.add_zero]
          rw [e0]
          walk_at "go"
          exact ⟨_, _, rfl, e3⟩
        | true =>
          walk_at "go"
          have ec : Cs.contrib pts a o team p (some r) = if p.1 = team then Cs.share a pts true r.1 r.2 else Cs.share a pts false r.2 r.1 := by
            rw [contrib_some, pe, c1, c2, Bool.and_true, if_pos rfl]
          rw [ec]
          refine Rd.ited (fun c3 => ?_) (fun c3 => ?_)
          · rw [if_pos (V.int.inj c3)]
            walk_at "go"
            refine ⟨a, ptv, pts, true, r.1, r.2, rfl, hp1.ext e3, ?_⟩
            walk_at "go"
            exact ⟨_, _, rfl, e3⟩
          · rw [if_neg (fun z => c3 (by rw [z]))]
            walk_at "go"
            refine ⟨a, ptv, pts, false, r.2, r.1, rfl, hp1.ext e3, ?_⟩
            walk_at "go"
            exact ⟨_, _, rfl, e3⟩
  rintro σ H2 ⟨v6, v7, rfl, e2⟩
  rw [show (ps.zip rs).take ps.length = ps.zip rs from List.take_of_length_le (by rw [List.length_zip]; omega)]
  walk_at "go"
  exact k H2 (e1.trans e2)
theorem ok_value (T : Tx K mg) : FnR P w K mg base (L2.CX P w) 5 (a_value K) (sp_value K) :=
  (fnrD (dvs := [V.non]) 5 1 T.d_value sc_value (by simp) rfl (fun _ _ _ _ _ _ _ us its h1 h2 => match us, its, h1, h2 with | [_, _, _, _, _], [_], _, _ => ⟨_, rfl, rfl⟩) (fun vs H Q E h => by
    obtain ⟨a, ptv, pts, s, f, h, n, ps, rs, team, b, o, rfl, _⟩ := h
    rfl) (bd_value T)).imp fun vs H Q E q => by rw [show ([V.non] : List V).drop 1 = [] from rfl, List.append_nil]; exact q
end
end Lv

set_option Elab.async false
set_option linter.all false
set_option maxRecDepth 100000
set_option maxHeartbeats 0
/-! A thing drawn. -/
namespace Lv
open PySem PySem.Spec PyProof.Rows L2 OwX
local macro_rules | `(tactic| walk_at "side") => `(tactic| first
  | exact (show CMul _ _ from .inl ⟨by decide, by decide⟩) | exact (show CMul _ _ from .inr ⟨by decide, by decide⟩) | exact (show CMul _ _ from .inl ⟨by omega, by omega⟩) | exact (show CMul _ _ from .inr ⟨by omega, by omega⟩)
  | exact (show CPow _ _ from ⟨by decide, by decide, by decide⟩)
  | exact (show CDiv _ _ from ⟨by decide, by decide⟩) | exact (show CDiv _ _ from ⟨by omega, by omega⟩)
  | exact (show (0 : Int) < _ by decide) | exact (show (0 : Int) < _ by omega) | exact (show ¬ (_ : Int) = 0 by decide) | exact (show ¬ (_ : Int) = 0 by omega) | assumption)
local macro_rules | `(tactic| walk_at "hp") => `(tactic| first
  | assumption | exact upd_same
  | (refine' SqL.of ?h1; (case h1 => walk_at "hp")) | (refine' SqT.of ?h1; (case h1 => walk_at "hp"))
  | (refine' Rd.new_app ?h1 ?h2; (case h1 => assumption); (case h2 => walk_at "hp"))
  | (refine' Rd.upd_app ?h1 ?h2; (case h1 => first | assumption | exact Ne.symm (by assumption)); (case h2 => walk_at "hp"))
  | (refine' Rd.ext_app ?h1 ?h2; (case h1 => assumption); (case h2 => walk_at "hp"))
  | (refine' Rd.ext_L ?h1 ?h2; (case h1 => assumption); (case h2 => walk_at "hp"))
  | (refine' Rd.ext_T ?h1 ?h2; (case h1 => assumption); (case h2 => walk_at "hp")))
local macro_rules | `(tactic| walk_at "go") => `(tactic| repeat (first
  | with_reducible refine Rd.con ?_
  | ((with_reducible refine' Rd.var ?h1 ?_); (case h1 => rfl))
  | with_reducible refine Rd.op ?_
  | with_reducible refine Rd.un ?_
  | with_reducible refine Rd.i0 ?_
  | with_reducible refine Rd.iu ?_
  | ((with_reducible refine Rd.iC ?h1 ?_); (case h1 => walk_at "side"))
  | with_reducible refine Rd.nil ?_
  | with_reducible refine Rd.cons ?_
  | with_reducible refine Rd.cb ?_
  | with_reducible refine Rd.int1 ?_
  | with_reducible refine Rd.intB ?_
  | with_reducible refine Rd.maxI ?_
  | with_reducible refine Rd.minI ?_
  | with_reducible refine Rd.blx ?_
  | with_reducible refine Rd.tst ?_
  | with_reducible refine Rd.tb_ ?_
  | with_reducible refine Rd.not_ ?_
  | with_reducible refine Rd.and_ ?_
  | with_reducible refine Rd.or_ ?_
  | with_reducible refine Rd.ifx ?_
  | with_reducible refine Rd.chain ?_
  | with_reducible refine Rd.andV ?_
  | with_reducible refine Rd.orV ?_
  | with_reducible refine Rd.notV ?_
  | with_reducible refine Rd.seq ?_
  | with_reducible refine Rd.asg ?_
  | with_reducible refine Rd.name ?_
  | with_reducible refine Rd.ret ?_
  | with_reducible refine Rd.ifS ?_
  | with_reducible refine Rd.next ?_
  | with_reducible refine Rd.drop ?_
  | with_reducible refine Rd.gsub ?_
  | with_reducible refine Rd.cr ?_
  | with_reducible refine Rd.crX ?_
  | with_reducible refine Rd.ixOS ?_
  | ((with_reducible refine' Rd.xfv ?h1 ?h2 ?h3 ?_); (case h1 => walk_at "hp"); (case h2 => rfl); (case h3 => rfl))
  | ((with_reducible refine' Rd.bmLv ?h1 ?h2 ?_); (case h1 => rfl); (case h2 => walk_at "hp"))
  | ((with_reducible refine' Rd.countL ?h1 ?_); (case h1 => walk_at "hp"))
  | ((with_reducible refine' Rd.sumL ?h1 ?_); (case h1 => walk_at "hp"))
  | ((with_reducible refine' Rd.listL ?h1 ?_); (case h1 => walk_at "hp"))
  | ((with_reducible refine' Rd.listT ?h1 ?_); (case h1 => walk_at "hp"))
  | with_reducible refine Rd.isNn ?_
  | with_reducible refine Rd.isNr ?_
  | with_reducible refine Rd.notNn ?_
  | with_reducible refine Rd.notNr ?_
  | with_reducible refine Rd.isB ?_
  | with_reducible refine Rd.notBtt ?_
  | with_reducible refine Rd.notBff ?_
  | with_reducible refine Rd.notBtf ?_
  | with_reducible refine Rd.notBft ?_
  | with_reducible refine Rd.notB ?_
  | with_reducible refine Rd.smeth ?_
  | with_reducible refine Rd.sl ?_
  | with_reducible refine Rd.po0 ?_
  | with_reducible refine Rd.poI ?_
  | with_reducible refine Rd.ixi ?_
  | with_reducible refine Rd.par ?_
  | with_reducible refine Rd.par2 ?_
  | with_reducible refine Rd.mkRS ?_
  | with_reducible refine Rd.callRS ?_
  | with_reducible refine Rd.mk ?_
  | with_reducible refine Rd.mkX ?_
  | with_reducible refine Rd.sF ?_
  | with_reducible refine Rd.dIn ?_
  | with_reducible refine Rd.dNi ?_
  | with_reducible refine Rd.dctL ?_
  | with_reducible refine Rd.dctT ?_
  | with_reducible refine Rd.forE ?_
  | with_reducible refine Rd.lc2T ?_
  | with_reducible refine Rd.lc2L ?_
  | with_reducible refine Rd.lc2R ?_
  | with_reducible refine Rd.inR2 ?_
  | with_reducible refine Rd.inR1 ?_
  | with_reducible refine Rd.inT ?_
  | with_reducible refine Rd.inL ?_
  | with_reducible refine Rd.lcT ?_
  | with_reducible refine Rd.lcL ?_
  | with_reducible refine Rd.lcR ?_
  | with_reducible refine Rd.forT ?_
  | with_reducible refine Rd.forL ?_
  | with_reducible refine Rd.forR ?_
  | with_reducible refine Rd.yes ?_
  | with_reducible refine iteT ?_
  | with_reducible refine iteF ?_
  | with_reducible refine Rd.iteNT ?_
  | with_reducible refine Rd.iteNF ?_
  | with_reducible refine Rd.tup ?_
  | with_reducible refine Rd.lst ?_
  | ((with_reducible refine Rd.eqs ?h1 ?_); (case h1 => rfl))
  | ((with_reducible refine Rd.nes ?h1 ?_); (case h1 => rfl))
  | ((with_reducible refine' Rd.ixL ?h1 ?h2 ?_); (case h1 => walk_at "hp"); (case h2 => first | rfl | assumption))
  | ((with_reducible refine' Rd.ixT ?h1 ?h2 ?_); (case h1 => walk_at "hp"); (case h2 => first | rfl | assumption))
  | ((with_reducible refine' Rd.lenL ?h1 ?_); (case h1 => walk_at "hp"))
  | ((with_reducible refine' Rd.lenT ?h1 ?_); (case h1 => walk_at "hp"))
  | ((with_reducible refine' Rd.setL ?h1 ?h2 ?_); (case h1 => walk_at "hp"); (case h2 => first | rfl | assumption))))
section
variable {base : Heap} {P : Program} {w : World} {mg : Str → Option Value} {K : PySem.W.Frag}
/-! ### _law_one -/
def sp_one (K : PySem.W.Frag) : Sp := fun vs H Q _ => ∃ (p l : Addr) (xs : List V), vs = [.ref p, .ref l] ∧ SqL K H l xs ∧ l ≠ p ∧ Pl p H ∧ 0 < xs.length ∧ xs.length < 1000000 ∧ ∀ (i : Nat) v H', xs[i]? = some v → Lt p H H' → Q v H'
theorem ok_one (T : Tx K mg) : FnR P w K mg base (L2.CX P w) 2 (a_law_one K) (sp_one K) := by
  refine fnr T.d_law_one sc_law_one (fun _ _ _ _ _ _ us hl => match us, hl with | [_, _], _ => rfl) (fun vs H Q E h => ?_) (fun cdv A outer s H vs Q E hr h => ?_)
  · obtain ⟨p, l, xs, rfl, _⟩ := h
    rfl
  · obtain ⟨p, l, xs, rfl, hl, ne, pl, h0, h1, k⟩ := h
    refine ⟨_, (pss_one (ps_ret (pe_ix (GW.ixL (K := K)) (pv 1) (pe_cr (ok_take T) (hr.mono (by decide)) (kp_of T.d_law_take) (by rfl) T.g_law_take (pa_cons (pv 0) (pa_cons (pe_callB (Rd.c_len (K := K)) (by rfl) T.f_len Rd.bt_len (pa_cons (pv 1) pa_nil)) pa_nil))) (fun _ _ => rfl)))), ?_⟩
    walk_at "go"
    refine draw pl (fun r H' hr2 lt => ?_) (by omega) (by omega)
    have hl' := lt.sq ne hl
    have hlt : r < xs.length := by omega
    have hat : atI xs (r : Int) = some xs[r] := Rd.nat_at rfl (List.getElem?_eq_getElem hlt)
    walk_at "go"
    exact k r _ _ (List.getElem?_eq_getElem hlt) lt
end
end Lv

set_option Elab.async false
set_option linter.all false
set_option maxRecDepth 100000
set_option maxHeartbeats 0
set_option pp.maxSteps 3000
/-! k24: flat, drawn goals, the law's sums and parts. -/
namespace Lv
open PySem PySem.Spec PyProof.Rows L2 OwX Rs
local macro_rules | `(tactic| walk_at "side") => `(tactic| first
  | exact (show CMul _ _ from .inl ⟨by decide, by decide⟩) | exact (show CMul _ _ from .inr ⟨by decide, by decide⟩) | exact (show CMul _ _ from .inl ⟨by omega, by omega⟩) | exact (show CMul _ _ from .inr ⟨by omega, by omega⟩)
  | exact (show CPow _ _ from ⟨by decide, by decide, by decide⟩)
  | exact (show CDiv _ _ from ⟨by decide, by decide⟩) | exact (show CDiv _ _ from ⟨by omega, by omega⟩)
  | exact (show (0 : Int) < _ by decide) | exact (show (0 : Int) < _ by omega) | exact (show ¬ (_ : Int) = 0 by decide) | exact (show ¬ (_ : Int) = 0 by omega) | assumption)
local macro_rules | `(tactic| walk_at "hp") => `(tactic| first
  | assumption | exact upd_same
  | (refine' SqL.of ?h1; (case h1 => walk_at "hp")) | (refine' SqT.of ?h1; (case h1 => walk_at "hp"))
  | (refine' Rd.new_app ?h1 ?h2; (case h1 => assumption); (case h2 => walk_at "hp"))
  | (refine' Rd.upd_app ?h1 ?h2; (case h1 => first | assumption | exact Ne.symm (by assumption)); (case h2 => walk_at "hp"))
  | (refine' Rd.ext_app ?h1 ?h2; (case h1 => assumption); (case h2 => walk_at "hp"))
  | (refine' Rd.ext_L ?h1 ?h2; (case h1 => assumption); (case h2 => walk_at "hp"))
  | (refine' Rd.ext_T ?h1 ?h2; (case h1 => assumption); (case h2 => walk_at "hp")))
local macro_rules | `(tactic| walk_at "go") => `(tactic| repeat (first
  | with_reducible refine Rd.con ?_
  | ((with_reducible refine' Rd.var ?h1 ?_); (case h1 => rfl))
  | with_reducible refine Rd.op ?_
  | with_reducible refine Rd.un ?_
  | with_reducible refine Rd.i0 ?_
  | with_reducible refine Rd.iu ?_
  | ((with_reducible refine Rd.iC ?h1 ?_); (case h1 => walk_at "side"))
  | with_reducible refine Rd.nil ?_
  | with_reducible refine Rd.cons ?_
  | with_reducible refine Rd.cb ?_
  | with_reducible refine Rd.int1 ?_
  | with_reducible refine Rd.intB ?_
  | with_reducible refine Rd.maxI ?_
  | with_reducible refine Rd.minI ?_
  | with_reducible refine Rd.blx ?_
  | with_reducible refine Rd.tst ?_
  | with_reducible refine Rd.tb_ ?_
  | with_reducible refine Rd.not_ ?_
  | with_reducible refine Rd.and_ ?_
  | with_reducible refine Rd.or_ ?_
  | with_reducible refine Rd.ifx ?_
  | with_reducible refine Rd.chain ?_
  | with_reducible refine Rd.andV ?_
  | with_reducible refine Rd.orV ?_
  | with_reducible refine Rd.notV ?_
  | with_reducible refine Rd.seq ?_
  | with_reducible refine Rd.asg ?_
  | with_reducible refine Rd.name ?_
  | with_reducible refine Rd.ret ?_
  | with_reducible refine Rd.ifS ?_
  | with_reducible refine Rd.next ?_
  | with_reducible refine Rd.drop ?_
  | with_reducible refine Rd.gsub ?_
  | with_reducible refine Rd.cr ?_
  | with_reducible refine Rd.crX ?_
  | with_reducible refine Rd.ixOS ?_
  | ((with_reducible refine' Rd.xfv ?h1 ?h2 ?h3 ?_); (case h1 => walk_at "hp"); (case h2 => rfl); (case h3 => rfl))
  | ((with_reducible refine' Rd.bmLv ?h1 ?h2 ?_); (case h1 => rfl); (case h2 => walk_at "hp"))
  | ((with_reducible refine' Rd.countL ?h1 ?_); (case h1 => walk_at "hp"))
  | ((with_reducible refine' Rd.sumL ?h1 ?_); (case h1 => walk_at "hp"))
  | ((with_reducible refine' Rd.listL ?h1 ?_); (case h1 => walk_at "hp"))
  | ((with_reducible refine' Rd.listT ?h1 ?_); (case h1 => walk_at "hp"))
  | with_reducible refine Rd.isNn ?_
  | with_reducible refine Rd.isNr ?_
  | with_reducible refine Rd.notNn ?_
  | with_reducible refine Rd.notNr ?_
  | with_reducible refine Rd.isB ?_
  | with_reducible refine Rd.notBtt ?_
  | with_reducible refine Rd.notBff ?_
  | with_reducible refine Rd.notBtf ?_
  | with_reducible refine Rd.notBft ?_
  | with_reducible refine Rd.notB ?_
  | with_reducible refine Rd.smeth ?_
  | with_reducible refine Rd.sl ?_
  | with_reducible refine Rd.po0 ?_
  | with_reducible refine Rd.poI ?_
  | with_reducible refine Rd.ixi ?_
  | with_reducible refine Rd.par ?_
  | with_reducible refine Rd.par3 ?_
  | with_reducible refine Rd.par33 ?_
  | ((with_reducible refine' Rd.aug ?h1 ?_); (case h1 => rfl))
  | with_reducible refine Rd.ipi ?_
  | with_reducible refine Rd.lstRg ?_
  | with_reducible refine Rd.cont ?_
  | with_reducible refine Rd.rg1 ?_
  | with_reducible refine Rd.par2 ?_
  | with_reducible refine Rd.mkRS ?_
  | with_reducible refine Rd.callRS ?_
  | with_reducible refine Rd.mk ?_
  | with_reducible refine Rd.mkX ?_
  | with_reducible refine Rd.sF ?_
  | with_reducible refine Rd.dIn ?_
  | with_reducible refine Rd.dNi ?_
  | with_reducible refine Rd.dctL ?_
  | with_reducible refine Rd.dctT ?_
  | with_reducible refine Rd.forE ?_
  | with_reducible refine Rd.lc2T ?_
  | with_reducible refine Rd.lc2L ?_
  | with_reducible refine Rd.lc2R ?_
  | with_reducible refine Rd.inR2 ?_
  | with_reducible refine Rd.inR1 ?_
  | with_reducible refine Rd.inT ?_
  | with_reducible refine Rd.inL ?_
  | with_reducible refine Rd.lcT ?_
  | with_reducible refine Rd.lcL ?_
  | with_reducible refine Rd.lcR ?_
  | with_reducible refine Rd.forT ?_
  | with_reducible refine Rd.forL ?_
  | with_reducible refine Rd.forR ?_
  | with_reducible refine Rd.yes ?_
  | with_reducible refine iteT ?_
  | with_reducible refine iteF ?_
  | with_reducible refine Rd.iteNT ?_
  | with_reducible refine Rd.iteNF ?_
  | with_reducible refine Rd.tup ?_
  | with_reducible refine Rd.lst ?_
  | ((with_reducible refine Rd.eqs ?h1 ?_); (case h1 => rfl))
  | ((with_reducible refine Rd.nes ?h1 ?_); (case h1 => rfl))
  | ((with_reducible refine' Rd.ixL ?h1 ?h2 ?_); (case h1 => walk_at "hp"); (case h2 => first | rfl | assumption))
  | ((with_reducible refine' Rd.ixT ?h1 ?h2 ?_); (case h1 => walk_at "hp"); (case h2 => first | rfl | assumption))
  | ((with_reducible refine' Rd.lenL ?h1 ?_); (case h1 => walk_at "hp"))
  | ((with_reducible refine' Rd.lenT ?h1 ?_); (case h1 => walk_at "hp"))
  | ((with_reducible refine' Rd.setL ?h1 ?h2 ?_); (case h1 => walk_at "hp"); (case h2 => first | rfl | assumption))))
/-- the goals of the results, one behind another -/
def flatG (rs : List Pr) : List Int := rs.flatMap fun r => [r.1, r.2]
theorem flatG_len (rs : List Pr) : (flatG rs).length = 2 * rs.length := by
  unfold flatG
  induction rs with
  | nil => rfl
  | cons r rs ih => rw [List.flatMap_cons, List.length_append, ih, List.length_cons, List.length_cons, List.length_cons, List.length_nil]; omega
section
variable {base : Heap} {P : Program} {w : World} {mg : Str → Option Value} {K : PySem.W.Frag}
def sp_flat : Sp := fun vs H Q _ => ∃ (l : Addr) (rs : List Pr), vs = [.ref l] ∧ PL H l rs ∧ rs.length ≤ 1000 ∧ ∀ t H', Ext H H' → H t = none → H' t = some (.tup ((flatG rs).map V.int)) → Q (.ref t) H'
theorem ok_flat (T : Tx K mg) : FnR P w K mg base (L2.CX P w) 2 (a_flat K) sp_flat := by
  refine fnr T.d_flat sc_flat (fun _ _ _ _ _ _ us hl => match us, hl with | [_], _ => rfl) (fun vs H Q E h => ?_) (fun cdv A outer s H vs Q E hr h => ?_)
  · obtain ⟨l, rs, rfl, _⟩ := h
    rfl
  · obtain ⟨l, rs, rfl, ⟨ys, hys, pr⟩, len, k⟩ := h
    refine ⟨_, (pss_cons (sx 1 sc_flat.nd (pe_lst pa_nil)) (pss_cons (ps_for (passes_of rfl) rfl (GW.pi_list (K := K) (pv 0)) (GW.tup (K := K) (n := 2) rfl (pgs_cons (gx 2 sc_flat.nd) (pgs_cons (gx 3 sc_flat.nd) pgs_nil))) (pss_cons (ps_expr (GW.bm (K := K) PySem.F.plainAttrs_list PySem.F.slot_list_append PySem.F.type_list_append mt_append (pv 1) (pa_cons (pv 2) pa_nil))) (pss_one (ps_expr (GW.bm (K := K) PySem.F.plainAttrs_list PySem.F.slot_list_append PySem.F.type_list_append mt_append (pv 1) (pa_cons (pv 3) pa_nil)))))) (pss_one (ps_ret (pe_callTy (Rd.c_tuple (K := K)) (by rfl) T.f_tuple Rd.bt_tuple (pa_cons (pv 1) pa_nil)))))), ?_⟩
    walk_at "go"
    refine ⟨Rd.szr rfl, fun g hg => ?_⟩
    walk_at "go"
    refine ⟨l, rfl, ⟨_, SqL.of (Rd.new_app hg hys)⟩, ?_⟩
    refine for_list (xs := ys) (fun i σ H' => ∃ v2 v3, σ = [some (.ref l), some (.ref g), v2, v3] ∧ Ext H H' ∧ H' g = some (.lst ((flatG (rs.take i)).map V.int))) ⟨_, _, rfl, Ext.upd hg, upd_same⟩ ?_ ?_ ?_
    · rintro i σ H' _ ⟨_, _, _, e, _⟩
      exact SqL.of (e _ _ hys)
    · rintro i y σ H' hy ⟨v2, v3, rfl, e, hgl⟩
      obtain ⟨r, hri, hry⟩ := Rd.paired_back pr hy
      have il : i < rs.length := (List.getElem?_eq_some_iff.mp hri).1
      have fl : (flatG (rs.take i)).length ≤ 2000 := by rw [flatG_len, List.length_take]; omega
      refine un2 (hry.ext e) ?_
      walk_at "go"
      refine Rd.appendL hgl (Rd.szl (by rw [List.length_map]; omega)) ?_
      walk_at "go"
      refine Rd.appendL upd_same (Rd.szl (by rw [List.length_append, List.length_map]; simp; omega)) ?_
      rw [upd_upd]
      refine ⟨_, _, rfl, ext_mut e hg, ?_⟩
      rw [upd_same, List.take_succ, hri]
      unfold flatG
      rw [List.flatMap_append, List.map_append, List.append_assoc]
      rfl
    rintro σ H' ⟨v2, v3, rfl, e, hgl⟩
    rw [← Rd.paired_len pr, List.take_length] at hgl
    walk_at "go"
    refine Rd.tupL (SqL.of hgl) fun t ht => ?_
    exact k t _ (e.trans (Ext.upd ht)) (ext_none e ht) upd_same
/-! ### goals drawn -/
def sp_goals : Sp := fun vs H Q _ => ∃ p : Addr, vs = [.ref p] ∧ Pl p H ∧ ∀ (n : Nat) H', (n : Int) < 10 ^ 29 → Lt p H H' → Q (.int n) H'
theorem ok_goals (T : Tx K mg) : FnR P w K mg base (L2.CX P w) 2 (a_law_goals K) sp_goals := by
  refine fnr T.d_law_goals sc_law_goals (fun _ _ _ _ _ _ us hl => match us, hl with | [_], _ => rfl) (fun vs H Q E h => ?_) (fun cdv A outer s H vs Q E hr h => ?_)
  · obtain ⟨p, rfl, _⟩ := h
    rfl
  · obtain ⟨p, rfl, pl, k⟩ := h
    refine ⟨_, (pss_cons (ps_if (pt_cmpR op_eq (pe_cr (ok_take T) (hr.mono (by decide)) (kp_of T.d_law_take) (by rfl) T.g_law_take (pa_cons (pv 0) (pa_cons pe_int pa_nil))) pe_int (nomark _)) (pss_one (ps_ret (pe_cr (ok_take T) (hr.mono (by decide)) (kp_of T.d_law_take) (by rfl) T.g_law_take (pa_cons (pv 0) (pa_cons (pe_op op_pow pe_int pe_int) pa_nil))))) pss_nil) (pss_one (ps_ret (pe_cr (ok_take T) (hr.mono (by decide)) (kp_of T.d_law_take) (by rfl) T.g_law_take (pa_cons (pv 0) (pa_cons pe_int pa_nil)))))), ?_⟩
    walk_at "go"
    refine draw pl fun r H1 hr1 l1 => ?_
    walk_at "go"
    refine Rd.ited (fun c => ?_) (fun c => ?_)
    · walk_at "go"
      obtain ⟨m, hm⟩ : ∃ m : Int, (10 : Int) ^ (29 : Int).toNat = m := ⟨_, rfl⟩
      have hm1 : m = 10 ^ 29 := hm.symm
      rw [hm]
      refine draw l1.pl (fun r2 H2 hr2 l2 => ?_) (by rw [hm1]; decide) (by rw [hm1]; decide)
      exact k r2 H2 (by rw [← hm1]; exact hr2) (l1.trans l2)
    · walk_at "go"
      refine draw l1.pl fun r2 H2 hr2 l2 => ?_
      exact k r2 H2 (Int.lt_trans hr2 (by decide)) (l1.trans l2)
end
end Lv

set_option Elab.async false
set_option linter.all false
set_option maxRecDepth 100000
set_option maxHeartbeats 0
set_option pp.maxSteps 3000
/-! k24: the law's sum and its parts of a value. -/
namespace Lv
open PySem PySem.Spec PyProof.Rows L2 OwX Rs
local macro_rules | `(tactic| walk_at "side") => `(tactic| first
  | exact (show CMul _ _ from .inl ⟨by decide, by decide⟩) | exact (show CMul _ _ from .inr ⟨by decide, by decide⟩) | exact (show CMul _ _ from .inl ⟨by omega, by omega⟩) | exact (show CMul _ _ from .inr ⟨by omega, by omega⟩)
  | exact (show CPow _ _ from ⟨by decide, by decide, by decide⟩)
  | exact (show CDiv _ _ from ⟨by decide, by decide⟩) | exact (show CDiv _ _ from ⟨by omega, by omega⟩)
  | exact (show (0 : Int) < _ by decide) | exact (show (0 : Int) < _ by omega) | exact (show ¬ (_ : Int) = 0 by decide) | exact (show ¬ (_ : Int) = 0 by omega) | assumption)
local macro_rules | `(tactic| walk_at "hp") => `(tactic| first
  | assumption | exact upd_same
  | (refine' SqL.of ?h1; (case h1 => walk_at "hp")) | (refine' SqT.of ?h1; (case h1 => walk_at "hp"))
  | (refine' Rd.new_app ?h1 ?h2; (case h1 => assumption); (case h2 => walk_at "hp"))
  | (refine' Rd.upd_app ?h1 ?h2; (case h1 => first | assumption | exact Ne.symm (by assumption)); (case h2 => walk_at "hp"))
  | (refine' Rd.ext_app ?h1 ?h2; (case h1 => assumption); (case h2 => walk_at "hp"))
  | (refine' Rd.ext_L ?h1 ?h2; (case h1 => assumption); (case h2 => walk_at "hp"))
  | (refine' Rd.ext_T ?h1 ?h2; (case h1 => assumption); (case h2 => walk_at "hp")))
local macro_rules | `(tactic| walk_at "go") => `(tactic| repeat (first
  | with_reducible refine Rd.con ?_
  | ((with_reducible refine' Rd.var ?h1 ?_); (case h1 => rfl))
  | with_reducible refine Rd.op ?_
  | with_reducible refine Rd.un ?_
  | with_reducible refine Rd.i0 ?_
  | with_reducible refine Rd.iu ?_
  | ((with_reducible refine Rd.iC ?h1 ?_); (case h1 => walk_at "side"))
  | with_reducible refine Rd.nil ?_
  | with_reducible refine Rd.cons ?_
  | with_reducible refine Rd.cb ?_
  | with_reducible refine Rd.int1 ?_
  | with_reducible refine Rd.intB ?_
  | with_reducible refine Rd.maxI ?_
  | with_reducible refine Rd.minI ?_
  | with_reducible refine Rd.blx ?_
  | with_reducible refine Rd.tst ?_
  | with_reducible refine Rd.tb_ ?_
  | with_reducible refine Rd.not_ ?_
  | with_reducible refine Rd.and_ ?_
  | with_reducible refine Rd.or_ ?_
  | with_reducible refine Rd.ifx ?_
  | with_reducible refine Rd.chain ?_
  | with_reducible refine Rd.andV ?_
  | with_reducible refine Rd.orV ?_
  | with_reducible refine Rd.notV ?_
  | with_reducible refine Rd.seq ?_
  | with_reducible refine Rd.asg ?_
  | with_reducible refine Rd.name ?_
  | with_reducible refine Rd.ret ?_
  | with_reducible refine Rd.ifS ?_
  | with_reducible refine Rd.next ?_
  | with_reducible refine Rd.drop ?_
  | with_reducible refine Rd.gsub ?_
  | with_reducible refine Rd.cr ?_
  | with_reducible refine Rd.crX ?_
  | with_reducible refine Rd.ixOS ?_
  | ((with_reducible refine' Rd.xfv ?h1 ?h2 ?h3 ?_); (case h1 => walk_at "hp"); (case h2 => rfl); (case h3 => rfl))
  | ((with_reducible refine' Rd.bmLv ?h1 ?h2 ?_); (case h1 => rfl); (case h2 => walk_at "hp"))
  | ((with_reducible refine' Rd.countL ?h1 ?_); (case h1 => walk_at "hp"))
  | ((with_reducible refine' Rd.sumL ?h1 ?_); (case h1 => walk_at "hp"))
  | ((with_reducible refine' Rd.listL ?h1 ?_); (case h1 => walk_at "hp"))
  | ((with_reducible refine' Rd.listT ?h1 ?_); (case h1 => walk_at "hp"))
  | with_reducible refine Rd.isNn ?_
  | with_reducible refine Rd.isNr ?_
  | with_reducible refine Rd.notNn ?_
  | with_reducible refine Rd.notNr ?_
  | with_reducible refine Rd.isB ?_
  | with_reducible refine Rd.notBtt ?_
  | with_reducible refine Rd.notBff ?_
  | with_reducible refine Rd.notBtf ?_
  | with_reducible refine Rd.notBft ?_
  | with_reducible refine Rd.notB ?_
  | with_reducible refine Rd.smeth ?_
  | with_reducible refine Rd.sl ?_
  | with_reducible refine Rd.po0 ?_
  | with_reducible refine Rd.poI ?_
  | with_reducible refine Rd.ixi ?_
  | with_reducible refine Rd.par ?_
  | with_reducible refine Rd.par3 ?_
  | with_reducible refine Rd.par33 ?_
  | ((with_reducible refine' Rd.aug ?h1 ?_); (case h1 => rfl))
  | with_reducible refine Rd.ipi ?_
  | with_reducible refine Rd.lstRg ?_
  | with_reducible refine Rd.cont ?_
  | with_reducible refine Rd.rg1 ?_
  | with_reducible refine Rd.par2 ?_
  | with_reducible refine Rd.mkRS ?_
  | with_reducible refine Rd.callRS ?_
  | with_reducible refine Rd.mk ?_
  | with_reducible refine Rd.mkX ?_
  | with_reducible refine Rd.sF ?_
  | with_reducible refine Rd.dIn ?_
  | with_reducible refine Rd.dNi ?_
  | with_reducible refine Rd.dctL ?_
  | with_reducible refine Rd.dctT ?_
  | with_reducible refine Rd.forE ?_
  | with_reducible refine Rd.lc2T ?_
  | with_reducible refine Rd.lc2L ?_
  | with_reducible refine Rd.lc2R ?_
  | with_reducible refine Rd.inR2 ?_
  | with_reducible refine Rd.inR1 ?_
  | with_reducible refine Rd.inT ?_
  | with_reducible refine Rd.inL ?_
  | with_reducible refine Rd.lcT ?_
  | with_reducible refine Rd.lcL ?_
  | with_reducible refine Rd.lcR ?_
  | with_reducible refine Rd.forT ?_
  | with_reducible refine Rd.forL ?_
  | with_reducible refine Rd.forR ?_
  | with_reducible refine Rd.yes ?_
  | with_reducible refine iteT ?_
  | with_reducible refine iteF ?_
  | with_reducible refine Rd.iteNT ?_
  | with_reducible refine Rd.iteNF ?_
  | with_reducible refine Rd.tup ?_
  | with_reducible refine Rd.lst ?_
  | ((with_reducible refine Rd.eqs ?h1 ?_); (case h1 => rfl))
  | ((with_reducible refine Rd.nes ?h1 ?_); (case h1 => rfl))
  | ((with_reducible refine' Rd.ixL ?h1 ?h2 ?_); (case h1 => walk_at "hp"); (case h2 => first | rfl | assumption))
  | ((with_reducible refine' Rd.ixT ?h1 ?h2 ?_); (case h1 => walk_at "hp"); (case h2 => first | rfl | assumption))
  | ((with_reducible refine' Rd.lenL ?h1 ?_); (case h1 => walk_at "hp"))
  | ((with_reducible refine' Rd.lenT ?h1 ?_); (case h1 => walk_at "hp"))
  | ((with_reducible refine' Rd.setL ?h1 ?h2 ?_); (case h1 => walk_at "hp"); (case h2 => first | rfl | assumption))))
theorem dec_s {a b : Str} : decide (V.str a = V.str b) = decide (a = b) := decide_eq_decide.mpr ⟨V.str.inj, fun h => by rw [h]⟩
theorem dec_i {a b : Int} : decide (V.int a = V.int b) = decide (a = b) := decide_eq_decide.mpr ⟨V.int.inj, fun h => by rw [h]⟩
theorem two_ne {p : Pr} {m : Int} (h : twoF p m = true) : p.1 ≠ p.2 := by
  unfold twoF at h
  simp only [Bool.and_eq_true, decide_eq_true_eq] at h
  exact h.2
def ib (b : Bool) : Int := if b = true then 1 else 0
def ownF (what : Str) (team : Int) (p : Pr) : Int := ib (!decide (what = "away") || decide (team = p.2))
def otherF (what : Str) : Int := -ib (decide (what = "margin"))
theorem parts_one {what : Str} {team : Int} {p : Pr} (wm : what ∈ whats) (ne : p.1 ≠ p.2) (pl : playsF p team = true) : goalF what (decide (p.1 = team)) = if team = p.1 then (ownF what team p, otherF what) else (otherF what, ownF what team p) := by
  unfold playsF at pl
  rw [List.contains_iff_mem] at pl
  simp only [List.mem_cons, List.not_mem_nil, or_false] at pl
  have w3 : what = "margin" ∨ what = "scored" ∨ what = "away" := by simpa [whats] using wm
  unfold ownF
  by_cases h : team = p.1
  · rw [if_pos h, decide_eq_true h.symm, show decide (team = p.2) = false from decide_eq_false fun z => ne (h.symm.trans z)]
    rcases w3 with rfl | rfl | rfl <;> decide +kernel
  · have h2 : team = p.2 := pl.resolve_left h
    rw [if_neg h, show decide (p.1 = team) = false from decide_eq_false fun z => h z.symm, decide_eq_true h2]
    rcases w3 with rfl | rfl | rfl <;> decide +kernel
theorem at_int {xs : List Int} {i : Nat} {x : Int} (h : xs[i]? = some x) : atI (xs.map V.int) (i : Int) = some (V.int x) := Rd.nat_at rfl (by rw [List.getElem?_map, h]; rfl)
theorem dot_range {xs ys : List Int} (h : xs.length = ys.length) : ((List.range xs.length).map fun i => (xs[i]?).getD 0 * (ys[i]?).getD 0) = List.zipWith (fun p q => p * q) xs ys := by
  apply List.ext_getElem?
  intro i
  rw [List.getElem?_map, List.getElem?_zipWith]
  by_cases hi : i < xs.length
  · have h2 : i < ys.length := by omega
    rw [List.getElem?_range hi, List.getElem?_eq_getElem hi, List.getElem?_eq_getElem h2, Option.map_some]
    simp only [Option.getD_some, List.getElem?_eq_getElem hi, List.getElem?_eq_getElem h2]
  · rw [List.getElem?_eq_none (by rw [List.length_range]; omega), List.getElem?_eq_none (l := xs) (by omega)]
    rfl
section
variable {base : Heap} {P : Program} {w : World} {mg : Str → Option Value} {K : PySem.W.Frag}
def sp_total : Sp := fun vs H Q _ => ∃ (a b : Addr) (xs ys : List Int), vs = [.ref a, .ref b] ∧ H a = some (.lst (xs.map V.int)) ∧ H b = some (.lst (ys.map V.int)) ∧ xs.length = ys.length ∧ xs.length ≤ 1000 ∧ (∀ x ∈ xs, -(2 ^ 64) < x ∧ x < 2 ^ 64) ∧ ∀ H', Ext H H' → Q (.int (dot xs ys)) H'
theorem ok_total (T : Tx K mg) : FnR P w K mg base (L2.CX P w) 2 (a_law_total K) sp_total := by
  refine fnr T.d_law_total sc_law_total (fun _ _ _ _ _ _ us hl => match us, hl with | [_, _], _ => rfl) (fun vs H Q E h => ?_) (fun cdv A outer s H vs Q E hr h => ?_)
  · obtain ⟨a, b, xs, ys, rfl, _⟩ := h
    rfl
  · obtain ⟨a, b, xs, ys, rfl, ha, hb, hl, len, bx, k⟩ := h
    refine ⟨_, (pss_one (ps_ret (pe_callB (GW.sum (K := K) rfl) (by rfl) T.f_sum Rd.bt_sum (pa_cons (pe_lc (own := [("at", 2)]) rfl sc_law_total.nd (pi_range1 (by rfl) T.f_range (pa_cons (pe_callB (Rd.c_len (K := K)) (by rfl) T.f_len Rd.bt_len (pa_cons (pv 0) pa_nil)) pa_nil)) (blkOk_by (own := [("at", 2)]) (N := N_law_total) (sc := defScope s_law_total) (by decide +kernel)) (fun _ _ _ _ _ => (gx 2 sc_law_total.nd)) (fun _ _ _ _ _ => pts_nil) (fun _ _ _ _ _ => (pe_op op_mul (pe_ix (GW.ixL (K := K)) (pv 0) (pv 2) (fun _ _ => rfl)) (pe_ix (GW.ixL (K := K)) (pv 1) (pv 2) (fun _ _ => rfl))))) pa_nil)))), ?_⟩
    walk_at "go"
    rw [List.length_map]
    refine ⟨_, rfl, by omega, by omega, fun D hD => ?_⟩
    rw [Int.toNat_natCast]
    refine Rd.lcE (emb := fun j : Nat => V.int j) Rd.walk_rangeN Rd.yrng (by rw [List.length_range]; omega) (fun _ => true) (fun j y _ => y = .int ((xs[j]?).getD 0 * (ys[j]?).getD 0)) (fun _ _ _ _ _ h => h) hD (fun H' e => trivial) ?_ ?_
    · intro j it H' acc hj e hacc Qy Qn ky kn
      have hit : it < xs.length := List.mem_range.mp (List.mem_of_getElem? hj)
      have ha := e _ _ ha
      have hb := e _ _ hb
      have hx := List.getElem?_eq_getElem hit
      have hy := List.getElem?_eq_getElem (show it < ys.length by omega)
      have b1 := bx xs[it] (List.getElem_mem hit)
      generalize xs[it] = x at hx b1
      generalize ys[it] = y at hy
      have atx := at_int hx
      have aty := at_int hy
      walk_at "go"
      refine ⟨rfl, ?_⟩
      walk_at "go"
      refine ky _ _ Rd.ext_rfl rfl ?_
      rw [hx, hy]
      rfl
    intro zs H1 e1 hzs pr
    rw [List.filter_eq_self.mpr (fun _ _ => rfl)] at pr
    have ez := Rd.paired_map (f := fun j : Nat => V.int ((xs[j]?).getD 0 * (ys[j]?).getD 0)) pr
    have ez : zs = (List.zipWith (fun p q => p * q) xs ys).map V.int := by
      rw [ez, ← dot_range hl, List.map_map]
      rfl
    rw [ez] at hzs
    walk_at "go"
    exact k H1 e1
/-! ### the parts due -/
def sp_parts : Sp := fun vs H Q _ => ∃ (l : Addr) (n : Int) (ps : List Pr) (what : Str) (team : Int) (b : V) (o : Option (List Int)), vs = [.ref l, .str what, .int team, b] ∧ PL H l ps ∧ ps.length ≤ 1000 ∧ (∀ p ∈ ps, twoF p n = true) ∧ what ∈ whats ∧ BsAt H b o ∧
  ∀ t H', Ext H H' → H' t = some (.lst ((partsF ps what team o).map V.int)) → Q (.ref t) H'
theorem ok_value_parts (T : Tx K mg) : FnR P w K mg base (L2.CX P w) 3 (a_law_value_parts K) sp_parts := by
  refine fnr T.d_law_value_parts sc_law_value_parts (fun _ _ _ _ _ _ us hl => match us, hl with | [_, _, _, _], _ => rfl) (fun vs H Q E h => ?_) (fun cdv A outer s H vs Q E hr h => ?_)
  · obtain ⟨l, n, ps, what, team, b, o, rfl, _⟩ := h
    rfl
  · obtain ⟨l, n, ps, what, team, b, o, rfl, ⟨ys, hys, pr⟩, len, two, wm, hb, k⟩ := h
    refine ⟨_, (pss_cons (sx 4 sc_law_value_parts.nd (pe_lst pa_nil)) (pss_cons (ps_for (passes_of rfl) rfl (GW.pi_list (K := K) (pv 0)) (GW.tup (K := K) (n := 2) rfl (pgs_cons (gx 5 sc_law_value_parts.nd) (pgs_cons (gx 6 sc_law_value_parts.nd) pgs_nil))) (C8.pss_cut (sx 7 sc_law_value_parts.nd (pe_and (pe_cmpR (GW.inS (K := K)) (pv 2) (pe_tup (pa_cons (pv 5) (pa_cons (pv 6) pa_nil))) rfl) (pe_one (pe_or (pe_cmpR GW.isN (pv 3) pe_non (nomark _)) (pe_one (pe_and (pe_cmpR (GW.inS (K := K)) (pv 5) (pv 3) rfl) (pe_one (pe_cmpR (GW.inS (K := K)) (pv 6) (pv 3) rfl)))))))) (C8.pss_cut (ps_par (i := 8) (j := 9) rfl sc_law_value_parts.nd rfl rfl (by decide) rfl rfl (pa_cons (pe_callTy Rd.c_int (by rfl) T.f_int Rd.bt_int (pa_cons (pe_or (pe_cmpR op_ne (pv 1) pe_str (nomark _)) (pe_one (pe_cmpR op_eq (pv 2) (pv 6) (nomark _)))) pa_nil)) (pa_cons (pe_un un_neg (pe_callTy Rd.c_int (by rfl) T.f_int Rd.bt_int (pa_cons (pe_cmpR op_eq (pv 1) pe_str (nomark _)) pa_nil))) pa_nil)) rfl) (pss_cons (sx 10 sc_law_value_parts.nd (pe_ifExp (pt_cmpR op_eq (pv 2) (pv 5) (nomark _)) (pe_tup (pa_cons (pv 8) (pa_cons (pv 9) pa_nil))) (pe_tup (pa_cons (pv 9) (pa_cons (pv 8) pa_nil))))) (pss_one (sx 4 sc_law_value_parts.nd (pe_op op_cat (pv 4) (pe_ifExp (pt_val (pv 7)) (pe_callTy (Rd.c_list (K := K)) (by rfl) T.f_list Rd.bt_list (pa_cons (pv 10) pa_nil)) (pe_lst (pa_cons pe_int (pa_cons pe_int pa_nil))))))))))) (pss_one (ps_ret (pv 4))))), ?_⟩
    walk_at "go"
    refine ⟨Rd.szr rfl, fun g hg => ?_⟩
    walk_at "go"
    refine ⟨l, rfl, ⟨_, SqL.of (Rd.new_app hg hys)⟩, ?_⟩
    refine for_list (xs := ys) (fun i σ H' => ∃ g v5 v6 v7 v8 v9 v10, σ = [some (.ref l), some (.str what), some (.int team), some b, some (.ref g), v5, v6, v7, v8, v9, v10] ∧ Ext H H' ∧ H' g = some (.lst ((partsF (ps.take i) what team o).map V.int))) ⟨_, _, _, _, _, _, _, rfl, Ext.upd hg, upd_same⟩ ?_ ?_ ?_
    · rintro i σ H' _ ⟨_, _, _, _, _, _, _, _, e, _⟩
      exact SqL.of (e _ _ hys)
    · rintro i y σ H' hy ⟨g, v5, v6, v7, v8, v9, v10, rfl, e, hgl⟩
      obtain ⟨p, hpi, hpy⟩ := Rd.paired_back pr hy
      have tw := two_ne (two p (List.mem_of_getElem? hpi))
      refine un2 (hpy.ext e) ?_
      have hb1 := hb.ext e
      refine ⟨fun σ H2 => σ = [some (.ref l), some (.str what), some (.int team), some b, some (.ref g), some (.int p.1), some (.int p.2), some (.bl (playsF p team && scopeF p o)), v8, v9, v10] ∧ Ext H' H2, ?_, ?_⟩
      · walk_at "go"
        refine ⟨Rd.szr rfl, fun t ht => ?_⟩
        refine Rd.inI (ns := [p.1, p.2]) (.inl upd_same) ?_
        have e2 := Ext.upd (o := .tup [V.int p.1, V.int p.2]) ht
        have hb2 := hb1.ext e2
        generalize upd H' t (.tup [V.int p.1, V.int p.2]) = H2 at e2 hb2 ⊢
        refine ⟨_, rfl, ?_⟩
        change if playsF p team = true then _ else _
        cases c1 : playsF p team with
        | false =>
          walk_at "go"
          exact ⟨rfl, e2⟩
        | true =>
          cases o with
          | none =>
            cases hb2
            walk_at "go"
            exact ⟨rfl, e2⟩
          | some ls =>
            obtain ⟨u, rfl, hu⟩ := hb2
            walk_at "go"
            refine Rd.inI (.inl hu) ?_
            walk_at "go"
            cases c2 : ls.contains p.1 with
            | false =>
              walk_at "go"
              refine ⟨?_, e2⟩
              simp only [scopeF, c2, Bool.false_and, Bool.and_false]
              rfl
            | true =>
              walk_at "go"
              refine Rd.inI (.inl hu) ?_
              walk_at "go"
              refine ⟨?_, e2⟩
              simp only [scopeF, c2, Bool.true_and]
              rfl
      rintro σ H2 ⟨rfl, e2⟩
      have e := e.trans e2
      have hgl := e2 _ _ hgl
      clear e2 hb1
      refine ⟨fun σ H3 => σ = [some (.ref l), some (.str what), some (.int team), some b, some (.ref g), some (.int p.1), some (.int p.2), some (.bl (playsF p team && scopeF p o)), some (.int (ownF what team p)), some (.int (otherF what)), v10] ∧ H3 = H2, ?_, ?_⟩
      · walk_at "go"
        rw [dec_s]
        cases c1 : decide (what = Str.ofString "away") with
        | false =>
          walk_at "go"
          rw [dec_s]
          refine ⟨?_, rfl⟩
          unfold ownF otherF ib
          rw [show decide (what = "away") = false from c1]
          rfl
        | true =>
          walk_at "go"
          rw [dec_s, dec_i]
          refine ⟨?_, rfl⟩
          unfold ownF otherF ib
          rw [show decide (what = "away") = true from c1]
          rfl
      rintro σ H3 ⟨rfl, rfl⟩
      have il : i < ps.length := (List.getElem?_eq_some_iff.mp hpi).1
      have fl : (partsF (ps.take i) what team o).length ≤ 2000 := by rw [partsF_len, List.length_take]; omega
      have es : partsF (ps.take (i + 1)) what team o = partsF (ps.take i) what team o ++ oneF what team o p := by
        unfold partsF
        rw [List.take_succ, hpi, List.flatMap_append]
        simp
      -- the two factors as they are put behind one another
      have fin : ∀ {H4 : Hp} {g2 : Addr} (zs : List Int), Ext H3 H4 → H4 g2 = some (.lst ((partsF (ps.take i) what team o).map V.int ++ zs.map V.int)) → zs = oneF what team o p → ∀ {v5 v6 v7 v8 v9 v10 : Option V}, ∃ g w5 w6 w7 w8 w9 w10, [some (.ref l), some (.str what), some (.int team), some b, some (.ref g2), v5, v6, v7, v8, v9, v10] = [some (.ref l), some (.str what), some (.int team), some b, some (.ref g), w5, w6, w7, w8, w9, w10] ∧ Ext H H4 ∧ H4 g = some (.lst ((partsF (ps.take (i + 1)) what team o).map V.int)) :=
        fun {H4 g2} zs e4 h4 ez {_ _ _ _ _ _} => ⟨g2, _, _, _, _, _, _, rfl, e.trans e4, by rw [h4, es, ez, List.map_append]⟩
      walk_at "go"
      rw [dec_i]
      refine Rd.ited (fun h => ?_) (fun h => ?_)
      · walk_at "go"
        refine ⟨Rd.szr rfl, fun t ht => ?_⟩
        have hgl4 := Rd.new_app (u := .tup [.int (ownF what team p), .int (otherF what)]) ht hgl
        have htt : (upd H3 t (.tup [.int (ownF what team p), .int (otherF what)])) t = some (.tup [.int (ownF what team p), .int (otherF what)]) := upd_same
        have e4 : Ext H3 (upd H3 t (.tup [.int (ownF what team p), .int (otherF what)])) := Ext.upd ht
        generalize upd H3 t (.tup [.int (ownF what team p), .int (otherF what)]) = H4 at hgl4 htt e4 ⊢
        walk_at "go"
        cases c : playsF p team && scopeF p o with
        | false =>
          walk_at "go"
          refine ⟨Rd.szr rfl, fun l2 hl2 => ?_⟩
          refine Rd.catL (Rd.new_app hl2 hgl4) upd_same (Rd.sz (by rw [List.length_map]; simp; omega)) fun r hr => ?_
          exact fin [0, 0] ((e4.trans (Ext.upd hl2)).trans (Ext.upd hr)) upd_same (by unfold oneF; rw [c]; rfl)
        | true =>
          walk_at "go"
          intro l2 hl2
          refine Rd.catL (Rd.new_app hl2 hgl4) upd_same (Rd.sz (by rw [List.length_map]; simp; omega)) fun r hr => ?_
          refine fin [ownF what team p, otherF what] ((e4.trans (Ext.upd hl2)).trans (Ext.upd hr)) upd_same ?_
          unfold oneF
          rw [c, if_pos rfl, parts_one wm tw (by rw [Bool.and_eq_true] at c; exact c.1), if_pos h]
      · walk_at "go"
        refine ⟨Rd.szr rfl, fun t ht => ?_⟩
        have hgl4 := Rd.new_app (u := .tup [.int (otherF what), .int (ownF what team p)]) ht hgl
        have htt : (upd H3 t (.tup [.int (otherF what), .int (ownF what team p)])) t = some (.tup [.int (otherF what), .int (ownF what team p)]) := upd_same
        have e4 : Ext H3 (upd H3 t (.tup [.int (otherF what), .int (ownF what team p)])) := Ext.upd ht
        generalize upd H3 t (.tup [.int (otherF what), .int (ownF what team p)]) = H4 at hgl4 htt e4 ⊢
        walk_at "go"
        cases c : playsF p team && scopeF p o with
        | false =>
          walk_at "go"
          refine ⟨Rd.szr rfl, fun l2 hl2 => ?_⟩
          refine Rd.catL (Rd.new_app hl2 hgl4) upd_same (Rd.sz (by rw [List.length_map]; simp; omega)) fun r hr => ?_
          exact fin [0, 0] ((e4.trans (Ext.upd hl2)).trans (Ext.upd hr)) upd_same (by unfold oneF; rw [c]; rfl)
        | true =>
          walk_at "go"
          intro l2 hl2
          refine Rd.catL (Rd.new_app hl2 hgl4) upd_same (Rd.sz (by rw [List.length_map]; simp; omega)) fun r hr => ?_
          refine fin [otherF what, ownF what team p] ((e4.trans (Ext.upd hl2)).trans (Ext.upd hr)) upd_same ?_
          unfold oneF
          rw [c, if_pos rfl, parts_one wm tw (by rw [Bool.and_eq_true] at c; exact c.1), if_neg h]
    rintro σ H2 ⟨g, v5, v6, v7, v8, v9, v10, rfl, e, hgl⟩
    rw [← Rd.paired_len pr, List.take_length] at hgl
    walk_at "go"
    exact k g H2 e hgl
end
end Lv

set_option Elab.async false
set_option linter.all false
set_option maxRecDepth 100000
set_option maxHeartbeats 0
set_option pp.maxSteps 2500
/-! k24: what is told, what is refused. -/
namespace Lv
open PySem PySem.Spec PyProof.Rows L2 OwX Rs
open LamX (Tabs ExtN CodeO TabB)
local macro_rules | `(tactic| walk_at "side") => `(tactic| first
  | exact (show CMul _ _ from .inl ⟨by decide, by decide⟩) | exact (show CMul _ _ from .inr ⟨by decide, by decide⟩) | exact (show CMul _ _ from .inl ⟨by omega, by omega⟩) | exact (show CMul _ _ from .inr ⟨by omega, by omega⟩)
  | exact (show CPow _ _ from ⟨by decide, by decide, by decide⟩)
  | exact (show CDiv _ _ from ⟨by decide, by decide⟩) | exact (show CDiv _ _ from ⟨by omega, by omega⟩)
  | exact (show (0 : Int) < _ by decide) | exact (show (0 : Int) < _ by omega) | exact (show ¬ (_ : Int) = 0 by decide) | exact (show ¬ (_ : Int) = 0 by omega) | assumption)
local macro_rules | `(tactic| walk_at "hp") => `(tactic| first
  | assumption | exact upd_same
  | (refine' SqL.of ?h1; (case h1 => walk_at "hp")) | (refine' SqT.of ?h1; (case h1 => walk_at "hp"))
  | (refine' Rd.new_app ?h1 ?h2; (case h1 => assumption); (case h2 => walk_at "hp"))
  | (refine' Rd.upd_app ?h1 ?h2; (case h1 => first | assumption | exact Ne.symm (by assumption)); (case h2 => walk_at "hp"))
  | (refine' Rd.ext_app ?h1 ?h2; (case h1 => assumption); (case h2 => walk_at "hp"))
  | (refine' Rd.ext_L ?h1 ?h2; (case h1 => assumption); (case h2 => walk_at "hp"))
  | (refine' Rd.ext_T ?h1 ?h2; (case h1 => assumption); (case h2 => walk_at "hp")))
local macro_rules | `(tactic| walk_at "go") => `(tactic| repeat (first
  | with_reducible refine Rd.con ?_
  | ((with_reducible refine' Rd.var ?h1 ?_); (case h1 => rfl))
  | with_reducible refine Rd.op ?_
  | with_reducible refine Rd.un ?_
  | with_reducible refine Rd.i0 ?_
  | with_reducible refine Rd.iu ?_
  | ((with_reducible refine Rd.iC ?h1 ?_); (case h1 => walk_at "side"))
  | with_reducible refine Rd.nil ?_
  | with_reducible refine Rd.cons ?_
  | with_reducible refine Rd.cb ?_
  | with_reducible refine Rd.int1 ?_
  | with_reducible refine Rd.intB ?_
  | with_reducible refine Rd.maxI ?_
  | with_reducible refine Rd.minI ?_
  | with_reducible refine Rd.blx ?_
  | with_reducible refine Rd.tst ?_
  | with_reducible refine Rd.tb_ ?_
  | with_reducible refine Rd.not_ ?_
  | with_reducible refine Rd.and_ ?_
  | with_reducible refine Rd.or_ ?_
  | with_reducible refine Rd.ifx ?_
  | with_reducible refine Rd.chain ?_
  | with_reducible refine Rd.andV ?_
  | with_reducible refine Rd.orV ?_
  | with_reducible refine Rd.notV ?_
  | with_reducible refine Rd.seq ?_
  | with_reducible refine Rd.asg ?_
  | with_reducible refine Rd.name ?_
  | with_reducible refine Rd.ret ?_
  | with_reducible refine Rd.ifS ?_
  | with_reducible refine Rd.next ?_
  | with_reducible refine Rd.drop ?_
  | with_reducible refine Rd.gsub ?_
  | with_reducible refine Rd.cr ?_
  | with_reducible refine Rd.crX ?_
  | with_reducible refine Rd.ixOS ?_
  | ((with_reducible refine' Rd.xfv ?h1 ?h2 ?h3 ?_); (case h1 => walk_at "hp"); (case h2 => rfl); (case h3 => rfl))
  | ((with_reducible refine' Rd.bmLv ?h1 ?h2 ?_); (case h1 => rfl); (case h2 => walk_at "hp"))
  | ((with_reducible refine' Rd.countL ?h1 ?_); (case h1 => walk_at "hp"))
  | ((with_reducible refine' Rd.sumL ?h1 ?_); (case h1 => walk_at "hp"))
  | ((with_reducible refine' Rd.listL ?h1 ?_); (case h1 => walk_at "hp"))
  | ((with_reducible refine' Rd.listT ?h1 ?_); (case h1 => walk_at "hp"))
  | with_reducible refine Rd.isNn ?_
  | with_reducible refine Rd.isNr ?_
  | with_reducible refine Rd.notNn ?_
  | with_reducible refine Rd.notNr ?_
  | with_reducible refine Rd.isB ?_
  | with_reducible refine Rd.notBtt ?_
  | with_reducible refine Rd.notBff ?_
  | with_reducible refine Rd.notBtf ?_
  | with_reducible refine Rd.notBft ?_
  | with_reducible refine Rd.notB ?_
  | with_reducible refine Rd.smeth ?_
  | with_reducible refine Rd.sl ?_
  | with_reducible refine Rd.po0 ?_
  | with_reducible refine Rd.poI ?_
  | with_reducible refine Rd.ixi ?_
  | with_reducible refine Rd.par ?_
  | with_reducible refine Rd.par3 ?_
  | with_reducible refine Rd.par33 ?_
  | ((with_reducible refine' Rd.aug ?h1 ?_); (case h1 => rfl))
  | with_reducible refine Rd.ipi ?_
  | with_reducible refine Rd.lstRg ?_
  | with_reducible refine Rd.cont ?_
  | with_reducible refine Rd.rg1 ?_
  | with_reducible refine Rd.par2 ?_
  | with_reducible refine Rd.mkRS ?_
  | with_reducible refine Rd.callRS ?_
  | with_reducible refine Rd.mk ?_
  | with_reducible refine Rd.mkX ?_
  | with_reducible refine Rd.sF ?_
  | with_reducible refine Rd.dIn ?_
  | with_reducible refine Rd.dNi ?_
  | with_reducible refine Rd.dctL ?_
  | with_reducible refine Rd.dctT ?_
  | with_reducible refine Rd.forE ?_
  | with_reducible refine Rd.lc2T ?_
  | with_reducible refine Rd.lc2L ?_
  | with_reducible refine Rd.lc2R ?_
  | with_reducible refine Rd.inR2 ?_
  | with_reducible refine Rd.inR1 ?_
  | with_reducible refine Rd.inT ?_
  | with_reducible refine Rd.inL ?_
  | with_reducible refine Rd.lcT ?_
  | with_reducible refine Rd.lcL ?_
  | with_reducible refine Rd.lcR ?_
  | with_reducible refine Rd.forT ?_
  | with_reducible refine Rd.forL ?_
  | with_reducible refine Rd.forR ?_
  | with_reducible refine Rd.yes ?_
  | with_reducible refine iteT ?_
  | with_reducible refine iteF ?_
  | with_reducible refine Rd.iteNT ?_
  | with_reducible refine Rd.iteNF ?_
  | with_reducible refine Rd.tup ?_
  | with_reducible refine Rd.lst ?_
  | ((with_reducible refine Rd.eqs ?h1 ?_); (case h1 => rfl))
  | ((with_reducible refine Rd.nes ?h1 ?_); (case h1 => rfl))
  | ((with_reducible refine' Rd.ixL ?h1 ?h2 ?_); (case h1 => walk_at "hp"); (case h2 => first | rfl | assumption))
  | ((with_reducible refine' Rd.ixT ?h1 ?h2 ?_); (case h1 => walk_at "hp"); (case h2 => first | rfl | assumption))
  | ((with_reducible refine' Rd.lenL ?h1 ?_); (case h1 => walk_at "hp"))
  | ((with_reducible refine' Rd.lenT ?h1 ?_); (case h1 => walk_at "hp"))
  | ((with_reducible refine' Rd.setL ?h1 ?h2 ?_); (case h1 => walk_at "hp"); (case h2 => first | rfl | assumption))))
def encW (n : Str) : Unit → PyData := fun _ => .list [.str "what", .str n, .bool true, .bool false]
theorem encW_ok {n : Str} (hn : PyData.strOk n = true) : Rd.Enc (encW n) 1 := ⟨fun a b => by
  unfold encW
  simp only [PyData.eqv, PyData.eqvAll, Bool.and_true, beq_self_eq_true, Bool.true_and]
  cases a; cases b; rfl, fun a => by
  unfold encW
  rw [PyData.canLay0, PyData.canLayAll0, PyData.canLayAll0, PyData.canLayAll0, PyData.canLayAll0, PyData.canLayAll0, PyData.canLay0, PyData.canLay0, PyData.canLay0, PyData.canLay0, hn]
  decide +kernel, fun a => by simp [encW, PyData.depth, PyData.depthAll]⟩
def encM : Int → PyData := fun n => .list [.str "team", .int n, .bool true, .bool false]
theorem encM_ok : Rd.Enc encM 1 := ⟨fun a b => by
  unfold encM
  simp only [PyData.eqv, PyData.eqvAll, Bool.and_true, beq_self_eq_true, Bool.true_and]
  rw [Bool.eq_iff_iff]
  simp, fun a => by
  unfold encM
  rw [PyData.canLay0, PyData.canLayAll0, PyData.canLayAll0, PyData.canLayAll0, PyData.canLayAll0, PyData.canLayAll0, PyData.canLay0, PyData.canLay0, PyData.canLay0, PyData.canLay0]
  decide +kernel, fun a => by simp [encM, PyData.depth, PyData.depthAll]⟩
/-- the error's class and field -/
def erC (c : Bool) : Str := if c = true then "BadWhat" else "BadTeam"
def erF (c : Bool) : Str := if c = true then "what" else "team"
section
variable {base : Heap} {P : Program} {w : World} {mg : Str → Option Value} {K : PySem.W.Frag}
theorem dp_w {H : Hp} {a : Addr} {n : Str} (h : H a = some (.lst [.str "what", .str n, .bl true, .bl false])) : Dp K H (.ref a) (encW n ()) := .lst (SqL.of h) (.cons (.str _) (.cons (.str _) (.cons (.bl _) (.cons (.bl _) .nil))))
theorem dp_m {H : Hp} {a : Addr} {n : Int} (h : H a = some (.lst [.str "team", .int n, .bl true, .bl false])) : Dp K H (.ref a) (encM n) := .lst (SqL.of h) (.cons (.str _) (.cons (.int _) (.cons (.bl _) (.cons (.bl _) .nil))))
def spTold (K : PySem.W.Frag) : Addr → Sp → Sp := fun f spf vs H Q _ => vs = [.ref f] ∧ ∃ (c : Bool) (v : V), (∀ Q' E', (∀ dd H1, Ext H H1 → H1 dd = some (.xd [(erF c, v)]) → E' (.ref (He.ga K (erC c))) (some dd) H1) → spf [] H Q' E') ∧
  ∀ l H1, Ext H H1 → H1 l = some (.lst [.str (erF c), v, .bl true, .bl false]) → Q (.ref l) H1
theorem ok_told (T : Tx K mg) : LaX.FnG P w K mg base 21 20 (a_law_told K) (spTold K) := by
  refine LaX.fng T.d_law_told sc_law_told (fun _ _ _ _ _ _ us hl => match us, hl with | [_], _ => rfl) (fun f spf vs H Q E h => ?_) (fun cdv A outer s H vs Q E f spf Ff hr h => ?_)
  · obtain ⟨rfl, _⟩ := h
    rfl
  · obtain ⟨rfl, c, v, hf, k⟩ := h
    refine ⟨_, (pss_one (ps_try_cl (i := 1) (Wout := fun _ _ _ _ => False) rfl rfl sc_law_told.nd rfl rfl L2.takes0 (fun W pn xe tk _ => (pss_one (ps_ret (pe_lst (pa_cons pe_str (pa_cons (LaX.pe_callF0 (i := 0) Ff (hr.mono (by decide)) (fun σ => passAt tk σ) rfl (Or.inl rfl)) pa_nil)))))) (ClOk.cons ⟨rfl, by decide, Or.inl T.g_BadWhat⟩ (fun ea oe cls d pn hz hf => (pss_one (ps_ret (pe_lst (pa_cons pe_str (pa_cons (pe_xf T.x_BadWhat.xf T.n_BadWhat_what hz hf (pv 1)) (pa_cons (pe_callB (call_isX T.x_BadWhat hz hf) (by rfl) T.f_isinstance Rd.bt_isinstance (pa_cons (pv 1) (pa_cons (pe_glob (v := .ref (He.ga K "CascadeError")) (by rfl) T.g_CascadeError rfl) pa_nil))) (pa_cons (pe_callB (call_isX T.x_BadWhat hz hf) (by rfl) T.f_isinstance Rd.bt_isinstance (pa_cons (pv 1) (pa_cons (pe_glob (v := .ref (He.ga K "BadTeam")) (by rfl) T.g_BadTeam rfl) pa_nil))) pa_nil)))))))) (ClOk.cons ⟨rfl, by decide, Or.inl T.g_BadTeam⟩ (fun ea oe cls d pn hz hf => (pss_one (ps_ret (pe_lst (pa_cons pe_str (pa_cons (pe_xf T.x_BadTeam.xf T.n_BadTeam_team hz hf (pv 1)) (pa_cons (pe_callB (call_isX T.x_BadTeam hz hf) (by rfl) T.f_isinstance Rd.bt_isinstance (pa_cons (pv 1) (pa_cons (pe_glob (v := .ref (He.ga K "CascadeError")) (by rfl) T.g_CascadeError rfl) pa_nil))) (pa_cons (pe_callB (call_isX T.x_BadTeam hz hf) (by rfl) T.f_isinstance Rd.bt_isinstance (pa_cons (pv 1) (pa_cons (pe_glob (v := .ref (He.ga K "BadWhat")) (by rfl) T.g_BadWhat rfl) pa_nil))) pa_nil)))))))) ClOk.nil)))), ?_⟩
    cases c with
    | true =>
      simp only [erF, erC, if_true] at hf k
      walk_at "go"
      refine ⟨rfl, hf _ _ fun dd H1 e1 hd => ?_⟩
      refine ⟨true, T.ex_BadWhat_BadWhat, fun _ ea hea => ?_, fun z => by cases z⟩
      walk_at "go"
      refine Rd.isX hd (.own _) T.is_BadWhat_CascadeError ?_
      walk_at "go"
      refine Rd.isX hd (.own _) T.is_BadWhat_BadTeam ?_
      walk_at "go"
      exact ⟨Rd.szr rfl, fun l hl => k l _ (e1.trans (Ext.upd hl)) upd_same⟩
    | false =>
      simp only [erF, erC, Bool.false_eq_true, if_false] at hf k
      walk_at "go"
      refine ⟨rfl, hf _ _ fun dd H1 e1 hd => ?_⟩
      refine ⟨false, T.ex_BadTeam_BadWhat, (fun z => by cases z), fun _ => ⟨true, T.ex_BadTeam_BadTeam, fun _ ea hea => ?_, fun z => by cases z⟩⟩
      walk_at "go"
      refine Rd.isX hd (.own _) T.is_BadTeam_CascadeError ?_
      walk_at "go"
      refine Rd.isX hd (.own _) T.is_BadTeam_BadWhat ?_
      walk_at "go"
      exact ⟨Rd.szr rfl, fun l hl => k l _ (e1.trans (Ext.upd hl)) upd_same⟩
/-! ### refused -/
abbrev dRef : He.Defn := ("_law_refused", none)
def tabsT (K : PySem.W.Frag) : Tb := [((He.cT K dRef).2, ("_law_refused" : Str) ++ ".<locals>." ++ "<lambda>")]
theorem tm_law_refused : ((He.cT K dRef).2, ("_law_refused" : Str) ++ ".<locals>." ++ "<lambda>") ∈ tabsT K := List.mem_cons_self
theorem tu_law_refused : ∀ p ∈ tabsT K, p.1 = (He.cT K dRef).2 → p.2 = ("_law_refused" : Str) ++ ".<locals>." ++ "<lambda>" := fun p hp _ => by rw [List.mem_singleton.mp hp]
theorem FixAt.extN {H H' : Hp} {f : Addr} {n : Int} {ps : List Pr} (h : FixAt K H f n ps) (e : ExtN H H') : FixAt K H' f n ps := by
  obtain ⟨dx, q, h1, us, h2, pr⟩ := h
  exact ⟨dx, q, extN_at e h1, us, extN_at e h2, Rd.paired_imp (fun _ _ z => by
    obtain ⟨a, e1, h⟩ := z
    exact ⟨a, e1, extN_at e h⟩) pr⟩
/-- a lambda that is refused, told -/
theorem lamNo (c : Bool) (v : V) {q : Str} {N : List Str} {js : List Nat} {tb : XK → TE} {σ : L2.St} {H : Hp} {Q : VK} (tt : Tabs (tabsT K) H)
    (body : ∀ H1, ExtN H H1 → ∀ (Q' : VK) (E' : XK), (∀ dd H2, Ext H1 H2 → H2 dd = some (.xd [(erF c, v)]) → E' (.ref (He.ga K (erC c))) (some dd) H2) → tb E' (NdefX.startF N [] (js.map (NdefX.slotAt σ))) H1 Q')
    (k : ∀ l H1, ExtN H H1 → Tabs (tabsT K) H1 → H1 l = some (.lst [.str (erF c), v, .bl true, .bl false]) → Q (.ref l) H1) : LaX.tLamG (tabsT K) (spTold K) q 0 N js tb E0 tNil σ H Q :=
  ⟨tt, fun f c' H1 e1 t1 nf hc => ⟨rfl, c, v, fun Q' E' kk => ⟨rfl, hc, body H1 e1 Q' E' kk⟩, fun l H2 e2 hl => k l H2 (e1.trans (ExtN.of e2)) (t1.ext e2) hl⟩⟩
def sp_refused (K : PySem.W.Frag) : Sp := fun vs H Q _ => ∃ (f : Addr) (n : Int) (ps : List Pr) (word : Str) (bad : Int), vs = [.ref f, .int n, .str word, .int bad] ∧ FixAt K H f n ps ∧ ps.length ≤ 1000 ∧ word ∉ whats ∧ PyData.strOk word = true ∧ ¬ (0 ≤ bad ∧ bad < n) ∧
  Tabs (tabsT K) H ∧ ∀ H', ExtN H H' → Tabs (tabsT K) H' → Q (.bl true) H'
theorem ok_refused (T : Tx K mg) (TB : ∀ q ∈ tf, TabB base mg (He.cT K q).1 (He.cT K q).2) : FnR P w K mg base (L2.CX P w) 25 (a_law_refused K) (sp_refused K) := by
  have tb_law_refused := TB dRef (by simp [tf])
  refine LaX.fnrT dRef rfl T.d_law_refused sc_law_refused (fun _ _ _ _ _ _ us hl => match us, hl with | [_, _, _, _], _ => rfl) (fun vs H Q E h => ?_) (fun cdv A outer s H vs Q E hcd hr h => ?_)
  · obtain ⟨f, n, ps, word, bad, rfl, _⟩ := h
    rfl
  · obtain ⟨f, n, ps, word, bad, rfl, F, len, nw, hw, nb, tt, k⟩ := h
    subst hcd
    refine ⟨_, (pss_cons (ps_if (pt_cmpR (GW.neD hr.units (K := K)) (LaX.pe_lam1 (T := tabsT K) (N := ["fixtures", "word"]) (ps := []) (fr := ["fixtures", "word"]) (js := [0, 2]) (ok_told T) (hr.mono (by decide)) (kp_of T.d_law_told) (by rfl) T.g_law_told passL ⟨tb_law_refused, rfl, tm_law_refused, tu_law_refused, NdefX.nscope_by (by decide +kernel), LaX.free_by (sc := defScope s_law_refused) (by decide +kernel), rfl, rfl, fun _ _ _ _ _ us hl => match us, hl with | [], _ => rfl⟩ (fun A outer s H E f c hr => (pe_crX (ok_value_form_d T) (hr.mono (by decide)) (kp_of T.d_value_form) (by rfl) T.g_value_form (LaX.passF rfl rfl rfl rfl) (pa_cons (pv 0) (pa_cons (pv 1) (pa_cons pe_int pa_nil)))))) (pe_lst (pa_cons pe_str (pa_cons (pv 2) (pa_cons pe_bl (pa_cons pe_bl pa_nil))))) (nomark _)) (pss_one (ps_ret pe_bl)) pss_nil) (pss_cons (ps_if (pt_cmpR (GW.neD hr.units (K := K)) (LaX.pe_lam1 (T := tabsT K) (N := ["fixtures", "word", "bad"]) (ps := []) (fr := ["fixtures", "word", "bad"]) (js := [0, 2, 3]) (ok_told T) (hr.mono (by decide)) (kp_of T.d_law_told) (by rfl) T.g_law_told passL ⟨tb_law_refused, rfl, tm_law_refused, tu_law_refused, NdefX.nscope_by (by decide +kernel), LaX.free_by (sc := defScope s_law_refused) (by decide +kernel), rfl, rfl, fun _ _ _ _ _ us hl => match us, hl with | [], _ => rfl⟩ (fun A outer s H E f c hr => (pe_crX (ok_value_form T) (hr.mono (by decide)) (kp_of T.d_value_form) (by rfl) T.g_value_form (LaX.passF rfl rfl rfl rfl) (pa_cons (pv 0) (pa_cons (pv 1) (pa_cons (pv 2) (pa_cons (pe_tup (pa_cons pe_int (pa_cons pe_int pa_nil))) pa_nil))))))) (pe_lst (pa_cons pe_str (pa_cons (pv 2) (pa_cons pe_bl (pa_cons pe_bl pa_nil))))) (nomark _)) (pss_one (ps_ret pe_bl)) pss_nil) (pss_cons (ps_if (pt_cmpR (GW.neD hr.units (K := K)) (LaX.pe_lam1 (T := tabsT K) (N := ["fixtures", "bad"]) (ps := []) (fr := ["fixtures", "bad"]) (js := [0, 3]) (ok_told T) (hr.mono (by decide)) (kp_of T.d_law_told) (by rfl) T.g_law_told passL ⟨tb_law_refused, rfl, tm_law_refused, tu_law_refused, NdefX.nscope_by (by decide +kernel), LaX.free_by (sc := defScope s_law_refused) (by decide +kernel), rfl, rfl, fun _ _ _ _ _ us hl => match us, hl with | [], _ => rfl⟩ (fun A outer s H E f c hr => (pe_crX (ok_value_form_d T) (hr.mono (by decide)) (kp_of T.d_value_form) (by rfl) T.g_value_form (LaX.passF rfl rfl rfl rfl) (pa_cons (pv 0) (pa_cons pe_str (pa_cons (pv 1) pa_nil)))))) (pe_lst (pa_cons pe_str (pa_cons (pv 3) (pa_cons pe_bl (pa_cons pe_bl pa_nil))))) (nomark _)) (pss_one (ps_ret pe_bl)) pss_nil) (pss_one (ps_ret (pe_cmpR (GW.eqD hr.units (K := K)) (LaX.pe_lam1 (T := tabsT K) (N := ["fixtures", "bad"]) (ps := []) (fr := ["fixtures", "bad"]) (js := [0, 3]) (ok_told T) (hr.mono (by decide)) (kp_of T.d_law_told) (by rfl) T.g_law_told passL ⟨tb_law_refused, rfl, tm_law_refused, tu_law_refused, NdefX.nscope_by (by decide +kernel), LaX.free_by (sc := defScope s_law_refused) (by decide +kernel), rfl, rfl, fun _ _ _ _ _ us hl => match us, hl with | [], _ => rfl⟩ (fun A outer s H E f c hr => (pe_crX (ok_value_form T) (hr.mono (by decide)) (kp_of T.d_value_form) (by rfl) T.g_value_form (LaX.passF rfl rfl rfl rfl) (pa_cons (pv 0) (pa_cons pe_str (pa_cons (pv 1) (pa_cons (pe_tup (pa_cons pe_int (pa_cons pe_int pa_nil))) pa_nil))))))) (pe_lst (pa_cons pe_str (pa_cons (pv 3) (pa_cons pe_bl (pa_cons pe_bl pa_nil))))) (nomark _))))))), ?_⟩
    walk_at "go"
    refine lamNo true (.str word) tt (fun H1 e1 Q' E' kk => ?_) fun l H1 e1 t1 hl => ?_
    · walk_at "go"
      refine ⟨f, n, ps, word, 0, .non, none, rfl, F.extN e1, len, rfl, fun _ d H2 e2 hd => kk d H2 e2 hd, fun z => absurd z nw, fun z => absurd z nw⟩
    have F := F.extN e1
    walk_at "go"
    refine ⟨Rd.szr rfl, fun du hdu => ?_⟩
    refine Rd.neD (encW_ok hw) (dp_w (Rd.new_app hdu hl)) (dp_w upd_same) ?_
    rw [decide_eq_true rfl]
    have F := F.ext (Ext.upd (o := .lst [.str "what", .str word, .bl true, .bl false]) hdu)
    have t1 := t1.ext (Ext.upd (o := .lst [.str "what", .str word, .bl true, .bl false]) hdu)
    have e1 := e1.trans (ExtN.of (Ext.upd (o := .lst [.str "what", .str word, .bl true, .bl false]) hdu))
    clear hdu hl tt
    walk_at "go"
    refine lamNo true (.str word) t1 (fun H2 e2 Q' E' kk => ?_) fun l H2 e2 t2 hl => ?_
    · walk_at "go"
      refine ⟨Rd.szr rfl, fun t ht => ?_⟩
      walk_at "go"
      refine ⟨f, n, ps, word, bad, .ref t, some [0, 1], rfl, (F.extN e2).ext (Ext.upd ht), len, ⟨t, rfl, upd_same⟩, fun _ d H3 e3 hd => kk d H3 ((Ext.upd ht).trans e3) hd, fun z => absurd z nw, fun z => absurd z nw⟩
    have F := F.extN e2
    have e2 := e1.trans e2
    walk_at "go"
    refine ⟨Rd.szr rfl, fun du hdu => ?_⟩
    refine Rd.neD (encW_ok hw) (dp_w (Rd.new_app hdu hl)) (dp_w upd_same) ?_
    rw [decide_eq_true rfl]
    have F := F.ext (Ext.upd (o := .lst [.str "what", .str word, .bl true, .bl false]) hdu)
    have t2 := t2.ext (Ext.upd (o := .lst [.str "what", .str word, .bl true, .bl false]) hdu)
    have e2 := e2.trans (ExtN.of (Ext.upd (o := .lst [.str "what", .str word, .bl true, .bl false]) hdu))
    clear hdu hl t1 e1
    walk_at "go"
    refine lamNo false (.int bad) t2 (fun H3 e3 Q' E' kk => ?_) fun l H3 e3 t3 hl => ?_
    · walk_at "go"
      refine ⟨f, n, ps, _, bad, .non, none, rfl, F.extN e3, len, rfl, fun z => absurd (by decide) z, fun _ _ d H4 e4 hd => kk d H4 e4 hd, fun _ z1 z2 => absurd ⟨z1, z2⟩ nb⟩
    have F := F.extN e3
    have e3 := e2.trans e3
    walk_at "go"
    refine ⟨Rd.szr rfl, fun du hdu => ?_⟩
    refine Rd.neD encM_ok (dp_m (Rd.new_app hdu hl)) (dp_m upd_same) ?_
    rw [decide_eq_true rfl]
    have F := F.ext (Ext.upd (o := .lst [.str "team", .int bad, .bl true, .bl false]) hdu)
    have t3 := t3.ext (Ext.upd (o := .lst [.str "team", .int bad, .bl true, .bl false]) hdu)
    have e3 := e3.trans (ExtN.of (Ext.upd (o := .lst [.str "team", .int bad, .bl true, .bl false]) hdu))
    clear hdu hl t2 e2
    walk_at "go"
    refine lamNo false (.int bad) t3 (fun H4 e4 Q' E' kk => ?_) fun l H4 e4 t4 hl => ?_
    · walk_at "go"
      refine ⟨Rd.szr rfl, fun t ht => ?_⟩
      walk_at "go"
      refine ⟨f, n, ps, _, bad, .ref t, some [0, 1], rfl, (F.extN e4).ext (Ext.upd ht), len, ⟨t, rfl, upd_same⟩, fun z => absurd (by decide) z, fun _ _ d H5 e5 hd => kk d H5 ((Ext.upd ht).trans e5) hd, fun _ z1 z2 => absurd ⟨z1, z2⟩ nb⟩
    walk_at "go"
    refine ⟨Rd.szr rfl, fun du hdu => ?_⟩
    refine Rd.eqD encM_ok (dp_m (Rd.new_app hdu hl)) (dp_m upd_same) ?_
    rw [decide_eq_true rfl]
    exact k _ ((e3.trans e4).trans (ExtN.of (Ext.upd hdu))) (t4.ext (Ext.upd hdu))
end
end Lv

set_option Elab.async false
set_option linter.all false
set_option maxRecDepth 100000
set_option maxHeartbeats 0
set_option pp.maxSteps 2500
/-! k24: the law. -/
namespace Lv
open PySem PySem.Spec PyProof.Rows L2 OwX Rs
open LamX (Tabs ExtN CodeO TabB)
local macro_rules | `(tactic| walk_at "side") => `(tactic| first
  | exact (show CMul _ _ from .inl ⟨by decide, by decide⟩) | exact (show CMul _ _ from .inr ⟨by decide, by decide⟩) | exact (show CMul _ _ from .inl ⟨by omega, by omega⟩) | exact (show CMul _ _ from .inr ⟨by omega, by omega⟩)
  | exact (show CPow _ _ from ⟨by decide, by decide, by decide⟩)
  | exact (show CDiv _ _ from ⟨by decide, by decide⟩) | exact (show CDiv _ _ from ⟨by omega, by omega⟩)
  | exact (show (0 : Int) < _ by decide) | exact (show (0 : Int) < _ by omega) | exact (show ¬ (_ : Int) = 0 by decide) | exact (show ¬ (_ : Int) = 0 by omega) | assumption)
local macro_rules | `(tactic| walk_at "hp") => `(tactic| first
  | assumption | exact upd_same
  | (refine' SqL.of ?h1; (case h1 => walk_at "hp")) | (refine' SqT.of ?h1; (case h1 => walk_at "hp"))
  | (refine' Rd.new_app ?h1 ?h2; (case h1 => assumption); (case h2 => walk_at "hp"))
  | (refine' Rd.upd_app ?h1 ?h2; (case h1 => first | assumption | exact Ne.symm (by assumption)); (case h2 => walk_at "hp"))
  | (refine' Rd.ext_app ?h1 ?h2; (case h1 => assumption); (case h2 => walk_at "hp"))
  | (refine' Rd.ext_L ?h1 ?h2; (case h1 => assumption); (case h2 => walk_at "hp"))
  | (refine' Rd.ext_T ?h1 ?h2; (case h1 => assumption); (case h2 => walk_at "hp")))
local macro_rules | `(tactic| walk_at "go") => `(tactic| repeat (first
  | with_reducible refine Rd.con ?_
  | ((with_reducible refine' Rd.var ?h1 ?_); (case h1 => rfl))
  | with_reducible refine Rd.op ?_
  | with_reducible refine Rd.un ?_
  | with_reducible refine Rd.i0 ?_
  | with_reducible refine Rd.iu ?_
  | ((with_reducible refine Rd.iC ?h1 ?_); (case h1 => walk_at "side"))
  | with_reducible refine Rd.nil ?_
  | with_reducible refine Rd.cons ?_
  | with_reducible refine Rd.cb ?_
  | with_reducible refine Rd.int1 ?_
  | with_reducible refine Rd.intB ?_
  | with_reducible refine Rd.maxI ?_
  | with_reducible refine Rd.minI ?_
  | with_reducible refine Rd.blx ?_
  | with_reducible refine Rd.tst ?_
  | with_reducible refine Rd.tb_ ?_
  | with_reducible refine Rd.not_ ?_
  | with_reducible refine Rd.and_ ?_
  | with_reducible refine Rd.or_ ?_
  | with_reducible refine Rd.ifx ?_
  | with_reducible refine Rd.chain ?_
  | with_reducible refine Rd.andV ?_
  | with_reducible refine Rd.orV ?_
  | with_reducible refine Rd.notV ?_
  | with_reducible refine Rd.seq ?_
  | with_reducible refine Rd.asg ?_
  | with_reducible refine Rd.name ?_
  | with_reducible refine Rd.ret ?_
  | with_reducible refine Rd.ifS ?_
  | with_reducible refine Rd.next ?_
  | with_reducible refine Rd.drop ?_
  | with_reducible refine Rd.gsub ?_
  | with_reducible refine Rd.cr ?_
  | with_reducible refine Rd.crX ?_
  | with_reducible refine Rd.ixOS ?_
  | ((with_reducible refine' Rd.xfv ?h1 ?h2 ?h3 ?_); (case h1 => walk_at "hp"); (case h2 => rfl); (case h3 => rfl))
  | ((with_reducible refine' Rd.bmLv ?h1 ?h2 ?_); (case h1 => rfl); (case h2 => walk_at "hp"))
  | ((with_reducible refine' Rd.countL ?h1 ?_); (case h1 => walk_at "hp"))
  | ((with_reducible refine' Rd.sumL ?h1 ?_); (case h1 => walk_at "hp"))
  | ((with_reducible refine' Rd.listL ?h1 ?_); (case h1 => walk_at "hp"))
  | ((with_reducible refine' Rd.listT ?h1 ?_); (case h1 => walk_at "hp"))
  | with_reducible refine Rd.isNn ?_
  | with_reducible refine Rd.isNr ?_
  | with_reducible refine Rd.notNn ?_
  | with_reducible refine Rd.notNr ?_
  | with_reducible refine Rd.isB ?_
  | with_reducible refine Rd.notBtt ?_
  | with_reducible refine Rd.notBff ?_
  | with_reducible refine Rd.notBtf ?_
  | with_reducible refine Rd.notBft ?_
  | with_reducible refine Rd.notB ?_
  | with_reducible refine Rd.smeth ?_
  | with_reducible refine Rd.sl ?_
  | with_reducible refine Rd.po0 ?_
  | with_reducible refine Rd.poI ?_
  | with_reducible refine Rd.ixi ?_
  | with_reducible refine Rd.par ?_
  | with_reducible refine Rd.par3 ?_
  | with_reducible refine Rd.par33 ?_
  | ((with_reducible refine' Rd.aug ?h1 ?_); (case h1 => rfl))
  | with_reducible refine Rd.ipi ?_
  | with_reducible refine Rd.lstRg ?_
  | with_reducible refine Rd.cont ?_
  | with_reducible refine Rd.rg1 ?_
  | with_reducible refine Rd.par2 ?_
  | with_reducible refine Rd.mkRS ?_
  | with_reducible refine Rd.callRS ?_
  | with_reducible refine Rd.mk ?_
  | with_reducible refine Rd.mkX ?_
  | with_reducible refine Rd.sF ?_
  | with_reducible refine Rd.dIn ?_
  | with_reducible refine Rd.dNi ?_
  | with_reducible refine Rd.dctL ?_
  | with_reducible refine Rd.dctT ?_
  | with_reducible refine Rd.forE ?_
  | with_reducible refine Rd.lc2T ?_
  | with_reducible refine Rd.lc2L ?_
  | with_reducible refine Rd.lc2R ?_
  | with_reducible refine Rd.inR2 ?_
  | with_reducible refine Rd.inR1 ?_
  | with_reducible refine Rd.inT ?_
  | with_reducible refine Rd.inL ?_
  | with_reducible refine Rd.lcT ?_
  | with_reducible refine Rd.lcL ?_
  | with_reducible refine Rd.lcR ?_
  | with_reducible refine Rd.forT ?_
  | with_reducible refine Rd.forL ?_
  | with_reducible refine Rd.forR ?_
  | with_reducible refine Rd.yes ?_
  | with_reducible refine iteT ?_
  | with_reducible refine iteF ?_
  | with_reducible refine Rd.iteNT ?_
  | with_reducible refine Rd.iteNF ?_
  | with_reducible refine Rd.tup ?_
  | with_reducible refine Rd.lst ?_
  | ((with_reducible refine Rd.eqs ?h1 ?_); (case h1 => rfl))
  | ((with_reducible refine Rd.nes ?h1 ?_); (case h1 => rfl))
  | ((with_reducible refine' Rd.ixL ?h1 ?h2 ?_); (case h1 => walk_at "hp"); (case h2 => first | rfl | assumption))
  | ((with_reducible refine' Rd.ixT ?h1 ?h2 ?_); (case h1 => walk_at "hp"); (case h2 => first | rfl | assumption))
  | ((with_reducible refine' Rd.lenL ?h1 ?_); (case h1 => walk_at "hp"))
  | ((with_reducible refine' Rd.lenT ?h1 ?_); (case h1 => walk_at "hp"))
  | ((with_reducible refine' Rd.setL ?h1 ?h2 ?_); (case h1 => walk_at "hp"); (case h2 => first | rfl | assumption))))
--TB ok_refused
theorem iters (n : Nat) : (if (if (n : Int) < 40 then (n : Int) else 40) > 1 then (if (n : Int) < 40 then (n : Int) else 40) else 1).toNat ≤ 40 := by split <;> split <;> omega
/-- the words of value_form as things -/
def wOf (k : Nat) : Cs.What := if k = 0 then .margin else if k = 1 then .scored else .away
theorem dot_app {a b c d : List Int} (h : a.length = c.length) : dot (a ++ b) (c ++ d) = dot a c + dot b d := by
  unfold dot
  rw [List.zipWith_append h, List.sum_append]
theorem contrib_dot {k : Nat} (hk : k < 3) {t : Int} {o : Option (List Int)} {p r : Pr} : Cs.contrib (3, 1, 0) (wOf k) o t p (some r) = dot (oneF (whatStr (wOf k)) t o p) [r.1, r.2] := by
  rw [contrib_some, plays_eq]
  show _ = dot (oneF _ t o p) _
  unfold oneF playsF
  cases h : [p.1, p.2].contains t && scopeF p o with
  | false =>
    rw [if_neg Bool.false_ne_true, if_neg Bool.false_ne_true]
    simp [dot]
  | true =>
    rw [if_pos rfl, if_pos rfl]
    match k, hk with
    | 0, _ =>
      by_cases c : p.1 = t
      · rw [if_pos c, decide_eq_true c]
        show r.1 - r.2 = 1 * r.1 + (-1 * r.2 + 0)
        omega
      · rw [if_neg c, decide_eq_false c]
        show r.2 - r.1 = -1 * r.1 + (1 * r.2 + 0)
        omega
    | 1, _ =>
      by_cases c : p.1 = t
      · rw [if_pos c, decide_eq_true c]
        show r.1 = 1 * r.1 + (0 * r.2 + 0)
        omega
      · rw [if_neg c, decide_eq_false c]
        show r.2 = 0 * r.1 + (1 * r.2 + 0)
        omega
    | 2, _ =>
      by_cases c : p.1 = t
      · rw [if_pos c, decide_eq_true c]
        show (0 : Int) = 0 * r.1 + (0 * r.2 + 0)
        omega
      · rw [if_neg c, decide_eq_false c]
        show r.2 = 0 * r.1 + (1 * r.2 + 0)
        omega
theorem value_dot {k : Nat} (hk : k < 3) {t : Int} {o : Option (List Int)} : ∀ (ps rs : List Pr), ps.length = rs.length → Cs.valueF (3, 1, 0) ps (rs.map some) (wOf k) o t = dot (partsF ps (whatStr (wOf k)) t o) (flatG rs)
  | [], [], _ => rfl
  | p :: ps, r :: rs, h => by
    have ih := value_dot hk (t := t) (o := o) ps rs (by simpa using h)
    show Cs.valueF _ (p :: ps) (some r :: rs.map some) _ _ _ = _
    unfold Cs.valueF at ih ⊢
    rw [List.zip_cons_cons, List.map_cons, List.sum_cons, ih]
    unfold partsF flatG
    rw [List.flatMap_cons, List.flatMap_cons, dot_app (by rw [oneF_len]; rfl)]
    rw [contrib_dot hk]
  | [], _ :: _, h => by simp at h
  | _ :: _, [], h => by simp at h
theorem parts_small {ps : List Pr} {what : Str} {t : Int} {o : Option (List Int)} : ∀ x ∈ partsF ps what t o, -(2 ^ 64) < x ∧ x < 2 ^ 64 := by
  intro x hx
  unfold partsF at hx
  obtain ⟨p, _, hx⟩ := List.mem_flatMap.mp hx
  have g : ∀ c, (-1 ≤ (goalF what c).1 ∧ (goalF what c).1 ≤ 1) ∧ (-1 ≤ (goalF what c).2 ∧ (goalF what c).2 ≤ 1) := fun c => by
    unfold goalF
    repeat' split
    all_goals decide
  unfold oneF at hx
  split at hx
  · have := g (decide (p.1 = t))
    simp only [List.mem_cons, List.not_mem_nil, or_false] at hx
    omega
  · simp only [List.mem_cons, List.not_mem_nil, or_false] at hx
    omega
section
variable {base : Heap} {P : Program} {w : World} {mg : Str → Option Value} {K : PySem.W.Frag}
def wordsB : List Str := ["points", "wins", "", "Margin", "goals", "all"]
theorem wordsB_ok : ∀ z ∈ wordsB, z ∉ whats ∧ PyData.strOk z = true := by decide +kernel
theorem PL.extN {H H' : Hp} {l : Addr} {ps : List Pr} (h : PL H l ps) (e : ExtN H H') : PL H' l ps := by
  obtain ⟨us, h2, pr⟩ := h
  exact ⟨us, extN_at e h2, Rd.paired_imp (fun _ _ z => by
    obtain ⟨a, e1, h⟩ := z
    exact ⟨a, e1, extN_at e h⟩) pr⟩
structure S24 (K : PySem.W.Frag) (f lp s hh gl : Addr) (bv : V) (n : Nat) (ps : List Pr) (b : Option (List Int)) (rs : List Pr) (H : Hp) : Prop where
  F : FixAt K H f n ps
  B : BsAt H bv b
  P : PL H lp ps
  S : ShAt K H s f hh n ps (rs.map some)
  G : H gl = some (.tup ((flatG rs).map V.int))
theorem S24.ext {f lp s hh gl : Addr} {bv : V} {n : Nat} {ps : List Pr} {b : Option (List Int)} {rs : List Pr} {H H' : Hp} (W : S24 K f lp s hh gl bv n ps b rs H) (e : Ext H H') : S24 K f lp s hh gl bv n ps b rs H' :=
  ⟨W.F.ext e, W.B.ext e, W.P.ext e, W.S.ext e, e _ _ W.G⟩
def sp_law (K : PySem.W.Frag) : Sp := fun vs H Q _ => ∃ (a : Addr) (ns : List Int), vs = [.ref a] ∧ SqL K H a (ns.map V.int) ∧ ns.length ≤ 63 ∧ (∀ z ∈ ns, Builtin.Int.intBits z ≤ 1048576) ∧ Tabs (tabsT K) H ∧ ∀ H', Q (.bl true) H'
theorem tabs_nil {H : Hp} (h : ∀ p ∈ tf, H (He.cT K p).2 = some (.tbl #[])) : Tabs (tabsT K) H := fun q hq => by
  rw [List.mem_singleton.mp hq]
  exact LamX.TabS.nil (h dRef (by simp [tf]))
theorem ok_law (T : Tx K mg) (TB : ∀ q ∈ tf, TabB base mg (He.cT K q).1 (He.cT K q).2) {fd : FuncData} (F : FunD K "law" "law" (defArgs s_law) (defBody s_law) (defScope s_law) [] [] (a_law K) fd) : FnOk P w K mg base (L2.CX P w) 40 (a_law K) fd P_law (sp_law K) := by
  refine F.ok sc_law (fun vs H Q E h => ?_) (fun cdv A outer s H vs Q E hr h => ?_)
  · obtain ⟨a, ns, rfl, _⟩ := h
    rfl
  · obtain ⟨sc, ns, rfl, hS, hn, hb, tt, k⟩ := h
    refine ⟨_, (pss_cons (ps_for (passes_of rfl) rfl (pi_range1 (by rfl) T.f_range (pa_cons (pe_callB (Rd.c_max rfl) (by rfl) T.f_max Rd.bt_max (pa_cons pe_int (pa_cons (pe_callB (Rd.c_min rfl) (by rfl) T.f_min Rd.bt_min (pa_cons pe_int (pa_cons (pe_callB (Rd.c_len (K := K)) (by rfl) T.f_len Rd.bt_len (pa_cons (pv 0) pa_nil)) pa_nil))) pa_nil))) pa_nil)) (gx 1 sc_law.nd) (pss_cons (sx 2 sc_law.nd (pe_cr (ok_pool T) (hr.mono (by decide)) (kp_of T.d_law_pool) (by rfl) T.g_law_pool (pa_cons (pv 0) (pa_cons (pv 1) pa_nil)))) (pss_cons (sx 3 sc_law.nd (pe_op op_add pe_int (pe_cr (ok_take T) (hr.mono (by decide)) (kp_of T.d_law_take) (by rfl) T.g_law_take (pa_cons (pv 2) (pa_cons pe_int pa_nil))))) (pss_cons (sx 4 sc_law.nd (pe_cr (ok_pairs T) (hr.mono (by decide)) (kp_of T.d_law_pairs) (by rfl) T.g_law_pairs (pa_cons (pv 2) (pa_cons (pv 3) (pa_cons pe_int pa_nil))))) (pss_cons (ps_par (i := 5) (j := 6) rfl sc_law.nd rfl rfl (by decide) rfl rfl (pa_cons (pe_mk T.k_Fixtures (ok_Fixtures_init T) (hr.mono (by decide)) (by rfl) T.g_Fixtures (pa_cons (pv 3) (pa_cons (pv 4) pa_nil))) (pa_cons (pe_cr (ok_base T) (hr.mono (by decide)) (kp_of T.d_law_base) (by rfl) T.g_law_base (pa_cons (pv 2) (pa_cons (pv 3) pa_nil))) pa_nil)) rfl) (pss_cons (ps_setLc (i := 7) (own := [("pair", 8)]) rfl sc_law.nd rfl rfl rfl (GW.pi_list (K := K) (pv 4)) (blkOk_by (own := [("pair", 8)]) (N := N_law) (sc := defScope s_law) (by decide +kernel)) (fun _ _ _ _ _ => (gx 8 sc_law.nd)) (fun _ _ _ _ _ => pts_nil) (fun _ _ _ _ _ => (pe_tup (pa_cons (pe_cr (ok_goals T) (hr.mono (by decide)) (kp_of T.d_law_goals) (by rfl) T.g_law_goals (pa_cons (pv 2) pa_nil)) (pa_cons (pe_cr (ok_goals T) (hr.mono (by decide)) (kp_of T.d_law_goals) (by rfl) T.g_law_goals (pa_cons (pv 2) pa_nil)) pa_nil))))) (pss_cons (ps_par (i := 9) (j := 10) rfl sc_law.nd rfl rfl (by decide) rfl rfl (pa_cons (pe_mk T.k_Sheet (ok_Sheet_init T) (hr.mono (by decide)) (by rfl) T.g_Sheet (pa_cons (pv 5) (pa_cons (pv 7) pa_nil))) (pa_cons (pe_cr (ok_flat T) (hr.mono (by decide)) (kp_of T.d_flat) (by rfl) T.g_flat (pa_cons (pv 7) pa_nil)) pa_nil)) rfl) (pss_cons (ps_for (passes_of rfl) rfl (GW.pi_list (K := K) (pe_lst (pa_cons pe_str (pa_cons pe_str (pa_cons pe_str pa_nil))))) (gx 11 sc_law.nd) (pss_one (ps_for (passes_of rfl) rfl (pi_range1 (by rfl) T.f_range (pa_cons (pv 3) pa_nil)) (gx 12 sc_law.nd) (pss_cons (sx 13 sc_law.nd (pe_cr (ok_value_parts T) (hr.mono (by decide)) (kp_of T.d_law_value_parts) (by rfl) T.g_law_value_parts (pa_cons (pv 4) (pa_cons (pv 11) (pa_cons (pv 12) (pa_cons (pv 6) pa_nil)))))) (pss_cons (sx 14 sc_law.nd (pe_cr (ok_value_form T) (hr.mono (by decide)) (kp_of T.d_value_form) (by rfl) T.g_value_form (pa_cons (pv 5) (pa_cons (pv 11) (pa_cons (pv 12) (pa_cons (pv 6) pa_nil)))))) (pss_cons (ps_if (PW.pt (pw_or (pt_not (pt_val (pe_cr (ok_is_form T) (hr.mono (by decide)) (kp_of T.d_law_is_form) (by rfl) T.g_law_is_form (pa_cons (pv 14) (pa_cons (pv 13) pa_nil))))) (pw_or1 (pt_cmpR op_ne (OwX.pe_callOK (pv 14) ⟨T.m_Form_call.at_, T.m_Form_call.fn, T.fi_Form_call⟩ (ok_Form_call T) (hr.mono (by decide)) passL (pa_cons (pv 10) pa_nil)) (pe_cr (ok_total T) (hr.mono (by decide)) (kp_of T.d_law_total) (by rfl) T.g_law_total (pa_cons (pv 13) (pa_cons (pe_callTy (Rd.c_list (K := K)) (by rfl) T.f_list Rd.bt_list (pa_cons (pv 10) pa_nil)) pa_nil))) (nomark _))))) (pss_one (ps_ret pe_bl)) pss_nil) (pss_cons (ps_if (pt_cmpR op_ne (pe_cr (ok_value T) (hr.mono (by decide)) (kp_of T.d_value) (by rfl) T.g_value (pa_cons (pv 11) (pa_cons (pe_tup (pa_cons pe_int (pa_cons pe_int (pa_cons pe_int pa_nil)))) (pa_cons (pv 9) (pa_cons (pv 12) (pa_cons (pv 6) pa_nil)))))) (OwX.pe_callOK (pv 14) ⟨T.m_Form_call.at_, T.m_Form_call.fn, T.fi_Form_call⟩ (ok_Form_call T) (hr.mono (by decide)) passL (pa_cons (pe_callTy (Rd.c_list (K := K)) (by rfl) T.f_list Rd.bt_list (pa_cons (pv 10) pa_nil)) pa_nil)) (nomark _)) (pss_one (ps_ret pe_bl)) pss_nil) (pss_cons (sx 15 sc_law.nd (pe_cr (ok_value_parts T) (hr.mono (by decide)) (kp_of T.d_law_value_parts) (by rfl) T.g_law_value_parts (pa_cons (pv 4) (pa_cons (pv 11) (pa_cons (pv 12) (pa_cons pe_non pa_nil)))))) (pss_one (ps_if (pt_not (pt_val (pe_cr (ok_is_form T) (hr.mono (by decide)) (kp_of T.d_law_is_form) (by rfl) T.g_law_is_form (pa_cons (pe_cr (ok_value_form_d T) (hr.mono (by decide)) (kp_of T.d_value_form) (by rfl) T.g_value_form (pa_cons (pv 5) (pa_cons (pv 11) (pa_cons (pv 12) pa_nil)))) (pa_cons (pv 15) pa_nil))))) (pss_one (ps_ret pe_bl)) pss_nil)))))))))) (pss_cons (sx 16 sc_law.nd (pe_cr (ok_one T) (hr.mono (by decide)) (kp_of T.d_law_one) (by rfl) T.g_law_one (pa_cons (pv 2) (pa_cons (pe_lst (pa_cons (pe_un un_neg pe_int) (pa_cons (pv 3) (pa_cons (pe_op op_sub (pe_un un_neg pe_int) (pe_cr (ok_take T) (hr.mono (by decide)) (kp_of T.d_law_take) (by rfl) T.g_law_take (pa_cons (pv 2) (pa_cons pe_int pa_nil)))) (pa_cons (pe_op op_add (pv 3) (pe_cr (ok_take T) (hr.mono (by decide)) (kp_of T.d_law_take) (by rfl) T.g_law_take (pa_cons (pv 2) (pa_cons pe_int pa_nil)))) pa_nil))))) pa_nil)))) (pss_cons (ps_if (pt_not (pt_val (pe_cr (ok_refused T TB) (hr.mono (by decide)) (kp_of T.d_law_refused) (by rfl) T.g_law_refused (pa_cons (pv 5) (pa_cons (pv 3) (pa_cons (pe_cr (ok_one T) (hr.mono (by decide)) (kp_of T.d_law_one) (by rfl) T.g_law_one (pa_cons (pv 2) (pa_cons (pe_lst (pa_cons pe_str (pa_cons pe_str (pa_cons pe_str (pa_cons pe_str (pa_cons pe_str (pa_cons pe_str pa_nil))))))) pa_nil))) (pa_cons (pv 16) pa_nil))))))) (pss_one (ps_ret pe_bl)) pss_nil) (pss_one (ps_if (pt_cmpR op_notBl (pe_cmpR (op_eqO T.m_Fixtures_eq (ok_Fixtures_eq T) (hr.mono (by decide)) passL) (pv 5) (pe_mk T.k_Fixtures (ok_Fixtures_init T) (hr.mono (by decide)) (by rfl) T.g_Fixtures (pa_cons (pv 3) (pa_cons (pv 4) pa_nil))) (nomark _)) pe_bl (nomark _)) (pss_one (ps_ret pe_bl)) pss_nil)))))))))))) (pss_one (ps_ret pe_bl))), ?_⟩
    walk_at "go"
    refine ⟨_, rfl, ?_, ?_, for_range (fun i σ H => ∃ v1 v2 v3 v4 v5 v6 v7 v8 v9 v10 v11 v12 v13 v14 v15 v16, σ = [some (.ref sc), v1, v2, v3, v4, v5, v6, v7, v8, v9, v10, v11, v12, v13, v14, v15, v16] ∧ SqL K H sc (ns.map V.int) ∧ Tabs (tabsT K) H) ⟨_, _, _, _, _, _, _, _, _, _, _, _, _, _, _, _, rfl, hS, tt⟩ ?_ ?_⟩
    · split <;> split <;> omega
    · split <;> split <;> omega
    rotate_left
    · intro σ H' _
      walk_at "go"
      exact k _
    intro i σ H hi hh
    obtain ⟨v1, v2, v3, v4, v5, v6, v7, v8, v9, v10, v11, v12, v13, v14, v15, v16, rfl, hS, tt⟩ := hh
    have hk : i < 63 := by
      rw [List.length_map] at hi
      have := iters ns.length
      omega
    rw [Int.zero_add]
    walk_at "go"
    refine mkPool hS hn hk hb fun p H1 np e1 pl1 => ?_
    have tt1 := tt.ext e1
    walk_at "go"
    refine draw pl1 fun r H2 hr2 l2 => ?_
    walk_at "go"
    obtain ⟨n, hn1, hn2, hn6⟩ : ∃ n : Nat, (2 : Int) + r = n ∧ 2 ≤ n ∧ n ≤ 6 := ⟨2 + r, by omega, by omega, by omega⟩
    rw [hn1]
    refine ⟨p, n, 8, rfl, l2.pl, hn2, hn6, by omega, fun lp ps H3 l3 nlp hps dr => ?_⟩
    have G : GoodP n ps := ⟨by omega, by omega, dr.good, dr.nd⟩
    have lps := dr.le
    have L3 := l2.trans l3
    have nep := l2.pl.ne nlp
    walk_at "go"
    refine mk_fix hps (by omega) G fun f H4 e4 nf F4 => ?_
    have hps := hps.ext e4
    have L4 := L3.ext e4
    walk_at "go"
    refine ⟨p, n, rfl, L4.pl, by omega, fun bv b H5 l5 B => ?_⟩
    have hps := hps.lt nep L4.pl l5
    have F5 := F4.lt L4.pl l5
    have L5 := L4.trans l5
    obtain ⟨pvs, hpv, prp⟩ := id hps
    have lpv := Rd.paired_len prp
    clear l5 F4 L4 e4 L3 l3 l2
    walk_at "go"
    refine ⟨lp, rfl, ⟨_, SqL.of hpv⟩, fun D hD => ?_⟩
    refine lcP (Rd.walk_lB (K := K) (a := lp) prp) (Rd.yB prp) (by omega) L5.pl (fun _ => true) (fun _ y H => ∃ q : Pr, (0 ≤ q.1 ∧ 0 ≤ q.2) ∧ PT H q y) (fun _ _ _ _ e ⟨q, h1, h2⟩ => ⟨q, h1, h2.ext e⟩) hD (fun H' t => SqL.of (t.at nep hpv)) ?_ ?_
    · rintro j it x H' H'' acc hit lt ha ⟨rfl, hx⟩ Qy Qn ky kn
      walk_at "go"
      refine ⟨rfl, ?_⟩
      walk_at "go"
      refine ⟨p, rfl, lt.pl, fun g1 H6 b1 l6 => ?_⟩
      walk_at "go"
      refine ⟨p, rfl, l6.pl, fun g2 H7 b2 l7 => ?_⟩
      walk_at "go"
      refine ⟨Rd.szr rfl, fun t ht => ?_⟩
      have l8 := (l6.trans l7).new (u := .tup [.int g1, .int g2]) ht
      have ha8 := l8.at (L5.pl.ne hD) ha
      exact ky _ _ l8 rfl ⟨(g1, g2), ⟨by omega, by omega⟩, t, rfl, Lv.hid2 (fun z => by rw [z, upd_same] at ha8; cases ha8) (l7.pl.ne ht) upd_same⟩
    intro rvs H6 l6 hrv pr6
    rw [List.filter_eq_self.mpr (fun _ _ => rfl)] at pr6
    obtain ⟨rs, prr, rok, rlen⟩ := pick pr6
    have prr := Rd.paired_imp (fun _ _ z => PT.hid z) prr
    have nD := L5.pl.ne hD
    have L6 := L5.trans l6
    have F6 := F5.lt L5.pl l6
    have B6 := B.lt L5.pl l6
    have P6 := hps.lt nep L5.pl l6
    have R6 : PL H6 D rs := ⟨rvs, hrv, prr⟩
    have RL6 : RL H6 D (rs.map some) := ⟨rvs, hrv, Rd.paired_mapl (Rd.paired_imp (fun _ _ z => z) prr)⟩
    clear pr6 prr l6 F5 B hps hpv prp L5
    walk_at "go"
    refine mk_sheet F6 RL6 (by rw [List.length_map, rlen]) (by omega) (fun r hr => ?_) fun s hh H7 e7 ns7 nh7 S => ?_
    · obtain ⟨q, hq, rfl⟩ := List.mem_map.mp hr
      intro p' hp'
      cases hp'
      exact rok q hq
    walk_at "go"
    refine ⟨D, rs, rfl, R6.ext e7, by omega, fun gl H8 e8 ng hgl => ?_⟩
    have W : S24 K f lp s hh gl bv n ps b rs H8 := ⟨(F6.ext e7).ext e8, (B6.ext e7).ext e8, (P6.ext e7).ext e8, S.ext e8, hgl⟩
    have L8 := (L6.ext e7).ext e8
    clear F6 B6 P6 S R6 RL6 L6 e7 e8 hrv hD
    walk_at "go"
    refine ⟨Rd.szr rfl, fun wl hwl => ?_⟩
    have hw : (upd H8 wl (.lst (whats.map V.str))) wl = some (.lst (whats.map V.str)) := upd_same
    have W := W.ext (Ext.upd (o := .lst (whats.map V.str)) hwl)
    have L9 := L8.new (u := .lst (whats.map V.str)) hwl
    refine ⟨wl, rfl, ⟨_, SqL.of hw⟩, ?_⟩
    change Rd.ForB _ _ _ _ _ (upd H8 wl (.lst (whats.map V.str)))
    generalize upd H8 wl (.lst (whats.map V.str)) = H9 at hw W L9
    clear L8 hwl
    refine for_list (xs := whats.map V.str) (fun j σ H => ∃ w8 w11 w12 w13 w14 w15, σ = [some (.ref sc), some (.int i), some (.ref p), some (.int n), some (.ref lp), some (.ref f), some bv, some (.ref D), w8, some (.ref s), some (.ref gl), w11, w12, w13, w14, w15, v16] ∧ Ext H9 H) ⟨_, _, _, _, _, _, rfl, Rd.ext_rfl⟩ ?_ ?_ ?_
    · rintro j σ H' _ ⟨_, _, _, _, _, _, _, e⟩
      exact SqL.of (e _ _ hw)
    · rintro j x σ H10 hx ⟨w8, w11, w12, w13, w14, w15, rfl, e10⟩
      have hj : j < 3 := by
        have := (List.getElem?_eq_some_iff.mp hx).1
        rw [List.length_map] at this
        exact this
      have hwx : x = .str (whatStr (wOf j)) ∧ whatStr (wOf j) ∈ whats := by
        match j, hj with
        | 0, _ => exact ⟨(Option.some.inj hx).symm, by simp [whats, whatStr, wOf]⟩
        | 1, _ => exact ⟨(Option.some.inj hx).symm, by simp [whats, whatStr, wOf]⟩
        | 2, _ => exact ⟨(Option.some.inj hx).symm, by simp [whats, whatStr, wOf]⟩
      obtain ⟨rfl, wm⟩ := hwx
      walk_at "go"
      refine ⟨_, rfl, by omega, by omega, ?_⟩
      rw [Int.toNat_natCast]
      refine for_range (fun t σ H => ∃ w12 w13 w14 w15, σ = [some (.ref sc), some (.int i), some (.ref p), some (.int n), some (.ref lp), some (.ref f), some bv, some (.ref D), w8, some (.ref s), some (.ref gl), some (.str (whatStr (wOf j))), w12, w13, w14, w15, v16] ∧ Ext H9 H) ⟨_, _, _, _, rfl, e10⟩ ?_ ?_
      rotate_left
      · rintro σ H' ⟨w12, w13, w14, w15, rfl, e⟩
        exact ⟨_, _, _, _, _, _, rfl, e⟩
      rintro t σ H11 ht ⟨w12, w13, w14, w15, rfl, e11⟩
      rw [Int.zero_add]
      have t0 : (0 : Int) ≤ (t : Int) := by omega
      have t1 : (t : Int) < (n : Int) := by omega
      have W := W.ext e11
      have lenP : ∀ o, (partsF ps (whatStr (wOf j)) t o).length = 2 * ps.length := fun o => partsF_len _ _ _ _
      have lenG : (flatG rs).length = 2 * ps.length := by rw [flatG_len, rlen]
      walk_at "go"
      refine ⟨lp, n, ps, _, t, bv, b, rfl, W.P, by omega, G.two, wm, W.B, fun pl H12 e12 hpl => ?_⟩
      have W := W.ext e12
      walk_at "go"
      refine ⟨f, n, ps, _, t, bv, b, rfl, W.F, by omega, W.B, fun z => absurd wm z, fun _ z => absurd ⟨t0, t1⟩ z, fun _ _ _ x H13 e13 nx X => ?_⟩
      have W := W.ext e13
      have hpl := e13 _ _ hpl
      have E13 := (e11.trans e12).trans e13
      clear e12 e13
      walk_at "go"
      refine ⟨x, pl, _, _, rfl, X, hpl, by rw [lenP]; omega, fun H14 e14 => ?_⟩
      rw [decide_eq_true rfl]
      have W := W.ext e14
      have X := X.ext e14
      have hpl := e14 _ _ hpl
      have E14 := E13.trans e14
      clear e14 E13
      walk_at "go"
      refine ⟨.ref x, rfl, x, rfl, ?_⟩
      walk_at "go"
      obtain ⟨dx, q, hfx, hfq⟩ := id X
      refine ⟨⟨dx, _, hfx⟩, x, gl, _, flatG rs, rfl, X, .inr W.G, by rw [lenP]; omega, parts_small, fun _ H15 e15 => ?_, fun z => absurd (by rw [lenP, lenG]) z⟩
      clear hfx hfq
      have W := W.ext e15
      have X := X.ext e15
      have hpl := e15 _ _ hpl
      have E15 := E14.trans e15
      clear e15 E14
      have hG := W.G
      walk_at "go"
      intro l1 hl1
      have W := W.ext (Ext.upd (o := .lst ((flatG rs).map V.int)) hl1)
      have X := X.ext (Ext.upd (o := .lst ((flatG rs).map V.int)) hl1)
      have hpl := Rd.new_app (u := .lst ((flatG rs).map V.int)) hl1 hpl
      have E16 := E15.trans (Ext.upd (o := .lst ((flatG rs).map V.int)) hl1)
      walk_at "go"
      refine ⟨pl, l1, _, flatG rs, rfl, hpl, upd_same, by rw [lenP, lenG], by rw [lenP]; omega, parts_small, fun H17 e17 => ?_⟩
      have W := W.ext e17
      have X := X.ext e17
      have E17 := E16.trans e17
      clear e17 E16 E15 hl1 hG hpl
      refine ⟨rfl, ?_⟩
      walk_at "go"
      rw [decide_eq_true rfl]
      walk_at "go"
      refine ⟨Rd.szr rfl, fun t3 ht3 => ?_⟩
      have W := W.ext (Ext.upd (o := .tup [V.int 3, .int 1, .int 0]) ht3)
      have X := X.ext (Ext.upd (o := .tup [V.int 3, .int 1, .int 0]) ht3)
      have E18 := E17.trans (Ext.upd (o := .tup [V.int 3, .int 1, .int 0]) ht3)
      walk_at "go"
      refine ⟨wOf j, .ref t3, (3, 1, 0), s, f, hh, n, ps, rs.map some, t, bv, b, rfl, ⟨t3, rfl, upd_same⟩, W.S, W.B, by omega, t0, t1, fun H19 e19 => ?_⟩
      rw [value_dot hj _ _ (by rw [rlen])]
      have W := W.ext e19
      have X := X.ext e19
      have E19 := E18.trans e19
      clear e19 E18 E17 ht3
      have hG := W.G
      walk_at "go"
      refine ⟨.ref x, rfl, x, rfl, ?_⟩
      walk_at "go"
      intro l2 hl2
      have W := W.ext (Ext.upd (o := .lst ((flatG rs).map V.int)) hl2)
      have X := X.ext (Ext.upd (o := .lst ((flatG rs).map V.int)) hl2)
      have E20 := E19.trans (Ext.upd (o := .lst ((flatG rs).map V.int)) hl2)
      walk_at "go"
      obtain ⟨dx, q, hfx, hfq⟩ := id X
      refine ⟨⟨dx, _, hfx⟩, x, l2, _, flatG rs, rfl, X, .inl upd_same, by rw [lenP]; omega, parts_small, fun _ H21 e21 => ?_, fun z => absurd (by rw [lenP, lenG]) z⟩
      have W := W.ext e21
      have E21 := E20.trans e21
      clear e21 E20 E19 hl2 hG hfx hfq X
      refine ⟨rfl, ?_⟩
      walk_at "go"
      rw [decide_eq_true rfl]
      walk_at "go"
      refine ⟨lp, n, ps, _, t, .non, none, rfl, W.P, by omega, G.two, wm, rfl, fun pl2 H22 e22 hpl2 => ?_⟩
      have W := W.ext e22
      have E22 := E21.trans e22
      clear e22 E21
      walk_at "go"
      refine ⟨f, n, ps, _, t, .non, none, rfl, W.F, by omega, rfl, fun z => absurd wm z, fun _ z => absurd ⟨t0, t1⟩ z, fun _ _ _ x2 H23 e23 nx2 X2 => ?_⟩
      have hpl2 := e23 _ _ hpl2
      have E23 := E22.trans e23
      clear e23 E22
      walk_at "go"
      refine ⟨x2, pl2, _, _, rfl, X2, hpl2, by rw [lenP]; omega, fun H24 e24 => ?_⟩
      rw [decide_eq_true rfl]
      walk_at "go"
      exact ⟨_, _, _, _, rfl, E23.trans e24⟩
    rintro σ H10 ⟨w8, w11, w12, w13, w14, w15, rfl, e10⟩
    have W := W.ext e10
    have L10 := L9.ext e10
    clear L9 e10 hw
    have F10 := W.F
    have P10 := W.P
    clear W
    walk_at "go"
    refine draw L10.pl fun r1 H11 hr1 l11 => ?_
    walk_at "go"
    refine draw l11.pl fun r2 H12 hr2 l12 => ?_
    have l12 := l11.trans l12
    walk_at "go"
    refine ⟨Rd.szr rfl, fun bq hbq => ?_⟩
    have l13 := l12.new (u := .lst ([-1, (n : Int), -1 - (r1 : Int), (n : Int) + r2].map V.int)) hbq
    have nbq := l12.pl.ne hbq
    walk_at "go"
    refine ⟨p, bq, [-1, (n : Int), -1 - (r1 : Int), (n : Int) + r2].map V.int, rfl, SqL.of upd_same, nbq, l13.pl, by simp, by simp, fun i1 v H14 hv l14 => ?_⟩
    obtain ⟨bad, rfl, nbad⟩ : ∃ z : Int, v = .int z ∧ ¬ (0 ≤ z ∧ z < n) := by
      rw [List.getElem?_map] at hv
      obtain ⟨z, hz, rfl⟩ := Option.map_eq_some_iff.mp hv
      have := List.mem_of_getElem? hz
      simp only [List.mem_cons, List.not_mem_nil, or_false] at this
      exact ⟨z, rfl, by omega⟩
    have l14 := l13.trans l14
    clear hv l13 l12 l11 hbq nbq
    walk_at "go"
    refine ⟨Rd.szr rfl, fun wq hwq => ?_⟩
    have l15 := l14.new (u := .lst (wordsB.map V.str)) hwq
    have nwq := l14.pl.ne hwq
    walk_at "go"
    refine ⟨p, wq, wordsB.map V.str, rfl, SqL.of upd_same, nwq, l15.pl, by simp [wordsB], by simp [wordsB], fun i2 v H16 hv l16 => ?_⟩
    obtain ⟨word, rfl, nw, okw⟩ : ∃ z : Str, v = .str z ∧ z ∉ whats ∧ PyData.strOk z = true := by
      rw [List.getElem?_map] at hv
      obtain ⟨z, hz, rfl⟩ := Option.map_eq_some_iff.mp hv
      have := List.mem_of_getElem? hz
      exact ⟨z, rfl, (wordsB_ok z this).1, (wordsB_ok z this).2⟩
    have l16 := l15.trans l16
    have F16 := F10.lt L10.pl l16
    have P16 := P10.lt nep L10.pl l16
    have L16 := L10.trans l16
    clear hv l15 l14 hwq nwq l16 F10 P10 L10
    walk_at "go"
    refine ⟨f, n, ps, word, bad, rfl, F16, by omega, nw, okw, nbad, tabs_lt tt1 pl1 L16, fun H17 e17 t17 => ?_⟩
    have F17 := F16.extN e17
    have P17 := P16.extN e17
    have N17 := ((LtN.of pl1 tt1).lt L16).xt e17 t17
    clear F16 P16 L16 e17
    walk_at "go"
    refine mk_fix P17 (by omega) G fun g H18 e18 ng X => ?_
    have F18 := F17.ext e18
    obtain ⟨dx, q1, h1⟩ := F18.ins
    obtain ⟨dy, q2, h2⟩ := X.ins
    refine ⟨f, g, dx, dy, _, _, rfl, rfl, h1, h2, f, g, n, n, ps, ps, rfl, F18, X, ⟨_, rfl⟩, ?_⟩
    rw [decide_eq_true rfl, decide_eq_true rfl, Bool.and_true]
    walk_at "go"
    have N18 := N17.ext e18
    exact ⟨_, _, _, _, _, _, _, _, _, _, _, _, _, _, _, _, rfl, SqL.laterN hS np e1 N18, N18.tb⟩
end
end Lv

set_option Elab.async false
set_option linter.all false
set_option maxRecDepth 100000
set_option maxHeartbeats 0
/-! The top's run. -/
namespace Lv
open PySem PySem.Spec PyProof.Rows L2 OwX
abbrev R : PySem.W.OpenRow := PySem.W.OpenLaw.row PySem.Challenge.rw_levelcascades_k24_value_forms
abbrev hk : PySem.W.Hook := HeZ.hookZ 5 fb fn tf
def ob (s : PySem.W.SharedT) : HeZ.AlZ := HeZ.obsZ 5 fb fn tf (HandSHeadRun.getT s)
theorem ob_eq (s : PySem.W.SharedT) : ob s = hk.obs s.abs := HeZ.obsZ_eq (HandSHeadRun.getT_eq s)
theorem run (w : World) : HandSHeadRun.RunEq R (PySem.W.view R.prog [lawAt]) hk ob 8000 names w := by
  intro os
  kernel_rfl
end Lv

set_option Elab.async false
set_option linter.all false
set_option maxRecDepth 100000
set_option maxHeartbeats 0
/-! The law holds. -/
namespace Lv
open PySem PySem.Spec PyProof.Rows L2 OwX
theorem no_exc (P : Program) (w : World) (H : Hp) (s : Shared) (e : Value) (s' : Shared) (h : L2.CX P w [] H s (fun _ _ _ => False) e s') : False := by
  obtain ⟨_, _, _, _, _, _, _, _, _, _, _, _, z⟩ := h
  exact z
theorem facts {w : World} {K : PySem.W.Frag} {h : Heap} {mg : Str → Option Value} {f : Addr} (X : K.In h) (G : h.Ns mainGlobals mg) (hfa : mg ("law" : Str) = some (.ref f)) (c : HeZ.SaysZ fb fn tf h K) : LamX.LawAtS PySem.Challenge.rw_levelcascades_k24_value_forms w K (L2.CX (PySem.Challenge.rw_levelcascades_k24_value_forms).prog w) 40 63 "script" mg f h := by
  have T : Tx K mg := ⟨h, X, G, c⟩
  obtain ⟨fd, F⟩ := T.d_law
  have e := hfa.symm.trans T.g_law
  cases e
  have b := FunD.bindsA (ps := ["script"]) F fun _ _ _ _ _ _ us hl => match us, hl with | [_], _ => rfl
  refine ⟨fd, tf.map (He.cT K), sp_law K, fun p hp => ?_, fun p hp => ?_, fun p hp => ?_, fun s v => b s [v] rfl, fun H a ns hl hb hT hS => ⟨a, ns, rfl, hS, hl, hb, tabs_nil fun p hp => hT _ (List.mem_map.mpr ⟨p, hp, rfl⟩), fun _ => rfl⟩, fun base _ _ tb => ok_law T (fun q hq => tb _ (List.mem_map.mpr ⟨q, hq, rfl⟩)) F⟩
  · obtain ⟨q, hq, rfl⟩ := List.mem_map.mp hp
    exact c.empty q hq
  · obtain ⟨q, hq, rfl⟩ := List.mem_map.mp hp
    exact c.out q hq
  · obtain ⟨q, hq, rfl⟩ := List.mem_map.mp hp
    exact PySem.W.codeHd_of_K X (c.hd q hq)
end Lv
open PySem PySem.W PySem.Calls PyProof.Rows
theorem PySem.Challenge.cw_levelcascades_k24_value_forms_holds : PySem.Challenge.rw_levelcascades_k24_value_forms.Holds := by
  w_on; o_law
  refine HandSHeadRun.head_any (r := OpenLaw.row PySem.Challenge.rw_levelcascades_k24_value_forms) (q := view (OpenLaw.row PySem.Challenge.rw_levelcascades_k24_value_forms).prog [Lv.lawAt]) (H := Lv.hk) (ob := Lv.ob) (M := 8000) (loose := Lv.names) (d := HandSHeadRun.topDef (OpenLaw.row PySem.Challenge.rw_levelcascades_k24_value_forms).prog Lv.lawAt) (kwd := []) Lv.ob_eq
    (by kernel_rfl) (fun s => by kernel_rfl) Lv.run (by kernel_rfl) (by kernel_rfl) (by kernel_rfl) (by rfl) (by first | assumption | decide +kernel) (by decide +kernel) ⟨rfl, rfl, rfl, rfl, rfl, by decide +kernel⟩ ?hw ?hc
  case hw => w_witness2
  case hc =>
    refine LamX.walk_ofTsE (l := PySem.Challenge.rw_levelcascades_k24_value_forms) (n := 63) (k := 40) (x := "script") (CX := fun w => L2.CX (PySem.Challenge.rw_levelcascades_k24_value_forms).prog w) rfl (by decide) (by kernel_rfl) ⟨rfl, by decide, by decide⟩ ?F (fun w H s e s' h => Lv.no_exc _ _ H s e s' h)
    intro w mg fa h Y G hmg0
    obtain ⟨K, KX, c⟩ := Y
    have hmg : mg ("law" : PySem.Str) = some (.ref fa) := by
      have e : (HandSHeadRun.topDef (OpenLaw.row PySem.Challenge.rw_levelcascades_k24_value_forms).prog Lv.lawAt).name = ("law" : PySem.Str) := by kernel_rfl
      rw [← e]
      exact hmg0
    exact ⟨K, KX, Lv.facts KX G hmg c⟩

