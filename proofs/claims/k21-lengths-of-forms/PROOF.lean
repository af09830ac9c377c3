import PyProof.Rows.All
import Wide.All
import OpenK.AllK
import Wide.FinOn
import KE.KOpsOwn
import HandS.ForMost
import HandS.ForExc
import HandS.More
import HandS.Star
import HandS.ClsMeth
import HandS.OwnEq
import HandS.ExcInit
import HandS.Property
import KE.KStateDown
import HandS.Head0
import HandS.Head1
import HandS.Head2
import HandS.HeadEnd
import HandS.HeadHook1
import HandS.HeadHook2
import HandS.HeadHook3
import HandS.HeadHook4
import HandS.HeadNt
import HandS.HeadWalk
import KE.KExcIs
import HandS.IsInst
import HandS.ExcIs
import HandS.ExcField
import HandS.TryMany
import HandS.Wide
import HandS.SetFor
import HandS.Style
import HandS.Flow
import HandS.Deep
import HandS.Codes
import HandS.Comp
import HandS.Zip
import HandS.Walk
import HandS.TupAny
import HandS.TupMul
import HandS.Small
import HandS.NoneIn
import HandS.DictComp
import PySem.Challenge.RW_levelcascades_k21_lengths_of_forms_refus
import HandS.Lambda
import HandS.Nested
import HandS.NestedK
import HandS.Zip0
set_option Elab.async false
set_option linter.all false
set_option maxRecDepth 100000
set_option maxHeartbeats 0
/-! Operators that a class of the text defines itself, as rules of readings; static methods. -/
namespace OwX
open PySem PySem.Spec PyProof.Rows L2 ClX
section
variable {X : Cx} {CX : CXT} {k : Nat} {C g : Addr} {sp : Sp} {E : XK} {pins : List (Addr × Obj)} {σ : L2.St} {H : Hp} {s : Shared} {Q : VK}
/-- a def runs at an around with the body's frames -/
theorem call_own {A' : Around} {us : List Value} {vs : List V} (F : FnR X.prog X.w X.K X.mg X.base CX k g sp) (hr : Room k A') (hfr : A'.frames = X.A.frames) (hx : Passes CX X E) (I : Inv X pins σ H s) (r : Vals vs us) (h : sp vs H Q E) :
    wpAny (model X.prog X.w) A' (call (.ref g) us) (EP X pins σ Q) X.xe s := by
  have e := I.env0
  refine wpAny_call (codeAny_mono (F A' X.stack s H us vs Q E hr ⟨by rw [hfr]; exact e.frames, e.mod, e.bs, e.bsz, e.funs, e.frf, e.hok, e.bare⟩ r h) fun r s' hq => ?_)
  cases r with
  | error er => exact hx pins σ H s er s' I hq
  | ok fl =>
    cases fl with
    | ret u => exact I.after hq
    | next => exact False.elim hq
    | brk => exact False.elim hq
    | cont => exact False.elim hq
/-- an instance of C, as the library looks at it -/
theorem inst_at {a dx : Addr} {fs : List (Str × V)} (I : Inv X pins σ H s) (h : H a = some (.ins C dx fs)) : ∃ od, PySem.W.InstAt s.heap a (PySem.W.instObj C dx) C (some od) := by
  obtain ⟨mA, O, _⟩ := ins_get I.hok h
  obtain ⟨od, J, _⟩ := O.look
  exact ⟨od, J⟩
/-- x and y are instances of C; the own method's promise -/
def rOwn2 (C : Addr) (sp : Sp) (E : XK) : R2 := fun x y H Q => ∃ a b dx dy fs gs, x = .ref a ∧ y = .ref b ∧ H a = some (.ins C dx fs) ∧ H b = some (.ins C dy gs) ∧ sp [.ref a, .ref b] H (fun v H' => (∃ c, v = .bl c) ∧ Q v H') E
/-- x a value, y an instance: in, not in -/
def rOwnIn (C : Addr) (sp : Sp) (E : XK) (neg : Bool) : R2 := fun x y H Q => ∃ b dy gs, y = .ref b ∧ H b = some (.ins C dy gs) ∧ sp [.ref b, x] H (fun v H' => ∃ c, v = .bl c ∧ Q (.bl (if neg then !c else c)) H') E
/-- x and y are instances, a value that is no NotImplemented comes out -/
def rOwnB (C : Addr) (sp : Sp) (E : XK) : R2 := fun x y H Q => ∃ a b dx dy fs gs, x = .ref a ∧ y = .ref b ∧ H a = some (.ins C dx fs) ∧ H b = some (.ins C dy gs) ∧ sp [.ref a, .ref b] H Q E
theorem cmpBack {v : Value} {s' : Shared} {P : Value → Shared → Prop} {w : V} (r : RelV w v) (h : P v s') : PySem.W.CmpBack P v s' := by
  cases w with
  | non => cases r; exact h
  | bl b => cases r; exact h
  | int i => obtain ⟨t, rfl⟩ := r; exact h
  | str x => obtain ⟨t, rfl⟩ := r; exact h
  | byt b => obtain ⟨t, rfl⟩ := r; exact h
  | flt b => obtain ⟨t, rfl⟩ := r; exact h
  | ref a => cases r; exact h
  | ty n => cases r; exact h
theorem cmp_own {op : CmpOp} {n : Str} (hn : (cmpInfo op).2.1 = n) (m : Meth X.K C n g) (F : FnR X.prog X.w X.K X.mg X.base CX k g sp) (hr : Room k X.A) (hx : Passes CX X E) {x y : V} {v u : Value} (I : Inv X pins σ H s) (rx : RelV x v) (ry : RelV y u)
    (h : rOwn2 C sp E x y H Q) : wpAny (model X.prog X.w) X.A (richCompare op v u) (EP X pins σ Q) X.xe s := by
  obtain ⟨a, b, dx, dy, fs, gs, rfl, rfl, ha, hb, hs⟩ := h
  cases rx
  cases ry
  obtain ⟨od, J⟩ := inst_at I ha
  obtain ⟨od', J'⟩ := inst_at I hb
  obtain ⟨m0, hF⟩ := I.fr
  refine PySem.W.cmp_K (op := op) (tb := .ref C) hr.units0 hF I.ok.mod.kin J J'.type (by simp [PySem.W.notFirst]) (by rw [hn]; exact m.at_) m.fn ?_
  refine thn (call_own (vs := [.ref a, .ref b]) F hr rfl hx I (.cons rfl (.cons rfl .nil)) hs) fun r s' hq => ?_
  obtain ⟨w, H', I', rw', hc, q⟩ := hq
  exact cmpBack rw' ⟨w, H', I', rw', q⟩
theorem op_eqO (m : Meth X.K C "__eq__" g) (F : FnR X.prog X.w X.K X.mg X.base CX k g sp) (hr : Room k X.A) (hx : Passes CX X E) : OpR X (compareOp .Eq) (rOwn2 C sp E) := by
  intro pins s σ H x y v u Q I rx ry hq
  exact cmp_own (op := .Eq) rfl m F hr hx I rx ry hq
theorem op_leO (m : Meth X.K C "__le__" g) (F : FnR X.prog X.w X.K X.mg X.base CX k g sp) (hr : Room k X.A) (hx : Passes CX X E) : OpR X (compareOp .LtE) (rOwn2 C sp E) := by
  intro pins s σ H x y v u Q I rx ry hq
  exact cmp_own (op := .LtE) rfl m F hr hx I rx ry hq
theorem op_inO (m : Meth X.K C "__contains__" g) (F : FnR X.prog X.w X.K X.mg X.base CX k g sp) (hr : Room k X.A) (hx : Passes CX X E) : OpR X (compareOp .In) (rOwnIn C sp E false) := by
  intro pins s σ H x y v u Q I rx ry hq
  obtain ⟨b, dy, gs, rfl, hb, hs⟩ := hq
  cases ry
  obtain ⟨od, J⟩ := inst_at I hb
  obtain ⟨m0, hF⟩ := I.fr
  refine PySem.W.in_K hF I.ok.mod.kin J m.at_ m.fn ?_
  refine thn (call_own (vs := [.ref b, x]) F hr rfl hx I (.cons rfl (.cons rx .nil)) hs) fun r s' hq => ?_
  obtain ⟨w, H', I', rw', c, rfl, q⟩ := hq
  cases rw'
  exact wpAny_truthy_bool ⟨.bl c, H', I', rfl, q⟩
theorem op_niO (m : Meth X.K C "__contains__" g) (F : FnR X.prog X.w X.K X.mg X.base CX k g sp) (hr : Room k X.A) (hx : Passes CX X E) : OpR X (compareOp .NotIn) (rOwnIn C sp E true) := by
  intro pins s σ H x y v u Q I rx ry hq
  obtain ⟨b, dy, gs, rfl, hb, hs⟩ := hq
  cases ry
  obtain ⟨od, J⟩ := inst_at I hb
  obtain ⟨m0, hF⟩ := I.fr
  refine PySem.W.notIn_K hF I.ok.mod.kin J m.at_ m.fn ?_
  refine thn (call_own (vs := [.ref b, x]) F hr rfl hx I (.cons rfl (.cons rx .nil)) hs) fun r s' hq => ?_
  obtain ⟨w, H', I', rw', c, rfl, q⟩ := hq
  cases rw'
  exact wpAny_truthy_bool ⟨.bl (!c), H', I', rfl, q⟩
/-- a binary operator of two instances -/
theorem op_binO {op : Operator} {n : Str} (hn : PySem.dunder op.info.2 = n) (hc : PySem.W.selfFirst X.K C = true) (m : Meth X.K C n g) (F : FnR X.prog X.w X.K X.mg X.base CX k g sp) (hr : Room k X.A) (hx : Passes CX X E) : OpR X (binaryOp op) (rOwnB C sp E) := by
  intro pins s σ H x y v u Q I rx ry hq
  obtain ⟨a, b, dx, dy, fs, gs, rfl, rfl, ha, hb, hs⟩ := hq
  cases rx
  cases ry
  obtain ⟨od, J⟩ := inst_at I ha
  obtain ⟨od', J'⟩ := inst_at I hb
  obtain ⟨m0, hF⟩ := I.fr
  refine PySem.W.binop_K hF I.ok.mod.kin J J'.type hc (by rw [hn]; exact m.at_) m.fn ?_
  refine thn (call_own (vs := [.ref a, .ref b]) F hr rfl hx I (.cons rfl (.cons rfl .nil)) hs) fun r s' hq => ?_
  obtain ⟨w, H', I', rw', q⟩ := hq
  exact cmpBack rw' ⟨w, H', I', rw', q⟩
/-- ~x, -x -/
def rOwn1 (C : Addr) (sp : Sp) (E : XK) : V → Hp → VK → Prop := fun x H Q => ∃ a dx fs, x = .ref a ∧ H a = some (.ins C dx fs) ∧ sp [.ref a] H Q E
theorem un_invO (m : Meth X.K C "__invert__" g) (F : FnR X.prog X.w X.K X.mg X.base CX k g sp) (hr : Room k X.A) (hx : Passes CX X E) : UnR X (unaryOp .Invert) (rOwn1 C sp E) := by
  intro pins s σ H x v Q I rx hq
  obtain ⟨a, dx, fs, rfl, ha, hs⟩ := hq
  cases rx
  obtain ⟨od, J⟩ := inst_at I ha
  obtain ⟨m0, hF⟩ := I.fr
  exact PySem.W.ksp_inv hF I.ok.mod.kin J m.at_ m.fn (call_own (vs := [.ref a]) F hr rfl hx I (.cons rfl .nil) hs)
/-- len(x) by an own __len__ -/
def rOwnLen (C : Addr) (sp : Sp) (E : XK) : List V → Hp → VK → Prop := fun xs H Q => ∃ a dx fs, xs = [.ref a] ∧ H a = some (.ins C dx fs) ∧ sp [.ref a] H (fun v H' => ∃ n : Int, v = .int n ∧ 0 ≤ n ∧ n < 2 ^ 63 ∧ Q (.int n) H') E
theorem call_lenO (m : Meth X.K C "__len__" g) (F : FnR X.prog X.w X.K X.mg X.base CX k g sp) (hr : Room (k + 1) X.A) (hx : Passes CX X E) : CallR X (.builtin "len") (rOwnLen C sp E) := by
  intro pins s σ H xs us Q I r h
  obtain ⟨a, dx, fs, rfl, ha, hs⟩ := h
  obtain ⟨u, rfl, rx⟩ := vals1 r
  cases rx
  obtain ⟨od, J⟩ := inst_at I ha
  obtain ⟨m0, hF⟩ := I.fr
  refine PySem.W.len_K hF I.ok.mod.kin J m.at_ m.fn ?_
  refine thn (call_own (vs := [.ref a]) F hr.in1 rfl hx I (.cons rfl .nil) hs) fun r s' hq => ?_
  obtain ⟨w, H', I', rw', n, rfl, h0, h1, q⟩ := hq
  obtain ⟨t, rfl⟩ := rw'
  exact ⟨⟨h0, h1⟩, ⟨.int n, H', I'.tok _, ⟨_, rfl⟩, q⟩⟩
/-- the truth of an instance by its own __bool__ -/
def rOwnTru (C : Addr) (sp : Sp) (E : XK) : V → Hp → (Bool → Hp → Prop) → Prop := fun x H Q => ∃ a dx fs, x = .ref a ∧ H a = some (.ins C dx fs) ∧ sp [.ref a] H (fun v H' => ∃ c, v = .bl c ∧ Q c H') E
theorem truthy_own (m : Meth X.K C "__bool__" g) (F : FnR X.prog X.w X.K X.mg X.base CX k g sp) {A' : Around} (hr : Room k A') (hfr : A'.frames = X.A.frames) (hx : Passes CX X E) {x : V} {v : Value} {Q : Bool → Hp → Prop} (I : Inv X pins σ H s) (rx : RelV x v) (h : rOwnTru C sp E x H Q) :
    wpAny (model X.prog X.w) A' (truthy v) (TP X pins σ Q) X.xe s := by
  obtain ⟨a, dx, fs, rfl, ha, hs⟩ := h
  cases rx
  obtain ⟨od, J⟩ := inst_at I ha
  obtain ⟨m0, hF⟩ := I.fr
  refine PySem.W.truthy_K hF I.ok.mod.kin J m.at_ m.fn ?_
  refine thn (call_own (vs := [.ref a]) F hr hfr hx I (.cons rfl .nil) hs) fun r s' hq => ?_
  obtain ⟨w, H', I', rw', c, rfl, q⟩ := hq
  cases rw'
  exact ⟨H', I', q⟩
theorem tru_own (m : Meth X.K C "__bool__" g) (F : FnR X.prog X.w X.K X.mg X.base CX k g sp) (hr : Room k X.A) (hx : Passes CX X E) : TruR X (rOwnTru C sp E) := by
  intro pins s σ H x v Q I rx h
  exact truthy_own m F hr rfl hx I rx h
/-- x[i] by an own __getitem__ -/
def rOwnIx (C : Addr) (sp : Sp) (E : XK) : R2 := fun x y H Q => ∃ a dx fs, x = .ref a ∧ H a = some (.ins C dx fs) ∧ sp [.ref a, y] H Q E
theorem pe_ixO {a b : Expr} {ta tb : TE} {pos : Pos} (m : Meth X.K C "__getitem__" g) (hf : PySem.W.fnIn X.K g = true) (F : FnR X.prog X.w X.K X.mg X.base CX k g sp) (hr : Room (k + 1) X.A) (hx : Passes CX X E) (ha : PE X a ta) (hb : PE X b tb)
    (hs : ∀ x i, subscripted b true (.ref x) i = runValue (.builtin "lifetime.subscript" ⟨[.ref x, i], []⟩) := by intro _ _; rfl) : PE X (.Subscript a b pos) (tOp (rOwnIx C sp E) ta tb) := by
  refine ⟨fun pins s σ H Q I h => ?_⟩
  refine Subscript_ (binT ha hb I h fun v u s2 x y H2 I2 rx ry q => ?_)
  obtain ⟨p, dx, fs, rfl, hp, hsp⟩ := q
  cases rx
  obtain ⟨od, J⟩ := inst_at I2 hp
  obtain ⟨m0, hF⟩ := I2.fr
  exact PySem.W.sub_K hF I2.ok.mod.kin J m.at_ hf m.fn (call_own (vs := [.ref p, y]) F hr.in1 rfl hx I2 (.cons rfl (.cons ry .nil)) hsp) (hs _ _)
/-- x[i] = v by an own __setitem__ -/
def rOwnSet (C : Addr) (sp : Sp) (E : XK) : TSet := fun o i v H Q => ∃ a dx fs, o = .ref a ∧ H a = some (.ins C dx fs) ∧ sp [.ref a, i, v] H (fun _ H' => Q H') E
theorem set_own (hq : PySem.W.noSeq X.K C = true) (m : Meth X.K C "__setitem__" g) (F : FnR X.prog X.w X.K X.mg X.base CX k g sp) (hr : Room k X.A) (hx : Passes CX X E) : PSet X (rOwnSet C sp E) := by
  intro pins s σ H o i v ou iu vu Q I ro ri rv h
  obtain ⟨a, dx, fs, rfl, ha, hs⟩ := h
  cases ro
  obtain ⟨od, J⟩ := inst_at I ha
  obtain ⟨m0, hF⟩ := I.fr
  refine PySem.W.ksp_setItem hF I.ok.mod.kin J hq m.at_ m.fn ?_
  refine thn (call_own (vs := [.ref a, i, v]) F hr rfl hx I (.cons rfl (.cons ri (.cons rv .nil))) hs) fun r s' z => ?_
  obtain ⟨w, H', I', rw', q⟩ := z
  exact ⟨H', I', q⟩
/-- C.m is a static method: its record at p, its def at g -/
structure SMet (K : PySem.W.Frag) (C : Addr) (mc : Value) (m : Str) (p g : Addr) : Prop where
  at_ : PySem.W.findCls K (.ref C) mc m = some (.get (.builtin "staticmethod.__get__") (.ref p) .none (.ref C))
  rc : ∃ rest, PySem.W.recIn K p "staticmethod" = some (.ref g :: rest)
  kp : PySem.W.keepIn K (.ref g) = true
theorem getmethsm_ok {pl : Sem Bool} {p : Addr} {mc : Value} {m : Str} {E : Value → Shared → Prop} {A : Around} {Q : Value × List Value → Shared → Prop} (I : Inv X pins σ H s) (r : CRead X.K C mc) (c : SMet X.K C mc m p g)
    (h : ∀ s', Inv X pins σ H s' → Q (.ref g, []) s') : wpAny (model X.prog X.w) A (getMethod (.ref C) m pl) Q E s := by
  obtain ⟨rest, hp⟩ := c.rc
  refine PySem.W.method_cls I.kIn r.ga (PySem.W.cls_bind I.kIn r.rd c.at_ ?_)
  refine wpAny_call (PySem.W.sm_get (s := { s with toks := s.toks + 1 }) I.kIn hp (PySem.W.handed_on rfl ?_))
  exact h _ (I.tok _)
/-- o.m(e, ..), o the class -/
def tSMeth (C : Addr) (sp : Sp) (E : XK) (ta : TE) (t : TA) : TE := fun σ H Q => ta σ H fun x H1 => x = .ref C ∧ t σ H1 fun vs H2 => sp vs H2 Q E
theorem pe_smeth {o e : Expr} {es : List Expr} {m : Str} {mc : Value} {p : Addr} {pos apos : Pos} {ta : TE} {t : TA} {pl : Sem Bool} (he : PE X o ta) (r : CRead X.K C mc) (c : SMet X.K C mc m p g) (F : FnR X.prog X.w X.K X.mg X.base CX k g sp) (hr : Room k X.A) (hx : Passes CX X E) (ha : PA X (e :: es) t)
    (hst : starEach (e :: es) X.env = (false, eval e X.env) :: starEach es X.env := by rfl) (hpl : (backTo pos (starEach es X.env)).any (·.1) = false := by rfl)
    (ht : eval (.Call (.Attribute o m apos) (e :: es) [] pos) X.env = (do
      let ov ← eval o X.env
      standAt apos.atName
      let (f, first) ← holding [ov] (getMethod ov m pl)
      callWith pos f first (backTo pos (starEach (e :: es) X.env)) (backToKw pos (keywordEach [] X.env))) := by rfl) :
    PE X (.Call (.Attribute o m apos) (e :: es) [] pos) (tSMeth C sp E ta t) := by
  refine ⟨fun pins s σ H Q I h => ?_⟩
  refine PySem.W.methodCall_KW (pl := pl) (thn (he.run pins s σ H _ I h) fun u s1 ⟨x, H1, I1, rx, ex, q⟩ => ?_) ht
  subst ex
  obtain rfl : u = Value.ref C := rx
  refine getmethsm_ok I1 r c fun s2 I2 => ?_
  refine PySem.W.callWith_K (first := []) (h₀ := X.base) I.ok.mod.kin c.kp (thn (ha.run pos _ s2 σ H1 _ I2 q) fun us s3 ⟨vs, H2, I3, rv, q2⟩ => ⟨I3.kIn, ?_⟩) hst hpl
  exact call_own F hr rfl hx I3 rv q2
theorem pe_smeth0 {o : Expr} {m : Str} {mc : Value} {p : Addr} {pos apos : Pos} {ta : TE} {pl : Sem Bool} (he : PE X o ta) (r : CRead X.K C mc) (c : SMet X.K C mc m p g) (F : FnR X.prog X.w X.K X.mg X.base CX k g sp) (hr : Room k X.A) (hx : Passes CX X E)
    (ht : eval (.Call (.Attribute o m apos) [] [] pos) X.env = (do
      let ov ← eval o X.env
      standAt apos.atName
      let (f, first) ← holding [ov] (getMethod ov m pl)
      callWith pos f first (backTo pos (starEach [] X.env)) (backToKw pos (keywordEach [] X.env))) := by rfl) :
    PE X (.Call (.Attribute o m apos) [] [] pos) (tSMeth C sp E ta tNil) := by
  refine ⟨fun pins s σ H Q I h => ?_⟩
  refine PySem.W.methodCall_KW (pl := pl) (thn (he.run pins s σ H _ I h) fun u s1 ⟨x, H1, I1, rx, ex, q⟩ => ?_) ht
  subst ex
  obtain rfl : u = Value.ref C := rx
  refine getmethsm_ok I1 r c fun s2 I2 => ?_
  exact PySem.W.callWith_K0 (first := []) I2.kIn c.kp (call_own F hr rfl hx I2 .nil q)
end
end OwX

set_option Elab.async false
set_option linter.all false
set_option maxRecDepth 100000
set_option maxHeartbeats 0
/-! A Hook of one's own: Bools of K, defs at any address, empty tables of code objects. -/
namespace HeZ
open PySem PySem.Spec PyProof.Rows L2
abbrev Fb := PySem.W.Frag → Bool
def obsK (fb : List Fb) (fn : List He5.DefA) (K : PySem.W.Frag) : He.AlD := ((fb.all fun f => f K) && fn.all fun d => d.ok K, fn.map fun d => He5.fnA K (d.at_ K))
abbrev AlZ : Type := He.AlD × Bool
def obsZ (n : Nat) (fb : List Fb) (fn : List He5.DefA) (tf : List He.Defn) (g : Addr → Option Obj) : AlZ := (obsK fb fn (He.frT g (He5.asA g n)), He.tabsB g tf (He.frT g (He5.asA g n)))
def valZ (fn : List He5.DefA) : AlZ := ((true, fn.map He5.DefA.val), true)
structure SaysZ (fb : List Fb) (fn : List He5.DefA) (tf : List He.Defn) (h : Heap) (K : PySem.W.Frag) : Prop where
  t : obsK fb fn K = (true, fn.map He5.DefA.val)
  hd : ∀ p ∈ tf, PySem.W.codeHdIn K (He.cT K p).1 (He.cT K p).2 = true
  out : ∀ p ∈ tf, K.lookup (He.cT K p).2 = none
  empty : ∀ p ∈ tf, h.get? (He.cT K p).2 = some { cls := .none, data := .fields #[] }
theorem saysZ_of {n : Nat} {fb : List Fb} {fn : List He5.DefA} {tf : List He.Defn} {h : Heap} (e : obsZ n fb fn tf h.get? = valZ fn) : SaysZ fb fn tf h (He.frT h.get? (He5.asA h.get? n)) := by
  have e1 : obsK fb fn (He.frT h.get? (He5.asA h.get? n)) = (true, fn.map He5.DefA.val) := congrArg (fun z : AlZ => z.1) e
  have h2 : He.tabsB h.get? tf (He.frT h.get? (He5.asA h.get? n)) = true := congrArg (fun z : AlZ => z.2) e
  have key : ∀ p ∈ tf, PySem.W.codeHdIn (He.frT h.get? (He5.asA h.get? n)) (He.cT (He.frT h.get? (He5.asA h.get? n)) p).1 (He.cT (He.frT h.get? (He5.asA h.get? n)) p).2 = true ∧ ∃ o, h.get? (He.cT (He.frT h.get? (He5.asA h.get? n)) p).2 = some o ∧ He.emptyTab o = true := fun p hp => by
    obtain ⟨h3, h4⟩ := He.ba (List.all_eq_true.mp h2 p hp)
    refine ⟨h3, ?_⟩
    cases q : h.get? (He.cT (He.frT h.get? (He5.asA h.get? n)) p).2 with
    | none =>
      rw [q] at h4
      cases h4
    | some o =>
      rw [q] at h4
      exact ⟨o, rfl, h4⟩
  exact ⟨e1, fun p hp => (key p hp).1, fun p hp => by
    obtain ⟨_, o, q, z⟩ := key p hp
    exact He.frT_none q z, fun p hp => by
    obtain ⟨_, o, q, z⟩ := key p hp
    rw [q, He.emptyTab_eq z]⟩
def hookZ (n : Nat) (fb : List Fb) (fn : List He5.DefA) (tf : List He.Defn) : PySem.W.Hook where
  α := AlZ
  obs := fun s => obsZ n fb fn tf s.heap.get?
  val := fun _ => valZ fn
  says := fun _ h => ∃ K : PySem.W.Frag, K.In h ∧ SaysZ fb fn tf h K
  of := fun _ _ e => ⟨_, He.frT_in, saysZ_of e⟩
  keeps := fun _ _ _ ⟨K, hK, c⟩ k => ⟨K, PySem.W.Frag.In.keeps hK k, ⟨c.t, c.hd, c.out, fun p hp => k _ _ (c.empty p hp)⟩⟩
theorem obsZ_eq {n : Nat} {fb : List Fb} {fn : List He5.DefA} {tf : List He.Defn} {g : Addr → Option Obj} {s : Shared} (h : ∀ a, g a = s.heap.get? a) : obsZ n fb fn tf g = (hookZ n fb fn tf).obs s := by
  have e : g = s.heap.get? := funext h
  rw [e] <;> rfl
section
variable {fb : List Fb} {fn : List He5.DefA} {tf : List He.Defn} {h : Heap} {K : PySem.W.Frag}
theorem SaysZ.fact (c : SaysZ fb fn tf h K) (i : Nat) {f : Fb} (e : fb[i]? = some f := by rfl) : f K = true := by
  have c1 := (He.ba (show ((fb.all fun f => f K) && fn.all fun d => d.ok K) = true from congrArg (fun z : He.AlD => z.1) c.t)).1
  exact List.all_eq_true.mp c1 f (List.mem_of_getElem? e)
theorem SaysZ.def_ (c : SaysZ fb fn tf h K) (i : Nat) {d : He5.DefA} (e0 : fn[i]? = some d := by rfl) : ∃ fd, L2.FunD K d.name d.qual d.params d.body d.scope (d.dvs K) (d.kws K) (d.at_ K) fd := by
  have c2 := (He.ba (show ((fb.all fun f => f K) && fn.all fun d => d.ok K) = true from congrArg (fun z : He.AlD => z.1) c.t)).2
  have e : fn.map (fun d => He5.fnA K (d.at_ K)) = fn.map He5.DefA.val := congrArg (fun z : He.AlD => z.2) c.t
  have e2 : (fn.map fun d => He5.fnA K (d.at_ K))[i]? = (fn.map He5.DefA.val)[i]? := by rw [e]
  rw [List.getElem?_map, List.getElem?_map, e0] at e2
  exact He5.DefA.funD (Option.some.inj e2) (List.all_eq_true.mp c2 d (List.mem_of_getElem? e0))
end
end HeZ

set_option Elab.async false
set_option linter.all false
set_option maxRecDepth 100000
set_option maxHeartbeats 0
/-! Exceptions of the text with their own dict: isinstance, facts by Bools; own operators within a try. -/
namespace OwX
open PySem PySem.Spec PyProof.Rows L2 ClX
/-! ### facts by Bools -/
theorem ba {a b : Bool} (h : (a && b) = true) : a = true ∧ b = true := Bool.and_eq_true_iff.mp h
def dq (a b : Option (Option Value)) : Bool := decide (a = b)
theorem dq_ok {a b : Option (Option Value)} (h : dq a b = true) : a = b := of_decide_eq_true h
/-- an exception class: its object's form -/
def oexB (K : PySem.W.Frag) (C : Addr) : Bool := (match K.lookup C with
  | some ⟨.type t, _, .cls cd, sl⟩ => decide (t = "type") && (match cd.mro, sl.toList with
    | .ref C1 :: bm, [_, _, _, _, some (.builtin n), _] => decide (C1 = C) && (decide (n = "ValueError.__new__") && (cd.hasDict && (!cd.hasDel && PySem.HandSPX.refsVE bm)))
    | _, _ => false)
  | _ => false) && (dq (PySem.W.findIn K (.ref C) "__setattr__") (some (some (.builtin "object.__setattr__"))) && (decide (PySem.W.subIn K (.ref C) (.type "BaseException") = some true) && (decide (PySem.W.typeIn K (.ref C) = some (.type "type")) && PySem.W.keepIn K (.ref C))))
theorem oex_ok {K : PySem.W.Frag} {C : Addr} (h : oexB K C = true) : OexC K C := by
  obtain ⟨h0, h⟩ := ba h
  obtain ⟨h1, h⟩ := ba h
  obtain ⟨h2, h⟩ := ba h
  obtain ⟨h3, h4⟩ := ba h
  refine ⟨?_, dq_ok h1, of_decide_eq_true h2, of_decide_eq_true h3, h4⟩
  clear h1 h2 h3 h4
  split at h0
  · rename_i t dd cd sl ho
    obtain ⟨e0, h6⟩ := ba h0
    have e0 := of_decide_eq_true e0
    clear h0
    subst e0
    split at h6
    · rename_i C1 bm k0 k1 k2 k3 n k5 hm hs
      obtain ⟨e1, h0⟩ := ba h6
      obtain ⟨e2, h0⟩ := ba h0
      obtain ⟨e3, h0⟩ := ba h0
      obtain ⟨e4, e5⟩ := ba h0
      have e1 := of_decide_eq_true e1
      have e2 := of_decide_eq_true e2
      subst e1 e2
      obtain ⟨nm, bs, mro, ns, qn, hd, sn, sub, ab, col, del⟩ := cd
      have f4 : del = false := by simpa using e4
      have f5 : mro = .ref C1 :: bm := hm
      have f3 : hd = true := e3
      clear e3 e4 hm h0 h6
      subst f3
      subst f4
      subst f5
      obtain ⟨l⟩ := sl
      have f6 : l = [k0, k1, k2, k3, some (.builtin "ValueError.__new__"), k5] := hs
      subst f6
      exact ⟨nm, qn, ns, bs, bm, sn, sub, ab, col, dd, k0, k1, k2, k3, k5, ho, e5⟩
    · cases h6
  · cases h0
/-- what isinstance asks of a class of instances -/
structure IsC (K : PySem.W.Frag) (C : Addr) : Prop where
  ha : PySem.W.findIn K (.ref C) "__class__" = some (some (.builtin "object.__class__"))
  hn : PySem.W.specialIn K (.builtin "object.__class__") "__get__" = some (some (.builtin "getset_descriptor.__get__"))
  ht : PySem.W.takesIn K (.builtin "object.__class__") = some true
  hm : PySem.W.mroIn K C (.type "object") = some true
def isB (K : PySem.W.Frag) (C : Addr) : Bool := dq (PySem.W.findIn K (.ref C) "__class__") (some (some (.builtin "object.__class__"))) && (dq (PySem.W.specialIn K (.builtin "object.__class__") "__get__") (some (some (.builtin "getset_descriptor.__get__"))) &&
  (decide (PySem.W.takesIn K (.builtin "object.__class__") = some true) && decide (PySem.W.mroIn K C (.type "object") = some true)))
theorem is_ok {K : PySem.W.Frag} {C : Addr} (h : isB K C = true) : IsC K C := by
  obtain ⟨h1, h⟩ := ba h
  obtain ⟨h2, h⟩ := ba h
  obtain ⟨h3, h4⟩ := ba h
  exact ⟨dq_ok h1, dq_ok h2, of_decide_eq_true h3, of_decide_eq_true h4⟩
theorem tyx_ins {K : PySem.W.Frag} {H : Hp} {a C dx : Addr} {fs : List (Str × V)} (c : Cls K C) (i : IsC K C) (e : H a = some (.ins C dx fs)) : TyX K H (.ref a) (.ref C) := .base (.ins e c i.ha i.hn i.ht i.hm)
/-- isinstance(x, C) of K's classes -/
def kiB (K : PySem.W.Frag) (t u : Value) (b : Bool) : Bool := decide (PySem.W.kitOne K t u = some b)
theorem ki_ok {K : PySem.W.Frag} {t u : Value} {b : Bool} (h : kiB K t u b = true) : PySem.W.kitOne K t u = some b := of_decide_eq_true h
def exmB (K : PySem.W.Frag) (t u : Value) (b : Bool) : Bool := decide (PySem.W.exmOne K t u = some b)
theorem exm_ok {K : PySem.W.Frag} {t u : Value} {b : Bool} (h : exmB K t u b = true) : PySem.W.exmOne K t u = some b := of_decide_eq_true h
/-- the class reads as usual, its number slots are its own, it is no sequence -/
def creadB (K : PySem.W.Frag) (C : Addr) : Bool := PySem.W.readsIn K C (.type "type") && dq (PySem.W.specialIn K (.ref C) "__getattribute__") (some (some (.builtin "type.__getattribute__")))
theorem cread_ok {K : PySem.W.Frag} {C : Addr} (h : creadB K C = true) : CRead K C (.type "type") := by
  obtain ⟨h1, h2⟩ := ba h
  exact ⟨h1, dq_ok h2⟩
def smB (K : PySem.W.Frag) (C : Addr) (m : Str) : Bool := He5.wrapB K C "staticmethod" "staticmethod.__get__" m && PySem.W.keepIn K (.ref (He5.wf K C "staticmethod" m))
theorem sm_ok {K : PySem.W.Frag} {C : Addr} {m : Str} (h : smB K C m = true) : SMet K C (.type "type") m (He.ma K C m) (He5.wf K C "staticmethod" m) := by
  obtain ⟨h1, h2⟩ := ba h
  obtain ⟨h3, h4⟩ := He5.wrapB_ok h1
  exact ⟨h3, h4, h2⟩
def propB (K : PySem.W.Frag) (C : Addr) (f : Str) : Bool := dq (PySem.W.findIn K (.ref C) f) (some (some (.ref (He.ma K C f)))) && (dq (PySem.W.specialIn K (.ref (He.ma K C f)) "__get__") (some (some (.builtin "property.__get__"))) &&
  (decide (PySem.W.takesIn K (.ref (He.ma K C f)) = some true) && (match PySem.W.recIn K (He.ma K C f) "property" with
    | some (.ref _ :: _) => true
    | _ => false)))
theorem prop_ok {K : PySem.W.Frag} {C : Addr} {f : Str} (h : propB K C f = true) : PropOf K C f (He.ma K C f) (He5.wf K C "property" f) := by
  obtain ⟨h1, h⟩ := ba h
  obtain ⟨h2, h⟩ := ba h
  obtain ⟨h3, h4⟩ := ba h
  refine ⟨dq_ok h1, dq_ok h2, of_decide_eq_true h3, ?_⟩
  unfold He5.wf
  split at h4
  · rename_i g r e
    exact ⟨r, by rw [e]⟩
  · cases h4
/-- an exception class with isinstance and attributes -/
structure ExcK (K : PySem.W.Frag) (C : Addr) : Prop where
  ox : OexC K C
  xf : XfC K C
  is_ : IsC K C
  it : PySem.W.findIn K (.ref C) "__init__" = some (some (.ref (He.ma K C "__init__")))
  ti : PySem.W.typeIn K (.ref (He.ma K C "__init__")) = some (.type "function")
def excB (K : PySem.W.Frag) (C : Addr) : Bool := oexB K C && (xfB K C && (isB K C && (dq (PySem.W.findIn K (.ref C) "__init__") (some (some (.ref (He.ma K C "__init__")))) && decide (PySem.W.typeIn K (.ref (He.ma K C "__init__")) = some (.type "function")))))
theorem exc_ok {K : PySem.W.Frag} {C : Addr} (h : excB K C = true) : ExcK K C := by
  obtain ⟨h1, h⟩ := ba h
  obtain ⟨h2, h⟩ := ba h
  obtain ⟨h3, h⟩ := ba h
  obtain ⟨h4, h5⟩ := ba h
  exact ⟨oex_ok h1, xfB_ok h2, is_ok h3, dq_ok h4, of_decide_eq_true h5⟩
/-! ### isinstance of the exception that a suite holds -/
def rIsX (K : PySem.W.Frag) (D a : Addr) (cls : Value) (d : Option Addr) : List V → Hp → VK → Prop := fun xs H Q => ∃ (c : V) (cv : Value) (b : Bool) (dd : Addr) (fs : List (Str × V)), xs = [.ref a, c] ∧ ClsV c cv ∧ cls = .ref D ∧ d = some dd ∧ H dd = some (.xd fs) ∧ PySem.W.kitOne K (.ref D) cv = some b ∧ Q (.bl b) H
theorem call_isX {X : Cx} {a D : Addr} {oe : Obj} {cls : Value} {d : Option Addr} {pn : List (Addr × Obj)} (C : ExcK X.K D) (hz : Zc cls d oe) (hf : ∃ vs, oe.data = .fields vs) : CallR (X.suite a ((a, oe) :: pn)) (.builtin "isinstance") (rIsX X.K D a cls d) := by
  intro pins s σ H xs us Q I r h
  obtain ⟨c, cv, b, dd, fs, rfl, k, rfl, rfl, hd, e, q⟩ := h
  obtain ⟨u1, u2, rfl, r1, r2⟩ := vals2 r
  cases r1
  have e2 := k.eq r2
  subst e2
  obtain ⟨ha, _⟩ := I.pin (a, oe) (List.mem_append_left _ List.mem_cons_self)
  obtain ⟨vs, hv⟩ := hf
  obtain ⟨mA, hns, _⟩ := (show ObjOk X.prog X.w H s.heap dd (.xd fs) from I.hok dd _ hd)
  obtain ⟨od, ho, _⟩ := lookIn_ns hns
  have J : PySem.W.InstAt s.heap a oe D (some od) := ⟨ha, hz.1, by unfold PySem.W.notCls; rw [hv] <;> rfl, by rw [hz.2]; exact ho⟩
  have hc : (PySem.W.clsIn X.K D).isSome = true := by
    obtain ⟨cd, hc, _⟩ := PySem.W.any_some C.xf.hdC
    rw [hc] <;> rfl
  exact PySem.W.kia_one (PySem.W.kitx_exc hc C.xf.ga C.xf.gg C.xf.exC C.is_.ha C.is_.hn C.is_.ht C.is_.hm) I.kIn J e (fun z => nomatch z) fun tk => ⟨.bl b, H, I.kept (t' := tk) fun _ _ z => z, rfl, q⟩
/-! ### bool(x) of an instance with an own __bool__ -/
theorem bool_new_ref {prog : Program} {w : World} (l : Addr) : MeetsIn prog w (Builtin.«bool.__new__» ⟨[.type "bool", .ref l], []⟩)
    (fun A R s => wpAny (model prog w) A.in1 (truthy (.ref l)) (fun b s' => R (.ok (.ret (.bool b))) s') (fun e s' => R (.error e) s') s) :=
  .of_wp fun A R s h => by
    obtain ⟨hp, g, d, tk, os⟩ := s
    have f1 := F.conv_sub_bool
    repeat (any_goals (first | assumption | (refine wpAny_bind (wpAny_mono h (fun b s' q => ?_) fun e s' q => ?_)) | wp_step))
    all_goals first | exact q | exact ⟨_, rfl, q⟩ | skip
def rOwnBool (C : Addr) (sp : Sp) (E : XK) : List V → Hp → VK → Prop := fun xs H Q => ∃ a, xs = [.ref a] ∧ rOwnTru C sp E (.ref a) H fun b H' => Q (.bl b) H'
theorem call_boolO {X : Cx} {CX : CXT} {k : Nat} {C g : Addr} {sp : Sp} {E : XK} (m : Meth X.K C "__bool__" g) (F : FnR X.prog X.w X.K X.mg X.base CX k g sp) (hr : Room (k + 2) X.A) (hx : Passes CX X E) : CallR X (.type "bool") (rOwnBool C sp E) := by
  intro pins s σ H xs us Q I r h
  obtain ⟨a, rfl, h⟩ := h
  obtain ⟨u, rfl, rx⟩ := vals1 r
  cases rx
  refine callType_newIn PySem.F.called_bool PySem.F.newNe_bool (PySem.F.typeCall_bool_1 _) (PySem.F.newCall_bool_1 _) (fun obj => PySem.F.args_object_init_2 obj _) PySem.F.entry_bool_new (bool_new_ref a) ?_
  refine thn (truthy_own (x := .ref a) m F hr.in1.in1 rfl hx I rfl h) fun b s' q => ?_
  obtain ⟨H', I', q⟩ := q
  exact ⟨rfl, .bl b, H', I', rfl, q⟩
/-! ### own operators where what is raised is wished for at the slots -/
section
variable {X : Cx} {CX : CXT} {k : Nat} {C g : Addr} {sp : Sp} {E : L2.St → XK} {pins : List (Addr × Obj)} {σ : L2.St} {H : Hp} {s : Shared} {Q : VK}
theorem call_ownS {A' : Around} {us : List Value} {vs : List V} (F : FnR X.prog X.w X.K X.mg X.base CX k g sp) (hr : Room k A') (hfr : A'.frames = X.A.frames) (hx : ∀ σ, PassesAt CX X σ (E σ)) (I : Inv X pins σ H s) (r : Vals vs us) (h : sp vs H Q (E σ)) :
    wpAny (model X.prog X.w) A' (call (.ref g) us) (EP X pins σ Q) X.xe s := by
  have e := I.env0
  refine wpAny_call (codeAny_mono (F A' X.stack s H us vs Q (E σ) hr ⟨by rw [hfr]; exact e.frames, e.mod, e.bs, e.bsz, e.funs, e.frf, e.hok, e.bare⟩ r h) fun r s' hq => ?_)
  cases r with
  | error er => exact hx σ pins H s er s' I hq
  | ok fl =>
    cases fl with
    | ret u => exact I.after hq
    | next => exact False.elim hq
    | brk => exact False.elim hq
    | cont => exact False.elim hq
def tIxOS (C : Addr) (sp : Sp) (E : L2.St → XK) (ta tb : TE) : TE := fun σ H Q => ta σ H fun x H1 => tb σ H1 fun y H2 => rOwnIx C sp (E σ) x y H2 Q
theorem pe_ixOS {a b : Expr} {ta tb : TE} {pos : Pos} (m : Meth X.K C "__getitem__" g) (hf : PySem.W.fnIn X.K g = true) (F : FnR X.prog X.w X.K X.mg X.base CX k g sp) (hr : Room (k + 1) X.A) (hx : ∀ σ, PassesAt CX X σ (E σ)) (ha : PE X a ta) (hb : PE X b tb)
    (hs : ∀ x i, subscripted b true (.ref x) i = runValue (.builtin "lifetime.subscript" ⟨[.ref x, i], []⟩) := by intro _ _; rfl) : PE X (.Subscript a b pos) (tIxOS C sp E ta tb) := by
  refine ⟨fun pins s σ H Q I h => ?_⟩
  refine Subscript_ (binT ha hb I h fun v u s2 x y H2 I2 rx ry q => ?_)
  obtain ⟨p, dx, fs, rfl, hp, hsp⟩ := q
  cases rx
  obtain ⟨od, J⟩ := inst_at I2 hp
  obtain ⟨m0, hF⟩ := I2.fr
  exact PySem.W.sub_K hF I2.ok.mod.kin J m.at_ hf m.fn (call_ownS (vs := [.ref p, y]) F hr.in1 rfl hx I2 (.cons rfl (.cons ry .nil)) hsp) (hs _ _)
/-- f(e, ..) by positions, the wish at the slots -/
def tCallRS (sp : Sp) (E : L2.St → XK) (t : TA) : TE := fun σ H Q => t σ H fun vs H1 => sp vs H1 Q (E σ)
theorem pe_callRS {x : Str} {p pos : Pos} {e : Expr} {es : List Expr} {t : TA} (F : FnR X.prog X.w X.K X.mg X.base CX k g sp) (hr : Room k X.A) (hk : PySem.W.keepIn X.K (.ref g) = true) (hg : Gl X x) (hm : X.mg x = some (.ref g)) (hx : ∀ σ, PassesAt CX X σ (E σ)) (ha : PA X (e :: es) t)
    (hdb : (x == ("__debug__" : Str)) = false := by decide) (he : starEach (e :: es) X.env = (false, eval e X.env) :: starEach es X.env := by rfl) (hpl : (backTo pos (starEach es X.env)).any (·.1) = false := by rfl) : PE X (.Call (.Name x p) (e :: es) [] pos) (tCallRS sp E t) := by
  refine ⟨fun pins s σ H Q I h => ?_⟩
  refine wpAny_Call_Name_kw (ld_glob I hg hm ?_ hdb)
  refine PySem.W.callWith_K (h₀ := X.base) I.ok.mod.kin hk (thn (ha.run pos pins s σ H _ I h) fun us s1 ⟨vs, H1, I1, r, q⟩ => ⟨I1.kIn, ?_⟩) he hpl
  exact call_ownS F hr rfl hx I1 r q
end
end OwX

set_option Elab.async false
set_option linter.all false
set_option maxRecDepth 100000
set_option maxHeartbeats 0
/-! A def's promise by positions, from its datum. -/
namespace OwX
open PySem PySem.Spec PyProof.Rows L2 ClX
section
variable {P : Program} {w : World} {K : PySem.W.Frag} {mg : Str → Option Value} {base : Heap} {x qual : Str} {params : Arguments} {body : List Stmt} {scope : Scope} {f : Addr} {N ps : List Str} {k : Nat} {sp : Sp}
abbrev Body (P : Program) (w : World) (K : PySem.W.Frag) (mg : Str → Option Value) (base : Heap) (N : List Str) (qual : Str) (scope : Scope) (body : List Stmt) (f : Addr) (k : Nat) (sp : Sp) : Prop :=
  ∀ (cdv : Value) (A : Around) (outer : List Env) (s : Shared) (H : Hp) (vs : List V) (Q : VK) (E : XK), Room k (A.deeper (envOfC qual scope s.heap.objs.size f cdv)) → sp vs H Q E →
      ∃ t, PSs (cxOf (L2.CX P w) P w K mg base N qual scope f cdv A outer s H E) body t ∧ t { nx := fun _ H' => Q .non H', rt := Q } (start N vs) H
abbrev BindsN (x qual : Str) (params : Arguments) (body : List Stmt) (scope : Scope) (ps : List Str) : Prop :=
  ∀ (kV doc pm : Value) (an : Option Addr) (cdv ct : Value) (us : List Value), us.length = ps.length → bindArgs (PySem.W.fnOf x qual params body scope .none kV doc pm an cdv ct) ⟨us, []⟩ = pure (ps.zip us)
theorem fnok (F : ∃ fd, FunD K x qual params body scope [] [] f fd) (S : FnScope N ps scope) (hb : BindsN x qual params body scope ps) (len : ∀ vs H Q E, sp vs H Q E → vs.length = ps.length) (h : Body P w K mg base N qual scope body f k sp) :
    ∃ fd, FnOk P w K mg base (L2.CX P w) (k + 1) f fd ps sp ∧ Binds K fd ps [] := by
  obtain ⟨fd, F⟩ := F
  exact ⟨fd, F.ok S len h, F.bindsN hb⟩
theorem fnr (F : ∃ fd, FunD K x qual params body scope [] [] f fd) (S : FnScope N ps scope) (hb : BindsN x qual params body scope ps) (len : ∀ vs H Q E, sp vs H Q E → vs.length = ps.length) (h : Body P w K mg base N qual scope body f k sp) :
    FnR P w K mg base (L2.CX P w) (k + 1) f sp := by
  obtain ⟨fd, F, b⟩ := fnok F S hb len h
  exact (F.raw b .nil).imp fun vs H Q E q => by rw [List.append_nil]; exact q
/-- f(e, ..) by positions, nothing raised -/
def tCr (sp : Sp) (t : TA) : TE := fun σ H Q => t σ H fun vs H1 => sp vs H1 Q E0
/-- .. what is raised goes on to E -/
def tCrX (sp : Sp) (E : XK) (t : TA) : TE := fun σ H Q => t σ H fun vs H1 => sp vs H1 Q E
theorem pe_crX {X : Cx} {g : Addr} {E : XK} {nm : Str} {p pos : Pos} {e : Expr} {es : List Expr} {t : TA} (F : FnR X.prog X.w X.K X.mg X.base (L2.CX X.prog X.w) k g sp) (hr : Room k X.A) (hk : PySem.W.keepIn X.K (.ref g) = true) (hg : Gl X nm) (hm : X.mg nm = some (.ref g)) (hx : Passes (L2.CX X.prog X.w) X E) (ha : PA X (e :: es) t)
    (hdb : (nm == ("__debug__" : Str)) = false := by decide) (he : starEach (e :: es) X.env = (false, eval e X.env) :: starEach es X.env := by rfl) (hpl : (backTo pos (starEach es X.env)).any (·.1) = false := by rfl) : PE X (.Call (.Name nm p) (e :: es) [] pos) (tCrX sp E t) := by
  refine ⟨fun pins s σ H Q I h => ?_⟩
  refine wpAny_Call_Name_kw (ld_glob I hg hm ?_ hdb)
  refine PySem.W.callWith_K (h₀ := X.base) I.ok.mod.kin hk (thn (ha.run pos pins s σ H _ I h) fun us s1 ⟨vs, H1, I1, r, q⟩ => ⟨I1.kIn, ?_⟩) he hpl
  exact call_own F hr rfl hx I1 r q
theorem pe_cr {X : Cx} {g : Addr} {nm : Str} {p pos : Pos} {e : Expr} {es : List Expr} {t : TA} (F : FnR X.prog X.w X.K X.mg X.base (L2.CX X.prog X.w) k g sp) (hr : Room k X.A) (hk : PySem.W.keepIn X.K (.ref g) = true) (hg : Gl X nm) (hm : X.mg nm = some (.ref g)) (ha : PA X (e :: es) t)
    (hdb : (nm == ("__debug__" : Str)) = false := by decide) (he : starEach (e :: es) X.env = (false, eval e X.env) :: starEach es X.env := by rfl) (hpl : (backTo pos (starEach es X.env)).any (·.1) = false := by rfl) : PE X (.Call (.Name nm p) (e :: es) [] pos) (tCr sp t) :=
  pe_crX F hr hk hg hm passL ha hdb he hpl
/-- C(e, ..): a new instance, then __init__'s promise; what is raised goes on to E -/
def tMkX (C : Addr) (sp : Sp) (E : XK) (t : TA) : TE := fun σ H Q => t σ H fun vs H1 => ∀ x dx, H1 x = none → H1 dx = none → dx ≠ x → sp (.ref x :: vs) (upd (upd H1 dx (.own x)) x (.ins C dx [])) (fun v H2 => v = .non ∧ Q (.ref x) H2) E
def tMk (C : Addr) (sp : Sp) (t : TA) : TE := tMkX C sp E0 t
theorem pe_mkX {X : Cx} {C g : Addr} {E : XK} {nm : Str} {p pos : Pos} {e : Expr} {es : List Expr} {t : TA} (M : Mk X.K C g) (F : FnR X.prog X.w X.K X.mg X.base (L2.CX X.prog X.w) k g sp) (hr : Room (k + 1) X.A) (hg : Gl X nm) (hm : X.mg nm = some (.ref C)) (hx : Passes (L2.CX X.prog X.w) X E) (ha : PA X (e :: es) t)
    (hdb : (nm == ("__debug__" : Str)) = false := by decide) (he : starEach (e :: es) X.env = (false, eval e X.env) :: starEach es X.env := by rfl) (hpl : (backTo pos (starEach es X.env)).any (·.1) = false := by rfl) : PE X (.Call (.Name nm p) (e :: es) [] pos) (tMkX C sp E t) :=
  StX.pe_makeR M F hr hg hm hx ha hdb he hpl
theorem pe_mk {X : Cx} {C g : Addr} {nm : Str} {p pos : Pos} {e : Expr} {es : List Expr} {t : TA} (M : Mk X.K C g) (F : FnR X.prog X.w X.K X.mg X.base (L2.CX X.prog X.w) k g sp) (hr : Room (k + 1) X.A) (hg : Gl X nm) (hm : X.mg nm = some (.ref C)) (ha : PA X (e :: es) t)
    (hdb : (nm == ("__debug__" : Str)) = false := by decide) (he : starEach (e :: es) X.env = (false, eval e X.env) :: starEach es X.env := by rfl) (hpl : (backTo pos (starEach es X.env)).any (·.1) = false := by rfl) : PE X (.Call (.Name nm p) (e :: es) [] pos) (tMk C sp t) :=
  pe_mkX M F hr hg hm passL ha hdb he hpl
/-- x = e, the name's kind found -/
theorem sx {X : Cx} (i : Nat) {nm : Str} {e : Expr} {te : TE} {pos pos' : Pos} (hN : X.N.Nodup) (he : PE X e te) (hi : X.N[i]? = some nm := by rfl) (hx : Loc X.env.scope nm := by first | exact Or.inl rfl | exact Or.inr rfl) (hs : swapsWith e (some (.Name nm pos')) pos.line X.env = pure false := by rfl)
    (hf : X.fn nm = true ∨ X.env.scope.names.lookup nm = some .local := by first | exact .inl rfl | exact .inr rfl) : PS X (.Assign [.Name nm pos'] e pos) (tAsg te (gName i)) := ps_set hN hi hx he hs hf
/-- a target's name -/
theorem gx {X : Cx} (i : Nat) {nm : Str} {pos : Pos} (hN : X.N.Nodup) (hi : X.N[i]? = some nm := by rfl) (hx : Loc X.env.scope nm := by first | exact Or.inl rfl | exact Or.inr rfl)
    (hf : X.fn nm = true ∨ X.env.scope.names.lookup nm = some .local := by first | exact .inl rfl | exact .inr rfl) : PG X (.Name nm pos) (gName i) := pg_name hN hi hx hf
theorem kp_of {dvs : List V} {kws : List (Str × V)} (F : ∃ fd, FunD K x qual params body scope dvs kws f fd) : PySem.W.keepIn K (.ref f) = true := by
  obtain ⟨fd, F⟩ := F
  exact F.kp
end
end OwX

set_option Elab.async false
set_option linter.all false
set_option maxRecDepth 100000
set_option maxHeartbeats 0
/-! Readings, one lemma a piece; the words go and hp are made of them. -/
namespace Rd
open PySem PySem.Spec PyProof.Rows L2 OwX
section
variable {K : PySem.W.Frag} {σ : L2.St} {H H' : Hp} {Q : VK} {i j : Int} {v x y : V} {ta tb tc te : TE} {t u : TS} {D : Ends} {a p C dx : Addr} {fs : List (Str × V)} {f : Str} {xs ys : List V} {b : Bool} {n : Nat}
/-! ### expressions -/
theorem var {n : Nat} (h : σ[n]? = some (some v)) (k : Q v H) : tVar n σ H Q := ⟨v, h, k⟩
theorem con (k : Q v H) : tC v σ H Q := k
theorem op {r : R2} (k : ta σ H fun x H1 => tb σ H1 fun y H2 => r x y H2 Q) : tOp r ta tb σ H Q := k
theorem un {r : V → Hp → VK → Prop} (k : ta σ H fun x H1 => r x H1 Q) : tUn r ta σ H Q := k
theorem i0 {g : Int → Int → V} (k : Q (g i j) H) : rI0 g (.int i) (.int j) H Q := ⟨i, j, rfl, rfl, k⟩
theorem iC {c : Int → Int → Prop} {g : Int → Int → V} (s : c i j) (k : Q (g i j) H) : rI c g (.int i) (.int j) H Q := ⟨i, j, rfl, rfl, s, k⟩
theorem iu {g : Int → V} (k : Q (g i) H) : rU g (.int i) H Q := ⟨i, rfl, k⟩
theorem nil {R : List V → Hp → Prop} (k : R [] H) : tNil σ H R := k
theorem cons {tr : TA} {R : List V → Hp → Prop} (k : ta σ H fun x H1 => tr σ H1 fun xs H2 => R (x :: xs) H2) : tCons ta tr σ H R := k
theorem cb {r : List V → Hp → VK → Prop} {t : TA} (k : t σ H fun vs H1 => r vs H1 Q) : tCB r t σ H Q := k
theorem ifx {t : TT} (k : t σ H fun c H1 => if c = true then ta σ H1 Q else tb σ H1 Q) : tIf t ta tb σ H Q := k
theorem chain {r r' : R2} (k : ta σ H fun x H1 => tb σ H1 fun y H2 => r x y H2 fun z H3 => ∃ c, z = .bl c ∧ (if c = true then tc σ H3 fun w' H4 => r' y w' H4 Q else Q (.bl false) H3)) : tChain r r' ta tb tc σ H Q := k
theorem chainB {r' : R2} {c : Bool} (k1 : c = true → tc σ H fun w' H4 => r' y w' H4 Q) (k2 : c = false → Q (.bl false) H) : ∃ d, V.bl c = .bl d ∧ (if d = true then tc σ H fun w' H4 => r' y w' H4 Q else Q (.bl false) H) := ⟨c, rfl, by
  cases c with
  | true => rw [if_pos rfl]; exact k1 rfl
  | false => rw [if_neg Bool.false_ne_true]; exact k2 rfl⟩
theorem eqs (s : scal x y = true) (k : Q (.bl (decide (x = y))) H) : rEq x y H Q := ⟨s, k⟩
theorem nes (s : scal x y = true) (k : Q (.bl (!decide (x = y))) H) : rNe x y H Q := ⟨s, k⟩
theorem tup {t : TA} (k : t σ H fun xs H1 => xs.length ≤ sizeLine ∧ ∀ p, H1 p = none → Q (.ref p) (upd H1 p (.tup xs))) : tTup t σ H Q := k
theorem lst {t : TA} (k : t σ H fun xs H1 => xs.length ≤ sizeLine ∧ ∀ p, H1 p = none → Q (.ref p) (upd H1 p (.lst xs))) : tLst t σ H Q := k
theorem fld (k : ta σ H fun x H1 => ∃ a C dx fs v, x = .ref a ∧ H1 a = some (.ins C dx fs) ∧ Cls K C ∧ NoAttr K C f ∧ fs.lookup f = some v ∧ Q v H1) : tFld K ta f σ H Q := k
theorem ixL {xs : List V} (h : SqL K H p xs) (e : atI xs i = some v) (k : Q v H) : rIxL K (.ref p) (.int i) H Q := ⟨p, xs, i, v, rfl, rfl, h, e, k⟩
theorem ixT {xs : List V} (h : SqT K H p xs) (e : atI xs i = some v) (k : Q v H) : rIxT K (.ref p) (.int i) H Q := ⟨p, xs, i, v, rfl, rfl, h, e, k⟩
theorem andV (k : ta σ H fun x H1 => ∃ c, x = .bl c ∧ if c = true then tb σ H1 Q else Q (.bl false) H1) : tAndV ta tb σ H Q := k
theorem orV (k : ta σ H fun x H1 => ∃ c, x = .bl c ∧ if c = true then Q (.bl true) H1 else tb σ H1 Q) : tOrV ta tb σ H Q := k
theorem notV (k : ta σ H fun x H1 => ∃ c, x = .bl c ∧ Q (.bl (!c)) H1) : tNotV ta σ H Q := k
theorem bm {T : String} {r : V → List V → Hp → VK → Prop} {t : TA} (k : ta σ H fun x H1 => tyV K T x H1 ∧ t σ H1 fun xs H2 => r x xs H2 Q) : tBM K T r ta t σ H Q := k
theorem bm0 {T : String} {r : V → List V → Hp → VK → Prop} (k : ta σ H fun x H1 => tyV K T x H1 ∧ r x [] H1 Q) : tBM0 K T r ta σ H Q := k
theorem blx {A : Bool → Prop} {c : Bool} (k : A c) : ∃ d, V.bl c = .bl d ∧ A d := ⟨c, rfl, k⟩
/-! ### built-in calls by values, with names -/
def rInt : List V → Hp → VK → Prop := fun xs H Q => (∃ i, xs = [.int i] ∧ Q (.int i) H) ∨ ∃ k, xs = [.bl k] ∧ Q (.int (if k = true then 1 else 0)) H
theorem c_int {X : Cx} : CallR X (.type "int") rInt := call_int1
theorem int1 (k : Q (.int i) H) : rInt [.int i] H Q := .inl ⟨i, rfl, k⟩
theorem intB (k : Q (.int (if b = true then 1 else 0)) H) : rInt [.bl b] H Q := .inr ⟨b, rfl, k⟩
def rLen (K : PySem.W.Frag) : List V → Hp → VK → Prop := fun xs H Q => ∃ p ys, xs = [.ref p] ∧ (SqL K H p ys ∨ SqT K H p ys) ∧ Q (.int ys.length) H
theorem c_len {X : Cx} (h : X.K = K := by rfl) : CallR X (.builtin "len") (rLen K) := by subst h; exact call_len_seq
theorem lenL (h : SqL K H p xs) (k : Q (.int xs.length) H) : rLen K [.ref p] H Q := ⟨p, xs, rfl, .inl h, k⟩
theorem lenT (h : SqT K H p xs) (k : Q (.int xs.length) H) : rLen K [.ref p] H Q := ⟨p, xs, rfl, .inr h, k⟩
def rMax : List V → Hp → VK → Prop := fun xs H Q => ∃ i j, xs = [.int i, .int j] ∧ Q (.int (if j > i then j else i)) H
def rMin : List V → Hp → VK → Prop := fun xs H Q => ∃ i j, xs = [.int i, .int j] ∧ Q (.int (if j < i then j else i)) H
theorem c_max {X : Cx} (hc : X.calm = true) : CallR X (.builtin "max") rMax := call_max2 hc
theorem c_min {X : Cx} (hc : X.calm = true) : CallR X (.builtin "min") rMin := call_min2 hc
theorem maxI (k : Q (.int (if j > i then j else i)) H) : rMax [.int i, .int j] H Q := ⟨i, j, rfl, k⟩
theorem minI (k : Q (.int (if j < i then j else i)) H) : rMin [.int i, .int j] H Q := ⟨i, j, rfl, k⟩
def rLst (K : PySem.W.Frag) : List V → Hp → VK → Prop := fun xs H Q => ∃ p ys, xs = [.ref p] ∧ (SqL K H p ys ∨ SqT K H p ys) ∧ ∀ l, H l = none → Q (.ref l) (upd H l (.lst ys))
theorem c_list {X : Cx} (h : X.K = K := by rfl) : CallR X (.type "list") (rLst K) := by subst h; exact call_list_of
theorem listL (h : SqL K H p xs) (k : ∀ l, H l = none → Q (.ref l) (upd H l (.lst xs))) : rLst K [.ref p] H Q := ⟨p, xs, rfl, .inl h, k⟩
theorem listT (h : SqT K H p xs) (k : ∀ l, H l = none → Q (.ref l) (upd H l (.lst xs))) : rLst K [.ref p] H Q := ⟨p, xs, rfl, .inr h, k⟩
/-! ### tests -/
theorem test (k : te σ H fun x H' => ∃ k, x = .bl k ∧ D.nx σ H') : True := trivial
theorem tst {R : Bool → Hp → Prop} (k : te σ H fun x H' => ∃ k, x = .bl k ∧ R k H') : tTest te σ H R := k
theorem tb_ {R : Bool → Hp → Prop} (k : te σ H fun x H' => ∃ k, x = .bl k ∧ R k H') : tB te σ H R := k
theorem not_ {t : TT} {R : Bool → Hp → Prop} (k : t σ H fun c H1 => R (!c) H1) : tNot t σ H R := k
theorem and_ {t u : TT} {R : Bool → Hp → Prop} (k : t σ H fun c H1 => if c = true then u σ H1 R else R false H1) : tAnd t u σ H R := k
theorem or_ {t u : TT} {R : Bool → Hp → Prop} (k : t σ H fun c H1 => if c = true then R true H1 else u σ H1 R) : tOr t u σ H R := k
/-! ### statements -/
theorem seq (k : t { D with nx := u D } σ H) : tSeq t u D σ H := k
theorem asg {g : TG} (k : te σ H fun x H1 => g x σ H1 D.nx) : tAsg te g D σ H := k
theorem name {n : Nat} {R : L2.St → Hp → Prop} (k : R (σ.set n (some v)) H) : gName n v σ H R := k
theorem ret (k : te σ H D.rt) : tRet te D σ H := k
theorem ifS {c : TT} (k : c σ H fun b H1 => if b = true then t D σ H1 else u D σ H1) : tIfS c t u D σ H := k
theorem next (k : D.nx σ H) : tNext D σ H := k
theorem drop (k : te σ H fun _ H1 => D.nx σ H1) : tDrop te D σ H := k
theorem gsub {to ti : TE} {s : TSet} {R : L2.St → Hp → Prop} (k : to σ H fun o H1 => ti σ H1 fun i H2 => s o i v H2 fun H3 => R σ H3) : gSub to ti s v σ H R := k
theorem setL {R : Hp → Prop} {n : Nat} (h : H p = some (.lst xs)) (e : ixN xs.length i = some n) (k : R (upd H p (.lst (xs.set n v)))) : rSetL (.ref p) (.int i) v H R := ⟨p, xs, i, n, rfl, rfl, h, e, k⟩
end
theorem cr {σ : L2.St} {H : Hp} {Q : VK} {sp : Sp} {t : TA} (k : t σ H fun vs H1 => sp vs H1 Q E0) : tCr sp t σ H Q := k
theorem crX {σ : L2.St} {H : Hp} {Q : VK} {sp : Sp} {E : XK} {t : TA} (k : t σ H fun vs H1 => sp vs H1 Q E) : tCrX sp E t σ H Q := k
theorem ixOS {C : Addr} {sp : Sp} {E : L2.St → XK} {ta tb : TE} {σ : L2.St} {H : Hp} {Q : VK} (k : ta σ H fun x H1 => tb σ H1 fun y H2 => rOwnIx C sp (E σ) x y H2 Q) : tIxOS C sp E ta tb σ H Q := k
theorem xf {D dd : Addr} {ea : Addr} {f : Str} {te : TE} {σ : L2.St} {H : Hp} {Q : VK} {fs : List (Str × V)} {v : V} (hd : H dd = some (.xd fs)) (hv : fs.lookup f = some v) (h : te σ H fun x H1 => x = .ref ea ∧ H1 = H) (mono : ∀ R R' : VK, (∀ v H, R v H → R' v H) → te σ H R → te σ H R') (q : Q v H) : tXf ea (.ref D) (some dd) D f te σ H Q :=
  mono _ _ (fun x H1 ⟨h1, h2⟩ => ⟨h1, rfl, dd, fs, v, rfl, by rw [h2]; exact hd, hv, by rw [h2]; exact q⟩) h
theorem xfv {D dd : Addr} {ea : Addr} {f : Str} {i : Nat} {σ : L2.St} {H : Hp} {Q : VK} {fs : List (Str × V)} {v : V} (hd : H dd = some (.xd fs)) (hi : σ[i]? = some (some (.ref ea))) (hv : fs.lookup f = some v) (q : Q v H) : tXf ea (.ref D) (some dd) D f (tVar i) σ H Q :=
  ⟨.ref ea, hi, rfl, rfl, dd, fs, v, rfl, hd, hv, q⟩
theorem isX {K : PySem.W.Frag} {D dd ea : Addr} {H : Hp} {Q : VK} {fs : List (Str × V)} {c : V} {cv : Value} {b : Bool} (hd : H dd = some (.xd fs)) (hc : ClsV c cv) (e : PySem.W.kitOne K (.ref D) cv = some b) (q : Q (.bl b) H) : rIsX K D ea (.ref D) (some dd) [.ref ea, c] H Q :=
  ⟨c, cv, b, dd, fs, rfl, hc, rfl, rfl, hd, e, q⟩
/-! ### names of built-ins -/
theorem bt_abs : bootBuiltins "abs" = some (.builtin "abs") := by decide +kernel
theorem bt_any : bootBuiltins "any" = some (.builtin "any") := by decide +kernel
theorem bt_all : bootBuiltins "all" = some (.builtin "all") := by decide +kernel
theorem bt_dict : bootBuiltins "dict" = some (.type "dict") := by decide +kernel
theorem bt_enumerate : bootBuiltins "enumerate" = some (.type "enumerate") := by decide +kernel
theorem bt_isinstance : bootBuiltins "isinstance" = some (.builtin "isinstance") := by decide +kernel
theorem bt_iter : bootBuiltins "iter" = some (.builtin "iter") := by decide +kernel
theorem bt_len : bootBuiltins "len" = some (.builtin "len") := by decide +kernel
theorem bt_max : bootBuiltins "max" = some (.builtin "max") := by decide +kernel
theorem bt_min : bootBuiltins "min" = some (.builtin "min") := by decide +kernel
theorem bt_range : bootBuiltins "range" = some (.type "range") := by decide +kernel
theorem bt_repr : bootBuiltins "repr" = some (.builtin "repr") := by decide +kernel
theorem bt_reversed : bootBuiltins "reversed" = some (.type "reversed") := by decide +kernel
theorem bt_set : bootBuiltins "set" = some (.type "set") := by decide +kernel
theorem bt_sorted : bootBuiltins "sorted" = some (.builtin "sorted") := by decide +kernel
theorem bt_str : bootBuiltins "str" = some (.type "str") := by decide +kernel
theorem bt_sum : bootBuiltins "sum" = some (.builtin "sum") := by decide +kernel
theorem bt_tuple : bootBuiltins "tuple" = some (.type "tuple") := by decide +kernel
theorem bt_int : bootBuiltins "int" = some (.type "int") := by decide +kernel
theorem bt_bool : bootBuiltins "bool" = some (.type "bool") := by decide +kernel
theorem bt_list : bootBuiltins "list" = some (.type "list") := by decide +kernel
theorem bt_type : bootBuiltins "type" = some (.type "type") := by decide +kernel
theorem bt_zip : bootBuiltins "zip" = some (.type "zip") := by decide +kernel
theorem bt_next : bootBuiltins "next" = some (.builtin "next") := by decide +kernel
theorem bt_ValueError : bootBuiltins "ValueError" = some (.type "ValueError") := by decide +kernel
def MkR (C : Addr) (sp : Sp) (E : XK) (vs : List V) (H1 : Hp) (Q : VK) : Prop := ∀ x dx, H1 x = none → H1 dx = none → dx ≠ x → sp (.ref x :: vs) (upd (upd H1 dx (.own x)) x (.ins C dx [])) (fun v H2 => v = .non ∧ Q (.ref x) H2) E
theorem mk {C : Addr} {σ : L2.St} {H : Hp} {Q : VK} {sp : Sp} {t : TA} (k : t σ H fun vs H1 => MkR C sp E0 vs H1 Q) : tMk C sp t σ H Q := k
theorem mkX {C : Addr} {σ : L2.St} {H : Hp} {Q : VK} {E : XK} {sp : Sp} {t : TA} (k : t σ H fun vs H1 => MkR C sp E vs H1 Q) : tMkX C sp E t σ H Q := k
/-! ### ifs -/
theorem iteb {c : Bool} {A B : Prop} (h1 : c = true → A) (h2 : c = false → B) : if c = true then A else B := by
  cases c with
  | true => rw [if_pos rfl]; exact h1 rfl
  | false => rw [if_neg Bool.false_ne_true]; exact h2 rfl
theorem ited {p : Prop} [Decidable p] {A B : Prop} (h1 : p → A) (h2 : ¬ p → B) : if decide p = true then A else B :=
  iteb (fun e => h1 (of_decide_eq_true e)) fun e => h2 (of_decide_eq_false e)
theorem iten {p : Prop} [Decidable p] {A B : Prop} (h1 : ¬ p → A) (h2 : p → B) : if (!decide p) = true then A else B :=
  iteb (fun e => h1 (by simpa using e)) fun e => h2 (by simpa using e)
theorem iteNT {A B : Prop} (h : B) : if (!true) = true then A else B := h
theorem iteNF {A B : Prop} (h : A) : if (!false) = true then A else B := h
/-! ### sizes, places -/
theorem sz {n : Nat} (h : n ≤ 100000) : n ≤ sizeLine := Nat.le_trans h (by decide)
theorem szr {n : Nat} (h : Nat.ble n 100000 = true) : n ≤ sizeLine := sz (Nat.le_of_ble_eq_true h)
theorem szl {n : Nat} (h : n < 100000) : n < sizeLine := Nat.lt_of_lt_of_le h (by decide)
theorem nat_at {α : Type} {xs : List α} {j : Nat} {z : Int} {v : α} (e : z = (j : Int)) (h : xs[j]? = some v) : atI xs z = some v := by rw [e]; exact atI_nat h
theorem ixN_nat {n j : Nat} {z : Int} (e : z = (j : Int)) (h : j < n) : ixN n z = some j := by
  unfold ixN
  rw [if_pos (by omega), if_pos (by omega), e]
  rfl
/-! ### heaps -/
theorem ext_app {H H' : Hp} {a : Addr} {o : HO} (e : Ext H H') (h : H a = some o) : H' a = some o := e a o h
theorem new_app {H : Hp} {a p : Addr} {o u : HO} (n : H p = none) (h : H a = some o) : upd H p u a = some o := Ext.upd n a o h
theorem upd_app {H : Hp} {a p : Addr} {o u : HO} (ne : a ≠ p) (h : H a = some o) : upd H p u a = some o := by rw [upd_ne ne]; exact h
theorem ext_new {H : Hp} {p : Addr} {u : HO} (n : H p = none) : Ext H (upd H p u) := Ext.upd n
theorem ext_free {H H' : Hp} (e : Ext H H') {p : Addr} (n : H' p = none) : H p = none := by
  cases q : H p with
  | none => rfl
  | some o => rw [e p o q] at n; cases n
theorem ext_L {K : PySem.W.Frag} {H H' : Hp} {a : Addr} {xs : List V} (e : Ext H H') (h : SqL K H a xs) : SqL K H' a xs := h.ext e
theorem ext_T {K : PySem.W.Frag} {H H' : Hp} {a : Addr} {xs : List V} (e : Ext H H') (h : SqT K H a xs) : SqT K H' a xs := h.ext e
/-- a heap without the objects at O -/
def hid (O : List Addr) (H : Hp) : Hp := fun b => if b ∈ O then none else H b
theorem hid_ne {O : List Addr} {a : Addr} {H : Hp} (h : a ∉ O) : hid O H a = H a := if_neg h
theorem hid_in {O : List Addr} {a : Addr} {H : Hp} (h : a ∈ O) : hid O H a = none := if_pos h
theorem hid_nil {H : Hp} : hid [] H = H := by funext b; exact hid_ne (by simp)
theorem hid_at {O : List Addr} {a : Addr} {H : Hp} {o : HO} (h : hid O H a = some o) : H a = some o ∧ a ∉ O := by
  by_cases e : a ∈ O
  · rw [hid_in e] at h; cases h
  · rw [hid_ne e] at h; exact ⟨h, e⟩
theorem hid_upd {O : List Addr} {p : Addr} {H : Hp} {u : HO} (h : p ∈ O) : hid O (upd H p u) = hid O H := by
  funext b
  by_cases e : b ∈ O
  · rw [hid_in e, hid_in e]
  · rw [hid_ne e, hid_ne e, upd_ne (fun z => e (by rw [z]; exact h))]
theorem hid_ext {O : List Addr} {H : Hp} : Ext (hid O H) H := fun a o h => (hid_at h).1
theorem ext_rfl {H : Hp} : Ext H H := fun _ _ h => h
theorem ext_hid {O : List Addr} {H H' : Hp} (e : Ext H H') : Ext (hid O H) (hid O H') := fun a o h => by
  obtain ⟨h1, h2⟩ := hid_at h
  rw [hid_ne h2]
  exact e a o h1
/-- a new object, O's stay hidden -/
theorem hid_new {O : List Addr} {p : Addr} {H : Hp} {u : HO} (h : p ∉ O) : hid O (upd H p u) p = some u := by rw [hid_ne h, upd_same]
theorem not_in {O : List Addr} {p : Addr} {H : Hp} (h : H p = none) (ho : ∀ a ∈ O, ∃ u, H a = some u) : p ∉ O := fun z => by
  obtain ⟨u, e⟩ := ho p z
  rw [h] at e; cases e
theorem ext_hid_new {O : List Addr} {p : Addr} {H : Hp} {u : HO} (h : H p = none) : Ext (hid O H) (hid O (upd H p u)) := ext_hid (Ext.upd h)
theorem ext_hid_upd {O : List Addr} {p : Addr} {H : Hp} {u : HO} (h : p ∈ O) : Ext (hid O H) (hid O (upd H p u)) := by rw [hid_upd h]; exact ext_rfl
/-- from a heap that does not know O -/
theorem ext_to_hid {O : List Addr} {H H' : Hp} (e : Ext H H') (h : ∀ a ∈ O, H a = none) : Ext H (hid O H') := fun a o q => by
  rw [hid_ne (fun z => by rw [h a z] at q; cases q)]
  exact e a o q
/-! ### pairs -/
theorem paired_snoc {α β : Type} {R : α → β → Prop} {a : α} {b : β} (h : R a b) : ∀ {xs : List α} {ys : List β}, Paired R xs ys → Paired R (xs ++ [a]) (ys ++ [b])
  | _, _, .nil => .cons h .nil
  | _, _, .cons r t => .cons r (paired_snoc h t)
theorem paired_map {α β : Type} {f : α → β} : ∀ {xs : List α} {ys : List β}, Paired (fun a b => b = f a) xs ys → ys = xs.map f
  | _, _, .nil => rfl
  | _, _, .cons r t => by rw [r, paired_map t]; rfl
theorem paired_of_map {α β : Type} {f : α → β} {R : α → β → Prop} (h : ∀ a, R a (f a)) : ∀ xs : List α, Paired R xs (xs.map f)
  | [] => .nil
  | x :: xs => .cons (h x) (paired_of_map h xs)
theorem paired_len {α β : Type} {R : α → β → Prop} : ∀ {xs : List α} {ys : List β}, Paired R xs ys → xs.length = ys.length
  | _, _, .nil => rfl
  | _, _, .cons _ t => by rw [List.length_cons, List.length_cons, paired_len t]
theorem paired_imp {α β : Type} {R S : α → β → Prop} (h : ∀ a b, R a b → S a b) : ∀ {xs : List α} {ys : List β}, Paired R xs ys → Paired S xs ys
  | _, _, .nil => .nil
  | _, _, .cons r t => .cons (h _ _ r) (paired_imp h t)
theorem paired_at {α β : Type} {R : α → β → Prop} : ∀ {xs : List α} {ys : List β} {i : Nat} {x : α}, Paired R xs ys → xs[i]? = some x → ∃ y, ys[i]? = some y ∧ R x y
  | _, _, _, _, .nil, e => by simp at e
  | _, _, 0, _, .cons r _, e => by simp at e; subst e; exact ⟨_, rfl, r⟩
  | _, _, i + 1, x, .cons _ t, e => by
    obtain ⟨y, h1, h2⟩ := paired_at (i := i) (x := x) t (by simpa using e)
    exact ⟨y, by simpa using h1, h2⟩
theorem paired_mapl {α β γ : Type} {f : α → γ} {R : γ → β → Prop} : ∀ {xs : List α} {ys : List β}, Paired (fun a b => R (f a) b) xs ys → Paired R (xs.map f) ys
  | _, _, .nil => .nil
  | _, _, .cons r t => .cons r (paired_mapl t)
theorem take_snoc {α : Type} {l : List α} {i : Nat} {x : α} (h : l[i]? = some x) : l.take (i + 1) = l.take i ++ [x] := by
  rw [List.take_succ, h]; rfl
theorem filter_snoc {α : Type} (keep : α → Bool) {l : List α} {i : Nat} {x : α} (h : l[i]? = some x) : (l.take (i + 1)).filter keep = (l.take i).filter keep ++ (if keep x = true then [x] else []) := by
  rw [take_snoc h, List.filter_append]
  congr 1
  cases e : keep x with
  | true => simp [e]
  | false => simp [e]
/-! ### comprehensions: the items told, what each kept one gives -/
section
variable {α : Type} {J : It} {G : Hp → Prop} {Y : Nat → Hp → V → Hp → Prop} {items : List α} {Yi : α → Hp → V → Hp → Prop}
theorem lcG (w : Walk J items.length G Y) (hy : ∀ i H x H', Y i H x H' → ∃ it, items[i]? = some it ∧ Yi it H x H') (hn : items.length < 100000)
    {g : TG} {tt : TT} {te : TE} {vs : List Nat} {σ : L2.St} {H1 : Hp} {D : Addr} {Qd : Hp → Prop} (O : List Addr) (I : Hp → Prop) (keep : α → Bool) (R : α → V → Hp → Prop) (mono : ∀ a y H H', Ext H H' → R a y H → R a y H')
    (hD : H1 D = none) (hO : D ∉ O) (hI : ∀ H u, I H → I (upd H D u)) (i0 : I H1) (hG : ∀ H, Ext (hid O H1) (hid O H) → I H → G H)
    (hs : ∀ (i : Nat) it x H H' acc, items[i]? = some it → Ext (hid O H1) (hid O H) → I H → H D = some (.lst acc) → Yi it H x H' → ∀ (Qy : VK) (Qn : Hp → Prop),
      (∀ y H4, Ext (hid O H) (hid O H4) → I H4 → keep it = true → R it y (hid (D :: O) H4) → Qy y H4) → (∀ H3, Ext (hid O H) (hid O H3) → I H3 → keep it = false → Qn H3) →
      g x (wipe σ vs) H' fun σ2 H2 => wipe σ2 vs = wipe σ vs ∧ tt σ2 H2 fun b H3 => if b = true then te σ2 H3 Qy else Qn H3)
    (hd : ∀ ys H, Ext (hid O H1) (hid O H) → I H → H D = some (.lst ys) → Paired (fun a y => R a y (hid (D :: O) H)) (items.filter keep) ys → Qd H) :
    ∃ W : Nat → Nat → Hp → Prop, (∃ m, W 0 m (upd H1 D (.lst []))) ∧ ∀ i m H, W i m H →
      (J.stop i H ∧ Qd H) ∨ (J.go i H ∧ ∃ Nx : Hp → Prop, (∀ H', Nx H' → ∃ m', m' < m ∧ W (i + 1) m' H') ∧ ∀ x H', J.yld i H x H' → g x (wipe σ vs) H' fun σ2 H2 => wipe σ2 vs = wipe σ vs ∧ tt σ2 H2 fun b H3 =>
        if b = true then te σ2 H3 fun y H4 => ∃ acc, H4 D = some (.lst acc) ∧ acc.length < sizeLine ∧ Nx (upd H4 D (.lst (acc ++ [y]))) else Nx H3) := by
  have dd : ∀ H u, hid (D :: O) (upd H D u) = hid (D :: O) H := fun H u => hid_upd List.mem_cons_self
  have fe : ∀ {H : Hp} {u : HO}, Ext (hid O H1) (hid O H) → Ext (hid O H1) (hid O (upd H D u)) := fun {H u} e a o h => by
    have e2 := e a o h
    obtain ⟨h1, h2⟩ := hid_at h
    rw [hid_ne h2, upd_ne (ne_of_none h1 hD)]
    exact (hid_at e2).1
  have keepD : ∀ {H H4 : Hp} {u : HO}, Ext (hid O H) (hid O H4) → H D = some u → H4 D = some u := fun {H H4 u} e h => by
    have e2 := e D u (by rw [hid_ne hO]; exact h)
    exact (hid_at e2).1
  have hidD : ∀ {H H4 : Hp}, Ext (hid O H) (hid O H4) → Ext (hid (D :: O) H) (hid (D :: O) H4) := fun {H H4} e a o h => by
    obtain ⟨h1, h2⟩ := hid_at h
    have e2 := e a o (by rw [hid_ne fun z => h2 (List.mem_cons_of_mem _ z)]; exact h1)
    rw [hid_ne h2]
    exact (hid_at e2).1
  refine lc_it w (fun i H => Ext (hid O H1) (hid O H) ∧ I H ∧ ∃ ys, H D = some (.lst ys) ∧ Paired (fun a y => R a y (hid (D :: O) H)) ((items.take i).filter keep) ys)
    ⟨fe ext_rfl, hI _ _ i0, [], upd_same, .nil⟩ (fun i H hi p => hG H p.1 p.2.1) ?_ ?_
  · rintro i x H H' hi ⟨e, hi2, ys, hys, pr⟩ y
    obtain ⟨it, hit, yi⟩ := hy i H x H' y
    have hlen : ys.length < 100000 := by
      have h1 := paired_len pr
      have h2 := List.length_filter_le keep (items.take i)
      rw [List.length_take] at h2
      omega
    refine hs i it x H H' ys hit e hi2 hys yi _ _ (fun v H4 e4 i4 k4 r4 => ?_) (fun H3 e3 i3 k3 => ?_)
    · refine ⟨ys, keepD e4 hys, szl hlen, fe (e.trans e4), hI _ _ i4, ys ++ [v], upd_same, ?_⟩
      rw [filter_snoc keep hit, if_pos k4, dd]
      exact paired_snoc (R := fun a y => R a y (hid (D :: O) H4)) r4 (paired_imp (fun a b r => mono a b _ _ (hidD e4) r) pr)
    · refine ⟨e.trans e3, i3, ys, keepD e3 hys, ?_⟩
      rw [filter_snoc keep hit, k3, if_neg Bool.false_ne_true, List.append_nil]
      exact paired_imp (fun a b r => mono a b _ _ (hidD e3) r) pr
  · rintro H ⟨e, hi2, ys, hys, pr⟩
    rw [List.take_length] at pr
    exact hd ys H e hi2 hys pr
end
/-- over a list, a tuple, a range: what is yielded -/
theorem yat {α : Type} {xs : List α} {emb : α → V} : ∀ i H x H', YAt (xs.map emb) i H x H' → ∃ it, xs[i]? = some it ∧ (H' = H ∧ x = emb it) := fun i H x H' h => by
  obtain ⟨rfl, h⟩ := h
  rw [List.getElem?_map] at h
  cases e : xs[i]? with
  | none => rw [e] at h; cases h
  | some it => rw [e] at h; exact ⟨it, rfl, rfl, (Option.some.inj h).symm⟩
theorem yfn {n : Nat} {f : Nat → V} : ∀ i H x H', i < n → YFn f i H x H' → ∃ it, (List.range n)[i]? = some it ∧ (H' = H ∧ x = f it) := fun i H x H' hi h => by
  obtain ⟨rfl, rfl⟩ := h
  exact ⟨i, by rw [List.getElem?_range hi], rfl, rfl⟩
section
variable {α : Type} {J : It} {G : Hp → Prop} {Y : Nat → Hp → V → Hp → Prop} {items : List α} {K : PySem.W.Frag}
/-- nothing but new objects; the elements' values by their items -/
theorem lcE {emb : α → V} (w : Walk J items.length G Y) (hy : ∀ i H x H', Y i H x H' → ∃ it, items[i]? = some it ∧ (H' = H ∧ x = emb it)) (hn : items.length < 100000)
    {g : TG} {tt : TT} {te : TE} {vs : List Nat} {σ : L2.St} {H1 : Hp} {D : Addr} {Qd : Hp → Prop} (keep : α → Bool) (R : α → V → Hp → Prop) (mono : ∀ a y H H', Ext H H' → R a y H → R a y H')
    (hD : H1 D = none) (hG : ∀ H, Ext H1 H → G H)
    (hs : ∀ (i : Nat) it H acc, items[i]? = some it → Ext H1 H → H D = some (.lst acc) → ∀ (Qy : VK) (Qn : Hp → Prop),
      (∀ y H4, Ext H H4 → keep it = true → R it y (hid [D] H4) → Qy y H4) → (∀ H3, Ext H H3 → keep it = false → Qn H3) →
      g (emb it) (wipe σ vs) H fun σ2 H2 => wipe σ2 vs = wipe σ vs ∧ tt σ2 H2 fun b H3 => if b = true then te σ2 H3 Qy else Qn H3)
    (hd : ∀ ys H, Ext H1 H → H D = some (.lst ys) → Paired (fun a y => R a y (hid [D] H)) (items.filter keep) ys → Qd H) :
    ∃ W : Nat → Nat → Hp → Prop, (∃ m, W 0 m (upd H1 D (.lst []))) ∧ ∀ i m H, W i m H →
      (J.stop i H ∧ Qd H) ∨ (J.go i H ∧ ∃ Nx : Hp → Prop, (∀ H', Nx H' → ∃ m', m' < m ∧ W (i + 1) m' H') ∧ ∀ x H', J.yld i H x H' → g x (wipe σ vs) H' fun σ2 H2 => wipe σ2 vs = wipe σ vs ∧ tt σ2 H2 fun b H3 =>
        if b = true then te σ2 H3 fun y H4 => ∃ acc, H4 D = some (.lst acc) ∧ acc.length < sizeLine ∧ Nx (upd H4 D (.lst (acc ++ [y]))) else Nx H3) := by
  have z : ∀ {H H' : Hp}, Ext (hid [] H) (hid [] H') ↔ Ext H H' := fun {H H'} => by rw [hid_nil, hid_nil]
  refine lcG w (Yi := fun it H x H' => H' = H ∧ x = emb it) hy hn [] (fun _ => True) keep R mono hD (by simp) (fun _ _ _ => trivial) trivial (fun H e _ => hG H (z.mp e)) ?_ ?_
  · rintro i it x H H' acc hit e _ ha ⟨rfl, rfl⟩ Qy Qn ky kn
    exact hs i it H' acc hit (z.mp e) ha Qy Qn (fun y H4 e4 => ky y H4 (z.mpr e4) trivial) (fun H3 e3 => kn H3 (z.mpr e3) trivial)
  · intro ys H e _ hys pr
    exact hd ys H (z.mp e) hys pr
end
theorem walk_rangeN {n : Nat} : Walk (Itr 0 n) (List.range n).length (fun _ => True) (fun i H x H' => i < n ∧ YFn (fun i => .int (0 + (i : Nat))) i H x H') := by
  rw [List.length_range]
  exact ⟨fun _ _ hi _ => hi, fun _ _ => Nat.le_refl _, fun i _ _ _ hi _ y => ⟨hi, y⟩⟩
theorem yrng {n : Nat} : ∀ i H x H', (i < n ∧ YFn (fun i => V.int (0 + (i : Nat))) i H x H') → ∃ it, (List.range n)[i]? = some it ∧ (H' = H ∧ x = V.int (it : Nat)) := fun i H x H' h => by
  obtain ⟨it, h1, h2, h3⟩ := yfn i H x H' h.1 h.2
  exact ⟨it, h1, h2, by rw [h3, Int.zero_add]⟩
theorem walk_listM {α : Type} {K : PySem.W.Frag} {a : Addr} {xs : List α} {emb : α → V} : Walk (Itl K a) xs.length (fun H => SqL K H a (xs.map emb)) (YAt (xs.map emb)) := by
  have w := walk_list (K := K) (a := a) (xs := xs.map emb)
  rw [List.length_map] at w
  exact w
theorem walk_tupM {α : Type} {K : PySem.W.Frag} {a : Addr} {xs : List α} {emb : α → V} : Walk (Itt K a) xs.length (fun H => SqT K H a (xs.map emb)) (YAt (xs.map emb)) := by
  have w := walk_tup (K := K) (a := a) (xs := xs.map emb)
  rw [List.length_map] at w
  exact w
/-- values that say nothing of the heap -/
theorem pure_mono {α : Type} {f : α → V} : ∀ (a : α) (y : V) (H H' : Hp), Ext H H' → y = f a → y = f a := fun _ _ _ _ _ h => h
/-! ### what is walked -/
def LcB (J : It) (g : TG) (tt : TT) (te : TE) (vs : List Nat) (σ : L2.St) (H1 : Hp) (Q : VK) : Prop := ∀ D, H1 D = none → ∃ W : Nat → Nat → Hp → Prop, (∃ m, W 0 m (upd H1 D (.lst []))) ∧ ∀ i m H, W i m H →
  (J.stop i H ∧ Q (.ref D) H) ∨ (J.go i H ∧ ∃ Nx : Hp → Prop, (∀ H', Nx H' → ∃ m', m' < m ∧ W (i + 1) m' H') ∧ ∀ x H', J.yld i H x H' → g x (wipe σ vs) H' fun σ2 H2 => wipe σ2 vs = wipe σ vs ∧ tt σ2 H2 fun b H3 =>
    if b = true then te σ2 H3 fun y H4 => ∃ acc, H4 D = some (.lst acc) ∧ acc.length < sizeLine ∧ Nx (upd H4 D (.lst (acc ++ [y]))) else Nx H3)
def ForB (J : It) (g : TG) (tb : TS) (D : Ends) (σ : L2.St) (H1 : Hp) : Prop := ∃ W : Nat → Nat → L2.St → Hp → Prop, (∃ m, W 0 m σ H1) ∧ ∀ i m σ H, W i m σ H →
  (J.stop i H ∧ D.nx σ H) ∨ (J.go i H ∧ ∃ N : L2.St → Hp → Prop, (∀ σ' H', N σ' H' → ∃ m', m' < m ∧ W (i + 1) m' σ' H') ∧ ∀ x H', J.yld i H x H' → g x σ H' fun σ2 H2 => tb { D with nx := N, ct := N, bk := D.nx } σ2 H2)
section
variable {K : PySem.W.Frag} {g : TG} {tt : TT} {te tl : TE} {ta : TA} {vs : List Nat} {σ : L2.St} {H : Hp} {Q : VK} {tb : TS} {D : Ends} {wi : TI}
theorem lcT (k : tl σ H fun x H1 => ∃ a, x = .ref a ∧ (∃ xs, SqT K H1 a xs) ∧ LcB (Itt K a) g tt te vs σ H1 Q) : tLc (iTup K tl) g tt te vs σ H Q := k
theorem lcL (k : tl σ H fun x H1 => ∃ a, x = .ref a ∧ (∃ xs, SqL K H1 a xs) ∧ LcB (Itl K a) g tt te vs σ H1 Q) : tLc (iList K tl) g tt te vs σ H Q := k
theorem lcR (k : ta σ H fun vs' H1 => ∃ j : Int, vs' = [.int j] ∧ -(2 ^ 62) ≤ j ∧ j < 2 ^ 62 ∧ LcB (Itr 0 j.toNat) g tt te vs σ H1 Q) : tLc (iRng1 ta) g tt te vs σ H Q := k
theorem forT (k : tl σ H fun x H1 => ∃ a, x = .ref a ∧ (∃ xs, SqT K H1 a xs) ∧ ForB (Itt K a) g tb D σ H1) : tFor (iTup K tl) g tb D σ H := k
theorem forL (k : tl σ H fun x H1 => ∃ a, x = .ref a ∧ (∃ xs, SqL K H1 a xs) ∧ ForB (Itl K a) g tb D σ H1) : tFor (iList K tl) g tb D σ H := k
theorem forR (k : ta σ H fun vs' H1 => ∃ j : Int, vs' = [.int j] ∧ -(2 ^ 62) ≤ j ∧ j < 2 ^ 62 ∧ ForB (Itr 0 j.toNat) g tb D σ H1) : tFor (iRng1 ta) g tb D σ H := k
theorem yes {R : Bool → Hp → Prop} (k : R true H) : tYes σ H R := k
end
/-! ### data: == by an encoding -/
structure Enc {α : Type} [DecidableEq α] (f : α → PyData) (k : Nat) : Prop where
  eq : ∀ a b, PyData.eqv (f a) (f b) = decide (a = b)
  lay : ∀ a, (f a).canLay0 = true
  dep : ∀ a, (f a).depth ≤ k
theorem eqvAll_map {α : Type} [DecidableEq α] {f : α → PyData} (h : ∀ a b, PyData.eqv (f a) (f b) = decide (a = b)) : ∀ xs ys : List α, PyData.eqvAll (xs.map f) (ys.map f) = decide (xs = ys)
  | [], [] => by simp [PyData.eqvAll]
  | [], _ :: _ => by simp [PyData.eqvAll]
  | _ :: _, [] => by simp [PyData.eqvAll]
  | x :: xs, y :: ys => by
    rw [List.map_cons, List.map_cons, PyData.eqvAll, h, eqvAll_map h xs ys, Bool.eq_iff_iff]
    simp
theorem layAll_map {α : Type} {f : α → PyData} (h : ∀ a, (f a).canLay0 = true) : ∀ xs : List α, PyData.canLayAll0 (xs.map f) = true
  | [] => by simp [PyData.canLayAll0]
  | x :: xs => by rw [List.map_cons, PyData.canLayAll0, h, layAll_map h xs]; rfl
theorem depAll_map {α : Type} {f : α → PyData} {k : Nat} (h : ∀ a, (f a).depth ≤ k) : ∀ xs : List α, PyData.depthAll (xs.map f) ≤ k
  | [] => by simp [PyData.depthAll]
  | x :: xs => by rw [List.map_cons, PyData.depthAll]; exact Nat.max_le.mpr ⟨h x, depAll_map h xs⟩
section
variable {α β : Type} [DecidableEq α] [DecidableEq β] {f : α → PyData} {g : β → PyData} {k m : Nat}
theorem Enc.shaped (e : Enc f k) (h : k ≤ 64 := by decide) (a : α) : SeqAt.shaped (f a) = true := by
  unfold SeqAt.shaped
  rw [e.lay a, decide_eq_true (Nat.le_trans (e.dep a) h)]; rfl
theorem Enc.int : Enc PyData.int 0 := ⟨fun a b => by rw [PyData.eqv]; exact Bool.beq_eq_decide_eq a b, fun a => by rw [PyData.canLay0], fun a => by rw [PyData.depth]; exact Nat.le_refl _⟩
theorem Enc.bool : Enc PyData.bool 0 := ⟨fun a b => by rw [PyData.eqv]; exact Bool.beq_eq_decide_eq a b, fun a => by rw [PyData.canLay0], fun a => by rw [PyData.depth]; exact Nat.le_refl _⟩
theorem Enc.list (e : Enc f k) : Enc (fun xs : List α => PyData.list (xs.map f)) (k + 1) :=
  ⟨fun a b => by rw [PyData.eqv]; exact eqvAll_map e.eq a b, fun a => by rw [PyData.canLay0]; exact layAll_map e.lay a, fun a => by rw [PyData.depth]; exact Nat.succ_le_succ (depAll_map e.dep a)⟩
theorem Enc.tuple (e : Enc f k) : Enc (fun xs : List α => PyData.tuple (xs.map f)) (k + 1) :=
  ⟨fun a b => by rw [PyData.eqv]; exact eqvAll_map e.eq a b, fun a => by rw [PyData.canLay0]; exact layAll_map e.lay a, fun a => by rw [PyData.depth]; exact Nat.succ_le_succ (depAll_map e.dep a)⟩
theorem Enc.pair (e : Enc f k) (e' : Enc g m) : Enc (fun p : α × β => PyData.tuple [f p.1, g p.2]) (max k m + 1) :=
  ⟨fun a b => by
    rw [PyData.eqv, PyData.eqvAll, PyData.eqvAll, PyData.eqvAll, e.eq, e'.eq, Bool.eq_iff_iff]
    simp [Prod.ext_iff], fun a => by rw [PyData.canLay0, PyData.canLayAll0, PyData.canLayAll0, PyData.canLayAll0, e.lay, e'.lay]; rfl,
   fun a => by
    rw [PyData.depth, PyData.depthAll, PyData.depthAll, PyData.depthAll]
    have h1 := e.dep a.1
    have h2 := e'.dep a.2
    omega⟩
theorem dpAll_map {K : PySem.W.Frag} {H : Hp} {emb : α → V} (h : ∀ a, Dp K H (emb a) (f a)) : ∀ xs : List α, DpAll K H (xs.map emb) (xs.map f)
  | [] => .nil
  | x :: xs => .cons (h x) (dpAll_map h xs)
theorem dpAll_paired {K : PySem.W.Frag} {H : Hp} {R : α → V → Prop} (h : ∀ a v, R a v → Dp K H v (f a)) : ∀ {xs : List α} {ys : List V}, Paired R xs ys → DpAll K H ys (xs.map f)
  | _, _, .nil => .nil
  | _, _, .cons r t => .cons (h _ _ r) (dpAll_paired h t)
end
section
variable {K : PySem.W.Frag} {H : Hp} {Q : VK} {x y : V} {α : Type} [DecidableEq α] {f : α → PyData} {k : Nat} {a b : α}
theorem eqD (e : Enc f k) (hx : Dp K H x (f a)) (hy : Dp K H y (f b)) (q : Q (.bl (decide (a = b))) H) (h : k ≤ 64 := by decide) : rEqD K x y H Q := ⟨_, _, hx, hy, e.shaped h a, e.shaped h b, by rw [e.eq]; exact q⟩
theorem neD (e : Enc f k) (hx : Dp K H x (f a)) (hy : Dp K H y (f b)) (q : Q (.bl (!decide (a = b))) H) (h : k ≤ 64 := by decide) : rNeD K x y H Q := ⟨_, _, hx, hy, e.shaped h a, e.shaped h b, by rw [e.eq]; exact q⟩
theorem dp_ints {p : Addr} {xs : List Int} (h : SqL K H p (xs.map V.int)) : Dp K H (.ref p) (PyData.list (xs.map PyData.int)) := .lst h (dpAll_map (fun a => .int a) xs)
theorem dp_tints {p : Addr} {xs : List Int} (h : SqT K H p (xs.map V.int)) : Dp K H (.ref p) (PyData.tuple (xs.map PyData.int)) := .tup h (dpAll_map (fun a => .int a) xs)
end
abbrev encInts : Enc (fun xs : List Int => PyData.list (xs.map PyData.int)) 1 := Enc.int.list
abbrev encTInts : Enc (fun xs : List Int => PyData.tuple (xs.map PyData.int)) 1 := Enc.int.tuple
/-! ### tuple(..) of a list or a tuple -/
def rTupOf (K : PySem.W.Frag) : List V → Hp → VK → Prop := fun xs H Q => ∃ p ys, xs = [.ref p] ∧ ((SqL K H p ys ∧ ∀ l, H l = none → Q (.ref l) (upd H l (.tup ys))) ∨ (SqT K H p ys ∧ Q (.ref p) H))
theorem c_tuple {K : PySem.W.Frag} {X : Cx} (h : X.K = K := by rfl) : CallR X (.type "tuple") (rTupOf K) := by subst h; exact call_tuple_of
theorem c_isi {K : PySem.W.Frag} {X : Cx} (h : X.K = K := by rfl) : CallR X (.builtin "isinstance") (rIsi K) := by subst h; exact call_isi
theorem tupL {K : PySem.W.Frag} {H : Hp} {Q : VK} {p : Addr} {xs : List V} (h : SqL K H p xs) (k : ∀ l, H l = none → Q (.ref l) (upd H l (.tup xs))) : rTupOf K [.ref p] H Q := ⟨p, xs, rfl, .inl ⟨h, k⟩⟩
theorem tupT {K : PySem.W.Frag} {H : Hp} {Q : VK} {p : Addr} {xs : List V} (h : SqT K H p xs) (k : Q (.ref p) H) : rTupOf K [.ref p] H Q := ⟨p, xs, rfl, .inr ⟨h, k⟩⟩
end Rd

set_option Elab.async false
set_option linter.all false
set_option maxRecDepth 100000
set_option maxHeartbeats 0
/-! Rules with the fragment named, so that they can stand within blocks. -/
namespace L2
theorem Room.units1 {k : Nat} {A : PySem.Around} (r : Room k A) : A.units + 1 < PySem.cLine := by have := r.un; omega
theorem Room.units65 {k : Nat} {A : PySem.Around} (r : Room k A) : A.units + 65 < PySem.cLine := by have := r.un; omega
end L2
namespace OwX
open PySem PySem.Spec PyProof.Rows L2
section
variable {X : Cx} {k : Nat} {C f : Addr} {m : Str} {sp : Sp} {o e : Expr} {es : List Expr} {ta : TE} {t : TA} {apos pos : Pos} {pl : Sem Bool} {E : XK}
/-- o.m(e, ..), what is raised goes on to E -/
theorem pe_meX (c : Cls X.K C) (hm : Meth X.K C m f) (F : FnR X.prog X.w X.K X.mg X.base (L2.CX X.prog X.w) k f sp) (hr : Room k X.A) (hx : Passes (L2.CX X.prog X.w) X E) (he : PE X o ta) (ha : PA X (e :: es) t)
    (hst : starEach (e :: es) X.env = (false, eval e X.env) :: starEach es X.env := by rfl) (hpl : (backTo pos (starEach es X.env)).any (·.1) = false := by rfl)
    (ht : eval (.Call (.Attribute o m apos) (e :: es) [] pos) X.env = (do
      let ov ← eval o X.env
      standAt apos.atName
      let (f, first) ← holding [ov] (getMethod ov m pl)
      callWith pos f first (backTo pos (starEach (e :: es) X.env)) (backToKw pos (keywordEach [] X.env))) := by rfl) :
    PE X (.Call (.Attribute o m apos) (e :: es) [] pos) (tMethR C m sp E ta t) := pe_methR (pl := pl) he c hm F hr hx ha hst hpl ht
theorem pe_me (c : Cls X.K C) (hm : Meth X.K C m f) (F : FnR X.prog X.w X.K X.mg X.base (L2.CX X.prog X.w) k f sp) (hr : Room k X.A) (he : PE X o ta) (ha : PA X (e :: es) t)
    (hst : starEach (e :: es) X.env = (false, eval e X.env) :: starEach es X.env := by rfl) (hpl : (backTo pos (starEach es X.env)).any (·.1) = false := by rfl)
    (ht : eval (.Call (.Attribute o m apos) (e :: es) [] pos) X.env = (do
      let ov ← eval o X.env
      standAt apos.atName
      let (f, first) ← holding [ov] (getMethod ov m pl)
      callWith pos f first (backTo pos (starEach (e :: es) X.env)) (backToKw pos (keywordEach [] X.env))) := by rfl) :
    PE X (.Call (.Attribute o m apos) (e :: es) [] pos) (tMethR C m sp E0 ta t) := pe_methR (pl := pl) he c hm F hr passL ha hst hpl ht
/-- o.m() -/
def tMe0 (C : Addr) (m : Str) (sp : Sp) (E : XK) (ta : TE) : TE := fun σ H Q => ta σ H fun x H1 => ∃ a dx fs, x = .ref a ∧ H1 a = some (.ins C dx fs) ∧ fs.lookup m = none ∧ sp [.ref a] H1 Q E
theorem pe_me0X (c : Cls X.K C) (hm : Meth X.K C m f) (F : FnR X.prog X.w X.K X.mg X.base (L2.CX X.prog X.w) k f sp) (hr : Room k X.A) (hx : Passes (L2.CX X.prog X.w) X E) (he : PE X o ta)
    (ht : eval (.Call (.Attribute o m apos) [] [] pos) X.env = (do
      let ov ← eval o X.env
      standAt apos.atName
      let (f, first) ← holding [ov] (getMethod ov m pl)
      callWith pos f first (backTo pos (starEach [] X.env)) (backToKw pos (keywordEach [] X.env))) := by rfl) :
    PE X (.Call (.Attribute o m apos) [] [] pos) (tMe0 C m sp E ta) := by
  refine ⟨fun pins s σ H Q I h => ?_⟩
  refine PySem.W.methodCall_KW (pl := pl) (thn (he.run pins s σ H _ I h) fun u s1 ⟨x, H1, I1, rx, a, dx, fs, ex, ea, l, q⟩ => ?_) ht
  subst ex
  obtain rfl : u = Value.ref a := rx
  refine getmeth_ok I1 ea c hm l ?_
  exact PySem.W.callWith_K0 (first := [.ref a]) I1.kIn hm.kp (call_own (us := [.ref a]) (vs := [.ref a]) F hr rfl hx I1 (.cons rfl .nil) q)
theorem pe_me0 (c : Cls X.K C) (hm : Meth X.K C m f) (F : FnR X.prog X.w X.K X.mg X.base (L2.CX X.prog X.w) k f sp) (hr : Room k X.A) (he : PE X o ta)
    (ht : eval (.Call (.Attribute o m apos) [] [] pos) X.env = (do
      let ov ← eval o X.env
      standAt apos.atName
      let (f, first) ← holding [ov] (getMethod ov m pl)
      callWith pos f first (backTo pos (starEach [] X.env)) (backToKw pos (keywordEach [] X.env))) := by rfl) :
    PE X (.Call (.Attribute o m apos) [] [] pos) (tMe0 C m sp E0 ta) := pe_me0X (pl := pl) c hm F hr passL he ht
end
end OwX
namespace GW
open PySem PySem.Spec PyProof.Rows L2 OwX
variable {K : PySem.W.Frag} {X : Cx}
section
variable {o e e1 e2 tg l : Expr} {f : Str} {ta tb tl : TE} {t : TA} {pos p : Pos}
theorem fld (he : PE X e ta) (h : X.K = K := by rfl) (hb : attributeBase e f X.env (eval e X.env) = eval e X.env := by rfl) : PE X (.Attribute e f pos) (tFld K ta f) := by subst h; exact pe_fld he hb
theorem ixL (h : X.K = K := by rfl) : IxR X (rIxL K) := by subst h; exact ix_list
theorem ixT (h : X.K = K := by rfl) : IxR X (rIxT K) := by subst h; exact ix_tup
theorem eqD (hu : X.A.units + 64 < cLine) (h : X.K = K := by rfl) : OpR X (compareOp .Eq) (rEqD K) := by subst h; exact op_eqD hu
theorem neD (hu : X.A.units + 64 < cLine) (h : X.K = K := by rfl) : OpR X (compareOp .NotEq) (rNeD K) := by subst h; exact op_neD hu
theorem inS (h : X.K = K := by rfl) : OpR X (compareOp .In) (rIn K false) := by subst h; exact op_in_seq
theorem niS (h : X.K = K := by rfl) : OpR X (compareOp .NotIn) (rIn K true) := by subst h; exact op_notIn_seq
theorem inD (hu : X.A.units + 65 < cLine) (h : X.K = K := by rfl) : OpR X (compareOp .In) (rInD K) := by subst h; exact op_inD hu
theorem niD (hu : X.A.units + 65 < cLine) (h : X.K = K := by rfl) : OpR X (compareOp .NotIn) (rNotInD K) := by subst h; exact op_notInD hu
theorem catT (h : X.K = K := by rfl) : OpR X (binaryOp .Add) (rCatT K) := by subst h; exact op_catT
theorem ltT (hu : X.A.units < cLine) (h : X.K = K := by rfl) : OpR X (compareOp .Lt) (rLtT K) := by subst h; exact op_ltT hu
theorem slL (h : X.K = K := by rfl) : SlR X (rSlL K) := by subst h; exact sl_list
theorem slA (h : X.K = K := by rfl) : SlR X (rSlA K) := by subst h; exact sl_tupA
theorem sum (hc : X.calm = true) (h : X.K = K := by rfl) : CallR X (.builtin "sum") (rSum K) := by subst h; exact cr_sum hc
theorem any (hc : X.calm = true) (h : X.K = K := by rfl) : CallR X (.builtin "any") (rAny K) := by subst h; exact cr_any hc
theorem all (hc : X.calm = true) (h : X.K = K := by rfl) : CallR X (.builtin "all") (rAll K) := by subst h; exact cr_all hc
theorem max (hc : X.calm = true) (h : X.K = K := by rfl) : CallR X (.builtin "max") (rMax K) := by subst h; exact cr_max hc
theorem min (hc : X.calm = true) (h : X.K = K := by rfl) : CallR X (.builtin "min") (rMin K) := by subst h; exact cr_min hc
theorem pi_list (hl : PE X l tl) (h : X.K = K := by rfl) : PI X tg l (iList K tl) := by subst h; exact L2.pi_list hl
theorem pi_tup (hl : PE X l tl) (h : X.K = K := by rfl) : PI X tg l (iTup K tl) := by subst h; exact L2.pi_tup hl
theorem revL {k : Nat} {p1 p2 p3 : Pos} (he : PE X e ta) (h : X.K = K := by rfl) : PE X (.Subscript e (.Slice none none (some (.UnaryOp .USub (.Constant (.int 1) k p1) p2)) p3) pos) (tRevL K ta) := by subst h; exact pe_revL he
theorem zip {elts : List Expr} {kk : Nat} {tpos : Pos} (hg : Gl X "zip") (hm : X.mg "zip" = none) (ha : PA X [e, e2] t) (h : X.K = K := by rfl)
    (hs : starEach [e, e2] X.env = (false, eval e X.env) :: starEach [e2] X.env := by rfl) (hpl : (backTo pos (starEach [e2] X.env)).any (·.1) = false := by rfl) :
    PI X (.Tuple elts kk tpos) (.Call (.Name "zip" p) [e, e2] [] pos) (iZip K t) := by subst h; exact L2.pi_zip hg hm ha hs hpl
theorem zipA {elts : List Expr} {kk : Nat} {tpos : Pos} (hg : Gl X "zip") (hm : X.mg "zip" = none) (ha : PA X [e, e2] t) (h : X.K = K := by rfl)
    (hs : starEach [e, e2] X.env = (false, eval e X.env) :: starEach [e2] X.env := by rfl) (hpl : (backTo pos (starEach [e2] X.env)).any (·.1) = false := by rfl) :
    PI X (.Tuple elts kk tpos) (.Call (.Name "zip" p) [e, e2] [] pos) (RZ.iZipA K t) := by subst h; exact RZ.pi_zipA hg hm ha hs hpl
theorem enum {elts : List Expr} {kk : Nat} {tpos : Pos} (hg : Gl X "enumerate") (hm : X.mg "enumerate" = none) (ha : PA X [e] t) (h : X.K = K := by rfl) (hs : starEach [e] X.env = [(false, eval e X.env)] := by rfl) :
    PI X (.Tuple elts kk tpos) (.Call (.Name "enumerate" p) [e] [] pos) (iEnum K t) := by subst h; exact pi_enum hg hm ha hs
theorem unl {es : List Expr} {k : Nat} {t : TGs} {n : Nat} (hc : X.calm = true) (g : PGs X es t) (h : X.K = K := by rfl)
    (hn : (assignEach es X.env).length = n := by rfl) (hst : (assignEach es X.env).findIdx? (·.1) = none := by rfl) : PG X (.Tuple es k pos) (gUnl K n t) := by subst h; exact pg_unl hc g hn hst
theorem tup {es : List Expr} {k : Nat} {t : TGs} {n : Nat} (hc : X.calm = true) (g : PGs X es t) (h : X.K = K := by rfl)
    (hn : (assignEach es X.env).length = n := by rfl) (hst : (assignEach es X.env).findIdx? (·.1) = none := by rfl) : PG X (.Tuple es k pos) (gTup K n t) := by subst h; exact pg_tup hc g hn hst
end
theorem bm {T : String} {name : Str} {id : String} {r : V → List V → Hp → VK → Prop} {o e : Expr} {es : List Expr} {to : TE} {t : TA} {apos cpos : Pos} (pa : PlainAttrs T) (slot : Slot T name id) (hty : typeOf (.builtin id) = pure (.type "method_descriptor")) (hm : MtR X id r) (ho : PE X o to) (ha : PA X (e :: es) t) (h : X.K = K := by rfl)
    (hbase : attributeBase o name X.env (eval o X.env) = eval o X.env := by rfl)
    (hfew : ((backTo cpos (starEach (e :: es) X.env)).all (fun x => !x.1) && (backToKw cpos (keywordEach [] X.env)).all (fun x => x.1.isSome)
      && decide ((e :: es).length + ([] : List Keyword).length + (if ([] : List Keyword).isEmpty then 0 else 1) < 30)) = true := by rfl)
    (hline : (apos.endLine == cpos.line) = true := by rfl) (hs : starEach (e :: es) X.env = (false, eval e X.env) :: starEach es X.env := by rfl) (hplain : (backTo cpos (starEach es X.env)).any (·.1) = false := by rfl) :
    PE X (.Call (.Attribute o name apos) (e :: es) [] cpos) (tBM K T r to t) := by subst h; exact pe_bm pa slot hty hm ho ha hbase hfew hline hs hplain
def rIsN : R2 := fun x y H Q => y = .non ∧ Q (.bl (decide (x = .non))) H
def rNotN : R2 := fun x y H Q => y = .non ∧ Q (.bl (!decide (x = .non))) H
theorem isN : OpR X (compareOp .Is) rIsN := op_isN
theorem notN : OpR X (compareOp .IsNot) rNotN := op_notN
theorem cnt (h : X.K = K := by rfl) : MtR X "list.count" (rCntI K) := by subst h; exact mt_lcount
end GW
namespace Rd
open PySem PySem.Spec PyProof.Rows L2 OwX
section
variable {K : PySem.W.Frag} {σ : L2.St} {H : Hp} {Q : VK} {p : Addr} {xs ys : List V} {v y : V} {a b : Bool}
theorem mev {C a dx : Addr} {fs : List (Str × V)} {m : Str} {sp : Sp} {E : XK} {i : Nat} {t : TA} (h1 : σ[i]? = some (some (.ref a))) (h2 : H a = some (.ins C dx fs)) (l : fs.lookup m = none) (k : t σ H fun vs H2 => sp (.ref a :: vs) H2 Q E) : tMethR C m sp E (tVar i) t σ H Q := ⟨.ref a, h1, a, dx, fs, rfl, h2, l, k⟩
theorem me0v {C a dx : Addr} {fs : List (Str × V)} {m : Str} {sp : Sp} {E : XK} {i : Nat} (h1 : σ[i]? = some (some (.ref a))) (h2 : H a = some (.ins C dx fs)) (l : fs.lookup m = none) (k : sp [.ref a] H Q E) : tMe0 C m sp E (tVar i) σ H Q := ⟨.ref a, h1, a, dx, fs, rfl, h2, l, k⟩
theorem propv {C a dx : Addr} {fs : List (Str × V)} {sp : Sp} {E : XK} {i : Nat} {ds : List V} (h1 : σ[i]? = some (some (.ref a))) (h2 : H a = some (.ins C dx fs)) (k : sp (.ref a :: ds) H Q E) : tProp C sp ds E (tVar i) σ H Q := ⟨.ref a, h1, a, dx, fs, rfl, h2, k⟩
theorem isNn (k : Q (.bl true) H) : GW.rIsN .non .non H Q := ⟨rfl, by simpa using k⟩
theorem isNr (k : Q (.bl false) H) : GW.rIsN (.ref p) .non H Q := ⟨rfl, by simpa using k⟩
theorem notNn (k : Q (.bl false) H) : GW.rNotN .non .non H Q := ⟨rfl, by simpa using k⟩
theorem notNr (k : Q (.bl true) H) : GW.rNotN (.ref p) .non H Q := ⟨rfl, by simpa using k⟩
theorem bmLv {r : V → List V → Hp → VK → Prop} {i : Nat} {t : TA} (h1 : σ[i]? = some (some (.ref p))) (h2 : SqL K H p xs) (k : t σ H fun vs H2 => r (.ref p) vs H2 Q) : tBM K "list" r (tVar i) t σ H Q := ⟨.ref p, h1, .inl ⟨rfl, xs, h2⟩, k⟩
theorem bmLm {r : V → List V → Hp → VK → Prop} {i : Nat} {t : TA} (h1 : σ[i]? = some (some (.ref p))) (h2 : ∃ xs, SqL K H p xs) (k : t σ H fun vs H2 => r (.ref p) vs H2 Q) : tBM K "list" r (tVar i) t σ H Q := ⟨.ref p, h1, .inl ⟨rfl, h2⟩, k⟩
theorem appendL (h : H p = some (.lst xs)) (l : xs.length < sizeLine) (k : Q .non (upd H p (.lst (xs ++ [y])))) : rAppend (.ref p) [y] H Q := ⟨p, xs, y, rfl, rfl, h, l, k⟩
theorem countL {ns : List Int} {z : Int} (h : SqL K H p (ns.map V.int)) (k : Q (.int (ns.count z : Nat)) H) : rCntI K (.ref p) [.int z] H Q := ⟨p, ns, z, rfl, rfl, h, k⟩
theorem catL {q : Addr} (h1 : H p = some (.lst xs)) (h2 : H q = some (.lst ys)) (l : xs.length + ys.length ≤ sizeLine) (k : ∀ r, H r = none → Q (.ref r) (upd H r (.lst (xs ++ ys)))) : rCat (.ref p) (.ref q) H Q := ⟨p, q, xs, ys, rfl, rfl, h1, h2, l, k⟩
theorem repL {n : Int} (h1 : H p = some (.lst xs)) (l1 : -(2 ^ 63) ≤ n) (l2 : n < 2 ^ 63) (l : xs.length * n.toNat ≤ sizeLine) (k : ∀ r, H r = none → Q (.ref r) (upd H r (.lst (List.replicate n.toNat xs).flatten))) : rRep (.ref p) (.int n) H Q := ⟨p, n, xs, rfl, rfl, h1, l1, l2, l, k⟩
theorem sl {r : V → Option Int → Option Int → Hp → VK → Prop} {te : TE} {tl th : TO} (k : te σ H fun x H1 => tl σ H1 fun l H2 => th σ H2 fun u H3 => r x l u H3 Q) : tSl r te tl th σ H Q := k
theorem po0 {R : Option Int → Hp → Prop} (k : R none H) : tNoPart σ H R := k
theorem poI {R : Option Int → Hp → Prop} {te : TE} (k : te σ H fun x H1 => ∃ i, x = .int i ∧ R (some i) H1) : tPart te σ H R := k
theorem ixi {A : Int → Prop} {i : Int} (k : A i) : ∃ j, V.int i = .int j ∧ A j := ⟨i, rfl, k⟩
theorem cutL {lo hi : Option Int} (h : SqL K H p xs) (k : ∀ q, H q = none → Q (.ref q) (upd H q (.lst (cutV xs lo hi)))) : rSlL K (.ref p) lo hi H Q := ⟨p, xs, rfl, h, k⟩
theorem revLv {i : Nat} (h1 : σ[i]? = some (some (.ref p))) (h2 : SqL K H p xs) (k : ∀ q, H q = none → Q (.ref q) (upd H q (.lst xs.reverse))) : tRevL K (tVar i) σ H Q := ⟨.ref p, h1, p, xs, rfl, h2, k⟩
theorem isB (k : Q (.bl (decide (a = b))) H) : rIsB (.bl a) (.bl b) H Q := ⟨a, b, rfl, rfl, k⟩
theorem notB (k : Q (.bl (!decide (a = b))) H) : rNotB (.bl a) (.bl b) H Q := ⟨a, b, rfl, rfl, k⟩
theorem notBtt (k : Q (.bl false) H) : rNotB (.bl true) (.bl true) H Q := ⟨true, true, rfl, rfl, k⟩
theorem notBff (k : Q (.bl false) H) : rNotB (.bl false) (.bl false) H Q := ⟨false, false, rfl, rfl, k⟩
theorem notBtf (k : Q (.bl true) H) : rNotB (.bl true) (.bl false) H Q := ⟨true, false, rfl, rfl, k⟩
theorem notBft (k : Q (.bl true) H) : rNotB (.bl false) (.bl true) H Q := ⟨false, true, rfl, rfl, k⟩
theorem neSame (e : a = b) (k : Q (.bl false) H) : rNe (.bl a) (.bl b) H Q := ⟨rfl, by subst e; rw [decide_eq_true rfl]; exact k⟩
theorem cut_map {α : Type} {f : α → V} {zs : List α} {lo hi : Option Int} : cutV (zs.map f) lo hi = ((zs.drop (HT.sIx zs.length 0 lo)).take (HT.sIx zs.length zs.length hi - HT.sIx zs.length 0 lo)).map f := by
  unfold cutV
  rw [List.length_map, List.map_take, List.map_drop]
theorem cut_len {α : Type} {zs : List α} {i j : Nat} : ((zs.drop i).take j).length ≤ zs.length := by
  rw [List.length_take, List.length_drop]; omega
theorem cutI {zs : List Int} {lo hi : Option Int} (h : SqL K H p (zs.map V.int)) (k : ∀ q (ts : List Int), ts.length ≤ zs.length → H q = none → Q (.ref q) (upd H q (.lst (ts.map V.int)))) : rSlL K (.ref p) lo hi H Q :=
  cutL h fun q hq => by rw [cut_map]; exact k q _ cut_len hq
theorem catI {q : Addr} {zs ts : List Int} (h1 : H p = some (.lst (zs.map V.int))) (h2 : H q = some (.lst (ts.map V.int))) (l : zs.length + ts.length ≤ 100000) (k : ∀ r, H r = none → Q (.ref r) (upd H r (.lst ((zs ++ ts).map V.int)))) : rCat (.ref p) (.ref q) H Q :=
  catL h1 h2 (sz (by simpa using l)) fun r hr => by rw [← List.map_append]; exact k r hr
theorem revI {i : Nat} {zs : List Int} (h1 : σ[i]? = some (some (.ref p))) (h2 : SqL K H p (zs.map V.int)) (k : ∀ q, H q = none → Q (.ref q) (upd H q (.lst (zs.reverse.map V.int)))) : tRevL K (tVar i) σ H Q :=
  revLv h1 h2 fun q hq => by rw [← List.map_reverse]; exact k q hq
theorem setI {R : Hp → Prop} {zs : List Int} {i z : Int} {n : Nat} (h : H p = some (.lst (zs.map V.int))) (e : i = (n : Int)) (l : n < zs.length) (k : R (upd H p (.lst ((zs.set n z).map V.int)))) : rSetL (.ref p) (.int i) (.int z) H R :=
  setL h (ixN_nat e (by rw [List.length_map]; exact l)) (by rw [← List.map_set]; exact k)
theorem repI {n : Nat} {z : Int} (h1 : H p = some (.lst [V.int z])) (l1 : n ≤ 10000) (k : ∀ r, H r = none → Q (.ref r) (upd H r (.lst ((List.replicate n z).map V.int)))) : rRep (.ref p) (.int n) H Q :=
  repL h1 (by omega) (by omega) (sz (by simp; omega)) fun r hr => by
    have e : (List.replicate (n : Int).toNat [V.int z]).flatten = (List.replicate n z).map V.int := by
      rw [Int.toNat_natCast]
      clear l1 k
      induction n with
      | zero => rfl
      | succ n ih => rw [List.replicate_succ, List.replicate_succ, List.flatten_cons, ih]; rfl
    rw [e]
    exact k r hr
theorem smeth {C : Addr} {sp : Sp} {E : XK} {t : TA} (k : t σ H fun vs H2 => sp vs H2 Q E) : tSMeth C sp E (tC (.ref C)) t σ H Q := ⟨rfl, k⟩
theorem par {i j : Nat} {ta : TA} {D : Ends} (k : ta σ H fun vs H1 => ∃ v w, vs = [v, w] ∧ D.nx ((σ.set i (some v)).set j (some w)) H1) : tPar i j ta D σ H := k
theorem par2 {x y : V} {A : V → V → Prop} (k : A x y) : ∃ v w, [x, y] = [v, w] ∧ A v w := ⟨x, y, rfl, k⟩
theorem sumL {ns : List Int} (h : SqL K H p (ns.map V.int)) (k : Q (.int ns.sum) H) : rSum K [.ref p] H Q := ⟨p, ns, rfl, h, k⟩
end
end Rd
namespace L2
open PySem PySem.Spec PyProof.Rows OwX
mutual
theorem Dp.ext {K : PySem.W.Frag} {H H' : Hp} {v : V} {d : PyData} (h : Dp K H v d) (e : Ext H H') : Dp K H' v d := match h with
  | .non => .non
  | .bl b => .bl b
  | .int i => .int i
  | .str x => .str x
  | .lst h a => .lst (Rd.ext_L e h) (DpAll.ext a e)
  | .tup h a => .tup (Rd.ext_T e h) (DpAll.ext a e)
theorem DpAll.ext {K : PySem.W.Frag} {H H' : Hp} {vs : List V} {ds : List PyData} (h : DpAll K H vs ds) (e : Ext H H') : DpAll K H' vs ds := match h with
  | .nil => .nil
  | .cons h t => .cons (Dp.ext h e) (DpAll.ext t e)
end
end L2

set_option Elab.async false
set_option linter.all false
set_option maxRecDepth 100000
set_option maxHeartbeats 0
/-! A dict by a comprehension whose keys are tuples. -/
namespace OwX
open PySem PySem.Spec PyProof.Rows L2
/-- in the block of a comprehension -/
abbrev InBlk (X : Cx) (scope : Scope) (J : Cx → Prop) : Prop := ∀ (s : Shared) (H : Hp) (C : Addr) (cl : List (Str × Addr)) (fp : List Addr), J (X.blk s H scope (compEnvC scope cl C X.env) fp)
/-- the turns' reading: the dict at D grows -/
def TurnsT (J : It) (g : TG) (tt : TT) (tk tv : TE) (vs : List Nat) (σ : L2.St) (D : Addr) (W : Nat → Nat → Hp → Prop) (Z : Hp → Prop) : Prop := ∀ i m H, W i m H →
  (J.stop i H ∧ Z H) ∨ (J.go i H ∧ ∃ Nx : Hp → Prop, (∀ H', Nx H' → ∃ m', m' < m ∧ W (i + 1) m' H') ∧ ∀ x H', J.yld i H x H' → g x (wipe σ vs) H' fun σ2 H2 => wipe σ2 vs = wipe σ vs ∧ tt σ2 H2 fun b H3 =>
    if b = true then tk σ2 H3 fun y H4 => tv σ2 H4 fun z H5 => ∃ kvs ks b, y = .ref b ∧ H5 b = some (.tup (ks.map kV)) ∧ H5 D = some (.dT kvs) ∧ kvs.length < sizeLine ∧ Nx (upd H5 D (.dT (putK kvs ks z))) else Nx H3)
def tDcT (wi : TI) (g : TG) (tt : TT) (tk tv : TE) (vs : List Nat) : TE := fun σ H Q => wi σ H fun J H1 => ∀ D, H1 D = none → ∃ W : Nat → Nat → Hp → Prop, (∃ m, W 0 m (upd H1 D (.dT []))) ∧ TurnsT J g tt tk tv vs σ D W (fun H => Q (.ref D) H)
section
variable {X : Cx} {pins : List (Addr × Obj)} {σ : L2.St} {H : Hp} {s : Shared}
/-- one entry more -/
theorem put_tuple {D b : Addr} {kvs : List (List Key × V)} {ks : List Key} {v : V} {r : Value} {E : Value → Shared → Prop} {R : Unit → Shared → Prop} (hu : X.A.units < cLine) (I : Inv X pins σ H s) (hD : H D = some (.dT kvs)) (hl : kvs.length < sizeLine) (hb : H b = some (.tup (ks.map kV))) (rv : RelV v r)
    (k : ∀ s', Inv X pins σ (upd H D (.dT (putK kvs ks v))) s' → R () s') : wpAny (model X.prog X.w) X.A (dictSet D (.ref b) r) R E s := by
  obtain ⟨z, hd, ents, rel, dd⟩ := dt_of I.hok hD
  have few : ents.length ≤ sizeLine := Paired.length rel ▸ z
  have room : (putK kvs ks v).length ≤ sizeLine := Nat.le_trans (length_putK kvs ks v) hl
  refine wpAny_dictSet_heap (hsz := few) hu (key_of I.hok hb) dd fun h' dd' hs => k _ ?_
  obtain ⟨ob, es, ep, ho, d2, d3, d4, _, d6⟩ := dd'
  refine d_write I (by rw [hD]; trivial) hs ⟨ob, ho⟩ ⟨room, hd, _, (rel.put ks hb rv).keeps fun c ys hc => ?_, ob, es, ep, ho, d2, d3, d4, d6⟩
  rw [upd_ne (ne_of hc hD (by intro q; cases q))]
  exact hc
section
variable {kx vx tg iter : Expr} {ifs : List Expr} {scope : Scope} {own : List (Str × Nat)} {pos : Pos} {wi : TI} {g : TG} {tt : TT} {tk tv : TE}
theorem dct_run {p2 : Pos} {use : Option (Value → Sem Unit)} {R : Value → Shared → Prop} (hu : X.A.units < cLine) (hc : X.calm = true) (hN : X.N.Nodup) (I : Inv X pins σ H s) (hi : PI X tg iter wi) (ok : BlkOk X.N X.env.scope scope own)
    (jg : InBlk X scope fun Y => PG Y tg g) (jt : InBlk X scope fun Y => PTs Y ifs tt) (jk : InBlk X scope fun Y => PE Y kx tk) (jv : InBlk X scope fun Y => PE Y vx tv) (hs : ∀ x, foldedSetIterable iter X.env x = pure x)
    (h : tDcT wi g tt tk tv (own.map (·.2)) σ H Q)
    (back : ∀ D C s' m H', Inv X pins σ H' s' → Q (.ref D) H' → s'.heap.Ns C m → FpOk X pins H' C → compPost (model X.prog X.w) X.A X.xe use R (.ref D) C (.ok .next) s') :
    wpAny (model X.prog X.w) X.A (comprehension (.DictComp kx vx [⟨tg, iter, ifs, 0⟩] scope pos) scope X.env p2 newDict false (eval iter X.env) use) R X.xe s := by
  have cellsOf : ∀ y ∈ scope.names, y.2 = .free → ∃ c, X.env.cells.lookup y.1 = some c := by
    intro y hy e
    cases ok.free y hy e with
    | inl q => exact I.ok.has _ (.inl q)
    | inr q => exact I.ok.has _ (.inr q)
  refine wpAny_comprehension_free (use := use) rfl hs (closure_ok cellsOf) ok.kind (fun y hy e => (ok.uniq y hy).trans (by rw [e])) (thn (hi.run pins s σ H _ I h) fun xv s1 hx => thn hx fun itv s2 h2 => ?_)
  obtain ⟨it, fp, tn, J, H2, rfl, I2, T, start, apart, q⟩ := h2
  refine wpAny_newObj_type (newEnv_comp ?_)
  generalize eD : s2.heap.objs.size = D
  obtain ⟨W, ⟨m0, w0⟩, turn⟩ := q D (I2.hok.fresh (Nat.le_of_eq eD))
  generalize e3 : ({ s2 with heap := s2.heap.push { cls := .type "dict", data := .dict #[] } } : Shared) = s3
  have hp3 : s3.heap = s2.heap.push { cls := .type "dict", data := .dict #[] } := by rw [← e3]
  have I3 : Inv X pins σ (upd H2 D (.dT [])) s3 := by
    subst e3
    refine I2.laid (t' := s2.toks) (fun _ _ e => Heap.get?_push_of_some _ e) (Nat.le_of_eq eD) ?_
    subst eD
    exact dt_empty s2.heap I2.big
  have below : ∀ b ∈ fp, b < s2.heap.objs.size := fun b hb => (T.obj _ _ start b hb).elim fun _ e => Heap.lt_size e.1
  have ap3 : ∀ b ∈ fp, FpOk X pins (upd H2 D (.dT [])) b ∧ b < s3.heap.objs.size := by
    intro b hb
    have lt := below b hb
    obtain ⟨a1, a2⟩ := apart b hb
    exact ⟨⟨(upd_ne (by rw [← eD]; exact Nat.ne_of_lt lt)).trans a1, a2⟩, by rw [hp3, Heap.size_push]; exact Nat.lt_succ_of_lt lt⟩
  have start3 : tn 0 s3.heap := T.keep _ _ _ start fun b _ o e => by rw [hp3]; exact Heap.get?_push_of_some _ e
  have I4 := block_start I3 ok hN ap3
  have kg := jg s3 (upd H2 D (.dT [])) s3.heap.objs.size (cellsFrom (s3.heap.objs.size + 1) scope.names (cloFrom X.env.cells scope.names [])) fp
  have kt := jt s3 (upd H2 D (.dT [])) s3.heap.objs.size (cellsFrom (s3.heap.objs.size + 1) scope.names (cloFrom X.env.cells scope.names [])) fp
  have kk := jk s3 (upd H2 D (.dT [])) s3.heap.objs.size (cellsFrom (s3.heap.objs.size + 1) scope.names (cloFrom X.env.cells scope.names [])) fp
  have kv := jv s3 (upd H2 D (.dT [])) s3.heap.objs.size (cellsFrom (s3.heap.objs.size + 1) scope.names (cloFrom X.env.cells scope.names [])) fp
  have gone : ∀ b ∈ fp, (upd H2 D (.dT [])) b = none := fun b hb => (ap3 b hb).1.1
  show codeAny _ _ (.compStart (.DictComp kx vx [⟨tg, iter, ifs, 0⟩] scope pos) 0 (.ref it) (.ref D) (compEnvC scope (cellsFrom (s3.heap.objs.size + 1) scope.names (cloFrom X.env.cells scope.names [])) s3.heap.objs.size X.env))
    (compPost (model X.prog X.w) X.A X.xe use R (.ref D) s3.heap.objs.size) { s3 with heap := pushCells (s3.heap.push { cls := .type "dict", data := .dict #[] }) scope.names }
  generalize ee : compEnvC scope (cellsFrom (s3.heap.objs.size + 1) scope.names (cloFrom X.env.cells scope.names [])) s3.heap.objs.size X.env = en at I4 kg kt kk kv ⊢
  have locs : en.locals = s3.heap.objs.size := by rw [← ee]; rfl
  generalize eH : upd H2 D (.dT []) = H3 at I3 I4 kg kt kk kv w0 gone ap3
  generalize e4 : ({ s3 with heap := pushCells (s3.heap.push { cls := .type "dict", data := .dict #[] }) scope.names } : Shared) = s4 at I4 ⊢
  have start4 : tn 0 s4.heap := T.keep _ _ _ start3 fun b _ o e => by rw [← e4]; exact pushCells_keeps _ _ _ _ (Heap.get?_push_of_some _ e)
  have free : ∀ {τ : L2.St} {G : Hp} {t : Shared}, Inv (X.blk s3 H3 scope en fp) [] τ G t → (∀ b ∈ fp, G b = none) → ∀ b ∈ fp, FpOk (X.blk s3 H3 scope en fp) [] G b := by
    intro τ G t Y n b hb
    have xf := Y.ok.exf b hb
    exact ⟨n b hb, xf.1, Y.ok.exfs b hb, .inl hb, fun x c e => xf.2 x c e, fun p hp => absurd (show p ∈ ([] : List (Addr × Obj)) ++ [] from hp) (by simp)⟩
  have loop : codeAny (model X.prog X.w) X.A (.compLoop (.DictComp kx vx [⟨tg, iter, ifs, 0⟩] scope pos) 0 (.ref it) (.ref D) en) (compPost (model X.prog X.w) X.A X.xe use R (.ref D) s3.heap.objs.size) s4 := by
    refine compLoop_anyD (fun n t => ∃ i G, Inv (X.blk s3 H3 scope en fp) [] (wipe σ (own.map (·.2))) G t ∧ tn i t.heap ∧ (∀ b ∈ fp, G b = none) ∧ W i n G) ?_ m0 ⟨0, H3, I4, start4, gone, w0⟩
    rintro n s5 ⟨i, H5, I5, t5, n5, w5⟩
    cases turn i n H5 w5 with
    | inl hh =>
      obtain ⟨stop, last⟩ := hh
      refine thnF (T.done (X.blk s3 H3 scope en fp) rfl rfl rfl hc i [] s5 _ H5 (fun _ _ => False) I5 (free I5 n5) t5 stop) fun r s6 ⟨rr, I6⟩ => ?_
      subst rr
      have I7 : Inv X pins σ H5 s6 := I3.call' (ch := fp) I6.os I6.base I6.hok I6.bare fun b hb => (ap3 b hb).1.2.elim fun c1 c2 => ⟨c2.2.1, c1, c2.2.2.1, c2.2.2.2⟩
      have out : H5 s3.heap.objs.size = none := locs ▸ (I6.free : H5 en.locals = none)
      obtain ⟨mm, hn, _⟩ := I6.loc
      exact back D s3.heap.objs.size s6 mm H5 I7 last (locs ▸ (hn : s6.heap.Ns en.locals mm)) (I3.fpOk (Nat.le_refl _) out)
    | inr hh =>
      obtain ⟨go, Nx, less, step⟩ := hh
      refine thnF (T.item (X.blk s3 H3 scope en fp) rfl rfl rfl hc i [] s5 _ H5 (fun _ _ => False) I5 (free I5 n5) t5 go) fun r s6 ⟨u, rr, h6⟩ => ?_
      subst rr
      refine thnF h6 fun _ s7 ⟨x, H7, I7, r7, y7, t7, n7⟩ => ?_
      refine thnF (kg.run _ s7 _ H7 x u _ (I7.pinned (free I7 n7) (T.obj _ _ t7)) r7 (step x H7 y7)) fun _ s8 ⟨τ, H8, I8, wp8, q8⟩ => ?_
      refine thnF (kt.run _ s8 τ H8 _ I8 q8) fun b s9 ⟨H9, I9, q9⟩ => ?_
      have next : ∀ {t : Shared} {G : Hp}, Inv (X.blk s3 H3 scope en fp) ([] ++ pinsAt fp s7.heap) τ G t → Nx G → ∃ m, m < n ∧ ∃ i G, Inv (X.blk s3 H3 scope en fp) [] (wipe σ (own.map (·.2))) G t ∧ tn i t.heap ∧ (∀ b ∈ fp, G b = none) ∧ W i m G := by
        intro t G Y nx
        obtain ⟨m', lt, w'⟩ := less G nx
        have pinned : ∀ b ∈ fp, ∀ o, s7.heap.get? b = some o → t.heap.get? b = some o ∧ G b = none := by
          intro b hb o e
          have z := Y.pin (b, o) (List.mem_append_right _ (List.mem_append_right _ (mem_pinsAt hb e)))
          exact ⟨z.1, z.2.1⟩
        refine ⟨m', lt, i + 1, G, (Y.unpinned (pins := [])).weak ((wipe_length _ _).symm ▸ ((wipe_length τ (own.map (·.2))) ▸ (congrArg List.length wp8).symm ▸ wipe_length _ _ ▸ rfl)) (fun j v e => (wipe_some (wp8.symm ▸ e)).1), T.keep _ _ _ t7 fun b hb o e => (pinned b hb o e).1, fun b hb => ?_, w'⟩
        obtain ⟨o, e, _⟩ := T.obj _ _ t7 b hb
        exact (pinned b hb o e).2
      cases b with
      | false =>
        rw [if_neg Bool.false_ne_true] at q9 ⊢
        exact next I9 q9
      | true =>
        rw [if_pos rfl] at q9 ⊢
        refine thnF (kk.run _ s9 τ H9 _ I9 q9) fun z s10 ⟨yk, H10, I10, r10, q10⟩ => thnF (kv.run _ s10 τ H10 _ I10 q10) fun z2 s11 ⟨yv, H11, I11, r11, kvs, ks, b, ek, hb, hD, hl, nx⟩ => ?_
        subst ek
        obtain rfl : z = .ref b := r10
        exact put_tuple (X := X.blk s3 H3 scope en fp) hu I11 hD hl hb r11 fun s12 I12 => next I12 nx
  exact codeAny_compStart_dict loop (T.self X.A 0 _ _ _ start4 loop)
theorem pe_dct (hu : X.A.units < cLine) (hc : X.calm = true) (hN : X.N.Nodup) (hi : PI X tg iter wi) (ok : BlkOk X.N X.env.scope scope own) (jg : InBlk X scope fun Y => PG Y tg g) (jt : InBlk X scope fun Y => PTs Y ifs tt) (jk : InBlk X scope fun Y => PE Y kx tk) (jv : InBlk X scope fun Y => PE Y vx tv)
    (hs : ∀ x, foldedSetIterable iter X.env x = pure x := by intro _; rfl) : PE X (.DictComp kx vx [⟨tg, iter, ifs, 0⟩] scope pos) (tDcT wi g tt tk tv (own.map (·.2))) :=
  ⟨fun pins s σ H Q I h => by
    rw [arm_eval_DictComp]
    exact dct_run hu hc hN I hi ok jg jt jk jv hs h fun D C s' m H' I' q hn f => ⟨m, hn, fun h'' sb => ⟨.ref D, H', I'.turned (t' := s'.toks) (fun b o hb e => (sb.2 b hb).trans e) f.1 f.2.1 f.2.2.2.1 f.2.2.2.2.1 f.2.2.2.2.2, rfl, q⟩⟩⟩
end
end
end OwX
namespace Rd
open PySem PySem.Spec PyProof.Rows L2 OwX
def DctB (J : It) (g : TG) (tt : TT) (tk tv : TE) (vs : List Nat) (σ : L2.St) (H1 : Hp) (Q : VK) : Prop := ∀ D, H1 D = none → ∃ W : Nat → Nat → Hp → Prop, (∃ m, W 0 m (upd H1 D (.dT []))) ∧ TurnsT J g tt tk tv vs σ D W (fun H => Q (.ref D) H)
section
variable {K : PySem.W.Frag} {g : TG} {tt : TT} {tk tv tl : TE} {ta : TA} {vs : List Nat} {σ : L2.St} {H : Hp} {Q : VK} {tb : TS} {D : Ends}
theorem dctL (k : tl σ H fun x H1 => ∃ a, x = .ref a ∧ (∃ xs, SqL K H1 a xs) ∧ DctB (Itl K a) g tt tk tv vs σ H1 Q) : tDcT (iList K tl) g tt tk tv vs σ H Q := k
theorem dctT (k : tl σ H fun x H1 => ∃ a, x = .ref a ∧ (∃ xs, SqT K H1 a xs) ∧ DctB (Itt K a) g tt tk tv vs σ H1 Q) : tDcT (iTup K tl) g tt tk tv vs σ H Q := k
theorem forE (k : ta σ H fun vs' H1 => ∃ a xs, vs' = [.ref a] ∧ SqL K H1 a xs ∧ ForB (Ite K a) g tb D σ H1) : tFor (iEnum K ta) g tb D σ H := k
end
theorem dcP {α : Type} {J : It} {G : Hp → Prop} {Y : Nat → Hp → V → Hp → Prop} {items : List α} (w : Walk J items.length G Y) (B : α → V → Prop) (hy : ∀ i H x H', Y i H x H' → ∃ it, items[i]? = some it ∧ (H' = H ∧ B it x)) (hn : items.length < 100000)
    {g : TG} {tk tv : TE} {vs : List Nat} {σ : L2.St} {H1 : Hp} {D : Addr} {Z : Hp → Prop} (key : α → List Key) (hD : H1 D = none) (hG : ∀ H, Ext H1 H → G H)
    (hs : ∀ (i : Nat) it x H kvs, items[i]? = some it → B it x → Ext H1 H → H D = some (.dT kvs) → ∀ Rk : V → V → Hp → Prop, (∀ b z H5, H5 b = some (.tup ((key it).map kV)) → Ext H H5 → Rk (.ref b) z H5) → g x (wipe σ vs) H fun σ2 H2 => wipe σ2 vs = wipe σ vs ∧ tk σ2 H2 fun y H4 => tv σ2 H4 fun z H5 => Rk y z H5)
    (hd : ∀ kvs H, Ext H1 H → H D = some (.dT kvs) → (∀ k, (valV kvs k).isSome = true ↔ k ∈ items.map key) → Z H) :
    ∃ W : Nat → Nat → Hp → Prop, (∃ m, W 0 m (upd H1 D (.dT []))) ∧ TurnsT J g tYes tk tv vs σ D W Z := by
  have fe : ∀ {H : Hp} {u : HO}, Ext H1 H → Ext H1 (upd H D u) := fun {H u} e a o h => by
    rw [upd_ne (ne_of_none h hD)]
    exact e a o h
  refine ⟨fun i m H => m = items.length - i ∧ i ≤ items.length ∧ Ext H1 H ∧ ∃ kvs, H D = some (.dT kvs) ∧ kvs.length ≤ i ∧ ∀ k, (valV kvs k).isSome = true ↔ k ∈ (items.take i).map key, ⟨_, rfl, Nat.zero_le _, fe ext_rfl, [], upd_same, Nat.le_refl _, fun k => by simp [valV]⟩, ?_⟩
  rintro i m H ⟨rfl, hi, e, kvs, hk, hl, hv⟩
  have q := hG H e
  by_cases hlt : i < items.length
  · refine .inr ⟨w.goes i H hlt q, fun H => Ext H1 H ∧ ∃ kvs, H D = some (.dT kvs) ∧ kvs.length ≤ i + 1 ∧ ∀ k, (valV kvs k).isSome = true ↔ k ∈ (items.take (i + 1)).map key, fun H' p' => ⟨items.length - (i + 1), by omega, rfl, hlt, p'⟩, fun x H' y => ?_⟩
    obtain ⟨it, ha, rfl, hB⟩ := hy i H x H' (w.yields i H x H' hlt q y)
    refine hs i it x H' kvs ha hB e hk _ fun b z H5 hb e5 => ?_
    refine ⟨kvs, key it, b, rfl, hb, e5 _ _ hk, szl (by omega), fe (e.trans e5), _, upd_same, Nat.le_trans (length_putK _ _ _) (by omega), fun k => ?_⟩
    rw [valV_put, take_snoc ha, List.map_append]
    by_cases c : k = key it
    · rw [if_pos c, c]
      simp
    · rw [if_neg c, hv k, List.mem_append, List.map_cons, List.map_nil, List.mem_singleton]
      exact ⟨.inl, fun h => h.resolve_right c⟩
  · have ei : i = items.length := by omega
    subst ei
    rw [List.take_length] at hv
    exact .inl ⟨w.stops H q, hd kvs H e hk hv⟩
end Rd

set_option Elab.async false
set_option linter.all false
set_option maxRecDepth 100000
set_option maxHeartbeats 0
/-! try with several clauses that name their exception; calls and instances within a try. -/
namespace OwX
open PySem PySem.Spec PyProof.Rows L2
abbrev Suite := Addr → Value → Option Addr → TS
/-- the ends of a suite: its name is gone behind it -/
def outE (i : Nat) (D : Ends) : Ends := { nx := fun σ H => D.nx (σ.set i none) H, rt := D.rt, bk := fun σ H => D.bk (σ.set i none) H, ct := fun σ H => D.ct (σ.set i none) H }
def wCl (K : PySem.W.Frag) (i : Nat) (Wout : WX) (D : Ends) : List (Value × Suite) → WX
  | [] => Wout
  | q :: r => fun cls d σ H => ∃ b, PySem.W.exmOne K cls q.1 = some b ∧ (b = true → ∀ a, H a = none → q.2 a cls d (outE i D) (σ.set i (some (.ref a))) H) ∧ (b = false → wCl K i Wout D r cls d σ H)
inductive ClOk (X : Cx) (n : Str) : List ExceptHandler → List (Value × Suite) → Prop
  | nil : ClOk X n [] []
  | cons {x : Str} {c : Value} {ts : Suite} {st : Stmt} {sts : List Stmt} {p1 p2 : Pos} {hs : List ExceptHandler} {l : List (Value × Suite)} (nm : Names X x c)
      (su : ∀ (a : Addr) (oe : Obj) (cls : Value) (d : Option Addr) (pn : List (Addr × Obj)), Zc cls d oe → (∃ vs, oe.data = .fields vs) → PSs (X.suite a ((a, oe) :: pn)) (st :: sts) (ts a cls d)) (r : ClOk X n hs l) :
      ClOk X n (.ExceptHandler (some (.Name x p1)) (some n) (st :: sts) p2 :: hs) ((c, ts) :: l)
section
variable {X : Cx} {n : Str} {i : Nat} {body : List Stmt} {h0 : ExceptHandler} {hs : List ExceptHandler} {l : List (Value × Suite)} {pos : Pos} {tb : WX → TS} {Wout : WX}
theorem ps_try_cl (st : X.stack = X.env :: X.outer) (fr : X.env.frame = some X.env.locals) (nd : X.N.Nodup) (at_ : X.N[i]? = some n) (lo : X.env.kindOf n = some .local) (tk : Takes X Wout)
    (pb : ∀ (W : WX) (pn : List (Addr × Obj)) (xe : Value → Shared → Prop), Takes (X.tr pn xe) W → PassesOwn (model X.prog X.w) X.A X.env xe → PSs (X.tr pn xe) body (tb W)) (cl : ClOk X n (h0 :: hs) l) :
    PS X (.Try body (h0 :: hs) [] [] pos) (fun D σ H => tb (wCl X.K i Wout D l) D σ H) := by
  refine ⟨fun pins s σ H D I h => wpAny_Try_except ?_⟩
  have frames : X.A.frames = some (X.env :: X.outer) := I.ok.frames.trans (by rw [st])
  have okX := I.ok
  refine wpAny_mono ((pb (wCl X.K i Wout D l) (X.pn ++ pins) (fun e s₁ => wpAny (model X.prog X.w) X.A (noteFrame e X.env) (fun _ s₂ => wpAny (model X.prog X.w) X.A (setFlight e none) (fun _ s₃ => wpAny (model X.prog X.w) X.A (handleBy e X.env (h0 :: hs)) (SP X pins D) X.xe s₃) X.xe s₂) X.xe s₁)
    (fun u t up => ?_) PassesOwn.looking).run [] s σ H D (I.toTry _) h) (fun f t up => ?_) fun _ _ z => z
  · obtain ⟨a, B, t0, _, τ, G, cls, d, rfl, J0, nB, uu, sk, nA, osE, agE, wish⟩ := up
    have J := J0.ofTry okX
    refine Sky.land Zc.steady frames fr (st ▸ sk) fun g3 fly3 v3 => ?_
    have J3 : Inv X pins τ G { t with heap := g3 } := J.landed nB fly3.1 (uu.trans v3) osE agE
    obtain ⟨o3, w3, e3, z3, d3⟩ := fly3.there
    have offF : a ∉ frs (X.env :: X.outer) := fun hm => by
      obtain ⟨_, o', e', nf⟩ := fly3.2.2.1.mem hm
      cases e3.symm.trans e'
      exact nf _ d3
    have offL : a ≠ X.env.locals := fun z => offF (List.mem_filterMap.mpr ⟨X.env, List.mem_cons_self, fr.trans (congrArg some z.symm)⟩)
    have offS : a ∉ X.fs := fun hm => let ⟨e, he, q⟩ := List.mem_filterMap.mp hm; offF (List.mem_filterMap.mpr ⟨e, List.mem_cons_of_mem _ he, q⟩)
    have S3 := J3.suite e3 d3 nA offL offS
    suffices turns : ∀ {hs' : List ExceptHandler} {l' : List (Value × Suite)}, ClOk X n hs' l' → wCl X.K i Wout D l' cls d τ G → wpAny (model X.prog X.w) X.A (handleBy (.ref a) X.env hs') (SP X pins D) X.xe { t with heap := g3 } from turns cl wish
    intro hs' l' c
    induction c with
    | nil =>
      intro out
      refine wpAny_handleBy_nil ?_
      obtain ⟨_, _, _, oe, vs, T, oT, _, he, _, hd, h1, _⟩ := id fly3
      unfold PySem.passOn
      refine wpAny_bind (wpAny_field he hd h1 ?_)
      rw [if_neg (by simp)]
      have on_ : wpAny (model X.prog X.w) X.A (setFlight (.ref a) X.env.frame) (fun _ s4 => wpAny (model X.prog X.w) X.A (throw (.ref a) : Sem Flow) (SP X pins D) X.xe s4) X.xe { t with heap := g3 } := by
        rw [fr]
        exact HandSPX.setFlight_upZ fly3 fun g4 fly4 v4 => wpAny_throw (tk _ _ ⟨a, B, t0, pins, τ, G, cls, d, rfl, J, nB, (uu.trans v3).trans v4, .inr (.inr (st.symm ▸ fly4)), nA, osE, agE, out⟩)
      first | exact wpAny_bind (wpAny_pure (wpAny_bind on_)) | exact wpAny_bind on_
    | @cons x c ts st0 sts p1 p2 hs2 l2 nm su r ih =>
      intro hw
      obtain ⟨b, isB, yes, no⟩ := hw
      refine wpAny_handleBy_cons (codeAny_handlers_test ?_) (by intro q; cases q)
      have looks : PySem.W.Looks (model X.prog X.w) g3 (typeOf (.ref a)) cls := fun A Q E s k q => wpAny_typeOf_ref (k _ _ e3) (by rw [z3.1]; exact q)
      have named : ∀ {Q : Value → Shared → Prop} {E : Value → Shared → Prop}, Q c { t with heap := g3 } → wpAny (model X.prog X.w) (X.A.mark (some (.ref a))) (eval (.Name x p1) X.env) Q E { t with heap := g3 } := by
        intro Q E q
        obtain ⟨g, dbg, hm | ⟨hm, hv, hnn⟩⟩ := nm
        · exact ld_glob (X := X.suite a ((a, o3) :: (X.pn ++ pins))) S3 g hm q dbg
        · exact ld_blt (X := X.suite a ((a, o3) :: (X.pn ++ pins))) S3 g hm hv q hnn dbg
      refine named ((PySem.W.exm_one (M := model X.prog X.w) J3.kIn looks isB).here ?_)
      cases b with
      | false =>
        show wpAny _ X.A (handleBy (.ref a) X.env hs2) _ _ _
        exact ih (no rfl)
      | true =>
        refine codeAny_handlers_suite_as (HandSPX.lands_againZ fly3 fun g4 fly4 v4 => ?_)
        have J4 : Inv X pins τ G { t with heap := g4 } := J.landed nB fly4.1 ((uu.trans v3).trans v4) osE agE
        obtain ⟨o4, w4, e4, z4, d4⟩ := fly4.there
        refine store_ok (X := X.suite a ((a, o4) :: (X.pn ++ pins))) (v := .ref a) (J4.suite e4 d4 nA offL offS) nd at_ (.inl lo) rfl (fun s5 S5 => ?_) (.inr lo)
        refine wpAny_mono ((su a o4 cls d (X.pn ++ pins) z4 ⟨_, d4⟩).run [] s5 _ G _ S5 (yes rfl a nA)) (fun f s6 up => ?_) fun _ _ z => False.elim z
        have after : ∀ {σ6 : L2.St} {H6 : Hp} {Q : Shared → Prop}, Inv (X.suite a ((a, o4) :: (X.pn ++ pins))) [] σ6 H6 s6 → (∀ s7, Inv X pins (σ6.set i none) H6 s7 → Q s7) → wpAny (model X.prog X.w) X.A (do bindName X.env n .none; unbindBehindTheSuite X.env n p2) (fun _ s7 => Q s7) X.xe s6 :=
          fun S6 k => gone_ok (S6.unsuite okX) nd at_ lo k
        cases f with
        | next => obtain ⟨_, _, S6, q⟩ := up; exact after S6 fun _ J7 => ⟨_, _, J7, q⟩
        | brk => obtain ⟨_, _, S6, q⟩ := up; exact after S6 fun _ J7 => ⟨_, _, J7, q⟩
        | cont => obtain ⟨_, _, S6, q⟩ := up; exact after S6 fun _ J7 => ⟨_, _, J7, q⟩
        | ret u => obtain ⟨_, _, _, S6, rv, q⟩ := up; exact after S6 fun _ J7 => ⟨_, _, _, J7, rv, q⟩
  · cases f with
    | next => obtain ⟨_, _, S6, q⟩ := up; exact wpAny_execs_nil ⟨_, _, S6.ofTry okX, q⟩
    | brk => obtain ⟨_, _, S6, q⟩ := up; exact ⟨_, _, S6.ofTry okX, q⟩
    | cont => obtain ⟨_, _, S6, q⟩ := up; exact ⟨_, _, S6.ofTry okX, q⟩
    | ret u => obtain ⟨_, _, _, S6, rv, q⟩ := up; exact ⟨_, _, _, S6.ofTry okX, rv, q⟩
end
end OwX
namespace OwX
open PySem PySem.Spec PyProof.Rows L2
/-- what a def's body lets out goes to its caller -/
theorem passE {X : Cx} {E₁ : Value → Shared → Prop} {F : XK} (hs : X.stack = X.env :: X.outer) (hf : X.env.frame = some X.env.locals) (hex : X.ex = []) (hx : X.xe = fun e s' => wpAny (model X.prog X.w) X.A (leaving X.env e) (fun _ s'' => L2.CX X.prog X.w X.outer X.H_0 X.s_0 F e s'') E₁ s') : Passes (L2.CX X.prog X.w) X F :=
  passes_call (L2.takes_of hs hf hex hx) fun _ _ _ _ h => h
section
variable {X : Cx} {CX : CXT} {k : Nat} {C g : Addr} {sp : Sp} {E : L2.St → XK}
theorem make_at {pins : List (Addr × Obj)} {σ : L2.St} {H : Hp} {s : Shared} {Q : VK} {us : List Value} {vs : List V} (M : Mk X.K C g) (F : FnR X.prog X.w X.K X.mg X.base CX k g sp) (hr : Room (k + 1) X.A) (hx : ∀ σ, PassesAt CX X σ (E σ)) (I : Inv X pins σ H s) (r : Vals vs us)
    (h : Rd.MkR C sp (E σ) vs H Q) : wpAny (model X.prog X.w) X.A (call (.ref C) us) (EP X pins σ Q) X.xe s := by
  have now := h (s.heap.objs.size + 1) s.heap.objs.size (I.hok.fresh (Nat.le_succ _)) (I.hok.fresh (Nat.le_refl _)) (Nat.ne_of_lt (Nat.lt_succ_self _))
  have I2 := Inv.made (C := C) I
  have r2 : Vals (V.ref (s.heap.objs.size + 1) :: vs) (Value.ref (s.heap.objs.size + 1) :: us) := .cons rfl r
  refine wpAny_call (L2.make_map (f := g) I.kIn M.makes M.init (beq_iff_eq.mp M.fn) (codeAny_mono (F _ X.stack _ _ _ _ _ (E σ) (hr.make C us []) (I2.env0.make C us []) r2 now) fun res s' up => ?_))
  cases res with
  | error e => exact hx σ pins _ _ e s' I2 up
  | ok fl =>
    cases fl with
    | ret u =>
      obtain ⟨v, H', I3, rv, rfl, q⟩ := I2.after up
      exact ⟨rv, V.ref (s.heap.objs.size + 1), H', I3, rfl, q⟩
    | next => exact up.elim
    | brk => exact up.elim
    | cont => exact up.elim
/-- C(e, ..), the wish at the slots -/
def tMkRS (C : Addr) (sp : Sp) (E : L2.St → XK) (t : TA) : TE := fun σ H Q => t σ H fun vs H1 => Rd.MkR C sp (E σ) vs H1 Q
theorem pe_mkRS {nm : Str} {p pos : Pos} {e : Expr} {es : List Expr} {t : TA} (M : Mk X.K C g) (F : FnR X.prog X.w X.K X.mg X.base CX k g sp) (hr : Room (k + 1) X.A) (hg : Gl X nm) (hm : X.mg nm = some (.ref C)) (hx : ∀ σ, PassesAt CX X σ (E σ)) (ha : PA X (e :: es) t)
    (hdb : (nm == ("__debug__" : Str)) = false := by decide) (he : starEach (e :: es) X.env = (false, eval e X.env) :: starEach es X.env := by rfl) (hpl : (backTo pos (starEach es X.env)).any (·.1) = false := by rfl) : PE X (.Call (.Name nm p) (e :: es) [] pos) (tMkRS C sp E t) :=
  ⟨fun pins s σ H Q I h => wpAny_Call_Name_kw (ld_glob I hg hm (PySem.W.callWith_K (h₀ := X.base) I.ok.mod.kin M.kp (thn (ha.run pos pins s σ H _ I h) fun us s1 ⟨vs, H1, I1, r, q⟩ => ⟨I1.kIn, make_at M F hr hx I1 r q⟩) he hpl) hdb)⟩
end
end OwX
namespace Rd
open PySem PySem.Spec PyProof.Rows L2 OwX
theorem mkRS {C : Addr} {σ : L2.St} {H : Hp} {Q : VK} {E : L2.St → XK} {sp : Sp} {t : TA} (k : t σ H fun vs H1 => MkR C sp (E σ) vs H1 Q) : tMkRS C sp E t σ H Q := k
theorem callRS {σ : L2.St} {H : Hp} {Q : VK} {E : L2.St → XK} {sp : Sp} {t : TA} (k : t σ H fun vs H1 => sp vs H1 Q (E σ)) : tCallRS sp E t σ H Q := k
/-! ### comprehensions over values that stand for items -/
section
variable {α β : Type} {J : It} {G : Hp → Prop} {Y : Nat → Hp → V → Hp → Prop} {items : List α}
theorem lcB (w : Walk J items.length G Y) (B : α → V → Prop) (hy : ∀ i H x H', Y i H x H' → ∃ it, items[i]? = some it ∧ (H' = H ∧ B it x)) (hn : items.length < 100000)
    {g : TG} {tt : TT} {te : TE} {vs : List Nat} {σ : L2.St} {H1 : Hp} {D : Addr} {Qd : Hp → Prop} (keep : α → Bool) (R : α → V → Hp → Prop) (mono : ∀ a y H H', Ext H H' → R a y H → R a y H')
    (hD : H1 D = none) (hG : ∀ H, Ext H1 H → G H)
    (hs : ∀ (i : Nat) it x H acc, items[i]? = some it → B it x → Ext H1 H → H D = some (.lst acc) → ∀ (Qy : VK) (Qn : Hp → Prop),
      (∀ y H4, Ext H H4 → keep it = true → R it y (hid [D] H4) → Qy y H4) → (∀ H3, Ext H H3 → keep it = false → Qn H3) →
      g x (wipe σ vs) H fun σ2 H2 => wipe σ2 vs = wipe σ vs ∧ tt σ2 H2 fun b H3 => if b = true then te σ2 H3 Qy else Qn H3)
    (hd : ∀ ys H, Ext H1 H → H D = some (.lst ys) → Paired (fun a y => R a y (hid [D] H)) (items.filter keep) ys → Qd H) :
    ∃ W : Nat → Nat → Hp → Prop, (∃ m, W 0 m (upd H1 D (.lst []))) ∧ ∀ i m H, W i m H →
      (J.stop i H ∧ Qd H) ∨ (J.go i H ∧ ∃ Nx : Hp → Prop, (∀ H', Nx H' → ∃ m', m' < m ∧ W (i + 1) m' H') ∧ ∀ x H', J.yld i H x H' → g x (wipe σ vs) H' fun σ2 H2 => wipe σ2 vs = wipe σ vs ∧ tt σ2 H2 fun b H3 =>
        if b = true then te σ2 H3 fun y H4 => ∃ acc, H4 D = some (.lst acc) ∧ acc.length < sizeLine ∧ Nx (upd H4 D (.lst (acc ++ [y]))) else Nx H3) := by
  have z : ∀ {H H' : Hp}, Ext (hid [] H) (hid [] H') ↔ Ext H H' := fun {H H'} => by rw [hid_nil, hid_nil]
  refine lcG w (Yi := fun it H x H' => H' = H ∧ B it x) hy hn [] (fun _ => True) keep R mono hD (by simp) (fun _ _ _ => trivial) trivial (fun H e _ => hG H (z.mp e)) ?_ ?_
  · rintro i it x H H' acc hit e _ ha ⟨rfl, hB⟩ Qy Qn ky kn
    exact hs i it x H' acc hit hB (z.mp e) ha Qy Qn (fun y H4 e4 => ky y H4 (z.mpr e4) trivial) (fun H3 e3 => kn H3 (z.mpr e3) trivial)
  · intro ys H e _ hys pr
    exact hd ys H (z.mp e) hys pr
/-- the values at a list stand for items -/
theorem yB {B : α → V → Prop} {vs : List V} (pr : Paired B items vs) : ∀ i H x H', YAt vs i H x H' → ∃ it, items[i]? = some it ∧ (H' = H ∧ B it x) := fun i H x H' h => by
  obtain ⟨rfl, h⟩ := h
  have key : ∀ {items : List α} {vs : List V} {i : Nat}, Paired B items vs → vs[i]? = some x → ∃ it, items[i]? = some it ∧ B it x := by
    clear h pr
    intro items vs i pr
    induction pr generalizing i with
    | nil => intro h; simp at h
    | cons r t ih =>
      intro h
      cases i with
      | zero => simp at h; subst h; exact ⟨_, by simp, r⟩
      | succ i => simp at h; obtain ⟨it, h1, h2⟩ := ih h; exact ⟨it, by simpa using h1, h2⟩
  obtain ⟨it, h1, h2⟩ := key pr h
  exact ⟨it, h1, rfl, h2⟩
theorem walk_lB {K : PySem.W.Frag} {a : Addr} {B : α → V → Prop} {vs : List V} (pr : Paired B items vs) : Walk (Itl K a) items.length (fun H => SqL K H a vs) (YAt vs) := by
  rw [paired_len pr]; exact walk_list
theorem walk_tB {K : PySem.W.Frag} {a : Addr} {B : α → V → Prop} {vs : List V} (pr : Paired B items vs) : Walk (Itt K a) items.length (fun H => SqT K H a vs) (YAt vs) := by
  rw [paired_len pr]; exact walk_tup
end
/-! ### two fors -/
theorem paired_app {α β : Type} {R : α → β → Prop} : ∀ {xs xs' : List α} {ys ys' : List β}, Paired R xs ys → Paired R xs' ys' → Paired R (xs ++ xs') (ys ++ ys')
  | _, _, _, _, .nil, h => h
  | _, _, _, _, .cons r t, h => .cons r (paired_app t h)
theorem flat_len {α β : Type} {f : α → List β} {M : Nat} : ∀ {xs : List α}, (∀ x ∈ xs, (f x).length ≤ M) → (xs.flatMap f).length ≤ xs.length * M
  | [], _ => by simp
  | x :: xs, h => by
    have h1 := flat_len (f := f) (M := M) (xs := xs) fun y hy => h y (List.mem_cons_of_mem _ hy)
    have h2 := h x List.mem_cons_self
    rw [List.flatMap_cons, List.length_append, List.length_cons, Nat.succ_mul]
    omega
/-- the inner for of a comprehension of two, in its turn -/
def In2 (g1 : TG) (tt1 : TT) (te : TE) (vs1 : List Nat) (D : Addr) (J1 : It) (σ2 : L2.St) (H4 : Hp) (Nx : Hp → Prop) : Prop := ∃ W1 : Nat → Nat → Hp → Prop, (∃ m, W1 0 m H4) ∧ ∀ j k H, W1 j k H →
  (J1.stop j H ∧ Nx H) ∨ (J1.go j H ∧ ∃ Nx1 : Hp → Prop, (∀ H', Nx1 H' → ∃ k', k' < k ∧ W1 (j + 1) k' H') ∧ ∀ x H', J1.yld j H x H' → g1 x (wipe σ2 vs1) H' fun σ3 H5 => wipe σ3 vs1 = wipe σ2 vs1 ∧ tt1 σ3 H5 fun b H6 =>
    if b = true then te σ3 H6 fun y H7 => ∃ acc, H7 D = some (.lst acc) ∧ acc.length < sizeLine ∧ Nx1 (upd H7 D (.lst (acc ++ [y]))) else Nx1 H6)
theorem lc2 {α β : Type} {J : It} {G : Hp → Prop} {Y : Nat → Hp → V → Hp → Prop} {items : List α} {sub : α → List β} {M : Nat} (w : Walk J items.length G Y) (B : α → V → Prop) (hy : ∀ i H x H', Y i H x H' → ∃ it, items[i]? = some it ∧ (H' = H ∧ B it x))
    (hM : ∀ a ∈ items, (sub a).length ≤ M) (hn : items.length * M + M < 100000)
    {g g1 : TG} {wi1 : TI} {tt1 : TT} {te : TE} {vs vs1 : List Nat} {σ : L2.St} {H1 : Hp} {D : Addr} {Qd : Hp → Prop} (keep : α → β → Bool) (R : α × β → V → Hp → Prop) (mono : ∀ a y H H', Ext H H' → R a y H → R a y H')
    (hD : H1 D = none) (hG : ∀ H, Ext H1 H → G H)
    (hs : ∀ (i : Nat) a x H, items[i]? = some a → B a x → Ext H1 H → (∃ acc, H D = some (.lst acc)) → ∀ Nx : Hp → Prop,
      (∀ {J1 : It} {H4 : Hp} {σ2 : L2.St} {G1 : Hp → Prop} {Y1 : Nat → Hp → V → Hp → Prop} (B1 : β → V → Prop), Ext H H4 → Walk J1 (sub a).length G1 Y1 → (∀ i H x H', Y1 i H x H' → ∃ it, (sub a)[i]? = some it ∧ (H' = H ∧ B1 it x)) → (∀ H', Ext H1 H' → Ext (hid [D] H4) (hid [D] H') → G1 H') →
        (∀ (j : Nat) b x H5 acc, (sub a)[j]? = some b → B1 b x → Ext H1 H5 → Ext (hid [D] H4) (hid [D] H5) → H5 D = some (.lst acc) → ∀ (Qy : VK) (Qn : Hp → Prop), (∀ y H7, Ext H5 H7 → keep a b = true → R (a, b) y (hid [D] H7) → Qy y H7) → (∀ H6, Ext H5 H6 → keep a b = false → Qn H6) →
          g1 x (wipe σ2 vs1) H5 fun σ3 H6 => wipe σ3 vs1 = wipe σ2 vs1 ∧ tt1 σ3 H6 fun bb H7 => if bb = true then te σ3 H7 Qy else Qn H7) → In2 g1 tt1 te vs1 D J1 σ2 H4 Nx) →
      g x (wipe σ vs) H fun σ2 H2 => wipe σ2 vs = wipe σ vs ∧ wi1 σ2 H2 fun J1 H4 => In2 g1 tt1 te vs1 D J1 σ2 H4 Nx)
    (hd : ∀ ys H, Ext H1 H → H D = some (.lst ys) → Paired (fun a y => R a y (hid [D] H)) (items.flatMap fun a => ((sub a).filter (keep a)).map fun b => (a, b)) ys → Qd H) :
    ∃ W : Nat → Nat → Hp → Prop, (∃ m, W 0 m (upd H1 D (.lst []))) ∧ ∀ i m H, W i m H →
      (J.stop i H ∧ Qd H) ∨ (J.go i H ∧ ∃ Nx : Hp → Prop, (∀ H', Nx H' → ∃ m', m' < m ∧ W (i + 1) m' H') ∧ ∀ x H', J.yld i H x H' → g x (wipe σ vs) H' fun σ2 H2 => wipe σ2 vs = wipe σ vs ∧ tYes σ2 H2 fun b H3 =>
        if b = true then wi1 σ2 H3 fun J1 H4 => In2 g1 tt1 te vs1 D J1 σ2 H4 Nx else Nx H3) := by
  have fe : ∀ {H : Hp} {u : HO}, Ext H1 H → Ext H1 (upd H D u) := fun {H u} e a o h => by
    rw [upd_ne (ne_of_none h hD)]
    exact e a o h
  have hidD : ∀ {H : Hp} {u : HO}, hid [D] (upd H D u) = hid [D] H := fun {H u} => hid_upd (by simp)
  let F : α → List (α × β) := fun a => ((sub a).filter (keep a)).map fun b => (a, b)
  have lenF : ∀ a ∈ items, (F a).length ≤ M := fun a ha => by
    have h1 := hM a ha
    have h2 := List.length_filter_le (keep a) (sub a)
    simp only [F, List.length_map]
    omega
  refine ⟨fun i m H => m = items.length - i ∧ i ≤ items.length ∧ Ext H1 H ∧ ∃ ys, H D = some (.lst ys) ∧ Paired (fun a y => R a y (hid [D] H)) ((items.take i).flatMap F) ys, ⟨_, rfl, Nat.zero_le _, fe ext_rfl, [], upd_same, .nil⟩, ?_⟩
  rintro i m H ⟨rfl, hi, e, ys, hys, pr⟩
  have q := hG H e
  by_cases hlt : i < items.length
  · refine .inr ⟨w.goes i H hlt q, fun H => Ext H1 H ∧ ∃ ys, H D = some (.lst ys) ∧ Paired (fun a y => R a y (hid [D] H)) ((items.take (i + 1)).flatMap F) ys, fun H' p' => ⟨items.length - (i + 1), by omega, rfl, hlt, p'⟩, fun x H' y => ?_⟩
    obtain ⟨a, ha, rfl, hB⟩ := hy i H x H' (w.yields i H x H' hlt q y)
    have hbase : ((items.take i).flatMap F).length ≤ i * M := by
      have h := flat_len (f := F) (M := M) (xs := items.take i) fun x hx => lenF x (List.mem_of_mem_take hx)
      rw [List.length_take, Nat.min_eq_left (Nat.le_of_lt hlt)] at h
      exact h
    have hiM : i * M ≤ items.length * M := Nat.mul_le_mul_right M (Nat.le_of_lt hlt)
    have haM := hM a (List.mem_of_getElem? ha)
    refine hs i a x H' ha hB e ⟨ys, hys⟩ _ fun {J1 H4 σ2 G1 Y1} B1 e4 w1 y1 g1' body => ?_
    refine ⟨fun j k H => k = (sub a).length - j ∧ j ≤ (sub a).length ∧ Ext H1 H ∧ Ext (hid [D] H4) (hid [D] H) ∧ ∃ ys, H D = some (.lst ys) ∧ Paired (fun a y => R a y (hid [D] H)) ((items.take i).flatMap F ++ (((sub a).take j).filter (keep a)).map fun b => (a, b)) ys,
      ⟨_, rfl, Nat.zero_le _, e.trans e4, ext_rfl, ys, e4 _ _ hys, by
        rw [List.take_zero, List.filter_nil, List.map_nil, List.append_nil]
        exact paired_imp (fun a b r => mono a b _ _ (ext_hid e4) r) pr⟩, ?_⟩
    rintro j k H5 ⟨rfl, hj, e5, e5', ys5, hys5, pr5⟩
    have q1 := g1' H5 e5 e5'
    by_cases hjt : j < (sub a).length
    · refine .inr ⟨w1.goes j H5 hjt q1, _, fun H' p' => ⟨(sub a).length - (j + 1), by omega, rfl, hjt, p'⟩, fun x1 H6 y6 => ?_⟩
      obtain ⟨b, hb, rfl, hB1⟩ := y1 j H5 x1 H6 (w1.yields j H5 x1 H6 hjt q1 y6)
      have few : ys5.length < 100000 := by
        have h1 := paired_len pr5
        rw [List.length_append, List.length_map] at h1
        have h2 := List.length_filter_le (keep a) ((sub a).take j)
        rw [List.length_take] at h2
        omega
      refine body j b x1 H6 ys5 hb hB1 e5 e5' hys5 _ _ (fun y H7 e7 k7 r7 => ?_) (fun H7 e7 k7 => ?_)
      · refine ⟨ys5, e7 _ _ hys5, szl few, fe (e5.trans e7), ?_, ys5 ++ [y], upd_same, ?_⟩
        · rw [hidD]; exact e5'.trans (ext_hid e7)
        · rw [filter_snoc (keep a) hb, if_pos k7, List.map_append, ← List.append_assoc, hidD]
          exact paired_snoc (R := fun a y => R a y (hid [D] H7)) r7 (paired_imp (fun a b r => mono a b _ _ (ext_hid e7) r) pr5)
      · refine ⟨e5.trans e7, e5'.trans (ext_hid e7), ys5, e7 _ _ hys5, ?_⟩
        rw [filter_snoc (keep a) hb, k7, if_neg Bool.false_ne_true, List.append_nil]
        exact paired_imp (fun a b r => mono a b _ _ (ext_hid e7) r) pr5
    · have ej : j = (sub a).length := by omega
      subst ej
      refine .inl ⟨w1.stops H5 q1, e5, ys5, hys5, ?_⟩
      rw [take_snoc ha, List.flatMap_append, List.flatMap_singleton]
      rw [List.take_length] at pr5
      exact pr5
  · have ei : i = items.length := by omega
    subst ei
    rw [List.take_length] at pr
    exact .inl ⟨w.stops H q, hd ys H e hys pr⟩
end Rd
namespace OwX
open PySem PySem.Spec PyProof.Rows L2
theorem gcI {mg : Str → Option Value} {x : Str} {n : Int} (h : ∃ t, mg x = some (.int n t)) : ∃ u, mg x = some u ∧ RelV (.int n) u := let ⟨t, e⟩ := h; ⟨_, e, t, rfl⟩
end OwX
namespace GW
open PySem PySem.Spec PyProof.Rows L2 OwX
def rBoolT (K : PySem.W.Frag) : List V → Hp → VK → Prop := fun xs H Q => ∃ (a : Addr) (zs : List V), xs = [.ref a] ∧ SqT K H a zs ∧ Q (.bl (!zs.isEmpty)) H
theorem boolT {K : PySem.W.Frag} {X : Cx} (h : X.K = K := by rfl) : CallR X (.type "bool") (rBoolT K) := by
  subst h
  intro pins s σ H xs us Q I r h
  obtain ⟨a, zs, rfl, hz, q⟩ := h
  obtain ⟨u, rfl, rx⟩ := vals1 r
  cases rx
  refine callType_newIn PySem.F.called_bool PySem.F.newNe_bool (PySem.F.typeCall_bool_1 _) (PySem.F.newCall_bool_1 _) (fun obj => PySem.F.args_object_init_2 obj _) PySem.F.entry_bool_new (bool_new_ref a) ?_
  obtain ⟨its, rv, pl, hsz⟩ := I.tuple hz
  have hl := line63
  have few : its.length ≤ sizeLine := by rw [← rv.length]; exact hsz
  refine truthy_tuple pl (by simp only [List.size_toArray]; have h3 := Nat.lt_of_le_of_lt few hl; omega) ⟨rfl, .bl _, H, I.tok _, rfl, ?_⟩
  rw [isEmpty_of rv]
  exact q
end GW

namespace Rd
open PySem PySem.Spec PyProof.Rows L2 OwX
def Lc2B (J : It) (g : TG) (wi1 : TI) (g1 : TG) (tt1 : TT) (te : TE) (vs vs1 : List Nat) (σ : L2.St) (H1 : Hp) (Q : VK) : Prop := ∀ D, H1 D = none → ∃ W : Nat → Nat → Hp → Prop, (∃ m, W 0 m (upd H1 D (.lst []))) ∧ ∀ i m H, W i m H →
  (J.stop i H ∧ Q (.ref D) H) ∨ (J.go i H ∧ ∃ Nx : Hp → Prop, (∀ H', Nx H' → ∃ m', m' < m ∧ W (i + 1) m' H') ∧ ∀ x H', J.yld i H x H' → g x (wipe σ vs) H' fun σ2 H2 => wipe σ2 vs = wipe σ vs ∧ tYes σ2 H2 fun b H3 =>
    if b = true then wi1 σ2 H3 fun J1 H4 => In2 g1 tt1 te vs1 D J1 σ2 H4 Nx else Nx H3)
section
variable {K : PySem.W.Frag} {g g1 : TG} {tt1 : TT} {te tl : TE} {ta : TA} {vs vs1 : List Nat} {σ : L2.St} {H : Hp} {Q : VK} {wi1 : TI}
theorem lc2T (k : tl σ H fun x H1 => ∃ a, x = .ref a ∧ (∃ xs, SqT K H1 a xs) ∧ Lc2B (Itt K a) g wi1 g1 tt1 te vs vs1 σ H1 Q) : tLc2 (iTup K tl) g tYes wi1 g1 tt1 te vs vs1 σ H Q := k
theorem lc2L (k : tl σ H fun x H1 => ∃ a, x = .ref a ∧ (∃ xs, SqL K H1 a xs) ∧ Lc2B (Itl K a) g wi1 g1 tt1 te vs vs1 σ H1 Q) : tLc2 (iList K tl) g tYes wi1 g1 tt1 te vs vs1 σ H Q := k
theorem lc2R (k : ta σ H fun vs' H1 => ∃ j : Int, vs' = [.int j] ∧ -(2 ^ 62) ≤ j ∧ j < 2 ^ 62 ∧ Lc2B (Itr 0 j.toNat) g wi1 g1 tt1 te vs vs1 σ H1 Q) : tLc2 (iRng1 ta) g tYes wi1 g1 tt1 te vs vs1 σ H Q := k
theorem inR2 {R : It → Hp → Prop} (k : ta σ H fun vs H1 => ∃ i j : Int, vs = [.int i, .int j] ∧ (-(2 ^ 62) ≤ i ∧ i < 2 ^ 62 ∧ -(2 ^ 62) ≤ j ∧ j < 2 ^ 62) ∧ R (Itr i (j - i).toNat) H1) : iRng2 ta σ H R := k
theorem inR1 {R : It → Hp → Prop} (k : ta σ H fun vs H1 => ∃ j : Int, vs = [.int j] ∧ -(2 ^ 62) ≤ j ∧ j < 2 ^ 62 ∧ R (Itr 0 j.toNat) H1) : iRng1 ta σ H R := k
theorem inT {R : It → Hp → Prop} (k : tl σ H fun x H1 => ∃ a, x = .ref a ∧ (∃ xs, SqT K H1 a xs) ∧ R (Itt K a) H1) : iTup K tl σ H R := k
theorem inL {R : It → Hp → Prop} (k : tl σ H fun x H1 => ∃ a, x = .ref a ∧ (∃ xs, SqL K H1 a xs) ∧ R (Itl K a) H1) : iList K tl σ H R := k
end
theorem walk_from {lo : Int} {n : Nat} : Walk (Itr lo n) (List.range n).length (fun _ => True) (fun i H x H' => i < n ∧ YFn (fun i => .int (lo + (i : Nat))) i H x H') := by
  rw [List.length_range]
  exact ⟨fun _ _ hi _ => hi, fun _ _ => Nat.le_refl _, fun i _ _ _ hi _ y => ⟨hi, y⟩⟩
theorem yfrom {lo : Int} {n : Nat} : ∀ i H x H', (i < n ∧ YFn (fun i => V.int (lo + (i : Nat))) i H x H') → ∃ it, (List.range n)[i]? = some it ∧ (H' = H ∧ x = V.int (lo + (it : Nat))) := fun i H x H' h => yfn i H x H' h.1 h.2
end Rd

namespace Rd
open PySem PySem.Spec PyProof.Rows L2 OwX
theorem paired_back {α β : Type} {R : α → β → Prop} {x : β} : ∀ {xs : List α} {ys : List β} {i : Nat}, Paired R xs ys → ys[i]? = some x → ∃ a, xs[i]? = some a ∧ R a x
  | _, _, _, .nil, h => by simp at h
  | _, _, 0, .cons r _, h => by simp at h; subst h; exact ⟨_, by simp, r⟩
  | _, _, i + 1, .cons _ t, h => by
    obtain ⟨a, h1, h2⟩ := paired_back (i := i) t (by simpa using h)
    exact ⟨a, by simpa using h1, h2⟩
theorem setF {K : PySem.W.Frag} {i : Nat} {x : Addr} {tv : TE} {f : Str} {D : Ends} {σ : L2.St} {H : Hp} (h : σ[i]? = some (some (.ref x))) (k : tv σ H fun y H1 => ∃ C dx fs, H1 x = some (.ins C dx fs) ∧ Cls K C ∧ NoAttr K C f ∧ fs.length < 1000 ∧ D.nx σ (upd H1 x (.ins C dx (putF f y fs))))
    (mono : ∀ R R' : VK, (∀ v H, R v H → R' v H) → tv σ H R → tv σ H R') : sFld K (tVar i) tv f D σ H :=
  mono _ _ (fun y H1 ⟨C, dx, fs, h1, h2, h3, h4, h5⟩ => ⟨.ref x, h, x, C, dx, fs, rfl, h1, h2, h3, h4, h5⟩) k
theorem sF {K : PySem.W.Frag} {ta tv : TE} {f : Str} {D : Ends} {σ : L2.St} {H : Hp} (k : tv σ H fun y H1 => ta σ H1 fun x H2 => ∃ a C dx fs, x = .ref a ∧ H2 a = some (.ins C dx fs) ∧ Cls K C ∧ NoAttr K C f ∧ fs.length < 1000 ∧ D.nx σ (upd H2 a (.ins C dx (putF f y fs)))) : sFld K ta tv f D σ H := k
theorem fldv {K : PySem.W.Frag} {σ : L2.St} {H : Hp} {n : Nat} {a C dx : Addr} {fs : List (Str × V)} {f : Str} {v : V} {Q : VK} (e : σ[n]? = some (some (.ref a))) (h : H a = some (.ins C dx fs)) (c : Cls K C) (na : NoAttr K C f) (l : fs.lookup f = some v) (k : Q v H) : tFld K (tVar n) f σ H Q := ⟨.ref a, e, a, C, dx, fs, v, rfl, h, c, na, l, k⟩
theorem dIn {ty td : TE} {σ : L2.St} {H : Hp} {Q : VK} (k : ty σ H fun y H1 => td σ H1 fun x H2 => ∃ a o, x = .ref a ∧ DGet H2 a y o ∧ Q (.bl o.isSome) H2) : tDIn ty td σ H Q := k
theorem dNi {ty td : TE} {σ : L2.St} {H : Hp} {Q : VK} (k : ty σ H fun y H1 => td σ H1 fun x H2 => ∃ a o, x = .ref a ∧ DGet H2 a y o ∧ Q (.bl (!o.isSome)) H2) : tDNotIn ty td σ H Q := k
/-- an int by a test, one way on -/
theorem ifI {p : Prop} [Decidable p] {i j : Int} {t : TT} {ta tb : TE} {σ : L2.St} {H : Hp} {Q : VK} (ht : ∀ R : Bool → Hp → Prop, R (decide p) H → t σ H R) (ha : ∀ R : VK, R (.int i) H → ta σ H R) (hb : ∀ R : VK, R (.int j) H → tb σ H R) (k : Q (.int (if p then i else j)) H) : tIf t ta tb σ H Q := by
  refine ht _ ?_
  by_cases c : p
  · rw [if_pos c] at k
    rw [decide_eq_true c, if_pos rfl]
    exact ha _ k
  · rw [if_neg c] at k
    rw [decide_eq_false c, if_neg Bool.false_ne_true]
    exact hb _ k
end Rd

set_option Elab.async false
set_option linter.all false
set_option maxRecDepth 100000
set_option maxHeartbeats 0
/-! The text by places, its defs as data, what is read off the top (printed by gen.py). -/
namespace Lv
open PySem PySem.Spec PyProof.Rows L2 OwX
def top (i : Nat) : Stmt := PySem.Challenge.pw_levelcascades_k21_lengths_of_forms_refus.main.body.getD i (.Pass ⟨0, 0, 0, 0⟩)
abbrev s_BadLength_init : Stmt := inClass (top 3) 0
abbrev s_NoIndex_init : Stmt := inClass (top 4) 0
abbrev s_sign_of : Stmt := top 6
abbrev s_common_divisor : Stmt := top 8
abbrev s_divisor_of : Stmt := top 9
abbrev s_reduced : Stmt := top 10
abbrev s_Form_init : Stmt := inClass (top 11) 0
abbrev s_Form_len : Stmt := inClass (top 11) 3
abbrev s_Form_bool : Stmt := inClass (top 11) 4
abbrev s_Form_iter : Stmt := inClass (top 11) 5
abbrev s_Form_getitem : Stmt := inClass (top 11) 6
abbrev s_Form_eq : Stmt := inClass (top 11) 7
abbrev s_Form_add : Stmt := inClass (top 11) 8
abbrev s_Form_sub : Stmt := inClass (top 11) 9
abbrev s_Form_neg : Stmt := inClass (top 11) 10
abbrev s_Form_mul : Stmt := inClass (top 11) 11
abbrev s_Form_rmul : Stmt := inClass (top 11) 12
abbrev s_Form_call : Stmt := inClass (top 11) 13
abbrev s_Form_sign : Stmt := inClass (top 11) 14
abbrev s_Form_like : Stmt := inClass (top 11) 16
abbrev s_law_pool : Stmt := top 13
abbrev s_law_take : Stmt := top 14
abbrev s_law_number : Stmt := top 15
abbrev s_law_is_form : Stmt := top 16
abbrev s_law_total : Stmt := top 17
abbrev s_law_sign : Stmt := top 18
abbrev s_law_like : Stmt := top 19
abbrev s_law_told : Stmt := top 20
abbrev s_law_refused : Stmt := top 21
abbrev s_law : Stmt := top 22
abbrev N_BadLength_init : List Str := ["self", "count"]
abbrev P_BadLength_init : List Str := ["self", "count"]
abbrev a_BadLength_init (K : PySem.W.Frag) : Addr := He.ma K (He.ga K "BadLength") "__init__"
theorem sc_BadLength_init : FnScope N_BadLength_init P_BadLength_init (defScope s_BadLength_init) := ⟨rfl, rfl, rfl, by decide +kernel, rfl, by decide +kernel, by decide +kernel⟩
abbrev N_NoIndex_init : List Str := ["self", "index"]
abbrev P_NoIndex_init : List Str := ["self", "index"]
abbrev a_NoIndex_init (K : PySem.W.Frag) : Addr := He.ma K (He.ga K "NoIndex") "__init__"
theorem sc_NoIndex_init : FnScope N_NoIndex_init P_NoIndex_init (defScope s_NoIndex_init) := ⟨rfl, rfl, rfl, by decide +kernel, rfl, by decide +kernel, by decide +kernel⟩
abbrev N_sign_of : List Str := ["number"]
abbrev P_sign_of : List Str := ["number"]
abbrev a_sign_of (K : PySem.W.Frag) : Addr := He.ga K "sign_of"
theorem sc_sign_of : FnScope N_sign_of P_sign_of (defScope s_sign_of) := ⟨rfl, rfl, rfl, by decide +kernel, rfl, by decide +kernel, by decide +kernel⟩
abbrev N_common_divisor : List Str := ["first", "second"]
abbrev P_common_divisor : List Str := ["first", "second"]
abbrev a_common_divisor (K : PySem.W.Frag) : Addr := He.ga K "common_divisor"
theorem sc_common_divisor : FnScope N_common_divisor P_common_divisor (defScope s_common_divisor) := ⟨rfl, rfl, rfl, by decide +kernel, rfl, by decide +kernel, by decide +kernel⟩
abbrev N_divisor_of : List Str := ["numbers", "found", "number"]
abbrev P_divisor_of : List Str := ["numbers"]
abbrev a_divisor_of (K : PySem.W.Frag) : Addr := He.ga K "divisor_of"
theorem sc_divisor_of : FnScope N_divisor_of P_divisor_of (defScope s_divisor_of) := ⟨rfl, rfl, rfl, by decide +kernel, rfl, by decide +kernel, by decide +kernel⟩
abbrev N_reduced : List Str := ["numbers", "divisor", "number"]
abbrev P_reduced : List Str := ["numbers"]
abbrev a_reduced (K : PySem.W.Frag) : Addr := He.ga K "reduced"
theorem sc_reduced : FnScope N_reduced P_reduced (defScope s_reduced) := ⟨rfl, rfl, rfl, by decide +kernel, rfl, by decide +kernel, by decide +kernel⟩
abbrev N_Form_init : List Str := ["self", "parts"]
abbrev P_Form_init : List Str := ["self", "parts"]
abbrev a_Form_init (K : PySem.W.Frag) : Addr := He.ma K (He.ga K "Form") "__init__"
theorem sc_Form_init : FnScope N_Form_init P_Form_init (defScope s_Form_init) := ⟨rfl, rfl, rfl, by decide +kernel, rfl, by decide +kernel, by decide +kernel⟩
abbrev N_Form_len : List Str := ["self"]
abbrev P_Form_len : List Str := ["self"]
abbrev a_Form_len (K : PySem.W.Frag) : Addr := He.ma K (He.ga K "Form") "__len__"
theorem sc_Form_len : FnScope N_Form_len P_Form_len (defScope s_Form_len) := ⟨rfl, rfl, rfl, by decide +kernel, rfl, by decide +kernel, by decide +kernel⟩
abbrev N_Form_bool : List Str := ["self", "part"]
abbrev P_Form_bool : List Str := ["self"]
abbrev a_Form_bool (K : PySem.W.Frag) : Addr := He.ma K (He.ga K "Form") "__bool__"
theorem sc_Form_bool : FnScope N_Form_bool P_Form_bool (defScope s_Form_bool) := ⟨rfl, rfl, rfl, by decide +kernel, rfl, by decide +kernel, by decide +kernel⟩
abbrev N_Form_iter : List Str := ["self"]
abbrev P_Form_iter : List Str := ["self"]
abbrev a_Form_iter (K : PySem.W.Frag) : Addr := He.ma K (He.ga K "Form") "__iter__"
theorem sc_Form_iter : FnScope N_Form_iter P_Form_iter (defScope s_Form_iter) := ⟨rfl, rfl, rfl, by decide +kernel, rfl, by decide +kernel, by decide +kernel⟩
abbrev N_Form_getitem : List Str := ["self", "at"]
abbrev P_Form_getitem : List Str := ["self", "at"]
abbrev a_Form_getitem (K : PySem.W.Frag) : Addr := He.ma K (He.ga K "Form") "__getitem__"
theorem sc_Form_getitem : FnScope N_Form_getitem P_Form_getitem (defScope s_Form_getitem) := ⟨rfl, rfl, rfl, by decide +kernel, rfl, by decide +kernel, by decide +kernel⟩
abbrev N_Form_eq : List Str := ["self", "other"]
abbrev P_Form_eq : List Str := ["self", "other"]
abbrev a_Form_eq (K : PySem.W.Frag) : Addr := He.ma K (He.ga K "Form") "__eq__"
theorem sc_Form_eq : FnScope N_Form_eq P_Form_eq (defScope s_Form_eq) := ⟨rfl, rfl, rfl, by decide +kernel, rfl, by decide +kernel, by decide +kernel⟩
abbrev N_Form_add : List Str := ["self", "other", "one", "two"]
abbrev P_Form_add : List Str := ["self", "other"]
abbrev a_Form_add (K : PySem.W.Frag) : Addr := He.ma K (He.ga K "Form") "__add__"
theorem sc_Form_add : FnScope N_Form_add P_Form_add (defScope s_Form_add) := ⟨rfl, rfl, rfl, by decide +kernel, rfl, by decide +kernel, by decide +kernel⟩
abbrev N_Form_sub : List Str := ["self", "other", "one", "two"]
abbrev P_Form_sub : List Str := ["self", "other"]
abbrev a_Form_sub (K : PySem.W.Frag) : Addr := He.ma K (He.ga K "Form") "__sub__"
theorem sc_Form_sub : FnScope N_Form_sub P_Form_sub (defScope s_Form_sub) := ⟨rfl, rfl, rfl, by decide +kernel, rfl, by decide +kernel, by decide +kernel⟩
abbrev N_Form_neg : List Str := ["self", "part"]
abbrev P_Form_neg : List Str := ["self"]
abbrev a_Form_neg (K : PySem.W.Frag) : Addr := He.ma K (He.ga K "Form") "__neg__"
theorem sc_Form_neg : FnScope N_Form_neg P_Form_neg (defScope s_Form_neg) := ⟨rfl, rfl, rfl, by decide +kernel, rfl, by decide +kernel, by decide +kernel⟩
abbrev N_Form_mul : List Str := ["self", "factor", "part"]
abbrev P_Form_mul : List Str := ["self", "factor"]
abbrev a_Form_mul (K : PySem.W.Frag) : Addr := He.ma K (He.ga K "Form") "__mul__"
theorem sc_Form_mul : FnScope N_Form_mul P_Form_mul (defScope s_Form_mul) := ⟨rfl, rfl, rfl, by decide +kernel, rfl, by decide +kernel, by decide +kernel⟩
abbrev N_Form_rmul : List Str := ["self", "factor", "part"]
abbrev P_Form_rmul : List Str := ["self", "factor"]
abbrev a_Form_rmul (K : PySem.W.Frag) : Addr := He.ma K (He.ga K "Form") "__rmul__"
theorem sc_Form_rmul : FnScope N_Form_rmul P_Form_rmul (defScope s_Form_rmul) := ⟨rfl, rfl, rfl, by decide +kernel, rfl, by decide +kernel, by decide +kernel⟩
abbrev N_Form_call : List Str := ["self", "values", "part", "number"]
abbrev P_Form_call : List Str := ["self", "values"]
abbrev a_Form_call (K : PySem.W.Frag) : Addr := He.ma K (He.ga K "Form") "__call__"
theorem sc_Form_call : FnScope N_Form_call P_Form_call (defScope s_Form_call) := ⟨rfl, rfl, rfl, by decide +kernel, rfl, by decide +kernel, by decide +kernel⟩
abbrev N_Form_sign : List Str := ["self", "values", "part", "number"]
abbrev P_Form_sign : List Str := ["self", "values"]
abbrev a_Form_sign (K : PySem.W.Frag) : Addr := He.ma K (He.ga K "Form") "sign"
theorem sc_Form_sign : FnScope N_Form_sign P_Form_sign (defScope s_Form_sign) := ⟨rfl, rfl, rfl, by decide +kernel, rfl, by decide +kernel, by decide +kernel⟩
abbrev N_Form_like : List Str := ["self", "other", "mine", "part"]
abbrev P_Form_like : List Str := ["self", "other"]
abbrev a_Form_like (K : PySem.W.Frag) : Addr := He.ma K (He.ga K "Form") "like"
theorem sc_Form_like : FnScope N_Form_like P_Form_like (defScope s_Form_like) := ⟨rfl, rfl, rfl, by decide +kernel, rfl, by decide +kernel, by decide +kernel⟩
abbrev N_law_pool : List Str := ["script", "k", "cell", "big", "mixed"]
abbrev P_law_pool : List Str := ["script", "k"]
abbrev a_law_pool (K : PySem.W.Frag) : Addr := He.ga K "_law_pool"
theorem sc_law_pool : FnScope N_law_pool P_law_pool (defScope s_law_pool) := ⟨rfl, rfl, rfl, by decide +kernel, rfl, by decide +kernel, by decide +kernel⟩
abbrev N_law_take : List Str := ["pool", "bound", "result"]
abbrev P_law_take : List Str := ["pool", "bound"]
abbrev a_law_take (K : PySem.W.Frag) : Addr := He.ga K "_law_take"
theorem sc_law_take : FnScope N_law_take P_law_take (defScope s_law_take) := ⟨rfl, rfl, rfl, by decide +kernel, rfl, by decide +kernel, by decide +kernel⟩
abbrev N_law_number : List Str := ["pool", "most", "number", "turn"]
abbrev P_law_number : List Str := ["pool", "most"]
abbrev a_law_number (K : PySem.W.Frag) : Addr := He.ga K "_law_number"
theorem sc_law_number : FnScope N_law_number P_law_number (defScope s_law_number) := ⟨rfl, rfl, rfl, by decide +kernel, rfl, by decide +kernel, by decide +kernel⟩
abbrev N_law_is_form : List Str := ["form", "parts", "part"]
abbrev P_law_is_form : List Str := ["form", "parts"]
abbrev a_law_is_form (K : PySem.W.Frag) : Addr := He.ga K "_law_is_form"
theorem sc_law_is_form : FnScope N_law_is_form P_law_is_form (defScope s_law_is_form) := ⟨rfl, rfl, rfl, by decide +kernel, rfl, by decide +kernel, by decide +kernel⟩
abbrev N_law_total : List Str := ["parts", "values", "at"]
abbrev P_law_total : List Str := ["parts", "values"]
abbrev a_law_total (K : PySem.W.Frag) : Addr := He.ga K "_law_total"
theorem sc_law_total : FnScope N_law_total P_law_total (defScope s_law_total) := ⟨rfl, rfl, rfl, by decide +kernel, rfl, by decide +kernel, by decide +kernel⟩
abbrev N_law_sign : List Str := ["number"]
abbrev P_law_sign : List Str := ["number"]
abbrev a_law_sign (K : PySem.W.Frag) : Addr := He.ga K "_law_sign"
theorem sc_law_sign : FnScope N_law_sign P_law_sign (defScope s_law_sign) := ⟨rfl, rfl, rfl, by decide +kernel, rfl, by decide +kernel, by decide +kernel⟩
abbrev N_law_like : List Str := ["mine", "other", "spots", "at", "first"]
abbrev P_law_like : List Str := ["mine", "other"]
abbrev a_law_like (K : PySem.W.Frag) : Addr := He.ga K "_law_like"
theorem sc_law_like : FnScope N_law_like P_law_like (defScope s_law_like) := ⟨rfl, rfl, rfl, by decide +kernel, rfl, by decide +kernel, by decide +kernel⟩
abbrev N_law_told : List Str := ["function", "e"]
abbrev P_law_told : List Str := ["function"]
abbrev a_law_told (K : PySem.W.Frag) : Addr := He.ga K "_law_told"
theorem sc_law_told : FnScope N_law_told P_law_told (defScope s_law_told) := ⟨rfl, rfl, rfl, by decide +kernel, rfl, by decide +kernel, by decide +kernel⟩
abbrev N_law_refused : List Str := ["first", "second", "count", "due", "values"]
abbrev P_law_refused : List Str := ["first", "second", "count"]
abbrev a_law_refused (K : PySem.W.Frag) : Addr := He.ga K "_law_refused"
theorem sc_law_refused : FnScope N_law_refused P_law_refused (defScope s_law_refused) := ⟨rfl, rfl, rfl, by decide +kernel, rfl, by decide +kernel, by decide +kernel⟩
abbrev N_law : List Str := ["script", "k", "pool", "one", "turn", "two", "first", "second", "short", "at"]
abbrev P_law : List Str := ["script"]
abbrev a_law (K : PySem.W.Frag) : Addr := He.ga K "law"
theorem sc_law : FnScope N_law P_law (defScope s_law) := ⟨rfl, rfl, rfl, by decide +kernel, rfl, by decide +kernel, by decide +kernel⟩
/-! ### data of the defs -/
def d_BadLength_init : He5.DefA := ⟨fun K => a_BadLength_init K, "__init__", "BadLength.__init__", defArgs s_BadLength_init, defBody s_BadLength_init, defScope s_BadLength_init, [], []⟩
def d_NoIndex_init : He5.DefA := ⟨fun K => a_NoIndex_init K, "__init__", "NoIndex.__init__", defArgs s_NoIndex_init, defBody s_NoIndex_init, defScope s_NoIndex_init, [], []⟩
def d_sign_of : He5.DefA := ⟨fun K => a_sign_of K, "sign_of", "sign_of", defArgs s_sign_of, defBody s_sign_of, defScope s_sign_of, [], []⟩
def d_common_divisor : He5.DefA := ⟨fun K => a_common_divisor K, "common_divisor", "common_divisor", defArgs s_common_divisor, defBody s_common_divisor, defScope s_common_divisor, [], []⟩
def d_divisor_of : He5.DefA := ⟨fun K => a_divisor_of K, "divisor_of", "divisor_of", defArgs s_divisor_of, defBody s_divisor_of, defScope s_divisor_of, [], []⟩
def d_reduced : He5.DefA := ⟨fun K => a_reduced K, "reduced", "reduced", defArgs s_reduced, defBody s_reduced, defScope s_reduced, [], []⟩
def d_Form_init : He5.DefA := ⟨fun K => a_Form_init K, "__init__", "Form.__init__", defArgs s_Form_init, defBody s_Form_init, defScope s_Form_init, [], []⟩
def d_Form_len : He5.DefA := ⟨fun K => a_Form_len K, "__len__", "Form.__len__", defArgs s_Form_len, defBody s_Form_len, defScope s_Form_len, [], []⟩
def d_Form_bool : He5.DefA := ⟨fun K => a_Form_bool K, "__bool__", "Form.__bool__", defArgs s_Form_bool, defBody s_Form_bool, defScope s_Form_bool, [], []⟩
def d_Form_iter : He5.DefA := ⟨fun K => a_Form_iter K, "__iter__", "Form.__iter__", defArgs s_Form_iter, defBody s_Form_iter, defScope s_Form_iter, [], []⟩
def d_Form_getitem : He5.DefA := ⟨fun K => a_Form_getitem K, "__getitem__", "Form.__getitem__", defArgs s_Form_getitem, defBody s_Form_getitem, defScope s_Form_getitem, [], []⟩
def d_Form_eq : He5.DefA := ⟨fun K => a_Form_eq K, "__eq__", "Form.__eq__", defArgs s_Form_eq, defBody s_Form_eq, defScope s_Form_eq, [], []⟩
def d_Form_add : He5.DefA := ⟨fun K => a_Form_add K, "__add__", "Form.__add__", defArgs s_Form_add, defBody s_Form_add, defScope s_Form_add, [], []⟩
def d_Form_sub : He5.DefA := ⟨fun K => a_Form_sub K, "__sub__", "Form.__sub__", defArgs s_Form_sub, defBody s_Form_sub, defScope s_Form_sub, [], []⟩
def d_Form_neg : He5.DefA := ⟨fun K => a_Form_neg K, "__neg__", "Form.__neg__", defArgs s_Form_neg, defBody s_Form_neg, defScope s_Form_neg, [], []⟩
def d_Form_mul : He5.DefA := ⟨fun K => a_Form_mul K, "__mul__", "Form.__mul__", defArgs s_Form_mul, defBody s_Form_mul, defScope s_Form_mul, [], []⟩
def d_Form_rmul : He5.DefA := ⟨fun K => a_Form_rmul K, "__rmul__", "Form.__rmul__", defArgs s_Form_rmul, defBody s_Form_rmul, defScope s_Form_rmul, [], []⟩
def d_Form_call : He5.DefA := ⟨fun K => a_Form_call K, "__call__", "Form.__call__", defArgs s_Form_call, defBody s_Form_call, defScope s_Form_call, [], []⟩
def d_Form_sign : He5.DefA := ⟨fun K => a_Form_sign K, "sign", "Form.sign", defArgs s_Form_sign, defBody s_Form_sign, defScope s_Form_sign, [], []⟩
def d_Form_like : He5.DefA := ⟨fun K => a_Form_like K, "like", "Form.like", defArgs s_Form_like, defBody s_Form_like, defScope s_Form_like, [], []⟩
def d_law_pool : He5.DefA := ⟨fun K => a_law_pool K, "_law_pool", "_law_pool", defArgs s_law_pool, defBody s_law_pool, defScope s_law_pool, [], []⟩
def d_law_take : He5.DefA := ⟨fun K => a_law_take K, "_law_take", "_law_take", defArgs s_law_take, defBody s_law_take, defScope s_law_take, [], []⟩
def d_law_number : He5.DefA := ⟨fun K => a_law_number K, "_law_number", "_law_number", defArgs s_law_number, defBody s_law_number, defScope s_law_number, [], []⟩
def d_law_is_form : He5.DefA := ⟨fun K => a_law_is_form K, "_law_is_form", "_law_is_form", defArgs s_law_is_form, defBody s_law_is_form, defScope s_law_is_form, [], []⟩
def d_law_total : He5.DefA := ⟨fun K => a_law_total K, "_law_total", "_law_total", defArgs s_law_total, defBody s_law_total, defScope s_law_total, [], []⟩
def d_law_sign : He5.DefA := ⟨fun K => a_law_sign K, "_law_sign", "_law_sign", defArgs s_law_sign, defBody s_law_sign, defScope s_law_sign, [], []⟩
def d_law_like : He5.DefA := ⟨fun K => a_law_like K, "_law_like", "_law_like", defArgs s_law_like, defBody s_law_like, defScope s_law_like, [], []⟩
def d_law_told : He5.DefA := ⟨fun K => a_law_told K, "_law_told", "_law_told", defArgs s_law_told, defBody s_law_told, defScope s_law_told, [], []⟩
def d_law_refused : He5.DefA := ⟨fun K => a_law_refused K, "_law_refused", "_law_refused", defArgs s_law_refused, defBody s_law_refused, defScope s_law_refused, [], []⟩
def d_law : He5.DefA := ⟨fun K => a_law K, "law", "law", defArgs s_law, defBody s_law, defScope s_law, [], []⟩
def fn : List He5.DefA := [d_BadLength_init, d_NoIndex_init, d_sign_of, d_common_divisor, d_divisor_of, d_reduced, d_Form_init, d_Form_len, d_Form_bool, d_Form_iter, d_Form_getitem, d_Form_eq, d_Form_add, d_Form_sub, d_Form_neg, d_Form_mul, d_Form_rmul, d_Form_call, d_Form_sign, d_Form_like, d_law_pool, d_law_take, d_law_number, d_law_is_form, d_law_total, d_law_sign, d_law_like, d_law_told, d_law_refused, d_law]
def fb0 : List HeZ.Fb := [fun K => (He.Fa.glo "CascadeError").ok K,
  fun K => (He.Fa.glo "BadLength").ok K,
  fun K => (He.Fa.glo "NoIndex").ok K,
  fun K => (He.Fa.glo "sign_of").ok K,
  fun K => (He.Fa.glo "common_divisor").ok K,
  fun K => (He.Fa.glo "divisor_of").ok K,
  fun K => (He.Fa.glo "reduced").ok K,
  fun K => (He.Fa.glo "Form").ok K,
  fun K => (He.Fa.glo "_law_pool").ok K,
  fun K => (He.Fa.glo "_law_take").ok K,
  fun K => (He.Fa.glo "_law_number").ok K,
  fun K => (He.Fa.glo "_law_is_form").ok K,
  fun K => (He.Fa.glo "_law_total").ok K,
  fun K => (He.Fa.glo "_law_sign").ok K,
  fun K => (He.Fa.glo "_law_like").ok K,
  fun K => (He.Fa.glo "_law_told").ok K,
  fun K => (He.Fa.glo "_law_refused").ok K,
  fun K => (He.Fa.glo "law").ok K,
  fun K => (He.Fa.free "ValueError").ok K,
  fun K => (He.Fa.free "abs").ok K,
  fun K => (He.Fa.free "any").ok K,
  fun K => (He.Fa.free "bool").ok K,
  fun K => (He.Fa.free "int").ok K,
  fun K => (He.Fa.free "isinstance").ok K,
  fun K => (He.Fa.free "iter").ok K,
  fun K => (He.Fa.free "len").ok K,
  fun K => (He.Fa.free "max").ok K,
  fun K => (He.Fa.free "min").ok K,
  fun K => (He.Fa.free "range").ok K,
  fun K => (He.Fa.free "staticmethod").ok K,
  fun K => (He.Fa.free "sum").ok K,
  fun K => (He.Fa.free "tuple").ok K,
  fun K => (He.Fa.free "zip").ok K,
  fun K => excB K (He.ga K "BadLength"),
  fun K => (He.Fa.noat "BadLength" "count").ok K,
  fun K => excB K (He.ga K "NoIndex"),
  fun K => (He.Fa.noat "NoIndex" "index").ok K,
  fun K => (He.Fa.cls "Form").ok K,
  fun K => (He.Fa.mkr "Form").ok K,
  fun K => isB K (He.ga K "Form"),
  fun K => creadB K (He.ga K "Form"),
  fun K => PySem.W.selfFirst K (He.ga K "Form"),
  fun K => PySem.W.noSeq K (He.ga K "Form"),
  fun K => kiB K (.ref (He.ga K "Form")) (.ref (He.ga K "Form")) true,
  fun K => (He.Fa.noat "Form" "parts").ok K,
  fun K => (He.Fa.meth "Form" "__init__").ok K,
  fun K => (He.Fa.meth "Form" "__len__").ok K,
  fun K => (He.Fa.meth "Form" "__bool__").ok K,
  fun K => (He.Fa.meth "Form" "__iter__").ok K,
  fun K => (He.Fa.meth "Form" "__getitem__").ok K]
def fb1 : List HeZ.Fb := [fun K => PySem.W.fnIn K (a_Form_getitem K),
  fun K => (He.Fa.meth "Form" "__eq__").ok K,
  fun K => (He.Fa.meth "Form" "__add__").ok K,
  fun K => (He.Fa.meth "Form" "__sub__").ok K,
  fun K => (He.Fa.meth "Form" "__neg__").ok K,
  fun K => (He.Fa.meth "Form" "__mul__").ok K,
  fun K => (He.Fa.meth "Form" "__rmul__").ok K,
  fun K => (He.Fa.meth "Form" "__call__").ok K,
  fun K => PySem.W.fnIn K (a_Form_call K),
  fun K => (He.Fa.meth "Form" "sign").ok K,
  fun K => (He.Fa.meth "Form" "like").ok K,
  fun K => kiB K (.ref (He.ga K "BadLength")) (.ref (He.ga K "CascadeError")) true,
  fun K => kiB K (.ref (He.ga K "BadLength")) (.ref (He.ga K "NoIndex")) false,
  fun K => kiB K (.ref (He.ga K "BadLength")) (.type "ValueError") true,
  fun K => exmB K (.ref (He.ga K "BadLength")) (.ref (He.ga K "BadLength")) true]
def fb : List HeZ.Fb := fb0 ++ fb1
def tf : List He.Defn := [("_law_refused", none)]
/-- what the top has left -/
structure Tx (K : PySem.W.Frag) (mg : Str → Option Value) : Prop where
  ex : ∃ h : Heap, K.In h ∧ h.Ns mainGlobals mg ∧ HeZ.SaysZ fb fn tf h K
section
variable {K : PySem.W.Frag} {mg : Str → Option Value} (T : Tx K mg)
include T
theorem Tx.g_CascadeError : mg "CascadeError" = some (.ref (He.ga K "CascadeError")) := by
  obtain ⟨h, X, G, c⟩ := T.ex
  exact He.glo_ok X G (c.fact 0)
theorem Tx.g_BadLength : mg "BadLength" = some (.ref (He.ga K "BadLength")) := by
  obtain ⟨h, X, G, c⟩ := T.ex
  exact He.glo_ok X G (c.fact 1)
theorem Tx.g_NoIndex : mg "NoIndex" = some (.ref (He.ga K "NoIndex")) := by
  obtain ⟨h, X, G, c⟩ := T.ex
  exact He.glo_ok X G (c.fact 2)
theorem Tx.g_sign_of : mg "sign_of" = some (.ref (He.ga K "sign_of")) := by
  obtain ⟨h, X, G, c⟩ := T.ex
  exact He.glo_ok X G (c.fact 3)
theorem Tx.g_common_divisor : mg "common_divisor" = some (.ref (He.ga K "common_divisor")) := by
  obtain ⟨h, X, G, c⟩ := T.ex
  exact He.glo_ok X G (c.fact 4)
theorem Tx.g_divisor_of : mg "divisor_of" = some (.ref (He.ga K "divisor_of")) := by
  obtain ⟨h, X, G, c⟩ := T.ex
  exact He.glo_ok X G (c.fact 5)
theorem Tx.g_reduced : mg "reduced" = some (.ref (He.ga K "reduced")) := by
  obtain ⟨h, X, G, c⟩ := T.ex
  exact He.glo_ok X G (c.fact 6)
theorem Tx.g_Form : mg "Form" = some (.ref (He.ga K "Form")) := by
  obtain ⟨h, X, G, c⟩ := T.ex
  exact He.glo_ok X G (c.fact 7)
theorem Tx.g_law_pool : mg "_law_pool" = some (.ref (He.ga K "_law_pool")) := by
  obtain ⟨h, X, G, c⟩ := T.ex
  exact He.glo_ok X G (c.fact 8)
theorem Tx.g_law_take : mg "_law_take" = some (.ref (He.ga K "_law_take")) := by
  obtain ⟨h, X, G, c⟩ := T.ex
  exact He.glo_ok X G (c.fact 9)
theorem Tx.g_law_number : mg "_law_number" = some (.ref (He.ga K "_law_number")) := by
  obtain ⟨h, X, G, c⟩ := T.ex
  exact He.glo_ok X G (c.fact 10)
theorem Tx.g_law_is_form : mg "_law_is_form" = some (.ref (He.ga K "_law_is_form")) := by
  obtain ⟨h, X, G, c⟩ := T.ex
  exact He.glo_ok X G (c.fact 11)
theorem Tx.g_law_total : mg "_law_total" = some (.ref (He.ga K "_law_total")) := by
  obtain ⟨h, X, G, c⟩ := T.ex
  exact He.glo_ok X G (c.fact 12)
theorem Tx.g_law_sign : mg "_law_sign" = some (.ref (He.ga K "_law_sign")) := by
  obtain ⟨h, X, G, c⟩ := T.ex
  exact He.glo_ok X G (c.fact 13)
theorem Tx.g_law_like : mg "_law_like" = some (.ref (He.ga K "_law_like")) := by
  obtain ⟨h, X, G, c⟩ := T.ex
  exact He.glo_ok X G (c.fact 14)
theorem Tx.g_law_told : mg "_law_told" = some (.ref (He.ga K "_law_told")) := by
  obtain ⟨h, X, G, c⟩ := T.ex
  exact He.glo_ok X G (c.fact 15)
theorem Tx.g_law_refused : mg "_law_refused" = some (.ref (He.ga K "_law_refused")) := by
  obtain ⟨h, X, G, c⟩ := T.ex
  exact He.glo_ok X G (c.fact 16)
theorem Tx.g_law : mg "law" = some (.ref (He.ga K "law")) := by
  obtain ⟨h, X, G, c⟩ := T.ex
  exact He.glo_ok X G (c.fact 17)
theorem Tx.f_ValueError : mg "ValueError" = none := by
  obtain ⟨h, X, G, c⟩ := T.ex
  exact He.free_ok X G (c.fact 18)
theorem Tx.f_abs : mg "abs" = none := by
  obtain ⟨h, X, G, c⟩ := T.ex
  exact He.free_ok X G (c.fact 19)
theorem Tx.f_any : mg "any" = none := by
  obtain ⟨h, X, G, c⟩ := T.ex
  exact He.free_ok X G (c.fact 20)
theorem Tx.f_bool : mg "bool" = none := by
  obtain ⟨h, X, G, c⟩ := T.ex
  exact He.free_ok X G (c.fact 21)
theorem Tx.f_int : mg "int" = none := by
  obtain ⟨h, X, G, c⟩ := T.ex
  exact He.free_ok X G (c.fact 22)
theorem Tx.f_isinstance : mg "isinstance" = none := by
  obtain ⟨h, X, G, c⟩ := T.ex
  exact He.free_ok X G (c.fact 23)
theorem Tx.f_iter : mg "iter" = none := by
  obtain ⟨h, X, G, c⟩ := T.ex
  exact He.free_ok X G (c.fact 24)
theorem Tx.f_len : mg "len" = none := by
  obtain ⟨h, X, G, c⟩ := T.ex
  exact He.free_ok X G (c.fact 25)
theorem Tx.f_max : mg "max" = none := by
  obtain ⟨h, X, G, c⟩ := T.ex
  exact He.free_ok X G (c.fact 26)
theorem Tx.f_min : mg "min" = none := by
  obtain ⟨h, X, G, c⟩ := T.ex
  exact He.free_ok X G (c.fact 27)
theorem Tx.f_range : mg "range" = none := by
  obtain ⟨h, X, G, c⟩ := T.ex
  exact He.free_ok X G (c.fact 28)
theorem Tx.f_staticmethod : mg "staticmethod" = none := by
  obtain ⟨h, X, G, c⟩ := T.ex
  exact He.free_ok X G (c.fact 29)
theorem Tx.f_sum : mg "sum" = none := by
  obtain ⟨h, X, G, c⟩ := T.ex
  exact He.free_ok X G (c.fact 30)
theorem Tx.f_tuple : mg "tuple" = none := by
  obtain ⟨h, X, G, c⟩ := T.ex
  exact He.free_ok X G (c.fact 31)
theorem Tx.f_zip : mg "zip" = none := by
  obtain ⟨h, X, G, c⟩ := T.ex
  exact He.free_ok X G (c.fact 32)
theorem Tx.x_BadLength : ExcK K (He.ga K "BadLength") := by
  obtain ⟨h, X, G, c⟩ := T.ex
  exact exc_ok (c.fact 33)
theorem Tx.n_BadLength_count : NoAttr K (He.ga K "BadLength") "count" := by
  obtain ⟨h, X, G, c⟩ := T.ex
  exact He.noat_ok (x := "BadLength") (c.fact 34)
theorem Tx.x_NoIndex : ExcK K (He.ga K "NoIndex") := by
  obtain ⟨h, X, G, c⟩ := T.ex
  exact exc_ok (c.fact 35)
theorem Tx.n_NoIndex_index : NoAttr K (He.ga K "NoIndex") "index" := by
  obtain ⟨h, X, G, c⟩ := T.ex
  exact He.noat_ok (x := "NoIndex") (c.fact 36)
theorem Tx.c_Form : Cls K (He.ga K "Form") := by
  obtain ⟨h, X, G, c⟩ := T.ex
  exact He.cls_ok (x := "Form") (c.fact 37)
theorem Tx.k_Form : Mk K (He.ga K "Form") (a_Form_init K) := by
  obtain ⟨h, X, G, c⟩ := T.ex
  exact He.mkr_ok (x := "Form") (c.fact 38)
theorem Tx.i_Form : IsC K (He.ga K "Form") := by
  obtain ⟨h, X, G, c⟩ := T.ex
  exact is_ok (c.fact 39)
theorem Tx.r_Form : ClX.CRead K (He.ga K "Form") (.type "type") := by
  obtain ⟨h, X, G, c⟩ := T.ex
  exact cread_ok (c.fact 40)
theorem Tx.sf_Form : PySem.W.selfFirst K (He.ga K "Form") = true := by
  obtain ⟨h, X, G, c⟩ := T.ex
  exact (c.fact 41)
theorem Tx.ns_Form : PySem.W.noSeq K (He.ga K "Form") = true := by
  obtain ⟨h, X, G, c⟩ := T.ex
  exact (c.fact 42)
theorem Tx.is_Form : PySem.W.kitOne K (.ref (He.ga K "Form")) (.ref (He.ga K "Form")) = some true := by
  obtain ⟨h, X, G, c⟩ := T.ex
  exact ki_ok (c.fact 43)
theorem Tx.n_Form_parts : NoAttr K (He.ga K "Form") "parts" := by
  obtain ⟨h, X, G, c⟩ := T.ex
  exact He.noat_ok (x := "Form") (c.fact 44)
theorem Tx.m_Form_init : Meth K (He.ga K "Form") "__init__" (a_Form_init K) := by
  obtain ⟨h, X, G, c⟩ := T.ex
  exact He.meth_ok (x := "Form") (c.fact 45)
theorem Tx.m_Form_len : Meth K (He.ga K "Form") "__len__" (a_Form_len K) := by
  obtain ⟨h, X, G, c⟩ := T.ex
  exact He.meth_ok (x := "Form") (c.fact 46)
theorem Tx.m_Form_bool : Meth K (He.ga K "Form") "__bool__" (a_Form_bool K) := by
  obtain ⟨h, X, G, c⟩ := T.ex
  exact He.meth_ok (x := "Form") (c.fact 47)
theorem Tx.m_Form_iter : Meth K (He.ga K "Form") "__iter__" (a_Form_iter K) := by
  obtain ⟨h, X, G, c⟩ := T.ex
  exact He.meth_ok (x := "Form") (c.fact 48)
theorem Tx.m_Form_getitem : Meth K (He.ga K "Form") "__getitem__" (a_Form_getitem K) := by
  obtain ⟨h, X, G, c⟩ := T.ex
  exact He.meth_ok (x := "Form") (c.fact 49)
theorem Tx.fi_Form_getitem : PySem.W.fnIn K (a_Form_getitem K) = true := by
  obtain ⟨h, X, G, c⟩ := T.ex
  exact (c.fact 50)
theorem Tx.m_Form_eq : Meth K (He.ga K "Form") "__eq__" (a_Form_eq K) := by
  obtain ⟨h, X, G, c⟩ := T.ex
  exact He.meth_ok (x := "Form") (c.fact 51)
theorem Tx.m_Form_add : Meth K (He.ga K "Form") "__add__" (a_Form_add K) := by
  obtain ⟨h, X, G, c⟩ := T.ex
  exact He.meth_ok (x := "Form") (c.fact 52)
theorem Tx.m_Form_sub : Meth K (He.ga K "Form") "__sub__" (a_Form_sub K) := by
  obtain ⟨h, X, G, c⟩ := T.ex
  exact He.meth_ok (x := "Form") (c.fact 53)
theorem Tx.m_Form_neg : Meth K (He.ga K "Form") "__neg__" (a_Form_neg K) := by
  obtain ⟨h, X, G, c⟩ := T.ex
  exact He.meth_ok (x := "Form") (c.fact 54)
theorem Tx.m_Form_mul : Meth K (He.ga K "Form") "__mul__" (a_Form_mul K) := by
  obtain ⟨h, X, G, c⟩ := T.ex
  exact He.meth_ok (x := "Form") (c.fact 55)
theorem Tx.m_Form_rmul : Meth K (He.ga K "Form") "__rmul__" (a_Form_rmul K) := by
  obtain ⟨h, X, G, c⟩ := T.ex
  exact He.meth_ok (x := "Form") (c.fact 56)
theorem Tx.m_Form_call : Meth K (He.ga K "Form") "__call__" (a_Form_call K) := by
  obtain ⟨h, X, G, c⟩ := T.ex
  exact He.meth_ok (x := "Form") (c.fact 57)
theorem Tx.fi_Form_call : PySem.W.fnIn K (a_Form_call K) = true := by
  obtain ⟨h, X, G, c⟩ := T.ex
  exact (c.fact 58)
theorem Tx.m_Form_sign : Meth K (He.ga K "Form") "sign" (a_Form_sign K) := by
  obtain ⟨h, X, G, c⟩ := T.ex
  exact He.meth_ok (x := "Form") (c.fact 59)
theorem Tx.m_Form_like : Meth K (He.ga K "Form") "like" (a_Form_like K) := by
  obtain ⟨h, X, G, c⟩ := T.ex
  exact He.meth_ok (x := "Form") (c.fact 60)
theorem Tx.is_BadLength_CascadeError : PySem.W.kitOne K (.ref (He.ga K "BadLength")) (.ref (He.ga K "CascadeError")) = some true := by
  obtain ⟨h, X, G, c⟩ := T.ex
  exact ki_ok (c.fact 61)
theorem Tx.is_BadLength_NoIndex : PySem.W.kitOne K (.ref (He.ga K "BadLength")) (.ref (He.ga K "NoIndex")) = some false := by
  obtain ⟨h, X, G, c⟩ := T.ex
  exact ki_ok (c.fact 62)
theorem Tx.is_BadLength_ValueError : PySem.W.kitOne K (.ref (He.ga K "BadLength")) (.type "ValueError") = some true := by
  obtain ⟨h, X, G, c⟩ := T.ex
  exact ki_ok (c.fact 63)
theorem Tx.ex_BadLength_BadLength : PySem.W.exmOne K (.ref (He.ga K "BadLength")) (.ref (He.ga K "BadLength")) = some true := by
  obtain ⟨h, X, G, c⟩ := T.ex
  exact exm_ok (c.fact 64)
theorem Tx.d_BadLength_init : ∃ fd, FunD K "__init__" "BadLength.__init__" (defArgs s_BadLength_init) (defBody s_BadLength_init) (defScope s_BadLength_init) [] [] (a_BadLength_init K) fd := by
  obtain ⟨h, X, G, c⟩ := T.ex
  exact c.def_ 0
theorem Tx.d_NoIndex_init : ∃ fd, FunD K "__init__" "NoIndex.__init__" (defArgs s_NoIndex_init) (defBody s_NoIndex_init) (defScope s_NoIndex_init) [] [] (a_NoIndex_init K) fd := by
  obtain ⟨h, X, G, c⟩ := T.ex
  exact c.def_ 1
theorem Tx.d_sign_of : ∃ fd, FunD K "sign_of" "sign_of" (defArgs s_sign_of) (defBody s_sign_of) (defScope s_sign_of) [] [] (a_sign_of K) fd := by
  obtain ⟨h, X, G, c⟩ := T.ex
  exact c.def_ 2
theorem Tx.d_common_divisor : ∃ fd, FunD K "common_divisor" "common_divisor" (defArgs s_common_divisor) (defBody s_common_divisor) (defScope s_common_divisor) [] [] (a_common_divisor K) fd := by
  obtain ⟨h, X, G, c⟩ := T.ex
  exact c.def_ 3
theorem Tx.d_divisor_of : ∃ fd, FunD K "divisor_of" "divisor_of" (defArgs s_divisor_of) (defBody s_divisor_of) (defScope s_divisor_of) [] [] (a_divisor_of K) fd := by
  obtain ⟨h, X, G, c⟩ := T.ex
  exact c.def_ 4
theorem Tx.d_reduced : ∃ fd, FunD K "reduced" "reduced" (defArgs s_reduced) (defBody s_reduced) (defScope s_reduced) [] [] (a_reduced K) fd := by
  obtain ⟨h, X, G, c⟩ := T.ex
  exact c.def_ 5
theorem Tx.d_Form_init : ∃ fd, FunD K "__init__" "Form.__init__" (defArgs s_Form_init) (defBody s_Form_init) (defScope s_Form_init) [] [] (a_Form_init K) fd := by
  obtain ⟨h, X, G, c⟩ := T.ex
  exact c.def_ 6
theorem Tx.d_Form_len : ∃ fd, FunD K "__len__" "Form.__len__" (defArgs s_Form_len) (defBody s_Form_len) (defScope s_Form_len) [] [] (a_Form_len K) fd := by
  obtain ⟨h, X, G, c⟩ := T.ex
  exact c.def_ 7
theorem Tx.d_Form_bool : ∃ fd, FunD K "__bool__" "Form.__bool__" (defArgs s_Form_bool) (defBody s_Form_bool) (defScope s_Form_bool) [] [] (a_Form_bool K) fd := by
  obtain ⟨h, X, G, c⟩ := T.ex
  exact c.def_ 8
theorem Tx.d_Form_iter : ∃ fd, FunD K "__iter__" "Form.__iter__" (defArgs s_Form_iter) (defBody s_Form_iter) (defScope s_Form_iter) [] [] (a_Form_iter K) fd := by
  obtain ⟨h, X, G, c⟩ := T.ex
  exact c.def_ 9
theorem Tx.d_Form_getitem : ∃ fd, FunD K "__getitem__" "Form.__getitem__" (defArgs s_Form_getitem) (defBody s_Form_getitem) (defScope s_Form_getitem) [] [] (a_Form_getitem K) fd := by
  obtain ⟨h, X, G, c⟩ := T.ex
  exact c.def_ 10
theorem Tx.d_Form_eq : ∃ fd, FunD K "__eq__" "Form.__eq__" (defArgs s_Form_eq) (defBody s_Form_eq) (defScope s_Form_eq) [] [] (a_Form_eq K) fd := by
  obtain ⟨h, X, G, c⟩ := T.ex
  exact c.def_ 11
theorem Tx.d_Form_add : ∃ fd, FunD K "__add__" "Form.__add__" (defArgs s_Form_add) (defBody s_Form_add) (defScope s_Form_add) [] [] (a_Form_add K) fd := by
  obtain ⟨h, X, G, c⟩ := T.ex
  exact c.def_ 12
theorem Tx.d_Form_sub : ∃ fd, FunD K "__sub__" "Form.__sub__" (defArgs s_Form_sub) (defBody s_Form_sub) (defScope s_Form_sub) [] [] (a_Form_sub K) fd := by
  obtain ⟨h, X, G, c⟩ := T.ex
  exact c.def_ 13
theorem Tx.d_Form_neg : ∃ fd, FunD K "__neg__" "Form.__neg__" (defArgs s_Form_neg) (defBody s_Form_neg) (defScope s_Form_neg) [] [] (a_Form_neg K) fd := by
  obtain ⟨h, X, G, c⟩ := T.ex
  exact c.def_ 14
theorem Tx.d_Form_mul : ∃ fd, FunD K "__mul__" "Form.__mul__" (defArgs s_Form_mul) (defBody s_Form_mul) (defScope s_Form_mul) [] [] (a_Form_mul K) fd := by
  obtain ⟨h, X, G, c⟩ := T.ex
  exact c.def_ 15
theorem Tx.d_Form_rmul : ∃ fd, FunD K "__rmul__" "Form.__rmul__" (defArgs s_Form_rmul) (defBody s_Form_rmul) (defScope s_Form_rmul) [] [] (a_Form_rmul K) fd := by
  obtain ⟨h, X, G, c⟩ := T.ex
  exact c.def_ 16
theorem Tx.d_Form_call : ∃ fd, FunD K "__call__" "Form.__call__" (defArgs s_Form_call) (defBody s_Form_call) (defScope s_Form_call) [] [] (a_Form_call K) fd := by
  obtain ⟨h, X, G, c⟩ := T.ex
  exact c.def_ 17
theorem Tx.d_Form_sign : ∃ fd, FunD K "sign" "Form.sign" (defArgs s_Form_sign) (defBody s_Form_sign) (defScope s_Form_sign) [] [] (a_Form_sign K) fd := by
  obtain ⟨h, X, G, c⟩ := T.ex
  exact c.def_ 18
theorem Tx.d_Form_like : ∃ fd, FunD K "like" "Form.like" (defArgs s_Form_like) (defBody s_Form_like) (defScope s_Form_like) [] [] (a_Form_like K) fd := by
  obtain ⟨h, X, G, c⟩ := T.ex
  exact c.def_ 19
theorem Tx.d_law_pool : ∃ fd, FunD K "_law_pool" "_law_pool" (defArgs s_law_pool) (defBody s_law_pool) (defScope s_law_pool) [] [] (a_law_pool K) fd := by
  obtain ⟨h, X, G, c⟩ := T.ex
  exact c.def_ 20
theorem Tx.d_law_take : ∃ fd, FunD K "_law_take" "_law_take" (defArgs s_law_take) (defBody s_law_take) (defScope s_law_take) [] [] (a_law_take K) fd := by
  obtain ⟨h, X, G, c⟩ := T.ex
  exact c.def_ 21
theorem Tx.d_law_number : ∃ fd, FunD K "_law_number" "_law_number" (defArgs s_law_number) (defBody s_law_number) (defScope s_law_number) [] [] (a_law_number K) fd := by
  obtain ⟨h, X, G, c⟩ := T.ex
  exact c.def_ 22
theorem Tx.d_law_is_form : ∃ fd, FunD K "_law_is_form" "_law_is_form" (defArgs s_law_is_form) (defBody s_law_is_form) (defScope s_law_is_form) [] [] (a_law_is_form K) fd := by
  obtain ⟨h, X, G, c⟩ := T.ex
  exact c.def_ 23
theorem Tx.d_law_total : ∃ fd, FunD K "_law_total" "_law_total" (defArgs s_law_total) (defBody s_law_total) (defScope s_law_total) [] [] (a_law_total K) fd := by
  obtain ⟨h, X, G, c⟩ := T.ex
  exact c.def_ 24
theorem Tx.d_law_sign : ∃ fd, FunD K "_law_sign" "_law_sign" (defArgs s_law_sign) (defBody s_law_sign) (defScope s_law_sign) [] [] (a_law_sign K) fd := by
  obtain ⟨h, X, G, c⟩ := T.ex
  exact c.def_ 25
theorem Tx.d_law_like : ∃ fd, FunD K "_law_like" "_law_like" (defArgs s_law_like) (defBody s_law_like) (defScope s_law_like) [] [] (a_law_like K) fd := by
  obtain ⟨h, X, G, c⟩ := T.ex
  exact c.def_ 26
theorem Tx.d_law_told : ∃ fd, FunD K "_law_told" "_law_told" (defArgs s_law_told) (defBody s_law_told) (defScope s_law_told) [] [] (a_law_told K) fd := by
  obtain ⟨h, X, G, c⟩ := T.ex
  exact c.def_ 27
theorem Tx.d_law_refused : ∃ fd, FunD K "_law_refused" "_law_refused" (defArgs s_law_refused) (defBody s_law_refused) (defScope s_law_refused) [] [] (a_law_refused K) fd := by
  obtain ⟨h, X, G, c⟩ := T.ex
  exact c.def_ 28
theorem Tx.d_law : ∃ fd, FunD K "law" "law" (defArgs s_law) (defBody s_law) (defScope s_law) [] [] (a_law K) fd := by
  obtain ⟨h, X, G, c⟩ := T.ex
  exact c.def_ 29
end
def names0 : List Str := ["_wall", "CascadeError", "BadLength", "NoIndex", "sign_of", "common_divisor", "divisor_of", "reduced", "Form", "_law_pool", "_law_take", "_law_number", "_law_is_form", "_law_total", "_law_sign", "_law_like", "_law_told", "_law_refused"]
def names : List Str := names0
abbrev lawAt : Nat := 22
end Lv

set_option Elab.async false
set_option linter.all false
set_option maxRecDepth 100000
set_option maxHeartbeats 0
/-! Lambdas with parameters, handed to a def that calls them. -/
namespace LaX
open PySem PySem.Spec PyProof.Rows L2 LamX OwX
/-- the function at f keeps sp in every state that comes of (s0, H0) -/
structure FnS (P : Program) (w : World) (K : PySem.W.Frag) (mg : Str → Option Value) (base : Heap) (outer : List Env) (s0 : Shared) (H0 : Hp) (k : Nat) (f : Addr) (sp : Sp) : Prop where
  at_ : ∀ (s : Shared) (H : Hp), Un (frs outer) [] H0 H s0.heap s.heap → PySem.W.FnAt f s.heap
  run : ∀ (A : Around) (outer' : List Env) (s : Shared) (H : Hp) (us : List Value) (vs : List V) (Q : VK) (E : XK), Room k A → Env0 P w K mg base A outer' s H → Un (frs outer) [] H0 H s0.heap s.heap → Vals vs us → sp vs H Q E →
    codeAny (model P w) A (.call (.ref f) ⟨us, []⟩) (CR (L2.CX P w) outer' P w H s Q E) s
/-- a def that is handed such a function -/
def FnG (P : Program) (w : World) (K : PySem.W.Frag) (mg : Str → Option Value) (base : Heap) (k kf : Nat) (g : Addr) (sp : Addr → Sp → Sp) : Prop :=
  ∀ (A : Around) (outer : List Env) (s : Shared) (H : Hp) (us : List Value) (vs : List V) (Q : VK) (E : XK) (f : Addr) (spf : Sp), Room k A → Env0 P w K mg base A outer s H → Vals vs us → FnS P w K mg base outer s H kf f spf → sp f spf vs H Q E →
    codeAny (model P w) A (.call (.ref g) ⟨us, []⟩) (CR (L2.CX P w) outer P w H s Q E) s
section
variable {P : Program} {w : World} {K : PySem.W.Frag} {mg : Str → Option Value} {base : Heap} {x qual : Str} {params : Arguments} {body : List Stmt} {scope : Scope} {g : Addr} {N ps : List Str} {k kf : Nat} {sp : Addr → Sp → Sp}
theorem fng (F : ∃ fd, FunD K x qual params body scope [] [] g fd) (S : FnScope N ps scope) (hb : BindsN x qual params body scope ps) (len : ∀ f spf vs H Q E, sp f spf vs H Q E → vs.length = ps.length)
    (h : ∀ (cdv : Value) (A : Around) (outer : List Env) (s : Shared) (H : Hp) (vs : List V) (Q : VK) (E : XK) (f : Addr) (spf : Sp), FnS P w K mg base outer s H kf f spf → Room k (A.deeper (envOfC qual scope s.heap.objs.size g cdv)) → sp f spf vs H Q E →
      ∃ t, PSs (cxOf (L2.CX P w) P w K mg base N qual scope g cdv A outer s H E) body t ∧ t { nx := fun _ H' => Q .non H', rt := Q } (start N vs) H) : FnG P w K mg base (k + 1) kf g sp := by
  intro A outer s H us vs Q E f spf hr e0 rv Ff hsp
  obtain ⟨fd, F⟩ := F
  obtain ⟨oc, od, dV, kV, doc, pm, an, cdv, ct, osl, rfl, lk, hcd, hD, hK⟩ := id F.ex
  have hl := len _ _ _ _ _ _ hsp
  have b := F.bindsN hb s us (e0.mod.kin.keeps fun b o e => (e0.bs b o e).1) (by rw [List.append_nil, ← rv.length]; exact hl)
  rw [List.append_nil] at b
  exact run_ofS (N := N) (ps := ps) lk hcd S hr e0 b rv hl fun hr' => h cdv A outer s H vs Q E f spf Ff hr' hsp
/-- .. its code object told -/
theorem fnrT {spg : Sp} {f : Addr} (p : He.Defn) (hp : He.fAd K p = f) (F : ∃ fd, FunD K x qual params body scope [] [] f fd) (S : FnScope N ps scope) (hb : BindsN x qual params body scope ps) (len : ∀ vs H Q E, spg vs H Q E → vs.length = ps.length)
    (h : ∀ (cdv : Value) (A : Around) (outer : List Env) (s : Shared) (H : Hp) (vs : List V) (Q : VK) (E : XK), cdv = .ref (He.cT K p).1 → Room k (A.deeper (envOfC qual scope s.heap.objs.size f cdv)) → spg vs H Q E →
      ∃ t, PSs (cxOf (L2.CX P w) P w K mg base N qual scope f cdv A outer s H E) body t ∧ t { nx := fun _ H' => Q .non H', rt := Q } (start N vs) H) : FnR P w K mg base (L2.CX P w) (k + 1) f spg := by
  obtain ⟨fd, F⟩ := F
  obtain ⟨oc, od, dV, kV, doc, pm, an, cdv, ct, osl, rfl, lk, hcd, hD, hK⟩ := id F.ex
  have hc : cdv = .ref (He.cT K p).1 := by
    obtain ⟨c, rfl⟩ := He.codeIn_ref hcd
    have e := He.codeOf_eq (p := p) (by rw [hp]; exact lk) rfl
    show Value.ref c = .ref (He.codeOf K p)
    rw [e]
  intro A outer s H us vs Q E hr e0 rv hsp
  have hl := len _ _ _ _ hsp
  have b := F.bindsN hb s us (e0.mod.kin.keeps fun b o e => (e0.bs b o e).1) (by rw [List.append_nil, ← rv.length]; exact hl)
  rw [List.append_nil] at b
  exact run_ofS (N := N) (ps := ps) lk hcd S hr e0 b rv hl fun hr' => h cdv A outer s H vs Q E hc hr' hsp
end
/-! ### the lambda as a function made here -/
/-- the words of a lambda made in X, as those of a nested def without a body -/
abbrev lamF (X : Cx) (params : Arguments) (scope : Scope) (c' : Addr) : NdefX.NF := ⟨"<lambda>", X.env.qual ++ "<lambda>", params, [], scope, cloFrom X.env.cells scope.names [], c'⟩
abbrev lamX (X : Cx) (N : List Str) (params : Arguments) (scope : Scope) (f c' : Addr) (A : Around) (outer : List Env) (s : Shared) (H : Hp) (E : XK) : Cx :=
  NdefX.ncx (L2.CX X.prog X.w) X.prog X.w X.K X.mg X.base N (lamF X params scope c') f A outer s H E
theorem cells_on {cl : List (Str × Addr)} {fr : List Str} {ws : List (Option V)} {fs : List Addr} {h h1 : Heap} {H H1 : Hp} (C : NdefX.CellsAt cl fr ws h H) (u : Un fs [] H H1 h h1) : NdefX.CellsAt cl fr ws h1 H1 := by
  have mv : ∀ {c : Addr} {v : Option Value}, H c = none → h.IsCell c v → h1.IsCell c v ∧ H1 c = none := fun {c v} n z => by
    obtain ⟨ob, e, d⟩ := z
    obtain ⟨sl, e1⟩ := u.any e n (fun m => nomatch m)
    exact ⟨⟨_, e1, d⟩, u.free c ob e n (fun m => nomatch m)⟩
  refine ⟨C.len, fun y c e => ?_, C.inj, fun i y e => ?_⟩
  · obtain ⟨n, v, z⟩ := C.all y c e
    exact ⟨(mv n z).2, v, (mv n z).1⟩
  · obtain ⟨c, e1, k⟩ := C.has i y e
    exact ⟨c, e1, fun v ev => let ⟨u1, r, z⟩ := k v ev; ⟨u1, r, (mv (C.all y c e1).1 z).1⟩⟩
/-- what the lambda promises -/
def spLam (c' : Addr) (q : Str) (n : Nat) (N : List Str) (ws : List (Option V)) (tb : XK → TE) : Sp := fun vs H Q E => vs.length = n ∧ H c' = some (CodeO c' q) ∧ tb E (NdefX.startF N vs ws) H Q
section
variable {X : Cx} {pins : List (Addr × Obj)} {σ : L2.St} {H : Hp} {s : Shared} {N ps fr : List Str} {js : List Nat}
theorem lam_fnS {f c' : Addr} {pm ctv : Value} {params : Arguments} {body : Expr} {scope : Scope} {k : Nat} {tb : XK → TE} (I : Inv X pins σ H s) (S : NdefX.NScope N ps fr scope)
    (hfree : ∀ y ∈ scope.names, y.2 = .free → X.env.scope.names.lookup y.1 = some .cell ∨ X.env.scope.names.lookup y.1 = some .free) (hjs : js.map (fun j => X.N[j]?) = fr.map some)
    (made : s.heap.get? f = some (PySem.W.kla_obj "<lambda>" (X.env.qual ++ "<lambda>") params body scope (cloFrom X.env.cells scope.names []) pm c' ctv)) (untr : H f = none) (nofr : f ∉ frs X.stack)
    (hbind : ∀ us : List Value, us.length = ps.length → bindArgs (PySem.W.kla_fn "<lambda>" (X.env.qual ++ "<lambda>") params body scope (cloFrom X.env.cells scope.names []) pm (.ref c') ctv) ⟨us, []⟩ = pure (ps.zip us))
    (hbody : ∀ (A : Around) (outer : List Env) (s : Shared) (H : Hp) (E : XK), Room k (A.deeper (NdefX.envF (lamF X params scope c') f s.heap.objs.size)) → PE (lamX X N params scope f c' A outer s H E) body (tb E)) :
    FnS X.prog X.w X.K X.mg X.base X.stack s H (k + 1) f (spLam c' (X.env.qual ++ "<lambda>") ps.length N (js.map (NdefX.slotAt σ)) tb) := by
  have cs := NdefX.cells_of I (NdefX.Caps.made I.ok hfree (fun y hy => PySem.mem_of_lookup (S.frk y hy)) hjs)
  have stays : ∀ (t : Shared) (G : Hp), Un (frs X.stack) [] H G s.heap t.heap → t.heap.get? f = some (PySem.W.kla_obj "<lambda>" (X.env.qual ++ "<lambda>") params body scope (cloFrom X.env.cells scope.names []) pm c' ctv) := fun t G u => u.keep f _ made untr nofr (fun m => nomatch m)
  refine ⟨fun t G u => ⟨_, _, _, _, stays t G u⟩, fun A outer' t G us vs Q E hr e0 u rv ⟨nv, hc, rd⟩ => ?_⟩
  obtain ⟨⟨oc, cv, tok, c1, c2, c3⟩, _, _⟩ := e0.hok c' _ hc
  refine PySem.W.kla_callFunE hr.depth (stays t G u) rfl S.co S.gen rfl ⟨c', oc, cv, tok, rfl, c1, c2, c3⟩ ?_
  rw [hbind us (by rw [← rv.length]; exact nv)]
  refine wpAny_pure (wpAny_newFunctionEnv S.nocell (fun ⟨n, _⟩ hy => S.par n (List.of_mem_zip hy).1) (fun hp hns hsb => ⟨(e0.mod.nolimit.keeps fun b o e => (e0.bs b o e).1).fresh _ hsb, ?_⟩) S.kind)
  have old : ∀ b o, t.heap.get? b = some o → hp.get? b = some o := fun b o e => hsb.extBut b o (Nat.ne_of_lt (Heap.lt_size e)) (Heap.get?_push_of_some _ e)
  have J := NdefX.inv_startN (CX := L2.CX X.prog X.w) (F := lamF X params scope c') (f := f) (E := E) (tk := t.toks + (ps.zip us).length) S hr.hd e0 nv rv (cells_on cs u) hns old
  exact PySem.W.kla_codeExpr (wpAny_mono ((hbody A outer' t G E (hr.deeper _)).run [] _ _ G Q J rd) (fun v t' ⟨w', G', J', r', q⟩ => ⟨w', G', J'.os, J'.bare, J'.base, J'.hok, r', q⟩) fun _ _ z => z)
end
/-! ### g(lambda: ..), g(e, lambda: ..) -/
def tLamG (T : List (Addr × Str)) (sp : Addr → Sp → Sp) (q : Str) (n : Nat) (N : List Str) (js : List Nat) (tb : XK → TE) (E : XK) (t : TA) : TE := fun σ H Q => t σ H fun vs H0 => Tabs T H0 ∧
  ∀ f c' H1, ExtN H0 H1 → Tabs T H1 → H1 f = none → H1 c' = some (CodeO c' q) → sp f (spLam c' q n N (js.map (NdefX.slotAt σ)) tb) (vs ++ [.ref f]) H1 Q E
/-- what the maker of a lambda must have -/
structure LamOk (X : Cx) (T : List (Addr × Str)) (c P : Addr) (params : Arguments) (body : Expr) (scope : Scope) (N ps fr : List Str) (js : List Nat) : Prop where
  TB : TabB X.base X.mg c P
  code : X.env.code = .ref c
  mem : (P, X.env.qual ++ "<lambda>") ∈ T
  one : ∀ p ∈ T, p.1 = P → p.2 = X.env.qual ++ "<lambda>"
  ns : NdefX.NScope N ps fr scope
  free : ∀ y ∈ scope.names, y.2 = .free → X.env.scope.names.lookup y.1 = some .cell ∨ X.env.scope.names.lookup y.1 = some .free
  caps : js.map (fun j => X.N[j]?) = fr.map some
  dflt : defaultsOf params X.env = ([], [])
  bind : ∀ (q : Str) (cl : List (Str × Addr)) (pm cv ctv : Value) (us : List Value), us.length = ps.length → bindArgs (PySem.W.kla_fn "<lambda>" q params body scope cl pm cv ctv) ⟨us, []⟩ = pure (ps.zip us)
theorem free_by {sc scope : Scope} (h : (scope.names.all fun y => !decide (y.2 = .free) || (decide (sc.names.lookup y.1 = some .cell) || decide (sc.names.lookup y.1 = some .free))) = true) : ∀ y ∈ scope.names, y.2 = .free → sc.names.lookup y.1 = some .cell ∨ sc.names.lookup y.1 = some .free := fun y hy e => by
  have z := List.all_eq_true.mp h y hy
  rw [e] at z
  simpa using z
section
variable {X : Cx} {T : List (Addr × Str)} {x : Str} {g c P : Addr} {k kg : Nat} {sp : Addr → Sp → Sp} {params : Arguments} {body : Expr} {scope : Scope} {tb : XK → TE} {p lpos pos : Pos} {E : XK} {N ps fr : List Str} {js : List Nat} {e : Expr} {te : TE}
theorem g_run {pins : List (Addr × Obj)} {σ : L2.St} {H : Hp} {s : Shared} {Q : VK} {us : List Value} {vs : List V} {f : Addr} {spf : Sp} (G : FnG X.prog X.w X.K X.mg X.base kg k g sp) (hr : Room kg X.A) (hx : Passes (L2.CX X.prog X.w) X E) (I : Inv X pins σ H s) (r : Vals vs us) (Ff : FnS X.prog X.w X.K X.mg X.base X.stack s H k f spf) (h : sp f spf vs H Q E) :
    wpAny (model X.prog X.w) X.A (call (.ref g) us) (EP X pins σ Q) X.xe s :=
  wpAny_call (codeAny_mono (G X.A X.stack s H us vs Q E f spf hr I.env0 r Ff h) fun r s2 hq => match r, hq with
    | .error e, hq => hx pins σ H s e s2 I hq
    | .ok (.ret _), hq => I.after hq
    | .ok .next, hq => False.elim hq
    | .ok .brk, hq => False.elim hq
    | .ok .cont, hq => False.elim hq)
/-- the lambda made, then what follows -/
theorem lam_made {pins : List (Addr × Obj)} {σ : L2.St} {H : Hp} {s : Shared} {E2 : Value → Shared → Prop} {Q2 : Value → Shared → Prop} (L : LamOk X T c P params body scope N ps fr js) (I : Inv X pins σ H s) (hT : Tabs T H)
    (hbody : ∀ (A : Around) (outer : List Env) (s : Shared) (H : Hp) (E : XK) (f c' : Addr), Room k (A.deeper (NdefX.envF (lamF X params scope c') f s.heap.objs.size)) → PE (lamX X N params scope f c' A outer s H E) body (tb E))
    (h : ∀ (f c' : Addr) (H1 : Hp) (s1 : Shared), Inv X pins σ H1 s1 → ExtN H H1 → Tabs T H1 → H1 f = none → H1 c' = some (CodeO c' (X.env.qual ++ "<lambda>")) → FnS X.prog X.w X.K X.mg X.base X.stack s1 H1 (k + 1) f (spLam c' (X.env.qual ++ "<lambda>") ps.length N (js.map (NdefX.slotAt σ)) tb) → Q2 (.ref f) s1) :
    wpAny (model X.prog X.w) X.A (eval (.Lambda params body scope lpos) X.env) Q2 E2 s := by
  have has : ∀ y ∈ scope.names, y.2 = .free → ∃ c, X.env.cells.lookup y.1 = some c := fun y hy e => (L.free y hy e).elim (fun z => I.ok.has _ (.inl z)) fun z => I.ok.has _ (.inr z)
  exact lam_make2 I L.TB L.code L.mem L.one hT L.dflt has fun f c' pm ctv H1 s1 J eN T1 made untr nofr co => h f c' H1 s1 J eN T1 untr co (lam_fnS J L.ns L.free L.caps made untr nofr (fun us hl => L.bind _ _ _ _ _ us hl) fun A outer t G E2 r2 => hbody A outer t G E2 f c' r2)
theorem pe_lam1 (G : FnG X.prog X.w X.K X.mg X.base kg (k + 1) g sp) (hr : Room kg X.A) (hk : PySem.W.keepIn X.K (.ref g) = true) (hg : Gl X x) (hm : X.mg x = some (.ref g)) (hx : Passes (L2.CX X.prog X.w) X E) (L : LamOk X T c P params body scope N ps fr js)
    (hbody : ∀ (A : Around) (outer : List Env) (s : Shared) (H : Hp) (E : XK) (f c' : Addr), Room k (A.deeper (NdefX.envF (lamF X params scope c') f s.heap.objs.size)) → PE (lamX X N params scope f c' A outer s H E) body (tb E))
    (hdb : (x == ("__debug__" : Str)) = false := by decide) : PE X (.Call (.Name x p) [.Lambda params body scope lpos] [] pos) (tLamG T sp (X.env.qual ++ "<lambda>") ps.length N js tb E tNil) :=
  ⟨fun pins s σ H Q I ⟨hT, h⟩ => wpAny_Call_Name_kw (ld_glob I hg hm (PySem.W.callWith_K (h₀ := X.base) I.ok.mod.kin hk (Calls.spliced_cons (rest := backTo pos (starEach [] X.env)) (lam_made L I hT hbody fun f c' H1 s1 J eN T1 untr co Ff =>
    Calls.spliced_nil ⟨J.kIn, g_run (us := [.ref f]) (vs := [.ref f]) G hr hx J (.cons rfl .nil) Ff (h f c' H1 eN T1 untr co)⟩)) (by rfl) (by rfl)) hdb)⟩
theorem pe_lam2 (G : FnG X.prog X.w X.K X.mg X.base kg (k + 1) g sp) (hr : Room kg X.A) (hk : PySem.W.keepIn X.K (.ref g) = true) (hg : Gl X x) (hm : X.mg x = some (.ref g)) (hx : Passes (L2.CX X.prog X.w) X E) (he : PE X e te) (L : LamOk X T c P params body scope N ps fr js)
    (hbody : ∀ (A : Around) (outer : List Env) (s : Shared) (H : Hp) (E : XK) (f c' : Addr), Room k (A.deeper (NdefX.envF (lamF X params scope c') f s.heap.objs.size)) → PE (lamX X N params scope f c' A outer s H E) body (tb E))
    (hdb : (x == ("__debug__" : Str)) = false := by decide) (hst : starEach [e, .Lambda params body scope lpos] X.env = (false, eval e X.env) :: starEach [.Lambda params body scope lpos] X.env := by rfl) (hpl : (backTo pos (starEach [.Lambda params body scope lpos] X.env)).any (·.1) = false := by rfl) :
    PE X (.Call (.Name x p) [e, .Lambda params body scope lpos] [] pos) (tLamG T sp (X.env.qual ++ "<lambda>") ps.length N js tb E (tCons te tNil)) := by
  refine ⟨fun pins s σ H Q I h => wpAny_Call_Name_kw (ld_glob I hg hm (PySem.W.callWith_K (h₀ := X.base) I.ok.mod.kin hk ?_ hst hpl) hdb)⟩
  rw [hst]
  exact Calls.spliced_cons (rest := backTo pos (starEach [.Lambda params body scope lpos] X.env)) (thn (he.run pins s σ H _ I h) fun u s1 ⟨v, H0, I0, rv, hT, h1⟩ => Calls.spliced_cons (rest := backTo pos (starEach [] X.env)) (lam_made L I0 hT hbody fun f c' H1 s2 J eN T1 untr co Ff =>
    Calls.spliced_nil ⟨J.kIn, g_run (us := [u, .ref f]) (vs := [v, .ref f]) G hr hx J (.cons rv (.cons rfl .nil)) Ff (h1 f c' H1 eN T1 untr co)⟩))
end
/-! ### the call of what was handed -/
def tCallF (f : Addr) (i : Nat) (sp : Sp) (E : L2.St → XK) (t : TA) : TE := fun σ H Q => σ[i]? = some (some (.ref f)) ∧ t σ H fun vs H1 => sp vs H1 Q (E σ)
section
variable {X : Cx} {f : Addr} {k i : Nat} {sp : Sp} {a : Str} {p1 p2 : Pos} {E : L2.St → XK} {e : Expr} {es : List Expr} {t : TA}
theorem f_run {pins : List (Addr × Obj)} {σ : L2.St} {H : Hp} {s : Shared} {Q : VK} {us : List Value} {vs : List V} (F : FnS X.prog X.w X.K X.mg X.base X.outer X.s_0 X.H_0 k f sp) (hex : X.ex = []) (hr : Room k X.A) (hx : ∀ σ, PassesAt (L2.CX X.prog X.w) X σ (E σ)) (I : Inv X pins σ H s) (r : Vals vs us) (h : sp vs H Q (E σ)) :
    wpAny (model X.prog X.w) X.A (call (.ref f) us) (EP X pins σ Q) X.xe s :=
  wpAny_call (codeAny_mono (F.run X.A X.stack s H us vs Q (E σ) hr I.env0 (hex ▸ I.base) r h) fun r s2 hq => match r, hq with
    | .error e, hq => hx σ pins H s e s2 I hq
    | .ok (.ret _), hq => I.after hq
    | .ok .next, hq => False.elim hq
    | .ok .brk, hq => False.elim hq
    | .ok .cont, hq => False.elim hq)
/-- the name of what was handed, read -/
theorem f_name {pins : List (Addr × Obj)} {σ : L2.St} {H : Hp} {s : Shared} {R : Value → Shared → Prop} (I : Inv X pins σ H s) (hs : σ[i]? = some (some (.ref f))) (hN : X.N[i]? = some a) (hv : Vis X.env.scope a) (hd : (a == ("__debug__" : Str)) = false) (hcd : (a == ("__classdict__" : Str)) = false)
    (h : ∀ s1, Inv X pins σ H s1 → R (.ref f) s1) : wpAny (model X.prog X.w) X.A (eval (.Name a p1) X.env) R X.xe s :=
  thn ((pe_var (pos := p1) (i := i) hN hv hd hcd).run pins s σ H (fun v H1 => v = .ref f ∧ H1 = H) I ⟨.ref f, hs, rfl, rfl⟩) fun u s1 ⟨v, H1, J, rv, e1, e2⟩ => by
    subst e1 e2
    have e3 : u = Value.ref f := rv
    rw [e3]
    exact h s1 J
theorem pe_callF0 (F : FnS X.prog X.w X.K X.mg X.base X.outer X.s_0 X.H_0 k f sp) (hr : Room k X.A) (hx : ∀ σ, PassesAt (L2.CX X.prog X.w) X σ (E σ)) (hN : X.N[i]? = some a) (hv : Vis X.env.scope a) (hex : X.ex = [] := by rfl)
    (hd : (a == ("__debug__" : Str)) = false := by decide) (hcd : (a == ("__classdict__" : Str)) = false := by decide) : PE X (.Call (.Name a p1) [] [] p2) (tCallF f i sp E tNil) :=
  ⟨fun pins s σ H Q I ⟨hs, h⟩ => wpAny_Call_Name_kw (f_name I hs hN hv hd hcd fun s1 J => PySem.W.callWith_F0 (F.at_ s1 H (hex ▸ J.base)) (f_run (us := []) (vs := []) F hex hr hx J .nil h))⟩
theorem pe_callF (F : FnS X.prog X.w X.K X.mg X.base X.outer X.s_0 X.H_0 k f sp) (hr : Room k X.A) (hx : ∀ σ, PassesAt (L2.CX X.prog X.w) X σ (E σ)) (hN : X.N[i]? = some a) (hv : Vis X.env.scope a) (ha : PA X (e :: es) t) (hex : X.ex = [] := by rfl)
    (hd : (a == ("__debug__" : Str)) = false := by decide) (hcd : (a == ("__classdict__" : Str)) = false := by decide)
    (he : starEach (e :: es) X.env = (false, eval e X.env) :: starEach es X.env := by rfl) (hpl : (backTo p2 (starEach es X.env)).any (·.1) = false := by rfl) : PE X (.Call (.Name a p1) (e :: es) [] p2) (tCallF f i sp E t) :=
  ⟨fun pins s σ H Q I ⟨hs, h⟩ => wpAny_Call_Name_kw (f_name I hs hN hv hd hcd fun s1 J => PySem.W.callWith_F (F.at_ s1 H (hex ▸ J.base)) (thn (ha.run p2 pins s1 σ H _ J h) fun us s2 ⟨vs, H2, J2, rv, q2⟩ => ⟨F.at_ s2 H2 (hex ▸ J2.base), f_run F hex hr hx J2 rv q2⟩) he hpl)⟩
end
theorem passAtL {X : Cx} {E : XK} (h : Passes (L2.CX X.prog X.w) X E) : ∀ σ : L2.St, PassesAt (L2.CX X.prog X.w) X σ ((fun _ => E) σ) := fun σ pins H s e s' I c => h pins σ H s e s' I c
theorem passF {X : Cx} {E₁ : Value → Shared → Prop} {F : XK} (hs : X.stack = X.env :: X.outer) (hf : X.env.frame = some X.env.locals) (hex : X.ex = [])
    (hx : X.xe = fun e s' => wpAny (model X.prog X.w) X.A (leaving X.env e) (fun _ s'' => L2.CX X.prog X.w X.outer X.H_0 X.s_0 F e s'') E₁ s') : Passes (L2.CX X.prog X.w) X F :=
  passes_call (L2.takes_of hs hf hex hx) fun _ _ _ _ h => h
end LaX
namespace OwX
open PySem PySem.Spec PyProof.Rows L2
/-- o(e, ..), o an instance of C -/
def tCallOK (C : Addr) (sp : Sp) (E : XK) (tf : TE) (t : TA) : TE := fun σ H Q => tf σ H fun y H1 => ∃ a, y = V.ref a ∧ t σ H1 fun vs H2 => (∃ dx fs, H2 a = some (.ins C dx fs)) ∧ sp (V.ref a :: vs) H2 Q E
theorem pe_callOK {X : Cx} {k : Nat} {C g : Addr} {sp : Sp} {E : XK} {fe e : Expr} {es : List Expr} {tf : TE} {t : TA} {pos : Pos} (hf : PE X fe tf) (c : StX.CallO X.K C g) (F : FnR X.prog X.w X.K X.mg X.base (L2.CX X.prog X.w) k g sp) (hr : Room k X.A) (hx : Passes (L2.CX X.prog X.w) X E) (ha : PA X (e :: es) t)
    (ht : eval (.Call fe (e :: es) [] pos) X.env = (do callWith pos (← eval fe X.env) [] (backTo pos (starEach (e :: es) X.env)) (backToKw pos (keywordEach [] X.env))) := by rfl)
    (he : starEach (e :: es) X.env = (false, eval e X.env) :: starEach es X.env := by rfl) (hpl : (backTo pos (starEach es X.env)).any (·.1) = false := by rfl) : PE X (.Call fe (e :: es) [] pos) (tCallOK C sp E tf t) := by
  refine ⟨fun pins s σ H Q I h => Call_ (thn (hf.run pins s σ H _ I h) fun u s1 ⟨y, H1, J, ry, a, ey, q⟩ => ?_) ht⟩
  subst ey
  have eu : u = Value.ref a := ry
  rw [eu]
  refine StX.callO_with (thn (ha.run pos pins s1 σ H1 _ J q) fun us s2 ⟨vs, H2, J2, r, hi, q2⟩ => ?_) he hpl
  obtain ⟨ox, od, hj, hd⟩ := StX.insC_at J2 (.inr hi)
  exact ⟨⟨C, ox, od, hj, hd⟩, StX.run_callO c F hr hx J2 (.inr hi) r q2⟩
end OwX

set_option Elab.async false
set_option linter.all false
set_option maxRecDepth 100000
set_option maxHeartbeats 0
/-! zip of a tuple and a list. -/
namespace ZM
open PySem RZ
section
variable {prog : Program} {w : World} {A : Around} {E : Value → Shared → Prop} {s : Shared} {z TI TO i1 i2 l1 l2 : Addr} {k1 k2 : Nat} {xs ys : Array Value} {x y a b : Value}
/-- what the zip object and its parts are at a turn: i1 walks the tuple l1, i2 the list l2 -/
structure At (h : Heap) (z TI TO i1 i2 l1 l2 : Addr) (k1 k2 : Nat) (f0 a b : Value) : Prop where
  z : IsZip h z TI TO f0
  ti : IsPair h TI (.ref i1) (.ref i2)
  to : IsPair h TO a b
  p : h.IsTupleIter i1 l1 k1
  q : h.IsListIter i2 l2 k2
theorem item (D : ZipApart z TI TO i1 i2 l1 l2) (Z : At s.heap z TI TO i1 i2 l1 l2 k1 k2 .none a b) (tl : s.heap.IsTuple l1 xs) (ll : s.heap.IsList l2 ys) (ex : xs[k1]? = some x) (ey : ys[k2]? = some y) {Q : Value → Shared → Prop}
    (k : ∀ g, At g z TI TO i1 i2 l1 l2 (k1 + 1) (k2 + 1) (rawInt s.heap.objs.size) x y → IsPair g s.heap.objs.size x y → (∀ c o, c ≠ z → c ≠ TO → c ≠ i1 → c ≠ i2 → s.heap.get? c = some o → g.get? c = some o) → Q (.ref s.heap.objs.size) { s with heap := g }) :
    wpAny (model prog w) A (Builtin.«zip.__next__» ⟨[.ref z], []⟩) (fun fin t => ∃ v, fin = .done (.ret v) ∧ Q v t) E s := by
  show wpAny _ _ (field (.ref z) 2 >>= _) _ _ s
  refine wpAny_bind (wpAny_field Z.z rfl (x := .bool false) rfl ?_)
  show wpAny _ _ (field (.ref z) 3 >>= _) _ _ s
  refine wpAny_bind (wpAny_field Z.z rfl (x := .ref TI) rfl (wpAny_bind (wpAny_seqItems Z.ti rfl ?_)))
  show wpAny _ _ (Builtin.SmallTypes.ownedTupleIsFree (.ref z) >>= _) _ _ s
  refine wpAny_bind ?_
  unfold Builtin.SmallTypes.ownedTupleIsFree
  refine wpAny_bind (wpAny_field Z.z rfl (x := .none) rfl (wpAny_pure ?_))
  simp only [if_true]
  refine wpAny_bind (wpAny_rule (wpAny_bind (wpAny_field Z.z rfl (x := .ref TO) rfl (wpAny_bind (wpAny_setField_rec Z.z (by simp) fun g1 zr1 m1 => wpAny_bind ?_)))))
  have z1 : IsZip g1 z TI TO .ellipsis := zr1
  simp only [List.zipIdx_cons, List.zipIdx_nil, List.forIn_cons, List.forIn_nil]
  -- the tuple's item
  refine wpAny_bind (wpAny_bind (wpAny_onRaise ?_))
  show wpAny _ _ (Builtin.SmallTypes.nextOf (.ref i1) >>= _) _ _ { s with heap := g1 }
  refine wpAny_bind (nextOf_tuple_item (Z.p.extBut m1.extBut D.i1z) (tl.extBut m1.extBut D.l1z) ex fun g2 p2 m2 => wpAny_pure ?_)
  have t2 : IsPair g2 TO a b := m2.extBut _ _ D.TOi1 (m1.extBut _ _ D.TOz Z.to)
  refine wpAny_bind (wpAny_seqItems t2 rfl (wpAny_bind (wpAny_updateSeq_pair t2 fun g3 tr3 m3 => wpAny_bind (wpAny_letGo (wpAny_pure ?_)))))
  have t3 : IsPair g3 TO x b := tr3
  -- the list's item
  refine wpAny_bind (wpAny_bind (wpAny_onRaise ?_))
  show wpAny _ _ (Builtin.SmallTypes.nextOf (.ref i2) >>= _) _ _ { s with heap := g3 }
  have qs := ((Z.q.extBut m1.extBut D.i2z).extBut m2.extBut D.i12.symm).extBut m3.extBut D.TOi2.symm
  have ls := ((ll.extBut m1.extBut D.l2z).extBut m2.extBut D.l2i1).extBut m3.extBut D.l2TO
  refine wpAny_bind (wpAny_nextOf_list_item qs ls ey fun g4 q4 m4 => wpAny_pure ?_)
  have t4 : IsPair g4 TO x b := m4.extBut _ _ D.TOi2 t3
  refine wpAny_bind (wpAny_seqItems t4 rfl (wpAny_bind (wpAny_updateSeq_pair t4 fun g5 tr5 m5 => wpAny_bind (wpAny_letGo (wpAny_pure (wpAny_pure ?_))))))
  have t5 : IsPair g5 TO x y := tr5
  refine wpAny_bind (wpAny_seqItems t5 rfl (wpAny_bind (wpAny_newTuple ?_)))
  -- behind both
  have sz : g5.objs.size = s.heap.objs.size := by rw [m5.1, m4.1, m3.1, m2.1, m1.1]
  have thr : ∀ c o, c ≠ z → c ≠ TO → c ≠ i1 → c ≠ i2 → s.heap.get? c = some o → g5.get? c = some o := fun c o n1 n2 n3 n4 e =>
    m5.extBut _ _ n2 (m4.extBut _ _ n4 (m3.extBut _ _ n2 (m2.extBut _ _ n3 (m1.extBut _ _ n1 e))))
  have z5 : IsZip g5 z TI TO .ellipsis := m5.extBut _ _ D.TOz.symm (m4.extBut _ _ D.i2z.symm (m3.extBut _ _ D.TOz.symm (m2.extBut _ _ D.i1z.symm z1)))
  have p5 : g5.IsTupleIter i1 l1 (k1 + 1) := ((p2.extBut m3.extBut D.TOi1.symm).extBut m4.extBut D.i12).extBut m5.extBut D.TOi1.symm
  have q5 : g5.IsListIter i2 l2 (k2 + 1) := q4.extBut m5.extBut D.TOi2.symm
  have zlt : z < g5.objs.size := Heap.lt_size z5
  show wpAny _ _ (Builtin.SmallTypes.ownedTupleHandOut (.ref z) (.ref g5.objs.size) >>= _) _ _ _
  refine wpAny_bind ?_
  unfold Builtin.SmallTypes.ownedTupleHandOut
  have z6 : IsZip (g5.push { cls := .type "tuple", data := .seq #[x, y] }) z TI TO .ellipsis := Heap.get?_push_of_some _ z5
  refine wpAny_bind (wpAny_setField_rec z6 (by simp) fun g7 zr7 m7 => ?_)
  have z7 : IsZip g7 z TI TO (rawInt g5.objs.size) := zr7
  refine wpAny_setField_rec z7 (by simp) fun g8 zr8 m8 => wpAny_pure ⟨_, rfl, ?_⟩
  have z8 : IsZip g8 z TI TO (rawInt g5.objs.size) := zr8
  have fin : ∀ c o, c ≠ z → g5.get? c = some o → g8.get? c = some o := fun c o n e => m8.extBut _ _ n (m7.extBut _ _ n (Heap.get?_push_of_some _ e))
  have n8 : IsPair g8 g5.objs.size x y := m8.extBut _ _ (Nat.ne_of_gt zlt) (m7.extBut _ _ (Nat.ne_of_gt zlt) (Heap.get?_push_size _ rfl))
  rw [sz] at z8 n8
  show Q (.ref g5.objs.size) _
  rw [sz]
  exact k g8 ⟨z8, fin _ _ D.TIz (thr _ _ D.TIz D.TITO D.TIi1 D.TIi2 Z.ti), fin _ _ D.TOz t5, p5.at fun o e => fin _ o D.i1z e, q5.at fun o e => fin _ o D.i2z e⟩ n8 fun c o n1 n2 n3 n4 e => fin c o n1 (thr c o n1 n2 n3 n4 e)
theorem ends (hh : A.handled = none) (D : ZipApart z TI TO i1 i2 l1 l2) (Z : At s.heap z TI TO i1 i2 l1 l2 k1 k2 .none a b) (tl : s.heap.IsTuple l1 xs) (ll : s.heap.IsList l2 ys) (en : xs[k1]? = none ∨ ys[k2]? = none) {Q : Fin → Shared → Prop}
    (k : ∀ g e, (∀ c o, c ≠ z → c ≠ TO → c ≠ i1 → c ≠ i2 → s.heap.get? c = some o → g.get? c = some o) → (∃ o, g.get? e = some o ∧ o.cls = .type "StopIteration") → E (.ref e) { s with heap := g }) :
    wpAny (model prog w) A (Builtin.«zip.__next__» ⟨[.ref z], []⟩) Q E s := by
  show wpAny _ _ (field (.ref z) 2 >>= _) _ _ s
  refine wpAny_bind (wpAny_field Z.z rfl (x := .bool false) rfl ?_)
  show wpAny _ _ (field (.ref z) 3 >>= _) _ _ s
  refine wpAny_bind (wpAny_field Z.z rfl (x := .ref TI) rfl (wpAny_bind (wpAny_seqItems Z.ti rfl ?_)))
  show wpAny _ _ (Builtin.SmallTypes.ownedTupleIsFree (.ref z) >>= _) _ _ s
  refine wpAny_bind ?_
  unfold Builtin.SmallTypes.ownedTupleIsFree
  refine wpAny_bind (wpAny_field Z.z rfl (x := .none) rfl (wpAny_pure ?_))
  simp only [if_true]
  refine wpAny_bind (wpAny_rule (wpAny_bind (wpAny_field Z.z rfl (x := .ref TO) rfl (wpAny_bind (wpAny_setField_rec Z.z (by simp) fun g1 zr1 m1 => wpAny_bind ?_)))))
  have z1 : IsZip g1 z TI TO .ellipsis := zr1
  simp only [List.zipIdx_cons, List.zipIdx_nil, List.forIn_cons, List.forIn_nil]
  refine wpAny_bind (wpAny_bind (wpAny_onRaise ?_))
  show wpAny _ _ (Builtin.SmallTypes.nextOf (.ref i1) >>= _) _ _ { s with heap := g1 }
  have ps := Z.p.extBut m1.extBut D.i1z
  have ts := tl.extBut m1.extBut D.l1z
  have isz : ∀ {g : Heap} {e : Addr} {oe : Obj}, IsZip g z TI TO .ellipsis → g.get? e = some oe → oe.cls = .type "StopIteration" → e ≠ z := fun {g e oe} hz ho hc q => by
    rw [q, hz] at ho
    cases ho
    simp at hc
  cases ex : xs[k1]? with
  | none =>
    refine wpAny_bind (nextOf_tuple_end hh ps ts ex fun g2 e m2 he => ?_)
    obtain ⟨oe, ho, hc⟩ := he
    have z2 : IsZip g2 z TI TO .ellipsis := m2 _ _ D.i1z.symm z1
    exact wpAny_setField_rec z2 (by simp) fun g3 _ m3 => k g3 e (fun c o n1 _ n3 _ q => m3.extBut _ _ n1 (m2 _ _ n3 (m1.extBut _ _ n1 q))) ⟨oe, m3.extBut _ _ (isz z2 ho hc) ho, hc⟩
  | some x =>
    have ey : ys[k2]? = none := en.elim (fun q => by rw [ex] at q; cases q) id
    refine wpAny_bind (nextOf_tuple_item ps ts ex fun g2 p2 m2 => wpAny_pure ?_)
    have t2 : IsPair g2 TO a b := m2.extBut _ _ D.TOi1 (m1.extBut _ _ D.TOz Z.to)
    refine wpAny_bind (wpAny_seqItems t2 rfl (wpAny_bind (wpAny_updateSeq_pair t2 fun g3 tr3 m3 => wpAny_bind (wpAny_letGo (wpAny_pure ?_)))))
    refine wpAny_bind (wpAny_bind (wpAny_onRaise ?_))
    show wpAny _ _ (Builtin.SmallTypes.nextOf (.ref i2) >>= _) _ _ { s with heap := g3 }
    have qs := ((Z.q.extBut m1.extBut D.i2z).extBut m2.extBut D.i12.symm).extBut m3.extBut D.TOi2.symm
    have ls := ((ll.extBut m1.extBut D.l2z).extBut m2.extBut D.l2i1).extBut m3.extBut D.l2TO
    refine wpAny_bind (wpAny_nextOf_list_end hh qs ls ey fun g4 e m4 he => ?_)
    obtain ⟨oe, ho, hc⟩ := he
    have z4 : IsZip g4 z TI TO .ellipsis := m4 _ _ D.i2z.symm (m3.extBut _ _ D.TOz.symm (m2.extBut _ _ D.i1z.symm z1))
    exact wpAny_setField_rec z4 (by simp) fun g5 _ m5 => k g5 e (fun c o n1 n2 n3 n4 q => m5.extBut _ _ n1 (m4 _ _ n4 (m3.extBut _ _ n2 (m2.extBut _ _ n3 (m1.extBut _ _ n1 q))))) ⟨oe, m5.extBut _ _ (isz z4 ho hc) ho, hc⟩
theorem next_item (D : ZipApart z TI TO i1 i2 l1 l2) (Z : At s.heap z TI TO i1 i2 l1 l2 k1 k2 .none a b) (tl : s.heap.IsTuple l1 xs) (ll : s.heap.IsList l2 ys) (ex : xs[k1]? = some x) (ey : ys[k2]? = some y) {Q : Option Value → Shared → Prop}
    (k : ∀ g, At g z TI TO i1 i2 l1 l2 (k1 + 1) (k2 + 1) (rawInt s.heap.objs.size) x y → IsPair g s.heap.objs.size x y → (∀ c o, c ≠ z → c ≠ TO → c ≠ i1 → c ≠ i2 → s.heap.get? c = some o → g.get? c = some o) → Q (some (.ref s.heap.objs.size)) { s with heap := g }) :
    wpAny (model prog w) A (pyNext (.ref z)) Q E s := by
  have ty : s.TypeIs (.ref z) "zip" := ⟨_, Z.z, rfl⟩
  unfold pyNext
  exact wpAny_bind (wpAny_attempt (wpAny_callSpecial?_slot (name := Str.ofString "__next__") ty F.slot_zip_next (wpAny_call_entry F.slot_zip_next ty F.entry_zip_next (item D Z tl ll ex ey fun g Z2 n m => wpAny_pure (k g Z2 n m)) (F.args_zip_next_1 _))))
theorem next_ends (hh : A.handled = none) (D : ZipApart z TI TO i1 i2 l1 l2) (Z : At s.heap z TI TO i1 i2 l1 l2 k1 k2 .none a b) (tl : s.heap.IsTuple l1 xs) (ll : s.heap.IsList l2 ys) (en : xs[k1]? = none ∨ ys[k2]? = none) {Q : Option Value → Shared → Prop}
    (k : ∀ g, (∀ c o, c ≠ z → c ≠ TO → c ≠ i1 → c ≠ i2 → s.heap.get? c = some o → g.get? c = some o) → Q none { s with heap := g }) : wpAny (model prog w) A (pyNext (.ref z)) Q E s := by
  have ty : s.TypeIs (.ref z) "zip" := ⟨_, Z.z, rfl⟩
  unfold pyNext
  refine wpAny_bind (wpAny_attempt (wpAny_callSpecial?_slot (name := Str.ofString "__next__") ty F.slot_zip_next (wpAny_call_entry F.slot_zip_next ty F.entry_zip_next (ends (A := A.in1) (show A.in1.handled = none from hh) D Z tl ll en fun g e m ⟨o, ho, hc⟩ => ?_) (F.args_zip_next_1 _))))
  exact wpAny_bind (wpAny_isInstance (T := "StopIteration") (b := true) ⟨o, ho, hc⟩ isSubtype_stop (wpAny_pure (k _ m)))
/-- the heap with the new zip object, and what it is made of -/
abbrev h1 (h : Heap) (l1 : Addr) : Heap := h.push { cls := .type "tuple_iterator", data := .fields #[.ref l1, .int 0 0] }
abbrev h2 (h : Heap) (l1 l2 : Addr) : Heap := (h1 h l1).push { cls := .type "list_iterator", data := .fields #[.ref l2, .int 0 0] }
abbrev h3 (h : Heap) (l1 l2 : Addr) : Heap := (h2 h l1 l2).push { cls := .type "tuple", data := .seq #[.ref h.objs.size, .ref (h1 h l1).objs.size] }
abbrev h4 (h : Heap) (l1 l2 : Addr) : Heap := (h3 h l1 l2).push { cls := .type "tuple", data := .seq #[.none, .none] }
abbrev h5 (h : Heap) (l1 l2 : Addr) : Heap := (h4 h l1 l2).push { cls := .type "zip", data := .fields #[.none, .bool false, .bool false, .ref (h2 h l1 l2).objs.size, .ref (h3 h l1 l2).objs.size] }
end
theorem meets_new (l1 l2 : Addr) (xs ys : Array Value) :
    Meets (Builtin.«zip.__new__» ⟨[.type "zip", .ref l1, .ref l2], []⟩) (fun _ R s => s.heap.IsTuple l1 xs ∧ s.heap.IsList l2 ys ∧ R (.ok (.ret (.ref (h4 s.heap l1 l2).objs.size))) { s with heap := h5 s.heap l1 l2 }) :=
  .of_wp fun prog w A R s h => by
    obtain ⟨hp, g, d, tk, os⟩ := s
    obtain ⟨e1, e2, h⟩ := h
    have hsub := sub_zip
    have L1 : Heap.IsTuple (Shared.heap ⟨hp, g, d, tk, os⟩) l1 xs := e1
    have L2 : Heap.IsList (Shared.heap ⟨hp.push { cls := .type "tuple_iterator", data := .fields #[.ref l1, .int 0 0] }, g, d, tk, os⟩) l2 ys := Heap.IsList.push e2 _
    wp_walk using wpAny_pyIter_tuple L1, wpAny_pyIter_list L2
    exact ⟨_, rfl, h⟩
section
variable {prog : Program} {w : World} {A : Around} {E : Value → Shared → Prop} {s : Shared}
theorem made {l1 l2 : Addr} {xs ys : Array Value} {Q : Value → Shared → Prop} (tl : s.heap.IsTuple l1 xs) (ll : s.heap.IsList l2 ys)
    (k : ∀ g, At g (s.heap.objs.size + 4) (s.heap.objs.size + 2) (s.heap.objs.size + 3) s.heap.objs.size (s.heap.objs.size + 1) l1 l2 0 0 .none .none .none → (∀ c o, s.heap.get? c = some o → g.get? c = some o) → Q (.ref (s.heap.objs.size + 4)) { s with heap := g }) :
    wpAny (model prog w) A (call (.type "zip") [.ref l1, .ref l2]) Q E s := by
  refine callType_new F.called_zip (by decide) (F.typeCall_zip_2 _ _) (F.newCall_zip_2 _ _) (fun obj => F.args_object_init_3 obj _ _) F.entry_zip_new (meets_new l1 l2 xs ys) ⟨tl, ll, ?_⟩
  generalize hn : s.heap.objs.size = n at *
  have n1 : (h1 s.heap l1).objs.size = n + 1 := by rw [Heap.size_push, hn]
  have n2 : (h2 s.heap l1 l2).objs.size = n + 2 := by rw [Heap.size_push, n1]
  have n3 : (h3 s.heap l1 l2).objs.size = n + 3 := by rw [Heap.size_push, n2]
  have n4 : (h4 s.heap l1 l2).objs.size = n + 4 := by rw [Heap.size_push, n3]
  have o5 : (h5 s.heap l1 l2).get? (h4 s.heap l1 l2).objs.size = some _ := Heap.get?_push_size _ rfl
  have o4 : (h5 s.heap l1 l2).get? (h3 s.heap l1 l2).objs.size = some _ := Heap.get?_push_of_some _ (Heap.get?_push_size _ rfl)
  have o3 : (h5 s.heap l1 l2).get? (h2 s.heap l1 l2).objs.size = some _ := Heap.get?_push_of_some _ (Heap.get?_push_of_some _ (Heap.get?_push_size _ rfl))
  have o2 : (h5 s.heap l1 l2).get? (h1 s.heap l1).objs.size = some _ := Heap.get?_push_of_some _ (Heap.get?_push_of_some _ (Heap.get?_push_of_some _ (Heap.get?_push_size _ rfl)))
  have o1 : (h5 s.heap l1 l2).get? s.heap.objs.size = some _ := Heap.get?_push_of_some _ (Heap.get?_push_of_some _ (Heap.get?_push_of_some _ (Heap.get?_push_of_some _ (Heap.get?_push_size _ rfl))))
  show _ ∧ _
  rw [n2, n3, n4] at o5
  rw [hn, n1, n2] at o3
  rw [n3] at o4
  rw [n1] at o2
  rw [hn] at o1
  rw [n4]
  exact ⟨⟨_, o5, rfl⟩, k _ ⟨o5, o3, o4, ⟨_, o1, rfl, rfl⟩, ⟨_, o2, rfl, rfl⟩⟩ fun c o e => Heap.get?_push_of_some _ (Heap.get?_push_of_some _ (Heap.get?_push_of_some _ (Heap.get?_push_of_some _ (Heap.get?_push_of_some _ e))))⟩
end
/-! ### over the layer -/
open PySem.Spec PyProof.Rows L2
/-- the tuple at a, the list at b -/
def ItM (K : PySem.W.Frag) (a b : Addr) : It :=
  ⟨fun i H => ∃ (xs ys : List V) (x y : V), SqT K H a xs ∧ SqL K H b ys ∧ xs[i]? = some x ∧ ys[i]? = some y,
    fun i H v H' => ∃ T x y, v = .ref T ∧ H T = none ∧ H' = upd H T (.tup [x, y]) ∧ (∀ xs, SqT K H a xs → xs[i]? = some x) ∧ ∀ ys, SqL K H b ys → ys[i]? = some y,
    fun i H => ∃ xs ys : List V, SqT K H a xs ∧ SqL K H b ys ∧ (xs.length ≤ i ∨ ys.length ≤ i)⟩
theorem turnM {P : Program} {w : World} {K : PySem.W.Frag} {elts : List Expr} {kk : Nat} {tpos : Pos} {a b z TI TO i1 i2 : Addr} (D : ZipApart z TI TO i1 i2 a b) :
    Turn P w K (.Tuple elts kk tpos) (ItM K a b) [z, TI, TO, i1, i2] z (fun i h => ∃ x y, At h z TI TO i1 i2 a b i i .none x y) where
  mem := by simp
  obj := fun i h ⟨x, y, Z⟩ c hc => by
    obtain ⟨o1, e1, _, d1⟩ := Z.p
    obtain ⟨o2, e2, _, d2⟩ := Z.q
    simp only [List.mem_cons, List.not_mem_nil, or_false] at hc
    rcases hc with e | e | e | e | e <;> rw [e]
    · exact ⟨_, Z.z, fun v q => nomatch q⟩
    · exact ⟨_, Z.ti, fun v q => nomatch q⟩
    · exact ⟨_, Z.to, fun v q => nomatch q⟩
    · exact ⟨o1, e1, fun v q => by rw [d1] at q; cases q⟩
    · exact ⟨o2, e2, fun v q => by rw [d2] at q; cases q⟩
  keep := fun i h h' ⟨x, y, Z⟩ k => ⟨x, y, k z (by simp) _ Z.z, k TI (by simp) _ Z.ti, k TO (by simp) _ Z.to, Z.p.at fun o q => k i1 (by simp) o q, Z.q.at fun o q => k i2 (by simp) o q⟩
  item := by
    intro X hP hw hK hc i pins s σ H E I hf ⟨x0, y0, Z⟩ ⟨xs, ys, x, y, qx, qy, hx, hy⟩
    subst hP hw hK
    obtain ⟨t1, r1, p1, _⟩ := I.tuple qx
    obtain ⟨t2, r2, p2, _⟩ := I.list qy
    obtain ⟨u1, g1, ru1⟩ := r1.get hx
    obtain ⟨u2, g2, ru2⟩ := r2.get hy
    have zl : z < s.heap.objs.size := Heap.lt_size Z.z
    refine next_item D Z p1 p2.isList (x := u1) (y := u2) (by simpa using g1) (by simpa using g2) fun g Z2 n m => ⟨_, rfl, wpAny_letOwnedTupleGo_zip (s := { s with heap := g }) Z2.z fun g' z' sb => ?_⟩
    have nT : g'.get? s.heap.objs.size = some { cls := .type "tuple", data := .seq #[u1, u2] } := (sb.2 _ (Nat.ne_of_gt zl)).trans n
    have new : ObjOk X.prog X.w (upd H s.heap.objs.size (.tup [x, y])) g' s.heap.objs.size (.tup [x, y]) := ⟨by show 2 ≤ sizeLine; decide, [u1, u2], .cons ru1 (.cons ru2 .nil), ⟨_, nT, rfl, _, rfl⟩⟩
    have J : Inv X pins σ (upd H s.heap.objs.size (.tup [x, y])) { s with heap := g' } := I.turnedNew (t' := s.toks) (ch := [z, TI, TO, i1, i2])
      (fun c o hb q => (sb.2 c (fun e => hb (by simp [e]))).trans (m c o (fun e => hb (by simp [e])) (fun e => hb (by simp [e])) (fun e => hb (by simp [e])) (fun e => hb (by simp [e])) q)) hf (Nat.le_refl _) new
    refine ⟨.ref s.heap.objs.size, _, J, rfl, ⟨_, x, y, rfl, I.hok.fresh (Nat.le_refl _), rfl, fun l hl => by rw [I.tuple_inj hl qx]; exact hx, fun l hl => by rw [I.list_inj hl qy]; exact hy⟩, ⟨u1, u2, z', (sb.2 _ D.TIz).trans Z2.ti, (sb.2 _ D.TOz).trans Z2.to, Z2.p.at fun o q => (sb.2 _ D.i1z).trans q, Z2.q.at fun o q => (sb.2 _ D.i2z).trans q⟩, fun c hm => ?_⟩
    have lt : c < s.heap.objs.size := by
      simp only [List.mem_cons, List.not_mem_nil, or_false] at hm
      obtain ⟨_, e1, _⟩ := Z.p
      obtain ⟨_, e2, _⟩ := Z.q
      rcases hm with e | e | e | e | e <;> rw [e]
      · exact zl
      · exact Heap.lt_size Z.ti
      · exact Heap.lt_size Z.to
      · exact Heap.lt_size e1
      · exact Heap.lt_size e2
    rw [upd_ne (Nat.ne_of_lt lt)]
    exact (hf c hm).1
  done := by
    intro X hP hw hK hc i pins s σ H E I hf ⟨x0, y0, Z⟩ ⟨xs, ys, qx, qy, hend⟩
    subst hP hw hK
    obtain ⟨t1, r1, p1, _⟩ := I.tuple qx
    obtain ⟨t2, r2, p2, _⟩ := I.list qy
    have n1 := r1.length
    have n2 := r2.length
    have he : t1.toArray[i]? = none ∨ t2.toArray[i]? = none := hend.elim (fun q => .inl (by simp; omega)) fun q => .inr (by simp; omega)
    exact next_ends (I.ok.hd hc) D Z p1 p2.isList he fun g m => ⟨rfl, I.turnedL (t' := s.toks) (ch := [z, TI, TO, i1, i2]) (fun c o hb q => m c o (fun e => hb (by simp [e])) (fun e => hb (by simp [e])) (fun e => hb (by simp [e])) (fun e => hb (by simp [e])) q) hf⟩
  self := fun A i s Q E ⟨x, y, Z⟩ h => wpAny_pyIter_zip Z.z h
/-- a tuple at a; at b a tuple or a list -/
def iZipM (K : PySem.W.Frag) (ta : TA) : TI := fun σ H R => ta σ H fun vs H1 => ∃ a b xs ys, vs = [.ref a, .ref b] ∧ SqT K H1 a xs ∧ ((SqT K H1 b ys ∧ R (RZ.ItzT K a b) H1) ∨ (SqL K H1 b ys ∧ R (ItM K a b) H1))
theorem pi_zipM {K : PySem.W.Frag} {X : Cx} {e e2 : Expr} {ta : TA} {p pos tpos : Pos} {elts : List Expr} {kk : Nat} (hg : Gl X "zip") (hm : X.mg "zip" = none) (ha : PA X [e, e2] ta) (h : X.K = K := by rfl)
    (hs : starEach [e, e2] X.env = (false, eval e X.env) :: starEach [e2] X.env := by rfl) (hpl : (backTo pos (starEach [e2] X.env)).any (·.1) = false := by rfl) :
    PI X (.Tuple elts kk tpos) (.Call (.Name "zip" p) [e, e2] [] pos) (iZipM K ta) := by
  subst h
  refine ⟨fun pins s σ H R I h => Call_ (ld_blt I hg hm PyProof.Rows.boot_zip (PyProof.Rows.callWith_type1 (thn (ha.run pos pins s σ H _ I h) fun us s1 ⟨vs, H1, J, r1, a, b, xs, ys, ex, qx, q⟩ => ?_) hs hpl))⟩
  subst ex
  obtain ⟨u1, u2, rfl, ru1, ru2⟩ := vals2 r1
  obtain rfl : u1 = Value.ref a := ru1
  obtain rfl : u2 = Value.ref b := ru2
  have fresh : ∀ c, c ∈ [s1.heap.objs.size + 4, s1.heap.objs.size + 2, s1.heap.objs.size + 3, s1.heap.objs.size, s1.heap.objs.size + 1] → FpOk X pins H1 c := fun c hc => by
    have le : s1.heap.objs.size ≤ c := by
      simp only [List.mem_cons, List.not_mem_nil, or_false] at hc
      omega
    exact J.fpOk le (J.hok.fresh le)
  obtain ⟨t1, r1', p1, _⟩ := J.tuple qx
  obtain ⟨o1, ho1, _⟩ := id p1
  rcases q with ⟨qy, q⟩ | ⟨qy, q⟩
  · obtain ⟨t2, r2', p2, _⟩ := J.tuple qy
    obtain ⟨o2, ho2, _⟩ := id p2
    refine RZ.call_zipT (show s1.heap.IsTuple a t1.toArray from p1) (show s1.heap.IsTuple b t2.toArray from p2) fun g gz gti gto g1 g2 _ kp => wpAny_pyIter_zip gz ?_
    have ap := PySem.W.ktu_apart s1.heap.objs.size a b (Heap.lt_size ho1) (Heap.lt_size ho2)
    generalize s1.heap.objs.size = n at gz gti gto g1 g2 fresh ap ⊢
    exact ⟨n + 4, [n + 4, n + 2, n + 3, n, n + 1], fun i h => IsZip h (n + 4) (n + 2) (n + 3) .none ∧ IsPair h (n + 2) (.ref n) (.ref (n + 1)) ∧ (∃ x y, IsPair h (n + 3) x y) ∧ h.IsTupleIter n a i ∧ h.IsTupleIter (n + 1) b i, RZ.ItzT X.K a b, H1, rfl, J.kept (t' := s1.toks) kp, RZ.turn_zipT ap, ⟨gz, gti, ⟨_, _, gto⟩, g1, g2⟩, fresh, q⟩
  · obtain ⟨t2, r2', p2, _⟩ := J.list qy
    refine made (show s1.heap.IsTuple a t1.toArray from p1) p2.isList fun g Z kp => wpAny_pyIter_zip Z.z ?_
    have ap := PySem.W.ktu_apart s1.heap.objs.size a b (Heap.lt_size ho1) p2.lt
    generalize s1.heap.objs.size = n at Z fresh ap ⊢
    exact ⟨n + 4, [n + 4, n + 2, n + 3, n, n + 1], fun i h => ∃ x y, At h (n + 4) (n + 2) (n + 3) n (n + 1) a b i i .none x y, ItM X.K a b, H1, rfl, J.kept (t' := s1.toks) kp, turnM ap, ⟨_, _, Z⟩, fresh, q⟩
end ZM
namespace GW
open PySem PySem.Spec PyProof.Rows L2 OwX
theorem zipM {K : PySem.W.Frag} {X : Cx} {e e2 : Expr} {t : TA} {p pos tpos : Pos} {elts : List Expr} {kk : Nat} (hg : Gl X "zip") (hm : X.mg "zip" = none) (ha : PA X [e, e2] t) (h : X.K = K := by rfl)
    (hs : starEach [e, e2] X.env = (false, eval e X.env) :: starEach [e2] X.env := by rfl) (hpl : (backTo pos (starEach [e2] X.env)).any (·.1) = false := by rfl) :
    PI X (.Tuple elts kk tpos) (.Call (.Name "zip" p) [e, e2] [] pos) (ZM.iZipM K t) := ZM.pi_zipM hg hm ha h hs hpl
end GW
namespace Rd
open PySem PySem.Spec PyProof.Rows L2 OwX
section
variable {K : PySem.W.Frag} {a b : Addr} {xs ys : List V}
theorem walk_zipM {n : Nat} (hn : n = min xs.length ys.length) : Walk (ZM.ItM K a b) n (fun H => SqT K H a xs ∧ SqL K H b ys) (YPair (fun i => xs[i]?) (fun i => ys[i]?)) := by
  subst hn
  refine ⟨fun i _ hi q => ?_, fun _ q => ⟨xs, ys, q.1, q.2, by omega⟩, fun i H v H' _ q ⟨T, x, z, h1, h2, h3, h4, h5⟩ => ⟨T, x, z, h1, h2, h3, h4 xs q.1, h5 ys q.2⟩⟩
  have h1 : i < xs.length := by omega
  have h2 : i < ys.length := by omega
  exact ⟨xs, ys, xs[i], ys[i], q.1, q.2, by simp [h1], by simp [h2]⟩
theorem lcZM {g : TG} {tt : TT} {te : TE} {ta : TA} {vs : List Nat} {σ : L2.St} {H : Hp} {Q : VK} (k : ta σ H fun vs' H1 => ∃ a b xs ys, vs' = [.ref a, .ref b] ∧ SqT K H1 a xs ∧ ((SqT K H1 b ys ∧ LcB (RZ.ItzT K a b) g tt te vs σ H1 Q) ∨ (SqL K H1 b ys ∧ LcB (ZM.ItM K a b) g tt te vs σ H1 Q))) : tLc (ZM.iZipM K ta) g tt te vs σ H Q := k
end
end Rd

set_option Elab.async false
set_option linter.all false
set_option maxRecDepth 100000
set_option maxHeartbeats 0
/-! Forms: the class, its errors. -/
namespace Lv
open PySem PySem.Spec PyProof.Rows L2 OwX
local macro_rules | `(tactic| walk_at "side") => `(tactic| first
  | exact (show CMul _ _ from .inl ⟨by decide, by decide⟩) | exact (show CMul _ _ from .inr ⟨by decide, by decide⟩) | exact (show CMul _ _ from .inl ⟨by omega, by omega⟩) | exact (show CMul _ _ from .inr ⟨by omega, by omega⟩)
  | exact (show CPow _ _ from ⟨by decide, by decide, by decide⟩)
  | exact (show CDiv _ _ from ⟨by decide, by decide⟩) | exact (show CDiv _ _ from ⟨by omega, by omega⟩)
  | exact (show (0 : Int) < _ by decide) | exact (show (0 : Int) < _ by omega) | exact (show ¬ (_ : Int) = 0 by decide) | exact (show ¬ (_ : Int) = 0 by omega) | assumption)
local macro_rules | `(tactic| walk_at "hp") => `(tactic| first
  | assumption | exact upd_same
  | (refine' SqL.of ?h1; (case h1 => walk_at "hp")) | (refine' SqT.of ?h1; (case h1 => walk_at "hp"))
  | (refine' Rd.new_app ?h1 ?h2; (case h1 => assumption); (case h2 => walk_at "hp"))
  | (refine' Rd.upd_app ?h1 ?h2; (case h1 => first | assumption | exact Ne.symm (by assumption)); (case h2 => walk_at "hp"))
  | (refine' Rd.ext_app ?h1 ?h2; (case h1 => assumption); (case h2 => walk_at "hp"))
  | (refine' Rd.ext_L ?h1 ?h2; (case h1 => assumption); (case h2 => walk_at "hp"))
  | (refine' Rd.ext_T ?h1 ?h2; (case h1 => assumption); (case h2 => walk_at "hp")))
local macro_rules | `(tactic| walk_at "go") => `(tactic| repeat (first
  | with_reducible refine Rd.con ?_
  | ((with_reducible refine' Rd.var ?h1 ?_); (case h1 => rfl))
  | with_reducible refine Rd.op ?_
  | with_reducible refine Rd.un ?_
  | with_reducible refine Rd.i0 ?_
  | with_reducible refine Rd.iu ?_
  | ((with_reducible refine Rd.iC ?h1 ?_); (case h1 => walk_at "side"))
  | with_reducible refine Rd.nil ?_
  | with_reducible refine Rd.cons ?_
  | with_reducible refine Rd.cb ?_
  | with_reducible refine Rd.int1 ?_
  | with_reducible refine Rd.intB ?_
  | with_reducible refine Rd.maxI ?_
  | with_reducible refine Rd.minI ?_
  | with_reducible refine Rd.blx ?_
  | with_reducible refine Rd.tst ?_
  | with_reducible refine Rd.tb_ ?_
  | with_reducible refine Rd.not_ ?_
  | with_reducible refine Rd.and_ ?_
  | with_reducible refine Rd.or_ ?_
  | with_reducible refine Rd.ifx ?_
  | with_reducible refine Rd.chain ?_
  | with_reducible refine Rd.andV ?_
  | with_reducible refine Rd.orV ?_
  | with_reducible refine Rd.notV ?_
  | with_reducible refine Rd.seq ?_
  | with_reducible refine Rd.asg ?_
  | with_reducible refine Rd.name ?_
  | with_reducible refine Rd.ret ?_
  | with_reducible refine Rd.ifS ?_
  | with_reducible refine Rd.next ?_
  | with_reducible refine Rd.drop ?_
  | with_reducible refine Rd.gsub ?_
  | with_reducible refine Rd.cr ?_
  | with_reducible refine Rd.crX ?_
  | with_reducible refine Rd.ixOS ?_
  | ((with_reducible refine' Rd.xfv ?h1 ?h2 ?h3 ?_); (case h1 => walk_at "hp"); (case h2 => rfl); (case h3 => rfl))
  | ((with_reducible refine' Rd.bmLv ?h1 ?h2 ?_); (case h1 => rfl); (case h2 => walk_at "hp"))
  | ((with_reducible refine' Rd.countL ?h1 ?_); (case h1 => walk_at "hp"))
  | ((with_reducible refine' Rd.sumL ?h1 ?_); (case h1 => walk_at "hp"))
  | ((with_reducible refine' Rd.listL ?h1 ?_); (case h1 => walk_at "hp"))
  | ((with_reducible refine' Rd.listT ?h1 ?_); (case h1 => walk_at "hp"))
  | with_reducible refine Rd.isNn ?_
  | with_reducible refine Rd.isNr ?_
  | with_reducible refine Rd.notNn ?_
  | with_reducible refine Rd.notNr ?_
  | with_reducible refine Rd.isB ?_
  | with_reducible refine Rd.notBtt ?_
  | with_reducible refine Rd.notBff ?_
  | with_reducible refine Rd.notBtf ?_
  | with_reducible refine Rd.notBft ?_
  | with_reducible refine Rd.notB ?_
  | with_reducible refine Rd.smeth ?_
  | with_reducible refine Rd.sl ?_
  | with_reducible refine Rd.po0 ?_
  | with_reducible refine Rd.poI ?_
  | with_reducible refine Rd.ixi ?_
  | with_reducible refine Rd.par ?_
  | with_reducible refine Rd.par2 ?_
  | with_reducible refine Rd.mkRS ?_
  | with_reducible refine Rd.callRS ?_
  | with_reducible refine Rd.mk ?_
  | with_reducible refine Rd.mkX ?_
  | with_reducible refine Rd.sF ?_
  | with_reducible refine Rd.dIn ?_
  | with_reducible refine Rd.dNi ?_
  | with_reducible refine Rd.dctL ?_
  | with_reducible refine Rd.dctT ?_
  | with_reducible refine Rd.forE ?_
  | with_reducible refine Rd.lc2T ?_
  | with_reducible refine Rd.lc2L ?_
  | with_reducible refine Rd.lc2R ?_
  | with_reducible refine Rd.inR2 ?_
  | with_reducible refine Rd.inR1 ?_
  | with_reducible refine Rd.inT ?_
  | with_reducible refine Rd.inL ?_
  | with_reducible refine Rd.lcT ?_
  | with_reducible refine Rd.lcL ?_
  | with_reducible refine Rd.lcR ?_
  | with_reducible refine Rd.forT ?_
  | with_reducible refine Rd.forL ?_
  | with_reducible refine Rd.forR ?_
  | with_reducible refine Rd.yes ?_
  | with_reducible refine iteT ?_
  | with_reducible refine iteF ?_
  | with_reducible refine Rd.iteNT ?_
  | with_reducible refine Rd.iteNF ?_
  | with_reducible refine Rd.tup ?_
  | with_reducible refine Rd.lst ?_
  | ((with_reducible refine Rd.eqs ?h1 ?_); (case h1 => rfl))
  | ((with_reducible refine Rd.nes ?h1 ?_); (case h1 => rfl))
  | ((with_reducible refine' Rd.ixL ?h1 ?h2 ?_); (case h1 => walk_at "hp"); (case h2 => first | rfl | assumption))
  | ((with_reducible refine' Rd.ixT ?h1 ?h2 ?_); (case h1 => walk_at "hp"); (case h2 => first | rfl | assumption))
  | ((with_reducible refine' Rd.lenL ?h1 ?_); (case h1 => walk_at "hp"))
  | ((with_reducible refine' Rd.lenT ?h1 ?_); (case h1 => walk_at "hp"))
  | ((with_reducible refine' Rd.setL ?h1 ?h2 ?_); (case h1 => walk_at "hp"); (case h2 => first | rfl | assumption))))
/-! ### an error with one field -/
/-- an error's __init__ stores its one value -/
def sp_ex (C : Addr) (f : Str) : Sp := fun vs H Q _ => ∃ (a : Addr) (v : V), vs = [.ref a, v] ∧ H a = some (exo a C none) ∧ ∀ dx, H dx = none → dx ≠ a → Q .non (upd (upd H dx (exd dx [(f, v)])) a (exo a C (some dx)))
theorem mk_ex {C : Addr} {f : Str} {ta : TA} {σ : L2.St} {H : Hp} {W : XK} (h : ta σ H fun vs H1 => ∃ v, vs = [v] ∧ ∀ d, H1 d = none → W (.ref C) (some d) (upd H1 d (.xd [(f, v)]))) (mono : ∀ R R' : List V → Hp → Prop, (∀ vs H, R vs H → R' vs H) → ta σ H R → ta σ H R') : tMkO C (sp_ex C f) [] ta σ H W := by
  refine mono _ _ (fun vs H1 q => ?_) h
  obtain ⟨v, rfl, q⟩ := q
  refine ⟨(show 1 ≤ 1000 by decide), fun a ha => ⟨a, v, rfl, upd_same, fun dx hd ne => ⟨rfl, ?_⟩⟩⟩
  rw [upd_ne ne] at hd
  refine ⟨dx, [(f, v)], upd_same, by rw [upd_ne ne, upd_same], hd, ?_⟩
  have e : upd (del (upd (upd (upd H1 a (exo a C none)) dx (exd dx [(f, v)])) a (exo a C (some dx))) a) dx (.xd [(f, v)]) = upd H1 dx (.xd [(f, v)]) := by
    funext b
    by_cases h1 : b = dx
    · rw [h1, upd_same, upd_same]
    · rw [upd_ne h1, upd_ne h1]
      by_cases h2 : b = a
      · rw [h2, del_same, ha]
      · rw [del_ne h2, upd_ne h2, upd_ne h1, upd_ne h2]
  rw [e]
  exact q dx hd
section
variable {base : Heap} {P : Program} {w : World} {mg : Str → Option Value} {K : PySem.W.Frag}
theorem ok_NoIndex (T : Tx K mg) : ∃ fd, FnOk P w K mg base (L2.CX P w) 1 (a_NoIndex_init K) fd P_NoIndex_init (sp_ex (He.ga K "NoIndex") "index") ∧ Binds K fd P_NoIndex_init [] := by
  refine fnok T.d_NoIndex_init sc_NoIndex_init (fun _ _ _ _ _ _ us hl => match us, hl with | [_, _], _ => rfl) (fun vs H Q E h => ?_) (fun cdv A outer s H vs Q E hr h => ?_)
  · obtain ⟨a, v, rfl, _⟩ := h
    rfl
  · obtain ⟨a, v, rfl, ha, k⟩ := h
    refine ⟨_, pss_one (ps_ost (pv 0) (pv 1)), ?_⟩
    exact ⟨_, rfl, _, rfl, a, _, rfl, T.x_NoIndex.ox, T.n_NoIndex_index, .inl ⟨ha, fun dx hd ne => k dx hd ne⟩⟩
/-! ### the class Form -/
abbrev CF (K : PySem.W.Frag) : Addr := He.ga K "Form"
def fsF (q : Addr) : List (Str × V) := [("parts", .ref q)]
theorem fsF_parts (q : Addr) : (fsF q).lookup ("parts" : Str) = some (.ref q) := by unfold fsF; simp [List.lookup]
def FormAt (K : PySem.W.Frag) (H : Hp) (a : Addr) (xs : List Int) : Prop := ∃ dx q, H a = some (.ins (CF K) dx (fsF q)) ∧ H q = some (.tup (xs.map V.int))
theorem FormAt.ext {H H' : Hp} {a : Addr} {xs : List Int} (h : FormAt K H a xs) (e : Ext H H') : FormAt K H' a xs := by
  obtain ⟨dx, q, h1, h2⟩ := h
  exact ⟨dx, q, e _ _ h1, e _ _ h2⟩
/-- e.parts -/
theorem fld_parts (T : Tx K mg) {σ : L2.St} {H : Hp} {n : Nat} {a : Addr} {xs : List Int} {Q : VK} (h : FormAt K H a xs) (e : σ[n]? = some (some (.ref a))) (k : ∀ q, H q = some (.tup (xs.map V.int)) → Q (.ref q) H) : tFld K (tVar n) "parts" σ H Q := by
  obtain ⟨dx, q, h1, h2⟩ := h
  exact ⟨.ref a, e, a, CF K, dx, fsF q, _, rfl, h1, T.c_Form, T.n_Form_parts, fsF_parts q, k q h2⟩
def sp_Form_init (K : PySem.W.Frag) : Sp := fun vs H Q _ => ∃ (x dx a : Addr) (xs : List Int), vs = [.ref x, .ref a] ∧ H x = some (.ins (CF K) dx []) ∧ (H a = some (.lst (xs.map V.int)) ∨ H a = some (.tup (xs.map V.int))) ∧
  ∀ H', (∀ b o, b ≠ x → H b = some o → H' b = some o) → FormAt K H' x xs → Q .non H'
theorem ok_Form_init (T : Tx K mg) : FnR P w K mg base (L2.CX P w) 1 (a_Form_init K) (sp_Form_init K) := by
  refine fnr T.d_Form_init sc_Form_init (fun _ _ _ _ _ _ us hl => match us, hl with | [_, _], _ => rfl) (fun vs H Q E h => ?_) (fun cdv A outer s H vs Q E hr h => ?_)
  · obtain ⟨x, dx, a, xs, rfl, _⟩ := h
    rfl
  · obtain ⟨x, dx, a, xs, rfl, hx, ha, k⟩ := h
    refine ⟨_, pss_one (ps_fld (pv 0) (pe_callTy (Rd.c_tuple (K := K)) (by rfl) T.f_tuple Rd.bt_tuple (pa_cons (pv 1) pa_nil)) rfl), ?_⟩
    show tCB (Rd.rTupOf K) (tCons (tVar 1) tNil) _ _ _
    walk_at "go"
    rcases ha with ha | ha
    · refine Rd.tupL (SqL.of ha) fun q hq => ?_
      have nx : x ≠ q := ne_of_none hx hq
      refine ⟨_, rfl, x, CF K, dx, [], rfl, by rw [upd_ne nx]; exact hx, T.c_Form, T.n_Form_parts, by decide, ?_⟩
      refine k _ (fun b o ne e => ?_) ⟨dx, q, upd_same, ?_⟩
      · rw [upd_ne ne, upd_ne (ne_of_none e hq)]; exact e
      · rw [upd_ne nx.symm, upd_same]
    · refine Rd.tupT (SqT.of ha) ?_
      have nx : x ≠ a := ne_of hx ha (by intro z; cases z)
      refine ⟨_, rfl, x, CF K, dx, [], rfl, hx, T.c_Form, T.n_Form_parts, by decide, ?_⟩
      refine k _ (fun b o ne e => ?_) ⟨dx, a, upd_same, ?_⟩
      · rw [upd_ne ne]; exact e
      · rw [upd_ne nx.symm]; exact ha
/-- Form(e) -/
theorem mk_form {H : Hp} {a : Addr} {xs : List Int} {Q : VK} {E : XK} (ha : H a = some (.lst (xs.map V.int)) ∨ H a = some (.tup (xs.map V.int))) (k : ∀ x H', Ext H H' → H x = none → FormAt K H' x xs → Q (.ref x) H') :
    Rd.MkR (CF K) (sp_Form_init K) E [.ref a] H Q := by
  intro x dx hx hd ne
  refine ⟨x, dx, a, xs, rfl, upd_same, ?_, fun H' kp F => ⟨rfl, k x H' (fun b o e => kp b o (ne_of_none e hx) ?_) hx F⟩⟩
  · rcases ha with ha | ha
    · exact .inl (by rw [upd_ne (ne_of_none ha hx), upd_ne (ne_of_none ha hd)]; exact ha)
    · exact .inr (by rw [upd_ne (ne_of_none ha hx), upd_ne (ne_of_none ha hd)]; exact ha)
  · rw [upd_ne (ne_of_none e hx), upd_ne (ne_of_none e hd)]; exact e
def sp_Form_len (K : PySem.W.Frag) : Sp := fun vs H Q _ => ∃ (a : Addr) (xs : List Int), vs = [.ref a] ∧ FormAt K H a xs ∧ Q (.int xs.length) H
theorem ok_Form_len (T : Tx K mg) : FnR P w K mg base (L2.CX P w) 1 (a_Form_len K) (sp_Form_len K) := by
  refine fnr T.d_Form_len sc_Form_len (fun _ _ _ _ _ _ us hl => match us, hl with | [_], _ => rfl) (fun vs H Q E h => ?_) (fun cdv A outer s H vs Q E hr h => ?_)
  · obtain ⟨a, xs, rfl, _⟩ := h
    rfl
  · obtain ⟨a, xs, rfl, F, k⟩ := h
    refine ⟨_, pss_one (ps_ret (pe_callB (Rd.c_len (K := K)) (by rfl) T.f_len boot_len (pa_cons (pe_fld (pv 0) rfl) pa_nil))), ?_⟩
    walk_at "go"
    refine fld_parts T F rfl fun q hq => ?_
    walk_at "go"
    rw [List.length_map]
    exact k
def sp_Form_bool (K : PySem.W.Frag) : Sp := fun vs H Q _ => ∃ (a : Addr) (xs : List Int), vs = [.ref a] ∧ FormAt K H a xs ∧ xs.length ≤ 1000 ∧ ∀ H', Ext H H' → Q (.bl (xs.any fun z => z != 0)) H'
theorem ok_Form_bool (T : Tx K mg) : FnR P w K mg base (L2.CX P w) 1 (a_Form_bool K) (sp_Form_bool K) := by
  refine fnr T.d_Form_bool sc_Form_bool (fun _ _ _ _ _ _ us hl => match us, hl with | [_], _ => rfl) (fun vs H Q E h => ?_) (fun cdv A outer s H vs Q E hr h => ?_)
  · obtain ⟨a, xs, rfl, _⟩ := h
    rfl
  · obtain ⟨a, xs, rfl, F, hl, k⟩ := h
    refine ⟨_, pss_one (ps_ret (pe_callB (cr_any rfl) (by rfl) T.f_any Rd.bt_any (pa_cons
      (pe_lc (own := [("part", 1)]) rfl sc_Form_bool.nd (pi_tup (pe_fld (pv 0) rfl)) (blkOk_by (own := [("part", 1)]) (N := N_Form_bool) (sc := defScope s_Form_bool) (by decide +kernel)) (fun _ _ _ _ _ => pg_name (i := 1) sc_Form_bool.nd rfl (Or.inl rfl)) (fun _ _ _ _ _ => pts_nil)
        (fun _ _ _ _ _ => pe_cmpR op_ne (pv 1) pe_int (nomark _))) pa_nil))), ?_⟩
    walk_at "go"
    refine fld_parts T F rfl fun q hq => ?_
    refine ⟨q, rfl, ⟨_, SqT.of hq⟩, fun D hD => ?_⟩
    refine Rd.lcE (emb := V.int) (Rd.walk_tupM (K := K) (a := q)) Rd.yat (by omega) (fun _ => true) (fun z y _ => y = .bl (!decide (V.int z = .int 0))) (fun _ _ _ _ _ h => h) hD (fun H' e => SqT.of (e _ _ hq)) ?_ ?_
    · intro i it H' acc hi e ha Qy Qn ky kn
      walk_at "go"
      refine ⟨rfl, ?_⟩
      walk_at "go"
      exact ky _ _ Rd.ext_rfl rfl rfl
    · intro ys H' e hys pr
      have e2 := Rd.paired_map pr
      rw [List.filter_eq_self.mpr (fun _ _ => rfl)] at e2
      refine ⟨D, xs.map fun z => !decide (V.int z = .int 0), rfl, SqL.of (by rw [hys, e2, List.map_map]; rfl), ?_⟩
      rw [List.any_map]
      have e3 : (xs.any fun z => z != 0) = xs.any (id ∘ fun z => !decide (V.int z = .int 0)) := by
        congr 1; funext z; simp [dec_int]; rfl
      rw [← e3]
      exact k H' e
def sp_Form_getitem (K : PySem.W.Frag) : Sp := fun vs H Q E => ∃ (a : Addr) (xs : List Int) (i : Int), vs = [.ref a, .int i] ∧ FormAt K H a xs ∧
  (∀ (n : Nat) (z : Int), i = n → xs[n]? = some z → Q (.int z) H) ∧ ((i < 0 ∨ (xs.length : Int) ≤ i) → ∀ d, H d = none → E (.ref (He.ga K "NoIndex")) (some d) (upd H d (.xd [("index", .int i)])))
theorem ok_Form_getitem (T : Tx K mg) : FnR P w K mg base (L2.CX P w) 3 (a_Form_getitem K) (sp_Form_getitem K) := by
  obtain ⟨fdN, FN, bN⟩ := ok_NoIndex (P := P) (w := w) (base := base) T
  refine fnr T.d_Form_getitem sc_Form_getitem (fun _ _ _ _ _ _ us hl => match us, hl with | [_, _], _ => rfl) (fun vs H Q E h => ?_) (fun cdv A outer s H vs Q E hr h => ?_)
  · obtain ⟨a, xs, i, rfl, _⟩ := h
    rfl
  · obtain ⟨a, xs, i, rfl, F, k1, k2⟩ := h
    refine ⟨_, pss_cons (ps_if (pt_not (pt_chain op_le op_lt pe_int (pv 1) (pe_callB (Rd.c_len (K := K)) (by rfl) T.f_len boot_len (pa_cons (pe_fld (pv 0) rfl) pa_nil))))
        (pss_one (ps_raise rfl (takes_of rfl rfl rfl rfl) (pmk_oex T.x_NoIndex.ox T.x_NoIndex.it T.x_NoIndex.ti FN hr bN .nil passL rfl T.g_NoIndex (pa_cons (pv 1) pa_nil)))) pss_nil)
      (pss_one (ps_ret (pe_ix ix_tup (pe_fld (pv 0) rfl) (pv 1) (fun _ _ => rfl)))), ?_⟩
    have bad : (i < 0 ∨ (xs.length : Int) ≤ i) → tMkO (He.ga K "NoIndex") (sp_ex (He.ga K "NoIndex") "index") [] (tCons (tVar 1) tNil) (start N_Form_getitem [.ref a, .int i]) H fun cls d H' => E cls d H' := fun c =>
      mk_ex ⟨_, rfl, _, rfl, k2 c⟩ fun R R' m ⟨v, h1, h2⟩ => ⟨v, h1, m _ _ h2⟩
    walk_at "go"
    refine Rd.ited (fun c => ?_) (fun c => ?_)
    · walk_at "go"
      refine fld_parts T F rfl fun q hq => ?_
      walk_at "go"
      rw [List.length_map]
      refine Rd.iten (fun c2 => bad (.inr (by omega))) (fun c2 => ?_)
      walk_at "go"
      refine fld_parts T F rfl fun q hq => ?_
      have hl : i.toNat < xs.length := by omega
      have hat : atI (xs.map V.int) i = some (V.int xs[i.toNat]) := Rd.nat_at (j := i.toNat) (by omega) (by rw [List.getElem?_map, List.getElem?_eq_getElem hl]; rfl)
      walk_at "go"
      exact k1 i.toNat _ (by omega) (List.getElem?_eq_getElem hl)
    · walk_at "go"
      exact bad (.inl (by omega))
def sp_Form_eq (K : PySem.W.Frag) : Sp := fun vs H Q _ => ∃ (a b : Addr) (xs ys : List Int), vs = [.ref a, .ref b] ∧ FormAt K H a xs ∧ FormAt K H b ys ∧ Q (.bl (decide (xs = ys))) H
theorem ok_Form_eq (T : Tx K mg) : FnR P w K mg base (L2.CX P w) 1 (a_Form_eq K) (sp_Form_eq K) := by
  refine fnr T.d_Form_eq sc_Form_eq (fun _ _ _ _ _ _ us hl => match us, hl with | [_, _], _ => rfl) (fun vs H Q E h => ?_) (fun cdv A outer s H vs Q E hr h => ?_)
  · obtain ⟨a, b, xs, ys, rfl, _⟩ := h
    rfl
  · obtain ⟨a, b, xs, ys, rfl, F, G, k⟩ := h
    refine ⟨_, pss_one (ps_ret (pe_and (pe_callB (Rd.c_isi (K := K)) (by rfl) T.f_isinstance Rd.bt_isinstance (pa_cons (pv 1) (pa_cons (pe_glob (v := .ref (CF K)) (by rfl) T.g_Form rfl) pa_nil)))
      (pe_one (pe_cmpR (op_eqD hr.units) (pe_fld (pv 0) rfl) (pe_fld (pv 1) rfl) (nomark _))))), ?_⟩
    walk_at "go"
    obtain ⟨dy, r, h1, h2⟩ := id G
    refine ⟨_, _, _, _, true, rfl, .own _, tyx_ins T.c_Form T.i_Form h1, T.is_Form, ?_⟩
    refine ⟨true, rfl, ?_⟩
    refine Rd.iteb (fun _ => ?_) (fun z => by cases z)
    walk_at "go"
    refine fld_parts T F rfl fun q hq => ?_
    walk_at "go"
    refine fld_parts T G rfl fun q2 hq2 => ?_
    exact Rd.eqD Rd.encTInts (Rd.dp_tints (SqT.of hq)) (Rd.dp_tints (SqT.of hq2)) k
theorem eq_form {H : Hp} {f g : Addr} {xs ys : List Int} {Q : VK} {E : XK} (F : FormAt K H f xs) (G : FormAt K H g ys) (q : Q (.bl (decide (xs = ys))) H) : rOwn2 (CF K) (sp_Form_eq K) E (.ref f) (.ref g) H Q := by
  obtain ⟨dx, q1, h1, _⟩ := id F
  obtain ⟨dy, q2, h2, _⟩ := id G
  exact ⟨f, g, dx, dy, _, _, rfl, rfl, h1, h2, f, g, xs, ys, rfl, F, G, ⟨_, rfl⟩, q⟩
theorem eq_form_t {H : Hp} {f g : Addr} {xs : List Int} {Q : VK} {E : XK} (F : FormAt K H f xs) (G : FormAt K H g xs) (q : Q (.bl true) H) : rOwn2 (CF K) (sp_Form_eq K) E (.ref f) (.ref g) H Q := eq_form F G (by rw [decide_eq_true rfl]; exact q)
theorem eq_form_f {H : Hp} {f g : Addr} {xs ys : List Int} {Q : VK} {E : XK} (F : FormAt K H f xs) (G : FormAt K H g ys) (ne : xs ≠ ys) (q : Q (.bl false) H) : rOwn2 (CF K) (sp_Form_eq K) E (.ref f) (.ref g) H Q := eq_form F G (by rw [decide_eq_false ne]; exact q)
end
end Lv

set_option Elab.async false
set_option linter.all false
set_option maxRecDepth 100000
set_option maxHeartbeats 0
/-! Forms added, subtracted, their value. -/
namespace Rd
open PySem PySem.Spec PyProof.Rows L2 OwX
section
variable {K : PySem.W.Frag} {a b : Addr} {xs ys : List V}
theorem walk_zipT {n : Nat} (hn : n = min xs.length ys.length) : Walk (RZ.ItzT K a b) n (fun H => SqT K H a xs ∧ SqT K H b ys) (YPair (fun i => xs[i]?) (fun i => ys[i]?)) := by
  subst hn
  refine ⟨fun i _ hi q => ?_, fun _ q => ⟨xs, ys, q.1, q.2, by omega⟩, fun i H v H' _ q y => ?_⟩
  · have h1 : i < xs.length := by omega
    have h2 : i < ys.length := by omega
    exact ⟨xs, ys, xs[i], ys[i], q.1, q.2, by simp [h1], by simp [h2]⟩
  · obtain ⟨T, x, z, h1, h2, h3, h4, h5⟩ := y
    exact ⟨T, x, z, h1, h2, h3, h4 xs q.1, h5 ys q.2⟩
/-- a, b = the pair that zip or enumerate made -/
theorem unP {σ : L2.St} {H : Hp} {n m : Nat} {T : Addr} {x y : V} {R : L2.St → Hp → Prop} (k : R ((σ.set n (some x)).set m (some y)) (upd H T (.tup [x, y]))) : gTup K 2 (gCons (gName n) (gCons (gName m) gNil)) (.ref T) σ (upd H T (.tup [x, y])) R :=
  ⟨T, _, rfl, SqT.of upd_same, rfl, _, _, rfl, _, _, rfl, rfl, k⟩
theorem lcZT {g : TG} {tt : TT} {te : TE} {ta : TA} {vs : List Nat} {σ : L2.St} {H : Hp} {Q : VK} (k : ta σ H fun vs' H1 => ∃ a b xs ys, vs' = [.ref a, .ref b] ∧ SqT K H1 a xs ∧ SqT K H1 b ys ∧ LcB (RZ.ItzT K a b) g tt te vs σ H1 Q) (mono : ∀ R R' : List V → Hp → Prop, (∀ v H, R v H → R' v H) → ta σ H R → ta σ H R') : tLc (RZ.iZipA K ta) g tt te vs σ H Q :=
  mono _ _ (fun vs' H1 ⟨a, b, xs, ys, e, h1, h2, h3⟩ => ⟨a, b, xs, ys, e, .inr ⟨h1, h2, h3⟩⟩) k
theorem forZT {g : TG} {tb : TS} {D : Ends} {ta : TA} {σ : L2.St} {H : Hp} (k : ta σ H fun vs' H1 => ∃ a b xs ys, vs' = [.ref a, .ref b] ∧ SqT K H1 a xs ∧ SqT K H1 b ys ∧ ForB (RZ.ItzT K a b) g tb D σ H1) (mono : ∀ R R' : List V → Hp → Prop, (∀ v H, R v H → R' v H) → ta σ H R → ta σ H R') : tFor (RZ.iZipA K ta) g tb D σ H :=
  mono _ _ (fun vs' H1 ⟨a, b, xs, ys, e, h1, h2, h3⟩ => ⟨a, b, xs, ys, e, .inr ⟨h1, h2, h3⟩⟩) k
end
theorem paired_out {α : Type} {f : α → V} : ∀ {xs : List α} {ys : List V}, Paired (fun a y => y = f a) xs ys → ys = xs.map f := fun h => paired_map h
end Rd
namespace Lv
open PySem PySem.Spec PyProof.Rows L2 OwX
local macro_rules | `(tactic| walk_at "side") => `(tactic| first
  | exact (show CMul _ _ from .inl ⟨by decide, by decide⟩) | exact (show CMul _ _ from .inr ⟨by decide, by decide⟩) | exact (show CMul _ _ from .inl ⟨by omega, by omega⟩) | exact (show CMul _ _ from .inr ⟨by omega, by omega⟩)
  | exact (show CPow _ _ from ⟨by decide, by decide, by decide⟩)
  | exact (show CDiv _ _ from ⟨by decide, by decide⟩) | exact (show CDiv _ _ from ⟨by omega, by omega⟩)
  | exact (show (0 : Int) < _ by decide) | exact (show (0 : Int) < _ by omega) | exact (show ¬ (_ : Int) = 0 by decide) | exact (show ¬ (_ : Int) = 0 by omega) | assumption)
local macro_rules | `(tactic| walk_at "hp") => `(tactic| first
  | assumption | exact upd_same
  | (refine' SqL.of ?h1; (case h1 => walk_at "hp")) | (refine' SqT.of ?h1; (case h1 => walk_at "hp"))
  | (refine' Rd.new_app ?h1 ?h2; (case h1 => assumption); (case h2 => walk_at "hp"))
  | (refine' Rd.upd_app ?h1 ?h2; (case h1 => first | assumption | exact Ne.symm (by assumption)); (case h2 => walk_at "hp"))
  | (refine' Rd.ext_app ?h1 ?h2; (case h1 => assumption); (case h2 => walk_at "hp"))
  | (refine' Rd.ext_L ?h1 ?h2; (case h1 => assumption); (case h2 => walk_at "hp"))
  | (refine' Rd.ext_T ?h1 ?h2; (case h1 => assumption); (case h2 => walk_at "hp")))
local macro_rules | `(tactic| walk_at "go") => `(tactic| repeat (first
  | with_reducible refine Rd.con ?_
  | ((with_reducible refine' Rd.var ?h1 ?_); (case h1 => rfl))
  | with_reducible refine Rd.op ?_
  | with_reducible refine Rd.un ?_
  | with_reducible refine Rd.i0 ?_
  | with_reducible refine Rd.iu ?_
  | ((with_reducible refine Rd.iC ?h1 ?_); (case h1 => walk_at "side"))
  | with_reducible refine Rd.nil ?_
  | with_reducible refine Rd.cons ?_
  | with_reducible refine Rd.cb ?_
  | with_reducible refine Rd.int1 ?_
  | with_reducible refine Rd.intB ?_
  | with_reducible refine Rd.maxI ?_
  | with_reducible refine Rd.minI ?_
  | with_reducible refine Rd.blx ?_
  | with_reducible refine Rd.tst ?_
  | with_reducible refine Rd.tb_ ?_
  | with_reducible refine Rd.not_ ?_
  | with_reducible refine Rd.and_ ?_
  | with_reducible refine Rd.or_ ?_
  | with_reducible refine Rd.ifx ?_
  | with_reducible refine Rd.chain ?_
  | with_reducible refine Rd.andV ?_
  | with_reducible refine Rd.orV ?_
  | with_reducible refine Rd.notV ?_
  | with_reducible refine Rd.seq ?_
  | with_reducible refine Rd.asg ?_
  | with_reducible refine Rd.name ?_
  | with_reducible refine Rd.ret ?_
  | with_reducible refine Rd.ifS ?_
  | with_reducible refine Rd.next ?_
  | with_reducible refine Rd.drop ?_
  | with_reducible refine Rd.gsub ?_
  | with_reducible refine Rd.cr ?_
  | with_reducible refine Rd.crX ?_
  | with_reducible refine Rd.ixOS ?_
  | ((with_reducible refine' Rd.xfv ?h1 ?h2 ?h3 ?_); (case h1 => walk_at "hp"); (case h2 => rfl); (case h3 => rfl))
  | ((with_reducible refine' Rd.bmLv ?h1 ?h2 ?_); (case h1 => rfl); (case h2 => walk_at "hp"))
  | ((with_reducible refine' Rd.countL ?h1 ?_); (case h1 => walk_at "hp"))
  | ((with_reducible refine' Rd.sumL ?h1 ?_); (case h1 => walk_at "hp"))
  | ((with_reducible refine' Rd.listL ?h1 ?_); (case h1 => walk_at "hp"))
  | ((with_reducible refine' Rd.listT ?h1 ?_); (case h1 => walk_at "hp"))
  | with_reducible refine Rd.isNn ?_
  | with_reducible refine Rd.isNr ?_
  | with_reducible refine Rd.notNn ?_
  | with_reducible refine Rd.notNr ?_
  | with_reducible refine Rd.isB ?_
  | with_reducible refine Rd.notBtt ?_
  | with_reducible refine Rd.notBff ?_
  | with_reducible refine Rd.notBtf ?_
  | with_reducible refine Rd.notBft ?_
  | with_reducible refine Rd.notB ?_
  | with_reducible refine Rd.smeth ?_
  | with_reducible refine Rd.sl ?_
  | with_reducible refine Rd.po0 ?_
  | with_reducible refine Rd.poI ?_
  | with_reducible refine Rd.ixi ?_
  | with_reducible refine Rd.par ?_
  | with_reducible refine Rd.par2 ?_
  | with_reducible refine Rd.mkRS ?_
  | with_reducible refine Rd.callRS ?_
  | with_reducible refine Rd.mk ?_
  | with_reducible refine Rd.mkX ?_
  | with_reducible refine Rd.sF ?_
  | with_reducible refine Rd.dIn ?_
  | with_reducible refine Rd.dNi ?_
  | with_reducible refine Rd.dctL ?_
  | with_reducible refine Rd.dctT ?_
  | with_reducible refine Rd.forE ?_
  | with_reducible refine Rd.lc2T ?_
  | with_reducible refine Rd.lc2L ?_
  | with_reducible refine Rd.lc2R ?_
  | with_reducible refine Rd.inR2 ?_
  | with_reducible refine Rd.inR1 ?_
  | with_reducible refine Rd.inT ?_
  | with_reducible refine Rd.inL ?_
  | with_reducible refine Rd.lcT ?_
  | with_reducible refine Rd.lcL ?_
  | with_reducible refine Rd.lcR ?_
  | with_reducible refine Rd.forT ?_
  | with_reducible refine Rd.forL ?_
  | with_reducible refine Rd.forR ?_
  | with_reducible refine Rd.yes ?_
  | with_reducible refine iteT ?_
  | with_reducible refine iteF ?_
  | with_reducible refine Rd.iteNT ?_
  | with_reducible refine Rd.iteNF ?_
  | with_reducible refine Rd.tup ?_
  | with_reducible refine Rd.lst ?_
  | ((with_reducible refine Rd.eqs ?h1 ?_); (case h1 => rfl))
  | ((with_reducible refine Rd.nes ?h1 ?_); (case h1 => rfl))
  | ((with_reducible refine' Rd.ixL ?h1 ?h2 ?_); (case h1 => walk_at "hp"); (case h2 => first | rfl | assumption))
  | ((with_reducible refine' Rd.ixT ?h1 ?h2 ?_); (case h1 => walk_at "hp"); (case h2 => first | rfl | assumption))
  | ((with_reducible refine' Rd.lenL ?h1 ?_); (case h1 => walk_at "hp"))
  | ((with_reducible refine' Rd.lenT ?h1 ?_); (case h1 => walk_at "hp"))
  | ((with_reducible refine' Rd.setL ?h1 ?h2 ?_); (case h1 => walk_at "hp"); (case h2 => first | rfl | assumption))))
section
variable {base : Heap} {P : Program} {w : World} {mg : Str → Option Value} {K : PySem.W.Frag}
theorem ok_BadLength (T : Tx K mg) : ∃ fd, FnOk P w K mg base (L2.CX P w) 1 (a_BadLength_init K) fd P_BadLength_init (sp_ex (He.ga K "BadLength") "count") ∧ Binds K fd P_BadLength_init [] := by
  refine fnok T.d_BadLength_init sc_BadLength_init (fun _ _ _ _ _ _ us hl => match us, hl with | [_, _], _ => rfl) (fun vs H Q E h => ?_) (fun cdv A outer s H vs Q E hr h => ?_)
  · obtain ⟨a, v, rfl, _⟩ := h
    rfl
  · obtain ⟨a, v, rfl, ha, k⟩ := h
    refine ⟨_, pss_one (ps_ost (pv 0) (pv 1)), ?_⟩
    exact ⟨_, rfl, _, rfl, a, _, rfl, T.x_BadLength.ox, T.n_BadLength_count, .inl ⟨ha, fun dx hd ne => k dx hd ne⟩⟩
theorem zip_int {f : Int → Int → Int} : ∀ {xs ys : List Int}, (xs.zip ys).map (fun q : Int × Int => V.int (f q.1 q.2)) = (List.zipWith f xs ys).map V.int
  | [], _ => rfl
  | _ :: _, [] => rfl
  | x :: xs, y :: ys => by
    rw [List.zip_cons_cons, List.map_cons, zip_int, List.zipWith_cons_cons, List.map_cons]
/-- two rows of ints walked together, an int made of each pair -/
theorem lcZ {J : It} {G : Hp → Prop} {H1 : Hp} {D : Addr} {xs ys : List Int} {g : TG} {tt : TT} {te : TE} {vs : List Nat} {σ : L2.St} {Z : Hp → Prop} (wk : Walk J (xs.zip ys).length G (YPair (fun i => (xs.map V.int)[i]?) (fun i => (ys.map V.int)[i]?))) (hG : ∀ H, Ext H1 H → G H) (f : Int → Int → Int) (hn : xs.length < 100000) (hD : H1 D = none)
    (hs : ∀ x y T H, x ∈ xs → y ∈ ys → Ext H1 H → H T = none → ∀ (Qy : VK) (Qn : Hp → Prop), (∀ H', Ext (upd H T (.tup [.int x, .int y])) H' → Qy (.int (f x y)) H') →
      g (.ref T) (wipe σ vs) (upd H T (.tup [.int x, .int y])) fun σ2 H2 => wipe σ2 vs = wipe σ vs ∧ tt σ2 H2 fun b H3 => if b = true then te σ2 H3 Qy else Qn H3)
    (hd : ∀ H, Ext H1 H → H D = some (.lst ((List.zipWith f xs ys).map V.int)) → Z H) :
    ∃ W : Nat → Nat → Hp → Prop, (∃ m, W 0 m (upd H1 D (.lst []))) ∧ ∀ i m H, W i m H →
      (J.stop i H ∧ Z H) ∨ (J.go i H ∧ ∃ Nx : Hp → Prop, (∀ H', Nx H' → ∃ m', m' < m ∧ W (i + 1) m' H') ∧ ∀ x H', J.yld i H x H' → g x (wipe σ vs) H' fun σ2 H2 => wipe σ2 vs = wipe σ vs ∧ tt σ2 H2 fun b H3 =>
        if b = true then te σ2 H3 fun y H4 => ∃ acc, H4 D = some (.lst acc) ∧ acc.length < sizeLine ∧ Nx (upd H4 D (.lst (acc ++ [y]))) else Nx H3) := by
  refine Rd.lcG (α := Int × Int) (items := xs.zip ys) wk (Yi := fun q H x H' => ∃ T, x = .ref T ∧ H T = none ∧ H' = upd H T (.tup [.int q.1, .int q.2])) (fun i H x H' y => ?_) (by rw [List.length_zip]; omega) [] (fun _ => True) (fun _ => true) (fun q y _ => y = .int (f q.1 q.2)) (fun _ _ _ _ _ h => h) hD (by simp) (fun _ _ _ => trivial) trivial (fun H e _ => ?_) ?_ ?_
  · obtain ⟨T, x', y', h1, h2, h3, h4, h5⟩ := y
    have h4 : (xs.map V.int)[i]? = some x' := h4
    have h5 : (ys.map V.int)[i]? = some y' := h5
    rw [List.getElem?_map] at h4 h5
    cases e1 : xs[i]? with
    | none => rw [e1] at h4; cases h4
    | some x0 => cases e2 : ys[i]? with
      | none => rw [e2] at h5; cases h5
      | some y0 =>
        rw [e1] at h4; rw [e2] at h5
        cases h4; cases h5
        exact ⟨(x0, y0), List.getElem?_zip_eq_some.mpr ⟨e1, e2⟩, T, h1, h2, h3⟩
  · rw [Rd.hid_nil, Rd.hid_nil] at e
    exact hG H e
  · rintro i ⟨x, y⟩ v H H' acc hit e _ hacc ⟨T, rfl, hT, rfl⟩ Qy Qn ky kn
    rw [Rd.hid_nil, Rd.hid_nil] at e
    rw [List.getElem?_zip_eq_some] at hit
    refine hs x y T H (List.mem_of_getElem? hit.1) (List.mem_of_getElem? hit.2) e hT Qy Qn fun H' e' => ky _ H' ?_ trivial rfl rfl
    rw [Rd.hid_nil, Rd.hid_nil]
    exact (Ext.upd hT).trans e'
  · intro zs H e _ hzs pr
    rw [Rd.hid_nil, Rd.hid_nil] at e
    rw [List.filter_eq_self.mpr (fun _ _ => rfl)] at pr
    have q := Rd.paired_map (f := fun q : Int × Int => V.int (f q.1 q.2)) pr
    refine hd H e ?_
    rw [hzs, q]
    rw [zip_int]
theorem zip_len {xs ys : List Int} : (xs.zip ys).length = min (xs.map V.int).length (ys.map V.int).length := by rw [List.length_zip, List.length_map, List.length_map]
/-- two tuples of ints -/
theorem lcZip {H1 : Hp} {a b D : Addr} {xs ys : List Int} {g : TG} {tt : TT} {te : TE} {vs : List Nat} {σ : L2.St} {Z : Hp → Prop} (f : Int → Int → Int) (ha : H1 a = some (.tup (xs.map V.int))) (hb : H1 b = some (.tup (ys.map V.int))) (hl : xs.length = ys.length) (hn : xs.length < 100000) (hD : H1 D = none)
    (hs : ∀ x y T H, x ∈ xs → y ∈ ys → Ext H1 H → H T = none → ∀ (Qy : VK) (Qn : Hp → Prop), (∀ H', Ext (upd H T (.tup [.int x, .int y])) H' → Qy (.int (f x y)) H') →
      g (.ref T) (wipe σ vs) (upd H T (.tup [.int x, .int y])) fun σ2 H2 => wipe σ2 vs = wipe σ vs ∧ tt σ2 H2 fun b H3 => if b = true then te σ2 H3 Qy else Qn H3)
    (hd : ∀ H, Ext H1 H → H D = some (.lst ((List.zipWith f xs ys).map V.int)) → Z H) :
    ∃ W : Nat → Nat → Hp → Prop, (∃ m, W 0 m (upd H1 D (.lst []))) ∧ ∀ i m H, W i m H →
      ((RZ.ItzT K a b).stop i H ∧ Z H) ∨ ((RZ.ItzT K a b).go i H ∧ ∃ Nx : Hp → Prop, (∀ H', Nx H' → ∃ m', m' < m ∧ W (i + 1) m' H') ∧ ∀ x H', (RZ.ItzT K a b).yld i H x H' → g x (wipe σ vs) H' fun σ2 H2 => wipe σ2 vs = wipe σ vs ∧ tt σ2 H2 fun b H3 =>
        if b = true then te σ2 H3 fun y H4 => ∃ acc, H4 D = some (.lst acc) ∧ acc.length < sizeLine ∧ Nx (upd H4 D (.lst (acc ++ [y]))) else Nx H3) :=
  lcZ (Rd.walk_zipT (K := K) (a := a) (b := b) zip_len) (fun H e => ⟨SqT.of (e _ _ ha), SqT.of (e _ _ hb)⟩) f hn hD hs hd
/-- a tuple and a list of ints -/
theorem lcZipM {H1 : Hp} {a b D : Addr} {xs ys : List Int} {g : TG} {tt : TT} {te : TE} {vs : List Nat} {σ : L2.St} {Z : Hp → Prop} (f : Int → Int → Int) (ha : H1 a = some (.tup (xs.map V.int))) (hb : H1 b = some (.lst (ys.map V.int))) (hl : xs.length = ys.length) (hn : xs.length < 100000) (hD : H1 D = none)
    (hs : ∀ x y T H, x ∈ xs → y ∈ ys → Ext H1 H → H T = none → ∀ (Qy : VK) (Qn : Hp → Prop), (∀ H', Ext (upd H T (.tup [.int x, .int y])) H' → Qy (.int (f x y)) H') →
      g (.ref T) (wipe σ vs) (upd H T (.tup [.int x, .int y])) fun σ2 H2 => wipe σ2 vs = wipe σ vs ∧ tt σ2 H2 fun b H3 => if b = true then te σ2 H3 Qy else Qn H3)
    (hd : ∀ H, Ext H1 H → H D = some (.lst ((List.zipWith f xs ys).map V.int)) → Z H) :
    ∃ W : Nat → Nat → Hp → Prop, (∃ m, W 0 m (upd H1 D (.lst []))) ∧ ∀ i m H, W i m H →
      ((ZM.ItM K a b).stop i H ∧ Z H) ∨ ((ZM.ItM K a b).go i H ∧ ∃ Nx : Hp → Prop, (∀ H', Nx H' → ∃ m', m' < m ∧ W (i + 1) m' H') ∧ ∀ x H', (ZM.ItM K a b).yld i H x H' → g x (wipe σ vs) H' fun σ2 H2 => wipe σ2 vs = wipe σ vs ∧ tt σ2 H2 fun b H3 =>
        if b = true then te σ2 H3 fun y H4 => ∃ acc, H4 D = some (.lst acc) ∧ acc.length < sizeLine ∧ Nx (upd H4 D (.lst (acc ++ [y]))) else Nx H3) :=
  lcZ (Rd.walk_zipM (K := K) (a := a) (b := b) zip_len) (fun H e => ⟨SqT.of (e _ _ ha), SqL.of (e _ _ hb)⟩) f hn hD hs hd
def sp_Form_add (K : PySem.W.Frag) : Sp := fun vs H Q E => ∃ (a b : Addr) (xs ys : List Int), vs = [.ref a, .ref b] ∧ FormAt K H a xs ∧ FormAt K H b ys ∧ xs.length ≤ 1000 ∧
  (xs.length = ys.length → ∀ x H', Ext H H' → H x = none → FormAt K H' x (List.zipWith (fun p q => p + q) xs ys) → Q (.ref x) H') ∧ (xs.length ≠ ys.length → ∀ d H', Ext H H' → H' d = some (.xd [("count", .int ys.length)]) → E (.ref (He.ga K "BadLength")) (some d) H')
theorem ok_Form_add (T : Tx K mg) : FnR P w K mg base (L2.CX P w) 5 (a_Form_add K) (sp_Form_add K) := by
  obtain ⟨fdN_BadLength, FN_BadLength, bN_BadLength⟩ := ok_BadLength (P := P) (w := w) (base := base) T
  refine fnr T.d_Form_add sc_Form_add (fun _ _ _ _ _ _ us hl => match us, hl with | [_, _], _ => rfl) (fun vs H Q E h => ?_) (fun cdv A outer s H vs Q E hr h => ?_)
  · obtain ⟨a, b, xs, ys, rfl, _⟩ := h
    rfl
  · obtain ⟨a, b, xs, ys, rfl, F, G, hn, k1, k2⟩ := h
    refine ⟨_, (pss_cons (ps_if (pt_cmpR op_ne (pe_callB (Rd.c_len (K := K)) (by rfl) T.f_len Rd.bt_len (pa_cons (GW.fld (K := K) (pv 0)) pa_nil)) (pe_callB (Rd.c_len (K := K)) (by rfl) T.f_len Rd.bt_len (pa_cons (GW.fld (K := K) (pv 1)) pa_nil)) (nomark _)) (pss_one (ps_raise rfl (takes_of rfl rfl rfl rfl) (pmk_oex T.x_BadLength.ox T.x_BadLength.it T.x_BadLength.ti FN_BadLength (hr.mono (by decide)) bN_BadLength .nil passL (by rfl) T.g_BadLength (pa_cons (pe_callB (Rd.c_len (K := K)) (by rfl) T.f_len Rd.bt_len (pa_cons (GW.fld (K := K) (pv 1)) pa_nil)) pa_nil)))) pss_nil) (pss_one (ps_ret (pe_mk T.k_Form (ok_Form_init T) (hr.mono (by decide)) (by rfl) T.g_Form (pa_cons (pe_lc (own := [("one", 2), ("two", 3)]) rfl sc_Form_add.nd (GW.zipA (K := K) (by rfl) T.f_zip (pa_cons (GW.fld (K := K) (pv 0)) (pa_cons (GW.fld (K := K) (pv 1)) pa_nil))) (blkOk_by (own := [("one", 2), ("two", 3)]) (N := N_Form_add) (sc := defScope s_Form_add) (by decide +kernel)) (fun _ _ _ _ _ => (GW.tup (K := K) (n := 2) rfl (pgs_cons (gx 2 sc_Form_add.nd) (pgs_cons (gx 3 sc_Form_add.nd) pgs_nil)))) (fun _ _ _ _ _ => pts_nil) (fun _ _ _ _ _ => (pe_op op_add (pv 2) (pv 3)))) pa_nil))))), ?_⟩
    walk_at "go"
    refine fld_parts T F rfl fun q hq => ?_
    walk_at "go"
    refine fld_parts T G rfl fun r hr2 => ?_
    walk_at "go"
    rw [List.length_map, List.length_map]
    refine Rd.iten (fun c => ?_) (fun c => ?_)
    · refine mk_ex ?_ (fun R R' m h => ?_)
      · walk_at "go"
        refine fld_parts T G rfl fun r3 hr3 => ?_
        walk_at "go"
        refine ⟨_, rfl, fun d hd => ?_⟩
        rw [List.length_map]
        exact k2 (fun e => c (by rw [e])) d _ (Ext.upd hd) upd_same
      · obtain ⟨vv, h1, aa, C, dx, fs, vq, h2, h3, h4, h5, h6, pp, zz, h7, h8, h9⟩ := h
        exact ⟨vv, h1, aa, C, dx, fs, vq, h2, h3, h4, h5, h6, pp, zz, h7, h8, m _ _ h9⟩
    · have c : xs.length = ys.length := by have := V.int.inj c; omega
      walk_at "go"
      refine Rd.lcZT ?_ (fun R R' m h => ?_)
      · walk_at "go"
        refine fld_parts T F rfl fun q hq => ?_
        walk_at "go"
        refine fld_parts T G rfl fun r hr2 => ?_
        walk_at "go"
        refine ⟨q, r, _, _, rfl, SqT.of hq, SqT.of hr2, fun D hD => ?_⟩
        refine lcZip (fun p q => p + q) hq hr2 c (by omega) hD (fun x y t H' _ _ e ht Qy Qn ky => ?_) (fun H' e hys => ?_)
        · refine Rd.unP ?_
          refine ⟨rfl, ?_⟩
          walk_at "go"
          exact ky _ Rd.ext_rfl
        · walk_at "go"
          exact mk_form (.inl hys) fun x H2 e2 hx F2 => k1 c x H2 (e.trans e2) (Rd.ext_free e hx) F2
      · obtain ⟨vv, h1, aa, C, dx, fs, vq, h2, h3, h4, h5, h6, v2, g1, a2, C2, dx2, fs2, vq2, g2, g3, g4, g5, g6, g7⟩ := h
        exact ⟨vv, h1, aa, C, dx, fs, vq, h2, h3, h4, h5, h6, v2, g1, a2, C2, dx2, fs2, vq2, g2, g3, g4, g5, g6, m _ _ g7⟩
def sp_Form_sub (K : PySem.W.Frag) : Sp := fun vs H Q E => ∃ (a b : Addr) (xs ys : List Int), vs = [.ref a, .ref b] ∧ FormAt K H a xs ∧ FormAt K H b ys ∧ xs.length ≤ 1000 ∧
  (xs.length = ys.length → ∀ x H', Ext H H' → H x = none → FormAt K H' x (List.zipWith (fun p q => p - q) xs ys) → Q (.ref x) H') ∧ (xs.length ≠ ys.length → ∀ d H', Ext H H' → H' d = some (.xd [("count", .int ys.length)]) → E (.ref (He.ga K "BadLength")) (some d) H')
theorem ok_Form_sub (T : Tx K mg) : FnR P w K mg base (L2.CX P w) 5 (a_Form_sub K) (sp_Form_sub K) := by
  obtain ⟨fdN_BadLength, FN_BadLength, bN_BadLength⟩ := ok_BadLength (P := P) (w := w) (base := base) T
  refine fnr T.d_Form_sub sc_Form_sub (fun _ _ _ _ _ _ us hl => match us, hl with | [_, _], _ => rfl) (fun vs H Q E h => ?_) (fun cdv A outer s H vs Q E hr h => ?_)
  · obtain ⟨a, b, xs, ys, rfl, _⟩ := h
    rfl
  · obtain ⟨a, b, xs, ys, rfl, F, G, hn, k1, k2⟩ := h
    refine ⟨_, (pss_cons (ps_if (pt_cmpR op_ne (pe_callB (Rd.c_len (K := K)) (by rfl) T.f_len Rd.bt_len (pa_cons (GW.fld (K := K) (pv 0)) pa_nil)) (pe_callB (Rd.c_len (K := K)) (by rfl) T.f_len Rd.bt_len (pa_cons (GW.fld (K := K) (pv 1)) pa_nil)) (nomark _)) (pss_one (ps_raise rfl (takes_of rfl rfl rfl rfl) (pmk_oex T.x_BadLength.ox T.x_BadLength.it T.x_BadLength.ti FN_BadLength (hr.mono (by decide)) bN_BadLength .nil passL (by rfl) T.g_BadLength (pa_cons (pe_callB (Rd.c_len (K := K)) (by rfl) T.f_len Rd.bt_len (pa_cons (GW.fld (K := K) (pv 1)) pa_nil)) pa_nil)))) pss_nil) (pss_one (ps_ret (pe_mk T.k_Form (ok_Form_init T) (hr.mono (by decide)) (by rfl) T.g_Form (pa_cons (pe_lc (own := [("one", 2), ("two", 3)]) rfl sc_Form_sub.nd (GW.zipA (K := K) (by rfl) T.f_zip (pa_cons (GW.fld (K := K) (pv 0)) (pa_cons (GW.fld (K := K) (pv 1)) pa_nil))) (blkOk_by (own := [("one", 2), ("two", 3)]) (N := N_Form_sub) (sc := defScope s_Form_sub) (by decide +kernel)) (fun _ _ _ _ _ => (GW.tup (K := K) (n := 2) rfl (pgs_cons (gx 2 sc_Form_sub.nd) (pgs_cons (gx 3 sc_Form_sub.nd) pgs_nil)))) (fun _ _ _ _ _ => pts_nil) (fun _ _ _ _ _ => (pe_op op_sub (pv 2) (pv 3)))) pa_nil))))), ?_⟩
    walk_at "go"
    refine fld_parts T F rfl fun q hq => ?_
    walk_at "go"
    refine fld_parts T G rfl fun r hr2 => ?_
    walk_at "go"
    rw [List.length_map, List.length_map]
    refine Rd.iten (fun c => ?_) (fun c => ?_)
    · refine mk_ex ?_ (fun R R' m h => ?_)
      · walk_at "go"
        refine fld_parts T G rfl fun r3 hr3 => ?_
        walk_at "go"
        refine ⟨_, rfl, fun d hd => ?_⟩
        rw [List.length_map]
        exact k2 (fun e => c (by rw [e])) d _ (Ext.upd hd) upd_same
      · obtain ⟨vv, h1, aa, C, dx, fs, vq, h2, h3, h4, h5, h6, pp, zz, h7, h8, h9⟩ := h
        exact ⟨vv, h1, aa, C, dx, fs, vq, h2, h3, h4, h5, h6, pp, zz, h7, h8, m _ _ h9⟩
    · have c : xs.length = ys.length := by have := V.int.inj c; omega
      walk_at "go"
      refine Rd.lcZT ?_ (fun R R' m h => ?_)
      · walk_at "go"
        refine fld_parts T F rfl fun q hq => ?_
        walk_at "go"
        refine fld_parts T G rfl fun r hr2 => ?_
        walk_at "go"
        refine ⟨q, r, _, _, rfl, SqT.of hq, SqT.of hr2, fun D hD => ?_⟩
        refine lcZip (fun p q => p - q) hq hr2 c (by omega) hD (fun x y t H' _ _ e ht Qy Qn ky => ?_) (fun H' e hys => ?_)
        · refine Rd.unP ?_
          refine ⟨rfl, ?_⟩
          walk_at "go"
          exact ky _ Rd.ext_rfl
        · walk_at "go"
          exact mk_form (.inl hys) fun x H2 e2 hx F2 => k1 c x H2 (e.trans e2) (Rd.ext_free e hx) F2
      · obtain ⟨vv, h1, aa, C, dx, fs, vq, h2, h3, h4, h5, h6, v2, g1, a2, C2, dx2, fs2, vq2, g2, g3, g4, g5, g6, g7⟩ := h
        exact ⟨vv, h1, aa, C, dx, fs, vq, h2, h3, h4, h5, h6, v2, g1, a2, C2, dx2, fs2, vq2, g2, g3, g4, g5, g6, m _ _ g7⟩
end
end Lv

set_option Elab.async false
set_option linter.all false
set_option maxRecDepth 100000
set_option maxHeartbeats 0
/-! A form's value. -/
namespace Lv
open PySem PySem.Spec PyProof.Rows L2 OwX
local macro_rules | `(tactic| walk_at "side") => `(tactic| first
  | exact (show CMul _ _ from .inl ⟨by decide, by decide⟩) | exact (show CMul _ _ from .inr ⟨by decide, by decide⟩) | exact (show CMul _ _ from .inl ⟨by omega, by omega⟩) | exact (show CMul _ _ from .inr ⟨by omega, by omega⟩)
  | exact (show CPow _ _ from ⟨by decide, by decide, by decide⟩)
  | exact (show CDiv _ _ from ⟨by decide, by decide⟩) | exact (show CDiv _ _ from ⟨by omega, by omega⟩)
  | exact (show (0 : Int) < _ by decide) | exact (show (0 : Int) < _ by omega) | exact (show ¬ (_ : Int) = 0 by decide) | exact (show ¬ (_ : Int) = 0 by omega) | assumption)
local macro_rules | `(tactic| walk_at "hp") => `(tactic| first
  | assumption | exact upd_same
  | (refine' SqL.of ?h1; (case h1 => walk_at "hp")) | (refine' SqT.of ?h1; (case h1 => walk_at "hp"))
  | (refine' Rd.new_app ?h1 ?h2; (case h1 => assumption); (case h2 => walk_at "hp"))
  | (refine' Rd.upd_app ?h1 ?h2; (case h1 => first | assumption | exact Ne.symm (by assumption)); (case h2 => walk_at "hp"))
  | (refine' Rd.ext_app ?h1 ?h2; (case h1 => assumption); (case h2 => walk_at "hp"))
  | (refine' Rd.ext_L ?h1 ?h2; (case h1 => assumption); (case h2 => walk_at "hp"))
  | (refine' Rd.ext_T ?h1 ?h2; (case h1 => assumption); (case h2 => walk_at "hp")))
local macro_rules | `(tactic| walk_at "go") => `(tactic| repeat (first
  | with_reducible refine Rd.con ?_
  | ((with_reducible refine' Rd.var ?h1 ?_); (case h1 => rfl))
  | with_reducible refine Rd.op ?_
  | with_reducible refine Rd.un ?_
  | with_reducible refine Rd.i0 ?_
  | with_reducible refine Rd.iu ?_
  | ((with_reducible refine Rd.iC ?h1 ?_); (case h1 => walk_at "side"))
  | with_reducible refine Rd.nil ?_
  | with_reducible refine Rd.cons ?_
  | with_reducible refine Rd.cb ?_
  | with_reducible refine Rd.int1 ?_
  | with_reducible refine Rd.intB ?_
  | with_reducible refine Rd.maxI ?_
  | with_reducible refine Rd.minI ?_
  | with_reducible refine Rd.blx ?_
  | with_reducible refine Rd.tst ?_
  | with_reducible refine Rd.tb_ ?_
  | with_reducible refine Rd.not_ ?_
  | with_reducible refine Rd.and_ ?_
  | with_reducible refine Rd.or_ ?_
  | with_reducible refine Rd.ifx ?_
  | with_reducible refine Rd.chain ?_
  | with_reducible refine Rd.andV ?_
  | with_reducible refine Rd.orV ?_
  | with_reducible refine Rd.notV ?_
  | with_reducible refine Rd.seq ?_
  | with_reducible refine Rd.asg ?_
  | with_reducible refine Rd.name ?_
  | with_reducible refine Rd.ret ?_
  | with_reducible refine Rd.ifS ?_
  | with_reducible refine Rd.next ?_
  | with_reducible refine Rd.drop ?_
  | with_reducible refine Rd.gsub ?_
  | with_reducible refine Rd.cr ?_
  | with_reducible refine Rd.crX ?_
  | with_reducible refine Rd.ixOS ?_
  | ((with_reducible refine' Rd.xfv ?h1 ?h2 ?h3 ?_); (case h1 => walk_at "hp"); (case h2 => rfl); (case h3 => rfl))
  | ((with_reducible refine' Rd.bmLv ?h1 ?h2 ?_); (case h1 => rfl); (case h2 => walk_at "hp"))
  | ((with_reducible refine' Rd.countL ?h1 ?_); (case h1 => walk_at "hp"))
  | ((with_reducible refine' Rd.sumL ?h1 ?_); (case h1 => walk_at "hp"))
  | ((with_reducible refine' Rd.listL ?h1 ?_); (case h1 => walk_at "hp"))
  | ((with_reducible refine' Rd.listT ?h1 ?_); (case h1 => walk_at "hp"))
  | with_reducible refine Rd.isNn ?_
  | with_reducible refine Rd.isNr ?_
  | with_reducible refine Rd.notNn ?_
  | with_reducible refine Rd.notNr ?_
  | with_reducible refine Rd.isB ?_
  | with_reducible refine Rd.notBtt ?_
  | with_reducible refine Rd.notBff ?_
  | with_reducible refine Rd.notBtf ?_
  | with_reducible refine Rd.notBft ?_
  | with_reducible refine Rd.notB ?_
  | with_reducible refine Rd.smeth ?_
  | with_reducible refine Rd.sl ?_
  | with_reducible refine Rd.po0 ?_
  | with_reducible refine Rd.poI ?_
  | with_reducible refine Rd.ixi ?_
  | with_reducible refine Rd.par ?_
  | with_reducible refine Rd.par2 ?_
  | with_reducible refine Rd.mkRS ?_
  | with_reducible refine Rd.callRS ?_
  | with_reducible refine Rd.mk ?_
  | with_reducible refine Rd.mkX ?_
  | with_reducible refine Rd.sF ?_
  | with_reducible refine Rd.dIn ?_
  | with_reducible refine Rd.dNi ?_
  | with_reducible refine Rd.dctL ?_
  | with_reducible refine Rd.dctT ?_
  | with_reducible refine Rd.forE ?_
  | with_reducible refine Rd.lc2T ?_
  | with_reducible refine Rd.lc2L ?_
  | with_reducible refine Rd.lc2R ?_
  | with_reducible refine Rd.inR2 ?_
  | with_reducible refine Rd.inR1 ?_
  | with_reducible refine Rd.inT ?_
  | with_reducible refine Rd.inL ?_
  | with_reducible refine Rd.lcT ?_
  | with_reducible refine Rd.lcL ?_
  | with_reducible refine Rd.lcR ?_
  | with_reducible refine Rd.forT ?_
  | with_reducible refine Rd.forL ?_
  | with_reducible refine Rd.forR ?_
  | with_reducible refine Rd.yes ?_
  | with_reducible refine iteT ?_
  | with_reducible refine iteF ?_
  | with_reducible refine Rd.iteNT ?_
  | with_reducible refine Rd.iteNF ?_
  | with_reducible refine Rd.tup ?_
  | with_reducible refine Rd.lst ?_
  | ((with_reducible refine Rd.eqs ?h1 ?_); (case h1 => rfl))
  | ((with_reducible refine Rd.nes ?h1 ?_); (case h1 => rfl))
  | ((with_reducible refine' Rd.ixL ?h1 ?h2 ?_); (case h1 => walk_at "hp"); (case h2 => first | rfl | assumption))
  | ((with_reducible refine' Rd.ixT ?h1 ?h2 ?_); (case h1 => walk_at "hp"); (case h2 => first | rfl | assumption))
  | ((with_reducible refine' Rd.lenL ?h1 ?_); (case h1 => walk_at "hp"))
  | ((with_reducible refine' Rd.lenT ?h1 ?_); (case h1 => walk_at "hp"))
  | ((with_reducible refine' Rd.setL ?h1 ?h2 ?_); (case h1 => walk_at "hp"); (case h2 => first | rfl | assumption))))
section
variable {base : Heap} {P : Program} {w : World} {mg : Str → Option Value} {K : PySem.W.Frag}
def dot (xs ys : List Int) : Int := (List.zipWith (fun p q => p * q) xs ys).sum
/-- a list or a tuple of ints -/
def SqI (H : Hp) (b : Addr) (ys : List Int) : Prop := H b = some (.lst (ys.map V.int)) ∨ H b = some (.tup (ys.map V.int))
theorem SqI.ext {H H' : Hp} {b : Addr} {ys : List Int} (h : SqI H b ys) (e : Ext H H') : SqI H' b ys := h.imp (e _ _) (e _ _)
theorem SqI.len {H : Hp} {b : Addr} {ys : List Int} {Q : VK} (h : SqI H b ys) (k : Q (.int ys.length) H) : Rd.rLen K [.ref b] H Q := by
  rcases h with h | h
  · exact Rd.lenL (SqL.of h) (by rw [List.length_map]; exact k)
  · exact Rd.lenT (SqT.of h) (by rw [List.length_map]; exact k)
def sp_Form_call (K : PySem.W.Frag) : Sp := fun vs H Q E => ∃ (a b : Addr) (xs ys : List Int), vs = [.ref a, .ref b] ∧ FormAt K H a xs ∧ SqI H b ys ∧ xs.length ≤ 1000 ∧ (∀ x ∈ xs, -(2 ^ 64) < x ∧ x < 2 ^ 64) ∧
  (xs.length = ys.length → ∀ H', Ext H H' → Q (.int (dot xs ys)) H') ∧ (xs.length ≠ ys.length → ∀ d H', Ext H H' → H' d = some (.xd [("count", .int ys.length)]) → E (.ref (He.ga K "BadLength")) (some d) H')
theorem ok_Form_call (T : Tx K mg) : FnR P w K mg base (L2.CX P w) 5 (a_Form_call K) (sp_Form_call K) := by
  obtain ⟨fdN_BadLength, FN_BadLength, bN_BadLength⟩ := ok_BadLength (P := P) (w := w) (base := base) T
  refine fnr T.d_Form_call sc_Form_call (fun _ _ _ _ _ _ us hl => match us, hl with | [_, _], _ => rfl) (fun vs H Q E h => ?_) (fun cdv A outer s H vs Q E hr h => ?_)
  · obtain ⟨a, b, xs, ys, rfl, _⟩ := h
    rfl
  · obtain ⟨a, b, xs, ys, rfl, F, G, hn, hx, k1, k2⟩ := h
    refine ⟨_, (pss_cons (ps_if (pt_cmpR op_ne (pe_callB (Rd.c_len (K := K)) (by rfl) T.f_len Rd.bt_len (pa_cons (pv 1) pa_nil)) (pe_callB (Rd.c_len (K := K)) (by rfl) T.f_len Rd.bt_len (pa_cons (GW.fld (K := K) (pv 0)) pa_nil)) (nomark _)) (pss_one (ps_raise rfl (takes_of rfl rfl rfl rfl) (pmk_oex T.x_BadLength.ox T.x_BadLength.it T.x_BadLength.ti FN_BadLength (hr.mono (by decide)) bN_BadLength .nil passL (by rfl) T.g_BadLength (pa_cons (pe_callB (Rd.c_len (K := K)) (by rfl) T.f_len Rd.bt_len (pa_cons (pv 1) pa_nil)) pa_nil)))) pss_nil) (pss_one (ps_ret (pe_callB (GW.sum (K := K) rfl) (by rfl) T.f_sum Rd.bt_sum (pa_cons (pe_lc (own := [("part", 2), ("number", 3)]) rfl sc_Form_call.nd (GW.zipM (K := K) (by rfl) T.f_zip (pa_cons (GW.fld (K := K) (pv 0)) (pa_cons (pv 1) pa_nil))) (blkOk_by (own := [("part", 2), ("number", 3)]) (N := N_Form_call) (sc := defScope s_Form_call) (by decide +kernel)) (fun _ _ _ _ _ => (GW.tup (K := K) (n := 2) rfl (pgs_cons (gx 2 sc_Form_call.nd) (pgs_cons (gx 3 sc_Form_call.nd) pgs_nil)))) (fun _ _ _ _ _ => pts_nil) (fun _ _ _ _ _ => (pe_op op_mul (pv 2) (pv 3)))) pa_nil))))), ?_⟩
    walk_at "go"
    refine SqI.len G ?_
    walk_at "go"
    refine fld_parts T F rfl fun q hq => ?_
    walk_at "go"
    rw [List.length_map]
    refine Rd.iten (fun c => ?_) (fun c => ?_)
    · refine mk_ex ?_ (fun R R' m h => ?_)
      · walk_at "go"
        refine SqI.len G ?_
        walk_at "go"
        refine ⟨_, rfl, fun d hd => ?_⟩
        exact k2 (fun e => c (by rw [e])) d _ (Ext.upd hd) upd_same
      · obtain ⟨vv, h1, pp, zz, h7, h8, h9⟩ := h
        exact ⟨vv, h1, pp, zz, h7, h8, m _ _ h9⟩
    · have c : xs.length = ys.length := by have := V.int.inj c; omega
      walk_at "go"
      refine Rd.lcZM ?_
      walk_at "go"
      refine fld_parts T F rfl fun q hq => ?_
      walk_at "go"
      have done : ∀ H' D, Ext H H' → H' D = some (.lst ((List.zipWith (fun p q => p * q) xs ys).map V.int)) → Q (.int (dot xs ys)) H' := fun H' D e hD => k1 c H' e
      rcases G with G | G
      · refine ⟨q, b, _, _, rfl, SqT.of hq, .inr ⟨SqL.of G, fun D hD => ?_⟩⟩
        refine lcZipM (fun p q => p * q) hq G c (by omega) hD (fun x y t H' hxm _ e ht Qy Qn ky => ?_) (fun H' e hys => ?_)
        · have hx := hx x hxm
          refine Rd.unP ?_
          refine ⟨rfl, ?_⟩
          walk_at "go"
          exact ky _ Rd.ext_rfl
        · walk_at "go"
          exact done H' D e hys
      · refine ⟨q, b, _, _, rfl, SqT.of hq, .inl ⟨SqT.of G, fun D hD => ?_⟩⟩
        refine lcZip (fun p q => p * q) hq G c (by omega) hD (fun x y t H' hxm _ e ht Qy Qn ky => ?_) (fun H' e hys => ?_)
        · have hx := hx x hxm
          refine Rd.unP ?_
          refine ⟨rfl, ?_⟩
          walk_at "go"
          exact ky _ Rd.ext_rfl
        · walk_at "go"
          exact done H' D e hys
end
end Lv

set_option Elab.async false
set_option linter.all false
set_option maxRecDepth 100000
set_option maxHeartbeats 0
/-! A form's value, its sign. -/
namespace Lv
open PySem PySem.Spec PyProof.Rows L2 OwX
local macro_rules | `(tactic| walk_at "side") => `(tactic| first
  | exact (show CMul _ _ from .inl ⟨by decide, by decide⟩) | exact (show CMul _ _ from .inr ⟨by decide, by decide⟩) | exact (show CMul _ _ from .inl ⟨by omega, by omega⟩) | exact (show CMul _ _ from .inr ⟨by omega, by omega⟩)
  | exact (show CPow _ _ from ⟨by decide, by decide, by decide⟩)
  | exact (show CDiv _ _ from ⟨by decide, by decide⟩) | exact (show CDiv _ _ from ⟨by omega, by omega⟩)
  | exact (show (0 : Int) < _ by decide) | exact (show (0 : Int) < _ by omega) | exact (show ¬ (_ : Int) = 0 by decide) | exact (show ¬ (_ : Int) = 0 by omega) | assumption)
local macro_rules | `(tactic| walk_at "hp") => `(tactic| first
  | assumption | exact upd_same
  | (refine' SqL.of ?h1; (case h1 => walk_at "hp")) | (refine' SqT.of ?h1; (case h1 => walk_at "hp"))
  | (refine' Rd.new_app ?h1 ?h2; (case h1 => assumption); (case h2 => walk_at "hp"))
  | (refine' Rd.upd_app ?h1 ?h2; (case h1 => first | assumption | exact Ne.symm (by assumption)); (case h2 => walk_at "hp"))
  | (refine' Rd.ext_app ?h1 ?h2; (case h1 => assumption); (case h2 => walk_at "hp"))
  | (refine' Rd.ext_L ?h1 ?h2; (case h1 => assumption); (case h2 => walk_at "hp"))
  | (refine' Rd.ext_T ?h1 ?h2; (case h1 => assumption); (case h2 => walk_at "hp")))
local macro_rules | `(tactic| walk_at "go") => `(tactic| repeat (first
  | with_reducible refine Rd.con ?_
  | ((with_reducible refine' Rd.var ?h1 ?_); (case h1 => rfl))
  | with_reducible refine Rd.op ?_
  | with_reducible refine Rd.un ?_
  | with_reducible refine Rd.i0 ?_
  | with_reducible refine Rd.iu ?_
  | ((with_reducible refine Rd.iC ?h1 ?_); (case h1 => walk_at "side"))
  | with_reducible refine Rd.nil ?_
  | with_reducible refine Rd.cons ?_
  | with_reducible refine Rd.cb ?_
  | with_reducible refine Rd.int1 ?_
  | with_reducible refine Rd.intB ?_
  | with_reducible refine Rd.maxI ?_
  | with_reducible refine Rd.minI ?_
  | with_reducible refine Rd.blx ?_
  | with_reducible refine Rd.tst ?_
  | with_reducible refine Rd.tb_ ?_
  | with_reducible refine Rd.not_ ?_
  | with_reducible refine Rd.and_ ?_
  | with_reducible refine Rd.or_ ?_
  | with_reducible refine Rd.ifx ?_
  | with_reducible refine Rd.chain ?_
  | with_reducible refine Rd.andV ?_
  | with_reducible refine Rd.orV ?_
  | with_reducible refine Rd.notV ?_
  | with_reducible refine Rd.seq ?_
  | with_reducible refine Rd.asg ?_
  | with_reducible refine Rd.name ?_
  | with_reducible refine Rd.ret ?_
  | with_reducible refine Rd.ifS ?_
  | with_reducible refine Rd.next ?_
  | with_reducible refine Rd.drop ?_
  | with_reducible refine Rd.gsub ?_
  | with_reducible refine Rd.cr ?_
  | with_reducible refine Rd.crX ?_
  | with_reducible refine Rd.ixOS ?_
  | ((with_reducible refine' Rd.xfv ?h1 ?h2 ?h3 ?_); (case h1 => walk_at "hp"); (case h2 => rfl); (case h3 => rfl))
  | ((with_reducible refine' Rd.bmLv ?h1 ?h2 ?_); (case h1 => rfl); (case h2 => walk_at "hp"))
  | ((with_reducible refine' Rd.countL ?h1 ?_); (case h1 => walk_at "hp"))
  | ((with_reducible refine' Rd.sumL ?h1 ?_); (case h1 => walk_at "hp"))
  | ((with_reducible refine' Rd.listL ?h1 ?_); (case h1 => walk_at "hp"))
  | ((with_reducible refine' Rd.listT ?h1 ?_); (case h1 => walk_at "hp"))
  | with_reducible refine Rd.isNn ?_
  | with_reducible refine Rd.isNr ?_
  | with_reducible refine Rd.notNn ?_
  | with_reducible refine Rd.notNr ?_
  | with_reducible refine Rd.isB ?_
  | with_reducible refine Rd.notBtt ?_
  | with_reducible refine Rd.notBff ?_
  | with_reducible refine Rd.notBtf ?_
  | with_reducible refine Rd.notBft ?_
  | with_reducible refine Rd.notB ?_
  | with_reducible refine Rd.smeth ?_
  | with_reducible refine Rd.sl ?_
  | with_reducible refine Rd.po0 ?_
  | with_reducible refine Rd.poI ?_
  | with_reducible refine Rd.ixi ?_
  | with_reducible refine Rd.par ?_
  | with_reducible refine Rd.par2 ?_
  | with_reducible refine Rd.mkRS ?_
  | with_reducible refine Rd.callRS ?_
  | with_reducible refine Rd.mk ?_
  | with_reducible refine Rd.mkX ?_
  | with_reducible refine Rd.sF ?_
  | with_reducible refine Rd.dIn ?_
  | with_reducible refine Rd.dNi ?_
  | with_reducible refine Rd.dctL ?_
  | with_reducible refine Rd.dctT ?_
  | with_reducible refine Rd.forE ?_
  | with_reducible refine Rd.lc2T ?_
  | with_reducible refine Rd.lc2L ?_
  | with_reducible refine Rd.lc2R ?_
  | with_reducible refine Rd.inR2 ?_
  | with_reducible refine Rd.inR1 ?_
  | with_reducible refine Rd.inT ?_
  | with_reducible refine Rd.inL ?_
  | with_reducible refine Rd.lcT ?_
  | with_reducible refine Rd.lcL ?_
  | with_reducible refine Rd.lcR ?_
  | with_reducible refine Rd.forT ?_
  | with_reducible refine Rd.forL ?_
  | with_reducible refine Rd.forR ?_
  | with_reducible refine Rd.yes ?_
  | with_reducible refine iteT ?_
  | with_reducible refine iteF ?_
  | with_reducible refine Rd.iteNT ?_
  | with_reducible refine Rd.iteNF ?_
  | with_reducible refine Rd.tup ?_
  | with_reducible refine Rd.lst ?_
  | ((with_reducible refine Rd.eqs ?h1 ?_); (case h1 => rfl))
  | ((with_reducible refine Rd.nes ?h1 ?_); (case h1 => rfl))
  | ((with_reducible refine' Rd.ixL ?h1 ?h2 ?_); (case h1 => walk_at "hp"); (case h2 => first | rfl | assumption))
  | ((with_reducible refine' Rd.ixT ?h1 ?h2 ?_); (case h1 => walk_at "hp"); (case h2 => first | rfl | assumption))
  | ((with_reducible refine' Rd.lenL ?h1 ?_); (case h1 => walk_at "hp"))
  | ((with_reducible refine' Rd.lenT ?h1 ?_); (case h1 => walk_at "hp"))
  | ((with_reducible refine' Rd.setL ?h1 ?h2 ?_); (case h1 => walk_at "hp"); (case h2 => first | rfl | assumption))))
section
variable {base : Heap} {P : Program} {w : World} {mg : Str → Option Value} {K : PySem.W.Frag}
def sgnF (n : Int) : Int := if n > 0 then 1 else if n < 0 then -1 else 0
def sp_sign_of : Sp := fun vs H Q _ => ∃ n : Int, vs = [.int n] ∧ Q (.int (sgnF n)) H
theorem ok_sign_of (T : Tx K mg) : FnR P w K mg base (L2.CX P w) 1 (a_sign_of K) sp_sign_of := by
  refine fnr T.d_sign_of sc_sign_of (fun _ _ _ _ _ _ us hl => match us, hl with | [_], _ => rfl) (fun vs H Q E h => ?_) (fun cdv A outer s H vs Q E hr h => ?_)
  · obtain ⟨n, rfl, _⟩ := h
    rfl
  · obtain ⟨n, rfl, k⟩ := h
    refine ⟨_, (pss_cons (ps_if (pt_cmpR op_gt (pv 0) pe_int (nomark _)) (pss_one (ps_ret pe_int)) pss_nil) (pss_cons (ps_if (pt_cmpR op_lt (pv 0) pe_int (nomark _)) (pss_one (ps_ret (pe_un un_neg pe_int))) pss_nil) (pss_one (ps_ret pe_int)))), ?_⟩
    unfold sgnF at k
    walk_at "go"
    refine Rd.ited (fun c => ?_) (fun c => ?_)
    · rw [if_pos c] at k
      walk_at "go"
      exact k
    · rw [if_neg c] at k
      walk_at "go"
      refine Rd.ited (fun c2 => ?_) (fun c2 => ?_)
      · rw [if_pos c2] at k
        walk_at "go"
        exact k
      · rw [if_neg c2] at k
        walk_at "go"
        exact k
def sp_Form_sign (K : PySem.W.Frag) : Sp := fun vs H Q E => ∃ (a b : Addr) (xs ys : List Int), vs = [.ref a, .ref b] ∧ FormAt K H a xs ∧ SqI H b ys ∧ xs.length ≤ 1000 ∧ (∀ x ∈ xs, -(2 ^ 64) < x ∧ x < 2 ^ 64) ∧
  (xs.length = ys.length → ∀ H', Ext H H' → Q (.int (sgnF (dot xs ys))) H') ∧ (xs.length ≠ ys.length → ∀ d H', Ext H H' → H' d = some (.xd [("count", .int ys.length)]) → E (.ref (He.ga K "BadLength")) (some d) H')
theorem ok_Form_sign (T : Tx K mg) : FnR P w K mg base (L2.CX P w) 5 (a_Form_sign K) (sp_Form_sign K) := by
  obtain ⟨fdN_BadLength, FN_BadLength, bN_BadLength⟩ := ok_BadLength (P := P) (w := w) (base := base) T
  refine fnr T.d_Form_sign sc_Form_sign (fun _ _ _ _ _ _ us hl => match us, hl with | [_, _], _ => rfl) (fun vs H Q E h => ?_) (fun cdv A outer s H vs Q E hr h => ?_)
  · obtain ⟨a, b, xs, ys, rfl, _⟩ := h
    rfl
  · obtain ⟨a, b, xs, ys, rfl, F, G, hn, hx, k1, k2⟩ := h
    refine ⟨_, (pss_cons (ps_if (pt_cmpR op_ne (pe_callB (Rd.c_len (K := K)) (by rfl) T.f_len Rd.bt_len (pa_cons (pv 1) pa_nil)) (pe_callB (Rd.c_len (K := K)) (by rfl) T.f_len Rd.bt_len (pa_cons (GW.fld (K := K) (pv 0)) pa_nil)) (nomark _)) (pss_one (ps_raise rfl (takes_of rfl rfl rfl rfl) (pmk_oex T.x_BadLength.ox T.x_BadLength.it T.x_BadLength.ti FN_BadLength (hr.mono (by decide)) bN_BadLength .nil passL (by rfl) T.g_BadLength (pa_cons (pe_callB (Rd.c_len (K := K)) (by rfl) T.f_len Rd.bt_len (pa_cons (pv 1) pa_nil)) pa_nil)))) pss_nil) (pss_one (ps_ret (pe_cr (ok_sign_of T) (hr.mono (by decide)) (kp_of T.d_sign_of) (by rfl) T.g_sign_of (pa_cons (pe_callB (GW.sum (K := K) rfl) (by rfl) T.f_sum Rd.bt_sum (pa_cons (pe_lc (own := [("part", 2), ("number", 3)]) rfl sc_Form_sign.nd (GW.zipM (K := K) (by rfl) T.f_zip (pa_cons (GW.fld (K := K) (pv 0)) (pa_cons (pv 1) pa_nil))) (blkOk_by (own := [("part", 2), ("number", 3)]) (N := N_Form_sign) (sc := defScope s_Form_sign) (by decide +kernel)) (fun _ _ _ _ _ => (GW.tup (K := K) (n := 2) rfl (pgs_cons (gx 2 sc_Form_sign.nd) (pgs_cons (gx 3 sc_Form_sign.nd) pgs_nil)))) (fun _ _ _ _ _ => pts_nil) (fun _ _ _ _ _ => (pe_op op_mul (pv 2) (pv 3)))) pa_nil)) pa_nil))))), ?_⟩
    walk_at "go"
    refine SqI.len G ?_
    walk_at "go"
    refine fld_parts T F rfl fun q hq => ?_
    walk_at "go"
    rw [List.length_map]
    refine Rd.iten (fun c => ?_) (fun c => ?_)
    · refine mk_ex ?_ (fun R R' m h => ?_)
      · walk_at "go"
        refine SqI.len G ?_
        walk_at "go"
        refine ⟨_, rfl, fun d hd => ?_⟩
        exact k2 (fun e => c (by rw [e])) d _ (Ext.upd hd) upd_same
      · obtain ⟨vv, h1, pp, zz, h7, h8, h9⟩ := h
        exact ⟨vv, h1, pp, zz, h7, h8, m _ _ h9⟩
    · have c : xs.length = ys.length := by have := V.int.inj c; omega
      walk_at "go"
      refine Rd.lcZM ?_
      walk_at "go"
      refine fld_parts T F rfl fun q hq => ?_
      walk_at "go"
      have done : ∀ H' D, Ext H H' → H' D = some (.lst ((List.zipWith (fun p q => p * q) xs ys).map V.int)) → Q (.int (sgnF (dot xs ys))) H' := fun H' D e hD => k1 c H' e
      rcases G with G | G
      · refine ⟨q, b, _, _, rfl, SqT.of hq, .inr ⟨SqL.of G, fun D hD => ?_⟩⟩
        refine lcZipM (fun p q => p * q) hq G c (by omega) hD (fun x y t H' hxm _ e ht Qy Qn ky => ?_) (fun H' e hys => ?_)
        · have hx := hx x hxm
          refine Rd.unP ?_
          refine ⟨rfl, ?_⟩
          walk_at "go"
          exact ky _ Rd.ext_rfl
        · walk_at "go"
          exact ⟨_, rfl, done H' D e hys⟩
      · refine ⟨q, b, _, _, rfl, SqT.of hq, .inl ⟨SqT.of G, fun D hD => ?_⟩⟩
        refine lcZip (fun p q => p * q) hq G c (by omega) hD (fun x y t H' hxm _ e ht Qy Qn ky => ?_) (fun H' e hys => ?_)
        · have hx := hx x hxm
          refine Rd.unP ?_
          refine ⟨rfl, ?_⟩
          walk_at "go"
          exact ky _ Rd.ext_rfl
        · walk_at "go"
          exact ⟨_, rfl, done H' D e hys⟩
end
end Lv

set_option linter.all false
set_option maxRecDepth 100000
/-! Forms that are like: plain. -/
namespace Fm
def gcdL (xs : List Int) : Nat := xs.foldl (fun g x => Int.gcd g x) 0
def reducedF (xs : List Int) : List Int := if gcdL xs = 0 then xs else xs.map fun x => x / (gcdL xs : Nat)
def sgn (n : Int) : Int := if n > 0 then 1 else if n < 0 then -1 else 0
def likeF (a b : List Int) : Int := if gcdL (reducedF a) = 0 then 0 else if reducedF a = reducedF b then 1 else if reducedF a = reducedF (b.map fun x => -x) then -1 else 0
theorem gcd_fold : ∀ (xs : List Int) (g : Nat) (d : Nat), d ∣ xs.foldl (fun g x => Int.gcd g x) g ↔ d ∣ g ∧ ∀ x ∈ xs, (d : Int) ∣ x
  | [], g, d => by simp
  | x :: xs, g, d => by
    rw [List.foldl_cons, gcd_fold xs (Int.gcd g x) d]
    constructor
    · rintro ⟨h1, h2⟩
      refine ⟨?_, fun y hy => ?_⟩
      · have := Nat.dvd_trans h1 (Int.gcd_dvd_natAbs_left (g : Int) x)
        simpa using this
      · rcases List.mem_cons.mp hy with rfl | hy
        · have := Nat.dvd_trans h1 (Int.gcd_dvd_natAbs_right (g : Int) y)
          exact Int.ofNat_dvd_left.mpr this
        · exact h2 y hy
    · rintro ⟨h1, h2⟩
      refine ⟨?_, fun y hy => h2 y (List.mem_cons_of_mem _ hy)⟩
      have hx := h2 x List.mem_cons_self
      exact Int.dvd_gcd (Int.natCast_dvd_natCast.mpr h1) hx |> fun h => h
theorem dvd_gcdL {xs : List Int} {d : Nat} : d ∣ gcdL xs ↔ ∀ x ∈ xs, (d : Int) ∣ x := by
  unfold gcdL
  rw [gcd_fold]
  exact ⟨fun h => h.2, fun h => ⟨Nat.dvd_zero _, h⟩⟩
theorem gcdL_dvd {xs : List Int} {x : Int} (h : x ∈ xs) : ((gcdL xs : Nat) : Int) ∣ x := dvd_gcdL.mp (Nat.dvd_refl _) x h
theorem gcdL_zero {xs : List Int} : gcdL xs = 0 ↔ ∀ x ∈ xs, x = 0 := by
  constructor
  · intro h x hx
    have := gcdL_dvd hx
    rw [h] at this
    simpa using this
  · intro h
    have : (0 : Nat) ∣ gcdL xs := dvd_gcdL.mpr fun x hx => by rw [h x hx]; exact Int.dvd_refl 0
    simpa using this
theorem gcdL_ext {xs ys : List Int} (h : ∀ d : Nat, (∀ x ∈ xs, (d : Int) ∣ x) ↔ ∀ y ∈ ys, (d : Int) ∣ y) : gcdL xs = gcdL ys :=
  Nat.dvd_antisymm (dvd_gcdL.mpr ((h _).mp (dvd_gcdL.mp (Nat.dvd_refl _)))) (dvd_gcdL.mpr ((h _).mpr (dvd_gcdL.mp (Nat.dvd_refl _))))
theorem gcdL_mul (xs : List Int) (c : Int) : gcdL (xs.map fun x => x * c) = gcdL xs * c.natAbs := by
  refine Nat.dvd_antisymm ?_ (dvd_gcdL.mpr fun y hy => ?_)
  · by_cases hc : c = 0
    · subst hc
      simp
    · -- each common divisor of the products divides gcd * |c|
      have hcp : 0 < c.natAbs := Int.natAbs_pos.mpr hc
      have h1 : c.natAbs ∣ gcdL (xs.map fun x => x * c) := dvd_gcdL.mpr fun y hy => by
        obtain ⟨x, hx, rfl⟩ := List.mem_map.mp hy
        exact Int.dvd_trans (Int.natAbs_dvd.mpr (Int.dvd_refl c)) (Int.dvd_mul_left x c)
      obtain ⟨k, hk⟩ := h1
      rw [hk, Nat.mul_comm (gcdL xs)]
      refine Nat.mul_dvd_mul_left _ (dvd_gcdL.mpr fun x hx => ?_)
      have h2 := gcdL_dvd (xs := xs.map fun x => x * c) (List.mem_map.mpr ⟨x, hx, rfl⟩)
      rw [hk, Int.natCast_mul, Int.mul_comm x c] at h2
      have h3 : c * (k : Int) ∣ c * x := Int.dvd_trans (Int.mul_dvd_mul (Int.dvd_natAbs.mpr (Int.dvd_refl c)) (Int.dvd_refl _)) h2
      exact Int.dvd_of_mul_dvd_mul_left hc h3
  · obtain ⟨x, hx, rfl⟩ := List.mem_map.mp hy
    rw [Int.natCast_mul]
    exact Int.mul_dvd_mul (gcdL_dvd hx) (Int.natAbs_dvd.mpr (Int.dvd_refl c))
theorem gcdL_neg (xs : List Int) : gcdL (xs.map fun x => -x) = gcdL xs := by
  have := gcdL_mul xs (-1)
  simp only [Int.mul_neg, Int.mul_one] at this
  rw [this]
  simp
theorem red_mul {xs : List Int} (h : gcdL xs ≠ 0) : (reducedF xs).map (fun x => x * ((gcdL xs : Nat) : Int)) = xs := by
  unfold reducedF
  rw [if_neg h, List.map_map]
  conv => rhs; rw [← List.map_id xs]
  exact List.map_congr_left fun x hx => Int.ediv_mul_cancel (gcdL_dvd hx)
theorem red_gcd {xs : List Int} (h : gcdL xs ≠ 0) : gcdL (reducedF xs) = 1 := by
  have h1 := congrArg gcdL (red_mul h)
  rw [gcdL_mul] at h1
  simp only [Int.natAbs_natCast] at h1
  have hp : 0 < gcdL xs := Nat.pos_of_ne_zero h
  exact Nat.eq_of_mul_eq_mul_right hp (by rw [h1, Nat.one_mul])
theorem red_len (xs : List Int) : (reducedF xs).length = xs.length := by
  unfold reducedF
  split
  · rfl
  · rw [List.length_map]
theorem red_zero {xs : List Int} (h : gcdL xs = 0) : reducedF xs = xs := if_pos h
theorem red_at {xs : List Int} (h : gcdL xs ≠ 0) {i : Nat} {x : Int} (hi : xs[i]? = some x) : ∃ y, (reducedF xs)[i]? = some y ∧ x = y * ((gcdL xs : Nat) : Int) := by
  have hl := (List.getElem?_eq_some_iff.mp hi).1
  have h1 : ((reducedF xs).map (fun x => x * ((gcdL xs : Nat) : Int)))[i]? = some x := by rw [red_mul h]; exact hi
  rw [List.getElem?_map] at h1
  cases e : (reducedF xs)[i]? with
  | none => rw [e] at h1; cases h1
  | some y => rw [e] at h1; exact ⟨y, rfl, (Option.some.inj h1).symm⟩
/-! ### by the first part that is not 0 -/
theorem gcd1_eq {a b : List Int} {u v : Int} (ha : gcdL a = 1) (hb : gcdL b = 1) (h : a.map (fun x => x * v) = b.map fun x => x * u) : u.natAbs = v.natAbs := by
  have h1 := congrArg gcdL h
  rw [gcdL_mul, gcdL_mul, ha, hb, Nat.one_mul, Nat.one_mul] at h1
  exact h1.symm
theorem list_ext {a b : List Int} (hl : a.length = b.length) (h : ∀ (i : Nat) (x y : Int), a[i]? = some x → b[i]? = some y → x = y) : a = b := by
  refine List.ext_getElem? fun i => ?_
  by_cases c : i < a.length
  · rw [List.getElem?_eq_getElem c, List.getElem?_eq_getElem (by omega)]
    exact congrArg some (h i _ _ (List.getElem?_eq_getElem c) (List.getElem?_eq_getElem (by omega)))
  · rw [List.getElem?_eq_none (by omega), List.getElem?_eq_none (by omega)]
/-- all parts of the one are in proportion to those of the other, by the places m and o of spot i -/
def prop (a b : List Int) (m o : Int) : Prop := ∀ (i : Nat) (x y : Int), a[i]? = some x → b[i]? = some y → x * o = y * m
theorem red_eq_prop {a b : List Int} (hl : a.length = b.length) (ha : gcdL a ≠ 0) (hb : gcdL b ≠ 0) {i : Nat} {m o : Int} (hm : a[i]? = some m) (ho : b[i]? = some o) (e : reducedF a = reducedF b) : prop a b m o := by
  intro j x y hx hy
  obtain ⟨x', h1, rfl⟩ := red_at ha hx
  obtain ⟨y', h2, rfl⟩ := red_at hb hy
  obtain ⟨m', h3, rfl⟩ := red_at ha hm
  obtain ⟨o', h4, rfl⟩ := red_at hb ho
  rw [e, h2] at h1
  rw [e, h4] at h3
  cases h1
  cases h3
  simp only [Int.mul_comm, Int.mul_assoc, Int.mul_left_comm]
theorem gcdL_ne {a : List Int} {i : Nat} {m : Int} (hm : a[i]? = some m) (h : m ≠ 0) : gcdL a ≠ 0 := fun e => h (gcdL_zero.mp e m (List.mem_of_getElem? hm))
/-- in proportion: the reduced ones are the same, up to the sign -/
theorem prop_red {a b : List Int} (hl : a.length = b.length) {i : Nat} {m o : Int} (hm : a[i]? = some m) (ho : b[i]? = some o) (m0 : m ≠ 0) (o0 : o ≠ 0) (h : prop a b m o) : (0 < m * o → reducedF a = reducedF b) ∧ (m * o < 0 → reducedF a = (reducedF b).map fun x => -x) := by
  have ha := gcdL_ne hm m0
  have hb := gcdL_ne ho o0
  obtain ⟨m', h3, em⟩ := red_at ha hm
  obtain ⟨o', h4, eo⟩ := red_at hb ho
  have ga : (0 : Int) < ((gcdL a : Nat) : Int) := by omega
  have gb : (0 : Int) < ((gcdL b : Nat) : Int) := by omega
  generalize hga : ((gcdL a : Nat) : Int) = p at *
  generalize hgb : ((gcdL b : Nat) : Int) = q at *
  have rl : (reducedF a).length = (reducedF b).length := by rw [red_len, red_len, hl]
  have key : ∀ (j : Nat) (x y : Int), (reducedF a)[j]? = some x → (reducedF b)[j]? = some y → x * o' = y * m' := by
    intro j x y hx hy
    have hja : j < a.length := by rw [← red_len a]; exact (List.getElem?_eq_some_iff.mp hx).1
    obtain ⟨x', g1, g2⟩ := red_at ha (List.getElem?_eq_getElem hja)
    obtain ⟨y', g3, g4⟩ := red_at hb (List.getElem?_eq_getElem (show j < b.length by omega))
    rw [hx] at g1; cases g1
    rw [hy] at g3; cases g3
    have := h j _ _ (List.getElem?_eq_getElem hja) (List.getElem?_eq_getElem (show j < b.length by omega))
    rw [g2, g4, em, eo, hga, hgb] at this
    have h5 : (p * q) * (x * o') = (p * q) * (y * m') := by
      have e1 : x * p * (o' * q) = (p * q) * (x * o') := by simp only [Int.mul_comm, Int.mul_assoc, Int.mul_left_comm]
      have e2 : y * q * (m' * p) = (p * q) * (y * m') := by simp only [Int.mul_comm, Int.mul_assoc, Int.mul_left_comm]
      rw [← e1, ← e2]; exact this
    exact Int.eq_of_mul_eq_mul_left (Int.ne_of_gt (Int.mul_pos ga gb)) h5
  have maps : (reducedF a).map (fun x => x * o') = (reducedF b).map fun x => x * m' := by
    refine list_ext (by rw [List.length_map, List.length_map, rl]) fun j x y hx hy => ?_
    rw [List.getElem?_map] at hx hy
    cases e1 : (reducedF a)[j]? with
    | none => rw [e1] at hx; cases hx
    | some x' => cases e2 : (reducedF b)[j]? with
      | none => rw [e2] at hy; cases hy
      | some y' =>
        rw [e1] at hx; rw [e2] at hy
        cases hx; cases hy
        exact key j x' y' e1 e2
  have abs := gcd1_eq (u := m') (v := o') (red_gcd ha) (red_gcd hb) maps
  have m1 : m' ≠ 0 := fun e => m0 (by rw [em, e, Int.zero_mul])
  have o1 : o' ≠ 0 := fun e => o0 (by rw [eo, e, Int.zero_mul])
  have sgnm : m * o = (m' * o') * (p * q) := by rw [em, eo]; simp only [Int.mul_comm, Int.mul_assoc, Int.mul_left_comm]
  have pq := Int.mul_pos ga gb
  constructor
  · intro hp
    have : m' = o' := by
      rcases Int.natAbs_eq_natAbs_iff.mp abs with e | e
      · exact e
      · rw [sgnm, e] at hp
        have h7 : -o' * o' * (p * q) ≤ 0 := by
          have : 0 ≤ o' * o' * (p * q) := Int.mul_nonneg (by rcases Int.le_total 0 o' with z | z; exact Int.mul_nonneg z z; exact Int.mul_nonneg_of_nonpos_of_nonpos z z) (Int.le_of_lt pq)
          rw [Int.neg_mul, Int.neg_mul]; omega
        omega
    refine list_ext rl fun j x y hx hy => ?_
    have := key j x y hx hy
    rw [this |> fun z => ‹m' = o'›] at this
    exact Int.eq_of_mul_eq_mul_right o1 this
  · intro hp
    have : m' = -o' := by
      rcases Int.natAbs_eq_natAbs_iff.mp abs with e | e
      · rw [sgnm, e] at hp
        have h7 : 0 ≤ o' * o' * (p * q) := Int.mul_nonneg (by rcases Int.le_total 0 o' with z | z; exact Int.mul_nonneg z z; exact Int.mul_nonneg_of_nonpos_of_nonpos z z) (Int.le_of_lt pq)
        omega
      · exact e
    refine list_ext (by rw [List.length_map, rl]) fun j x y hx hy => ?_
    rw [List.getElem?_map] at hy
    cases e2 : (reducedF b)[j]? with
    | none => rw [e2] at hy; cases hy
    | some y' =>
      rw [e2] at hy
      have hy : -y' = y := Option.some.inj hy
      have h8 := key j x y' hx e2
      rw [this] at h8
      have h9 : x * o' = (-y') * o' := by rw [h8, Int.mul_neg, Int.neg_mul]
      rw [← hy]
      exact Int.eq_of_mul_eq_mul_right o1 h9
theorem red_neg (xs : List Int) : reducedF (xs.map fun x => -x) = (reducedF xs).map fun x => -x := by
  unfold reducedF
  rw [gcdL_neg]
  split
  · rfl
  · rw [List.map_map, List.map_map]
    refine List.map_congr_left fun x hx => ?_
    show -x / _ = -(x / _)
    exact Int.neg_ediv_of_dvd (gcdL_dvd hx)
/-- the law's own reckoning -/
def firstNz : List Int → Option Nat
  | [] => none
  | x :: xs => if x = 0 then (firstNz xs).map (· + 1) else some 0
theorem firstNz_none {xs : List Int} : firstNz xs = none ↔ ∀ x ∈ xs, x = 0 := by
  induction xs with
  | nil => simp [firstNz]
  | cons x xs ih =>
    unfold firstNz
    by_cases c : x = 0
    · rw [if_pos c]
      simp [c, ih]
    · rw [if_neg c]
      simp [c]
theorem firstNz_some {xs : List Int} {i : Nat} (h : firstNz xs = some i) : ∃ m, xs[i]? = some m ∧ m ≠ 0 := by
  induction xs generalizing i with
  | nil => simp [firstNz] at h
  | cons x xs ih =>
    unfold firstNz at h
    by_cases c : x = 0
    · rw [if_pos c] at h
      cases e : firstNz xs with
      | none => rw [e] at h; cases h
      | some j =>
        rw [e] at h
        have h : j + 1 = i := Option.some.inj h
        subst h
        obtain ⟨m, h1, h2⟩ := ih e
        exact ⟨m, by simpa using h1, h2⟩
    · rw [if_neg c] at h
      have h : 0 = i := Option.some.inj h
      subst h
      exact ⟨x, rfl, c⟩
def propB (a b : List Int) (m o : Int) : Bool := (a.zip b).all fun q => decide (q.1 * o = q.2 * m)
theorem propB_iff {a b : List Int} (hl : a.length = b.length) {m o : Int} : propB a b m o = true ↔ prop a b m o := by
  unfold propB
  rw [List.all_eq_true]
  constructor
  · intro h i x y hx hy
    have hm : (x, y) ∈ a.zip b := List.mem_of_getElem? (List.getElem?_zip_eq_some.mpr ⟨hx, hy⟩)
    simpa using h _ hm
  · rintro h ⟨x, y⟩ hq
    obtain ⟨i, hi⟩ := List.getElem?_of_mem hq
    rw [List.getElem?_zip_eq_some] at hi
    simpa using h i x y hi.1 hi.2
def lawLike (a b : List Int) : Int := match firstNz a with
  | none => 0
  | some i => let m := (a[i]?).getD 0; let o := (b[i]?).getD 0
    if o = 0 then 0 else if propB a b m o = false then 0 else sgn (m * o)
theorem like_law {a b : List Int} (hl : a.length = b.length) : likeF a b = lawLike a b := by
  unfold likeF lawLike
  cases e : firstNz a with
  | none =>
    have h0 := gcdL_zero.mpr (firstNz_none.mp e)
    rw [red_zero h0, if_pos h0]
  | some i =>
    obtain ⟨m, hm, m0⟩ := firstNz_some e
    have ha := gcdL_ne hm m0
    have hi := (List.getElem?_eq_some_iff.mp hm).1
    obtain ⟨o, ho⟩ : ∃ o, b[i]? = some o := ⟨_, List.getElem?_eq_getElem (show i < b.length by omega)⟩
    have hg : ¬ gcdL (reducedF a) = 0 := by rw [red_gcd ha]; decide
    rw [if_neg hg]
    simp only [hm, ho, Option.getD_some]
    have hob : (b.map fun x => -x)[i]? = some (-o) := by rw [List.getElem?_map, ho]; rfl
    have hlb : a.length = (b.map fun x => -x).length := by rw [List.length_map, hl]
    by_cases o0 : o = 0
    · rw [if_pos o0]
      obtain ⟨m', h1, h2⟩ := red_at ha hm
      have m1 : m' ≠ 0 := fun z => m0 (by rw [h2, z, Int.zero_mul])
      have no : ∀ c : List Int, c[i]? = some 0 → ¬ reducedF a = reducedF c := by
        intro c hc z
        rw [z] at h1
        by_cases gc : gcdL c = 0
        · rw [red_zero gc, hc] at h1
          exact m1 (Option.some.inj h1).symm
        · obtain ⟨c', h3, h4⟩ := red_at gc hc
          rw [h3] at h1
          have : c' = m' := Option.some.inj h1
          have gp : ((gcdL c : Nat) : Int) ≠ 0 := by omega
          rcases Int.mul_eq_zero.mp h4.symm with z | z
          · exact m1 (by rw [← this, z])
          · exact gp z
      rw [if_neg (no b (by rw [ho, o0])), if_neg (no _ (by rw [hob, o0]; rfl))]
    · rw [if_neg o0]
      have hb := gcdL_ne ho o0
      have hbn : gcdL (b.map fun x => -x) ≠ 0 := by rw [gcdL_neg]; exact hb
      by_cases hp : prop a b m o
      · have hpB : propB a b m o = true := (propB_iff hl).mpr hp
        have hnf : ¬ propB a b m o = false := by rw [hpB]; decide
        rw [if_neg hnf]
        obtain ⟨q1, q2⟩ := prop_red hl hm ho m0 o0 hp
        have mo : m * o ≠ 0 := Int.mul_ne_zero m0 o0
        unfold sgn
        by_cases s : m * o > 0
        · rw [if_pos s, if_pos (q1 s)]
        · have s2 : m * o < 0 := by omega
          rw [if_neg s, if_pos s2, red_neg, if_pos (q2 s2), if_neg]
          intro z
          -- then the part would be its own negative
          obtain ⟨m', h1, h2⟩ := red_at ha hm
          have h3 := q2 s2
          rw [← z] at h3
          have h4 : (reducedF a)[i]? = ((reducedF a).map fun x => -x)[i]? := congrArg (fun l => l[i]?) h3
          rw [List.getElem?_map, h1] at h4
          have h5 : m' = -m' := Option.some.inj h4
          exact m0 (by rw [h2, show m' = 0 by omega, Int.zero_mul])
      · have hpB : propB a b m o = false := by
          cases q : propB a b m o with
          | false => rfl
          | true => exact absurd ((propB_iff hl).mp q) hp
        rw [if_pos hpB, if_neg fun z => hp (red_eq_prop hl ha hb hm ho z), if_neg fun z => ?_]
        have := red_eq_prop hlb ha hbn hm hob z
        refine hp fun j x y hx hy => ?_
        have h6 := this j x (-y) hx (by rw [List.getElem?_map, hy]; rfl)
        rw [Int.mul_neg, Int.neg_mul] at h6
        omega
/-- the places of the parts that are not 0 -/
def spotsF (xs : List Int) : List Nat := (List.range xs.length).filter fun i => decide ((xs[i]?).getD 0 ≠ 0)
theorem spots_cons (x : Int) (xs : List Int) : spotsF (x :: xs) = (if x ≠ 0 then [0] else []) ++ (spotsF xs).map (· + 1) := by
  unfold spotsF
  rw [List.length_cons, List.range_succ_eq_map, List.filter_cons, List.filter_map]
  have e : ((fun i => decide (((x :: xs)[i]?).getD 0 ≠ 0)) ∘ Nat.succ) = fun i => decide ((xs[i]?).getD 0 ≠ 0) := by
    funext i
    simp
  rw [e]
  by_cases c : x = 0
  · simp [c]
  · simp [c]
theorem spots_first : ∀ xs : List Int, firstNz xs = (spotsF xs).head?
  | [] => rfl
  | x :: xs => by
    rw [spots_cons]
    unfold firstNz
    by_cases c : x = 0
    · rw [if_pos c, if_neg (by simpa using c), List.nil_append, List.head?_map, spots_first xs]
    · rw [if_neg c, if_pos c]
      rfl
/-- the places out of proportion -/
def offF (a b : List Int) (m o : Int) : List Nat := (List.range a.length).filter fun i => decide ((a[i]?).getD 0 * o ≠ (b[i]?).getD 0 * m)
theorem off_nil {a b : List Int} (hl : a.length = b.length) {m o : Int} : offF a b m o = [] ↔ propB a b m o = true := by
  rw [propB_iff hl]
  unfold offF
  rw [List.filter_eq_nil_iff]
  constructor
  · intro h i x y hx hy
    have := h i (List.mem_range.mpr (List.getElem?_eq_some_iff.mp hx).1)
    rw [hx, hy] at this
    simpa using this
  · intro h i hi
    rw [List.mem_range] at hi
    have := h i a[i] b[i] (List.getElem?_eq_getElem hi) (List.getElem?_eq_getElem (by omega))
    rw [List.getElem?_eq_getElem hi, List.getElem?_eq_getElem (by omega)]
    simpa using this
end Fm

set_option Elab.async false
set_option linter.all false
set_option maxRecDepth 100000
set_option maxHeartbeats 0
/-! Forms that are like each other. -/
namespace Lv
open PySem PySem.Spec PyProof.Rows L2 OwX Fm
local macro_rules | `(tactic| walk_at "side") => `(tactic| first
  | exact (show CMul _ _ from .inl ⟨by decide, by decide⟩) | exact (show CMul _ _ from .inr ⟨by decide, by decide⟩) | exact (show CMul _ _ from .inl ⟨by omega, by omega⟩) | exact (show CMul _ _ from .inr ⟨by omega, by omega⟩)
  | exact (show CPow _ _ from ⟨by decide, by decide, by decide⟩)
  | exact (show CDiv _ _ from ⟨by decide, by decide⟩) | exact (show CDiv _ _ from ⟨by omega, by omega⟩)
  | exact (show (0 : Int) < _ by decide) | exact (show (0 : Int) < _ by omega) | exact (show ¬ (_ : Int) = 0 by decide) | exact (show ¬ (_ : Int) = 0 by omega) | assumption)
local macro_rules | `(tactic| walk_at "hp") => `(tactic| first
  | assumption | exact upd_same
  | (refine' SqL.of ?h1; (case h1 => walk_at "hp")) | (refine' SqT.of ?h1; (case h1 => walk_at "hp"))
  | (refine' Rd.new_app ?h1 ?h2; (case h1 => assumption); (case h2 => walk_at "hp"))
  | (refine' Rd.upd_app ?h1 ?h2; (case h1 => first | assumption | exact Ne.symm (by assumption)); (case h2 => walk_at "hp"))
  | (refine' Rd.ext_app ?h1 ?h2; (case h1 => assumption); (case h2 => walk_at "hp"))
  | (refine' Rd.ext_L ?h1 ?h2; (case h1 => assumption); (case h2 => walk_at "hp"))
  | (refine' Rd.ext_T ?h1 ?h2; (case h1 => assumption); (case h2 => walk_at "hp")))
local macro_rules | `(tactic| walk_at "go") => `(tactic| repeat (first
  | with_reducible refine Rd.con ?_
  | ((with_reducible refine' Rd.var ?h1 ?_); (case h1 => rfl))
  | with_reducible refine Rd.op ?_
  | with_reducible refine Rd.un ?_
  | with_reducible refine Rd.i0 ?_
  | with_reducible refine Rd.iu ?_
  | ((with_reducible refine Rd.iC ?h1 ?_); (case h1 => walk_at "side"))
  | with_reducible refine Rd.nil ?_
  | with_reducible refine Rd.cons ?_
  | with_reducible refine Rd.cb ?_
  | with_reducible refine Rd.int1 ?_
  | with_reducible refine Rd.intB ?_
  | with_reducible refine Rd.maxI ?_
  | with_reducible refine Rd.minI ?_
  | with_reducible refine Rd.blx ?_
  | with_reducible refine Rd.tst ?_
  | with_reducible refine Rd.tb_ ?_
  | with_reducible refine Rd.not_ ?_
  | with_reducible refine Rd.and_ ?_
  | with_reducible refine Rd.or_ ?_
  | with_reducible refine Rd.ifx ?_
  | with_reducible refine Rd.chain ?_
  | with_reducible refine Rd.andV ?_
  | with_reducible refine Rd.orV ?_
  | with_reducible refine Rd.notV ?_
  | with_reducible refine Rd.seq ?_
  | with_reducible refine Rd.asg ?_
  | with_reducible refine Rd.name ?_
  | with_reducible refine Rd.ret ?_
  | with_reducible refine Rd.ifS ?_
  | with_reducible refine Rd.next ?_
  | with_reducible refine Rd.drop ?_
  | with_reducible refine Rd.gsub ?_
  | with_reducible refine Rd.cr ?_
  | with_reducible refine Rd.crX ?_
  | with_reducible refine Rd.ixOS ?_
  | ((with_reducible refine' Rd.xfv ?h1 ?h2 ?h3 ?_); (case h1 => walk_at "hp"); (case h2 => rfl); (case h3 => rfl))
  | ((with_reducible refine' Rd.bmLv ?h1 ?h2 ?_); (case h1 => rfl); (case h2 => walk_at "hp"))
  | ((with_reducible refine' Rd.countL ?h1 ?_); (case h1 => walk_at "hp"))
  | ((with_reducible refine' Rd.sumL ?h1 ?_); (case h1 => walk_at "hp"))
  | ((with_reducible refine' Rd.listL ?h1 ?_); (case h1 => walk_at "hp"))
  | ((with_reducible refine' Rd.listT ?h1 ?_); (case h1 => walk_at "hp"))
  | with_reducible refine Rd.isNn ?_
  | with_reducible refine Rd.isNr ?_
  | with_reducible refine Rd.notNn ?_
  | with_reducible refine Rd.notNr ?_
  | with_reducible refine Rd.isB ?_
  | with_reducible refine Rd.notBtt ?_
  | with_reducible refine Rd.notBff ?_
  | with_reducible refine Rd.notBtf ?_
  | with_reducible refine Rd.notBft ?_
  | with_reducible refine Rd.notB ?_
  | with_reducible refine Rd.smeth ?_
  | with_reducible refine Rd.sl ?_
  | with_reducible refine Rd.po0 ?_
  | with_reducible refine Rd.poI ?_
  | with_reducible refine Rd.ixi ?_
  | with_reducible refine Rd.par ?_
  | with_reducible refine Rd.par2 ?_
  | with_reducible refine Rd.mkRS ?_
  | with_reducible refine Rd.callRS ?_
  | with_reducible refine Rd.mk ?_
  | with_reducible refine Rd.mkX ?_
  | with_reducible refine Rd.sF ?_
  | with_reducible refine Rd.dIn ?_
  | with_reducible refine Rd.dNi ?_
  | with_reducible refine Rd.dctL ?_
  | with_reducible refine Rd.dctT ?_
  | with_reducible refine Rd.forE ?_
  | with_reducible refine Rd.lc2T ?_
  | with_reducible refine Rd.lc2L ?_
  | with_reducible refine Rd.lc2R ?_
  | with_reducible refine Rd.inR2 ?_
  | with_reducible refine Rd.inR1 ?_
  | with_reducible refine Rd.inT ?_
  | with_reducible refine Rd.inL ?_
  | with_reducible refine Rd.lcT ?_
  | with_reducible refine Rd.lcL ?_
  | with_reducible refine Rd.lcR ?_
  | with_reducible refine Rd.forT ?_
  | with_reducible refine Rd.forL ?_
  | with_reducible refine Rd.forR ?_
  | with_reducible refine Rd.yes ?_
  | with_reducible refine iteT ?_
  | with_reducible refine iteF ?_
  | with_reducible refine Rd.iteNT ?_
  | with_reducible refine Rd.iteNF ?_
  | with_reducible refine Rd.tup ?_
  | with_reducible refine Rd.lst ?_
  | ((with_reducible refine Rd.eqs ?h1 ?_); (case h1 => rfl))
  | ((with_reducible refine Rd.nes ?h1 ?_); (case h1 => rfl))
  | ((with_reducible refine' Rd.ixL ?h1 ?h2 ?_); (case h1 => walk_at "hp"); (case h2 => first | rfl | assumption))
  | ((with_reducible refine' Rd.ixT ?h1 ?h2 ?_); (case h1 => walk_at "hp"); (case h2 => first | rfl | assumption))
  | ((with_reducible refine' Rd.lenL ?h1 ?_); (case h1 => walk_at "hp"))
  | ((with_reducible refine' Rd.lenT ?h1 ?_); (case h1 => walk_at "hp"))
  | ((with_reducible refine' Rd.setL ?h1 ?h2 ?_); (case h1 => walk_at "hp"); (case h2 => first | rfl | assumption))))
section
variable {base : Heap} {P : Program} {w : World} {mg : Str → Option Value} {K : PySem.W.Frag}
def sp_common_divisor : Sp := fun vs H Q _ => ∃ (a b : Int), vs = [.int a, .int b] ∧ Q (.int (Int.gcd a b : Nat)) H
theorem ok_common_divisor (T : Tx K mg) : FnR P w K mg base (L2.CX P w) 1 (a_common_divisor K) sp_common_divisor := by
  refine fnr T.d_common_divisor sc_common_divisor (fun _ _ _ _ _ _ us hl => match us, hl with | [_, _], _ => rfl) (fun vs H Q E h => ?_) (fun cdv A outer s H vs Q E hr h => ?_)
  · obtain ⟨a, b, rfl, _⟩ := h
    rfl
  · obtain ⟨a, b, rfl, k⟩ := h
    refine ⟨_, (pss_cons (ps_par (i := 0) (j := 1) rfl sc_common_divisor.nd rfl rfl (by decide) rfl rfl (pa_cons (pe_callB call_abs (by rfl) T.f_abs Rd.bt_abs (pa_cons (pv 0) pa_nil)) (pa_cons (pe_callB call_abs (by rfl) T.f_abs Rd.bt_abs (pa_cons (pv 1) pa_nil)) pa_nil)) rfl) (pss_cons (ps_while (passes_of rfl) (pt_truth (pv 1) (fun _ => rfl)) (pss_one (ps_par (i := 0) (j := 1) rfl sc_common_divisor.nd rfl rfl (by decide) rfl rfl (pa_cons (pv 1) (pa_cons (pe_op op_modN (pv 0) (pv 1)) pa_nil)) rfl))) (pss_one (ps_ret (pv 0))))), ?_⟩
    walk_at "go"
    refine ⟨a, rfl, ?_⟩
    walk_at "go"
    refine ⟨b, rfl, ?_⟩
    walk_at "go"
    have ab : ∀ x : Int, (if x < 0 then -x else x) = (x.natAbs : Int) := fun x => by split <;> omega
    rw [ab, ab]
    refine ⟨fun m σ H' => ∃ x y : Nat, m = y ∧ σ = [some (.int x), some (.int y)] ∧ H' = H ∧ Nat.gcd x y = Int.gcd a b, ⟨_, a.natAbs, b.natAbs, rfl, rfl, rfl, rfl⟩, ?_⟩
    rintro m σ H' ⟨x, y, rfl, rfl, rfl, eg⟩
    walk_at "go"
    refine ⟨_, rfl, ?_⟩
    by_cases hm : m = 0
    · subst hm
      show (if (((0 : Nat) : Int) != 0) = true then _ else _)
      rw [show ((((0 : Nat) : Int)) != 0) = false from rfl, if_neg Bool.false_ne_true]
      walk_at "go"
      rw [Nat.gcd_zero_right] at eg
      rw [eg]
      exact k
    · have hb : (((m : Nat) : Int) != 0) = true := by simp; omega
      show (if (((m : Nat) : Int) != 0) = true then _ else _)
      rw [hb, if_pos rfl]
      refine ⟨fun σ' H'' => ∃ x y : Nat, y < m ∧ σ' = [some (.int x), some (.int y)] ∧ H'' = H' ∧ Nat.gcd x y = Int.gcd a b, fun σ' H'' ⟨x, y, hy, e1, e2, e3⟩ => ⟨y, hy, x, y, rfl, e1, e2, e3⟩, ?_⟩
      walk_at "go"
      refine ⟨m, x % m, Nat.mod_lt _ (by omega), ?_, rfl, ?_⟩
      · rw [Int.fmod_eq_emod_of_nonneg _ (by omega)]
        simp [L2.start]
      · rw [← eg, Nat.gcd_comm x m, Nat.gcd_rec m x, Nat.gcd_comm]
def sp_divisor_of : Sp := fun vs H Q _ => ∃ (a : Addr) (xs : List Int), vs = [.ref a] ∧ SqI H a xs ∧ Q (.int (gcdL xs : Nat)) H
theorem gcd_snoc (l : List Int) (z : Int) : gcdL (l ++ [z]) = Int.gcd (gcdL l : Nat) z := by
  unfold gcdL
  rw [List.foldl_append]
  rfl
theorem ok_divisor_of (T : Tx K mg) : FnR P w K mg base (L2.CX P w) 3 (a_divisor_of K) sp_divisor_of := by
  refine fnr T.d_divisor_of sc_divisor_of (fun _ _ _ _ _ _ us hl => match us, hl with | [_], _ => rfl) (fun vs H Q E h => ?_) (fun cdv A outer s H vs Q E hr h => ?_)
  · obtain ⟨a, xs, rfl, _⟩ := h
    rfl
  · obtain ⟨a, xs, rfl, hx, k⟩ := h
    rcases hx with hx | hx
    · refine ⟨_, (pss_cons (sx 1 sc_divisor_of.nd pe_int) (pss_cons (ps_for (passes_of rfl) rfl (GW.pi_list (K := K) (pv 0)) (gx 2 sc_divisor_of.nd) (pss_one (sx 1 sc_divisor_of.nd (pe_cr (ok_common_divisor T) (hr.mono (by decide)) (kp_of T.d_common_divisor) (by rfl) T.g_common_divisor (pa_cons (pv 1) (pa_cons (pv 2) pa_nil)))))) (pss_one (ps_ret (pv 1))))), ?_⟩
      walk_at "go"
      refine ⟨a, rfl, ⟨_, SqL.of hx⟩, ?_⟩
      refine for_it (Rd.walk_listM (K := K) (a := a) (xs := xs) (emb := V.int)) (fun i σ H' => ∃ v2, σ = [some (.ref a), some (.int (gcdL (xs.take i) : Nat)), v2] ∧ H' = H) ⟨_, rfl, rfl⟩ (fun i σ H' _ ⟨_, _, e⟩ => by rw [e]; exact SqL.of hx) ?_ ?_
      · rintro i x σ H1 H2 hi ⟨v2, rfl, rfl⟩ y
        obtain ⟨it, hit, rfl, rfl⟩ := Rd.yat i _ x H2 y
        walk_at "go"
        refine ⟨_, _, rfl, ?_⟩
        walk_at "go"
        exact ⟨_, by rw [Rd.take_snoc hit, gcd_snoc]; rfl, rfl⟩
      · rintro σ H1 ⟨v2, rfl, rfl⟩
        rw [List.take_length]
        walk_at "go"
        exact k
    · refine ⟨_, (pss_cons (sx 1 sc_divisor_of.nd pe_int) (pss_cons (ps_for (passes_of rfl) rfl (GW.pi_tup (K := K) (pv 0)) (gx 2 sc_divisor_of.nd) (pss_one (sx 1 sc_divisor_of.nd (pe_cr (ok_common_divisor T) (hr.mono (by decide)) (kp_of T.d_common_divisor) (by rfl) T.g_common_divisor (pa_cons (pv 1) (pa_cons (pv 2) pa_nil)))))) (pss_one (ps_ret (pv 1))))), ?_⟩
      walk_at "go"
      refine ⟨a, rfl, ⟨_, SqT.of hx⟩, ?_⟩
      refine for_it (Rd.walk_tupM (K := K) (a := a) (xs := xs) (emb := V.int)) (fun i σ H' => ∃ v2, σ = [some (.ref a), some (.int (gcdL (xs.take i) : Nat)), v2] ∧ H' = H) ⟨_, rfl, rfl⟩ (fun i σ H' _ ⟨_, _, e⟩ => by rw [e]; exact SqT.of hx) ?_ ?_
      · rintro i x σ H1 H2 hi ⟨v2, rfl, rfl⟩ y
        obtain ⟨it, hit, rfl, rfl⟩ := Rd.yat i _ x H2 y
        walk_at "go"
        refine ⟨_, _, rfl, ?_⟩
        walk_at "go"
        exact ⟨_, by rw [Rd.take_snoc hit, gcd_snoc]; rfl, rfl⟩
      · rintro σ H1 ⟨v2, rfl, rfl⟩
        rw [List.take_length]
        walk_at "go"
        exact k
def sp_reduced : Sp := fun vs H Q _ => ∃ (a : Addr) (xs : List Int), vs = [.ref a] ∧ SqI H a xs ∧ xs.length ≤ 1000 ∧ (∀ x ∈ xs, -(2 ^ 200) < x ∧ x < 2 ^ 200) ∧ ∀ t H', Ext H H' → H' t = some (.tup ((reducedF xs).map V.int)) → Q (.ref t) H'
theorem gcd_small {xs : List Int} (hx : ∀ x ∈ xs, -(2 ^ 200) < x ∧ x < 2 ^ 200) : gcdL xs < 2 ^ 200 := by
  by_cases h : gcdL xs = 0
  · rw [h]; decide
  · have : ¬ ∀ x ∈ xs, x = 0 := fun z => h (gcdL_zero.mpr z)
    obtain ⟨x, hxm, x0⟩ : ∃ x ∈ xs, x ≠ 0 := by
      apply Classical.byContradiction
      intro n
      exact this fun x hx => Classical.byContradiction fun z => n ⟨x, hx, z⟩
    have h1 := Int.le_of_dvd (by omega : 0 < (x.natAbs : Int)) (Int.dvd_natAbs.mpr (gcdL_dvd hxm))
    have := hx x hxm
    omega
theorem ok_reduced (T : Tx K mg) : FnR P w K mg base (L2.CX P w) 4 (a_reduced K) sp_reduced := by
  refine fnr T.d_reduced sc_reduced (fun _ _ _ _ _ _ us hl => match us, hl with | [_], _ => rfl) (fun vs H Q E h => ?_) (fun cdv A outer s H vs Q E hr h => ?_)
  · obtain ⟨a, xs, rfl, _⟩ := h
    rfl
  · obtain ⟨a, xs, rfl, hx, hn, hb, k⟩ := h
    have gs := gcd_small hb
    have div : ∀ {i : Int}, gcdL xs ≠ 0 → CDivW i (gcdL xs : Nat) := fun {i} g0 => wide_div (by omega) (b := 200) (by simpa using gs) (by decide) (by decide)
    rcases hx with hx | hx
    · refine ⟨_, (pss_cons (sx 1 sc_reduced.nd (pe_cr (ok_divisor_of T) (hr.mono (by decide)) (kp_of T.d_divisor_of) (by rfl) T.g_divisor_of (pa_cons (pv 0) pa_nil))) (pss_cons (ps_if (pt_cmpR op_eq (pv 1) pe_int (nomark _)) (pss_one (ps_ret (pe_callTy (Rd.c_tuple (K := K)) (by rfl) T.f_tuple Rd.bt_tuple (pa_cons (pv 0) pa_nil)))) pss_nil) (pss_one (ps_ret (pe_callTy (Rd.c_tuple (K := K)) (by rfl) T.f_tuple Rd.bt_tuple (pa_cons (pe_lc (own := [("number", 2)]) rfl sc_reduced.nd (GW.pi_list (K := K) (pv 0)) (blkOk_by (own := [("number", 2)]) (N := N_reduced) (sc := defScope s_reduced) (by decide +kernel)) (fun _ _ _ _ _ => (gx 2 sc_reduced.nd)) (fun _ _ _ _ _ => pts_nil) (fun _ _ _ _ _ => (pe_op op_fdivW (pv 2) (pv 1)))) pa_nil)))))), ?_⟩
      walk_at "go"
      refine ⟨a, xs, rfl, .inl hx, ?_⟩
      walk_at "go"
      refine Rd.ited (fun c => ?_) (fun c => ?_)
      · have g0 : gcdL xs = 0 := by have := V.int.inj c; omega
        walk_at "go"
        refine Rd.tupL (SqL.of hx) fun t ht => k t _ (Ext.upd ht) (by rw [upd_same, red_zero g0])
      · have g0 : gcdL xs ≠ 0 := fun z => c (by rw [z]; rfl)
        walk_at "go"
        refine ⟨a, rfl, ⟨_, SqL.of hx⟩, fun D hD => ?_⟩
        refine Rd.lcE (Rd.walk_listM (K := K) (a := a) (xs := xs) (emb := V.int)) Rd.yat (by omega) (fun _ => true) (fun x y _ => y = .int (x / (gcdL xs : Nat))) (fun _ _ _ _ _ h => h) hD (fun H' e => SqL.of (e _ _ hx)) ?_ ?_
        · intro i it H' acc hit e ha Qy Qn ky kn
          walk_at "go"
          refine ⟨rfl, ?_⟩
          walk_at "go"
          refine ⟨_, _, rfl, rfl, div g0, ?_⟩
          exact ky _ _ Rd.ext_rfl rfl rfl
        · intro ys H' e hys pr
          rw [List.filter_eq_self.mpr (fun _ _ => rfl)] at pr
          have q := Rd.paired_map pr
          subst q
          walk_at "go"
          refine Rd.tupL (SqL.of hys) fun t ht => k t _ (e.trans (Ext.upd ht)) ?_
          rw [upd_same]
          unfold reducedF
          rw [if_neg g0, List.map_map]
          rfl
    · refine ⟨_, (pss_cons (sx 1 sc_reduced.nd (pe_cr (ok_divisor_of T) (hr.mono (by decide)) (kp_of T.d_divisor_of) (by rfl) T.g_divisor_of (pa_cons (pv 0) pa_nil))) (pss_cons (ps_if (pt_cmpR op_eq (pv 1) pe_int (nomark _)) (pss_one (ps_ret (pe_callTy (Rd.c_tuple (K := K)) (by rfl) T.f_tuple Rd.bt_tuple (pa_cons (pv 0) pa_nil)))) pss_nil) (pss_one (ps_ret (pe_callTy (Rd.c_tuple (K := K)) (by rfl) T.f_tuple Rd.bt_tuple (pa_cons (pe_lc (own := [("number", 2)]) rfl sc_reduced.nd (GW.pi_tup (K := K) (pv 0)) (blkOk_by (own := [("number", 2)]) (N := N_reduced) (sc := defScope s_reduced) (by decide +kernel)) (fun _ _ _ _ _ => (gx 2 sc_reduced.nd)) (fun _ _ _ _ _ => pts_nil) (fun _ _ _ _ _ => (pe_op op_fdivW (pv 2) (pv 1)))) pa_nil)))))), ?_⟩
      walk_at "go"
      refine ⟨a, xs, rfl, .inr hx, ?_⟩
      walk_at "go"
      refine Rd.ited (fun c => ?_) (fun c => ?_)
      · have g0 : gcdL xs = 0 := by have := V.int.inj c; omega
        walk_at "go"
        exact Rd.tupT (SqT.of hx) (k a _ Rd.ext_rfl (by rw [red_zero g0]; exact hx))
      · have g0 : gcdL xs ≠ 0 := fun z => c (by rw [z]; rfl)
        walk_at "go"
        refine ⟨a, rfl, ⟨_, SqT.of hx⟩, fun D hD => ?_⟩
        refine Rd.lcE (Rd.walk_tupM (K := K) (a := a) (xs := xs) (emb := V.int)) Rd.yat (by omega) (fun _ => true) (fun x y _ => y = .int (x / (gcdL xs : Nat))) (fun _ _ _ _ _ h => h) hD (fun H' e => SqT.of (e _ _ hx)) ?_ ?_
        · intro i it H' acc hit e ha Qy Qn ky kn
          walk_at "go"
          refine ⟨rfl, ?_⟩
          walk_at "go"
          refine ⟨_, _, rfl, rfl, div g0, ?_⟩
          exact ky _ _ Rd.ext_rfl rfl rfl
        · intro ys H' e hys pr
          rw [List.filter_eq_self.mpr (fun _ _ => rfl)] at pr
          have q := Rd.paired_map pr
          subst q
          walk_at "go"
          refine Rd.tupL (SqL.of hys) fun t ht => k t _ (e.trans (Ext.upd ht)) ?_
          rw [upd_same]
          unfold reducedF
          rw [if_neg g0, List.map_map]
          rfl
end
end Lv

set_option Elab.async false
set_option linter.all false
set_option maxRecDepth 100000
set_option maxHeartbeats 0
/-! A form like another, the class's and the law's own. -/
namespace Lv
open PySem PySem.Spec PyProof.Rows L2 OwX Fm
local macro_rules | `(tactic| walk_at "side") => `(tactic| first
  | exact (show CMul _ _ from .inl ⟨by decide, by decide⟩) | exact (show CMul _ _ from .inr ⟨by decide, by decide⟩) | exact (show CMul _ _ from .inl ⟨by omega, by omega⟩) | exact (show CMul _ _ from .inr ⟨by omega, by omega⟩)
  | exact (show CPow _ _ from ⟨by decide, by decide, by decide⟩)
  | exact (show CDiv _ _ from ⟨by decide, by decide⟩) | exact (show CDiv _ _ from ⟨by omega, by omega⟩)
  | exact (show (0 : Int) < _ by decide) | exact (show (0 : Int) < _ by omega) | exact (show ¬ (_ : Int) = 0 by decide) | exact (show ¬ (_ : Int) = 0 by omega) | assumption)
local macro_rules | `(tactic| walk_at "hp") => `(tactic| first
  | assumption | exact upd_same
  | (refine' SqL.of ?h1; (case h1 => walk_at "hp")) | (refine' SqT.of ?h1; (case h1 => walk_at "hp"))
  | (refine' Rd.new_app ?h1 ?h2; (case h1 => assumption); (case h2 => walk_at "hp"))
  | (refine' Rd.upd_app ?h1 ?h2; (case h1 => first | assumption | exact Ne.symm (by assumption)); (case h2 => walk_at "hp"))
  | (refine' Rd.ext_app ?h1 ?h2; (case h1 => assumption); (case h2 => walk_at "hp"))
  | (refine' Rd.ext_L ?h1 ?h2; (case h1 => assumption); (case h2 => walk_at "hp"))
  | (refine' Rd.ext_T ?h1 ?h2; (case h1 => assumption); (case h2 => walk_at "hp")))
local macro_rules | `(tactic| walk_at "go") => `(tactic| repeat (first
  | with_reducible refine Rd.con ?_
  | ((with_reducible refine' Rd.var ?h1 ?_); (case h1 => rfl))
  | with_reducible refine Rd.op ?_
  | with_reducible refine Rd.un ?_
  | with_reducible refine Rd.i0 ?_
  | with_reducible refine Rd.iu ?_
  | ((with_reducible refine Rd.iC ?h1 ?_); (case h1 => walk_at "side"))
  | with_reducible refine Rd.nil ?_
  | with_reducible refine Rd.cons ?_
  | with_reducible refine Rd.cb ?_
  | with_reducible refine Rd.int1 ?_
  | with_reducible refine Rd.intB ?_
  | with_reducible refine Rd.maxI ?_
  | with_reducible refine Rd.minI ?_
  | with_reducible refine Rd.blx ?_
  | with_reducible refine Rd.tst ?_
  | with_reducible refine Rd.tb_ ?_
  | with_reducible refine Rd.not_ ?_
  | with_reducible refine Rd.and_ ?_
  | with_reducible refine Rd.or_ ?_
  | with_reducible refine Rd.ifx ?_
  | with_reducible refine Rd.chain ?_
  | with_reducible refine Rd.andV ?_
  | with_reducible refine Rd.orV ?_
  | with_reducible refine Rd.notV ?_
  | with_reducible refine Rd.seq ?_
  | with_reducible refine Rd.asg ?_
  | with_reducible refine Rd.name ?_
  | with_reducible refine Rd.ret ?_
  | with_reducible refine Rd.ifS ?_
  | with_reducible refine Rd.next ?_
  | with_reducible refine Rd.drop ?_
  | with_reducible refine Rd.gsub ?_
  | with_reducible refine Rd.cr ?_
  | with_reducible refine Rd.crX ?_
  | with_reducible refine Rd.ixOS ?_
  | ((with_reducible refine' Rd.xfv ?h1 ?h2 ?h3 ?_); (case h1 => walk_at "hp"); (case h2 => rfl); (case h3 => rfl))
  | ((with_reducible refine' Rd.bmLv ?h1 ?h2 ?_); (case h1 => rfl); (case h2 => walk_at "hp"))
  | ((with_reducible refine' Rd.countL ?h1 ?_); (case h1 => walk_at "hp"))
  | ((with_reducible refine' Rd.sumL ?h1 ?_); (case h1 => walk_at "hp"))
  | ((with_reducible refine' Rd.listL ?h1 ?_); (case h1 => walk_at "hp"))
  | ((with_reducible refine' Rd.listT ?h1 ?_); (case h1 => walk_at "hp"))
  | with_reducible refine Rd.isNn ?_
  | with_reducible refine Rd.isNr ?_
  | with_reducible refine Rd.notNn ?_
  | with_reducible refine Rd.notNr ?_
  | with_reducible refine Rd.isB ?_
  | with_reducible refine Rd.notBtt ?_
  | with_reducible refine Rd.notBff ?_
  | with_reducible refine Rd.notBtf ?_
  | with_reducible refine Rd.notBft ?_
  | with_reducible refine Rd.notB ?_
  | with_reducible refine Rd.smeth ?_
  | with_reducible refine Rd.sl ?_
  | with_reducible refine Rd.po0 ?_
  | with_reducible refine Rd.poI ?_
  | with_reducible refine Rd.ixi ?_
  | with_reducible refine Rd.par ?_
  | with_reducible refine Rd.par2 ?_
  | with_reducible refine Rd.mkRS ?_
  | with_reducible refine Rd.callRS ?_
  | with_reducible refine Rd.mk ?_
  | with_reducible refine Rd.mkX ?_
  | with_reducible refine Rd.sF ?_
  | with_reducible refine Rd.dIn ?_
  | with_reducible refine Rd.dNi ?_
  | with_reducible refine Rd.dctL ?_
  | with_reducible refine Rd.dctT ?_
  | with_reducible refine Rd.forE ?_
  | with_reducible refine Rd.lc2T ?_
  | with_reducible refine Rd.lc2L ?_
  | with_reducible refine Rd.lc2R ?_
  | with_reducible refine Rd.inR2 ?_
  | with_reducible refine Rd.inR1 ?_
  | with_reducible refine Rd.inT ?_
  | with_reducible refine Rd.inL ?_
  | with_reducible refine Rd.lcT ?_
  | with_reducible refine Rd.lcL ?_
  | with_reducible refine Rd.lcR ?_
  | with_reducible refine Rd.forT ?_
  | with_reducible refine Rd.forL ?_
  | with_reducible refine Rd.forR ?_
  | with_reducible refine Rd.yes ?_
  | with_reducible refine iteT ?_
  | with_reducible refine iteF ?_
  | with_reducible refine Rd.iteNT ?_
  | with_reducible refine Rd.iteNF ?_
  | with_reducible refine Rd.tup ?_
  | with_reducible refine Rd.lst ?_
  | ((with_reducible refine Rd.eqs ?h1 ?_); (case h1 => rfl))
  | ((with_reducible refine Rd.nes ?h1 ?_); (case h1 => rfl))
  | ((with_reducible refine' Rd.ixL ?h1 ?h2 ?_); (case h1 => walk_at "hp"); (case h2 => first | rfl | assumption))
  | ((with_reducible refine' Rd.ixT ?h1 ?h2 ?_); (case h1 => walk_at "hp"); (case h2 => first | rfl | assumption))
  | ((with_reducible refine' Rd.lenL ?h1 ?_); (case h1 => walk_at "hp"))
  | ((with_reducible refine' Rd.lenT ?h1 ?_); (case h1 => walk_at "hp"))
  | ((with_reducible refine' Rd.setL ?h1 ?h2 ?_); (case h1 => walk_at "hp"); (case h2 => first | rfl | assumption))))
section
variable {base : Heap} {P : Program} {w : World} {mg : Str → Option Value} {K : PySem.W.Frag}
def sp_Form_like (K : PySem.W.Frag) : Sp := fun vs H Q E => ∃ (a b : Addr) (xs ys : List Int), vs = [.ref a, .ref b] ∧ FormAt K H a xs ∧ FormAt K H b ys ∧ xs.length ≤ 1000 ∧ (∀ x ∈ xs, -(2 ^ 200) < x ∧ x < 2 ^ 200) ∧ (∀ x ∈ ys, -(2 ^ 200) < x ∧ x < 2 ^ 200) ∧
  (xs.length = ys.length → ∀ H', Ext H H' → Q (.int (likeF xs ys)) H') ∧ (xs.length ≠ ys.length → ∀ d H', Ext H H' → H' d = some (.xd [("count", .int ys.length)]) → E (.ref (He.ga K "BadLength")) (some d) H')
theorem ok_Form_like (T : Tx K mg) : FnR P w K mg base (L2.CX P w) 6 (a_Form_like K) (sp_Form_like K) := by
  obtain ⟨fdN_BadLength, FN_BadLength, bN_BadLength⟩ := ok_BadLength (P := P) (w := w) (base := base) T
  refine fnr T.d_Form_like sc_Form_like (fun _ _ _ _ _ _ us hl => match us, hl with | [_, _], _ => rfl) (fun vs H Q E h => ?_) (fun cdv A outer s H vs Q E hr h => ?_)
  · obtain ⟨a, b, xs, ys, rfl, _⟩ := h
    rfl
  · obtain ⟨a, b, xs, ys, rfl, F, G, hn, hx, hy, k1, k2⟩ := h
    refine ⟨_, (pss_cons (ps_if (pt_cmpR op_ne (pe_callB (Rd.c_len (K := K)) (by rfl) T.f_len Rd.bt_len (pa_cons (GW.fld (K := K) (pv 0)) pa_nil)) (pe_callB (Rd.c_len (K := K)) (by rfl) T.f_len Rd.bt_len (pa_cons (GW.fld (K := K) (pv 1)) pa_nil)) (nomark _)) (pss_one (ps_raise rfl (takes_of rfl rfl rfl rfl) (pmk_oex T.x_BadLength.ox T.x_BadLength.it T.x_BadLength.ti FN_BadLength (hr.mono (by decide)) bN_BadLength .nil passL (by rfl) T.g_BadLength (pa_cons (pe_callB (Rd.c_len (K := K)) (by rfl) T.f_len Rd.bt_len (pa_cons (GW.fld (K := K) (pv 1)) pa_nil)) pa_nil)))) pss_nil) (pss_cons (sx 2 sc_Form_like.nd (pe_cr (ok_reduced T) (hr.mono (by decide)) (kp_of T.d_reduced) (by rfl) T.g_reduced (pa_cons (GW.fld (K := K) (pv 0)) pa_nil))) (pss_cons (ps_if (pt_cmpR op_eq (pe_cr (ok_divisor_of T) (hr.mono (by decide)) (kp_of T.d_divisor_of) (by rfl) T.g_divisor_of (pa_cons (pv 2) pa_nil)) pe_int (nomark _)) (pss_one (ps_ret pe_int)) pss_nil) (pss_cons (ps_if (pt_cmpR (GW.eqD hr.units (K := K)) (pv 2) (pe_cr (ok_reduced T) (hr.mono (by decide)) (kp_of T.d_reduced) (by rfl) T.g_reduced (pa_cons (GW.fld (K := K) (pv 1)) pa_nil)) (nomark _)) (pss_one (ps_ret pe_int)) pss_nil) (pss_cons (ps_if (pt_cmpR (GW.eqD hr.units (K := K)) (pv 2) (pe_cr (ok_reduced T) (hr.mono (by decide)) (kp_of T.d_reduced) (by rfl) T.g_reduced (pa_cons (pe_lc (own := [("part", 3)]) rfl sc_Form_like.nd (GW.pi_tup (K := K) (GW.fld (K := K) (pv 1))) (blkOk_by (own := [("part", 3)]) (N := N_Form_like) (sc := defScope s_Form_like) (by decide +kernel)) (fun _ _ _ _ _ => (gx 3 sc_Form_like.nd)) (fun _ _ _ _ _ => pts_nil) (fun _ _ _ _ _ => (pe_un un_neg (pv 3)))) pa_nil)) (nomark _)) (pss_one (ps_ret (pe_un un_neg pe_int))) pss_nil) (pss_one (ps_ret pe_int))))))), ?_⟩
    walk_at "go"
    refine fld_parts T F rfl fun q hq => ?_
    walk_at "go"
    refine fld_parts T G rfl fun r hr2 => ?_
    walk_at "go"
    rw [List.length_map, List.length_map]
    refine Rd.iten (fun c => ?_) (fun c => ?_)
    · refine mk_ex ?_ (fun R R' m h => ?_)
      · walk_at "go"
        refine fld_parts T G rfl fun r3 hr3 => ?_
        walk_at "go"
        refine ⟨_, rfl, fun d hd => ?_⟩
        rw [List.length_map]
        exact k2 (fun e => c (by rw [e])) d _ (Ext.upd hd) upd_same
      · obtain ⟨vv, h1, aa, C, dx, fs, vq, h2, h3, h4, h5, h6, pp, zz, h7, h8, h9⟩ := h
        exact ⟨vv, h1, aa, C, dx, fs, vq, h2, h3, h4, h5, h6, pp, zz, h7, h8, m _ _ h9⟩
    have c : xs.length = ys.length := by have := V.int.inj c; omega
    have k1 := k1 c
    clear k2
    unfold likeF at k1
    walk_at "go"
    refine fld_parts T F rfl fun q hq => ?_
    walk_at "go"
    refine ⟨q, xs, rfl, .inr hq, hn, hx, fun t H1 e1 ht => ?_⟩
    walk_at "go"
    refine ⟨t, _, rfl, .inr ht, ?_⟩
    walk_at "go"
    refine Rd.ited (fun c1 => ?_) (fun c1 => ?_)
    · have g0 : gcdL (reducedF xs) = 0 := by have := V.int.inj c1; omega
      walk_at "go"
      have := k1 H1 e1
      rw [if_pos g0] at this
      exact this
    have g0 : ¬ gcdL (reducedF xs) = 0 := fun z => c1 (by rw [z]; rfl)
    walk_at "go"
    refine fld_parts T (G.ext e1) rfl fun r hr2 => ?_
    walk_at "go"
    refine ⟨r, ys, rfl, .inr hr2, by omega, hy, fun t2 H2 e2 ht2 => ?_⟩
    refine Rd.eqD Rd.encTInts (Rd.dp_tints (SqT.of (e2 _ _ ht))) (Rd.dp_tints (SqT.of ht2)) ?_
    walk_at "go"
    refine Rd.ited (fun c2 => ?_) (fun c2 => ?_)
    · walk_at "go"
      have := k1 H2 (e1.trans e2)
      rw [if_neg g0, if_pos c2] at this
      exact this
    walk_at "go"
    refine fld_parts T ((G.ext e1).ext e2) rfl fun r hr3 => ?_
    refine ⟨r, rfl, ⟨_, SqT.of hr3⟩, fun D hD => ?_⟩
    refine Rd.lcE (Rd.walk_tupM (K := K) (a := r) (xs := ys) (emb := V.int)) Rd.yat (by omega) (fun _ => true) (fun x y _ => y = .int (-x)) (fun _ _ _ _ _ h => h) hD (fun H' e => SqT.of (e _ _ hr3)) ?_ ?_
    · intro i it H' acc hit e ha Qy Qn ky kn
      walk_at "go"
      refine ⟨rfl, ?_⟩
      walk_at "go"
      exact ky _ _ Rd.ext_rfl rfl rfl
    intro zs H3 e3 hzs pr
    rw [List.filter_eq_self.mpr (fun _ _ => rfl)] at pr
    have q := Rd.paired_map pr
    subst q
    walk_at "go"
    refine ⟨D, ys.map fun x => -x, rfl, .inl (by rw [hzs, List.map_map]; rfl), by rw [List.length_map]; omega, fun x hx => ?_, fun t3 H4 e4 ht3 => ?_⟩
    · obtain ⟨y, hy1, rfl⟩ := List.mem_map.mp hx
      have := hy y hy1
      omega
    refine Rd.eqD Rd.encTInts (Rd.dp_tints (SqT.of (e4 _ _ (e3 _ _ (e2 _ _ ht))))) (Rd.dp_tints (SqT.of ht3)) ?_
    walk_at "go"
    have e := ((e1.trans e2).trans e3).trans e4
    refine Rd.ited (fun c3 => ?_) (fun c3 => ?_)
    · walk_at "go"
      have := k1 H4 e
      rw [if_neg g0, if_neg c2, if_pos c3] at this
      exact this
    · walk_at "go"
      have := k1 H4 e
      rw [if_neg g0, if_neg c2, if_neg c3] at this
      exact this
end
end Lv

set_option Elab.async false
set_option linter.all false
set_option maxRecDepth 100000
set_option maxHeartbeats 0
/-! The law's own look at a form. -/
namespace Lv
open PySem PySem.Spec PyProof.Rows L2 OwX
local macro_rules | `(tactic| walk_at "side") => `(tactic| first
  | exact (show CMul _ _ from .inl ⟨by decide, by decide⟩) | exact (show CMul _ _ from .inr ⟨by decide, by decide⟩) | exact (show CMul _ _ from .inl ⟨by omega, by omega⟩) | exact (show CMul _ _ from .inr ⟨by omega, by omega⟩)
  | exact (show CPow _ _ from ⟨by decide, by decide, by decide⟩)
  | exact (show CDiv _ _ from ⟨by decide, by decide⟩) | exact (show CDiv _ _ from ⟨by omega, by omega⟩)
  | exact (show (0 : Int) < _ by decide) | exact (show (0 : Int) < _ by omega) | exact (show ¬ (_ : Int) = 0 by decide) | exact (show ¬ (_ : Int) = 0 by omega) | assumption)
local macro_rules | `(tactic| walk_at "hp") => `(tactic| first
  | assumption | exact upd_same
  | (refine' SqL.of ?h1; (case h1 => walk_at "hp")) | (refine' SqT.of ?h1; (case h1 => walk_at "hp"))
  | (refine' Rd.new_app ?h1 ?h2; (case h1 => assumption); (case h2 => walk_at "hp"))
  | (refine' Rd.upd_app ?h1 ?h2; (case h1 => first | assumption | exact Ne.symm (by assumption)); (case h2 => walk_at "hp"))
  | (refine' Rd.ext_app ?h1 ?h2; (case h1 => assumption); (case h2 => walk_at "hp"))
  | (refine' Rd.ext_L ?h1 ?h2; (case h1 => assumption); (case h2 => walk_at "hp"))
  | (refine' Rd.ext_T ?h1 ?h2; (case h1 => assumption); (case h2 => walk_at "hp")))
local macro_rules | `(tactic| walk_at "go") => `(tactic| repeat (first
  | with_reducible refine Rd.con ?_
  | ((with_reducible refine' Rd.var ?h1 ?_); (case h1 => rfl))
  | with_reducible refine Rd.op ?_
  | with_reducible refine Rd.un ?_
  | with_reducible refine Rd.i0 ?_
  | with_reducible refine Rd.iu ?_
  | ((with_reducible refine Rd.iC ?h1 ?_); (case h1 => walk_at "side"))
  | with_reducible refine Rd.nil ?_
  | with_reducible refine Rd.cons ?_
  | with_reducible refine Rd.cb ?_
  | with_reducible refine Rd.int1 ?_
  | with_reducible refine Rd.intB ?_
  | with_reducible refine Rd.maxI ?_
  | with_reducible refine Rd.minI ?_
  | with_reducible refine Rd.blx ?_
  | with_reducible refine Rd.tst ?_
  | with_reducible refine Rd.tb_ ?_
  | with_reducible refine Rd.not_ ?_
  | with_reducible refine Rd.and_ ?_
  | with_reducible refine Rd.or_ ?_
  | with_reducible refine Rd.ifx ?_
  | with_reducible refine Rd.chain ?_
  | with_reducible refine Rd.andV ?_
  | with_reducible refine Rd.orV ?_
  | with_reducible refine Rd.notV ?_
  | with_reducible refine Rd.seq ?_
  | with_reducible refine Rd.asg ?_
  | with_reducible refine Rd.name ?_
  | with_reducible refine Rd.ret ?_
  | with_reducible refine Rd.ifS ?_
  | with_reducible refine Rd.next ?_
  | with_reducible refine Rd.drop ?_
  | with_reducible refine Rd.gsub ?_
  | with_reducible refine Rd.cr ?_
  | with_reducible refine Rd.crX ?_
  | with_reducible refine Rd.ixOS ?_
  | ((with_reducible refine' Rd.xfv ?h1 ?h2 ?h3 ?_); (case h1 => walk_at "hp"); (case h2 => rfl); (case h3 => rfl))
  | ((with_reducible refine' Rd.bmLv ?h1 ?h2 ?_); (case h1 => rfl); (case h2 => walk_at "hp"))
  | ((with_reducible refine' Rd.countL ?h1 ?_); (case h1 => walk_at "hp"))
  | ((with_reducible refine' Rd.sumL ?h1 ?_); (case h1 => walk_at "hp"))
  | ((with_reducible refine' Rd.listL ?h1 ?_); (case h1 => walk_at "hp"))
  | ((with_reducible refine' Rd.listT ?h1 ?_); (case h1 => walk_at "hp"))
  | with_reducible refine Rd.isNn ?_
  | with_reducible refine Rd.isNr ?_
  | with_reducible refine Rd.notNn ?_
  | with_reducible refine Rd.notNr ?_
  | with_reducible refine Rd.isB ?_
  | with_reducible refine Rd.notBtt ?_
  | with_reducible refine Rd.notBff ?_
  | with_reducible refine Rd.notBtf ?_
  | with_reducible refine Rd.notBft ?_
  | with_reducible refine Rd.notB ?_
  | with_reducible refine Rd.smeth ?_
  | with_reducible refine Rd.sl ?_
  | with_reducible refine Rd.po0 ?_
  | with_reducible refine Rd.poI ?_
  | with_reducible refine Rd.ixi ?_
  | with_reducible refine Rd.par ?_
  | with_reducible refine Rd.par2 ?_
  | with_reducible refine Rd.mkRS ?_
  | with_reducible refine Rd.callRS ?_
  | with_reducible refine Rd.mk ?_
  | with_reducible refine Rd.mkX ?_
  | with_reducible refine Rd.sF ?_
  | with_reducible refine Rd.dIn ?_
  | with_reducible refine Rd.dNi ?_
  | with_reducible refine Rd.dctL ?_
  | with_reducible refine Rd.dctT ?_
  | with_reducible refine Rd.forE ?_
  | with_reducible refine Rd.lc2T ?_
  | with_reducible refine Rd.lc2L ?_
  | with_reducible refine Rd.lc2R ?_
  | with_reducible refine Rd.inR2 ?_
  | with_reducible refine Rd.inR1 ?_
  | with_reducible refine Rd.inT ?_
  | with_reducible refine Rd.inL ?_
  | with_reducible refine Rd.lcT ?_
  | with_reducible refine Rd.lcL ?_
  | with_reducible refine Rd.lcR ?_
  | with_reducible refine Rd.forT ?_
  | with_reducible refine Rd.forL ?_
  | with_reducible refine Rd.forR ?_
  | with_reducible refine Rd.yes ?_
  | with_reducible refine iteT ?_
  | with_reducible refine iteF ?_
  | with_reducible refine Rd.iteNT ?_
  | with_reducible refine Rd.iteNF ?_
  | with_reducible refine Rd.tup ?_
  | with_reducible refine Rd.lst ?_
  | ((with_reducible refine Rd.eqs ?h1 ?_); (case h1 => rfl))
  | ((with_reducible refine Rd.nes ?h1 ?_); (case h1 => rfl))
  | ((with_reducible refine' Rd.ixL ?h1 ?h2 ?_); (case h1 => walk_at "hp"); (case h2 => first | rfl | assumption))
  | ((with_reducible refine' Rd.ixT ?h1 ?h2 ?_); (case h1 => walk_at "hp"); (case h2 => first | rfl | assumption))
  | ((with_reducible refine' Rd.lenL ?h1 ?_); (case h1 => walk_at "hp"))
  | ((with_reducible refine' Rd.lenT ?h1 ?_); (case h1 => walk_at "hp"))
  | ((with_reducible refine' Rd.setL ?h1 ?h2 ?_); (case h1 => walk_at "hp"); (case h2 => first | rfl | assumption))))
section
variable {base : Heap} {P : Program} {w : World} {mg : Str → Option Value} {K : PySem.W.Frag}
/-! ### _law_is_form -/
def sp_is_form (K : PySem.W.Frag) : Sp := fun vs H Q _ => ∃ (a l : Addr) (xs ys : List Int), vs = [.ref a, .ref l] ∧ FormAt K H a xs ∧ H l = some (.lst (ys.map V.int)) ∧ xs.length ≤ 1000 ∧ ∀ H', Ext H H' → Q (.bl (decide (xs = ys))) H'
theorem isi_ty {K : PySem.W.Frag} {H : Hp} {x : V} {t n : String} {b : Bool} {Q : VK} (ty : TyX K H x (.type t)) (h : kitB t n = some b) (q : Q (.bl b) H) : rIsi K [x, .ty n] H Q := ⟨x, .ty n, _, _, b, rfl, .ty n, ty, kit_ty h, q⟩
theorem kit_tt : kitB "tuple" "tuple" = some true := by decide +kernel
theorem kit_ii : kitB "int" "int" = some true := by decide +kernel
theorem kit_ib : kitB "int" "bool" = some false := by decide +kernel
theorem isi_form (T : Tx K mg) {H : Hp} {a : Addr} {xs : List Int} {Q : VK} (F : FormAt K H a xs) (q : Q (.bl true) H) : rIsi K [.ref a, .ref (CF K)] H Q := by
  obtain ⟨dx, r, h1, h2⟩ := F
  exact ⟨_, _, _, _, true, rfl, .own _, tyx_ins T.c_Form T.i_Form h1, T.is_Form, q⟩
theorem ok_is_form (T : Tx K mg) : FnR P w K mg base (L2.CX P w) 1 (a_law_is_form K) (sp_is_form K) := by
  refine fnr T.d_law_is_form sc_law_is_form (fun _ _ _ _ _ _ us hl => match us, hl with | [_, _], _ => rfl) (fun vs H Q E h => ?_) (fun cdv A outer s H vs Q E hr h => ?_)
  · obtain ⟨a, l, xs, ys, rfl, _⟩ := h
    rfl
  · obtain ⟨a, l, xs, ys, rfl, F, hl, hn, k⟩ := h
    refine ⟨_, pss_cons (ps_if (PW.pt (pw_or (pt_not (pt_val (pe_callB (Rd.c_isi (K := K)) (by rfl) T.f_isinstance Rd.bt_isinstance (pa_cons (pv 0) (pa_cons (pe_glob (v := .ref (CF K)) (by rfl) T.g_Form rfl) pa_nil)))))
        (pw_or (pt_not (pt_val (pe_callB (Rd.c_isi (K := K)) (by rfl) T.f_isinstance Rd.bt_isinstance (pa_cons (pe_fld (pv 0) rfl) (pa_cons (pe_bltn (v := .ty "tuple") (by rfl) T.f_tuple Rd.bt_tuple rfl) pa_nil)))))
        (pw_or1 (pt_cmpR (op_neD hr.units) (pe_fld (pv 0) rfl) (pe_callTy (Rd.c_tuple (K := K)) (by rfl) T.f_tuple Rd.bt_tuple (pa_cons (pv 1) pa_nil)) (nomark _)))))) (pss_one (ps_ret pe_bl)) pss_nil)
      (pss_one (ps_ret (pe_cmpR (op_eqD hr.units) (pe_lc (own := [("part", 2)]) rfl sc_law_is_form.nd (pi_tup (pe_fld (pv 0) rfl)) (blkOk_by (own := [("part", 2)]) (N := N_law_is_form) (sc := defScope s_law_is_form) (by decide +kernel)) (fun _ _ _ _ _ => gx 2 sc_law_is_form.nd)
          (fun _ _ _ _ _ => pts_one (PW.pt (pw_or (pt_not (pt_val (pe_callB (Rd.c_isi (K := K)) (by rfl) T.f_isinstance Rd.bt_isinstance (pa_cons (pv 2) (pa_cons (pe_bltn (v := .ty "int") (by rfl) T.f_int boot_int rfl) pa_nil)))))
            (pw_or1 (pt_val (pe_callB (Rd.c_isi (K := K)) (by rfl) T.f_isinstance Rd.bt_isinstance (pa_cons (pv 2) (pa_cons (pe_bltn (v := .ty "bool") (by rfl) T.f_bool Rd.bt_bool rfl) pa_nil))))))))
          (fun _ _ _ _ _ => pv 2)) (pe_lst pa_nil) (nomark _)))), ?_⟩
    walk_at "go"
    refine isi_form T F ?_
    walk_at "go"
    refine fld_parts T F rfl fun q hq => ?_
    walk_at "go"
    refine isi_ty (.base (.tup hq)) kit_tt ?_
    walk_at "go"
    refine fld_parts T F rfl fun q2 hq2 => ?_
    walk_at "go"
    refine Rd.tupL (SqL.of hl) fun t ht => ?_
    refine Rd.neD Rd.encTInts (Rd.dp_tints (SqT.of (Rd.new_app ht hq2))) (Rd.dp_tints (SqT.of upd_same)) ?_
    walk_at "go"
    refine Rd.iten (fun c => ?_) (fun c => ?_)
    · walk_at "go"
      rw [← decide_eq_false c]
      exact k _ (Ext.upd ht)
    · have F' := F.ext (Ext.upd (o := .tup (ys.map V.int)) ht)
      walk_at "go"
      refine fld_parts T F' rfl fun q3 hq3 => ?_
      refine ⟨q3, rfl, ⟨_, SqT.of hq3⟩, fun D hD => ?_⟩
      refine Rd.lcE (emb := V.int) (Rd.walk_tupM (K := K) (a := q3)) Rd.yat (by omega) (fun _ => false) (fun z y _ => False) (fun _ _ _ _ _ h => h) hD (fun H' e => SqT.of (e _ _ hq3)) ?_ ?_
      · intro ix it H' acc hi e ha Qy Qn ky kn
        walk_at "go"
        refine ⟨rfl, ?_⟩
        walk_at "go"
        refine isi_ty (.base (.int _)) kit_ii ?_
        walk_at "go"
        refine isi_ty (.base (.int _)) kit_ib ?_
        walk_at "go"
        exact kn _ Rd.ext_rfl rfl
      · intro zs H' e hys pr
        have e2 : zs = [] := by
          have h := Rd.paired_len pr
          rw [List.filter_eq_nil_iff.mpr (by simp)] at h
          exact List.length_eq_zero_iff.mp h.symm
        subst e2
        walk_at "go"
        refine ⟨Rd.szr rfl, fun m hm => ?_⟩
        refine Rd.eqD Rd.encInts (a := []) (b := []) (Rd.dp_ints (SqL.of (Rd.new_app hm hys))) (Rd.dp_ints (SqL.of upd_same)) ?_
        have c2 : decide (xs = ys) = decide (([] : List Int) = []) := by rw [decide_eq_true c]; rfl
        rw [← c2]
        exact k _ (((Ext.upd ht).trans e).trans (Ext.upd hm))
end
end Lv

set_option Elab.async false
set_option linter.all false
set_option maxRecDepth 100000
set_option maxHeartbeats 0
/-! The law's own draws: the pool, a draw, a number. -/
namespace Lv
open PySem PySem.Spec PyProof.Rows L2 OwX
local macro_rules | `(tactic| walk_at "side") => `(tactic| first
  | exact (show CMul _ _ from .inl ⟨by decide, by decide⟩) | exact (show CMul _ _ from .inr ⟨by decide, by decide⟩) | exact (show CMul _ _ from .inl ⟨by omega, by omega⟩) | exact (show CMul _ _ from .inr ⟨by omega, by omega⟩)
  | exact (show CPow _ _ from ⟨by decide, by decide, by decide⟩)
  | exact (show CDiv _ _ from ⟨by decide, by decide⟩) | exact (show CDiv _ _ from ⟨by omega, by omega⟩)
  | exact (show (0 : Int) < _ by decide) | exact (show (0 : Int) < _ by omega) | exact (show ¬ (_ : Int) = 0 by decide) | exact (show ¬ (_ : Int) = 0 by omega) | assumption)
local macro_rules | `(tactic| walk_at "hp") => `(tactic| first
  | assumption | exact upd_same
  | (refine' SqL.of ?h1; (case h1 => walk_at "hp")) | (refine' SqT.of ?h1; (case h1 => walk_at "hp"))
  | (refine' Rd.new_app ?h1 ?h2; (case h1 => assumption); (case h2 => walk_at "hp"))
  | (refine' Rd.upd_app ?h1 ?h2; (case h1 => first | assumption | exact Ne.symm (by assumption)); (case h2 => walk_at "hp"))
  | (refine' Rd.ext_app ?h1 ?h2; (case h1 => assumption); (case h2 => walk_at "hp"))
  | (refine' Rd.ext_L ?h1 ?h2; (case h1 => assumption); (case h2 => walk_at "hp"))
  | (refine' Rd.ext_T ?h1 ?h2; (case h1 => assumption); (case h2 => walk_at "hp")))
local macro_rules | `(tactic| walk_at "go") => `(tactic| repeat (first
  | with_reducible refine Rd.con ?_
  | ((with_reducible refine' Rd.var ?h1 ?_); (case h1 => rfl))
  | with_reducible refine Rd.op ?_
  | with_reducible refine Rd.un ?_
  | with_reducible refine Rd.i0 ?_
  | with_reducible refine Rd.iu ?_
  | ((with_reducible refine Rd.iC ?h1 ?_); (case h1 => walk_at "side"))
  | with_reducible refine Rd.nil ?_
  | with_reducible refine Rd.cons ?_
  | with_reducible refine Rd.cb ?_
  | with_reducible refine Rd.int1 ?_
  | with_reducible refine Rd.intB ?_
  | with_reducible refine Rd.maxI ?_
  | with_reducible refine Rd.minI ?_
  | with_reducible refine Rd.blx ?_
  | with_reducible refine Rd.tst ?_
  | with_reducible refine Rd.tb_ ?_
  | with_reducible refine Rd.not_ ?_
  | with_reducible refine Rd.and_ ?_
  | with_reducible refine Rd.or_ ?_
  | with_reducible refine Rd.ifx ?_
  | with_reducible refine Rd.chain ?_
  | with_reducible refine Rd.andV ?_
  | with_reducible refine Rd.orV ?_
  | with_reducible refine Rd.notV ?_
  | with_reducible refine Rd.seq ?_
  | with_reducible refine Rd.asg ?_
  | with_reducible refine Rd.name ?_
  | with_reducible refine Rd.ret ?_
  | with_reducible refine Rd.ifS ?_
  | with_reducible refine Rd.next ?_
  | with_reducible refine Rd.drop ?_
  | with_reducible refine Rd.gsub ?_
  | with_reducible refine Rd.cr ?_
  | with_reducible refine Rd.crX ?_
  | with_reducible refine Rd.ixOS ?_
  | ((with_reducible refine' Rd.xfv ?h1 ?h2 ?h3 ?_); (case h1 => walk_at "hp"); (case h2 => rfl); (case h3 => rfl))
  | ((with_reducible refine' Rd.bmLv ?h1 ?h2 ?_); (case h1 => rfl); (case h2 => walk_at "hp"))
  | ((with_reducible refine' Rd.countL ?h1 ?_); (case h1 => walk_at "hp"))
  | ((with_reducible refine' Rd.sumL ?h1 ?_); (case h1 => walk_at "hp"))
  | ((with_reducible refine' Rd.listL ?h1 ?_); (case h1 => walk_at "hp"))
  | ((with_reducible refine' Rd.listT ?h1 ?_); (case h1 => walk_at "hp"))
  | with_reducible refine Rd.isNn ?_
  | with_reducible refine Rd.isNr ?_
  | with_reducible refine Rd.notNn ?_
  | with_reducible refine Rd.notNr ?_
  | with_reducible refine Rd.isB ?_
  | with_reducible refine Rd.notBtt ?_
  | with_reducible refine Rd.notBff ?_
  | with_reducible refine Rd.notBtf ?_
  | with_reducible refine Rd.notBft ?_
  | with_reducible refine Rd.notB ?_
  | with_reducible refine Rd.smeth ?_
  | with_reducible refine Rd.sl ?_
  | with_reducible refine Rd.po0 ?_
  | with_reducible refine Rd.poI ?_
  | with_reducible refine Rd.ixi ?_
  | with_reducible refine Rd.par ?_
  | with_reducible refine Rd.par2 ?_
  | with_reducible refine Rd.mkRS ?_
  | with_reducible refine Rd.callRS ?_
  | with_reducible refine Rd.mk ?_
  | with_reducible refine Rd.mkX ?_
  | with_reducible refine Rd.sF ?_
  | with_reducible refine Rd.dIn ?_
  | with_reducible refine Rd.dNi ?_
  | with_reducible refine Rd.dctL ?_
  | with_reducible refine Rd.dctT ?_
  | with_reducible refine Rd.forE ?_
  | with_reducible refine Rd.lc2T ?_
  | with_reducible refine Rd.lc2L ?_
  | with_reducible refine Rd.lc2R ?_
  | with_reducible refine Rd.inR2 ?_
  | with_reducible refine Rd.inR1 ?_
  | with_reducible refine Rd.inT ?_
  | with_reducible refine Rd.inL ?_
  | with_reducible refine Rd.lcT ?_
  | with_reducible refine Rd.lcL ?_
  | with_reducible refine Rd.lcR ?_
  | with_reducible refine Rd.forT ?_
  | with_reducible refine Rd.forL ?_
  | with_reducible refine Rd.forR ?_
  | with_reducible refine Rd.yes ?_
  | with_reducible refine iteT ?_
  | with_reducible refine iteF ?_
  | with_reducible refine Rd.iteNT ?_
  | with_reducible refine Rd.iteNF ?_
  | with_reducible refine Rd.tup ?_
  | with_reducible refine Rd.lst ?_
  | ((with_reducible refine Rd.eqs ?h1 ?_); (case h1 => rfl))
  | ((with_reducible refine Rd.nes ?h1 ?_); (case h1 => rfl))
  | ((with_reducible refine' Rd.ixL ?h1 ?h2 ?_); (case h1 => walk_at "hp"); (case h2 => first | rfl | assumption))
  | ((with_reducible refine' Rd.ixT ?h1 ?h2 ?_); (case h1 => walk_at "hp"); (case h2 => first | rfl | assumption))
  | ((with_reducible refine' Rd.lenL ?h1 ?_); (case h1 => walk_at "hp"))
  | ((with_reducible refine' Rd.lenT ?h1 ?_); (case h1 => walk_at "hp"))
  | ((with_reducible refine' Rd.setL ?h1 ?h2 ?_); (case h1 => walk_at "hp"); (case h2 => first | rfl | assumption))))
/-- the pool's two numbers -/
structure PoolOk (x y : Int) : Prop where
  x0 : 0 ≤ x
  xm : x.natAbs < 2 ^ 1048577
  y0 : 0 ≤ y
  ym : y < 2147483647
theorem natAbs_ediv_lt {x b : Int} {n : Nat} (hx : 0 ≤ x) (hb : 0 < b) (h : x.natAbs < n) : (x / b).natAbs < n := by
  have h1 : 0 ≤ x / b := Int.ediv_nonneg hx (by omega)
  have h2 : x / b ≤ x := Int.ediv_le_self b hx
  omega
theorem small_div {i b : Int} (h0 : 0 < b) (h : b < 2 ^ 200) : CDivW i b := wide_div h0 (b := 200) (by omega) (by decide) (by decide)
theorem fmod_in {x b : Int} (h : 0 < b) : 0 ≤ x.fmod b ∧ x.fmod b < b := by
  rw [Int.fmod_eq_emod_of_nonneg _ (by omega)]
  exact ⟨Int.emod_nonneg _ (by omega), Int.emod_lt_of_pos _ h⟩
theorem nat_bits {z : Int} {m : Nat} (h : Builtin.Int.intBits z ≤ m) : z.natAbs < 2 ^ m := by
  unfold Builtin.Int.intBits at h
  by_cases e : z.natAbs = 0
  · rw [e]; exact Nat.pow_pos (by decide)
  · split at h
    · rename_i q
      exact absurd (by simpa using q) e
    · exact Nat.lt_of_lt_of_le Nat.lt_log2_self (Nat.pow_le_pow_right (by decide) h)
theorem big_ok {z : Int} (h : z.natAbs < 2 ^ 1048576) : 0 ≤ (if (-1 - z) > z then (-1 - z) else z) ∧ (if (-1 - z) > z then (-1 - z) else z).natAbs < 2 ^ 1048577 := by
  have e : (2 : Nat) ^ 1048577 = 2 ^ 1048576 * 2 := Nat.pow_succ 2 1048576
  rw [e]
  generalize (2 : Nat) ^ 1048576 = m at h
  by_cases c : (-1 - z) > z
  · rw [if_pos c]; omega
  · rw [if_neg c]; omega
section
variable {base : Heap} {P : Program} {w : World} {mg : Str → Option Value} {K : PySem.W.Frag}
/-! ### _law_take -/
def sp_take : Sp := fun vs H Q _ => ∃ (p : Addr) (b x y : Int), vs = [.ref p, .int b] ∧ H p = some (.lst [.int x, .int y]) ∧ PoolOk x y ∧ 0 < b ∧ b < 2 ^ 200 ∧
  ∀ r x' y', PoolOk x' y' → 0 ≤ r → r < b → Q (.int r) (upd H p (.lst [.int x', .int y']))
theorem ok_take (T : Tx K mg) : FnR P w K mg base (L2.CX P w) 1 (a_law_take K) sp_take := by
  refine fnr T.d_law_take sc_law_take (fun _ _ _ _ _ _ us hl => match us, hl with | [_, _], _ => rfl) (fun vs H Q E h => ?_) (fun cdv A outer s H vs Q E hr h => ?_)
  · obtain ⟨p, b, x, y, rfl, _⟩ := h
    rfl
  · obtain ⟨p, b, x, y, rfl, hp, ok, h0, hb, k⟩ := h
    refine ⟨_, pss_cons (ps_if (pt_cmpR op_gt (pe_ix ix_list (pv 0) pe_int (fun _ _ => rfl)) pe_int (nomark _))
        (pss_cons (ps_set (i := 2) sc_law_take.nd rfl (Or.inl rfl) (pe_op op_modN (pe_callTy Rd.c_int (by rfl) T.f_int boot_int (pa_cons (pe_ix ix_list (pv 0) pe_int (fun _ _ => rfl)) pa_nil)) (pv 1)))
        (pss_cons (ps_asg (pe_op op_fdivW (pe_ix ix_list (pv 0) pe_int (fun _ _ => rfl)) (pv 1)) (pg_sub (pv 0) pe_int set_list))
        (pss_one (ps_ret (pv 2))))) pss_nil)
      (pss_cons (ps_asg (pe_op op_mod (pe_callTy Rd.c_int (by rfl) T.f_int boot_int (pa_cons (pe_op op_add (pe_op op_mul (pe_ix ix_list (pv 0) pe_int (fun _ _ => rfl)) pe_int) pe_int) pa_nil)) pe_int) (pg_sub (pv 0) pe_int set_list))
      (pss_one (ps_ret (pe_op op_modN (pe_callTy Rd.c_int (by rfl) T.f_int boot_int (pa_cons (pe_op op_fdiv (pe_op op_mod (pe_callTy Rd.c_int (by rfl) T.f_int boot_int (pa_cons (pe_op op_mul (pe_ix ix_list (pv 0) pe_int (fun _ _ => rfl)) (pe_ix ix_list (pv 0) pe_int (fun _ _ => rfl))) pa_nil)) pe_int) pe_int) pa_nil)) (pv 1))))), ?_⟩
    have y0 := ok.y0
    have ym := ok.ym
    have sd : ∀ i, CDivW i b := fun i => small_div h0 hb
    walk_at "go"
    refine Rd.ited (fun hx => ?_) (fun hx => ?_)
    · walk_at "go"
      refine Rd.iC (sd _) ?_
      walk_at "go"
      exact k _ _ _ ⟨Int.ediv_nonneg ok.x0 (by omega), natAbs_ediv_lt ok.x0 h0 ok.xm, ok.y0, ok.ym⟩ (fmod_in h0).1 (fmod_in h0).2
    · have z0 : 0 ≤ (y * 39373 + 7) % 2147483647 := Int.emod_nonneg _ (by decide)
      have z1 : (y * 39373 + 7) % 2147483647 < 2147483647 := Int.emod_lt_of_pos _ (by decide)
      walk_at "go"
      exact k _ _ _ ⟨ok.x0, ok.xm, z0, z1⟩ (fmod_in h0).1 (fmod_in h0).2
/-! ### _law_pool -/
def sp_pool (K : PySem.W.Frag) : Sp := fun vs H Q _ => ∃ (a : Addr) (ns : List Int) (k : Nat), vs = [.ref a, .int k] ∧ SqL K H a (ns.map V.int) ∧ ns.length ≤ 63 ∧ k < 63 ∧ (∀ z ∈ ns, Builtin.Int.intBits z ≤ 1048576) ∧
  ∀ p x y, PoolOk x y → H p = none → Q (.ref p) (upd H p (.lst [.int x, .int y]))
theorem ok_pool (T : Tx K mg) : FnR P w K mg base (L2.CX P w) 1 (a_law_pool K) (sp_pool K) := by
  refine fnr T.d_law_pool sc_law_pool (fun _ _ _ _ _ _ us hl => match us, hl with | [_, _], _ => rfl) (fun vs H Q E h => ?_) (fun cdv A outer s H vs Q E hr h => ?_)
  · obtain ⟨a, ns, k, rfl, _⟩ := h
    rfl
  · obtain ⟨a, ns, j, rfl, hS, hn, hj, hb, kk⟩ := h
    refine ⟨_, pss_cons (ps_set (i := 2) sc_law_pool.nd rfl (Or.inl rfl) pe_int)
      (C8.pss_cut (ps_if (pt_cmpR op_lt (pv 1) (pe_callB (Rd.c_len (K := K)) (by rfl) T.f_len boot_len (pa_cons (pv 0) pa_nil)) (nomark _))
        (pss_one (ps_set (i := 2) sc_law_pool.nd rfl (Or.inl rfl) (pe_ix ix_list (pv 0) (pv 1) (fun _ _ => rfl)))) pss_nil)
      (pss_cons (ps_set (i := 3) sc_law_pool.nd rfl (Or.inl rfl) (pe_callB (Rd.c_max rfl) (by rfl) T.f_max Rd.bt_max (pa_cons (pe_callTy Rd.c_int (by rfl) T.f_int boot_int (pa_cons (pv 2) pa_nil))
          (pa_cons (pe_callTy Rd.c_int (by rfl) T.f_int boot_int (pa_cons (pe_op op_sub (pe_un un_neg pe_int) (pv 2)) pa_nil)) pa_nil))))
      (pss_cons (ps_set (i := 4) sc_law_pool.nd rfl (Or.inl rfl) (pe_op op_mod (pe_callTy Rd.c_int (by rfl) T.f_int boot_int (pa_cons (pe_op op_mul (pe_op op_add (pe_op op_add (pe_op op_add (pe_op op_mod (pe_callTy Rd.c_int (by rfl) T.f_int boot_int (pa_cons (pv 3) pa_nil)) pe_int)
          (pe_op op_mul (pe_op op_mul pe_int (pv 1)) (pv 1))) (pe_op op_mul pe_int (pv 1))) pe_int) pe_int) pa_nil)) pe_int))
      (pss_one (ps_ret (pe_lst (pa_cons (pe_op op_mul (pv 3) (pe_callTy Rd.c_int (by rfl) T.f_int boot_int (pa_cons (pe_cmpR op_ge (pv 3) (pe_op op_pow pe_int pe_int) (nomark _)) pa_nil))) (pa_cons (pv 4) pa_nil)))))))), ?_⟩
    walk_at "go"
    refine ⟨fun σ H' => H' = H ∧ ∃ z : Int, z.natAbs < 2 ^ 1048576 ∧ σ = [some (V.ref a), some (V.int j), some (V.int z), none, none], ?_, ?_⟩
    · walk_at "go"
      refine Rd.ited (fun c => ?_) (fun c => ?_)
      · rw [List.length_map] at c
        have hl : j < ns.length := by omega
        have hat : atI (ns.map V.int) (j : Int) = some (V.int ns[j]) := Rd.nat_at rfl (by rw [List.getElem?_map, List.getElem?_eq_getElem hl]; rfl)
        walk_at "go"
        exact ⟨rfl, _, nat_bits (hb _ (List.getElem_mem hl)), rfl⟩
      · exact ⟨rfl, 0, Nat.pow_pos (by decide), rfl⟩
    · rintro σ H' ⟨rfl, z, hz, rfl⟩
      have hz2 := big_ok hz
      have j0 : (j : Int) < 63 := by omega
      walk_at "go"
      generalize (if -1 - z > z then -1 - z else z) = g at hz2
      have y0 := Int.emod_nonneg ((g % 2147483629 + 6871 * (j : Int) * (j : Int) + 29 * (j : Int) + 13) * 48271) (show (2147483647 : Int) ≠ 0 by decide)
      have y1 := Int.emod_lt_of_pos ((g % 2147483629 + 6871 * (j : Int) * (j : Int) + 29 * (j : Int) + 13) * 48271) (show (0 : Int) < 2147483647 by decide)
      refine ⟨Rd.szr rfl, fun p hp => kk p _ _ ⟨?_, ?_, y0, y1⟩ hp⟩
      · exact Int.mul_nonneg hz2.1 (by split <;> decide)
      · rw [Int.natAbs_mul]
        refine Nat.lt_of_le_of_lt ?_ hz2.2
        have : (if decide ((10 : Int) ^ (18 : Int).toNat ≤ g) = true then (1 : Int) else 0).natAbs ≤ 1 := by split <;> decide
        exact Nat.le_trans (Nat.mul_le_mul_left _ this) (by omega)
end
end Lv

set_option Elab.async false
set_option linter.all false
set_option maxRecDepth 100000
set_option maxHeartbeats 0
/-! Later heaps: all is kept but the pool. -/
namespace Lv
open PySem PySem.Spec PyProof.Rows L2 OwX
/-- the pool at p -/
def Pl (p : Addr) (H : Hp) : Prop := ∃ x y, H p = some (.lst [.int x, .int y]) ∧ PoolOk x y
/-- H' is later than H: what H has but the pool stands -/
structure Lt (p : Addr) (H H' : Hp) : Prop where
  px : Ext (Rd.hid [p] H) (Rd.hid [p] H')
  pl : Pl p H'
section
variable {p a b : Addr} {H H' H'' : Hp} {o u : HO} {K : PySem.W.Frag} {xs : List V}
theorem Lt.rfl (h : Pl p H) : Lt p H H := ⟨Rd.ext_rfl, h⟩
theorem Lt.trans (h : Lt p H H') (h' : Lt p H' H'') : Lt p H H'' := ⟨h.px.trans h'.px, h'.pl⟩
theorem Pl.ext (h : Pl p H) (e : Ext H H') : Pl p H' := by
  obtain ⟨x, y, h1, h2⟩ := h
  exact ⟨x, y, e _ _ h1, h2⟩
theorem Lt.ext (h : Lt p H H') (e : Ext H' H'') : Lt p H H'' := ⟨h.px.trans (Rd.ext_hid e), h.pl.ext e⟩
theorem Lt.of (h : Pl p H) (e : Ext H H') : Lt p H H' := (Lt.rfl h).ext e
theorem Lt.new (h : Lt p H H') (n : H' a = none) : Lt p H (upd H' a u) := h.ext (Ext.upd n)
theorem Lt.at (e : Lt p H H') (ne : a ≠ p) (h : H a = some o) : H' a = some o := by
  have h2 := e.px a o (by rw [Rd.hid_ne (by simpa using ne)]; exact h)
  exact (Rd.hid_at h2).1
theorem Pl.ne (h : Pl p H) (n : H a = none) : a ≠ p := by
  obtain ⟨x, y, h1, _⟩ := h
  exact fun e => by rw [e, h1] at n; cases n
theorem Lt.free (e : Lt p H H') (n : H' a = none) : H a = none := by
  have ne := e.pl.ne n
  cases q : H a with
  | none => exact Eq.refl _
  | some o => rw [e.at ne q] at n; cases n
/-- a change of what H does not know -/
theorem Lt.mut (e : Lt p H H') (n : H a = none) (ne : a ≠ p) : Lt p H (upd H' a u) := by
  refine ⟨fun b o h => ?_, ?_⟩
  · obtain ⟨h1, h2⟩ := Rd.hid_at h
    rw [Rd.hid_ne h2, upd_ne (ne_of_none h1 n)]
    exact e.at (by simpa using h2) h1
  · obtain ⟨x, y, h1, h2⟩ := e.pl
    exact ⟨x, y, by rw [upd_ne ne.symm]; exact h1, h2⟩
theorem Lt.drew {x y : Int} (ok : PoolOk x y) : Lt p H (upd H p (.lst [.int x, .int y])) :=
  ⟨by rw [Rd.hid_upd (by simp)]; exact Rd.ext_rfl, x, y, upd_same, ok⟩
theorem Lt.sq (e : Lt p H H') (ne : a ≠ p) (h : SqL K H a xs) : SqL K H' a xs :=
  h.elim (fun h => .inl (h.elim (fun h => .inl (e.at ne h)) fun ⟨o, h⟩ => .inr ⟨o, e.at ne h⟩)) fun h => .inr h
theorem Lt.st (e : Lt p H H') (ne : a ≠ p) (h : SqT K H a xs) : SqT K H' a xs :=
  h.elim (fun h => .inl (h.elim (fun h => .inl (e.at ne h)) fun ⟨o, h⟩ => .inr ⟨o, e.at ne h⟩)) fun h => .inr h
/-- an object that is no list of two ints is not the pool -/
theorem Pl.ne_ins {C dx : Addr} {fs : List (Str × V)} (h : Pl p H) (e : H a = some (.ins C dx fs)) : a ≠ p := by
  obtain ⟨x, y, h1, _⟩ := h
  exact ne_of e h1 (by intro z; cases z)
theorem Pl.ne_tup {ys : List V} (h : Pl p H) (e : H a = some (.tup ys)) : a ≠ p := by
  obtain ⟨x, y, h1, _⟩ := h
  exact ne_of e h1 (by intro z; cases z)
theorem hid2 (n1 : a ≠ b) (n2 : a ≠ p) (h : H a = some o) : Rd.hid [b, p] H a = some o := by
  rw [Rd.hid_ne (by simp [n1, n2])]; exact h
theorem hid1 (n1 : a ≠ b) (h : H a = some o) : Rd.hid [b] H a = some o := by
  rw [Rd.hid_ne (by simp [n1])]; exact h
theorem draw {b : Int} {Q : VK} {E : XK} (h : Pl p H) (k : ∀ (r : Nat) H', (r : Int) < b → Lt p H H' → Q (.int r) H') (h0 : 0 < b := by omega) (h1 : b < 2 ^ 200 := by omega) : sp_take [.ref p, .int b] H Q E := by
  obtain ⟨x, y, hp, ok⟩ := h
  refine ⟨p, b, x, y, Eq.refl _, hp, ok, h0, h1, fun r x' y' ok' r0 r1 => ?_⟩
  have := k r.toNat _ (by omega) (Lt.drew ok')
  rw [Int.toNat_of_nonneg r0] at this
  exact this
theorem mkPool {sc : Addr} {ns : List Int} {k : Nat} {Q : VK} {E : XK} (h : SqL K H sc (ns.map V.int)) (hn : ns.length ≤ 63) (hk : k < 63) (hb : ∀ z ∈ ns, Builtin.Int.intBits z ≤ 1048576) (kk : ∀ p H', H p = none → Ext H H' → Pl p H' → Q (.ref p) H') : sp_pool K [.ref sc, .int k] H Q E :=
  ⟨sc, ns, k, Eq.refl _, h, hn, hk, hb, fun p x y ok hp => kk p _ hp (Ext.upd hp) ⟨x, y, upd_same, ok⟩⟩
end
theorem SqL.later {p a : Addr} {H H1 H' : Hp} {K : PySem.W.Frag} {xs : List V} (h : SqL K H a xs) (n : H p = none) (e : Ext H H1) (l : Lt p H1 H') : SqL K H' a xs :=
  h.elim (fun h => .inl (h.elim (fun h => .inl (l.at (ne_of_none h n) (e _ _ h))) fun ⟨o, h⟩ => .inr ⟨o, l.at (ne_of_none h n) (e _ _ h)⟩)) fun h => .inr h
/-! ### comprehensions that draw -/
section
variable {α : Type} {J : It} {G : Hp → Prop} {Y : Nat → Hp → V → Hp → Prop} {items : List α} {Yi : α → Hp → V → Hp → Prop} {p : Addr}
theorem lcP (w : Walk J items.length G Y) (hy : ∀ i H x H', Y i H x H' → ∃ it, items[i]? = some it ∧ Yi it H x H') (hn : items.length < 100000)
    {g : TG} {tt : TT} {te : TE} {vs : List Nat} {σ : L2.St} {H1 : Hp} {D : Addr} {Qd : Hp → Prop} (hp : Pl p H1) (keep : α → Bool) (R : α → V → Hp → Prop) (mono : ∀ a y H H', Ext H H' → R a y H → R a y H')
    (hD : H1 D = none) (hG : ∀ H, Lt p H1 H → G H)
    (hs : ∀ (i : Nat) it x H H' acc, items[i]? = some it → Lt p H1 H → H D = some (.lst acc) → Yi it H x H' → ∀ (Qy : VK) (Qn : Hp → Prop),
      (∀ y H4, Lt p H H4 → keep it = true → R it y (Rd.hid [D, p] H4) → Qy y H4) → (∀ H3, Lt p H H3 → keep it = false → Qn H3) →
      g x (wipe σ vs) H' fun σ2 H2 => wipe σ2 vs = wipe σ vs ∧ tt σ2 H2 fun b H3 => if b = true then te σ2 H3 Qy else Qn H3)
    (hd : ∀ ys H, Lt p H1 H → H D = some (.lst ys) → Paired (fun a y => R a y (Rd.hid [D, p] H)) (items.filter keep) ys → Qd H) :
    ∃ W : Nat → Nat → Hp → Prop, (∃ m, W 0 m (upd H1 D (.lst []))) ∧ ∀ i m H, W i m H →
      (J.stop i H ∧ Qd H) ∨ (J.go i H ∧ ∃ Nx : Hp → Prop, (∀ H', Nx H' → ∃ m', m' < m ∧ W (i + 1) m' H') ∧ ∀ x H', J.yld i H x H' → g x (wipe σ vs) H' fun σ2 H2 => wipe σ2 vs = wipe σ vs ∧ tt σ2 H2 fun b H3 =>
        if b = true then te σ2 H3 fun y H4 => ∃ acc, H4 D = some (.lst acc) ∧ acc.length < sizeLine ∧ Nx (upd H4 D (.lst (acc ++ [y]))) else Nx H3) := by
  refine Rd.lcG w hy hn [p] (Pl p) keep R mono hD (by simpa using hp.ne hD) (fun H u h => ?_) hp (fun H e i => hG H ⟨e, i⟩) ?_ ?_
  · obtain ⟨x, y, h1, h2⟩ := h
    exact ⟨x, y, by rw [upd_ne (hp.ne hD).symm]; exact h1, h2⟩
  · intro i it x H H' acc hit e ip ha yi Qy Qn ky kn
    exact hs i it x H H' acc hit ⟨e, ip⟩ ha yi Qy Qn (fun y H4 l => ky y H4 l.px l.pl) (fun H3 l => kn H3 l.px l.pl)
  · intro ys H e ip hys pr
    exact hd ys H ⟨e, ip⟩ hys pr
end
theorem intsOf {α : Type} : ∀ {items : List α} {ys : List V}, Paired (fun _ y => ∃ z : Int, y = V.int z) items ys → ∃ zs : List Int, ys = zs.map V.int ∧ zs.length = items.length
  | _, _, .nil => ⟨[], rfl, rfl⟩
  | _, _, .cons ⟨z, hz⟩ t => by
    obtain ⟨zs, h1, h2⟩ := intsOf t
    exact ⟨z :: zs, by rw [hz, h1]; rfl, by rw [List.length_cons, List.length_cons, h2]⟩
end Lv

set_option Elab.async false
set_option linter.all false
set_option maxRecDepth 100000
set_option maxHeartbeats 0
/-! A drawn number. -/
namespace Lv
open PySem PySem.Spec PyProof.Rows L2 OwX
local macro_rules | `(tactic| walk_at "side") => `(tactic| first
  | exact (show CMul _ _ from .inl ⟨by decide, by decide⟩) | exact (show CMul _ _ from .inr ⟨by decide, by decide⟩) | exact (show CMul _ _ from .inl ⟨by omega, by omega⟩) | exact (show CMul _ _ from .inr ⟨by omega, by omega⟩)
  | exact (show CPow _ _ from ⟨by decide, by decide, by decide⟩)
  | exact (show CDiv _ _ from ⟨by decide, by decide⟩) | exact (show CDiv _ _ from ⟨by omega, by omega⟩)
  | exact (show (0 : Int) < _ by decide) | exact (show (0 : Int) < _ by omega) | exact (show ¬ (_ : Int) = 0 by decide) | exact (show ¬ (_ : Int) = 0 by omega) | assumption)
local macro_rules | `(tactic| walk_at "hp") => `(tactic| first
  | assumption | exact upd_same
  | (refine' SqL.of ?h1; (case h1 => walk_at "hp")) | (refine' SqT.of ?h1; (case h1 => walk_at "hp"))
  | (refine' Rd.new_app ?h1 ?h2; (case h1 => assumption); (case h2 => walk_at "hp"))
  | (refine' Rd.upd_app ?h1 ?h2; (case h1 => first | assumption | exact Ne.symm (by assumption)); (case h2 => walk_at "hp"))
  | (refine' Rd.ext_app ?h1 ?h2; (case h1 => assumption); (case h2 => walk_at "hp"))
  | (refine' Rd.ext_L ?h1 ?h2; (case h1 => assumption); (case h2 => walk_at "hp"))
  | (refine' Rd.ext_T ?h1 ?h2; (case h1 => assumption); (case h2 => walk_at "hp")))
local macro_rules | `(tactic| walk_at "go") => `(tactic| repeat (first
  | with_reducible refine Rd.con ?_
  | ((with_reducible refine' Rd.var ?h1 ?_); (case h1 => rfl))
  | with_reducible refine Rd.op ?_
  | with_reducible refine Rd.un ?_
  | with_reducible refine Rd.i0 ?_
  | with_reducible refine Rd.iu ?_
  | ((with_reducible refine Rd.iC ?h1 ?_); (case h1 => walk_at "side"))
  | with_reducible refine Rd.nil ?_
  | with_reducible refine Rd.cons ?_
  | with_reducible refine Rd.cb ?_
  | with_reducible refine Rd.int1 ?_
  | with_reducible refine Rd.intB ?_
  | with_reducible refine Rd.maxI ?_
  | with_reducible refine Rd.minI ?_
  | with_reducible refine Rd.blx ?_
  | with_reducible refine Rd.tst ?_
  | with_reducible refine Rd.tb_ ?_
  | with_reducible refine Rd.not_ ?_
  | with_reducible refine Rd.and_ ?_
  | with_reducible refine Rd.or_ ?_
  | with_reducible refine Rd.ifx ?_
  | with_reducible refine Rd.chain ?_
  | with_reducible refine Rd.andV ?_
  | with_reducible refine Rd.orV ?_
  | with_reducible refine Rd.notV ?_
  | with_reducible refine Rd.seq ?_
  | with_reducible refine Rd.asg ?_
  | with_reducible refine Rd.name ?_
  | with_reducible refine Rd.ret ?_
  | with_reducible refine Rd.ifS ?_
  | with_reducible refine Rd.next ?_
  | with_reducible refine Rd.drop ?_
  | with_reducible refine Rd.gsub ?_
  | with_reducible refine Rd.cr ?_
  | with_reducible refine Rd.crX ?_
  | with_reducible refine Rd.ixOS ?_
  | ((with_reducible refine' Rd.xfv ?h1 ?h2 ?h3 ?_); (case h1 => walk_at "hp"); (case h2 => rfl); (case h3 => rfl))
  | ((with_reducible refine' Rd.bmLv ?h1 ?h2 ?_); (case h1 => rfl); (case h2 => walk_at "hp"))
  | ((with_reducible refine' Rd.countL ?h1 ?_); (case h1 => walk_at "hp"))
  | ((with_reducible refine' Rd.sumL ?h1 ?_); (case h1 => walk_at "hp"))
  | ((with_reducible refine' Rd.listL ?h1 ?_); (case h1 => walk_at "hp"))
  | ((with_reducible refine' Rd.listT ?h1 ?_); (case h1 => walk_at "hp"))
  | with_reducible refine Rd.isNn ?_
  | with_reducible refine Rd.isNr ?_
  | with_reducible refine Rd.notNn ?_
  | with_reducible refine Rd.notNr ?_
  | with_reducible refine Rd.isB ?_
  | with_reducible refine Rd.notBtt ?_
  | with_reducible refine Rd.notBff ?_
  | with_reducible refine Rd.notBtf ?_
  | with_reducible refine Rd.notBft ?_
  | with_reducible refine Rd.notB ?_
  | with_reducible refine Rd.smeth ?_
  | with_reducible refine Rd.sl ?_
  | with_reducible refine Rd.po0 ?_
  | with_reducible refine Rd.poI ?_
  | with_reducible refine Rd.ixi ?_
  | with_reducible refine Rd.par ?_
  | with_reducible refine Rd.par2 ?_
  | with_reducible refine Rd.mkRS ?_
  | with_reducible refine Rd.callRS ?_
  | with_reducible refine Rd.mk ?_
  | with_reducible refine Rd.mkX ?_
  | with_reducible refine Rd.sF ?_
  | with_reducible refine Rd.dIn ?_
  | with_reducible refine Rd.dNi ?_
  | with_reducible refine Rd.dctL ?_
  | with_reducible refine Rd.dctT ?_
  | with_reducible refine Rd.forE ?_
  | with_reducible refine Rd.lc2T ?_
  | with_reducible refine Rd.lc2L ?_
  | with_reducible refine Rd.lc2R ?_
  | with_reducible refine Rd.inR2 ?_
  | with_reducible refine Rd.inR1 ?_
  | with_reducible refine Rd.inT ?_
  | with_reducible refine Rd.inL ?_
  | with_reducible refine Rd.lcT ?_
  | with_reducible refine Rd.lcL ?_
  | with_reducible refine Rd.lcR ?_
  | with_reducible refine Rd.forT ?_
  | with_reducible refine Rd.forL ?_
  | with_reducible refine Rd.forR ?_
  | with_reducible refine Rd.yes ?_
  | with_reducible refine iteT ?_
  | with_reducible refine iteF ?_
  | with_reducible refine Rd.iteNT ?_
  | with_reducible refine Rd.iteNF ?_
  | with_reducible refine Rd.tup ?_
  | with_reducible refine Rd.lst ?_
  | ((with_reducible refine Rd.eqs ?h1 ?_); (case h1 => rfl))
  | ((with_reducible refine Rd.nes ?h1 ?_); (case h1 => rfl))
  | ((with_reducible refine' Rd.ixL ?h1 ?h2 ?_); (case h1 => walk_at "hp"); (case h2 => first | rfl | assumption))
  | ((with_reducible refine' Rd.ixT ?h1 ?h2 ?_); (case h1 => walk_at "hp"); (case h2 => first | rfl | assumption))
  | ((with_reducible refine' Rd.lenL ?h1 ?_); (case h1 => walk_at "hp"))
  | ((with_reducible refine' Rd.lenT ?h1 ?_); (case h1 => walk_at "hp"))
  | ((with_reducible refine' Rd.setL ?h1 ?h2 ?_); (case h1 => walk_at "hp"); (case h2 => first | rfl | assumption))))
section
variable {P : Program} {w : World} {K : PySem.W.Frag} {mg : Str → Option Value} {base : Heap} {p : Addr} {H : Hp}
/-! ### _law_number -/
def sp_number : Sp := fun vs H Q _ => ∃ (p : Addr) (m x y : Int), vs = [.ref p, .int m] ∧ H p = some (.lst [.int x, .int y]) ∧ PoolOk x y ∧ 3 ≤ m ∧ m < 2 ^ 100 ∧
  ∀ n x' y', PoolOk x' y' → -m ≤ n → n ≤ m → Q (.int n) (upd H p (.lst [.int x', .int y']))
theorem ok_number (T : Tx K mg) : FnR P w K mg base (L2.CX P w) 2 (a_law_number K) sp_number := by
  refine fnr T.d_law_number sc_law_number (fun _ _ _ _ _ _ us hl => match us, hl with | [_, _], _ => rfl) (fun vs H Q E h => ?_) (fun cdv A outer s H vs Q E hr h => ?_)
  · obtain ⟨p, m, x, y, rfl, _⟩ := h
    rfl
  · obtain ⟨p, m, x, y, rfl, hp, ok, h0, hm, k⟩ := h
    have tk := kp_of T.d_law_take
    refine ⟨_, pss_cons (ps_if (pt_cmpR op_gt (pe_cr (ok_take T) hr tk rfl T.g_law_take (pa_cons (pv 0) (pa_cons pe_int pa_nil))) pe_int (nomark _))
        (pss_one (ps_ret (pe_op op_sub (pe_cr (ok_take T) hr tk rfl T.g_law_take (pa_cons (pv 0) (pa_cons pe_int pa_nil))) pe_int))) pss_nil)
      (pss_cons (ps_set (i := 2) sc_law_number.nd rfl (Or.inl rfl) pe_int)
      (pss_cons (ps_for (passes_of rfl) rfl (pi_range1 rfl T.f_range (pa_cons pe_int pa_nil)) (pg_name (i := 3) sc_law_number.nd rfl (Or.inl rfl))
        (pss_one (ps_set (i := 2) sc_law_number.nd rfl (Or.inl rfl) (pe_op op_add (pe_op op_mul (pv 2) (pe_op op_pow pe_int pe_int)) (pe_cr (ok_take T) hr tk rfl T.g_law_take (pa_cons (pv 0) (pa_cons (pe_op op_pow pe_int pe_int) pa_nil)))))))
      (pss_one (ps_ret (pe_op op_sub (pe_op op_modN (pe_callTy Rd.c_int (by rfl) T.f_int boot_int (pa_cons (pv 2) pa_nil)) (pe_op op_add (pe_op op_mul pe_int (pv 1)) pe_int)) (pv 1)))))), ?_⟩
    walk_at "go"
    refine ⟨p, 4, x, y, rfl, hp, ok, by decide, by decide, fun r x1 y1 ok1 r0 r1 => ?_⟩
    walk_at "go"
    refine Rd.ited (fun c => ?_) (fun c => ?_)
    · walk_at "go"
      refine ⟨p, 7, x1, y1, rfl, upd_same, ok1, by decide, by decide, fun r x2 y2 ok2 r0 r1 => ?_⟩
      walk_at "go"
      rw [upd_upd]
      exact k _ _ _ ok2 (by omega) (by omega)
    · walk_at "go"
      refine ⟨_, rfl, by decide, by decide, for_range (lo := 0) (n := 5) (fun i σ H' => ∃ (z x y : Int) (v : Option V), σ = [some (.ref p), some (.int m), some (.int z), v] ∧ PoolOk x y ∧ H' = upd H p (.lst [.int x, .int y])) ⟨0, x1, y1, none, rfl, ok1, rfl⟩ ?_ ?_⟩
      · rintro i σ H' hi ⟨z, x, y, v, rfl, ok, rfl⟩
        walk_at "go"
        refine ⟨p, _, x, y, rfl, upd_same, ok, by decide, by decide, fun r x2 y2 ok2 r0 r1 => ?_⟩
        walk_at "go"
        exact ⟨_, x2, y2, _, rfl, ok2, by rw [upd_upd]⟩
      · rintro σ H' ⟨z, x, y, v, rfl, ok, rfl⟩
        walk_at "go"
        have e := fmod_in (x := z) (b := 2 * m + 1) (by omega)
        exact k _ _ _ ok (by omega) (by omega)
theorem drawN {m : Int} {Q : VK} {E : XK} (h : Pl p H) (k : ∀ n H', -m ≤ n → n ≤ m → Lt p H H' → Q (.int n) H') (h0 : 3 ≤ m := by decide) (h1 : m < 2 ^ 100 := by decide) : sp_number [.ref p, .int m] H Q E := by
  obtain ⟨x, y, hp, ok⟩ := h
  exact ⟨p, m, x, y, Eq.refl _, hp, ok, h0, h1, fun n x' y' ok' n0 n1 => k n _ n0 n1 (Lt.drew ok')⟩
end
end Lv

set_option Elab.async false
set_option linter.all false
set_option maxRecDepth 100000
set_option maxHeartbeats 0
/-! Later heaps where code objects may have been made: all is kept but the pool and the tables. -/
namespace Lv
open PySem PySem.Spec PyProof.Rows L2 OwX LamX
abbrev Tb := List (Addr × Str)
theorem tabs_lt {T : Tb} {p : Addr} {H H' : Hp} (h : Tabs T H) (pl : Pl p H) (t : Lt p H H') : Tabs T H' := fun q hq => by
  obtain ⟨x, y, hp, _⟩ := pl
  obtain ⟨ps, h1, h2, h3⟩ := h q hq
  refine ⟨ps, t.at (ne_of h1 hp (by intro z; cases z)) h1, h2, fun pos cv hc => ?_⟩
  obtain ⟨c, e1, e2⟩ := h3 pos cv hc
  exact ⟨c, e1, t.at (ne_of e2 hp (by unfold CodeO; intro z; cases z)) e2⟩
structure LtN (T : Tb) (p : Addr) (H H' : Hp) : Prop where
  px : ∀ a o, a ≠ p → (∀ ps, o ≠ .tbl ps) → H a = some o → H' a = some o
  pl : Pl p H'
  tb : Tabs T H'
section
variable {T : Tb} {p a : Addr} {H H' H'' : Hp} {o : HO} {K : PySem.W.Frag} {xs : List V}
theorem LtN.of (h : Pl p H) (t : Tabs T H) : LtN T p H H := ⟨fun _ _ _ _ h => h, h, t⟩
theorem LtN.trans (h : LtN T p H H') (h' : LtN T p H' H'') : LtN T p H H'' := ⟨fun a o n m e => h'.px a o n m (h.px a o n m e), h'.pl, h'.tb⟩
theorem Lt.n (h : Lt p H H') (pl : Pl p H) (t : Tabs T H) : LtN T p H H' := ⟨fun a o n _ e => h.at n e, h.pl, tabs_lt t pl h⟩
theorem LtN.lt (h : LtN T p H H') (t : Lt p H' H'') : LtN T p H H'' := h.trans (t.n h.pl h.tb)
theorem LtN.ext (h : LtN T p H H') (e : Ext H' H'') : LtN T p H H'' := h.lt (Lt.of h.pl e)
theorem LtN.new {u : HO} (h : LtN T p H H') (n : H' a = none) : LtN T p H (upd H' a u) := h.ext (Ext.upd n)
theorem Pl.extN (h : Pl p H) (e : ExtN H H') : Pl p H' := by
  obtain ⟨x, y, h1, h2⟩ := h
  exact ⟨x, y, e _ _ h1 (fun _ z => by cases z), h2⟩
theorem LtN.xt (h : LtN T p H H') (e : ExtN H' H'') (t : Tabs T H'') : LtN T p H H'' := h.trans ⟨fun a o _ m q => e a o q m, h.pl.extN e, t⟩
theorem LtN.at (h : LtN T p H H') (n : a ≠ p) (e : H a = some o) (m : ∀ ps, o ≠ .tbl ps := by intro ps z; cases z) : H' a = some o := h.px a o n m e
theorem LtN.sq (e : LtN T p H H') (ne : a ≠ p) (h : SqL K H a xs) : SqL K H' a xs :=
  h.elim (fun h => .inl (h.elim (fun h => .inl (e.at ne h)) fun ⟨o, h⟩ => .inr ⟨o, e.at ne h⟩)) fun h => .inr h
theorem LtN.st (e : LtN T p H H') (ne : a ≠ p) (h : SqT K H a xs) : SqT K H' a xs :=
  h.elim (fun h => .inl (h.elim (fun h => .inl (e.at ne h)) fun ⟨o, h⟩ => .inr ⟨o, e.at ne h⟩)) fun h => .inr h
theorem extN_at (e : ExtN H H') (h : H a = some o) (m : ∀ ps, o ≠ .tbl ps := by intro ps z; cases z) : H' a = some o := e a o h m
theorem SqL.laterN {H1 : Hp} (h : SqL K H a xs) (n : H p = none) (e : Ext H H1) (l : LtN T p H1 H') : SqL K H' a xs :=
  h.elim (fun h => .inl (h.elim (fun h => .inl (l.at (ne_of_none h n) (e _ _ h))) fun ⟨o, h⟩ => .inr ⟨o, l.at (ne_of_none h n) (e _ _ h)⟩)) fun h => .inr h
end
end Lv

set_option Elab.async false
set_option linter.all false
set_option maxRecDepth 100000
set_option maxHeartbeats 0
set_option pp.maxSteps 1500
/-! k21: what is told, what is refused. -/
namespace Lv
open PySem PySem.Spec PyProof.Rows L2 OwX Fm
open LamX (Tabs ExtN CodeO TabB)
local macro_rules | `(tactic| walk_at "side") => `(tactic| first
  | exact (show CMul _ _ from .inl ⟨by decide, by decide⟩) | exact (show CMul _ _ from .inr ⟨by decide, by decide⟩) | exact (show CMul _ _ from .inl ⟨by omega, by omega⟩) | exact (show CMul _ _ from .inr ⟨by omega, by omega⟩)
  | exact (show CPow _ _ from ⟨by decide, by decide, by decide⟩)
  | exact (show CDiv _ _ from ⟨by decide, by decide⟩) | exact (show CDiv _ _ from ⟨by omega, by omega⟩)
  | exact (show (0 : Int) < _ by decide) | exact (show (0 : Int) < _ by omega) | exact (show ¬ (_ : Int) = 0 by decide) | exact (show ¬ (_ : Int) = 0 by omega) | assumption)
local macro_rules | `(tactic| walk_at "hp") => `(tactic| first
  | assumption | exact upd_same
  | (refine' SqL.of ?h1; (case h1 => walk_at "hp")) | (refine' SqT.of ?h1; (case h1 => walk_at "hp"))
  | (refine' Rd.new_app ?h1 ?h2; (case h1 => assumption); (case h2 => walk_at "hp"))
  | (refine' Rd.upd_app ?h1 ?h2; (case h1 => first | assumption | exact Ne.symm (by assumption)); (case h2 => walk_at "hp"))
  | (refine' Rd.ext_app ?h1 ?h2; (case h1 => assumption); (case h2 => walk_at "hp"))
  | (refine' Rd.ext_L ?h1 ?h2; (case h1 => assumption); (case h2 => walk_at "hp"))
  | (refine' Rd.ext_T ?h1 ?h2; (case h1 => assumption); (case h2 => walk_at "hp")))
local macro_rules | `(tactic| walk_at "go") => `(tactic| repeat (first
  | with_reducible refine Rd.con ?_
  | ((with_reducible refine' Rd.var ?h1 ?_); (case h1 => rfl))
  | with_reducible refine Rd.op ?_
  | with_reducible refine Rd.un ?_
  | with_reducible refine Rd.i0 ?_
  | with_reducible refine Rd.iu ?_
  | ((with_reducible refine Rd.iC ?h1 ?_); (case h1 => walk_at "side"))
  | with_reducible refine Rd.nil ?_
  | with_reducible refine Rd.cons ?_
  | with_reducible refine Rd.cb ?_
  | with_reducible refine Rd.int1 ?_
  | with_reducible refine Rd.intB ?_
  | with_reducible refine Rd.maxI ?_
  | with_reducible refine Rd.minI ?_
  | with_reducible refine Rd.blx ?_
  | with_reducible refine Rd.tst ?_
  | with_reducible refine Rd.tb_ ?_
  | with_reducible refine Rd.not_ ?_
  | with_reducible refine Rd.and_ ?_
  | with_reducible refine Rd.or_ ?_
  | with_reducible refine Rd.ifx ?_
  | with_reducible refine Rd.chain ?_
  | with_reducible refine Rd.andV ?_
  | with_reducible refine Rd.orV ?_
  | with_reducible refine Rd.notV ?_
  | with_reducible refine Rd.seq ?_
  | with_reducible refine Rd.asg ?_
  | with_reducible refine Rd.name ?_
  | with_reducible refine Rd.ret ?_
  | with_reducible refine Rd.ifS ?_
  | with_reducible refine Rd.next ?_
  | with_reducible refine Rd.drop ?_
  | with_reducible refine Rd.gsub ?_
  | with_reducible refine Rd.cr ?_
  | with_reducible refine Rd.crX ?_
  | with_reducible refine Rd.ixOS ?_
  | ((with_reducible refine' Rd.xfv ?h1 ?h2 ?h3 ?_); (case h1 => walk_at "hp"); (case h2 => rfl); (case h3 => rfl))
  | ((with_reducible refine' Rd.bmLv ?h1 ?h2 ?_); (case h1 => rfl); (case h2 => walk_at "hp"))
  | ((with_reducible refine' Rd.countL ?h1 ?_); (case h1 => walk_at "hp"))
  | ((with_reducible refine' Rd.sumL ?h1 ?_); (case h1 => walk_at "hp"))
  | ((with_reducible refine' Rd.listL ?h1 ?_); (case h1 => walk_at "hp"))
  | ((with_reducible refine' Rd.listT ?h1 ?_); (case h1 => walk_at "hp"))
  | with_reducible refine Rd.isNn ?_
  | with_reducible refine Rd.isNr ?_
  | with_reducible refine Rd.notNn ?_
  | with_reducible refine Rd.notNr ?_
  | with_reducible refine Rd.isB ?_
  | with_reducible refine Rd.notBtt ?_
  | with_reducible refine Rd.notBff ?_
  | with_reducible refine Rd.notBtf ?_
  | with_reducible refine Rd.notBft ?_
  | with_reducible refine Rd.notB ?_
  | with_reducible refine Rd.smeth ?_
  | with_reducible refine Rd.sl ?_
  | with_reducible refine Rd.po0 ?_
  | with_reducible refine Rd.poI ?_
  | with_reducible refine Rd.ixi ?_
  | with_reducible refine Rd.par ?_
  | with_reducible refine Rd.par2 ?_
  | with_reducible refine Rd.mkRS ?_
  | with_reducible refine Rd.callRS ?_
  | with_reducible refine Rd.mk ?_
  | with_reducible refine Rd.mkX ?_
  | with_reducible refine Rd.sF ?_
  | with_reducible refine Rd.dIn ?_
  | with_reducible refine Rd.dNi ?_
  | with_reducible refine Rd.dctL ?_
  | with_reducible refine Rd.dctT ?_
  | with_reducible refine Rd.forE ?_
  | with_reducible refine Rd.lc2T ?_
  | with_reducible refine Rd.lc2L ?_
  | with_reducible refine Rd.lc2R ?_
  | with_reducible refine Rd.inR2 ?_
  | with_reducible refine Rd.inR1 ?_
  | with_reducible refine Rd.inT ?_
  | with_reducible refine Rd.inL ?_
  | with_reducible refine Rd.lcT ?_
  | with_reducible refine Rd.lcL ?_
  | with_reducible refine Rd.lcR ?_
  | with_reducible refine Rd.forT ?_
  | with_reducible refine Rd.forL ?_
  | with_reducible refine Rd.forR ?_
  | with_reducible refine Rd.yes ?_
  | with_reducible refine iteT ?_
  | with_reducible refine iteF ?_
  | with_reducible refine Rd.iteNT ?_
  | with_reducible refine Rd.iteNF ?_
  | with_reducible refine Rd.tup ?_
  | with_reducible refine Rd.lst ?_
  | ((with_reducible refine Rd.eqs ?h1 ?_); (case h1 => rfl))
  | ((with_reducible refine Rd.nes ?h1 ?_); (case h1 => rfl))
  | ((with_reducible refine' Rd.ixL ?h1 ?h2 ?_); (case h1 => walk_at "hp"); (case h2 => first | rfl | assumption))
  | ((with_reducible refine' Rd.ixT ?h1 ?h2 ?_); (case h1 => walk_at "hp"); (case h2 => first | rfl | assumption))
  | ((with_reducible refine' Rd.lenL ?h1 ?_); (case h1 => walk_at "hp"))
  | ((with_reducible refine' Rd.lenT ?h1 ?_); (case h1 => walk_at "hp"))
  | ((with_reducible refine' Rd.setL ?h1 ?h2 ?_); (case h1 => walk_at "hp"); (case h2 => first | rfl | assumption))))
/-- what is told of a length refused -/
def noV (n : Int) : List V := [.str "no", .int n, .bl true, .bl true, .bl false]
def encNo : Int → PyData := fun n => .list [.str "no", .int n, .bool true, .bool true, .bool false]
theorem encNo_ok : Rd.Enc encNo 1 := ⟨fun a b => by
  unfold encNo
  simp only [PyData.eqv, PyData.eqvAll, Bool.and_true, beq_self_eq_true, Bool.true_and]
  rw [Bool.eq_iff_iff]
  simp, fun a => by
  unfold encNo
  rw [PyData.canLay0, PyData.canLayAll0, PyData.canLayAll0, PyData.canLayAll0, PyData.canLayAll0, PyData.canLayAll0, PyData.canLayAll0, PyData.canLay0, PyData.canLay0, PyData.canLay0, PyData.canLay0]
  decide +kernel, fun a => by simp [encNo, PyData.depth, PyData.depthAll]⟩
section
variable {base : Heap} {P : Program} {w : World} {mg : Str → Option Value} {K : PySem.W.Frag}
theorem dp_no {H : Hp} {a : Addr} {n : Int} (h : H a = some (.lst (noV n))) : Dp K H (.ref a) (encNo n) := .lst (SqL.of h) (.cons (.str _) (.cons (.int _) (.cons (.bl _) (.cons (.bl _) (.cons (.bl _) .nil)))))
def spTold (K : PySem.W.Frag) : Addr → Sp → Sp := fun f spf vs H Q _ => vs = [.ref f] ∧ ∃ n : Int, (∀ Q' E', (∀ dd H1, Ext H H1 → H1 dd = some (.xd [("count", .int n)]) → E' (.ref (He.ga K "BadLength")) (some dd) H1) → spf [] H Q' E') ∧
  ∀ l H1, Ext H H1 → H1 l = some (.lst (noV n)) → Q (.ref l) H1
theorem ok_told (T : Tx K mg) : LaX.FnG P w K mg base 21 20 (a_law_told K) (spTold K) := by
  refine LaX.fng T.d_law_told sc_law_told (fun _ _ _ _ _ _ us hl => match us, hl with | [_], _ => rfl) (fun f spf vs H Q E h => ?_) (fun cdv A outer s H vs Q E f spf Ff hr h => ?_)
  · obtain ⟨rfl, _⟩ := h
    rfl
  · obtain ⟨rfl, n, hf, k⟩ := h
    refine ⟨_, (pss_one (ps_try_as (i := 1) (Wout := fun _ _ _ _ => False) rfl rfl sc_law_told.nd rfl rfl ⟨rfl, by decide, Or.inl T.g_BadLength⟩ L2.takes0 (fun W pn xe tk _ => (pss_one (ps_ret (pe_lst (pa_cons pe_str (pa_cons (LaX.pe_callF0 (i := 0) Ff (hr.mono (by decide)) (fun σ => passAt tk σ) rfl (Or.inl rfl)) pa_nil)))))) (fun ea oe cls d pn hz hf => (pss_one (ps_ret (pe_lst (pa_cons pe_str (pa_cons (pe_xf T.x_BadLength.xf T.n_BadLength_count hz hf (pv 1)) (pa_cons (pe_callB (call_isX T.x_BadLength hz hf) (by rfl) T.f_isinstance Rd.bt_isinstance (pa_cons (pv 1) (pa_cons (pe_glob (v := .ref (He.ga K "CascadeError")) (by rfl) T.g_CascadeError rfl) pa_nil))) (pa_cons (pe_callB (call_isX T.x_BadLength hz hf) (by rfl) T.f_isinstance Rd.bt_isinstance (pa_cons (pv 1) (pa_cons (pe_bltn (v := .ty "ValueError") (by rfl) T.f_ValueError Rd.bt_ValueError rfl) pa_nil))) (pa_cons (pe_callB (call_isX T.x_BadLength hz hf) (by rfl) T.f_isinstance Rd.bt_isinstance (pa_cons (pv 1) (pa_cons (pe_glob (v := .ref (He.ga K "NoIndex")) (by rfl) T.g_NoIndex rfl) pa_nil))) pa_nil))))))))))), ?_⟩
    walk_at "go"
    refine ⟨rfl, hf _ _ fun dd H1 e1 hd => ⟨true, T.ex_BadLength_BadLength, fun _ ea hea => ?_, fun z => by cases z⟩⟩
    walk_at "go"
    refine Rd.isX hd (.own _) T.is_BadLength_CascadeError ?_
    walk_at "go"
    refine Rd.isX hd (.ty _) T.is_BadLength_ValueError ?_
    walk_at "go"
    refine Rd.isX hd (.own _) T.is_BadLength_NoIndex ?_
    walk_at "go"
    exact ⟨Rd.szr rfl, fun l hl => k l _ (e1.trans (Ext.upd hl)) upd_same⟩
/-! ### refused -/
abbrev dRef : He.Defn := ("_law_refused", none)
def tabsT (K : PySem.W.Frag) : Tb := [((He.cT K dRef).2, ("_law_refused" : Str) ++ ".<locals>." ++ "<lambda>")]
theorem tm_law_refused : ((He.cT K dRef).2, ("_law_refused" : Str) ++ ".<locals>." ++ "<lambda>") ∈ tabsT K := List.mem_cons_self
theorem tu_law_refused : ∀ p ∈ tabsT K, p.1 = (He.cT K dRef).2 → p.2 = ("_law_refused" : Str) ++ ".<locals>." ++ "<lambda>" := fun p hp _ => by rw [List.mem_singleton.mp hp]
def sp_refused (K : PySem.W.Frag) : Sp := fun vs H Q _ => ∃ (a b : Addr) (xs ys : List Int), vs = [.ref a, .ref b, .int ys.length] ∧ FormAt K H a xs ∧ FormAt K H b ys ∧ xs.length ≠ ys.length ∧ xs.length ≤ 100 ∧ ys.length ≤ 100 ∧ (∀ x ∈ xs, -(2 ^ 60) < x ∧ x < 2 ^ 60) ∧ (∀ x ∈ ys, -(2 ^ 60) < x ∧ x < 2 ^ 60) ∧
  Tabs (tabsT K) H ∧ ∀ H', ExtN H H' → Tabs (tabsT K) H' → Q (.bl true) H'
theorem FormAt.extN {H H' : Hp} {a : Addr} {xs : List Int} (h : FormAt K H a xs) (e : ExtN H H') : FormAt K H' a xs := by
  obtain ⟨dx, q, h1, h2⟩ := h
  exact ⟨dx, q, extN_at e h1, extN_at e h2⟩
theorem FormAt.ins {H : Hp} {a : Addr} {xs : List Int} (h : FormAt K H a xs) : ∃ dx q, H a = some (.ins (CF K) dx (fsF q)) := by
  obtain ⟨dx, q, h1, _⟩ := h
  exact ⟨dx, q, h1⟩
/-- a lambda that is refused, told -/
theorem lamNo {n : Int} {q : Str} {N : List Str} {js : List Nat} {tb : XK → TE} {σ : L2.St} {H : Hp} {Q : VK} (tt : Tabs (tabsT K) H)
    (body : ∀ H1, ExtN H H1 → ∀ (Q' : VK) (E' : XK), (∀ dd H2, Ext H1 H2 → H2 dd = some (.xd [("count", .int n)]) → E' (.ref (He.ga K "BadLength")) (some dd) H2) → tb E' (NdefX.startF N [] (js.map (NdefX.slotAt σ))) H1 Q')
    (k : ∀ l H1, ExtN H H1 → Tabs (tabsT K) H1 → H1 l = some (.lst (noV n)) → Q (.ref l) H1) : LaX.tLamG (tabsT K) (spTold K) q 0 N js tb E0 tNil σ H Q :=
  ⟨tt, fun f c' H1 e1 t1 nf hc => ⟨rfl, n, fun Q' E' kk => ⟨rfl, hc, body H1 e1 Q' E' kk⟩, fun l H2 e2 hl => k l H2 (e1.trans (ExtN.of e2)) (t1.ext e2) hl⟩⟩
theorem ok_refused (T : Tx K mg) (TB : ∀ q ∈ tf, TabB base mg (He.cT K q).1 (He.cT K q).2) : FnR P w K mg base (L2.CX P w) 25 (a_law_refused K) (sp_refused K) := by
  have tb_law_refused := TB dRef (by simp [tf])
  refine LaX.fnrT dRef rfl T.d_law_refused sc_law_refused (fun _ _ _ _ _ _ us hl => match us, hl with | [_, _, _], _ => rfl) (fun vs H Q E h => ?_) (fun cdv A outer s H vs Q E hcd hr h => ?_)
  · obtain ⟨a, b, xs, ys, rfl, _⟩ := h
    rfl
  · obtain ⟨a, b, xs, ys, rfl, F, G, ne, lx, ly, bx, by_, tt, k⟩ := h
    subst hcd
    refine ⟨_, (pss_cons (sx 3 sc_law_refused.nd (pe_lst (pa_cons pe_str (pa_cons (pv 2) (pa_cons pe_bl (pa_cons pe_bl (pa_cons pe_bl pa_nil))))))) (pss_cons (ps_if (pt_cmpR (GW.neD hr.units (K := K)) (LaX.pe_lam1 (T := tabsT K) (N := ["first", "second"]) (ps := []) (fr := ["first", "second"]) (js := [0, 1]) (ok_told T) (hr.mono (by decide)) (kp_of T.d_law_told) (by rfl) T.g_law_told passL ⟨tb_law_refused, rfl, tm_law_refused, tu_law_refused, NdefX.nscope_by (by decide +kernel), LaX.free_by (sc := defScope s_law_refused) (by decide +kernel), rfl, rfl, fun _ _ _ _ _ us hl => match us, hl with | [], _ => rfl⟩ (fun A outer s H E f c hr => (pe_op (op_binO (n := "__add__") rfl T.sf_Form T.m_Form_add (ok_Form_add T) (hr.mono (by decide)) (LaX.passF rfl rfl rfl rfl)) (pv 0) (pv 1)))) (pv 3) (nomark _)) (pss_one (ps_ret pe_bl)) pss_nil) (pss_cons (ps_if (pt_cmpR (GW.neD hr.units (K := K)) (LaX.pe_lam1 (T := tabsT K) (N := ["first", "second"]) (ps := []) (fr := ["first", "second"]) (js := [0, 1]) (ok_told T) (hr.mono (by decide)) (kp_of T.d_law_told) (by rfl) T.g_law_told passL ⟨tb_law_refused, rfl, tm_law_refused, tu_law_refused, NdefX.nscope_by (by decide +kernel), LaX.free_by (sc := defScope s_law_refused) (by decide +kernel), rfl, rfl, fun _ _ _ _ _ us hl => match us, hl with | [], _ => rfl⟩ (fun A outer s H E f c hr => (pe_op (op_binO (n := "__sub__") rfl T.sf_Form T.m_Form_sub (ok_Form_sub T) (hr.mono (by decide)) (LaX.passF rfl rfl rfl rfl)) (pv 0) (pv 1)))) (pv 3) (nomark _)) (pss_one (ps_ret pe_bl)) pss_nil) (pss_cons (ps_if (PW.pt (pw_or (pt_cmpR (GW.neD hr.units (K := K)) (LaX.pe_lam1 (T := tabsT K) (N := ["second", "first"]) (ps := []) (fr := ["second", "first"]) (js := [1, 0]) (ok_told T) (hr.mono (by decide)) (kp_of T.d_law_told) (by rfl) T.g_law_told passL ⟨tb_law_refused, rfl, tm_law_refused, tu_law_refused, NdefX.nscope_by (by decide +kernel), LaX.free_by (sc := defScope s_law_refused) (by decide +kernel), rfl, rfl, fun _ _ _ _ _ us hl => match us, hl with | [], _ => rfl⟩ (fun A outer s H E f c hr => (OwX.pe_meX T.c_Form T.m_Form_like (ok_Form_like T) (hr.mono (by decide)) (LaX.passF rfl rfl rfl rfl) (pv 1) (pa_cons (pv 0) pa_nil)))) (pv 3) (nomark _)) (pw_or1 (pt_cmpR op_notBl (pe_cmpR (op_eqO T.m_Form_eq (ok_Form_eq T) (hr.mono (by decide)) passL) (pv 0) (pv 1) (nomark _)) pe_bl (nomark _))))) (pss_one (ps_ret pe_bl)) pss_nil) (pss_cons (sx 4 sc_law_refused.nd (pe_op op_rep (pe_lst (pa_cons pe_int pa_nil)) (pv 2))) (pss_cons (ps_if (pt_cmpR (GW.neD hr.units (K := K)) (LaX.pe_lam1 (T := tabsT K) (N := ["values", "first"]) (ps := []) (fr := ["values", "first"]) (js := [4, 0]) (ok_told T) (hr.mono (by decide)) (kp_of T.d_law_told) (by rfl) T.g_law_told passL ⟨tb_law_refused, rfl, tm_law_refused, tu_law_refused, NdefX.nscope_by (by decide +kernel), LaX.free_by (sc := defScope s_law_refused) (by decide +kernel), rfl, rfl, fun _ _ _ _ _ us hl => match us, hl with | [], _ => rfl⟩ (fun A outer s H E f c hr => (OwX.pe_meX T.c_Form T.m_Form_sign (ok_Form_sign T) (hr.mono (by decide)) (LaX.passF rfl rfl rfl rfl) (pv 1) (pa_cons (pv 0) pa_nil)))) (pv 3) (nomark _)) (pss_one (ps_ret pe_bl)) pss_nil) (pss_one (ps_ret (pe_cmpR (GW.eqD hr.units (K := K)) (LaX.pe_lam1 (T := tabsT K) (N := ["first", "values"]) (ps := []) (fr := ["first", "values"]) (js := [0, 4]) (ok_told T) (hr.mono (by decide)) (kp_of T.d_law_told) (by rfl) T.g_law_told passL ⟨tb_law_refused, rfl, tm_law_refused, tu_law_refused, NdefX.nscope_by (by decide +kernel), LaX.free_by (sc := defScope s_law_refused) (by decide +kernel), rfl, rfl, fun _ _ _ _ _ us hl => match us, hl with | [], _ => rfl⟩ (fun A outer s H E f c hr => (OwX.pe_callOK (pv 0) ⟨T.m_Form_call.at_, T.m_Form_call.fn, T.fi_Form_call⟩ (ok_Form_call T) (hr.mono (by decide)) (LaX.passF rfl rfl rfl rfl) (pa_cons (pv 1) pa_nil)))) (pv 3) (nomark _)))))))))), ?_⟩
    walk_at "go"
    refine ⟨Rd.szr rfl, fun du hdu => ?_⟩
    have e0 := Ext.upd (o := .lst (noV ys.length)) hdu
    have hd : (upd H du (.lst (noV ys.length))) du = some (.lst (noV ys.length)) := upd_same
    have F := F.ext e0
    have G := G.ext e0
    have tt := tt.ext e0
    have k : ∀ H', ExtN (upd H du (.lst (noV ys.length))) H' → Tabs (tabsT K) H' → Q (.bl true) H' := fun H' e t => k H' ((ExtN.of e0).trans e) t
    change gName 3 (V.ref du) _ (upd H du (.lst (noV ys.length))) _
    generalize upd H du (.lst (noV ys.length)) = H1 at hd F G tt k
    clear e0 hdu
    obtain ⟨bx2, by2⟩ : (∀ x ∈ xs, -(2 ^ 200) < x ∧ x < 2 ^ 200) ∧ ∀ x ∈ ys, -(2 ^ 200) < x ∧ x < 2 ^ 200 := ⟨fun x hx => by have := bx x hx; omega, fun x hx => by have := by_ x hx; omega⟩
    have bx3 : ∀ x ∈ xs, -(2 ^ 64) < x ∧ x < 2 ^ 64 := fun x hx => by have := bx x hx; omega
    walk_at "go"
    -- +
    refine lamNo (n := ys.length) tt (fun H2 e2 Q' E' kk => ?_) fun l H2 e2 t2 hl => ?_
    · obtain ⟨dx, q1, h1⟩ := (F.extN e2).ins
      obtain ⟨dy, q2, h2⟩ := (G.extN e2).ins
      walk_at "go"
      exact ⟨a, b, dx, dy, _, _, rfl, rfl, h1, h2, a, b, xs, ys, rfl, F.extN e2, G.extN e2, by omega, fun e => absurd e ne, fun _ d H3 e3 hd => kk d H3 e3 hd⟩
    have F := F.extN e2
    have G := G.extN e2
    have hd := extN_at e2 hd
    walk_at "go"
    refine Rd.neD encNo_ok (dp_no hl) (dp_no hd) ?_
    rw [decide_eq_true rfl]
    walk_at "go"
    -- -
    refine lamNo (n := ys.length) t2 (fun H3 e3 Q' E' kk => ?_) fun l2 H3 e3 t3 hl2 => ?_
    · obtain ⟨dx, q1, h1⟩ := (F.extN e3).ins
      obtain ⟨dy, q2, h2⟩ := (G.extN e3).ins
      walk_at "go"
      exact ⟨a, b, dx, dy, _, _, rfl, rfl, h1, h2, a, b, xs, ys, rfl, F.extN e3, G.extN e3, by omega, fun e => absurd e ne, fun _ d H3 e3 hd => kk d H3 e3 hd⟩
    have F := F.extN e3
    have G := G.extN e3
    have hd := extN_at e3 hd
    walk_at "go"
    refine Rd.neD encNo_ok (dp_no hl2) (dp_no hd) ?_
    rw [decide_eq_true rfl]
    walk_at "go"
    -- like
    refine lamNo (n := ys.length) t3 (fun H4 e4 Q' E' kk => ?_) fun l3 H4 e4 t4 hl3 => ?_
    · obtain ⟨dx, q1, h1⟩ := (F.extN e4).ins
      refine Rd.mev rfl h1 rfl ?_
      walk_at "go"
      exact ⟨a, b, xs, ys, rfl, F.extN e4, G.extN e4, by omega, bx2, by2, fun e => absurd e ne, fun _ d H3 e3 hd => kk d H3 e3 hd⟩
    have F := F.extN e4
    have G := G.extN e4
    have hd := extN_at e4 hd
    walk_at "go"
    refine Rd.neD encNo_ok (dp_no hl3) (dp_no hd) ?_
    rw [decide_eq_true rfl]
    walk_at "go"
    refine eq_form_f F G (fun e => ne (by rw [e])) ?_
    walk_at "go"
    refine ⟨Rd.szr rfl, fun o1 ho1 => ?_⟩
    walk_at "go"
    refine Rd.repI upd_same (by omega) fun va hva => ?_
    have e5 : Ext H4 (upd (upd H4 o1 (.lst [.int 1])) va (.lst ((List.replicate ys.length 1).map V.int))) := (Ext.upd ho1).trans (Ext.upd hva)
    have hv : (upd (upd H4 o1 (.lst [.int 1])) va (.lst ((List.replicate ys.length 1).map V.int))) va = some (.lst ((List.replicate ys.length 1).map V.int)) := upd_same
    have F := F.ext e5
    have G := G.ext e5
    have hd := e5 _ _ hd
    have t5 := t4.ext e5
    have E5 := (e2.trans e3).trans (e4.trans (ExtN.of e5))
    generalize upd (upd H4 o1 (.lst [.int 1])) va (.lst ((List.replicate ys.length 1).map V.int)) = H5 at hv F G hd t5 E5
    clear e2 e3 e4 e5 ho1 hva t2 t3 t4 hl hl2 hl3
    walk_at "go"
    -- sign
    refine lamNo (n := ys.length) t5 (fun H6 e6 Q' E' kk => ?_) fun l3 H6 e6 t6 hl3 => ?_
    · obtain ⟨dx, q1, h1⟩ := (F.extN e6).ins
      refine Rd.mev rfl h1 rfl ?_
      walk_at "go"
      exact ⟨a, va, xs, _, rfl, F.extN e6, .inl (extN_at e6 hv), by omega, bx3, fun e => absurd (by rw [e, List.length_replicate]) ne, fun _ d H3 e3 hd => kk d H3 e3 (by rw [List.length_replicate] at hd; exact hd)⟩
    have F := F.extN e6
    have G := G.extN e6
    have hd := extN_at e6 hd
    walk_at "go"
    refine Rd.neD encNo_ok (dp_no hl3) (dp_no hd) ?_
    rw [decide_eq_true rfl]
    walk_at "go"
    -- the value
    refine lamNo (n := ys.length) t6 (fun H7 e7 Q' E' kk => ?_) fun l4 H7 e7 t7 hl4 => ?_
    · obtain ⟨dx, q1, h1⟩ := (F.extN e7).ins
      refine ⟨.ref a, rfl, a, rfl, ?_⟩
      walk_at "go"
      exact ⟨⟨dx, _, h1⟩, a, va, xs, _, rfl, F.extN e7, .inl (extN_at e7 (extN_at e6 hv)), by omega, bx3, fun e => absurd (by rw [e, List.length_replicate]) ne, fun _ d H3 e3 hd => kk d H3 e3 (by rw [List.length_replicate] at hd; exact hd)⟩
    have hd := extN_at e7 hd
    walk_at "go"
    refine Rd.eqD encNo_ok (dp_no hl4) (dp_no hd) ?_
    rw [decide_eq_true rfl]
    exact k _ (E5.trans (e6.trans e7)) t7
end
end Lv

set_option Elab.async false
set_option linter.all false
set_option maxRecDepth 100000
set_option maxHeartbeats 0
/-! k21: the law's own like. -/
namespace Lv
open PySem PySem.Spec PyProof.Rows L2 OwX Fm
local macro_rules | `(tactic| walk_at "side") => `(tactic| first
  | exact (show CMul _ _ from .inl ⟨by decide, by decide⟩) | exact (show CMul _ _ from .inr ⟨by decide, by decide⟩) | exact (show CMul _ _ from .inl ⟨by omega, by omega⟩) | exact (show CMul _ _ from .inr ⟨by omega, by omega⟩)
  | exact (show CPow _ _ from ⟨by decide, by decide, by decide⟩)
  | exact (show CDiv _ _ from ⟨by decide, by decide⟩) | exact (show CDiv _ _ from ⟨by omega, by omega⟩)
  | exact (show (0 : Int) < _ by decide) | exact (show (0 : Int) < _ by omega) | exact (show ¬ (_ : Int) = 0 by decide) | exact (show ¬ (_ : Int) = 0 by omega) | assumption)
local macro_rules | `(tactic| walk_at "hp") => `(tactic| first
  | assumption | exact upd_same
  | (refine' SqL.of ?h1; (case h1 => walk_at "hp")) | (refine' SqT.of ?h1; (case h1 => walk_at "hp"))
  | (refine' Rd.new_app ?h1 ?h2; (case h1 => assumption); (case h2 => walk_at "hp"))
  | (refine' Rd.upd_app ?h1 ?h2; (case h1 => first | assumption | exact Ne.symm (by assumption)); (case h2 => walk_at "hp"))
  | (refine' Rd.ext_app ?h1 ?h2; (case h1 => assumption); (case h2 => walk_at "hp"))
  | (refine' Rd.ext_L ?h1 ?h2; (case h1 => assumption); (case h2 => walk_at "hp"))
  | (refine' Rd.ext_T ?h1 ?h2; (case h1 => assumption); (case h2 => walk_at "hp")))
local macro_rules | `(tactic| walk_at "go") => `(tactic| repeat (first
  | with_reducible refine Rd.con ?_
  | ((with_reducible refine' Rd.var ?h1 ?_); (case h1 => rfl))
  | with_reducible refine Rd.op ?_
  | with_reducible refine Rd.un ?_
  | with_reducible refine Rd.i0 ?_
  | with_reducible refine Rd.iu ?_
  | ((with_reducible refine Rd.iC ?h1 ?_); (case h1 => walk_at "side"))
  | with_reducible refine Rd.nil ?_
  | with_reducible refine Rd.cons ?_
  | with_reducible refine Rd.cb ?_
  | with_reducible refine Rd.int1 ?_
  | with_reducible refine Rd.intB ?_
  | with_reducible refine Rd.maxI ?_
  | with_reducible refine Rd.minI ?_
  | with_reducible refine Rd.blx ?_
  | with_reducible refine Rd.tst ?_
  | with_reducible refine Rd.tb_ ?_
  | with_reducible refine Rd.not_ ?_
  | with_reducible refine Rd.and_ ?_
  | with_reducible refine Rd.or_ ?_
  | with_reducible refine Rd.ifx ?_
  | with_reducible refine Rd.chain ?_
  | with_reducible refine Rd.andV ?_
  | with_reducible refine Rd.orV ?_
  | with_reducible refine Rd.notV ?_
  | with_reducible refine Rd.seq ?_
  | with_reducible refine Rd.asg ?_
  | with_reducible refine Rd.name ?_
  | with_reducible refine Rd.ret ?_
  | with_reducible refine Rd.ifS ?_
  | with_reducible refine Rd.next ?_
  | with_reducible refine Rd.drop ?_
  | with_reducible refine Rd.gsub ?_
  | with_reducible refine Rd.cr ?_
  | with_reducible refine Rd.crX ?_
  | with_reducible refine Rd.ixOS ?_
  | ((with_reducible refine' Rd.xfv ?h1 ?h2 ?h3 ?_); (case h1 => walk_at "hp"); (case h2 => rfl); (case h3 => rfl))
  | ((with_reducible refine' Rd.bmLv ?h1 ?h2 ?_); (case h1 => rfl); (case h2 => walk_at "hp"))
  | ((with_reducible refine' Rd.countL ?h1 ?_); (case h1 => walk_at "hp"))
  | ((with_reducible refine' Rd.sumL ?h1 ?_); (case h1 => walk_at "hp"))
  | ((with_reducible refine' Rd.listL ?h1 ?_); (case h1 => walk_at "hp"))
  | ((with_reducible refine' Rd.listT ?h1 ?_); (case h1 => walk_at "hp"))
  | with_reducible refine Rd.isNn ?_
  | with_reducible refine Rd.isNr ?_
  | with_reducible refine Rd.notNn ?_
  | with_reducible refine Rd.notNr ?_
  | with_reducible refine Rd.isB ?_
  | with_reducible refine Rd.notBtt ?_
  | with_reducible refine Rd.notBff ?_
  | with_reducible refine Rd.notBtf ?_
  | with_reducible refine Rd.notBft ?_
  | with_reducible refine Rd.notB ?_
  | with_reducible refine Rd.smeth ?_
  | with_reducible refine Rd.sl ?_
  | with_reducible refine Rd.po0 ?_
  | with_reducible refine Rd.poI ?_
  | with_reducible refine Rd.ixi ?_
  | with_reducible refine Rd.par ?_
  | with_reducible refine Rd.par2 ?_
  | with_reducible refine Rd.mkRS ?_
  | with_reducible refine Rd.callRS ?_
  | with_reducible refine Rd.mk ?_
  | with_reducible refine Rd.mkX ?_
  | with_reducible refine Rd.sF ?_
  | with_reducible refine Rd.dIn ?_
  | with_reducible refine Rd.dNi ?_
  | with_reducible refine Rd.dctL ?_
  | with_reducible refine Rd.dctT ?_
  | with_reducible refine Rd.forE ?_
  | with_reducible refine Rd.lc2T ?_
  | with_reducible refine Rd.lc2L ?_
  | with_reducible refine Rd.lc2R ?_
  | with_reducible refine Rd.inR2 ?_
  | with_reducible refine Rd.inR1 ?_
  | with_reducible refine Rd.inT ?_
  | with_reducible refine Rd.inL ?_
  | with_reducible refine Rd.lcT ?_
  | with_reducible refine Rd.lcL ?_
  | with_reducible refine Rd.lcR ?_
  | with_reducible refine Rd.forT ?_
  | with_reducible refine Rd.forL ?_
  | with_reducible refine Rd.forR ?_
  | with_reducible refine Rd.yes ?_
  | with_reducible refine iteT ?_
  | with_reducible refine iteF ?_
  | with_reducible refine Rd.iteNT ?_
  | with_reducible refine Rd.iteNF ?_
  | with_reducible refine Rd.tup ?_
  | with_reducible refine Rd.lst ?_
  | ((with_reducible refine Rd.eqs ?h1 ?_); (case h1 => rfl))
  | ((with_reducible refine Rd.nes ?h1 ?_); (case h1 => rfl))
  | ((with_reducible refine' Rd.ixL ?h1 ?h2 ?_); (case h1 => walk_at "hp"); (case h2 => first | rfl | assumption))
  | ((with_reducible refine' Rd.ixT ?h1 ?h2 ?_); (case h1 => walk_at "hp"); (case h2 => first | rfl | assumption))
  | ((with_reducible refine' Rd.lenL ?h1 ?_); (case h1 => walk_at "hp"))
  | ((with_reducible refine' Rd.lenT ?h1 ?_); (case h1 => walk_at "hp"))
  | ((with_reducible refine' Rd.setL ?h1 ?h2 ?_); (case h1 => walk_at "hp"); (case h2 => first | rfl | assumption))))
section
variable {base : Heap} {P : Program} {w : World} {mg : Str → Option Value} {K : PySem.W.Frag}
def sp_law_sign : Sp := fun vs H Q _ => ∃ n : Int, vs = [.int n] ∧ Q (.int (sgn n)) H
theorem ok_sign (T : Tx K mg) : FnR P w K mg base (L2.CX P w) 1 (a_law_sign K) sp_law_sign := by
  refine fnr T.d_law_sign sc_law_sign (fun _ _ _ _ _ _ us hl => match us, hl with | [_], _ => rfl) (fun vs H Q E h => ?_) (fun cdv A outer s H vs Q E hr h => ?_)
  · obtain ⟨n, rfl, _⟩ := h
    rfl
  · obtain ⟨n, rfl, k⟩ := h
    refine ⟨_, (pss_one (ps_ret (pe_op op_sub (pe_callTy Rd.c_int (by rfl) T.f_int Rd.bt_int (pa_cons (pe_cmpR op_gt (pv 0) pe_int (nomark _)) pa_nil)) (pe_callTy Rd.c_int (by rfl) T.f_int Rd.bt_int (pa_cons (pe_cmpR op_lt (pv 0) pe_int (nomark _)) pa_nil))))), ?_⟩
    walk_at "go"
    have e : ((if decide (n > 0) = true then (1 : Int) else 0) - (if decide (n < 0) = true then 1 else 0)) = sgn n := by
      unfold sgn
      by_cases c1 : n > 0
      · have c2 : ¬ n < 0 := by omega
        simp [c1, c2]
      · by_cases c2 : n < 0 <;> simp [c1, c2]
    rw [e]
    exact k
def sp_law_like (K : PySem.W.Frag) : Sp := fun vs H Q _ => ∃ (a b : Addr) (xs ys : List Int), vs = [.ref a, .ref b] ∧ H a = some (.lst (xs.map V.int)) ∧ H b = some (.lst (ys.map V.int)) ∧ xs.length = ys.length ∧ xs.length ≤ 1000 ∧ (∀ x ∈ xs, -(2 ^ 60) < x ∧ x < 2 ^ 60) ∧ (∀ x ∈ ys, -(2 ^ 60) < x ∧ x < 2 ^ 60) ∧
  ∀ H', Ext H H' → Q (.int (lawLike xs ys)) H'
theorem at_int {xs : List Int} {i : Nat} {x : Int} (h : xs[i]? = some x) : atI (xs.map V.int) (i : Int) = some (V.int x) := Rd.nat_at rfl (by rw [List.getElem?_map, h]; rfl)
theorem ok_like (T : Tx K mg) : FnR P w K mg base (L2.CX P w) 3 (a_law_like K) (sp_law_like K) := by
  refine fnr T.d_law_like sc_law_like (fun _ _ _ _ _ _ us hl => match us, hl with | [_, _], _ => rfl) (fun vs H Q E h => ?_) (fun cdv A outer s H vs Q E hr h => ?_)
  · obtain ⟨a, b, xs, ys, rfl, _⟩ := h
    rfl
  · obtain ⟨a, b, xs, ys, rfl, ha, hb, hl, hn, bx, by_, k⟩ := h
    refine ⟨_, (pss_cons (ps_setLc (i := 2) (own := [("at", 3)]) rfl sc_law_like.nd rfl rfl rfl (pi_range1 (by rfl) T.f_range (pa_cons (pe_callB (Rd.c_len (K := K)) (by rfl) T.f_len Rd.bt_len (pa_cons (pv 0) pa_nil)) pa_nil)) (blkOk_by (own := [("at", 3)]) (N := N_law_like) (sc := defScope s_law_like) (by decide +kernel)) (fun _ _ _ _ _ => (gx 3 sc_law_like.nd)) (fun _ _ _ _ _ => (pts_one (pt_cmpR op_ne (pe_ix (GW.ixL (K := K)) (pv 0) (pv 3) (fun _ _ => rfl)) pe_int (nomark _)))) (fun _ _ _ _ _ => (pv 3))) (pss_cons (ps_if (pt_cmpR (GW.eqD hr.units (K := K)) (pv 2) (pe_lst pa_nil) (nomark _)) (pss_one (ps_ret pe_int)) pss_nil) (pss_cons (sx 4 sc_law_like.nd (pe_ix (GW.ixL (K := K)) (pv 2) pe_int (fun _ _ => rfl))) (pss_cons (ps_if (pt_cmpR op_eq (pe_ix (GW.ixL (K := K)) (pv 1) (pv 4) (fun _ _ => rfl)) pe_int (nomark _)) (pss_one (ps_ret pe_int)) pss_nil) (pss_cons (ps_if (pt_cmpR (GW.neD hr.units (K := K)) (pe_lc (own := [("at", 3)]) rfl sc_law_like.nd (pi_range1 (by rfl) T.f_range (pa_cons (pe_callB (Rd.c_len (K := K)) (by rfl) T.f_len Rd.bt_len (pa_cons (pv 0) pa_nil)) pa_nil)) (blkOk_by (own := [("at", 3)]) (N := N_law_like) (sc := defScope s_law_like) (by decide +kernel)) (fun _ _ _ _ _ => (gx 3 sc_law_like.nd)) (fun _ _ _ _ _ => (pts_one (pt_cmpR op_ne (pe_op op_mul (pe_ix (GW.ixL (K := K)) (pv 0) (pv 3) (fun _ _ => rfl)) (pe_ix (GW.ixL (K := K)) (pv 1) (pv 4) (fun _ _ => rfl))) (pe_op op_mul (pe_ix (GW.ixL (K := K)) (pv 1) (pv 3) (fun _ _ => rfl)) (pe_ix (GW.ixL (K := K)) (pv 0) (pv 4) (fun _ _ => rfl))) (nomark _)))) (fun _ _ _ _ _ => (pv 3))) (pe_lst pa_nil) (nomark _)) (pss_one (ps_ret pe_int)) pss_nil) (pss_one (ps_ret (pe_cr (ok_sign T) (hr.mono (by decide)) (kp_of T.d_law_sign) (by rfl) T.g_law_sign (pa_cons (pe_op op_mul (pe_ix (GW.ixL (K := K)) (pv 0) (pv 4) (fun _ _ => rfl)) (pe_ix (GW.ixL (K := K)) (pv 1) (pv 4) (fun _ _ => rfl))) pa_nil))))))))), ?_⟩
    unfold lawLike at k
    walk_at "go"
    rw [List.length_map]
    refine ⟨_, rfl, by omega, by omega, fun D hD => ?_⟩
    rw [Int.toNat_natCast]
    refine Rd.lcE (emb := fun j : Nat => V.int j) Rd.walk_rangeN Rd.yrng (by rw [List.length_range]; omega) (fun i => decide ((xs[i]?).getD 0 ≠ 0)) (fun j y _ => y = .int (j : Nat)) (fun _ _ _ _ _ h => h) hD (fun H' e => trivial) ?_ ?_
    · intro j it H' acc hj e hacc Qy Qn ky kn
      have hit : it < xs.length := by
        have := List.mem_of_getElem? hj
        exact List.mem_range.mp this
      have ha := e _ _ ha
      have hx := List.getElem?_eq_getElem hit
      have hat := at_int hx
      generalize xs[it] = x at hx hat
      walk_at "go"
      refine ⟨rfl, ?_⟩
      walk_at "go"
      refine Rd.iten (fun c => ?_) (fun c => ?_)
      · walk_at "go"
        refine ky _ _ Rd.ext_rfl ?_ rfl
        rw [hx, decide_eq_true_iff]
        exact fun z => c (by rw [show x = 0 from z])
      · refine kn _ Rd.ext_rfl ?_
        rw [hx, decide_eq_false_iff_not, Classical.not_not]
        exact V.int.inj c
    intro zs H1 e1 hzs pr
    have q := Rd.paired_map (f := fun j : Nat => V.int (j : Nat)) pr
    have qs : zs = (spotsF xs).map fun j : Nat => V.int (j : Nat) := q
    subst qs
    clear q pr
    have ha := e1 _ _ ha
    have hb := e1 _ _ hb
    rw [spots_first] at k
    walk_at "go"
    refine ⟨Rd.szr rfl, fun o ho => ?_⟩
    have e2 := Ext.upd (o := .lst []) ho
    refine Rd.eqD Rd.encInts (a := (spotsF xs).map fun j : Nat => (j : Int)) (b := []) (Rd.dp_ints (SqL.of (e2 _ _ (by rw [hzs, List.map_map]; rfl)))) (Rd.dp_ints (SqL.of upd_same)) ?_
    have k := fun H' e => k H' ((e1.trans e2).trans e)
    have ha := e2 _ _ ha
    have hb := e2 _ _ hb
    have hzs := e2 _ _ hzs
    generalize upd H1 o (.lst []) = H2 at ha hb hzs k
    clear e1 e2 ho
    cases hs : spotsF xs with
    | nil =>
      rw [hs] at k
      walk_at "go"
      refine Rd.ited (fun c => ?_) (fun c => absurd rfl c)
      walk_at "go"
      exact k _ Rd.ext_rfl
    | cons i is =>
      rw [hs] at hzs k
      walk_at "go"
      refine Rd.ited (fun c => by cases c) (fun c => ?_)
      have hi : i < xs.length := by
        have : i ∈ spotsF xs := by rw [hs]; exact List.mem_cons_self
        exact List.mem_range.mp (List.mem_filter.mp this).1
      have h0 : atI ((i :: is).map fun j : Nat => V.int (j : Nat)) 0 = some (V.int (i : Nat)) := Rd.nat_at (j := 0) rfl rfl
      have hm := List.getElem?_eq_getElem hi
      have ho := List.getElem?_eq_getElem (show i < ys.length by omega)
      have bm := bx xs[i] (List.getElem_mem hi)
      have bo := by_ ys[i] (List.getElem_mem (show i < ys.length by omega))
      simp only [List.head?_cons, hm, ho, Option.getD_some] at k
      generalize xs[i] = m at hm bm k
      generalize ys[i] = oo at ho bo k
      have atm := at_int hm
      have ato := at_int ho
      walk_at "go"
      refine Rd.ited (fun c2 => ?_) (fun c2 => ?_)
      · have c2 := V.int.inj c2
        walk_at "go"
        have := k H2 Rd.ext_rfl
        rw [if_pos c2] at this
        exact this
      have c2 : ¬ oo = 0 := fun z => c2 (by rw [z])
      walk_at "go"
      rw [List.length_map]
      refine ⟨_, rfl, by omega, by omega, fun D2 hD2 => ?_⟩
      rw [Int.toNat_natCast]
      refine Rd.lcE (emb := fun j : Nat => V.int j) Rd.walk_rangeN Rd.yrng (by rw [List.length_range]; omega) (fun j => decide ((xs[j]?).getD 0 * oo ≠ (ys[j]?).getD 0 * m)) (fun j y _ => y = .int (j : Nat)) (fun _ _ _ _ _ h => h) hD2 (fun H' e => trivial) ?_ ?_
      · intro j it H' acc hj e hacc Qy Qn ky kn
        have hit : it < xs.length := by
          have := List.mem_of_getElem? hj
          exact List.mem_range.mp this
        have ha := e _ _ ha
        have hb := e _ _ hb
        have hx := List.getElem?_eq_getElem hit
        have hy := List.getElem?_eq_getElem (show it < ys.length by omega)
        have b1 := bx xs[it] (List.getElem_mem hit)
        have b2 := by_ ys[it] (List.getElem_mem (show it < ys.length by omega))
        generalize xs[it] = x at hx b1
        generalize ys[it] = y at hy b2
        have atx := at_int hx
        have aty := at_int hy
        walk_at "go"
        refine ⟨rfl, ?_⟩
        walk_at "go"
        refine Rd.iten (fun c => ?_) (fun c => ?_)
        · walk_at "go"
          refine ky _ _ Rd.ext_rfl ?_ rfl
          rw [hx, hy, decide_eq_true_iff]
          exact fun z => c (by rw [show x * oo = y * m from z])
        · refine kn _ Rd.ext_rfl ?_
          rw [hx, hy, decide_eq_false_iff_not, Classical.not_not]
          exact V.int.inj c
      intro ws H3 e3 hws pr
      have q := Rd.paired_map (f := fun j : Nat => V.int (j : Nat)) pr
      have qs : ws = (offF xs ys m oo).map fun j : Nat => V.int (j : Nat) := q
      subst qs
      clear q pr
      have ha := e3 _ _ ha
      have hb := e3 _ _ hb
      walk_at "go"
      refine ⟨Rd.szr rfl, fun o ho => ?_⟩
      have e4 := Ext.upd (o := .lst []) ho
      refine Rd.neD Rd.encInts (a := (offF xs ys m oo).map fun j : Nat => (j : Int)) (b := []) (Rd.dp_ints (SqL.of (e4 _ _ (by rw [hws, List.map_map]; rfl)))) (Rd.dp_ints (SqL.of upd_same)) ?_
      have ha := e4 _ _ ha
      have hb := e4 _ _ hb
      have k := k _ (e3.trans e4)
      rw [if_neg c2] at k
      have key := off_nil hl (m := m) (o := oo)
      walk_at "go"
      refine Rd.iten (fun c3 => ?_) (fun c3 => ?_)
      · have c3 : ¬ propB xs ys m oo = true := fun z => c3 (by rw [key.mpr z]; rfl)
        walk_at "go"
        rw [if_pos (by simpa using c3)] at k
        exact k
      · have c3 : propB xs ys m oo = true := key.mp (List.map_eq_nil_iff.mp c3)
        rw [if_neg (by rw [c3]; decide)] at k
        walk_at "go"
        exact ⟨_, rfl, k⟩
end
end Lv

set_option Elab.async false
set_option linter.all false
set_option maxRecDepth 100000
set_option maxHeartbeats 0
set_option pp.maxSteps 3000
/-! k21: the law. -/
namespace Rd
open PySem PySem.Spec PyProof.Rows L2 OwX
theorem takeI {K : PySem.W.Frag} {H : Hp} {Q : VK} {p : Addr} {zs : List Int} {m : Nat} (h : SqL K H p (zs.map V.int)) (hm : m ≤ zs.length) (k : ∀ q, H q = none → Q (.ref q) (upd H q (.lst ((zs.take m).map V.int)))) : rSlL K (.ref p) none (some m) H Q :=
  cutL h fun q hq => by
    rw [cut_map]
    have e1 : HT.sIx zs.length 0 none = 0 := rfl
    have e2 : HT.sIx zs.length zs.length (some (m : Int)) = m := by
      rw [HT.sIx_nat]
      omega
    rw [e1, e2, List.drop_zero, Nat.sub_zero]
    exact k q hq
end Rd
namespace Lv
open PySem PySem.Spec PyProof.Rows L2 OwX Fm
open LamX (Tabs ExtN CodeO TabB)
local macro_rules | `(tactic| walk_at "side") => `(tactic| first
  | exact (show CMul _ _ from .inl ⟨by decide, by decide⟩) | exact (show CMul _ _ from .inr ⟨by decide, by decide⟩) | exact (show CMul _ _ from .inl ⟨by omega, by omega⟩) | exact (show CMul _ _ from .inr ⟨by omega, by omega⟩)
  | exact (show CPow _ _ from ⟨by decide, by decide, by decide⟩)
  | exact (show CDiv _ _ from ⟨by decide, by decide⟩) | exact (show CDiv _ _ from ⟨by omega, by omega⟩)
  | exact (show (0 : Int) < _ by decide) | exact (show (0 : Int) < _ by omega) | exact (show ¬ (_ : Int) = 0 by decide) | exact (show ¬ (_ : Int) = 0 by omega) | assumption)
local macro_rules | `(tactic| walk_at "hp") => `(tactic| first
  | assumption | exact upd_same
  | (refine' SqL.of ?h1; (case h1 => walk_at "hp")) | (refine' SqT.of ?h1; (case h1 => walk_at "hp"))
  | (refine' Rd.new_app ?h1 ?h2; (case h1 => assumption); (case h2 => walk_at "hp"))
  | (refine' Rd.upd_app ?h1 ?h2; (case h1 => first | assumption | exact Ne.symm (by assumption)); (case h2 => walk_at "hp"))
  | (refine' Rd.ext_app ?h1 ?h2; (case h1 => assumption); (case h2 => walk_at "hp"))
  | (refine' Rd.ext_L ?h1 ?h2; (case h1 => assumption); (case h2 => walk_at "hp"))
  | (refine' Rd.ext_T ?h1 ?h2; (case h1 => assumption); (case h2 => walk_at "hp")))
local macro_rules | `(tactic| walk_at "go") => `(tactic| repeat (first
  | with_reducible refine Rd.con ?_
  | ((with_reducible refine' Rd.var ?h1 ?_); (case h1 => rfl))
  | with_reducible refine Rd.op ?_
  | with_reducible refine Rd.un ?_
  | with_reducible refine Rd.i0 ?_
  | with_reducible refine Rd.iu ?_
  | ((with_reducible refine Rd.iC ?h1 ?_); (case h1 => walk_at "side"))
  | with_reducible refine Rd.nil ?_
  | with_reducible refine Rd.cons ?_
  | with_reducible refine Rd.cb ?_
  | with_reducible refine Rd.int1 ?_
  | with_reducible refine Rd.intB ?_
  | with_reducible refine Rd.maxI ?_
  | with_reducible refine Rd.minI ?_
  | with_reducible refine Rd.blx ?_
  | with_reducible refine Rd.tst ?_
  | with_reducible refine Rd.tb_ ?_
  | with_reducible refine Rd.not_ ?_
  | with_reducible refine Rd.and_ ?_
  | with_reducible refine Rd.or_ ?_
  | with_reducible refine Rd.ifx ?_
  | with_reducible refine Rd.chain ?_
  | with_reducible refine Rd.andV ?_
  | with_reducible refine Rd.orV ?_
  | with_reducible refine Rd.notV ?_
  | with_reducible refine Rd.seq ?_
  | with_reducible refine Rd.asg ?_
  | with_reducible refine Rd.name ?_
  | with_reducible refine Rd.ret ?_
  | with_reducible refine Rd.ifS ?_
  | with_reducible refine Rd.next ?_
  | with_reducible refine Rd.drop ?_
  | with_reducible refine Rd.gsub ?_
  | with_reducible refine Rd.cr ?_
  | with_reducible refine Rd.crX ?_
  | with_reducible refine Rd.ixOS ?_
  | ((with_reducible refine' Rd.xfv ?h1 ?h2 ?h3 ?_); (case h1 => walk_at "hp"); (case h2 => rfl); (case h3 => rfl))
  | ((with_reducible refine' Rd.bmLv ?h1 ?h2 ?_); (case h1 => rfl); (case h2 => walk_at "hp"))
  | ((with_reducible refine' Rd.countL ?h1 ?_); (case h1 => walk_at "hp"))
  | ((with_reducible refine' Rd.sumL ?h1 ?_); (case h1 => walk_at "hp"))
  | ((with_reducible refine' Rd.listL ?h1 ?_); (case h1 => walk_at "hp"))
  | ((with_reducible refine' Rd.listT ?h1 ?_); (case h1 => walk_at "hp"))
  | with_reducible refine Rd.isNn ?_
  | with_reducible refine Rd.isNr ?_
  | with_reducible refine Rd.notNn ?_
  | with_reducible refine Rd.notNr ?_
  | with_reducible refine Rd.isB ?_
  | with_reducible refine Rd.notBtt ?_
  | with_reducible refine Rd.notBff ?_
  | with_reducible refine Rd.notBtf ?_
  | with_reducible refine Rd.notBft ?_
  | with_reducible refine Rd.notB ?_
  | with_reducible refine Rd.smeth ?_
  | with_reducible refine Rd.sl ?_
  | with_reducible refine Rd.po0 ?_
  | with_reducible refine Rd.poI ?_
  | with_reducible refine Rd.ixi ?_
  | with_reducible refine Rd.par ?_
  | with_reducible refine Rd.par2 ?_
  | with_reducible refine Rd.mkRS ?_
  | with_reducible refine Rd.callRS ?_
  | with_reducible refine Rd.mk ?_
  | with_reducible refine Rd.mkX ?_
  | with_reducible refine Rd.sF ?_
  | with_reducible refine Rd.dIn ?_
  | with_reducible refine Rd.dNi ?_
  | with_reducible refine Rd.dctL ?_
  | with_reducible refine Rd.dctT ?_
  | with_reducible refine Rd.forE ?_
  | with_reducible refine Rd.lc2T ?_
  | with_reducible refine Rd.lc2L ?_
  | with_reducible refine Rd.lc2R ?_
  | with_reducible refine Rd.inR2 ?_
  | with_reducible refine Rd.inR1 ?_
  | with_reducible refine Rd.inT ?_
  | with_reducible refine Rd.inL ?_
  | with_reducible refine Rd.lcT ?_
  | with_reducible refine Rd.lcL ?_
  | with_reducible refine Rd.lcR ?_
  | with_reducible refine Rd.forT ?_
  | with_reducible refine Rd.forL ?_
  | with_reducible refine Rd.forR ?_
  | with_reducible refine Rd.yes ?_
  | with_reducible refine iteT ?_
  | with_reducible refine iteF ?_
  | with_reducible refine Rd.iteNT ?_
  | with_reducible refine Rd.iteNF ?_
  | with_reducible refine Rd.tup ?_
  | with_reducible refine Rd.lst ?_
  | ((with_reducible refine Rd.eqs ?h1 ?_); (case h1 => rfl))
  | ((with_reducible refine Rd.nes ?h1 ?_); (case h1 => rfl))
  | ((with_reducible refine' Rd.ixL ?h1 ?h2 ?_); (case h1 => walk_at "hp"); (case h2 => first | rfl | assumption))
  | ((with_reducible refine' Rd.ixT ?h1 ?h2 ?_); (case h1 => walk_at "hp"); (case h2 => first | rfl | assumption))
  | ((with_reducible refine' Rd.lenL ?h1 ?_); (case h1 => walk_at "hp"))
  | ((with_reducible refine' Rd.lenT ?h1 ?_); (case h1 => walk_at "hp"))
  | ((with_reducible refine' Rd.setL ?h1 ?h2 ?_); (case h1 => walk_at "hp"); (case h2 => first | rfl | assumption))))
--TB ok_refused
theorem cut3 {α β γ : Type} {S R : α → β → γ → Prop} {G : Prop} (h1 : (∀ a b c, S a b c → R a b c) → G) (h2 : ∀ a b c, S a b c → R a b c) : G := h1 h2
theorem iters (n : Nat) (h : n ≤ 63) : (if (if (n : Int) < 63 then (n : Int) else 63) > 1 then (if (n : Int) < 63 then (n : Int) else 63) else 1).toNat ≤ 63 := by split <;> split <;> omega
section
variable {P : Program} {w : World} {K : PySem.W.Frag} {mg : Str → Option Value} {base : Heap} {H H1 H' : Hp} {T : Tb} {p D D2 f g a : Addr} {xs ys : List Int}
theorem FormAt.ltN (h : FormAt K H a xs) (pl : Pl p H) (l : LtN T p H H') : FormAt K H' a xs := by
  obtain ⟨dx, q, h1, h2⟩ := h
  exact ⟨dx, q, l.at (pl.ne_ins h1) h1, l.at (pl.ne_tup h2) h2⟩
/-- a list of whole numbers of a billion at most -/
def Sm (xs : List Int) : Prop := ∀ x ∈ xs, -(10 ^ 9) ≤ x ∧ x ≤ 10 ^ 9
theorem intsB {α : Type} : ∀ {items : List α} {ys : List V}, Paired (fun _ y => ∃ z : Int, y = V.int z ∧ -(10 ^ 9) ≤ z ∧ z ≤ 10 ^ 9) items ys → ∃ zs : List Int, ys = zs.map V.int ∧ zs.length = items.length ∧ Sm zs
  | _, _, .nil => ⟨[], rfl, rfl, fun _ h => by cases h⟩
  | _, _, .cons ⟨z, e, b⟩ pr => by
    obtain ⟨zs, rfl, hl, hb⟩ := intsB pr
    refine ⟨z :: zs, by rw [e]; rfl, by simp [hl], fun x hx => ?_⟩
    cases List.mem_cons.mp hx with
    | inl h => rw [h]; exact b
    | inr h => exact hb x h
structure S21a (K : PySem.W.Frag) (H1 : Hp) (p D : Addr) (xs : List Int) (H : Hp) : Prop where
  lt : LtN (tabsT K) p H1 H
  d : H D = some (.lst (xs.map V.int))
  ne : D ≠ p
  len : xs.length ≤ 20
  sm : Sm xs
theorem S21a.go (S : S21a K H1 p D xs H) (l : LtN (tabsT K) p H H') : S21a K H1 p D xs H' := ⟨S.lt.trans l, l.at S.ne S.d, S.ne, S.len, S.sm⟩
theorem S21a.lg (S : S21a K H1 p D xs H) (l : Lt p H H') : S21a K H1 p D xs H' := S.go (l.n S.lt.pl S.lt.tb)
theorem S21a.ext (S : S21a K H1 p D xs H) (l : Ext H H') : S21a K H1 p D xs H' := S.lg (Lt.of S.lt.pl l)
structure S21 (K : PySem.W.Frag) (H1 : Hp) (p D D2 f g : Addr) (xs ys : List Int) (H : Hp) : Prop where
  a : S21a K H1 p D xs H
  b : S21a K H1 p D2 ys H
  lt : xs.length < ys.length
  F : FormAt K H f xs
  G : FormAt K H g ys
theorem S21.go (S : S21 K H1 p D D2 f g xs ys H) (l : LtN (tabsT K) p H H') : S21 K H1 p D D2 f g xs ys H' := ⟨S.a.go l, S.b.go l, S.lt, S.F.ltN S.a.lt.pl l, S.G.ltN S.a.lt.pl l⟩
theorem S21.ext (S : S21 K H1 p D D2 f g xs ys H) (l : Ext H H') : S21 K H1 p D D2 f g xs ys H' := S.go ((Lt.of S.a.lt.pl l).n S.a.lt.pl S.a.lt.tb)
theorem S21.xt (S : S21 K H1 p D D2 f g xs ys H) (e : ExtN H H') (t : Tabs (tabsT K) H') : S21 K H1 p D D2 f g xs ys H' := S.go ((LtN.of S.a.lt.pl S.a.lt.tb).xt e t)
theorem Sm.out (h : Sm xs) {n : Int} (hn : 10 ^ 9 < n) : ∀ x ∈ xs, -n < x ∧ x < n := fun x hx => by have := h x hx; omega
theorem dot_twos : ∀ ys : List Int, dot ys (List.replicate ys.length 2) = 2 * ys.sum
  | [] => rfl
  | y :: ys => by
    have ih := dot_twos ys
    unfold dot at ih ⊢
    rw [List.length_cons, List.replicate_succ, List.zipWith_cons_cons, List.sum_cons, List.sum_cons, ih]
    omega
theorem zip_range {xs ys : List Int} (h : xs.length ≤ ys.length) : ((List.range xs.length).map fun i => (xs[i]?).getD 0 + (ys[i]?).getD 0) = List.zipWith (fun p q => p + q) xs (ys.take xs.length) := by
  apply List.ext_getElem?
  intro i
  rw [List.getElem?_map, List.getElem?_zipWith, List.getElem?_take]
  by_cases hi : i < xs.length
  · rw [List.getElem?_range hi, if_pos hi, List.getElem?_eq_getElem hi, List.getElem?_eq_getElem (show i < ys.length by omega), Option.map_some]
    simp only [Option.getD_some, List.getElem?_eq_getElem hi, List.getElem?_eq_getElem (show i < ys.length by omega)]
  · rw [List.getElem?_eq_none (by rw [List.length_range]; omega), List.getElem?_eq_none (l := xs) (by omega)]
    rfl
def sp_law (K : PySem.W.Frag) : Sp := fun vs H Q _ => ∃ (a : Addr) (ns : List Int), vs = [.ref a] ∧ SqL K H a (ns.map V.int) ∧ ns.length ≤ 63 ∧ (∀ z ∈ ns, Builtin.Int.intBits z ≤ 1048576) ∧ Tabs (tabsT K) H ∧ ∀ H', Q (.bl true) H'
theorem ok_law (T : Tx K mg) (TB : ∀ q ∈ tf, TabB base mg (He.cT K q).1 (He.cT K q).2) {fd : FuncData} (F : FunD K "law" "law" (defArgs s_law) (defBody s_law) (defScope s_law) [] [] (a_law K) fd) : FnOk P w K mg base (L2.CX P w) 40 (a_law K) fd P_law (sp_law K) := by
  refine F.ok sc_law (fun vs H Q E h => ?_) (fun cdv A outer s H vs Q E hr h => ?_)
  · obtain ⟨a, ns, rfl, _⟩ := h
    rfl
  · obtain ⟨sc, ns, rfl, hS, hn, hb, tt, k⟩ := h
    refine ⟨_, (pss_cons (ps_for (passes_of rfl) rfl (pi_range1 (by rfl) T.f_range (pa_cons (pe_callB (Rd.c_max rfl) (by rfl) T.f_max Rd.bt_max (pa_cons pe_int (pa_cons (pe_callB (Rd.c_min rfl) (by rfl) T.f_min Rd.bt_min (pa_cons pe_int (pa_cons (pe_callB (Rd.c_len (K := K)) (by rfl) T.f_len Rd.bt_len (pa_cons (pv 0) pa_nil)) pa_nil))) pa_nil))) pa_nil)) (gx 1 sc_law.nd) (pss_cons (sx 2 sc_law.nd (pe_cr (ok_pool T) (hr.mono (by decide)) (kp_of T.d_law_pool) (by rfl) T.g_law_pool (pa_cons (pv 0) (pa_cons (pv 1) pa_nil)))) (pss_cons (sx 3 sc_law.nd (pe_lc (own := [("turn", 4)]) rfl sc_law.nd (pi_range1 (by rfl) T.f_range (pa_cons (pe_cr (ok_take T) (hr.mono (by decide)) (kp_of T.d_law_take) (by rfl) T.g_law_take (pa_cons (pv 2) (pa_cons pe_int pa_nil))) pa_nil)) (blkOk_by (own := [("turn", 4)]) (N := N_law) (sc := defScope s_law) (by decide +kernel)) (fun _ _ _ _ _ => (gx 4 sc_law.nd)) (fun _ _ _ _ _ => pts_nil) (fun _ _ _ _ _ => (pe_cr (ok_number T) (hr.mono (by decide)) (kp_of T.d_law_number) (by rfl) T.g_law_number (pa_cons (pv 2) (pa_cons (pe_op op_pow pe_int pe_int) pa_nil)))))) (pss_cons (sx 5 sc_law.nd (pe_lc (own := [("turn", 4)]) rfl sc_law.nd (pi_range1 (by rfl) T.f_range (pa_cons (pe_op op_add (pe_op op_add (pe_callB (Rd.c_len (K := K)) (by rfl) T.f_len Rd.bt_len (pa_cons (pv 3) pa_nil)) pe_int) (pe_cr (ok_take T) (hr.mono (by decide)) (kp_of T.d_law_take) (by rfl) T.g_law_take (pa_cons (pv 2) (pa_cons pe_int pa_nil)))) pa_nil)) (blkOk_by (own := [("turn", 4)]) (N := N_law) (sc := defScope s_law) (by decide +kernel)) (fun _ _ _ _ _ => (gx 4 sc_law.nd)) (fun _ _ _ _ _ => pts_nil) (fun _ _ _ _ _ => (pe_cr (ok_number T) (hr.mono (by decide)) (kp_of T.d_law_number) (by rfl) T.g_law_number (pa_cons (pv 2) (pa_cons (pe_op op_pow pe_int pe_int) pa_nil)))))) (pss_cons (ps_if (pt_cmpR op_eq (pe_cr (ok_take T) (hr.mono (by decide)) (kp_of T.d_law_take) (by rfl) T.g_law_take (pa_cons (pv 2) (pa_cons pe_int pa_nil))) pe_int (nomark _)) (pss_one (sx 5 sc_law.nd (pe_op op_cat (pv 3) (pe_op op_rep (pe_lst (pa_cons pe_int pa_nil)) (pe_op op_sub (pe_callB (Rd.c_len (K := K)) (by rfl) T.f_len Rd.bt_len (pa_cons (pv 5) pa_nil)) (pe_callB (Rd.c_len (K := K)) (by rfl) T.f_len Rd.bt_len (pa_cons (pv 3) pa_nil))))))) pss_nil) (pss_cons (ps_par (i := 6) (j := 7) rfl sc_law.nd rfl rfl (by decide) rfl rfl (pa_cons (pe_mk T.k_Form (ok_Form_init T) (hr.mono (by decide)) (by rfl) T.g_Form (pa_cons (pv 3) pa_nil)) (pa_cons (pe_mk T.k_Form (ok_Form_init T) (hr.mono (by decide)) (by rfl) T.g_Form (pa_cons (pv 5) pa_nil)) pa_nil)) rfl) (pss_one (ps_for (passes_of rfl) rfl (pi_range1 (by rfl) T.f_range (pa_cons pe_int pa_nil)) (gx 4 sc_law.nd) (pss_cons (ps_if (PW.pt (pw_or (pt_not (pt_val (pe_cr (ok_refused T TB) (hr.mono (by decide)) (kp_of T.d_law_refused) (by rfl) T.g_law_refused (pa_cons (pv 6) (pa_cons (pv 7) (pa_cons (pe_callB (Rd.c_len (K := K)) (by rfl) T.f_len Rd.bt_len (pa_cons (pv 5) pa_nil)) pa_nil)))))) (pw_or1 (pt_not (pt_val (pe_cr (ok_refused T TB) (hr.mono (by decide)) (kp_of T.d_law_refused) (by rfl) T.g_law_refused (pa_cons (pv 7) (pa_cons (pv 6) (pa_cons (pe_callB (Rd.c_len (K := K)) (by rfl) T.f_len Rd.bt_len (pa_cons (pv 3) pa_nil)) pa_nil))))))))) (pss_one (ps_ret pe_bl)) pss_nil) (pss_cons (ps_if (PW.pt (pw_or (pt_not (pt_val (pe_cr (ok_is_form T) (hr.mono (by decide)) (kp_of T.d_law_is_form) (by rfl) T.g_law_is_form (pa_cons (pv 6) (pa_cons (pv 3) pa_nil))))) (pw_or1 (pt_not (pt_val (pe_cr (ok_is_form T) (hr.mono (by decide)) (kp_of T.d_law_is_form) (by rfl) T.g_law_is_form (pa_cons (pv 7) (pa_cons (pv 5) pa_nil)))))))) (pss_one (ps_ret pe_bl)) pss_nil) (pss_cons (sx 8 sc_law.nd (pe_mk T.k_Form (ok_Form_init T) (hr.mono (by decide)) (by rfl) T.g_Form (pa_cons (pe_slice (GW.slL (K := K)) (pv 5) po_none (po_some (pe_callB (Rd.c_len (K := K)) (by rfl) T.f_len Rd.bt_len (pa_cons (pv 3) pa_nil)))) pa_nil))) (pss_cons (ps_if (pt_not (pt_val (pe_cr (ok_is_form T) (hr.mono (by decide)) (kp_of T.d_law_is_form) (by rfl) T.g_law_is_form (pa_cons (pe_op (op_binO (n := "__add__") rfl T.sf_Form T.m_Form_add (ok_Form_add T) (hr.mono (by decide)) (passE rfl rfl rfl rfl)) (pv 6) (pv 8)) (pa_cons (pe_lc (own := [("at", 9)]) rfl sc_law.nd (pi_range1 (by rfl) T.f_range (pa_cons (pe_callB (Rd.c_len (K := K)) (by rfl) T.f_len Rd.bt_len (pa_cons (pv 3) pa_nil)) pa_nil)) (blkOk_by (own := [("at", 9)]) (N := N_law) (sc := defScope s_law) (by decide +kernel)) (fun _ _ _ _ _ => (gx 9 sc_law.nd)) (fun _ _ _ _ _ => pts_nil) (fun _ _ _ _ _ => (pe_op op_add (pe_ix (GW.ixL (K := K)) (pv 3) (pv 9) (fun _ _ => rfl)) (pe_ix (GW.ixL (K := K)) (pv 5) (pv 9) (fun _ _ => rfl))))) pa_nil))))) (pss_one (ps_ret pe_bl)) pss_nil) (pss_one (ps_if (PW.pt (pw_or (pt_cmpR op_ne (OwX.pe_meX T.c_Form T.m_Form_like (ok_Form_like T) (hr.mono (by decide)) (passE rfl rfl rfl rfl) (pv 6) (pa_cons (pv 8) pa_nil)) (pe_cr (ok_like T) (hr.mono (by decide)) (kp_of T.d_law_like) (by rfl) T.g_law_like (pa_cons (pv 3) (pa_cons (pe_slice (GW.slL (K := K)) (pv 5) po_none (po_some (pe_callB (Rd.c_len (K := K)) (by rfl) T.f_len Rd.bt_len (pa_cons (pv 3) pa_nil)))) pa_nil))) (nomark _)) (pw_or1 (pt_cmpR op_ne (OwX.pe_callOK (pv 7) ⟨T.m_Form_call.at_, T.m_Form_call.fn, T.fi_Form_call⟩ (ok_Form_call T) (hr.mono (by decide)) (passE rfl rfl rfl rfl) (pa_cons (pe_op op_rep (pe_lst (pa_cons pe_int pa_nil)) (pe_callB (Rd.c_len (K := K)) (by rfl) T.f_len Rd.bt_len (pa_cons (pv 5) pa_nil))) pa_nil)) (pe_op op_mul pe_int (pe_callB (GW.sum (K := K) rfl) (by rfl) T.f_sum Rd.bt_sum (pa_cons (pv 5) pa_nil))) (nomark _))))) (pss_one (ps_ret pe_bl)) pss_nil)))))))))))))) (pss_one (ps_ret pe_bl))), ?_⟩
    walk_at "go"
    refine ⟨_, rfl, ?_, ?_, for_range (fun i σ H => ∃ v1 v2 v3 v4 v5 v6 v7 v8 v9, σ = [some (.ref sc), v1, v2, v3, v4, v5, v6, v7, v8, v9] ∧ SqL K H sc (ns.map V.int) ∧ Tabs (tabsT K) H) ⟨_, _, _, _, _, _, _, _, _, rfl, hS, tt⟩ ?_ ?_⟩
    · split <;> split <;> omega
    · split <;> split <;> omega
    rotate_left
    · intro σ H' _
      walk_at "go"
      exact k _
    intro i σ H hi hh
    obtain ⟨v1, v2, v3, v4, v5, v6, v7, v8, v9, rfl, hS, tt⟩ := hh
    have hk : i < 63 := by
      rw [List.length_map] at hi
      have := iters ns.length hn
      omega
    rw [Int.zero_add]
    walk_at "go"
    refine mkPool hS hn hk hb fun p H1 np e1 pl1 => ?_
    have L1 : LtN (tabsT K) p H1 H1 := LtN.of pl1 (tt.ext e1)
    walk_at "go"
    refine draw pl1 fun r H2 hr2 l2 => ?_
    have L2 := L1.lt l2
    walk_at "go"
    refine ⟨_, rfl, by omega, by omega, fun D hD => ?_⟩
    rw [Int.toNat_natCast]
    refine lcP (Rd.walk_rangeN) Rd.yrng (by rw [List.length_range]; omega) l2.pl (fun _ => true) (fun _ y _ => ∃ z : Int, y = .int z ∧ -(10 ^ 9) ≤ z ∧ z ≤ 10 ^ 9) (fun _ _ _ _ _ h => h) hD (fun _ _ => trivial) ?_ ?_
    · rintro j it x H' _ acc hit lt ha ⟨rfl, rfl⟩ Qy Qn ky kn
      walk_at "go"
      refine ⟨rfl, ?_⟩
      walk_at "go"
      exact drawN lt.pl fun z H4 b1 b2 l4 => ky _ _ l4 rfl ⟨z, rfl, b1, b2⟩
    intro ys H3 l3 hys pr
    rw [List.filter_eq_self.mpr (fun _ _ => rfl)] at pr
    obtain ⟨xs, rfl, hx, smx⟩ := intsB pr
    rw [List.length_range] at hx
    clear pr
    have S1 : S21a K H1 p D xs H3 := ⟨L2.lt l3, hys, l2.pl.ne hD, by omega, smx⟩
    clear l3 l2 hD L2 L1
    walk_at "go"
    rw [List.length_map]
    refine draw S1.lt.pl fun r2 H4 hr2 l4 => ?_
    have S1 := S1.lg l4
    walk_at "go"
    refine ⟨_, rfl, by omega, by omega, fun D2 hD2 => ?_⟩
    obtain ⟨m, hm, hm2⟩ : ∃ m : Nat, (xs.length : Int) + 1 + r2 = (m : Int) ∧ m = xs.length + 1 + r2 := ⟨_, by push_cast; rfl, rfl⟩
    rw [hm, Int.toNat_natCast]
    refine lcP (Rd.walk_rangeN) Rd.yrng (by rw [List.length_range]; omega) S1.lt.pl (fun _ => true) (fun _ y _ => ∃ z : Int, y = .int z ∧ -(10 ^ 9) ≤ z ∧ z ≤ 10 ^ 9) (fun _ _ _ _ _ h => h) hD2 (fun _ _ => trivial) ?_ ?_
    · rintro j it x H' _ acc hit lt ha ⟨rfl, rfl⟩ Qy Qn ky kn
      walk_at "go"
      refine ⟨rfl, ?_⟩
      walk_at "go"
      exact drawN lt.pl fun z H4 b1 b2 l4 => ky _ _ l4 rfl ⟨z, rfl, b1, b2⟩
    intro ys H5 l5 hys pr
    rw [List.filter_eq_self.mpr (fun _ _ => rfl)] at pr
    obtain ⟨ys, rfl, hy, smy⟩ := intsB pr
    rw [List.length_range] at hy
    clear pr
    have ne2 := S1.lt.pl.ne hD2
    have S1 := S1.lg l5
    have S2 : S21a K H1 p D2 ys H5 := ⟨S1.lt, hys, ne2, by omega, smy⟩
    have hxy : xs.length < ys.length := by omega
    clear hys l5 hD2 l4 hm
    have d1 := S1.d
    have d2 := S2.d
    walk_at "go"
    refine draw S1.lt.pl fun r3 H6 hr3 l6 => ?_
    have S1 := S1.lg l6
    have S2 := S2.lg l6
    clear l6
    have d1 := S1.d
    have d2 := S2.d
    walk_at "go"
    refine cut3 (S := fun D2 ys H => S21a K H1 p D xs H ∧ S21a K H1 p D2 ys H ∧ xs.length < ys.length) (R := ?R) (fun key => ?now) ?rest
    case now =>
      refine Rd.ited (fun c => ?_) (fun c => ?_)
      · walk_at "go"
        refine ⟨Rd.szr rfl, fun o1 ho1 => ?_⟩
        have S1 := S1.ext (Ext.upd (o := .lst [V.int 0]) ho1)
        have S2 := S2.ext (Ext.upd (o := .lst [V.int 0]) ho1)
        have d1 := S1.d
        have d2 := S2.d
        walk_at "go"
        rw [List.length_map]
        walk_at "go"
        rw [List.length_map, show (ys.length : Int) - xs.length = ((ys.length - xs.length : Nat) : Int) by omega]
        have b2 := S2.len
        refine Rd.repI upd_same (by omega) fun o2 ho2 => ?_
        have S1 := S1.ext (Ext.upd (o := .lst ((List.replicate (ys.length - xs.length) 0).map V.int)) ho2)
        refine Rd.catI S1.d upd_same (by rw [List.length_replicate]; have := S1.len; omega) fun o3 ho3 => ?_
        have ne3 := S1.lt.pl.ne ho3
        have S1 := S1.ext (Ext.upd (o := .lst ((xs ++ List.replicate (ys.length - xs.length) 0).map V.int)) ho3)
        have hl : (xs ++ List.replicate (ys.length - xs.length) 0).length = ys.length := by rw [List.length_append, List.length_replicate]; omega
        have S2 : S21a K H1 p o3 (xs ++ List.replicate (ys.length - xs.length) 0) _ := ⟨S1.lt, upd_same, ne3, by rw [hl]; exact b2, fun z hz => by
          rcases List.mem_append.mp hz with h | h
          · exact smx z h
          · rw [(List.mem_replicate.mp h).2]; omega⟩
        have hxy : xs.length < (xs ++ List.replicate (ys.length - xs.length) 0).length := by rw [hl]; exact hxy
        clear ho1 ho2 d1 d2 hl
        change gName 5 (V.ref o3) _ (upd _ o3 (.lst ((xs ++ List.replicate (ys.length - xs.length) 0).map V.int))) _
        generalize upd _ o3 (.lst ((xs ++ List.replicate (ys.length - xs.length) 0).map V.int)) = H7 at S1 S2
        generalize xs ++ List.replicate (ys.length - xs.length) 0 = zs at S2 hxy
        walk_at "go"
        exact key o3 zs H7 ⟨S1, S2, hxy⟩
      · walk_at "go"
        exact key D2 ys H6 ⟨S1, S2, hxy⟩
    clear S1 S2 hxy hy smy ne2 hm2 hr3 d1 d2
    rintro D2 ys H6 ⟨S1, S2, hxy⟩
    refine mk_form (.inl S1.d) fun f H7 e7 nf F => ?_
    have S1 := S1.ext e7
    have S2 := S2.ext e7
    walk_at "go"
    refine mk_form (.inl S2.d) fun g H8 e8 ng G => ?_
    have S : S21 K H1 p D D2 f g xs ys H8 := ⟨S1.ext e8, S2.ext e8, hxy, F.ext e8, G⟩
    clear S1 S2 F G e8 e7 hxy
    walk_at "go"
    refine ⟨_, rfl, by omega, by omega, ?_⟩
    refine for_range (fun j σ H => ∃ u4 u8 u9, σ = [some (.ref sc), some (.int i), some (.ref p), some (.ref D), u4, some (.ref D2), some (.ref f), some (.ref g), u8, u9] ∧ S21 K H1 p D D2 f g xs ys H) ⟨_, _, _, rfl, S⟩ ?_ ?_
    rotate_left
    · rintro σ H25 ⟨u4, u8, u9, rfl, S⟩
      walk_at "go"
      exact ⟨_, _, _, _, _, _, _, _, _, rfl, SqL.laterN hS np e1 S.a.lt, S.a.lt.tb⟩
    rintro j σ H9 hj ⟨u4, u8, u9, rfl, S⟩
    rw [Int.zero_add]
    have lx := S.a.len
    have ly := S.b.len
    have smx := S.a.sm
    have smy := S.b.sm
    have hxy := S.lt
    clear S1
    have d2 := S.b.d
    walk_at "go"
    rw [List.length_map]
    refine ⟨f, g, xs, ys, rfl, S.F, S.G, by omega, by omega, by omega, smx.out (by decide), smy.out (by decide), S.a.lt.tb, fun H10 e10 t10 => ?_⟩
    have S := S.xt e10 t10
    have d1 := S.a.d
    walk_at "go"
    rw [List.length_map]
    refine ⟨g, f, ys, xs, rfl, S.G, S.F, by omega, by omega, by omega, smy.out (by decide), smx.out (by decide), S.a.lt.tb, fun H11 e11 t11 => ?_⟩
    have S := S.xt e11 t11
    walk_at "go"
    refine ⟨f, D, xs, xs, rfl, S.F, S.a.d, by omega, fun H12 e12 => ?_⟩
    have S := S.ext e12
    rw [decide_eq_true rfl]
    walk_at "go"
    refine ⟨g, D2, ys, ys, rfl, S.G, S.b.d, by omega, fun H13 e13 => ?_⟩
    have S := S.ext e13
    rw [decide_eq_true rfl]
    have d1 := S.a.d
    walk_at "go"
    rw [List.length_map]
    refine Rd.takeI (SqL.of S.b.d) (by omega) fun q hq => ?_
    have S := S.ext (Ext.upd (o := .lst ((ys.take xs.length).map V.int)) hq)
    walk_at "go"
    refine mk_form (.inl upd_same) fun h H14 e14 nh Fh => ?_
    have S := S.ext e14
    have hl : xs.length = (ys.take xs.length).length := by rw [List.length_take]; omega
    have smt : Sm (ys.take xs.length) := fun z hz => smy z (List.mem_of_mem_take hz)
    walk_at "go"
    obtain ⟨dx, qf, hf⟩ := S.F.ins
    obtain ⟨dh, qh, hh⟩ := Fh.ins
    refine ⟨f, h, dx, dh, _, _, rfl, rfl, hf, hh, f, h, xs, _, rfl, S.F, Fh, by omega, fun _ x H15 e15 nx X => ?_, fun c => absurd hl c⟩
    clear hf hh
    have S := S.ext e15
    have Fh := Fh.ext e15
    have d1 := S.a.d
    walk_at "go"
    rw [List.length_map]
    refine ⟨_, rfl, by omega, by omega, fun D3 hD3 => ?_⟩
    rw [Int.toNat_natCast]
    refine Rd.lcE (emb := fun j : Nat => V.int j) Rd.walk_rangeN Rd.yrng (by rw [List.length_range]; omega) (fun _ => true) (fun j y _ => y = .int ((xs[j]?).getD 0 + (ys[j]?).getD 0)) (fun _ _ _ _ _ h => h) hD3 (fun H' e => trivial) ?_ ?_
    · intro j it H' acc hj e hacc Qy Qn ky kn
      have hit : it < xs.length := by
        have := List.mem_of_getElem? hj
        exact List.mem_range.mp this
      have d1 := e _ _ S.a.d
      have d2 := e _ _ S.b.d
      have hx := List.getElem?_eq_getElem hit
      have hy := List.getElem?_eq_getElem (show it < ys.length by omega)
      generalize xs[it] = x at hx
      generalize ys[it] = y at hy
      have atx := at_int hx
      have aty := at_int hy
      walk_at "go"
      refine ⟨rfl, ?_⟩
      walk_at "go"
      refine ky _ _ Rd.ext_rfl rfl ?_
      rw [hx, hy]
      rfl
    intro zs H16 e16 hzs pr
    have S := S.ext e16
    have Fh := Fh.ext e16
    have X := X.ext e16
    rw [List.filter_eq_self.mpr (fun _ _ => rfl)] at pr
    have ez := Rd.paired_map (f := fun j : Nat => V.int ((xs[j]?).getD 0 + (ys[j]?).getD 0)) pr
    have ez : zs = (List.zipWith (fun p q => p + q) xs (ys.take xs.length)).map V.int := by
      rw [ez, ← zip_range (by omega), List.map_map]
      rfl
    rw [ez] at hzs
    clear pr ez
    walk_at "go"
    refine ⟨x, D3, _, _, rfl, X, hzs, by rw [List.length_zipWith]; omega, fun H17 e17 => ?_⟩
    have S := S.ext e17
    have Fh := Fh.ext e17
    rw [decide_eq_true rfl]
    obtain ⟨dx, qf, hf⟩ := S.F.ins
    walk_at "go"
    refine Rd.mev rfl hf rfl ?_
    walk_at "go"
    refine ⟨f, h, xs, _, rfl, S.F, Fh, by omega, smx.out (by decide), smt.out (by decide), fun _ H18 e18 => ?_, fun c => absurd hl c⟩
    have S := S.ext e18
    have d1 := S.a.d
    walk_at "go"
    rw [List.length_map]
    refine Rd.takeI (SqL.of S.b.d) (by omega) fun q2 hq2 => ?_
    have S := S.ext (Ext.upd (o := .lst ((ys.take xs.length).map V.int)) hq2)
    walk_at "go"
    refine ⟨D, q2, xs, _, rfl, S.a.d, upd_same, hl, by omega, smx.out (by decide), smt.out (by decide), fun H19 e19 => ?_⟩
    have S := S.ext e19
    rw [like_law hl]
    refine ⟨rfl, ?_⟩
    walk_at "go"
    rw [decide_eq_true rfl]
    have d2 := S.b.d
    walk_at "go"
    refine ⟨.ref g, rfl, g, rfl, ?_⟩
    walk_at "go"
    refine ⟨Rd.szr rfl, fun o1 ho1 => ?_⟩
    have S := S.ext (Ext.upd (o := .lst [V.int 2]) ho1)
    have d2 := S.b.d
    walk_at "go"
    rw [List.length_map]
    refine Rd.repI upd_same (by omega) fun o2 ho2 => ?_
    have S := S.ext (Ext.upd (o := .lst ((List.replicate ys.length 2).map V.int)) ho2)
    walk_at "go"
    obtain ⟨dy, qg, hg⟩ := S.G.ins
    refine ⟨⟨dy, _, hg⟩, g, o2, ys, _, rfl, S.G, .inl upd_same, by omega, smy.out (by decide), fun _ H20 e20 => ?_, fun c => absurd (List.length_replicate).symm c⟩
    have S := S.ext e20
    rw [dot_twos]
    have d2 := S.b.d
    walk_at "go"
    rw [decide_eq_true rfl]
    walk_at "go"
    exact ⟨_, _, _, rfl, S⟩
/-- the tables are empty at the start -/
theorem tabs_nil (h : ∀ p ∈ tf, H (He.cT K p).2 = some (.tbl #[])) : Tabs (tabsT K) H := fun q hq => by
  rw [List.mem_singleton.mp hq]
  exact LamX.TabS.nil (h dRef (by simp [tf]))
end
end Lv

set_option Elab.async false
set_option linter.all false
set_option maxRecDepth 100000
set_option maxHeartbeats 0
/-! The top's run. -/
namespace Lv
open PySem PySem.Spec PyProof.Rows L2 OwX
abbrev R : PySem.W.OpenRow := PySem.W.OpenLaw.row PySem.Challenge.rw_levelcascades_k21_lengths_of_forms_refus
abbrev hk : PySem.W.Hook := HeZ.hookZ 5 fb fn tf
def ob (s : PySem.W.SharedT) : HeZ.AlZ := HeZ.obsZ 5 fb fn tf (HandSHeadRun.getT s)
theorem ob_eq (s : PySem.W.SharedT) : ob s = hk.obs s.abs := HeZ.obsZ_eq (HandSHeadRun.getT_eq s)
theorem run (w : World) : HandSHeadRun.RunEq R (PySem.W.view R.prog [lawAt]) hk ob 8000 names w := by
  intro os
  kernel_rfl
end Lv

set_option Elab.async false
set_option linter.all false
set_option maxRecDepth 100000
set_option maxHeartbeats 0
/-! The law holds. -/
namespace Lv
open PySem PySem.Spec PyProof.Rows L2 OwX
theorem no_exc (P : Program) (w : World) (H : Hp) (s : Shared) (e : Value) (s' : Shared) (h : L2.CX P w [] H s (fun _ _ _ => False) e s') : False := by
  obtain ⟨_, _, _, _, _, _, _, _, _, _, _, _, z⟩ := h
  exact z
theorem facts {w : World} {K : PySem.W.Frag} {h : Heap} {mg : Str → Option Value} {f : Addr} (X : K.In h) (G : h.Ns mainGlobals mg) (hfa : mg ("law" : Str) = some (.ref f)) (c : HeZ.SaysZ fb fn tf h K) : LamX.LawAtS PySem.Challenge.rw_levelcascades_k21_lengths_of_forms_refus w K (L2.CX (PySem.Challenge.rw_levelcascades_k21_lengths_of_forms_refus).prog w) 40 63 "script" mg f h := by
  have T : Tx K mg := ⟨h, X, G, c⟩
  obtain ⟨fd, F⟩ := T.d_law
  have e := hfa.symm.trans T.g_law
  cases e
  have b := FunD.bindsA (ps := ["script"]) F fun _ _ _ _ _ _ us hl => match us, hl with | [_], _ => rfl
  refine ⟨fd, tf.map (He.cT K), sp_law K, fun p hp => ?_, fun p hp => ?_, fun p hp => ?_, fun s v => b s [v] rfl, fun H a ns hl hb hT hS => ⟨a, ns, rfl, hS, hl, hb, tabs_nil fun p hp => hT _ (List.mem_map.mpr ⟨p, hp, rfl⟩), fun _ => rfl⟩, fun base _ _ tb => ok_law T (fun q hq => tb _ (List.mem_map.mpr ⟨q, hq, rfl⟩)) F⟩
  · obtain ⟨q, hq, rfl⟩ := List.mem_map.mp hp
    exact c.empty q hq
  · obtain ⟨q, hq, rfl⟩ := List.mem_map.mp hp
    exact c.out q hq
  · obtain ⟨q, hq, rfl⟩ := List.mem_map.mp hp
    exact PySem.W.codeHd_of_K X (c.hd q hq)
end Lv
open PySem PySem.W PySem.Calls PyProof.Rows
theorem PySem.Challenge.cw_levelcascades_k21_lengths_of_forms_refus_holds : PySem.Challenge.rw_levelcascades_k21_lengths_of_forms_refus.Holds := by
  w_on; o_law
  refine HandSHeadRun.head_any (r := OpenLaw.row PySem.Challenge.rw_levelcascades_k21_lengths_of_forms_refus) (q := view (OpenLaw.row PySem.Challenge.rw_levelcascades_k21_lengths_of_forms_refus).prog [Lv.lawAt]) (H := Lv.hk) (ob := Lv.ob) (M := 8000) (loose := Lv.names) (d := HandSHeadRun.topDef (OpenLaw.row PySem.Challenge.rw_levelcascades_k21_lengths_of_forms_refus).prog Lv.lawAt) (kwd := []) Lv.ob_eq
    (by kernel_rfl) (fun s => by kernel_rfl) Lv.run (by kernel_rfl) (by kernel_rfl) (by kernel_rfl) (by rfl) (by first | assumption | decide +kernel) (by decide +kernel) ⟨rfl, rfl, rfl, rfl, rfl, by decide +kernel⟩ ?hw ?hc
  case hw => w_witness2
  case hc =>
    refine LamX.walk_ofTsE (l := PySem.Challenge.rw_levelcascades_k21_lengths_of_forms_refus) (n := 63) (k := 40) (x := "script") (CX := fun w => L2.CX (PySem.Challenge.rw_levelcascades_k21_lengths_of_forms_refus).prog w) rfl (by decide) (by kernel_rfl) ⟨rfl, by decide, by decide⟩ ?F (fun w H s e s' h => Lv.no_exc _ _ H s e s' h)
    intro w mg fa h Y G hmg0
    obtain ⟨K, KX, c⟩ := Y
    have hmg : mg ("law" : PySem.Str) = some (.ref fa) := by
      have e : (HandSHeadRun.topDef (OpenLaw.row PySem.Challenge.rw_levelcascades_k21_lengths_of_forms_refus).prog Lv.lawAt).name = ("law" : PySem.Str) := by kernel_rfl
      rw [← e]
      exact hmg0
    exact ⟨K, KX, Lv.facts KX G hmg c⟩

