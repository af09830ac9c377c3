import PyProof.Rows.All
import Wide.All
import OpenK.AllK
import Wide.FinOn
import KE.KOpsOwn
import HandS.ForMost
import HandS.ForExc
import HandS.More
import HandS.Star
import HandS.ClsMeth
import HandS.OwnEq
import HandS.ExcInit
import HandS.Property
import KE.KStateDown
import HandS.Head0
import HandS.Head1
import HandS.Head2
import HandS.HeadEnd
import HandS.HeadHook1
import HandS.HeadHook2
import HandS.HeadHook3
import HandS.HeadHook4
import HandS.HeadNt
import HandS.HeadWalk
import KE.KExcIs
import HandS.IsInst
import HandS.ExcIs
import HandS.ExcField
import HandS.TryMany
import HandS.Wide
import HandS.SetFor
import HandS.Style
import HandS.Flow
import HandS.Deep
import HandS.Codes
import HandS.Comp
import HandS.Zip
import HandS.Walk
import HandS.TupAny
import HandS.TupMul
import HandS.Small
import PySem.Challenge.RW_levelcascades_k18_forms_told
set_option Elab.async false
set_option linter.all false
set_option maxRecDepth 100000
set_option maxHeartbeats 0
/-! Operators that a class of the text defines itself, as rules of readings; static methods. -/
namespace OwX
open PySem PySem.Spec PyProof.Rows L2 ClX
section
variable {X : Cx} {CX : CXT} {k : Nat} {C g : Addr} {sp : Sp} {E : XK} {pins : List (Addr × Obj)} {σ : L2.St} {H : Hp} {s : Shared} {Q : VK}
/-- a def runs at an around with the body's frames -/
theorem call_own {A' : Around} {us : List Value} {vs : List V} (F : FnR X.prog X.w X.K X.mg X.base CX k g sp) (hr : Room k A') (hfr : A'.frames = X.A.frames) (hx : Passes CX X E) (I : Inv X pins σ H s) (r : Vals vs us) (h : sp vs H Q E) :
    wpAny (model X.prog X.w) A' (call (.ref g) us) (EP X pins σ Q) X.xe s := by
  have e := I.env0
  refine wpAny_call (codeAny_mono (F A' X.stack s H us vs Q E hr ⟨by rw [hfr]; exact e.frames, e.mod, e.bs, e.bsz, e.funs, e.frf, e.hok, e.bare⟩ r h) fun r s' hq => ?_)
  cases r with
  | error er => exact hx pins σ H s er s' I hq
  | ok fl =>
    cases fl with
    | ret u => exact I.after hq
    | next => exact False.elim hq
    | brk => exact False.elim hq
    | cont => exact False.elim hq
/-- an instance of C, as the library looks at it -/
theorem inst_at {a dx : Addr} {fs : List (Str × V)} (I : Inv X pins σ H s) (h : H a = some (.ins C dx fs)) : ∃ od, PySem.W.InstAt s.heap a (PySem.W.instObj C dx) C (some od) := by
  obtain ⟨mA, O, _⟩ := ins_get I.hok h
  obtain ⟨od, J, _⟩ := O.look
  exact ⟨od, J⟩
/-- x and y are instances of C; the own method's promise -/
def rOwn2 (C : Addr) (sp : Sp) (E : XK) : R2 := fun x y H Q => ∃ a b dx dy fs gs, x = .ref a ∧ y = .ref b ∧ H a = some (.ins C dx fs) ∧ H b = some (.ins C dy gs) ∧ sp [.ref a, .ref b] H (fun v H' => (∃ c, v = .bl c) ∧ Q v H') E
/-- x a value, y an instance: in, not in -/
def rOwnIn (C : Addr) (sp : Sp) (E : XK) (neg : Bool) : R2 := fun x y H Q => ∃ b dy gs, y = .ref b ∧ H b = some (.ins C dy gs) ∧ sp [.ref b, x] H (fun v H' => ∃ c, v = .bl c ∧ Q (.bl (if neg then !c else c)) H') E
/-- x and y are instances, a value that is no NotImplemented comes out -/
def rOwnB (C : Addr) (sp : Sp) (E : XK) : R2 := fun x y H Q => ∃ a b dx dy fs gs, x = .ref a ∧ y = .ref b ∧ H a = some (.ins C dx fs) ∧ H b = some (.ins C dy gs) ∧ sp [.ref a, .ref b] H Q E
theorem cmpBack {v : Value} {s' : Shared} {P : Value → Shared → Prop} {w : V} (r : RelV w v) (h : P v s') : PySem.W.CmpBack P v s' := by
  cases w with
  | non => cases r; exact h
  | bl b => cases r; exact h
  | int i => obtain ⟨t, rfl⟩ := r; exact h
  | str x => obtain ⟨t, rfl⟩ := r; exact h
  | byt b => obtain ⟨t, rfl⟩ := r; exact h
  | flt b => obtain ⟨t, rfl⟩ := r; exact h
  | ref a => cases r; exact h
  | ty n => cases r; exact h
theorem cmp_own {op : CmpOp} {n : Str} (hn : (cmpInfo op).2.1 = n) (m : Meth X.K C n g) (F : FnR X.prog X.w X.K X.mg X.base CX k g sp) (hr : Room k X.A) (hx : Passes CX X E) {x y : V} {v u : Value} (I : Inv X pins σ H s) (rx : RelV x v) (ry : RelV y u)
    (h : rOwn2 C sp E x y H Q) : wpAny (model X.prog X.w) X.A (richCompare op v u) (EP X pins σ Q) X.xe s := by
  obtain ⟨a, b, dx, dy, fs, gs, rfl, rfl, ha, hb, hs⟩ := h
  cases rx
  cases ry
  obtain ⟨od, J⟩ := inst_at I ha
  obtain ⟨od', J'⟩ := inst_at I hb
  obtain ⟨m0, hF⟩ := I.fr
  refine PySem.W.cmp_K (op := op) (tb := .ref C) hr.units0 hF I.ok.mod.kin J J'.type (by simp [PySem.W.notFirst]) (by rw [hn]; exact m.at_) m.fn ?_
  refine thn (call_own (vs := [.ref a, .ref b]) F hr rfl hx I (.cons rfl (.cons rfl .nil)) hs) fun r s' hq => ?_
  obtain ⟨w, H', I', rw', hc, q⟩ := hq
  exact cmpBack rw' ⟨w, H', I', rw', q⟩
theorem op_eqO (m : Meth X.K C "__eq__" g) (F : FnR X.prog X.w X.K X.mg X.base CX k g sp) (hr : Room k X.A) (hx : Passes CX X E) : OpR X (compareOp .Eq) (rOwn2 C sp E) := by
  intro pins s σ H x y v u Q I rx ry hq
  exact cmp_own (op := .Eq) rfl m F hr hx I rx ry hq
theorem op_leO (m : Meth X.K C "__le__" g) (F : FnR X.prog X.w X.K X.mg X.base CX k g sp) (hr : Room k X.A) (hx : Passes CX X E) : OpR X (compareOp .LtE) (rOwn2 C sp E) := by
  intro pins s σ H x y v u Q I rx ry hq
  exact cmp_own (op := .LtE) rfl m F hr hx I rx ry hq
theorem op_inO (m : Meth X.K C "__contains__" g) (F : FnR X.prog X.w X.K X.mg X.base CX k g sp) (hr : Room k X.A) (hx : Passes CX X E) : OpR X (compareOp .In) (rOwnIn C sp E false) := by
  intro pins s σ H x y v u Q I rx ry hq
  obtain ⟨b, dy, gs, rfl, hb, hs⟩ := hq
  cases ry
  obtain ⟨od, J⟩ := inst_at I hb
  obtain ⟨m0, hF⟩ := I.fr
  refine PySem.W.in_K hF I.ok.mod.kin J m.at_ m.fn ?_
  refine thn (call_own (vs := [.ref b, x]) F hr rfl hx I (.cons rfl (.cons rx .nil)) hs) fun r s' hq => ?_
  obtain ⟨w, H', I', rw', c, rfl, q⟩ := hq
  cases rw'
  exact wpAny_truthy_bool ⟨.bl c, H', I', rfl, q⟩
theorem op_niO (m : Meth X.K C "__contains__" g) (F : FnR X.prog X.w X.K X.mg X.base CX k g sp) (hr : Room k X.A) (hx : Passes CX X E) : OpR X (compareOp .NotIn) (rOwnIn C sp E true) := by
  intro pins s σ H x y v u Q I rx ry hq
  obtain ⟨b, dy, gs, rfl, hb, hs⟩ := hq
  cases ry
  obtain ⟨od, J⟩ := inst_at I hb
  obtain ⟨m0, hF⟩ := I.fr
  refine PySem.W.notIn_K hF I.ok.mod.kin J m.at_ m.fn ?_
  refine thn (call_own (vs := [.ref b, x]) F hr rfl hx I (.cons rfl (.cons rx .nil)) hs) fun r s' hq => ?_
  obtain ⟨w, H', I', rw', c, rfl, q⟩ := hq
  cases rw'
  exact wpAny_truthy_bool ⟨.bl (!c), H', I', rfl, q⟩
/-- a binary operator of two instances -/
theorem op_binO {op : Operator} {n : Str} (hn : PySem.dunder op.info.2 = n) (hc : PySem.W.selfFirst X.K C = true) (m : Meth X.K C n g) (F : FnR X.prog X.w X.K X.mg X.base CX k g sp) (hr : Room k X.A) (hx : Passes CX X E) : OpR X (binaryOp op) (rOwnB C sp E) := by
  intro pins s σ H x y v u Q I rx ry hq
  obtain ⟨a, b, dx, dy, fs, gs, rfl, rfl, ha, hb, hs⟩ := hq
  cases rx
  cases ry
  obtain ⟨od, J⟩ := inst_at I ha
  obtain ⟨od', J'⟩ := inst_at I hb
  obtain ⟨m0, hF⟩ := I.fr
  refine PySem.W.binop_K hF I.ok.mod.kin J J'.type hc (by rw [hn]; exact m.at_) m.fn ?_
  refine thn (call_own (vs := [.ref a, .ref b]) F hr rfl hx I (.cons rfl (.cons rfl .nil)) hs) fun r s' hq => ?_
  obtain ⟨w, H', I', rw', q⟩ := hq
  exact cmpBack rw' ⟨w, H', I', rw', q⟩
/-- ~x, -x -/
def rOwn1 (C : Addr) (sp : Sp) (E : XK) : V → Hp → VK → Prop := fun x H Q => ∃ a dx fs, x = .ref a ∧ H a = some (.ins C dx fs) ∧ sp [.ref a] H Q E
theorem un_invO (m : Meth X.K C "__invert__" g) (F : FnR X.prog X.w X.K X.mg X.base CX k g sp) (hr : Room k X.A) (hx : Passes CX X E) : UnR X (unaryOp .Invert) (rOwn1 C sp E) := by
  intro pins s σ H x v Q I rx hq
  obtain ⟨a, dx, fs, rfl, ha, hs⟩ := hq
  cases rx
  obtain ⟨od, J⟩ := inst_at I ha
  obtain ⟨m0, hF⟩ := I.fr
  exact PySem.W.ksp_inv hF I.ok.mod.kin J m.at_ m.fn (call_own (vs := [.ref a]) F hr rfl hx I (.cons rfl .nil) hs)
/-- len(x) by an own __len__ -/
def rOwnLen (C : Addr) (sp : Sp) (E : XK) : List V → Hp → VK → Prop := fun xs H Q => ∃ a dx fs, xs = [.ref a] ∧ H a = some (.ins C dx fs) ∧ sp [.ref a] H (fun v H' => ∃ n : Int, v = .int n ∧ 0 ≤ n ∧ n < 2 ^ 63 ∧ Q (.int n) H') E
theorem call_lenO (m : Meth X.K C "__len__" g) (F : FnR X.prog X.w X.K X.mg X.base CX k g sp) (hr : Room (k + 1) X.A) (hx : Passes CX X E) : CallR X (.builtin "len") (rOwnLen C sp E) := by
  intro pins s σ H xs us Q I r h
  obtain ⟨a, dx, fs, rfl, ha, hs⟩ := h
  obtain ⟨u, rfl, rx⟩ := vals1 r
  cases rx
  obtain ⟨od, J⟩ := inst_at I ha
  obtain ⟨m0, hF⟩ := I.fr
  refine PySem.W.len_K hF I.ok.mod.kin J m.at_ m.fn ?_
  refine thn (call_own (vs := [.ref a]) F hr.in1 rfl hx I (.cons rfl .nil) hs) fun r s' hq => ?_
  obtain ⟨w, H', I', rw', n, rfl, h0, h1, q⟩ := hq
  obtain ⟨t, rfl⟩ := rw'
  exact ⟨⟨h0, h1⟩, ⟨.int n, H', I'.tok _, ⟨_, rfl⟩, q⟩⟩
/-- the truth of an instance by its own __bool__ -/
def rOwnTru (C : Addr) (sp : Sp) (E : XK) : V → Hp → (Bool → Hp → Prop) → Prop := fun x H Q => ∃ a dx fs, x = .ref a ∧ H a = some (.ins C dx fs) ∧ sp [.ref a] H (fun v H' => ∃ c, v = .bl c ∧ Q c H') E
theorem truthy_own (m : Meth X.K C "__bool__" g) (F : FnR X.prog X.w X.K X.mg X.base CX k g sp) {A' : Around} (hr : Room k A') (hfr : A'.frames = X.A.frames) (hx : Passes CX X E) {x : V} {v : Value} {Q : Bool → Hp → Prop} (I : Inv X pins σ H s) (rx : RelV x v) (h : rOwnTru C sp E x H Q) :
    wpAny (model X.prog X.w) A' (truthy v) (TP X pins σ Q) X.xe s := by
  obtain ⟨a, dx, fs, rfl, ha, hs⟩ := h
  cases rx
  obtain ⟨od, J⟩ := inst_at I ha
  obtain ⟨m0, hF⟩ := I.fr
  refine PySem.W.truthy_K hF I.ok.mod.kin J m.at_ m.fn ?_
  refine thn (call_own (vs := [.ref a]) F hr hfr hx I (.cons rfl .nil) hs) fun r s' hq => ?_
  obtain ⟨w, H', I', rw', c, rfl, q⟩ := hq
  cases rw'
  exact ⟨H', I', q⟩
theorem tru_own (m : Meth X.K C "__bool__" g) (F : FnR X.prog X.w X.K X.mg X.base CX k g sp) (hr : Room k X.A) (hx : Passes CX X E) : TruR X (rOwnTru C sp E) := by
  intro pins s σ H x v Q I rx h
  exact truthy_own m F hr rfl hx I rx h
/-- x[i] by an own __getitem__ -/
def rOwnIx (C : Addr) (sp : Sp) (E : XK) : R2 := fun x y H Q => ∃ a dx fs, x = .ref a ∧ H a = some (.ins C dx fs) ∧ sp [.ref a, y] H Q E
theorem pe_ixO {a b : Expr} {ta tb : TE} {pos : Pos} (m : Meth X.K C "__getitem__" g) (hf : PySem.W.fnIn X.K g = true) (F : FnR X.prog X.w X.K X.mg X.base CX k g sp) (hr : Room (k + 1) X.A) (hx : Passes CX X E) (ha : PE X a ta) (hb : PE X b tb)
    (hs : ∀ x i, subscripted b true (.ref x) i = runValue (.builtin "lifetime.subscript" ⟨[.ref x, i], []⟩) := by intro _ _; rfl) : PE X (.Subscript a b pos) (tOp (rOwnIx C sp E) ta tb) := by
  refine ⟨fun pins s σ H Q I h => ?_⟩
  refine Subscript_ (binT ha hb I h fun v u s2 x y H2 I2 rx ry q => ?_)
  obtain ⟨p, dx, fs, rfl, hp, hsp⟩ := q
  cases rx
  obtain ⟨od, J⟩ := inst_at I2 hp
  obtain ⟨m0, hF⟩ := I2.fr
  exact PySem.W.sub_K hF I2.ok.mod.kin J m.at_ hf m.fn (call_own (vs := [.ref p, y]) F hr.in1 rfl hx I2 (.cons rfl (.cons ry .nil)) hsp) (hs _ _)
/-- x[i] = v by an own __setitem__ -/
def rOwnSet (C : Addr) (sp : Sp) (E : XK) : TSet := fun o i v H Q => ∃ a dx fs, o = .ref a ∧ H a = some (.ins C dx fs) ∧ sp [.ref a, i, v] H (fun _ H' => Q H') E
theorem set_own (hq : PySem.W.noSeq X.K C = true) (m : Meth X.K C "__setitem__" g) (F : FnR X.prog X.w X.K X.mg X.base CX k g sp) (hr : Room k X.A) (hx : Passes CX X E) : PSet X (rOwnSet C sp E) := by
  intro pins s σ H o i v ou iu vu Q I ro ri rv h
  obtain ⟨a, dx, fs, rfl, ha, hs⟩ := h
  cases ro
  obtain ⟨od, J⟩ := inst_at I ha
  obtain ⟨m0, hF⟩ := I.fr
  refine PySem.W.ksp_setItem hF I.ok.mod.kin J hq m.at_ m.fn ?_
  refine thn (call_own (vs := [.ref a, i, v]) F hr rfl hx I (.cons rfl (.cons ri (.cons rv .nil))) hs) fun r s' z => ?_
  obtain ⟨w, H', I', rw', q⟩ := z
  exact ⟨H', I', q⟩
/-- C.m is a static method: its record at p, its def at g -/
structure SMet (K : PySem.W.Frag) (C : Addr) (mc : Value) (m : Str) (p g : Addr) : Prop where
  at_ : PySem.W.findCls K (.ref C) mc m = some (.get (.builtin "staticmethod.__get__") (.ref p) .none (.ref C))
  rc : ∃ rest, PySem.W.recIn K p "staticmethod" = some (.ref g :: rest)
  kp : PySem.W.keepIn K (.ref g) = true
theorem getmethsm_ok {pl : Sem Bool} {p : Addr} {mc : Value} {m : Str} {E : Value → Shared → Prop} {A : Around} {Q : Value × List Value → Shared → Prop} (I : Inv X pins σ H s) (r : CRead X.K C mc) (c : SMet X.K C mc m p g)
    (h : ∀ s', Inv X pins σ H s' → Q (.ref g, []) s') : wpAny (model X.prog X.w) A (getMethod (.ref C) m pl) Q E s := by
  obtain ⟨rest, hp⟩ := c.rc
  refine PySem.W.method_cls I.kIn r.ga (PySem.W.cls_bind I.kIn r.rd c.at_ ?_)
  refine wpAny_call (PySem.W.sm_get (s := { s with toks := s.toks + 1 }) I.kIn hp (PySem.W.handed_on rfl ?_))
  exact h _ (I.tok _)
/-- o.m(e, ..), o the class -/
def tSMeth (C : Addr) (sp : Sp) (E : XK) (ta : TE) (t : TA) : TE := fun σ H Q => ta σ H fun x H1 => x = .ref C ∧ t σ H1 fun vs H2 => sp vs H2 Q E
theorem pe_smeth {o e : Expr} {es : List Expr} {m : Str} {mc : Value} {p : Addr} {pos apos : Pos} {ta : TE} {t : TA} {pl : Sem Bool} (he : PE X o ta) (r : CRead X.K C mc) (c : SMet X.K C mc m p g) (F : FnR X.prog X.w X.K X.mg X.base CX k g sp) (hr : Room k X.A) (hx : Passes CX X E) (ha : PA X (e :: es) t)
    (hst : starEach (e :: es) X.env = (false, eval e X.env) :: starEach es X.env := by rfl) (hpl : (backTo pos (starEach es X.env)).any (·.1) = false := by rfl)
    (ht : eval (.Call (.Attribute o m apos) (e :: es) [] pos) X.env = (do
      let ov ← eval o X.env
      standAt apos.atName
      let (f, first) ← holding [ov] (getMethod ov m pl)
      callWith pos f first (backTo pos (starEach (e :: es) X.env)) (backToKw pos (keywordEach [] X.env))) := by rfl) :
    PE X (.Call (.Attribute o m apos) (e :: es) [] pos) (tSMeth C sp E ta t) := by
  refine ⟨fun pins s σ H Q I h => ?_⟩
  refine PySem.W.methodCall_KW (pl := pl) (thn (he.run pins s σ H _ I h) fun u s1 ⟨x, H1, I1, rx, ex, q⟩ => ?_) ht
  subst ex
  obtain rfl : u = Value.ref C := rx
  refine getmethsm_ok I1 r c fun s2 I2 => ?_
  refine PySem.W.callWith_K (first := []) (h₀ := X.base) I.ok.mod.kin c.kp (thn (ha.run pos _ s2 σ H1 _ I2 q) fun us s3 ⟨vs, H2, I3, rv, q2⟩ => ⟨I3.kIn, ?_⟩) hst hpl
  exact call_own F hr rfl hx I3 rv q2
theorem pe_smeth0 {o : Expr} {m : Str} {mc : Value} {p : Addr} {pos apos : Pos} {ta : TE} {pl : Sem Bool} (he : PE X o ta) (r : CRead X.K C mc) (c : SMet X.K C mc m p g) (F : FnR X.prog X.w X.K X.mg X.base CX k g sp) (hr : Room k X.A) (hx : Passes CX X E)
    (ht : eval (.Call (.Attribute o m apos) [] [] pos) X.env = (do
      let ov ← eval o X.env
      standAt apos.atName
      let (f, first) ← holding [ov] (getMethod ov m pl)
      callWith pos f first (backTo pos (starEach [] X.env)) (backToKw pos (keywordEach [] X.env))) := by rfl) :
    PE X (.Call (.Attribute o m apos) [] [] pos) (tSMeth C sp E ta tNil) := by
  refine ⟨fun pins s σ H Q I h => ?_⟩
  refine PySem.W.methodCall_KW (pl := pl) (thn (he.run pins s σ H _ I h) fun u s1 ⟨x, H1, I1, rx, ex, q⟩ => ?_) ht
  subst ex
  obtain rfl : u = Value.ref C := rx
  refine getmethsm_ok I1 r c fun s2 I2 => ?_
  exact PySem.W.callWith_K0 (first := []) I2.kIn c.kp (call_own F hr rfl hx I2 .nil q)
end
end OwX

set_option Elab.async false
set_option linter.all false
set_option maxRecDepth 100000
set_option maxHeartbeats 0
/-! A Hook of one's own: Bools of K, defs at any address, empty tables of code objects. -/
namespace HeZ
open PySem PySem.Spec PyProof.Rows L2
abbrev Fb := PySem.W.Frag → Bool
def obsK (fb : List Fb) (fn : List He5.DefA) (K : PySem.W.Frag) : He.AlD := ((fb.all fun f => f K) && fn.all fun d => d.ok K, fn.map fun d => He5.fnA K (d.at_ K))
abbrev AlZ : Type := He.AlD × Bool
def obsZ (n : Nat) (fb : List Fb) (fn : List He5.DefA) (tf : List He.Defn) (g : Addr → Option Obj) : AlZ := (obsK fb fn (He.frT g (He5.asA g n)), He.tabsB g tf (He.frT g (He5.asA g n)))
def valZ (fn : List He5.DefA) : AlZ := ((true, fn.map He5.DefA.val), true)
structure SaysZ (fb : List Fb) (fn : List He5.DefA) (tf : List He.Defn) (h : Heap) (K : PySem.W.Frag) : Prop where
  t : obsK fb fn K = (true, fn.map He5.DefA.val)
  hd : ∀ p ∈ tf, PySem.W.codeHdIn K (He.cT K p).1 (He.cT K p).2 = true
  out : ∀ p ∈ tf, K.lookup (He.cT K p).2 = none
  empty : ∀ p ∈ tf, h.get? (He.cT K p).2 = some { cls := .none, data := .fields #[] }
theorem saysZ_of {n : Nat} {fb : List Fb} {fn : List He5.DefA} {tf : List He.Defn} {h : Heap} (e : obsZ n fb fn tf h.get? = valZ fn) : SaysZ fb fn tf h (He.frT h.get? (He5.asA h.get? n)) := by
  have e1 : obsK fb fn (He.frT h.get? (He5.asA h.get? n)) = (true, fn.map He5.DefA.val) := congrArg (fun z : AlZ => z.1) e
  have h2 : He.tabsB h.get? tf (He.frT h.get? (He5.asA h.get? n)) = true := congrArg (fun z : AlZ => z.2) e
  have key : ∀ p ∈ tf, PySem.W.codeHdIn (He.frT h.get? (He5.asA h.get? n)) (He.cT (He.frT h.get? (He5.asA h.get? n)) p).1 (He.cT (He.frT h.get? (He5.asA h.get? n)) p).2 = true ∧ ∃ o, h.get? (He.cT (He.frT h.get? (He5.asA h.get? n)) p).2 = some o ∧ He.emptyTab o = true := fun p hp => by
    obtain ⟨h3, h4⟩ := He.ba (List.all_eq_true.mp h2 p hp)
    refine ⟨h3, ?_⟩
    cases q : h.get? (He.cT (He.frT h.get? (He5.asA h.get? n)) p).2 with
    | none =>
      rw [q] at h4
      cases h4
    | some o =>
      rw [q] at h4
      exact ⟨o, rfl, h4⟩
  exact ⟨e1, fun p hp => (key p hp).1, fun p hp => by
    obtain ⟨_, o, q, z⟩ := key p hp
    exact He.frT_none q z, fun p hp => by
    obtain ⟨_, o, q, z⟩ := key p hp
    rw [q, He.emptyTab_eq z]⟩
def hookZ (n : Nat) (fb : List Fb) (fn : List He5.DefA) (tf : List He.Defn) : PySem.W.Hook where
  α := AlZ
  obs := fun s => obsZ n fb fn tf s.heap.get?
  val := fun _ => valZ fn
  says := fun _ h => ∃ K : PySem.W.Frag, K.In h ∧ SaysZ fb fn tf h K
  of := fun _ _ e => ⟨_, He.frT_in, saysZ_of e⟩
  keeps := fun _ _ _ ⟨K, hK, c⟩ k => ⟨K, PySem.W.Frag.In.keeps hK k, ⟨c.t, c.hd, c.out, fun p hp => k _ _ (c.empty p hp)⟩⟩
theorem obsZ_eq {n : Nat} {fb : List Fb} {fn : List He5.DefA} {tf : List He.Defn} {g : Addr → Option Obj} {s : Shared} (h : ∀ a, g a = s.heap.get? a) : obsZ n fb fn tf g = (hookZ n fb fn tf).obs s := by
  have e : g = s.heap.get? := funext h
  rw [e] <;> rfl
section
variable {fb : List Fb} {fn : List He5.DefA} {tf : List He.Defn} {h : Heap} {K : PySem.W.Frag}
theorem SaysZ.fact (c : SaysZ fb fn tf h K) (i : Nat) {f : Fb} (e : fb[i]? = some f := by rfl) : f K = true := by
  have c1 := (He.ba (show ((fb.all fun f => f K) && fn.all fun d => d.ok K) = true from congrArg (fun z : He.AlD => z.1) c.t)).1
  exact List.all_eq_true.mp c1 f (List.mem_of_getElem? e)
theorem SaysZ.def_ (c : SaysZ fb fn tf h K) (i : Nat) {d : He5.DefA} (e0 : fn[i]? = some d := by rfl) : ∃ fd, L2.FunD K d.name d.qual d.params d.body d.scope (d.dvs K) (d.kws K) (d.at_ K) fd := by
  have c2 := (He.ba (show ((fb.all fun f => f K) && fn.all fun d => d.ok K) = true from congrArg (fun z : He.AlD => z.1) c.t)).2
  have e : fn.map (fun d => He5.fnA K (d.at_ K)) = fn.map He5.DefA.val := congrArg (fun z : He.AlD => z.2) c.t
  have e2 : (fn.map fun d => He5.fnA K (d.at_ K))[i]? = (fn.map He5.DefA.val)[i]? := by rw [e]
  rw [List.getElem?_map, List.getElem?_map, e0] at e2
  exact He5.DefA.funD (Option.some.inj e2) (List.all_eq_true.mp c2 d (List.mem_of_getElem? e0))
end
end HeZ

set_option Elab.async false
set_option linter.all false
set_option maxRecDepth 100000
set_option maxHeartbeats 0
/-! Exceptions of the text with their own dict: isinstance, facts by Bools; own operators within a try. -/
namespace OwX
open PySem PySem.Spec PyProof.Rows L2 ClX
/-! ### facts by Bools -/
theorem ba {a b : Bool} (h : (a && b) = true) : a = true ∧ b = true := Bool.and_eq_true_iff.mp h
def dq (a b : Option (Option Value)) : Bool := decide (a = b)
theorem dq_ok {a b : Option (Option Value)} (h : dq a b = true) : a = b := of_decide_eq_true h
/-- an exception class: its object's form -/
def oexB (K : PySem.W.Frag) (C : Addr) : Bool := (match K.lookup C with
  | some ⟨.type t, _, .cls cd, sl⟩ => decide (t = "type") && (match cd.mro, sl.toList with
    | .ref C1 :: bm, [_, _, _, _, some (.builtin n), _] => decide (C1 = C) && (decide (n = "ValueError.__new__") && (cd.hasDict && (!cd.hasDel && PySem.HandSPX.refsVE bm)))
    | _, _ => false)
  | _ => false) && (dq (PySem.W.findIn K (.ref C) "__setattr__") (some (some (.builtin "object.__setattr__"))) && (decide (PySem.W.subIn K (.ref C) (.type "BaseException") = some true) && (decide (PySem.W.typeIn K (.ref C) = some (.type "type")) && PySem.W.keepIn K (.ref C))))
theorem oex_ok {K : PySem.W.Frag} {C : Addr} (h : oexB K C = true) : OexC K C := by
  obtain ⟨h0, h⟩ := ba h
  obtain ⟨h1, h⟩ := ba h
  obtain ⟨h2, h⟩ := ba h
  obtain ⟨h3, h4⟩ := ba h
  refine ⟨?_, dq_ok h1, of_decide_eq_true h2, of_decide_eq_true h3, h4⟩
  clear h1 h2 h3 h4
  split at h0
  · rename_i t dd cd sl ho
    obtain ⟨e0, h6⟩ := ba h0
    have e0 := of_decide_eq_true e0
    clear h0
    subst e0
    split at h6
    · rename_i C1 bm k0 k1 k2 k3 n k5 hm hs
      obtain ⟨e1, h0⟩ := ba h6
      obtain ⟨e2, h0⟩ := ba h0
      obtain ⟨e3, h0⟩ := ba h0
      obtain ⟨e4, e5⟩ := ba h0
      have e1 := of_decide_eq_true e1
      have e2 := of_decide_eq_true e2
      subst e1 e2
      obtain ⟨nm, bs, mro, ns, qn, hd, sn, sub, ab, col, del⟩ := cd
      have f4 : del = false := by simpa using e4
      have f5 : mro = .ref C1 :: bm := hm
      have f3 : hd = true := e3
      clear e3 e4 hm h0 h6
      subst f3
      subst f4
      subst f5
      obtain ⟨l⟩ := sl
      have f6 : l = [k0, k1, k2, k3, some (.builtin "ValueError.__new__"), k5] := hs
      subst f6
      exact ⟨nm, qn, ns, bs, bm, sn, sub, ab, col, dd, k0, k1, k2, k3, k5, ho, e5⟩
    · cases h6
  · cases h0
/-- what isinstance asks of a class of instances -/
structure IsC (K : PySem.W.Frag) (C : Addr) : Prop where
  ha : PySem.W.findIn K (.ref C) "__class__" = some (some (.builtin "object.__class__"))
  hn : PySem.W.specialIn K (.builtin "object.__class__") "__get__" = some (some (.builtin "getset_descriptor.__get__"))
  ht : PySem.W.takesIn K (.builtin "object.__class__") = some true
  hm : PySem.W.mroIn K C (.type "object") = some true
def isB (K : PySem.W.Frag) (C : Addr) : Bool := dq (PySem.W.findIn K (.ref C) "__class__") (some (some (.builtin "object.__class__"))) && (dq (PySem.W.specialIn K (.builtin "object.__class__") "__get__") (some (some (.builtin "getset_descriptor.__get__"))) &&
  (decide (PySem.W.takesIn K (.builtin "object.__class__") = some true) && decide (PySem.W.mroIn K C (.type "object") = some true)))
theorem is_ok {K : PySem.W.Frag} {C : Addr} (h : isB K C = true) : IsC K C := by
  obtain ⟨h1, h⟩ := ba h
  obtain ⟨h2, h⟩ := ba h
  obtain ⟨h3, h4⟩ := ba h
  exact ⟨dq_ok h1, dq_ok h2, of_decide_eq_true h3, of_decide_eq_true h4⟩
theorem tyx_ins {K : PySem.W.Frag} {H : Hp} {a C dx : Addr} {fs : List (Str × V)} (c : Cls K C) (i : IsC K C) (e : H a = some (.ins C dx fs)) : TyX K H (.ref a) (.ref C) := .base (.ins e c i.ha i.hn i.ht i.hm)
/-- isinstance(x, C) of K's classes -/
def kiB (K : PySem.W.Frag) (t u : Value) (b : Bool) : Bool := decide (PySem.W.kitOne K t u = some b)
theorem ki_ok {K : PySem.W.Frag} {t u : Value} {b : Bool} (h : kiB K t u b = true) : PySem.W.kitOne K t u = some b := of_decide_eq_true h
def exmB (K : PySem.W.Frag) (t u : Value) (b : Bool) : Bool := decide (PySem.W.exmOne K t u = some b)
theorem exm_ok {K : PySem.W.Frag} {t u : Value} {b : Bool} (h : exmB K t u b = true) : PySem.W.exmOne K t u = some b := of_decide_eq_true h
/-- the class reads as usual, its number slots are its own, it is no sequence -/
def creadB (K : PySem.W.Frag) (C : Addr) : Bool := PySem.W.readsIn K C (.type "type") && dq (PySem.W.specialIn K (.ref C) "__getattribute__") (some (some (.builtin "type.__getattribute__")))
theorem cread_ok {K : PySem.W.Frag} {C : Addr} (h : creadB K C = true) : CRead K C (.type "type") := by
  obtain ⟨h1, h2⟩ := ba h
  exact ⟨h1, dq_ok h2⟩
def smB (K : PySem.W.Frag) (C : Addr) (m : Str) : Bool := He5.wrapB K C "staticmethod" "staticmethod.__get__" m && PySem.W.keepIn K (.ref (He5.wf K C "staticmethod" m))
theorem sm_ok {K : PySem.W.Frag} {C : Addr} {m : Str} (h : smB K C m = true) : SMet K C (.type "type") m (He.ma K C m) (He5.wf K C "staticmethod" m) := by
  obtain ⟨h1, h2⟩ := ba h
  obtain ⟨h3, h4⟩ := He5.wrapB_ok h1
  exact ⟨h3, h4, h2⟩
def propB (K : PySem.W.Frag) (C : Addr) (f : Str) : Bool := dq (PySem.W.findIn K (.ref C) f) (some (some (.ref (He.ma K C f)))) && (dq (PySem.W.specialIn K (.ref (He.ma K C f)) "__get__") (some (some (.builtin "property.__get__"))) &&
  (decide (PySem.W.takesIn K (.ref (He.ma K C f)) = some true) && (match PySem.W.recIn K (He.ma K C f) "property" with
    | some (.ref _ :: _) => true
    | _ => false)))
theorem prop_ok {K : PySem.W.Frag} {C : Addr} {f : Str} (h : propB K C f = true) : PropOf K C f (He.ma K C f) (He5.wf K C "property" f) := by
  obtain ⟨h1, h⟩ := ba h
  obtain ⟨h2, h⟩ := ba h
  obtain ⟨h3, h4⟩ := ba h
  refine ⟨dq_ok h1, dq_ok h2, of_decide_eq_true h3, ?_⟩
  unfold He5.wf
  split at h4
  · rename_i g r e
    exact ⟨r, by rw [e]⟩
  · cases h4
/-- an exception class with isinstance and attributes -/
structure ExcK (K : PySem.W.Frag) (C : Addr) : Prop where
  ox : OexC K C
  xf : XfC K C
  is_ : IsC K C
  it : PySem.W.findIn K (.ref C) "__init__" = some (some (.ref (He.ma K C "__init__")))
  ti : PySem.W.typeIn K (.ref (He.ma K C "__init__")) = some (.type "function")
def excB (K : PySem.W.Frag) (C : Addr) : Bool := oexB K C && (xfB K C && (isB K C && (dq (PySem.W.findIn K (.ref C) "__init__") (some (some (.ref (He.ma K C "__init__")))) && decide (PySem.W.typeIn K (.ref (He.ma K C "__init__")) = some (.type "function")))))
theorem exc_ok {K : PySem.W.Frag} {C : Addr} (h : excB K C = true) : ExcK K C := by
  obtain ⟨h1, h⟩ := ba h
  obtain ⟨h2, h⟩ := ba h
  obtain ⟨h3, h⟩ := ba h
  obtain ⟨h4, h5⟩ := ba h
  exact ⟨oex_ok h1, xfB_ok h2, is_ok h3, dq_ok h4, of_decide_eq_true h5⟩
/-! ### isinstance of the exception that a suite holds -/
def rIsX (K : PySem.W.Frag) (D a : Addr) (cls : Value) (d : Option Addr) : List V → Hp → VK → Prop := fun xs H Q => ∃ (c : V) (cv : Value) (b : Bool) (dd : Addr) (fs : List (Str × V)), xs = [.ref a, c] ∧ ClsV c cv ∧ cls = .ref D ∧ d = some dd ∧ H dd = some (.xd fs) ∧ PySem.W.kitOne K (.ref D) cv = some b ∧ Q (.bl b) H
theorem call_isX {X : Cx} {a D : Addr} {oe : Obj} {cls : Value} {d : Option Addr} {pn : List (Addr × Obj)} (C : ExcK X.K D) (hz : Zc cls d oe) (hf : ∃ vs, oe.data = .fields vs) : CallR (X.suite a ((a, oe) :: pn)) (.builtin "isinstance") (rIsX X.K D a cls d) := by
  intro pins s σ H xs us Q I r h
  obtain ⟨c, cv, b, dd, fs, rfl, k, rfl, rfl, hd, e, q⟩ := h
  obtain ⟨u1, u2, rfl, r1, r2⟩ := vals2 r
  cases r1
  have e2 := k.eq r2
  subst e2
  obtain ⟨ha, _⟩ := I.pin (a, oe) (List.mem_append_left _ List.mem_cons_self)
  obtain ⟨vs, hv⟩ := hf
  obtain ⟨mA, hns, _⟩ := (show ObjOk X.prog X.w H s.heap dd (.xd fs) from I.hok dd _ hd)
  obtain ⟨od, ho, _⟩ := lookIn_ns hns
  have J : PySem.W.InstAt s.heap a oe D (some od) := ⟨ha, hz.1, by unfold PySem.W.notCls; rw [hv] <;> rfl, by rw [hz.2]; exact ho⟩
  have hc : (PySem.W.clsIn X.K D).isSome = true := by
    obtain ⟨cd, hc, _⟩ := PySem.W.any_some C.xf.hdC
    rw [hc] <;> rfl
  exact PySem.W.kia_one (PySem.W.kitx_exc hc C.xf.ga C.xf.gg C.xf.exC C.is_.ha C.is_.hn C.is_.ht C.is_.hm) I.kIn J e (fun z => nomatch z) fun tk => ⟨.bl b, H, I.kept (t' := tk) fun _ _ z => z, rfl, q⟩
/-! ### bool(x) of an instance with an own __bool__ -/
theorem bool_new_ref {prog : Program} {w : World} (l : Addr) : MeetsIn prog w (Builtin.«bool.__new__» ⟨[.type "bool", .ref l], []⟩)
    (fun A R s => wpAny (model prog w) A.in1 (truthy (.ref l)) (fun b s' => R (.ok (.ret (.bool b))) s') (fun e s' => R (.error e) s') s) :=
  .of_wp fun A R s h => by
    obtain ⟨hp, g, d, tk, os⟩ := s
    have f1 := F.conv_sub_bool
    repeat (any_goals (first | assumption | (refine wpAny_bind (wpAny_mono h (fun b s' q => ?_) fun e s' q => ?_)) | wp_step))
    all_goals first | exact q | exact ⟨_, rfl, q⟩ | skip
def rOwnBool (C : Addr) (sp : Sp) (E : XK) : List V → Hp → VK → Prop := fun xs H Q => ∃ a, xs = [.ref a] ∧ rOwnTru C sp E (.ref a) H fun b H' => Q (.bl b) H'
theorem call_boolO {X : Cx} {CX : CXT} {k : Nat} {C g : Addr} {sp : Sp} {E : XK} (m : Meth X.K C "__bool__" g) (F : FnR X.prog X.w X.K X.mg X.base CX k g sp) (hr : Room (k + 2) X.A) (hx : Passes CX X E) : CallR X (.type "bool") (rOwnBool C sp E) := by
  intro pins s σ H xs us Q I r h
  obtain ⟨a, rfl, h⟩ := h
  obtain ⟨u, rfl, rx⟩ := vals1 r
  cases rx
  refine callType_newIn PySem.F.called_bool PySem.F.newNe_bool (PySem.F.typeCall_bool_1 _) (PySem.F.newCall_bool_1 _) (fun obj => PySem.F.args_object_init_2 obj _) PySem.F.entry_bool_new (bool_new_ref a) ?_
  refine thn (truthy_own (x := .ref a) m F hr.in1.in1 rfl hx I rfl h) fun b s' q => ?_
  obtain ⟨H', I', q⟩ := q
  exact ⟨rfl, .bl b, H', I', rfl, q⟩
/-! ### own operators where what is raised is wished for at the slots -/
section
variable {X : Cx} {CX : CXT} {k : Nat} {C g : Addr} {sp : Sp} {E : L2.St → XK} {pins : List (Addr × Obj)} {σ : L2.St} {H : Hp} {s : Shared} {Q : VK}
theorem call_ownS {A' : Around} {us : List Value} {vs : List V} (F : FnR X.prog X.w X.K X.mg X.base CX k g sp) (hr : Room k A') (hfr : A'.frames = X.A.frames) (hx : ∀ σ, PassesAt CX X σ (E σ)) (I : Inv X pins σ H s) (r : Vals vs us) (h : sp vs H Q (E σ)) :
    wpAny (model X.prog X.w) A' (call (.ref g) us) (EP X pins σ Q) X.xe s := by
  have e := I.env0
  refine wpAny_call (codeAny_mono (F A' X.stack s H us vs Q (E σ) hr ⟨by rw [hfr]; exact e.frames, e.mod, e.bs, e.bsz, e.funs, e.frf, e.hok, e.bare⟩ r h) fun r s' hq => ?_)
  cases r with
  | error er => exact hx σ pins H s er s' I hq
  | ok fl =>
    cases fl with
    | ret u => exact I.after hq
    | next => exact False.elim hq
    | brk => exact False.elim hq
    | cont => exact False.elim hq
def tIxOS (C : Addr) (sp : Sp) (E : L2.St → XK) (ta tb : TE) : TE := fun σ H Q => ta σ H fun x H1 => tb σ H1 fun y H2 => rOwnIx C sp (E σ) x y H2 Q
theorem pe_ixOS {a b : Expr} {ta tb : TE} {pos : Pos} (m : Meth X.K C "__getitem__" g) (hf : PySem.W.fnIn X.K g = true) (F : FnR X.prog X.w X.K X.mg X.base CX k g sp) (hr : Room (k + 1) X.A) (hx : ∀ σ, PassesAt CX X σ (E σ)) (ha : PE X a ta) (hb : PE X b tb)
    (hs : ∀ x i, subscripted b true (.ref x) i = runValue (.builtin "lifetime.subscript" ⟨[.ref x, i], []⟩) := by intro _ _; rfl) : PE X (.Subscript a b pos) (tIxOS C sp E ta tb) := by
  refine ⟨fun pins s σ H Q I h => ?_⟩
  refine Subscript_ (binT ha hb I h fun v u s2 x y H2 I2 rx ry q => ?_)
  obtain ⟨p, dx, fs, rfl, hp, hsp⟩ := q
  cases rx
  obtain ⟨od, J⟩ := inst_at I2 hp
  obtain ⟨m0, hF⟩ := I2.fr
  exact PySem.W.sub_K hF I2.ok.mod.kin J m.at_ hf m.fn (call_ownS (vs := [.ref p, y]) F hr.in1 rfl hx I2 (.cons rfl (.cons ry .nil)) hsp) (hs _ _)
/-- f(e, ..) by positions, the wish at the slots -/
def tCallRS (sp : Sp) (E : L2.St → XK) (t : TA) : TE := fun σ H Q => t σ H fun vs H1 => sp vs H1 Q (E σ)
theorem pe_callRS {x : Str} {p pos : Pos} {e : Expr} {es : List Expr} {t : TA} (F : FnR X.prog X.w X.K X.mg X.base CX k g sp) (hr : Room k X.A) (hk : PySem.W.keepIn X.K (.ref g) = true) (hg : Gl X x) (hm : X.mg x = some (.ref g)) (hx : ∀ σ, PassesAt CX X σ (E σ)) (ha : PA X (e :: es) t)
    (hdb : (x == ("__debug__" : Str)) = false := by decide) (he : starEach (e :: es) X.env = (false, eval e X.env) :: starEach es X.env := by rfl) (hpl : (backTo pos (starEach es X.env)).any (·.1) = false := by rfl) : PE X (.Call (.Name x p) (e :: es) [] pos) (tCallRS sp E t) := by
  refine ⟨fun pins s σ H Q I h => ?_⟩
  refine wpAny_Call_Name_kw (ld_glob I hg hm ?_ hdb)
  refine PySem.W.callWith_K (h₀ := X.base) I.ok.mod.kin hk (thn (ha.run pos pins s σ H _ I h) fun us s1 ⟨vs, H1, I1, r, q⟩ => ⟨I1.kIn, ?_⟩) he hpl
  exact call_ownS F hr rfl hx I1 r q
end
end OwX

set_option Elab.async false
set_option linter.all false
set_option maxRecDepth 100000
set_option maxHeartbeats 0
/-! A def's promise by positions, from its datum. -/
namespace OwX
open PySem PySem.Spec PyProof.Rows L2 ClX
section
variable {P : Program} {w : World} {K : PySem.W.Frag} {mg : Str → Option Value} {base : Heap} {x qual : Str} {params : Arguments} {body : List Stmt} {scope : Scope} {f : Addr} {N ps : List Str} {k : Nat} {sp : Sp}
abbrev Body (P : Program) (w : World) (K : PySem.W.Frag) (mg : Str → Option Value) (base : Heap) (N : List Str) (qual : Str) (scope : Scope) (body : List Stmt) (f : Addr) (k : Nat) (sp : Sp) : Prop :=
  ∀ (cdv : Value) (A : Around) (outer : List Env) (s : Shared) (H : Hp) (vs : List V) (Q : VK) (E : XK), Room k (A.deeper (envOfC qual scope s.heap.objs.size f cdv)) → sp vs H Q E →
      ∃ t, PSs (cxOf (L2.CX P w) P w K mg base N qual scope f cdv A outer s H E) body t ∧ t { nx := fun _ H' => Q .non H', rt := Q } (start N vs) H
abbrev BindsN (x qual : Str) (params : Arguments) (body : List Stmt) (scope : Scope) (ps : List Str) : Prop :=
  ∀ (kV doc pm : Value) (an : Option Addr) (cdv ct : Value) (us : List Value), us.length = ps.length → bindArgs (PySem.W.fnOf x qual params body scope .none kV doc pm an cdv ct) ⟨us, []⟩ = pure (ps.zip us)
theorem fnok (F : ∃ fd, FunD K x qual params body scope [] [] f fd) (S : FnScope N ps scope) (hb : BindsN x qual params body scope ps) (len : ∀ vs H Q E, sp vs H Q E → vs.length = ps.length) (h : Body P w K mg base N qual scope body f k sp) :
    ∃ fd, FnOk P w K mg base (L2.CX P w) (k + 1) f fd ps sp ∧ Binds K fd ps [] := by
  obtain ⟨fd, F⟩ := F
  exact ⟨fd, F.ok S len h, F.bindsN hb⟩
theorem fnr (F : ∃ fd, FunD K x qual params body scope [] [] f fd) (S : FnScope N ps scope) (hb : BindsN x qual params body scope ps) (len : ∀ vs H Q E, sp vs H Q E → vs.length = ps.length) (h : Body P w K mg base N qual scope body f k sp) :
    FnR P w K mg base (L2.CX P w) (k + 1) f sp := by
  obtain ⟨fd, F, b⟩ := fnok F S hb len h
  exact (F.raw b .nil).imp fun vs H Q E q => by rw [List.append_nil]; exact q
/-- f(e, ..) by positions, nothing raised -/
def tCr (sp : Sp) (t : TA) : TE := fun σ H Q => t σ H fun vs H1 => sp vs H1 Q E0
/-- .. what is raised goes on to E -/
def tCrX (sp : Sp) (E : XK) (t : TA) : TE := fun σ H Q => t σ H fun vs H1 => sp vs H1 Q E
theorem pe_crX {X : Cx} {g : Addr} {E : XK} {nm : Str} {p pos : Pos} {e : Expr} {es : List Expr} {t : TA} (F : FnR X.prog X.w X.K X.mg X.base (L2.CX X.prog X.w) k g sp) (hr : Room k X.A) (hk : PySem.W.keepIn X.K (.ref g) = true) (hg : Gl X nm) (hm : X.mg nm = some (.ref g)) (hx : Passes (L2.CX X.prog X.w) X E) (ha : PA X (e :: es) t)
    (hdb : (nm == ("__debug__" : Str)) = false := by decide) (he : starEach (e :: es) X.env = (false, eval e X.env) :: starEach es X.env := by rfl) (hpl : (backTo pos (starEach es X.env)).any (·.1) = false := by rfl) : PE X (.Call (.Name nm p) (e :: es) [] pos) (tCrX sp E t) := by
  refine ⟨fun pins s σ H Q I h => ?_⟩
  refine wpAny_Call_Name_kw (ld_glob I hg hm ?_ hdb)
  refine PySem.W.callWith_K (h₀ := X.base) I.ok.mod.kin hk (thn (ha.run pos pins s σ H _ I h) fun us s1 ⟨vs, H1, I1, r, q⟩ => ⟨I1.kIn, ?_⟩) he hpl
  exact call_own F hr rfl hx I1 r q
theorem pe_cr {X : Cx} {g : Addr} {nm : Str} {p pos : Pos} {e : Expr} {es : List Expr} {t : TA} (F : FnR X.prog X.w X.K X.mg X.base (L2.CX X.prog X.w) k g sp) (hr : Room k X.A) (hk : PySem.W.keepIn X.K (.ref g) = true) (hg : Gl X nm) (hm : X.mg nm = some (.ref g)) (ha : PA X (e :: es) t)
    (hdb : (nm == ("__debug__" : Str)) = false := by decide) (he : starEach (e :: es) X.env = (false, eval e X.env) :: starEach es X.env := by rfl) (hpl : (backTo pos (starEach es X.env)).any (·.1) = false := by rfl) : PE X (.Call (.Name nm p) (e :: es) [] pos) (tCr sp t) :=
  pe_crX F hr hk hg hm passL ha hdb he hpl
/-- C(e, ..): a new instance, then __init__'s promise; what is raised goes on to E -/
def tMkX (C : Addr) (sp : Sp) (E : XK) (t : TA) : TE := fun σ H Q => t σ H fun vs H1 => ∀ x dx, H1 x = none → H1 dx = none → dx ≠ x → sp (.ref x :: vs) (upd (upd H1 dx (.own x)) x (.ins C dx [])) (fun v H2 => v = .non ∧ Q (.ref x) H2) E
def tMk (C : Addr) (sp : Sp) (t : TA) : TE := tMkX C sp E0 t
theorem pe_mkX {X : Cx} {C g : Addr} {E : XK} {nm : Str} {p pos : Pos} {e : Expr} {es : List Expr} {t : TA} (M : Mk X.K C g) (F : FnR X.prog X.w X.K X.mg X.base (L2.CX X.prog X.w) k g sp) (hr : Room (k + 1) X.A) (hg : Gl X nm) (hm : X.mg nm = some (.ref C)) (hx : Passes (L2.CX X.prog X.w) X E) (ha : PA X (e :: es) t)
    (hdb : (nm == ("__debug__" : Str)) = false := by decide) (he : starEach (e :: es) X.env = (false, eval e X.env) :: starEach es X.env := by rfl) (hpl : (backTo pos (starEach es X.env)).any (·.1) = false := by rfl) : PE X (.Call (.Name nm p) (e :: es) [] pos) (tMkX C sp E t) :=
  StX.pe_makeR M F hr hg hm hx ha hdb he hpl
theorem pe_mk {X : Cx} {C g : Addr} {nm : Str} {p pos : Pos} {e : Expr} {es : List Expr} {t : TA} (M : Mk X.K C g) (F : FnR X.prog X.w X.K X.mg X.base (L2.CX X.prog X.w) k g sp) (hr : Room (k + 1) X.A) (hg : Gl X nm) (hm : X.mg nm = some (.ref C)) (ha : PA X (e :: es) t)
    (hdb : (nm == ("__debug__" : Str)) = false := by decide) (he : starEach (e :: es) X.env = (false, eval e X.env) :: starEach es X.env := by rfl) (hpl : (backTo pos (starEach es X.env)).any (·.1) = false := by rfl) : PE X (.Call (.Name nm p) (e :: es) [] pos) (tMk C sp t) :=
  pe_mkX M F hr hg hm passL ha hdb he hpl
/-- x = e, the name's kind found -/
theorem sx {X : Cx} (i : Nat) {nm : Str} {e : Expr} {te : TE} {pos pos' : Pos} (hN : X.N.Nodup) (he : PE X e te) (hi : X.N[i]? = some nm := by rfl) (hx : Loc X.env.scope nm := by first | exact Or.inl rfl | exact Or.inr rfl) (hs : swapsWith e (some (.Name nm pos')) pos.line X.env = pure false := by rfl)
    (hf : X.fn nm = true ∨ X.env.scope.names.lookup nm = some .local := by first | exact .inl rfl | exact .inr rfl) : PS X (.Assign [.Name nm pos'] e pos) (tAsg te (gName i)) := ps_set hN hi hx he hs hf
/-- a target's name -/
theorem gx {X : Cx} (i : Nat) {nm : Str} {pos : Pos} (hN : X.N.Nodup) (hi : X.N[i]? = some nm := by rfl) (hx : Loc X.env.scope nm := by first | exact Or.inl rfl | exact Or.inr rfl)
    (hf : X.fn nm = true ∨ X.env.scope.names.lookup nm = some .local := by first | exact .inl rfl | exact .inr rfl) : PG X (.Name nm pos) (gName i) := pg_name hN hi hx hf
theorem kp_of {dvs : List V} {kws : List (Str × V)} (F : ∃ fd, FunD K x qual params body scope dvs kws f fd) : PySem.W.keepIn K (.ref f) = true := by
  obtain ⟨fd, F⟩ := F
  exact F.kp
end
end OwX

set_option Elab.async false
set_option linter.all false
set_option maxRecDepth 100000
set_option maxHeartbeats 0
/-! Readings, one lemma a piece; the words go and hp are made of them. -/
namespace Rd
open PySem PySem.Spec PyProof.Rows L2 OwX
section
variable {K : PySem.W.Frag} {σ : L2.St} {H H' : Hp} {Q : VK} {i j : Int} {v x y : V} {ta tb tc te : TE} {t u : TS} {D : Ends} {a p C dx : Addr} {fs : List (Str × V)} {f : Str} {xs ys : List V} {b : Bool} {n : Nat}
/-! ### expressions -/
theorem var {n : Nat} (h : σ[n]? = some (some v)) (k : Q v H) : tVar n σ H Q := ⟨v, h, k⟩
theorem con (k : Q v H) : tC v σ H Q := k
theorem op {r : R2} (k : ta σ H fun x H1 => tb σ H1 fun y H2 => r x y H2 Q) : tOp r ta tb σ H Q := k
theorem un {r : V → Hp → VK → Prop} (k : ta σ H fun x H1 => r x H1 Q) : tUn r ta σ H Q := k
theorem i0 {g : Int → Int → V} (k : Q (g i j) H) : rI0 g (.int i) (.int j) H Q := ⟨i, j, rfl, rfl, k⟩
theorem iC {c : Int → Int → Prop} {g : Int → Int → V} (s : c i j) (k : Q (g i j) H) : rI c g (.int i) (.int j) H Q := ⟨i, j, rfl, rfl, s, k⟩
theorem iu {g : Int → V} (k : Q (g i) H) : rU g (.int i) H Q := ⟨i, rfl, k⟩
theorem nil {R : List V → Hp → Prop} (k : R [] H) : tNil σ H R := k
theorem cons {tr : TA} {R : List V → Hp → Prop} (k : ta σ H fun x H1 => tr σ H1 fun xs H2 => R (x :: xs) H2) : tCons ta tr σ H R := k
theorem cb {r : List V → Hp → VK → Prop} {t : TA} (k : t σ H fun vs H1 => r vs H1 Q) : tCB r t σ H Q := k
theorem ifx {t : TT} (k : t σ H fun c H1 => if c = true then ta σ H1 Q else tb σ H1 Q) : tIf t ta tb σ H Q := k
theorem chain {r r' : R2} (k : ta σ H fun x H1 => tb σ H1 fun y H2 => r x y H2 fun z H3 => ∃ c, z = .bl c ∧ (if c = true then tc σ H3 fun w' H4 => r' y w' H4 Q else Q (.bl false) H3)) : tChain r r' ta tb tc σ H Q := k
theorem chainB {r' : R2} {c : Bool} (k1 : c = true → tc σ H fun w' H4 => r' y w' H4 Q) (k2 : c = false → Q (.bl false) H) : ∃ d, V.bl c = .bl d ∧ (if d = true then tc σ H fun w' H4 => r' y w' H4 Q else Q (.bl false) H) := ⟨c, rfl, by
  cases c with
  | true => rw [if_pos rfl]; exact k1 rfl
  | false => rw [if_neg Bool.false_ne_true]; exact k2 rfl⟩
theorem eqs (s : scal x y = true) (k : Q (.bl (decide (x = y))) H) : rEq x y H Q := ⟨s, k⟩
theorem nes (s : scal x y = true) (k : Q (.bl (!decide (x = y))) H) : rNe x y H Q := ⟨s, k⟩
theorem tup {t : TA} (k : t σ H fun xs H1 => xs.length ≤ sizeLine ∧ ∀ p, H1 p = none → Q (.ref p) (upd H1 p (.tup xs))) : tTup t σ H Q := k
theorem lst {t : TA} (k : t σ H fun xs H1 => xs.length ≤ sizeLine ∧ ∀ p, H1 p = none → Q (.ref p) (upd H1 p (.lst xs))) : tLst t σ H Q := k
theorem fld (k : ta σ H fun x H1 => ∃ a C dx fs v, x = .ref a ∧ H1 a = some (.ins C dx fs) ∧ Cls K C ∧ NoAttr K C f ∧ fs.lookup f = some v ∧ Q v H1) : tFld K ta f σ H Q := k
theorem ixL {xs : List V} (h : SqL K H p xs) (e : atI xs i = some v) (k : Q v H) : rIxL K (.ref p) (.int i) H Q := ⟨p, xs, i, v, rfl, rfl, h, e, k⟩
theorem ixT {xs : List V} (h : SqT K H p xs) (e : atI xs i = some v) (k : Q v H) : rIxT K (.ref p) (.int i) H Q := ⟨p, xs, i, v, rfl, rfl, h, e, k⟩
theorem andV (k : ta σ H fun x H1 => ∃ c, x = .bl c ∧ if c = true then tb σ H1 Q else Q (.bl false) H1) : tAndV ta tb σ H Q := k
theorem orV (k : ta σ H fun x H1 => ∃ c, x = .bl c ∧ if c = true then Q (.bl true) H1 else tb σ H1 Q) : tOrV ta tb σ H Q := k
theorem notV (k : ta σ H fun x H1 => ∃ c, x = .bl c ∧ Q (.bl (!c)) H1) : tNotV ta σ H Q := k
theorem bm {T : String} {r : V → List V → Hp → VK → Prop} {t : TA} (k : ta σ H fun x H1 => tyV K T x H1 ∧ t σ H1 fun xs H2 => r x xs H2 Q) : tBM K T r ta t σ H Q := k
theorem bm0 {T : String} {r : V → List V → Hp → VK → Prop} (k : ta σ H fun x H1 => tyV K T x H1 ∧ r x [] H1 Q) : tBM0 K T r ta σ H Q := k
theorem blx {A : Bool → Prop} {c : Bool} (k : A c) : ∃ d, V.bl c = .bl d ∧ A d := ⟨c, rfl, k⟩
/-! ### built-in calls by values, with names -/
def rInt : List V → Hp → VK → Prop := fun xs H Q => (∃ i, xs = [.int i] ∧ Q (.int i) H) ∨ ∃ k, xs = [.bl k] ∧ Q (.int (if k = true then 1 else 0)) H
theorem c_int {X : Cx} : CallR X (.type "int") rInt := call_int1
theorem int1 (k : Q (.int i) H) : rInt [.int i] H Q := .inl ⟨i, rfl, k⟩
theorem intB (k : Q (.int (if b = true then 1 else 0)) H) : rInt [.bl b] H Q := .inr ⟨b, rfl, k⟩
def rLen (K : PySem.W.Frag) : List V → Hp → VK → Prop := fun xs H Q => ∃ p ys, xs = [.ref p] ∧ (SqL K H p ys ∨ SqT K H p ys) ∧ Q (.int ys.length) H
theorem c_len {X : Cx} (h : X.K = K := by rfl) : CallR X (.builtin "len") (rLen K) := by subst h; exact call_len_seq
theorem lenL (h : SqL K H p xs) (k : Q (.int xs.length) H) : rLen K [.ref p] H Q := ⟨p, xs, rfl, .inl h, k⟩
theorem lenT (h : SqT K H p xs) (k : Q (.int xs.length) H) : rLen K [.ref p] H Q := ⟨p, xs, rfl, .inr h, k⟩
def rMax : List V → Hp → VK → Prop := fun xs H Q => ∃ i j, xs = [.int i, .int j] ∧ Q (.int (if j > i then j else i)) H
def rMin : List V → Hp → VK → Prop := fun xs H Q => ∃ i j, xs = [.int i, .int j] ∧ Q (.int (if j < i then j else i)) H
theorem c_max {X : Cx} (hc : X.calm = true) : CallR X (.builtin "max") rMax := call_max2 hc
theorem c_min {X : Cx} (hc : X.calm = true) : CallR X (.builtin "min") rMin := call_min2 hc
theorem maxI (k : Q (.int (if j > i then j else i)) H) : rMax [.int i, .int j] H Q := ⟨i, j, rfl, k⟩
theorem minI (k : Q (.int (if j < i then j else i)) H) : rMin [.int i, .int j] H Q := ⟨i, j, rfl, k⟩
def rLst (K : PySem.W.Frag) : List V → Hp → VK → Prop := fun xs H Q => ∃ p ys, xs = [.ref p] ∧ (SqL K H p ys ∨ SqT K H p ys) ∧ ∀ l, H l = none → Q (.ref l) (upd H l (.lst ys))
theorem c_list {X : Cx} (h : X.K = K := by rfl) : CallR X (.type "list") (rLst K) := by subst h; exact call_list_of
theorem listL (h : SqL K H p xs) (k : ∀ l, H l = none → Q (.ref l) (upd H l (.lst xs))) : rLst K [.ref p] H Q := ⟨p, xs, rfl, .inl h, k⟩
theorem listT (h : SqT K H p xs) (k : ∀ l, H l = none → Q (.ref l) (upd H l (.lst xs))) : rLst K [.ref p] H Q := ⟨p, xs, rfl, .inr h, k⟩
/-! ### tests -/
theorem test (k : te σ H fun x H' => ∃ k, x = .bl k ∧ D.nx σ H') : True := trivial
theorem tst {R : Bool → Hp → Prop} (k : te σ H fun x H' => ∃ k, x = .bl k ∧ R k H') : tTest te σ H R := k
theorem tb_ {R : Bool → Hp → Prop} (k : te σ H fun x H' => ∃ k, x = .bl k ∧ R k H') : tB te σ H R := k
theorem not_ {t : TT} {R : Bool → Hp → Prop} (k : t σ H fun c H1 => R (!c) H1) : tNot t σ H R := k
theorem and_ {t u : TT} {R : Bool → Hp → Prop} (k : t σ H fun c H1 => if c = true then u σ H1 R else R false H1) : tAnd t u σ H R := k
theorem or_ {t u : TT} {R : Bool → Hp → Prop} (k : t σ H fun c H1 => if c = true then R true H1 else u σ H1 R) : tOr t u σ H R := k
/-! ### statements -/
theorem seq (k : t { D with nx := u D } σ H) : tSeq t u D σ H := k
theorem asg {g : TG} (k : te σ H fun x H1 => g x σ H1 D.nx) : tAsg te g D σ H := k
theorem name {n : Nat} {R : L2.St → Hp → Prop} (k : R (σ.set n (some v)) H) : gName n v σ H R := k
theorem ret (k : te σ H D.rt) : tRet te D σ H := k
theorem ifS {c : TT} (k : c σ H fun b H1 => if b = true then t D σ H1 else u D σ H1) : tIfS c t u D σ H := k
theorem next (k : D.nx σ H) : tNext D σ H := k
theorem drop (k : te σ H fun _ H1 => D.nx σ H1) : tDrop te D σ H := k
theorem gsub {to ti : TE} {s : TSet} {R : L2.St → Hp → Prop} (k : to σ H fun o H1 => ti σ H1 fun i H2 => s o i v H2 fun H3 => R σ H3) : gSub to ti s v σ H R := k
theorem setL {R : Hp → Prop} {n : Nat} (h : H p = some (.lst xs)) (e : ixN xs.length i = some n) (k : R (upd H p (.lst (xs.set n v)))) : rSetL (.ref p) (.int i) v H R := ⟨p, xs, i, n, rfl, rfl, h, e, k⟩
end
theorem cr {σ : L2.St} {H : Hp} {Q : VK} {sp : Sp} {t : TA} (k : t σ H fun vs H1 => sp vs H1 Q E0) : tCr sp t σ H Q := k
theorem crX {σ : L2.St} {H : Hp} {Q : VK} {sp : Sp} {E : XK} {t : TA} (k : t σ H fun vs H1 => sp vs H1 Q E) : tCrX sp E t σ H Q := k
theorem ixOS {C : Addr} {sp : Sp} {E : L2.St → XK} {ta tb : TE} {σ : L2.St} {H : Hp} {Q : VK} (k : ta σ H fun x H1 => tb σ H1 fun y H2 => rOwnIx C sp (E σ) x y H2 Q) : tIxOS C sp E ta tb σ H Q := k
theorem xf {D dd : Addr} {ea : Addr} {f : Str} {te : TE} {σ : L2.St} {H : Hp} {Q : VK} {fs : List (Str × V)} {v : V} (hd : H dd = some (.xd fs)) (hv : fs.lookup f = some v) (h : te σ H fun x H1 => x = .ref ea ∧ H1 = H) (mono : ∀ R R' : VK, (∀ v H, R v H → R' v H) → te σ H R → te σ H R') (q : Q v H) : tXf ea (.ref D) (some dd) D f te σ H Q :=
  mono _ _ (fun x H1 ⟨h1, h2⟩ => ⟨h1, rfl, dd, fs, v, rfl, by rw [h2]; exact hd, hv, by rw [h2]; exact q⟩) h
theorem xfv {D dd : Addr} {ea : Addr} {f : Str} {i : Nat} {σ : L2.St} {H : Hp} {Q : VK} {fs : List (Str × V)} {v : V} (hd : H dd = some (.xd fs)) (hi : σ[i]? = some (some (.ref ea))) (hv : fs.lookup f = some v) (q : Q v H) : tXf ea (.ref D) (some dd) D f (tVar i) σ H Q :=
  ⟨.ref ea, hi, rfl, rfl, dd, fs, v, rfl, hd, hv, q⟩
theorem isX {K : PySem.W.Frag} {D dd ea : Addr} {H : Hp} {Q : VK} {fs : List (Str × V)} {c : V} {cv : Value} {b : Bool} (hd : H dd = some (.xd fs)) (hc : ClsV c cv) (e : PySem.W.kitOne K (.ref D) cv = some b) (q : Q (.bl b) H) : rIsX K D ea (.ref D) (some dd) [.ref ea, c] H Q :=
  ⟨c, cv, b, dd, fs, rfl, hc, rfl, rfl, hd, e, q⟩
/-! ### names of built-ins -/
theorem bt_abs : bootBuiltins "abs" = some (.builtin "abs") := by decide +kernel
theorem bt_any : bootBuiltins "any" = some (.builtin "any") := by decide +kernel
theorem bt_all : bootBuiltins "all" = some (.builtin "all") := by decide +kernel
theorem bt_dict : bootBuiltins "dict" = some (.type "dict") := by decide +kernel
theorem bt_enumerate : bootBuiltins "enumerate" = some (.type "enumerate") := by decide +kernel
theorem bt_isinstance : bootBuiltins "isinstance" = some (.builtin "isinstance") := by decide +kernel
theorem bt_iter : bootBuiltins "iter" = some (.builtin "iter") := by decide +kernel
theorem bt_len : bootBuiltins "len" = some (.builtin "len") := by decide +kernel
theorem bt_max : bootBuiltins "max" = some (.builtin "max") := by decide +kernel
theorem bt_min : bootBuiltins "min" = some (.builtin "min") := by decide +kernel
theorem bt_range : bootBuiltins "range" = some (.type "range") := by decide +kernel
theorem bt_repr : bootBuiltins "repr" = some (.builtin "repr") := by decide +kernel
theorem bt_reversed : bootBuiltins "reversed" = some (.type "reversed") := by decide +kernel
theorem bt_set : bootBuiltins "set" = some (.type "set") := by decide +kernel
theorem bt_sorted : bootBuiltins "sorted" = some (.builtin "sorted") := by decide +kernel
theorem bt_str : bootBuiltins "str" = some (.type "str") := by decide +kernel
theorem bt_sum : bootBuiltins "sum" = some (.builtin "sum") := by decide +kernel
theorem bt_tuple : bootBuiltins "tuple" = some (.type "tuple") := by decide +kernel
theorem bt_int : bootBuiltins "int" = some (.type "int") := by decide +kernel
theorem bt_bool : bootBuiltins "bool" = some (.type "bool") := by decide +kernel
theorem bt_list : bootBuiltins "list" = some (.type "list") := by decide +kernel
theorem bt_type : bootBuiltins "type" = some (.type "type") := by decide +kernel
theorem bt_zip : bootBuiltins "zip" = some (.type "zip") := by decide +kernel
theorem bt_next : bootBuiltins "next" = some (.builtin "next") := by decide +kernel
theorem bt_ValueError : bootBuiltins "ValueError" = some (.type "ValueError") := by decide +kernel
def MkR (C : Addr) (sp : Sp) (E : XK) (vs : List V) (H1 : Hp) (Q : VK) : Prop := ∀ x dx, H1 x = none → H1 dx = none → dx ≠ x → sp (.ref x :: vs) (upd (upd H1 dx (.own x)) x (.ins C dx [])) (fun v H2 => v = .non ∧ Q (.ref x) H2) E
theorem mk {C : Addr} {σ : L2.St} {H : Hp} {Q : VK} {sp : Sp} {t : TA} (k : t σ H fun vs H1 => MkR C sp E0 vs H1 Q) : tMk C sp t σ H Q := k
theorem mkX {C : Addr} {σ : L2.St} {H : Hp} {Q : VK} {E : XK} {sp : Sp} {t : TA} (k : t σ H fun vs H1 => MkR C sp E vs H1 Q) : tMkX C sp E t σ H Q := k
/-! ### ifs -/
theorem iteb {c : Bool} {A B : Prop} (h1 : c = true → A) (h2 : c = false → B) : if c = true then A else B := by
  cases c with
  | true => rw [if_pos rfl]; exact h1 rfl
  | false => rw [if_neg Bool.false_ne_true]; exact h2 rfl
theorem ited {p : Prop} [Decidable p] {A B : Prop} (h1 : p → A) (h2 : ¬ p → B) : if decide p = true then A else B :=
  iteb (fun e => h1 (of_decide_eq_true e)) fun e => h2 (of_decide_eq_false e)
theorem iten {p : Prop} [Decidable p] {A B : Prop} (h1 : ¬ p → A) (h2 : p → B) : if (!decide p) = true then A else B :=
  iteb (fun e => h1 (by simpa using e)) fun e => h2 (by simpa using e)
theorem iteNT {A B : Prop} (h : B) : if (!true) = true then A else B := h
theorem iteNF {A B : Prop} (h : A) : if (!false) = true then A else B := h
/-! ### sizes, places -/
theorem sz {n : Nat} (h : n ≤ 100000) : n ≤ sizeLine := Nat.le_trans h (by decide)
theorem szr {n : Nat} (h : Nat.ble n 100000 = true) : n ≤ sizeLine := sz (Nat.le_of_ble_eq_true h)
theorem szl {n : Nat} (h : n < 100000) : n < sizeLine := Nat.lt_of_lt_of_le h (by decide)
theorem nat_at {α : Type} {xs : List α} {j : Nat} {z : Int} {v : α} (e : z = (j : Int)) (h : xs[j]? = some v) : atI xs z = some v := by rw [e]; exact atI_nat h
theorem ixN_nat {n j : Nat} {z : Int} (e : z = (j : Int)) (h : j < n) : ixN n z = some j := by
  unfold ixN
  rw [if_pos (by omega), if_pos (by omega), e]
  rfl
/-! ### heaps -/
theorem ext_app {H H' : Hp} {a : Addr} {o : HO} (e : Ext H H') (h : H a = some o) : H' a = some o := e a o h
theorem new_app {H : Hp} {a p : Addr} {o u : HO} (n : H p = none) (h : H a = some o) : upd H p u a = some o := Ext.upd n a o h
theorem upd_app {H : Hp} {a p : Addr} {o u : HO} (ne : a ≠ p) (h : H a = some o) : upd H p u a = some o := by rw [upd_ne ne]; exact h
theorem ext_new {H : Hp} {p : Addr} {u : HO} (n : H p = none) : Ext H (upd H p u) := Ext.upd n
theorem ext_free {H H' : Hp} (e : Ext H H') {p : Addr} (n : H' p = none) : H p = none := by
  cases q : H p with
  | none => rfl
  | some o => rw [e p o q] at n; cases n
theorem ext_L {K : PySem.W.Frag} {H H' : Hp} {a : Addr} {xs : List V} (e : Ext H H') (h : SqL K H a xs) : SqL K H' a xs := h.ext e
theorem ext_T {K : PySem.W.Frag} {H H' : Hp} {a : Addr} {xs : List V} (e : Ext H H') (h : SqT K H a xs) : SqT K H' a xs := h.ext e
/-- a heap without the objects at O -/
def hid (O : List Addr) (H : Hp) : Hp := fun b => if b ∈ O then none else H b
theorem hid_ne {O : List Addr} {a : Addr} {H : Hp} (h : a ∉ O) : hid O H a = H a := if_neg h
theorem hid_in {O : List Addr} {a : Addr} {H : Hp} (h : a ∈ O) : hid O H a = none := if_pos h
theorem hid_nil {H : Hp} : hid [] H = H := by funext b; exact hid_ne (by simp)
theorem hid_at {O : List Addr} {a : Addr} {H : Hp} {o : HO} (h : hid O H a = some o) : H a = some o ∧ a ∉ O := by
  by_cases e : a ∈ O
  · rw [hid_in e] at h; cases h
  · rw [hid_ne e] at h; exact ⟨h, e⟩
theorem hid_upd {O : List Addr} {p : Addr} {H : Hp} {u : HO} (h : p ∈ O) : hid O (upd H p u) = hid O H := by
  funext b
  by_cases e : b ∈ O
  · rw [hid_in e, hid_in e]
  · rw [hid_ne e, hid_ne e, upd_ne (fun z => e (by rw [z]; exact h))]
theorem hid_ext {O : List Addr} {H : Hp} : Ext (hid O H) H := fun a o h => (hid_at h).1
theorem ext_rfl {H : Hp} : Ext H H := fun _ _ h => h
theorem ext_hid {O : List Addr} {H H' : Hp} (e : Ext H H') : Ext (hid O H) (hid O H') := fun a o h => by
  obtain ⟨h1, h2⟩ := hid_at h
  rw [hid_ne h2]
  exact e a o h1
/-- a new object, O's stay hidden -/
theorem hid_new {O : List Addr} {p : Addr} {H : Hp} {u : HO} (h : p ∉ O) : hid O (upd H p u) p = some u := by rw [hid_ne h, upd_same]
theorem not_in {O : List Addr} {p : Addr} {H : Hp} (h : H p = none) (ho : ∀ a ∈ O, ∃ u, H a = some u) : p ∉ O := fun z => by
  obtain ⟨u, e⟩ := ho p z
  rw [h] at e; cases e
theorem ext_hid_new {O : List Addr} {p : Addr} {H : Hp} {u : HO} (h : H p = none) : Ext (hid O H) (hid O (upd H p u)) := ext_hid (Ext.upd h)
theorem ext_hid_upd {O : List Addr} {p : Addr} {H : Hp} {u : HO} (h : p ∈ O) : Ext (hid O H) (hid O (upd H p u)) := by rw [hid_upd h]; exact ext_rfl
/-- from a heap that does not know O -/
theorem ext_to_hid {O : List Addr} {H H' : Hp} (e : Ext H H') (h : ∀ a ∈ O, H a = none) : Ext H (hid O H') := fun a o q => by
  rw [hid_ne (fun z => by rw [h a z] at q; cases q)]
  exact e a o q
/-! ### pairs -/
theorem paired_snoc {α β : Type} {R : α → β → Prop} {a : α} {b : β} (h : R a b) : ∀ {xs : List α} {ys : List β}, Paired R xs ys → Paired R (xs ++ [a]) (ys ++ [b])
  | _, _, .nil => .cons h .nil
  | _, _, .cons r t => .cons r (paired_snoc h t)
theorem paired_map {α β : Type} {f : α → β} : ∀ {xs : List α} {ys : List β}, Paired (fun a b => b = f a) xs ys → ys = xs.map f
  | _, _, .nil => rfl
  | _, _, .cons r t => by rw [r, paired_map t]; rfl
theorem paired_of_map {α β : Type} {f : α → β} {R : α → β → Prop} (h : ∀ a, R a (f a)) : ∀ xs : List α, Paired R xs (xs.map f)
  | [] => .nil
  | x :: xs => .cons (h x) (paired_of_map h xs)
theorem paired_len {α β : Type} {R : α → β → Prop} : ∀ {xs : List α} {ys : List β}, Paired R xs ys → xs.length = ys.length
  | _, _, .nil => rfl
  | _, _, .cons _ t => by rw [List.length_cons, List.length_cons, paired_len t]
theorem paired_imp {α β : Type} {R S : α → β → Prop} (h : ∀ a b, R a b → S a b) : ∀ {xs : List α} {ys : List β}, Paired R xs ys → Paired S xs ys
  | _, _, .nil => .nil
  | _, _, .cons r t => .cons (h _ _ r) (paired_imp h t)
theorem paired_at {α β : Type} {R : α → β → Prop} : ∀ {xs : List α} {ys : List β} {i : Nat} {x : α}, Paired R xs ys → xs[i]? = some x → ∃ y, ys[i]? = some y ∧ R x y
  | _, _, _, _, .nil, e => by simp at e
  | _, _, 0, _, .cons r _, e => by simp at e; subst e; exact ⟨_, rfl, r⟩
  | _, _, i + 1, x, .cons _ t, e => by
    obtain ⟨y, h1, h2⟩ := paired_at (i := i) (x := x) t (by simpa using e)
    exact ⟨y, by simpa using h1, h2⟩
theorem take_snoc {α : Type} {l : List α} {i : Nat} {x : α} (h : l[i]? = some x) : l.take (i + 1) = l.take i ++ [x] := by
  rw [List.take_succ, h]; rfl
theorem filter_snoc {α : Type} (keep : α → Bool) {l : List α} {i : Nat} {x : α} (h : l[i]? = some x) : (l.take (i + 1)).filter keep = (l.take i).filter keep ++ (if keep x = true then [x] else []) := by
  rw [take_snoc h, List.filter_append]
  congr 1
  cases e : keep x with
  | true => simp [e]
  | false => simp [e]
/-! ### comprehensions: the items told, what each kept one gives -/
section
variable {α : Type} {J : It} {G : Hp → Prop} {Y : Nat → Hp → V → Hp → Prop} {items : List α} {Yi : α → Hp → V → Hp → Prop}
theorem lcG (w : Walk J items.length G Y) (hy : ∀ i H x H', Y i H x H' → ∃ it, items[i]? = some it ∧ Yi it H x H') (hn : items.length < 100000)
    {g : TG} {tt : TT} {te : TE} {vs : List Nat} {σ : L2.St} {H1 : Hp} {D : Addr} {Qd : Hp → Prop} (O : List Addr) (I : Hp → Prop) (keep : α → Bool) (R : α → V → Hp → Prop) (mono : ∀ a y H H', Ext H H' → R a y H → R a y H')
    (hD : H1 D = none) (hO : D ∉ O) (hI : ∀ H u, I H → I (upd H D u)) (i0 : I H1) (hG : ∀ H, Ext (hid O H1) (hid O H) → I H → G H)
    (hs : ∀ (i : Nat) it x H H' acc, items[i]? = some it → Ext (hid O H1) (hid O H) → I H → H D = some (.lst acc) → Yi it H x H' → ∀ (Qy : VK) (Qn : Hp → Prop),
      (∀ y H4, Ext (hid O H) (hid O H4) → I H4 → keep it = true → R it y (hid (D :: O) H4) → Qy y H4) → (∀ H3, Ext (hid O H) (hid O H3) → I H3 → keep it = false → Qn H3) →
      g x (wipe σ vs) H' fun σ2 H2 => wipe σ2 vs = wipe σ vs ∧ tt σ2 H2 fun b H3 => if b = true then te σ2 H3 Qy else Qn H3)
    (hd : ∀ ys H, Ext (hid O H1) (hid O H) → I H → H D = some (.lst ys) → Paired (fun a y => R a y (hid (D :: O) H)) (items.filter keep) ys → Qd H) :
    ∃ W : Nat → Nat → Hp → Prop, (∃ m, W 0 m (upd H1 D (.lst []))) ∧ ∀ i m H, W i m H →
      (J.stop i H ∧ Qd H) ∨ (J.go i H ∧ ∃ Nx : Hp → Prop, (∀ H', Nx H' → ∃ m', m' < m ∧ W (i + 1) m' H') ∧ ∀ x H', J.yld i H x H' → g x (wipe σ vs) H' fun σ2 H2 => wipe σ2 vs = wipe σ vs ∧ tt σ2 H2 fun b H3 =>
        if b = true then te σ2 H3 fun y H4 => ∃ acc, H4 D = some (.lst acc) ∧ acc.length < sizeLine ∧ Nx (upd H4 D (.lst (acc ++ [y]))) else Nx H3) := by
  have dd : ∀ H u, hid (D :: O) (upd H D u) = hid (D :: O) H := fun H u => hid_upd List.mem_cons_self
  have fe : ∀ {H : Hp} {u : HO}, Ext (hid O H1) (hid O H) → Ext (hid O H1) (hid O (upd H D u)) := fun {H u} e a o h => by
    have e2 := e a o h
    obtain ⟨h1, h2⟩ := hid_at h
    rw [hid_ne h2, upd_ne (ne_of_none h1 hD)]
    exact (hid_at e2).1
  have keepD : ∀ {H H4 : Hp} {u : HO}, Ext (hid O H) (hid O H4) → H D = some u → H4 D = some u := fun {H H4 u} e h => by
    have e2 := e D u (by rw [hid_ne hO]; exact h)
    exact (hid_at e2).1
  have hidD : ∀ {H H4 : Hp}, Ext (hid O H) (hid O H4) → Ext (hid (D :: O) H) (hid (D :: O) H4) := fun {H H4} e a o h => by
    obtain ⟨h1, h2⟩ := hid_at h
    have e2 := e a o (by rw [hid_ne fun z => h2 (List.mem_cons_of_mem _ z)]; exact h1)
    rw [hid_ne h2]
    exact (hid_at e2).1
  refine lc_it w (fun i H => Ext (hid O H1) (hid O H) ∧ I H ∧ ∃ ys, H D = some (.lst ys) ∧ Paired (fun a y => R a y (hid (D :: O) H)) ((items.take i).filter keep) ys)
    ⟨fe ext_rfl, hI _ _ i0, [], upd_same, .nil⟩ (fun i H hi p => hG H p.1 p.2.1) ?_ ?_
  · rintro i x H H' hi ⟨e, hi2, ys, hys, pr⟩ y
    obtain ⟨it, hit, yi⟩ := hy i H x H' y
    have hlen : ys.length < 100000 := by
      have h1 := paired_len pr
      have h2 := List.length_filter_le keep (items.take i)
      rw [List.length_take] at h2
      omega
    refine hs i it x H H' ys hit e hi2 hys yi _ _ (fun v H4 e4 i4 k4 r4 => ?_) (fun H3 e3 i3 k3 => ?_)
    · refine ⟨ys, keepD e4 hys, szl hlen, fe (e.trans e4), hI _ _ i4, ys ++ [v], upd_same, ?_⟩
      rw [filter_snoc keep hit, if_pos k4, dd]
      exact paired_snoc (R := fun a y => R a y (hid (D :: O) H4)) r4 (paired_imp (fun a b r => mono a b _ _ (hidD e4) r) pr)
    · refine ⟨e.trans e3, i3, ys, keepD e3 hys, ?_⟩
      rw [filter_snoc keep hit, k3, if_neg Bool.false_ne_true, List.append_nil]
      exact paired_imp (fun a b r => mono a b _ _ (hidD e3) r) pr
  · rintro H ⟨e, hi2, ys, hys, pr⟩
    rw [List.take_length] at pr
    exact hd ys H e hi2 hys pr
end
/-- over a list, a tuple, a range: what is yielded -/
theorem yat {α : Type} {xs : List α} {emb : α → V} : ∀ i H x H', YAt (xs.map emb) i H x H' → ∃ it, xs[i]? = some it ∧ (H' = H ∧ x = emb it) := fun i H x H' h => by
  obtain ⟨rfl, h⟩ := h
  rw [List.getElem?_map] at h
  cases e : xs[i]? with
  | none => rw [e] at h; cases h
  | some it => rw [e] at h; exact ⟨it, rfl, rfl, (Option.some.inj h).symm⟩
theorem yfn {n : Nat} {f : Nat → V} : ∀ i H x H', i < n → YFn f i H x H' → ∃ it, (List.range n)[i]? = some it ∧ (H' = H ∧ x = f it) := fun i H x H' hi h => by
  obtain ⟨rfl, rfl⟩ := h
  exact ⟨i, by rw [List.getElem?_range hi], rfl, rfl⟩
section
variable {α : Type} {J : It} {G : Hp → Prop} {Y : Nat → Hp → V → Hp → Prop} {items : List α} {K : PySem.W.Frag}
/-- nothing but new objects; the elements' values by their items -/
theorem lcE {emb : α → V} (w : Walk J items.length G Y) (hy : ∀ i H x H', Y i H x H' → ∃ it, items[i]? = some it ∧ (H' = H ∧ x = emb it)) (hn : items.length < 100000)
    {g : TG} {tt : TT} {te : TE} {vs : List Nat} {σ : L2.St} {H1 : Hp} {D : Addr} {Qd : Hp → Prop} (keep : α → Bool) (R : α → V → Hp → Prop) (mono : ∀ a y H H', Ext H H' → R a y H → R a y H')
    (hD : H1 D = none) (hG : ∀ H, Ext H1 H → G H)
    (hs : ∀ (i : Nat) it H acc, items[i]? = some it → Ext H1 H → H D = some (.lst acc) → ∀ (Qy : VK) (Qn : Hp → Prop),
      (∀ y H4, Ext H H4 → keep it = true → R it y (hid [D] H4) → Qy y H4) → (∀ H3, Ext H H3 → keep it = false → Qn H3) →
      g (emb it) (wipe σ vs) H fun σ2 H2 => wipe σ2 vs = wipe σ vs ∧ tt σ2 H2 fun b H3 => if b = true then te σ2 H3 Qy else Qn H3)
    (hd : ∀ ys H, Ext H1 H → H D = some (.lst ys) → Paired (fun a y => R a y (hid [D] H)) (items.filter keep) ys → Qd H) :
    ∃ W : Nat → Nat → Hp → Prop, (∃ m, W 0 m (upd H1 D (.lst []))) ∧ ∀ i m H, W i m H →
      (J.stop i H ∧ Qd H) ∨ (J.go i H ∧ ∃ Nx : Hp → Prop, (∀ H', Nx H' → ∃ m', m' < m ∧ W (i + 1) m' H') ∧ ∀ x H', J.yld i H x H' → g x (wipe σ vs) H' fun σ2 H2 => wipe σ2 vs = wipe σ vs ∧ tt σ2 H2 fun b H3 =>
        if b = true then te σ2 H3 fun y H4 => ∃ acc, H4 D = some (.lst acc) ∧ acc.length < sizeLine ∧ Nx (upd H4 D (.lst (acc ++ [y]))) else Nx H3) := by
  have z : ∀ {H H' : Hp}, Ext (hid [] H) (hid [] H') ↔ Ext H H' := fun {H H'} => by rw [hid_nil, hid_nil]
  refine lcG w (Yi := fun it H x H' => H' = H ∧ x = emb it) hy hn [] (fun _ => True) keep R mono hD (by simp) (fun _ _ _ => trivial) trivial (fun H e _ => hG H (z.mp e)) ?_ ?_
  · rintro i it x H H' acc hit e _ ha ⟨rfl, rfl⟩ Qy Qn ky kn
    exact hs i it H' acc hit (z.mp e) ha Qy Qn (fun y H4 e4 => ky y H4 (z.mpr e4) trivial) (fun H3 e3 => kn H3 (z.mpr e3) trivial)
  · intro ys H e _ hys pr
    exact hd ys H (z.mp e) hys pr
end
theorem walk_rangeN {n : Nat} : Walk (Itr 0 n) (List.range n).length (fun _ => True) (fun i H x H' => i < n ∧ YFn (fun i => .int (0 + (i : Nat))) i H x H') := by
  rw [List.length_range]
  exact ⟨fun _ _ hi _ => hi, fun _ _ => Nat.le_refl _, fun i _ _ _ hi _ y => ⟨hi, y⟩⟩
theorem yrng {n : Nat} : ∀ i H x H', (i < n ∧ YFn (fun i => V.int (0 + (i : Nat))) i H x H') → ∃ it, (List.range n)[i]? = some it ∧ (H' = H ∧ x = V.int (it : Nat)) := fun i H x H' h => by
  obtain ⟨it, h1, h2, h3⟩ := yfn i H x H' h.1 h.2
  exact ⟨it, h1, h2, by rw [h3, Int.zero_add]⟩
theorem walk_listM {α : Type} {K : PySem.W.Frag} {a : Addr} {xs : List α} {emb : α → V} : Walk (Itl K a) xs.length (fun H => SqL K H a (xs.map emb)) (YAt (xs.map emb)) := by
  have w := walk_list (K := K) (a := a) (xs := xs.map emb)
  rw [List.length_map] at w
  exact w
theorem walk_tupM {α : Type} {K : PySem.W.Frag} {a : Addr} {xs : List α} {emb : α → V} : Walk (Itt K a) xs.length (fun H => SqT K H a (xs.map emb)) (YAt (xs.map emb)) := by
  have w := walk_tup (K := K) (a := a) (xs := xs.map emb)
  rw [List.length_map] at w
  exact w
/-- values that say nothing of the heap -/
theorem pure_mono {α : Type} {f : α → V} : ∀ (a : α) (y : V) (H H' : Hp), Ext H H' → y = f a → y = f a := fun _ _ _ _ _ h => h
/-! ### what is walked -/
def LcB (J : It) (g : TG) (tt : TT) (te : TE) (vs : List Nat) (σ : L2.St) (H1 : Hp) (Q : VK) : Prop := ∀ D, H1 D = none → ∃ W : Nat → Nat → Hp → Prop, (∃ m, W 0 m (upd H1 D (.lst []))) ∧ ∀ i m H, W i m H →
  (J.stop i H ∧ Q (.ref D) H) ∨ (J.go i H ∧ ∃ Nx : Hp → Prop, (∀ H', Nx H' → ∃ m', m' < m ∧ W (i + 1) m' H') ∧ ∀ x H', J.yld i H x H' → g x (wipe σ vs) H' fun σ2 H2 => wipe σ2 vs = wipe σ vs ∧ tt σ2 H2 fun b H3 =>
    if b = true then te σ2 H3 fun y H4 => ∃ acc, H4 D = some (.lst acc) ∧ acc.length < sizeLine ∧ Nx (upd H4 D (.lst (acc ++ [y]))) else Nx H3)
def ForB (J : It) (g : TG) (tb : TS) (D : Ends) (σ : L2.St) (H1 : Hp) : Prop := ∃ W : Nat → Nat → L2.St → Hp → Prop, (∃ m, W 0 m σ H1) ∧ ∀ i m σ H, W i m σ H →
  (J.stop i H ∧ D.nx σ H) ∨ (J.go i H ∧ ∃ N : L2.St → Hp → Prop, (∀ σ' H', N σ' H' → ∃ m', m' < m ∧ W (i + 1) m' σ' H') ∧ ∀ x H', J.yld i H x H' → g x σ H' fun σ2 H2 => tb { D with nx := N, ct := N, bk := D.nx } σ2 H2)
section
variable {K : PySem.W.Frag} {g : TG} {tt : TT} {te tl : TE} {ta : TA} {vs : List Nat} {σ : L2.St} {H : Hp} {Q : VK} {tb : TS} {D : Ends} {wi : TI}
theorem lcT (k : tl σ H fun x H1 => ∃ a, x = .ref a ∧ (∃ xs, SqT K H1 a xs) ∧ LcB (Itt K a) g tt te vs σ H1 Q) : tLc (iTup K tl) g tt te vs σ H Q := k
theorem lcL (k : tl σ H fun x H1 => ∃ a, x = .ref a ∧ (∃ xs, SqL K H1 a xs) ∧ LcB (Itl K a) g tt te vs σ H1 Q) : tLc (iList K tl) g tt te vs σ H Q := k
theorem lcR (k : ta σ H fun vs' H1 => ∃ j : Int, vs' = [.int j] ∧ -(2 ^ 62) ≤ j ∧ j < 2 ^ 62 ∧ LcB (Itr 0 j.toNat) g tt te vs σ H1 Q) : tLc (iRng1 ta) g tt te vs σ H Q := k
theorem forT (k : tl σ H fun x H1 => ∃ a, x = .ref a ∧ (∃ xs, SqT K H1 a xs) ∧ ForB (Itt K a) g tb D σ H1) : tFor (iTup K tl) g tb D σ H := k
theorem forL (k : tl σ H fun x H1 => ∃ a, x = .ref a ∧ (∃ xs, SqL K H1 a xs) ∧ ForB (Itl K a) g tb D σ H1) : tFor (iList K tl) g tb D σ H := k
theorem forR (k : ta σ H fun vs' H1 => ∃ j : Int, vs' = [.int j] ∧ -(2 ^ 62) ≤ j ∧ j < 2 ^ 62 ∧ ForB (Itr 0 j.toNat) g tb D σ H1) : tFor (iRng1 ta) g tb D σ H := k
theorem yes {R : Bool → Hp → Prop} (k : R true H) : tYes σ H R := k
end
/-! ### data: == by an encoding -/
structure Enc {α : Type} [DecidableEq α] (f : α → PyData) (k : Nat) : Prop where
  eq : ∀ a b, PyData.eqv (f a) (f b) = decide (a = b)
  lay : ∀ a, (f a).canLay0 = true
  dep : ∀ a, (f a).depth ≤ k
theorem eqvAll_map {α : Type} [DecidableEq α] {f : α → PyData} (h : ∀ a b, PyData.eqv (f a) (f b) = decide (a = b)) : ∀ xs ys : List α, PyData.eqvAll (xs.map f) (ys.map f) = decide (xs = ys)
  | [], [] => by simp [PyData.eqvAll]
  | [], _ :: _ => by simp [PyData.eqvAll]
  | _ :: _, [] => by simp [PyData.eqvAll]
  | x :: xs, y :: ys => by
    rw [List.map_cons, List.map_cons, PyData.eqvAll, h, eqvAll_map h xs ys, Bool.eq_iff_iff]
    simp
theorem layAll_map {α : Type} {f : α → PyData} (h : ∀ a, (f a).canLay0 = true) : ∀ xs : List α, PyData.canLayAll0 (xs.map f) = true
  | [] => by simp [PyData.canLayAll0]
  | x :: xs => by rw [List.map_cons, PyData.canLayAll0, h, layAll_map h xs]; rfl
theorem depAll_map {α : Type} {f : α → PyData} {k : Nat} (h : ∀ a, (f a).depth ≤ k) : ∀ xs : List α, PyData.depthAll (xs.map f) ≤ k
  | [] => by simp [PyData.depthAll]
  | x :: xs => by rw [List.map_cons, PyData.depthAll]; exact Nat.max_le.mpr ⟨h x, depAll_map h xs⟩
section
variable {α β : Type} [DecidableEq α] [DecidableEq β] {f : α → PyData} {g : β → PyData} {k m : Nat}
theorem Enc.shaped (e : Enc f k) (h : k ≤ 64 := by decide) (a : α) : SeqAt.shaped (f a) = true := by
  unfold SeqAt.shaped
  rw [e.lay a, decide_eq_true (Nat.le_trans (e.dep a) h)]; rfl
theorem Enc.int : Enc PyData.int 0 := ⟨fun a b => by rw [PyData.eqv]; exact Bool.beq_eq_decide_eq a b, fun a => by rw [PyData.canLay0], fun a => by rw [PyData.depth]; exact Nat.le_refl _⟩
theorem Enc.bool : Enc PyData.bool 0 := ⟨fun a b => by rw [PyData.eqv]; exact Bool.beq_eq_decide_eq a b, fun a => by rw [PyData.canLay0], fun a => by rw [PyData.depth]; exact Nat.le_refl _⟩
theorem Enc.list (e : Enc f k) : Enc (fun xs : List α => PyData.list (xs.map f)) (k + 1) :=
  ⟨fun a b => by rw [PyData.eqv]; exact eqvAll_map e.eq a b, fun a => by rw [PyData.canLay0]; exact layAll_map e.lay a, fun a => by rw [PyData.depth]; exact Nat.succ_le_succ (depAll_map e.dep a)⟩
theorem Enc.tuple (e : Enc f k) : Enc (fun xs : List α => PyData.tuple (xs.map f)) (k + 1) :=
  ⟨fun a b => by rw [PyData.eqv]; exact eqvAll_map e.eq a b, fun a => by rw [PyData.canLay0]; exact layAll_map e.lay a, fun a => by rw [PyData.depth]; exact Nat.succ_le_succ (depAll_map e.dep a)⟩
theorem Enc.pair (e : Enc f k) (e' : Enc g m) : Enc (fun p : α × β => PyData.tuple [f p.1, g p.2]) (max k m + 1) :=
  ⟨fun a b => by
    rw [PyData.eqv, PyData.eqvAll, PyData.eqvAll, PyData.eqvAll, e.eq, e'.eq, Bool.eq_iff_iff]
    simp [Prod.ext_iff], fun a => by rw [PyData.canLay0, PyData.canLayAll0, PyData.canLayAll0, PyData.canLayAll0, e.lay, e'.lay]; rfl,
   fun a => by
    rw [PyData.depth, PyData.depthAll, PyData.depthAll, PyData.depthAll]
    have h1 := e.dep a.1
    have h2 := e'.dep a.2
    omega⟩
theorem dpAll_map {K : PySem.W.Frag} {H : Hp} {emb : α → V} (h : ∀ a, Dp K H (emb a) (f a)) : ∀ xs : List α, DpAll K H (xs.map emb) (xs.map f)
  | [] => .nil
  | x :: xs => .cons (h x) (dpAll_map h xs)
theorem dpAll_paired {K : PySem.W.Frag} {H : Hp} {R : α → V → Prop} (h : ∀ a v, R a v → Dp K H v (f a)) : ∀ {xs : List α} {ys : List V}, Paired R xs ys → DpAll K H ys (xs.map f)
  | _, _, .nil => .nil
  | _, _, .cons r t => .cons (h _ _ r) (dpAll_paired h t)
end
section
variable {K : PySem.W.Frag} {H : Hp} {Q : VK} {x y : V} {α : Type} [DecidableEq α] {f : α → PyData} {k : Nat} {a b : α}
theorem eqD (e : Enc f k) (hx : Dp K H x (f a)) (hy : Dp K H y (f b)) (q : Q (.bl (decide (a = b))) H) (h : k ≤ 64 := by decide) : rEqD K x y H Q := ⟨_, _, hx, hy, e.shaped h a, e.shaped h b, by rw [e.eq]; exact q⟩
theorem neD (e : Enc f k) (hx : Dp K H x (f a)) (hy : Dp K H y (f b)) (q : Q (.bl (!decide (a = b))) H) (h : k ≤ 64 := by decide) : rNeD K x y H Q := ⟨_, _, hx, hy, e.shaped h a, e.shaped h b, by rw [e.eq]; exact q⟩
theorem dp_ints {p : Addr} {xs : List Int} (h : SqL K H p (xs.map V.int)) : Dp K H (.ref p) (PyData.list (xs.map PyData.int)) := .lst h (dpAll_map (fun a => .int a) xs)
theorem dp_tints {p : Addr} {xs : List Int} (h : SqT K H p (xs.map V.int)) : Dp K H (.ref p) (PyData.tuple (xs.map PyData.int)) := .tup h (dpAll_map (fun a => .int a) xs)
end
abbrev encInts : Enc (fun xs : List Int => PyData.list (xs.map PyData.int)) 1 := Enc.int.list
abbrev encTInts : Enc (fun xs : List Int => PyData.tuple (xs.map PyData.int)) 1 := Enc.int.tuple
/-! ### tuple(..) of a list or a tuple -/
def rTupOf (K : PySem.W.Frag) : List V → Hp → VK → Prop := fun xs H Q => ∃ p ys, xs = [.ref p] ∧ ((SqL K H p ys ∧ ∀ l, H l = none → Q (.ref l) (upd H l (.tup ys))) ∨ (SqT K H p ys ∧ Q (.ref p) H))
theorem c_tuple {K : PySem.W.Frag} {X : Cx} (h : X.K = K := by rfl) : CallR X (.type "tuple") (rTupOf K) := by subst h; exact call_tuple_of
theorem c_isi {K : PySem.W.Frag} {X : Cx} (h : X.K = K := by rfl) : CallR X (.builtin "isinstance") (rIsi K) := by subst h; exact call_isi
theorem tupL {K : PySem.W.Frag} {H : Hp} {Q : VK} {p : Addr} {xs : List V} (h : SqL K H p xs) (k : ∀ l, H l = none → Q (.ref l) (upd H l (.tup xs))) : rTupOf K [.ref p] H Q := ⟨p, xs, rfl, .inl ⟨h, k⟩⟩
theorem tupT {K : PySem.W.Frag} {H : Hp} {Q : VK} {p : Addr} {xs : List V} (h : SqT K H p xs) (k : Q (.ref p) H) : rTupOf K [.ref p] H Q := ⟨p, xs, rfl, .inr ⟨h, k⟩⟩
end Rd

set_option Elab.async false
set_option linter.all false
set_option maxRecDepth 100000
set_option maxHeartbeats 0
/-! Rules with the fragment named, so that they can stand within blocks. -/
namespace GW
open PySem PySem.Spec PyProof.Rows L2 OwX
variable {K : PySem.W.Frag} {X : Cx}
section
variable {o e e1 e2 tg l : Expr} {f : Str} {ta tb tl : TE} {t : TA} {pos p : Pos}
theorem fld (he : PE X e ta) (h : X.K = K := by rfl) (hb : attributeBase e f X.env (eval e X.env) = eval e X.env := by rfl) : PE X (.Attribute e f pos) (tFld K ta f) := by subst h; exact pe_fld he hb
theorem ixL (h : X.K = K := by rfl) : IxR X (rIxL K) := by subst h; exact ix_list
theorem ixT (h : X.K = K := by rfl) : IxR X (rIxT K) := by subst h; exact ix_tup
theorem eqD (hu : X.A.units + 64 < cLine) (h : X.K = K := by rfl) : OpR X (compareOp .Eq) (rEqD K) := by subst h; exact op_eqD hu
theorem neD (hu : X.A.units + 64 < cLine) (h : X.K = K := by rfl) : OpR X (compareOp .NotEq) (rNeD K) := by subst h; exact op_neD hu
theorem inS (h : X.K = K := by rfl) : OpR X (compareOp .In) (rIn K false) := by subst h; exact op_in_seq
theorem niS (h : X.K = K := by rfl) : OpR X (compareOp .NotIn) (rIn K true) := by subst h; exact op_notIn_seq
theorem inD (hu : X.A.units + 65 < cLine) (h : X.K = K := by rfl) : OpR X (compareOp .In) (rInD K) := by subst h; exact op_inD hu
theorem catT (h : X.K = K := by rfl) : OpR X (binaryOp .Add) (rCatT K) := by subst h; exact op_catT
theorem ltT (hu : X.A.units < cLine) (h : X.K = K := by rfl) : OpR X (compareOp .Lt) (rLtT K) := by subst h; exact op_ltT hu
theorem slL (h : X.K = K := by rfl) : SlR X (rSlL K) := by subst h; exact sl_list
theorem slA (h : X.K = K := by rfl) : SlR X (rSlA K) := by subst h; exact sl_tupA
theorem sum (hc : X.calm = true) (h : X.K = K := by rfl) : CallR X (.builtin "sum") (rSum K) := by subst h; exact cr_sum hc
theorem any (hc : X.calm = true) (h : X.K = K := by rfl) : CallR X (.builtin "any") (rAny K) := by subst h; exact cr_any hc
theorem all (hc : X.calm = true) (h : X.K = K := by rfl) : CallR X (.builtin "all") (rAll K) := by subst h; exact cr_all hc
theorem max (hc : X.calm = true) (h : X.K = K := by rfl) : CallR X (.builtin "max") (rMax K) := by subst h; exact cr_max hc
theorem min (hc : X.calm = true) (h : X.K = K := by rfl) : CallR X (.builtin "min") (rMin K) := by subst h; exact cr_min hc
theorem pi_list (hl : PE X l tl) (h : X.K = K := by rfl) : PI X tg l (iList K tl) := by subst h; exact L2.pi_list hl
theorem pi_tup (hl : PE X l tl) (h : X.K = K := by rfl) : PI X tg l (iTup K tl) := by subst h; exact L2.pi_tup hl
theorem revL {k : Nat} {p1 p2 p3 : Pos} (he : PE X e ta) (h : X.K = K := by rfl) : PE X (.Subscript e (.Slice none none (some (.UnaryOp .USub (.Constant (.int 1) k p1) p2)) p3) pos) (tRevL K ta) := by subst h; exact pe_revL he
theorem zip {elts : List Expr} {kk : Nat} {tpos : Pos} (hg : Gl X "zip") (hm : X.mg "zip" = none) (ha : PA X [e, e2] t) (h : X.K = K := by rfl)
    (hs : starEach [e, e2] X.env = (false, eval e X.env) :: starEach [e2] X.env := by rfl) (hpl : (backTo pos (starEach [e2] X.env)).any (·.1) = false := by rfl) :
    PI X (.Tuple elts kk tpos) (.Call (.Name "zip" p) [e, e2] [] pos) (iZip K t) := by subst h; exact L2.pi_zip hg hm ha hs hpl
theorem zipA {elts : List Expr} {kk : Nat} {tpos : Pos} (hg : Gl X "zip") (hm : X.mg "zip" = none) (ha : PA X [e, e2] t) (h : X.K = K := by rfl)
    (hs : starEach [e, e2] X.env = (false, eval e X.env) :: starEach [e2] X.env := by rfl) (hpl : (backTo pos (starEach [e2] X.env)).any (·.1) = false := by rfl) :
    PI X (.Tuple elts kk tpos) (.Call (.Name "zip" p) [e, e2] [] pos) (RZ.iZipA K t) := by subst h; exact RZ.pi_zipA hg hm ha hs hpl
theorem enum {elts : List Expr} {kk : Nat} {tpos : Pos} (hg : Gl X "enumerate") (hm : X.mg "enumerate" = none) (ha : PA X [e] t) (h : X.K = K := by rfl) (hs : starEach [e] X.env = [(false, eval e X.env)] := by rfl) :
    PI X (.Tuple elts kk tpos) (.Call (.Name "enumerate" p) [e] [] pos) (iEnum K t) := by subst h; exact pi_enum hg hm ha hs
theorem tup {es : List Expr} {k : Nat} {t : TGs} {n : Nat} (hc : X.calm = true) (g : PGs X es t) (h : X.K = K := by rfl)
    (hn : (assignEach es X.env).length = n := by rfl) (hst : (assignEach es X.env).findIdx? (·.1) = none := by rfl) : PG X (.Tuple es k pos) (gTup K n t) := by subst h; exact pg_tup hc g hn hst
end
theorem bm {T : String} {name : Str} {id : String} {r : V → List V → Hp → VK → Prop} {o e : Expr} {es : List Expr} {to : TE} {t : TA} {apos cpos : Pos} (pa : PlainAttrs T) (slot : Slot T name id) (hty : typeOf (.builtin id) = pure (.type "method_descriptor")) (hm : MtR X id r) (ho : PE X o to) (ha : PA X (e :: es) t) (h : X.K = K := by rfl)
    (hbase : attributeBase o name X.env (eval o X.env) = eval o X.env := by rfl)
    (hfew : ((backTo cpos (starEach (e :: es) X.env)).all (fun x => !x.1) && (backToKw cpos (keywordEach [] X.env)).all (fun x => x.1.isSome)
      && decide ((e :: es).length + ([] : List Keyword).length + (if ([] : List Keyword).isEmpty then 0 else 1) < 30)) = true := by rfl)
    (hline : (apos.endLine == cpos.line) = true := by rfl) (hs : starEach (e :: es) X.env = (false, eval e X.env) :: starEach es X.env := by rfl) (hplain : (backTo cpos (starEach es X.env)).any (·.1) = false := by rfl) :
    PE X (.Call (.Attribute o name apos) (e :: es) [] cpos) (tBM K T r to t) := by subst h; exact pe_bm pa slot hty hm ho ha hbase hfew hline hs hplain
theorem cnt (h : X.K = K := by rfl) : MtR X "list.count" (rCntI K) := by subst h; exact mt_lcount
end GW
namespace Rd
open PySem PySem.Spec PyProof.Rows L2 OwX
section
variable {K : PySem.W.Frag} {σ : L2.St} {H : Hp} {Q : VK} {p : Addr} {xs ys : List V} {v y : V} {a b : Bool}
theorem bmLv {r : V → List V → Hp → VK → Prop} {i : Nat} {t : TA} (h1 : σ[i]? = some (some (.ref p))) (h2 : SqL K H p xs) (k : t σ H fun vs H2 => r (.ref p) vs H2 Q) : tBM K "list" r (tVar i) t σ H Q := ⟨.ref p, h1, .inl ⟨rfl, xs, h2⟩, k⟩
theorem appendL (h : H p = some (.lst xs)) (l : xs.length < sizeLine) (k : Q .non (upd H p (.lst (xs ++ [y])))) : rAppend (.ref p) [y] H Q := ⟨p, xs, y, rfl, rfl, h, l, k⟩
theorem countL {ns : List Int} {z : Int} (h : SqL K H p (ns.map V.int)) (k : Q (.int (ns.count z : Nat)) H) : rCntI K (.ref p) [.int z] H Q := ⟨p, ns, z, rfl, rfl, h, k⟩
theorem catL {q : Addr} (h1 : H p = some (.lst xs)) (h2 : H q = some (.lst ys)) (l : xs.length + ys.length ≤ sizeLine) (k : ∀ r, H r = none → Q (.ref r) (upd H r (.lst (xs ++ ys)))) : rCat (.ref p) (.ref q) H Q := ⟨p, q, xs, ys, rfl, rfl, h1, h2, l, k⟩
theorem repL {n : Int} (h1 : H p = some (.lst xs)) (l1 : -(2 ^ 63) ≤ n) (l2 : n < 2 ^ 63) (l : xs.length * n.toNat ≤ sizeLine) (k : ∀ r, H r = none → Q (.ref r) (upd H r (.lst (List.replicate n.toNat xs).flatten))) : rRep (.ref p) (.int n) H Q := ⟨p, n, xs, rfl, rfl, h1, l1, l2, l, k⟩
theorem sl {r : V → Option Int → Option Int → Hp → VK → Prop} {te : TE} {tl th : TO} (k : te σ H fun x H1 => tl σ H1 fun l H2 => th σ H2 fun u H3 => r x l u H3 Q) : tSl r te tl th σ H Q := k
theorem po0 {R : Option Int → Hp → Prop} (k : R none H) : tNoPart σ H R := k
theorem poI {R : Option Int → Hp → Prop} {te : TE} (k : te σ H fun x H1 => ∃ i, x = .int i ∧ R (some i) H1) : tPart te σ H R := k
theorem ixi {A : Int → Prop} {i : Int} (k : A i) : ∃ j, V.int i = .int j ∧ A j := ⟨i, rfl, k⟩
theorem cutL {lo hi : Option Int} (h : SqL K H p xs) (k : ∀ q, H q = none → Q (.ref q) (upd H q (.lst (cutV xs lo hi)))) : rSlL K (.ref p) lo hi H Q := ⟨p, xs, rfl, h, k⟩
theorem revLv {i : Nat} (h1 : σ[i]? = some (some (.ref p))) (h2 : SqL K H p xs) (k : ∀ q, H q = none → Q (.ref q) (upd H q (.lst xs.reverse))) : tRevL K (tVar i) σ H Q := ⟨.ref p, h1, p, xs, rfl, h2, k⟩
theorem isB (k : Q (.bl (decide (a = b))) H) : rIsB (.bl a) (.bl b) H Q := ⟨a, b, rfl, rfl, k⟩
theorem notB (k : Q (.bl (!decide (a = b))) H) : rNotB (.bl a) (.bl b) H Q := ⟨a, b, rfl, rfl, k⟩
theorem notBtt (k : Q (.bl false) H) : rNotB (.bl true) (.bl true) H Q := ⟨true, true, rfl, rfl, k⟩
theorem notBff (k : Q (.bl false) H) : rNotB (.bl false) (.bl false) H Q := ⟨false, false, rfl, rfl, k⟩
theorem notBtf (k : Q (.bl true) H) : rNotB (.bl true) (.bl false) H Q := ⟨true, false, rfl, rfl, k⟩
theorem notBft (k : Q (.bl true) H) : rNotB (.bl false) (.bl true) H Q := ⟨false, true, rfl, rfl, k⟩
theorem neSame (e : a = b) (k : Q (.bl false) H) : rNe (.bl a) (.bl b) H Q := ⟨rfl, by subst e; rw [decide_eq_true rfl]; exact k⟩
theorem cut_map {α : Type} {f : α → V} {zs : List α} {lo hi : Option Int} : cutV (zs.map f) lo hi = ((zs.drop (HT.sIx zs.length 0 lo)).take (HT.sIx zs.length zs.length hi - HT.sIx zs.length 0 lo)).map f := by
  unfold cutV
  rw [List.length_map, List.map_take, List.map_drop]
theorem cut_len {α : Type} {zs : List α} {i j : Nat} : ((zs.drop i).take j).length ≤ zs.length := by
  rw [List.length_take, List.length_drop]; omega
theorem cutI {zs : List Int} {lo hi : Option Int} (h : SqL K H p (zs.map V.int)) (k : ∀ q (ts : List Int), ts.length ≤ zs.length → H q = none → Q (.ref q) (upd H q (.lst (ts.map V.int)))) : rSlL K (.ref p) lo hi H Q :=
  cutL h fun q hq => by rw [cut_map]; exact k q _ cut_len hq
theorem catI {q : Addr} {zs ts : List Int} (h1 : H p = some (.lst (zs.map V.int))) (h2 : H q = some (.lst (ts.map V.int))) (l : zs.length + ts.length ≤ 100000) (k : ∀ r, H r = none → Q (.ref r) (upd H r (.lst ((zs ++ ts).map V.int)))) : rCat (.ref p) (.ref q) H Q :=
  catL h1 h2 (sz (by simpa using l)) fun r hr => by rw [← List.map_append]; exact k r hr
theorem revI {i : Nat} {zs : List Int} (h1 : σ[i]? = some (some (.ref p))) (h2 : SqL K H p (zs.map V.int)) (k : ∀ q, H q = none → Q (.ref q) (upd H q (.lst (zs.reverse.map V.int)))) : tRevL K (tVar i) σ H Q :=
  revLv h1 h2 fun q hq => by rw [← List.map_reverse]; exact k q hq
theorem setI {R : Hp → Prop} {zs : List Int} {i z : Int} {n : Nat} (h : H p = some (.lst (zs.map V.int))) (e : i = (n : Int)) (l : n < zs.length) (k : R (upd H p (.lst ((zs.set n z).map V.int)))) : rSetL (.ref p) (.int i) (.int z) H R :=
  setL h (ixN_nat e (by rw [List.length_map]; exact l)) (by rw [← List.map_set]; exact k)
theorem repI {n : Nat} {z : Int} (h1 : H p = some (.lst [V.int z])) (l1 : n ≤ 10000) (k : ∀ r, H r = none → Q (.ref r) (upd H r (.lst ((List.replicate n z).map V.int)))) : rRep (.ref p) (.int n) H Q :=
  repL h1 (by omega) (by omega) (sz (by simp; omega)) fun r hr => by
    have e : (List.replicate (n : Int).toNat [V.int z]).flatten = (List.replicate n z).map V.int := by
      rw [Int.toNat_natCast]
      clear l1 k
      induction n with
      | zero => rfl
      | succ n ih => rw [List.replicate_succ, List.replicate_succ, List.flatten_cons, ih]; rfl
    rw [e]
    exact k r hr
theorem smeth {C : Addr} {sp : Sp} {E : XK} {t : TA} (k : t σ H fun vs H2 => sp vs H2 Q E) : tSMeth C sp E (tC (.ref C)) t σ H Q := ⟨rfl, k⟩
theorem par {i j : Nat} {ta : TA} {D : Ends} (k : ta σ H fun vs H1 => ∃ v w, vs = [v, w] ∧ D.nx ((σ.set i (some v)).set j (some w)) H1) : tPar i j ta D σ H := k
theorem par2 {x y : V} {A : V → V → Prop} (k : A x y) : ∃ v w, [x, y] = [v, w] ∧ A v w := ⟨x, y, rfl, k⟩
theorem sumL {ns : List Int} (h : SqL K H p (ns.map V.int)) (k : Q (.int ns.sum) H) : rSum K [.ref p] H Q := ⟨p, ns, rfl, h, k⟩
end
end Rd
namespace L2
open PySem PySem.Spec PyProof.Rows OwX
mutual
theorem Dp.ext {K : PySem.W.Frag} {H H' : Hp} {v : V} {d : PyData} (h : Dp K H v d) (e : Ext H H') : Dp K H' v d := match h with
  | .non => .non
  | .bl b => .bl b
  | .int i => .int i
  | .str x => .str x
  | .lst h a => .lst (Rd.ext_L e h) (DpAll.ext a e)
  | .tup h a => .tup (Rd.ext_T e h) (DpAll.ext a e)
theorem DpAll.ext {K : PySem.W.Frag} {H H' : Hp} {vs : List V} {ds : List PyData} (h : DpAll K H vs ds) (e : Ext H H') : DpAll K H' vs ds := match h with
  | .nil => .nil
  | .cons h t => .cons (Dp.ext h e) (DpAll.ext t e)
end
end L2

set_option Elab.async false
set_option linter.all false
set_option maxRecDepth 100000
set_option maxHeartbeats 0
/-! The text by places, its defs as data, what is read off the top (printed by gen.py). -/
namespace Lv
open PySem PySem.Spec PyProof.Rows L2 OwX
def top (i : Nat) : Stmt := PySem.Challenge.pw_levelcascades_k18_forms_told.main.body.getD i (.Pass ⟨0, 0, 0, 0⟩)
abbrev s_BadLength_init : Stmt := inClass (top 3) 0
abbrev s_NoIndex_init : Stmt := inClass (top 4) 0
abbrev s_Form_init : Stmt := inClass (top 6) 0
abbrev s_Form_unit : Stmt := inClass (top 6) 1
abbrev s_Form_zero : Stmt := inClass (top 6) 2
abbrev s_Form_len : Stmt := inClass (top 6) 3
abbrev s_Form_bool : Stmt := inClass (top 6) 4
abbrev s_Form_iter : Stmt := inClass (top 6) 5
abbrev s_Form_getitem : Stmt := inClass (top 6) 6
abbrev s_Form_eq : Stmt := inClass (top 6) 7
abbrev s_Form_add : Stmt := inClass (top 6) 8
abbrev s_Form_sub : Stmt := inClass (top 6) 9
abbrev s_Form_neg : Stmt := inClass (top 6) 10
abbrev s_Form_mul : Stmt := inClass (top 6) 11
abbrev s_Form_rmul : Stmt := inClass (top 6) 12
abbrev s_Form_call : Stmt := inClass (top 6) 13
abbrev s_law_pool : Stmt := top 8
abbrev s_law_take : Stmt := top 9
abbrev s_law_number : Stmt := top 10
abbrev s_law_is_form : Stmt := top 11
abbrev s_law_item : Stmt := top 12
abbrev s_law_right : Stmt := top 13
abbrev s_law : Stmt := top 14
abbrev N_BadLength_init : List Str := ["self", "count"]
abbrev P_BadLength_init : List Str := ["self", "count"]
abbrev a_BadLength_init (K : PySem.W.Frag) : Addr := He.ma K (He.ga K "BadLength") "__init__"
theorem sc_BadLength_init : FnScope N_BadLength_init P_BadLength_init (defScope s_BadLength_init) := ⟨rfl, rfl, rfl, by decide +kernel, rfl, by decide +kernel, by decide +kernel⟩
abbrev N_NoIndex_init : List Str := ["self", "index"]
abbrev P_NoIndex_init : List Str := ["self", "index"]
abbrev a_NoIndex_init (K : PySem.W.Frag) : Addr := He.ma K (He.ga K "NoIndex") "__init__"
theorem sc_NoIndex_init : FnScope N_NoIndex_init P_NoIndex_init (defScope s_NoIndex_init) := ⟨rfl, rfl, rfl, by decide +kernel, rfl, by decide +kernel, by decide +kernel⟩
abbrev N_Form_init : List Str := ["self", "parts"]
abbrev P_Form_init : List Str := ["self", "parts"]
abbrev a_Form_init (K : PySem.W.Frag) : Addr := He.ma K (He.ga K "Form") "__init__"
theorem sc_Form_init : FnScope N_Form_init P_Form_init (defScope s_Form_init) := ⟨rfl, rfl, rfl, by decide +kernel, rfl, by decide +kernel, by decide +kernel⟩
abbrev N_Form_unit : List Str := ["count", "index", "at"]
abbrev P_Form_unit : List Str := ["count", "index"]
abbrev a_Form_unit (K : PySem.W.Frag) : Addr := He5.wf K (He.ga K "Form") "staticmethod" "unit"
theorem sc_Form_unit : FnScope N_Form_unit P_Form_unit (defScope s_Form_unit) := ⟨rfl, rfl, rfl, by decide +kernel, rfl, by decide +kernel, by decide +kernel⟩
abbrev N_Form_zero : List Str := ["count"]
abbrev P_Form_zero : List Str := ["count"]
abbrev a_Form_zero (K : PySem.W.Frag) : Addr := He5.wf K (He.ga K "Form") "staticmethod" "zero"
theorem sc_Form_zero : FnScope N_Form_zero P_Form_zero (defScope s_Form_zero) := ⟨rfl, rfl, rfl, by decide +kernel, rfl, by decide +kernel, by decide +kernel⟩
abbrev N_Form_len : List Str := ["self"]
abbrev P_Form_len : List Str := ["self"]
abbrev a_Form_len (K : PySem.W.Frag) : Addr := He.ma K (He.ga K "Form") "__len__"
theorem sc_Form_len : FnScope N_Form_len P_Form_len (defScope s_Form_len) := ⟨rfl, rfl, rfl, by decide +kernel, rfl, by decide +kernel, by decide +kernel⟩
abbrev N_Form_bool : List Str := ["self", "part"]
abbrev P_Form_bool : List Str := ["self"]
abbrev a_Form_bool (K : PySem.W.Frag) : Addr := He.ma K (He.ga K "Form") "__bool__"
theorem sc_Form_bool : FnScope N_Form_bool P_Form_bool (defScope s_Form_bool) := ⟨rfl, rfl, rfl, by decide +kernel, rfl, by decide +kernel, by decide +kernel⟩
abbrev N_Form_iter : List Str := ["self"]
abbrev P_Form_iter : List Str := ["self"]
abbrev a_Form_iter (K : PySem.W.Frag) : Addr := He.ma K (He.ga K "Form") "__iter__"
theorem sc_Form_iter : FnScope N_Form_iter P_Form_iter (defScope s_Form_iter) := ⟨rfl, rfl, rfl, by decide +kernel, rfl, by decide +kernel, by decide +kernel⟩
abbrev N_Form_getitem : List Str := ["self", "at"]
abbrev P_Form_getitem : List Str := ["self", "at"]
abbrev a_Form_getitem (K : PySem.W.Frag) : Addr := He.ma K (He.ga K "Form") "__getitem__"
theorem sc_Form_getitem : FnScope N_Form_getitem P_Form_getitem (defScope s_Form_getitem) := ⟨rfl, rfl, rfl, by decide +kernel, rfl, by decide +kernel, by decide +kernel⟩
abbrev N_Form_eq : List Str := ["self", "other"]
abbrev P_Form_eq : List Str := ["self", "other"]
abbrev a_Form_eq (K : PySem.W.Frag) : Addr := He.ma K (He.ga K "Form") "__eq__"
theorem sc_Form_eq : FnScope N_Form_eq P_Form_eq (defScope s_Form_eq) := ⟨rfl, rfl, rfl, by decide +kernel, rfl, by decide +kernel, by decide +kernel⟩
abbrev N_Form_add : List Str := ["self", "other", "one", "two"]
abbrev P_Form_add : List Str := ["self", "other"]
abbrev a_Form_add (K : PySem.W.Frag) : Addr := He.ma K (He.ga K "Form") "__add__"
theorem sc_Form_add : FnScope N_Form_add P_Form_add (defScope s_Form_add) := ⟨rfl, rfl, rfl, by decide +kernel, rfl, by decide +kernel, by decide +kernel⟩
abbrev N_Form_sub : List Str := ["self", "other", "one", "two"]
abbrev P_Form_sub : List Str := ["self", "other"]
abbrev a_Form_sub (K : PySem.W.Frag) : Addr := He.ma K (He.ga K "Form") "__sub__"
theorem sc_Form_sub : FnScope N_Form_sub P_Form_sub (defScope s_Form_sub) := ⟨rfl, rfl, rfl, by decide +kernel, rfl, by decide +kernel, by decide +kernel⟩
abbrev N_Form_neg : List Str := ["self", "part"]
abbrev P_Form_neg : List Str := ["self"]
abbrev a_Form_neg (K : PySem.W.Frag) : Addr := He.ma K (He.ga K "Form") "__neg__"
theorem sc_Form_neg : FnScope N_Form_neg P_Form_neg (defScope s_Form_neg) := ⟨rfl, rfl, rfl, by decide +kernel, rfl, by decide +kernel, by decide +kernel⟩
abbrev N_Form_mul : List Str := ["self", "factor", "part"]
abbrev P_Form_mul : List Str := ["self", "factor"]
abbrev a_Form_mul (K : PySem.W.Frag) : Addr := He.ma K (He.ga K "Form") "__mul__"
theorem sc_Form_mul : FnScope N_Form_mul P_Form_mul (defScope s_Form_mul) := ⟨rfl, rfl, rfl, by decide +kernel, rfl, by decide +kernel, by decide +kernel⟩
abbrev N_Form_rmul : List Str := ["self", "factor", "part"]
abbrev P_Form_rmul : List Str := ["self", "factor"]
abbrev a_Form_rmul (K : PySem.W.Frag) : Addr := He.ma K (He.ga K "Form") "__rmul__"
theorem sc_Form_rmul : FnScope N_Form_rmul P_Form_rmul (defScope s_Form_rmul) := ⟨rfl, rfl, rfl, by decide +kernel, rfl, by decide +kernel, by decide +kernel⟩
abbrev N_Form_call : List Str := ["self", "values", "part", "number"]
abbrev P_Form_call : List Str := ["self", "values"]
abbrev a_Form_call (K : PySem.W.Frag) : Addr := He.ma K (He.ga K "Form") "__call__"
theorem sc_Form_call : FnScope N_Form_call P_Form_call (defScope s_Form_call) := ⟨rfl, rfl, rfl, by decide +kernel, rfl, by decide +kernel, by decide +kernel⟩
abbrev N_law_pool : List Str := ["script", "k", "cell", "big", "mixed"]
abbrev P_law_pool : List Str := ["script", "k"]
abbrev a_law_pool (K : PySem.W.Frag) : Addr := He.ga K "_law_pool"
theorem sc_law_pool : FnScope N_law_pool P_law_pool (defScope s_law_pool) := ⟨rfl, rfl, rfl, by decide +kernel, rfl, by decide +kernel, by decide +kernel⟩
abbrev N_law_take : List Str := ["pool", "bound", "result"]
abbrev P_law_take : List Str := ["pool", "bound"]
abbrev a_law_take (K : PySem.W.Frag) : Addr := He.ga K "_law_take"
theorem sc_law_take : FnScope N_law_take P_law_take (defScope s_law_take) := ⟨rfl, rfl, rfl, by decide +kernel, rfl, by decide +kernel, by decide +kernel⟩
abbrev N_law_number : List Str := ["pool", "most", "number", "turn"]
abbrev P_law_number : List Str := ["pool", "most"]
abbrev a_law_number (K : PySem.W.Frag) : Addr := He.ga K "_law_number"
theorem sc_law_number : FnScope N_law_number P_law_number (defScope s_law_number) := ⟨rfl, rfl, rfl, by decide +kernel, rfl, by decide +kernel, by decide +kernel⟩
abbrev N_law_is_form : List Str := ["form", "parts", "part"]
abbrev P_law_is_form : List Str := ["form", "parts"]
abbrev a_law_is_form (K : PySem.W.Frag) : Addr := He.ga K "_law_is_form"
theorem sc_law_is_form : FnScope N_law_is_form P_law_is_form (defScope s_law_is_form) := ⟨rfl, rfl, rfl, by decide +kernel, rfl, by decide +kernel, by decide +kernel⟩
abbrev N_law_item : List Str := ["form", "at", "e"]
abbrev P_law_item : List Str := ["form", "at"]
abbrev a_law_item (K : PySem.W.Frag) : Addr := He.ga K "_law_item"
theorem sc_law_item : FnScope N_law_item P_law_item (defScope s_law_item) := ⟨rfl, rfl, rfl, by decide +kernel, rfl, by decide +kernel, by decide +kernel⟩
abbrev N_law_right : List Str := ["form", "parts", "at", "part"]
abbrev P_law_right : List Str := ["form", "parts"]
abbrev a_law_right (K : PySem.W.Frag) : Addr := He.ga K "_law_right"
theorem sc_law_right : FnScope N_law_right P_law_right (defScope s_law_right) := ⟨rfl, rfl, rfl, by decide +kernel, rfl, by decide +kernel, by decide +kernel⟩
abbrev N_law : List Str := ["script", "k", "pool", "parts", "turn", "count", "handed", "form", "at", "turned", "bent", "part", "spot", "unit"]
abbrev P_law : List Str := ["script"]
abbrev a_law (K : PySem.W.Frag) : Addr := He.ga K "law"
theorem sc_law : FnScope N_law P_law (defScope s_law) := ⟨rfl, rfl, rfl, by decide +kernel, rfl, by decide +kernel, by decide +kernel⟩
/-! ### data of the defs -/
def d_BadLength_init : He5.DefA := ⟨fun K => a_BadLength_init K, "__init__", "BadLength.__init__", defArgs s_BadLength_init, defBody s_BadLength_init, defScope s_BadLength_init, [], []⟩
def d_NoIndex_init : He5.DefA := ⟨fun K => a_NoIndex_init K, "__init__", "NoIndex.__init__", defArgs s_NoIndex_init, defBody s_NoIndex_init, defScope s_NoIndex_init, [], []⟩
def d_Form_init : He5.DefA := ⟨fun K => a_Form_init K, "__init__", "Form.__init__", defArgs s_Form_init, defBody s_Form_init, defScope s_Form_init, [], []⟩
def d_Form_unit : He5.DefA := ⟨fun K => a_Form_unit K, "unit", "Form.unit", defArgs s_Form_unit, defBody s_Form_unit, defScope s_Form_unit, [], []⟩
def d_Form_zero : He5.DefA := ⟨fun K => a_Form_zero K, "zero", "Form.zero", defArgs s_Form_zero, defBody s_Form_zero, defScope s_Form_zero, [], []⟩
def d_Form_len : He5.DefA := ⟨fun K => a_Form_len K, "__len__", "Form.__len__", defArgs s_Form_len, defBody s_Form_len, defScope s_Form_len, [], []⟩
def d_Form_bool : He5.DefA := ⟨fun K => a_Form_bool K, "__bool__", "Form.__bool__", defArgs s_Form_bool, defBody s_Form_bool, defScope s_Form_bool, [], []⟩
def d_Form_iter : He5.DefA := ⟨fun K => a_Form_iter K, "__iter__", "Form.__iter__", defArgs s_Form_iter, defBody s_Form_iter, defScope s_Form_iter, [], []⟩
def d_Form_getitem : He5.DefA := ⟨fun K => a_Form_getitem K, "__getitem__", "Form.__getitem__", defArgs s_Form_getitem, defBody s_Form_getitem, defScope s_Form_getitem, [], []⟩
def d_Form_eq : He5.DefA := ⟨fun K => a_Form_eq K, "__eq__", "Form.__eq__", defArgs s_Form_eq, defBody s_Form_eq, defScope s_Form_eq, [], []⟩
def d_Form_add : He5.DefA := ⟨fun K => a_Form_add K, "__add__", "Form.__add__", defArgs s_Form_add, defBody s_Form_add, defScope s_Form_add, [], []⟩
def d_Form_sub : He5.DefA := ⟨fun K => a_Form_sub K, "__sub__", "Form.__sub__", defArgs s_Form_sub, defBody s_Form_sub, defScope s_Form_sub, [], []⟩
def d_Form_neg : He5.DefA := ⟨fun K => a_Form_neg K, "__neg__", "Form.__neg__", defArgs s_Form_neg, defBody s_Form_neg, defScope s_Form_neg, [], []⟩
def d_Form_mul : He5.DefA := ⟨fun K => a_Form_mul K, "__mul__", "Form.__mul__", defArgs s_Form_mul, defBody s_Form_mul, defScope s_Form_mul, [], []⟩
def d_Form_rmul : He5.DefA := ⟨fun K => a_Form_rmul K, "__rmul__", "Form.__rmul__", defArgs s_Form_rmul, defBody s_Form_rmul, defScope s_Form_rmul, [], []⟩
def d_Form_call : He5.DefA := ⟨fun K => a_Form_call K, "__call__", "Form.__call__", defArgs s_Form_call, defBody s_Form_call, defScope s_Form_call, [], []⟩
def d_law_pool : He5.DefA := ⟨fun K => a_law_pool K, "_law_pool", "_law_pool", defArgs s_law_pool, defBody s_law_pool, defScope s_law_pool, [], []⟩
def d_law_take : He5.DefA := ⟨fun K => a_law_take K, "_law_take", "_law_take", defArgs s_law_take, defBody s_law_take, defScope s_law_take, [], []⟩
def d_law_number : He5.DefA := ⟨fun K => a_law_number K, "_law_number", "_law_number", defArgs s_law_number, defBody s_law_number, defScope s_law_number, [], []⟩
def d_law_is_form : He5.DefA := ⟨fun K => a_law_is_form K, "_law_is_form", "_law_is_form", defArgs s_law_is_form, defBody s_law_is_form, defScope s_law_is_form, [], []⟩
def d_law_item : He5.DefA := ⟨fun K => a_law_item K, "_law_item", "_law_item", defArgs s_law_item, defBody s_law_item, defScope s_law_item, [], []⟩
def d_law_right : He5.DefA := ⟨fun K => a_law_right K, "_law_right", "_law_right", defArgs s_law_right, defBody s_law_right, defScope s_law_right, [], []⟩
def d_law : He5.DefA := ⟨fun K => a_law K, "law", "law", defArgs s_law, defBody s_law, defScope s_law, [], []⟩
def fn : List He5.DefA := [d_BadLength_init, d_NoIndex_init, d_Form_init, d_Form_unit, d_Form_zero, d_Form_len, d_Form_bool, d_Form_iter, d_Form_getitem, d_Form_eq, d_Form_add, d_Form_sub, d_Form_neg, d_Form_mul, d_Form_rmul, d_Form_call, d_law_pool, d_law_take, d_law_number, d_law_is_form, d_law_item, d_law_right, d_law]
def fb : List HeZ.Fb := [fun K => (He.Fa.glo "CascadeError").ok K,
  fun K => (He.Fa.glo "BadLength").ok K,
  fun K => (He.Fa.glo "NoIndex").ok K,
  fun K => (He.Fa.glo "Form").ok K,
  fun K => (He.Fa.glo "_law_pool").ok K,
  fun K => (He.Fa.glo "_law_take").ok K,
  fun K => (He.Fa.glo "_law_number").ok K,
  fun K => (He.Fa.glo "_law_is_form").ok K,
  fun K => (He.Fa.glo "_law_item").ok K,
  fun K => (He.Fa.glo "_law_right").ok K,
  fun K => (He.Fa.glo "law").ok K,
  fun K => (He.Fa.free "ValueError").ok K,
  fun K => (He.Fa.free "any").ok K,
  fun K => (He.Fa.free "bool").ok K,
  fun K => (He.Fa.free "int").ok K,
  fun K => (He.Fa.free "isinstance").ok K,
  fun K => (He.Fa.free "iter").ok K,
  fun K => (He.Fa.free "len").ok K,
  fun K => (He.Fa.free "list").ok K,
  fun K => (He.Fa.free "max").ok K,
  fun K => (He.Fa.free "min").ok K,
  fun K => (He.Fa.free "range").ok K,
  fun K => (He.Fa.free "staticmethod").ok K,
  fun K => (He.Fa.free "sum").ok K,
  fun K => (He.Fa.free "tuple").ok K,
  fun K => (He.Fa.free "zip").ok K,
  fun K => excB K (He.ga K "BadLength"),
  fun K => (He.Fa.noat "BadLength" "count").ok K,
  fun K => excB K (He.ga K "NoIndex"),
  fun K => (He.Fa.noat "NoIndex" "index").ok K,
  fun K => (He.Fa.cls "Form").ok K,
  fun K => (He.Fa.mkr "Form").ok K,
  fun K => isB K (He.ga K "Form"),
  fun K => creadB K (He.ga K "Form"),
  fun K => PySem.W.selfFirst K (He.ga K "Form"),
  fun K => PySem.W.noSeq K (He.ga K "Form"),
  fun K => kiB K (.ref (He.ga K "Form")) (.ref (He.ga K "Form")) true,
  fun K => (He.Fa.noat "Form" "parts").ok K,
  fun K => (He.Fa.meth "Form" "__init__").ok K,
  fun K => smB K (He.ga K "Form") "unit",
  fun K => smB K (He.ga K "Form") "zero",
  fun K => (He.Fa.meth "Form" "__len__").ok K,
  fun K => (He.Fa.meth "Form" "__bool__").ok K,
  fun K => (He.Fa.meth "Form" "__iter__").ok K,
  fun K => (He.Fa.meth "Form" "__getitem__").ok K,
  fun K => PySem.W.fnIn K (a_Form_getitem K),
  fun K => (He.Fa.meth "Form" "__eq__").ok K,
  fun K => (He.Fa.meth "Form" "__add__").ok K,
  fun K => (He.Fa.meth "Form" "__sub__").ok K,
  fun K => (He.Fa.meth "Form" "__neg__").ok K,
  fun K => (He.Fa.meth "Form" "__mul__").ok K,
  fun K => (He.Fa.meth "Form" "__rmul__").ok K,
  fun K => (He.Fa.meth "Form" "__call__").ok K,
  fun K => PySem.W.fnIn K (a_Form_call K),
  fun K => kiB K (.ref (He.ga K "NoIndex")) (.ref (He.ga K "BadLength")) false,
  fun K => kiB K (.ref (He.ga K "NoIndex")) (.ref (He.ga K "CascadeError")) true,
  fun K => kiB K (.ref (He.ga K "NoIndex")) (.type "ValueError") true,
  fun K => exmB K (.ref (He.ga K "NoIndex")) (.ref (He.ga K "NoIndex")) true]
def tf : List He.Defn := []
/-- what the top has left -/
structure Tx (K : PySem.W.Frag) (mg : Str → Option Value) : Prop where
  ex : ∃ h : Heap, K.In h ∧ h.Ns mainGlobals mg ∧ HeZ.SaysZ fb fn tf h K
section
variable {K : PySem.W.Frag} {mg : Str → Option Value} (T : Tx K mg)
include T
theorem Tx.g_CascadeError : mg "CascadeError" = some (.ref (He.ga K "CascadeError")) := by
  obtain ⟨h, X, G, c⟩ := T.ex
  exact He.glo_ok X G (c.fact 0)
theorem Tx.g_BadLength : mg "BadLength" = some (.ref (He.ga K "BadLength")) := by
  obtain ⟨h, X, G, c⟩ := T.ex
  exact He.glo_ok X G (c.fact 1)
theorem Tx.g_NoIndex : mg "NoIndex" = some (.ref (He.ga K "NoIndex")) := by
  obtain ⟨h, X, G, c⟩ := T.ex
  exact He.glo_ok X G (c.fact 2)
theorem Tx.g_Form : mg "Form" = some (.ref (He.ga K "Form")) := by
  obtain ⟨h, X, G, c⟩ := T.ex
  exact He.glo_ok X G (c.fact 3)
theorem Tx.g_law_pool : mg "_law_pool" = some (.ref (He.ga K "_law_pool")) := by
  obtain ⟨h, X, G, c⟩ := T.ex
  exact He.glo_ok X G (c.fact 4)
theorem Tx.g_law_take : mg "_law_take" = some (.ref (He.ga K "_law_take")) := by
  obtain ⟨h, X, G, c⟩ := T.ex
  exact He.glo_ok X G (c.fact 5)
theorem Tx.g_law_number : mg "_law_number" = some (.ref (He.ga K "_law_number")) := by
  obtain ⟨h, X, G, c⟩ := T.ex
  exact He.glo_ok X G (c.fact 6)
theorem Tx.g_law_is_form : mg "_law_is_form" = some (.ref (He.ga K "_law_is_form")) := by
  obtain ⟨h, X, G, c⟩ := T.ex
  exact He.glo_ok X G (c.fact 7)
theorem Tx.g_law_item : mg "_law_item" = some (.ref (He.ga K "_law_item")) := by
  obtain ⟨h, X, G, c⟩ := T.ex
  exact He.glo_ok X G (c.fact 8)
theorem Tx.g_law_right : mg "_law_right" = some (.ref (He.ga K "_law_right")) := by
  obtain ⟨h, X, G, c⟩ := T.ex
  exact He.glo_ok X G (c.fact 9)
theorem Tx.g_law : mg "law" = some (.ref (He.ga K "law")) := by
  obtain ⟨h, X, G, c⟩ := T.ex
  exact He.glo_ok X G (c.fact 10)
theorem Tx.f_ValueError : mg "ValueError" = none := by
  obtain ⟨h, X, G, c⟩ := T.ex
  exact He.free_ok X G (c.fact 11)
theorem Tx.f_any : mg "any" = none := by
  obtain ⟨h, X, G, c⟩ := T.ex
  exact He.free_ok X G (c.fact 12)
theorem Tx.f_bool : mg "bool" = none := by
  obtain ⟨h, X, G, c⟩ := T.ex
  exact He.free_ok X G (c.fact 13)
theorem Tx.f_int : mg "int" = none := by
  obtain ⟨h, X, G, c⟩ := T.ex
  exact He.free_ok X G (c.fact 14)
theorem Tx.f_isinstance : mg "isinstance" = none := by
  obtain ⟨h, X, G, c⟩ := T.ex
  exact He.free_ok X G (c.fact 15)
theorem Tx.f_iter : mg "iter" = none := by
  obtain ⟨h, X, G, c⟩ := T.ex
  exact He.free_ok X G (c.fact 16)
theorem Tx.f_len : mg "len" = none := by
  obtain ⟨h, X, G, c⟩ := T.ex
  exact He.free_ok X G (c.fact 17)
theorem Tx.f_list : mg "list" = none := by
  obtain ⟨h, X, G, c⟩ := T.ex
  exact He.free_ok X G (c.fact 18)
theorem Tx.f_max : mg "max" = none := by
  obtain ⟨h, X, G, c⟩ := T.ex
  exact He.free_ok X G (c.fact 19)
theorem Tx.f_min : mg "min" = none := by
  obtain ⟨h, X, G, c⟩ := T.ex
  exact He.free_ok X G (c.fact 20)
theorem Tx.f_range : mg "range" = none := by
  obtain ⟨h, X, G, c⟩ := T.ex
  exact He.free_ok X G (c.fact 21)
theorem Tx.f_staticmethod : mg "staticmethod" = none := by
  obtain ⟨h, X, G, c⟩ := T.ex
  exact He.free_ok X G (c.fact 22)
theorem Tx.f_sum : mg "sum" = none := by
  obtain ⟨h, X, G, c⟩ := T.ex
  exact He.free_ok X G (c.fact 23)
theorem Tx.f_tuple : mg "tuple" = none := by
  obtain ⟨h, X, G, c⟩ := T.ex
  exact He.free_ok X G (c.fact 24)
theorem Tx.f_zip : mg "zip" = none := by
  obtain ⟨h, X, G, c⟩ := T.ex
  exact He.free_ok X G (c.fact 25)
theorem Tx.x_BadLength : ExcK K (He.ga K "BadLength") := by
  obtain ⟨h, X, G, c⟩ := T.ex
  exact exc_ok (c.fact 26)
theorem Tx.n_BadLength_count : NoAttr K (He.ga K "BadLength") "count" := by
  obtain ⟨h, X, G, c⟩ := T.ex
  exact He.noat_ok (x := "BadLength") (c.fact 27)
theorem Tx.x_NoIndex : ExcK K (He.ga K "NoIndex") := by
  obtain ⟨h, X, G, c⟩ := T.ex
  exact exc_ok (c.fact 28)
theorem Tx.n_NoIndex_index : NoAttr K (He.ga K "NoIndex") "index" := by
  obtain ⟨h, X, G, c⟩ := T.ex
  exact He.noat_ok (x := "NoIndex") (c.fact 29)
theorem Tx.c_Form : Cls K (He.ga K "Form") := by
  obtain ⟨h, X, G, c⟩ := T.ex
  exact He.cls_ok (x := "Form") (c.fact 30)
theorem Tx.k_Form : Mk K (He.ga K "Form") (a_Form_init K) := by
  obtain ⟨h, X, G, c⟩ := T.ex
  exact He.mkr_ok (x := "Form") (c.fact 31)
theorem Tx.i_Form : IsC K (He.ga K "Form") := by
  obtain ⟨h, X, G, c⟩ := T.ex
  exact is_ok (c.fact 32)
theorem Tx.r_Form : ClX.CRead K (He.ga K "Form") (.type "type") := by
  obtain ⟨h, X, G, c⟩ := T.ex
  exact cread_ok (c.fact 33)
theorem Tx.sf_Form : PySem.W.selfFirst K (He.ga K "Form") = true := by
  obtain ⟨h, X, G, c⟩ := T.ex
  exact (c.fact 34)
theorem Tx.ns_Form : PySem.W.noSeq K (He.ga K "Form") = true := by
  obtain ⟨h, X, G, c⟩ := T.ex
  exact (c.fact 35)
theorem Tx.is_Form : PySem.W.kitOne K (.ref (He.ga K "Form")) (.ref (He.ga K "Form")) = some true := by
  obtain ⟨h, X, G, c⟩ := T.ex
  exact ki_ok (c.fact 36)
theorem Tx.n_Form_parts : NoAttr K (He.ga K "Form") "parts" := by
  obtain ⟨h, X, G, c⟩ := T.ex
  exact He.noat_ok (x := "Form") (c.fact 37)
theorem Tx.m_Form_init : Meth K (He.ga K "Form") "__init__" (a_Form_init K) := by
  obtain ⟨h, X, G, c⟩ := T.ex
  exact He.meth_ok (x := "Form") (c.fact 38)
theorem Tx.sm_Form_unit : SMet K (He.ga K "Form") (.type "type") "unit" (He.ma K (He.ga K "Form") "unit") (a_Form_unit K) := by
  obtain ⟨h, X, G, c⟩ := T.ex
  exact sm_ok (c.fact 39)
theorem Tx.sm_Form_zero : SMet K (He.ga K "Form") (.type "type") "zero" (He.ma K (He.ga K "Form") "zero") (a_Form_zero K) := by
  obtain ⟨h, X, G, c⟩ := T.ex
  exact sm_ok (c.fact 40)
theorem Tx.m_Form_len : Meth K (He.ga K "Form") "__len__" (a_Form_len K) := by
  obtain ⟨h, X, G, c⟩ := T.ex
  exact He.meth_ok (x := "Form") (c.fact 41)
theorem Tx.m_Form_bool : Meth K (He.ga K "Form") "__bool__" (a_Form_bool K) := by
  obtain ⟨h, X, G, c⟩ := T.ex
  exact He.meth_ok (x := "Form") (c.fact 42)
theorem Tx.m_Form_iter : Meth K (He.ga K "Form") "__iter__" (a_Form_iter K) := by
  obtain ⟨h, X, G, c⟩ := T.ex
  exact He.meth_ok (x := "Form") (c.fact 43)
theorem Tx.m_Form_getitem : Meth K (He.ga K "Form") "__getitem__" (a_Form_getitem K) := by
  obtain ⟨h, X, G, c⟩ := T.ex
  exact He.meth_ok (x := "Form") (c.fact 44)
theorem Tx.fi_Form_getitem : PySem.W.fnIn K (a_Form_getitem K) = true := by
  obtain ⟨h, X, G, c⟩ := T.ex
  exact (c.fact 45)
theorem Tx.m_Form_eq : Meth K (He.ga K "Form") "__eq__" (a_Form_eq K) := by
  obtain ⟨h, X, G, c⟩ := T.ex
  exact He.meth_ok (x := "Form") (c.fact 46)
theorem Tx.m_Form_add : Meth K (He.ga K "Form") "__add__" (a_Form_add K) := by
  obtain ⟨h, X, G, c⟩ := T.ex
  exact He.meth_ok (x := "Form") (c.fact 47)
theorem Tx.m_Form_sub : Meth K (He.ga K "Form") "__sub__" (a_Form_sub K) := by
  obtain ⟨h, X, G, c⟩ := T.ex
  exact He.meth_ok (x := "Form") (c.fact 48)
theorem Tx.m_Form_neg : Meth K (He.ga K "Form") "__neg__" (a_Form_neg K) := by
  obtain ⟨h, X, G, c⟩ := T.ex
  exact He.meth_ok (x := "Form") (c.fact 49)
theorem Tx.m_Form_mul : Meth K (He.ga K "Form") "__mul__" (a_Form_mul K) := by
  obtain ⟨h, X, G, c⟩ := T.ex
  exact He.meth_ok (x := "Form") (c.fact 50)
theorem Tx.m_Form_rmul : Meth K (He.ga K "Form") "__rmul__" (a_Form_rmul K) := by
  obtain ⟨h, X, G, c⟩ := T.ex
  exact He.meth_ok (x := "Form") (c.fact 51)
theorem Tx.m_Form_call : Meth K (He.ga K "Form") "__call__" (a_Form_call K) := by
  obtain ⟨h, X, G, c⟩ := T.ex
  exact He.meth_ok (x := "Form") (c.fact 52)
theorem Tx.fi_Form_call : PySem.W.fnIn K (a_Form_call K) = true := by
  obtain ⟨h, X, G, c⟩ := T.ex
  exact (c.fact 53)
theorem Tx.is_NoIndex_BadLength : PySem.W.kitOne K (.ref (He.ga K "NoIndex")) (.ref (He.ga K "BadLength")) = some false := by
  obtain ⟨h, X, G, c⟩ := T.ex
  exact ki_ok (c.fact 54)
theorem Tx.is_NoIndex_CascadeError : PySem.W.kitOne K (.ref (He.ga K "NoIndex")) (.ref (He.ga K "CascadeError")) = some true := by
  obtain ⟨h, X, G, c⟩ := T.ex
  exact ki_ok (c.fact 55)
theorem Tx.is_NoIndex_ValueError : PySem.W.kitOne K (.ref (He.ga K "NoIndex")) (.type "ValueError") = some true := by
  obtain ⟨h, X, G, c⟩ := T.ex
  exact ki_ok (c.fact 56)
theorem Tx.ex_NoIndex_NoIndex : PySem.W.exmOne K (.ref (He.ga K "NoIndex")) (.ref (He.ga K "NoIndex")) = some true := by
  obtain ⟨h, X, G, c⟩ := T.ex
  exact exm_ok (c.fact 57)
theorem Tx.d_BadLength_init : ∃ fd, FunD K "__init__" "BadLength.__init__" (defArgs s_BadLength_init) (defBody s_BadLength_init) (defScope s_BadLength_init) [] [] (a_BadLength_init K) fd := by
  obtain ⟨h, X, G, c⟩ := T.ex
  exact c.def_ 0
theorem Tx.d_NoIndex_init : ∃ fd, FunD K "__init__" "NoIndex.__init__" (defArgs s_NoIndex_init) (defBody s_NoIndex_init) (defScope s_NoIndex_init) [] [] (a_NoIndex_init K) fd := by
  obtain ⟨h, X, G, c⟩ := T.ex
  exact c.def_ 1
theorem Tx.d_Form_init : ∃ fd, FunD K "__init__" "Form.__init__" (defArgs s_Form_init) (defBody s_Form_init) (defScope s_Form_init) [] [] (a_Form_init K) fd := by
  obtain ⟨h, X, G, c⟩ := T.ex
  exact c.def_ 2
theorem Tx.d_Form_unit : ∃ fd, FunD K "unit" "Form.unit" (defArgs s_Form_unit) (defBody s_Form_unit) (defScope s_Form_unit) [] [] (a_Form_unit K) fd := by
  obtain ⟨h, X, G, c⟩ := T.ex
  exact c.def_ 3
theorem Tx.d_Form_zero : ∃ fd, FunD K "zero" "Form.zero" (defArgs s_Form_zero) (defBody s_Form_zero) (defScope s_Form_zero) [] [] (a_Form_zero K) fd := by
  obtain ⟨h, X, G, c⟩ := T.ex
  exact c.def_ 4
theorem Tx.d_Form_len : ∃ fd, FunD K "__len__" "Form.__len__" (defArgs s_Form_len) (defBody s_Form_len) (defScope s_Form_len) [] [] (a_Form_len K) fd := by
  obtain ⟨h, X, G, c⟩ := T.ex
  exact c.def_ 5
theorem Tx.d_Form_bool : ∃ fd, FunD K "__bool__" "Form.__bool__" (defArgs s_Form_bool) (defBody s_Form_bool) (defScope s_Form_bool) [] [] (a_Form_bool K) fd := by
  obtain ⟨h, X, G, c⟩ := T.ex
  exact c.def_ 6
theorem Tx.d_Form_iter : ∃ fd, FunD K "__iter__" "Form.__iter__" (defArgs s_Form_iter) (defBody s_Form_iter) (defScope s_Form_iter) [] [] (a_Form_iter K) fd := by
  obtain ⟨h, X, G, c⟩ := T.ex
  exact c.def_ 7
theorem Tx.d_Form_getitem : ∃ fd, FunD K "__getitem__" "Form.__getitem__" (defArgs s_Form_getitem) (defBody s_Form_getitem) (defScope s_Form_getitem) [] [] (a_Form_getitem K) fd := by
  obtain ⟨h, X, G, c⟩ := T.ex
  exact c.def_ 8
theorem Tx.d_Form_eq : ∃ fd, FunD K "__eq__" "Form.__eq__" (defArgs s_Form_eq) (defBody s_Form_eq) (defScope s_Form_eq) [] [] (a_Form_eq K) fd := by
  obtain ⟨h, X, G, c⟩ := T.ex
  exact c.def_ 9
theorem Tx.d_Form_add : ∃ fd, FunD K "__add__" "Form.__add__" (defArgs s_Form_add) (defBody s_Form_add) (defScope s_Form_add) [] [] (a_Form_add K) fd := by
  obtain ⟨h, X, G, c⟩ := T.ex
  exact c.def_ 10
theorem Tx.d_Form_sub : ∃ fd, FunD K "__sub__" "Form.__sub__" (defArgs s_Form_sub) (defBody s_Form_sub) (defScope s_Form_sub) [] [] (a_Form_sub K) fd := by
  obtain ⟨h, X, G, c⟩ := T.ex
  exact c.def_ 11
theorem Tx.d_Form_neg : ∃ fd, FunD K "__neg__" "Form.__neg__" (defArgs s_Form_neg) (defBody s_Form_neg) (defScope s_Form_neg) [] [] (a_Form_neg K) fd := by
  obtain ⟨h, X, G, c⟩ := T.ex
  exact c.def_ 12
theorem Tx.d_Form_mul : ∃ fd, FunD K "__mul__" "Form.__mul__" (defArgs s_Form_mul) (defBody s_Form_mul) (defScope s_Form_mul) [] [] (a_Form_mul K) fd := by
  obtain ⟨h, X, G, c⟩ := T.ex
  exact c.def_ 13
theorem Tx.d_Form_rmul : ∃ fd, FunD K "__rmul__" "Form.__rmul__" (defArgs s_Form_rmul) (defBody s_Form_rmul) (defScope s_Form_rmul) [] [] (a_Form_rmul K) fd := by
  obtain ⟨h, X, G, c⟩ := T.ex
  exact c.def_ 14
theorem Tx.d_Form_call : ∃ fd, FunD K "__call__" "Form.__call__" (defArgs s_Form_call) (defBody s_Form_call) (defScope s_Form_call) [] [] (a_Form_call K) fd := by
  obtain ⟨h, X, G, c⟩ := T.ex
  exact c.def_ 15
theorem Tx.d_law_pool : ∃ fd, FunD K "_law_pool" "_law_pool" (defArgs s_law_pool) (defBody s_law_pool) (defScope s_law_pool) [] [] (a_law_pool K) fd := by
  obtain ⟨h, X, G, c⟩ := T.ex
  exact c.def_ 16
theorem Tx.d_law_take : ∃ fd, FunD K "_law_take" "_law_take" (defArgs s_law_take) (defBody s_law_take) (defScope s_law_take) [] [] (a_law_take K) fd := by
  obtain ⟨h, X, G, c⟩ := T.ex
  exact c.def_ 17
theorem Tx.d_law_number : ∃ fd, FunD K "_law_number" "_law_number" (defArgs s_law_number) (defBody s_law_number) (defScope s_law_number) [] [] (a_law_number K) fd := by
  obtain ⟨h, X, G, c⟩ := T.ex
  exact c.def_ 18
theorem Tx.d_law_is_form : ∃ fd, FunD K "_law_is_form" "_law_is_form" (defArgs s_law_is_form) (defBody s_law_is_form) (defScope s_law_is_form) [] [] (a_law_is_form K) fd := by
  obtain ⟨h, X, G, c⟩ := T.ex
  exact c.def_ 19
theorem Tx.d_law_item : ∃ fd, FunD K "_law_item" "_law_item" (defArgs s_law_item) (defBody s_law_item) (defScope s_law_item) [] [] (a_law_item K) fd := by
  obtain ⟨h, X, G, c⟩ := T.ex
  exact c.def_ 20
theorem Tx.d_law_right : ∃ fd, FunD K "_law_right" "_law_right" (defArgs s_law_right) (defBody s_law_right) (defScope s_law_right) [] [] (a_law_right K) fd := by
  obtain ⟨h, X, G, c⟩ := T.ex
  exact c.def_ 21
theorem Tx.d_law : ∃ fd, FunD K "law" "law" (defArgs s_law) (defBody s_law) (defScope s_law) [] [] (a_law K) fd := by
  obtain ⟨h, X, G, c⟩ := T.ex
  exact c.def_ 22
end
def names : List Str := ["_wall", "CascadeError", "BadLength", "NoIndex", "Form", "_law_pool", "_law_take", "_law_number", "_law_is_form", "_law_item", "_law_right"]
abbrev lawAt : Nat := 14
end Lv

set_option Elab.async false
set_option linter.all false
set_option maxRecDepth 100000
set_option maxHeartbeats 0
/-! The law's own draws: the pool, a draw, a number. -/
namespace Lv
open PySem PySem.Spec PyProof.Rows L2 OwX
local macro_rules | `(tactic| walk_at "side") => `(tactic| first
  | exact (show CMul _ _ from .inl ⟨by decide, by decide⟩) | exact (show CMul _ _ from .inr ⟨by decide, by decide⟩) | exact (show CMul _ _ from .inl ⟨by omega, by omega⟩) | exact (show CMul _ _ from .inr ⟨by omega, by omega⟩)
  | exact (show CPow _ _ from ⟨by decide, by decide, by decide⟩)
  | exact (show CDiv _ _ from ⟨by decide, by decide⟩) | exact (show CDiv _ _ from ⟨by omega, by omega⟩)
  | exact (show (0 : Int) < _ by decide) | exact (show (0 : Int) < _ by omega) | exact (show ¬ (_ : Int) = 0 by decide) | exact (show ¬ (_ : Int) = 0 by omega) | assumption)
local macro_rules | `(tactic| walk_at "hp") => `(tactic| first
  | assumption | exact upd_same
  | (refine' SqL.of ?h1; (case h1 => walk_at "hp")) | (refine' SqT.of ?h1; (case h1 => walk_at "hp"))
  | (refine' Rd.new_app ?h1 ?h2; (case h1 => assumption); (case h2 => walk_at "hp"))
  | (refine' Rd.upd_app ?h1 ?h2; (case h1 => first | assumption | exact Ne.symm (by assumption)); (case h2 => walk_at "hp"))
  | (refine' Rd.ext_app ?h1 ?h2; (case h1 => assumption); (case h2 => walk_at "hp"))
  | (refine' Rd.ext_L ?h1 ?h2; (case h1 => assumption); (case h2 => walk_at "hp"))
  | (refine' Rd.ext_T ?h1 ?h2; (case h1 => assumption); (case h2 => walk_at "hp")))
local macro_rules | `(tactic| walk_at "go") => `(tactic| repeat (first
  | with_reducible refine Rd.con ?_
  | ((with_reducible refine' Rd.var ?h1 ?_); (case h1 => rfl))
  | with_reducible refine Rd.op ?_
  | with_reducible refine Rd.un ?_
  | with_reducible refine Rd.i0 ?_
  | with_reducible refine Rd.iu ?_
  | ((with_reducible refine Rd.iC ?h1 ?_); (case h1 => walk_at "side"))
  | with_reducible refine Rd.nil ?_
  | with_reducible refine Rd.cons ?_
  | with_reducible refine Rd.cb ?_
  | with_reducible refine Rd.int1 ?_
  | with_reducible refine Rd.intB ?_
  | with_reducible refine Rd.maxI ?_
  | with_reducible refine Rd.minI ?_
  | with_reducible refine Rd.blx ?_
  | with_reducible refine Rd.tst ?_
  | with_reducible refine Rd.tb_ ?_
  | with_reducible refine Rd.not_ ?_
  | with_reducible refine Rd.and_ ?_
  | with_reducible refine Rd.or_ ?_
  | with_reducible refine Rd.ifx ?_
  | with_reducible refine Rd.chain ?_
  | with_reducible refine Rd.andV ?_
  | with_reducible refine Rd.orV ?_
  | with_reducible refine Rd.notV ?_
  | with_reducible refine Rd.seq ?_
  | with_reducible refine Rd.asg ?_
  | with_reducible refine Rd.name ?_
  | with_reducible refine Rd.ret ?_
  | with_reducible refine Rd.ifS ?_
  | with_reducible refine Rd.next ?_
  | with_reducible refine Rd.drop ?_
  | with_reducible refine Rd.gsub ?_
  | with_reducible refine Rd.cr ?_
  | with_reducible refine Rd.crX ?_
  | with_reducible refine Rd.ixOS ?_
  | ((with_reducible refine' Rd.xfv ?h1 ?h2 ?h3 ?_); (case h1 => walk_at "hp"); (case h2 => rfl); (case h3 => rfl))
  | ((with_reducible refine' Rd.bmLv ?h1 ?h2 ?_); (case h1 => rfl); (case h2 => walk_at "hp"))
  | ((with_reducible refine' Rd.countL ?h1 ?_); (case h1 => walk_at "hp"))
  | ((with_reducible refine' Rd.sumL ?h1 ?_); (case h1 => walk_at "hp"))
  | ((with_reducible refine' Rd.listL ?h1 ?_); (case h1 => walk_at "hp"))
  | ((with_reducible refine' Rd.listT ?h1 ?_); (case h1 => walk_at "hp"))
  | with_reducible refine Rd.isB ?_
  | with_reducible refine Rd.notBtt ?_
  | with_reducible refine Rd.notBff ?_
  | with_reducible refine Rd.notBtf ?_
  | with_reducible refine Rd.notBft ?_
  | with_reducible refine Rd.notB ?_
  | with_reducible refine Rd.smeth ?_
  | with_reducible refine Rd.sl ?_
  | with_reducible refine Rd.po0 ?_
  | with_reducible refine Rd.poI ?_
  | with_reducible refine Rd.ixi ?_
  | with_reducible refine Rd.par ?_
  | with_reducible refine Rd.par2 ?_
  | with_reducible refine Rd.mk ?_
  | with_reducible refine Rd.mkX ?_
  | with_reducible refine Rd.lcT ?_
  | with_reducible refine Rd.lcL ?_
  | with_reducible refine Rd.lcR ?_
  | with_reducible refine Rd.forT ?_
  | with_reducible refine Rd.forL ?_
  | with_reducible refine Rd.forR ?_
  | with_reducible refine Rd.yes ?_
  | with_reducible refine iteT ?_
  | with_reducible refine iteF ?_
  | with_reducible refine Rd.iteNT ?_
  | with_reducible refine Rd.iteNF ?_
  | with_reducible refine Rd.tup ?_
  | with_reducible refine Rd.lst ?_
  | ((with_reducible refine Rd.eqs ?h1 ?_); (case h1 => rfl))
  | ((with_reducible refine Rd.nes ?h1 ?_); (case h1 => rfl))
  | ((with_reducible refine' Rd.ixL ?h1 ?h2 ?_); (case h1 => walk_at "hp"); (case h2 => first | rfl | assumption))
  | ((with_reducible refine' Rd.ixT ?h1 ?h2 ?_); (case h1 => walk_at "hp"); (case h2 => first | rfl | assumption))
  | ((with_reducible refine' Rd.lenL ?h1 ?_); (case h1 => walk_at "hp"))
  | ((with_reducible refine' Rd.lenT ?h1 ?_); (case h1 => walk_at "hp"))
  | ((with_reducible refine' Rd.setL ?h1 ?h2 ?_); (case h1 => walk_at "hp"); (case h2 => first | rfl | assumption))))
/-- the pool's two numbers -/
structure PoolOk (x y : Int) : Prop where
  x0 : 0 ≤ x
  xm : x.natAbs < 2 ^ 1048577
  y0 : 0 ≤ y
  ym : y < 2147483647
theorem natAbs_ediv_lt {x b : Int} {n : Nat} (hx : 0 ≤ x) (hb : 0 < b) (h : x.natAbs < n) : (x / b).natAbs < n := by
  have h1 : 0 ≤ x / b := Int.ediv_nonneg hx (by omega)
  have h2 : x / b ≤ x := Int.ediv_le_self b hx
  omega
theorem small_div {i b : Int} (h0 : 0 < b) (h : b < 2 ^ 200) : CDivW i b := wide_div h0 (b := 200) (by omega) (by decide) (by decide)
theorem fmod_in {x b : Int} (h : 0 < b) : 0 ≤ x.fmod b ∧ x.fmod b < b := by
  rw [Int.fmod_eq_emod_of_nonneg _ (by omega)]
  exact ⟨Int.emod_nonneg _ (by omega), Int.emod_lt_of_pos _ h⟩
theorem nat_bits {z : Int} {m : Nat} (h : Builtin.Int.intBits z ≤ m) : z.natAbs < 2 ^ m := by
  unfold Builtin.Int.intBits at h
  by_cases e : z.natAbs = 0
  · rw [e]; exact Nat.pow_pos (by decide)
  · split at h
    · rename_i q
      exact absurd (by simpa using q) e
    · exact Nat.lt_of_lt_of_le Nat.lt_log2_self (Nat.pow_le_pow_right (by decide) h)
theorem big_ok {z : Int} (h : z.natAbs < 2 ^ 1048576) : 0 ≤ (if (-1 - z) > z then (-1 - z) else z) ∧ (if (-1 - z) > z then (-1 - z) else z).natAbs < 2 ^ 1048577 := by
  have e : (2 : Nat) ^ 1048577 = 2 ^ 1048576 * 2 := Nat.pow_succ 2 1048576
  rw [e]
  generalize (2 : Nat) ^ 1048576 = m at h
  by_cases c : (-1 - z) > z
  · rw [if_pos c]; omega
  · rw [if_neg c]; omega
section
variable {base : Heap} {P : Program} {w : World} {mg : Str → Option Value} {K : PySem.W.Frag}
/-! ### _law_take -/
def sp_take : Sp := fun vs H Q _ => ∃ (p : Addr) (b x y : Int), vs = [.ref p, .int b] ∧ H p = some (.lst [.int x, .int y]) ∧ PoolOk x y ∧ 0 < b ∧ b < 2 ^ 200 ∧
  ∀ r x' y', PoolOk x' y' → 0 ≤ r → r < b → Q (.int r) (upd H p (.lst [.int x', .int y']))
theorem ok_take (T : Tx K mg) : FnR P w K mg base (L2.CX P w) 1 (a_law_take K) sp_take := by
  refine fnr T.d_law_take sc_law_take (fun _ _ _ _ _ _ us hl => match us, hl with | [_, _], _ => rfl) (fun vs H Q E h => ?_) (fun cdv A outer s H vs Q E hr h => ?_)
  · obtain ⟨p, b, x, y, rfl, _⟩ := h
    rfl
  · obtain ⟨p, b, x, y, rfl, hp, ok, h0, hb, k⟩ := h
    refine ⟨_, pss_cons (ps_if (pt_cmpR op_gt (pe_ix ix_list (pv 0) pe_int (fun _ _ => rfl)) pe_int (nomark _))
        (pss_cons (ps_set (i := 2) sc_law_take.nd rfl (Or.inl rfl) (pe_op op_modN (pe_callTy Rd.c_int (by rfl) T.f_int boot_int (pa_cons (pe_ix ix_list (pv 0) pe_int (fun _ _ => rfl)) pa_nil)) (pv 1)))
        (pss_cons (ps_asg (pe_op op_fdivW (pe_ix ix_list (pv 0) pe_int (fun _ _ => rfl)) (pv 1)) (pg_sub (pv 0) pe_int set_list))
        (pss_one (ps_ret (pv 2))))) pss_nil)
      (pss_cons (ps_asg (pe_op op_mod (pe_callTy Rd.c_int (by rfl) T.f_int boot_int (pa_cons (pe_op op_add (pe_op op_mul (pe_ix ix_list (pv 0) pe_int (fun _ _ => rfl)) pe_int) pe_int) pa_nil)) pe_int) (pg_sub (pv 0) pe_int set_list))
      (pss_one (ps_ret (pe_op op_modN (pe_callTy Rd.c_int (by rfl) T.f_int boot_int (pa_cons (pe_op op_fdiv (pe_op op_mod (pe_callTy Rd.c_int (by rfl) T.f_int boot_int (pa_cons (pe_op op_mul (pe_ix ix_list (pv 0) pe_int (fun _ _ => rfl)) (pe_ix ix_list (pv 0) pe_int (fun _ _ => rfl))) pa_nil)) pe_int) pe_int) pa_nil)) (pv 1))))), ?_⟩
    have y0 := ok.y0
    have ym := ok.ym
    have sd : ∀ i, CDivW i b := fun i => small_div h0 hb
    walk_at "go"
    refine Rd.ited (fun hx => ?_) (fun hx => ?_)
    · walk_at "go"
      refine Rd.iC (sd _) ?_
      walk_at "go"
      exact k _ _ _ ⟨Int.ediv_nonneg ok.x0 (by omega), natAbs_ediv_lt ok.x0 h0 ok.xm, ok.y0, ok.ym⟩ (fmod_in h0).1 (fmod_in h0).2
    · have z0 : 0 ≤ (y * 39373 + 7) % 2147483647 := Int.emod_nonneg _ (by decide)
      have z1 : (y * 39373 + 7) % 2147483647 < 2147483647 := Int.emod_lt_of_pos _ (by decide)
      walk_at "go"
      exact k _ _ _ ⟨ok.x0, ok.xm, z0, z1⟩ (fmod_in h0).1 (fmod_in h0).2
/-! ### _law_pool -/
def sp_pool (K : PySem.W.Frag) : Sp := fun vs H Q _ => ∃ (a : Addr) (ns : List Int) (k : Nat), vs = [.ref a, .int k] ∧ SqL K H a (ns.map V.int) ∧ ns.length ≤ 63 ∧ k < 63 ∧ (∀ z ∈ ns, Builtin.Int.intBits z ≤ 1048576) ∧
  ∀ p x y, PoolOk x y → H p = none → Q (.ref p) (upd H p (.lst [.int x, .int y]))
theorem ok_pool (T : Tx K mg) : FnR P w K mg base (L2.CX P w) 1 (a_law_pool K) (sp_pool K) := by
  refine fnr T.d_law_pool sc_law_pool (fun _ _ _ _ _ _ us hl => match us, hl with | [_, _], _ => rfl) (fun vs H Q E h => ?_) (fun cdv A outer s H vs Q E hr h => ?_)
  · obtain ⟨a, ns, k, rfl, _⟩ := h
    rfl
  · obtain ⟨a, ns, j, rfl, hS, hn, hj, hb, kk⟩ := h
    refine ⟨_, pss_cons (ps_set (i := 2) sc_law_pool.nd rfl (Or.inl rfl) pe_int)
      (C8.pss_cut (ps_if (pt_cmpR op_lt (pv 1) (pe_callB (Rd.c_len (K := K)) (by rfl) T.f_len boot_len (pa_cons (pv 0) pa_nil)) (nomark _))
        (pss_one (ps_set (i := 2) sc_law_pool.nd rfl (Or.inl rfl) (pe_ix ix_list (pv 0) (pv 1) (fun _ _ => rfl)))) pss_nil)
      (pss_cons (ps_set (i := 3) sc_law_pool.nd rfl (Or.inl rfl) (pe_callB (Rd.c_max rfl) (by rfl) T.f_max Rd.bt_max (pa_cons (pe_callTy Rd.c_int (by rfl) T.f_int boot_int (pa_cons (pv 2) pa_nil))
          (pa_cons (pe_callTy Rd.c_int (by rfl) T.f_int boot_int (pa_cons (pe_op op_sub (pe_un un_neg pe_int) (pv 2)) pa_nil)) pa_nil))))
      (pss_cons (ps_set (i := 4) sc_law_pool.nd rfl (Or.inl rfl) (pe_op op_mod (pe_callTy Rd.c_int (by rfl) T.f_int boot_int (pa_cons (pe_op op_mul (pe_op op_add (pe_op op_add (pe_op op_add (pe_op op_mod (pe_callTy Rd.c_int (by rfl) T.f_int boot_int (pa_cons (pv 3) pa_nil)) pe_int)
          (pe_op op_mul (pe_op op_mul pe_int (pv 1)) (pv 1))) (pe_op op_mul pe_int (pv 1))) pe_int) pe_int) pa_nil)) pe_int))
      (pss_one (ps_ret (pe_lst (pa_cons (pe_op op_mul (pv 3) (pe_callTy Rd.c_int (by rfl) T.f_int boot_int (pa_cons (pe_cmpR op_ge (pv 3) (pe_op op_pow pe_int pe_int) (nomark _)) pa_nil))) (pa_cons (pv 4) pa_nil)))))))), ?_⟩
    walk_at "go"
    refine ⟨fun σ H' => H' = H ∧ ∃ z : Int, z.natAbs < 2 ^ 1048576 ∧ σ = [some (V.ref a), some (V.int j), some (V.int z), none, none], ?_, ?_⟩
    · walk_at "go"
      refine Rd.ited (fun c => ?_) (fun c => ?_)
      · rw [List.length_map] at c
        have hl : j < ns.length := by omega
        have hat : atI (ns.map V.int) (j : Int) = some (V.int ns[j]) := Rd.nat_at rfl (by rw [List.getElem?_map, List.getElem?_eq_getElem hl]; rfl)
        walk_at "go"
        exact ⟨rfl, _, nat_bits (hb _ (List.getElem_mem hl)), rfl⟩
      · exact ⟨rfl, 0, Nat.pow_pos (by decide), rfl⟩
    · rintro σ H' ⟨rfl, z, hz, rfl⟩
      have hz2 := big_ok hz
      have j0 : (j : Int) < 63 := by omega
      walk_at "go"
      generalize (if -1 - z > z then -1 - z else z) = g at hz2
      have y0 := Int.emod_nonneg ((g % 2147483629 + 6871 * (j : Int) * (j : Int) + 29 * (j : Int) + 13) * 48271) (show (2147483647 : Int) ≠ 0 by decide)
      have y1 := Int.emod_lt_of_pos ((g % 2147483629 + 6871 * (j : Int) * (j : Int) + 29 * (j : Int) + 13) * 48271) (show (0 : Int) < 2147483647 by decide)
      refine ⟨Rd.szr rfl, fun p hp => kk p _ _ ⟨?_, ?_, y0, y1⟩ hp⟩
      · exact Int.mul_nonneg hz2.1 (by split <;> decide)
      · rw [Int.natAbs_mul]
        refine Nat.lt_of_le_of_lt ?_ hz2.2
        have : (if decide ((10 : Int) ^ (18 : Int).toNat ≤ g) = true then (1 : Int) else 0).natAbs ≤ 1 := by split <;> decide
        exact Nat.le_trans (Nat.mul_le_mul_left _ this) (by omega)
/-! ### _law_number -/
def sp_number : Sp := fun vs H Q _ => ∃ (p : Addr) (m x y : Int), vs = [.ref p, .int m] ∧ H p = some (.lst [.int x, .int y]) ∧ PoolOk x y ∧ 3 ≤ m ∧ m < 2 ^ 100 ∧
  ∀ n x' y', PoolOk x' y' → -m ≤ n → n ≤ m → Q (.int n) (upd H p (.lst [.int x', .int y']))
theorem ok_number (T : Tx K mg) : FnR P w K mg base (L2.CX P w) 2 (a_law_number K) sp_number := by
  refine fnr T.d_law_number sc_law_number (fun _ _ _ _ _ _ us hl => match us, hl with | [_, _], _ => rfl) (fun vs H Q E h => ?_) (fun cdv A outer s H vs Q E hr h => ?_)
  · obtain ⟨p, m, x, y, rfl, _⟩ := h
    rfl
  · obtain ⟨p, m, x, y, rfl, hp, ok, h0, hm, k⟩ := h
    have tk := kp_of T.d_law_take
    refine ⟨_, pss_cons (ps_if (pt_cmpR op_gt (pe_cr (ok_take T) hr tk rfl T.g_law_take (pa_cons (pv 0) (pa_cons pe_int pa_nil))) pe_int (nomark _))
        (pss_one (ps_ret (pe_op op_sub (pe_cr (ok_take T) hr tk rfl T.g_law_take (pa_cons (pv 0) (pa_cons pe_int pa_nil))) pe_int))) pss_nil)
      (pss_cons (ps_set (i := 2) sc_law_number.nd rfl (Or.inl rfl) pe_int)
      (pss_cons (ps_for (passes_of rfl) rfl (pi_range1 rfl T.f_range (pa_cons pe_int pa_nil)) (pg_name (i := 3) sc_law_number.nd rfl (Or.inl rfl))
        (pss_one (ps_set (i := 2) sc_law_number.nd rfl (Or.inl rfl) (pe_op op_add (pe_op op_mul (pv 2) (pe_op op_pow pe_int pe_int)) (pe_cr (ok_take T) hr tk rfl T.g_law_take (pa_cons (pv 0) (pa_cons (pe_op op_pow pe_int pe_int) pa_nil)))))))
      (pss_one (ps_ret (pe_op op_sub (pe_op op_modN (pe_callTy Rd.c_int (by rfl) T.f_int boot_int (pa_cons (pv 2) pa_nil)) (pe_op op_add (pe_op op_mul pe_int (pv 1)) pe_int)) (pv 1)))))), ?_⟩
    walk_at "go"
    refine ⟨p, 4, x, y, rfl, hp, ok, by decide, by decide, fun r x1 y1 ok1 r0 r1 => ?_⟩
    walk_at "go"
    refine Rd.ited (fun c => ?_) (fun c => ?_)
    · walk_at "go"
      refine ⟨p, 7, x1, y1, rfl, upd_same, ok1, by decide, by decide, fun r x2 y2 ok2 r0 r1 => ?_⟩
      walk_at "go"
      rw [upd_upd]
      exact k _ _ _ ok2 (by omega) (by omega)
    · walk_at "go"
      refine ⟨_, rfl, by decide, by decide, for_range (lo := 0) (n := 5) (fun i σ H' => ∃ (z x y : Int) (v : Option V), σ = [some (.ref p), some (.int m), some (.int z), v] ∧ PoolOk x y ∧ H' = upd H p (.lst [.int x, .int y])) ⟨0, x1, y1, none, rfl, ok1, rfl⟩ ?_ ?_⟩
      · rintro i σ H' hi ⟨z, x, y, v, rfl, ok, rfl⟩
        walk_at "go"
        refine ⟨p, _, x, y, rfl, upd_same, ok, by decide, by decide, fun r x2 y2 ok2 r0 r1 => ?_⟩
        walk_at "go"
        exact ⟨_, x2, y2, _, rfl, ok2, by rw [upd_upd]⟩
      · rintro σ H' ⟨z, x, y, v, rfl, ok, rfl⟩
        walk_at "go"
        have e := fmod_in (x := z) (b := 2 * m + 1) (by omega)
        exact k _ _ _ ok (by omega) (by omega)
end
end Lv

set_option Elab.async false
set_option linter.all false
set_option maxRecDepth 100000
set_option maxHeartbeats 0
/-! Forms: the class, its errors. -/
namespace Lv
open PySem PySem.Spec PyProof.Rows L2 OwX
local macro_rules | `(tactic| walk_at "side") => `(tactic| first
  | exact (show CMul _ _ from .inl ⟨by decide, by decide⟩) | exact (show CMul _ _ from .inr ⟨by decide, by decide⟩) | exact (show CMul _ _ from .inl ⟨by omega, by omega⟩) | exact (show CMul _ _ from .inr ⟨by omega, by omega⟩)
  | exact (show CPow _ _ from ⟨by decide, by decide, by decide⟩)
  | exact (show CDiv _ _ from ⟨by decide, by decide⟩) | exact (show CDiv _ _ from ⟨by omega, by omega⟩)
  | exact (show (0 : Int) < _ by decide) | exact (show (0 : Int) < _ by omega) | exact (show ¬ (_ : Int) = 0 by decide) | exact (show ¬ (_ : Int) = 0 by omega) | assumption)
local macro_rules | `(tactic| walk_at "hp") => `(tactic| first
  | assumption | exact upd_same
  | (refine' SqL.of ?h1; (case h1 => walk_at "hp")) | (refine' SqT.of ?h1; (case h1 => walk_at "hp"))
  | (refine' Rd.new_app ?h1 ?h2; (case h1 => assumption); (case h2 => walk_at "hp"))
  | (refine' Rd.upd_app ?h1 ?h2; (case h1 => first | assumption | exact Ne.symm (by assumption)); (case h2 => walk_at "hp"))
  | (refine' Rd.ext_app ?h1 ?h2; (case h1 => assumption); (case h2 => walk_at "hp"))
  | (refine' Rd.ext_L ?h1 ?h2; (case h1 => assumption); (case h2 => walk_at "hp"))
  | (refine' Rd.ext_T ?h1 ?h2; (case h1 => assumption); (case h2 => walk_at "hp")))
local macro_rules | `(tactic| walk_at "go") => `(tactic| repeat (first
  | with_reducible refine Rd.con ?_
  | ((with_reducible refine' Rd.var ?h1 ?_); (case h1 => rfl))
  | with_reducible refine Rd.op ?_
  | with_reducible refine Rd.un ?_
  | with_reducible refine Rd.i0 ?_
  | with_reducible refine Rd.iu ?_
  | ((with_reducible refine Rd.iC ?h1 ?_); (case h1 => walk_at "side"))
  | with_reducible refine Rd.nil ?_
  | with_reducible refine Rd.cons ?_
  | with_reducible refine Rd.cb ?_
  | with_reducible refine Rd.int1 ?_
  | with_reducible refine Rd.intB ?_
  | with_reducible refine Rd.maxI ?_
  | with_reducible refine Rd.minI ?_
  | with_reducible refine Rd.blx ?_
  | with_reducible refine Rd.tst ?_
  | with_reducible refine Rd.tb_ ?_
  | with_reducible refine Rd.not_ ?_
  | with_reducible refine Rd.and_ ?_
  | with_reducible refine Rd.or_ ?_
  | with_reducible refine Rd.ifx ?_
  | with_reducible refine Rd.chain ?_
  | with_reducible refine Rd.andV ?_
  | with_reducible refine Rd.orV ?_
  | with_reducible refine Rd.notV ?_
  | with_reducible refine Rd.seq ?_
  | with_reducible refine Rd.asg ?_
  | with_reducible refine Rd.name ?_
  | with_reducible refine Rd.ret ?_
  | with_reducible refine Rd.ifS ?_
  | with_reducible refine Rd.next ?_
  | with_reducible refine Rd.drop ?_
  | with_reducible refine Rd.gsub ?_
  | with_reducible refine Rd.cr ?_
  | with_reducible refine Rd.crX ?_
  | with_reducible refine Rd.ixOS ?_
  | ((with_reducible refine' Rd.xfv ?h1 ?h2 ?h3 ?_); (case h1 => walk_at "hp"); (case h2 => rfl); (case h3 => rfl))
  | ((with_reducible refine' Rd.bmLv ?h1 ?h2 ?_); (case h1 => rfl); (case h2 => walk_at "hp"))
  | ((with_reducible refine' Rd.countL ?h1 ?_); (case h1 => walk_at "hp"))
  | ((with_reducible refine' Rd.sumL ?h1 ?_); (case h1 => walk_at "hp"))
  | ((with_reducible refine' Rd.listL ?h1 ?_); (case h1 => walk_at "hp"))
  | ((with_reducible refine' Rd.listT ?h1 ?_); (case h1 => walk_at "hp"))
  | with_reducible refine Rd.isB ?_
  | with_reducible refine Rd.notBtt ?_
  | with_reducible refine Rd.notBff ?_
  | with_reducible refine Rd.notBtf ?_
  | with_reducible refine Rd.notBft ?_
  | with_reducible refine Rd.notB ?_
  | with_reducible refine Rd.smeth ?_
  | with_reducible refine Rd.sl ?_
  | with_reducible refine Rd.po0 ?_
  | with_reducible refine Rd.poI ?_
  | with_reducible refine Rd.ixi ?_
  | with_reducible refine Rd.par ?_
  | with_reducible refine Rd.par2 ?_
  | with_reducible refine Rd.mk ?_
  | with_reducible refine Rd.mkX ?_
  | with_reducible refine Rd.lcT ?_
  | with_reducible refine Rd.lcL ?_
  | with_reducible refine Rd.lcR ?_
  | with_reducible refine Rd.forT ?_
  | with_reducible refine Rd.forL ?_
  | with_reducible refine Rd.forR ?_
  | with_reducible refine Rd.yes ?_
  | with_reducible refine iteT ?_
  | with_reducible refine iteF ?_
  | with_reducible refine Rd.iteNT ?_
  | with_reducible refine Rd.iteNF ?_
  | with_reducible refine Rd.tup ?_
  | with_reducible refine Rd.lst ?_
  | ((with_reducible refine Rd.eqs ?h1 ?_); (case h1 => rfl))
  | ((with_reducible refine Rd.nes ?h1 ?_); (case h1 => rfl))
  | ((with_reducible refine' Rd.ixL ?h1 ?h2 ?_); (case h1 => walk_at "hp"); (case h2 => first | rfl | assumption))
  | ((with_reducible refine' Rd.ixT ?h1 ?h2 ?_); (case h1 => walk_at "hp"); (case h2 => first | rfl | assumption))
  | ((with_reducible refine' Rd.lenL ?h1 ?_); (case h1 => walk_at "hp"))
  | ((with_reducible refine' Rd.lenT ?h1 ?_); (case h1 => walk_at "hp"))
  | ((with_reducible refine' Rd.setL ?h1 ?h2 ?_); (case h1 => walk_at "hp"); (case h2 => first | rfl | assumption))))
/-! ### an error with one field -/
/-- an error's __init__ stores its one value -/
def sp_ex (C : Addr) (f : Str) : Sp := fun vs H Q _ => ∃ (a : Addr) (v : V), vs = [.ref a, v] ∧ H a = some (exo a C none) ∧ ∀ dx, H dx = none → dx ≠ a → Q .non (upd (upd H dx (exd dx [(f, v)])) a (exo a C (some dx)))
theorem mk_ex {C : Addr} {f : Str} {ta : TA} {σ : L2.St} {H : Hp} {W : XK} (h : ta σ H fun vs H1 => ∃ v, vs = [v] ∧ ∀ d, H1 d = none → W (.ref C) (some d) (upd H1 d (.xd [(f, v)]))) (mono : ∀ R R' : List V → Hp → Prop, (∀ vs H, R vs H → R' vs H) → ta σ H R → ta σ H R') : tMkO C (sp_ex C f) [] ta σ H W := by
  refine mono _ _ (fun vs H1 q => ?_) h
  obtain ⟨v, rfl, q⟩ := q
  refine ⟨(show 1 ≤ 1000 by decide), fun a ha => ⟨a, v, rfl, upd_same, fun dx hd ne => ⟨rfl, ?_⟩⟩⟩
  rw [upd_ne ne] at hd
  refine ⟨dx, [(f, v)], upd_same, by rw [upd_ne ne, upd_same], hd, ?_⟩
  have e : upd (del (upd (upd (upd H1 a (exo a C none)) dx (exd dx [(f, v)])) a (exo a C (some dx))) a) dx (.xd [(f, v)]) = upd H1 dx (.xd [(f, v)]) := by
    funext b
    by_cases h1 : b = dx
    · rw [h1, upd_same, upd_same]
    · rw [upd_ne h1, upd_ne h1]
      by_cases h2 : b = a
      · rw [h2, del_same, ha]
      · rw [del_ne h2, upd_ne h2, upd_ne h1, upd_ne h2]
  rw [e]
  exact q dx hd
section
variable {base : Heap} {P : Program} {w : World} {mg : Str → Option Value} {K : PySem.W.Frag}
theorem ok_NoIndex (T : Tx K mg) : ∃ fd, FnOk P w K mg base (L2.CX P w) 1 (a_NoIndex_init K) fd P_NoIndex_init (sp_ex (He.ga K "NoIndex") "index") ∧ Binds K fd P_NoIndex_init [] := by
  refine fnok T.d_NoIndex_init sc_NoIndex_init (fun _ _ _ _ _ _ us hl => match us, hl with | [_, _], _ => rfl) (fun vs H Q E h => ?_) (fun cdv A outer s H vs Q E hr h => ?_)
  · obtain ⟨a, v, rfl, _⟩ := h
    rfl
  · obtain ⟨a, v, rfl, ha, k⟩ := h
    refine ⟨_, pss_one (ps_ost (pv 0) (pv 1)), ?_⟩
    exact ⟨_, rfl, _, rfl, a, _, rfl, T.x_NoIndex.ox, T.n_NoIndex_index, .inl ⟨ha, fun dx hd ne => k dx hd ne⟩⟩
/-! ### the class Form -/
abbrev CF (K : PySem.W.Frag) : Addr := He.ga K "Form"
def fsF (q : Addr) : List (Str × V) := [("parts", .ref q)]
theorem fsF_parts (q : Addr) : (fsF q).lookup ("parts" : Str) = some (.ref q) := by unfold fsF; simp [List.lookup]
def FormAt (K : PySem.W.Frag) (H : Hp) (a : Addr) (xs : List Int) : Prop := ∃ dx q, H a = some (.ins (CF K) dx (fsF q)) ∧ H q = some (.tup (xs.map V.int))
theorem FormAt.ext {H H' : Hp} {a : Addr} {xs : List Int} (h : FormAt K H a xs) (e : Ext H H') : FormAt K H' a xs := by
  obtain ⟨dx, q, h1, h2⟩ := h
  exact ⟨dx, q, e _ _ h1, e _ _ h2⟩
/-- e.parts -/
theorem fld_parts (T : Tx K mg) {σ : L2.St} {H : Hp} {n : Nat} {a : Addr} {xs : List Int} {Q : VK} (h : FormAt K H a xs) (e : σ[n]? = some (some (.ref a))) (k : ∀ q, H q = some (.tup (xs.map V.int)) → Q (.ref q) H) : tFld K (tVar n) "parts" σ H Q := by
  obtain ⟨dx, q, h1, h2⟩ := h
  exact ⟨.ref a, e, a, CF K, dx, fsF q, _, rfl, h1, T.c_Form, T.n_Form_parts, fsF_parts q, k q h2⟩
def sp_Form_init (K : PySem.W.Frag) : Sp := fun vs H Q _ => ∃ (x dx a : Addr) (xs : List Int), vs = [.ref x, .ref a] ∧ H x = some (.ins (CF K) dx []) ∧ (H a = some (.lst (xs.map V.int)) ∨ H a = some (.tup (xs.map V.int))) ∧
  ∀ H', (∀ b o, b ≠ x → H b = some o → H' b = some o) → FormAt K H' x xs → Q .non H'
theorem ok_Form_init (T : Tx K mg) : FnR P w K mg base (L2.CX P w) 1 (a_Form_init K) (sp_Form_init K) := by
  refine fnr T.d_Form_init sc_Form_init (fun _ _ _ _ _ _ us hl => match us, hl with | [_, _], _ => rfl) (fun vs H Q E h => ?_) (fun cdv A outer s H vs Q E hr h => ?_)
  · obtain ⟨x, dx, a, xs, rfl, _⟩ := h
    rfl
  · obtain ⟨x, dx, a, xs, rfl, hx, ha, k⟩ := h
    refine ⟨_, pss_one (ps_fld (pv 0) (pe_callTy (Rd.c_tuple (K := K)) (by rfl) T.f_tuple Rd.bt_tuple (pa_cons (pv 1) pa_nil)) rfl), ?_⟩
    show tCB (Rd.rTupOf K) (tCons (tVar 1) tNil) _ _ _
    walk_at "go"
    rcases ha with ha | ha
    · refine Rd.tupL (SqL.of ha) fun q hq => ?_
      have nx : x ≠ q := ne_of_none hx hq
      refine ⟨_, rfl, x, CF K, dx, [], rfl, by rw [upd_ne nx]; exact hx, T.c_Form, T.n_Form_parts, by decide, ?_⟩
      refine k _ (fun b o ne e => ?_) ⟨dx, q, upd_same, ?_⟩
      · rw [upd_ne ne, upd_ne (ne_of_none e hq)]; exact e
      · rw [upd_ne nx.symm, upd_same]
    · refine Rd.tupT (SqT.of ha) ?_
      have nx : x ≠ a := ne_of hx ha (by intro z; cases z)
      refine ⟨_, rfl, x, CF K, dx, [], rfl, hx, T.c_Form, T.n_Form_parts, by decide, ?_⟩
      refine k _ (fun b o ne e => ?_) ⟨dx, a, upd_same, ?_⟩
      · rw [upd_ne ne]; exact e
      · rw [upd_ne nx.symm]; exact ha
/-- Form(e) -/
theorem mk_form {H : Hp} {a : Addr} {xs : List Int} {Q : VK} {E : XK} (ha : H a = some (.lst (xs.map V.int)) ∨ H a = some (.tup (xs.map V.int))) (k : ∀ x H', Ext H H' → H x = none → FormAt K H' x xs → Q (.ref x) H') :
    Rd.MkR (CF K) (sp_Form_init K) E [.ref a] H Q := by
  intro x dx hx hd ne
  refine ⟨x, dx, a, xs, rfl, upd_same, ?_, fun H' kp F => ⟨rfl, k x H' (fun b o e => kp b o (ne_of_none e hx) ?_) hx F⟩⟩
  · rcases ha with ha | ha
    · exact .inl (by rw [upd_ne (ne_of_none ha hx), upd_ne (ne_of_none ha hd)]; exact ha)
    · exact .inr (by rw [upd_ne (ne_of_none ha hx), upd_ne (ne_of_none ha hd)]; exact ha)
  · rw [upd_ne (ne_of_none e hx), upd_ne (ne_of_none e hd)]; exact e
def sp_Form_len (K : PySem.W.Frag) : Sp := fun vs H Q _ => ∃ (a : Addr) (xs : List Int), vs = [.ref a] ∧ FormAt K H a xs ∧ Q (.int xs.length) H
theorem ok_Form_len (T : Tx K mg) : FnR P w K mg base (L2.CX P w) 1 (a_Form_len K) (sp_Form_len K) := by
  refine fnr T.d_Form_len sc_Form_len (fun _ _ _ _ _ _ us hl => match us, hl with | [_], _ => rfl) (fun vs H Q E h => ?_) (fun cdv A outer s H vs Q E hr h => ?_)
  · obtain ⟨a, xs, rfl, _⟩ := h
    rfl
  · obtain ⟨a, xs, rfl, F, k⟩ := h
    refine ⟨_, pss_one (ps_ret (pe_callB (Rd.c_len (K := K)) (by rfl) T.f_len boot_len (pa_cons (pe_fld (pv 0) rfl) pa_nil))), ?_⟩
    walk_at "go"
    refine fld_parts T F rfl fun q hq => ?_
    walk_at "go"
    rw [List.length_map]
    exact k
def sp_Form_bool (K : PySem.W.Frag) : Sp := fun vs H Q _ => ∃ (a : Addr) (xs : List Int), vs = [.ref a] ∧ FormAt K H a xs ∧ xs.length ≤ 1000 ∧ ∀ H', Ext H H' → Q (.bl (xs.any fun z => z != 0)) H'
theorem ok_Form_bool (T : Tx K mg) : FnR P w K mg base (L2.CX P w) 1 (a_Form_bool K) (sp_Form_bool K) := by
  refine fnr T.d_Form_bool sc_Form_bool (fun _ _ _ _ _ _ us hl => match us, hl with | [_], _ => rfl) (fun vs H Q E h => ?_) (fun cdv A outer s H vs Q E hr h => ?_)
  · obtain ⟨a, xs, rfl, _⟩ := h
    rfl
  · obtain ⟨a, xs, rfl, F, hl, k⟩ := h
    refine ⟨_, pss_one (ps_ret (pe_callB (cr_any rfl) (by rfl) T.f_any Rd.bt_any (pa_cons
      (pe_lc (own := [("part", 1)]) rfl sc_Form_bool.nd (pi_tup (pe_fld (pv 0) rfl)) (blkOk_by (own := [("part", 1)]) (N := N_Form_bool) (sc := defScope s_Form_bool) (by decide +kernel)) (fun _ _ _ _ _ => pg_name (i := 1) sc_Form_bool.nd rfl (Or.inl rfl)) (fun _ _ _ _ _ => pts_nil)
        (fun _ _ _ _ _ => pe_cmpR op_ne (pv 1) pe_int (nomark _))) pa_nil))), ?_⟩
    walk_at "go"
    refine fld_parts T F rfl fun q hq => ?_
    refine ⟨q, rfl, ⟨_, SqT.of hq⟩, fun D hD => ?_⟩
    refine Rd.lcE (emb := V.int) (Rd.walk_tupM (K := K) (a := q)) Rd.yat (by omega) (fun _ => true) (fun z y _ => y = .bl (!decide (V.int z = .int 0))) (fun _ _ _ _ _ h => h) hD (fun H' e => SqT.of (e _ _ hq)) ?_ ?_
    · intro i it H' acc hi e ha Qy Qn ky kn
      walk_at "go"
      refine ⟨rfl, ?_⟩
      walk_at "go"
      exact ky _ _ Rd.ext_rfl rfl rfl
    · intro ys H' e hys pr
      have e2 := Rd.paired_map pr
      rw [List.filter_eq_self.mpr (fun _ _ => rfl)] at e2
      refine ⟨D, xs.map fun z => !decide (V.int z = .int 0), rfl, SqL.of (by rw [hys, e2, List.map_map]; rfl), ?_⟩
      rw [List.any_map]
      have e3 : (xs.any fun z => z != 0) = xs.any (id ∘ fun z => !decide (V.int z = .int 0)) := by
        congr 1; funext z; simp [dec_int]; rfl
      rw [← e3]
      exact k H' e
def sp_Form_getitem (K : PySem.W.Frag) : Sp := fun vs H Q E => ∃ (a : Addr) (xs : List Int) (i : Int), vs = [.ref a, .int i] ∧ FormAt K H a xs ∧
  (∀ (n : Nat) (z : Int), i = n → xs[n]? = some z → Q (.int z) H) ∧ ((i < 0 ∨ (xs.length : Int) ≤ i) → ∀ d, H d = none → E (.ref (He.ga K "NoIndex")) (some d) (upd H d (.xd [("index", .int i)])))
theorem ok_Form_getitem (T : Tx K mg) : FnR P w K mg base (L2.CX P w) 3 (a_Form_getitem K) (sp_Form_getitem K) := by
  obtain ⟨fdN, FN, bN⟩ := ok_NoIndex (P := P) (w := w) (base := base) T
  refine fnr T.d_Form_getitem sc_Form_getitem (fun _ _ _ _ _ _ us hl => match us, hl with | [_, _], _ => rfl) (fun vs H Q E h => ?_) (fun cdv A outer s H vs Q E hr h => ?_)
  · obtain ⟨a, xs, i, rfl, _⟩ := h
    rfl
  · obtain ⟨a, xs, i, rfl, F, k1, k2⟩ := h
    refine ⟨_, pss_cons (ps_if (pt_not (pt_chain op_le op_lt pe_int (pv 1) (pe_callB (Rd.c_len (K := K)) (by rfl) T.f_len boot_len (pa_cons (pe_fld (pv 0) rfl) pa_nil))))
        (pss_one (ps_raise rfl (takes_of rfl rfl rfl rfl) (pmk_oex T.x_NoIndex.ox T.x_NoIndex.it T.x_NoIndex.ti FN hr bN .nil passL rfl T.g_NoIndex (pa_cons (pv 1) pa_nil)))) pss_nil)
      (pss_one (ps_ret (pe_ix ix_tup (pe_fld (pv 0) rfl) (pv 1) (fun _ _ => rfl)))), ?_⟩
    have bad : (i < 0 ∨ (xs.length : Int) ≤ i) → tMkO (He.ga K "NoIndex") (sp_ex (He.ga K "NoIndex") "index") [] (tCons (tVar 1) tNil) (start N_Form_getitem [.ref a, .int i]) H fun cls d H' => E cls d H' := fun c =>
      mk_ex ⟨_, rfl, _, rfl, k2 c⟩ fun R R' m ⟨v, h1, h2⟩ => ⟨v, h1, m _ _ h2⟩
    walk_at "go"
    refine Rd.ited (fun c => ?_) (fun c => ?_)
    · walk_at "go"
      refine fld_parts T F rfl fun q hq => ?_
      walk_at "go"
      rw [List.length_map]
      refine Rd.iten (fun c2 => bad (.inr (by omega))) (fun c2 => ?_)
      walk_at "go"
      refine fld_parts T F rfl fun q hq => ?_
      have hl : i.toNat < xs.length := by omega
      have hat : atI (xs.map V.int) i = some (V.int xs[i.toNat]) := Rd.nat_at (j := i.toNat) (by omega) (by rw [List.getElem?_map, List.getElem?_eq_getElem hl]; rfl)
      walk_at "go"
      exact k1 i.toNat _ (by omega) (List.getElem?_eq_getElem hl)
    · walk_at "go"
      exact bad (.inl (by omega))
def sp_Form_eq (K : PySem.W.Frag) : Sp := fun vs H Q _ => ∃ (a b : Addr) (xs ys : List Int), vs = [.ref a, .ref b] ∧ FormAt K H a xs ∧ FormAt K H b ys ∧ Q (.bl (decide (xs = ys))) H
theorem ok_Form_eq (T : Tx K mg) : FnR P w K mg base (L2.CX P w) 1 (a_Form_eq K) (sp_Form_eq K) := by
  refine fnr T.d_Form_eq sc_Form_eq (fun _ _ _ _ _ _ us hl => match us, hl with | [_, _], _ => rfl) (fun vs H Q E h => ?_) (fun cdv A outer s H vs Q E hr h => ?_)
  · obtain ⟨a, b, xs, ys, rfl, _⟩ := h
    rfl
  · obtain ⟨a, b, xs, ys, rfl, F, G, k⟩ := h
    refine ⟨_, pss_one (ps_ret (pe_and (pe_callB (Rd.c_isi (K := K)) (by rfl) T.f_isinstance Rd.bt_isinstance (pa_cons (pv 1) (pa_cons (pe_glob (v := .ref (CF K)) (by rfl) T.g_Form rfl) pa_nil)))
      (pe_one (pe_cmpR (op_eqD hr.units) (pe_fld (pv 0) rfl) (pe_fld (pv 1) rfl) (nomark _))))), ?_⟩
    walk_at "go"
    obtain ⟨dy, r, h1, h2⟩ := id G
    refine ⟨_, _, _, _, true, rfl, .own _, tyx_ins T.c_Form T.i_Form h1, T.is_Form, ?_⟩
    refine ⟨true, rfl, ?_⟩
    refine Rd.iteb (fun _ => ?_) (fun z => by cases z)
    walk_at "go"
    refine fld_parts T F rfl fun q hq => ?_
    walk_at "go"
    refine fld_parts T G rfl fun q2 hq2 => ?_
    exact Rd.eqD Rd.encTInts (Rd.dp_tints (SqT.of hq)) (Rd.dp_tints (SqT.of hq2)) k
theorem eq_form {H : Hp} {f g : Addr} {xs ys : List Int} {Q : VK} {E : XK} (F : FormAt K H f xs) (G : FormAt K H g ys) (q : Q (.bl (decide (xs = ys))) H) : rOwn2 (CF K) (sp_Form_eq K) E (.ref f) (.ref g) H Q := by
  obtain ⟨dx, q1, h1, _⟩ := id F
  obtain ⟨dy, q2, h2, _⟩ := id G
  exact ⟨f, g, dx, dy, _, _, rfl, rfl, h1, h2, f, g, xs, ys, rfl, F, G, ⟨_, rfl⟩, q⟩
theorem eq_form_t {H : Hp} {f g : Addr} {xs : List Int} {Q : VK} {E : XK} (F : FormAt K H f xs) (G : FormAt K H g xs) (q : Q (.bl true) H) : rOwn2 (CF K) (sp_Form_eq K) E (.ref f) (.ref g) H Q := eq_form F G (by rw [decide_eq_true rfl]; exact q)
theorem eq_form_f {H : Hp} {f g : Addr} {xs ys : List Int} {Q : VK} {E : XK} (F : FormAt K H f xs) (G : FormAt K H g ys) (ne : xs ≠ ys) (q : Q (.bl false) H) : rOwn2 (CF K) (sp_Form_eq K) E (.ref f) (.ref g) H Q := eq_form F G (by rw [decide_eq_false ne]; exact q)
end
end Lv

set_option Elab.async false
set_option linter.all false
set_option maxRecDepth 100000
set_option maxHeartbeats 0
/-! Later heaps: all is kept but the pool. -/
namespace Lv
open PySem PySem.Spec PyProof.Rows L2 OwX
/-- the pool at p -/
def Pl (p : Addr) (H : Hp) : Prop := ∃ x y, H p = some (.lst [.int x, .int y]) ∧ PoolOk x y
/-- H' is later than H: what H has but the pool stands -/
structure Lt (p : Addr) (H H' : Hp) : Prop where
  px : Ext (Rd.hid [p] H) (Rd.hid [p] H')
  pl : Pl p H'
section
variable {p a b : Addr} {H H' H'' : Hp} {o u : HO} {K : PySem.W.Frag} {xs : List V}
theorem Lt.rfl (h : Pl p H) : Lt p H H := ⟨Rd.ext_rfl, h⟩
theorem Lt.trans (h : Lt p H H') (h' : Lt p H' H'') : Lt p H H'' := ⟨h.px.trans h'.px, h'.pl⟩
theorem Pl.ext (h : Pl p H) (e : Ext H H') : Pl p H' := by
  obtain ⟨x, y, h1, h2⟩ := h
  exact ⟨x, y, e _ _ h1, h2⟩
theorem Lt.ext (h : Lt p H H') (e : Ext H' H'') : Lt p H H'' := ⟨h.px.trans (Rd.ext_hid e), h.pl.ext e⟩
theorem Lt.of (h : Pl p H) (e : Ext H H') : Lt p H H' := (Lt.rfl h).ext e
theorem Lt.new (h : Lt p H H') (n : H' a = none) : Lt p H (upd H' a u) := h.ext (Ext.upd n)
theorem Lt.at (e : Lt p H H') (ne : a ≠ p) (h : H a = some o) : H' a = some o := by
  have h2 := e.px a o (by rw [Rd.hid_ne (by simpa using ne)]; exact h)
  exact (Rd.hid_at h2).1
theorem Pl.ne (h : Pl p H) (n : H a = none) : a ≠ p := by
  obtain ⟨x, y, h1, _⟩ := h
  exact fun e => by rw [e, h1] at n; cases n
theorem Lt.free (e : Lt p H H') (n : H' a = none) : H a = none := by
  have ne := e.pl.ne n
  cases q : H a with
  | none => exact Eq.refl _
  | some o => rw [e.at ne q] at n; cases n
/-- a change of what H does not know -/
theorem Lt.mut (e : Lt p H H') (n : H a = none) (ne : a ≠ p) : Lt p H (upd H' a u) := by
  refine ⟨fun b o h => ?_, ?_⟩
  · obtain ⟨h1, h2⟩ := Rd.hid_at h
    rw [Rd.hid_ne h2, upd_ne (ne_of_none h1 n)]
    exact e.at (by simpa using h2) h1
  · obtain ⟨x, y, h1, h2⟩ := e.pl
    exact ⟨x, y, by rw [upd_ne ne.symm]; exact h1, h2⟩
theorem Lt.drew {x y : Int} (ok : PoolOk x y) : Lt p H (upd H p (.lst [.int x, .int y])) :=
  ⟨by rw [Rd.hid_upd (by simp)]; exact Rd.ext_rfl, x, y, upd_same, ok⟩
theorem Lt.sq (e : Lt p H H') (ne : a ≠ p) (h : SqL K H a xs) : SqL K H' a xs :=
  h.elim (fun h => .inl (h.elim (fun h => .inl (e.at ne h)) fun ⟨o, h⟩ => .inr ⟨o, e.at ne h⟩)) fun h => .inr h
theorem Lt.st (e : Lt p H H') (ne : a ≠ p) (h : SqT K H a xs) : SqT K H' a xs :=
  h.elim (fun h => .inl (h.elim (fun h => .inl (e.at ne h)) fun ⟨o, h⟩ => .inr ⟨o, e.at ne h⟩)) fun h => .inr h
/-- an object that is no list of two ints is not the pool -/
theorem Pl.ne_ins {C dx : Addr} {fs : List (Str × V)} (h : Pl p H) (e : H a = some (.ins C dx fs)) : a ≠ p := by
  obtain ⟨x, y, h1, _⟩ := h
  exact ne_of e h1 (by intro z; cases z)
theorem Pl.ne_tup {ys : List V} (h : Pl p H) (e : H a = some (.tup ys)) : a ≠ p := by
  obtain ⟨x, y, h1, _⟩ := h
  exact ne_of e h1 (by intro z; cases z)
theorem hid2 (n1 : a ≠ b) (n2 : a ≠ p) (h : H a = some o) : Rd.hid [b, p] H a = some o := by
  rw [Rd.hid_ne (by simp [n1, n2])]; exact h
theorem hid1 (n1 : a ≠ b) (h : H a = some o) : Rd.hid [b] H a = some o := by
  rw [Rd.hid_ne (by simp [n1])]; exact h
theorem draw {b : Int} {Q : VK} {E : XK} (h : Pl p H) (k : ∀ (r : Nat) H', (r : Int) < b → Lt p H H' → Q (.int r) H') (h0 : 0 < b := by omega) (h1 : b < 2 ^ 200 := by omega) : sp_take [.ref p, .int b] H Q E := by
  obtain ⟨x, y, hp, ok⟩ := h
  refine ⟨p, b, x, y, Eq.refl _, hp, ok, h0, h1, fun r x' y' ok' r0 r1 => ?_⟩
  have := k r.toNat _ (by omega) (Lt.drew ok')
  rw [Int.toNat_of_nonneg r0] at this
  exact this
theorem drawN {m : Int} {Q : VK} {E : XK} (h : Pl p H) (k : ∀ n H', -m ≤ n → n ≤ m → Lt p H H' → Q (.int n) H') (h0 : 3 ≤ m := by decide) (h1 : m < 2 ^ 100 := by decide) : sp_number [.ref p, .int m] H Q E := by
  obtain ⟨x, y, hp, ok⟩ := h
  exact ⟨p, m, x, y, Eq.refl _, hp, ok, h0, h1, fun n x' y' ok' n0 n1 => k n _ n0 n1 (Lt.drew ok')⟩
theorem mkPool {sc : Addr} {ns : List Int} {k : Nat} {Q : VK} {E : XK} (h : SqL K H sc (ns.map V.int)) (hn : ns.length ≤ 63) (hk : k < 63) (hb : ∀ z ∈ ns, Builtin.Int.intBits z ≤ 1048576) (kk : ∀ p H', H p = none → Ext H H' → Pl p H' → Q (.ref p) H') : sp_pool K [.ref sc, .int k] H Q E :=
  ⟨sc, ns, k, Eq.refl _, h, hn, hk, hb, fun p x y ok hp => kk p _ hp (Ext.upd hp) ⟨x, y, upd_same, ok⟩⟩
end
theorem SqL.later {p a : Addr} {H H1 H' : Hp} {K : PySem.W.Frag} {xs : List V} (h : SqL K H a xs) (n : H p = none) (e : Ext H H1) (l : Lt p H1 H') : SqL K H' a xs :=
  h.elim (fun h => .inl (h.elim (fun h => .inl (l.at (ne_of_none h n) (e _ _ h))) fun ⟨o, h⟩ => .inr ⟨o, l.at (ne_of_none h n) (e _ _ h)⟩)) fun h => .inr h
/-! ### comprehensions that draw -/
section
variable {α : Type} {J : It} {G : Hp → Prop} {Y : Nat → Hp → V → Hp → Prop} {items : List α} {Yi : α → Hp → V → Hp → Prop} {p : Addr}
theorem lcP (w : Walk J items.length G Y) (hy : ∀ i H x H', Y i H x H' → ∃ it, items[i]? = some it ∧ Yi it H x H') (hn : items.length < 100000)
    {g : TG} {tt : TT} {te : TE} {vs : List Nat} {σ : L2.St} {H1 : Hp} {D : Addr} {Qd : Hp → Prop} (hp : Pl p H1) (keep : α → Bool) (R : α → V → Hp → Prop) (mono : ∀ a y H H', Ext H H' → R a y H → R a y H')
    (hD : H1 D = none) (hG : ∀ H, Lt p H1 H → G H)
    (hs : ∀ (i : Nat) it x H H' acc, items[i]? = some it → Lt p H1 H → H D = some (.lst acc) → Yi it H x H' → ∀ (Qy : VK) (Qn : Hp → Prop),
      (∀ y H4, Lt p H H4 → keep it = true → R it y (Rd.hid [D, p] H4) → Qy y H4) → (∀ H3, Lt p H H3 → keep it = false → Qn H3) →
      g x (wipe σ vs) H' fun σ2 H2 => wipe σ2 vs = wipe σ vs ∧ tt σ2 H2 fun b H3 => if b = true then te σ2 H3 Qy else Qn H3)
    (hd : ∀ ys H, Lt p H1 H → H D = some (.lst ys) → Paired (fun a y => R a y (Rd.hid [D, p] H)) (items.filter keep) ys → Qd H) :
    ∃ W : Nat → Nat → Hp → Prop, (∃ m, W 0 m (upd H1 D (.lst []))) ∧ ∀ i m H, W i m H →
      (J.stop i H ∧ Qd H) ∨ (J.go i H ∧ ∃ Nx : Hp → Prop, (∀ H', Nx H' → ∃ m', m' < m ∧ W (i + 1) m' H') ∧ ∀ x H', J.yld i H x H' → g x (wipe σ vs) H' fun σ2 H2 => wipe σ2 vs = wipe σ vs ∧ tt σ2 H2 fun b H3 =>
        if b = true then te σ2 H3 fun y H4 => ∃ acc, H4 D = some (.lst acc) ∧ acc.length < sizeLine ∧ Nx (upd H4 D (.lst (acc ++ [y]))) else Nx H3) := by
  refine Rd.lcG w hy hn [p] (Pl p) keep R mono hD (by simpa using hp.ne hD) (fun H u h => ?_) hp (fun H e i => hG H ⟨e, i⟩) ?_ ?_
  · obtain ⟨x, y, h1, h2⟩ := h
    exact ⟨x, y, by rw [upd_ne (hp.ne hD).symm]; exact h1, h2⟩
  · intro i it x H H' acc hit e ip ha yi Qy Qn ky kn
    exact hs i it x H H' acc hit ⟨e, ip⟩ ha yi Qy Qn (fun y H4 l => ky y H4 l.px l.pl) (fun H3 l => kn H3 l.px l.pl)
  · intro ys H e ip hys pr
    exact hd ys H ⟨e, ip⟩ hys pr
end
theorem intsOf {α : Type} : ∀ {items : List α} {ys : List V}, Paired (fun _ y => ∃ z : Int, y = V.int z) items ys → ∃ zs : List Int, ys = zs.map V.int ∧ zs.length = items.length
  | _, _, .nil => ⟨[], rfl, rfl⟩
  | _, _, .cons ⟨z, hz⟩ t => by
    obtain ⟨zs, h1, h2⟩ := intsOf t
    exact ⟨z :: zs, by rw [hz, h1]; rfl, by rw [List.length_cons, List.length_cons, h2]⟩
end Lv

set_option Elab.async false
set_option linter.all false
set_option maxRecDepth 100000
set_option maxHeartbeats 0
namespace Lv
open PySem PySem.Spec PyProof.Rows L2 OwX
local macro_rules | `(tactic| walk_at "side") => `(tactic| first
  | exact (show CMul _ _ from .inl ⟨by decide, by decide⟩) | exact (show CMul _ _ from .inr ⟨by decide, by decide⟩) | exact (show CMul _ _ from .inl ⟨by omega, by omega⟩) | exact (show CMul _ _ from .inr ⟨by omega, by omega⟩)
  | exact (show CPow _ _ from ⟨by decide, by decide, by decide⟩)
  | exact (show CDiv _ _ from ⟨by decide, by decide⟩) | exact (show CDiv _ _ from ⟨by omega, by omega⟩)
  | exact (show (0 : Int) < _ by decide) | exact (show (0 : Int) < _ by omega) | exact (show ¬ (_ : Int) = 0 by decide) | exact (show ¬ (_ : Int) = 0 by omega) | assumption)
local macro_rules | `(tactic| walk_at "hp") => `(tactic| first
  | assumption | exact upd_same
  | (refine' SqL.of ?h1; (case h1 => walk_at "hp")) | (refine' SqT.of ?h1; (case h1 => walk_at "hp"))
  | (refine' Rd.new_app ?h1 ?h2; (case h1 => assumption); (case h2 => walk_at "hp"))
  | (refine' Rd.upd_app ?h1 ?h2; (case h1 => first | assumption | exact Ne.symm (by assumption)); (case h2 => walk_at "hp"))
  | (refine' Rd.ext_app ?h1 ?h2; (case h1 => assumption); (case h2 => walk_at "hp"))
  | (refine' Rd.ext_L ?h1 ?h2; (case h1 => assumption); (case h2 => walk_at "hp"))
  | (refine' Rd.ext_T ?h1 ?h2; (case h1 => assumption); (case h2 => walk_at "hp")))
local macro_rules | `(tactic| walk_at "go") => `(tactic| repeat (first
  | with_reducible refine Rd.con ?_
  | ((with_reducible refine' Rd.var ?h1 ?_); (case h1 => rfl))
  | with_reducible refine Rd.op ?_
  | with_reducible refine Rd.un ?_
  | with_reducible refine Rd.i0 ?_
  | with_reducible refine Rd.iu ?_
  | ((with_reducible refine Rd.iC ?h1 ?_); (case h1 => walk_at "side"))
  | with_reducible refine Rd.nil ?_
  | with_reducible refine Rd.cons ?_
  | with_reducible refine Rd.cb ?_
  | with_reducible refine Rd.int1 ?_
  | with_reducible refine Rd.intB ?_
  | with_reducible refine Rd.maxI ?_
  | with_reducible refine Rd.minI ?_
  | with_reducible refine Rd.blx ?_
  | with_reducible refine Rd.tst ?_
  | with_reducible refine Rd.tb_ ?_
  | with_reducible refine Rd.not_ ?_
  | with_reducible refine Rd.and_ ?_
  | with_reducible refine Rd.or_ ?_
  | with_reducible refine Rd.ifx ?_
  | with_reducible refine Rd.chain ?_
  | with_reducible refine Rd.andV ?_
  | with_reducible refine Rd.orV ?_
  | with_reducible refine Rd.notV ?_
  | with_reducible refine Rd.seq ?_
  | with_reducible refine Rd.asg ?_
  | with_reducible refine Rd.name ?_
  | with_reducible refine Rd.ret ?_
  | with_reducible refine Rd.ifS ?_
  | with_reducible refine Rd.next ?_
  | with_reducible refine Rd.drop ?_
  | with_reducible refine Rd.gsub ?_
  | with_reducible refine Rd.cr ?_
  | with_reducible refine Rd.crX ?_
  | with_reducible refine Rd.ixOS ?_
  | ((with_reducible refine' Rd.xfv ?h1 ?h2 ?h3 ?_); (case h1 => walk_at "hp"); (case h2 => rfl); (case h3 => rfl))
  | ((with_reducible refine' Rd.bmLv ?h1 ?h2 ?_); (case h1 => rfl); (case h2 => walk_at "hp"))
  | ((with_reducible refine' Rd.countL ?h1 ?_); (case h1 => walk_at "hp"))
  | ((with_reducible refine' Rd.sumL ?h1 ?_); (case h1 => walk_at "hp"))
  | ((with_reducible refine' Rd.listL ?h1 ?_); (case h1 => walk_at "hp"))
  | ((with_reducible refine' Rd.listT ?h1 ?_); (case h1 => walk_at "hp"))
  | with_reducible refine Rd.isB ?_
  | with_reducible refine Rd.notBtt ?_
  | with_reducible refine Rd.notBff ?_
  | with_reducible refine Rd.notBtf ?_
  | with_reducible refine Rd.notBft ?_
  | with_reducible refine Rd.notB ?_
  | with_reducible refine Rd.smeth ?_
  | with_reducible refine Rd.sl ?_
  | with_reducible refine Rd.po0 ?_
  | with_reducible refine Rd.poI ?_
  | with_reducible refine Rd.ixi ?_
  | with_reducible refine Rd.par ?_
  | with_reducible refine Rd.par2 ?_
  | with_reducible refine Rd.mk ?_
  | with_reducible refine Rd.mkX ?_
  | with_reducible refine Rd.lcT ?_
  | with_reducible refine Rd.lcL ?_
  | with_reducible refine Rd.lcR ?_
  | with_reducible refine Rd.forT ?_
  | with_reducible refine Rd.forL ?_
  | with_reducible refine Rd.forR ?_
  | with_reducible refine Rd.yes ?_
  | with_reducible refine iteT ?_
  | with_reducible refine iteF ?_
  | with_reducible refine Rd.iteNT ?_
  | with_reducible refine Rd.iteNF ?_
  | with_reducible refine Rd.tup ?_
  | with_reducible refine Rd.lst ?_
  | ((with_reducible refine Rd.eqs ?h1 ?_); (case h1 => rfl))
  | ((with_reducible refine Rd.nes ?h1 ?_); (case h1 => rfl))
  | ((with_reducible refine' Rd.ixL ?h1 ?h2 ?_); (case h1 => walk_at "hp"); (case h2 => first | rfl | assumption))
  | ((with_reducible refine' Rd.ixT ?h1 ?h2 ?_); (case h1 => walk_at "hp"); (case h2 => first | rfl | assumption))
  | ((with_reducible refine' Rd.lenL ?h1 ?_); (case h1 => walk_at "hp"))
  | ((with_reducible refine' Rd.lenT ?h1 ?_); (case h1 => walk_at "hp"))
  | ((with_reducible refine' Rd.setL ?h1 ?h2 ?_); (case h1 => walk_at "hp"); (case h2 => first | rfl | assumption))))
section
variable {base : Heap} {P : Program} {w : World} {mg : Str → Option Value} {K : PySem.W.Frag}
/-! ### unit, zero -/
def unitL (n : Nat) (i : Int) : List Int := (List.range n).map fun (j : Nat) => if (j : Int) = i then 1 else 0
def sp_Form_unit (K : PySem.W.Frag) : Sp := fun vs H Q _ => ∃ (n : Nat) (i : Int), vs = [.int n, .int i] ∧ n ≤ 100 ∧ ∀ x H', Ext H H' → H x = none → FormAt K H' x (unitL n i) → Q (.ref x) H'
theorem ok_Form_unit (T : Tx K mg) : FnR P w K mg base (L2.CX P w) 3 (a_Form_unit K) (sp_Form_unit K) := by
  refine fnr T.d_Form_unit sc_Form_unit (fun _ _ _ _ _ _ us hl => match us, hl with | [_, _], _ => rfl) (fun vs H Q E h => ?_) (fun cdv A outer s H vs Q E hr h => ?_)
  · obtain ⟨n, i, rfl, _⟩ := h
    rfl
  · obtain ⟨n, i, rfl, hn, k⟩ := h
    refine ⟨_, pss_one (ps_ret (pe_mk T.k_Form (ok_Form_init T) hr rfl T.g_Form (pa_cons
      (pe_lc (own := [("at", 2)]) rfl sc_Form_unit.nd (pi_range1 rfl T.f_range (pa_cons (pv 0) pa_nil)) (blkOk_by (own := [("at", 2)]) (N := N_Form_unit) (sc := defScope s_Form_unit) (by decide +kernel)) (fun _ _ _ _ _ => gx 2 sc_Form_unit.nd) (fun _ _ _ _ _ => pts_nil)
        (fun _ _ _ _ _ => pe_callTy Rd.c_int (by rfl) T.f_int boot_int (pa_cons (pe_cmpR op_eq (pv 2) (pv 1) (nomark _)) pa_nil))) pa_nil))), ?_⟩
    walk_at "go"
    refine ⟨_, rfl, by omega, by omega, fun D hD => ?_⟩
    rw [Int.toNat_natCast]
    refine Rd.lcE (emb := fun j : Nat => V.int j) Rd.walk_rangeN Rd.yrng (by rw [List.length_range]; omega) (fun _ => true) (fun j y _ => y = .int (if (j : Int) = i then 1 else 0)) (fun _ _ _ _ _ h => h) hD (fun H' e => trivial) ?_ ?_
    · intro ix it H' acc hi e ha Qy Qn ky kn
      walk_at "go"
      refine ⟨rfl, ?_⟩
      walk_at "go"
      refine ky _ _ Rd.ext_rfl rfl ?_
      simp [dec_int]
    · intro ys H' e hys pr
      have e2 := Rd.paired_map pr
      rw [List.filter_eq_self.mpr (fun _ _ => rfl)] at e2
      refine mk_form (xs := unitL n i) (.inl (by rw [hys, e2]; simp [unitL])) fun x H2 e3 hx F => ?_
      exact k x H2 (e.trans e3) (Rd.ext_free e hx) F
def zeroL (n : Nat) : List Int := List.replicate n 0
def sp_Form_zero (K : PySem.W.Frag) : Sp := fun vs H Q _ => ∃ n : Nat, vs = [.int n] ∧ n ≤ 100 ∧ ∀ x H', Ext H H' → H x = none → FormAt K H' x (zeroL n) → Q (.ref x) H'
theorem rep_int (n : Nat) (z : Int) : (List.replicate n [V.int z]).flatten = (List.replicate n z).map V.int := by
  induction n with
  | zero => rfl
  | succ n ih => rw [List.replicate_succ, List.replicate_succ, List.flatten_cons, ih]; rfl
theorem ok_Form_zero (T : Tx K mg) : FnR P w K mg base (L2.CX P w) 3 (a_Form_zero K) (sp_Form_zero K) := by
  refine fnr T.d_Form_zero sc_Form_zero (fun _ _ _ _ _ _ us hl => match us, hl with | [_], _ => rfl) (fun vs H Q E h => ?_) (fun cdv A outer s H vs Q E hr h => ?_)
  · obtain ⟨n, rfl, _⟩ := h
    rfl
  · obtain ⟨n, rfl, hn, k⟩ := h
    refine ⟨_, pss_one (ps_ret (pe_mk T.k_Form (ok_Form_init T) hr rfl T.g_Form (pa_cons (pe_op op_rep (pe_lst (pa_cons pe_int pa_nil)) (pv 0)) pa_nil))), ?_⟩
    walk_at "go"
    refine ⟨Rd.szr rfl, fun l hl => ?_⟩
    walk_at "go"
    refine ⟨l, n, [.int 0], rfl, rfl, upd_same, by omega, by omega, Rd.sz (by simp; omega), fun p hp => ?_⟩
    refine mk_form (xs := zeroL n) (.inl (by rw [upd_same, Int.toNat_natCast, rep_int]; rfl)) fun x H2 e3 hx F => ?_
    have e : Ext H (upd (upd H l (.lst [.int 0])) p (.lst (List.replicate (n : Int).toNat [V.int 0]).flatten)) := (Ext.upd hl).trans (Ext.upd hp)
    exact k x H2 (e.trans e3) (Rd.ext_free e hx) F
/-! ### _law_is_form -/
def sp_is_form (K : PySem.W.Frag) : Sp := fun vs H Q _ => ∃ (a l : Addr) (xs ys : List Int), vs = [.ref a, .ref l] ∧ FormAt K H a xs ∧ H l = some (.lst (ys.map V.int)) ∧ xs.length ≤ 1000 ∧ ∀ H', Ext H H' → Q (.bl (decide (xs = ys))) H'
theorem isi_ty {K : PySem.W.Frag} {H : Hp} {x : V} {t n : String} {b : Bool} {Q : VK} (ty : TyX K H x (.type t)) (h : kitB t n = some b) (q : Q (.bl b) H) : rIsi K [x, .ty n] H Q := ⟨x, .ty n, _, _, b, rfl, .ty n, ty, kit_ty h, q⟩
theorem kit_tt : kitB "tuple" "tuple" = some true := by decide +kernel
theorem kit_ii : kitB "int" "int" = some true := by decide +kernel
theorem kit_ib : kitB "int" "bool" = some false := by decide +kernel
theorem isi_form (T : Tx K mg) {H : Hp} {a : Addr} {xs : List Int} {Q : VK} (F : FormAt K H a xs) (q : Q (.bl true) H) : rIsi K [.ref a, .ref (CF K)] H Q := by
  obtain ⟨dx, r, h1, h2⟩ := F
  exact ⟨_, _, _, _, true, rfl, .own _, tyx_ins T.c_Form T.i_Form h1, T.is_Form, q⟩
theorem ok_is_form (T : Tx K mg) : FnR P w K mg base (L2.CX P w) 1 (a_law_is_form K) (sp_is_form K) := by
  refine fnr T.d_law_is_form sc_law_is_form (fun _ _ _ _ _ _ us hl => match us, hl with | [_, _], _ => rfl) (fun vs H Q E h => ?_) (fun cdv A outer s H vs Q E hr h => ?_)
  · obtain ⟨a, l, xs, ys, rfl, _⟩ := h
    rfl
  · obtain ⟨a, l, xs, ys, rfl, F, hl, hn, k⟩ := h
    refine ⟨_, pss_cons (ps_if (PW.pt (pw_or (pt_not (pt_val (pe_callB (Rd.c_isi (K := K)) (by rfl) T.f_isinstance Rd.bt_isinstance (pa_cons (pv 0) (pa_cons (pe_glob (v := .ref (CF K)) (by rfl) T.g_Form rfl) pa_nil)))))
        (pw_or (pt_not (pt_val (pe_callB (Rd.c_isi (K := K)) (by rfl) T.f_isinstance Rd.bt_isinstance (pa_cons (pe_fld (pv 0) rfl) (pa_cons (pe_bltn (v := .ty "tuple") (by rfl) T.f_tuple Rd.bt_tuple rfl) pa_nil)))))
        (pw_or1 (pt_cmpR (op_neD hr.units) (pe_fld (pv 0) rfl) (pe_callTy (Rd.c_tuple (K := K)) (by rfl) T.f_tuple Rd.bt_tuple (pa_cons (pv 1) pa_nil)) (nomark _)))))) (pss_one (ps_ret pe_bl)) pss_nil)
      (pss_one (ps_ret (pe_cmpR (op_eqD hr.units) (pe_lc (own := [("part", 2)]) rfl sc_law_is_form.nd (pi_tup (pe_fld (pv 0) rfl)) (blkOk_by (own := [("part", 2)]) (N := N_law_is_form) (sc := defScope s_law_is_form) (by decide +kernel)) (fun _ _ _ _ _ => gx 2 sc_law_is_form.nd)
          (fun _ _ _ _ _ => pts_one (PW.pt (pw_or (pt_not (pt_val (pe_callB (Rd.c_isi (K := K)) (by rfl) T.f_isinstance Rd.bt_isinstance (pa_cons (pv 2) (pa_cons (pe_bltn (v := .ty "int") (by rfl) T.f_int boot_int rfl) pa_nil)))))
            (pw_or1 (pt_val (pe_callB (Rd.c_isi (K := K)) (by rfl) T.f_isinstance Rd.bt_isinstance (pa_cons (pv 2) (pa_cons (pe_bltn (v := .ty "bool") (by rfl) T.f_bool Rd.bt_bool rfl) pa_nil))))))))
          (fun _ _ _ _ _ => pv 2)) (pe_lst pa_nil) (nomark _)))), ?_⟩
    walk_at "go"
    refine isi_form T F ?_
    walk_at "go"
    refine fld_parts T F rfl fun q hq => ?_
    walk_at "go"
    refine isi_ty (.base (.tup hq)) kit_tt ?_
    walk_at "go"
    refine fld_parts T F rfl fun q2 hq2 => ?_
    walk_at "go"
    refine Rd.tupL (SqL.of hl) fun t ht => ?_
    refine Rd.neD Rd.encTInts (Rd.dp_tints (SqT.of (Rd.new_app ht hq2))) (Rd.dp_tints (SqT.of upd_same)) ?_
    walk_at "go"
    refine Rd.iten (fun c => ?_) (fun c => ?_)
    · walk_at "go"
      rw [← decide_eq_false c]
      exact k _ (Ext.upd ht)
    · have F' := F.ext (Ext.upd (o := .tup (ys.map V.int)) ht)
      walk_at "go"
      refine fld_parts T F' rfl fun q3 hq3 => ?_
      refine ⟨q3, rfl, ⟨_, SqT.of hq3⟩, fun D hD => ?_⟩
      refine Rd.lcE (emb := V.int) (Rd.walk_tupM (K := K) (a := q3)) Rd.yat (by omega) (fun _ => false) (fun z y _ => False) (fun _ _ _ _ _ h => h) hD (fun H' e => SqT.of (e _ _ hq3)) ?_ ?_
      · intro ix it H' acc hi e ha Qy Qn ky kn
        walk_at "go"
        refine ⟨rfl, ?_⟩
        walk_at "go"
        refine isi_ty (.base (.int _)) kit_ii ?_
        walk_at "go"
        refine isi_ty (.base (.int _)) kit_ib ?_
        walk_at "go"
        exact kn _ Rd.ext_rfl rfl
      · intro zs H' e hys pr
        have e2 : zs = [] := by
          have h := Rd.paired_len pr
          rw [List.filter_eq_nil_iff.mpr (by simp)] at h
          exact List.length_eq_zero_iff.mp h.symm
        subst e2
        walk_at "go"
        refine ⟨Rd.szr rfl, fun m hm => ?_⟩
        refine Rd.eqD Rd.encInts (a := []) (b := []) (Rd.dp_ints (SqL.of (Rd.new_app hm hys))) (Rd.dp_ints (SqL.of upd_same)) ?_
        have c2 : decide (xs = ys) = decide (([] : List Int) = []) := by rw [decide_eq_true c]; rfl
        rw [← c2]
        exact k _ (((Ext.upd ht).trans e).trans (Ext.upd hm))
/-! ### _law_item -/
/-- what it tells of an index -/
def itemV (xs : List Int) (i : Int) : List V := if 0 ≤ i then (match xs[i.toNat]? with
  | some z => [.str "part", .int z]
  | none => [.str "no", .int i, .bl true, .bl true, .bl false]) else [.str "no", .int i, .bl true, .bl true, .bl false]
theorem item_in {xs : List Int} {n : Nat} {z : Int} (h : xs[n]? = some z) : itemV xs n = [.str "part", .int z] := by
  unfold itemV
  rw [if_pos (by omega), Int.toNat_natCast, h]
theorem item_out {xs : List Int} {i : Int} (h : i < 0 ∨ (xs.length : Int) ≤ i) : itemV xs i = [.str "no", .int i, .bl true, .bl true, .bl false] := by
  unfold itemV
  by_cases c : 0 ≤ i
  · rw [if_pos c, List.getElem?_eq_none (by omega)]
  · rw [if_neg c]
def sp_item (K : PySem.W.Frag) : Sp := fun vs H Q _ => ∃ (a : Addr) (xs : List Int) (i : Int), vs = [.ref a, .int i] ∧ FormAt K H a xs ∧ ∀ l H', Ext H H' → H l = none → H' l = some (.lst (itemV xs i)) → Q (.ref l) H'
theorem ok_item (T : Tx K mg) : FnR P w K mg base (L2.CX P w) 5 (a_law_item K) (sp_item K) := by
  refine fnr T.d_law_item sc_law_item (fun _ _ _ _ _ _ us hl => match us, hl with | [_, _], _ => rfl) (fun vs H Q E h => ?_) (fun cdv A outer s H vs Q E hr h => ?_)
  · obtain ⟨a, xs, i, rfl, _⟩ := h
    rfl
  · obtain ⟨a, xs, i, rfl, F, k⟩ := h
    refine ⟨_, pss_one (ps_try_as (i := 2) (Wout := fun _ _ _ _ => False) rfl rfl sc_law_item.nd rfl rfl ⟨rfl, by decide, Or.inl T.g_NoIndex⟩ takes0
      (fun W pn xe tk _ => pss_one (ps_ret (pe_lst (pa_cons pe_str (pa_cons (pe_ixOS T.m_Form_getitem T.fi_Form_getitem (ok_Form_getitem T) hr (fun σ => passAt tk σ) (pv 0) (pv 1)) pa_nil)))))
      (fun ea oe cls d pn hz hf => pss_one (ps_ret (pe_lst (pa_cons pe_str (pa_cons (pe_xf T.x_NoIndex.xf T.n_NoIndex_index hz hf (pv 2)) (pa_cons (pe_callB (call_isX T.x_NoIndex hz hf) (by rfl) T.f_isinstance Rd.bt_isinstance (pa_cons (pv 2) (pa_cons (pe_glob (v := .ref (He.ga K "CascadeError")) (by rfl) T.g_CascadeError rfl) pa_nil)))
        (pa_cons (pe_callB (call_isX T.x_NoIndex hz hf) (by rfl) T.f_isinstance Rd.bt_isinstance (pa_cons (pv 2) (pa_cons (pe_bltn (v := .ty "ValueError") (by rfl) T.f_ValueError Rd.bt_ValueError rfl) pa_nil)))
        (pa_cons (pe_callB (call_isX T.x_NoIndex hz hf) (by rfl) T.f_isinstance Rd.bt_isinstance (pa_cons (pv 2) (pa_cons (pe_glob (v := .ref (He.ga K "BadLength")) (by rfl) T.g_BadLength rfl) pa_nil))) pa_nil))))))))), ?_⟩
    walk_at "go"
    obtain ⟨dx, q, h1, h2⟩ := id F
    refine ⟨_, dx, _, rfl, h1, a, xs, i, rfl, F, fun n z e h => ?_, fun c d hd => ?_⟩
    · walk_at "go"
      exact ⟨Rd.szr rfl, fun p hp => k p _ (Ext.upd hp) hp (by rw [upd_same, e, item_in h])⟩
    · refine ⟨true, T.ex_NoIndex_NoIndex, fun _ ea hea => ?_, fun z => by cases z⟩
      have hd2 : (upd H d (.xd [("index", .int i)])) d = some (.xd [("index", .int i)]) := upd_same
      walk_at "go"
      refine Rd.isX hd2 (.own _) T.is_NoIndex_CascadeError ?_
      walk_at "go"
      refine Rd.isX hd2 (.ty _) T.is_NoIndex_ValueError ?_
      walk_at "go"
      refine Rd.isX hd2 (.own _) T.is_NoIndex_BadLength ?_
      walk_at "go"
      refine ⟨Rd.szr rfl, fun p hp => k p _ ((Ext.upd hd).trans (Ext.upd hp)) ?_ (by rw [upd_same, item_out c])⟩
      exact Rd.ext_free (Ext.upd hd) hp
end
end Lv

set_option Elab.async false
set_option linter.all false
set_option maxRecDepth 100000
set_option maxHeartbeats 0
/-! k18: a form is right. -/
namespace Lv
open PySem PySem.Spec PyProof.Rows L2 OwX
local macro_rules | `(tactic| walk_at "side") => `(tactic| first
  | exact (show CMul _ _ from .inl ⟨by decide, by decide⟩) | exact (show CMul _ _ from .inr ⟨by decide, by decide⟩) | exact (show CMul _ _ from .inl ⟨by omega, by omega⟩) | exact (show CMul _ _ from .inr ⟨by omega, by omega⟩)
  | exact (show CPow _ _ from ⟨by decide, by decide, by decide⟩)
  | exact (show CDiv _ _ from ⟨by decide, by decide⟩) | exact (show CDiv _ _ from ⟨by omega, by omega⟩)
  | exact (show (0 : Int) < _ by decide) | exact (show (0 : Int) < _ by omega) | exact (show ¬ (_ : Int) = 0 by decide) | exact (show ¬ (_ : Int) = 0 by omega) | assumption)
local macro_rules | `(tactic| walk_at "hp") => `(tactic| first
  | assumption | exact upd_same
  | (refine' SqL.of ?h1; (case h1 => walk_at "hp")) | (refine' SqT.of ?h1; (case h1 => walk_at "hp"))
  | (refine' Rd.new_app ?h1 ?h2; (case h1 => assumption); (case h2 => walk_at "hp"))
  | (refine' Rd.upd_app ?h1 ?h2; (case h1 => first | assumption | exact Ne.symm (by assumption)); (case h2 => walk_at "hp"))
  | (refine' Rd.ext_app ?h1 ?h2; (case h1 => assumption); (case h2 => walk_at "hp"))
  | (refine' Rd.ext_L ?h1 ?h2; (case h1 => assumption); (case h2 => walk_at "hp"))
  | (refine' Rd.ext_T ?h1 ?h2; (case h1 => assumption); (case h2 => walk_at "hp")))
local macro_rules | `(tactic| walk_at "go") => `(tactic| repeat (first
  | with_reducible refine Rd.con ?_
  | ((with_reducible refine' Rd.var ?h1 ?_); (case h1 => rfl))
  | with_reducible refine Rd.op ?_
  | with_reducible refine Rd.un ?_
  | with_reducible refine Rd.i0 ?_
  | with_reducible refine Rd.iu ?_
  | ((with_reducible refine Rd.iC ?h1 ?_); (case h1 => walk_at "side"))
  | with_reducible refine Rd.nil ?_
  | with_reducible refine Rd.cons ?_
  | with_reducible refine Rd.cb ?_
  | with_reducible refine Rd.int1 ?_
  | with_reducible refine Rd.intB ?_
  | with_reducible refine Rd.maxI ?_
  | with_reducible refine Rd.minI ?_
  | with_reducible refine Rd.blx ?_
  | with_reducible refine Rd.tst ?_
  | with_reducible refine Rd.tb_ ?_
  | with_reducible refine Rd.not_ ?_
  | with_reducible refine Rd.and_ ?_
  | with_reducible refine Rd.or_ ?_
  | with_reducible refine Rd.ifx ?_
  | with_reducible refine Rd.chain ?_
  | with_reducible refine Rd.andV ?_
  | with_reducible refine Rd.orV ?_
  | with_reducible refine Rd.notV ?_
  | with_reducible refine Rd.seq ?_
  | with_reducible refine Rd.asg ?_
  | with_reducible refine Rd.name ?_
  | with_reducible refine Rd.ret ?_
  | with_reducible refine Rd.ifS ?_
  | with_reducible refine Rd.next ?_
  | with_reducible refine Rd.drop ?_
  | with_reducible refine Rd.gsub ?_
  | with_reducible refine Rd.cr ?_
  | with_reducible refine Rd.crX ?_
  | with_reducible refine Rd.ixOS ?_
  | ((with_reducible refine' Rd.xfv ?h1 ?h2 ?h3 ?_); (case h1 => walk_at "hp"); (case h2 => rfl); (case h3 => rfl))
  | ((with_reducible refine' Rd.bmLv ?h1 ?h2 ?_); (case h1 => rfl); (case h2 => walk_at "hp"))
  | ((with_reducible refine' Rd.countL ?h1 ?_); (case h1 => walk_at "hp"))
  | ((with_reducible refine' Rd.sumL ?h1 ?_); (case h1 => walk_at "hp"))
  | ((with_reducible refine' Rd.listL ?h1 ?_); (case h1 => walk_at "hp"))
  | ((with_reducible refine' Rd.listT ?h1 ?_); (case h1 => walk_at "hp"))
  | with_reducible refine Rd.isB ?_
  | with_reducible refine Rd.notBtt ?_
  | with_reducible refine Rd.notBff ?_
  | with_reducible refine Rd.notBtf ?_
  | with_reducible refine Rd.notBft ?_
  | with_reducible refine Rd.notB ?_
  | with_reducible refine Rd.smeth ?_
  | with_reducible refine Rd.sl ?_
  | with_reducible refine Rd.po0 ?_
  | with_reducible refine Rd.poI ?_
  | with_reducible refine Rd.ixi ?_
  | with_reducible refine Rd.par ?_
  | with_reducible refine Rd.par2 ?_
  | with_reducible refine Rd.mk ?_
  | with_reducible refine Rd.mkX ?_
  | with_reducible refine Rd.lcT ?_
  | with_reducible refine Rd.lcL ?_
  | with_reducible refine Rd.lcR ?_
  | with_reducible refine Rd.forT ?_
  | with_reducible refine Rd.forL ?_
  | with_reducible refine Rd.forR ?_
  | with_reducible refine Rd.yes ?_
  | with_reducible refine iteT ?_
  | with_reducible refine iteF ?_
  | with_reducible refine Rd.iteNT ?_
  | with_reducible refine Rd.iteNF ?_
  | with_reducible refine Rd.tup ?_
  | with_reducible refine Rd.lst ?_
  | ((with_reducible refine Rd.eqs ?h1 ?_); (case h1 => rfl))
  | ((with_reducible refine Rd.nes ?h1 ?_); (case h1 => rfl))
  | ((with_reducible refine' Rd.ixL ?h1 ?h2 ?_); (case h1 => walk_at "hp"); (case h2 => first | rfl | assumption))
  | ((with_reducible refine' Rd.ixT ?h1 ?h2 ?_); (case h1 => walk_at "hp"); (case h2 => first | rfl | assumption))
  | ((with_reducible refine' Rd.lenL ?h1 ?_); (case h1 => walk_at "hp"))
  | ((with_reducible refine' Rd.lenT ?h1 ?_); (case h1 => walk_at "hp"))
  | ((with_reducible refine' Rd.setL ?h1 ?h2 ?_); (case h1 => walk_at "hp"); (case h2 => first | rfl | assumption))))
section
variable {base : Heap} {P : Program} {w : World} {mg : Str → Option Value} {K : PySem.W.Frag}
def sp_right (K : PySem.W.Frag) : Sp := fun vs H Q _ => ∃ (a l : Addr) (xs : List Int), vs = [.ref a, .ref l] ∧ FormAt K H a xs ∧ H l = some (.lst (xs.map V.int)) ∧ xs.length ≤ 100 ∧ ∀ H', Ext H H' → Q (.bl true) H'
theorem FormAt.ins {H : Hp} {a : Addr} {xs : List Int} (h : FormAt K H a xs) : ∃ dx fs, H a = some (.ins (CF K) dx fs) := by
  obtain ⟨dx, q, h1, _⟩ := h
  exact ⟨dx, _, h1⟩
theorem any_count (xs : List Int) : (xs.any fun z => z != 0) = decide (((xs.count 0 : Nat) : Int) < (xs.length : Nat)) := by
  rw [Bool.eq_iff_iff, List.any_eq_true, decide_eq_true_iff]
  have h := List.count_le_length (a := (0 : Int)) (l := xs)
  constructor
  · rintro ⟨x, h1, h2⟩
    have h3 : xs.count 0 ≠ xs.length := fun e => by
      have := (List.count_eq_length.mp e) x h1
      simp [← this] at h2
    omega
  · intro c
    apply Classical.byContradiction
    intro n
    have : xs.count 0 = xs.length := List.count_eq_length.mpr fun x hx => by
      apply Classical.byContradiction
      intro ne
      exact n ⟨x, hx, by simpa using fun e => ne e.symm⟩
    omega
def encPart : Int → PyData := fun z => .list [.str "part", .int z]
theorem encPart_ok : Rd.Enc encPart 1 := ⟨fun a b => by
  unfold encPart
  rw [PyData.eqv, PyData.eqvAll, PyData.eqvAll, PyData.eqvAll, PyData.eqv, PyData.eqv, Bool.eq_iff_iff]
  simp, fun a => by unfold encPart; rw [PyData.canLay0, PyData.canLayAll0, PyData.canLayAll0, PyData.canLayAll0, PyData.canLay0, PyData.canLay0]; decide +kernel,
  fun a => by unfold encPart; rw [PyData.depth, PyData.depthAll, PyData.depthAll, PyData.depthAll, PyData.depth, PyData.depth]; decide⟩
theorem dp_part {H : Hp} {a : Addr} {z : Int} (h : H a = some (.lst [.str "part", .int z])) : Dp K H (.ref a) (encPart z) := .lst (SqL.of h) (.cons (.str _) (.cons (.int _) .nil))
theorem paired_range {xs : List Int} {R : Int → V → Prop} : ∀ {ys : List V} {n : Nat}, Paired (fun (j : Nat) y => ∀ z, xs[j]? = some z → R z y) (List.range' n (xs.length - n)) ys → Paired R (xs.drop n) ys := by
  intro ys
  induction ys with
  | nil =>
    intro n h
    have := Rd.paired_len h
    rw [List.length_range', List.length_nil] at this
    rw [List.drop_eq_nil_of_le (by omega)]
    exact .nil
  | cons y ys ih =>
    intro n h
    have hl := Rd.paired_len h
    rw [List.length_range', List.length_cons] at hl
    have e : xs.length - n = (xs.length - (n + 1)) + 1 := by omega
    rw [e, List.range'_succ] at h
    cases h with
    | cons r t =>
      rw [List.drop_eq_getElem_cons (by omega)]
      exact .cons (r _ (List.getElem?_eq_getElem (by omega))) (ih t)
theorem ok_right (T : Tx K mg) : FnR P w K mg base (L2.CX P w) 7 (a_law_right K) (sp_right K) := by
  refine fnr T.d_law_right sc_law_right (fun _ _ _ _ _ _ us hl => match us, hl with | [_, _], _ => rfl) (fun vs H Q E h => ?_) (fun cdv A outer s H vs Q E hr h => ?_)
  · obtain ⟨a, l, xs, rfl, _⟩ := h
    rfl
  · obtain ⟨a, l, xs, rfl, F, hl, hn, k⟩ := h
    refine ⟨_, (pss_cons (ps_if (PW.pt (pw_or (pt_not (pt_val (pe_cr (ok_is_form T) (hr.mono (by decide)) (kp_of T.d_law_is_form) (by rfl) T.g_law_is_form (pa_cons (pv 0) (pa_cons (pv 1) pa_nil))))) (pw_or1 (pt_cmpR op_ne (pe_callB (call_lenO T.m_Form_len (ok_Form_len T) (hr.mono (by decide)) passL) (by rfl) T.f_len Rd.bt_len (pa_cons (pv 0) pa_nil)) (pe_callB (Rd.c_len (K := K)) (by rfl) T.f_len Rd.bt_len (pa_cons (pv 1) pa_nil)) (nomark _))))) (pss_one (ps_ret pe_bl)) pss_nil) (pss_cons (ps_if (pt_cmpR op_ne (pe_callTy (call_boolO T.m_Form_bool (ok_Form_bool T) (hr.mono (by decide)) passL) (by rfl) T.f_bool Rd.bt_bool (pa_cons (pv 0) pa_nil)) (pe_cmpR op_lt (GW.bm (K := K) PySem.F.plainAttrs_list PySem.F.slot_list_count PySem.F.type_list_count (GW.cnt (K := K)) (pv 1) (pa_cons pe_int pa_nil)) (pe_callB (Rd.c_len (K := K)) (by rfl) T.f_len Rd.bt_len (pa_cons (pv 1) pa_nil)) (nomark _)) (nomark _)) (pss_one (ps_ret pe_bl)) pss_nil) (pss_one (ps_ret (pe_cmpR (GW.eqD hr.units (K := K)) (pe_lc (own := [("at", 2)]) rfl sc_law_right.nd (pi_range1 (by rfl) T.f_range (pa_cons (pe_callB (Rd.c_len (K := K)) (by rfl) T.f_len Rd.bt_len (pa_cons (pv 1) pa_nil)) pa_nil)) (blkOk_by (own := [("at", 2)]) (N := N_law_right) (sc := defScope s_law_right) (by decide +kernel)) (fun _ _ _ _ _ => (gx 2 sc_law_right.nd)) (fun _ _ _ _ _ => pts_nil) (fun _ _ _ _ _ => (pe_cr (ok_item T) (hr.mono (by decide)) (kp_of T.d_law_item) (by rfl) T.g_law_item (pa_cons (pv 0) (pa_cons (pv 2) pa_nil))))) (pe_lc (own := [("part", 3)]) rfl sc_law_right.nd (GW.pi_list (K := K) (pv 1)) (blkOk_by (own := [("part", 3)]) (N := N_law_right) (sc := defScope s_law_right) (by decide +kernel)) (fun _ _ _ _ _ => (gx 3 sc_law_right.nd)) (fun _ _ _ _ _ => pts_nil) (fun _ _ _ _ _ => (pe_lst (pa_cons pe_str (pa_cons (pv 3) pa_nil))))) (nomark _)))))), ?_⟩
    walk_at "go"
    refine ⟨a, l, xs, xs, rfl, F, hl, by omega, fun H1 e1 => ?_⟩
    have F1 := F.ext e1
    have hl1 := e1 _ _ hl
    rw [decide_eq_true rfl]
    walk_at "go"
    obtain ⟨dx, fs, hi⟩ := F1.ins
    refine ⟨a, dx, fs, rfl, hi, a, xs, rfl, F1, _, rfl, by omega, by omega, ?_⟩
    walk_at "go"
    rw [List.length_map, decide_eq_true rfl]
    walk_at "go"
    refine ⟨a, rfl, a, dx, fs, rfl, hi, a, xs, rfl, F1, by omega, fun H2 e2 => ⟨_, rfl, ?_⟩⟩
    have F2 := F1.ext e2
    have hl2 := e2 _ _ hl1
    walk_at "go"
    rw [List.length_map, ← any_count, decide_eq_true rfl]
    walk_at "go"
    rw [List.length_map]
    refine ⟨_, rfl, by omega, by omega, fun D hD => ?_⟩
    rw [Int.toNat_natCast]
    refine Rd.lcE (emb := fun j : Nat => V.int j) Rd.walk_rangeN Rd.yrng (by rw [List.length_range]; omega) (fun _ => true) (fun j y H => ∀ z, xs[j]? = some z → Dp K H y (encPart z)) (fun _ _ _ _ e h z hz => (h z hz).ext e) hD (fun H' e => trivial) ?_ ?_
    · intro j it H' acc hi e ha Qy Qn ky kn
      walk_at "go"
      refine ⟨rfl, ?_⟩
      walk_at "go"
      refine ⟨a, xs, it, rfl, F2.ext e, fun l4 H4 e4 n4 h4 => ?_⟩
      refine ky _ _ e4 rfl fun z hz => ?_
      rw [item_in hz] at h4
      exact dp_part (hid1 (fun q => by rw [q, ha] at n4; cases n4) h4)
    · intro ys H3 e3 hys pr
      rw [List.filter_eq_self.mpr (fun _ _ => rfl), List.range_eq_range'] at pr
      have pr2 := paired_range (xs := xs) (R := fun z y => Dp K (Rd.hid [D] H3) y (encPart z)) (n := 0) pr
      rw [List.drop_zero] at pr2
      have d1 : Dp K H3 (.ref D) (.list (xs.map encPart)) := .lst (SqL.of hys) (Rd.dpAll_paired (fun z y h => h.ext Rd.hid_ext) pr2)
      have hl3 := e3 _ _ hl2
      walk_at "go"
      refine ⟨l, rfl, ⟨_, SqL.of hl3⟩, fun D2 hD2 => ?_⟩
      refine Rd.lcE (emb := V.int) (Rd.walk_listM (K := K) (a := l)) Rd.yat (by omega) (fun _ => true) (fun z y H => Dp K H y (encPart z)) (fun _ _ _ _ e h => h.ext e) hD2 (fun H' e => SqL.of (e _ _ hl3)) ?_ ?_
      · intro j it H' acc hi e ha Qy Qn ky kn
        walk_at "go"
        refine ⟨rfl, ?_⟩
        walk_at "go"
        refine ⟨Rd.szr rfl, fun q hq => ?_⟩
        exact ky _ _ (Ext.upd hq) rfl (dp_part (hid1 (fun z => by rw [z, ha] at hq; cases hq) upd_same))
      · intro zs H4 e4 hzs pr4
        rw [List.filter_eq_self.mpr (fun _ _ => rfl)] at pr4
        have d2 : Dp K H4 (.ref D2) (.list (xs.map encPart)) := .lst (SqL.of hzs) (Rd.dpAll_paired (fun z y h => h.ext Rd.hid_ext) pr4)
        refine Rd.eqD encPart_ok.list (d1.ext e4) d2 ?_
        rw [decide_eq_true rfl]
        exact k _ (((e1.trans e2).trans e3).trans e4)
end
end Lv

set_option Elab.async false
set_option linter.all false
set_option maxRecDepth 100000
set_option maxHeartbeats 0
/-! k18: the law. -/
namespace Lv
open PySem PySem.Spec PyProof.Rows L2 OwX
local macro_rules | `(tactic| walk_at "side") => `(tactic| first
  | exact (show CMul _ _ from .inl ⟨by decide, by decide⟩) | exact (show CMul _ _ from .inr ⟨by decide, by decide⟩) | exact (show CMul _ _ from .inl ⟨by omega, by omega⟩) | exact (show CMul _ _ from .inr ⟨by omega, by omega⟩)
  | exact (show CPow _ _ from ⟨by decide, by decide, by decide⟩)
  | exact (show CDiv _ _ from ⟨by decide, by decide⟩) | exact (show CDiv _ _ from ⟨by omega, by omega⟩)
  | exact (show (0 : Int) < _ by decide) | exact (show (0 : Int) < _ by omega) | exact (show ¬ (_ : Int) = 0 by decide) | exact (show ¬ (_ : Int) = 0 by omega) | assumption)
local macro_rules | `(tactic| walk_at "hp") => `(tactic| first
  | assumption | exact upd_same
  | (refine' SqL.of ?h1; (case h1 => walk_at "hp")) | (refine' SqT.of ?h1; (case h1 => walk_at "hp"))
  | (refine' Rd.new_app ?h1 ?h2; (case h1 => assumption); (case h2 => walk_at "hp"))
  | (refine' Rd.upd_app ?h1 ?h2; (case h1 => first | assumption | exact Ne.symm (by assumption)); (case h2 => walk_at "hp"))
  | (refine' Rd.ext_app ?h1 ?h2; (case h1 => assumption); (case h2 => walk_at "hp"))
  | (refine' Rd.ext_L ?h1 ?h2; (case h1 => assumption); (case h2 => walk_at "hp"))
  | (refine' Rd.ext_T ?h1 ?h2; (case h1 => assumption); (case h2 => walk_at "hp")))
local macro_rules | `(tactic| walk_at "go") => `(tactic| repeat (first
  | with_reducible refine Rd.con ?_
  | ((with_reducible refine' Rd.var ?h1 ?_); (case h1 => rfl))
  | with_reducible refine Rd.op ?_
  | with_reducible refine Rd.un ?_
  | with_reducible refine Rd.i0 ?_
  | with_reducible refine Rd.iu ?_
  | ((with_reducible refine Rd.iC ?h1 ?_); (case h1 => walk_at "side"))
  | with_reducible refine Rd.nil ?_
  | with_reducible refine Rd.cons ?_
  | with_reducible refine Rd.cb ?_
  | with_reducible refine Rd.int1 ?_
  | with_reducible refine Rd.intB ?_
  | with_reducible refine Rd.maxI ?_
  | with_reducible refine Rd.minI ?_
  | with_reducible refine Rd.blx ?_
  | with_reducible refine Rd.tst ?_
  | with_reducible refine Rd.tb_ ?_
  | with_reducible refine Rd.not_ ?_
  | with_reducible refine Rd.and_ ?_
  | with_reducible refine Rd.or_ ?_
  | with_reducible refine Rd.ifx ?_
  | with_reducible refine Rd.chain ?_
  | with_reducible refine Rd.andV ?_
  | with_reducible refine Rd.orV ?_
  | with_reducible refine Rd.notV ?_
  | with_reducible refine Rd.seq ?_
  | with_reducible refine Rd.asg ?_
  | with_reducible refine Rd.name ?_
  | with_reducible refine Rd.ret ?_
  | with_reducible refine Rd.ifS ?_
  | with_reducible refine Rd.next ?_
  | with_reducible refine Rd.drop ?_
  | with_reducible refine Rd.gsub ?_
  | with_reducible refine Rd.cr ?_
  | with_reducible refine Rd.crX ?_
  | with_reducible refine Rd.ixOS ?_
  | ((with_reducible refine' Rd.xfv ?h1 ?h2 ?h3 ?_); (case h1 => walk_at "hp"); (case h2 => rfl); (case h3 => rfl))
  | ((with_reducible refine' Rd.bmLv ?h1 ?h2 ?_); (case h1 => rfl); (case h2 => walk_at "hp"))
  | ((with_reducible refine' Rd.countL ?h1 ?_); (case h1 => walk_at "hp"))
  | ((with_reducible refine' Rd.sumL ?h1 ?_); (case h1 => walk_at "hp"))
  | ((with_reducible refine' Rd.listL ?h1 ?_); (case h1 => walk_at "hp"))
  | ((with_reducible refine' Rd.listT ?h1 ?_); (case h1 => walk_at "hp"))
  | with_reducible refine Rd.isB ?_
  | with_reducible refine Rd.notBtt ?_
  | with_reducible refine Rd.notBff ?_
  | with_reducible refine Rd.notBtf ?_
  | with_reducible refine Rd.notBft ?_
  | with_reducible refine Rd.notB ?_
  | with_reducible refine Rd.smeth ?_
  | with_reducible refine Rd.sl ?_
  | with_reducible refine Rd.po0 ?_
  | with_reducible refine Rd.poI ?_
  | with_reducible refine Rd.ixi ?_
  | with_reducible refine Rd.par ?_
  | with_reducible refine Rd.par2 ?_
  | with_reducible refine Rd.mk ?_
  | with_reducible refine Rd.mkX ?_
  | with_reducible refine Rd.lcT ?_
  | with_reducible refine Rd.lcL ?_
  | with_reducible refine Rd.lcR ?_
  | with_reducible refine Rd.forT ?_
  | with_reducible refine Rd.forL ?_
  | with_reducible refine Rd.forR ?_
  | with_reducible refine Rd.yes ?_
  | with_reducible refine iteT ?_
  | with_reducible refine iteF ?_
  | with_reducible refine Rd.iteNT ?_
  | with_reducible refine Rd.iteNF ?_
  | with_reducible refine Rd.tup ?_
  | with_reducible refine Rd.lst ?_
  | ((with_reducible refine Rd.eqs ?h1 ?_); (case h1 => rfl))
  | ((with_reducible refine Rd.nes ?h1 ?_); (case h1 => rfl))
  | ((with_reducible refine' Rd.ixL ?h1 ?h2 ?_); (case h1 => walk_at "hp"); (case h2 => first | rfl | assumption))
  | ((with_reducible refine' Rd.ixT ?h1 ?h2 ?_); (case h1 => walk_at "hp"); (case h2 => first | rfl | assumption))
  | ((with_reducible refine' Rd.lenL ?h1 ?_); (case h1 => walk_at "hp"))
  | ((with_reducible refine' Rd.lenT ?h1 ?_); (case h1 => walk_at "hp"))
  | ((with_reducible refine' Rd.setL ?h1 ?h2 ?_); (case h1 => walk_at "hp"); (case h2 => first | rfl | assumption))))
section
variable {base : Heap} {P : Program} {w : World} {mg : Str → Option Value} {K : PySem.W.Frag}
def sp_law (K : PySem.W.Frag) : Sp := fun vs H Q _ => ∃ (a : Addr) (ns : List Int), vs = [.ref a] ∧ SqL K H a (ns.map V.int) ∧ ns.length ≤ 63 ∧ (∀ z ∈ ns, Builtin.Int.intBits z ≤ 1048576) ∧ ∀ H', Q (.bl true) H'
theorem FormAt.lt {p a : Addr} {H H' : Hp} {xs : List Int} (h : FormAt K H a xs) (pl : Pl p H) (l : Lt p H H') : FormAt K H' a xs := by
  obtain ⟨dx, q, h1, h2⟩ := h
  exact ⟨dx, q, l.at (pl.ne_ins h1) h1, l.at (pl.ne_tup h2) h2⟩
theorem FormAt.upd {a l : Addr} {H : Hp} {xs : List Int} {ys : List V} {u : HO} (h : FormAt K H a xs) (hl : H l = some (.lst ys)) : FormAt K (upd H l u) a xs := by
  obtain ⟨dx, q, h1, h2⟩ := h
  exact ⟨dx, q, by rw [upd_ne (ne_of h1 hl (by intro z; cases z))]; exact h1, by rw [upd_ne (ne_of h2 hl (by intro z; cases z))]; exact h2⟩
structure S18 (K : PySem.W.Frag) (H1 : Hp) (p D f : Addr) (zs : List Int) (H : Hp) : Prop where
  lt : Lt p H1 H
  d : H D = some (.lst (zs.map V.int))
  ne : D ≠ p
  F : FormAt K H f zs
section
variable {H1 H H' : Hp} {p D f : Addr} {zs : List Int}
theorem S18.go (S : S18 K H1 p D f zs H) (l : Lt p H H') : S18 K H1 p D f zs H' := ⟨S.lt.trans l, l.at S.ne S.d, S.ne, S.F.lt S.lt.pl l⟩
theorem S18.ext (S : S18 K H1 p D f zs H) (l : Ext H H') : S18 K H1 p D f zs H' := S.go (Lt.of S.lt.pl l)
end
/-- an index refused -/
def encNo (i : Int) : PyData := .list [.str "no", .int i, .bool true, .bool true, .bool false]
theorem encNo_ok : Rd.Enc encNo 1 := ⟨fun a b => by
  unfold encNo
  rw [PyData.eqv, PyData.eqvAll, PyData.eqvAll, PyData.eqvAll, PyData.eqvAll, PyData.eqvAll, PyData.eqvAll, PyData.eqv, PyData.eqv, PyData.eqv, PyData.eqv, Bool.eq_iff_iff]
  simp, fun a => by
    unfold encNo
    rw [PyData.canLay0]
    simp [PyData.canLay0, PyData.canLayAll0]
    decide +kernel,
  fun a => by unfold encNo; simp [PyData.depth, PyData.depthAll]⟩
theorem dp_no {H : Hp} {a : Addr} {i : Int} (h : H a = some (.lst [.str "no", .int i, .bl true, .bl true, .bl false])) : Dp K H (.ref a) (encNo i) :=
  .lst (SqL.of h) (.cons (.str _) (.cons (.int _) (.cons (.bl _) (.cons (.bl _) (.cons (.bl _) .nil)))))
theorem iters (n : Nat) (h : n ≤ 63) : (if (if (n : Int) < 63 then (n : Int) else 63) > 1 then (if (n : Int) < 63 then (n : Int) else 63) else 1).toNat ≤ 63 := by split <;> split <;> omega
theorem ok_law (T : Tx K mg) {fd : FuncData} (F : FunD K "law" "law" (defArgs s_law) (defBody s_law) (defScope s_law) [] [] (a_law K) fd) : FnOk P w K mg base (L2.CX P w) 40 (a_law K) fd P_law (sp_law K) := by
  refine F.ok sc_law (fun vs H Q E h => ?_) (fun cdv A outer s H vs Q E hr h => ?_)
  · obtain ⟨a, ns, rfl, _⟩ := h
    rfl
  · obtain ⟨sc, ns, rfl, hS, hn, hb, k⟩ := h
    refine ⟨_, (pss_cons (ps_for (passes_of rfl) rfl (pi_range1 (by rfl) T.f_range (pa_cons (pe_callB (Rd.c_max rfl) (by rfl) T.f_max Rd.bt_max (pa_cons pe_int (pa_cons (pe_callB (Rd.c_min rfl) (by rfl) T.f_min Rd.bt_min (pa_cons pe_int (pa_cons (pe_callB (Rd.c_len (K := K)) (by rfl) T.f_len Rd.bt_len (pa_cons (pv 0) pa_nil)) pa_nil))) pa_nil))) pa_nil)) (gx 1 sc_law.nd) (pss_cons (sx 2 sc_law.nd (pe_cr (ok_pool T) (hr.mono (by decide)) (kp_of T.d_law_pool) (by rfl) T.g_law_pool (pa_cons (pv 0) (pa_cons (pv 1) pa_nil)))) (pss_cons (ps_setLc (i := 3) (own := [("turn", 4)]) rfl sc_law.nd rfl rfl rfl (pi_range1 (by rfl) T.f_range (pa_cons (pe_cr (ok_take T) (hr.mono (by decide)) (kp_of T.d_law_take) (by rfl) T.g_law_take (pa_cons (pv 2) (pa_cons pe_int pa_nil))) pa_nil)) (blkOk_by (own := [("turn", 4)]) (N := N_law) (sc := defScope s_law) (by decide +kernel)) (fun _ _ _ _ _ => (gx 4 sc_law.nd)) (fun _ _ _ _ _ => pts_nil) (fun _ _ _ _ _ => (pe_cr (ok_number T) (hr.mono (by decide)) (kp_of T.d_law_number) (by rfl) T.g_law_number (pa_cons (pv 2) (pa_cons (pe_op op_pow pe_int pe_int) pa_nil))))) (pss_cons (sx 5 sc_law.nd (pe_callB (Rd.c_len (K := K)) (by rfl) T.f_len Rd.bt_len (pa_cons (pv 3) pa_nil))) (pss_cons (sx 6 sc_law.nd (pe_callTy (Rd.c_list (K := K)) (by rfl) T.f_list Rd.bt_list (pa_cons (pv 3) pa_nil))) (pss_cons (sx 7 sc_law.nd (pe_mk T.k_Form (ok_Form_init T) (hr.mono (by decide)) (by rfl) T.g_Form (pa_cons (pv 6) pa_nil))) (pss_cons (ps_expr (GW.bm (K := K) PySem.F.plainAttrs_list PySem.F.slot_list_append PySem.F.type_list_append mt_append (pv 6) (pa_cons pe_int pa_nil))) (pss_cons (ps_asg (pe_op op_add (pe_ix (GW.ixL (K := K)) (pv 6) pe_int (fun _ _ => rfl)) pe_int) (pg_sub (pv 6) pe_int set_list)) (pss_cons (ps_if (PW.pt (pw_or (pt_not (pt_val (pe_cr (ok_right T) (hr.mono (by decide)) (kp_of T.d_law_right) (by rfl) T.g_law_right (pa_cons (pv 7) (pa_cons (pv 3) pa_nil))))) (pw_or1 (pt_not (pt_val (pe_cr (ok_right T) (hr.mono (by decide)) (kp_of T.d_law_right) (by rfl) T.g_law_right (pa_cons (pe_mk T.k_Form (ok_Form_init T) (hr.mono (by decide)) (by rfl) T.g_Form (pa_cons (pe_callTy (Rd.c_tuple (K := K)) (by rfl) T.f_tuple Rd.bt_tuple (pa_cons (pv 3) pa_nil)) pa_nil)) (pa_cons (pv 3) pa_nil)))))))) (pss_one (ps_ret pe_bl)) pss_nil) (pss_cons (ps_for (passes_of rfl) rfl (GW.pi_list (K := K) (pe_lst (pa_cons (pe_un un_neg pe_int) (pa_cons (pv 5) (pa_cons (pe_op op_sub (pe_un un_neg pe_int) (pe_cr (ok_take T) (hr.mono (by decide)) (kp_of T.d_law_take) (by rfl) T.g_law_take (pa_cons (pv 2) (pa_cons pe_int pa_nil)))) (pa_cons (pe_op op_add (pv 5) (pe_cr (ok_take T) (hr.mono (by decide)) (kp_of T.d_law_take) (by rfl) T.g_law_take (pa_cons (pv 2) (pa_cons pe_int pa_nil)))) (pa_cons (pe_un un_neg (pe_op op_pow pe_int pe_int)) (pa_cons (pe_op op_pow pe_int pe_int) pa_nil)))))))) (gx 8 sc_law.nd) (pss_one (ps_if (pt_cmpR (GW.neD hr.units (K := K)) (pe_cr (ok_item T) (hr.mono (by decide)) (kp_of T.d_law_item) (by rfl) T.g_law_item (pa_cons (pv 7) (pa_cons (pv 8) pa_nil))) (pe_lst (pa_cons pe_str (pa_cons (pv 8) (pa_cons pe_bl (pa_cons pe_bl (pa_cons pe_bl pa_nil)))))) (nomark _)) (pss_one (ps_ret pe_bl)) pss_nil))) (pss_cons (ps_if (PW.pt (pw_or (pt_cmpR op_notBl (pe_cmpR (op_eqO T.m_Form_eq (ok_Form_eq T) (hr.mono (by decide)) passL) (pv 7) (pe_mk T.k_Form (ok_Form_init T) (hr.mono (by decide)) (by rfl) T.g_Form (pa_cons (pe_callTy (Rd.c_list (K := K)) (by rfl) T.f_list Rd.bt_list (pa_cons (pv 3) pa_nil)) pa_nil)) (nomark _)) pe_bl (nomark _)) (pw_or1 (pt_cmpR op_notBl (pe_cmpR (op_eqO T.m_Form_eq (ok_Form_eq T) (hr.mono (by decide)) passL) (pv 7) (pe_mk T.k_Form (ok_Form_init T) (hr.mono (by decide)) (by rfl) T.g_Form (pa_cons (pe_op op_cat (pv 3) (pe_lst (pa_cons pe_int pa_nil))) pa_nil)) (nomark _)) pe_bl (nomark _))))) (pss_one (ps_ret pe_bl)) pss_nil) (pss_cons (sx 9 sc_law.nd (pe_op op_cat (pe_slice (GW.slL (K := K)) (pv 3) (po_some pe_int) po_none) (pe_slice (GW.slL (K := K)) (pv 3) po_none (po_some pe_int)))) (pss_cons (ps_for (passes_of rfl) rfl (GW.pi_list (K := K) (pe_lst (pa_cons (pv 9) (pa_cons (GW.revL (K := K) (pv 3)) (pa_cons (pe_lc (own := [("part", 11)]) rfl sc_law.nd (GW.pi_list (K := K) (pv 3)) (blkOk_by (own := [("part", 11)]) (N := N_law) (sc := defScope s_law) (by decide +kernel)) (fun _ _ _ _ _ => (gx 11 sc_law.nd)) (fun _ _ _ _ _ => pts_nil) (fun _ _ _ _ _ => (pe_un un_neg (pv 11)))) pa_nil))))) (gx 10 sc_law.nd) (pss_one (ps_if (pt_cmpR op_ne (pe_cmpR (op_eqO T.m_Form_eq (ok_Form_eq T) (hr.mono (by decide)) passL) (pv 7) (pe_mk T.k_Form (ok_Form_init T) (hr.mono (by decide)) (by rfl) T.g_Form (pa_cons (pv 10) pa_nil)) (nomark _)) (pe_cmpR (GW.eqD hr.units (K := K)) (pv 10) (pv 3) (nomark _)) (nomark _)) (pss_one (ps_ret pe_bl)) pss_nil))) (pss_cons (ps_for (passes_of rfl) rfl (pi_range1 (by rfl) T.f_range (pa_cons (pv 5) pa_nil)) (gx 12 sc_law.nd) (pss_cons (sx 10 sc_law.nd (pe_callTy (Rd.c_list (K := K)) (by rfl) T.f_list Rd.bt_list (pa_cons (pv 3) pa_nil))) (pss_cons (ps_asg (pe_op op_add (pe_op op_add (pe_ix (GW.ixL (K := K)) (pv 10) (pv 12) (fun _ _ => rfl)) pe_int) (pe_cr (ok_take T) (hr.mono (by decide)) (kp_of T.d_law_take) (by rfl) T.g_law_take (pa_cons (pv 2) (pa_cons pe_int pa_nil)))) (pg_sub (pv 10) (pv 12) set_list)) (pss_cons (ps_if (PW.pt (pw_or (pt_cmpR op_notBl (pe_cmpR (op_eqO T.m_Form_eq (ok_Form_eq T) (hr.mono (by decide)) passL) (pv 7) (pe_mk T.k_Form (ok_Form_init T) (hr.mono (by decide)) (by rfl) T.g_Form (pa_cons (pv 10) pa_nil)) (nomark _)) pe_bl (nomark _)) (pw_or1 (pt_cmpR op_notBl (pe_cmpR (op_eqO T.m_Form_eq (ok_Form_eq T) (hr.mono (by decide)) passL) (pe_mk T.k_Form (ok_Form_init T) (hr.mono (by decide)) (by rfl) T.g_Form (pa_cons (pv 10) pa_nil)) (pv 7) (nomark _)) pe_bl (nomark _))))) (pss_one (ps_ret pe_bl)) pss_nil) (pss_cons (ps_setLc (i := 13) (own := [("at", 8)]) rfl sc_law.nd rfl rfl rfl (pi_range1 (by rfl) T.f_range (pa_cons (pv 5) pa_nil)) (blkOk_by (own := [("at", 8)]) (N := N_law) (sc := defScope s_law) (by decide +kernel)) (fun _ _ _ _ _ => (gx 8 sc_law.nd)) (fun _ _ _ _ _ => pts_nil) (fun _ _ _ _ _ => (pe_callTy Rd.c_int (by rfl) T.f_int Rd.bt_int (pa_cons (pe_cmpR op_eq (pv 8) (pv 12) (nomark _)) pa_nil)))) (pss_one (ps_if (pt_not (pt_val (pe_cr (ok_right T) (hr.mono (by decide)) (kp_of T.d_law_right) (by rfl) T.g_law_right (pa_cons (pe_smeth (pe_glob (v := .ref (He.ga K "Form")) (by rfl) T.g_Form rfl) T.r_Form T.sm_Form_unit (ok_Form_unit T) (hr.mono (by decide)) passL (pa_cons (pv 5) (pa_cons (pv 12) pa_nil))) (pa_cons (pv 13) pa_nil))))) (pss_one (ps_ret pe_bl)) pss_nil))))))) (pss_one (ps_if (PW.pt (pw_or (pt_not (pt_val (pe_cr (ok_right T) (hr.mono (by decide)) (kp_of T.d_law_right) (by rfl) T.g_law_right (pa_cons (pe_smeth (pe_glob (v := .ref (He.ga K "Form")) (by rfl) T.g_Form rfl) T.r_Form T.sm_Form_zero (ok_Form_zero T) (hr.mono (by decide)) passL (pa_cons (pv 5) pa_nil)) (pa_cons (pe_op op_rep (pe_lst (pa_cons pe_int pa_nil)) (pv 5)) pa_nil))))) (pw_or1 (pt_not (pt_val (pe_cr (ok_right T) (hr.mono (by decide)) (kp_of T.d_law_right) (by rfl) T.g_law_right (pa_cons (pv 7) (pa_cons (pv 3) pa_nil)))))))) (pss_one (ps_ret pe_bl)) pss_nil)))))))))))))))) (pss_one (ps_ret pe_bl))), ?_⟩
    walk_at "go"
    refine ⟨_, rfl, ?_, ?_, for_range (fun i σ H => ∃ v1 v2 v3 v4 v5 v6 v7 v8 v9 v10 v11 v12 v13, σ = [some (.ref sc), v1, v2, v3, v4, v5, v6, v7, v8, v9, v10, v11, v12, v13] ∧ SqL K H sc (ns.map V.int)) ⟨_, _, _, _, _, _, _, _, _, _, _, _, _, rfl, hS⟩ ?_ ?_⟩
    · split <;> split <;> omega
    · split <;> split <;> omega
    rotate_left
    · intro σ H' _
      walk_at "go"
      exact k _
    intro i σ H hi hh
    obtain ⟨v1, v2, v3, v4, v5, v6, v7, v8, v9, v10, v11, v12, v13, rfl, hS⟩ := hh
    have hk : i < 63 := by
      rw [List.length_map] at hi
      have := iters ns.length hn
      omega
    rw [Int.zero_add]
    walk_at "go"
    refine mkPool hS hn hk hb fun p H1 np e1 pl1 => ?_
    walk_at "go"
    refine draw pl1 fun r H2 hr2 l2 => ?_
    walk_at "go"
    refine ⟨_, rfl, by omega, by omega, fun D hD => ?_⟩
    rw [Int.toNat_natCast]
    refine lcP (Rd.walk_rangeN) Rd.yrng (by rw [List.length_range]; omega) l2.pl (fun _ => true) (fun _ y _ => ∃ z : Int, y = .int z) (fun _ _ _ _ _ h => h) hD (fun _ _ => trivial) ?_ ?_
    · rintro j it x H' _ acc hit lt ha ⟨rfl, rfl⟩ Qy Qn ky kn
      walk_at "go"
      refine ⟨rfl, ?_⟩
      walk_at "go"
      exact drawN lt.pl fun z H4 _ _ l4 => ky _ _ l4 rfl ⟨z, rfl⟩
    intro ys H3 l3 hys pr
    rw [List.filter_eq_self.mpr (fun _ _ => rfl)] at pr
    obtain ⟨zs, rfl, hz⟩ := intsOf pr
    rw [List.length_range] at hz
    have hz9 : zs.length < 9 := by omega
    have l3 := l2.trans l3
    walk_at "go"
    rw [List.length_map]
    have neD : D ≠ p := l2.pl.ne hD
    intro l hl
    have nl : D ≠ l := ne_of_none hys hl
    walk_at "go"
    refine mk_form (xs := zs) (.inl upd_same) fun f H4 e4 nf F => ?_
    have l4 : Lt p H1 H4 := (l3.new hl).ext e4
    have hl4 : H4 l = some (.lst (zs.map V.int)) := e4 _ _ upd_same
    have nlp : l ≠ p := l3.pl.ne hl
    walk_at "go"
    refine Rd.appendL hl4 (Rd.szl (by simp; omega)) ?_
    obtain ⟨z0, t0, h0⟩ : ∃ z0 t0, zs.map V.int ++ [V.int 1] = V.int z0 :: t0 := by
      cases zs with
      | nil => exact ⟨_, _, rfl⟩
      | cons z t => exact ⟨_, _, rfl⟩
    rw [h0]
    have hat : atI (V.int z0 :: t0) 0 = some (V.int z0) := Rd.nat_at (j := 0) rfl rfl
    have hix : ixN (V.int z0 :: t0).length 0 = some 0 := Rd.ixN_nat rfl (by simp)
    walk_at "go"
    rw [upd_upd]
    have S5 : ∀ u, S18 K H1 p D f zs (upd H4 l u) := fun u => ⟨by
        have := l3.free hl
        exact l4.mut this nlp, by rw [upd_ne nl]; exact e4 _ _ (Rd.new_app hl hys), neD, F.upd hl4⟩
    have S := S5 (.lst ((V.int z0 :: t0).set 0 (.int (z0 + 1))))
    clear S5
    generalize upd H4 l (.lst ((V.int z0 :: t0).set 0 (.int (z0 + 1)))) = H5 at S
    refine ⟨f, D, zs, rfl, S.F, S.d, by omega, fun H6 e6 => ?_⟩
    have S := S.ext e6
    walk_at "go"
    refine Rd.tupL (SqL.of S.d) fun t ht => ?_
    walk_at "go"
    refine mk_form (xs := zs) (.inr upd_same) fun g H7 e7 ng G => ?_
    have S := (S.ext (Ext.upd ht)).ext e7
    walk_at "go"
    refine ⟨g, D, zs, rfl, G, S.d, by omega, fun H8 e8 => ?_⟩
    have S := S.ext e8
    walk_at "go"
    refine draw S.lt.pl fun r1 H9 hr1 l9 => ?_
    have S := S.go l9
    walk_at "go"
    refine draw S.lt.pl fun r2 H10 hr2 l10 => ?_
    have S := S.go l10
    walk_at "go"
    refine ⟨Rd.szr rfl, fun q hq => ?_⟩
    obtain ⟨m, hm, hm2⟩ : ∃ m : Int, (10 : Int) ^ (19 : Int).toNat = m ∧ 100 < m := ⟨_, rfl, by decide⟩
    rw [hm]
    have neq : q ≠ p := l10.pl.ne hq
    have hqc : (upd H10 q (.lst ([-1, (zs.length : Int), -1 - (r1 : Int), (zs.length : Int) + r2, -m, m].map V.int))) q = some (.lst ([-1, (zs.length : Int), -1 - (r1 : Int), (zs.length : Int) + r2, -m, m].map V.int)) := upd_same
    have S := S.ext (Ext.upd (o := .lst ([-1, (zs.length : Int), -1 - (r1 : Int), (zs.length : Int) + r2, -m, m].map V.int)) hq)
    refine ⟨q, rfl, ⟨_, SqL.of hqc⟩, ?_⟩
    change Rd.ForB _ _ _ _ _ (upd H10 q (.lst ([-1, (zs.length : Int), -1 - (r1 : Int), (zs.length : Int) + r2, -m, m].map V.int)))
    generalize upd H10 q (.lst ([-1, (zs.length : Int), -1 - (r1 : Int), (zs.length : Int) + r2, -m, m].map V.int)) = Hc at S hqc
    refine for_list (xs := [-1, (zs.length : Int), -1 - (r1 : Int), (zs.length : Int) + r2, -m, m].map V.int) (fun j σ H => ∃ v, σ = [some (.ref sc), some (.int i), some (.ref p), some (.ref D), v4, some (.int zs.length), some (.ref l), some (.ref f), v, v9, v10, v11, v12, v13] ∧ Lt p Hc H) ⟨_, rfl, Lt.rfl S.lt.pl⟩ ?_ ?_ ?_
    · rintro j σ H' _ ⟨v, _, lt⟩
      exact SqL.of (lt.at neq hqc)
    · rintro j x σ H' hx ⟨v, rfl, lt⟩
      rw [List.getElem?_map] at hx
      obtain ⟨z, hz1, rfl⟩ : ∃ z, [-1, (zs.length : Int), -1 - (r1 : Int), (zs.length : Int) + r2, -m, m][j]? = some z ∧ x = V.int z := by
        cases q : [-1, (zs.length : Int), -1 - (r1 : Int), (zs.length : Int) + r2, -m, m][j]? with
        | none => rw [q] at hx; cases hx
        | some z => rw [q] at hx; exact ⟨z, rfl, (Option.some.inj hx).symm⟩
      have hz2 : z < 0 ∨ (zs.length : Int) ≤ z := by
        have := List.mem_of_getElem? hz1
        simp only [List.mem_cons, List.not_mem_nil, or_false] at this
        omega
      have S := S.go lt
      walk_at "go"
      refine ⟨f, zs, z, rfl, S.F, fun b H2 e2 nb hb2 => ?_⟩
      rw [item_out hz2] at hb2
      walk_at "go"
      refine ⟨Rd.szr rfl, fun b2 nb2 => ?_⟩
      refine Rd.neD encNo_ok (dp_no (Rd.new_app nb2 hb2)) (dp_no upd_same) ?_
      rw [decide_eq_true rfl]
      walk_at "go"
      exact ⟨_, rfl, (lt.ext e2).new nb2⟩
    rintro σ H' ⟨v, rfl, lt⟩
    have S := S.go lt
    walk_at "go"
    refine Rd.listL (SqL.of S.d) fun l2 hl2 => ?_
    walk_at "go"
    refine mk_form (xs := zs) (.inl upd_same) fun g1 H11 e11 ng1 G1 => ?_
    have S := (S.ext (Ext.upd hl2)).ext e11
    refine eq_form_t S.F G1 ?_
    walk_at "go"
    refine ⟨Rd.szr rfl, fun o1 ho1 => ?_⟩
    have S := S.ext (Ext.upd (o := .lst [V.int 0]) ho1)
    refine Rd.catL S.d upd_same (Rd.sz (by simp; omega)) fun o2 ho2 => ?_
    have S := S.ext (Ext.upd (o := .lst (zs.map V.int ++ [V.int 0])) ho2)
    walk_at "go"
    refine mk_form (xs := zs ++ [0]) (.inl (by rw [upd_same, List.map_append]; rfl)) fun g2 H12 e12 ng2 G2 => ?_
    have S := S.ext e12
    refine eq_form_f S.F G2 (fun e => by have := congrArg List.length e; simp at this) ?_
    walk_at "go"
    refine Rd.cutI (SqL.of S.d) fun c1 ts1 hts1 hc1 => ?_
    have S := S.ext (Ext.upd (o := .lst (ts1.map V.int)) hc1)
    walk_at "go"
    refine Rd.cutI (SqL.of S.d) fun c2 ts2 hts2 hc2 => ?_
    have S := S.ext (Ext.upd (o := .lst (ts2.map V.int)) hc2)
    refine Rd.catI (Rd.new_app hc2 upd_same) upd_same (by omega) fun b1 hb1 => ?_
    have hq1 : (upd (upd (upd H12 c1 (.lst (ts1.map V.int))) c2 (.lst (ts2.map V.int))) b1 (.lst ((ts1 ++ ts2).map V.int))) b1 = some (.lst ((ts1 ++ ts2).map V.int)) := upd_same
    have np1 : b1 ≠ p := S.lt.pl.ne hb1
    have S := S.ext (Ext.upd (o := .lst ((ts1 ++ ts2).map V.int)) hb1)
    generalize upd (upd (upd H12 c1 (.lst (ts1.map V.int))) c2 (.lst (ts2.map V.int))) b1 (.lst ((ts1 ++ ts2).map V.int)) = H13 at S hq1
    walk_at "go"
    refine Rd.revI rfl (SqL.of S.d) fun b2 hb2 => ?_
    have hq2 : (upd H13 b2 (.lst (zs.reverse.map V.int))) b2 = some (.lst (zs.reverse.map V.int)) := upd_same
    have hq1 := Rd.new_app (u := .lst (zs.reverse.map V.int)) hb2 hq1
    have np2 : b2 ≠ p := S.lt.pl.ne hb2
    have S := S.ext (Ext.upd (o := .lst (zs.reverse.map V.int)) hb2)
    generalize upd H13 b2 (.lst (zs.reverse.map V.int)) = H14 at S hq1 hq2
    walk_at "go"
    refine ⟨D, rfl, ⟨_, SqL.of S.d⟩, fun b3 hb3 => ?_⟩
    refine Rd.lcE (emb := V.int) (Rd.walk_listM (K := K) (a := D)) Rd.yat (by omega) (fun _ => true) (fun z y _ => y = .int (-z)) (fun _ _ _ _ _ h => h) hb3 (fun H' e => SqL.of (e _ _ S.d)) ?_ ?_
    · intro j it H' acc hi e ha Qy Qn ky kn
      walk_at "go"
      refine ⟨rfl, ?_⟩
      walk_at "go"
      exact ky _ _ Rd.ext_rfl rfl rfl
    intro ys15 H15 e15 hq3 pr15
    have np3 : b3 ≠ p := S.lt.pl.ne hb3
    have S := S.ext e15
    have hq1 := e15 _ _ hq1
    have hq2 := e15 _ _ hq2
    rw [List.filter_eq_self.mpr (fun _ _ => rfl)] at pr15
    have e3 := Rd.paired_map pr15
    rw [e3, show (zs.map fun z => V.int (-z)) = (zs.map fun z => -z).map V.int by rw [List.map_map]; rfl] at hq3
    clear pr15 e3
    walk_at "go"
    refine ⟨Rd.szr rfl, fun q4 hq4 => ?_⟩
    have np4 : q4 ≠ p := S.lt.pl.ne hq4
    have S := S.ext (Ext.upd (o := .lst [.ref b1, .ref b2, .ref b3]) hq4)
    have hq1 := Rd.new_app (u := .lst [.ref b1, .ref b2, .ref b3]) hq4 hq1
    have hq2 := Rd.new_app (u := .lst [.ref b1, .ref b2, .ref b3]) hq4 hq2
    have hq3 := Rd.new_app (u := .lst [.ref b1, .ref b2, .ref b3]) hq4 hq3
    have hq5 : (upd H15 q4 (.lst [.ref b1, .ref b2, .ref b3])) q4 = some (.lst [.ref b1, .ref b2, .ref b3]) := upd_same
    generalize upd H15 q4 (.lst [.ref b1, .ref b2, .ref b3]) = H16 at S hq1 hq2 hq3 hq5
    have any3 : ∀ (x : V), x ∈ [V.ref b1, .ref b2, .ref b3] → ∃ b ts, x = .ref b ∧ b ≠ p ∧ H16 b = some (.lst ((ts : List Int).map V.int)) := by
      intro x hx
      simp only [List.mem_cons, List.not_mem_nil, or_false] at hx
      rcases hx with rfl | rfl | rfl
      · exact ⟨_, _, rfl, np1, hq1⟩
      · exact ⟨_, _, rfl, np2, hq2⟩
      · exact ⟨_, _, rfl, np3, hq3⟩
    refine ⟨q4, rfl, ⟨_, SqL.of hq5⟩, ?_⟩
    refine for_list (xs := [V.ref b1, .ref b2, .ref b3]) (fun j σ H => ∃ u, σ = [some (.ref sc), some (.int i), some (.ref p), some (.ref D), v4, some (.int zs.length), some (.ref l), some (.ref f), v, some (.ref b1), u, v11, v12, v13] ∧ Lt p H16 H) ⟨_, rfl, Lt.rfl S.lt.pl⟩ ?_ ?_ ?_
    · rintro j σ H' _ ⟨v, _, lt⟩
      exact SqL.of (lt.at np4 hq5)
    · rintro j x σ H' hx ⟨u, rfl, lt⟩
      obtain ⟨b, ts, rfl, npb, hb⟩ := any3 x (List.mem_of_getElem? hx)
      have S := S.go lt
      have hb := lt.at npb hb
      walk_at "go"
      refine mk_form (xs := ts) (.inl hb) fun g H17 e17 ng G => ?_
      have S := S.ext e17
      refine eq_form S.F G ?_
      walk_at "go"
      refine Rd.eqD Rd.encInts (Rd.dp_ints (SqL.of (e17 _ _ hb))) (Rd.dp_ints (SqL.of S.d)) ?_
      refine Rd.neSame (by rw [Bool.eq_iff_iff]; simp [eq_comm]) ?_
      walk_at "go"
      exact ⟨_, rfl, lt.ext e17⟩
    rintro σ H' ⟨u, rfl, lt⟩
    have S := S.go lt
    walk_at "go"
    refine ⟨_, rfl, by omega, by omega, ?_⟩
    rw [Int.toNat_natCast]
    refine for_range (fun j σ H => ∃ u8 u10 u11 u12 u13, σ = [some (.ref sc), some (.int i), some (.ref p), some (.ref D), v4, some (.int zs.length), some (.ref l), some (.ref f), u8, some (.ref b1), u10, u11, u12, u13] ∧ S18 K H1 p D f zs H) ⟨_, _, _, _, _, rfl, S⟩ ?_ ?_
    · rintro j σ H17 hj ⟨u8, u10, u11, u12, u13, rfl, S⟩
      rw [Int.zero_add]
      have hat : atI (zs.map V.int) (j : Int) = some (V.int zs[j]) := Rd.nat_at rfl (by rw [List.getElem?_map, List.getElem?_eq_getElem hj]; rfl)
      walk_at "go"
      refine Rd.listL (SqL.of S.d) fun b hb => ?_
      have npb : b ≠ p := S.lt.pl.ne hb
      have hbb : (upd H17 b (.lst (zs.map V.int))) b = some (.lst (zs.map V.int)) := upd_same
      have Sb := S.ext (Ext.upd (o := .lst (zs.map V.int)) hb)
      walk_at "go"
      refine draw Sb.lt.pl fun r5 H18 hr5 l18 => ?_
      have hb18 := l18.at npb hbb
      have l18b : Lt p H17 H18 := (Lt.of S.lt.pl (Ext.upd hb)).trans l18
      walk_at "go"
      refine Rd.setI hb18 rfl hj ?_
      have l19 : Lt p H17 (upd H18 b (.lst ((zs.set j (zs[j] + 1 + r5)).map V.int))) := l18b.mut hb npb
      have S := S.go l19
      have hb19 : (upd H18 b (.lst ((zs.set j (zs[j] + 1 + r5)).map V.int))) b = some (.lst ((zs.set j (zs[j] + 1 + r5)).map V.int)) := upd_same
      generalize upd H18 b (.lst ((zs.set j (zs[j] + 1 + r5)).map V.int)) = H19 at S hb19
      have ne : zs ≠ zs.set j (zs[j] + 1 + r5) := fun e => by
        have e2 : zs[j]? = (zs.set j (zs[j] + 1 + r5))[j]? := by rw [← e]
        rw [List.getElem?_set_self hj, List.getElem?_eq_getElem hj] at e2
        have := Option.some.inj e2
        omega
      walk_at "go"
      refine mk_form (xs := zs.set j (zs[j] + 1 + r5)) (.inl hb19) fun g H20 e20 ng G => ?_
      have S := S.ext e20
      refine eq_form_f S.F G ne ?_
      walk_at "go"
      refine mk_form (xs := zs.set j (zs[j] + 1 + r5)) (.inl (e20 _ _ hb19)) fun g2 H21 e21 ng2 G2 => ?_
      have S := S.ext e21
      walk_at "go"
      refine eq_form_f G2 S.F (fun e => ne e.symm) ?_
      walk_at "go"
      refine ⟨_, rfl, by omega, by omega, fun D2 hD2 => ?_⟩
      rw [Int.toNat_natCast]
      refine Rd.lcE (emb := fun m : Nat => V.int m) Rd.walk_rangeN Rd.yrng (by rw [List.length_range]; omega) (fun _ => true) (fun m y _ => y = .int (if (m : Int) = (j : Int) then 1 else 0)) (fun _ _ _ _ _ h => h) hD2 (fun H' e => trivial) ?_ ?_
      · intro ix it H' acc hi e ha Qy Qn ky kn
        walk_at "go"
        refine ⟨rfl, ?_⟩
        walk_at "go"
        refine ky _ _ Rd.ext_rfl rfl ?_
        simp [dec_int]
      intro ys22 H22 e22 hy22 pr22
      have S := S.ext e22
      have e2 := Rd.paired_map pr22
      rw [List.filter_eq_self.mpr (fun _ _ => rfl)] at e2
      have hu : H22 D2 = some (.lst ((unitL zs.length j).map V.int)) := by rw [hy22, e2]; simp [unitL]
      clear e2 hy22 pr22
      walk_at "go"
      refine ⟨zs.length, j, rfl, by omega, fun x H23 e23 nx X => ?_⟩
      have S := S.ext e23
      walk_at "go"
      refine ⟨x, D2, unitL zs.length j, rfl, X, e23 _ _ hu, by simp [unitL]; omega, fun H24 e24 => ?_⟩
      have S := S.ext e24
      walk_at "go"
      exact ⟨_, _, _, _, _, rfl, S⟩
    rintro σ H25 ⟨u8, u10, u11, u12, u13, rfl, S⟩
    walk_at "go"
    refine ⟨zs.length, rfl, by omega, fun x H26 e26 nx X => ?_⟩
    have S := S.ext e26
    walk_at "go"
    refine ⟨Rd.szr rfl, fun o1 ho1 => ?_⟩
    have S := S.ext (Ext.upd (o := .lst [V.int 0]) ho1)
    walk_at "go"
    refine Rd.repI upd_same (by omega) fun o2 ho2 => ?_
    have S := S.ext (Ext.upd (o := .lst ((zeroL zs.length).map V.int)) ho2)
    walk_at "go"
    refine ⟨x, o2, zeroL zs.length, rfl, X.ext ((Ext.upd ho1).trans (Ext.upd ho2)), upd_same, by simp [zeroL]; omega, fun H27 e27 => ?_⟩
    have S := S.ext e27
    walk_at "go"
    refine ⟨f, D, zs, rfl, S.F, S.d, by omega, fun H28 e28 => ?_⟩
    have S := S.ext e28
    walk_at "go"
    exact ⟨_, _, _, _, _, _, _, _, _, _, _, _, _, rfl, SqL.later hS np e1 S.lt⟩
end
end Lv

set_option Elab.async false
set_option linter.all false
set_option maxRecDepth 100000
set_option maxHeartbeats 0
namespace Lv
open PySem PySem.Spec PyProof.Rows L2 OwX
abbrev R : PySem.W.OpenRow := PySem.W.OpenLaw.row PySem.Challenge.rw_levelcascades_k18_forms_told
abbrev hk : PySem.W.Hook := HeZ.hookZ 5 fb fn tf
def ob (s : PySem.W.SharedT) : HeZ.AlZ := HeZ.obsZ 5 fb fn tf (HandSHeadRun.getT s)
theorem ob_eq (s : PySem.W.SharedT) : ob s = hk.obs s.abs := HeZ.obsZ_eq (HandSHeadRun.getT_eq s)
theorem run (w : World) : HandSHeadRun.RunEq R (PySem.W.view R.prog [lawAt]) hk ob 8000 names w := by
  intro os
  kernel_rfl
end Lv

set_option Elab.async false
set_option linter.all false
set_option maxRecDepth 100000
set_option maxHeartbeats 0
/-! The law holds. -/
namespace Lv
open PySem PySem.Spec PyProof.Rows L2 OwX
theorem no_exc (P : Program) (w : World) (H : Hp) (s : Shared) (e : Value) (s' : Shared) (h : L2.CX P w [] H s (fun _ _ _ => False) e s') : False := by
  obtain ⟨_, _, _, _, _, _, _, _, _, _, _, _, z⟩ := h
  exact z
theorem facts {w : World} {K : PySem.W.Frag} {h : Heap} {mg : Str → Option Value} {f : Addr} (X : K.In h) (G : h.Ns mainGlobals mg) (hfa : mg ("law" : Str) = some (.ref f)) (c : HeZ.SaysZ fb fn tf h K) : LamX.LawAtS PySem.Challenge.rw_levelcascades_k18_forms_told w K (L2.CX (PySem.Challenge.rw_levelcascades_k18_forms_told).prog w) 40 63 "script" mg f h := by
  have T : Tx K mg := ⟨h, X, G, c⟩
  obtain ⟨fd, F⟩ := T.d_law
  have e := hfa.symm.trans T.g_law
  cases e
  have b := FunD.bindsA (ps := ["script"]) F fun _ _ _ _ _ _ us hl => match us, hl with | [_], _ => rfl
  exact ⟨fd, [], sp_law K, by simp, by simp, by simp, fun s v => b s [v] rfl, fun H a ns hl hb _ hS => ⟨a, ns, rfl, hS, hl, hb, fun _ => rfl⟩, fun base _ _ _ => ok_law T F⟩
end Lv
open PySem PySem.W PySem.Calls PyProof.Rows
theorem PySem.Challenge.cw_levelcascades_k18_forms_told_holds : PySem.Challenge.rw_levelcascades_k18_forms_told.Holds := by
  w_on; o_law
  refine HandSHeadRun.head_any (r := OpenLaw.row PySem.Challenge.rw_levelcascades_k18_forms_told) (q := view (OpenLaw.row PySem.Challenge.rw_levelcascades_k18_forms_told).prog [Lv.lawAt]) (H := Lv.hk) (ob := Lv.ob) (M := 8000) (loose := Lv.names) (d := HandSHeadRun.topDef (OpenLaw.row PySem.Challenge.rw_levelcascades_k18_forms_told).prog Lv.lawAt) (kwd := []) Lv.ob_eq
    (by kernel_rfl) (fun s => by kernel_rfl) Lv.run (by kernel_rfl) (by kernel_rfl) (by kernel_rfl) (by rfl) (by first | assumption | decide +kernel) (by decide +kernel) ⟨rfl, rfl, rfl, rfl, rfl, by decide +kernel⟩ ?hw ?hc
  case hw => w_witness2
  case hc =>
    refine LamX.walk_ofTsE (l := PySem.Challenge.rw_levelcascades_k18_forms_told) (n := 63) (k := 40) (x := "script") (CX := fun w => L2.CX (PySem.Challenge.rw_levelcascades_k18_forms_told).prog w) rfl (by decide) (by kernel_rfl) ⟨rfl, by decide, by decide⟩ ?F (fun w H s e s' h => Lv.no_exc _ _ H s e s' h)
    intro w mg fa h Y G hmg0
    obtain ⟨K, KX, c⟩ := Y
    have hmg : mg ("law" : PySem.Str) = some (.ref fa) := by
      have e : (HandSHeadRun.topDef (OpenLaw.row PySem.Challenge.rw_levelcascades_k18_forms_told).prog Lv.lawAt).name = ("law" : PySem.Str) := by kernel_rfl
      rw [← e]
      exact hmg0
    exact ⟨K, KX, Lv.facts KX G hmg c⟩

