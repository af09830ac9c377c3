import PyProof.Rows.All
import Wide.All
import OpenK.AllK
import Wide.FinOn
import KE.KOpsOwn
import HandS.ForMost
import HandS.ForExc
import HandS.More
import HandS.Star
import HandS.ClsMeth
import HandS.OwnEq
import HandS.ExcInit
import HandS.Property
import KE.KStateDown
import HandS.Head0
import HandS.Head1
import HandS.Head2
import HandS.HeadEnd
import HandS.HeadHook1
import HandS.HeadHook2
import HandS.HeadHook3
import HandS.HeadHook4
import HandS.HeadNt
import HandS.HeadWalk
import KE.KExcIs
import HandS.IsInst
import HandS.ExcIs
import HandS.ExcField
import HandS.TryMany
import HandS.Wide
import HandS.SetFor
import HandS.Style
import HandS.Flow
import HandS.Deep
import HandS.Codes
import HandS.Comp
import HandS.Zip
import HandS.Walk
import HandS.TupAny
import HandS.TupMul
import HandS.Small
import HandS.NoneIn
import HandS.DictComp
import PySem.Challenge.RW_levelcascades_k56_least_and_flipped_sets
set_option Elab.async false
set_option linter.all false
set_option maxRecDepth 100000
set_option maxHeartbeats 0
/-! Operators that a class of the text defines itself, as rules of readings; static methods. -/
namespace OwX
open PySem PySem.Spec PyProof.Rows L2 ClX
section
variable {X : Cx} {CX : CXT} {k : Nat} {C g : Addr} {sp : Sp} {E : XK} {pins : List (Addr × Obj)} {σ : L2.St} {H : Hp} {s : Shared} {Q : VK}
/-- a def runs at an around with the body's frames -/
theorem call_own {A' : Around} {us : List Value} {vs : List V} (F : FnR X.prog X.w X.K X.mg X.base CX k g sp) (hr : Room k A') (hfr : A'.frames = X.A.frames) (hx : Passes CX X E) (I : Inv X pins σ H s) (r : Vals vs us) (h : sp vs H Q E) :
    wpAny (model X.prog X.w) A' (call (.ref g) us) (EP X pins σ Q) X.xe s := by
  have e := I.env0
  refine wpAny_call (codeAny_mono (F A' X.stack s H us vs Q E hr ⟨by rw [hfr]; exact e.frames, e.mod, e.bs, e.bsz, e.funs, e.frf, e.hok, e.bare⟩ r h) fun r s' hq => ?_)
  cases r with
  | error er => exact hx pins σ H s er s' I hq
  | ok fl =>
    cases fl with
    | ret u => exact I.after hq
    | next => exact False.elim hq
    | brk => exact False.elim hq
    | cont => exact False.elim hq
/-- an instance of C, as the library looks at it -/
theorem inst_at {a dx : Addr} {fs : List (Str × V)} (I : Inv X pins σ H s) (h : H a = some (.ins C dx fs)) : ∃ od, PySem.W.InstAt s.heap a (PySem.W.instObj C dx) C (some od) := by
  obtain ⟨mA, O, _⟩ := ins_get I.hok h
  obtain ⟨od, J, _⟩ := O.look
  exact ⟨od, J⟩
/-- x and y are instances of C; the own method's promise -/
def rOwn2 (C : Addr) (sp : Sp) (E : XK) : R2 := fun x y H Q => ∃ a b dx dy fs gs, x = .ref a ∧ y = .ref b ∧ H a = some (.ins C dx fs) ∧ H b = some (.ins C dy gs) ∧ sp [.ref a, .ref b] H (fun v H' => (∃ c, v = .bl c) ∧ Q v H') E
/-- x a value, y an instance: in, not in -/
def rOwnIn (C : Addr) (sp : Sp) (E : XK) (neg : Bool) : R2 := fun x y H Q => ∃ b dy gs, y = .ref b ∧ H b = some (.ins C dy gs) ∧ sp [.ref b, x] H (fun v H' => ∃ c, v = .bl c ∧ Q (.bl (if neg then !c else c)) H') E
/-- x and y are instances, a value that is no NotImplemented comes out -/
def rOwnB (C : Addr) (sp : Sp) (E : XK) : R2 := fun x y H Q => ∃ a b dx dy fs gs, x = .ref a ∧ y = .ref b ∧ H a = some (.ins C dx fs) ∧ H b = some (.ins C dy gs) ∧ sp [.ref a, .ref b] H Q E
theorem cmpBack {v : Value} {s' : Shared} {P : Value → Shared → Prop} {w : V} (r : RelV w v) (h : P v s') : PySem.W.CmpBack P v s' := by
  cases w with
  | non => cases r; exact h
  | bl b => cases r; exact h
  | int i => obtain ⟨t, rfl⟩ := r; exact h
  | str x => obtain ⟨t, rfl⟩ := r; exact h
  | byt b => obtain ⟨t, rfl⟩ := r; exact h
  | flt b => obtain ⟨t, rfl⟩ := r; exact h
  | ref a => cases r; exact h
  | ty n => cases r; exact h
theorem cmp_own {op : CmpOp} {n : Str} (hn : (cmpInfo op).2.1 = n) (m : Meth X.K C n g) (F : FnR X.prog X.w X.K X.mg X.base CX k g sp) (hr : Room k X.A) (hx : Passes CX X E) {x y : V} {v u : Value} (I : Inv X pins σ H s) (rx : RelV x v) (ry : RelV y u)
    (h : rOwn2 C sp E x y H Q) : wpAny (model X.prog X.w) X.A (richCompare op v u) (EP X pins σ Q) X.xe s := by
  obtain ⟨a, b, dx, dy, fs, gs, rfl, rfl, ha, hb, hs⟩ := h
  cases rx
  cases ry
  obtain ⟨od, J⟩ := inst_at I ha
  obtain ⟨od', J'⟩ := inst_at I hb
  obtain ⟨m0, hF⟩ := I.fr
  refine PySem.W.cmp_K (op := op) (tb := .ref C) hr.units0 hF I.ok.mod.kin J J'.type (by simp [PySem.W.notFirst]) (by rw [hn]; exact m.at_) m.fn ?_
  refine thn (call_own (vs := [.ref a, .ref b]) F hr rfl hx I (.cons rfl (.cons rfl .nil)) hs) fun r s' hq => ?_
  obtain ⟨w, H', I', rw', hc, q⟩ := hq
  exact cmpBack rw' ⟨w, H', I', rw', q⟩
theorem op_eqO (m : Meth X.K C "__eq__" g) (F : FnR X.prog X.w X.K X.mg X.base CX k g sp) (hr : Room k X.A) (hx : Passes CX X E) : OpR X (compareOp .Eq) (rOwn2 C sp E) := by
  intro pins s σ H x y v u Q I rx ry hq
  exact cmp_own (op := .Eq) rfl m F hr hx I rx ry hq
theorem op_leO (m : Meth X.K C "__le__" g) (F : FnR X.prog X.w X.K X.mg X.base CX k g sp) (hr : Room k X.A) (hx : Passes CX X E) : OpR X (compareOp .LtE) (rOwn2 C sp E) := by
  intro pins s σ H x y v u Q I rx ry hq
  exact cmp_own (op := .LtE) rfl m F hr hx I rx ry hq
theorem op_inO (m : Meth X.K C "__contains__" g) (F : FnR X.prog X.w X.K X.mg X.base CX k g sp) (hr : Room k X.A) (hx : Passes CX X E) : OpR X (compareOp .In) (rOwnIn C sp E false) := by
  intro pins s σ H x y v u Q I rx ry hq
  obtain ⟨b, dy, gs, rfl, hb, hs⟩ := hq
  cases ry
  obtain ⟨od, J⟩ := inst_at I hb
  obtain ⟨m0, hF⟩ := I.fr
  refine PySem.W.in_K hF I.ok.mod.kin J m.at_ m.fn ?_
  refine thn (call_own (vs := [.ref b, x]) F hr rfl hx I (.cons rfl (.cons rx .nil)) hs) fun r s' hq => ?_
  obtain ⟨w, H', I', rw', c, rfl, q⟩ := hq
  cases rw'
  exact wpAny_truthy_bool ⟨.bl c, H', I', rfl, q⟩
theorem op_niO (m : Meth X.K C "__contains__" g) (F : FnR X.prog X.w X.K X.mg X.base CX k g sp) (hr : Room k X.A) (hx : Passes CX X E) : OpR X (compareOp .NotIn) (rOwnIn C sp E true) := by
  intro pins s σ H x y v u Q I rx ry hq
  obtain ⟨b, dy, gs, rfl, hb, hs⟩ := hq
  cases ry
  obtain ⟨od, J⟩ := inst_at I hb
  obtain ⟨m0, hF⟩ := I.fr
  refine PySem.W.notIn_K hF I.ok.mod.kin J m.at_ m.fn ?_
  refine thn (call_own (vs := [.ref b, x]) F hr rfl hx I (.cons rfl (.cons rx .nil)) hs) fun r s' hq => ?_
  obtain ⟨w, H', I', rw', c, rfl, q⟩ := hq
  cases rw'
  exact wpAny_truthy_bool ⟨.bl (!c), H', I', rfl, q⟩
/-- a binary operator of two instances -/
theorem op_binO {op : Operator} {n : Str} (hn : PySem.dunder op.info.2 = n) (hc : PySem.W.selfFirst X.K C = true) (m : Meth X.K C n g) (F : FnR X.prog X.w X.K X.mg X.base CX k g sp) (hr : Room k X.A) (hx : Passes CX X E) : OpR X (binaryOp op) (rOwnB C sp E) := by
  intro pins s σ H x y v u Q I rx ry hq
  obtain ⟨a, b, dx, dy, fs, gs, rfl, rfl, ha, hb, hs⟩ := hq
  cases rx
  cases ry
  obtain ⟨od, J⟩ := inst_at I ha
  obtain ⟨od', J'⟩ := inst_at I hb
  obtain ⟨m0, hF⟩ := I.fr
  refine PySem.W.binop_K hF I.ok.mod.kin J J'.type hc (by rw [hn]; exact m.at_) m.fn ?_
  refine thn (call_own (vs := [.ref a, .ref b]) F hr rfl hx I (.cons rfl (.cons rfl .nil)) hs) fun r s' hq => ?_
  obtain ⟨w, H', I', rw', q⟩ := hq
  exact cmpBack rw' ⟨w, H', I', rw', q⟩
/-- ~x, -x -/
def rOwn1 (C : Addr) (sp : Sp) (E : XK) : V → Hp → VK → Prop := fun x H Q => ∃ a dx fs, x = .ref a ∧ H a = some (.ins C dx fs) ∧ sp [.ref a] H Q E
theorem un_invO (m : Meth X.K C "__invert__" g) (F : FnR X.prog X.w X.K X.mg X.base CX k g sp) (hr : Room k X.A) (hx : Passes CX X E) : UnR X (unaryOp .Invert) (rOwn1 C sp E) := by
  intro pins s σ H x v Q I rx hq
  obtain ⟨a, dx, fs, rfl, ha, hs⟩ := hq
  cases rx
  obtain ⟨od, J⟩ := inst_at I ha
  obtain ⟨m0, hF⟩ := I.fr
  exact PySem.W.ksp_inv hF I.ok.mod.kin J m.at_ m.fn (call_own (vs := [.ref a]) F hr rfl hx I (.cons rfl .nil) hs)
/-- len(x) by an own __len__ -/
def rOwnLen (C : Addr) (sp : Sp) (E : XK) : List V → Hp → VK → Prop := fun xs H Q => ∃ a dx fs, xs = [.ref a] ∧ H a = some (.ins C dx fs) ∧ sp [.ref a] H (fun v H' => ∃ n : Int, v = .int n ∧ 0 ≤ n ∧ n < 2 ^ 63 ∧ Q (.int n) H') E
theorem call_lenO (m : Meth X.K C "__len__" g) (F : FnR X.prog X.w X.K X.mg X.base CX k g sp) (hr : Room (k + 1) X.A) (hx : Passes CX X E) : CallR X (.builtin "len") (rOwnLen C sp E) := by
  intro pins s σ H xs us Q I r h
  obtain ⟨a, dx, fs, rfl, ha, hs⟩ := h
  obtain ⟨u, rfl, rx⟩ := vals1 r
  cases rx
  obtain ⟨od, J⟩ := inst_at I ha
  obtain ⟨m0, hF⟩ := I.fr
  refine PySem.W.len_K hF I.ok.mod.kin J m.at_ m.fn ?_
  refine thn (call_own (vs := [.ref a]) F hr.in1 rfl hx I (.cons rfl .nil) hs) fun r s' hq => ?_
  obtain ⟨w, H', I', rw', n, rfl, h0, h1, q⟩ := hq
  obtain ⟨t, rfl⟩ := rw'
  exact ⟨⟨h0, h1⟩, ⟨.int n, H', I'.tok _, ⟨_, rfl⟩, q⟩⟩
/-- the truth of an instance by its own __bool__ -/
def rOwnTru (C : Addr) (sp : Sp) (E : XK) : V → Hp → (Bool → Hp → Prop) → Prop := fun x H Q => ∃ a dx fs, x = .ref a ∧ H a = some (.ins C dx fs) ∧ sp [.ref a] H (fun v H' => ∃ c, v = .bl c ∧ Q c H') E
theorem truthy_own (m : Meth X.K C "__bool__" g) (F : FnR X.prog X.w X.K X.mg X.base CX k g sp) {A' : Around} (hr : Room k A') (hfr : A'.frames = X.A.frames) (hx : Passes CX X E) {x : V} {v : Value} {Q : Bool → Hp → Prop} (I : Inv X pins σ H s) (rx : RelV x v) (h : rOwnTru C sp E x H Q) :
    wpAny (model X.prog X.w) A' (truthy v) (TP X pins σ Q) X.xe s := by
  obtain ⟨a, dx, fs, rfl, ha, hs⟩ := h
  cases rx
  obtain ⟨od, J⟩ := inst_at I ha
  obtain ⟨m0, hF⟩ := I.fr
  refine PySem.W.truthy_K hF I.ok.mod.kin J m.at_ m.fn ?_
  refine thn (call_own (vs := [.ref a]) F hr hfr hx I (.cons rfl .nil) hs) fun r s' hq => ?_
  obtain ⟨w, H', I', rw', c, rfl, q⟩ := hq
  cases rw'
  exact ⟨H', I', q⟩
theorem tru_own (m : Meth X.K C "__bool__" g) (F : FnR X.prog X.w X.K X.mg X.base CX k g sp) (hr : Room k X.A) (hx : Passes CX X E) : TruR X (rOwnTru C sp E) := by
  intro pins s σ H x v Q I rx h
  exact truthy_own m F hr rfl hx I rx h
/-- x[i] by an own __getitem__ -/
def rOwnIx (C : Addr) (sp : Sp) (E : XK) : R2 := fun x y H Q => ∃ a dx fs, x = .ref a ∧ H a = some (.ins C dx fs) ∧ sp [.ref a, y] H Q E
theorem pe_ixO {a b : Expr} {ta tb : TE} {pos : Pos} (m : Meth X.K C "__getitem__" g) (hf : PySem.W.fnIn X.K g = true) (F : FnR X.prog X.w X.K X.mg X.base CX k g sp) (hr : Room (k + 1) X.A) (hx : Passes CX X E) (ha : PE X a ta) (hb : PE X b tb)
    (hs : ∀ x i, subscripted b true (.ref x) i = runValue (.builtin "lifetime.subscript" ⟨[.ref x, i], []⟩) := by intro _ _; rfl) : PE X (.Subscript a b pos) (tOp (rOwnIx C sp E) ta tb) := by
  refine ⟨fun pins s σ H Q I h => ?_⟩
  refine Subscript_ (binT ha hb I h fun v u s2 x y H2 I2 rx ry q => ?_)
  obtain ⟨p, dx, fs, rfl, hp, hsp⟩ := q
  cases rx
  obtain ⟨od, J⟩ := inst_at I2 hp
  obtain ⟨m0, hF⟩ := I2.fr
  exact PySem.W.sub_K hF I2.ok.mod.kin J m.at_ hf m.fn (call_own (vs := [.ref p, y]) F hr.in1 rfl hx I2 (.cons rfl (.cons ry .nil)) hsp) (hs _ _)
/-- x[i] = v by an own __setitem__ -/
def rOwnSet (C : Addr) (sp : Sp) (E : XK) : TSet := fun o i v H Q => ∃ a dx fs, o = .ref a ∧ H a = some (.ins C dx fs) ∧ sp [.ref a, i, v] H (fun _ H' => Q H') E
theorem set_own (hq : PySem.W.noSeq X.K C = true) (m : Meth X.K C "__setitem__" g) (F : FnR X.prog X.w X.K X.mg X.base CX k g sp) (hr : Room k X.A) (hx : Passes CX X E) : PSet X (rOwnSet C sp E) := by
  intro pins s σ H o i v ou iu vu Q I ro ri rv h
  obtain ⟨a, dx, fs, rfl, ha, hs⟩ := h
  cases ro
  obtain ⟨od, J⟩ := inst_at I ha
  obtain ⟨m0, hF⟩ := I.fr
  refine PySem.W.ksp_setItem hF I.ok.mod.kin J hq m.at_ m.fn ?_
  refine thn (call_own (vs := [.ref a, i, v]) F hr rfl hx I (.cons rfl (.cons ri (.cons rv .nil))) hs) fun r s' z => ?_
  obtain ⟨w, H', I', rw', q⟩ := z
  exact ⟨H', I', q⟩
/-- C.m is a static method: its record at p, its def at g -/
structure SMet (K : PySem.W.Frag) (C : Addr) (mc : Value) (m : Str) (p g : Addr) : Prop where
  at_ : PySem.W.findCls K (.ref C) mc m = some (.get (.builtin "staticmethod.__get__") (.ref p) .none (.ref C))
  rc : ∃ rest, PySem.W.recIn K p "staticmethod" = some (.ref g :: rest)
  kp : PySem.W.keepIn K (.ref g) = true
theorem getmethsm_ok {pl : Sem Bool} {p : Addr} {mc : Value} {m : Str} {E : Value → Shared → Prop} {A : Around} {Q : Value × List Value → Shared → Prop} (I : Inv X pins σ H s) (r : CRead X.K C mc) (c : SMet X.K C mc m p g)
    (h : ∀ s', Inv X pins σ H s' → Q (.ref g, []) s') : wpAny (model X.prog X.w) A (getMethod (.ref C) m pl) Q E s := by
  obtain ⟨rest, hp⟩ := c.rc
  refine PySem.W.method_cls I.kIn r.ga (PySem.W.cls_bind I.kIn r.rd c.at_ ?_)
  refine wpAny_call (PySem.W.sm_get (s := { s with toks := s.toks + 1 }) I.kIn hp (PySem.W.handed_on rfl ?_))
  exact h _ (I.tok _)
/-- o.m(e, ..), o the class -/
def tSMeth (C : Addr) (sp : Sp) (E : XK) (ta : TE) (t : TA) : TE := fun σ H Q => ta σ H fun x H1 => x = .ref C ∧ t σ H1 fun vs H2 => sp vs H2 Q E
theorem pe_smeth {o e : Expr} {es : List Expr} {m : Str} {mc : Value} {p : Addr} {pos apos : Pos} {ta : TE} {t : TA} {pl : Sem Bool} (he : PE X o ta) (r : CRead X.K C mc) (c : SMet X.K C mc m p g) (F : FnR X.prog X.w X.K X.mg X.base CX k g sp) (hr : Room k X.A) (hx : Passes CX X E) (ha : PA X (e :: es) t)
    (hst : starEach (e :: es) X.env = (false, eval e X.env) :: starEach es X.env := by rfl) (hpl : (backTo pos (starEach es X.env)).any (·.1) = false := by rfl)
    (ht : eval (.Call (.Attribute o m apos) (e :: es) [] pos) X.env = (do
      let ov ← eval o X.env
      standAt apos.atName
      let (f, first) ← holding [ov] (getMethod ov m pl)
      callWith pos f first (backTo pos (starEach (e :: es) X.env)) (backToKw pos (keywordEach [] X.env))) := by rfl) :
    PE X (.Call (.Attribute o m apos) (e :: es) [] pos) (tSMeth C sp E ta t) := by
  refine ⟨fun pins s σ H Q I h => ?_⟩
  refine PySem.W.methodCall_KW (pl := pl) (thn (he.run pins s σ H _ I h) fun u s1 ⟨x, H1, I1, rx, ex, q⟩ => ?_) ht
  subst ex
  obtain rfl : u = Value.ref C := rx
  refine getmethsm_ok I1 r c fun s2 I2 => ?_
  refine PySem.W.callWith_K (first := []) (h₀ := X.base) I.ok.mod.kin c.kp (thn (ha.run pos _ s2 σ H1 _ I2 q) fun us s3 ⟨vs, H2, I3, rv, q2⟩ => ⟨I3.kIn, ?_⟩) hst hpl
  exact call_own F hr rfl hx I3 rv q2
theorem pe_smeth0 {o : Expr} {m : Str} {mc : Value} {p : Addr} {pos apos : Pos} {ta : TE} {pl : Sem Bool} (he : PE X o ta) (r : CRead X.K C mc) (c : SMet X.K C mc m p g) (F : FnR X.prog X.w X.K X.mg X.base CX k g sp) (hr : Room k X.A) (hx : Passes CX X E)
    (ht : eval (.Call (.Attribute o m apos) [] [] pos) X.env = (do
      let ov ← eval o X.env
      standAt apos.atName
      let (f, first) ← holding [ov] (getMethod ov m pl)
      callWith pos f first (backTo pos (starEach [] X.env)) (backToKw pos (keywordEach [] X.env))) := by rfl) :
    PE X (.Call (.Attribute o m apos) [] [] pos) (tSMeth C sp E ta tNil) := by
  refine ⟨fun pins s σ H Q I h => ?_⟩
  refine PySem.W.methodCall_KW (pl := pl) (thn (he.run pins s σ H _ I h) fun u s1 ⟨x, H1, I1, rx, ex, q⟩ => ?_) ht
  subst ex
  obtain rfl : u = Value.ref C := rx
  refine getmethsm_ok I1 r c fun s2 I2 => ?_
  exact PySem.W.callWith_K0 (first := []) I2.kIn c.kp (call_own F hr rfl hx I2 .nil q)
end
end OwX

set_option Elab.async false
set_option linter.all false
set_option maxRecDepth 100000
set_option maxHeartbeats 0
/-! A Hook of one's own: Bools of K, defs at any address, empty tables of code objects. -/
namespace HeZ
open PySem PySem.Spec PyProof.Rows L2
abbrev Fb := PySem.W.Frag → Bool
def obsK (fb : List Fb) (fn : List He5.DefA) (K : PySem.W.Frag) : He.AlD := ((fb.all fun f => f K) && fn.all fun d => d.ok K, fn.map fun d => He5.fnA K (d.at_ K))
abbrev AlZ : Type := He.AlD × Bool
def obsZ (n : Nat) (fb : List Fb) (fn : List He5.DefA) (tf : List He.Defn) (g : Addr → Option Obj) : AlZ := (obsK fb fn (He.frT g (He5.asA g n)), He.tabsB g tf (He.frT g (He5.asA g n)))
def valZ (fn : List He5.DefA) : AlZ := ((true, fn.map He5.DefA.val), true)
structure SaysZ (fb : List Fb) (fn : List He5.DefA) (tf : List He.Defn) (h : Heap) (K : PySem.W.Frag) : Prop where
  t : obsK fb fn K = (true, fn.map He5.DefA.val)
  hd : ∀ p ∈ tf, PySem.W.codeHdIn K (He.cT K p).1 (He.cT K p).2 = true
  out : ∀ p ∈ tf, K.lookup (He.cT K p).2 = none
  empty : ∀ p ∈ tf, h.get? (He.cT K p).2 = some { cls := .none, data := .fields #[] }
theorem saysZ_of {n : Nat} {fb : List Fb} {fn : List He5.DefA} {tf : List He.Defn} {h : Heap} (e : obsZ n fb fn tf h.get? = valZ fn) : SaysZ fb fn tf h (He.frT h.get? (He5.asA h.get? n)) := by
  have e1 : obsK fb fn (He.frT h.get? (He5.asA h.get? n)) = (true, fn.map He5.DefA.val) := congrArg (fun z : AlZ => z.1) e
  have h2 : He.tabsB h.get? tf (He.frT h.get? (He5.asA h.get? n)) = true := congrArg (fun z : AlZ => z.2) e
  have key : ∀ p ∈ tf, PySem.W.codeHdIn (He.frT h.get? (He5.asA h.get? n)) (He.cT (He.frT h.get? (He5.asA h.get? n)) p).1 (He.cT (He.frT h.get? (He5.asA h.get? n)) p).2 = true ∧ ∃ o, h.get? (He.cT (He.frT h.get? (He5.asA h.get? n)) p).2 = some o ∧ He.emptyTab o = true := fun p hp => by
    obtain ⟨h3, h4⟩ := He.ba (List.all_eq_true.mp h2 p hp)
    refine ⟨h3, ?_⟩
    cases q : h.get? (He.cT (He.frT h.get? (He5.asA h.get? n)) p).2 with
    | none =>
      rw [q] at h4
      cases h4
    | some o =>
      rw [q] at h4
      exact ⟨o, rfl, h4⟩
  exact ⟨e1, fun p hp => (key p hp).1, fun p hp => by
    obtain ⟨_, o, q, z⟩ := key p hp
    exact He.frT_none q z, fun p hp => by
    obtain ⟨_, o, q, z⟩ := key p hp
    rw [q, He.emptyTab_eq z]⟩
def hookZ (n : Nat) (fb : List Fb) (fn : List He5.DefA) (tf : List He.Defn) : PySem.W.Hook where
  α := AlZ
  obs := fun s => obsZ n fb fn tf s.heap.get?
  val := fun _ => valZ fn
  says := fun _ h => ∃ K : PySem.W.Frag, K.In h ∧ SaysZ fb fn tf h K
  of := fun _ _ e => ⟨_, He.frT_in, saysZ_of e⟩
  keeps := fun _ _ _ ⟨K, hK, c⟩ k => ⟨K, PySem.W.Frag.In.keeps hK k, ⟨c.t, c.hd, c.out, fun p hp => k _ _ (c.empty p hp)⟩⟩
theorem obsZ_eq {n : Nat} {fb : List Fb} {fn : List He5.DefA} {tf : List He.Defn} {g : Addr → Option Obj} {s : Shared} (h : ∀ a, g a = s.heap.get? a) : obsZ n fb fn tf g = (hookZ n fb fn tf).obs s := by
  have e : g = s.heap.get? := funext h
  rw [e] <;> rfl
section
variable {fb : List Fb} {fn : List He5.DefA} {tf : List He.Defn} {h : Heap} {K : PySem.W.Frag}
theorem SaysZ.fact (c : SaysZ fb fn tf h K) (i : Nat) {f : Fb} (e : fb[i]? = some f := by rfl) : f K = true := by
  have c1 := (He.ba (show ((fb.all fun f => f K) && fn.all fun d => d.ok K) = true from congrArg (fun z : He.AlD => z.1) c.t)).1
  exact List.all_eq_true.mp c1 f (List.mem_of_getElem? e)
theorem SaysZ.def_ (c : SaysZ fb fn tf h K) (i : Nat) {d : He5.DefA} (e0 : fn[i]? = some d := by rfl) : ∃ fd, L2.FunD K d.name d.qual d.params d.body d.scope (d.dvs K) (d.kws K) (d.at_ K) fd := by
  have c2 := (He.ba (show ((fb.all fun f => f K) && fn.all fun d => d.ok K) = true from congrArg (fun z : He.AlD => z.1) c.t)).2
  have e : fn.map (fun d => He5.fnA K (d.at_ K)) = fn.map He5.DefA.val := congrArg (fun z : He.AlD => z.2) c.t
  have e2 : (fn.map fun d => He5.fnA K (d.at_ K))[i]? = (fn.map He5.DefA.val)[i]? := by rw [e]
  rw [List.getElem?_map, List.getElem?_map, e0] at e2
  exact He5.DefA.funD (Option.some.inj e2) (List.all_eq_true.mp c2 d (List.mem_of_getElem? e0))
end
end HeZ

set_option Elab.async false
set_option linter.all false
set_option maxRecDepth 100000
set_option maxHeartbeats 0
/-! Exceptions of the text with their own dict: isinstance, facts by Bools; own operators within a try. -/
namespace OwX
open PySem PySem.Spec PyProof.Rows L2 ClX
/-! ### facts by Bools -/
theorem ba {a b : Bool} (h : (a && b) = true) : a = true ∧ b = true := Bool.and_eq_true_iff.mp h
def dq (a b : Option (Option Value)) : Bool := decide (a = b)
theorem dq_ok {a b : Option (Option Value)} (h : dq a b = true) : a = b := of_decide_eq_true h
/-- an exception class: its object's form -/
def oexB (K : PySem.W.Frag) (C : Addr) : Bool := (match K.lookup C with
  | some ⟨.type t, _, .cls cd, sl⟩ => decide (t = "type") && (match cd.mro, sl.toList with
    | .ref C1 :: bm, [_, _, _, _, some (.builtin n), _] => decide (C1 = C) && (decide (n = "ValueError.__new__") && (cd.hasDict && (!cd.hasDel && PySem.HandSPX.refsVE bm)))
    | _, _ => false)
  | _ => false) && (dq (PySem.W.findIn K (.ref C) "__setattr__") (some (some (.builtin "object.__setattr__"))) && (decide (PySem.W.subIn K (.ref C) (.type "BaseException") = some true) && (decide (PySem.W.typeIn K (.ref C) = some (.type "type")) && PySem.W.keepIn K (.ref C))))
theorem oex_ok {K : PySem.W.Frag} {C : Addr} (h : oexB K C = true) : OexC K C := by
  obtain ⟨h0, h⟩ := ba h
  obtain ⟨h1, h⟩ := ba h
  obtain ⟨h2, h⟩ := ba h
  obtain ⟨h3, h4⟩ := ba h
  refine ⟨?_, dq_ok h1, of_decide_eq_true h2, of_decide_eq_true h3, h4⟩
  clear h1 h2 h3 h4
  split at h0
  · rename_i t dd cd sl ho
    obtain ⟨e0, h6⟩ := ba h0
    have e0 := of_decide_eq_true e0
    clear h0
    subst e0
    split at h6
    · rename_i C1 bm k0 k1 k2 k3 n k5 hm hs
      obtain ⟨e1, h0⟩ := ba h6
      obtain ⟨e2, h0⟩ := ba h0
      obtain ⟨e3, h0⟩ := ba h0
      obtain ⟨e4, e5⟩ := ba h0
      have e1 := of_decide_eq_true e1
      have e2 := of_decide_eq_true e2
      subst e1 e2
      obtain ⟨nm, bs, mro, ns, qn, hd, sn, sub, ab, col, del⟩ := cd
      have f4 : del = false := by simpa using e4
      have f5 : mro = .ref C1 :: bm := hm
      have f3 : hd = true := e3
      clear e3 e4 hm h0 h6
      subst f3
      subst f4
      subst f5
      obtain ⟨l⟩ := sl
      have f6 : l = [k0, k1, k2, k3, some (.builtin "ValueError.__new__"), k5] := hs
      subst f6
      exact ⟨nm, qn, ns, bs, bm, sn, sub, ab, col, dd, k0, k1, k2, k3, k5, ho, e5⟩
    · cases h6
  · cases h0
/-- what isinstance asks of a class of instances -/
structure IsC (K : PySem.W.Frag) (C : Addr) : Prop where
  ha : PySem.W.findIn K (.ref C) "__class__" = some (some (.builtin "object.__class__"))
  hn : PySem.W.specialIn K (.builtin "object.__class__") "__get__" = some (some (.builtin "getset_descriptor.__get__"))
  ht : PySem.W.takesIn K (.builtin "object.__class__") = some true
  hm : PySem.W.mroIn K C (.type "object") = some true
def isB (K : PySem.W.Frag) (C : Addr) : Bool := dq (PySem.W.findIn K (.ref C) "__class__") (some (some (.builtin "object.__class__"))) && (dq (PySem.W.specialIn K (.builtin "object.__class__") "__get__") (some (some (.builtin "getset_descriptor.__get__"))) &&
  (decide (PySem.W.takesIn K (.builtin "object.__class__") = some true) && decide (PySem.W.mroIn K C (.type "object") = some true)))
theorem is_ok {K : PySem.W.Frag} {C : Addr} (h : isB K C = true) : IsC K C := by
  obtain ⟨h1, h⟩ := ba h
  obtain ⟨h2, h⟩ := ba h
  obtain ⟨h3, h4⟩ := ba h
  exact ⟨dq_ok h1, dq_ok h2, of_decide_eq_true h3, of_decide_eq_true h4⟩
theorem tyx_ins {K : PySem.W.Frag} {H : Hp} {a C dx : Addr} {fs : List (Str × V)} (c : Cls K C) (i : IsC K C) (e : H a = some (.ins C dx fs)) : TyX K H (.ref a) (.ref C) := .base (.ins e c i.ha i.hn i.ht i.hm)
/-- isinstance(x, C) of K's classes -/
def kiB (K : PySem.W.Frag) (t u : Value) (b : Bool) : Bool := decide (PySem.W.kitOne K t u = some b)
theorem ki_ok {K : PySem.W.Frag} {t u : Value} {b : Bool} (h : kiB K t u b = true) : PySem.W.kitOne K t u = some b := of_decide_eq_true h
def exmB (K : PySem.W.Frag) (t u : Value) (b : Bool) : Bool := decide (PySem.W.exmOne K t u = some b)
theorem exm_ok {K : PySem.W.Frag} {t u : Value} {b : Bool} (h : exmB K t u b = true) : PySem.W.exmOne K t u = some b := of_decide_eq_true h
/-- the class reads as usual, its number slots are its own, it is no sequence -/
def creadB (K : PySem.W.Frag) (C : Addr) : Bool := PySem.W.readsIn K C (.type "type") && dq (PySem.W.specialIn K (.ref C) "__getattribute__") (some (some (.builtin "type.__getattribute__")))
theorem cread_ok {K : PySem.W.Frag} {C : Addr} (h : creadB K C = true) : CRead K C (.type "type") := by
  obtain ⟨h1, h2⟩ := ba h
  exact ⟨h1, dq_ok h2⟩
def smB (K : PySem.W.Frag) (C : Addr) (m : Str) : Bool := He5.wrapB K C "staticmethod" "staticmethod.__get__" m && PySem.W.keepIn K (.ref (He5.wf K C "staticmethod" m))
theorem sm_ok {K : PySem.W.Frag} {C : Addr} {m : Str} (h : smB K C m = true) : SMet K C (.type "type") m (He.ma K C m) (He5.wf K C "staticmethod" m) := by
  obtain ⟨h1, h2⟩ := ba h
  obtain ⟨h3, h4⟩ := He5.wrapB_ok h1
  exact ⟨h3, h4, h2⟩
def propB (K : PySem.W.Frag) (C : Addr) (f : Str) : Bool := dq (PySem.W.findIn K (.ref C) f) (some (some (.ref (He.ma K C f)))) && (dq (PySem.W.specialIn K (.ref (He.ma K C f)) "__get__") (some (some (.builtin "property.__get__"))) &&
  (decide (PySem.W.takesIn K (.ref (He.ma K C f)) = some true) && (match PySem.W.recIn K (He.ma K C f) "property" with
    | some (.ref _ :: _) => true
    | _ => false)))
theorem prop_ok {K : PySem.W.Frag} {C : Addr} {f : Str} (h : propB K C f = true) : PropOf K C f (He.ma K C f) (He5.wf K C "property" f) := by
  obtain ⟨h1, h⟩ := ba h
  obtain ⟨h2, h⟩ := ba h
  obtain ⟨h3, h4⟩ := ba h
  refine ⟨dq_ok h1, dq_ok h2, of_decide_eq_true h3, ?_⟩
  unfold He5.wf
  split at h4
  · rename_i g r e
    exact ⟨r, by rw [e]⟩
  · cases h4
/-- an exception class with isinstance and attributes -/
structure ExcK (K : PySem.W.Frag) (C : Addr) : Prop where
  ox : OexC K C
  xf : XfC K C
  is_ : IsC K C
  it : PySem.W.findIn K (.ref C) "__init__" = some (some (.ref (He.ma K C "__init__")))
  ti : PySem.W.typeIn K (.ref (He.ma K C "__init__")) = some (.type "function")
def excB (K : PySem.W.Frag) (C : Addr) : Bool := oexB K C && (xfB K C && (isB K C && (dq (PySem.W.findIn K (.ref C) "__init__") (some (some (.ref (He.ma K C "__init__")))) && decide (PySem.W.typeIn K (.ref (He.ma K C "__init__")) = some (.type "function")))))
theorem exc_ok {K : PySem.W.Frag} {C : Addr} (h : excB K C = true) : ExcK K C := by
  obtain ⟨h1, h⟩ := ba h
  obtain ⟨h2, h⟩ := ba h
  obtain ⟨h3, h⟩ := ba h
  obtain ⟨h4, h5⟩ := ba h
  exact ⟨oex_ok h1, xfB_ok h2, is_ok h3, dq_ok h4, of_decide_eq_true h5⟩
/-! ### isinstance of the exception that a suite holds -/
def rIsX (K : PySem.W.Frag) (D a : Addr) (cls : Value) (d : Option Addr) : List V → Hp → VK → Prop := fun xs H Q => ∃ (c : V) (cv : Value) (b : Bool) (dd : Addr) (fs : List (Str × V)), xs = [.ref a, c] ∧ ClsV c cv ∧ cls = .ref D ∧ d = some dd ∧ H dd = some (.xd fs) ∧ PySem.W.kitOne K (.ref D) cv = some b ∧ Q (.bl b) H
theorem call_isX {X : Cx} {a D : Addr} {oe : Obj} {cls : Value} {d : Option Addr} {pn : List (Addr × Obj)} (C : ExcK X.K D) (hz : Zc cls d oe) (hf : ∃ vs, oe.data = .fields vs) : CallR (X.suite a ((a, oe) :: pn)) (.builtin "isinstance") (rIsX X.K D a cls d) := by
  intro pins s σ H xs us Q I r h
  obtain ⟨c, cv, b, dd, fs, rfl, k, rfl, rfl, hd, e, q⟩ := h
  obtain ⟨u1, u2, rfl, r1, r2⟩ := vals2 r
  cases r1
  have e2 := k.eq r2
  subst e2
  obtain ⟨ha, _⟩ := I.pin (a, oe) (List.mem_append_left _ List.mem_cons_self)
  obtain ⟨vs, hv⟩ := hf
  obtain ⟨mA, hns, _⟩ := (show ObjOk X.prog X.w H s.heap dd (.xd fs) from I.hok dd _ hd)
  obtain ⟨od, ho, _⟩ := lookIn_ns hns
  have J : PySem.W.InstAt s.heap a oe D (some od) := ⟨ha, hz.1, by unfold PySem.W.notCls; rw [hv] <;> rfl, by rw [hz.2]; exact ho⟩
  have hc : (PySem.W.clsIn X.K D).isSome = true := by
    obtain ⟨cd, hc, _⟩ := PySem.W.any_some C.xf.hdC
    rw [hc] <;> rfl
  exact PySem.W.kia_one (PySem.W.kitx_exc hc C.xf.ga C.xf.gg C.xf.exC C.is_.ha C.is_.hn C.is_.ht C.is_.hm) I.kIn J e (fun z => nomatch z) fun tk => ⟨.bl b, H, I.kept (t' := tk) fun _ _ z => z, rfl, q⟩
/-! ### bool(x) of an instance with an own __bool__ -/
theorem bool_new_ref {prog : Program} {w : World} (l : Addr) : MeetsIn prog w (Builtin.«bool.__new__» ⟨[.type "bool", .ref l], []⟩)
    (fun A R s => wpAny (model prog w) A.in1 (truthy (.ref l)) (fun b s' => R (.ok (.ret (.bool b))) s') (fun e s' => R (.error e) s') s) :=
  .of_wp fun A R s h => by
    obtain ⟨hp, g, d, tk, os⟩ := s
    have f1 := F.conv_sub_bool
    repeat (any_goals (first | assumption | (refine wpAny_bind (wpAny_mono h (fun b s' q => ?_) fun e s' q => ?_)) | wp_step))
    all_goals first | exact q | exact ⟨_, rfl, q⟩ | skip
def rOwnBool (C : Addr) (sp : Sp) (E : XK) : List V → Hp → VK → Prop := fun xs H Q => ∃ a, xs = [.ref a] ∧ rOwnTru C sp E (.ref a) H fun b H' => Q (.bl b) H'
theorem call_boolO {X : Cx} {CX : CXT} {k : Nat} {C g : Addr} {sp : Sp} {E : XK} (m : Meth X.K C "__bool__" g) (F : FnR X.prog X.w X.K X.mg X.base CX k g sp) (hr : Room (k + 2) X.A) (hx : Passes CX X E) : CallR X (.type "bool") (rOwnBool C sp E) := by
  intro pins s σ H xs us Q I r h
  obtain ⟨a, rfl, h⟩ := h
  obtain ⟨u, rfl, rx⟩ := vals1 r
  cases rx
  refine callType_newIn PySem.F.called_bool PySem.F.newNe_bool (PySem.F.typeCall_bool_1 _) (PySem.F.newCall_bool_1 _) (fun obj => PySem.F.args_object_init_2 obj _) PySem.F.entry_bool_new (bool_new_ref a) ?_
  refine thn (truthy_own (x := .ref a) m F hr.in1.in1 rfl hx I rfl h) fun b s' q => ?_
  obtain ⟨H', I', q⟩ := q
  exact ⟨rfl, .bl b, H', I', rfl, q⟩
/-! ### own operators where what is raised is wished for at the slots -/
section
variable {X : Cx} {CX : CXT} {k : Nat} {C g : Addr} {sp : Sp} {E : L2.St → XK} {pins : List (Addr × Obj)} {σ : L2.St} {H : Hp} {s : Shared} {Q : VK}
theorem call_ownS {A' : Around} {us : List Value} {vs : List V} (F : FnR X.prog X.w X.K X.mg X.base CX k g sp) (hr : Room k A') (hfr : A'.frames = X.A.frames) (hx : ∀ σ, PassesAt CX X σ (E σ)) (I : Inv X pins σ H s) (r : Vals vs us) (h : sp vs H Q (E σ)) :
    wpAny (model X.prog X.w) A' (call (.ref g) us) (EP X pins σ Q) X.xe s := by
  have e := I.env0
  refine wpAny_call (codeAny_mono (F A' X.stack s H us vs Q (E σ) hr ⟨by rw [hfr]; exact e.frames, e.mod, e.bs, e.bsz, e.funs, e.frf, e.hok, e.bare⟩ r h) fun r s' hq => ?_)
  cases r with
  | error er => exact hx σ pins H s er s' I hq
  | ok fl =>
    cases fl with
    | ret u => exact I.after hq
    | next => exact False.elim hq
    | brk => exact False.elim hq
    | cont => exact False.elim hq
def tIxOS (C : Addr) (sp : Sp) (E : L2.St → XK) (ta tb : TE) : TE := fun σ H Q => ta σ H fun x H1 => tb σ H1 fun y H2 => rOwnIx C sp (E σ) x y H2 Q
theorem pe_ixOS {a b : Expr} {ta tb : TE} {pos : Pos} (m : Meth X.K C "__getitem__" g) (hf : PySem.W.fnIn X.K g = true) (F : FnR X.prog X.w X.K X.mg X.base CX k g sp) (hr : Room (k + 1) X.A) (hx : ∀ σ, PassesAt CX X σ (E σ)) (ha : PE X a ta) (hb : PE X b tb)
    (hs : ∀ x i, subscripted b true (.ref x) i = runValue (.builtin "lifetime.subscript" ⟨[.ref x, i], []⟩) := by intro _ _; rfl) : PE X (.Subscript a b pos) (tIxOS C sp E ta tb) := by
  refine ⟨fun pins s σ H Q I h => ?_⟩
  refine Subscript_ (binT ha hb I h fun v u s2 x y H2 I2 rx ry q => ?_)
  obtain ⟨p, dx, fs, rfl, hp, hsp⟩ := q
  cases rx
  obtain ⟨od, J⟩ := inst_at I2 hp
  obtain ⟨m0, hF⟩ := I2.fr
  exact PySem.W.sub_K hF I2.ok.mod.kin J m.at_ hf m.fn (call_ownS (vs := [.ref p, y]) F hr.in1 rfl hx I2 (.cons rfl (.cons ry .nil)) hsp) (hs _ _)
/-- f(e, ..) by positions, the wish at the slots -/
def tCallRS (sp : Sp) (E : L2.St → XK) (t : TA) : TE := fun σ H Q => t σ H fun vs H1 => sp vs H1 Q (E σ)
theorem pe_callRS {x : Str} {p pos : Pos} {e : Expr} {es : List Expr} {t : TA} (F : FnR X.prog X.w X.K X.mg X.base CX k g sp) (hr : Room k X.A) (hk : PySem.W.keepIn X.K (.ref g) = true) (hg : Gl X x) (hm : X.mg x = some (.ref g)) (hx : ∀ σ, PassesAt CX X σ (E σ)) (ha : PA X (e :: es) t)
    (hdb : (x == ("__debug__" : Str)) = false := by decide) (he : starEach (e :: es) X.env = (false, eval e X.env) :: starEach es X.env := by rfl) (hpl : (backTo pos (starEach es X.env)).any (·.1) = false := by rfl) : PE X (.Call (.Name x p) (e :: es) [] pos) (tCallRS sp E t) := by
  refine ⟨fun pins s σ H Q I h => ?_⟩
  refine wpAny_Call_Name_kw (ld_glob I hg hm ?_ hdb)
  refine PySem.W.callWith_K (h₀ := X.base) I.ok.mod.kin hk (thn (ha.run pos pins s σ H _ I h) fun us s1 ⟨vs, H1, I1, r, q⟩ => ⟨I1.kIn, ?_⟩) he hpl
  exact call_ownS F hr rfl hx I1 r q
end
end OwX

set_option Elab.async false
set_option linter.all false
set_option maxRecDepth 100000
set_option maxHeartbeats 0
/-! A def's promise by positions, from its datum. -/
namespace OwX
open PySem PySem.Spec PyProof.Rows L2 ClX
section
variable {P : Program} {w : World} {K : PySem.W.Frag} {mg : Str → Option Value} {base : Heap} {x qual : Str} {params : Arguments} {body : List Stmt} {scope : Scope} {f : Addr} {N ps : List Str} {k : Nat} {sp : Sp}
abbrev Body (P : Program) (w : World) (K : PySem.W.Frag) (mg : Str → Option Value) (base : Heap) (N : List Str) (qual : Str) (scope : Scope) (body : List Stmt) (f : Addr) (k : Nat) (sp : Sp) : Prop :=
  ∀ (cdv : Value) (A : Around) (outer : List Env) (s : Shared) (H : Hp) (vs : List V) (Q : VK) (E : XK), Room k (A.deeper (envOfC qual scope s.heap.objs.size f cdv)) → sp vs H Q E →
      ∃ t, PSs (cxOf (L2.CX P w) P w K mg base N qual scope f cdv A outer s H E) body t ∧ t { nx := fun _ H' => Q .non H', rt := Q } (start N vs) H
abbrev BindsN (x qual : Str) (params : Arguments) (body : List Stmt) (scope : Scope) (ps : List Str) : Prop :=
  ∀ (kV doc pm : Value) (an : Option Addr) (cdv ct : Value) (us : List Value), us.length = ps.length → bindArgs (PySem.W.fnOf x qual params body scope .none kV doc pm an cdv ct) ⟨us, []⟩ = pure (ps.zip us)
theorem fnok (F : ∃ fd, FunD K x qual params body scope [] [] f fd) (S : FnScope N ps scope) (hb : BindsN x qual params body scope ps) (len : ∀ vs H Q E, sp vs H Q E → vs.length = ps.length) (h : Body P w K mg base N qual scope body f k sp) :
    ∃ fd, FnOk P w K mg base (L2.CX P w) (k + 1) f fd ps sp ∧ Binds K fd ps [] := by
  obtain ⟨fd, F⟩ := F
  exact ⟨fd, F.ok S len h, F.bindsN hb⟩
theorem fnr (F : ∃ fd, FunD K x qual params body scope [] [] f fd) (S : FnScope N ps scope) (hb : BindsN x qual params body scope ps) (len : ∀ vs H Q E, sp vs H Q E → vs.length = ps.length) (h : Body P w K mg base N qual scope body f k sp) :
    FnR P w K mg base (L2.CX P w) (k + 1) f sp := by
  obtain ⟨fd, F, b⟩ := fnok F S hb len h
  exact (F.raw b .nil).imp fun vs H Q E q => by rw [List.append_nil]; exact q
/-- f(e, ..) by positions, nothing raised -/
def tCr (sp : Sp) (t : TA) : TE := fun σ H Q => t σ H fun vs H1 => sp vs H1 Q E0
/-- .. what is raised goes on to E -/
def tCrX (sp : Sp) (E : XK) (t : TA) : TE := fun σ H Q => t σ H fun vs H1 => sp vs H1 Q E
theorem pe_crX {X : Cx} {g : Addr} {E : XK} {nm : Str} {p pos : Pos} {e : Expr} {es : List Expr} {t : TA} (F : FnR X.prog X.w X.K X.mg X.base (L2.CX X.prog X.w) k g sp) (hr : Room k X.A) (hk : PySem.W.keepIn X.K (.ref g) = true) (hg : Gl X nm) (hm : X.mg nm = some (.ref g)) (hx : Passes (L2.CX X.prog X.w) X E) (ha : PA X (e :: es) t)
    (hdb : (nm == ("__debug__" : Str)) = false := by decide) (he : starEach (e :: es) X.env = (false, eval e X.env) :: starEach es X.env := by rfl) (hpl : (backTo pos (starEach es X.env)).any (·.1) = false := by rfl) : PE X (.Call (.Name nm p) (e :: es) [] pos) (tCrX sp E t) := by
  refine ⟨fun pins s σ H Q I h => ?_⟩
  refine wpAny_Call_Name_kw (ld_glob I hg hm ?_ hdb)
  refine PySem.W.callWith_K (h₀ := X.base) I.ok.mod.kin hk (thn (ha.run pos pins s σ H _ I h) fun us s1 ⟨vs, H1, I1, r, q⟩ => ⟨I1.kIn, ?_⟩) he hpl
  exact call_own F hr rfl hx I1 r q
theorem pe_cr {X : Cx} {g : Addr} {nm : Str} {p pos : Pos} {e : Expr} {es : List Expr} {t : TA} (F : FnR X.prog X.w X.K X.mg X.base (L2.CX X.prog X.w) k g sp) (hr : Room k X.A) (hk : PySem.W.keepIn X.K (.ref g) = true) (hg : Gl X nm) (hm : X.mg nm = some (.ref g)) (ha : PA X (e :: es) t)
    (hdb : (nm == ("__debug__" : Str)) = false := by decide) (he : starEach (e :: es) X.env = (false, eval e X.env) :: starEach es X.env := by rfl) (hpl : (backTo pos (starEach es X.env)).any (·.1) = false := by rfl) : PE X (.Call (.Name nm p) (e :: es) [] pos) (tCr sp t) :=
  pe_crX F hr hk hg hm passL ha hdb he hpl
/-- C(e, ..): a new instance, then __init__'s promise; what is raised goes on to E -/
def tMkX (C : Addr) (sp : Sp) (E : XK) (t : TA) : TE := fun σ H Q => t σ H fun vs H1 => ∀ x dx, H1 x = none → H1 dx = none → dx ≠ x → sp (.ref x :: vs) (upd (upd H1 dx (.own x)) x (.ins C dx [])) (fun v H2 => v = .non ∧ Q (.ref x) H2) E
def tMk (C : Addr) (sp : Sp) (t : TA) : TE := tMkX C sp E0 t
theorem pe_mkX {X : Cx} {C g : Addr} {E : XK} {nm : Str} {p pos : Pos} {e : Expr} {es : List Expr} {t : TA} (M : Mk X.K C g) (F : FnR X.prog X.w X.K X.mg X.base (L2.CX X.prog X.w) k g sp) (hr : Room (k + 1) X.A) (hg : Gl X nm) (hm : X.mg nm = some (.ref C)) (hx : Passes (L2.CX X.prog X.w) X E) (ha : PA X (e :: es) t)
    (hdb : (nm == ("__debug__" : Str)) = false := by decide) (he : starEach (e :: es) X.env = (false, eval e X.env) :: starEach es X.env := by rfl) (hpl : (backTo pos (starEach es X.env)).any (·.1) = false := by rfl) : PE X (.Call (.Name nm p) (e :: es) [] pos) (tMkX C sp E t) :=
  StX.pe_makeR M F hr hg hm hx ha hdb he hpl
theorem pe_mk {X : Cx} {C g : Addr} {nm : Str} {p pos : Pos} {e : Expr} {es : List Expr} {t : TA} (M : Mk X.K C g) (F : FnR X.prog X.w X.K X.mg X.base (L2.CX X.prog X.w) k g sp) (hr : Room (k + 1) X.A) (hg : Gl X nm) (hm : X.mg nm = some (.ref C)) (ha : PA X (e :: es) t)
    (hdb : (nm == ("__debug__" : Str)) = false := by decide) (he : starEach (e :: es) X.env = (false, eval e X.env) :: starEach es X.env := by rfl) (hpl : (backTo pos (starEach es X.env)).any (·.1) = false := by rfl) : PE X (.Call (.Name nm p) (e :: es) [] pos) (tMk C sp t) :=
  pe_mkX M F hr hg hm passL ha hdb he hpl
/-- x = e, the name's kind found -/
theorem sx {X : Cx} (i : Nat) {nm : Str} {e : Expr} {te : TE} {pos pos' : Pos} (hN : X.N.Nodup) (he : PE X e te) (hi : X.N[i]? = some nm := by rfl) (hx : Loc X.env.scope nm := by first | exact Or.inl rfl | exact Or.inr rfl) (hs : swapsWith e (some (.Name nm pos')) pos.line X.env = pure false := by rfl)
    (hf : X.fn nm = true ∨ X.env.scope.names.lookup nm = some .local := by first | exact .inl rfl | exact .inr rfl) : PS X (.Assign [.Name nm pos'] e pos) (tAsg te (gName i)) := ps_set hN hi hx he hs hf
/-- a target's name -/
theorem gx {X : Cx} (i : Nat) {nm : Str} {pos : Pos} (hN : X.N.Nodup) (hi : X.N[i]? = some nm := by rfl) (hx : Loc X.env.scope nm := by first | exact Or.inl rfl | exact Or.inr rfl)
    (hf : X.fn nm = true ∨ X.env.scope.names.lookup nm = some .local := by first | exact .inl rfl | exact .inr rfl) : PG X (.Name nm pos) (gName i) := pg_name hN hi hx hf
theorem kp_of {dvs : List V} {kws : List (Str × V)} (F : ∃ fd, FunD K x qual params body scope dvs kws f fd) : PySem.W.keepIn K (.ref f) = true := by
  obtain ⟨fd, F⟩ := F
  exact F.kp
end
end OwX

set_option Elab.async false
set_option linter.all false
set_option maxRecDepth 100000
set_option maxHeartbeats 0
/-! Readings, one lemma a piece; the words go and hp are made of them. -/
namespace Rd
open PySem PySem.Spec PyProof.Rows L2 OwX
section
variable {K : PySem.W.Frag} {σ : L2.St} {H H' : Hp} {Q : VK} {i j : Int} {v x y : V} {ta tb tc te : TE} {t u : TS} {D : Ends} {a p C dx : Addr} {fs : List (Str × V)} {f : Str} {xs ys : List V} {b : Bool} {n : Nat}
/-! ### expressions -/
theorem var {n : Nat} (h : σ[n]? = some (some v)) (k : Q v H) : tVar n σ H Q := ⟨v, h, k⟩
theorem con (k : Q v H) : tC v σ H Q := k
theorem op {r : R2} (k : ta σ H fun x H1 => tb σ H1 fun y H2 => r x y H2 Q) : tOp r ta tb σ H Q := k
theorem un {r : V → Hp → VK → Prop} (k : ta σ H fun x H1 => r x H1 Q) : tUn r ta σ H Q := k
theorem i0 {g : Int → Int → V} (k : Q (g i j) H) : rI0 g (.int i) (.int j) H Q := ⟨i, j, rfl, rfl, k⟩
theorem iC {c : Int → Int → Prop} {g : Int → Int → V} (s : c i j) (k : Q (g i j) H) : rI c g (.int i) (.int j) H Q := ⟨i, j, rfl, rfl, s, k⟩
theorem iu {g : Int → V} (k : Q (g i) H) : rU g (.int i) H Q := ⟨i, rfl, k⟩
theorem nil {R : List V → Hp → Prop} (k : R [] H) : tNil σ H R := k
theorem cons {tr : TA} {R : List V → Hp → Prop} (k : ta σ H fun x H1 => tr σ H1 fun xs H2 => R (x :: xs) H2) : tCons ta tr σ H R := k
theorem cb {r : List V → Hp → VK → Prop} {t : TA} (k : t σ H fun vs H1 => r vs H1 Q) : tCB r t σ H Q := k
theorem ifx {t : TT} (k : t σ H fun c H1 => if c = true then ta σ H1 Q else tb σ H1 Q) : tIf t ta tb σ H Q := k
theorem chain {r r' : R2} (k : ta σ H fun x H1 => tb σ H1 fun y H2 => r x y H2 fun z H3 => ∃ c, z = .bl c ∧ (if c = true then tc σ H3 fun w' H4 => r' y w' H4 Q else Q (.bl false) H3)) : tChain r r' ta tb tc σ H Q := k
theorem chainB {r' : R2} {c : Bool} (k1 : c = true → tc σ H fun w' H4 => r' y w' H4 Q) (k2 : c = false → Q (.bl false) H) : ∃ d, V.bl c = .bl d ∧ (if d = true then tc σ H fun w' H4 => r' y w' H4 Q else Q (.bl false) H) := ⟨c, rfl, by
  cases c with
  | true => rw [if_pos rfl]; exact k1 rfl
  | false => rw [if_neg Bool.false_ne_true]; exact k2 rfl⟩
theorem eqs (s : scal x y = true) (k : Q (.bl (decide (x = y))) H) : rEq x y H Q := ⟨s, k⟩
theorem nes (s : scal x y = true) (k : Q (.bl (!decide (x = y))) H) : rNe x y H Q := ⟨s, k⟩
theorem tup {t : TA} (k : t σ H fun xs H1 => xs.length ≤ sizeLine ∧ ∀ p, H1 p = none → Q (.ref p) (upd H1 p (.tup xs))) : tTup t σ H Q := k
theorem lst {t : TA} (k : t σ H fun xs H1 => xs.length ≤ sizeLine ∧ ∀ p, H1 p = none → Q (.ref p) (upd H1 p (.lst xs))) : tLst t σ H Q := k
theorem fld (k : ta σ H fun x H1 => ∃ a C dx fs v, x = .ref a ∧ H1 a = some (.ins C dx fs) ∧ Cls K C ∧ NoAttr K C f ∧ fs.lookup f = some v ∧ Q v H1) : tFld K ta f σ H Q := k
theorem ixL {xs : List V} (h : SqL K H p xs) (e : atI xs i = some v) (k : Q v H) : rIxL K (.ref p) (.int i) H Q := ⟨p, xs, i, v, rfl, rfl, h, e, k⟩
theorem ixT {xs : List V} (h : SqT K H p xs) (e : atI xs i = some v) (k : Q v H) : rIxT K (.ref p) (.int i) H Q := ⟨p, xs, i, v, rfl, rfl, h, e, k⟩
theorem andV (k : ta σ H fun x H1 => ∃ c, x = .bl c ∧ if c = true then tb σ H1 Q else Q (.bl false) H1) : tAndV ta tb σ H Q := k
theorem orV (k : ta σ H fun x H1 => ∃ c, x = .bl c ∧ if c = true then Q (.bl true) H1 else tb σ H1 Q) : tOrV ta tb σ H Q := k
theorem notV (k : ta σ H fun x H1 => ∃ c, x = .bl c ∧ Q (.bl (!c)) H1) : tNotV ta σ H Q := k
theorem bm {T : String} {r : V → List V → Hp → VK → Prop} {t : TA} (k : ta σ H fun x H1 => tyV K T x H1 ∧ t σ H1 fun xs H2 => r x xs H2 Q) : tBM K T r ta t σ H Q := k
theorem bm0 {T : String} {r : V → List V → Hp → VK → Prop} (k : ta σ H fun x H1 => tyV K T x H1 ∧ r x [] H1 Q) : tBM0 K T r ta σ H Q := k
theorem blx {A : Bool → Prop} {c : Bool} (k : A c) : ∃ d, V.bl c = .bl d ∧ A d := ⟨c, rfl, k⟩
/-! ### built-in calls by values, with names -/
def rInt : List V → Hp → VK → Prop := fun xs H Q => (∃ i, xs = [.int i] ∧ Q (.int i) H) ∨ ∃ k, xs = [.bl k] ∧ Q (.int (if k = true then 1 else 0)) H
theorem c_int {X : Cx} : CallR X (.type "int") rInt := call_int1
theorem int1 (k : Q (.int i) H) : rInt [.int i] H Q := .inl ⟨i, rfl, k⟩
theorem intB (k : Q (.int (if b = true then 1 else 0)) H) : rInt [.bl b] H Q := .inr ⟨b, rfl, k⟩
def rLen (K : PySem.W.Frag) : List V → Hp → VK → Prop := fun xs H Q => ∃ p ys, xs = [.ref p] ∧ (SqL K H p ys ∨ SqT K H p ys) ∧ Q (.int ys.length) H
theorem c_len {X : Cx} (h : X.K = K := by rfl) : CallR X (.builtin "len") (rLen K) := by subst h; exact call_len_seq
theorem lenL (h : SqL K H p xs) (k : Q (.int xs.length) H) : rLen K [.ref p] H Q := ⟨p, xs, rfl, .inl h, k⟩
theorem lenT (h : SqT K H p xs) (k : Q (.int xs.length) H) : rLen K [.ref p] H Q := ⟨p, xs, rfl, .inr h, k⟩
def rMax : List V → Hp → VK → Prop := fun xs H Q => ∃ i j, xs = [.int i, .int j] ∧ Q (.int (if j > i then j else i)) H
def rMin : List V → Hp → VK → Prop := fun xs H Q => ∃ i j, xs = [.int i, .int j] ∧ Q (.int (if j < i then j else i)) H
theorem c_max {X : Cx} (hc : X.calm = true) : CallR X (.builtin "max") rMax := call_max2 hc
theorem c_min {X : Cx} (hc : X.calm = true) : CallR X (.builtin "min") rMin := call_min2 hc
theorem maxI (k : Q (.int (if j > i then j else i)) H) : rMax [.int i, .int j] H Q := ⟨i, j, rfl, k⟩
theorem minI (k : Q (.int (if j < i then j else i)) H) : rMin [.int i, .int j] H Q := ⟨i, j, rfl, k⟩
def rLst (K : PySem.W.Frag) : List V → Hp → VK → Prop := fun xs H Q => ∃ p ys, xs = [.ref p] ∧ (SqL K H p ys ∨ SqT K H p ys) ∧ ∀ l, H l = none → Q (.ref l) (upd H l (.lst ys))
theorem c_list {X : Cx} (h : X.K = K := by rfl) : CallR X (.type "list") (rLst K) := by subst h; exact call_list_of
theorem listL (h : SqL K H p xs) (k : ∀ l, H l = none → Q (.ref l) (upd H l (.lst xs))) : rLst K [.ref p] H Q := ⟨p, xs, rfl, .inl h, k⟩
theorem listT (h : SqT K H p xs) (k : ∀ l, H l = none → Q (.ref l) (upd H l (.lst xs))) : rLst K [.ref p] H Q := ⟨p, xs, rfl, .inr h, k⟩
/-! ### tests -/
theorem test (k : te σ H fun x H' => ∃ k, x = .bl k ∧ D.nx σ H') : True := trivial
theorem tst {R : Bool → Hp → Prop} (k : te σ H fun x H' => ∃ k, x = .bl k ∧ R k H') : tTest te σ H R := k
theorem tb_ {R : Bool → Hp → Prop} (k : te σ H fun x H' => ∃ k, x = .bl k ∧ R k H') : tB te σ H R := k
theorem not_ {t : TT} {R : Bool → Hp → Prop} (k : t σ H fun c H1 => R (!c) H1) : tNot t σ H R := k
theorem and_ {t u : TT} {R : Bool → Hp → Prop} (k : t σ H fun c H1 => if c = true then u σ H1 R else R false H1) : tAnd t u σ H R := k
theorem or_ {t u : TT} {R : Bool → Hp → Prop} (k : t σ H fun c H1 => if c = true then R true H1 else u σ H1 R) : tOr t u σ H R := k
/-! ### statements -/
theorem seq (k : t { D with nx := u D } σ H) : tSeq t u D σ H := k
theorem asg {g : TG} (k : te σ H fun x H1 => g x σ H1 D.nx) : tAsg te g D σ H := k
theorem name {n : Nat} {R : L2.St → Hp → Prop} (k : R (σ.set n (some v)) H) : gName n v σ H R := k
theorem ret (k : te σ H D.rt) : tRet te D σ H := k
theorem ifS {c : TT} (k : c σ H fun b H1 => if b = true then t D σ H1 else u D σ H1) : tIfS c t u D σ H := k
theorem next (k : D.nx σ H) : tNext D σ H := k
theorem drop (k : te σ H fun _ H1 => D.nx σ H1) : tDrop te D σ H := k
theorem gsub {to ti : TE} {s : TSet} {R : L2.St → Hp → Prop} (k : to σ H fun o H1 => ti σ H1 fun i H2 => s o i v H2 fun H3 => R σ H3) : gSub to ti s v σ H R := k
theorem setL {R : Hp → Prop} {n : Nat} (h : H p = some (.lst xs)) (e : ixN xs.length i = some n) (k : R (upd H p (.lst (xs.set n v)))) : rSetL (.ref p) (.int i) v H R := ⟨p, xs, i, n, rfl, rfl, h, e, k⟩
end
theorem cr {σ : L2.St} {H : Hp} {Q : VK} {sp : Sp} {t : TA} (k : t σ H fun vs H1 => sp vs H1 Q E0) : tCr sp t σ H Q := k
theorem crX {σ : L2.St} {H : Hp} {Q : VK} {sp : Sp} {E : XK} {t : TA} (k : t σ H fun vs H1 => sp vs H1 Q E) : tCrX sp E t σ H Q := k
theorem ixOS {C : Addr} {sp : Sp} {E : L2.St → XK} {ta tb : TE} {σ : L2.St} {H : Hp} {Q : VK} (k : ta σ H fun x H1 => tb σ H1 fun y H2 => rOwnIx C sp (E σ) x y H2 Q) : tIxOS C sp E ta tb σ H Q := k
theorem xf {D dd : Addr} {ea : Addr} {f : Str} {te : TE} {σ : L2.St} {H : Hp} {Q : VK} {fs : List (Str × V)} {v : V} (hd : H dd = some (.xd fs)) (hv : fs.lookup f = some v) (h : te σ H fun x H1 => x = .ref ea ∧ H1 = H) (mono : ∀ R R' : VK, (∀ v H, R v H → R' v H) → te σ H R → te σ H R') (q : Q v H) : tXf ea (.ref D) (some dd) D f te σ H Q :=
  mono _ _ (fun x H1 ⟨h1, h2⟩ => ⟨h1, rfl, dd, fs, v, rfl, by rw [h2]; exact hd, hv, by rw [h2]; exact q⟩) h
theorem xfv {D dd : Addr} {ea : Addr} {f : Str} {i : Nat} {σ : L2.St} {H : Hp} {Q : VK} {fs : List (Str × V)} {v : V} (hd : H dd = some (.xd fs)) (hi : σ[i]? = some (some (.ref ea))) (hv : fs.lookup f = some v) (q : Q v H) : tXf ea (.ref D) (some dd) D f (tVar i) σ H Q :=
  ⟨.ref ea, hi, rfl, rfl, dd, fs, v, rfl, hd, hv, q⟩
theorem isX {K : PySem.W.Frag} {D dd ea : Addr} {H : Hp} {Q : VK} {fs : List (Str × V)} {c : V} {cv : Value} {b : Bool} (hd : H dd = some (.xd fs)) (hc : ClsV c cv) (e : PySem.W.kitOne K (.ref D) cv = some b) (q : Q (.bl b) H) : rIsX K D ea (.ref D) (some dd) [.ref ea, c] H Q :=
  ⟨c, cv, b, dd, fs, rfl, hc, rfl, rfl, hd, e, q⟩
/-! ### names of built-ins -/
theorem bt_abs : bootBuiltins "abs" = some (.builtin "abs") := by decide +kernel
theorem bt_any : bootBuiltins "any" = some (.builtin "any") := by decide +kernel
theorem bt_all : bootBuiltins "all" = some (.builtin "all") := by decide +kernel
theorem bt_dict : bootBuiltins "dict" = some (.type "dict") := by decide +kernel
theorem bt_enumerate : bootBuiltins "enumerate" = some (.type "enumerate") := by decide +kernel
theorem bt_isinstance : bootBuiltins "isinstance" = some (.builtin "isinstance") := by decide +kernel
theorem bt_iter : bootBuiltins "iter" = some (.builtin "iter") := by decide +kernel
theorem bt_len : bootBuiltins "len" = some (.builtin "len") := by decide +kernel
theorem bt_max : bootBuiltins "max" = some (.builtin "max") := by decide +kernel
theorem bt_min : bootBuiltins "min" = some (.builtin "min") := by decide +kernel
theorem bt_range : bootBuiltins "range" = some (.type "range") := by decide +kernel
theorem bt_repr : bootBuiltins "repr" = some (.builtin "repr") := by decide +kernel
theorem bt_reversed : bootBuiltins "reversed" = some (.type "reversed") := by decide +kernel
theorem bt_set : bootBuiltins "set" = some (.type "set") := by decide +kernel
theorem bt_sorted : bootBuiltins "sorted" = some (.builtin "sorted") := by decide +kernel
theorem bt_str : bootBuiltins "str" = some (.type "str") := by decide +kernel
theorem bt_sum : bootBuiltins "sum" = some (.builtin "sum") := by decide +kernel
theorem bt_tuple : bootBuiltins "tuple" = some (.type "tuple") := by decide +kernel
theorem bt_int : bootBuiltins "int" = some (.type "int") := by decide +kernel
theorem bt_bool : bootBuiltins "bool" = some (.type "bool") := by decide +kernel
theorem bt_list : bootBuiltins "list" = some (.type "list") := by decide +kernel
theorem bt_type : bootBuiltins "type" = some (.type "type") := by decide +kernel
theorem bt_zip : bootBuiltins "zip" = some (.type "zip") := by decide +kernel
theorem bt_next : bootBuiltins "next" = some (.builtin "next") := by decide +kernel
theorem bt_ValueError : bootBuiltins "ValueError" = some (.type "ValueError") := by decide +kernel
def MkR (C : Addr) (sp : Sp) (E : XK) (vs : List V) (H1 : Hp) (Q : VK) : Prop := ∀ x dx, H1 x = none → H1 dx = none → dx ≠ x → sp (.ref x :: vs) (upd (upd H1 dx (.own x)) x (.ins C dx [])) (fun v H2 => v = .non ∧ Q (.ref x) H2) E
theorem mk {C : Addr} {σ : L2.St} {H : Hp} {Q : VK} {sp : Sp} {t : TA} (k : t σ H fun vs H1 => MkR C sp E0 vs H1 Q) : tMk C sp t σ H Q := k
theorem mkX {C : Addr} {σ : L2.St} {H : Hp} {Q : VK} {E : XK} {sp : Sp} {t : TA} (k : t σ H fun vs H1 => MkR C sp E vs H1 Q) : tMkX C sp E t σ H Q := k
/-! ### ifs -/
theorem iteb {c : Bool} {A B : Prop} (h1 : c = true → A) (h2 : c = false → B) : if c = true then A else B := by
  cases c with
  | true => rw [if_pos rfl]; exact h1 rfl
  | false => rw [if_neg Bool.false_ne_true]; exact h2 rfl
theorem ited {p : Prop} [Decidable p] {A B : Prop} (h1 : p → A) (h2 : ¬ p → B) : if decide p = true then A else B :=
  iteb (fun e => h1 (of_decide_eq_true e)) fun e => h2 (of_decide_eq_false e)
theorem iten {p : Prop} [Decidable p] {A B : Prop} (h1 : ¬ p → A) (h2 : p → B) : if (!decide p) = true then A else B :=
  iteb (fun e => h1 (by simpa using e)) fun e => h2 (by simpa using e)
theorem iteNT {A B : Prop} (h : B) : if (!true) = true then A else B := h
theorem iteNF {A B : Prop} (h : A) : if (!false) = true then A else B := h
/-! ### sizes, places -/
theorem sz {n : Nat} (h : n ≤ 100000) : n ≤ sizeLine := Nat.le_trans h (by decide)
theorem szr {n : Nat} (h : Nat.ble n 100000 = true) : n ≤ sizeLine := sz (Nat.le_of_ble_eq_true h)
theorem szl {n : Nat} (h : n < 100000) : n < sizeLine := Nat.lt_of_lt_of_le h (by decide)
theorem nat_at {α : Type} {xs : List α} {j : Nat} {z : Int} {v : α} (e : z = (j : Int)) (h : xs[j]? = some v) : atI xs z = some v := by rw [e]; exact atI_nat h
theorem ixN_nat {n j : Nat} {z : Int} (e : z = (j : Int)) (h : j < n) : ixN n z = some j := by
  unfold ixN
  rw [if_pos (by omega), if_pos (by omega), e]
  rfl
/-! ### heaps -/
theorem ext_app {H H' : Hp} {a : Addr} {o : HO} (e : Ext H H') (h : H a = some o) : H' a = some o := e a o h
theorem new_app {H : Hp} {a p : Addr} {o u : HO} (n : H p = none) (h : H a = some o) : upd H p u a = some o := Ext.upd n a o h
theorem upd_app {H : Hp} {a p : Addr} {o u : HO} (ne : a ≠ p) (h : H a = some o) : upd H p u a = some o := by rw [upd_ne ne]; exact h
theorem ext_new {H : Hp} {p : Addr} {u : HO} (n : H p = none) : Ext H (upd H p u) := Ext.upd n
theorem ext_free {H H' : Hp} (e : Ext H H') {p : Addr} (n : H' p = none) : H p = none := by
  cases q : H p with
  | none => rfl
  | some o => rw [e p o q] at n; cases n
theorem ext_L {K : PySem.W.Frag} {H H' : Hp} {a : Addr} {xs : List V} (e : Ext H H') (h : SqL K H a xs) : SqL K H' a xs := h.ext e
theorem ext_T {K : PySem.W.Frag} {H H' : Hp} {a : Addr} {xs : List V} (e : Ext H H') (h : SqT K H a xs) : SqT K H' a xs := h.ext e
/-- a heap without the objects at O -/
def hid (O : List Addr) (H : Hp) : Hp := fun b => if b ∈ O then none else H b
theorem hid_ne {O : List Addr} {a : Addr} {H : Hp} (h : a ∉ O) : hid O H a = H a := if_neg h
theorem hid_in {O : List Addr} {a : Addr} {H : Hp} (h : a ∈ O) : hid O H a = none := if_pos h
theorem hid_nil {H : Hp} : hid [] H = H := by funext b; exact hid_ne (by simp)
theorem hid_at {O : List Addr} {a : Addr} {H : Hp} {o : HO} (h : hid O H a = some o) : H a = some o ∧ a ∉ O := by
  by_cases e : a ∈ O
  · rw [hid_in e] at h; cases h
  · rw [hid_ne e] at h; exact ⟨h, e⟩
theorem hid_upd {O : List Addr} {p : Addr} {H : Hp} {u : HO} (h : p ∈ O) : hid O (upd H p u) = hid O H := by
  funext b
  by_cases e : b ∈ O
  · rw [hid_in e, hid_in e]
  · rw [hid_ne e, hid_ne e, upd_ne (fun z => e (by rw [z]; exact h))]
theorem hid_ext {O : List Addr} {H : Hp} : Ext (hid O H) H := fun a o h => (hid_at h).1
theorem ext_rfl {H : Hp} : Ext H H := fun _ _ h => h
theorem ext_hid {O : List Addr} {H H' : Hp} (e : Ext H H') : Ext (hid O H) (hid O H') := fun a o h => by
  obtain ⟨h1, h2⟩ := hid_at h
  rw [hid_ne h2]
  exact e a o h1
/-- a new object, O's stay hidden -/
theorem hid_new {O : List Addr} {p : Addr} {H : Hp} {u : HO} (h : p ∉ O) : hid O (upd H p u) p = some u := by rw [hid_ne h, upd_same]
theorem not_in {O : List Addr} {p : Addr} {H : Hp} (h : H p = none) (ho : ∀ a ∈ O, ∃ u, H a = some u) : p ∉ O := fun z => by
  obtain ⟨u, e⟩ := ho p z
  rw [h] at e; cases e
theorem ext_hid_new {O : List Addr} {p : Addr} {H : Hp} {u : HO} (h : H p = none) : Ext (hid O H) (hid O (upd H p u)) := ext_hid (Ext.upd h)
theorem ext_hid_upd {O : List Addr} {p : Addr} {H : Hp} {u : HO} (h : p ∈ O) : Ext (hid O H) (hid O (upd H p u)) := by rw [hid_upd h]; exact ext_rfl
/-- from a heap that does not know O -/
theorem ext_to_hid {O : List Addr} {H H' : Hp} (e : Ext H H') (h : ∀ a ∈ O, H a = none) : Ext H (hid O H') := fun a o q => by
  rw [hid_ne (fun z => by rw [h a z] at q; cases q)]
  exact e a o q
/-! ### pairs -/
theorem paired_snoc {α β : Type} {R : α → β → Prop} {a : α} {b : β} (h : R a b) : ∀ {xs : List α} {ys : List β}, Paired R xs ys → Paired R (xs ++ [a]) (ys ++ [b])
  | _, _, .nil => .cons h .nil
  | _, _, .cons r t => .cons r (paired_snoc h t)
theorem paired_map {α β : Type} {f : α → β} : ∀ {xs : List α} {ys : List β}, Paired (fun a b => b = f a) xs ys → ys = xs.map f
  | _, _, .nil => rfl
  | _, _, .cons r t => by rw [r, paired_map t]; rfl
theorem paired_of_map {α β : Type} {f : α → β} {R : α → β → Prop} (h : ∀ a, R a (f a)) : ∀ xs : List α, Paired R xs (xs.map f)
  | [] => .nil
  | x :: xs => .cons (h x) (paired_of_map h xs)
theorem paired_len {α β : Type} {R : α → β → Prop} : ∀ {xs : List α} {ys : List β}, Paired R xs ys → xs.length = ys.length
  | _, _, .nil => rfl
  | _, _, .cons _ t => by rw [List.length_cons, List.length_cons, paired_len t]
theorem paired_imp {α β : Type} {R S : α → β → Prop} (h : ∀ a b, R a b → S a b) : ∀ {xs : List α} {ys : List β}, Paired R xs ys → Paired S xs ys
  | _, _, .nil => .nil
  | _, _, .cons r t => .cons (h _ _ r) (paired_imp h t)
theorem paired_at {α β : Type} {R : α → β → Prop} : ∀ {xs : List α} {ys : List β} {i : Nat} {x : α}, Paired R xs ys → xs[i]? = some x → ∃ y, ys[i]? = some y ∧ R x y
  | _, _, _, _, .nil, e => by simp at e
  | _, _, 0, _, .cons r _, e => by simp at e; subst e; exact ⟨_, rfl, r⟩
  | _, _, i + 1, x, .cons _ t, e => by
    obtain ⟨y, h1, h2⟩ := paired_at (i := i) (x := x) t (by simpa using e)
    exact ⟨y, by simpa using h1, h2⟩
theorem paired_mapl {α β γ : Type} {f : α → γ} {R : γ → β → Prop} : ∀ {xs : List α} {ys : List β}, Paired (fun a b => R (f a) b) xs ys → Paired R (xs.map f) ys
  | _, _, .nil => .nil
  | _, _, .cons r t => .cons r (paired_mapl t)
theorem take_snoc {α : Type} {l : List α} {i : Nat} {x : α} (h : l[i]? = some x) : l.take (i + 1) = l.take i ++ [x] := by
  rw [List.take_succ, h]; rfl
theorem filter_snoc {α : Type} (keep : α → Bool) {l : List α} {i : Nat} {x : α} (h : l[i]? = some x) : (l.take (i + 1)).filter keep = (l.take i).filter keep ++ (if keep x = true then [x] else []) := by
  rw [take_snoc h, List.filter_append]
  congr 1
  cases e : keep x with
  | true => simp [e]
  | false => simp [e]
/-! ### comprehensions: the items told, what each kept one gives -/
section
variable {α : Type} {J : It} {G : Hp → Prop} {Y : Nat → Hp → V → Hp → Prop} {items : List α} {Yi : α → Hp → V → Hp → Prop}
theorem lcG (w : Walk J items.length G Y) (hy : ∀ i H x H', Y i H x H' → ∃ it, items[i]? = some it ∧ Yi it H x H') (hn : items.length < 100000)
    {g : TG} {tt : TT} {te : TE} {vs : List Nat} {σ : L2.St} {H1 : Hp} {D : Addr} {Qd : Hp → Prop} (O : List Addr) (I : Hp → Prop) (keep : α → Bool) (R : α → V → Hp → Prop) (mono : ∀ a y H H', Ext H H' → R a y H → R a y H')
    (hD : H1 D = none) (hO : D ∉ O) (hI : ∀ H u, I H → I (upd H D u)) (i0 : I H1) (hG : ∀ H, Ext (hid O H1) (hid O H) → I H → G H)
    (hs : ∀ (i : Nat) it x H H' acc, items[i]? = some it → Ext (hid O H1) (hid O H) → I H → H D = some (.lst acc) → Yi it H x H' → ∀ (Qy : VK) (Qn : Hp → Prop),
      (∀ y H4, Ext (hid O H) (hid O H4) → I H4 → keep it = true → R it y (hid (D :: O) H4) → Qy y H4) → (∀ H3, Ext (hid O H) (hid O H3) → I H3 → keep it = false → Qn H3) →
      g x (wipe σ vs) H' fun σ2 H2 => wipe σ2 vs = wipe σ vs ∧ tt σ2 H2 fun b H3 => if b = true then te σ2 H3 Qy else Qn H3)
    (hd : ∀ ys H, Ext (hid O H1) (hid O H) → I H → H D = some (.lst ys) → Paired (fun a y => R a y (hid (D :: O) H)) (items.filter keep) ys → Qd H) :
    ∃ W : Nat → Nat → Hp → Prop, (∃ m, W 0 m (upd H1 D (.lst []))) ∧ ∀ i m H, W i m H →
      (J.stop i H ∧ Qd H) ∨ (J.go i H ∧ ∃ Nx : Hp → Prop, (∀ H', Nx H' → ∃ m', m' < m ∧ W (i + 1) m' H') ∧ ∀ x H', J.yld i H x H' → g x (wipe σ vs) H' fun σ2 H2 => wipe σ2 vs = wipe σ vs ∧ tt σ2 H2 fun b H3 =>
        if b = true then te σ2 H3 fun y H4 => ∃ acc, H4 D = some (.lst acc) ∧ acc.length < sizeLine ∧ Nx (upd H4 D (.lst (acc ++ [y]))) else Nx H3) := by
  have dd : ∀ H u, hid (D :: O) (upd H D u) = hid (D :: O) H := fun H u => hid_upd List.mem_cons_self
  have fe : ∀ {H : Hp} {u : HO}, Ext (hid O H1) (hid O H) → Ext (hid O H1) (hid O (upd H D u)) := fun {H u} e a o h => by
    have e2 := e a o h
    obtain ⟨h1, h2⟩ := hid_at h
    rw [hid_ne h2, upd_ne (ne_of_none h1 hD)]
    exact (hid_at e2).1
  have keepD : ∀ {H H4 : Hp} {u : HO}, Ext (hid O H) (hid O H4) → H D = some u → H4 D = some u := fun {H H4 u} e h => by
    have e2 := e D u (by rw [hid_ne hO]; exact h)
    exact (hid_at e2).1
  have hidD : ∀ {H H4 : Hp}, Ext (hid O H) (hid O H4) → Ext (hid (D :: O) H) (hid (D :: O) H4) := fun {H H4} e a o h => by
    obtain ⟨h1, h2⟩ := hid_at h
    have e2 := e a o (by rw [hid_ne fun z => h2 (List.mem_cons_of_mem _ z)]; exact h1)
    rw [hid_ne h2]
    exact (hid_at e2).1
  refine lc_it w (fun i H => Ext (hid O H1) (hid O H) ∧ I H ∧ ∃ ys, H D = some (.lst ys) ∧ Paired (fun a y => R a y (hid (D :: O) H)) ((items.take i).filter keep) ys)
    ⟨fe ext_rfl, hI _ _ i0, [], upd_same, .nil⟩ (fun i H hi p => hG H p.1 p.2.1) ?_ ?_
  · rintro i x H H' hi ⟨e, hi2, ys, hys, pr⟩ y
    obtain ⟨it, hit, yi⟩ := hy i H x H' y
    have hlen : ys.length < 100000 := by
      have h1 := paired_len pr
      have h2 := List.length_filter_le keep (items.take i)
      rw [List.length_take] at h2
      omega
    refine hs i it x H H' ys hit e hi2 hys yi _ _ (fun v H4 e4 i4 k4 r4 => ?_) (fun H3 e3 i3 k3 => ?_)
    · refine ⟨ys, keepD e4 hys, szl hlen, fe (e.trans e4), hI _ _ i4, ys ++ [v], upd_same, ?_⟩
      rw [filter_snoc keep hit, if_pos k4, dd]
      exact paired_snoc (R := fun a y => R a y (hid (D :: O) H4)) r4 (paired_imp (fun a b r => mono a b _ _ (hidD e4) r) pr)
    · refine ⟨e.trans e3, i3, ys, keepD e3 hys, ?_⟩
      rw [filter_snoc keep hit, k3, if_neg Bool.false_ne_true, List.append_nil]
      exact paired_imp (fun a b r => mono a b _ _ (hidD e3) r) pr
  · rintro H ⟨e, hi2, ys, hys, pr⟩
    rw [List.take_length] at pr
    exact hd ys H e hi2 hys pr
end
/-- over a list, a tuple, a range: what is yielded -/
theorem yat {α : Type} {xs : List α} {emb : α → V} : ∀ i H x H', YAt (xs.map emb) i H x H' → ∃ it, xs[i]? = some it ∧ (H' = H ∧ x = emb it) := fun i H x H' h => by
  obtain ⟨rfl, h⟩ := h
  rw [List.getElem?_map] at h
  cases e : xs[i]? with
  | none => rw [e] at h; cases h
  | some it => rw [e] at h; exact ⟨it, rfl, rfl, (Option.some.inj h).symm⟩
theorem yfn {n : Nat} {f : Nat → V} : ∀ i H x H', i < n → YFn f i H x H' → ∃ it, (List.range n)[i]? = some it ∧ (H' = H ∧ x = f it) := fun i H x H' hi h => by
  obtain ⟨rfl, rfl⟩ := h
  exact ⟨i, by rw [List.getElem?_range hi], rfl, rfl⟩
section
variable {α : Type} {J : It} {G : Hp → Prop} {Y : Nat → Hp → V → Hp → Prop} {items : List α} {K : PySem.W.Frag}
/-- nothing but new objects; the elements' values by their items -/
theorem lcE {emb : α → V} (w : Walk J items.length G Y) (hy : ∀ i H x H', Y i H x H' → ∃ it, items[i]? = some it ∧ (H' = H ∧ x = emb it)) (hn : items.length < 100000)
    {g : TG} {tt : TT} {te : TE} {vs : List Nat} {σ : L2.St} {H1 : Hp} {D : Addr} {Qd : Hp → Prop} (keep : α → Bool) (R : α → V → Hp → Prop) (mono : ∀ a y H H', Ext H H' → R a y H → R a y H')
    (hD : H1 D = none) (hG : ∀ H, Ext H1 H → G H)
    (hs : ∀ (i : Nat) it H acc, items[i]? = some it → Ext H1 H → H D = some (.lst acc) → ∀ (Qy : VK) (Qn : Hp → Prop),
      (∀ y H4, Ext H H4 → keep it = true → R it y (hid [D] H4) → Qy y H4) → (∀ H3, Ext H H3 → keep it = false → Qn H3) →
      g (emb it) (wipe σ vs) H fun σ2 H2 => wipe σ2 vs = wipe σ vs ∧ tt σ2 H2 fun b H3 => if b = true then te σ2 H3 Qy else Qn H3)
    (hd : ∀ ys H, Ext H1 H → H D = some (.lst ys) → Paired (fun a y => R a y (hid [D] H)) (items.filter keep) ys → Qd H) :
    ∃ W : Nat → Nat → Hp → Prop, (∃ m, W 0 m (upd H1 D (.lst []))) ∧ ∀ i m H, W i m H →
      (J.stop i H ∧ Qd H) ∨ (J.go i H ∧ ∃ Nx : Hp → Prop, (∀ H', Nx H' → ∃ m', m' < m ∧ W (i + 1) m' H') ∧ ∀ x H', J.yld i H x H' → g x (wipe σ vs) H' fun σ2 H2 => wipe σ2 vs = wipe σ vs ∧ tt σ2 H2 fun b H3 =>
        if b = true then te σ2 H3 fun y H4 => ∃ acc, H4 D = some (.lst acc) ∧ acc.length < sizeLine ∧ Nx (upd H4 D (.lst (acc ++ [y]))) else Nx H3) := by
  have z : ∀ {H H' : Hp}, Ext (hid [] H) (hid [] H') ↔ Ext H H' := fun {H H'} => by rw [hid_nil, hid_nil]
  refine lcG w (Yi := fun it H x H' => H' = H ∧ x = emb it) hy hn [] (fun _ => True) keep R mono hD (by simp) (fun _ _ _ => trivial) trivial (fun H e _ => hG H (z.mp e)) ?_ ?_
  · rintro i it x H H' acc hit e _ ha ⟨rfl, rfl⟩ Qy Qn ky kn
    exact hs i it H' acc hit (z.mp e) ha Qy Qn (fun y H4 e4 => ky y H4 (z.mpr e4) trivial) (fun H3 e3 => kn H3 (z.mpr e3) trivial)
  · intro ys H e _ hys pr
    exact hd ys H (z.mp e) hys pr
end
theorem walk_rangeN {n : Nat} : Walk (Itr 0 n) (List.range n).length (fun _ => True) (fun i H x H' => i < n ∧ YFn (fun i => .int (0 + (i : Nat))) i H x H') := by
  rw [List.length_range]
  exact ⟨fun _ _ hi _ => hi, fun _ _ => Nat.le_refl _, fun i _ _ _ hi _ y => ⟨hi, y⟩⟩
theorem yrng {n : Nat} : ∀ i H x H', (i < n ∧ YFn (fun i => V.int (0 + (i : Nat))) i H x H') → ∃ it, (List.range n)[i]? = some it ∧ (H' = H ∧ x = V.int (it : Nat)) := fun i H x H' h => by
  obtain ⟨it, h1, h2, h3⟩ := yfn i H x H' h.1 h.2
  exact ⟨it, h1, h2, by rw [h3, Int.zero_add]⟩
theorem walk_listM {α : Type} {K : PySem.W.Frag} {a : Addr} {xs : List α} {emb : α → V} : Walk (Itl K a) xs.length (fun H => SqL K H a (xs.map emb)) (YAt (xs.map emb)) := by
  have w := walk_list (K := K) (a := a) (xs := xs.map emb)
  rw [List.length_map] at w
  exact w
theorem walk_tupM {α : Type} {K : PySem.W.Frag} {a : Addr} {xs : List α} {emb : α → V} : Walk (Itt K a) xs.length (fun H => SqT K H a (xs.map emb)) (YAt (xs.map emb)) := by
  have w := walk_tup (K := K) (a := a) (xs := xs.map emb)
  rw [List.length_map] at w
  exact w
/-- values that say nothing of the heap -/
theorem pure_mono {α : Type} {f : α → V} : ∀ (a : α) (y : V) (H H' : Hp), Ext H H' → y = f a → y = f a := fun _ _ _ _ _ h => h
/-! ### what is walked -/
def LcB (J : It) (g : TG) (tt : TT) (te : TE) (vs : List Nat) (σ : L2.St) (H1 : Hp) (Q : VK) : Prop := ∀ D, H1 D = none → ∃ W : Nat → Nat → Hp → Prop, (∃ m, W 0 m (upd H1 D (.lst []))) ∧ ∀ i m H, W i m H →
  (J.stop i H ∧ Q (.ref D) H) ∨ (J.go i H ∧ ∃ Nx : Hp → Prop, (∀ H', Nx H' → ∃ m', m' < m ∧ W (i + 1) m' H') ∧ ∀ x H', J.yld i H x H' → g x (wipe σ vs) H' fun σ2 H2 => wipe σ2 vs = wipe σ vs ∧ tt σ2 H2 fun b H3 =>
    if b = true then te σ2 H3 fun y H4 => ∃ acc, H4 D = some (.lst acc) ∧ acc.length < sizeLine ∧ Nx (upd H4 D (.lst (acc ++ [y]))) else Nx H3)
def ForB (J : It) (g : TG) (tb : TS) (D : Ends) (σ : L2.St) (H1 : Hp) : Prop := ∃ W : Nat → Nat → L2.St → Hp → Prop, (∃ m, W 0 m σ H1) ∧ ∀ i m σ H, W i m σ H →
  (J.stop i H ∧ D.nx σ H) ∨ (J.go i H ∧ ∃ N : L2.St → Hp → Prop, (∀ σ' H', N σ' H' → ∃ m', m' < m ∧ W (i + 1) m' σ' H') ∧ ∀ x H', J.yld i H x H' → g x σ H' fun σ2 H2 => tb { D with nx := N, ct := N, bk := D.nx } σ2 H2)
section
variable {K : PySem.W.Frag} {g : TG} {tt : TT} {te tl : TE} {ta : TA} {vs : List Nat} {σ : L2.St} {H : Hp} {Q : VK} {tb : TS} {D : Ends} {wi : TI}
theorem lcT (k : tl σ H fun x H1 => ∃ a, x = .ref a ∧ (∃ xs, SqT K H1 a xs) ∧ LcB (Itt K a) g tt te vs σ H1 Q) : tLc (iTup K tl) g tt te vs σ H Q := k
theorem lcL (k : tl σ H fun x H1 => ∃ a, x = .ref a ∧ (∃ xs, SqL K H1 a xs) ∧ LcB (Itl K a) g tt te vs σ H1 Q) : tLc (iList K tl) g tt te vs σ H Q := k
theorem lcR (k : ta σ H fun vs' H1 => ∃ j : Int, vs' = [.int j] ∧ -(2 ^ 62) ≤ j ∧ j < 2 ^ 62 ∧ LcB (Itr 0 j.toNat) g tt te vs σ H1 Q) : tLc (iRng1 ta) g tt te vs σ H Q := k
theorem forT (k : tl σ H fun x H1 => ∃ a, x = .ref a ∧ (∃ xs, SqT K H1 a xs) ∧ ForB (Itt K a) g tb D σ H1) : tFor (iTup K tl) g tb D σ H := k
theorem forL (k : tl σ H fun x H1 => ∃ a, x = .ref a ∧ (∃ xs, SqL K H1 a xs) ∧ ForB (Itl K a) g tb D σ H1) : tFor (iList K tl) g tb D σ H := k
theorem forR (k : ta σ H fun vs' H1 => ∃ j : Int, vs' = [.int j] ∧ -(2 ^ 62) ≤ j ∧ j < 2 ^ 62 ∧ ForB (Itr 0 j.toNat) g tb D σ H1) : tFor (iRng1 ta) g tb D σ H := k
theorem yes {R : Bool → Hp → Prop} (k : R true H) : tYes σ H R := k
end
/-! ### data: == by an encoding -/
structure Enc {α : Type} [DecidableEq α] (f : α → PyData) (k : Nat) : Prop where
  eq : ∀ a b, PyData.eqv (f a) (f b) = decide (a = b)
  lay : ∀ a, (f a).canLay0 = true
  dep : ∀ a, (f a).depth ≤ k
theorem eqvAll_map {α : Type} [DecidableEq α] {f : α → PyData} (h : ∀ a b, PyData.eqv (f a) (f b) = decide (a = b)) : ∀ xs ys : List α, PyData.eqvAll (xs.map f) (ys.map f) = decide (xs = ys)
  | [], [] => by simp [PyData.eqvAll]
  | [], _ :: _ => by simp [PyData.eqvAll]
  | _ :: _, [] => by simp [PyData.eqvAll]
  | x :: xs, y :: ys => by
    rw [List.map_cons, List.map_cons, PyData.eqvAll, h, eqvAll_map h xs ys, Bool.eq_iff_iff]
    simp
theorem layAll_map {α : Type} {f : α → PyData} (h : ∀ a, (f a).canLay0 = true) : ∀ xs : List α, PyData.canLayAll0 (xs.map f) = true
  | [] => by simp [PyData.canLayAll0]
  | x :: xs => by rw [List.map_cons, PyData.canLayAll0, h, layAll_map h xs]; rfl
theorem depAll_map {α : Type} {f : α → PyData} {k : Nat} (h : ∀ a, (f a).depth ≤ k) : ∀ xs : List α, PyData.depthAll (xs.map f) ≤ k
  | [] => by simp [PyData.depthAll]
  | x :: xs => by rw [List.map_cons, PyData.depthAll]; exact Nat.max_le.mpr ⟨h x, depAll_map h xs⟩
section
variable {α β : Type} [DecidableEq α] [DecidableEq β] {f : α → PyData} {g : β → PyData} {k m : Nat}
theorem Enc.shaped (e : Enc f k) (h : k ≤ 64 := by decide) (a : α) : SeqAt.shaped (f a) = true := by
  unfold SeqAt.shaped
  rw [e.lay a, decide_eq_true (Nat.le_trans (e.dep a) h)]; rfl
theorem Enc.int : Enc PyData.int 0 := ⟨fun a b => by rw [PyData.eqv]; exact Bool.beq_eq_decide_eq a b, fun a => by rw [PyData.canLay0], fun a => by rw [PyData.depth]; exact Nat.le_refl _⟩
theorem Enc.bool : Enc PyData.bool 0 := ⟨fun a b => by rw [PyData.eqv]; exact Bool.beq_eq_decide_eq a b, fun a => by rw [PyData.canLay0], fun a => by rw [PyData.depth]; exact Nat.le_refl _⟩
theorem Enc.list (e : Enc f k) : Enc (fun xs : List α => PyData.list (xs.map f)) (k + 1) :=
  ⟨fun a b => by rw [PyData.eqv]; exact eqvAll_map e.eq a b, fun a => by rw [PyData.canLay0]; exact layAll_map e.lay a, fun a => by rw [PyData.depth]; exact Nat.succ_le_succ (depAll_map e.dep a)⟩
theorem Enc.tuple (e : Enc f k) : Enc (fun xs : List α => PyData.tuple (xs.map f)) (k + 1) :=
  ⟨fun a b => by rw [PyData.eqv]; exact eqvAll_map e.eq a b, fun a => by rw [PyData.canLay0]; exact layAll_map e.lay a, fun a => by rw [PyData.depth]; exact Nat.succ_le_succ (depAll_map e.dep a)⟩
theorem Enc.pair (e : Enc f k) (e' : Enc g m) : Enc (fun p : α × β => PyData.tuple [f p.1, g p.2]) (max k m + 1) :=
  ⟨fun a b => by
    rw [PyData.eqv, PyData.eqvAll, PyData.eqvAll, PyData.eqvAll, e.eq, e'.eq, Bool.eq_iff_iff]
    simp [Prod.ext_iff], fun a => by rw [PyData.canLay0, PyData.canLayAll0, PyData.canLayAll0, PyData.canLayAll0, e.lay, e'.lay]; rfl,
   fun a => by
    rw [PyData.depth, PyData.depthAll, PyData.depthAll, PyData.depthAll]
    have h1 := e.dep a.1
    have h2 := e'.dep a.2
    omega⟩
theorem dpAll_map {K : PySem.W.Frag} {H : Hp} {emb : α → V} (h : ∀ a, Dp K H (emb a) (f a)) : ∀ xs : List α, DpAll K H (xs.map emb) (xs.map f)
  | [] => .nil
  | x :: xs => .cons (h x) (dpAll_map h xs)
theorem dpAll_paired {K : PySem.W.Frag} {H : Hp} {R : α → V → Prop} (h : ∀ a v, R a v → Dp K H v (f a)) : ∀ {xs : List α} {ys : List V}, Paired R xs ys → DpAll K H ys (xs.map f)
  | _, _, .nil => .nil
  | _, _, .cons r t => .cons (h _ _ r) (dpAll_paired h t)
end
section
variable {K : PySem.W.Frag} {H : Hp} {Q : VK} {x y : V} {α : Type} [DecidableEq α] {f : α → PyData} {k : Nat} {a b : α}
theorem eqD (e : Enc f k) (hx : Dp K H x (f a)) (hy : Dp K H y (f b)) (q : Q (.bl (decide (a = b))) H) (h : k ≤ 64 := by decide) : rEqD K x y H Q := ⟨_, _, hx, hy, e.shaped h a, e.shaped h b, by rw [e.eq]; exact q⟩
theorem neD (e : Enc f k) (hx : Dp K H x (f a)) (hy : Dp K H y (f b)) (q : Q (.bl (!decide (a = b))) H) (h : k ≤ 64 := by decide) : rNeD K x y H Q := ⟨_, _, hx, hy, e.shaped h a, e.shaped h b, by rw [e.eq]; exact q⟩
theorem dp_ints {p : Addr} {xs : List Int} (h : SqL K H p (xs.map V.int)) : Dp K H (.ref p) (PyData.list (xs.map PyData.int)) := .lst h (dpAll_map (fun a => .int a) xs)
theorem dp_tints {p : Addr} {xs : List Int} (h : SqT K H p (xs.map V.int)) : Dp K H (.ref p) (PyData.tuple (xs.map PyData.int)) := .tup h (dpAll_map (fun a => .int a) xs)
end
abbrev encInts : Enc (fun xs : List Int => PyData.list (xs.map PyData.int)) 1 := Enc.int.list
abbrev encTInts : Enc (fun xs : List Int => PyData.tuple (xs.map PyData.int)) 1 := Enc.int.tuple
/-! ### tuple(..) of a list or a tuple -/
def rTupOf (K : PySem.W.Frag) : List V → Hp → VK → Prop := fun xs H Q => ∃ p ys, xs = [.ref p] ∧ ((SqL K H p ys ∧ ∀ l, H l = none → Q (.ref l) (upd H l (.tup ys))) ∨ (SqT K H p ys ∧ Q (.ref p) H))
theorem c_tuple {K : PySem.W.Frag} {X : Cx} (h : X.K = K := by rfl) : CallR X (.type "tuple") (rTupOf K) := by subst h; exact call_tuple_of
theorem c_isi {K : PySem.W.Frag} {X : Cx} (h : X.K = K := by rfl) : CallR X (.builtin "isinstance") (rIsi K) := by subst h; exact call_isi
theorem tupL {K : PySem.W.Frag} {H : Hp} {Q : VK} {p : Addr} {xs : List V} (h : SqL K H p xs) (k : ∀ l, H l = none → Q (.ref l) (upd H l (.tup xs))) : rTupOf K [.ref p] H Q := ⟨p, xs, rfl, .inl ⟨h, k⟩⟩
theorem tupT {K : PySem.W.Frag} {H : Hp} {Q : VK} {p : Addr} {xs : List V} (h : SqT K H p xs) (k : Q (.ref p) H) : rTupOf K [.ref p] H Q := ⟨p, xs, rfl, .inr ⟨h, k⟩⟩
end Rd

set_option Elab.async false
set_option linter.all false
set_option maxRecDepth 100000
set_option maxHeartbeats 0
/-! Rules with the fragment named, so that they can stand within blocks. -/
namespace L2
theorem Room.units1 {k : Nat} {A : PySem.Around} (r : Room k A) : A.units + 1 < PySem.cLine := by have := r.un; omega
theorem Room.units65 {k : Nat} {A : PySem.Around} (r : Room k A) : A.units + 65 < PySem.cLine := by have := r.un; omega
end L2
namespace OwX
open PySem PySem.Spec PyProof.Rows L2
section
variable {X : Cx} {k : Nat} {C f : Addr} {m : Str} {sp : Sp} {o e : Expr} {es : List Expr} {ta : TE} {t : TA} {apos pos : Pos} {pl : Sem Bool} {E : XK}
/-- o.m(e, ..), what is raised goes on to E -/
theorem pe_meX (c : Cls X.K C) (hm : Meth X.K C m f) (F : FnR X.prog X.w X.K X.mg X.base (L2.CX X.prog X.w) k f sp) (hr : Room k X.A) (hx : Passes (L2.CX X.prog X.w) X E) (he : PE X o ta) (ha : PA X (e :: es) t)
    (hst : starEach (e :: es) X.env = (false, eval e X.env) :: starEach es X.env := by rfl) (hpl : (backTo pos (starEach es X.env)).any (·.1) = false := by rfl)
    (ht : eval (.Call (.Attribute o m apos) (e :: es) [] pos) X.env = (do
      let ov ← eval o X.env
      standAt apos.atName
      let (f, first) ← holding [ov] (getMethod ov m pl)
      callWith pos f first (backTo pos (starEach (e :: es) X.env)) (backToKw pos (keywordEach [] X.env))) := by rfl) :
    PE X (.Call (.Attribute o m apos) (e :: es) [] pos) (tMethR C m sp E ta t) := pe_methR (pl := pl) he c hm F hr hx ha hst hpl ht
theorem pe_me (c : Cls X.K C) (hm : Meth X.K C m f) (F : FnR X.prog X.w X.K X.mg X.base (L2.CX X.prog X.w) k f sp) (hr : Room k X.A) (he : PE X o ta) (ha : PA X (e :: es) t)
    (hst : starEach (e :: es) X.env = (false, eval e X.env) :: starEach es X.env := by rfl) (hpl : (backTo pos (starEach es X.env)).any (·.1) = false := by rfl)
    (ht : eval (.Call (.Attribute o m apos) (e :: es) [] pos) X.env = (do
      let ov ← eval o X.env
      standAt apos.atName
      let (f, first) ← holding [ov] (getMethod ov m pl)
      callWith pos f first (backTo pos (starEach (e :: es) X.env)) (backToKw pos (keywordEach [] X.env))) := by rfl) :
    PE X (.Call (.Attribute o m apos) (e :: es) [] pos) (tMethR C m sp E0 ta t) := pe_methR (pl := pl) he c hm F hr passL ha hst hpl ht
/-- o.m() -/
def tMe0 (C : Addr) (m : Str) (sp : Sp) (E : XK) (ta : TE) : TE := fun σ H Q => ta σ H fun x H1 => ∃ a dx fs, x = .ref a ∧ H1 a = some (.ins C dx fs) ∧ fs.lookup m = none ∧ sp [.ref a] H1 Q E
theorem pe_me0X (c : Cls X.K C) (hm : Meth X.K C m f) (F : FnR X.prog X.w X.K X.mg X.base (L2.CX X.prog X.w) k f sp) (hr : Room k X.A) (hx : Passes (L2.CX X.prog X.w) X E) (he : PE X o ta)
    (ht : eval (.Call (.Attribute o m apos) [] [] pos) X.env = (do
      let ov ← eval o X.env
      standAt apos.atName
      let (f, first) ← holding [ov] (getMethod ov m pl)
      callWith pos f first (backTo pos (starEach [] X.env)) (backToKw pos (keywordEach [] X.env))) := by rfl) :
    PE X (.Call (.Attribute o m apos) [] [] pos) (tMe0 C m sp E ta) := by
  refine ⟨fun pins s σ H Q I h => ?_⟩
  refine PySem.W.methodCall_KW (pl := pl) (thn (he.run pins s σ H _ I h) fun u s1 ⟨x, H1, I1, rx, a, dx, fs, ex, ea, l, q⟩ => ?_) ht
  subst ex
  obtain rfl : u = Value.ref a := rx
  refine getmeth_ok I1 ea c hm l ?_
  exact PySem.W.callWith_K0 (first := [.ref a]) I1.kIn hm.kp (call_own (us := [.ref a]) (vs := [.ref a]) F hr rfl hx I1 (.cons rfl .nil) q)
theorem pe_me0 (c : Cls X.K C) (hm : Meth X.K C m f) (F : FnR X.prog X.w X.K X.mg X.base (L2.CX X.prog X.w) k f sp) (hr : Room k X.A) (he : PE X o ta)
    (ht : eval (.Call (.Attribute o m apos) [] [] pos) X.env = (do
      let ov ← eval o X.env
      standAt apos.atName
      let (f, first) ← holding [ov] (getMethod ov m pl)
      callWith pos f first (backTo pos (starEach [] X.env)) (backToKw pos (keywordEach [] X.env))) := by rfl) :
    PE X (.Call (.Attribute o m apos) [] [] pos) (tMe0 C m sp E0 ta) := pe_me0X (pl := pl) c hm F hr passL he ht
end
end OwX
namespace GW
open PySem PySem.Spec PyProof.Rows L2 OwX
variable {K : PySem.W.Frag} {X : Cx}
section
variable {o e e1 e2 tg l : Expr} {f : Str} {ta tb tl : TE} {t : TA} {pos p : Pos}
theorem fld (he : PE X e ta) (h : X.K = K := by rfl) (hb : attributeBase e f X.env (eval e X.env) = eval e X.env := by rfl) : PE X (.Attribute e f pos) (tFld K ta f) := by subst h; exact pe_fld he hb
theorem ixL (h : X.K = K := by rfl) : IxR X (rIxL K) := by subst h; exact ix_list
theorem ixT (h : X.K = K := by rfl) : IxR X (rIxT K) := by subst h; exact ix_tup
theorem eqD (hu : X.A.units + 64 < cLine) (h : X.K = K := by rfl) : OpR X (compareOp .Eq) (rEqD K) := by subst h; exact op_eqD hu
theorem neD (hu : X.A.units + 64 < cLine) (h : X.K = K := by rfl) : OpR X (compareOp .NotEq) (rNeD K) := by subst h; exact op_neD hu
theorem inS (h : X.K = K := by rfl) : OpR X (compareOp .In) (rIn K false) := by subst h; exact op_in_seq
theorem niS (h : X.K = K := by rfl) : OpR X (compareOp .NotIn) (rIn K true) := by subst h; exact op_notIn_seq
theorem inD (hu : X.A.units + 65 < cLine) (h : X.K = K := by rfl) : OpR X (compareOp .In) (rInD K) := by subst h; exact op_inD hu
theorem niD (hu : X.A.units + 65 < cLine) (h : X.K = K := by rfl) : OpR X (compareOp .NotIn) (rNotInD K) := by subst h; exact op_notInD hu
theorem catT (h : X.K = K := by rfl) : OpR X (binaryOp .Add) (rCatT K) := by subst h; exact op_catT
theorem ltT (hu : X.A.units < cLine) (h : X.K = K := by rfl) : OpR X (compareOp .Lt) (rLtT K) := by subst h; exact op_ltT hu
theorem slL (h : X.K = K := by rfl) : SlR X (rSlL K) := by subst h; exact sl_list
theorem slA (h : X.K = K := by rfl) : SlR X (rSlA K) := by subst h; exact sl_tupA
theorem sum (hc : X.calm = true) (h : X.K = K := by rfl) : CallR X (.builtin "sum") (rSum K) := by subst h; exact cr_sum hc
theorem any (hc : X.calm = true) (h : X.K = K := by rfl) : CallR X (.builtin "any") (rAny K) := by subst h; exact cr_any hc
theorem all (hc : X.calm = true) (h : X.K = K := by rfl) : CallR X (.builtin "all") (rAll K) := by subst h; exact cr_all hc
theorem max (hc : X.calm = true) (h : X.K = K := by rfl) : CallR X (.builtin "max") (rMax K) := by subst h; exact cr_max hc
theorem min (hc : X.calm = true) (h : X.K = K := by rfl) : CallR X (.builtin "min") (rMin K) := by subst h; exact cr_min hc
theorem pi_list (hl : PE X l tl) (h : X.K = K := by rfl) : PI X tg l (iList K tl) := by subst h; exact L2.pi_list hl
theorem pi_tup (hl : PE X l tl) (h : X.K = K := by rfl) : PI X tg l (iTup K tl) := by subst h; exact L2.pi_tup hl
theorem revL {k : Nat} {p1 p2 p3 : Pos} (he : PE X e ta) (h : X.K = K := by rfl) : PE X (.Subscript e (.Slice none none (some (.UnaryOp .USub (.Constant (.int 1) k p1) p2)) p3) pos) (tRevL K ta) := by subst h; exact pe_revL he
theorem zip {elts : List Expr} {kk : Nat} {tpos : Pos} (hg : Gl X "zip") (hm : X.mg "zip" = none) (ha : PA X [e, e2] t) (h : X.K = K := by rfl)
    (hs : starEach [e, e2] X.env = (false, eval e X.env) :: starEach [e2] X.env := by rfl) (hpl : (backTo pos (starEach [e2] X.env)).any (·.1) = false := by rfl) :
    PI X (.Tuple elts kk tpos) (.Call (.Name "zip" p) [e, e2] [] pos) (iZip K t) := by subst h; exact L2.pi_zip hg hm ha hs hpl
theorem zipA {elts : List Expr} {kk : Nat} {tpos : Pos} (hg : Gl X "zip") (hm : X.mg "zip" = none) (ha : PA X [e, e2] t) (h : X.K = K := by rfl)
    (hs : starEach [e, e2] X.env = (false, eval e X.env) :: starEach [e2] X.env := by rfl) (hpl : (backTo pos (starEach [e2] X.env)).any (·.1) = false := by rfl) :
    PI X (.Tuple elts kk tpos) (.Call (.Name "zip" p) [e, e2] [] pos) (RZ.iZipA K t) := by subst h; exact RZ.pi_zipA hg hm ha hs hpl
theorem enum {elts : List Expr} {kk : Nat} {tpos : Pos} (hg : Gl X "enumerate") (hm : X.mg "enumerate" = none) (ha : PA X [e] t) (h : X.K = K := by rfl) (hs : starEach [e] X.env = [(false, eval e X.env)] := by rfl) :
    PI X (.Tuple elts kk tpos) (.Call (.Name "enumerate" p) [e] [] pos) (iEnum K t) := by subst h; exact pi_enum hg hm ha hs
theorem unl {es : List Expr} {k : Nat} {t : TGs} {n : Nat} (hc : X.calm = true) (g : PGs X es t) (h : X.K = K := by rfl)
    (hn : (assignEach es X.env).length = n := by rfl) (hst : (assignEach es X.env).findIdx? (·.1) = none := by rfl) : PG X (.Tuple es k pos) (gUnl K n t) := by subst h; exact pg_unl hc g hn hst
theorem tup {es : List Expr} {k : Nat} {t : TGs} {n : Nat} (hc : X.calm = true) (g : PGs X es t) (h : X.K = K := by rfl)
    (hn : (assignEach es X.env).length = n := by rfl) (hst : (assignEach es X.env).findIdx? (·.1) = none := by rfl) : PG X (.Tuple es k pos) (gTup K n t) := by subst h; exact pg_tup hc g hn hst
end
theorem bm {T : String} {name : Str} {id : String} {r : V → List V → Hp → VK → Prop} {o e : Expr} {es : List Expr} {to : TE} {t : TA} {apos cpos : Pos} (pa : PlainAttrs T) (slot : Slot T name id) (hty : typeOf (.builtin id) = pure (.type "method_descriptor")) (hm : MtR X id r) (ho : PE X o to) (ha : PA X (e :: es) t) (h : X.K = K := by rfl)
    (hbase : attributeBase o name X.env (eval o X.env) = eval o X.env := by rfl)
    (hfew : ((backTo cpos (starEach (e :: es) X.env)).all (fun x => !x.1) && (backToKw cpos (keywordEach [] X.env)).all (fun x => x.1.isSome)
      && decide ((e :: es).length + ([] : List Keyword).length + (if ([] : List Keyword).isEmpty then 0 else 1) < 30)) = true := by rfl)
    (hline : (apos.endLine == cpos.line) = true := by rfl) (hs : starEach (e :: es) X.env = (false, eval e X.env) :: starEach es X.env := by rfl) (hplain : (backTo cpos (starEach es X.env)).any (·.1) = false := by rfl) :
    PE X (.Call (.Attribute o name apos) (e :: es) [] cpos) (tBM K T r to t) := by subst h; exact pe_bm pa slot hty hm ho ha hbase hfew hline hs hplain
def rIsN : R2 := fun x y H Q => y = .non ∧ Q (.bl (decide (x = .non))) H
def rNotN : R2 := fun x y H Q => y = .non ∧ Q (.bl (!decide (x = .non))) H
theorem isN : OpR X (compareOp .Is) rIsN := op_isN
theorem notN : OpR X (compareOp .IsNot) rNotN := op_notN
theorem cnt (h : X.K = K := by rfl) : MtR X "list.count" (rCntI K) := by subst h; exact mt_lcount
end GW
namespace Rd
open PySem PySem.Spec PyProof.Rows L2 OwX
section
variable {K : PySem.W.Frag} {σ : L2.St} {H : Hp} {Q : VK} {p : Addr} {xs ys : List V} {v y : V} {a b : Bool}
theorem mev {C a dx : Addr} {fs : List (Str × V)} {m : Str} {sp : Sp} {E : XK} {i : Nat} {t : TA} (h1 : σ[i]? = some (some (.ref a))) (h2 : H a = some (.ins C dx fs)) (l : fs.lookup m = none) (k : t σ H fun vs H2 => sp (.ref a :: vs) H2 Q E) : tMethR C m sp E (tVar i) t σ H Q := ⟨.ref a, h1, a, dx, fs, rfl, h2, l, k⟩
theorem me0v {C a dx : Addr} {fs : List (Str × V)} {m : Str} {sp : Sp} {E : XK} {i : Nat} (h1 : σ[i]? = some (some (.ref a))) (h2 : H a = some (.ins C dx fs)) (l : fs.lookup m = none) (k : sp [.ref a] H Q E) : tMe0 C m sp E (tVar i) σ H Q := ⟨.ref a, h1, a, dx, fs, rfl, h2, l, k⟩
theorem propv {C a dx : Addr} {fs : List (Str × V)} {sp : Sp} {E : XK} {i : Nat} {ds : List V} (h1 : σ[i]? = some (some (.ref a))) (h2 : H a = some (.ins C dx fs)) (k : sp (.ref a :: ds) H Q E) : tProp C sp ds E (tVar i) σ H Q := ⟨.ref a, h1, a, dx, fs, rfl, h2, k⟩
theorem isNn (k : Q (.bl true) H) : GW.rIsN .non .non H Q := ⟨rfl, by simpa using k⟩
theorem isNr (k : Q (.bl false) H) : GW.rIsN (.ref p) .non H Q := ⟨rfl, by simpa using k⟩
theorem notNn (k : Q (.bl false) H) : GW.rNotN .non .non H Q := ⟨rfl, by simpa using k⟩
theorem notNr (k : Q (.bl true) H) : GW.rNotN (.ref p) .non H Q := ⟨rfl, by simpa using k⟩
theorem bmLv {r : V → List V → Hp → VK → Prop} {i : Nat} {t : TA} (h1 : σ[i]? = some (some (.ref p))) (h2 : SqL K H p xs) (k : t σ H fun vs H2 => r (.ref p) vs H2 Q) : tBM K "list" r (tVar i) t σ H Q := ⟨.ref p, h1, .inl ⟨rfl, xs, h2⟩, k⟩
theorem bmLm {r : V → List V → Hp → VK → Prop} {i : Nat} {t : TA} (h1 : σ[i]? = some (some (.ref p))) (h2 : ∃ xs, SqL K H p xs) (k : t σ H fun vs H2 => r (.ref p) vs H2 Q) : tBM K "list" r (tVar i) t σ H Q := ⟨.ref p, h1, .inl ⟨rfl, h2⟩, k⟩
theorem appendL (h : H p = some (.lst xs)) (l : xs.length < sizeLine) (k : Q .non (upd H p (.lst (xs ++ [y])))) : rAppend (.ref p) [y] H Q := ⟨p, xs, y, rfl, rfl, h, l, k⟩
theorem countL {ns : List Int} {z : Int} (h : SqL K H p (ns.map V.int)) (k : Q (.int (ns.count z : Nat)) H) : rCntI K (.ref p) [.int z] H Q := ⟨p, ns, z, rfl, rfl, h, k⟩
theorem catL {q : Addr} (h1 : H p = some (.lst xs)) (h2 : H q = some (.lst ys)) (l : xs.length + ys.length ≤ sizeLine) (k : ∀ r, H r = none → Q (.ref r) (upd H r (.lst (xs ++ ys)))) : rCat (.ref p) (.ref q) H Q := ⟨p, q, xs, ys, rfl, rfl, h1, h2, l, k⟩
theorem repL {n : Int} (h1 : H p = some (.lst xs)) (l1 : -(2 ^ 63) ≤ n) (l2 : n < 2 ^ 63) (l : xs.length * n.toNat ≤ sizeLine) (k : ∀ r, H r = none → Q (.ref r) (upd H r (.lst (List.replicate n.toNat xs).flatten))) : rRep (.ref p) (.int n) H Q := ⟨p, n, xs, rfl, rfl, h1, l1, l2, l, k⟩
theorem sl {r : V → Option Int → Option Int → Hp → VK → Prop} {te : TE} {tl th : TO} (k : te σ H fun x H1 => tl σ H1 fun l H2 => th σ H2 fun u H3 => r x l u H3 Q) : tSl r te tl th σ H Q := k
theorem po0 {R : Option Int → Hp → Prop} (k : R none H) : tNoPart σ H R := k
theorem poI {R : Option Int → Hp → Prop} {te : TE} (k : te σ H fun x H1 => ∃ i, x = .int i ∧ R (some i) H1) : tPart te σ H R := k
theorem ixi {A : Int → Prop} {i : Int} (k : A i) : ∃ j, V.int i = .int j ∧ A j := ⟨i, rfl, k⟩
theorem cutL {lo hi : Option Int} (h : SqL K H p xs) (k : ∀ q, H q = none → Q (.ref q) (upd H q (.lst (cutV xs lo hi)))) : rSlL K (.ref p) lo hi H Q := ⟨p, xs, rfl, h, k⟩
theorem revLv {i : Nat} (h1 : σ[i]? = some (some (.ref p))) (h2 : SqL K H p xs) (k : ∀ q, H q = none → Q (.ref q) (upd H q (.lst xs.reverse))) : tRevL K (tVar i) σ H Q := ⟨.ref p, h1, p, xs, rfl, h2, k⟩
theorem isB (k : Q (.bl (decide (a = b))) H) : rIsB (.bl a) (.bl b) H Q := ⟨a, b, rfl, rfl, k⟩
theorem notB (k : Q (.bl (!decide (a = b))) H) : rNotB (.bl a) (.bl b) H Q := ⟨a, b, rfl, rfl, k⟩
theorem notBtt (k : Q (.bl false) H) : rNotB (.bl true) (.bl true) H Q := ⟨true, true, rfl, rfl, k⟩
theorem notBff (k : Q (.bl false) H) : rNotB (.bl false) (.bl false) H Q := ⟨false, false, rfl, rfl, k⟩
theorem notBtf (k : Q (.bl true) H) : rNotB (.bl true) (.bl false) H Q := ⟨true, false, rfl, rfl, k⟩
theorem notBft (k : Q (.bl true) H) : rNotB (.bl false) (.bl true) H Q := ⟨false, true, rfl, rfl, k⟩
theorem neSame (e : a = b) (k : Q (.bl false) H) : rNe (.bl a) (.bl b) H Q := ⟨rfl, by subst e; rw [decide_eq_true rfl]; exact k⟩
theorem cut_map {α : Type} {f : α → V} {zs : List α} {lo hi : Option Int} : cutV (zs.map f) lo hi = ((zs.drop (HT.sIx zs.length 0 lo)).take (HT.sIx zs.length zs.length hi - HT.sIx zs.length 0 lo)).map f := by
  unfold cutV
  rw [List.length_map, List.map_take, List.map_drop]
theorem cut_len {α : Type} {zs : List α} {i j : Nat} : ((zs.drop i).take j).length ≤ zs.length := by
  rw [List.length_take, List.length_drop]; omega
theorem cutI {zs : List Int} {lo hi : Option Int} (h : SqL K H p (zs.map V.int)) (k : ∀ q (ts : List Int), ts.length ≤ zs.length → H q = none → Q (.ref q) (upd H q (.lst (ts.map V.int)))) : rSlL K (.ref p) lo hi H Q :=
  cutL h fun q hq => by rw [cut_map]; exact k q _ cut_len hq
theorem catI {q : Addr} {zs ts : List Int} (h1 : H p = some (.lst (zs.map V.int))) (h2 : H q = some (.lst (ts.map V.int))) (l : zs.length + ts.length ≤ 100000) (k : ∀ r, H r = none → Q (.ref r) (upd H r (.lst ((zs ++ ts).map V.int)))) : rCat (.ref p) (.ref q) H Q :=
  catL h1 h2 (sz (by simpa using l)) fun r hr => by rw [← List.map_append]; exact k r hr
theorem revI {i : Nat} {zs : List Int} (h1 : σ[i]? = some (some (.ref p))) (h2 : SqL K H p (zs.map V.int)) (k : ∀ q, H q = none → Q (.ref q) (upd H q (.lst (zs.reverse.map V.int)))) : tRevL K (tVar i) σ H Q :=
  revLv h1 h2 fun q hq => by rw [← List.map_reverse]; exact k q hq
theorem setI {R : Hp → Prop} {zs : List Int} {i z : Int} {n : Nat} (h : H p = some (.lst (zs.map V.int))) (e : i = (n : Int)) (l : n < zs.length) (k : R (upd H p (.lst ((zs.set n z).map V.int)))) : rSetL (.ref p) (.int i) (.int z) H R :=
  setL h (ixN_nat e (by rw [List.length_map]; exact l)) (by rw [← List.map_set]; exact k)
theorem repI {n : Nat} {z : Int} (h1 : H p = some (.lst [V.int z])) (l1 : n ≤ 10000) (k : ∀ r, H r = none → Q (.ref r) (upd H r (.lst ((List.replicate n z).map V.int)))) : rRep (.ref p) (.int n) H Q :=
  repL h1 (by omega) (by omega) (sz (by simp; omega)) fun r hr => by
    have e : (List.replicate (n : Int).toNat [V.int z]).flatten = (List.replicate n z).map V.int := by
      rw [Int.toNat_natCast]
      clear l1 k
      induction n with
      | zero => rfl
      | succ n ih => rw [List.replicate_succ, List.replicate_succ, List.flatten_cons, ih]; rfl
    rw [e]
    exact k r hr
theorem smeth {C : Addr} {sp : Sp} {E : XK} {t : TA} (k : t σ H fun vs H2 => sp vs H2 Q E) : tSMeth C sp E (tC (.ref C)) t σ H Q := ⟨rfl, k⟩
theorem par {i j : Nat} {ta : TA} {D : Ends} (k : ta σ H fun vs H1 => ∃ v w, vs = [v, w] ∧ D.nx ((σ.set i (some v)).set j (some w)) H1) : tPar i j ta D σ H := k
theorem par2 {x y : V} {A : V → V → Prop} (k : A x y) : ∃ v w, [x, y] = [v, w] ∧ A v w := ⟨x, y, rfl, k⟩
theorem sumL {ns : List Int} (h : SqL K H p (ns.map V.int)) (k : Q (.int ns.sum) H) : rSum K [.ref p] H Q := ⟨p, ns, rfl, h, k⟩
end
end Rd
namespace L2
open PySem PySem.Spec PyProof.Rows OwX
mutual
theorem Dp.ext {K : PySem.W.Frag} {H H' : Hp} {v : V} {d : PyData} (h : Dp K H v d) (e : Ext H H') : Dp K H' v d := match h with
  | .non => .non
  | .bl b => .bl b
  | .int i => .int i
  | .str x => .str x
  | .lst h a => .lst (Rd.ext_L e h) (DpAll.ext a e)
  | .tup h a => .tup (Rd.ext_T e h) (DpAll.ext a e)
theorem DpAll.ext {K : PySem.W.Frag} {H H' : Hp} {vs : List V} {ds : List PyData} (h : DpAll K H vs ds) (e : Ext H H') : DpAll K H' vs ds := match h with
  | .nil => .nil
  | .cons h t => .cons (Dp.ext h e) (DpAll.ext t e)
end
end L2

set_option Elab.async false
set_option linter.all false
set_option maxRecDepth 100000
set_option maxHeartbeats 0
/-! A dict by a comprehension whose keys are tuples. -/
namespace OwX
open PySem PySem.Spec PyProof.Rows L2
/-- in the block of a comprehension -/
abbrev InBlk (X : Cx) (scope : Scope) (J : Cx → Prop) : Prop := ∀ (s : Shared) (H : Hp) (C : Addr) (cl : List (Str × Addr)) (fp : List Addr), J (X.blk s H scope (compEnvC scope cl C X.env) fp)
/-- the turns' reading: the dict at D grows -/
def TurnsT (J : It) (g : TG) (tt : TT) (tk tv : TE) (vs : List Nat) (σ : L2.St) (D : Addr) (W : Nat → Nat → Hp → Prop) (Z : Hp → Prop) : Prop := ∀ i m H, W i m H →
  (J.stop i H ∧ Z H) ∨ (J.go i H ∧ ∃ Nx : Hp → Prop, (∀ H', Nx H' → ∃ m', m' < m ∧ W (i + 1) m' H') ∧ ∀ x H', J.yld i H x H' → g x (wipe σ vs) H' fun σ2 H2 => wipe σ2 vs = wipe σ vs ∧ tt σ2 H2 fun b H3 =>
    if b = true then tk σ2 H3 fun y H4 => tv σ2 H4 fun z H5 => ∃ kvs ks b, y = .ref b ∧ H5 b = some (.tup (ks.map kV)) ∧ H5 D = some (.dT kvs) ∧ kvs.length < sizeLine ∧ Nx (upd H5 D (.dT (putK kvs ks z))) else Nx H3)
def tDcT (wi : TI) (g : TG) (tt : TT) (tk tv : TE) (vs : List Nat) : TE := fun σ H Q => wi σ H fun J H1 => ∀ D, H1 D = none → ∃ W : Nat → Nat → Hp → Prop, (∃ m, W 0 m (upd H1 D (.dT []))) ∧ TurnsT J g tt tk tv vs σ D W (fun H => Q (.ref D) H)
section
variable {X : Cx} {pins : List (Addr × Obj)} {σ : L2.St} {H : Hp} {s : Shared}
/-- one entry more -/
theorem put_tuple {D b : Addr} {kvs : List (List Key × V)} {ks : List Key} {v : V} {r : Value} {E : Value → Shared → Prop} {R : Unit → Shared → Prop} (hu : X.A.units < cLine) (I : Inv X pins σ H s) (hD : H D = some (.dT kvs)) (hl : kvs.length < sizeLine) (hb : H b = some (.tup (ks.map kV))) (rv : RelV v r)
    (k : ∀ s', Inv X pins σ (upd H D (.dT (putK kvs ks v))) s' → R () s') : wpAny (model X.prog X.w) X.A (dictSet D (.ref b) r) R E s := by
  obtain ⟨z, hd, ents, rel, dd⟩ := dt_of I.hok hD
  have few : ents.length ≤ sizeLine := Paired.length rel ▸ z
  have room : (putK kvs ks v).length ≤ sizeLine := Nat.le_trans (length_putK kvs ks v) hl
  refine wpAny_dictSet_heap (hsz := few) hu (key_of I.hok hb) dd fun h' dd' hs => k _ ?_
  obtain ⟨ob, es, ep, ho, d2, d3, d4, _, d6⟩ := dd'
  refine d_write I (by rw [hD]; trivial) hs ⟨ob, ho⟩ ⟨room, hd, _, (rel.put ks hb rv).keeps fun c ys hc => ?_, ob, es, ep, ho, d2, d3, d4, d6⟩
  rw [upd_ne (ne_of hc hD (by intro q; cases q))]
  exact hc
section
variable {kx vx tg iter : Expr} {ifs : List Expr} {scope : Scope} {own : List (Str × Nat)} {pos : Pos} {wi : TI} {g : TG} {tt : TT} {tk tv : TE}
theorem dct_run {p2 : Pos} {use : Option (Value → Sem Unit)} {R : Value → Shared → Prop} (hu : X.A.units < cLine) (hc : X.calm = true) (hN : X.N.Nodup) (I : Inv X pins σ H s) (hi : PI X tg iter wi) (ok : BlkOk X.N X.env.scope scope own)
    (jg : InBlk X scope fun Y => PG Y tg g) (jt : InBlk X scope fun Y => PTs Y ifs tt) (jk : InBlk X scope fun Y => PE Y kx tk) (jv : InBlk X scope fun Y => PE Y vx tv) (hs : ∀ x, foldedSetIterable iter X.env x = pure x)
    (h : tDcT wi g tt tk tv (own.map (·.2)) σ H Q)
    (back : ∀ D C s' m H', Inv X pins σ H' s' → Q (.ref D) H' → s'.heap.Ns C m → FpOk X pins H' C → compPost (model X.prog X.w) X.A X.xe use R (.ref D) C (.ok .next) s') :
    wpAny (model X.prog X.w) X.A (comprehension (.DictComp kx vx [⟨tg, iter, ifs, 0⟩] scope pos) scope X.env p2 newDict false (eval iter X.env) use) R X.xe s := by
  have cellsOf : ∀ y ∈ scope.names, y.2 = .free → ∃ c, X.env.cells.lookup y.1 = some c := by
    intro y hy e
    cases ok.free y hy e with
    | inl q => exact I.ok.has _ (.inl q)
    | inr q => exact I.ok.has _ (.inr q)
  refine wpAny_comprehension_free (use := use) rfl hs (closure_ok cellsOf) ok.kind (fun y hy e => (ok.uniq y hy).trans (by rw [e])) (thn (hi.run pins s σ H _ I h) fun xv s1 hx => thn hx fun itv s2 h2 => ?_)
  obtain ⟨it, fp, tn, J, H2, rfl, I2, T, start, apart, q⟩ := h2
  refine wpAny_newObj_type (newEnv_comp ?_)
  generalize eD : s2.heap.objs.size = D
  obtain ⟨W, ⟨m0, w0⟩, turn⟩ := q D (I2.hok.fresh (Nat.le_of_eq eD))
  generalize e3 : ({ s2 with heap := s2.heap.push { cls := .type "dict", data := .dict #[] } } : Shared) = s3
  have hp3 : s3.heap = s2.heap.push { cls := .type "dict", data := .dict #[] } := by rw [← e3]
  have I3 : Inv X pins σ (upd H2 D (.dT [])) s3 := by
    subst e3
    refine I2.laid (t' := s2.toks) (fun _ _ e => Heap.get?_push_of_some _ e) (Nat.le_of_eq eD) ?_
    subst eD
    exact dt_empty s2.heap I2.big
  have below : ∀ b ∈ fp, b < s2.heap.objs.size := fun b hb => (T.obj _ _ start b hb).elim fun _ e => Heap.lt_size e.1
  have ap3 : ∀ b ∈ fp, FpOk X pins (upd H2 D (.dT [])) b ∧ b < s3.heap.objs.size := by
    intro b hb
    have lt := below b hb
    obtain ⟨a1, a2⟩ := apart b hb
    exact ⟨⟨(upd_ne (by rw [← eD]; exact Nat.ne_of_lt lt)).trans a1, a2⟩, by rw [hp3, Heap.size_push]; exact Nat.lt_succ_of_lt lt⟩
  have start3 : tn 0 s3.heap := T.keep _ _ _ start fun b _ o e => by rw [hp3]; exact Heap.get?_push_of_some _ e
  have I4 := block_start I3 ok hN ap3
  have kg := jg s3 (upd H2 D (.dT [])) s3.heap.objs.size (cellsFrom (s3.heap.objs.size + 1) scope.names (cloFrom X.env.cells scope.names [])) fp
  have kt := jt s3 (upd H2 D (.dT [])) s3.heap.objs.size (cellsFrom (s3.heap.objs.size + 1) scope.names (cloFrom X.env.cells scope.names [])) fp
  have kk := jk s3 (upd H2 D (.dT [])) s3.heap.objs.size (cellsFrom (s3.heap.objs.size + 1) scope.names (cloFrom X.env.cells scope.names [])) fp
  have kv := jv s3 (upd H2 D (.dT [])) s3.heap.objs.size (cellsFrom (s3.heap.objs.size + 1) scope.names (cloFrom X.env.cells scope.names [])) fp
  have gone : ∀ b ∈ fp, (upd H2 D (.dT [])) b = none := fun b hb => (ap3 b hb).1.1
  show codeAny _ _ (.compStart (.DictComp kx vx [⟨tg, iter, ifs, 0⟩] scope pos) 0 (.ref it) (.ref D) (compEnvC scope (cellsFrom (s3.heap.objs.size + 1) scope.names (cloFrom X.env.cells scope.names [])) s3.heap.objs.size X.env))
    (compPost (model X.prog X.w) X.A X.xe use R (.ref D) s3.heap.objs.size) { s3 with heap := pushCells (s3.heap.push { cls := .type "dict", data := .dict #[] }) scope.names }
  generalize ee : compEnvC scope (cellsFrom (s3.heap.objs.size + 1) scope.names (cloFrom X.env.cells scope.names [])) s3.heap.objs.size X.env = en at I4 kg kt kk kv ⊢
  have locs : en.locals = s3.heap.objs.size := by rw [← ee]; rfl
  generalize eH : upd H2 D (.dT []) = H3 at I3 I4 kg kt kk kv w0 gone ap3
  generalize e4 : ({ s3 with heap := pushCells (s3.heap.push { cls := .type "dict", data := .dict #[] }) scope.names } : Shared) = s4 at I4 ⊢
  have start4 : tn 0 s4.heap := T.keep _ _ _ start3 fun b _ o e => by rw [← e4]; exact pushCells_keeps _ _ _ _ (Heap.get?_push_of_some _ e)
  have free : ∀ {τ : L2.St} {G : Hp} {t : Shared}, Inv (X.blk s3 H3 scope en fp) [] τ G t → (∀ b ∈ fp, G b = none) → ∀ b ∈ fp, FpOk (X.blk s3 H3 scope en fp) [] G b := by
    intro τ G t Y n b hb
    have xf := Y.ok.exf b hb
    exact ⟨n b hb, xf.1, Y.ok.exfs b hb, .inl hb, fun x c e => xf.2 x c e, fun p hp => absurd (show p ∈ ([] : List (Addr × Obj)) ++ [] from hp) (by simp)⟩
  have loop : codeAny (model X.prog X.w) X.A (.compLoop (.DictComp kx vx [⟨tg, iter, ifs, 0⟩] scope pos) 0 (.ref it) (.ref D) en) (compPost (model X.prog X.w) X.A X.xe use R (.ref D) s3.heap.objs.size) s4 := by
    refine compLoop_anyD (fun n t => ∃ i G, Inv (X.blk s3 H3 scope en fp) [] (wipe σ (own.map (·.2))) G t ∧ tn i t.heap ∧ (∀ b ∈ fp, G b = none) ∧ W i n G) ?_ m0 ⟨0, H3, I4, start4, gone, w0⟩
    rintro n s5 ⟨i, H5, I5, t5, n5, w5⟩
    cases turn i n H5 w5 with
    | inl hh =>
      obtain ⟨stop, last⟩ := hh
      refine thnF (T.done (X.blk s3 H3 scope en fp) rfl rfl rfl hc i [] s5 _ H5 (fun _ _ => False) I5 (free I5 n5) t5 stop) fun r s6 ⟨rr, I6⟩ => ?_
      subst rr
      have I7 : Inv X pins σ H5 s6 := I3.call' (ch := fp) I6.os I6.base I6.hok I6.bare fun b hb => (ap3 b hb).1.2.elim fun c1 c2 => ⟨c2.2.1, c1, c2.2.2.1, c2.2.2.2⟩
      have out : H5 s3.heap.objs.size = none := locs ▸ (I6.free : H5 en.locals = none)
      obtain ⟨mm, hn, _⟩ := I6.loc
      exact back D s3.heap.objs.size s6 mm H5 I7 last (locs ▸ (hn : s6.heap.Ns en.locals mm)) (I3.fpOk (Nat.le_refl _) out)
    | inr hh =>
      obtain ⟨go, Nx, less, step⟩ := hh
      refine thnF (T.item (X.blk s3 H3 scope en fp) rfl rfl rfl hc i [] s5 _ H5 (fun _ _ => False) I5 (free I5 n5) t5 go) fun r s6 ⟨u, rr, h6⟩ => ?_
      subst rr
      refine thnF h6 fun _ s7 ⟨x, H7, I7, r7, y7, t7, n7⟩ => ?_
      refine thnF (kg.run _ s7 _ H7 x u _ (I7.pinned (free I7 n7) (T.obj _ _ t7)) r7 (step x H7 y7)) fun _ s8 ⟨τ, H8, I8, wp8, q8⟩ => ?_
      refine thnF (kt.run _ s8 τ H8 _ I8 q8) fun b s9 ⟨H9, I9, q9⟩ => ?_
      have next : ∀ {t : Shared} {G : Hp}, Inv (X.blk s3 H3 scope en fp) ([] ++ pinsAt fp s7.heap) τ G t → Nx G → ∃ m, m < n ∧ ∃ i G, Inv (X.blk s3 H3 scope en fp) [] (wipe σ (own.map (·.2))) G t ∧ tn i t.heap ∧ (∀ b ∈ fp, G b = none) ∧ W i m G := by
        intro t G Y nx
        obtain ⟨m', lt, w'⟩ := less G nx
        have pinned : ∀ b ∈ fp, ∀ o, s7.heap.get? b = some o → t.heap.get? b = some o ∧ G b = none := by
          intro b hb o e
          have z := Y.pin (b, o) (List.mem_append_right _ (List.mem_append_right _ (mem_pinsAt hb e)))
          exact ⟨z.1, z.2.1⟩
        refine ⟨m', lt, i + 1, G, (Y.unpinned (pins := [])).weak ((wipe_length _ _).symm ▸ ((wipe_length τ (own.map (·.2))) ▸ (congrArg List.length wp8).symm ▸ wipe_length _ _ ▸ rfl)) (fun j v e => (wipe_some (wp8.symm ▸ e)).1), T.keep _ _ _ t7 fun b hb o e => (pinned b hb o e).1, fun b hb => ?_, w'⟩
        obtain ⟨o, e, _⟩ := T.obj _ _ t7 b hb
        exact (pinned b hb o e).2
      cases b with
      | false =>
        rw [if_neg Bool.false_ne_true] at q9 ⊢
        exact next I9 q9
      | true =>
        rw [if_pos rfl] at q9 ⊢
        refine thnF (kk.run _ s9 τ H9 _ I9 q9) fun z s10 ⟨yk, H10, I10, r10, q10⟩ => thnF (kv.run _ s10 τ H10 _ I10 q10) fun z2 s11 ⟨yv, H11, I11, r11, kvs, ks, b, ek, hb, hD, hl, nx⟩ => ?_
        subst ek
        obtain rfl : z = .ref b := r10
        exact put_tuple (X := X.blk s3 H3 scope en fp) hu I11 hD hl hb r11 fun s12 I12 => next I12 nx
  exact codeAny_compStart_dict loop (T.self X.A 0 _ _ _ start4 loop)
theorem pe_dct (hu : X.A.units < cLine) (hc : X.calm = true) (hN : X.N.Nodup) (hi : PI X tg iter wi) (ok : BlkOk X.N X.env.scope scope own) (jg : InBlk X scope fun Y => PG Y tg g) (jt : InBlk X scope fun Y => PTs Y ifs tt) (jk : InBlk X scope fun Y => PE Y kx tk) (jv : InBlk X scope fun Y => PE Y vx tv)
    (hs : ∀ x, foldedSetIterable iter X.env x = pure x := by intro _; rfl) : PE X (.DictComp kx vx [⟨tg, iter, ifs, 0⟩] scope pos) (tDcT wi g tt tk tv (own.map (·.2))) :=
  ⟨fun pins s σ H Q I h => by
    rw [arm_eval_DictComp]
    exact dct_run hu hc hN I hi ok jg jt jk jv hs h fun D C s' m H' I' q hn f => ⟨m, hn, fun h'' sb => ⟨.ref D, H', I'.turned (t' := s'.toks) (fun b o hb e => (sb.2 b hb).trans e) f.1 f.2.1 f.2.2.2.1 f.2.2.2.2.1 f.2.2.2.2.2, rfl, q⟩⟩⟩
end
end
end OwX
namespace Rd
open PySem PySem.Spec PyProof.Rows L2 OwX
def DctB (J : It) (g : TG) (tt : TT) (tk tv : TE) (vs : List Nat) (σ : L2.St) (H1 : Hp) (Q : VK) : Prop := ∀ D, H1 D = none → ∃ W : Nat → Nat → Hp → Prop, (∃ m, W 0 m (upd H1 D (.dT []))) ∧ TurnsT J g tt tk tv vs σ D W (fun H => Q (.ref D) H)
section
variable {K : PySem.W.Frag} {g : TG} {tt : TT} {tk tv tl : TE} {ta : TA} {vs : List Nat} {σ : L2.St} {H : Hp} {Q : VK} {tb : TS} {D : Ends}
theorem dctL (k : tl σ H fun x H1 => ∃ a, x = .ref a ∧ (∃ xs, SqL K H1 a xs) ∧ DctB (Itl K a) g tt tk tv vs σ H1 Q) : tDcT (iList K tl) g tt tk tv vs σ H Q := k
theorem dctT (k : tl σ H fun x H1 => ∃ a, x = .ref a ∧ (∃ xs, SqT K H1 a xs) ∧ DctB (Itt K a) g tt tk tv vs σ H1 Q) : tDcT (iTup K tl) g tt tk tv vs σ H Q := k
theorem forE (k : ta σ H fun vs' H1 => ∃ a xs, vs' = [.ref a] ∧ SqL K H1 a xs ∧ ForB (Ite K a) g tb D σ H1) : tFor (iEnum K ta) g tb D σ H := k
end
theorem dcP {α : Type} {J : It} {G : Hp → Prop} {Y : Nat → Hp → V → Hp → Prop} {items : List α} (w : Walk J items.length G Y) (B : α → V → Prop) (hy : ∀ i H x H', Y i H x H' → ∃ it, items[i]? = some it ∧ (H' = H ∧ B it x)) (hn : items.length < 100000)
    {g : TG} {tk tv : TE} {vs : List Nat} {σ : L2.St} {H1 : Hp} {D : Addr} {Z : Hp → Prop} (key : α → List Key) (hD : H1 D = none) (hG : ∀ H, Ext H1 H → G H)
    (hs : ∀ (i : Nat) it x H kvs, items[i]? = some it → B it x → Ext H1 H → H D = some (.dT kvs) → ∀ Rk : V → V → Hp → Prop, (∀ b z H5, H5 b = some (.tup ((key it).map kV)) → Ext H H5 → Rk (.ref b) z H5) → g x (wipe σ vs) H fun σ2 H2 => wipe σ2 vs = wipe σ vs ∧ tk σ2 H2 fun y H4 => tv σ2 H4 fun z H5 => Rk y z H5)
    (hd : ∀ kvs H, Ext H1 H → H D = some (.dT kvs) → (∀ k, (valV kvs k).isSome = true ↔ k ∈ items.map key) → Z H) :
    ∃ W : Nat → Nat → Hp → Prop, (∃ m, W 0 m (upd H1 D (.dT []))) ∧ TurnsT J g tYes tk tv vs σ D W Z := by
  have fe : ∀ {H : Hp} {u : HO}, Ext H1 H → Ext H1 (upd H D u) := fun {H u} e a o h => by
    rw [upd_ne (ne_of_none h hD)]
    exact e a o h
  refine ⟨fun i m H => m = items.length - i ∧ i ≤ items.length ∧ Ext H1 H ∧ ∃ kvs, H D = some (.dT kvs) ∧ kvs.length ≤ i ∧ ∀ k, (valV kvs k).isSome = true ↔ k ∈ (items.take i).map key, ⟨_, rfl, Nat.zero_le _, fe ext_rfl, [], upd_same, Nat.le_refl _, fun k => by simp [valV]⟩, ?_⟩
  rintro i m H ⟨rfl, hi, e, kvs, hk, hl, hv⟩
  have q := hG H e
  by_cases hlt : i < items.length
  · refine .inr ⟨w.goes i H hlt q, fun H => Ext H1 H ∧ ∃ kvs, H D = some (.dT kvs) ∧ kvs.length ≤ i + 1 ∧ ∀ k, (valV kvs k).isSome = true ↔ k ∈ (items.take (i + 1)).map key, fun H' p' => ⟨items.length - (i + 1), by omega, rfl, hlt, p'⟩, fun x H' y => ?_⟩
    obtain ⟨it, ha, rfl, hB⟩ := hy i H x H' (w.yields i H x H' hlt q y)
    refine hs i it x H' kvs ha hB e hk _ fun b z H5 hb e5 => ?_
    refine ⟨kvs, key it, b, rfl, hb, e5 _ _ hk, szl (by omega), fe (e.trans e5), _, upd_same, Nat.le_trans (length_putK _ _ _) (by omega), fun k => ?_⟩
    rw [valV_put, take_snoc ha, List.map_append]
    by_cases c : k = key it
    · rw [if_pos c, c]
      simp
    · rw [if_neg c, hv k, List.mem_append, List.map_cons, List.map_nil, List.mem_singleton]
      exact ⟨.inl, fun h => h.resolve_right c⟩
  · have ei : i = items.length := by omega
    subst ei
    rw [List.take_length] at hv
    exact .inl ⟨w.stops H q, hd kvs H e hk hv⟩
end Rd

set_option Elab.async false
set_option linter.all false
set_option maxRecDepth 100000
set_option maxHeartbeats 0
/-! try with several clauses that name their exception; calls and instances within a try. -/
namespace OwX
open PySem PySem.Spec PyProof.Rows L2
abbrev Suite := Addr → Value → Option Addr → TS
/-- the ends of a suite: its name is gone behind it -/
def outE (i : Nat) (D : Ends) : Ends := { nx := fun σ H => D.nx (σ.set i none) H, rt := D.rt, bk := fun σ H => D.bk (σ.set i none) H, ct := fun σ H => D.ct (σ.set i none) H }
def wCl (K : PySem.W.Frag) (i : Nat) (Wout : WX) (D : Ends) : List (Value × Suite) → WX
  | [] => Wout
  | q :: r => fun cls d σ H => ∃ b, PySem.W.exmOne K cls q.1 = some b ∧ (b = true → ∀ a, H a = none → q.2 a cls d (outE i D) (σ.set i (some (.ref a))) H) ∧ (b = false → wCl K i Wout D r cls d σ H)
inductive ClOk (X : Cx) (n : Str) : List ExceptHandler → List (Value × Suite) → Prop
  | nil : ClOk X n [] []
  | cons {x : Str} {c : Value} {ts : Suite} {st : Stmt} {sts : List Stmt} {p1 p2 : Pos} {hs : List ExceptHandler} {l : List (Value × Suite)} (nm : Names X x c)
      (su : ∀ (a : Addr) (oe : Obj) (cls : Value) (d : Option Addr) (pn : List (Addr × Obj)), Zc cls d oe → (∃ vs, oe.data = .fields vs) → PSs (X.suite a ((a, oe) :: pn)) (st :: sts) (ts a cls d)) (r : ClOk X n hs l) :
      ClOk X n (.ExceptHandler (some (.Name x p1)) (some n) (st :: sts) p2 :: hs) ((c, ts) :: l)
section
variable {X : Cx} {n : Str} {i : Nat} {body : List Stmt} {h0 : ExceptHandler} {hs : List ExceptHandler} {l : List (Value × Suite)} {pos : Pos} {tb : WX → TS} {Wout : WX}
theorem ps_try_cl (st : X.stack = X.env :: X.outer) (fr : X.env.frame = some X.env.locals) (nd : X.N.Nodup) (at_ : X.N[i]? = some n) (lo : X.env.kindOf n = some .local) (tk : Takes X Wout)
    (pb : ∀ (W : WX) (pn : List (Addr × Obj)) (xe : Value → Shared → Prop), Takes (X.tr pn xe) W → PassesOwn (model X.prog X.w) X.A X.env xe → PSs (X.tr pn xe) body (tb W)) (cl : ClOk X n (h0 :: hs) l) :
    PS X (.Try body (h0 :: hs) [] [] pos) (fun D σ H => tb (wCl X.K i Wout D l) D σ H) := by
  refine ⟨fun pins s σ H D I h => wpAny_Try_except ?_⟩
  have frames : X.A.frames = some (X.env :: X.outer) := I.ok.frames.trans (by rw [st])
  have okX := I.ok
  refine wpAny_mono ((pb (wCl X.K i Wout D l) (X.pn ++ pins) (fun e s₁ => wpAny (model X.prog X.w) X.A (noteFrame e X.env) (fun _ s₂ => wpAny (model X.prog X.w) X.A (setFlight e none) (fun _ s₃ => wpAny (model X.prog X.w) X.A (handleBy e X.env (h0 :: hs)) (SP X pins D) X.xe s₃) X.xe s₂) X.xe s₁)
    (fun u t up => ?_) PassesOwn.looking).run [] s σ H D (I.toTry _) h) (fun f t up => ?_) fun _ _ z => z
  · obtain ⟨a, B, t0, _, τ, G, cls, d, rfl, J0, nB, uu, sk, nA, osE, agE, wish⟩ := up
    have J := J0.ofTry okX
    refine Sky.land Zc.steady frames fr (st ▸ sk) fun g3 fly3 v3 => ?_
    have J3 : Inv X pins τ G { t with heap := g3 } := J.landed nB fly3.1 (uu.trans v3) osE agE
    obtain ⟨o3, w3, e3, z3, d3⟩ := fly3.there
    have offF : a ∉ frs (X.env :: X.outer) := fun hm => by
      obtain ⟨_, o', e', nf⟩ := fly3.2.2.1.mem hm
      cases e3.symm.trans e'
      exact nf _ d3
    have offL : a ≠ X.env.locals := fun z => offF (List.mem_filterMap.mpr ⟨X.env, List.mem_cons_self, fr.trans (congrArg some z.symm)⟩)
    have offS : a ∉ X.fs := fun hm => let ⟨e, he, q⟩ := List.mem_filterMap.mp hm; offF (List.mem_filterMap.mpr ⟨e, List.mem_cons_of_mem _ he, q⟩)
    have S3 := J3.suite e3 d3 nA offL offS
    suffices turns : ∀ {hs' : List ExceptHandler} {l' : List (Value × Suite)}, ClOk X n hs' l' → wCl X.K i Wout D l' cls d τ G → wpAny (model X.prog X.w) X.A (handleBy (.ref a) X.env hs') (SP X pins D) X.xe { t with heap := g3 } from turns cl wish
    intro hs' l' c
    induction c with
    | nil =>
      intro out
      refine wpAny_handleBy_nil ?_
      obtain ⟨_, _, _, oe, vs, T, oT, _, he, _, hd, h1, _⟩ := id fly3
      unfold PySem.passOn
      refine wpAny_bind (wpAny_field he hd h1 ?_)
      rw [if_neg (by simp)]
      have on_ : wpAny (model X.prog X.w) X.A (setFlight (.ref a) X.env.frame) (fun _ s4 => wpAny (model X.prog X.w) X.A (throw (.ref a) : Sem Flow) (SP X pins D) X.xe s4) X.xe { t with heap := g3 } := by
        rw [fr]
        exact HandSPX.setFlight_upZ fly3 fun g4 fly4 v4 => wpAny_throw (tk _ _ ⟨a, B, t0, pins, τ, G, cls, d, rfl, J, nB, (uu.trans v3).trans v4, .inr (.inr (st.symm ▸ fly4)), nA, osE, agE, out⟩)
      first | exact wpAny_bind (wpAny_pure (wpAny_bind on_)) | exact wpAny_bind on_
    | @cons x c ts st0 sts p1 p2 hs2 l2 nm su r ih =>
      intro hw
      obtain ⟨b, isB, yes, no⟩ := hw
      refine wpAny_handleBy_cons (codeAny_handlers_test ?_) (by intro q; cases q)
      have looks : PySem.W.Looks (model X.prog X.w) g3 (typeOf (.ref a)) cls := fun A Q E s k q => wpAny_typeOf_ref (k _ _ e3) (by rw [z3.1]; exact q)
      have named : ∀ {Q : Value → Shared → Prop} {E : Value → Shared → Prop}, Q c { t with heap := g3 } → wpAny (model X.prog X.w) (X.A.mark (some (.ref a))) (eval (.Name x p1) X.env) Q E { t with heap := g3 } := by
        intro Q E q
        obtain ⟨g, dbg, hm | ⟨hm, hv, hnn⟩⟩ := nm
        · exact ld_glob (X := X.suite a ((a, o3) :: (X.pn ++ pins))) S3 g hm q dbg
        · exact ld_blt (X := X.suite a ((a, o3) :: (X.pn ++ pins))) S3 g hm hv q hnn dbg
      refine named ((PySem.W.exm_one (M := model X.prog X.w) J3.kIn looks isB).here ?_)
      cases b with
      | false =>
        show wpAny _ X.A (handleBy (.ref a) X.env hs2) _ _ _
        exact ih (no rfl)
      | true =>
        refine codeAny_handlers_suite_as (HandSPX.lands_againZ fly3 fun g4 fly4 v4 => ?_)
        have J4 : Inv X pins τ G { t with heap := g4 } := J.landed nB fly4.1 ((uu.trans v3).trans v4) osE agE
        obtain ⟨o4, w4, e4, z4, d4⟩ := fly4.there
        refine store_ok (X := X.suite a ((a, o4) :: (X.pn ++ pins))) (v := .ref a) (J4.suite e4 d4 nA offL offS) nd at_ (.inl lo) rfl (fun s5 S5 => ?_) (.inr lo)
        refine wpAny_mono ((su a o4 cls d (X.pn ++ pins) z4 ⟨_, d4⟩).run [] s5 _ G _ S5 (yes rfl a nA)) (fun f s6 up => ?_) fun _ _ z => False.elim z
        have after : ∀ {σ6 : L2.St} {H6 : Hp} {Q : Shared → Prop}, Inv (X.suite a ((a, o4) :: (X.pn ++ pins))) [] σ6 H6 s6 → (∀ s7, Inv X pins (σ6.set i none) H6 s7 → Q s7) → wpAny (model X.prog X.w) X.A (do bindName X.env n .none; unbindBehindTheSuite X.env n p2) (fun _ s7 => Q s7) X.xe s6 :=
          fun S6 k => gone_ok (S6.unsuite okX) nd at_ lo k
        cases f with
        | next => obtain ⟨_, _, S6, q⟩ := up; exact after S6 fun _ J7 => ⟨_, _, J7, q⟩
        | brk => obtain ⟨_, _, S6, q⟩ := up; exact after S6 fun _ J7 => ⟨_, _, J7, q⟩
        | cont => obtain ⟨_, _, S6, q⟩ := up; exact after S6 fun _ J7 => ⟨_, _, J7, q⟩
        | ret u => obtain ⟨_, _, _, S6, rv, q⟩ := up; exact after S6 fun _ J7 => ⟨_, _, _, J7, rv, q⟩
  · cases f with
    | next => obtain ⟨_, _, S6, q⟩ := up; exact wpAny_execs_nil ⟨_, _, S6.ofTry okX, q⟩
    | brk => obtain ⟨_, _, S6, q⟩ := up; exact ⟨_, _, S6.ofTry okX, q⟩
    | cont => obtain ⟨_, _, S6, q⟩ := up; exact ⟨_, _, S6.ofTry okX, q⟩
    | ret u => obtain ⟨_, _, _, S6, rv, q⟩ := up; exact ⟨_, _, _, S6.ofTry okX, rv, q⟩
end
end OwX
namespace OwX
open PySem PySem.Spec PyProof.Rows L2
/-- what a def's body lets out goes to its caller -/
theorem passE {X : Cx} {E E₁ : Value → Shared → Prop} {F : XK} (hs : X.stack = X.env :: X.outer) (hf : X.env.frame = some X.env.locals) (hex : X.ex = []) (hx : X.xe = fun e s' => wpAny (model X.prog X.w) X.A (leaving X.env e) (fun _ s'' => L2.CX X.prog X.w X.outer X.H_0 X.s_0 F e s'') E₁ s') : Passes (L2.CX X.prog X.w) X F :=
  passes_call (L2.takes_of hs hf hex hx) fun _ _ _ _ h => h
section
variable {X : Cx} {CX : CXT} {k : Nat} {C g : Addr} {sp : Sp} {E : L2.St → XK}
theorem make_at {pins : List (Addr × Obj)} {σ : L2.St} {H : Hp} {s : Shared} {Q : VK} {us : List Value} {vs : List V} (M : Mk X.K C g) (F : FnR X.prog X.w X.K X.mg X.base CX k g sp) (hr : Room (k + 1) X.A) (hx : ∀ σ, PassesAt CX X σ (E σ)) (I : Inv X pins σ H s) (r : Vals vs us)
    (h : Rd.MkR C sp (E σ) vs H Q) : wpAny (model X.prog X.w) X.A (call (.ref C) us) (EP X pins σ Q) X.xe s := by
  have now := h (s.heap.objs.size + 1) s.heap.objs.size (I.hok.fresh (Nat.le_succ _)) (I.hok.fresh (Nat.le_refl _)) (Nat.ne_of_lt (Nat.lt_succ_self _))
  have I2 := Inv.made (C := C) I
  have r2 : Vals (V.ref (s.heap.objs.size + 1) :: vs) (Value.ref (s.heap.objs.size + 1) :: us) := .cons rfl r
  refine wpAny_call (L2.make_map (f := g) I.kIn M.makes M.init (beq_iff_eq.mp M.fn) (codeAny_mono (F _ X.stack _ _ _ _ _ (E σ) (hr.make C us []) (I2.env0.make C us []) r2 now) fun res s' up => ?_))
  cases res with
  | error e => exact hx σ pins _ _ e s' I2 up
  | ok fl =>
    cases fl with
    | ret u =>
      obtain ⟨v, H', I3, rv, rfl, q⟩ := I2.after up
      exact ⟨rv, V.ref (s.heap.objs.size + 1), H', I3, rfl, q⟩
    | next => exact up.elim
    | brk => exact up.elim
    | cont => exact up.elim
/-- C(e, ..), the wish at the slots -/
def tMkRS (C : Addr) (sp : Sp) (E : L2.St → XK) (t : TA) : TE := fun σ H Q => t σ H fun vs H1 => Rd.MkR C sp (E σ) vs H1 Q
theorem pe_mkRS {nm : Str} {p pos : Pos} {e : Expr} {es : List Expr} {t : TA} (M : Mk X.K C g) (F : FnR X.prog X.w X.K X.mg X.base CX k g sp) (hr : Room (k + 1) X.A) (hg : Gl X nm) (hm : X.mg nm = some (.ref C)) (hx : ∀ σ, PassesAt CX X σ (E σ)) (ha : PA X (e :: es) t)
    (hdb : (nm == ("__debug__" : Str)) = false := by decide) (he : starEach (e :: es) X.env = (false, eval e X.env) :: starEach es X.env := by rfl) (hpl : (backTo pos (starEach es X.env)).any (·.1) = false := by rfl) : PE X (.Call (.Name nm p) (e :: es) [] pos) (tMkRS C sp E t) :=
  ⟨fun pins s σ H Q I h => wpAny_Call_Name_kw (ld_glob I hg hm (PySem.W.callWith_K (h₀ := X.base) I.ok.mod.kin M.kp (thn (ha.run pos pins s σ H _ I h) fun us s1 ⟨vs, H1, I1, r, q⟩ => ⟨I1.kIn, make_at M F hr hx I1 r q⟩) he hpl) hdb)⟩
end
end OwX
namespace Rd
open PySem PySem.Spec PyProof.Rows L2 OwX
theorem mkRS {C : Addr} {σ : L2.St} {H : Hp} {Q : VK} {E : L2.St → XK} {sp : Sp} {t : TA} (k : t σ H fun vs H1 => MkR C sp (E σ) vs H1 Q) : tMkRS C sp E t σ H Q := k
theorem callRS {σ : L2.St} {H : Hp} {Q : VK} {E : L2.St → XK} {sp : Sp} {t : TA} (k : t σ H fun vs H1 => sp vs H1 Q (E σ)) : tCallRS sp E t σ H Q := k
/-! ### comprehensions over values that stand for items -/
section
variable {α β : Type} {J : It} {G : Hp → Prop} {Y : Nat → Hp → V → Hp → Prop} {items : List α}
theorem lcB (w : Walk J items.length G Y) (B : α → V → Prop) (hy : ∀ i H x H', Y i H x H' → ∃ it, items[i]? = some it ∧ (H' = H ∧ B it x)) (hn : items.length < 100000)
    {g : TG} {tt : TT} {te : TE} {vs : List Nat} {σ : L2.St} {H1 : Hp} {D : Addr} {Qd : Hp → Prop} (keep : α → Bool) (R : α → V → Hp → Prop) (mono : ∀ a y H H', Ext H H' → R a y H → R a y H')
    (hD : H1 D = none) (hG : ∀ H, Ext H1 H → G H)
    (hs : ∀ (i : Nat) it x H acc, items[i]? = some it → B it x → Ext H1 H → H D = some (.lst acc) → ∀ (Qy : VK) (Qn : Hp → Prop),
      (∀ y H4, Ext H H4 → keep it = true → R it y (hid [D] H4) → Qy y H4) → (∀ H3, Ext H H3 → keep it = false → Qn H3) →
      g x (wipe σ vs) H fun σ2 H2 => wipe σ2 vs = wipe σ vs ∧ tt σ2 H2 fun b H3 => if b = true then te σ2 H3 Qy else Qn H3)
    (hd : ∀ ys H, Ext H1 H → H D = some (.lst ys) → Paired (fun a y => R a y (hid [D] H)) (items.filter keep) ys → Qd H) :
    ∃ W : Nat → Nat → Hp → Prop, (∃ m, W 0 m (upd H1 D (.lst []))) ∧ ∀ i m H, W i m H →
      (J.stop i H ∧ Qd H) ∨ (J.go i H ∧ ∃ Nx : Hp → Prop, (∀ H', Nx H' → ∃ m', m' < m ∧ W (i + 1) m' H') ∧ ∀ x H', J.yld i H x H' → g x (wipe σ vs) H' fun σ2 H2 => wipe σ2 vs = wipe σ vs ∧ tt σ2 H2 fun b H3 =>
        if b = true then te σ2 H3 fun y H4 => ∃ acc, H4 D = some (.lst acc) ∧ acc.length < sizeLine ∧ Nx (upd H4 D (.lst (acc ++ [y]))) else Nx H3) := by
  have z : ∀ {H H' : Hp}, Ext (hid [] H) (hid [] H') ↔ Ext H H' := fun {H H'} => by rw [hid_nil, hid_nil]
  refine lcG w (Yi := fun it H x H' => H' = H ∧ B it x) hy hn [] (fun _ => True) keep R mono hD (by simp) (fun _ _ _ => trivial) trivial (fun H e _ => hG H (z.mp e)) ?_ ?_
  · rintro i it x H H' acc hit e _ ha ⟨rfl, hB⟩ Qy Qn ky kn
    exact hs i it x H' acc hit hB (z.mp e) ha Qy Qn (fun y H4 e4 => ky y H4 (z.mpr e4) trivial) (fun H3 e3 => kn H3 (z.mpr e3) trivial)
  · intro ys H e _ hys pr
    exact hd ys H (z.mp e) hys pr
/-- the values at a list stand for items -/
theorem yB {B : α → V → Prop} {vs : List V} (pr : Paired B items vs) : ∀ i H x H', YAt vs i H x H' → ∃ it, items[i]? = some it ∧ (H' = H ∧ B it x) := fun i H x H' h => by
  obtain ⟨rfl, h⟩ := h
  have key : ∀ {items : List α} {vs : List V} {i : Nat}, Paired B items vs → vs[i]? = some x → ∃ it, items[i]? = some it ∧ B it x := by
    clear h pr
    intro items vs i pr
    induction pr generalizing i with
    | nil => intro h; simp at h
    | cons r t ih =>
      intro h
      cases i with
      | zero => simp at h; subst h; exact ⟨_, by simp, r⟩
      | succ i => simp at h; obtain ⟨it, h1, h2⟩ := ih h; exact ⟨it, by simpa using h1, h2⟩
  obtain ⟨it, h1, h2⟩ := key pr h
  exact ⟨it, h1, rfl, h2⟩
theorem walk_lB {K : PySem.W.Frag} {a : Addr} {B : α → V → Prop} {vs : List V} (pr : Paired B items vs) : Walk (Itl K a) items.length (fun H => SqL K H a vs) (YAt vs) := by
  rw [paired_len pr]; exact walk_list
theorem walk_tB {K : PySem.W.Frag} {a : Addr} {B : α → V → Prop} {vs : List V} (pr : Paired B items vs) : Walk (Itt K a) items.length (fun H => SqT K H a vs) (YAt vs) := by
  rw [paired_len pr]; exact walk_tup
end
/-! ### two fors -/
theorem paired_app {α β : Type} {R : α → β → Prop} : ∀ {xs xs' : List α} {ys ys' : List β}, Paired R xs ys → Paired R xs' ys' → Paired R (xs ++ xs') (ys ++ ys')
  | _, _, _, _, .nil, h => h
  | _, _, _, _, .cons r t, h => .cons r (paired_app t h)
theorem flat_len {α β : Type} {f : α → List β} {M : Nat} : ∀ {xs : List α}, (∀ x ∈ xs, (f x).length ≤ M) → (xs.flatMap f).length ≤ xs.length * M
  | [], _ => by simp
  | x :: xs, h => by
    have h1 := flat_len (f := f) (M := M) (xs := xs) fun y hy => h y (List.mem_cons_of_mem _ hy)
    have h2 := h x List.mem_cons_self
    rw [List.flatMap_cons, List.length_append, List.length_cons, Nat.succ_mul]
    omega
/-- the inner for of a comprehension of two, in its turn -/
def In2 (g1 : TG) (tt1 : TT) (te : TE) (vs1 : List Nat) (D : Addr) (J1 : It) (σ2 : L2.St) (H4 : Hp) (Nx : Hp → Prop) : Prop := ∃ W1 : Nat → Nat → Hp → Prop, (∃ m, W1 0 m H4) ∧ ∀ j k H, W1 j k H →
  (J1.stop j H ∧ Nx H) ∨ (J1.go j H ∧ ∃ Nx1 : Hp → Prop, (∀ H', Nx1 H' → ∃ k', k' < k ∧ W1 (j + 1) k' H') ∧ ∀ x H', J1.yld j H x H' → g1 x (wipe σ2 vs1) H' fun σ3 H5 => wipe σ3 vs1 = wipe σ2 vs1 ∧ tt1 σ3 H5 fun b H6 =>
    if b = true then te σ3 H6 fun y H7 => ∃ acc, H7 D = some (.lst acc) ∧ acc.length < sizeLine ∧ Nx1 (upd H7 D (.lst (acc ++ [y]))) else Nx1 H6)
theorem lc2 {α β : Type} {J : It} {G : Hp → Prop} {Y : Nat → Hp → V → Hp → Prop} {items : List α} {sub : α → List β} {M : Nat} (w : Walk J items.length G Y) (B : α → V → Prop) (hy : ∀ i H x H', Y i H x H' → ∃ it, items[i]? = some it ∧ (H' = H ∧ B it x))
    (hM : ∀ a ∈ items, (sub a).length ≤ M) (hn : items.length * M + M < 100000)
    {g g1 : TG} {wi1 : TI} {tt1 : TT} {te : TE} {vs vs1 : List Nat} {σ : L2.St} {H1 : Hp} {D : Addr} {Qd : Hp → Prop} (keep : α → β → Bool) (R : α × β → V → Hp → Prop) (mono : ∀ a y H H', Ext H H' → R a y H → R a y H')
    (hD : H1 D = none) (hG : ∀ H, Ext H1 H → G H)
    (hs : ∀ (i : Nat) a x H, items[i]? = some a → B a x → Ext H1 H → (∃ acc, H D = some (.lst acc)) → ∀ Nx : Hp → Prop,
      (∀ {J1 : It} {H4 : Hp} {σ2 : L2.St} {G1 : Hp → Prop} {Y1 : Nat → Hp → V → Hp → Prop} (B1 : β → V → Prop), Ext H H4 → Walk J1 (sub a).length G1 Y1 → (∀ i H x H', Y1 i H x H' → ∃ it, (sub a)[i]? = some it ∧ (H' = H ∧ B1 it x)) → (∀ H', Ext H1 H' → Ext (hid [D] H4) (hid [D] H') → G1 H') →
        (∀ (j : Nat) b x H5 acc, (sub a)[j]? = some b → B1 b x → Ext H1 H5 → Ext (hid [D] H4) (hid [D] H5) → H5 D = some (.lst acc) → ∀ (Qy : VK) (Qn : Hp → Prop), (∀ y H7, Ext H5 H7 → keep a b = true → R (a, b) y (hid [D] H7) → Qy y H7) → (∀ H6, Ext H5 H6 → keep a b = false → Qn H6) →
          g1 x (wipe σ2 vs1) H5 fun σ3 H6 => wipe σ3 vs1 = wipe σ2 vs1 ∧ tt1 σ3 H6 fun bb H7 => if bb = true then te σ3 H7 Qy else Qn H7) → In2 g1 tt1 te vs1 D J1 σ2 H4 Nx) →
      g x (wipe σ vs) H fun σ2 H2 => wipe σ2 vs = wipe σ vs ∧ wi1 σ2 H2 fun J1 H4 => In2 g1 tt1 te vs1 D J1 σ2 H4 Nx)
    (hd : ∀ ys H, Ext H1 H → H D = some (.lst ys) → Paired (fun a y => R a y (hid [D] H)) (items.flatMap fun a => ((sub a).filter (keep a)).map fun b => (a, b)) ys → Qd H) :
    ∃ W : Nat → Nat → Hp → Prop, (∃ m, W 0 m (upd H1 D (.lst []))) ∧ ∀ i m H, W i m H →
      (J.stop i H ∧ Qd H) ∨ (J.go i H ∧ ∃ Nx : Hp → Prop, (∀ H', Nx H' → ∃ m', m' < m ∧ W (i + 1) m' H') ∧ ∀ x H', J.yld i H x H' → g x (wipe σ vs) H' fun σ2 H2 => wipe σ2 vs = wipe σ vs ∧ tYes σ2 H2 fun b H3 =>
        if b = true then wi1 σ2 H3 fun J1 H4 => In2 g1 tt1 te vs1 D J1 σ2 H4 Nx else Nx H3) := by
  have fe : ∀ {H : Hp} {u : HO}, Ext H1 H → Ext H1 (upd H D u) := fun {H u} e a o h => by
    rw [upd_ne (ne_of_none h hD)]
    exact e a o h
  have hidD : ∀ {H : Hp} {u : HO}, hid [D] (upd H D u) = hid [D] H := fun {H u} => hid_upd (by simp)
  let F : α → List (α × β) := fun a => ((sub a).filter (keep a)).map fun b => (a, b)
  have lenF : ∀ a ∈ items, (F a).length ≤ M := fun a ha => by
    have h1 := hM a ha
    have h2 := List.length_filter_le (keep a) (sub a)
    simp only [F, List.length_map]
    omega
  refine ⟨fun i m H => m = items.length - i ∧ i ≤ items.length ∧ Ext H1 H ∧ ∃ ys, H D = some (.lst ys) ∧ Paired (fun a y => R a y (hid [D] H)) ((items.take i).flatMap F) ys, ⟨_, rfl, Nat.zero_le _, fe ext_rfl, [], upd_same, .nil⟩, ?_⟩
  rintro i m H ⟨rfl, hi, e, ys, hys, pr⟩
  have q := hG H e
  by_cases hlt : i < items.length
  · refine .inr ⟨w.goes i H hlt q, fun H => Ext H1 H ∧ ∃ ys, H D = some (.lst ys) ∧ Paired (fun a y => R a y (hid [D] H)) ((items.take (i + 1)).flatMap F) ys, fun H' p' => ⟨items.length - (i + 1), by omega, rfl, hlt, p'⟩, fun x H' y => ?_⟩
    obtain ⟨a, ha, rfl, hB⟩ := hy i H x H' (w.yields i H x H' hlt q y)
    have hbase : ((items.take i).flatMap F).length ≤ i * M := by
      have h := flat_len (f := F) (M := M) (xs := items.take i) fun x hx => lenF x (List.mem_of_mem_take hx)
      rw [List.length_take, Nat.min_eq_left (Nat.le_of_lt hlt)] at h
      exact h
    have hiM : i * M ≤ items.length * M := Nat.mul_le_mul_right M (Nat.le_of_lt hlt)
    have haM := hM a (List.mem_of_getElem? ha)
    refine hs i a x H' ha hB e ⟨ys, hys⟩ _ fun {J1 H4 σ2 G1 Y1} B1 e4 w1 y1 g1' body => ?_
    refine ⟨fun j k H => k = (sub a).length - j ∧ j ≤ (sub a).length ∧ Ext H1 H ∧ Ext (hid [D] H4) (hid [D] H) ∧ ∃ ys, H D = some (.lst ys) ∧ Paired (fun a y => R a y (hid [D] H)) ((items.take i).flatMap F ++ (((sub a).take j).filter (keep a)).map fun b => (a, b)) ys,
      ⟨_, rfl, Nat.zero_le _, e.trans e4, ext_rfl, ys, e4 _ _ hys, by
        rw [List.take_zero, List.filter_nil, List.map_nil, List.append_nil]
        exact paired_imp (fun a b r => mono a b _ _ (ext_hid e4) r) pr⟩, ?_⟩
    rintro j k H5 ⟨rfl, hj, e5, e5', ys5, hys5, pr5⟩
    have q1 := g1' H5 e5 e5'
    by_cases hjt : j < (sub a).length
    · refine .inr ⟨w1.goes j H5 hjt q1, _, fun H' p' => ⟨(sub a).length - (j + 1), by omega, rfl, hjt, p'⟩, fun x1 H6 y6 => ?_⟩
      obtain ⟨b, hb, rfl, hB1⟩ := y1 j H5 x1 H6 (w1.yields j H5 x1 H6 hjt q1 y6)
      have few : ys5.length < 100000 := by
        have h1 := paired_len pr5
        rw [List.length_append, List.length_map] at h1
        have h2 := List.length_filter_le (keep a) ((sub a).take j)
        rw [List.length_take] at h2
        omega
      refine body j b x1 H6 ys5 hb hB1 e5 e5' hys5 _ _ (fun y H7 e7 k7 r7 => ?_) (fun H7 e7 k7 => ?_)
      · refine ⟨ys5, e7 _ _ hys5, szl few, fe (e5.trans e7), ?_, ys5 ++ [y], upd_same, ?_⟩
        · rw [hidD]; exact e5'.trans (ext_hid e7)
        · rw [filter_snoc (keep a) hb, if_pos k7, List.map_append, ← List.append_assoc, hidD]
          exact paired_snoc (R := fun a y => R a y (hid [D] H7)) r7 (paired_imp (fun a b r => mono a b _ _ (ext_hid e7) r) pr5)
      · refine ⟨e5.trans e7, e5'.trans (ext_hid e7), ys5, e7 _ _ hys5, ?_⟩
        rw [filter_snoc (keep a) hb, k7, if_neg Bool.false_ne_true, List.append_nil]
        exact paired_imp (fun a b r => mono a b _ _ (ext_hid e7) r) pr5
    · have ej : j = (sub a).length := by omega
      subst ej
      refine .inl ⟨w1.stops H5 q1, e5, ys5, hys5, ?_⟩
      rw [take_snoc ha, List.flatMap_append, List.flatMap_singleton]
      rw [List.take_length] at pr5
      exact pr5
  · have ei : i = items.length := by omega
    subst ei
    rw [List.take_length] at pr
    exact .inl ⟨w.stops H q, hd ys H e hys pr⟩
end Rd
namespace OwX
open PySem PySem.Spec PyProof.Rows L2
theorem gcI {mg : Str → Option Value} {x : Str} {n : Int} (h : ∃ t, mg x = some (.int n t)) : ∃ u, mg x = some u ∧ RelV (.int n) u := let ⟨t, e⟩ := h; ⟨_, e, t, rfl⟩
end OwX
namespace GW
open PySem PySem.Spec PyProof.Rows L2 OwX
def rBoolT (K : PySem.W.Frag) : List V → Hp → VK → Prop := fun xs H Q => ∃ (a : Addr) (zs : List V), xs = [.ref a] ∧ SqT K H a zs ∧ Q (.bl (!zs.isEmpty)) H
theorem boolT {K : PySem.W.Frag} {X : Cx} (h : X.K = K := by rfl) : CallR X (.type "bool") (rBoolT K) := by
  subst h
  intro pins s σ H xs us Q I r h
  obtain ⟨a, zs, rfl, hz, q⟩ := h
  obtain ⟨u, rfl, rx⟩ := vals1 r
  cases rx
  refine callType_newIn PySem.F.called_bool PySem.F.newNe_bool (PySem.F.typeCall_bool_1 _) (PySem.F.newCall_bool_1 _) (fun obj => PySem.F.args_object_init_2 obj _) PySem.F.entry_bool_new (bool_new_ref a) ?_
  obtain ⟨its, rv, pl, hsz⟩ := I.tuple hz
  have hl := line63
  have few : its.length ≤ sizeLine := by rw [← rv.length]; exact hsz
  refine truthy_tuple pl (by simp only [List.size_toArray]; have h3 := Nat.lt_of_le_of_lt few hl; omega) ⟨rfl, .bl _, H, I.tok _, rfl, ?_⟩
  rw [isEmpty_of rv]
  exact q
end GW

namespace Rd
open PySem PySem.Spec PyProof.Rows L2 OwX
def Lc2B (J : It) (g : TG) (wi1 : TI) (g1 : TG) (tt1 : TT) (te : TE) (vs vs1 : List Nat) (σ : L2.St) (H1 : Hp) (Q : VK) : Prop := ∀ D, H1 D = none → ∃ W : Nat → Nat → Hp → Prop, (∃ m, W 0 m (upd H1 D (.lst []))) ∧ ∀ i m H, W i m H →
  (J.stop i H ∧ Q (.ref D) H) ∨ (J.go i H ∧ ∃ Nx : Hp → Prop, (∀ H', Nx H' → ∃ m', m' < m ∧ W (i + 1) m' H') ∧ ∀ x H', J.yld i H x H' → g x (wipe σ vs) H' fun σ2 H2 => wipe σ2 vs = wipe σ vs ∧ tYes σ2 H2 fun b H3 =>
    if b = true then wi1 σ2 H3 fun J1 H4 => In2 g1 tt1 te vs1 D J1 σ2 H4 Nx else Nx H3)
section
variable {K : PySem.W.Frag} {g g1 : TG} {tt1 : TT} {te tl : TE} {ta : TA} {vs vs1 : List Nat} {σ : L2.St} {H : Hp} {Q : VK} {wi1 : TI}
theorem lc2T (k : tl σ H fun x H1 => ∃ a, x = .ref a ∧ (∃ xs, SqT K H1 a xs) ∧ Lc2B (Itt K a) g wi1 g1 tt1 te vs vs1 σ H1 Q) : tLc2 (iTup K tl) g tYes wi1 g1 tt1 te vs vs1 σ H Q := k
theorem lc2L (k : tl σ H fun x H1 => ∃ a, x = .ref a ∧ (∃ xs, SqL K H1 a xs) ∧ Lc2B (Itl K a) g wi1 g1 tt1 te vs vs1 σ H1 Q) : tLc2 (iList K tl) g tYes wi1 g1 tt1 te vs vs1 σ H Q := k
theorem lc2R (k : ta σ H fun vs' H1 => ∃ j : Int, vs' = [.int j] ∧ -(2 ^ 62) ≤ j ∧ j < 2 ^ 62 ∧ Lc2B (Itr 0 j.toNat) g wi1 g1 tt1 te vs vs1 σ H1 Q) : tLc2 (iRng1 ta) g tYes wi1 g1 tt1 te vs vs1 σ H Q := k
theorem inR2 {R : It → Hp → Prop} (k : ta σ H fun vs H1 => ∃ i j : Int, vs = [.int i, .int j] ∧ (-(2 ^ 62) ≤ i ∧ i < 2 ^ 62 ∧ -(2 ^ 62) ≤ j ∧ j < 2 ^ 62) ∧ R (Itr i (j - i).toNat) H1) : iRng2 ta σ H R := k
theorem inR1 {R : It → Hp → Prop} (k : ta σ H fun vs H1 => ∃ j : Int, vs = [.int j] ∧ -(2 ^ 62) ≤ j ∧ j < 2 ^ 62 ∧ R (Itr 0 j.toNat) H1) : iRng1 ta σ H R := k
theorem inT {R : It → Hp → Prop} (k : tl σ H fun x H1 => ∃ a, x = .ref a ∧ (∃ xs, SqT K H1 a xs) ∧ R (Itt K a) H1) : iTup K tl σ H R := k
theorem inL {R : It → Hp → Prop} (k : tl σ H fun x H1 => ∃ a, x = .ref a ∧ (∃ xs, SqL K H1 a xs) ∧ R (Itl K a) H1) : iList K tl σ H R := k
end
theorem walk_from {lo : Int} {n : Nat} : Walk (Itr lo n) (List.range n).length (fun _ => True) (fun i H x H' => i < n ∧ YFn (fun i => .int (lo + (i : Nat))) i H x H') := by
  rw [List.length_range]
  exact ⟨fun _ _ hi _ => hi, fun _ _ => Nat.le_refl _, fun i _ _ _ hi _ y => ⟨hi, y⟩⟩
theorem yfrom {lo : Int} {n : Nat} : ∀ i H x H', (i < n ∧ YFn (fun i => V.int (lo + (i : Nat))) i H x H') → ∃ it, (List.range n)[i]? = some it ∧ (H' = H ∧ x = V.int (lo + (it : Nat))) := fun i H x H' h => yfn i H x H' h.1 h.2
end Rd

namespace Rd
open PySem PySem.Spec PyProof.Rows L2 OwX
theorem paired_back {α β : Type} {R : α → β → Prop} {x : β} : ∀ {xs : List α} {ys : List β} {i : Nat}, Paired R xs ys → ys[i]? = some x → ∃ a, xs[i]? = some a ∧ R a x
  | _, _, _, .nil, h => by simp at h
  | _, _, 0, .cons r _, h => by simp at h; subst h; exact ⟨_, by simp, r⟩
  | _, _, i + 1, .cons _ t, h => by
    obtain ⟨a, h1, h2⟩ := paired_back (i := i) t (by simpa using h)
    exact ⟨a, by simpa using h1, h2⟩
theorem setF {K : PySem.W.Frag} {i : Nat} {x : Addr} {tv : TE} {f : Str} {D : Ends} {σ : L2.St} {H : Hp} (h : σ[i]? = some (some (.ref x))) (k : tv σ H fun y H1 => ∃ C dx fs, H1 x = some (.ins C dx fs) ∧ Cls K C ∧ NoAttr K C f ∧ fs.length < 1000 ∧ D.nx σ (upd H1 x (.ins C dx (putF f y fs))))
    (mono : ∀ R R' : VK, (∀ v H, R v H → R' v H) → tv σ H R → tv σ H R') : sFld K (tVar i) tv f D σ H :=
  mono _ _ (fun y H1 ⟨C, dx, fs, h1, h2, h3, h4, h5⟩ => ⟨.ref x, h, x, C, dx, fs, rfl, h1, h2, h3, h4, h5⟩) k
theorem sF {K : PySem.W.Frag} {ta tv : TE} {f : Str} {D : Ends} {σ : L2.St} {H : Hp} (k : tv σ H fun y H1 => ta σ H1 fun x H2 => ∃ a C dx fs, x = .ref a ∧ H2 a = some (.ins C dx fs) ∧ Cls K C ∧ NoAttr K C f ∧ fs.length < 1000 ∧ D.nx σ (upd H2 a (.ins C dx (putF f y fs)))) : sFld K ta tv f D σ H := k
theorem fldv {K : PySem.W.Frag} {σ : L2.St} {H : Hp} {n : Nat} {a C dx : Addr} {fs : List (Str × V)} {f : Str} {v : V} {Q : VK} (e : σ[n]? = some (some (.ref a))) (h : H a = some (.ins C dx fs)) (c : Cls K C) (na : NoAttr K C f) (l : fs.lookup f = some v) (k : Q v H) : tFld K (tVar n) f σ H Q := ⟨.ref a, e, a, C, dx, fs, v, rfl, h, c, na, l, k⟩
theorem dIn {ty td : TE} {σ : L2.St} {H : Hp} {Q : VK} (k : ty σ H fun y H1 => td σ H1 fun x H2 => ∃ a o, x = .ref a ∧ DGet H2 a y o ∧ Q (.bl o.isSome) H2) : tDIn ty td σ H Q := k
theorem dNi {ty td : TE} {σ : L2.St} {H : Hp} {Q : VK} (k : ty σ H fun y H1 => td σ H1 fun x H2 => ∃ a o, x = .ref a ∧ DGet H2 a y o ∧ Q (.bl (!o.isSome)) H2) : tDNotIn ty td σ H Q := k
/-- an int by a test, one way on -/
theorem ifI {p : Prop} [Decidable p] {i j : Int} {t : TT} {ta tb : TE} {σ : L2.St} {H : Hp} {Q : VK} (ht : ∀ R : Bool → Hp → Prop, R (decide p) H → t σ H R) (ha : ∀ R : VK, R (.int i) H → ta σ H R) (hb : ∀ R : VK, R (.int j) H → tb σ H R) (k : Q (.int (if p then i else j)) H) : tIf t ta tb σ H Q := by
  refine ht _ ?_
  by_cases c : p
  · rw [if_pos c] at k
    rw [decide_eq_true c, if_pos rfl]
    exact ha _ k
  · rw [if_neg c] at k
    rw [decide_eq_false c, if_neg Bool.false_ne_true]
    exact hb _ k
end Rd

set_option Elab.async false
set_option linter.all false
set_option maxRecDepth 100000
set_option maxHeartbeats 0
/-! The text by places, its defs as data, what is read off the top (printed by gen.py). -/
namespace Lv
open PySem PySem.Spec PyProof.Rows L2 OwX
def top (i : Nat) : Stmt := PySem.Challenge.pw_levelcascades_k56_least_and_flipped_sets.main.body.getD i (.Pass ⟨0, 0, 0, 0⟩)
abbrev s_BadResult_init : Stmt := inClass (top 3) 0
abbrev s_BadReach_init : Stmt := inClass (top 4) 0
abbrev s_cut : Stmt := top 7
abbrev s_greater : Stmt := top 8
abbrev s_core : Stmt := top 9
abbrev s_all_cores : Stmt := top 10
abbrev s_result_of : Stmt := top 11
abbrev s_split_at : Stmt := top 12
abbrev s_is_whole : Stmt := top 13
abbrev s_least_reach : Stmt := top 14
abbrev s_Results_init : Stmt := inClass (top 15) 0
abbrev s_Results_every : Stmt := inClass (top 15) 1
abbrev s_Results_none : Stmt := inClass (top 15) 2
abbrev s_Results_reach : Stmt := inClass (top 15) 3
abbrev s_Results_cores : Stmt := inClass (top 15) 4
abbrev s_Results_bool : Stmt := inClass (top 15) 5
abbrev s_Results_contains : Stmt := inClass (top 15) 6
abbrev s_Results_eq : Stmt := inClass (top 15) 7
abbrev s_Results_le : Stmt := inClass (top 15) 8
abbrev s_Results_or : Stmt := inClass (top 15) 9
abbrev s_Results_and : Stmt := inClass (top 15) 10
abbrev s_Results_sub : Stmt := inClass (top 15) 11
abbrev s_Results_xor : Stmt := inClass (top 15) 12
abbrev s_Results_invert : Stmt := inClass (top 15) 13
abbrev s_Results_least : Stmt := inClass (top 15) 16
abbrev s_Results_flipped : Stmt := inClass (top 15) 17
abbrev s_law_pool : Stmt := top 17
abbrev s_law_take : Stmt := top 18
abbrev s_law_one : Stmt := top 19
abbrev s_law_core : Stmt := top 20
abbrev s_law_all : Stmt := top 21
abbrev s_law_members : Stmt := top 22
abbrev s_law_lifted : Stmt := top 23
abbrev s_law_drawn : Stmt := top 24
abbrev s_law_some : Stmt := top 25
abbrev s_law_least : Stmt := top 26
abbrev s_law : Stmt := top 27
abbrev N_BadResult_init : List Str := ["self", "index"]
abbrev P_BadResult_init : List Str := ["self", "index"]
abbrev a_BadResult_init (K : PySem.W.Frag) : Addr := He.ma K (He.ga K "BadResult") "__init__"
theorem sc_BadResult_init : FnScope N_BadResult_init P_BadResult_init (defScope s_BadResult_init) := ⟨rfl, rfl, rfl, by decide +kernel, rfl, by decide +kernel, by decide +kernel⟩
abbrev N_BadReach_init : List Str := ["self", "number"]
abbrev P_BadReach_init : List Str := ["self", "number"]
abbrev a_BadReach_init (K : PySem.W.Frag) : Addr := He.ma K (He.ga K "BadReach") "__init__"
theorem sc_BadReach_init : FnScope N_BadReach_init P_BadReach_init (defScope s_BadReach_init) := ⟨rfl, rfl, rfl, by decide +kernel, rfl, by decide +kernel, by decide +kernel⟩
abbrev N_cut : List Str := ["number", "most"]
abbrev P_cut : List Str := ["number", "most"]
abbrev a_cut (K : PySem.W.Frag) : Addr := He.ga K "cut"
theorem sc_cut : FnScope N_cut P_cut (defScope s_cut) := ⟨rfl, rfl, rfl, by decide +kernel, rfl, by decide +kernel, by decide +kernel⟩
abbrev N_greater : List Str := ["one", "two"]
abbrev P_greater : List Str := ["one", "two"]
abbrev a_greater (K : PySem.W.Frag) : Addr := He.ga K "greater"
theorem sc_greater : FnScope N_greater P_greater (defScope s_greater) := ⟨rfl, rfl, rfl, by decide +kernel, rfl, by decide +kernel, by decide +kernel⟩
abbrev N_core : List Str := ["result", "reach", "home", "away", "level"]
abbrev P_core : List Str := ["result", "reach"]
abbrev a_core (K : PySem.W.Frag) : Addr := He.ga K "core"
theorem sc_core : FnScope N_core P_core (defScope s_core) := ⟨rfl, rfl, rfl, by decide +kernel, rfl, by decide +kernel, by decide +kernel⟩
abbrev N_all_cores : List Str := ["reach", "lows", "home", "highs", "away"]
abbrev P_all_cores : List Str := ["reach"]
abbrev a_all_cores (K : PySem.W.Frag) : Addr := He.ga K "all_cores"
theorem sc_all_cores : FnScope N_all_cores P_all_cores (defScope s_all_cores) := ⟨rfl, rfl, rfl, by decide +kernel, rfl, by decide +kernel, by decide +kernel⟩
abbrev N_result_of : List Str := ["level", "difference"]
abbrev P_result_of : List Str := ["level", "difference"]
abbrev a_result_of (K : PySem.W.Frag) : Addr := He.ga K "result_of"
theorem sc_result_of : FnScope N_result_of P_result_of (defScope s_result_of) := ⟨rfl, rfl, rfl, by decide +kernel, rfl, by decide +kernel, by decide +kernel⟩
abbrev N_split_at : List Str := ["below", "reach", "home", "away", "level", "near", "more", "turn", "result"]
abbrev P_split_at : List Str := ["below", "reach"]
abbrev a_split_at (K : PySem.W.Frag) : Addr := He.ga K "split_at"
theorem sc_split_at : FnScope N_split_at P_split_at (defScope s_split_at) := ⟨rfl, rfl, rfl, by decide +kernel, rfl, by decide +kernel, by decide +kernel⟩
abbrev N_is_whole : List Str := ["known", "below", "reach", "inside", "result"]
abbrev P_is_whole : List Str := ["known", "below", "reach"]
abbrev a_is_whole (K : PySem.W.Frag) : Addr := He.ga K "is_whole"
theorem sc_is_whole : FnScope N_is_whole P_is_whole (defScope s_is_whole) := ⟨rfl, rfl, rfl, by decide +kernel, rfl, by decide +kernel, by decide +kernel⟩
abbrev N_least_reach : List Str := ["known", "reach", "turn", "below"]
abbrev P_least_reach : List Str := ["known", "reach"]
abbrev a_least_reach (K : PySem.W.Frag) : Addr := He.ga K "least_reach"
theorem sc_least_reach : FnScope N_least_reach P_least_reach (defScope s_least_reach) := ⟨rfl, rfl, rfl, by decide +kernel, rfl, by decide +kernel, by decide +kernel⟩
abbrev N_Results_init : List Str := ["self", "reach", "members", "index", "result", "given"]
abbrev P_Results_init : List Str := ["self", "reach", "members"]
abbrev a_Results_init (K : PySem.W.Frag) : Addr := He.ma K (He.ga K "Results") "__init__"
theorem sc_Results_init : FnScope N_Results_init P_Results_init (defScope s_Results_init) := ⟨rfl, rfl, rfl, by decide +kernel, rfl, by decide +kernel, by decide +kernel⟩
abbrev N_Results_every : List Str := []
abbrev P_Results_every : List Str := []
abbrev a_Results_every (K : PySem.W.Frag) : Addr := He5.wf K (He.ga K "Results") "staticmethod" "every"
theorem sc_Results_every : FnScope N_Results_every P_Results_every (defScope s_Results_every) := ⟨rfl, rfl, rfl, by decide +kernel, rfl, by decide +kernel, by decide +kernel⟩
abbrev N_Results_none : List Str := []
abbrev P_Results_none : List Str := []
abbrev a_Results_none (K : PySem.W.Frag) : Addr := He5.wf K (He.ga K "Results") "staticmethod" "none"
theorem sc_Results_none : FnScope N_Results_none P_Results_none (defScope s_Results_none) := ⟨rfl, rfl, rfl, by decide +kernel, rfl, by decide +kernel, by decide +kernel⟩
abbrev N_Results_reach : List Str := ["self"]
abbrev P_Results_reach : List Str := ["self"]
abbrev a_Results_reach (K : PySem.W.Frag) : Addr := He5.wf K (He.ga K "Results") "property" "reach"
theorem sc_Results_reach : FnScope N_Results_reach P_Results_reach (defScope s_Results_reach) := ⟨rfl, rfl, rfl, by decide +kernel, rfl, by decide +kernel, by decide +kernel⟩
abbrev N_Results_cores : List Str := ["self"]
abbrev P_Results_cores : List Str := ["self"]
abbrev a_Results_cores (K : PySem.W.Frag) : Addr := He5.wf K (He.ga K "Results") "property" "cores"
theorem sc_Results_cores : FnScope N_Results_cores P_Results_cores (defScope s_Results_cores) := ⟨rfl, rfl, rfl, by decide +kernel, rfl, by decide +kernel, by decide +kernel⟩
abbrev N_Results_bool : List Str := ["self"]
abbrev P_Results_bool : List Str := ["self"]
abbrev a_Results_bool (K : PySem.W.Frag) : Addr := He.ma K (He.ga K "Results") "__bool__"
theorem sc_Results_bool : FnScope N_Results_bool P_Results_bool (defScope s_Results_bool) := ⟨rfl, rfl, rfl, by decide +kernel, rfl, by decide +kernel, by decide +kernel⟩
abbrev N_Results_contains : List Str := ["self", "result"]
abbrev P_Results_contains : List Str := ["self", "result"]
abbrev a_Results_contains (K : PySem.W.Frag) : Addr := He.ma K (He.ga K "Results") "__contains__"
theorem sc_Results_contains : FnScope N_Results_contains P_Results_contains (defScope s_Results_contains) := ⟨rfl, rfl, rfl, by decide +kernel, rfl, by decide +kernel, by decide +kernel⟩
abbrev N_Results_eq : List Str := ["self", "other"]
abbrev P_Results_eq : List Str := ["self", "other"]
abbrev a_Results_eq (K : PySem.W.Frag) : Addr := He.ma K (He.ga K "Results") "__eq__"
theorem sc_Results_eq : FnScope N_Results_eq P_Results_eq (defScope s_Results_eq) := ⟨rfl, rfl, rfl, by decide +kernel, rfl, by decide +kernel, by decide +kernel⟩
abbrev N_Results_le : List Str := ["self", "other", "span", "result"]
abbrev P_Results_le : List Str := ["self", "other"]
abbrev a_Results_le (K : PySem.W.Frag) : Addr := He.ma K (He.ga K "Results") "__le__"
theorem sc_Results_le : FnScope N_Results_le P_Results_le (defScope s_Results_le) := ⟨rfl, rfl, rfl, by decide +kernel, rfl, by decide +kernel, by decide +kernel⟩
abbrev N_Results_or : List Str := ["self", "other", "span", "result"]
abbrev P_Results_or : List Str := ["self", "other"]
abbrev a_Results_or (K : PySem.W.Frag) : Addr := He.ma K (He.ga K "Results") "__or__"
theorem sc_Results_or : FnScope N_Results_or P_Results_or (defScope s_Results_or) := ⟨rfl, rfl, rfl, by decide +kernel, rfl, by decide +kernel, by decide +kernel⟩
abbrev N_Results_and : List Str := ["self", "other", "span", "result"]
abbrev P_Results_and : List Str := ["self", "other"]
abbrev a_Results_and (K : PySem.W.Frag) : Addr := He.ma K (He.ga K "Results") "__and__"
theorem sc_Results_and : FnScope N_Results_and P_Results_and (defScope s_Results_and) := ⟨rfl, rfl, rfl, by decide +kernel, rfl, by decide +kernel, by decide +kernel⟩
abbrev N_Results_sub : List Str := ["self", "other", "span", "result"]
abbrev P_Results_sub : List Str := ["self", "other"]
abbrev a_Results_sub (K : PySem.W.Frag) : Addr := He.ma K (He.ga K "Results") "__sub__"
theorem sc_Results_sub : FnScope N_Results_sub P_Results_sub (defScope s_Results_sub) := ⟨rfl, rfl, rfl, by decide +kernel, rfl, by decide +kernel, by decide +kernel⟩
abbrev N_Results_xor : List Str := ["self", "other", "span", "result"]
abbrev P_Results_xor : List Str := ["self", "other"]
abbrev a_Results_xor (K : PySem.W.Frag) : Addr := He.ma K (He.ga K "Results") "__xor__"
theorem sc_Results_xor : FnScope N_Results_xor P_Results_xor (defScope s_Results_xor) := ⟨rfl, rfl, rfl, by decide +kernel, rfl, by decide +kernel, by decide +kernel⟩
abbrev N_Results_invert : List Str := ["self", "result"]
abbrev P_Results_invert : List Str := ["self"]
abbrev a_Results_invert (K : PySem.W.Frag) : Addr := He.ma K (He.ga K "Results") "__invert__"
theorem sc_Results_invert : FnScope N_Results_invert P_Results_invert (defScope s_Results_invert) := ⟨rfl, rfl, rfl, by decide +kernel, rfl, by decide +kernel, by decide +kernel⟩
abbrev N_Results_least : List Str := ["self", "best", "home", "away"]
abbrev P_Results_least : List Str := ["self"]
abbrev a_Results_least (K : PySem.W.Frag) : Addr := He.ma K (He.ga K "Results") "least"
theorem sc_Results_least : FnScope N_Results_least P_Results_least (defScope s_Results_least) := ⟨rfl, rfl, rfl, by decide +kernel, rfl, by decide +kernel, by decide +kernel⟩
abbrev N_Results_flipped : List Str := ["self", "home", "away"]
abbrev P_Results_flipped : List Str := ["self"]
abbrev a_Results_flipped (K : PySem.W.Frag) : Addr := He.ma K (He.ga K "Results") "flipped"
theorem sc_Results_flipped : FnScope N_Results_flipped P_Results_flipped (defScope s_Results_flipped) := ⟨rfl, rfl, rfl, by decide +kernel, rfl, by decide +kernel, by decide +kernel⟩
abbrev N_law_pool : List Str := ["script", "k", "cell", "big", "mixed"]
abbrev P_law_pool : List Str := ["script", "k"]
abbrev a_law_pool (K : PySem.W.Frag) : Addr := He.ga K "_law_pool"
theorem sc_law_pool : FnScope N_law_pool P_law_pool (defScope s_law_pool) := ⟨rfl, rfl, rfl, by decide +kernel, rfl, by decide +kernel, by decide +kernel⟩
abbrev N_law_take : List Str := ["pool", "bound", "result"]
abbrev P_law_take : List Str := ["pool", "bound"]
abbrev a_law_take (K : PySem.W.Frag) : Addr := He.ga K "_law_take"
theorem sc_law_take : FnScope N_law_take P_law_take (defScope s_law_take) := ⟨rfl, rfl, rfl, by decide +kernel, rfl, by decide +kernel, by decide +kernel⟩
abbrev N_law_one : List Str := ["pool", "things"]
abbrev P_law_one : List Str := ["pool", "things"]
abbrev a_law_one (K : PySem.W.Frag) : Addr := He.ga K "_law_one"
theorem sc_law_one : FnScope N_law_one P_law_one (defScope s_law_one) := ⟨rfl, rfl, rfl, by decide +kernel, rfl, by decide +kernel, by decide +kernel⟩
abbrev N_law_core : List Str := ["result", "reach", "home", "away", "level"]
abbrev P_law_core : List Str := ["result", "reach"]
abbrev a_law_core (K : PySem.W.Frag) : Addr := He.ga K "_law_core"
theorem sc_law_core : FnScope N_law_core P_law_core (defScope s_law_core) := ⟨rfl, rfl, rfl, by decide +kernel, rfl, by decide +kernel, by decide +kernel⟩
abbrev N_law_all : List Str := ["reach", "found", "home", "line", "away", "result"]
abbrev P_law_all : List Str := ["reach"]
abbrev a_law_all (K : PySem.W.Frag) : Addr := He.ga K "_law_all"
theorem sc_law_all : FnScope N_law_all P_law_all (defScope s_law_all) := ⟨rfl, rfl, rfl, by decide +kernel, rfl, by decide +kernel, by decide +kernel⟩
abbrev N_law_members : List Str := ["pool", "reach", "most", "cores", "turn"]
abbrev P_law_members : List Str := ["pool", "reach", "most"]
abbrev a_law_members (K : PySem.W.Frag) : Addr := He.ga K "_law_members"
theorem sc_law_members : FnScope N_law_members P_law_members (defScope s_law_members) := ⟨rfl, rfl, rfl, by decide +kernel, rfl, by decide +kernel, by decide +kernel⟩
abbrev N_law_lifted : List Str := ["reach", "cores", "more", "one"]
abbrev P_law_lifted : List Str := ["reach", "cores", "more"]
abbrev a_law_lifted (K : PySem.W.Frag) : Addr := He.ga K "_law_lifted"
theorem sc_law_lifted : FnScope N_law_lifted P_law_lifted (defScope s_law_lifted) := ⟨rfl, rfl, rfl, by decide +kernel, rfl, by decide +kernel, by decide +kernel⟩
abbrev N_law_drawn : List Str := ["pool", "reach", "cores", "way", "one", "more", "other"]
abbrev P_law_drawn : List Str := ["pool"]
abbrev a_law_drawn (K : PySem.W.Frag) : Addr := He.ga K "_law_drawn"
theorem sc_law_drawn : FnScope N_law_drawn P_law_drawn (defScope s_law_drawn) := ⟨rfl, rfl, rfl, by decide +kernel, rfl, by decide +kernel, by decide +kernel⟩
abbrev N_law_some : List Str := ["pool", "reach", "found", "turn", "far", "near"]
abbrev P_law_some : List Str := ["pool", "reach"]
abbrev a_law_some (K : PySem.W.Frag) : Addr := He.ga K "_law_some"
theorem sc_law_some : FnScope N_law_some P_law_some (defScope s_law_some) := ⟨rfl, rfl, rfl, by decide +kernel, rfl, by decide +kernel, by decide +kernel⟩
abbrev N_law_least : List Str := ["cores", "best", "home", "away"]
abbrev P_law_least : List Str := ["cores"]
abbrev a_law_least (K : PySem.W.Frag) : Addr := He.ga K "_law_least"
theorem sc_law_least : FnScope N_law_least P_law_least (defScope s_law_least) := ⟨rfl, rfl, rfl, by decide +kernel, rfl, by decide +kernel, by decide +kernel⟩
abbrev N_law : List Str := ["script", "k", "pool", "reach", "cores", "told", "other", "due", "home", "away", "goals", "one", "every", "empty"]
abbrev P_law : List Str := ["script"]
abbrev a_law (K : PySem.W.Frag) : Addr := He.ga K "law"
theorem sc_law : FnScope N_law P_law (defScope s_law) := ⟨rfl, rfl, rfl, by decide +kernel, rfl, by decide +kernel, by decide +kernel⟩
/-! ### data of the defs -/
def d_BadResult_init : He5.DefA := ⟨fun K => a_BadResult_init K, "__init__", "BadResult.__init__", defArgs s_BadResult_init, defBody s_BadResult_init, defScope s_BadResult_init, [], []⟩
def d_BadReach_init : He5.DefA := ⟨fun K => a_BadReach_init K, "__init__", "BadReach.__init__", defArgs s_BadReach_init, defBody s_BadReach_init, defScope s_BadReach_init, [], []⟩
def d_cut : He5.DefA := ⟨fun K => a_cut K, "cut", "cut", defArgs s_cut, defBody s_cut, defScope s_cut, [], []⟩
def d_greater : He5.DefA := ⟨fun K => a_greater K, "greater", "greater", defArgs s_greater, defBody s_greater, defScope s_greater, [], []⟩
def d_core : He5.DefA := ⟨fun K => a_core K, "core", "core", defArgs s_core, defBody s_core, defScope s_core, [], []⟩
def d_all_cores : He5.DefA := ⟨fun K => a_all_cores K, "all_cores", "all_cores", defArgs s_all_cores, defBody s_all_cores, defScope s_all_cores, [], []⟩
def d_result_of : He5.DefA := ⟨fun K => a_result_of K, "result_of", "result_of", defArgs s_result_of, defBody s_result_of, defScope s_result_of, [], []⟩
def d_split_at : He5.DefA := ⟨fun K => a_split_at K, "split_at", "split_at", defArgs s_split_at, defBody s_split_at, defScope s_split_at, [], []⟩
def d_is_whole : He5.DefA := ⟨fun K => a_is_whole K, "is_whole", "is_whole", defArgs s_is_whole, defBody s_is_whole, defScope s_is_whole, [], []⟩
def d_least_reach : He5.DefA := ⟨fun K => a_least_reach K, "least_reach", "least_reach", defArgs s_least_reach, defBody s_least_reach, defScope s_least_reach, [], []⟩
def d_Results_init : He5.DefA := ⟨fun K => a_Results_init K, "__init__", "Results.__init__", defArgs s_Results_init, defBody s_Results_init, defScope s_Results_init, [], []⟩
def d_Results_every : He5.DefA := ⟨fun K => a_Results_every K, "every", "Results.every", defArgs s_Results_every, defBody s_Results_every, defScope s_Results_every, [], []⟩
def d_Results_none : He5.DefA := ⟨fun K => a_Results_none K, "none", "Results.none", defArgs s_Results_none, defBody s_Results_none, defScope s_Results_none, [], []⟩
def d_Results_reach : He5.DefA := ⟨fun K => a_Results_reach K, "reach", "Results.reach", defArgs s_Results_reach, defBody s_Results_reach, defScope s_Results_reach, [], []⟩
def d_Results_cores : He5.DefA := ⟨fun K => a_Results_cores K, "cores", "Results.cores", defArgs s_Results_cores, defBody s_Results_cores, defScope s_Results_cores, [], []⟩
def d_Results_bool : He5.DefA := ⟨fun K => a_Results_bool K, "__bool__", "Results.__bool__", defArgs s_Results_bool, defBody s_Results_bool, defScope s_Results_bool, [], []⟩
def d_Results_contains : He5.DefA := ⟨fun K => a_Results_contains K, "__contains__", "Results.__contains__", defArgs s_Results_contains, defBody s_Results_contains, defScope s_Results_contains, [], []⟩
def d_Results_eq : He5.DefA := ⟨fun K => a_Results_eq K, "__eq__", "Results.__eq__", defArgs s_Results_eq, defBody s_Results_eq, defScope s_Results_eq, [], []⟩
def d_Results_le : He5.DefA := ⟨fun K => a_Results_le K, "__le__", "Results.__le__", defArgs s_Results_le, defBody s_Results_le, defScope s_Results_le, [], []⟩
def d_Results_or : He5.DefA := ⟨fun K => a_Results_or K, "__or__", "Results.__or__", defArgs s_Results_or, defBody s_Results_or, defScope s_Results_or, [], []⟩
def d_Results_and : He5.DefA := ⟨fun K => a_Results_and K, "__and__", "Results.__and__", defArgs s_Results_and, defBody s_Results_and, defScope s_Results_and, [], []⟩
def d_Results_sub : He5.DefA := ⟨fun K => a_Results_sub K, "__sub__", "Results.__sub__", defArgs s_Results_sub, defBody s_Results_sub, defScope s_Results_sub, [], []⟩
def d_Results_xor : He5.DefA := ⟨fun K => a_Results_xor K, "__xor__", "Results.__xor__", defArgs s_Results_xor, defBody s_Results_xor, defScope s_Results_xor, [], []⟩
def d_Results_invert : He5.DefA := ⟨fun K => a_Results_invert K, "__invert__", "Results.__invert__", defArgs s_Results_invert, defBody s_Results_invert, defScope s_Results_invert, [], []⟩
def d_Results_least : He5.DefA := ⟨fun K => a_Results_least K, "least", "Results.least", defArgs s_Results_least, defBody s_Results_least, defScope s_Results_least, [], []⟩
def d_Results_flipped : He5.DefA := ⟨fun K => a_Results_flipped K, "flipped", "Results.flipped", defArgs s_Results_flipped, defBody s_Results_flipped, defScope s_Results_flipped, [], []⟩
def d_law_pool : He5.DefA := ⟨fun K => a_law_pool K, "_law_pool", "_law_pool", defArgs s_law_pool, defBody s_law_pool, defScope s_law_pool, [], []⟩
def d_law_take : He5.DefA := ⟨fun K => a_law_take K, "_law_take", "_law_take", defArgs s_law_take, defBody s_law_take, defScope s_law_take, [], []⟩
def d_law_one : He5.DefA := ⟨fun K => a_law_one K, "_law_one", "_law_one", defArgs s_law_one, defBody s_law_one, defScope s_law_one, [], []⟩
def d_law_core : He5.DefA := ⟨fun K => a_law_core K, "_law_core", "_law_core", defArgs s_law_core, defBody s_law_core, defScope s_law_core, [], []⟩
def d_law_all : He5.DefA := ⟨fun K => a_law_all K, "_law_all", "_law_all", defArgs s_law_all, defBody s_law_all, defScope s_law_all, [], []⟩
def d_law_members : He5.DefA := ⟨fun K => a_law_members K, "_law_members", "_law_members", defArgs s_law_members, defBody s_law_members, defScope s_law_members, [], []⟩
def d_law_lifted : He5.DefA := ⟨fun K => a_law_lifted K, "_law_lifted", "_law_lifted", defArgs s_law_lifted, defBody s_law_lifted, defScope s_law_lifted, [], []⟩
def d_law_drawn : He5.DefA := ⟨fun K => a_law_drawn K, "_law_drawn", "_law_drawn", defArgs s_law_drawn, defBody s_law_drawn, defScope s_law_drawn, [], []⟩
def d_law_some : He5.DefA := ⟨fun K => a_law_some K, "_law_some", "_law_some", defArgs s_law_some, defBody s_law_some, defScope s_law_some, [], []⟩
def d_law_least : He5.DefA := ⟨fun K => a_law_least K, "_law_least", "_law_least", defArgs s_law_least, defBody s_law_least, defScope s_law_least, [], []⟩
def d_law : He5.DefA := ⟨fun K => a_law K, "law", "law", defArgs s_law, defBody s_law, defScope s_law, [], []⟩
def fn : List He5.DefA := [d_BadResult_init, d_BadReach_init, d_cut, d_greater, d_core, d_all_cores, d_result_of, d_split_at, d_is_whole, d_least_reach, d_Results_init, d_Results_every, d_Results_none, d_Results_reach, d_Results_cores, d_Results_bool, d_Results_contains, d_Results_eq, d_Results_le, d_Results_or, d_Results_and, d_Results_sub, d_Results_xor, d_Results_invert, d_Results_least, d_Results_flipped, d_law_pool, d_law_take, d_law_one, d_law_core, d_law_all, d_law_members, d_law_lifted, d_law_drawn, d_law_some, d_law_least, d_law]
def fb0 : List HeZ.Fb := [fun K => (He.Fa.glo "CascadeError").ok K,
  fun K => (He.Fa.glo "BadResult").ok K,
  fun K => (He.Fa.glo "BadReach").ok K,
  fun K => (He.Fa.glo "cut").ok K,
  fun K => (He.Fa.glo "greater").ok K,
  fun K => (He.Fa.glo "core").ok K,
  fun K => (He.Fa.glo "all_cores").ok K,
  fun K => (He.Fa.glo "result_of").ok K,
  fun K => (He.Fa.glo "split_at").ok K,
  fun K => (He.Fa.glo "is_whole").ok K,
  fun K => (He.Fa.glo "least_reach").ok K,
  fun K => (He.Fa.glo "Results").ok K,
  fun K => (He.Fa.glo "_law_pool").ok K,
  fun K => (He.Fa.glo "_law_take").ok K,
  fun K => (He.Fa.glo "_law_one").ok K,
  fun K => (He.Fa.glo "_law_core").ok K,
  fun K => (He.Fa.glo "_law_all").ok K,
  fun K => (He.Fa.glo "_law_members").ok K,
  fun K => (He.Fa.glo "_law_lifted").ok K,
  fun K => (He.Fa.glo "_law_drawn").ok K,
  fun K => (He.Fa.glo "_law_some").ok K,
  fun K => (He.Fa.glo "_law_least").ok K,
  fun K => (He.Fa.glo "law").ok K,
  fun K => (He.Fa.free "ValueError").ok K,
  fun K => (He.Fa.free "bool").ok K,
  fun K => (He.Fa.free "enumerate").ok K,
  fun K => (He.Fa.free "int").ok K,
  fun K => (He.Fa.free "isinstance").ok K,
  fun K => (He.Fa.free "len").ok K,
  fun K => (He.Fa.free "max").ok K,
  fun K => (He.Fa.free "min").ok K,
  fun K => (He.Fa.free "property").ok K,
  fun K => (He.Fa.free "range").ok K,
  fun K => (He.Fa.free "staticmethod").ok K,
  fun K => (He.Fa.free "tuple").ok K,
  fun K => (He.Fa.int "MOST_REACH" 60).ok K,
  fun K => excB K (He.ga K "BadResult"),
  fun K => (He.Fa.noat "BadResult" "index").ok K,
  fun K => excB K (He.ga K "BadReach"),
  fun K => (He.Fa.noat "BadReach" "number").ok K,
  fun K => (He.Fa.cls "Results").ok K,
  fun K => (He.Fa.mkr "Results").ok K,
  fun K => isB K (He.ga K "Results"),
  fun K => creadB K (He.ga K "Results"),
  fun K => PySem.W.selfFirst K (He.ga K "Results"),
  fun K => PySem.W.noSeq K (He.ga K "Results"),
  fun K => kiB K (.ref (He.ga K "Results")) (.ref (He.ga K "Results")) true,
  fun K => (He.Fa.noat "Results" "span").ok K,
  fun K => (He.Fa.noat "Results" "kept").ok K,
  fun K => (He.Fa.noat "Results" "known").ok K]
def fb1 : List HeZ.Fb := [fun K => (He.Fa.meth "Results" "__init__").ok K,
  fun K => smB K (He.ga K "Results") "every",
  fun K => smB K (He.ga K "Results") "none",
  fun K => propB K (He.ga K "Results") "reach",
  fun K => propB K (He.ga K "Results") "cores",
  fun K => (He.Fa.meth "Results" "__bool__").ok K,
  fun K => (He.Fa.meth "Results" "__contains__").ok K,
  fun K => (He.Fa.meth "Results" "__eq__").ok K,
  fun K => (He.Fa.meth "Results" "__le__").ok K,
  fun K => (He.Fa.meth "Results" "__or__").ok K,
  fun K => (He.Fa.meth "Results" "__and__").ok K,
  fun K => (He.Fa.meth "Results" "__sub__").ok K,
  fun K => (He.Fa.meth "Results" "__xor__").ok K,
  fun K => (He.Fa.meth "Results" "__invert__").ok K,
  fun K => (He.Fa.meth "Results" "least").ok K,
  fun K => (He.Fa.meth "Results" "flipped").ok K]
def fb : List HeZ.Fb := fb0 ++ fb1
def tf : List He.Defn := []
/-- what the top has left -/
structure Tx (K : PySem.W.Frag) (mg : Str → Option Value) : Prop where
  ex : ∃ h : Heap, K.In h ∧ h.Ns mainGlobals mg ∧ HeZ.SaysZ fb fn tf h K
section
variable {K : PySem.W.Frag} {mg : Str → Option Value} (T : Tx K mg)
include T
theorem Tx.g_CascadeError : mg "CascadeError" = some (.ref (He.ga K "CascadeError")) := by
  obtain ⟨h, X, G, c⟩ := T.ex
  exact He.glo_ok X G (c.fact 0)
theorem Tx.g_BadResult : mg "BadResult" = some (.ref (He.ga K "BadResult")) := by
  obtain ⟨h, X, G, c⟩ := T.ex
  exact He.glo_ok X G (c.fact 1)
theorem Tx.g_BadReach : mg "BadReach" = some (.ref (He.ga K "BadReach")) := by
  obtain ⟨h, X, G, c⟩ := T.ex
  exact He.glo_ok X G (c.fact 2)
theorem Tx.g_cut : mg "cut" = some (.ref (He.ga K "cut")) := by
  obtain ⟨h, X, G, c⟩ := T.ex
  exact He.glo_ok X G (c.fact 3)
theorem Tx.g_greater : mg "greater" = some (.ref (He.ga K "greater")) := by
  obtain ⟨h, X, G, c⟩ := T.ex
  exact He.glo_ok X G (c.fact 4)
theorem Tx.g_core : mg "core" = some (.ref (He.ga K "core")) := by
  obtain ⟨h, X, G, c⟩ := T.ex
  exact He.glo_ok X G (c.fact 5)
theorem Tx.g_all_cores : mg "all_cores" = some (.ref (He.ga K "all_cores")) := by
  obtain ⟨h, X, G, c⟩ := T.ex
  exact He.glo_ok X G (c.fact 6)
theorem Tx.g_result_of : mg "result_of" = some (.ref (He.ga K "result_of")) := by
  obtain ⟨h, X, G, c⟩ := T.ex
  exact He.glo_ok X G (c.fact 7)
theorem Tx.g_split_at : mg "split_at" = some (.ref (He.ga K "split_at")) := by
  obtain ⟨h, X, G, c⟩ := T.ex
  exact He.glo_ok X G (c.fact 8)
theorem Tx.g_is_whole : mg "is_whole" = some (.ref (He.ga K "is_whole")) := by
  obtain ⟨h, X, G, c⟩ := T.ex
  exact He.glo_ok X G (c.fact 9)
theorem Tx.g_least_reach : mg "least_reach" = some (.ref (He.ga K "least_reach")) := by
  obtain ⟨h, X, G, c⟩ := T.ex
  exact He.glo_ok X G (c.fact 10)
theorem Tx.g_Results : mg "Results" = some (.ref (He.ga K "Results")) := by
  obtain ⟨h, X, G, c⟩ := T.ex
  exact He.glo_ok X G (c.fact 11)
theorem Tx.g_law_pool : mg "_law_pool" = some (.ref (He.ga K "_law_pool")) := by
  obtain ⟨h, X, G, c⟩ := T.ex
  exact He.glo_ok X G (c.fact 12)
theorem Tx.g_law_take : mg "_law_take" = some (.ref (He.ga K "_law_take")) := by
  obtain ⟨h, X, G, c⟩ := T.ex
  exact He.glo_ok X G (c.fact 13)
theorem Tx.g_law_one : mg "_law_one" = some (.ref (He.ga K "_law_one")) := by
  obtain ⟨h, X, G, c⟩ := T.ex
  exact He.glo_ok X G (c.fact 14)
theorem Tx.g_law_core : mg "_law_core" = some (.ref (He.ga K "_law_core")) := by
  obtain ⟨h, X, G, c⟩ := T.ex
  exact He.glo_ok X G (c.fact 15)
theorem Tx.g_law_all : mg "_law_all" = some (.ref (He.ga K "_law_all")) := by
  obtain ⟨h, X, G, c⟩ := T.ex
  exact He.glo_ok X G (c.fact 16)
theorem Tx.g_law_members : mg "_law_members" = some (.ref (He.ga K "_law_members")) := by
  obtain ⟨h, X, G, c⟩ := T.ex
  exact He.glo_ok X G (c.fact 17)
theorem Tx.g_law_lifted : mg "_law_lifted" = some (.ref (He.ga K "_law_lifted")) := by
  obtain ⟨h, X, G, c⟩ := T.ex
  exact He.glo_ok X G (c.fact 18)
theorem Tx.g_law_drawn : mg "_law_drawn" = some (.ref (He.ga K "_law_drawn")) := by
  obtain ⟨h, X, G, c⟩ := T.ex
  exact He.glo_ok X G (c.fact 19)
theorem Tx.g_law_some : mg "_law_some" = some (.ref (He.ga K "_law_some")) := by
  obtain ⟨h, X, G, c⟩ := T.ex
  exact He.glo_ok X G (c.fact 20)
theorem Tx.g_law_least : mg "_law_least" = some (.ref (He.ga K "_law_least")) := by
  obtain ⟨h, X, G, c⟩ := T.ex
  exact He.glo_ok X G (c.fact 21)
theorem Tx.g_law : mg "law" = some (.ref (He.ga K "law")) := by
  obtain ⟨h, X, G, c⟩ := T.ex
  exact He.glo_ok X G (c.fact 22)
theorem Tx.f_ValueError : mg "ValueError" = none := by
  obtain ⟨h, X, G, c⟩ := T.ex
  exact He.free_ok X G (c.fact 23)
theorem Tx.f_bool : mg "bool" = none := by
  obtain ⟨h, X, G, c⟩ := T.ex
  exact He.free_ok X G (c.fact 24)
theorem Tx.f_enumerate : mg "enumerate" = none := by
  obtain ⟨h, X, G, c⟩ := T.ex
  exact He.free_ok X G (c.fact 25)
theorem Tx.f_int : mg "int" = none := by
  obtain ⟨h, X, G, c⟩ := T.ex
  exact He.free_ok X G (c.fact 26)
theorem Tx.f_isinstance : mg "isinstance" = none := by
  obtain ⟨h, X, G, c⟩ := T.ex
  exact He.free_ok X G (c.fact 27)
theorem Tx.f_len : mg "len" = none := by
  obtain ⟨h, X, G, c⟩ := T.ex
  exact He.free_ok X G (c.fact 28)
theorem Tx.f_max : mg "max" = none := by
  obtain ⟨h, X, G, c⟩ := T.ex
  exact He.free_ok X G (c.fact 29)
theorem Tx.f_min : mg "min" = none := by
  obtain ⟨h, X, G, c⟩ := T.ex
  exact He.free_ok X G (c.fact 30)
theorem Tx.f_property : mg "property" = none := by
  obtain ⟨h, X, G, c⟩ := T.ex
  exact He.free_ok X G (c.fact 31)
theorem Tx.f_range : mg "range" = none := by
  obtain ⟨h, X, G, c⟩ := T.ex
  exact He.free_ok X G (c.fact 32)
theorem Tx.f_staticmethod : mg "staticmethod" = none := by
  obtain ⟨h, X, G, c⟩ := T.ex
  exact He.free_ok X G (c.fact 33)
theorem Tx.f_tuple : mg "tuple" = none := by
  obtain ⟨h, X, G, c⟩ := T.ex
  exact He.free_ok X G (c.fact 34)
theorem Tx.v_MOST_REACH : ∃ t, mg "MOST_REACH" = some (.int 60 t) := by
  obtain ⟨h, X, G, c⟩ := T.ex
  exact He.int_ok X G (c.fact 35)
theorem Tx.x_BadResult : ExcK K (He.ga K "BadResult") := by
  obtain ⟨h, X, G, c⟩ := T.ex
  exact exc_ok (c.fact 36)
theorem Tx.n_BadResult_index : NoAttr K (He.ga K "BadResult") "index" := by
  obtain ⟨h, X, G, c⟩ := T.ex
  exact He.noat_ok (x := "BadResult") (c.fact 37)
theorem Tx.x_BadReach : ExcK K (He.ga K "BadReach") := by
  obtain ⟨h, X, G, c⟩ := T.ex
  exact exc_ok (c.fact 38)
theorem Tx.n_BadReach_number : NoAttr K (He.ga K "BadReach") "number" := by
  obtain ⟨h, X, G, c⟩ := T.ex
  exact He.noat_ok (x := "BadReach") (c.fact 39)
theorem Tx.c_Results : Cls K (He.ga K "Results") := by
  obtain ⟨h, X, G, c⟩ := T.ex
  exact He.cls_ok (x := "Results") (c.fact 40)
theorem Tx.k_Results : Mk K (He.ga K "Results") (a_Results_init K) := by
  obtain ⟨h, X, G, c⟩ := T.ex
  exact He.mkr_ok (x := "Results") (c.fact 41)
theorem Tx.i_Results : IsC K (He.ga K "Results") := by
  obtain ⟨h, X, G, c⟩ := T.ex
  exact is_ok (c.fact 42)
theorem Tx.r_Results : ClX.CRead K (He.ga K "Results") (.type "type") := by
  obtain ⟨h, X, G, c⟩ := T.ex
  exact cread_ok (c.fact 43)
theorem Tx.sf_Results : PySem.W.selfFirst K (He.ga K "Results") = true := by
  obtain ⟨h, X, G, c⟩ := T.ex
  exact (c.fact 44)
theorem Tx.ns_Results : PySem.W.noSeq K (He.ga K "Results") = true := by
  obtain ⟨h, X, G, c⟩ := T.ex
  exact (c.fact 45)
theorem Tx.is_Results : PySem.W.kitOne K (.ref (He.ga K "Results")) (.ref (He.ga K "Results")) = some true := by
  obtain ⟨h, X, G, c⟩ := T.ex
  exact ki_ok (c.fact 46)
theorem Tx.n_Results_span : NoAttr K (He.ga K "Results") "span" := by
  obtain ⟨h, X, G, c⟩ := T.ex
  exact He.noat_ok (x := "Results") (c.fact 47)
theorem Tx.n_Results_kept : NoAttr K (He.ga K "Results") "kept" := by
  obtain ⟨h, X, G, c⟩ := T.ex
  exact He.noat_ok (x := "Results") (c.fact 48)
theorem Tx.n_Results_known : NoAttr K (He.ga K "Results") "known" := by
  obtain ⟨h, X, G, c⟩ := T.ex
  exact He.noat_ok (x := "Results") (c.fact 49)
theorem Tx.m_Results_init : Meth K (He.ga K "Results") "__init__" (a_Results_init K) := by
  obtain ⟨h, X, G, c⟩ := T.ex
  exact He.meth_ok (x := "Results") (c.fact 50)
theorem Tx.sm_Results_every : SMet K (He.ga K "Results") (.type "type") "every" (He.ma K (He.ga K "Results") "every") (a_Results_every K) := by
  obtain ⟨h, X, G, c⟩ := T.ex
  exact sm_ok (c.fact 51)
theorem Tx.sm_Results_none : SMet K (He.ga K "Results") (.type "type") "none" (He.ma K (He.ga K "Results") "none") (a_Results_none K) := by
  obtain ⟨h, X, G, c⟩ := T.ex
  exact sm_ok (c.fact 52)
theorem Tx.p_Results_reach : PropOf K (He.ga K "Results") "reach" (He.ma K (He.ga K "Results") "reach") (a_Results_reach K) := by
  obtain ⟨h, X, G, c⟩ := T.ex
  exact prop_ok (c.fact 53)
theorem Tx.p_Results_cores : PropOf K (He.ga K "Results") "cores" (He.ma K (He.ga K "Results") "cores") (a_Results_cores K) := by
  obtain ⟨h, X, G, c⟩ := T.ex
  exact prop_ok (c.fact 54)
theorem Tx.m_Results_bool : Meth K (He.ga K "Results") "__bool__" (a_Results_bool K) := by
  obtain ⟨h, X, G, c⟩ := T.ex
  exact He.meth_ok (x := "Results") (c.fact 55)
theorem Tx.m_Results_contains : Meth K (He.ga K "Results") "__contains__" (a_Results_contains K) := by
  obtain ⟨h, X, G, c⟩ := T.ex
  exact He.meth_ok (x := "Results") (c.fact 56)
theorem Tx.m_Results_eq : Meth K (He.ga K "Results") "__eq__" (a_Results_eq K) := by
  obtain ⟨h, X, G, c⟩ := T.ex
  exact He.meth_ok (x := "Results") (c.fact 57)
theorem Tx.m_Results_le : Meth K (He.ga K "Results") "__le__" (a_Results_le K) := by
  obtain ⟨h, X, G, c⟩ := T.ex
  exact He.meth_ok (x := "Results") (c.fact 58)
theorem Tx.m_Results_or : Meth K (He.ga K "Results") "__or__" (a_Results_or K) := by
  obtain ⟨h, X, G, c⟩ := T.ex
  exact He.meth_ok (x := "Results") (c.fact 59)
theorem Tx.m_Results_and : Meth K (He.ga K "Results") "__and__" (a_Results_and K) := by
  obtain ⟨h, X, G, c⟩ := T.ex
  exact He.meth_ok (x := "Results") (c.fact 60)
theorem Tx.m_Results_sub : Meth K (He.ga K "Results") "__sub__" (a_Results_sub K) := by
  obtain ⟨h, X, G, c⟩ := T.ex
  exact He.meth_ok (x := "Results") (c.fact 61)
theorem Tx.m_Results_xor : Meth K (He.ga K "Results") "__xor__" (a_Results_xor K) := by
  obtain ⟨h, X, G, c⟩ := T.ex
  exact He.meth_ok (x := "Results") (c.fact 62)
theorem Tx.m_Results_invert : Meth K (He.ga K "Results") "__invert__" (a_Results_invert K) := by
  obtain ⟨h, X, G, c⟩ := T.ex
  exact He.meth_ok (x := "Results") (c.fact 63)
theorem Tx.m_Results_least : Meth K (He.ga K "Results") "least" (a_Results_least K) := by
  obtain ⟨h, X, G, c⟩ := T.ex
  exact He.meth_ok (x := "Results") (c.fact 64)
theorem Tx.m_Results_flipped : Meth K (He.ga K "Results") "flipped" (a_Results_flipped K) := by
  obtain ⟨h, X, G, c⟩ := T.ex
  exact He.meth_ok (x := "Results") (c.fact 65)
theorem Tx.d_BadResult_init : ∃ fd, FunD K "__init__" "BadResult.__init__" (defArgs s_BadResult_init) (defBody s_BadResult_init) (defScope s_BadResult_init) [] [] (a_BadResult_init K) fd := by
  obtain ⟨h, X, G, c⟩ := T.ex
  exact c.def_ 0
theorem Tx.d_BadReach_init : ∃ fd, FunD K "__init__" "BadReach.__init__" (defArgs s_BadReach_init) (defBody s_BadReach_init) (defScope s_BadReach_init) [] [] (a_BadReach_init K) fd := by
  obtain ⟨h, X, G, c⟩ := T.ex
  exact c.def_ 1
theorem Tx.d_cut : ∃ fd, FunD K "cut" "cut" (defArgs s_cut) (defBody s_cut) (defScope s_cut) [] [] (a_cut K) fd := by
  obtain ⟨h, X, G, c⟩ := T.ex
  exact c.def_ 2
theorem Tx.d_greater : ∃ fd, FunD K "greater" "greater" (defArgs s_greater) (defBody s_greater) (defScope s_greater) [] [] (a_greater K) fd := by
  obtain ⟨h, X, G, c⟩ := T.ex
  exact c.def_ 3
theorem Tx.d_core : ∃ fd, FunD K "core" "core" (defArgs s_core) (defBody s_core) (defScope s_core) [] [] (a_core K) fd := by
  obtain ⟨h, X, G, c⟩ := T.ex
  exact c.def_ 4
theorem Tx.d_all_cores : ∃ fd, FunD K "all_cores" "all_cores" (defArgs s_all_cores) (defBody s_all_cores) (defScope s_all_cores) [] [] (a_all_cores K) fd := by
  obtain ⟨h, X, G, c⟩ := T.ex
  exact c.def_ 5
theorem Tx.d_result_of : ∃ fd, FunD K "result_of" "result_of" (defArgs s_result_of) (defBody s_result_of) (defScope s_result_of) [] [] (a_result_of K) fd := by
  obtain ⟨h, X, G, c⟩ := T.ex
  exact c.def_ 6
theorem Tx.d_split_at : ∃ fd, FunD K "split_at" "split_at" (defArgs s_split_at) (defBody s_split_at) (defScope s_split_at) [] [] (a_split_at K) fd := by
  obtain ⟨h, X, G, c⟩ := T.ex
  exact c.def_ 7
theorem Tx.d_is_whole : ∃ fd, FunD K "is_whole" "is_whole" (defArgs s_is_whole) (defBody s_is_whole) (defScope s_is_whole) [] [] (a_is_whole K) fd := by
  obtain ⟨h, X, G, c⟩ := T.ex
  exact c.def_ 8
theorem Tx.d_least_reach : ∃ fd, FunD K "least_reach" "least_reach" (defArgs s_least_reach) (defBody s_least_reach) (defScope s_least_reach) [] [] (a_least_reach K) fd := by
  obtain ⟨h, X, G, c⟩ := T.ex
  exact c.def_ 9
theorem Tx.d_Results_init : ∃ fd, FunD K "__init__" "Results.__init__" (defArgs s_Results_init) (defBody s_Results_init) (defScope s_Results_init) [] [] (a_Results_init K) fd := by
  obtain ⟨h, X, G, c⟩ := T.ex
  exact c.def_ 10
theorem Tx.d_Results_every : ∃ fd, FunD K "every" "Results.every" (defArgs s_Results_every) (defBody s_Results_every) (defScope s_Results_every) [] [] (a_Results_every K) fd := by
  obtain ⟨h, X, G, c⟩ := T.ex
  exact c.def_ 11
theorem Tx.d_Results_none : ∃ fd, FunD K "none" "Results.none" (defArgs s_Results_none) (defBody s_Results_none) (defScope s_Results_none) [] [] (a_Results_none K) fd := by
  obtain ⟨h, X, G, c⟩ := T.ex
  exact c.def_ 12
theorem Tx.d_Results_reach : ∃ fd, FunD K "reach" "Results.reach" (defArgs s_Results_reach) (defBody s_Results_reach) (defScope s_Results_reach) [] [] (a_Results_reach K) fd := by
  obtain ⟨h, X, G, c⟩ := T.ex
  exact c.def_ 13
theorem Tx.d_Results_cores : ∃ fd, FunD K "cores" "Results.cores" (defArgs s_Results_cores) (defBody s_Results_cores) (defScope s_Results_cores) [] [] (a_Results_cores K) fd := by
  obtain ⟨h, X, G, c⟩ := T.ex
  exact c.def_ 14
theorem Tx.d_Results_bool : ∃ fd, FunD K "__bool__" "Results.__bool__" (defArgs s_Results_bool) (defBody s_Results_bool) (defScope s_Results_bool) [] [] (a_Results_bool K) fd := by
  obtain ⟨h, X, G, c⟩ := T.ex
  exact c.def_ 15
theorem Tx.d_Results_contains : ∃ fd, FunD K "__contains__" "Results.__contains__" (defArgs s_Results_contains) (defBody s_Results_contains) (defScope s_Results_contains) [] [] (a_Results_contains K) fd := by
  obtain ⟨h, X, G, c⟩ := T.ex
  exact c.def_ 16
theorem Tx.d_Results_eq : ∃ fd, FunD K "__eq__" "Results.__eq__" (defArgs s_Results_eq) (defBody s_Results_eq) (defScope s_Results_eq) [] [] (a_Results_eq K) fd := by
  obtain ⟨h, X, G, c⟩ := T.ex
  exact c.def_ 17
theorem Tx.d_Results_le : ∃ fd, FunD K "__le__" "Results.__le__" (defArgs s_Results_le) (defBody s_Results_le) (defScope s_Results_le) [] [] (a_Results_le K) fd := by
  obtain ⟨h, X, G, c⟩ := T.ex
  exact c.def_ 18
theorem Tx.d_Results_or : ∃ fd, FunD K "__or__" "Results.__or__" (defArgs s_Results_or) (defBody s_Results_or) (defScope s_Results_or) [] [] (a_Results_or K) fd := by
  obtain ⟨h, X, G, c⟩ := T.ex
  exact c.def_ 19
theorem Tx.d_Results_and : ∃ fd, FunD K "__and__" "Results.__and__" (defArgs s_Results_and) (defBody s_Results_and) (defScope s_Results_and) [] [] (a_Results_and K) fd := by
  obtain ⟨h, X, G, c⟩ := T.ex
  exact c.def_ 20
theorem Tx.d_Results_sub : ∃ fd, FunD K "__sub__" "Results.__sub__" (defArgs s_Results_sub) (defBody s_Results_sub) (defScope s_Results_sub) [] [] (a_Results_sub K) fd := by
  obtain ⟨h, X, G, c⟩ := T.ex
  exact c.def_ 21
theorem Tx.d_Results_xor : ∃ fd, FunD K "__xor__" "Results.__xor__" (defArgs s_Results_xor) (defBody s_Results_xor) (defScope s_Results_xor) [] [] (a_Results_xor K) fd := by
  obtain ⟨h, X, G, c⟩ := T.ex
  exact c.def_ 22
theorem Tx.d_Results_invert : ∃ fd, FunD K "__invert__" "Results.__invert__" (defArgs s_Results_invert) (defBody s_Results_invert) (defScope s_Results_invert) [] [] (a_Results_invert K) fd := by
  obtain ⟨h, X, G, c⟩ := T.ex
  exact c.def_ 23
theorem Tx.d_Results_least : ∃ fd, FunD K "least" "Results.least" (defArgs s_Results_least) (defBody s_Results_least) (defScope s_Results_least) [] [] (a_Results_least K) fd := by
  obtain ⟨h, X, G, c⟩ := T.ex
  exact c.def_ 24
theorem Tx.d_Results_flipped : ∃ fd, FunD K "flipped" "Results.flipped" (defArgs s_Results_flipped) (defBody s_Results_flipped) (defScope s_Results_flipped) [] [] (a_Results_flipped K) fd := by
  obtain ⟨h, X, G, c⟩ := T.ex
  exact c.def_ 25
theorem Tx.d_law_pool : ∃ fd, FunD K "_law_pool" "_law_pool" (defArgs s_law_pool) (defBody s_law_pool) (defScope s_law_pool) [] [] (a_law_pool K) fd := by
  obtain ⟨h, X, G, c⟩ := T.ex
  exact c.def_ 26
theorem Tx.d_law_take : ∃ fd, FunD K "_law_take" "_law_take" (defArgs s_law_take) (defBody s_law_take) (defScope s_law_take) [] [] (a_law_take K) fd := by
  obtain ⟨h, X, G, c⟩ := T.ex
  exact c.def_ 27
theorem Tx.d_law_one : ∃ fd, FunD K "_law_one" "_law_one" (defArgs s_law_one) (defBody s_law_one) (defScope s_law_one) [] [] (a_law_one K) fd := by
  obtain ⟨h, X, G, c⟩ := T.ex
  exact c.def_ 28
theorem Tx.d_law_core : ∃ fd, FunD K "_law_core" "_law_core" (defArgs s_law_core) (defBody s_law_core) (defScope s_law_core) [] [] (a_law_core K) fd := by
  obtain ⟨h, X, G, c⟩ := T.ex
  exact c.def_ 29
theorem Tx.d_law_all : ∃ fd, FunD K "_law_all" "_law_all" (defArgs s_law_all) (defBody s_law_all) (defScope s_law_all) [] [] (a_law_all K) fd := by
  obtain ⟨h, X, G, c⟩ := T.ex
  exact c.def_ 30
theorem Tx.d_law_members : ∃ fd, FunD K "_law_members" "_law_members" (defArgs s_law_members) (defBody s_law_members) (defScope s_law_members) [] [] (a_law_members K) fd := by
  obtain ⟨h, X, G, c⟩ := T.ex
  exact c.def_ 31
theorem Tx.d_law_lifted : ∃ fd, FunD K "_law_lifted" "_law_lifted" (defArgs s_law_lifted) (defBody s_law_lifted) (defScope s_law_lifted) [] [] (a_law_lifted K) fd := by
  obtain ⟨h, X, G, c⟩ := T.ex
  exact c.def_ 32
theorem Tx.d_law_drawn : ∃ fd, FunD K "_law_drawn" "_law_drawn" (defArgs s_law_drawn) (defBody s_law_drawn) (defScope s_law_drawn) [] [] (a_law_drawn K) fd := by
  obtain ⟨h, X, G, c⟩ := T.ex
  exact c.def_ 33
theorem Tx.d_law_some : ∃ fd, FunD K "_law_some" "_law_some" (defArgs s_law_some) (defBody s_law_some) (defScope s_law_some) [] [] (a_law_some K) fd := by
  obtain ⟨h, X, G, c⟩ := T.ex
  exact c.def_ 34
theorem Tx.d_law_least : ∃ fd, FunD K "_law_least" "_law_least" (defArgs s_law_least) (defBody s_law_least) (defScope s_law_least) [] [] (a_law_least K) fd := by
  obtain ⟨h, X, G, c⟩ := T.ex
  exact c.def_ 35
theorem Tx.d_law : ∃ fd, FunD K "law" "law" (defArgs s_law) (defBody s_law) (defScope s_law) [] [] (a_law K) fd := by
  obtain ⟨h, X, G, c⟩ := T.ex
  exact c.def_ 36
end
def names0 : List Str := ["_wall", "CascadeError", "BadResult", "BadReach", "MOST_REACH", "cut", "greater", "core", "all_cores", "result_of", "split_at", "is_whole", "least_reach", "Results", "_law_pool", "_law_take", "_law_one", "_law_core", "_law_all", "_law_members"]
def names1 : List Str := ["_law_lifted", "_law_drawn", "_law_some", "_law_least"]
def names : List Str := names0 ++ names1
abbrev lawAt : Nat := 27
end Lv

set_option linter.all false
set_option maxRecDepth 100000
/-! Cores of results, sets of them: plain. -/
namespace Rs
abbrev Pr := Int × Int
def cutI (n m : Int) : Int := if n < m then n else m
def core (p : Pr) (r : Int) : Pr := if p.2 ≤ p.1 then (cutI p.2 r + cutI (p.1 - p.2) r, cutI p.2 r) else (cutI p.1 r, cutI p.1 r + cutI (p.2 - p.1) r)
def nn (p : Pr) : Prop := 0 ≤ p.1 ∧ 0 ≤ p.2
def isC (r : Int) (p : Pr) : Prop := nn p ∧ (p.1 ≤ r ∨ p.2 ≤ r) ∧ p.1 - p.2 ≤ r ∧ p.2 - p.1 ≤ r
theorem isC_core {p : Pr} {r : Int} (h : nn p) (hr : 0 ≤ r) : isC r (core p r) := by
  unfold nn at h
  unfold isC nn core cutI
  split <;> split <;> split <;> simp only [] <;> omega
theorem core_isC {p : Pr} {r : Int} (h : isC r p) : core p r = p := by
  obtain ⟨a, b⟩ := p
  unfold isC nn at h
  unfold core cutI
  simp only [] at *
  split <;> split <;> split <;> (apply Prod.ext <;> simp only [] <;> omega)
theorem core_core {p : Pr} {r t : Int} (h : nn p) (ht : 0 ≤ t) (hr : t ≤ r) : core (core p r) t = core p t := by
  obtain ⟨a, b⟩ := p
  unfold nn at h
  unfold core cutI
  simp only [] at *
  by_cases c : b ≤ a
  · rw [if_pos c, if_pos c]
    simp only []
    (repeat' split) <;> (apply Prod.ext <;> simp only [] <;> omega)
  · rw [if_neg c, if_neg c]
    simp only []
    (repeat' split) <;> (apply Prod.ext <;> simp only [] <;> omega)
theorem isC_mono {p : Pr} {r t : Int} (h : isC t p) (hr : t ≤ r) : isC r p := by
  unfold isC nn at *
  omega
/-- all cores, as the program lists them -/
def lowI (r h : Nat) : Nat := if r < h then h - r else 0
def highI (r h : Nat) : Nat := if r < h then r else h + r
def allC (r : Nat) : List Pr := (List.range (2 * r + 1)).flatMap fun h => (List.range (highI r h + 1 - lowI r h)).map fun j => ((h : Int), ((lowI r h + j : Nat) : Int))
theorem mem_allC {r : Nat} {p : Pr} : p ∈ allC r ↔ isC r p := by
  obtain ⟨a, b⟩ := p
  unfold allC isC nn
  simp only [List.mem_flatMap, List.mem_range, List.mem_map, Prod.mk.injEq]
  constructor
  · rintro ⟨h, hh, j, hj, rfl, rfl⟩
    unfold lowI highI at *
    split at hj <;> (try simp only [*, if_true, if_false]) <;> omega
  · rintro ⟨⟨h1, h2⟩, h3, h4, h5⟩
    refine ⟨a.toNat, by omega, b.toNat - lowI r a.toNat, ?_, by omega, ?_⟩
    · unfold lowI highI
      split <;> omega
    · unfold lowI
      split <;> omega
/-- those of reach t whose core at t - 1 is b -/
def resOf (l d : Int) : Pr := if d ≥ 0 then (l + d, l) else (l, l - d)
def near (b : Pr) : List Pr := (let l := if b.2 < b.1 then b.2 else b.1; ([0, 1] : List Int).flatMap fun m => ([-1, 0, 1] : List Int).map fun t => resOf (l + m) (b.1 - b.2 + t))
def splitC (b : Pr) (t : Int) : List Pr := (near b).filter fun x => decide (core x t = x) && decide (core x (t - 1) = b)
theorem mem_splitC {b x : Pr} {t : Int} (ht : 1 ≤ t) (hb : isC (t - 1) b) : x ∈ splitC b t ↔ isC t x ∧ core x (t - 1) = b := by
  unfold splitC
  rw [List.mem_filter, Bool.and_eq_true, decide_eq_true_iff, decide_eq_true_iff]
  constructor
  · rintro ⟨h1, h2, h3⟩
    have hx : nn x := by
      unfold near at h1
      simp only [List.mem_flatMap, List.mem_map, List.mem_cons, List.not_mem_nil, or_false] at h1
      obtain ⟨m, hm, q, hq, rfl⟩ := h1
      unfold isC nn at hb
      unfold nn resOf
      obtain ⟨b1, b2⟩ := b
      simp only [] at *
      split <;> split <;> simp only [] <;> omega
    exact ⟨by rw [← h2]; exact isC_core hx (by omega), h3⟩
  · rintro ⟨h1, h2⟩
    refine ⟨?_, core_isC h1, h2⟩
    obtain ⟨a1, a2⟩ := x
    obtain ⟨b1, b2⟩ := b
    unfold isC nn at hb h1
    unfold near
    simp only [List.mem_flatMap, List.mem_map, List.mem_cons, List.not_mem_nil, or_false]
    simp only [] at *
    unfold core cutI at h2
    simp only [] at h2
    refine ⟨(if a2 < a1 then a2 else a1) - (if b2 < b1 then b2 else b1), ?_, a1 - a2 - (b1 - b2), ?_, ?_⟩
    · (repeat' split at h2) <;> (have e1 := congrArg Prod.fst h2; have e2 := congrArg Prod.snd h2; simp only [] at e1 e2; split <;> split <;> omega)
    · (repeat' split at h2) <;> (have e1 := congrArg Prod.fst h2; have e2 := congrArg Prod.snd h2; simp only [] at e1 e2; omega)
    · unfold resOf
      apply Prod.ext <;> (split <;> simp only [] <;> split <;> split <;> omega)
/-- the set is all or nothing at b -/
def whole (S : Pr → Bool) (b : Pr) (t : Int) : Bool := !((splitC b t).map S).contains true || !((splitC b t).map S).contains false
theorem whole_iff {S : Pr → Bool} {b : Pr} {t : Int} : whole S b t = true ↔ ∀ x ∈ splitC b t, ∀ y ∈ splitC b t, S x = S y := by
  unfold whole
  rw [Bool.or_eq_true, Bool.not_eq_true', Bool.not_eq_true', ← Bool.not_eq_true, ← Bool.not_eq_true, List.contains_iff_mem, List.contains_iff_mem]
  simp only [List.mem_map]
  constructor
  · rintro (h | h) x hx y hy
    · have h1 : S x = false := by cases q : S x with
        | false => rfl
        | true => exact absurd ⟨x, hx, q⟩ h
      have h2 : S y = false := by cases q : S y with
        | false => rfl
        | true => exact absurd ⟨y, hy, q⟩ h
      rw [h1, h2]
    · have h1 : S x = true := by cases q : S x with
        | true => rfl
        | false => exact absurd ⟨x, hx, q⟩ h
      have h2 : S y = true := by cases q : S y with
        | true => rfl
        | false => exact absurd ⟨y, hy, q⟩ h
      rw [h1, h2]
  · intro h
    by_cases c : ∃ a, a ∈ splitC b t ∧ S a = true
    · right
      rintro ⟨y, hy, e⟩
      obtain ⟨x, hx, e2⟩ := c
      have := h x hx y hy
      rw [e, e2] at this
      cases this
    · exact .inl c
def least (S : Pr → Bool) : Nat → Nat
  | 0 => 0
  | t + 1 => if (allC t).all (fun b => whole S b ((t + 1 : Nat) : Int)) = true then least S t else t + 1
theorem least_le (S : Pr → Bool) : ∀ r, least S r ≤ r
  | 0 => Nat.le_refl _
  | t + 1 => by
    unfold least
    split
    · exact Nat.le_trans (least_le S t) (Nat.le_succ _)
    · exact Nat.le_refl _
theorem least_spec {S : Pr → Bool} {x : Pr} (hx : nn x) : ∀ r : Nat, S (core x (least S r : Nat)) = S (core x (r : Nat))
  | 0 => rfl
  | t + 1 => by
    unfold least
    split
    · rename_i h
      rw [least_spec (S := S) hx t]
      have c1 : isC ((t : Nat) : Int) (core x (t : Nat)) := isC_core hx (by omega)
      have hw := whole_iff.mp (List.all_eq_true.mp h _ (mem_allC.mpr c1))
      refine hw _ ((mem_splitC (by omega) (by rw [show (((t + 1 : Nat) : Int) - 1) = ((t : Nat) : Int) by omega]; exact c1)).mpr ?_) _ ((mem_splitC (by omega) (by rw [show (((t + 1 : Nat) : Int) - 1) = ((t : Nat) : Int) by omega]; exact c1)).mpr ?_)
      · rw [show (((t + 1 : Nat) : Int) - 1) = ((t : Nat) : Int) by omega]
        exact ⟨isC_mono c1 (by omega), core_isC c1⟩
      · rw [show (((t + 1 : Nat) : Int) - 1) = ((t : Nat) : Int) by omega]
        exact ⟨isC_core hx (by omega), core_core hx (by omega) (by omega)⟩
    · rfl
/-- the cores that are kept of the members -/
def givenS (ms : List Pr) (r : Nat) : Pr → Bool := fun p => decide (p ∈ ms.map fun m => core m r)
def span (ms : List Pr) (r : Nat) : Nat := least (givenS ms r) r
def kept (ms : List Pr) (r : Nat) : List Pr := (allC (span ms r)).filter (givenS ms r)
theorem mem_kept {ms : List Pr} {r : Nat} {x : Pr} (hx : nn x) : core x (span ms r) ∈ kept ms r ↔ core x r ∈ ms.map fun m => core m r := by
  unfold kept
  rw [List.mem_filter]
  have h1 : core x (span ms r) ∈ allC (span ms r) := mem_allC.mpr (isC_core hx (by omega))
  have h2 := least_spec (S := givenS ms r) hx r
  have h3 : givenS ms r (core x (span ms r)) = givenS ms r (core x r) := h2
  rw [h3]
  unfold givenS
  rw [decide_eq_true_iff]
  exact ⟨fun h => h.2, fun h => ⟨h1, h⟩⟩
theorem allC_len (r : Nat) (h : r ≤ 60) : (allC r).length ≤ 121 * 121 := by
  unfold allC
  have key : ∀ l : List Nat, (l.flatMap fun h => (List.range (highI r h + 1 - lowI r h)).map fun j => ((h : Int), ((lowI r h + j : Nat) : Int))).length ≤ l.length * (2 * r + 1) := by
    intro l
    induction l with
    | nil => simp
    | cons x l ih =>
      rw [List.flatMap_cons, List.length_append, List.length_map, List.length_range, List.length_cons, Nat.succ_mul]
      have : highI r x + 1 - lowI r x ≤ 2 * r + 1 := by unfold highI lowI; split <;> omega
      omega
  have h1 := key (List.range (2 * r + 1))
  rw [List.length_range] at h1
  exact Nat.le_trans h1 (Nat.mul_le_mul (by omega) (by omega))
end Rs

set_option linter.all false
set_option maxRecDepth 100000
/-! Sets of results in their least form: plain. -/
namespace Rs
/-- s and ks are the least form of the set M -/
structure IsR (s : Nat) (ks : List Pr) (M : Pr → Prop) : Prop where
  le : s ≤ 60
  ex : ∃ (ms : List Pr) (r : Nat), r ≤ 60 ∧ (∀ p ∈ ms, nn p) ∧ s = span ms r ∧ ks = kept ms r ∧ ∀ p, nn p → (core p r ∈ ms.map (fun m => core m r) ↔ M p)
theorem isR_of {ms : List Pr} {r : Nat} {M : Pr → Prop} (hr : r ≤ 60) (all : ∀ p ∈ ms, nn p) (h : ∀ p, nn p → (core p r ∈ ms.map (fun m => core m r) ↔ M p)) : IsR (span ms r) (kept ms r) M :=
  ⟨Nat.le_trans (least_le _ _) hr, ms, r, hr, all, rfl, rfl, h⟩
section
variable {s s' : Nat} {ks ks' : List Pr} {M M' : Pr → Prop}
theorem IsR.mem (h : IsR s ks M) {p : Pr} (hp : nn p) : core p s ∈ ks ↔ M p := by
  obtain ⟨ms, r, hr, all, rfl, rfl, hM⟩ := h.ex
  rw [mem_kept hp, hM p hp]
theorem nn_core {p : Pr} {t : Nat} (hp : nn p) : nn (core p (t : Nat)) := (isC_core hp (by omega)).1
theorem core_twice {p : Pr} {r t : Nat} (hp : nn p) (h : r ≤ t) : core (core p (t : Nat)) (r : Nat) = core p (r : Nat) := core_core hp (by omega) (by omega)
theorem IsR.at_ (h : IsR s ks M) {p : Pr} (hp : nn p) {t : Nat} (ht : s ≤ t) : M (core p (t : Nat)) ↔ M p := by
  rw [← h.mem hp, ← h.mem (nn_core hp), core_twice hp ht]
/-- no lesser reach will do -/
theorem IsR.min (h : IsR s ks M) {t : Nat} (ht : t < s) : ¬ ∀ p, nn p → (M (core p (t : Nat)) ↔ M p) := by
  obtain ⟨ms, r, hr, all, hs, rfl, hM⟩ := h.ex
  intro F
  have sub : ∀ x : Pr, isC ((r : Nat) : Int) x → (givenS ms r x = true ↔ M x) := fun x hx => by
    unfold givenS
    rw [decide_eq_true_iff, ← hM x hx.1, core_isC hx]
  have key : ∀ n, n ≤ r → least (givenS ms r) n = s → s ≤ n := fun n _ e => by rw [← e]; exact least_le _ _
  have stop : ∀ n : Nat, n ≤ r → t < least (givenS ms r) n → False := by
    intro n
    induction n with
    | zero => intro _ h; unfold least at h; omega
    | succ n ih =>
      intro hn h
      unfold least at h
      split at h
      · exact ih (by omega) h
      · rename_i no
        apply no
        rw [List.all_eq_true]
        intro b hb
        have hbC := mem_allC.mp hb
        rw [whole_iff]
        have one : ∀ x ∈ splitC b ((n + 1 : Nat) : Int), (givenS ms r x = true ↔ M b) := fun x hx => by
          have hx2 := (mem_splitC (by omega) (by rw [show (((n + 1 : Nat) : Int) - 1) = ((n : Nat) : Int) by omega]; exact hbC)).mp hx
          rw [sub x (isC_mono hx2.1 (by omega))]
          have e : core x ((n : Nat) : Int) = b := by
            have := hx2.2
            rw [show (((n + 1 : Nat) : Int) - 1) = ((n : Nat) : Int) by omega] at this
            exact this
          have c := F x hx2.1.1
          have c2 := F b hbC.1
          have e2 : core b ((t : Nat) : Int) = core x ((t : Nat) : Int) := by rw [← e]; exact core_twice hx2.1.1 (by omega)
          rw [e2] at c2
          rw [← c, c2]
        intro x hx y hy
        have h1 := one x hx
        have h2 := one y hy
        rw [Bool.eq_iff_iff, h1, h2]
  exact stop r (Nat.le_refl _) (by rw [show least (givenS ms r) r = span ms r from rfl, ← hs]; exact ht)
theorem IsR.list (h : IsR s ks M) : ∃ f : Pr → Bool, ks = (allC s).filter f ∧ ∀ p, isC ((s : Nat) : Int) p → (f p = true ↔ M p) := by
  obtain ⟨ms, r, hr, all, rfl, rfl, hM⟩ := h.ex
  refine ⟨givenS ms r, rfl, fun p hp => ?_⟩
  have hx := isC_mono hp (show ((span ms r : Nat) : Int) ≤ (r : Nat) from by have := least_le (givenS ms r) r; unfold span; omega)
  unfold givenS
  rw [decide_eq_true_iff, ← hM p hp.1, core_isC hx]
theorem filter_same {l : List Pr} {f g : Pr → Bool} (h : ∀ p ∈ l, f p = g p) : l.filter f = l.filter g := by
  induction l with
  | nil => rfl
  | cons a l ih =>
    rw [List.filter_cons, List.filter_cons, h a List.mem_cons_self, ih fun p hp => h p (List.mem_cons_of_mem _ hp)]
theorem IsR.eq_iff (h : IsR s ks M) (h' : IsR s' ks' M') : (s = s' ∧ ks = ks') ↔ ∀ p, nn p → (M p ↔ M' p) := by
  constructor
  · rintro ⟨rfl, rfl⟩ p hp
    rw [← h.mem hp, ← h'.mem hp]
  · intro e
    have es : s = s' := by
      rcases Nat.lt_trichotomy s s' with c | c | c
      · exact absurd (fun p hp => by rw [← e p hp, ← e _ (nn_core hp)]; exact h.at_ hp (Nat.le_refl _)) (h'.min c)
      · exact c
      · exact absurd (fun p hp => by rw [e p hp, e _ (nn_core hp)]; exact h'.at_ hp (Nat.le_refl _)) (h.min c)
    subst es
    obtain ⟨f, rfl, hf⟩ := h.list
    obtain ⟨g, rfl, hg⟩ := h'.list
    refine ⟨rfl, filter_same fun p hp => ?_⟩
    have hc := mem_allC.mp hp
    rw [Bool.eq_iff_iff, hf p hc, hg p hc, e p hc.1]
theorem IsR.congr (h : IsR s ks M) (e : ∀ p, nn p → (M p ↔ M' p)) : IsR s ks M' := by
  obtain ⟨ms, r, hr, all, h1, h2, hM⟩ := h.ex
  exact ⟨h.le, ms, r, hr, all, h1, h2, fun p hp => (hM p hp).trans (e p hp)⟩
/-- a set told by its cores of a reach -/
theorem isR_filter {r : Nat} {f : Pr → Bool} {M : Pr → Prop} (hr : r ≤ 60) (hf : ∀ p, nn p → (f (core p (r : Nat)) = true ↔ M p)) : IsR (span ((allC r).filter f) r) (kept ((allC r).filter f) r) M := by
  refine isR_of hr (fun p hp => (mem_allC.mp (List.mem_filter.mp hp).1).1) fun p hp => ?_
  rw [← hf p hp, List.mem_map]
  constructor
  · rintro ⟨m, h1, h2⟩
    rw [List.mem_filter] at h1
    rw [core_isC (mem_allC.mp h1.1)] at h2
    rw [← h2]; exact h1.2
  · intro h
    have hc := isC_core hp (show (0 : Int) ≤ (r : Nat) by omega)
    exact ⟨core p (r : Nat), List.mem_filter.mpr ⟨mem_allC.mpr hc, h⟩, core_isC hc⟩
end
end Rs

set_option linter.all false
set_option maxRecDepth 100000
/-! Flipped sets, the least result: plain. -/
namespace Rs
def swap (p : Pr) : Pr := (p.2, p.1)
theorem swap_swap (p : Pr) : swap (swap p) = p := rfl
theorem nn_swap {p : Pr} : nn (swap p) ↔ nn p := ⟨fun h => ⟨h.2, h.1⟩, fun h => ⟨h.2, h.1⟩⟩
theorem core_swap (p : Pr) {r : Int} (h0 : 0 ≤ r) : core (swap p) r = swap (core p r) := by
  obtain ⟨a, b⟩ := p
  unfold core swap cutI
  simp only []
  (repeat' split) <;> (apply Prod.ext <;> simp only [] <;> omega)
theorem isC_swap {p : Pr} {r : Int} : isC r (swap p) ↔ isC r p := by
  obtain ⟨a, b⟩ := p
  unfold isC nn swap
  simp only []
  omega
/-- the first of the fewest goals -/
def leastStep (best : Option Pr) (q : Pr) : Option Pr := match best with
  | none => some q
  | some b => if q.1 + q.2 < b.1 + b.2 then some q else some b
def leastF (l : List Pr) : Option Pr := l.foldl leastStep none
/-- the least by goals, then by home goals -/
def lex (p q : Pr) : Prop := p.1 + p.2 < q.1 + q.2 ∨ (p.1 + p.2 = q.1 + q.2 ∧ p.1 < q.1)
instance (p q : Pr) : Decidable (lex p q) := by unfold lex; infer_instance
def lessStep (best : Option Pr) (q : Pr) : Option Pr := match best with
  | none => some q
  | some b => if lex q b then some q else some b
def lessF (l : List Pr) : Option Pr := l.foldl lessStep none
theorem eq_of (p q : Pr) (h1 : p.1 + p.2 = q.1 + q.2) (h2 : p.1 = q.1) : p = q := Prod.ext h2 (by omega)
theorem lex_trans {a b c : Pr} (h : lex a b) (h' : lex b c) : lex a c := by unfold lex at *; omega
theorem lex_tri (p q : Pr) : p = q ∨ lex p q ∨ lex q p := by
  by_cases c : p.1 + p.2 = q.1 + q.2 ∧ p.1 = q.1
  · exact .inl (eq_of p q c.1 c.2)
  · unfold lex; omega
theorem lex_irr {p q : Pr} (h : lex p q) (h' : lex q p) : False := by unfold lex at *; omega
/-- b is the least among those of A -/
def LeastOf (A : Pr → Prop) (b : Pr) : Prop := A b ∧ ∀ q, A q → q = b ∨ lex b q
theorem LeastOf.uniq {A : Pr → Prop} {b c : Pr} (h : LeastOf A b) (h' : LeastOf A c) : b = c := by
  rcases h.2 c h'.1 with e | e
  · exact e.symm
  · rcases h'.2 b h.1 with e2 | e2
    · exact e2
    · exact (lex_irr e e2).elim
theorem least_fold : ∀ (l : List Pr) (b : Pr), (∀ q ∈ l, b.1 ≤ q.1) → l.Pairwise (fun p q => p.1 ≤ q.1) → ∃ c, l.foldl leastStep (some b) = some c ∧ LeastOf (fun q => q = b ∨ q ∈ l) c
  | [], b, _, _ => ⟨b, rfl, .inl rfl, fun q h => .inl (by simpa using h)⟩
  | q :: l, b, hb, hs => by
    rw [List.pairwise_cons] at hs
    have hq := hb q List.mem_cons_self
    show ∃ c, l.foldl leastStep (if q.1 + q.2 < b.1 + b.2 then some q else some b) = some c ∧ _
    by_cases c : q.1 + q.2 < b.1 + b.2
    · rw [if_pos c]
      obtain ⟨z, h1, h2, h3⟩ := least_fold l q hs.1 hs.2
      refine ⟨z, h1, ?_, fun r hr => ?_⟩
      · rcases h2 with h | h
        · exact .inr (by rw [h]; exact List.mem_cons_self)
        · exact .inr (List.mem_cons_of_mem _ h)
      · rcases hr with rfl | hr
        · rcases h3 q (.inl rfl) with e | e
          · exact .inr (by rw [← e]; exact .inl c)
          · exact .inr (lex_trans e (.inl c))
        · rcases List.mem_cons.mp hr with rfl | hr
          · exact h3 _ (.inl rfl)
          · exact h3 _ (.inr hr)
    · rw [if_neg c]
      obtain ⟨z, h1, h2, h3⟩ := least_fold l b (fun r hr => hb r (List.mem_cons_of_mem _ hr)) hs.2
      refine ⟨z, h1, ?_, fun r hr => ?_⟩
      · rcases h2 with h | h
        · exact .inl h
        · exact .inr (List.mem_cons_of_mem _ h)
      · have key : q = b ∨ lex b q := by
          rcases lex_tri q b with e | e | e
          · exact .inl e
          · unfold lex at e; omega
          · exact .inr e
        have hzb := h3 b (.inl rfl)
        rcases hr with rfl | hr
        · exact hzb
        · rcases List.mem_cons.mp hr with rfl | hr
          · rcases key with e | e
            · rw [e]; exact hzb
            · rcases hzb with e2 | e2
              · exact .inr (by rw [← e2]; exact e)
              · exact .inr (lex_trans e2 e)
          · exact h3 _ (.inr hr)
theorem least_spec2 {l : List Pr} (hs : l.Pairwise (fun p q => p.1 ≤ q.1)) : (leastF l = none ∧ l = []) ∨ ∃ c, leastF l = some c ∧ LeastOf (· ∈ l) c := by
  cases l with
  | nil => exact .inl ⟨rfl, rfl⟩
  | cons a l =>
    right
    rw [List.pairwise_cons] at hs
    obtain ⟨c, h1, h2, h3⟩ := least_fold l a hs.1 hs.2
    exact ⟨c, h1, List.mem_cons.mpr h2, fun q hq => h3 q (List.mem_cons.mp hq)⟩
theorem less_fold : ∀ (l : List Pr) (b : Pr), ∃ c, l.foldl lessStep (some b) = some c ∧ LeastOf (fun q => q = b ∨ q ∈ l) c
  | [], b => ⟨b, rfl, .inl rfl, fun q h => .inl (by simpa using h)⟩
  | q :: l, b => by
    show ∃ c, l.foldl lessStep (if lex q b then some q else some b) = some c ∧ _
    by_cases c : lex q b
    · rw [if_pos c]
      obtain ⟨z, h1, h2, h3⟩ := less_fold l q
      refine ⟨z, h1, ?_, fun r hr => ?_⟩
      · rcases h2 with h | h
        · exact .inr (by rw [h]; exact List.mem_cons_self)
        · exact .inr (List.mem_cons_of_mem _ h)
      · rcases hr with rfl | hr
        · rcases h3 q (.inl rfl) with e | e
          · exact .inr (by rw [← e]; exact c)
          · exact .inr (lex_trans e c)
        · rcases List.mem_cons.mp hr with rfl | hr
          · exact h3 _ (.inl rfl)
          · exact h3 _ (.inr hr)
    · rw [if_neg c]
      obtain ⟨z, h1, h2, h3⟩ := less_fold l b
      refine ⟨z, h1, ?_, fun r hr => ?_⟩
      · rcases h2 with h | h
        · exact .inl h
        · exact .inr (List.mem_cons_of_mem _ h)
      · have hzb := h3 b (.inl rfl)
        rcases hr with rfl | hr
        · exact hzb
        · rcases List.mem_cons.mp hr with rfl | hr
          · rcases lex_tri r b with e | e | e
            · rw [e]; exact hzb
            · exact absurd e c
            · rcases hzb with e2 | e2
              · exact .inr (by rw [← e2]; exact e)
              · exact .inr (lex_trans e2 e)
          · exact h3 _ (.inr hr)
theorem less_spec {l : List Pr} : (lessF l = none ∧ l = []) ∨ ∃ c, lessF l = some c ∧ LeastOf (· ∈ l) c := by
  cases l with
  | nil => exact .inl ⟨rfl, rfl⟩
  | cons a l =>
    right
    obtain ⟨c, h1, h2, h3⟩ := less_fold l a
    exact ⟨c, h1, List.mem_cons.mpr h2, fun q hq => h3 q (List.mem_cons.mp hq)⟩
theorem allC_asc (r : Nat) : (allC r).Pairwise (fun p q => p.1 ≤ q.1) := by
  unfold allC
  rw [List.pairwise_flatMap]
  constructor
  · intro h _
    rw [List.pairwise_map]
    exact List.Pairwise.imp (fun _ => Int.le_refl _) (List.pairwise_lt_range)
  · refine List.Pairwise.imp (fun {a b} hab => ?_) (List.pairwise_lt_range (n := 2 * r + 1))
    intro x hx y hy
    obtain ⟨_, _, rfl⟩ := List.mem_map.mp hx
    obtain ⟨_, _, rfl⟩ := List.mem_map.mp hy
    show (a : Int) ≤ (b : Int)
    omega
theorem core_le {p : Pr} {r : Int} (h : nn p) (hr : 0 ≤ r) : p = core p r ∨ lex (core p r) p := by
  obtain ⟨a, b⟩ := p
  unfold nn at h
  by_cases e : core (a, b) r = (a, b)
  · exact .inl e.symm
  · right
    left
    have e2 : ¬ ((core (a, b) r).1 = a ∧ (core (a, b) r).2 = b) := fun z => e (Prod.ext z.1 z.2)
    clear e
    unfold core cutI at *
    simp only [] at *
    split at e2 <;> (simp only [] at *; (repeat' split at e2) <;> simp only [*, if_true, if_false] <;> omega)
section
variable {s s' : Nat} {ks ks' : List Pr} {M M' : Pr → Prop}
theorem IsR.kept_mem (h : IsR s ks M) {p : Pr} : p ∈ ks ↔ isC (s : Nat) p ∧ M p := by
  obtain ⟨f, rfl, hf⟩ := h.list
  rw [List.mem_filter, mem_allC]
  exact ⟨fun ⟨h1, h2⟩ => ⟨h1, (hf p h1).mp h2⟩, fun ⟨h1, h2⟩ => ⟨h1, (hf p h1).mpr h2⟩⟩
theorem IsR.asc (h : IsR s ks M) : ks.Pairwise (fun p q => p.1 ≤ q.1) := by
  obtain ⟨f, rfl, hf⟩ := h.list
  exact (allC_asc s).filter _
/-- the least of the cores is the least of all -/
theorem least_all {r : Nat} {cs : List Pr} {b : Pr} (hc : ∀ q ∈ cs, isC (r : Nat) q) (hM : ∀ p, nn p → (core p (r : Nat) ∈ cs ↔ M p)) (h : LeastOf (· ∈ cs) b) : LeastOf (fun p => nn p ∧ M p) b := by
  have hb := hc b h.1
  refine ⟨⟨hb.1, (hM b hb.1).mp (by rw [core_isC hb]; exact h.1)⟩, fun q hq => ?_⟩
  have h1 := h.2 _ ((hM q hq.1).mpr hq.2)
  have h2 := core_le hq.1 (show (0 : Int) ≤ (r : Nat) by omega)
  rcases h2 with e | e
  · rw [← e] at h1; exact h1
  · rcases h1 with e2 | e2
    · exact .inr (by rw [← e2]; exact e)
    · exact .inr (lex_trans e2 e)
theorem none_all {r : Nat} {cs : List Pr} (hM : ∀ p, nn p → (core p (r : Nat) ∈ cs ↔ M p)) (h : cs = []) : ¬ ∃ b, LeastOf (fun p => nn p ∧ M p) b := by
  rintro ⟨b, h1, _⟩
  have := (hM b h1.1).mpr h1.2
  rw [h] at this
  cases this
theorem least_same {r : Nat} {cs : List Pr} (h : IsR s ks M) (hc : ∀ q ∈ cs, isC (r : Nat) q) (hM : ∀ p, nn p → (core p (r : Nat) ∈ cs ↔ M p)) : leastF ks = lessF cs := by
  have hk : ∀ q ∈ ks, isC (s : Nat) q := fun q hq => (h.kept_mem.mp hq).1
  have hkM : ∀ p, nn p → (core p (s : Nat) ∈ ks ↔ M p) := fun p hp => h.mem hp
  rcases least_spec2 h.asc with ⟨h1, e1⟩ | ⟨b, h1, l1⟩
  · rcases less_spec (l := cs) with ⟨h2, e2⟩ | ⟨c, h2, l2⟩
    · rw [h1, h2]
    · exact absurd ⟨c, least_all hc hM l2⟩ (none_all hkM e1)
  · rcases less_spec (l := cs) with ⟨h2, e2⟩ | ⟨c, h2, l2⟩
    · exact absurd ⟨b, least_all hk hkM l1⟩ (none_all hM e2)
    · rw [h1, h2, (least_all hk hkM l1).uniq (least_all hc hM l2)]
/-- flipped -/
theorem isR_flip (h : IsR s ks M) : IsR (span (ks.map swap) s) (kept (ks.map swap) s) (fun p => M (swap p)) := by
  refine isR_of h.le (fun p hp => ?_) fun p hp => ?_
  · obtain ⟨q, hq, rfl⟩ := List.mem_map.mp hp
    exact nn_swap.mpr (h.kept_mem.mp hq).1.1
  · rw [← h.mem (nn_swap.mpr hp), core_swap _ (by omega), List.mem_map]
    constructor
    · rintro ⟨m, hm, e⟩
      obtain ⟨q, hq, rfl⟩ := List.mem_map.mp hm
      rw [core_swap _ (by omega), core_isC (h.kept_mem.mp hq).1] at e
      rw [← e, swap_swap]
      exact hq
    · intro hq
      refine ⟨core p (s : Nat), List.mem_map.mpr ⟨_, hq, swap_swap _⟩, core_isC ?_⟩
      exact isC_core hp (by omega)
theorem flip_le (h : IsR s ks M) (h' : IsR s' ks' (fun p => M (swap p))) : s' ≤ s := by
  rcases Nat.lt_or_ge s s' with c | c
  · refine absurd (fun p hp => ?_) (h'.min c)
    show M (swap (core p (s : Nat))) ↔ M (swap p)
    rw [← core_swap _ (by omega)]
    exact h.at_ (nn_swap.mpr hp) (Nat.le_refl _)
  · exact c
theorem flip_eq (h : IsR s ks M) (h' : IsR s' ks' (fun p => M (swap p))) : s' = s :=
  Nat.le_antisymm (flip_le h h') (flip_le (M := fun p => M (swap p)) h' h)
end
/-- a set of all, of none -/
theorem allC0 : allC 0 = [(0, 0)] := by decide
theorem every_R : IsR (span [(0, 0)] 0) (kept [(0, 0)] 0) (fun _ => True) := by
  refine isR_of (by decide) (fun p hp => by rw [List.mem_singleton.mp hp]; exact ⟨by decide, by decide⟩) fun p hp => ?_
  have := mem_allC.mpr (isC_core hp (show (0 : Int) ≤ ((0 : Nat) : Int) by decide))
  rw [allC0, List.mem_singleton] at this
  rw [this]
  exact ⟨fun _ => trivial, fun _ => by decide⟩
theorem none_R : IsR (span [] 0) (kept [] 0) (fun _ => False) := isR_of (by decide) (fun p hp => by cases hp) fun p hp => Iff.intro (fun h => by simp at h) (fun h => False.elim h)
theorem every_kept : kept [(0, 0)] 0 = [(0, 0)] := by decide
theorem none_kept : kept [] 0 = [] := by decide
end Rs

set_option Elab.async false
set_option linter.all false
set_option maxRecDepth 100000
set_option maxHeartbeats 0
/-! Results: their cores, the least reach. -/
namespace Lv
open PySem PySem.Spec PyProof.Rows L2 OwX Rs
local macro_rules | `(tactic| walk_at "side") => `(tactic| first
  | exact (show CMul _ _ from .inl ⟨by decide, by decide⟩) | exact (show CMul _ _ from .inr ⟨by decide, by decide⟩) | exact (show CMul _ _ from .inl ⟨by omega, by omega⟩) | exact (show CMul _ _ from .inr ⟨by omega, by omega⟩)
  | exact (show CPow _ _ from ⟨by decide, by decide, by decide⟩)
  | exact (show CDiv _ _ from ⟨by decide, by decide⟩) | exact (show CDiv _ _ from ⟨by omega, by omega⟩)
  | exact (show (0 : Int) < _ by decide) | exact (show (0 : Int) < _ by omega) | exact (show ¬ (_ : Int) = 0 by decide) | exact (show ¬ (_ : Int) = 0 by omega) | assumption)
local macro_rules | `(tactic| walk_at "hp") => `(tactic| first
  | assumption | exact upd_same
  | (refine' SqL.of ?h1; (case h1 => walk_at "hp")) | (refine' SqT.of ?h1; (case h1 => walk_at "hp"))
  | (refine' Rd.new_app ?h1 ?h2; (case h1 => assumption); (case h2 => walk_at "hp"))
  | (refine' Rd.upd_app ?h1 ?h2; (case h1 => first | assumption | exact Ne.symm (by assumption)); (case h2 => walk_at "hp"))
  | (refine' Rd.ext_app ?h1 ?h2; (case h1 => assumption); (case h2 => walk_at "hp"))
  | (refine' Rd.ext_L ?h1 ?h2; (case h1 => assumption); (case h2 => walk_at "hp"))
  | (refine' Rd.ext_T ?h1 ?h2; (case h1 => assumption); (case h2 => walk_at "hp")))
local macro_rules | `(tactic| walk_at "go") => `(tactic| repeat (first
  | with_reducible refine Rd.con ?_
  | ((with_reducible refine' Rd.var ?h1 ?_); (case h1 => rfl))
  | with_reducible refine Rd.op ?_
  | with_reducible refine Rd.un ?_
  | with_reducible refine Rd.i0 ?_
  | with_reducible refine Rd.iu ?_
  | ((with_reducible refine Rd.iC ?h1 ?_); (case h1 => walk_at "side"))
  | with_reducible refine Rd.nil ?_
  | with_reducible refine Rd.cons ?_
  | with_reducible refine Rd.cb ?_
  | with_reducible refine Rd.int1 ?_
  | with_reducible refine Rd.intB ?_
  | with_reducible refine Rd.maxI ?_
  | with_reducible refine Rd.minI ?_
  | with_reducible refine Rd.blx ?_
  | with_reducible refine Rd.tst ?_
  | with_reducible refine Rd.tb_ ?_
  | with_reducible refine Rd.not_ ?_
  | with_reducible refine Rd.and_ ?_
  | with_reducible refine Rd.or_ ?_
  | with_reducible refine Rd.ifx ?_
  | with_reducible refine Rd.chain ?_
  | with_reducible refine Rd.andV ?_
  | with_reducible refine Rd.orV ?_
  | with_reducible refine Rd.notV ?_
  | with_reducible refine Rd.seq ?_
  | with_reducible refine Rd.asg ?_
  | with_reducible refine Rd.name ?_
  | with_reducible refine Rd.ret ?_
  | with_reducible refine Rd.ifS ?_
  | with_reducible refine Rd.next ?_
  | with_reducible refine Rd.drop ?_
  | with_reducible refine Rd.gsub ?_
  | with_reducible refine Rd.cr ?_
  | with_reducible refine Rd.crX ?_
  | with_reducible refine Rd.ixOS ?_
  | ((with_reducible refine' Rd.xfv ?h1 ?h2 ?h3 ?_); (case h1 => walk_at "hp"); (case h2 => rfl); (case h3 => rfl))
  | ((with_reducible refine' Rd.bmLv ?h1 ?h2 ?_); (case h1 => rfl); (case h2 => walk_at "hp"))
  | ((with_reducible refine' Rd.countL ?h1 ?_); (case h1 => walk_at "hp"))
  | ((with_reducible refine' Rd.sumL ?h1 ?_); (case h1 => walk_at "hp"))
  | ((with_reducible refine' Rd.listL ?h1 ?_); (case h1 => walk_at "hp"))
  | ((with_reducible refine' Rd.listT ?h1 ?_); (case h1 => walk_at "hp"))
  | with_reducible refine Rd.isNn ?_
  | with_reducible refine Rd.isNr ?_
  | with_reducible refine Rd.notNn ?_
  | with_reducible refine Rd.notNr ?_
  | with_reducible refine Rd.isB ?_
  | with_reducible refine Rd.notBtt ?_
  | with_reducible refine Rd.notBff ?_
  | with_reducible refine Rd.notBtf ?_
  | with_reducible refine Rd.notBft ?_
  | with_reducible refine Rd.notB ?_
  | with_reducible refine Rd.smeth ?_
  | with_reducible refine Rd.sl ?_
  | with_reducible refine Rd.po0 ?_
  | with_reducible refine Rd.poI ?_
  | with_reducible refine Rd.ixi ?_
  | with_reducible refine Rd.par ?_
  | with_reducible refine Rd.par2 ?_
  | with_reducible refine Rd.mkRS ?_
  | with_reducible refine Rd.callRS ?_
  | with_reducible refine Rd.mk ?_
  | with_reducible refine Rd.mkX ?_
  | with_reducible refine Rd.sF ?_
  | with_reducible refine Rd.dIn ?_
  | with_reducible refine Rd.dNi ?_
  | with_reducible refine Rd.dctL ?_
  | with_reducible refine Rd.dctT ?_
  | with_reducible refine Rd.forE ?_
  | with_reducible refine Rd.lc2T ?_
  | with_reducible refine Rd.lc2L ?_
  | with_reducible refine Rd.lc2R ?_
  | with_reducible refine Rd.inR2 ?_
  | with_reducible refine Rd.inR1 ?_
  | with_reducible refine Rd.inT ?_
  | with_reducible refine Rd.inL ?_
  | with_reducible refine Rd.lcT ?_
  | with_reducible refine Rd.lcL ?_
  | with_reducible refine Rd.lcR ?_
  | with_reducible refine Rd.forT ?_
  | with_reducible refine Rd.forL ?_
  | with_reducible refine Rd.forR ?_
  | with_reducible refine Rd.yes ?_
  | with_reducible refine iteT ?_
  | with_reducible refine iteF ?_
  | with_reducible refine Rd.iteNT ?_
  | with_reducible refine Rd.iteNF ?_
  | with_reducible refine Rd.tup ?_
  | with_reducible refine Rd.lst ?_
  | ((with_reducible refine Rd.eqs ?h1 ?_); (case h1 => rfl))
  | ((with_reducible refine Rd.nes ?h1 ?_); (case h1 => rfl))
  | ((with_reducible refine' Rd.ixL ?h1 ?h2 ?_); (case h1 => walk_at "hp"); (case h2 => first | rfl | assumption))
  | ((with_reducible refine' Rd.ixT ?h1 ?h2 ?_); (case h1 => walk_at "hp"); (case h2 => first | rfl | assumption))
  | ((with_reducible refine' Rd.lenL ?h1 ?_); (case h1 => walk_at "hp"))
  | ((with_reducible refine' Rd.lenT ?h1 ?_); (case h1 => walk_at "hp"))
  | ((with_reducible refine' Rd.setL ?h1 ?h2 ?_); (case h1 => walk_at "hp"); (case h2 => first | rfl | assumption))))
/-- v stands for the pair p -/
def PT (H : Hp) (p : Pr) (v : V) : Prop := ∃ a, v = .ref a ∧ H a = some (.tup [.int p.1, .int p.2])
theorem PT.ext {H H' : Hp} {p : Pr} {v : V} (h : PT H p v) (e : Ext H H') : PT H' p v := by
  obtain ⟨a, h1, h2⟩ := h
  exact ⟨a, h1, e _ _ h2⟩
theorem PT.hid {H : Hp} {O : List Addr} {p : Pr} {v : V} (h : PT (Rd.hid O H) p v) : PT H p v := h.ext Rd.hid_ext
/-- a list, a tuple of pairs -/
def PL (H : Hp) (l : Addr) (ps : List Pr) : Prop := ∃ vs, H l = some (.lst vs) ∧ Paired (PT H) ps vs
def PU (H : Hp) (l : Addr) (ps : List Pr) : Prop := ∃ vs, H l = some (.tup vs) ∧ Paired (PT H) ps vs
theorem PL.ext {H H' : Hp} {l : Addr} {ps : List Pr} (h : PL H l ps) (e : Ext H H') : PL H' l ps := by
  obtain ⟨vs, h1, h2⟩ := h
  exact ⟨vs, e _ _ h1, Rd.paired_imp (fun _ _ r => r.ext e) h2⟩
theorem PU.ext {H H' : Hp} {l : Addr} {ps : List Pr} (h : PU H l ps) (e : Ext H H') : PU H' l ps := by
  obtain ⟨vs, h1, h2⟩ := h
  exact ⟨vs, e _ _ h1, Rd.paired_imp (fun _ _ r => r.ext e) h2⟩
theorem PL.of {H : Hp} {D : Addr} {ps : List Pr} {ys : List V} (h : H D = some (.lst ys)) (pr : Paired (fun a y => PT (Rd.hid [D] H) a y) ps ys) : PL H D ps := ⟨ys, h, Rd.paired_imp (fun _ _ r => r.hid) pr⟩
theorem PT.new {H : Hp} {D t : Addr} {acc : List V} {p : Pr} (hD : H D = some (.lst acc)) (ht : H t = none) : PT (Rd.hid [D] (upd H t (.tup [.int p.1, .int p.2]))) p (.ref t) :=
  ⟨t, rfl, by rw [Rd.hid_ne (by simp; exact fun z => by rw [z, hD] at ht; cases ht), upd_same]⟩
section
variable {base : Heap} {P : Program} {w : World} {mg : Str → Option Value} {K : PySem.W.Frag}
/-- home, away = the pair -/
theorem un2 {n m : Nat} {σ : L2.St} {H : Hp} {v : V} {p : Pr} {Q : L2.St → Hp → Prop} (h : PT H p v) (k : Q ((σ.set n (some (.int p.1))).set m (some (.int p.2))) H) : gTup K 2 (gCons (gName n) (gCons (gName m) gNil)) v σ H Q := by
  obtain ⟨a, rfl, h2⟩ := h
  exact ⟨a, _, rfl, SqT.of h2, rfl, _, _, rfl, _, _, rfl, rfl, k⟩
theorem bot {A : Prop} (h : A) : A := h
def sp_cut : Sp := fun vs H Q _ => ∃ n m : Int, vs = [.int n, .int m] ∧ Q (.int (cutI n m)) H
theorem ok_cut (T : Tx K mg) : FnR P w K mg base (L2.CX P w) 1 (a_cut K) sp_cut := by
  refine fnr T.d_cut sc_cut (fun _ _ _ _ _ _ us hl => match us, hl with | [_, _], _ => rfl) (fun vs H Q E h => ?_) (fun cdv A outer s H vs Q E hr h => ?_)
  · obtain ⟨n, m, rfl, _⟩ := h
    rfl
  · obtain ⟨n, m, rfl, k⟩ := h
    refine ⟨_, (pss_one (ps_ret (pe_ifExp (pt_cmpR op_lt (pv 0) (pv 1) (nomark _)) (pv 0) (pv 1)))), ?_⟩
    unfold cutI at k
    walk_at "go"
    refine Rd.ited (fun c => ?_) (fun c => ?_)
    · walk_at "go"
      rw [if_pos c] at k
      exact k
    · walk_at "go"
      rw [if_neg c] at k
      exact k
def sp_core : Sp := fun vs H Q _ => ∃ (v : V) (p : Pr) (r : Int), vs = [v, .int r] ∧ PT H p v ∧ ∀ t, H t = none → Q (.ref t) (upd H t (.tup [.int (core p r).1, .int (core p r).2]))
theorem ok_core (T : Tx K mg) : FnR P w K mg base (L2.CX P w) 2 (a_core K) sp_core := by
  refine fnr T.d_core sc_core (fun _ _ _ _ _ _ us hl => match us, hl with | [_, _], _ => rfl) (fun vs H Q E h => ?_) (fun cdv A outer s H vs Q E hr h => ?_)
  · obtain ⟨v, p, r, rfl, _⟩ := h
    rfl
  · obtain ⟨v, p, r, rfl, hp, k⟩ := h
    refine ⟨_, (pss_cons (ps_asg (pv 0) (GW.tup (K := K) (n := 2) rfl (pgs_cons (gx 2 sc_core.nd) (pgs_cons (gx 3 sc_core.nd) pgs_nil)))) (pss_cons (ps_if (pt_cmpR op_ge (pv 2) (pv 3) (nomark _)) (pss_cons (sx 4 sc_core.nd (pe_cr (ok_cut T) (hr.mono (by decide)) (kp_of T.d_cut) (by rfl) T.g_cut (pa_cons (pv 3) (pa_cons (pv 1) pa_nil)))) (pss_one (ps_ret (pe_tup (pa_cons (pe_op op_add (pv 4) (pe_cr (ok_cut T) (hr.mono (by decide)) (kp_of T.d_cut) (by rfl) T.g_cut (pa_cons (pe_op op_sub (pv 2) (pv 3)) (pa_cons (pv 1) pa_nil)))) (pa_cons (pv 4) pa_nil)))))) pss_nil) (pss_cons (sx 4 sc_core.nd (pe_cr (ok_cut T) (hr.mono (by decide)) (kp_of T.d_cut) (by rfl) T.g_cut (pa_cons (pv 2) (pa_cons (pv 1) pa_nil)))) (pss_one (ps_ret (pe_tup (pa_cons (pv 4) (pa_cons (pe_op op_add (pv 4) (pe_cr (ok_cut T) (hr.mono (by decide)) (kp_of T.d_cut) (by rfl) T.g_cut (pa_cons (pe_op op_sub (pv 3) (pv 2)) (pa_cons (pv 1) pa_nil)))) pa_nil)))))))), ?_⟩
    unfold core at k
    walk_at "go"
    refine un2 hp ?_
    walk_at "go"
    refine Rd.ited (fun c => ?_) (fun c => ?_)
    · rw [if_pos c] at k
      walk_at "go"
      refine ⟨_, _, rfl, ?_⟩
      walk_at "go"
      refine ⟨_, _, rfl, ?_⟩
      walk_at "go"
      exact ⟨Rd.szr rfl, k⟩
    · rw [if_neg c] at k
      walk_at "go"
      refine ⟨_, _, rfl, ?_⟩
      walk_at "go"
      refine ⟨_, _, rfl, ?_⟩
      walk_at "go"
      exact ⟨Rd.szr rfl, k⟩
def sp_result_of : Sp := fun vs H Q _ => ∃ (l d : Int), vs = [.int l, .int d] ∧ ∀ t, H t = none → Q (.ref t) (upd H t (.tup [.int (resOf l d).1, .int (resOf l d).2]))
theorem ok_result_of (T : Tx K mg) : FnR P w K mg base (L2.CX P w) 1 (a_result_of K) sp_result_of := by
  refine fnr T.d_result_of sc_result_of (fun _ _ _ _ _ _ us hl => match us, hl with | [_, _], _ => rfl) (fun vs H Q E h => ?_) (fun cdv A outer s H vs Q E hr h => ?_)
  · obtain ⟨l, d, rfl, _⟩ := h
    rfl
  · obtain ⟨l, d, rfl, k⟩ := h
    refine ⟨_, (pss_cons (ps_if (pt_cmpR op_ge (pv 1) pe_int (nomark _)) (pss_one (ps_ret (pe_tup (pa_cons (pe_op op_add (pv 0) (pv 1)) (pa_cons (pv 0) pa_nil))))) pss_nil) (pss_one (ps_ret (pe_tup (pa_cons (pv 0) (pa_cons (pe_op op_sub (pv 0) (pv 1)) pa_nil)))))), ?_⟩
    unfold resOf at k
    walk_at "go"
    refine Rd.ited (fun c => ?_) (fun c => ?_)
    · rw [if_pos c] at k
      walk_at "go"
      exact ⟨Rd.szr rfl, k⟩
    · rw [if_neg c] at k
      walk_at "go"
      exact ⟨Rd.szr rfl, k⟩
/-! ### all cores -/
def sp_all_cores : Sp := fun vs H Q _ => ∃ r : Nat, vs = [.int r] ∧ r ≤ 60 ∧ ∀ l H', Ext H H' → H l = none → PL H' l (allC r) → Q (.ref l) H'
theorem ok_all_cores (T : Tx K mg) : FnR P w K mg base (L2.CX P w) 1 (a_all_cores K) sp_all_cores := by
  refine fnr T.d_all_cores sc_all_cores (fun _ _ _ _ _ _ us hl => match us, hl with | [_], _ => rfl) (fun vs H Q E h => ?_) (fun cdv A outer s H vs Q E hr h => ?_)
  · obtain ⟨r, rfl, _⟩ := h
    rfl
  · obtain ⟨r, rfl, hr60, k⟩ := h
    refine ⟨_, (pss_cons (sx 1 sc_all_cores.nd (pe_lc (own := [("home", 2)]) rfl sc_all_cores.nd (pi_range1 (by rfl) T.f_range (pa_cons (pe_op op_add (pe_op op_mul pe_int (pv 0)) pe_int) pa_nil)) (blkOk_by (own := [("home", 2)]) (N := N_all_cores) (sc := defScope s_all_cores) (by decide +kernel)) (fun _ _ _ _ _ => (gx 2 sc_all_cores.nd)) (fun _ _ _ _ _ => pts_nil) (fun _ _ _ _ _ => (pe_ifExp (pt_cmpR op_gt (pv 2) (pv 0) (nomark _)) (pe_op op_sub (pv 2) (pv 0)) pe_int)))) (pss_cons (sx 3 sc_all_cores.nd (pe_lc (own := [("home", 2)]) rfl sc_all_cores.nd (pi_range1 (by rfl) T.f_range (pa_cons (pe_op op_add (pe_op op_mul pe_int (pv 0)) pe_int) pa_nil)) (blkOk_by (own := [("home", 2)]) (N := N_all_cores) (sc := defScope s_all_cores) (by decide +kernel)) (fun _ _ _ _ _ => (gx 2 sc_all_cores.nd)) (fun _ _ _ _ _ => pts_nil) (fun _ _ _ _ _ => (pe_ifExp (pt_cmpR op_gt (pv 2) (pv 0) (nomark _)) (pv 0) (pe_op op_add (pv 2) (pv 0)))))) (pss_one (ps_ret (pe_lc2 (own := [("home", 2), ("away", 4)]) (vs1 := [4]) rfl sc_all_cores.nd (pi_range1 (by rfl) T.f_range (pa_cons (pe_op op_add (pe_op op_mul pe_int (pv 0)) pe_int) pa_nil)) (blkOk_by (own := [("home", 2), ("away", 4)]) (N := N_all_cores) (sc := defScope s_all_cores) (by decide +kernel)) (by decide) (fun _ _ _ _ _ => (gx 2 sc_all_cores.nd)) (fun _ _ _ _ _ => pts_nil) (fun _ _ _ _ _ => (pi_range2 (by rfl) T.f_range (pa_cons (pe_ix (GW.ixL (K := K)) (pv 1) (pv 2) (fun _ _ => rfl)) (pa_cons (pe_op op_add (pe_ix (GW.ixL (K := K)) (pv 3) (pv 2) (fun _ _ => rfl)) pe_int) pa_nil)))) (fun _ _ _ _ _ => (gx 4 sc_all_cores.nd)) (fun _ _ _ _ _ => pts_nil) (fun _ _ _ _ _ => (pe_tup (pa_cons (pv 2) (pa_cons (pv 4) pa_nil))))))))), ?_⟩
    have e21 : (2 * (r : Int) + 1).toNat = 2 * r + 1 := by omega
    walk_at "go"
    refine ⟨_, rfl, by omega, by omega, fun D1 hD1 => ?_⟩
    rw [e21]
    refine Rd.lcE (emb := fun j : Nat => V.int j) Rd.walk_rangeN Rd.yrng (by rw [List.length_range]; omega) (fun _ => true) (fun j y _ => y = .int (lowI r j)) (fun _ _ _ _ _ h => h) hD1 (fun H' e => trivial) ?_ ?_
    · intro j it H' acc hi e ha Qy Qn ky kn
      walk_at "go"
      refine ⟨rfl, ?_⟩
      walk_at "go"
      refine Rd.ited (fun c => ?_) (fun c => ?_)
      · walk_at "go"
        refine ky _ _ Rd.ext_rfl rfl ?_
        unfold lowI
        rw [if_pos (by omega)]
        congr 1
        omega
      · walk_at "go"
        refine ky _ _ Rd.ext_rfl rfl ?_
        unfold lowI
        rw [if_neg (by omega)]
        rfl
    intro ys1 H1 e1 hy1 pr1
    rw [List.filter_eq_self.mpr (fun _ _ => rfl)] at pr1
    have q1 := Rd.paired_map pr1
    subst q1
    walk_at "go"
    refine ⟨_, rfl, by omega, by omega, fun D2 hD2 => ?_⟩
    rw [e21]
    refine Rd.lcE (emb := fun j : Nat => V.int j) Rd.walk_rangeN Rd.yrng (by rw [List.length_range]; omega) (fun _ => true) (fun j y _ => y = .int (highI r j)) (fun _ _ _ _ _ h => h) hD2 (fun H' e => trivial) ?_ ?_
    · intro j it H' acc hi e ha Qy Qn ky kn
      walk_at "go"
      refine ⟨rfl, ?_⟩
      walk_at "go"
      refine Rd.ited (fun c => ?_) (fun c => ?_)
      · walk_at "go"
        refine ky _ _ Rd.ext_rfl rfl ?_
        unfold highI
        rw [if_pos (by omega)]
      · walk_at "go"
        refine ky _ _ Rd.ext_rfl rfl ?_
        unfold highI
        rw [if_neg (by omega)]
        rfl
    intro ys2 H2 e2 hy2 pr2
    rw [List.filter_eq_self.mpr (fun _ _ => rfl)] at pr2
    have q2 := Rd.paired_map pr2
    subst q2
    have hy1 := e2 _ _ hy1
    walk_at "go"
    refine ⟨_, rfl, by omega, by omega, fun D hD => ?_⟩
    rw [e21]
    have bl : ∀ h, h < 2 * r + 1 → lowI r h ≤ highI r h + 1 ∧ highI r h ≤ 2 * r := fun h hh => by unfold lowI highI; constructor <;> (split <;> omega)
    refine Rd.lc2 (sub := fun h : Nat => List.range (highI r h + 1 - lowI r h)) (M := 2 * r + 1) Rd.walk_rangeN (fun (h : Nat) x => x = V.int h) Rd.yrng (fun h hh => ?_) ?_ (fun _ _ => true) (fun p y H => PT H ((p.1 : Int), ((lowI r p.1 + p.2 : Nat) : Int)) y) (fun _ _ _ _ e h => h.ext e) hD (fun _ _ => trivial) ?_ ?_
    · rw [List.length_range]
      have := bl h (List.mem_range.mp hh)
      omega
    · rw [List.length_range]
      have : (2 * r + 1) * (2 * r + 1) ≤ 121 * 121 := Nat.mul_le_mul (by omega) (by omega)
      omega
    · rintro i h x H3 hi rfl e3 _ Nx mk
      have hh : h < 2 * r + 1 := by
        have := List.mem_of_getElem? hi
        exact List.mem_range.mp this
      have b := bl h hh
      have at1 : atI (List.map (fun a => V.int ↑(lowI r a)) (List.range (2 * r + 1))) (h : Int) = some (V.int (lowI r h)) := Rd.nat_at rfl (by rw [List.getElem?_map, List.getElem?_range hh]; rfl)
      have at2 : atI (List.map (fun a => V.int ↑(highI r a)) (List.range (2 * r + 1))) (h : Int) = some (V.int (highI r h)) := Rd.nat_at rfl (by rw [List.getElem?_map, List.getElem?_range hh]; rfl)
      have g1 := e3 _ _ hy1
      have g2 := e3 _ _ hy2
      walk_at "go"
      refine ⟨rfl, ?_⟩
      walk_at "go"
      refine ⟨_, _, rfl, ⟨by omega, by omega, by omega, by omega⟩, ?_⟩
      have en : ((highI r h : Int) + 1 - (lowI r h : Int)).toNat = highI r h + 1 - lowI r h := by omega
      rw [en]
      refine mk (fun (j : Nat) x => x = V.int ((lowI r h : Int) + (j : Nat))) Rd.ext_rfl Rd.walk_from Rd.yfrom (fun _ _ _ => trivial) ?_
      rintro j b x H5 acc hj rfl e5 _ hD5 Qy Qn ky kn
      walk_at "go"
      refine ⟨rfl, ?_⟩
      walk_at "go"
      refine ⟨Rd.szr rfl, fun t ht => ?_⟩
      refine ky _ _ (Ext.upd ht) rfl ?_
      have := PT.new (p := ((h : Int), ((lowI r h + b : Nat) : Int))) hD5 ht
      rw [show ((lowI r h : Int) + (b : Int)) = ((lowI r h + b : Nat) : Int) by omega]
      exact this
    · intro ys H3 e3 hys pr
      refine k D H3 ((e1.trans e2).trans e3) ?_ (PL.of hys ?_)
      · exact Rd.ext_free (e1.trans e2) hD
      · unfold allC
        have em : ((List.range (2 * r + 1)).flatMap fun a => ((List.range (highI r a + 1 - lowI r a)).filter fun _ => true).map fun b => (a, b)).map (fun p => ((p.1 : Int), ((lowI r p.1 + p.2 : Nat) : Int))) = (List.range (2 * r + 1)).flatMap fun h => (List.range (highI r h + 1 - lowI r h)).map fun j => ((h : Int), ((lowI r h + j : Nat) : Int)) := by
          rw [List.map_flatMap]
          congr 1
          funext a
          rw [List.filter_eq_self.mpr (fun _ _ => rfl), List.map_map]
          rfl
        rw [← em]
        exact Rd.paired_mapl pr
end
end Lv

set_option Elab.async false
set_option linter.all false
set_option maxRecDepth 100000
set_option maxHeartbeats 0
/-! Results: the least reach. -/
namespace Lv
open PySem PySem.Spec PyProof.Rows L2 OwX Rs
local macro_rules | `(tactic| walk_at "side") => `(tactic| first
  | exact (show CMul _ _ from .inl ⟨by decide, by decide⟩) | exact (show CMul _ _ from .inr ⟨by decide, by decide⟩) | exact (show CMul _ _ from .inl ⟨by omega, by omega⟩) | exact (show CMul _ _ from .inr ⟨by omega, by omega⟩)
  | exact (show CPow _ _ from ⟨by decide, by decide, by decide⟩)
  | exact (show CDiv _ _ from ⟨by decide, by decide⟩) | exact (show CDiv _ _ from ⟨by omega, by omega⟩)
  | exact (show (0 : Int) < _ by decide) | exact (show (0 : Int) < _ by omega) | exact (show ¬ (_ : Int) = 0 by decide) | exact (show ¬ (_ : Int) = 0 by omega) | assumption)
local macro_rules | `(tactic| walk_at "hp") => `(tactic| first
  | assumption | exact upd_same
  | (refine' SqL.of ?h1; (case h1 => walk_at "hp")) | (refine' SqT.of ?h1; (case h1 => walk_at "hp"))
  | (refine' Rd.new_app ?h1 ?h2; (case h1 => assumption); (case h2 => walk_at "hp"))
  | (refine' Rd.upd_app ?h1 ?h2; (case h1 => first | assumption | exact Ne.symm (by assumption)); (case h2 => walk_at "hp"))
  | (refine' Rd.ext_app ?h1 ?h2; (case h1 => assumption); (case h2 => walk_at "hp"))
  | (refine' Rd.ext_L ?h1 ?h2; (case h1 => assumption); (case h2 => walk_at "hp"))
  | (refine' Rd.ext_T ?h1 ?h2; (case h1 => assumption); (case h2 => walk_at "hp")))
local macro_rules | `(tactic| walk_at "go") => `(tactic| repeat (first
  | with_reducible refine Rd.con ?_
  | ((with_reducible refine' Rd.var ?h1 ?_); (case h1 => rfl))
  | with_reducible refine Rd.op ?_
  | with_reducible refine Rd.un ?_
  | with_reducible refine Rd.i0 ?_
  | with_reducible refine Rd.iu ?_
  | ((with_reducible refine Rd.iC ?h1 ?_); (case h1 => walk_at "side"))
  | with_reducible refine Rd.nil ?_
  | with_reducible refine Rd.cons ?_
  | with_reducible refine Rd.cb ?_
  | with_reducible refine Rd.int1 ?_
  | with_reducible refine Rd.intB ?_
  | with_reducible refine Rd.maxI ?_
  | with_reducible refine Rd.minI ?_
  | with_reducible refine Rd.blx ?_
  | with_reducible refine Rd.tst ?_
  | with_reducible refine Rd.tb_ ?_
  | with_reducible refine Rd.not_ ?_
  | with_reducible refine Rd.and_ ?_
  | with_reducible refine Rd.or_ ?_
  | with_reducible refine Rd.ifx ?_
  | with_reducible refine Rd.chain ?_
  | with_reducible refine Rd.andV ?_
  | with_reducible refine Rd.orV ?_
  | with_reducible refine Rd.notV ?_
  | with_reducible refine Rd.seq ?_
  | with_reducible refine Rd.asg ?_
  | with_reducible refine Rd.name ?_
  | with_reducible refine Rd.ret ?_
  | with_reducible refine Rd.ifS ?_
  | with_reducible refine Rd.next ?_
  | with_reducible refine Rd.drop ?_
  | with_reducible refine Rd.gsub ?_
  | with_reducible refine Rd.cr ?_
  | with_reducible refine Rd.crX ?_
  | with_reducible refine Rd.ixOS ?_
  | ((with_reducible refine' Rd.xfv ?h1 ?h2 ?h3 ?_); (case h1 => walk_at "hp"); (case h2 => rfl); (case h3 => rfl))
  | ((with_reducible refine' Rd.bmLv ?h1 ?h2 ?_); (case h1 => rfl); (case h2 => walk_at "hp"))
  | ((with_reducible refine' Rd.countL ?h1 ?_); (case h1 => walk_at "hp"))
  | ((with_reducible refine' Rd.sumL ?h1 ?_); (case h1 => walk_at "hp"))
  | ((with_reducible refine' Rd.listL ?h1 ?_); (case h1 => walk_at "hp"))
  | ((with_reducible refine' Rd.listT ?h1 ?_); (case h1 => walk_at "hp"))
  | with_reducible refine Rd.isNn ?_
  | with_reducible refine Rd.isNr ?_
  | with_reducible refine Rd.notNn ?_
  | with_reducible refine Rd.notNr ?_
  | with_reducible refine Rd.isB ?_
  | with_reducible refine Rd.notBtt ?_
  | with_reducible refine Rd.notBff ?_
  | with_reducible refine Rd.notBtf ?_
  | with_reducible refine Rd.notBft ?_
  | with_reducible refine Rd.notB ?_
  | with_reducible refine Rd.smeth ?_
  | with_reducible refine Rd.sl ?_
  | with_reducible refine Rd.po0 ?_
  | with_reducible refine Rd.poI ?_
  | with_reducible refine Rd.ixi ?_
  | with_reducible refine Rd.par ?_
  | with_reducible refine Rd.par2 ?_
  | with_reducible refine Rd.mkRS ?_
  | with_reducible refine Rd.callRS ?_
  | with_reducible refine Rd.mk ?_
  | with_reducible refine Rd.mkX ?_
  | with_reducible refine Rd.sF ?_
  | with_reducible refine Rd.dIn ?_
  | with_reducible refine Rd.dNi ?_
  | with_reducible refine Rd.dctL ?_
  | with_reducible refine Rd.dctT ?_
  | with_reducible refine Rd.forE ?_
  | with_reducible refine Rd.lc2T ?_
  | with_reducible refine Rd.lc2L ?_
  | with_reducible refine Rd.lc2R ?_
  | with_reducible refine Rd.inR2 ?_
  | with_reducible refine Rd.inR1 ?_
  | with_reducible refine Rd.inT ?_
  | with_reducible refine Rd.inL ?_
  | with_reducible refine Rd.lcT ?_
  | with_reducible refine Rd.lcL ?_
  | with_reducible refine Rd.lcR ?_
  | with_reducible refine Rd.forT ?_
  | with_reducible refine Rd.forL ?_
  | with_reducible refine Rd.forR ?_
  | with_reducible refine Rd.yes ?_
  | with_reducible refine iteT ?_
  | with_reducible refine iteF ?_
  | with_reducible refine Rd.iteNT ?_
  | with_reducible refine Rd.iteNF ?_
  | with_reducible refine Rd.tup ?_
  | with_reducible refine Rd.lst ?_
  | ((with_reducible refine Rd.eqs ?h1 ?_); (case h1 => rfl))
  | ((with_reducible refine Rd.nes ?h1 ?_); (case h1 => rfl))
  | ((with_reducible refine' Rd.ixL ?h1 ?h2 ?_); (case h1 => walk_at "hp"); (case h2 => first | rfl | assumption))
  | ((with_reducible refine' Rd.ixT ?h1 ?h2 ?_); (case h1 => walk_at "hp"); (case h2 => first | rfl | assumption))
  | ((with_reducible refine' Rd.lenL ?h1 ?_); (case h1 => walk_at "hp"))
  | ((with_reducible refine' Rd.lenT ?h1 ?_); (case h1 => walk_at "hp"))
  | ((with_reducible refine' Rd.setL ?h1 ?h2 ?_); (case h1 => walk_at "hp"); (case h2 => first | rfl | assumption))))
def encP : Pr → PyData := fun p => .tuple [.int p.1, .int p.2]
theorem encP_ok : Rd.Enc encP 1 := Rd.Enc.pair Rd.Enc.int Rd.Enc.int
theorem PT.keep {H H' : Hp} {D : Addr} {p : Pr} {v : V} (h : PT H p v) (n : H D = none) (e : Ext H H') : PT (Rd.hid [D] H') p v := by
  obtain ⟨a, h1, h2⟩ := h
  exact ⟨a, h1, by rw [Rd.hid_ne (by simp; exact ne_of_none h2 n)]; exact e _ _ h2⟩
/-- a dict whose keys are the pairs of S -/
def KD (H : Hp) (d : Addr) (S : Pr → Bool) : Prop := ∃ kvs, H d = some (.dT kvs) ∧ ∀ p : Pr, (valV kvs [.inl p.1, .inl p.2]).isSome = S p
theorem KD.ext {H H' : Hp} {d : Addr} {S : Pr → Bool} (h : KD H d S) (e : Ext H H') : KD H' d S := by
  obtain ⟨kvs, h1, h2⟩ := h
  exact ⟨kvs, e _ _ h1, h2⟩
theorem inV_bl {b : Bool} {bs : List Bool} : inV (.bl b) (bs.map V.bl) = bs.contains b := by
  unfold inV
  induction bs with
  | nil => rfl
  | cons c cs ih =>
    rw [List.map_cons, List.any_cons, ih, List.contains_cons]
    congr 1
    show (c == b) = (b == c)
    exact Bool.beq_comm
theorem flat_bls {bs : List Bool} : (bs.map V.bl).all flatV = true := by
  rw [List.all_map]
  exact List.all_eq_true.mpr fun _ _ => rfl
section
variable {base : Heap} {P : Program} {w : World} {mg : Str → Option Value} {K : PySem.W.Frag}
theorem dp_pt {H : Hp} {p : Pr} {v : V} (h : PT H p v) : Dp K H v (encP p) := by
  obtain ⟨a, rfl, h2⟩ := h
  exact .tup (SqT.of h2) (.cons (.int _) (.cons (.int _) .nil))
theorem dp_new {H : Hp} {a : Addr} {p : Pr} (h : H a = some (.tup [.int p.1, .int p.2])) : Dp K H (.ref a) (encP p) := dp_pt ⟨a, rfl, h⟩
/-- p in the dict -/
theorem in_kd {H : Hp} {d : Addr} {S : Pr → Bool} {p : Pr} {v : V} (h : KD H d S) (hp : PT H p v) : ∃ o : Option V, DGet H d v o ∧ o.isSome = S p := by
  obtain ⟨kvs, h1, h2⟩ := h
  obtain ⟨a, rfl, h3⟩ := hp
  exact ⟨_, DGet.t (k := [.inl p.1, .inl p.2]) h1 h3, h2 p⟩
def sp_split_at : Sp := fun vs H Q _ => ∃ (v : V) (b : Pr) (t : Int), vs = [v, .int t] ∧ PT H b v ∧ ∀ l H', Ext H H' → H l = none → PL H' l (splitC b t) → Q (.ref l) H'
theorem ok_split_at (T : Tx K mg) : FnR P w K mg base (L2.CX P w) 4 (a_split_at K) sp_split_at := by
  refine fnr T.d_split_at sc_split_at (fun _ _ _ _ _ _ us hl => match us, hl with | [_, _], _ => rfl) (fun vs H Q E h => ?_) (fun cdv A outer s H vs Q E hr h => ?_)
  · obtain ⟨v, b, t, rfl, _⟩ := h
    rfl
  · obtain ⟨v, b, t, rfl, hb, k⟩ := h
    refine ⟨_, (pss_cons (ps_asg (pv 0) (GW.tup (K := K) (n := 2) rfl (pgs_cons (gx 2 sc_split_at.nd) (pgs_cons (gx 3 sc_split_at.nd) pgs_nil)))) (pss_cons (sx 4 sc_split_at.nd (pe_ifExp (pt_cmpR op_lt (pv 3) (pv 2) (nomark _)) (pv 3) (pv 2))) (pss_cons (ps_setLc2 (i := 5) (own := [("more", 6), ("turn", 7)]) (vs1 := [7]) rfl sc_split_at.nd rfl rfl rfl (GW.pi_tup (K := K) (pe_tup (pa_cons pe_int (pa_cons pe_int pa_nil)))) (blkOk_by (own := [("more", 6), ("turn", 7)]) (N := N_split_at) (sc := defScope s_split_at) (by decide +kernel)) (by decide) (fun _ _ _ _ _ => (gx 6 sc_split_at.nd)) (fun _ _ _ _ _ => pts_nil) (fun _ _ _ _ _ => (GW.pi_tup (K := K) (pe_tup (pa_cons (pe_un un_neg pe_int) (pa_cons pe_int (pa_cons pe_int pa_nil)))))) (fun _ _ _ _ _ => (gx 7 sc_split_at.nd)) (fun _ _ _ _ _ => pts_nil) (fun _ _ _ _ _ => (pe_cr (ok_result_of T) (hr.mono (by decide)) (kp_of T.d_result_of) (by rfl) T.g_result_of (pa_cons (pe_op op_add (pv 4) (pv 6)) (pa_cons (pe_op op_add (pe_op op_sub (pv 2) (pv 3)) (pv 7)) pa_nil))))) (pss_one (ps_ret (pe_lc (own := [("result", 8)]) rfl sc_split_at.nd (GW.pi_list (K := K) (pv 5)) (blkOk_by (own := [("result", 8)]) (N := N_split_at) (sc := defScope s_split_at) (by decide +kernel)) (fun _ _ _ _ _ => (gx 8 sc_split_at.nd)) (fun _ _ _ _ _ => (pts_one (PW.pt (pw_and (pt_cmpR (GW.eqD hr.units (K := K)) (pe_cr (ok_core T) (hr.mono (by decide)) (kp_of T.d_core) (by rfl) T.g_core (pa_cons (pv 8) (pa_cons (pv 1) pa_nil))) (pv 8) (nomark _)) (pw_and1 (pt_cmpR (GW.eqD hr.units (K := K)) (pe_cr (ok_core T) (hr.mono (by decide)) (kp_of T.d_core) (by rfl) T.g_core (pa_cons (pv 8) (pa_cons (pe_op op_sub (pv 1) pe_int) pa_nil))) (pv 0) (nomark _))))))) (fun _ _ _ _ _ => (pv 8)))))))), ?_⟩
    walk_at "go"
    refine un2 hb ?_
    with_reducible refine Rd.seq ?_
    with_reducible refine Rd.asg ?_
    refine Rd.ifI (p := b.2 < b.1) (i := b.2) (j := b.1) (fun R h => ?_) (fun R h => ?_) (fun R h => ?_) ?_
    · walk_at "go"
      exact h
    · walk_at "go"
      exact h
    · walk_at "go"
      exact h
    have near_eq : near b = (([0, 1] : List Int).flatMap fun m => ([-1, 0, 1] : List Int).map fun q => resOf ((if b.2 < b.1 then b.2 else b.1) + m) (b.1 - b.2 + q)) := rfl
    generalize (if b.2 < b.1 then b.2 else b.1) = lv at near_eq ⊢
    walk_at "go"
    refine ⟨Rd.szr rfl, fun q1 hq1 => ?_⟩
    have e1 : Ext H (upd H q1 (.tup [.int 0, .int 1])) := Ext.upd hq1
    have h1 : (upd H q1 (.tup [.int 0, .int 1])) q1 = some (.tup (([0, 1] : List Int).map V.int)) := upd_same
    generalize upd H q1 (.tup [.int 0, .int 1]) = H1 at e1 h1
    refine ⟨q1, rfl, ⟨_, SqT.of h1⟩, fun D hD => ?_⟩
    refine Rd.lc2 (sub := fun _ : Int => ([-1, 0, 1] : List Int)) (M := 3) (Rd.walk_tupM (K := K) (a := q1) (xs := ([0, 1] : List Int)) (emb := V.int)) (fun (m : Int) x => x = V.int m) Rd.yat (fun _ _ => Nat.le_refl _) (by decide) (fun _ _ => true) (fun p y H => PT H (resOf (lv + p.1) (b.1 - b.2 + p.2)) y) (fun _ _ _ _ e h => h.ext e) hD (fun _ e => SqT.of (e _ _ h1)) ?_ ?_
    · rintro i m x H2 hi rfl e2 ⟨acc2, hacc2⟩ Nx mk
      walk_at "go"
      refine ⟨rfl, ?_⟩
      walk_at "go"
      refine ⟨Rd.szr rfl, fun q2 hq2 => ?_⟩
      have e3 : Ext H2 (upd H2 q2 (.tup [.int (-1), .int 0, .int 1])) := Ext.upd hq2
      have h2 : (upd H2 q2 (.tup [.int (-1), .int 0, .int 1])) q2 = some (.tup (([-1, 0, 1] : List Int).map V.int)) := upd_same
      generalize upd H2 q2 (.tup [.int (-1), .int 0, .int 1]) = H3 at e3 h2
      refine ⟨q2, rfl, ⟨_, SqT.of h2⟩, ?_⟩
      refine mk (fun (m : Int) x => x = V.int m) e3 (Rd.walk_tupM (K := K) (a := q2) (xs := ([-1, 0, 1] : List Int)) (emb := V.int)) Rd.yat (fun H' _ e => ?_) ?_
      · have e4 := e q2 (.tup (([-1, 0, 1] : List Int).map V.int)) (by rw [Rd.hid_ne (by simp; exact fun z => by rw [z, hacc2] at hq2; cases hq2)]; exact h2)
        exact SqT.of (Rd.hid_at e4).1
      rintro j q x H5 acc hj rfl e5 _ hD5 Qy Qn ky kn
      walk_at "go"
      refine ⟨rfl, ?_⟩
      walk_at "go"
      refine ⟨_, _, rfl, fun t ht => ?_⟩
      exact ky _ _ (Ext.upd ht) rfl (PT.new hD5 ht)
    intro ys H2 e2 hys pr
    have pr2 : Paired (fun p y => PT (Rd.hid [D] H2) p y) (near b) ys := by
      rw [near_eq]
      exact Rd.paired_mapl (f := fun p : Int × Int => resOf (lv + p.1) (b.1 - b.2 + p.2)) (xs := ([0, 1] : List Int).flatMap fun a => (([-1, 0, 1] : List Int).filter fun _ => true).map fun b => (a, b)) pr
    have pl := PL.of hys pr2
    clear pr pr2 hys ys
    obtain ⟨ys, hys, pr⟩ := pl
    have en := Rd.ext_free e1 hD
    walk_at "go"
    refine ⟨D, rfl, ⟨_, SqL.of hys⟩, fun D2 hD2 => ?_⟩
    refine Rd.lcB (Rd.walk_lB (K := K) (a := D) pr) (PT H2) (Rd.yB pr) (by rw [near_eq]; exact Nat.lt_of_le_of_lt (Nat.le_of_eq (rfl : _ = 6)) (by decide)) (fun x => decide (core x t = x) && decide (core x (t - 1) = b)) (fun p y H => PT H p y) (fun _ _ _ _ e h => h.ext e) hD2 (fun H' e => SqL.of (e _ _ hys)) ?_ ?_
    · rintro i p x H3 acc hi hx e3 ha Qy Qn ky kn
      have hx3 := hx.ext e3
      have hb3 := hb.ext ((e1.trans e2).trans e3)
      walk_at "go"
      refine ⟨rfl, ?_⟩
      walk_at "go"
      refine ⟨x, p, t, rfl, hx3, fun a ha2 => ?_⟩
      walk_at "go"
      refine Rd.eqD encP_ok (dp_new upd_same) (dp_pt (hx3.ext (Ext.upd ha2))) ?_
      walk_at "go"
      refine Rd.ited (fun c1 => ?_) (fun c1 => ?_)
      · walk_at "go"
        refine ⟨x, p, t - 1, rfl, hx3.ext (Ext.upd ha2), fun a3 ha3 => ?_⟩
        walk_at "go"
        refine Rd.eqD encP_ok (dp_new upd_same) (dp_pt (hb3.ext ((Ext.upd ha2).trans (Ext.upd ha3)))) ?_
        walk_at "go"
        refine Rd.ited (fun c2 => ?_) (fun c2 => ?_)
        · walk_at "go"
          exact ky _ _ ((Ext.upd ha2).trans (Ext.upd ha3)) (by rw [decide_eq_true c1, decide_eq_true c2]; rfl) (hx.keep hD2 (e3.trans ((Ext.upd ha2).trans (Ext.upd ha3))))
        · exact kn _ ((Ext.upd ha2).trans (Ext.upd ha3)) (by rw [decide_eq_false c2, Bool.and_false])
      · walk_at "go"
        exact kn _ (Ext.upd ha2) (by rw [decide_eq_false c1, Bool.false_and])
    · intro zs H3 e3 hzs pr3
      exact k D2 H3 ((e1.trans e2).trans e3) (Rd.ext_free (e1.trans e2) hD2) (PL.of hzs pr3)
def sp_is_whole : Sp := fun vs H Q _ => ∃ (d : Addr) (S : Pr → Bool) (v : V) (b : Pr) (t : Int), vs = [.ref d, v, .int t] ∧ KD H d S ∧ PT H b v ∧ ∀ H', Ext H H' → Q (.bl (whole S b t)) H'
theorem split_len (b : Pr) (t : Int) : (splitC b t).length ≤ 6 := Nat.le_trans (List.length_filter_le _ _) (Nat.le_of_eq rfl)
theorem ok_is_whole (T : Tx K mg) : FnR P w K mg base (L2.CX P w) 5 (a_is_whole K) sp_is_whole := by
  refine fnr T.d_is_whole sc_is_whole (fun _ _ _ _ _ _ us hl => match us, hl with | [_, _, _], _ => rfl) (fun vs H Q E h => ?_) (fun cdv A outer s H vs Q E hr h => ?_)
  · obtain ⟨d, S, v, b, t, rfl, _⟩ := h
    rfl
  · obtain ⟨d, S, v, b, t, rfl, hd, hb, k⟩ := h
    refine ⟨_, (pss_cons (ps_setLc (i := 3) (own := [("result", 4)]) rfl sc_is_whole.nd rfl rfl rfl (GW.pi_list (K := K) (pe_cr (ok_split_at T) (hr.mono (by decide)) (kp_of T.d_split_at) (by rfl) T.g_split_at (pa_cons (pv 1) (pa_cons (pv 2) pa_nil)))) (blkOk_by (own := [("result", 4)]) (N := N_is_whole) (sc := defScope s_is_whole) (by decide +kernel)) (fun _ _ _ _ _ => (gx 4 sc_is_whole.nd)) (fun _ _ _ _ _ => pts_nil) (fun _ _ _ _ _ => (pe_cmp (pc_din hr.units1 (pv 4) (pv 0))))) (pss_one (ps_ret (pe_or (pe_cmpR (GW.niS (K := K)) pe_bl (pv 3) rfl) (pe_one (pe_cmpR (GW.niS (K := K)) pe_bl (pv 3) rfl)))))), ?_⟩
    walk_at "go"
    refine ⟨v, b, t, rfl, hb, fun l H1 e1 nl hl => ?_⟩
    obtain ⟨ys, hys, pr⟩ := hl
    refine ⟨l, rfl, ⟨_, SqL.of hys⟩, fun D hD => ?_⟩
    refine Rd.lcB (Rd.walk_lB (K := K) (a := l) pr) (PT H1) (Rd.yB pr) (Nat.lt_of_le_of_lt (split_len b t) (by decide)) (fun _ => true) (fun p y _ => y = .bl (S p)) (fun _ _ _ _ _ h => h) hD (fun H' e => SqL.of (e _ _ hys)) ?_ ?_
    · rintro i p x H2 acc hi hx e2 ha Qy Qn ky kn
      walk_at "go"
      refine ⟨rfl, ?_⟩
      walk_at "go"
      obtain ⟨o, g, eo⟩ := in_kd (hd.ext (e1.trans e2)) (hx.ext e2)
      exact ⟨d, o, rfl, g, ky _ _ Rd.ext_rfl rfl (by rw [eo])⟩
    · intro zs H2 e2 hzs pr2
      have q := Rd.paired_map pr2
      rw [List.filter_eq_self.mpr (fun _ _ => rfl)] at q
      have q2 : zs = ((splitC b t).map S).map V.bl := by rw [q, List.map_map]; rfl
      subst q2
      have k2 := k H2 (e1.trans e2)
      unfold whole at k2
      walk_at "go"
      refine ⟨D, _, rfl, .inl (SqL.of hzs), rfl, flat_bls, ?_⟩
      refine ⟨_, rfl, ?_⟩
      rw [if_pos rfl, inV_bl]
      refine Rd.iteb (fun c => ?_) (fun c => ?_)
      · rw [c, Bool.true_or] at k2
        exact k2
      · rw [c, Bool.false_or] at k2
        walk_at "go"
        refine ⟨D, _, rfl, .inl (SqL.of hzs), rfl, flat_bls, ?_⟩
        rw [if_pos rfl, inV_bl]
        exact k2
def sp_least_reach : Sp := fun vs H Q _ => ∃ (d : Addr) (S : Pr → Bool) (r : Nat), vs = [.ref d, .int r] ∧ r ≤ 60 ∧ KD H d S ∧ ∀ H', Ext H H' → Q (.int (least S r : Nat)) H'
theorem ok_least_reach (T : Tx K mg) : FnR P w K mg base (L2.CX P w) 6 (a_least_reach K) sp_least_reach := by
  refine fnr T.d_least_reach sc_least_reach (fun _ _ _ _ _ _ us hl => match us, hl with | [_, _], _ => rfl) (fun vs H Q E h => ?_) (fun cdv A outer s H vs Q E hr h => ?_)
  · obtain ⟨d, S, r, rfl, _⟩ := h
    rfl
  · obtain ⟨d, S, r, rfl, h60, hd, k⟩ := h
    refine ⟨_, (pss_cons (ps_for (passes_of rfl) rfl (pi_range1 (by rfl) T.f_range (pa_cons (pv 1) pa_nil)) (gx 2 sc_least_reach.nd) (pss_one (ps_for (passes_of rfl) rfl (GW.pi_list (K := K) (pe_cr (ok_all_cores T) (hr.mono (by decide)) (kp_of T.d_all_cores) (by rfl) T.g_all_cores (pa_cons (pe_op op_sub (pe_op op_sub (pv 1) (pv 2)) pe_int) pa_nil))) (gx 3 sc_least_reach.nd) (pss_one (ps_if (pt_not (pt_val (pe_cr (ok_is_whole T) (hr.mono (by decide)) (kp_of T.d_is_whole) (by rfl) T.g_is_whole (pa_cons (pv 0) (pa_cons (pv 3) (pa_cons (pe_op op_sub (pv 1) (pv 2)) pa_nil)))))) (pss_one (ps_ret (pe_op op_sub (pv 1) (pv 2)))) pss_nil))))) (pss_one (ps_ret pe_int))), ?_⟩
    walk_at "go"
    refine ⟨_, rfl, by omega, by omega, ?_⟩
    rw [Int.toNat_natCast]
    refine for_range (fun i σ H' => ∃ v2 v3, σ = [some (.ref d), some (.int r), v2, v3] ∧ Ext H H' ∧ i ≤ r ∧ least S r = least S (r - i)) ⟨_, _, rfl, Rd.ext_rfl, Nat.zero_le _, rfl⟩ ?_ ?_
    · rintro i σ H1 hi ⟨v2, v3, rfl, e1, _, el⟩
      obtain ⟨t, ht⟩ : ∃ t, r - i = t + 1 := ⟨r - i - 1, by omega⟩
      rw [ht] at el
      have ei1 : (r : Int) - (0 + (i : Int)) - 1 = (t : Nat) := by omega
      have ei2 : (r : Int) - (0 + (i : Int)) = ((t + 1 : Nat) : Int) := by omega
      walk_at "go"
      rw [ei1]
      refine ⟨t, rfl, by omega, fun l H2 e2 nl hl => ?_⟩
      obtain ⟨ys, hys, pr⟩ := hl
      refine ⟨l, rfl, ⟨_, SqL.of hys⟩, ?_⟩
      refine for_list (xs := ys) (fun j σ H' => ∃ v3, σ = [some (.ref d), some (.int r), some (.int (0 + (i : Int))), v3] ∧ Ext H2 H' ∧ ∀ b ∈ (allC t).take j, whole S b ((t + 1 : Nat) : Int) = true) ⟨_, rfl, Rd.ext_rfl, by simp⟩ ?_ ?_ ?_
      · rintro j σ H' _ ⟨_, _, e, _⟩
        exact SqL.of (e _ _ hys)
      · rintro j x σ H3 hx ⟨v3, rfl, e3, hw⟩
        obtain ⟨b, hb, hbx⟩ := Rd.paired_back pr hx
        walk_at "go"
        rw [ei2]
        refine ⟨d, S, x, b, _, rfl, hd.ext ((e1.trans e2).trans e3), hbx.ext e3, fun H4 e4 => ?_⟩
        walk_at "go"
        cases c : whole S b ((t + 1 : Nat) : Int) with
        | true =>
          walk_at "go"
          refine ⟨_, rfl, e3.trans e4, fun b' hb' => ?_⟩
          rw [Rd.take_snoc hb] at hb'
          rcases List.mem_append.mp hb' with h | h
          · exact hw b' h
          · rw [List.mem_singleton.mp h]; exact c
        | false =>
          walk_at "go"
          rw [ei2]
          have no : least S (t + 1) = t + 1 := by
            unfold least
            rw [if_neg]
            intro h
            have := List.all_eq_true.mp h b (List.mem_of_getElem? hb)
            rw [c] at this
            cases this
          have := k H4 (((e1.trans e2).trans e3).trans e4)
          rw [el, no] at this
          exact this
      · rintro σ H3 ⟨v3, rfl, e3, hw⟩
        rw [← Rd.paired_len pr, List.take_length] at hw
        have yes : least S (t + 1) = least S t := by
          conv => lhs; unfold least
          rw [if_pos (List.all_eq_true.mpr fun b hb => hw b hb)]
        exact ⟨_, _, rfl, (e1.trans e2).trans e3, by omega, by rw [el, yes]; congr 1; omega⟩
    · rintro σ H1 ⟨v2, v3, rfl, e1, _, el⟩
      walk_at "go"
      have := k H1 e1
      rw [el, Nat.sub_self] at this
      exact this
end
end Lv

set_option Elab.async false
set_option linter.all false
set_option maxRecDepth 100000
set_option maxHeartbeats 0
/-! An error of the text with one field. -/
namespace Lv
open PySem PySem.Spec PyProof.Rows L2 OwX
/-! ### an error with one field -/
/-- an error's __init__ stores its one value -/
def sp_ex (C : Addr) (f : Str) : Sp := fun vs H Q _ => ∃ (a : Addr) (v : V), vs = [.ref a, v] ∧ H a = some (exo a C none) ∧ ∀ dx, H dx = none → dx ≠ a → Q .non (upd (upd H dx (exd dx [(f, v)])) a (exo a C (some dx)))
theorem mk_ex {C : Addr} {f : Str} {ta : TA} {σ : L2.St} {H : Hp} {W : XK} (h : ta σ H fun vs H1 => ∃ v, vs = [v] ∧ ∀ d, H1 d = none → W (.ref C) (some d) (upd H1 d (.xd [(f, v)]))) (mono : ∀ R R' : List V → Hp → Prop, (∀ vs H, R vs H → R' vs H) → ta σ H R → ta σ H R') : tMkO C (sp_ex C f) [] ta σ H W := by
  refine mono _ _ (fun vs H1 q => ?_) h
  obtain ⟨v, rfl, q⟩ := q
  refine ⟨(show 1 ≤ 1000 by decide), fun a ha => ⟨a, v, rfl, upd_same, fun dx hd ne => ⟨rfl, ?_⟩⟩⟩
  rw [upd_ne ne] at hd
  refine ⟨dx, [(f, v)], upd_same, by rw [upd_ne ne, upd_same], hd, ?_⟩
  have e : upd (del (upd (upd (upd H1 a (exo a C none)) dx (exd dx [(f, v)])) a (exo a C (some dx))) a) dx (.xd [(f, v)]) = upd H1 dx (.xd [(f, v)]) := by
    funext b
    by_cases h1 : b = dx
    · rw [h1, upd_same, upd_same]
    · rw [upd_ne h1, upd_ne h1]
      by_cases h2 : b = a
      · rw [h2, del_same, ha]
      · rw [del_ne h2, upd_ne h2, upd_ne h1, upd_ne h2]
  rw [e]
  exact q dx hd
theorem raise_ex {C : Addr} {f : Str} {i : Nat} {σ : L2.St} {H : Hp} {v : V} {W : XK} (hv : σ[i]? = some (some v)) (k : ∀ d, H d = none → W (.ref C) (some d) (upd H d (.xd [(f, v)]))) : tMkO C (sp_ex C f) [] (tCons (tVar i) tNil) σ H W :=
  mk_ex ⟨v, hv, v, rfl, k⟩ fun R R' m ⟨u, h1, h2⟩ => ⟨u, h1, m _ _ h2⟩
end Lv

set_option Elab.async false
set_option linter.all false
set_option maxRecDepth 100000
set_option maxHeartbeats 0
/-! The class Results. -/
namespace Lv
open PySem PySem.Spec PyProof.Rows L2 OwX Rs
local macro_rules | `(tactic| walk_at "side") => `(tactic| first
  | exact (show CMul _ _ from .inl ⟨by decide, by decide⟩) | exact (show CMul _ _ from .inr ⟨by decide, by decide⟩) | exact (show CMul _ _ from .inl ⟨by omega, by omega⟩) | exact (show CMul _ _ from .inr ⟨by omega, by omega⟩)
  | exact (show CPow _ _ from ⟨by decide, by decide, by decide⟩)
  | exact (show CDiv _ _ from ⟨by decide, by decide⟩) | exact (show CDiv _ _ from ⟨by omega, by omega⟩)
  | exact (show (0 : Int) < _ by decide) | exact (show (0 : Int) < _ by omega) | exact (show ¬ (_ : Int) = 0 by decide) | exact (show ¬ (_ : Int) = 0 by omega) | assumption)
local macro_rules | `(tactic| walk_at "hp") => `(tactic| first
  | assumption | exact upd_same
  | (refine' SqL.of ?h1; (case h1 => walk_at "hp")) | (refine' SqT.of ?h1; (case h1 => walk_at "hp"))
  | (refine' Rd.new_app ?h1 ?h2; (case h1 => assumption); (case h2 => walk_at "hp"))
  | (refine' Rd.upd_app ?h1 ?h2; (case h1 => first | assumption | exact Ne.symm (by assumption)); (case h2 => walk_at "hp"))
  | (refine' Rd.ext_app ?h1 ?h2; (case h1 => assumption); (case h2 => walk_at "hp"))
  | (refine' Rd.ext_L ?h1 ?h2; (case h1 => assumption); (case h2 => walk_at "hp"))
  | (refine' Rd.ext_T ?h1 ?h2; (case h1 => assumption); (case h2 => walk_at "hp")))
local macro_rules | `(tactic| walk_at "go") => `(tactic| repeat (first
  | with_reducible refine Rd.con ?_
  | ((with_reducible refine' Rd.var ?h1 ?_); (case h1 => rfl))
  | with_reducible refine Rd.op ?_
  | with_reducible refine Rd.un ?_
  | with_reducible refine Rd.i0 ?_
  | with_reducible refine Rd.iu ?_
  | ((with_reducible refine Rd.iC ?h1 ?_); (case h1 => walk_at "side"))
  | with_reducible refine Rd.nil ?_
  | with_reducible refine Rd.cons ?_
  | with_reducible refine Rd.cb ?_
  | with_reducible refine Rd.int1 ?_
  | with_reducible refine Rd.intB ?_
  | with_reducible refine Rd.maxI ?_
  | with_reducible refine Rd.minI ?_
  | with_reducible refine Rd.blx ?_
  | with_reducible refine Rd.tst ?_
  | with_reducible refine Rd.tb_ ?_
  | with_reducible refine Rd.not_ ?_
  | with_reducible refine Rd.and_ ?_
  | with_reducible refine Rd.or_ ?_
  | with_reducible refine Rd.ifx ?_
  | with_reducible refine Rd.chain ?_
  | with_reducible refine Rd.andV ?_
  | with_reducible refine Rd.orV ?_
  | with_reducible refine Rd.notV ?_
  | with_reducible refine Rd.seq ?_
  | with_reducible refine Rd.asg ?_
  | with_reducible refine Rd.name ?_
  | with_reducible refine Rd.ret ?_
  | with_reducible refine Rd.ifS ?_
  | with_reducible refine Rd.next ?_
  | with_reducible refine Rd.drop ?_
  | with_reducible refine Rd.gsub ?_
  | with_reducible refine Rd.cr ?_
  | with_reducible refine Rd.crX ?_
  | with_reducible refine Rd.ixOS ?_
  | ((with_reducible refine' Rd.xfv ?h1 ?h2 ?h3 ?_); (case h1 => walk_at "hp"); (case h2 => rfl); (case h3 => rfl))
  | ((with_reducible refine' Rd.bmLv ?h1 ?h2 ?_); (case h1 => rfl); (case h2 => walk_at "hp"))
  | ((with_reducible refine' Rd.countL ?h1 ?_); (case h1 => walk_at "hp"))
  | ((with_reducible refine' Rd.sumL ?h1 ?_); (case h1 => walk_at "hp"))
  | ((with_reducible refine' Rd.listL ?h1 ?_); (case h1 => walk_at "hp"))
  | ((with_reducible refine' Rd.listT ?h1 ?_); (case h1 => walk_at "hp"))
  | with_reducible refine Rd.isNn ?_
  | with_reducible refine Rd.isNr ?_
  | with_reducible refine Rd.notNn ?_
  | with_reducible refine Rd.notNr ?_
  | with_reducible refine Rd.isB ?_
  | with_reducible refine Rd.notBtt ?_
  | with_reducible refine Rd.notBff ?_
  | with_reducible refine Rd.notBtf ?_
  | with_reducible refine Rd.notBft ?_
  | with_reducible refine Rd.notB ?_
  | with_reducible refine Rd.smeth ?_
  | with_reducible refine Rd.sl ?_
  | with_reducible refine Rd.po0 ?_
  | with_reducible refine Rd.poI ?_
  | with_reducible refine Rd.ixi ?_
  | with_reducible refine Rd.par ?_
  | with_reducible refine Rd.par2 ?_
  | with_reducible refine Rd.mkRS ?_
  | with_reducible refine Rd.callRS ?_
  | with_reducible refine Rd.mk ?_
  | with_reducible refine Rd.mkX ?_
  | with_reducible refine Rd.sF ?_
  | with_reducible refine Rd.dIn ?_
  | with_reducible refine Rd.dNi ?_
  | with_reducible refine Rd.dctL ?_
  | with_reducible refine Rd.dctT ?_
  | with_reducible refine Rd.forE ?_
  | with_reducible refine Rd.lc2T ?_
  | with_reducible refine Rd.lc2L ?_
  | with_reducible refine Rd.lc2R ?_
  | with_reducible refine Rd.inR2 ?_
  | with_reducible refine Rd.inR1 ?_
  | with_reducible refine Rd.inT ?_
  | with_reducible refine Rd.inL ?_
  | with_reducible refine Rd.lcT ?_
  | with_reducible refine Rd.lcL ?_
  | with_reducible refine Rd.lcR ?_
  | with_reducible refine Rd.forT ?_
  | with_reducible refine Rd.forL ?_
  | with_reducible refine Rd.forR ?_
  | with_reducible refine Rd.yes ?_
  | with_reducible refine iteT ?_
  | with_reducible refine iteF ?_
  | with_reducible refine Rd.iteNT ?_
  | with_reducible refine Rd.iteNF ?_
  | with_reducible refine Rd.tup ?_
  | with_reducible refine Rd.lst ?_
  | ((with_reducible refine Rd.eqs ?h1 ?_); (case h1 => rfl))
  | ((with_reducible refine Rd.nes ?h1 ?_); (case h1 => rfl))
  | ((with_reducible refine' Rd.ixL ?h1 ?h2 ?_); (case h1 => walk_at "hp"); (case h2 => first | rfl | assumption))
  | ((with_reducible refine' Rd.ixT ?h1 ?h2 ?_); (case h1 => walk_at "hp"); (case h2 => first | rfl | assumption))
  | ((with_reducible refine' Rd.lenL ?h1 ?_); (case h1 => walk_at "hp"))
  | ((with_reducible refine' Rd.lenT ?h1 ?_); (case h1 => walk_at "hp"))
  | ((with_reducible refine' Rd.setL ?h1 ?h2 ?_); (case h1 => walk_at "hp"); (case h2 => first | rfl | assumption))))
abbrev CR (K : PySem.W.Frag) : Addr := He.ga K "Results"
def fsR (s : Nat) (q d : Addr) : List (Str × V) := [("span", .int s), ("kept", .ref q), ("known", .ref d)]
theorem fsR1 (s : Nat) (q d : Addr) : (fsR s q d).lookup ("span" : Str) = some (.int s) := by unfold fsR; simp [List.lookup]
theorem fsR2 (s : Nat) (q d : Addr) : (fsR s q d).lookup ("kept" : Str) = some (.ref q) := by unfold fsR; rfl
theorem fsR3 (s : Nat) (q d : Addr) : (fsR s q d).lookup ("known" : Str) = some (.ref d) := by unfold fsR; rfl
/-- the set of the results whose core at s is among ks -/
def RsAt (K : PySem.W.Frag) (H : Hp) (a : Addr) (s : Nat) (ks : List Pr) : Prop := ∃ dx q d, H a = some (.ins (CR K) dx (fsR s q d)) ∧ PU H q ks ∧ KD H d (fun p => decide (p ∈ ks))
theorem RsAt.ext {K : PySem.W.Frag} {H H' : Hp} {a : Addr} {s : Nat} {ks : List Pr} (h : RsAt K H a s ks) (e : Ext H H') : RsAt K H' a s ks := by
  obtain ⟨dx, q, d, h1, h2, h3⟩ := h
  exact ⟨dx, q, d, e _ _ h1, h2.ext e, h3.ext e⟩
/-- the first with a negative number -/
def badAt (ms : List Pr) (i : Nat) : Prop := (∃ p, ms[i]? = some p ∧ ¬ nn p) ∧ ∀ j p, j < i → ms[j]? = some p → nn p
section
variable {base : Heap} {P : Program} {w : World} {mg : Str → Option Value} {K : PySem.W.Frag}
theorem ok_BadReach (T : Tx K mg) : ∃ fd, FnOk P w K mg base (L2.CX P w) 1 (a_BadReach_init K) fd P_BadReach_init (sp_ex (He.ga K "BadReach") "number") ∧ Binds K fd P_BadReach_init [] := by
  refine fnok T.d_BadReach_init sc_BadReach_init (fun _ _ _ _ _ _ us hl => match us, hl with | [_, _], _ => rfl) (fun vs H Q E h => ?_) (fun cdv A outer s H vs Q E hr h => ?_)
  · obtain ⟨a, v, rfl, _⟩ := h
    rfl
  · obtain ⟨a, v, rfl, ha, k⟩ := h
    refine ⟨_, pss_one (ps_ost (pv 0) (pv 1)), ?_⟩
    exact ⟨_, rfl, _, rfl, a, _, rfl, T.x_BadReach.ox, T.n_BadReach_number, .inl ⟨ha, fun dx hd ne => k dx hd ne⟩⟩
theorem ok_BadResult (T : Tx K mg) : ∃ fd, FnOk P w K mg base (L2.CX P w) 1 (a_BadResult_init K) fd P_BadResult_init (sp_ex (He.ga K "BadResult") "index") ∧ Binds K fd P_BadResult_init [] := by
  refine fnok T.d_BadResult_init sc_BadResult_init (fun _ _ _ _ _ _ us hl => match us, hl with | [_, _], _ => rfl) (fun vs H Q E h => ?_) (fun cdv A outer s H vs Q E hr h => ?_)
  · obtain ⟨a, v, rfl, _⟩ := h
    rfl
  · obtain ⟨a, v, rfl, ha, k⟩ := h
    refine ⟨_, pss_one (ps_ost (pv 0) (pv 1)), ?_⟩
    exact ⟨_, rfl, _, rfl, a, _, rfl, T.x_BadResult.ox, T.n_BadResult_index, .inl ⟨ha, fun dx hd ne => k dx hd ne⟩⟩
def sp_Results_init (K : PySem.W.Frag) : Sp := fun vs H Q E => ∃ (x dx l : Addr) (reach : Int) (ms : List Pr), vs = [.ref x, .int reach, .ref l] ∧ H x = some (.ins (CR K) dx []) ∧ PL H l ms ∧ ms.length ≤ 20000 ∧
  (¬ (0 ≤ reach ∧ reach ≤ 60) → ∀ d, H d = none → E (.ref (He.ga K "BadReach")) (some d) (upd H d (.xd [("number", .int reach)]))) ∧
  (0 ≤ reach → reach ≤ 60 → ∀ i, badAt ms i → ∀ d H', Ext H H' → H' d = none → E (.ref (He.ga K "BadResult")) (some d) (upd H' d (.xd [("index", .int (i : Nat))]))) ∧
  (0 ≤ reach → reach ≤ 60 → (∀ p ∈ ms, nn p) → ∀ H', (∀ b o, b ≠ x → H b = some o → H' b = some o) → RsAt K H' x (span ms reach.toNat) (kept ms reach.toNat) → Q .non H')
theorem ok_Results_init (T : Tx K mg) : FnR P w K mg base (L2.CX P w) 7 (a_Results_init K) (sp_Results_init K) := by
  obtain ⟨fdN_BadReach, FN_BadReach, bN_BadReach⟩ := ok_BadReach (P := P) (w := w) (base := base) T
  obtain ⟨fdN_BadResult, FN_BadResult, bN_BadResult⟩ := ok_BadResult (P := P) (w := w) (base := base) T
  refine fnr T.d_Results_init sc_Results_init (fun _ _ _ _ _ _ us hl => match us, hl with | [_, _, _], _ => rfl) (fun vs H Q E h => ?_) (fun cdv A outer s H vs Q E hr h => ?_)
  · obtain ⟨x, dx, l, reach, ms, rfl, _⟩ := h
    rfl
  · obtain ⟨x, dx, l, reach, ms, rfl, hx, hl, hms, k1, k2, k3⟩ := h
    refine ⟨_, (pss_cons (ps_if (pt_not (pt_chain op_le op_le pe_int (pv 1) (C8.pe_gc (by rfl) (OwX.gcI T.v_MOST_REACH)))) (pss_one (ps_raise rfl (takes_of rfl rfl rfl rfl) (pmk_oex T.x_BadReach.ox T.x_BadReach.it T.x_BadReach.ti FN_BadReach (hr.mono (by decide)) bN_BadReach .nil passL (by rfl) T.g_BadReach (pa_cons (pv 1) pa_nil)))) pss_nil) (pss_cons (ps_for (passes_of rfl) rfl (GW.enum (K := K) (by rfl) T.f_enumerate (pa_cons (pv 2) pa_nil)) (GW.tup (K := K) (n := 2) rfl (pgs_cons (gx 3 sc_Results_init.nd) (pgs_cons (gx 4 sc_Results_init.nd) pgs_nil))) (pss_one (ps_if (PW.pt (pw_or (pt_cmpR op_lt (pe_ix (GW.ixT (K := K)) (pv 4) pe_int (fun _ _ => rfl)) pe_int (nomark _)) (pw_or1 (pt_cmpR op_lt (pe_ix (GW.ixT (K := K)) (pv 4) pe_int (fun _ _ => rfl)) pe_int (nomark _))))) (pss_one (ps_raise rfl (takes_of rfl rfl rfl rfl) (pmk_oex T.x_BadResult.ox T.x_BadResult.it T.x_BadResult.ti FN_BadResult (hr.mono (by decide)) bN_BadResult .nil passL (by rfl) T.g_BadResult (pa_cons (pv 3) pa_nil)))) pss_nil))) (pss_cons (sx 5 sc_Results_init.nd (pe_dct (own := [("result", 4)]) hr.units0 rfl sc_Results_init.nd (GW.pi_list (K := K) (pv 2)) (blkOk_by (own := [("result", 4)]) (N := N_Results_init) (sc := defScope s_Results_init) (by decide +kernel)) (fun _ _ _ _ _ => (gx 4 sc_Results_init.nd)) (fun _ _ _ _ _ => pts_nil) (fun _ _ _ _ _ => (pe_cr (ok_core T) (hr.mono (by decide)) (kp_of T.d_core) (by rfl) T.g_core (pa_cons (pv 4) (pa_cons (pv 1) pa_nil)))) (fun _ _ _ _ _ => pe_bl))) (pss_cons (ps_fld (pv 0) (pe_cr (ok_least_reach T) (hr.mono (by decide)) (kp_of T.d_least_reach) (by rfl) T.g_least_reach (pa_cons (pv 5) (pa_cons (pv 1) pa_nil))) rfl) (pss_cons (ps_fld (pv 0) (pe_callTy (Rd.c_tuple (K := K)) (by rfl) T.f_tuple Rd.bt_tuple (pa_cons (pe_lc (own := [("result", 4)]) rfl sc_Results_init.nd (GW.pi_list (K := K) (pe_cr (ok_all_cores T) (hr.mono (by decide)) (kp_of T.d_all_cores) (by rfl) T.g_all_cores (pa_cons (GW.fld (K := K) (pv 0)) pa_nil))) (blkOk_by (own := [("result", 4)]) (N := N_Results_init) (sc := defScope s_Results_init) (by decide +kernel)) (fun _ _ _ _ _ => (gx 4 sc_Results_init.nd)) (fun _ _ _ _ _ => (pts_one (pt_cmp (pc_din hr.units1 (pv 4) (pv 5))))) (fun _ _ _ _ _ => (pv 4))) pa_nil)) rfl) (pss_one (ps_fld (pv 0) (pe_dct (own := [("result", 4)]) hr.units0 rfl sc_Results_init.nd (GW.pi_tup (K := K) (GW.fld (K := K) (pv 0))) (blkOk_by (own := [("result", 4)]) (N := N_Results_init) (sc := defScope s_Results_init) (by decide +kernel)) (fun _ _ _ _ _ => (gx 4 sc_Results_init.nd)) (fun _ _ _ _ _ => pts_nil) (fun _ _ _ _ _ => (pv 4)) (fun _ _ _ _ _ => pe_bl)) rfl))))))), ?_⟩
    obtain ⟨ys, hys, pr⟩ := hl
    have nlx : l ≠ x := ne_of hys hx (by intro z; cases z)
    have bad : ¬ (0 ≤ reach ∧ reach ≤ 60) → tMkO (He.ga K "BadReach") (sp_ex (He.ga K "BadReach") "number") [] (tCons (tVar 1) tNil) (L2.start N_Results_init [.ref x, .int reach, .ref l]) H fun cls d H' => E cls d H' := fun c => raise_ex rfl (k1 c)
    walk_at "go"
    refine Rd.ited (fun c1 => ?_) (fun c1 => ?_)
    rotate_left
    · walk_at "go"
      exact bad (by omega)
    walk_at "go"
    refine Rd.iten (fun c2 => bad (by omega)) (fun c2 => ?_)
    obtain ⟨r, rfl⟩ : ∃ r : Nat, reach = r := ⟨reach.toNat, by omega⟩
    rw [Int.toNat_natCast] at k3
    walk_at "go"
    refine ⟨l, ys, rfl, SqL.of hys, ?_⟩
    refine for_it (walk_enum (K := K) (a := l) (xs := ys)) (fun i σ H' => ∃ v3 v4, σ = [some (.ref x), some (.int r), some (.ref l), v3, v4, none] ∧ Ext H H' ∧ ∀ j p, j < i → ms[j]? = some p → nn p) ⟨_, _, rfl, Rd.ext_rfl, fun _ _ h => absurd h (Nat.not_lt_zero _)⟩ ?_ ?_ ?_
    · rintro i σ H' _ ⟨_, _, _, e, _⟩
      exact SqL.of (e _ _ hys)
    · rintro i v σ H1 H2 hi ⟨v3, v4, rfl, e1, hg⟩ ⟨t, ix, y, rfl, nt, rfl, eix, hy⟩
      obtain rfl := Option.some.inj eix
      obtain ⟨p, hp, hpy⟩ := Rd.paired_back pr hy
      have e2 : Ext H (upd H1 t (.tup [.int (i : Nat), y])) := e1.trans (Ext.upd nt)
      obtain ⟨a, rfl, ha⟩ := hpy.ext e2
      refine ⟨t, _, rfl, SqT.of upd_same, rfl, _, _, rfl, _, _, rfl, rfl, ?_⟩
      generalize upd H1 t (.tup [.int (i : Nat), .ref a]) = H3 at e2 ha
      have raised : ¬ nn p → tMkO (He.ga K "BadResult") (sp_ex (He.ga K "BadResult") "index") [] (tCons (tVar 3) tNil) [some (.ref x), some (.int r), some (.ref l), some (.int (i : Nat)), some (.ref a), none] H3 fun cls d H' => E cls d H' :=
        fun c => raise_ex rfl fun d hd => k2 (by omega) c2 i ⟨⟨p, hp, c⟩, hg⟩ d H3 e2 hd
      walk_at "go"
      refine Rd.ited (fun c3 => ?_) (fun c3 => ?_)
      · walk_at "go"
        exact raised fun z => by have := z.1; omega
      walk_at "go"
      refine Rd.ited (fun c4 => ?_) (fun c4 => ?_)
      · exact raised fun z => by have := z.2; omega
      walk_at "go"
      refine ⟨_, _, rfl, e2, fun j q hj hq => ?_⟩
      by_cases ej : j = i
      · subst ej
        rw [hp] at hq
        cases hq
        exact ⟨by omega, by omega⟩
      · exact hg j q (by omega) hq
    rintro σ H1 ⟨v3, v4, rfl, e1, hg⟩
    have all : ∀ p ∈ ms, nn p := fun p hp => by
      obtain ⟨j, hj⟩ := List.getElem?_of_mem hp
      have : j < ys.length := by
        rw [← Rd.paired_len pr]
        exact (List.getElem?_eq_some_iff.mp hj).1
      exact hg j p this hj
    have k4 := k3 (by omega) c2 all
    have hys1 := e1 _ _ hys
    have hx1 := e1 _ _ hx
    have pr1 := Rd.paired_imp (fun _ _ (h : PT H _ _) => h.ext e1) pr
    walk_at "go"
    refine ⟨l, rfl, ⟨_, SqL.of hys1⟩, fun D hD => ?_⟩
    refine Rd.dcP (Rd.walk_lB (K := K) (a := l) pr1) (PT H1) (Rd.yB pr1) (by omega) (fun p => [.inl (core p r).1, .inl (core p r).2]) hD (fun H' e => SqL.of (e _ _ hys1)) ?_ ?_
    · intro i p y H2 kvs hp hB e2 hk Rk kk
      walk_at "go"
      refine ⟨rfl, ?_⟩
      walk_at "go"
      refine ⟨y, p, r, rfl, hB.ext e2, fun t ht => ?_⟩
      exact kk _ _ _ upd_same (Ext.upd ht)
    intro kvs H2 e2 hk hv
    have hx2 := e2 _ _ hx1
    have kd : KD H2 D (givenS ms r) := ⟨kvs, hk, fun p => by
      rw [Bool.eq_iff_iff, hv]
      unfold givenS
      rw [decide_eq_true_iff, List.mem_map, List.mem_map]
      exact ⟨fun ⟨m, h1, h2⟩ => ⟨m, h1, by
        have h3 : (core m r).1 = p.1 := by injection h2 with h4 h5; exact Sum.inl.inj h4
        have h4 : (core m r).2 = p.2 := by injection h2 with _ h5; injection h5 with h6 _; exact Sum.inl.inj h6
        exact Prod.ext h3 h4⟩, fun ⟨m, h1, h2⟩ => ⟨m, h1, by rw [h2]⟩⟩⟩
    walk_at "go"
    refine ⟨D, _, r, rfl, by omega, kd, fun H3 e3 => ?_⟩
    have hx3 := e3 _ _ hx2
    have kd3 := kd.ext e3
    have es : least (givenS ms r) r = span ms r := rfl
    rw [es]
    walk_at "go"
    refine ⟨x, CR K, dx, [], rfl, hx3, T.c_Results, T.n_Results_span, by decide, ?_⟩
    have hx4 : (upd H3 x (.ins (CR K) dx (putF "span" (.int (span ms r : Nat)) []))) x = some (.ins (CR K) dx [("span", .int (span ms r : Nat))]) := upd_same
    have e4 : ∀ b o, b ≠ x → H b = some o → (upd H3 x (.ins (CR K) dx (putF "span" (.int (span ms r : Nat)) []))) b = some o := fun b o ne h => by
      rw [upd_ne ne]; exact e3 _ _ (e2 _ _ (e1 _ _ h))
    have nDx : D ≠ x := ne_of hk hx2 (by intro z; cases z)
    have kd4 : KD (upd H3 x (.ins (CR K) dx (putF "span" (.int (span ms r : Nat)) []))) D (givenS ms r) := by
      obtain ⟨kvs, h1, h2⟩ := kd3
      exact ⟨kvs, by rw [upd_ne nDx]; exact h1, h2⟩
    generalize upd H3 x (.ins (CR K) dx (putF "span" (.int (span ms r : Nat)) [])) = H4 at hx4 e4 kd4
    have s60 : span ms r ≤ 60 := Nat.le_trans (least_le _ _) (by omega)
    walk_at "go"
    refine Rd.fldv rfl hx4 T.c_Results T.n_Results_span rfl ?_
    walk_at "go"
    refine ⟨span ms r, rfl, s60, fun l5 H5 e5 n5 hl5 => ?_⟩
    obtain ⟨zs, hzs, pr5⟩ := hl5
    have lenC := allC_len _ s60
    refine ⟨l5, rfl, ⟨_, SqL.of hzs⟩, fun D6 hD6 => ?_⟩
    refine Rd.lcB (Rd.walk_lB (K := K) (a := l5) pr5) (PT H5) (Rd.yB pr5) (by omega) (givenS ms r) (fun p y H => PT H p y) (fun _ _ _ _ e h => h.ext e) hD6 (fun H' e => SqL.of (e _ _ hzs)) ?_ ?_
    · rintro i p y H6 acc hi hy e6 ha Qy Qn ky kn
      walk_at "go"
      refine ⟨rfl, ?_⟩
      walk_at "go"
      obtain ⟨o, g, eo⟩ := in_kd (kd4.ext (e5.trans e6)) (hy.ext e6)
      refine ⟨D, o, rfl, g, ?_⟩
      rw [eo]
      walk_at "go"
      cases c : givenS ms r p with
      | true =>
        walk_at "go"
        exact ky _ _ Rd.ext_rfl c (hy.keep hD6 e6)
      | false =>
        walk_at "go"
        exact kn _ Rd.ext_rfl c
    intro ws H6 e6 hws pr6
    have hk6 : (allC (span ms r)).filter (givenS ms r) = kept ms r := rfl
    rw [hk6] at pr6
    have hx6 := e6 _ _ (e5 _ _ hx4)
    walk_at "go"
    refine Rd.tupL (SqL.of hws) fun t ht => ?_
    have nDt : t ≠ x := fun z => by rw [z, hx6] at ht; cases ht
    have pr7 : Paired (PT (upd H6 t (.tup ws))) (kept ms r) ws := Rd.paired_imp (fun _ _ h => h.hid.ext (Ext.upd ht)) pr6
    have ht7 : (upd H6 t (.tup ws)) t = some (.tup ws) := upd_same
    have hx7 := Rd.new_app (u := .tup ws) ht hx6
    have e7 : ∀ b o, b ≠ x → H b = some o → (upd H6 t (.tup ws)) b = some o := fun b o ne h => Rd.new_app ht (e6 _ _ (e5 _ _ (e4 _ _ ne h)))
    generalize upd H6 t (.tup ws) = H7 at pr7 ht7 hx7 e7 ⊢
    walk_at "go"
    refine ⟨x, CR K, dx, _, rfl, hx7, T.c_Results, T.n_Results_kept, Nat.le_of_ble_eq_true rfl, ?_⟩
    have hx8 : (upd H7 x (.ins (CR K) dx (putF "kept" (.ref t) [("span", .int (span ms r : Nat))]))) x = some (.ins (CR K) dx [("span", .int (span ms r : Nat)), ("kept", .ref t)]) := upd_same
    have ht8 : (upd H7 x (.ins (CR K) dx (putF "kept" (.ref t) [("span", .int (span ms r : Nat))]))) t = some (.tup ws) := by rw [upd_ne nDt]; exact ht7
    have e8 : ∀ b o, b ≠ x → H b = some o → (upd H7 x (.ins (CR K) dx (putF "kept" (.ref t) [("span", .int (span ms r : Nat))]))) b = some o := fun b o ne h => by rw [upd_ne ne]; exact e7 _ _ ne h
    have pr8 : Paired (PT (upd H7 x (.ins (CR K) dx (putF "kept" (.ref t) [("span", .int (span ms r : Nat))])))) (kept ms r) ws := Rd.paired_imp (fun _ _ ⟨a, h1, h2⟩ => ⟨a, h1, by rw [upd_ne (ne_of h2 hx7 (by intro z; cases z))]; exact h2⟩) pr7
    generalize upd H7 x (.ins (CR K) dx (putF "kept" (.ref t) [("span", .int (span ms r : Nat))])) = H8 at hx8 ht8 e8 pr8
    walk_at "go"
    refine Rd.fldv rfl hx8 T.c_Results T.n_Results_kept rfl ?_
    refine ⟨t, rfl, ⟨_, SqT.of ht8⟩, fun D9 hD9 => ?_⟩
    have lenK : (kept ms r).length < 100000 := by
      have := List.length_filter_le (givenS ms r) (allC (span ms r))
      rw [hk6] at this
      omega
    refine Rd.dcP (Rd.walk_tB (K := K) (a := t) pr8) (PT H8) (Rd.yB pr8) lenK (fun p => [.inl p.1, .inl p.2]) hD9 (fun H' e => SqT.of (e _ _ ht8)) ?_ ?_
    · rintro i p y H9 kvs9 hp hB e9 hk9 Rk kk
      obtain ⟨a, rfl, ha⟩ := hB
      walk_at "go"
      refine ⟨rfl, ?_⟩
      walk_at "go"
      exact kk _ _ _ (e9 _ _ ha) Rd.ext_rfl
    intro kvs9 H9 e9 hk9 hv9
    have hx9 := e9 _ _ hx8
    walk_at "go"
    refine ⟨x, CR K, dx, _, rfl, hx9, T.c_Results, T.n_Results_known, Nat.le_of_ble_eq_true rfl, ?_⟩
    have nx9 : D9 ≠ x := ne_of hk9 hx9 (by intro z; cases z)
    refine k4 _ (fun b o ne h => by rw [upd_ne ne]; exact e9 _ _ (e8 _ _ ne h)) ⟨dx, t, D9, upd_same, ⟨ws, by rw [upd_ne nDt]; exact e9 _ _ ht8, Rd.paired_imp (fun _ _ ⟨a, h1, h2⟩ => ⟨a, h1, by rw [upd_ne (ne_of (e9 _ _ h2) hx9 (by intro z; cases z))]; exact e9 _ _ h2⟩) pr8⟩, kvs9, by rw [upd_ne nx9]; exact hk9, fun p => ?_⟩
    rw [Bool.eq_iff_iff, hv9, decide_eq_true_iff, List.mem_map]
    refine ⟨fun ⟨m, h1, h2⟩ => ?_, fun h => ⟨p, h, rfl⟩⟩
    have h3 : m.1 = p.1 := by injection h2 with h4 h5; exact Sum.inl.inj h4
    have h4 : m.2 = p.2 := by injection h2 with _ h5; injection h5 with h6 _; exact Sum.inl.inj h6
    rw [← (Prod.ext h3 h4 : m = p)]
    exact h1
end
end Lv

set_option Elab.async false
set_option linter.all false
set_option maxRecDepth 100000
set_option maxHeartbeats 0
/-! Results made, asked. -/
namespace Lv
open PySem PySem.Spec PyProof.Rows L2 OwX Rs
local macro_rules | `(tactic| walk_at "side") => `(tactic| first
  | exact (show CMul _ _ from .inl ⟨by decide, by decide⟩) | exact (show CMul _ _ from .inr ⟨by decide, by decide⟩) | exact (show CMul _ _ from .inl ⟨by omega, by omega⟩) | exact (show CMul _ _ from .inr ⟨by omega, by omega⟩)
  | exact (show CPow _ _ from ⟨by decide, by decide, by decide⟩)
  | exact (show CDiv _ _ from ⟨by decide, by decide⟩) | exact (show CDiv _ _ from ⟨by omega, by omega⟩)
  | exact (show (0 : Int) < _ by decide) | exact (show (0 : Int) < _ by omega) | exact (show ¬ (_ : Int) = 0 by decide) | exact (show ¬ (_ : Int) = 0 by omega) | assumption)
local macro_rules | `(tactic| walk_at "hp") => `(tactic| first
  | assumption | exact upd_same
  | (refine' SqL.of ?h1; (case h1 => walk_at "hp")) | (refine' SqT.of ?h1; (case h1 => walk_at "hp"))
  | (refine' Rd.new_app ?h1 ?h2; (case h1 => assumption); (case h2 => walk_at "hp"))
  | (refine' Rd.upd_app ?h1 ?h2; (case h1 => first | assumption | exact Ne.symm (by assumption)); (case h2 => walk_at "hp"))
  | (refine' Rd.ext_app ?h1 ?h2; (case h1 => assumption); (case h2 => walk_at "hp"))
  | (refine' Rd.ext_L ?h1 ?h2; (case h1 => assumption); (case h2 => walk_at "hp"))
  | (refine' Rd.ext_T ?h1 ?h2; (case h1 => assumption); (case h2 => walk_at "hp")))
local macro_rules | `(tactic| walk_at "go") => `(tactic| repeat (first
  | with_reducible refine Rd.con ?_
  | ((with_reducible refine' Rd.var ?h1 ?_); (case h1 => rfl))
  | with_reducible refine Rd.op ?_
  | with_reducible refine Rd.un ?_
  | with_reducible refine Rd.i0 ?_
  | with_reducible refine Rd.iu ?_
  | ((with_reducible refine Rd.iC ?h1 ?_); (case h1 => walk_at "side"))
  | with_reducible refine Rd.nil ?_
  | with_reducible refine Rd.cons ?_
  | with_reducible refine Rd.cb ?_
  | with_reducible refine Rd.int1 ?_
  | with_reducible refine Rd.intB ?_
  | with_reducible refine Rd.maxI ?_
  | with_reducible refine Rd.minI ?_
  | with_reducible refine Rd.blx ?_
  | with_reducible refine Rd.tst ?_
  | with_reducible refine Rd.tb_ ?_
  | with_reducible refine Rd.not_ ?_
  | with_reducible refine Rd.and_ ?_
  | with_reducible refine Rd.or_ ?_
  | with_reducible refine Rd.ifx ?_
  | with_reducible refine Rd.chain ?_
  | with_reducible refine Rd.andV ?_
  | with_reducible refine Rd.orV ?_
  | with_reducible refine Rd.notV ?_
  | with_reducible refine Rd.seq ?_
  | with_reducible refine Rd.asg ?_
  | with_reducible refine Rd.name ?_
  | with_reducible refine Rd.ret ?_
  | with_reducible refine Rd.ifS ?_
  | with_reducible refine Rd.next ?_
  | with_reducible refine Rd.drop ?_
  | with_reducible refine Rd.gsub ?_
  | with_reducible refine Rd.cr ?_
  | with_reducible refine Rd.crX ?_
  | with_reducible refine Rd.ixOS ?_
  | ((with_reducible refine' Rd.xfv ?h1 ?h2 ?h3 ?_); (case h1 => walk_at "hp"); (case h2 => rfl); (case h3 => rfl))
  | ((with_reducible refine' Rd.bmLv ?h1 ?h2 ?_); (case h1 => rfl); (case h2 => walk_at "hp"))
  | ((with_reducible refine' Rd.countL ?h1 ?_); (case h1 => walk_at "hp"))
  | ((with_reducible refine' Rd.sumL ?h1 ?_); (case h1 => walk_at "hp"))
  | ((with_reducible refine' Rd.listL ?h1 ?_); (case h1 => walk_at "hp"))
  | ((with_reducible refine' Rd.listT ?h1 ?_); (case h1 => walk_at "hp"))
  | with_reducible refine Rd.isNn ?_
  | with_reducible refine Rd.isNr ?_
  | with_reducible refine Rd.notNn ?_
  | with_reducible refine Rd.notNr ?_
  | with_reducible refine Rd.isB ?_
  | with_reducible refine Rd.notBtt ?_
  | with_reducible refine Rd.notBff ?_
  | with_reducible refine Rd.notBtf ?_
  | with_reducible refine Rd.notBft ?_
  | with_reducible refine Rd.notB ?_
  | with_reducible refine Rd.smeth ?_
  | with_reducible refine Rd.sl ?_
  | with_reducible refine Rd.po0 ?_
  | with_reducible refine Rd.poI ?_
  | with_reducible refine Rd.ixi ?_
  | with_reducible refine Rd.par ?_
  | with_reducible refine Rd.par2 ?_
  | with_reducible refine Rd.mkRS ?_
  | with_reducible refine Rd.callRS ?_
  | with_reducible refine Rd.mk ?_
  | with_reducible refine Rd.mkX ?_
  | with_reducible refine Rd.sF ?_
  | with_reducible refine Rd.dIn ?_
  | with_reducible refine Rd.dNi ?_
  | with_reducible refine Rd.dctL ?_
  | with_reducible refine Rd.dctT ?_
  | with_reducible refine Rd.forE ?_
  | with_reducible refine Rd.lc2T ?_
  | with_reducible refine Rd.lc2L ?_
  | with_reducible refine Rd.lc2R ?_
  | with_reducible refine Rd.inR2 ?_
  | with_reducible refine Rd.inR1 ?_
  | with_reducible refine Rd.inT ?_
  | with_reducible refine Rd.inL ?_
  | with_reducible refine Rd.lcT ?_
  | with_reducible refine Rd.lcL ?_
  | with_reducible refine Rd.lcR ?_
  | with_reducible refine Rd.forT ?_
  | with_reducible refine Rd.forL ?_
  | with_reducible refine Rd.forR ?_
  | with_reducible refine Rd.yes ?_
  | with_reducible refine iteT ?_
  | with_reducible refine iteF ?_
  | with_reducible refine Rd.iteNT ?_
  | with_reducible refine Rd.iteNF ?_
  | with_reducible refine Rd.tup ?_
  | with_reducible refine Rd.lst ?_
  | ((with_reducible refine Rd.eqs ?h1 ?_); (case h1 => rfl))
  | ((with_reducible refine Rd.nes ?h1 ?_); (case h1 => rfl))
  | ((with_reducible refine' Rd.ixL ?h1 ?h2 ?_); (case h1 => walk_at "hp"); (case h2 => first | rfl | assumption))
  | ((with_reducible refine' Rd.ixT ?h1 ?h2 ?_); (case h1 => walk_at "hp"); (case h2 => first | rfl | assumption))
  | ((with_reducible refine' Rd.lenL ?h1 ?_); (case h1 => walk_at "hp"))
  | ((with_reducible refine' Rd.lenT ?h1 ?_); (case h1 => walk_at "hp"))
  | ((with_reducible refine' Rd.setL ?h1 ?h2 ?_); (case h1 => walk_at "hp"); (case h2 => first | rfl | assumption))))
def inS (s : Nat) (ks : List Pr) (p : Pr) : Bool := decide (0 ≤ p.1) && (decide (0 ≤ p.2) && decide (core p s ∈ ks))
section
variable {base : Heap} {P : Program} {w : World} {mg : Str → Option Value} {K : PySem.W.Frag}
theorem mk_results {H : Hp} {l : Addr} {reach : Int} {ms : List Pr} {Q : VK} {E : XK} (hl : PL H l ms) (hms : ms.length ≤ 20000)
    (k1 : ¬ (0 ≤ reach ∧ reach ≤ 60) → ∀ d H', Ext H H' → H' d = some (.xd [("number", .int reach)]) → E (.ref (He.ga K "BadReach")) (some d) H')
    (k2 : 0 ≤ reach → reach ≤ 60 → ∀ i, badAt ms i → ∀ d H', Ext H H' → H' d = some (.xd [("index", .int (i : Nat))]) → E (.ref (He.ga K "BadResult")) (some d) H')
    (k3 : 0 ≤ reach → reach ≤ 60 → (∀ p ∈ ms, nn p) → ∀ x H', Ext H H' → H x = none → RsAt K H' x (span ms reach.toNat) (kept ms reach.toNat) → Q (.ref x) H') : Rd.MkR (CR K) (sp_Results_init K) E [.int reach, .ref l] H Q := by
  intro x dx hx hd ne
  have e : Ext H (upd (upd H dx (.own x)) x (.ins (CR K) dx [])) := (Ext.upd hd).trans (Ext.upd (by rw [upd_ne ne.symm]; exact hx))
  refine ⟨x, dx, l, reach, ms, rfl, upd_same, hl.ext e, hms, fun c d hd => ?_, fun c1 c2 i hb d H' e' hd => ?_, fun c1 c2 all H' kp R => ⟨rfl, ?_⟩⟩
  · exact k1 c d _ (e.trans (Ext.upd hd)) upd_same
  · exact k2 c1 c2 i hb d _ ((e.trans e').trans (Ext.upd hd)) upd_same
  · refine k3 c1 c2 all x H' (fun b o h => kp b o (ne_of_none h hx) (e b o h)) hx R
theorem RsAt.ins {H : Hp} {a : Addr} {s : Nat} {ks : List Pr} (h : RsAt K H a s ks) : ∃ dx fs, H a = some (.ins (CR K) dx fs) := by
  obtain ⟨dx, q, d, h1, _⟩ := h
  exact ⟨dx, _, h1⟩
def sp_Results_bool (K : PySem.W.Frag) : Sp := fun vs H Q _ => ∃ (a : Addr) (s : Nat) (ks : List Pr), vs = [.ref a] ∧ RsAt K H a s ks ∧ Q (.bl (!ks.isEmpty)) H
theorem ok_Results_bool (T : Tx K mg) : FnR P w K mg base (L2.CX P w) 1 (a_Results_bool K) (sp_Results_bool K) := by
  refine fnr T.d_Results_bool sc_Results_bool (fun _ _ _ _ _ _ us hl => match us, hl with | [_], _ => rfl) (fun vs H Q E h => ?_) (fun cdv A outer s H vs Q E hr h => ?_)
  · obtain ⟨a, n, ks, rfl, _⟩ := h
    rfl
  · obtain ⟨a, n, ks, rfl, ⟨dx, q, d, h1, ⟨vs, h2, pr⟩, h3⟩, k⟩ := h
    refine ⟨_, (pss_one (ps_ret (pe_callTy (GW.boolT (K := K)) (by rfl) T.f_bool Rd.bt_bool (pa_cons (GW.fld (K := K) (pv 0)) pa_nil)))), ?_⟩
    walk_at "go"
    refine Rd.fldv rfl h1 T.c_Results T.n_Results_kept (fsR2 _ _ _) ?_
    walk_at "go"
    refine ⟨q, vs, rfl, SqT.of h2, ?_⟩
    have e : vs.isEmpty = ks.isEmpty := by cases pr <;> rfl
    rw [e]
    exact k
def sp_Results_contains (K : PySem.W.Frag) : Sp := fun vs H Q _ => ∃ (a : Addr) (s : Nat) (ks : List Pr) (v : V) (p : Pr), vs = [.ref a, v] ∧ RsAt K H a s ks ∧ PT H p v ∧ ∀ H', Ext H H' → Q (.bl (inS s ks p)) H'
theorem ok_Results_contains (T : Tx K mg) : FnR P w K mg base (L2.CX P w) 3 (a_Results_contains K) (sp_Results_contains K) := by
  refine fnr T.d_Results_contains sc_Results_contains (fun _ _ _ _ _ _ us hl => match us, hl with | [_, _], _ => rfl) (fun vs H Q E h => ?_) (fun cdv A outer s H vs Q E hr h => ?_)
  · obtain ⟨a, n, ks, v, p, rfl, _⟩ := h
    rfl
  · obtain ⟨a, n, ks, v, p, rfl, R, hp, k⟩ := h
    obtain ⟨b, rfl, hb⟩ := id hp
    refine ⟨_, (pss_cons (ps_if (PW.pt (pw_or (pt_cmpR op_lt (pe_ix (GW.ixT (K := K)) (pv 1) pe_int (fun _ _ => rfl)) pe_int (nomark _)) (pw_or1 (pt_cmpR op_lt (pe_ix (GW.ixT (K := K)) (pv 1) pe_int (fun _ _ => rfl)) pe_int (nomark _))))) (pss_one (ps_ret pe_bl)) pss_nil) (pss_one (ps_ret (pe_cmp (pc_din hr.units1 (pe_cr (ok_core T) (hr.mono (by decide)) (kp_of T.d_core) (by rfl) T.g_core (pa_cons (pv 1) (pa_cons (GW.fld (K := K) (pv 0)) pa_nil))) (GW.fld (K := K) (pv 0))))))), ?_⟩
    unfold inS at k
    walk_at "go"
    refine Rd.ited (fun c => ?_) (fun c => ?_)
    · walk_at "go"
      rw [decide_eq_false (by omega), Bool.false_and] at k
      exact k H Rd.ext_rfl
    walk_at "go"
    rw [decide_eq_true (by omega), Bool.true_and] at k
    refine Rd.ited (fun c2 => ?_) (fun c2 => ?_)
    · walk_at "go"
      rw [decide_eq_false (by omega), Bool.false_and] at k
      exact k H Rd.ext_rfl
    rw [decide_eq_true (by omega), Bool.true_and] at k
    obtain ⟨dx, q, d, h1, h2, h3⟩ := R
    walk_at "go"
    refine Rd.fldv rfl h1 T.c_Results T.n_Results_span (fsR1 _ _ _) ?_
    walk_at "go"
    refine ⟨_, p, n, rfl, hp, fun t ht => ?_⟩
    walk_at "go"
    have e : Ext H (upd H t (.tup [.int (core p n).1, .int (core p n).2])) := Ext.upd ht
    refine Rd.fldv rfl (e _ _ h1) T.c_Results T.n_Results_known (fsR3 _ _ _) ?_
    obtain ⟨o, g, eo⟩ := in_kd (p := core p n) (h3.ext e) ⟨t, rfl, upd_same⟩
    refine ⟨d, o, rfl, g, ?_⟩
    rw [eo]
    exact k _ e
/-- x in the set -/
theorem in_rs {H : Hp} {a : Addr} {s : Nat} {ks : List Pr} {v : V} {p : Pr} {Q : VK} {E : XK} {neg : Bool} (R : RsAt K H a s ks) (hp : PT H p v) (k : ∀ H', Ext H H' → Q (.bl (if neg then !inS s ks p else inS s ks p)) H') : rOwnIn (CR K) (sp_Results_contains K) E neg v (.ref a) H Q := by
  obtain ⟨dx, fs, hi⟩ := R.ins
  exact ⟨a, dx, fs, rfl, hi, a, s, ks, v, p, rfl, R, hp, fun H' e => ⟨_, rfl, k H' e⟩⟩
theorem kept_nil {ms : List Pr} {r : Nat} (all : ∀ p ∈ ms, nn p) : (kept ms r).isEmpty = ms.isEmpty := by
  cases ms with
  | nil =>
    unfold kept givenS
    simp
  | cons m ms =>
    have h := (mem_kept (ms := m :: ms) (r := r) (all m List.mem_cons_self)).mpr (List.mem_map_of_mem (f := fun m => core m r) List.mem_cons_self)
    cases q : kept (m :: ms) r with
    | nil => rw [q] at h; cases h
    | cons a b => rfl
theorem inS_kept {ms : List Pr} {r : Nat} {p : Pr} (hp : nn p) : inS (span ms r) (kept ms r) p = decide (core p r ∈ ms.map fun m => core m r) := by
  unfold inS
  rw [decide_eq_true hp.1, decide_eq_true hp.2, Bool.true_and, Bool.true_and, Bool.eq_iff_iff, decide_eq_true_iff, decide_eq_true_iff]
  exact mem_kept hp
theorem inS_neg {s : Nat} {ks : List Pr} {p : Pr} (hp : ¬ nn p) : inS s ks p = false := by
  unfold inS
  unfold nn at hp
  by_cases c : 0 ≤ p.1
  · rw [decide_eq_false (show ¬ 0 ≤ p.2 by omega), Bool.false_and, Bool.and_false]
  · rw [decide_eq_false c, Bool.false_and]
theorem dp_pl {H : Hp} {l : Addr} {ps : List Pr} (h : PL H l ps) : Dp K H (.ref l) (.list (ps.map encP)) := by
  obtain ⟨vs, h1, h2⟩ := h
  exact .lst (SqL.of h1) (Rd.dpAll_paired (fun _ _ z => dp_pt z) h2)
end
end Lv

set_option Elab.async false
set_option linter.all false
set_option maxRecDepth 100000
set_option maxHeartbeats 0
/-! Sets joined, met, compared. -/
namespace Lv
open PySem PySem.Spec PyProof.Rows L2 OwX Rs
local macro_rules | `(tactic| walk_at "side") => `(tactic| first
  | exact (show CMul _ _ from .inl ⟨by decide, by decide⟩) | exact (show CMul _ _ from .inr ⟨by decide, by decide⟩) | exact (show CMul _ _ from .inl ⟨by omega, by omega⟩) | exact (show CMul _ _ from .inr ⟨by omega, by omega⟩)
  | exact (show CPow _ _ from ⟨by decide, by decide, by decide⟩)
  | exact (show CDiv _ _ from ⟨by decide, by decide⟩) | exact (show CDiv _ _ from ⟨by omega, by omega⟩)
  | exact (show (0 : Int) < _ by decide) | exact (show (0 : Int) < _ by omega) | exact (show ¬ (_ : Int) = 0 by decide) | exact (show ¬ (_ : Int) = 0 by omega) | assumption)
local macro_rules | `(tactic| walk_at "hp") => `(tactic| first
  | assumption | exact upd_same
  | (refine' SqL.of ?h1; (case h1 => walk_at "hp")) | (refine' SqT.of ?h1; (case h1 => walk_at "hp"))
  | (refine' Rd.new_app ?h1 ?h2; (case h1 => assumption); (case h2 => walk_at "hp"))
  | (refine' Rd.upd_app ?h1 ?h2; (case h1 => first | assumption | exact Ne.symm (by assumption)); (case h2 => walk_at "hp"))
  | (refine' Rd.ext_app ?h1 ?h2; (case h1 => assumption); (case h2 => walk_at "hp"))
  | (refine' Rd.ext_L ?h1 ?h2; (case h1 => assumption); (case h2 => walk_at "hp"))
  | (refine' Rd.ext_T ?h1 ?h2; (case h1 => assumption); (case h2 => walk_at "hp")))
local macro_rules | `(tactic| walk_at "go") => `(tactic| repeat (first
  | with_reducible refine Rd.con ?_
  | ((with_reducible refine' Rd.var ?h1 ?_); (case h1 => rfl))
  | with_reducible refine Rd.op ?_
  | with_reducible refine Rd.un ?_
  | with_reducible refine Rd.i0 ?_
  | with_reducible refine Rd.iu ?_
  | ((with_reducible refine Rd.iC ?h1 ?_); (case h1 => walk_at "side"))
  | with_reducible refine Rd.nil ?_
  | with_reducible refine Rd.cons ?_
  | with_reducible refine Rd.cb ?_
  | with_reducible refine Rd.int1 ?_
  | with_reducible refine Rd.intB ?_
  | with_reducible refine Rd.maxI ?_
  | with_reducible refine Rd.minI ?_
  | with_reducible refine Rd.blx ?_
  | with_reducible refine Rd.tst ?_
  | with_reducible refine Rd.tb_ ?_
  | with_reducible refine Rd.not_ ?_
  | with_reducible refine Rd.and_ ?_
  | with_reducible refine Rd.or_ ?_
  | with_reducible refine Rd.ifx ?_
  | with_reducible refine Rd.chain ?_
  | with_reducible refine Rd.andV ?_
  | with_reducible refine Rd.orV ?_
  | with_reducible refine Rd.notV ?_
  | with_reducible refine Rd.seq ?_
  | with_reducible refine Rd.asg ?_
  | with_reducible refine Rd.name ?_
  | with_reducible refine Rd.ret ?_
  | with_reducible refine Rd.ifS ?_
  | with_reducible refine Rd.next ?_
  | with_reducible refine Rd.drop ?_
  | with_reducible refine Rd.gsub ?_
  | with_reducible refine Rd.cr ?_
  | with_reducible refine Rd.crX ?_
  | with_reducible refine Rd.ixOS ?_
  | ((with_reducible refine' Rd.xfv ?h1 ?h2 ?h3 ?_); (case h1 => walk_at "hp"); (case h2 => rfl); (case h3 => rfl))
  | ((with_reducible refine' Rd.bmLv ?h1 ?h2 ?_); (case h1 => rfl); (case h2 => walk_at "hp"))
  | ((with_reducible refine' Rd.countL ?h1 ?_); (case h1 => walk_at "hp"))
  | ((with_reducible refine' Rd.sumL ?h1 ?_); (case h1 => walk_at "hp"))
  | ((with_reducible refine' Rd.listL ?h1 ?_); (case h1 => walk_at "hp"))
  | ((with_reducible refine' Rd.listT ?h1 ?_); (case h1 => walk_at "hp"))
  | with_reducible refine Rd.isNn ?_
  | with_reducible refine Rd.isNr ?_
  | with_reducible refine Rd.notNn ?_
  | with_reducible refine Rd.notNr ?_
  | with_reducible refine Rd.isB ?_
  | with_reducible refine Rd.notBtt ?_
  | with_reducible refine Rd.notBff ?_
  | with_reducible refine Rd.notBtf ?_
  | with_reducible refine Rd.notBft ?_
  | with_reducible refine Rd.notB ?_
  | with_reducible refine Rd.smeth ?_
  | with_reducible refine Rd.sl ?_
  | with_reducible refine Rd.po0 ?_
  | with_reducible refine Rd.poI ?_
  | with_reducible refine Rd.ixi ?_
  | with_reducible refine Rd.par ?_
  | with_reducible refine Rd.par2 ?_
  | with_reducible refine Rd.mkRS ?_
  | with_reducible refine Rd.callRS ?_
  | with_reducible refine Rd.mk ?_
  | with_reducible refine Rd.mkX ?_
  | with_reducible refine Rd.sF ?_
  | with_reducible refine Rd.dIn ?_
  | with_reducible refine Rd.dNi ?_
  | with_reducible refine Rd.dctL ?_
  | with_reducible refine Rd.dctT ?_
  | with_reducible refine Rd.forE ?_
  | with_reducible refine Rd.lc2T ?_
  | with_reducible refine Rd.lc2L ?_
  | with_reducible refine Rd.lc2R ?_
  | with_reducible refine Rd.inR2 ?_
  | with_reducible refine Rd.inR1 ?_
  | with_reducible refine Rd.inT ?_
  | with_reducible refine Rd.inL ?_
  | with_reducible refine Rd.lcT ?_
  | with_reducible refine Rd.lcL ?_
  | with_reducible refine Rd.lcR ?_
  | with_reducible refine Rd.forT ?_
  | with_reducible refine Rd.forL ?_
  | with_reducible refine Rd.forR ?_
  | with_reducible refine Rd.yes ?_
  | with_reducible refine iteT ?_
  | with_reducible refine iteF ?_
  | with_reducible refine Rd.iteNT ?_
  | with_reducible refine Rd.iteNF ?_
  | with_reducible refine Rd.tup ?_
  | with_reducible refine Rd.lst ?_
  | ((with_reducible refine Rd.eqs ?h1 ?_); (case h1 => rfl))
  | ((with_reducible refine Rd.nes ?h1 ?_); (case h1 => rfl))
  | ((with_reducible refine' Rd.ixL ?h1 ?h2 ?_); (case h1 => walk_at "hp"); (case h2 => first | rfl | assumption))
  | ((with_reducible refine' Rd.ixT ?h1 ?h2 ?_); (case h1 => walk_at "hp"); (case h2 => first | rfl | assumption))
  | ((with_reducible refine' Rd.lenL ?h1 ?_); (case h1 => walk_at "hp"))
  | ((with_reducible refine' Rd.lenT ?h1 ?_); (case h1 => walk_at "hp"))
  | ((with_reducible refine' Rd.setL ?h1 ?h2 ?_); (case h1 => walk_at "hp"); (case h2 => first | rfl | assumption))))
/-- the object is the set M in its least form -/
def RsM (K : PySem.W.Frag) (H : Hp) (a : Addr) (M : Pr → Prop) : Prop := ∃ s ks, RsAt K H a s ks ∧ IsR s ks M
section
variable {P : Program} {w : World} {K : PySem.W.Frag} {mg : Str → Option Value} {base : Heap} {H H' : Hp} {a : Addr} {M N : Pr → Prop}
theorem RsM.ext (h : RsM K H a M) (e : Ext H H') : RsM K H' a M := by
  obtain ⟨s, ks, h1, h2⟩ := h
  exact ⟨s, ks, h1.ext e, h2⟩
theorem RsM.congr (h : RsM K H a M) (e : ∀ p, nn p → (M p ↔ N p)) : RsM K H a N := by
  obtain ⟨s, ks, h1, h2⟩ := h
  exact ⟨s, ks, h1, h2.congr e⟩
theorem RsM.ins (h : RsM K H a M) : ∃ dx fs, H a = some (.ins (CR K) dx fs) := by
  obtain ⟨s, ks, h1, _⟩ := h
  exact h1.ins
theorem isR_inS {s : Nat} {ks : List Pr} {p : Pr} (h : IsR s ks M) (hp : nn p) : inS s ks p = true ↔ M p := by
  unfold inS
  rw [decide_eq_true hp.1, decide_eq_true hp.2, Bool.true_and, Bool.true_and, decide_eq_true_iff]
  exact h.mem hp
theorem isR_inC {s t : Nat} {ks : List Pr} {p : Pr} (h : IsR s ks M) (hp : nn p) (ht : s ≤ t) : inS s ks (core p (t : Nat)) = true ↔ M p := by
  rw [isR_inS h (nn_core hp), h.at_ hp ht]
def sp_greater : Sp := fun vs H Q _ => ∃ n m : Nat, vs = [.int n, .int m] ∧ Q (.int (max n m : Nat)) H
theorem ok_greater (T : Tx K mg) : FnR P w K mg base (L2.CX P w) 1 (a_greater K) sp_greater := by
  refine fnr T.d_greater sc_greater (fun _ _ _ _ _ _ us hl => match us, hl with | [_, _], _ => rfl) (fun vs H Q E h => ?_) (fun cdv A outer s H vs Q E hr h => ?_)
  · obtain ⟨n, m, rfl, _⟩ := h
    rfl
  · obtain ⟨n, m, rfl, k⟩ := h
    refine ⟨_, (pss_one (ps_ret (pe_ifExp (pt_cmpR op_gt (pv 0) (pv 1) (nomark _)) (pv 0) (pv 1)))), ?_⟩
    walk_at "go"
    refine Rd.ited (fun c => ?_) (fun c => ?_)
    · walk_at "go"
      rw [Nat.max_eq_left (by omega)] at k
      exact k
    · walk_at "go"
      rw [Nat.max_eq_right (by omega)] at k
      exact k
/-- the results made of the cores of a reach by a test -/
theorem mk_filter {H : Hp} {l : Addr} {t : Nat} {f : Pr → Bool} {Q : VK} {E : XK} (ht : t ≤ 60) (hl : PL H l ((allC t).filter f)) (hf : ∀ p, nn p → (f (core p (t : Nat)) = true ↔ M p)) (k : ∀ x H', Ext H H' → RsM K H' x M → Q (.ref x) H') : Rd.MkR (CR K) (sp_Results_init K) E [.int (t : Nat), .ref l] H Q := by
  have all : ∀ p ∈ (allC t).filter f, nn p := fun p hp => (mem_allC.mp (List.mem_filter.mp hp).1).1
  refine mk_results hl (Nat.le_trans (List.length_filter_le _ _) (Nat.le_trans (allC_len t ht) (by decide))) (fun c => absurd ⟨by omega, by omega⟩ c) (fun _ _ i hb => absurd (all _ (List.mem_of_getElem? hb.1.choose_spec.1)) hb.1.choose_spec.2) (fun _ _ _ x H' e nx R => ?_)
  rw [Int.toNat_natCast] at R
  exact k x H' e ⟨_, _, R, isR_filter ht hf⟩
/-- the cores of a reach, each asked -/
theorem lc_cores {H1 : Hp} {l D : Addr} {t : Nat} {g : TG} {tt : TT} {te : TE} {vs : List Nat} {σ : L2.St} {Z : Hp → Prop} {ys : List V} (hy : H1 l = some (.lst ys)) (pr : Paired (PT H1) (allC t) ys) (ht : t ≤ 60) (f : Pr → Bool) (hD : H1 D = none)
    (hs : ∀ p y H acc, isC ((t : Nat) : Int) p → PT H p y → Ext H1 H → H D = some (.lst acc) → ∀ (Qy : VK) (Qn : Hp → Prop), (∀ H4, Ext H H4 → f p = true → Qy y H4) → (∀ H3, Ext H H3 → f p = false → Qn H3) →
      g y (wipe σ vs) H fun σ2 H2 => wipe σ2 vs = wipe σ vs ∧ tt σ2 H2 fun b H3 => if b = true then te σ2 H3 Qy else Qn H3)
    (hd : ∀ H, Ext H1 H → PL H D ((allC t).filter f) → Z H) :
    ∃ W : Nat → Nat → Hp → Prop, (∃ m, W 0 m (upd H1 D (.lst []))) ∧ ∀ i m H, W i m H →
      ((Itl K l).stop i H ∧ Z H) ∨ ((Itl K l).go i H ∧ ∃ Nx : Hp → Prop, (∀ H', Nx H' → ∃ m', m' < m ∧ W (i + 1) m' H') ∧ ∀ x H', (Itl K l).yld i H x H' → g x (wipe σ vs) H' fun σ2 H2 => wipe σ2 vs = wipe σ vs ∧ tt σ2 H2 fun b H3 =>
        if b = true then te σ2 H3 fun y H4 => ∃ acc, H4 D = some (.lst acc) ∧ acc.length < sizeLine ∧ Nx (upd H4 D (.lst (acc ++ [y]))) else Nx H3) := by
  have len := allC_len t ht
  refine Rd.lcB (Rd.walk_lB (K := K) (a := l) pr) (PT H1) (Rd.yB pr) (by omega) f (fun p y H => PT H p y) (fun _ _ _ _ e h => h.ext e) hD (fun H' e => SqL.of (e _ _ hy)) ?_ ?_
  · intro i p y H acc hp hB e ha Qy Qn ky kn
    exact hs p y H acc (mem_allC.mp (List.mem_of_getElem? hp)) (hB.ext e) e ha Qy Qn (fun H4 e4 c => ky y H4 e4 c (hB.keep hD (e.trans e4))) kn
  · intro zs H e hz pz
    exact hd H e (PL.of hz pz)
def sp_bin (K : PySem.W.Frag) (op : Prop → Prop → Prop) : Sp := fun vs H Q _ => ∃ (a b : Addr) (M N : Pr → Prop), vs = [.ref a, .ref b] ∧ RsM K H a M ∧ RsM K H b N ∧ ∀ x H', Ext H H' → RsM K H' x (fun p => op (M p) (N p)) → Q (.ref x) H'
theorem ok_Results_or (T : Tx K mg) : FnR P w K mg base (L2.CX P w) 12 (a_Results_or K) (sp_bin K Or) := by
  refine fnr T.d_Results_or sc_Results_or (fun _ _ _ _ _ _ us hl => match us, hl with | [_, _], _ => rfl) (fun vs H Q E h => ?_) (fun cdv A outer s H vs Q E hr h => ?_)
  · obtain ⟨a, b, M, N, rfl, _⟩ := h
    rfl
  · obtain ⟨a, b, M, N, rfl, ⟨s1, k1, R1, I1⟩, ⟨s2, k2, R2, I2⟩, k⟩ := h
    refine ⟨_, (pss_cons (sx 2 sc_Results_or.nd (pe_cr (ok_greater T) (hr.mono (by decide)) (kp_of T.d_greater) (by rfl) T.g_greater (pa_cons (GW.fld (K := K) (pv 0)) (pa_cons (GW.fld (K := K) (pv 1)) pa_nil)))) (pss_one (ps_ret (pe_mk T.k_Results (ok_Results_init T) (hr.mono (by decide)) (by rfl) T.g_Results (pa_cons (pv 2) (pa_cons (pe_lc (own := [("result", 3)]) rfl sc_Results_or.nd (GW.pi_list (K := K) (pe_cr (ok_all_cores T) (hr.mono (by decide)) (kp_of T.d_all_cores) (by rfl) T.g_all_cores (pa_cons (pv 2) pa_nil))) (blkOk_by (own := [("result", 3)]) (N := N_Results_or) (sc := defScope s_Results_or) (by decide +kernel)) (fun _ _ _ _ _ => (gx 3 sc_Results_or.nd)) (fun _ _ _ _ _ => (pts_one (PW.pt (pw_or (pt_cmpR (op_inO T.m_Results_contains (ok_Results_contains T) (hr.mono (by decide)) passL) (pv 3) (pv 0) rfl) (pw_or1 (pt_cmpR (op_inO T.m_Results_contains (ok_Results_contains T) (hr.mono (by decide)) passL) (pv 3) (pv 1) rfl)))))) (fun _ _ _ _ _ => (pv 3))) pa_nil)))))), ?_⟩
    obtain ⟨dx1, q1, d1, h1, _, _⟩ := id R1
    obtain ⟨dx2, q2, d2, h2, _, _⟩ := id R2
    have m60 : max s1 s2 ≤ 60 := Nat.max_le.mpr ⟨I1.le, I2.le⟩
    walk_at "go"
    refine Rd.fldv rfl h1 T.c_Results T.n_Results_span (fsR1 _ _ _) ?_
    walk_at "go"
    refine Rd.fldv rfl h2 T.c_Results T.n_Results_span (fsR1 _ _ _) ?_
    walk_at "go"
    refine ⟨s1, s2, rfl, ?_⟩
    walk_at "go"
    refine ⟨max s1 s2, rfl, m60, fun l H1 e1 nl hl => ?_⟩
    obtain ⟨ys, hys, pr⟩ := hl
    refine ⟨l, rfl, ⟨_, SqL.of hys⟩, fun D hD => ?_⟩
    refine lc_cores hys pr m60 (fun p => inS s1 k1 p || inS s2 k2 p) hD ?_ ?_
    · intro p y H2 acc hp hy e2 ha Qy Qn ky kn
      walk_at "go"
      refine ⟨rfl, ?_⟩
      walk_at "go"
      refine in_rs (R1.ext (e1.trans e2)) hy fun H3 e3 => ?_
      rw [if_neg (by simp)]
      walk_at "go"
      cases c1 : inS s1 k1 p with
      | true =>
        walk_at "go"
        exact ky _ e3 (by rw [c1, Bool.true_or])
      | false =>
        walk_at "go"
        refine in_rs (R2.ext ((e1.trans e2).trans e3)) (hy.ext e3) fun H4 e4 => ?_
        rw [if_neg (by simp)]
        walk_at "go"
        cases c2 : inS s2 k2 p with
        | true =>
          walk_at "go"
          exact ky _ (e3.trans e4) (by rw [c2, Bool.or_true])
        | false => exact kn _ (e3.trans e4) (by rw [c1, c2]; rfl)
    · intro H2 e2 hl
      walk_at "go"
      refine mk_filter (M := fun p => M p ∨ N p) m60 hl (fun p hp => ?_) fun x H3 e3 R => k x H3 ((e1.trans e2).trans e3) R
      rw [Bool.or_eq_true, isR_inC I1 hp (Nat.le_max_left _ _), isR_inC I2 hp (Nat.le_max_right _ _)]
theorem ok_Results_and (T : Tx K mg) : FnR P w K mg base (L2.CX P w) 12 (a_Results_and K) (sp_bin K And) := by
  refine fnr T.d_Results_and sc_Results_and (fun _ _ _ _ _ _ us hl => match us, hl with | [_, _], _ => rfl) (fun vs H Q E h => ?_) (fun cdv A outer s H vs Q E hr h => ?_)
  · obtain ⟨a, b, M, N, rfl, _⟩ := h
    rfl
  · obtain ⟨a, b, M, N, rfl, ⟨s1, k1, R1, I1⟩, ⟨s2, k2, R2, I2⟩, k⟩ := h
    refine ⟨_, (pss_cons (sx 2 sc_Results_and.nd (pe_cr (ok_greater T) (hr.mono (by decide)) (kp_of T.d_greater) (by rfl) T.g_greater (pa_cons (GW.fld (K := K) (pv 0)) (pa_cons (GW.fld (K := K) (pv 1)) pa_nil)))) (pss_one (ps_ret (pe_mk T.k_Results (ok_Results_init T) (hr.mono (by decide)) (by rfl) T.g_Results (pa_cons (pv 2) (pa_cons (pe_lc (own := [("result", 3)]) rfl sc_Results_and.nd (GW.pi_list (K := K) (pe_cr (ok_all_cores T) (hr.mono (by decide)) (kp_of T.d_all_cores) (by rfl) T.g_all_cores (pa_cons (pv 2) pa_nil))) (blkOk_by (own := [("result", 3)]) (N := N_Results_and) (sc := defScope s_Results_and) (by decide +kernel)) (fun _ _ _ _ _ => (gx 3 sc_Results_and.nd)) (fun _ _ _ _ _ => (pts_one (PW.pt (pw_and (pt_cmpR (op_inO T.m_Results_contains (ok_Results_contains T) (hr.mono (by decide)) passL) (pv 3) (pv 0) rfl) (pw_and1 (pt_cmpR (op_inO T.m_Results_contains (ok_Results_contains T) (hr.mono (by decide)) passL) (pv 3) (pv 1) rfl)))))) (fun _ _ _ _ _ => (pv 3))) pa_nil)))))), ?_⟩
    obtain ⟨dx1, q1, d1, h1, _, _⟩ := id R1
    obtain ⟨dx2, q2, d2, h2, _, _⟩ := id R2
    have m60 : max s1 s2 ≤ 60 := Nat.max_le.mpr ⟨I1.le, I2.le⟩
    walk_at "go"
    refine Rd.fldv rfl h1 T.c_Results T.n_Results_span (fsR1 _ _ _) ?_
    walk_at "go"
    refine Rd.fldv rfl h2 T.c_Results T.n_Results_span (fsR1 _ _ _) ?_
    walk_at "go"
    refine ⟨s1, s2, rfl, ?_⟩
    walk_at "go"
    refine ⟨max s1 s2, rfl, m60, fun l H1 e1 nl hl => ?_⟩
    obtain ⟨ys, hys, pr⟩ := hl
    refine ⟨l, rfl, ⟨_, SqL.of hys⟩, fun D hD => ?_⟩
    refine lc_cores hys pr m60 (fun p => inS s1 k1 p && inS s2 k2 p) hD ?_ ?_
    · intro p y H2 acc hp hy e2 ha Qy Qn ky kn
      walk_at "go"
      refine ⟨rfl, ?_⟩
      walk_at "go"
      refine in_rs (R1.ext (e1.trans e2)) hy fun H3 e3 => ?_
      rw [if_neg (by simp)]
      walk_at "go"
      cases c1 : inS s1 k1 p with
      | false =>
        walk_at "go"
        exact kn _ e3 (by rw [c1, Bool.false_and])
      | true =>
        walk_at "go"
        refine in_rs (R2.ext ((e1.trans e2).trans e3)) (hy.ext e3) fun H4 e4 => ?_
        rw [if_neg (by simp)]
        walk_at "go"
        cases c2 : inS s2 k2 p with
        | true =>
          walk_at "go"
          exact ky _ (e3.trans e4) (by rw [c1, c2]; rfl)
        | false => exact kn _ (e3.trans e4) (by rw [c1, c2]; rfl)
    · intro H2 e2 hl
      walk_at "go"
      refine mk_filter (M := fun p => M p ∧ N p) m60 hl (fun p hp => ?_) fun x H3 e3 R => k x H3 ((e1.trans e2).trans e3) R
      rw [Bool.and_eq_true, isR_inC I1 hp (Nat.le_max_left _ _), isR_inC I2 hp (Nat.le_max_right _ _)]
def sp_inv (K : PySem.W.Frag) : Sp := fun vs H Q _ => ∃ (a : Addr) (M : Pr → Prop), vs = [.ref a] ∧ RsM K H a M ∧ ∀ x H', Ext H H' → RsM K H' x (fun p => ¬ M p) → Q (.ref x) H'
theorem ok_Results_invert (T : Tx K mg) : FnR P w K mg base (L2.CX P w) 12 (a_Results_invert K) (sp_inv K) := by
  refine fnr T.d_Results_invert sc_Results_invert (fun _ _ _ _ _ _ us hl => match us, hl with | [_], _ => rfl) (fun vs H Q E h => ?_) (fun cdv A outer s H vs Q E hr h => ?_)
  · obtain ⟨a, M, rfl, _⟩ := h
    rfl
  · obtain ⟨a, M, rfl, ⟨s1, k1, R1, I1⟩, k⟩ := h
    refine ⟨_, (pss_one (ps_ret (pe_mk T.k_Results (ok_Results_init T) (hr.mono (by decide)) (by rfl) T.g_Results (pa_cons (GW.fld (K := K) (pv 0)) (pa_cons (pe_lc (own := [("result", 1)]) rfl sc_Results_invert.nd (GW.pi_list (K := K) (pe_cr (ok_all_cores T) (hr.mono (by decide)) (kp_of T.d_all_cores) (by rfl) T.g_all_cores (pa_cons (GW.fld (K := K) (pv 0)) pa_nil))) (blkOk_by (own := [("result", 1)]) (N := N_Results_invert) (sc := defScope s_Results_invert) (by decide +kernel)) (fun _ _ _ _ _ => (gx 1 sc_Results_invert.nd)) (fun _ _ _ _ _ => (pts_one (pt_cmp (pc_dnotin hr.units1 (pv 1) (GW.fld (K := K) (pv 0)))))) (fun _ _ _ _ _ => (pv 1))) pa_nil))))), ?_⟩
    obtain ⟨dx1, q1, d1, h1, _, hd⟩ := id R1
    walk_at "go"
    refine Rd.fldv rfl h1 T.c_Results T.n_Results_span (fsR1 _ _ _) ?_
    walk_at "go"
    refine Rd.fldv rfl h1 T.c_Results T.n_Results_span (fsR1 _ _ _) ?_
    walk_at "go"
    refine ⟨s1, rfl, I1.le, fun l H1 e1 nl hl => ?_⟩
    obtain ⟨ys, hys, pr⟩ := hl
    refine ⟨l, rfl, ⟨_, SqL.of hys⟩, fun D hD => ?_⟩
    refine lc_cores hys pr I1.le (fun p => !decide (p ∈ k1)) hD ?_ ?_
    · intro p y H2 acc hp hy e2 ha Qy Qn ky kn
      walk_at "go"
      refine ⟨rfl, ?_⟩
      walk_at "go"
      refine Rd.fldv rfl ((e1.trans e2) _ _ h1) T.c_Results T.n_Results_known (fsR3 _ _ _) ?_
      obtain ⟨o, g, eo⟩ := in_kd (hd.ext (e1.trans e2)) hy
      refine ⟨d1, o, rfl, g, ?_⟩
      rw [eo]
      walk_at "go"
      cases c : decide (p ∈ k1) with
      | true => exact kn _ Rd.ext_rfl (by rw [c]; rfl)
      | false =>
        walk_at "go"
        exact ky _ Rd.ext_rfl (by rw [c]; rfl)
    · intro H2 e2 hl
      walk_at "go"
      refine mk_filter (M := fun p => ¬ M p) I1.le hl (fun p hp => ?_) fun x H3 e3 R => k x H3 ((e1.trans e2).trans e3) R
      rw [Bool.not_eq_true', decide_eq_false_iff_not, I1.mem hp]
def sp_eq (K : PySem.W.Frag) : Sp := fun vs H Q _ => ∃ (a b : Addr) (M N : Pr → Prop), vs = [.ref a, .ref b] ∧ RsM K H a M ∧ RsM K H b N ∧ ∀ c : Bool, (c = true ↔ ∀ p, nn p → (M p ↔ N p)) → Q (.bl c) H
theorem dp_pu {H : Hp} {l : Addr} {ps : List Pr} (h : PU H l ps) : Dp K H (.ref l) (.tuple (ps.map encP)) := by
  obtain ⟨vs, h1, h2⟩ := h
  exact .tup (SqT.of h1) (Rd.dpAll_paired (fun _ _ z => dp_pt z) h2)
theorem ok_Results_eq (T : Tx K mg) : FnR P w K mg base (L2.CX P w) 1 (a_Results_eq K) (sp_eq K) := by
  refine fnr T.d_Results_eq sc_Results_eq (fun _ _ _ _ _ _ us hl => match us, hl with | [_, _], _ => rfl) (fun vs H Q E h => ?_) (fun cdv A outer s H vs Q E hr h => ?_)
  · obtain ⟨a, b, M, N, rfl, _⟩ := h
    rfl
  · obtain ⟨a, b, M, N, rfl, ⟨s1, k1, R1, I1⟩, ⟨s2, k2, R2, I2⟩, k⟩ := h
    refine ⟨_, (pss_one (ps_ret (pe_and (pe_callB (Rd.c_isi (K := K)) (by rfl) T.f_isinstance Rd.bt_isinstance (pa_cons (pv 1) (pa_cons (pe_glob (v := .ref (He.ga K "Results")) (by rfl) T.g_Results rfl) pa_nil))) (pe_and (pe_cmpR op_eq (GW.fld (K := K) (pv 0)) (GW.fld (K := K) (pv 1)) (nomark _)) (pe_one (pe_cmpR (GW.eqD hr.units (K := K)) (GW.fld (K := K) (pv 0)) (GW.fld (K := K) (pv 1)) (nomark _))))))), ?_⟩
    obtain ⟨dx1, q1, d1, h1, p1, _⟩ := id R1
    obtain ⟨dx2, q2, d2, h2, p2, _⟩ := id R2
    have key := I1.eq_iff I2
    walk_at "go"
    refine ⟨_, _, _, _, true, rfl, .own _, tyx_ins T.c_Results T.i_Results h2, T.is_Results, ?_⟩
    refine ⟨true, rfl, ?_⟩
    refine Rd.iteb (fun _ => ?_) (fun z => by cases z)
    walk_at "go"
    refine Rd.fldv rfl h1 T.c_Results T.n_Results_span (fsR1 _ _ _) ?_
    walk_at "go"
    refine Rd.fldv rfl h2 T.c_Results T.n_Results_span (fsR1 _ _ _) ?_
    walk_at "go"
    refine Rd.ited (fun c => ?_) (fun c => ?_)
    · have es : s1 = s2 := by
        have := V.int.inj c
        omega
      walk_at "go"
      refine Rd.fldv rfl h1 T.c_Results T.n_Results_kept (fsR2 _ _ _) ?_
      walk_at "go"
      refine Rd.fldv rfl h2 T.c_Results T.n_Results_kept (fsR2 _ _ _) ?_
      refine Rd.eqD encP_ok.tuple (dp_pu p1) (dp_pu p2) (k _ ?_)
      rw [decide_eq_true_iff, ← key]
      exact ⟨fun h => ⟨es, h⟩, fun h => h.2⟩
    · refine k false ⟨(fun z => by cases z), fun h => ?_⟩
      exact absurd (by rw [(key.mpr h).1]) c
def sp_le (K : PySem.W.Frag) : Sp := fun vs H Q _ => ∃ (a b : Addr) (M N : Pr → Prop), vs = [.ref a, .ref b] ∧ RsM K H a M ∧ RsM K H b N ∧ ∀ (c : Bool) H', Ext H H' → (c = true ↔ ∀ p, nn p → M p → N p) → Q (.bl c) H'
theorem ok_Results_le (T : Tx K mg) : FnR P w K mg base (L2.CX P w) 12 (a_Results_le K) (sp_le K) := by
  refine fnr T.d_Results_le sc_Results_le (fun _ _ _ _ _ _ us hl => match us, hl with | [_, _], _ => rfl) (fun vs H Q E h => ?_) (fun cdv A outer s H vs Q E hr h => ?_)
  · obtain ⟨a, b, M, N, rfl, _⟩ := h
    rfl
  · obtain ⟨a, b, M, N, rfl, ⟨s1, k1, R1, I1⟩, ⟨s2, k2, R2, I2⟩, k⟩ := h
    refine ⟨_, (pss_cons (sx 2 sc_Results_le.nd (pe_cr (ok_greater T) (hr.mono (by decide)) (kp_of T.d_greater) (by rfl) T.g_greater (pa_cons (GW.fld (K := K) (pv 0)) (pa_cons (GW.fld (K := K) (pv 1)) pa_nil)))) (pss_one (ps_ret (pe_cmpR (GW.eqD hr.units (K := K)) (pe_lc (own := [("result", 3)]) rfl sc_Results_le.nd (GW.pi_list (K := K) (pe_cr (ok_all_cores T) (hr.mono (by decide)) (kp_of T.d_all_cores) (by rfl) T.g_all_cores (pa_cons (pv 2) pa_nil))) (blkOk_by (own := [("result", 3)]) (N := N_Results_le) (sc := defScope s_Results_le) (by decide +kernel)) (fun _ _ _ _ _ => (gx 3 sc_Results_le.nd)) (fun _ _ _ _ _ => (pts_one (PW.pt (pw_and (pt_cmpR (op_inO T.m_Results_contains (ok_Results_contains T) (hr.mono (by decide)) passL) (pv 3) (pv 0) rfl) (pw_and1 (pt_cmpR (op_niO T.m_Results_contains (ok_Results_contains T) (hr.mono (by decide)) passL) (pv 3) (pv 1) rfl)))))) (fun _ _ _ _ _ => (pv 3))) (pe_lst pa_nil) (nomark _))))), ?_⟩
    obtain ⟨dx1, q1, d1, h1, _, _⟩ := id R1
    obtain ⟨dx2, q2, d2, h2, _, _⟩ := id R2
    have m60 : max s1 s2 ≤ 60 := Nat.max_le.mpr ⟨I1.le, I2.le⟩
    walk_at "go"
    refine Rd.fldv rfl h1 T.c_Results T.n_Results_span (fsR1 _ _ _) ?_
    walk_at "go"
    refine Rd.fldv rfl h2 T.c_Results T.n_Results_span (fsR1 _ _ _) ?_
    walk_at "go"
    refine ⟨s1, s2, rfl, ?_⟩
    walk_at "go"
    refine ⟨max s1 s2, rfl, m60, fun l H1 e1 nl hl => ?_⟩
    obtain ⟨ys, hys, pr⟩ := hl
    refine ⟨l, rfl, ⟨_, SqL.of hys⟩, fun D hD => ?_⟩
    refine lc_cores hys pr m60 (fun p => inS s1 k1 p && !inS s2 k2 p) hD ?_ ?_
    · intro p y H2 acc hp hy e2 ha Qy Qn ky kn
      walk_at "go"
      refine ⟨rfl, ?_⟩
      walk_at "go"
      refine in_rs (R1.ext (e1.trans e2)) hy fun H3 e3 => ?_
      rw [if_neg (by simp)]
      walk_at "go"
      cases c1 : inS s1 k1 p with
      | false =>
        walk_at "go"
        exact kn _ e3 (by rw [c1, Bool.false_and])
      | true =>
        walk_at "go"
        refine in_rs (R2.ext ((e1.trans e2).trans e3)) (hy.ext e3) fun H4 e4 => ?_
        rw [if_pos rfl]
        walk_at "go"
        cases c2 : inS s2 k2 p with
        | true => exact kn _ (e3.trans e4) (by rw [c1, c2]; rfl)
        | false =>
          walk_at "go"
          exact ky _ (e3.trans e4) (by rw [c1, c2]; rfl)
    · intro H2 e2 hl
      walk_at "go"
      refine ⟨Rd.szr rfl, fun o ho => ?_⟩
      have e3 := Ext.upd (H := H2) (o := .lst []) ho
      refine Rd.eqD encP_ok.list (dp_pl (hl.ext e3)) (show Dp K _ (.ref o) (.list (([] : List Pr).map encP)) from .lst (SqL.of upd_same) .nil) ?_
      refine k _ _ ((e1.trans e2).trans e3) ?_
      rw [decide_eq_true_iff, List.filter_eq_nil_iff]
      constructor
      · intro h p hp hM
        have hc := isC_core hp (show (0 : Int) ≤ ((max s1 s2 : Nat) : Int) by omega)
        have h3 := h _ (mem_allC.mpr hc)
        rw [Bool.and_eq_true, Bool.not_eq_true', isR_inC I1 hp (Nat.le_max_left _ _)] at h3
        cases c : inS s2 k2 (core p ((max s1 s2 : Nat) : Int)) with
        | true => exact (isR_inC I2 hp (Nat.le_max_right _ _)).mp c
        | false => exact absurd ⟨hM, c⟩ h3
      · intro h p hp
        have hc := mem_allC.mp hp
        rw [Bool.and_eq_true, Bool.not_eq_true', isR_inS I1 hc.1]
        rintro ⟨h4, h5⟩
        rw [(isR_inS I2 hc.1).mpr (h p hc.1 h4)] at h5
        cases h5
end
end Lv

set_option Elab.async false
set_option linter.all false
set_option maxRecDepth 100000
set_option maxHeartbeats 0
/-! Sets: the least result, flipped, all, none, the properties. -/
namespace Lv
open PySem PySem.Spec PyProof.Rows L2 OwX Rs
local macro_rules | `(tactic| walk_at "side") => `(tactic| first
  | exact (show CMul _ _ from .inl ⟨by decide, by decide⟩) | exact (show CMul _ _ from .inr ⟨by decide, by decide⟩) | exact (show CMul _ _ from .inl ⟨by omega, by omega⟩) | exact (show CMul _ _ from .inr ⟨by omega, by omega⟩)
  | exact (show CPow _ _ from ⟨by decide, by decide, by decide⟩)
  | exact (show CDiv _ _ from ⟨by decide, by decide⟩) | exact (show CDiv _ _ from ⟨by omega, by omega⟩)
  | exact (show (0 : Int) < _ by decide) | exact (show (0 : Int) < _ by omega) | exact (show ¬ (_ : Int) = 0 by decide) | exact (show ¬ (_ : Int) = 0 by omega) | assumption)
local macro_rules | `(tactic| walk_at "hp") => `(tactic| first
  | assumption | exact upd_same
  | (refine' SqL.of ?h1; (case h1 => walk_at "hp")) | (refine' SqT.of ?h1; (case h1 => walk_at "hp"))
  | (refine' Rd.new_app ?h1 ?h2; (case h1 => assumption); (case h2 => walk_at "hp"))
  | (refine' Rd.upd_app ?h1 ?h2; (case h1 => first | assumption | exact Ne.symm (by assumption)); (case h2 => walk_at "hp"))
  | (refine' Rd.ext_app ?h1 ?h2; (case h1 => assumption); (case h2 => walk_at "hp"))
  | (refine' Rd.ext_L ?h1 ?h2; (case h1 => assumption); (case h2 => walk_at "hp"))
  | (refine' Rd.ext_T ?h1 ?h2; (case h1 => assumption); (case h2 => walk_at "hp")))
local macro_rules | `(tactic| walk_at "go") => `(tactic| repeat (first
  | with_reducible refine Rd.con ?_
  | ((with_reducible refine' Rd.var ?h1 ?_); (case h1 => rfl))
  | with_reducible refine Rd.op ?_
  | with_reducible refine Rd.un ?_
  | with_reducible refine Rd.i0 ?_
  | with_reducible refine Rd.iu ?_
  | ((with_reducible refine Rd.iC ?h1 ?_); (case h1 => walk_at "side"))
  | with_reducible refine Rd.nil ?_
  | with_reducible refine Rd.cons ?_
  | with_reducible refine Rd.cb ?_
  | with_reducible refine Rd.int1 ?_
  | with_reducible refine Rd.intB ?_
  | with_reducible refine Rd.maxI ?_
  | with_reducible refine Rd.minI ?_
  | with_reducible refine Rd.blx ?_
  | with_reducible refine Rd.tst ?_
  | with_reducible refine Rd.tb_ ?_
  | with_reducible refine Rd.not_ ?_
  | with_reducible refine Rd.and_ ?_
  | with_reducible refine Rd.or_ ?_
  | with_reducible refine Rd.ifx ?_
  | with_reducible refine Rd.chain ?_
  | with_reducible refine Rd.andV ?_
  | with_reducible refine Rd.orV ?_
  | with_reducible refine Rd.notV ?_
  | with_reducible refine Rd.seq ?_
  | with_reducible refine Rd.asg ?_
  | with_reducible refine Rd.name ?_
  | with_reducible refine Rd.ret ?_
  | with_reducible refine Rd.ifS ?_
  | with_reducible refine Rd.next ?_
  | with_reducible refine Rd.drop ?_
  | with_reducible refine Rd.gsub ?_
  | with_reducible refine Rd.cr ?_
  | with_reducible refine Rd.crX ?_
  | with_reducible refine Rd.ixOS ?_
  | ((with_reducible refine' Rd.xfv ?h1 ?h2 ?h3 ?_); (case h1 => walk_at "hp"); (case h2 => rfl); (case h3 => rfl))
  | ((with_reducible refine' Rd.bmLv ?h1 ?h2 ?_); (case h1 => rfl); (case h2 => walk_at "hp"))
  | ((with_reducible refine' Rd.countL ?h1 ?_); (case h1 => walk_at "hp"))
  | ((with_reducible refine' Rd.sumL ?h1 ?_); (case h1 => walk_at "hp"))
  | ((with_reducible refine' Rd.listL ?h1 ?_); (case h1 => walk_at "hp"))
  | ((with_reducible refine' Rd.listT ?h1 ?_); (case h1 => walk_at "hp"))
  | with_reducible refine Rd.isNn ?_
  | with_reducible refine Rd.isNr ?_
  | with_reducible refine Rd.notNn ?_
  | with_reducible refine Rd.notNr ?_
  | with_reducible refine Rd.isB ?_
  | with_reducible refine Rd.notBtt ?_
  | with_reducible refine Rd.notBff ?_
  | with_reducible refine Rd.notBtf ?_
  | with_reducible refine Rd.notBft ?_
  | with_reducible refine Rd.notB ?_
  | with_reducible refine Rd.smeth ?_
  | with_reducible refine Rd.sl ?_
  | with_reducible refine Rd.po0 ?_
  | with_reducible refine Rd.poI ?_
  | with_reducible refine Rd.ixi ?_
  | with_reducible refine Rd.par ?_
  | with_reducible refine Rd.par2 ?_
  | with_reducible refine Rd.mkRS ?_
  | with_reducible refine Rd.callRS ?_
  | with_reducible refine Rd.mk ?_
  | with_reducible refine Rd.mkX ?_
  | with_reducible refine Rd.sF ?_
  | with_reducible refine Rd.dIn ?_
  | with_reducible refine Rd.dNi ?_
  | with_reducible refine Rd.dctL ?_
  | with_reducible refine Rd.dctT ?_
  | with_reducible refine Rd.forE ?_
  | with_reducible refine Rd.lc2T ?_
  | with_reducible refine Rd.lc2L ?_
  | with_reducible refine Rd.lc2R ?_
  | with_reducible refine Rd.inR2 ?_
  | with_reducible refine Rd.inR1 ?_
  | with_reducible refine Rd.inT ?_
  | with_reducible refine Rd.inL ?_
  | with_reducible refine Rd.lcT ?_
  | with_reducible refine Rd.lcL ?_
  | with_reducible refine Rd.lcR ?_
  | with_reducible refine Rd.forT ?_
  | with_reducible refine Rd.forL ?_
  | with_reducible refine Rd.forR ?_
  | with_reducible refine Rd.yes ?_
  | with_reducible refine iteT ?_
  | with_reducible refine iteF ?_
  | with_reducible refine Rd.iteNT ?_
  | with_reducible refine Rd.iteNF ?_
  | with_reducible refine Rd.tup ?_
  | with_reducible refine Rd.lst ?_
  | ((with_reducible refine Rd.eqs ?h1 ?_); (case h1 => rfl))
  | ((with_reducible refine Rd.nes ?h1 ?_); (case h1 => rfl))
  | ((with_reducible refine' Rd.ixL ?h1 ?h2 ?_); (case h1 => walk_at "hp"); (case h2 => first | rfl | assumption))
  | ((with_reducible refine' Rd.ixT ?h1 ?h2 ?_); (case h1 => walk_at "hp"); (case h2 => first | rfl | assumption))
  | ((with_reducible refine' Rd.lenL ?h1 ?_); (case h1 => walk_at "hp"))
  | ((with_reducible refine' Rd.lenT ?h1 ?_); (case h1 => walk_at "hp"))
  | ((with_reducible refine' Rd.setL ?h1 ?h2 ?_); (case h1 => walk_at "hp"); (case h2 => first | rfl | assumption))))
/-- v stands for a pair, or is None -/
def OP (H : Hp) (o : Option Pr) (v : V) : Prop := match o with
  | none => v = .non
  | some p => PT H p v
section
variable {P : Program} {w : World} {K : PySem.W.Frag} {mg : Str → Option Value} {base : Heap} {H H' : Hp} {a : Addr} {M : Pr → Prop}
theorem OP.ext {o : Option Pr} {v : V} (h : OP H o v) (e : Ext H H') : OP H' o v := by
  cases o with
  | none => exact h
  | some p => exact PT.ext h e
def encO : Option Pr → PyData := fun o => match o with
  | none => .none
  | some p => encP p
theorem encO_ok : Rd.Enc encO 1 := by
  refine ⟨fun a b => ?_, fun a => ?_, fun a => ?_⟩
  · cases a with
    | none => cases b with
      | none => simp [encO, PyData.eqv]
      | some q => simp [encO, encP, PyData.eqv]
    | some p => cases b with
      | none => simp [encO, encP, PyData.eqv]
      | some q =>
        show PyData.eqv (encP p) (encP q) = _
        rw [encP_ok.eq, Bool.eq_iff_iff, decide_eq_true_iff, decide_eq_true_iff, Option.some_inj]
  · cases a with
    | none => simp [encO, PyData.canLay0]
    | some p => exact encP_ok.lay p
  · cases a with
    | none => simp [encO, PyData.depth]
    | some p => exact encP_ok.dep p
theorem dp_op {o : Option Pr} {v : V} (h : OP H o v) : Dp K H v (encO o) := by
  cases o with
  | none => obtain rfl : v = .non := h; exact .non
  | some p => exact dp_pt h
def sp_Results_least (K : PySem.W.Frag) : Sp := fun vs H Q _ => ∃ (a : Addr) (s : Nat) (ks : List Pr), vs = [.ref a] ∧ RsAt K H a s ks ∧ ∀ v H', Ext H H' → OP H' (leastF ks) v → Q v H'
theorem leastF_snoc (l : List Pr) (p : Pr) : leastF (l ++ [p]) = leastStep (leastF l) p := by
  unfold leastF
  rw [List.foldl_append]
  rfl
theorem ok_Results_least (T : Tx K mg) : FnR P w K mg base (L2.CX P w) 1 (a_Results_least K) (sp_Results_least K) := by
  refine fnr T.d_Results_least sc_Results_least (fun _ _ _ _ _ _ us hl => match us, hl with | [_], _ => rfl) (fun vs H Q E h => ?_) (fun cdv A outer s H vs Q E hr h => ?_)
  · obtain ⟨a, s, ks, rfl, _⟩ := h
    rfl
  · obtain ⟨a, s, ks, rfl, ⟨dx, q, d, h1, ⟨vs, h2, pr⟩, h3⟩, k⟩ := h
    refine ⟨_, (pss_cons (sx 1 sc_Results_least.nd pe_non) (pss_cons (ps_for (passes_of rfl) rfl (GW.pi_tup (K := K) (GW.fld (K := K) (pv 0))) (GW.tup (K := K) (n := 2) rfl (pgs_cons (gx 2 sc_Results_least.nd) (pgs_cons (gx 3 sc_Results_least.nd) pgs_nil))) (pss_one (ps_if (PW.pt (pw_or (pt_cmpR GW.isN (pv 1) pe_non (nomark _)) (pw_or1 (pt_cmpR op_lt (pe_op op_add (pv 2) (pv 3)) (pe_op op_add (pe_ix (GW.ixT (K := K)) (pv 1) pe_int (fun _ _ => rfl)) (pe_ix (GW.ixT (K := K)) (pv 1) pe_int (fun _ _ => rfl))) (nomark _))))) (pss_one (sx 1 sc_Results_least.nd (pe_tup (pa_cons (pv 2) (pa_cons (pv 3) pa_nil))))) pss_nil))) (pss_one (ps_ret (pv 1))))), ?_⟩
    walk_at "go"
    refine Rd.fldv rfl h1 T.c_Results T.n_Results_kept (fsR2 _ _ _) ?_
    refine ⟨q, rfl, ⟨_, SqT.of h2⟩, ?_⟩
    refine for_it (Rd.walk_tB (K := K) (a := q) pr) (fun i σ H' => ∃ b v2 v3, σ = [some (.ref a), some b, v2, v3] ∧ Ext H H' ∧ OP H' (leastF (ks.take i)) b) ⟨_, _, _, rfl, Rd.ext_rfl, rfl⟩ (fun i σ H' _ ⟨_, _, _, _, e, _⟩ => SqT.of (e _ _ h2)) ?_ ?_
    · rintro i x σ H1 H2 hi ⟨b, v2, v3, rfl, e1, ob⟩ y
      obtain ⟨p, hp, rfl, hB⟩ := Rd.yB pr i H1 x H2 y
      refine un2 (hB.ext e1) ?_
      have fin : ∀ t H3, H2 t = none → H3 = upd H2 t (.tup [.int p.1, .int p.2]) → leastF (ks.take (i + 1)) = some p → ∃ b v2 v3, ([some (.ref a), some (.ref t), some (.int p.1), some (.int p.2)] : L2.St) = [some (.ref a), some b, v2, v3] ∧ Ext H H3 ∧ OP H3 (leastF (ks.take (i + 1))) b := by
        intro t H3 ht e3 el
        subst e3
        exact ⟨_, _, _, rfl, e1.trans (Ext.upd ht), by rw [el]; exact ⟨t, rfl, upd_same⟩⟩
      rw [Rd.take_snoc hp, leastF_snoc] at fin ⊢
      generalize leastF (ks.take i) = lf at ob fin ⊢
      walk_at "go"
      cases lf with
      | none =>
        obtain rfl : b = .non := ob
        walk_at "go"
        exact ⟨Rd.szr rfl, fun t ht => fin t _ ht rfl rfl⟩
      | some z =>
        obtain ⟨t, rfl, ht⟩ := id ob
        walk_at "go"
        refine Rd.ited (fun c => ?_) (fun c => ?_)
        · walk_at "go"
          exact ⟨Rd.szr rfl, fun t ht => fin t _ ht rfl (by unfold leastStep; exact if_pos c)⟩
        · exact ⟨_, _, _, rfl, e1, by
            have : leastStep (some z) p = some z := by unfold leastStep; exact if_neg c
            rw [this]; exact ob⟩
    · rintro σ H1 ⟨b, v2, v3, rfl, e1, ob⟩
      rw [List.take_length] at ob
      walk_at "go"
      exact k _ _ e1 ob
theorem mk_swap {s : Nat} {ks : List Pr} {l : Addr} {Q : VK} {E : XK} (I : IsR s ks M) (hl : PL H l (ks.map swap)) (k : ∀ x H', Ext H H' → RsM K H' x (fun p => M (swap p)) → Q (.ref x) H') : Rd.MkR (CR K) (sp_Results_init K) E [.int (s : Nat), .ref l] H Q := by
  have all : ∀ p ∈ ks.map swap, nn p := fun p hp => by
    obtain ⟨q, hq, rfl⟩ := List.mem_map.mp hp
    exact nn_swap.mpr (I.kept_mem.mp hq).1.1
  have len : (ks.map swap).length ≤ 20000 := by
    obtain ⟨f, rfl, _⟩ := I.list
    rw [List.length_map]
    exact Nat.le_trans (List.length_filter_le _ _) (Nat.le_trans (allC_len s I.le) (by decide))
  have h60 := I.le
  refine mk_results hl len (fun c => absurd ⟨by omega, by omega⟩ c) (fun _ _ i hb => absurd (all _ (List.mem_of_getElem? hb.1.choose_spec.1)) hb.1.choose_spec.2) (fun _ _ _ x H' e nx R => ?_)
  rw [Int.toNat_natCast] at R
  exact k x H' e ⟨_, _, R, isR_flip I⟩
def sp_flipped (K : PySem.W.Frag) : Sp := fun vs H Q _ => ∃ (a : Addr) (M : Pr → Prop), vs = [.ref a] ∧ RsM K H a M ∧ ∀ x H', Ext H H' → RsM K H' x (fun p => M (swap p)) → Q (.ref x) H'
theorem ok_Results_flipped (T : Tx K mg) : FnR P w K mg base (L2.CX P w) 12 (a_Results_flipped K) (sp_flipped K) := by
  refine fnr T.d_Results_flipped sc_Results_flipped (fun _ _ _ _ _ _ us hl => match us, hl with | [_], _ => rfl) (fun vs H Q E h => ?_) (fun cdv A outer s H vs Q E hr h => ?_)
  · obtain ⟨a, M, rfl, _⟩ := h
    rfl
  · obtain ⟨a, M, rfl, ⟨s1, k1, ⟨dx, q, d, h1, ⟨vs, h2, pr⟩, h3⟩, I⟩, k⟩ := h
    refine ⟨_, (pss_one (ps_ret (pe_mk T.k_Results (ok_Results_init T) (hr.mono (by decide)) (by rfl) T.g_Results (pa_cons (GW.fld (K := K) (pv 0)) (pa_cons (pe_lc (own := [("home", 1), ("away", 2)]) rfl sc_Results_flipped.nd (GW.pi_tup (K := K) (GW.fld (K := K) (pv 0))) (blkOk_by (own := [("home", 1), ("away", 2)]) (N := N_Results_flipped) (sc := defScope s_Results_flipped) (by decide +kernel)) (fun _ _ _ _ _ => (GW.tup (K := K) (n := 2) rfl (pgs_cons (gx 1 sc_Results_flipped.nd) (pgs_cons (gx 2 sc_Results_flipped.nd) pgs_nil)))) (fun _ _ _ _ _ => pts_nil) (fun _ _ _ _ _ => (pe_tup (pa_cons (pv 2) (pa_cons (pv 1) pa_nil))))) pa_nil))))), ?_⟩
    walk_at "go"
    refine Rd.fldv rfl h1 T.c_Results T.n_Results_span (fsR1 _ _ _) ?_
    walk_at "go"
    refine Rd.fldv rfl h1 T.c_Results T.n_Results_kept (fsR2 _ _ _) ?_
    refine ⟨q, rfl, ⟨_, SqT.of h2⟩, fun D hD => ?_⟩
    have len : k1.length < 100000 := by
      obtain ⟨f, rfl, _⟩ := I.list
      exact Nat.lt_of_le_of_lt (Nat.le_trans (List.length_filter_le _ _) (allC_len s1 I.le)) (by decide)
    refine Rd.lcB (Rd.walk_tB (K := K) (a := q) pr) (PT H) (Rd.yB pr) len (fun _ => true) (fun p y H => PT H (swap p) y) (fun _ _ _ _ e h => h.ext e) hD (fun H' e => SqT.of (e _ _ h2)) ?_ ?_
    · intro i p y H2 acc hp hB e2 ha Qy Qn ky kn
      refine un2 (hB.ext e2) ?_
      refine ⟨rfl, ?_⟩
      walk_at "go"
      exact ⟨Rd.szr rfl, fun t ht => ky _ _ (Ext.upd ht) rfl (PT.new (p := swap p) ha ht)⟩
    · intro zs H2 e2 hzs pz
      rw [List.filter_eq_self.mpr (fun _ _ => rfl)] at pz
      walk_at "go"
      exact mk_swap I (PL.of hzs (Rd.paired_mapl pz)) fun x H3 e3 R => k x H3 (e2.trans e3) R
/-! ### the properties, all, none -/
def sp_reach (K : PySem.W.Frag) : Sp := fun vs H Q _ => ∃ (a : Addr) (s : Nat) (ks : List Pr), vs = [.ref a] ∧ RsAt K H a s ks ∧ Q (.int s) H
theorem ok_Results_reach (T : Tx K mg) : ∃ fd, FnOk P w K mg base (L2.CX P w) 1 (a_Results_reach K) fd P_Results_reach (sp_reach K) ∧ Binds K fd P_Results_reach [] := by
  refine fnok T.d_Results_reach sc_Results_reach (fun _ _ _ _ _ _ us hl => match us, hl with | [_], _ => rfl) (fun vs H Q E h => ?_) (fun cdv A outer s H vs Q E hr h => ?_)
  · obtain ⟨a, s, ks, rfl, _⟩ := h
    rfl
  · obtain ⟨a, s, ks, rfl, ⟨dx, q, d, h1, _⟩, k⟩ := h
    refine ⟨_, (pss_one (ps_ret (GW.fld (K := K) (pv 0)))), ?_⟩
    walk_at "go"
    exact Rd.fldv rfl h1 T.c_Results T.n_Results_span (fsR1 _ _ _) k
def sp_cores (K : PySem.W.Frag) : Sp := fun vs H Q _ => ∃ (a : Addr) (s : Nat) (ks : List Pr), vs = [.ref a] ∧ RsAt K H a s ks ∧ ∀ q, PU H q ks → Q (.ref q) H
theorem ok_Results_cores (T : Tx K mg) : ∃ fd, FnOk P w K mg base (L2.CX P w) 1 (a_Results_cores K) fd P_Results_cores (sp_cores K) ∧ Binds K fd P_Results_cores [] := by
  refine fnok T.d_Results_cores sc_Results_cores (fun _ _ _ _ _ _ us hl => match us, hl with | [_], _ => rfl) (fun vs H Q E h => ?_) (fun cdv A outer s H vs Q E hr h => ?_)
  · obtain ⟨a, s, ks, rfl, _⟩ := h
    rfl
  · obtain ⟨a, s, ks, rfl, ⟨dx, q, d, h1, h2, _⟩, k⟩ := h
    refine ⟨_, (pss_one (ps_ret (GW.fld (K := K) (pv 0)))), ?_⟩
    walk_at "go"
    exact Rd.fldv rfl h1 T.c_Results T.n_Results_kept (fsR2 _ _ _) (k q h2)
def sp_every (K : PySem.W.Frag) : Sp := fun vs H Q _ => vs = [] ∧ ∀ x H', Ext H H' → RsAt K H' x (span [(0, 0)] 0) (kept [(0, 0)] 0) → Q (.ref x) H'
theorem ok_Results_every (T : Tx K mg) : FnR P w K mg base (L2.CX P w) 10 (a_Results_every K) (sp_every K) := by
  refine fnr T.d_Results_every sc_Results_every (fun _ _ _ _ _ _ us hl => match us, hl with | [], _ => rfl) (fun vs H Q E h => ?_) (fun cdv A outer s H vs Q E hr h => ?_)
  · obtain ⟨rfl, _⟩ := h
    rfl
  · obtain ⟨rfl, k⟩ := h
    refine ⟨_, (pss_one (ps_ret (pe_mk T.k_Results (ok_Results_init T) (hr.mono (by decide)) (by rfl) T.g_Results (pa_cons pe_int (pa_cons (pe_lst (pa_cons (pe_tup (pa_cons pe_int (pa_cons pe_int pa_nil))) pa_nil)) pa_nil))))), ?_⟩
    walk_at "go"
    refine ⟨Rd.szr rfl, fun t ht => ⟨Rd.szr rfl, fun l hl => ?_⟩⟩
    have e1 := Ext.upd (H := H) (o := .tup [.int 0, .int 0]) ht
    have e2 := e1.trans (Ext.upd (o := .lst [.ref t]) hl)
    have pl : PL (upd (upd H t (.tup [.int 0, .int 0])) l (.lst [.ref t])) l [(0, 0)] := ⟨_, upd_same, .cons ⟨t, rfl, by rw [upd_ne (ne_of_none upd_same hl)]; exact upd_same⟩ .nil⟩
    have all : ∀ p ∈ ([(0, 0)] : List Pr), nn p := fun p hp => by rw [List.mem_singleton.mp hp]; exact ⟨by decide, by decide⟩
    refine mk_results pl (by decide) (fun c => absurd ⟨by decide, by decide⟩ c) (fun _ _ i hb => absurd (all _ (List.mem_of_getElem? hb.1.choose_spec.1)) hb.1.choose_spec.2) (fun _ _ _ x H' e nx R => ?_)
    exact k x H' (e2.trans e) R
def sp_none (K : PySem.W.Frag) : Sp := fun vs H Q _ => vs = [] ∧ ∀ x H', Ext H H' → RsAt K H' x (span [] 0) (kept [] 0) → Q (.ref x) H'
theorem ok_Results_none (T : Tx K mg) : FnR P w K mg base (L2.CX P w) 10 (a_Results_none K) (sp_none K) := by
  refine fnr T.d_Results_none sc_Results_none (fun _ _ _ _ _ _ us hl => match us, hl with | [], _ => rfl) (fun vs H Q E h => ?_) (fun cdv A outer s H vs Q E hr h => ?_)
  · obtain ⟨rfl, _⟩ := h
    rfl
  · obtain ⟨rfl, k⟩ := h
    refine ⟨_, (pss_one (ps_ret (pe_mk T.k_Results (ok_Results_init T) (hr.mono (by decide)) (by rfl) T.g_Results (pa_cons pe_int (pa_cons (pe_lst pa_nil) pa_nil))))), ?_⟩
    walk_at "go"
    refine ⟨Rd.szr rfl, fun l hl => ?_⟩
    have e2 := Ext.upd (H := H) (o := .lst []) hl
    have pl : PL (upd H l (.lst [])) l [] := ⟨_, upd_same, .nil⟩
    refine mk_results pl (by decide) (fun c => absurd ⟨by decide, by decide⟩ c) (fun _ _ i hb => absurd hb.1.choose_spec.1 (by simp)) (fun _ _ _ x H' e nx R => ?_)
    exact k x H' (e2.trans e) R
end
end Lv

set_option Elab.async false
set_option linter.all false
set_option maxRecDepth 100000
set_option maxHeartbeats 0
/-! The law's own draws: the pool, a draw, a number. -/
namespace Lv
open PySem PySem.Spec PyProof.Rows L2 OwX
local macro_rules | `(tactic| walk_at "side") => `(tactic| first
  | exact (show CMul _ _ from .inl ⟨by decide, by decide⟩) | exact (show CMul _ _ from .inr ⟨by decide, by decide⟩) | exact (show CMul _ _ from .inl ⟨by omega, by omega⟩) | exact (show CMul _ _ from .inr ⟨by omega, by omega⟩)
  | exact (show CPow _ _ from ⟨by decide, by decide, by decide⟩)
  | exact (show CDiv _ _ from ⟨by decide, by decide⟩) | exact (show CDiv _ _ from ⟨by omega, by omega⟩)
  | exact (show (0 : Int) < _ by decide) | exact (show (0 : Int) < _ by omega) | exact (show ¬ (_ : Int) = 0 by decide) | exact (show ¬ (_ : Int) = 0 by omega) | assumption)
local macro_rules | `(tactic| walk_at "hp") => `(tactic| first
  | assumption | exact upd_same
  | (refine' SqL.of ?h1; (case h1 => walk_at "hp")) | (refine' SqT.of ?h1; (case h1 => walk_at "hp"))
  | (refine' Rd.new_app ?h1 ?h2; (case h1 => assumption); (case h2 => walk_at "hp"))
  | (refine' Rd.upd_app ?h1 ?h2; (case h1 => first | assumption | exact Ne.symm (by assumption)); (case h2 => walk_at "hp"))
  | (refine' Rd.ext_app ?h1 ?h2; (case h1 => assumption); (case h2 => walk_at "hp"))
  | (refine' Rd.ext_L ?h1 ?h2; (case h1 => assumption); (case h2 => walk_at "hp"))
  | (refine' Rd.ext_T ?h1 ?h2; (case h1 => assumption); (case h2 => walk_at "hp")))
local macro_rules | `(tactic| walk_at "go") => `(tactic| repeat (first
  | with_reducible refine Rd.con ?_
  | ((with_reducible refine' Rd.var ?h1 ?_); (case h1 => rfl))
  | with_reducible refine Rd.op ?_
  | with_reducible refine Rd.un ?_
  | with_reducible refine Rd.i0 ?_
  | with_reducible refine Rd.iu ?_
  | ((with_reducible refine Rd.iC ?h1 ?_); (case h1 => walk_at "side"))
  | with_reducible refine Rd.nil ?_
  | with_reducible refine Rd.cons ?_
  | with_reducible refine Rd.cb ?_
  | with_reducible refine Rd.int1 ?_
  | with_reducible refine Rd.intB ?_
  | with_reducible refine Rd.maxI ?_
  | with_reducible refine Rd.minI ?_
  | with_reducible refine Rd.blx ?_
  | with_reducible refine Rd.tst ?_
  | with_reducible refine Rd.tb_ ?_
  | with_reducible refine Rd.not_ ?_
  | with_reducible refine Rd.and_ ?_
  | with_reducible refine Rd.or_ ?_
  | with_reducible refine Rd.ifx ?_
  | with_reducible refine Rd.chain ?_
  | with_reducible refine Rd.andV ?_
  | with_reducible refine Rd.orV ?_
  | with_reducible refine Rd.notV ?_
  | with_reducible refine Rd.seq ?_
  | with_reducible refine Rd.asg ?_
  | with_reducible refine Rd.name ?_
  | with_reducible refine Rd.ret ?_
  | with_reducible refine Rd.ifS ?_
  | with_reducible refine Rd.next ?_
  | with_reducible refine Rd.drop ?_
  | with_reducible refine Rd.gsub ?_
  | with_reducible refine Rd.cr ?_
  | with_reducible refine Rd.crX ?_
  | with_reducible refine Rd.ixOS ?_
  | ((with_reducible refine' Rd.xfv ?h1 ?h2 ?h3 ?_); (case h1 => walk_at "hp"); (case h2 => rfl); (case h3 => rfl))
  | ((with_reducible refine' Rd.bmLv ?h1 ?h2 ?_); (case h1 => rfl); (case h2 => walk_at "hp"))
  | ((with_reducible refine' Rd.countL ?h1 ?_); (case h1 => walk_at "hp"))
  | ((with_reducible refine' Rd.sumL ?h1 ?_); (case h1 => walk_at "hp"))
  | ((with_reducible refine' Rd.listL ?h1 ?_); (case h1 => walk_at "hp"))
  | ((with_reducible refine' Rd.listT ?h1 ?_); (case h1 => walk_at "hp"))
  | with_reducible refine Rd.isNn ?_
  | with_reducible refine Rd.isNr ?_
  | with_reducible refine Rd.notNn ?_
  | with_reducible refine Rd.notNr ?_
  | with_reducible refine Rd.isB ?_
  | with_reducible refine Rd.notBtt ?_
  | with_reducible refine Rd.notBff ?_
  | with_reducible refine Rd.notBtf ?_
  | with_reducible refine Rd.notBft ?_
  | with_reducible refine Rd.notB ?_
  | with_reducible refine Rd.smeth ?_
  | with_reducible refine Rd.sl ?_
  | with_reducible refine Rd.po0 ?_
  | with_reducible refine Rd.poI ?_
  | with_reducible refine Rd.ixi ?_
  | with_reducible refine Rd.par ?_
  | with_reducible refine Rd.par2 ?_
  | with_reducible refine Rd.mkRS ?_
  | with_reducible refine Rd.callRS ?_
  | with_reducible refine Rd.mk ?_
  | with_reducible refine Rd.mkX ?_
  | with_reducible refine Rd.sF ?_
  | with_reducible refine Rd.dIn ?_
  | with_reducible refine Rd.dNi ?_
  | with_reducible refine Rd.dctL ?_
  | with_reducible refine Rd.dctT ?_
  | with_reducible refine Rd.forE ?_
  | with_reducible refine Rd.lc2T ?_
  | with_reducible refine Rd.lc2L ?_
  | with_reducible refine Rd.lc2R ?_
  | with_reducible refine Rd.inR2 ?_
  | with_reducible refine Rd.inR1 ?_
  | with_reducible refine Rd.inT ?_
  | with_reducible refine Rd.inL ?_
  | with_reducible refine Rd.lcT ?_
  | with_reducible refine Rd.lcL ?_
  | with_reducible refine Rd.lcR ?_
  | with_reducible refine Rd.forT ?_
  | with_reducible refine Rd.forL ?_
  | with_reducible refine Rd.forR ?_
  | with_reducible refine Rd.yes ?_
  | with_reducible refine iteT ?_
  | with_reducible refine iteF ?_
  | with_reducible refine Rd.iteNT ?_
  | with_reducible refine Rd.iteNF ?_
  | with_reducible refine Rd.tup ?_
  | with_reducible refine Rd.lst ?_
  | ((with_reducible refine Rd.eqs ?h1 ?_); (case h1 => rfl))
  | ((with_reducible refine Rd.nes ?h1 ?_); (case h1 => rfl))
  | ((with_reducible refine' Rd.ixL ?h1 ?h2 ?_); (case h1 => walk_at "hp"); (case h2 => first | rfl | assumption))
  | ((with_reducible refine' Rd.ixT ?h1 ?h2 ?_); (case h1 => walk_at "hp"); (case h2 => first | rfl | assumption))
  | ((with_reducible refine' Rd.lenL ?h1 ?_); (case h1 => walk_at "hp"))
  | ((with_reducible refine' Rd.lenT ?h1 ?_); (case h1 => walk_at "hp"))
  | ((with_reducible refine' Rd.setL ?h1 ?h2 ?_); (case h1 => walk_at "hp"); (case h2 => first | rfl | assumption))))
/-- the pool's two numbers -/
structure PoolOk (x y : Int) : Prop where
  x0 : 0 ≤ x
  xm : x.natAbs < 2 ^ 1048577
  y0 : 0 ≤ y
  ym : y < 2147483647
theorem natAbs_ediv_lt {x b : Int} {n : Nat} (hx : 0 ≤ x) (hb : 0 < b) (h : x.natAbs < n) : (x / b).natAbs < n := by
  have h1 : 0 ≤ x / b := Int.ediv_nonneg hx (by omega)
  have h2 : x / b ≤ x := Int.ediv_le_self b hx
  omega
theorem small_div {i b : Int} (h0 : 0 < b) (h : b < 2 ^ 200) : CDivW i b := wide_div h0 (b := 200) (by omega) (by decide) (by decide)
theorem fmod_in {x b : Int} (h : 0 < b) : 0 ≤ x.fmod b ∧ x.fmod b < b := by
  rw [Int.fmod_eq_emod_of_nonneg _ (by omega)]
  exact ⟨Int.emod_nonneg _ (by omega), Int.emod_lt_of_pos _ h⟩
theorem nat_bits {z : Int} {m : Nat} (h : Builtin.Int.intBits z ≤ m) : z.natAbs < 2 ^ m := by
  unfold Builtin.Int.intBits at h
  by_cases e : z.natAbs = 0
  · rw [e]; exact Nat.pow_pos (by decide)
  · split at h
    · rename_i q
      exact absurd (by simpa using q) e
    · exact Nat.lt_of_lt_of_le Nat.lt_log2_self (Nat.pow_le_pow_right (by decide) h)
theorem big_ok {z : Int} (h : z.natAbs < 2 ^ 1048576) : 0 ≤ (if (-1 - z) > z then (-1 - z) else z) ∧ (if (-1 - z) > z then (-1 - z) else z).natAbs < 2 ^ 1048577 := by
  have e : (2 : Nat) ^ 1048577 = 2 ^ 1048576 * 2 := Nat.pow_succ 2 1048576
  rw [e]
  generalize (2 : Nat) ^ 1048576 = m at h
  by_cases c : (-1 - z) > z
  · rw [if_pos c]; omega
  · rw [if_neg c]; omega
section
variable {base : Heap} {P : Program} {w : World} {mg : Str → Option Value} {K : PySem.W.Frag}
/-! ### _law_take -/
def sp_take : Sp := fun vs H Q _ => ∃ (p : Addr) (b x y : Int), vs = [.ref p, .int b] ∧ H p = some (.lst [.int x, .int y]) ∧ PoolOk x y ∧ 0 < b ∧ b < 2 ^ 200 ∧
  ∀ r x' y', PoolOk x' y' → 0 ≤ r → r < b → Q (.int r) (upd H p (.lst [.int x', .int y']))
theorem ok_take (T : Tx K mg) : FnR P w K mg base (L2.CX P w) 1 (a_law_take K) sp_take := by
  refine fnr T.d_law_take sc_law_take (fun _ _ _ _ _ _ us hl => match us, hl with | [_, _], _ => rfl) (fun vs H Q E h => ?_) (fun cdv A outer s H vs Q E hr h => ?_)
  · obtain ⟨p, b, x, y, rfl, _⟩ := h
    rfl
  · obtain ⟨p, b, x, y, rfl, hp, ok, h0, hb, k⟩ := h
    refine ⟨_, pss_cons (ps_if (pt_cmpR op_gt (pe_ix ix_list (pv 0) pe_int (fun _ _ => rfl)) pe_int (nomark _))
        (pss_cons (ps_set (i := 2) sc_law_take.nd rfl (Or.inl rfl) (pe_op op_modN (pe_callTy Rd.c_int (by rfl) T.f_int boot_int (pa_cons (pe_ix ix_list (pv 0) pe_int (fun _ _ => rfl)) pa_nil)) (pv 1)))
        (pss_cons (ps_asg (pe_op op_fdivW (pe_ix ix_list (pv 0) pe_int (fun _ _ => rfl)) (pv 1)) (pg_sub (pv 0) pe_int set_list))
        (pss_one (ps_ret (pv 2))))) pss_nil)
      (pss_cons (ps_asg (pe_op op_mod (pe_callTy Rd.c_int (by rfl) T.f_int boot_int (pa_cons (pe_op op_add (pe_op op_mul (pe_ix ix_list (pv 0) pe_int (fun _ _ => rfl)) pe_int) pe_int) pa_nil)) pe_int) (pg_sub (pv 0) pe_int set_list))
      (pss_one (ps_ret (pe_op op_modN (pe_callTy Rd.c_int (by rfl) T.f_int boot_int (pa_cons (pe_op op_fdiv (pe_op op_mod (pe_callTy Rd.c_int (by rfl) T.f_int boot_int (pa_cons (pe_op op_mul (pe_ix ix_list (pv 0) pe_int (fun _ _ => rfl)) (pe_ix ix_list (pv 0) pe_int (fun _ _ => rfl))) pa_nil)) pe_int) pe_int) pa_nil)) (pv 1))))), ?_⟩
    have y0 := ok.y0
    have ym := ok.ym
    have sd : ∀ i, CDivW i b := fun i => small_div h0 hb
    walk_at "go"
    refine Rd.ited (fun hx => ?_) (fun hx => ?_)
    · walk_at "go"
      refine Rd.iC (sd _) ?_
      walk_at "go"
      exact k _ _ _ ⟨Int.ediv_nonneg ok.x0 (by omega), natAbs_ediv_lt ok.x0 h0 ok.xm, ok.y0, ok.ym⟩ (fmod_in h0).1 (fmod_in h0).2
    · have z0 : 0 ≤ (y * 39373 + 7) % 2147483647 := Int.emod_nonneg _ (by decide)
      have z1 : (y * 39373 + 7) % 2147483647 < 2147483647 := Int.emod_lt_of_pos _ (by decide)
      walk_at "go"
      exact k _ _ _ ⟨ok.x0, ok.xm, z0, z1⟩ (fmod_in h0).1 (fmod_in h0).2
/-! ### _law_pool -/
def sp_pool (K : PySem.W.Frag) : Sp := fun vs H Q _ => ∃ (a : Addr) (ns : List Int) (k : Nat), vs = [.ref a, .int k] ∧ SqL K H a (ns.map V.int) ∧ ns.length ≤ 63 ∧ k < 63 ∧ (∀ z ∈ ns, Builtin.Int.intBits z ≤ 1048576) ∧
  ∀ p x y, PoolOk x y → H p = none → Q (.ref p) (upd H p (.lst [.int x, .int y]))
theorem ok_pool (T : Tx K mg) : FnR P w K mg base (L2.CX P w) 1 (a_law_pool K) (sp_pool K) := by
  refine fnr T.d_law_pool sc_law_pool (fun _ _ _ _ _ _ us hl => match us, hl with | [_, _], _ => rfl) (fun vs H Q E h => ?_) (fun cdv A outer s H vs Q E hr h => ?_)
  · obtain ⟨a, ns, k, rfl, _⟩ := h
    rfl
  · obtain ⟨a, ns, j, rfl, hS, hn, hj, hb, kk⟩ := h
    refine ⟨_, pss_cons (ps_set (i := 2) sc_law_pool.nd rfl (Or.inl rfl) pe_int)
      (C8.pss_cut (ps_if (pt_cmpR op_lt (pv 1) (pe_callB (Rd.c_len (K := K)) (by rfl) T.f_len boot_len (pa_cons (pv 0) pa_nil)) (nomark _))
        (pss_one (ps_set (i := 2) sc_law_pool.nd rfl (Or.inl rfl) (pe_ix ix_list (pv 0) (pv 1) (fun _ _ => rfl)))) pss_nil)
      (pss_cons (ps_set (i := 3) sc_law_pool.nd rfl (Or.inl rfl) (pe_callB (Rd.c_max rfl) (by rfl) T.f_max Rd.bt_max (pa_cons (pe_callTy Rd.c_int (by rfl) T.f_int boot_int (pa_cons (pv 2) pa_nil))
          (pa_cons (pe_callTy Rd.c_int (by rfl) T.f_int boot_int (pa_cons (pe_op op_sub (pe_un un_neg pe_int) (pv 2)) pa_nil)) pa_nil))))
      (pss_cons (ps_set (i := 4) sc_law_pool.nd rfl (Or.inl rfl) (pe_op op_mod (pe_callTy Rd.c_int (by rfl) T.f_int boot_int (pa_cons (pe_op op_mul (pe_op op_add (pe_op op_add (pe_op op_add (pe_op op_mod (pe_callTy Rd.c_int (by rfl) T.f_int boot_int (pa_cons (pv 3) pa_nil)) pe_int)
          (pe_op op_mul (pe_op op_mul pe_int (pv 1)) (pv 1))) (pe_op op_mul pe_int (pv 1))) pe_int) pe_int) pa_nil)) pe_int))
      (pss_one (ps_ret (pe_lst (pa_cons (pe_op op_mul (pv 3) (pe_callTy Rd.c_int (by rfl) T.f_int boot_int (pa_cons (pe_cmpR op_ge (pv 3) (pe_op op_pow pe_int pe_int) (nomark _)) pa_nil))) (pa_cons (pv 4) pa_nil)))))))), ?_⟩
    walk_at "go"
    refine ⟨fun σ H' => H' = H ∧ ∃ z : Int, z.natAbs < 2 ^ 1048576 ∧ σ = [some (V.ref a), some (V.int j), some (V.int z), none, none], ?_, ?_⟩
    · walk_at "go"
      refine Rd.ited (fun c => ?_) (fun c => ?_)
      · rw [List.length_map] at c
        have hl : j < ns.length := by omega
        have hat : atI (ns.map V.int) (j : Int) = some (V.int ns[j]) := Rd.nat_at rfl (by rw [List.getElem?_map, List.getElem?_eq_getElem hl]; rfl)
        walk_at "go"
        exact ⟨rfl, _, nat_bits (hb _ (List.getElem_mem hl)), rfl⟩
      · exact ⟨rfl, 0, Nat.pow_pos (by decide), rfl⟩
    · rintro σ H' ⟨rfl, z, hz, rfl⟩
      have hz2 := big_ok hz
      have j0 : (j : Int) < 63 := by omega
      walk_at "go"
      generalize (if -1 - z > z then -1 - z else z) = g at hz2
      have y0 := Int.emod_nonneg ((g % 2147483629 + 6871 * (j : Int) * (j : Int) + 29 * (j : Int) + 13) * 48271) (show (2147483647 : Int) ≠ 0 by decide)
      have y1 := Int.emod_lt_of_pos ((g % 2147483629 + 6871 * (j : Int) * (j : Int) + 29 * (j : Int) + 13) * 48271) (show (0 : Int) < 2147483647 by decide)
      refine ⟨Rd.szr rfl, fun p hp => kk p _ _ ⟨?_, ?_, y0, y1⟩ hp⟩
      · exact Int.mul_nonneg hz2.1 (by split <;> decide)
      · rw [Int.natAbs_mul]
        refine Nat.lt_of_le_of_lt ?_ hz2.2
        have : (if decide ((10 : Int) ^ (18 : Int).toNat ≤ g) = true then (1 : Int) else 0).natAbs ≤ 1 := by split <;> decide
        exact Nat.le_trans (Nat.mul_le_mul_left _ this) (by omega)
end
end Lv

set_option Elab.async false
set_option linter.all false
set_option maxRecDepth 100000
set_option maxHeartbeats 0
/-! Later heaps: all is kept but the pool. -/
namespace Lv
open PySem PySem.Spec PyProof.Rows L2 OwX
/-- the pool at p -/
def Pl (p : Addr) (H : Hp) : Prop := ∃ x y, H p = some (.lst [.int x, .int y]) ∧ PoolOk x y
/-- H' is later than H: what H has but the pool stands -/
structure Lt (p : Addr) (H H' : Hp) : Prop where
  px : Ext (Rd.hid [p] H) (Rd.hid [p] H')
  pl : Pl p H'
section
variable {p a b : Addr} {H H' H'' : Hp} {o u : HO} {K : PySem.W.Frag} {xs : List V}
theorem Lt.rfl (h : Pl p H) : Lt p H H := ⟨Rd.ext_rfl, h⟩
theorem Lt.trans (h : Lt p H H') (h' : Lt p H' H'') : Lt p H H'' := ⟨h.px.trans h'.px, h'.pl⟩
theorem Pl.ext (h : Pl p H) (e : Ext H H') : Pl p H' := by
  obtain ⟨x, y, h1, h2⟩ := h
  exact ⟨x, y, e _ _ h1, h2⟩
theorem Lt.ext (h : Lt p H H') (e : Ext H' H'') : Lt p H H'' := ⟨h.px.trans (Rd.ext_hid e), h.pl.ext e⟩
theorem Lt.of (h : Pl p H) (e : Ext H H') : Lt p H H' := (Lt.rfl h).ext e
theorem Lt.new (h : Lt p H H') (n : H' a = none) : Lt p H (upd H' a u) := h.ext (Ext.upd n)
theorem Lt.at (e : Lt p H H') (ne : a ≠ p) (h : H a = some o) : H' a = some o := by
  have h2 := e.px a o (by rw [Rd.hid_ne (by simpa using ne)]; exact h)
  exact (Rd.hid_at h2).1
theorem Pl.ne (h : Pl p H) (n : H a = none) : a ≠ p := by
  obtain ⟨x, y, h1, _⟩ := h
  exact fun e => by rw [e, h1] at n; cases n
theorem Lt.free (e : Lt p H H') (n : H' a = none) : H a = none := by
  have ne := e.pl.ne n
  cases q : H a with
  | none => exact Eq.refl _
  | some o => rw [e.at ne q] at n; cases n
/-- a change of what H does not know -/
theorem Lt.mut (e : Lt p H H') (n : H a = none) (ne : a ≠ p) : Lt p H (upd H' a u) := by
  refine ⟨fun b o h => ?_, ?_⟩
  · obtain ⟨h1, h2⟩ := Rd.hid_at h
    rw [Rd.hid_ne h2, upd_ne (ne_of_none h1 n)]
    exact e.at (by simpa using h2) h1
  · obtain ⟨x, y, h1, h2⟩ := e.pl
    exact ⟨x, y, by rw [upd_ne ne.symm]; exact h1, h2⟩
theorem Lt.drew {x y : Int} (ok : PoolOk x y) : Lt p H (upd H p (.lst [.int x, .int y])) :=
  ⟨by rw [Rd.hid_upd (by simp)]; exact Rd.ext_rfl, x, y, upd_same, ok⟩
theorem Lt.sq (e : Lt p H H') (ne : a ≠ p) (h : SqL K H a xs) : SqL K H' a xs :=
  h.elim (fun h => .inl (h.elim (fun h => .inl (e.at ne h)) fun ⟨o, h⟩ => .inr ⟨o, e.at ne h⟩)) fun h => .inr h
theorem Lt.st (e : Lt p H H') (ne : a ≠ p) (h : SqT K H a xs) : SqT K H' a xs :=
  h.elim (fun h => .inl (h.elim (fun h => .inl (e.at ne h)) fun ⟨o, h⟩ => .inr ⟨o, e.at ne h⟩)) fun h => .inr h
/-- an object that is no list of two ints is not the pool -/
theorem Pl.ne_ins {C dx : Addr} {fs : List (Str × V)} (h : Pl p H) (e : H a = some (.ins C dx fs)) : a ≠ p := by
  obtain ⟨x, y, h1, _⟩ := h
  exact ne_of e h1 (by intro z; cases z)
theorem Pl.ne_tup {ys : List V} (h : Pl p H) (e : H a = some (.tup ys)) : a ≠ p := by
  obtain ⟨x, y, h1, _⟩ := h
  exact ne_of e h1 (by intro z; cases z)
theorem hid2 (n1 : a ≠ b) (n2 : a ≠ p) (h : H a = some o) : Rd.hid [b, p] H a = some o := by
  rw [Rd.hid_ne (by simp [n1, n2])]; exact h
theorem hid1 (n1 : a ≠ b) (h : H a = some o) : Rd.hid [b] H a = some o := by
  rw [Rd.hid_ne (by simp [n1])]; exact h
theorem draw {b : Int} {Q : VK} {E : XK} (h : Pl p H) (k : ∀ (r : Nat) H', (r : Int) < b → Lt p H H' → Q (.int r) H') (h0 : 0 < b := by omega) (h1 : b < 2 ^ 200 := by omega) : sp_take [.ref p, .int b] H Q E := by
  obtain ⟨x, y, hp, ok⟩ := h
  refine ⟨p, b, x, y, Eq.refl _, hp, ok, h0, h1, fun r x' y' ok' r0 r1 => ?_⟩
  have := k r.toNat _ (by omega) (Lt.drew ok')
  rw [Int.toNat_of_nonneg r0] at this
  exact this
theorem mkPool {sc : Addr} {ns : List Int} {k : Nat} {Q : VK} {E : XK} (h : SqL K H sc (ns.map V.int)) (hn : ns.length ≤ 63) (hk : k < 63) (hb : ∀ z ∈ ns, Builtin.Int.intBits z ≤ 1048576) (kk : ∀ p H', H p = none → Ext H H' → Pl p H' → Q (.ref p) H') : sp_pool K [.ref sc, .int k] H Q E :=
  ⟨sc, ns, k, Eq.refl _, h, hn, hk, hb, fun p x y ok hp => kk p _ hp (Ext.upd hp) ⟨x, y, upd_same, ok⟩⟩
end
theorem SqL.later {p a : Addr} {H H1 H' : Hp} {K : PySem.W.Frag} {xs : List V} (h : SqL K H a xs) (n : H p = none) (e : Ext H H1) (l : Lt p H1 H') : SqL K H' a xs :=
  h.elim (fun h => .inl (h.elim (fun h => .inl (l.at (ne_of_none h n) (e _ _ h))) fun ⟨o, h⟩ => .inr ⟨o, l.at (ne_of_none h n) (e _ _ h)⟩)) fun h => .inr h
/-! ### comprehensions that draw -/
section
variable {α : Type} {J : It} {G : Hp → Prop} {Y : Nat → Hp → V → Hp → Prop} {items : List α} {Yi : α → Hp → V → Hp → Prop} {p : Addr}
theorem lcP (w : Walk J items.length G Y) (hy : ∀ i H x H', Y i H x H' → ∃ it, items[i]? = some it ∧ Yi it H x H') (hn : items.length < 100000)
    {g : TG} {tt : TT} {te : TE} {vs : List Nat} {σ : L2.St} {H1 : Hp} {D : Addr} {Qd : Hp → Prop} (hp : Pl p H1) (keep : α → Bool) (R : α → V → Hp → Prop) (mono : ∀ a y H H', Ext H H' → R a y H → R a y H')
    (hD : H1 D = none) (hG : ∀ H, Lt p H1 H → G H)
    (hs : ∀ (i : Nat) it x H H' acc, items[i]? = some it → Lt p H1 H → H D = some (.lst acc) → Yi it H x H' → ∀ (Qy : VK) (Qn : Hp → Prop),
      (∀ y H4, Lt p H H4 → keep it = true → R it y (Rd.hid [D, p] H4) → Qy y H4) → (∀ H3, Lt p H H3 → keep it = false → Qn H3) →
      g x (wipe σ vs) H' fun σ2 H2 => wipe σ2 vs = wipe σ vs ∧ tt σ2 H2 fun b H3 => if b = true then te σ2 H3 Qy else Qn H3)
    (hd : ∀ ys H, Lt p H1 H → H D = some (.lst ys) → Paired (fun a y => R a y (Rd.hid [D, p] H)) (items.filter keep) ys → Qd H) :
    ∃ W : Nat → Nat → Hp → Prop, (∃ m, W 0 m (upd H1 D (.lst []))) ∧ ∀ i m H, W i m H →
      (J.stop i H ∧ Qd H) ∨ (J.go i H ∧ ∃ Nx : Hp → Prop, (∀ H', Nx H' → ∃ m', m' < m ∧ W (i + 1) m' H') ∧ ∀ x H', J.yld i H x H' → g x (wipe σ vs) H' fun σ2 H2 => wipe σ2 vs = wipe σ vs ∧ tt σ2 H2 fun b H3 =>
        if b = true then te σ2 H3 fun y H4 => ∃ acc, H4 D = some (.lst acc) ∧ acc.length < sizeLine ∧ Nx (upd H4 D (.lst (acc ++ [y]))) else Nx H3) := by
  refine Rd.lcG w hy hn [p] (Pl p) keep R mono hD (by simpa using hp.ne hD) (fun H u h => ?_) hp (fun H e i => hG H ⟨e, i⟩) ?_ ?_
  · obtain ⟨x, y, h1, h2⟩ := h
    exact ⟨x, y, by rw [upd_ne (hp.ne hD).symm]; exact h1, h2⟩
  · intro i it x H H' acc hit e ip ha yi Qy Qn ky kn
    exact hs i it x H H' acc hit ⟨e, ip⟩ ha yi Qy Qn (fun y H4 l => ky y H4 l.px l.pl) (fun H3 l => kn H3 l.px l.pl)
  · intro ys H e ip hys pr
    exact hd ys H ⟨e, ip⟩ hys pr
end
theorem intsOf {α : Type} : ∀ {items : List α} {ys : List V}, Paired (fun _ y => ∃ z : Int, y = V.int z) items ys → ∃ zs : List Int, ys = zs.map V.int ∧ zs.length = items.length
  | _, _, .nil => ⟨[], rfl, rfl⟩
  | _, _, .cons ⟨z, hz⟩ t => by
    obtain ⟨zs, h1, h2⟩ := intsOf t
    exact ⟨z :: zs, by rw [hz, h1]; rfl, by rw [List.length_cons, List.length_cons, h2]⟩
end Lv

set_option Elab.async false
set_option linter.all false
set_option maxRecDepth 100000
set_option maxHeartbeats 0
/-! The results laws' own core, a thing drawn. -/
namespace Lv
open PySem PySem.Spec PyProof.Rows L2 OwX Rs
local macro_rules | `(tactic| walk_at "side") => `(tactic| first
  | exact (show CMul _ _ from .inl ⟨by decide, by decide⟩) | exact (show CMul _ _ from .inr ⟨by decide, by decide⟩) | exact (show CMul _ _ from .inl ⟨by omega, by omega⟩) | exact (show CMul _ _ from .inr ⟨by omega, by omega⟩)
  | exact (show CPow _ _ from ⟨by decide, by decide, by decide⟩)
  | exact (show CDiv _ _ from ⟨by decide, by decide⟩) | exact (show CDiv _ _ from ⟨by omega, by omega⟩)
  | exact (show (0 : Int) < _ by decide) | exact (show (0 : Int) < _ by omega) | exact (show ¬ (_ : Int) = 0 by decide) | exact (show ¬ (_ : Int) = 0 by omega) | assumption)
local macro_rules | `(tactic| walk_at "hp") => `(tactic| first
  | assumption | exact upd_same
  | (refine' SqL.of ?h1; (case h1 => walk_at "hp")) | (refine' SqT.of ?h1; (case h1 => walk_at "hp"))
  | (refine' Rd.new_app ?h1 ?h2; (case h1 => assumption); (case h2 => walk_at "hp"))
  | (refine' Rd.upd_app ?h1 ?h2; (case h1 => first | assumption | exact Ne.symm (by assumption)); (case h2 => walk_at "hp"))
  | (refine' Rd.ext_app ?h1 ?h2; (case h1 => assumption); (case h2 => walk_at "hp"))
  | (refine' Rd.ext_L ?h1 ?h2; (case h1 => assumption); (case h2 => walk_at "hp"))
  | (refine' Rd.ext_T ?h1 ?h2; (case h1 => assumption); (case h2 => walk_at "hp")))
local macro_rules | `(tactic| walk_at "go") => `(tactic| repeat (first
  | with_reducible refine Rd.con ?_
  | ((with_reducible refine' Rd.var ?h1 ?_); (case h1 => rfl))
  | with_reducible refine Rd.op ?_
  | with_reducible refine Rd.un ?_
  | with_reducible refine Rd.i0 ?_
  | with_reducible refine Rd.iu ?_
  | ((with_reducible refine Rd.iC ?h1 ?_); (case h1 => walk_at "side"))
  | with_reducible refine Rd.nil ?_
  | with_reducible refine Rd.cons ?_
  | with_reducible refine Rd.cb ?_
  | with_reducible refine Rd.int1 ?_
  | with_reducible refine Rd.intB ?_
  | with_reducible refine Rd.maxI ?_
  | with_reducible refine Rd.minI ?_
  | with_reducible refine Rd.blx ?_
  | with_reducible refine Rd.tst ?_
  | with_reducible refine Rd.tb_ ?_
  | with_reducible refine Rd.not_ ?_
  | with_reducible refine Rd.and_ ?_
  | with_reducible refine Rd.or_ ?_
  | with_reducible refine Rd.ifx ?_
  | with_reducible refine Rd.chain ?_
  | with_reducible refine Rd.andV ?_
  | with_reducible refine Rd.orV ?_
  | with_reducible refine Rd.notV ?_
  | with_reducible refine Rd.seq ?_
  | with_reducible refine Rd.asg ?_
  | with_reducible refine Rd.name ?_
  | with_reducible refine Rd.ret ?_
  | with_reducible refine Rd.ifS ?_
  | with_reducible refine Rd.next ?_
  | with_reducible refine Rd.drop ?_
  | with_reducible refine Rd.gsub ?_
  | with_reducible refine Rd.cr ?_
  | with_reducible refine Rd.crX ?_
  | with_reducible refine Rd.ixOS ?_
  | ((with_reducible refine' Rd.xfv ?h1 ?h2 ?h3 ?_); (case h1 => walk_at "hp"); (case h2 => rfl); (case h3 => rfl))
  | ((with_reducible refine' Rd.bmLv ?h1 ?h2 ?_); (case h1 => rfl); (case h2 => walk_at "hp"))
  | ((with_reducible refine' Rd.countL ?h1 ?_); (case h1 => walk_at "hp"))
  | ((with_reducible refine' Rd.sumL ?h1 ?_); (case h1 => walk_at "hp"))
  | ((with_reducible refine' Rd.listL ?h1 ?_); (case h1 => walk_at "hp"))
  | ((with_reducible refine' Rd.listT ?h1 ?_); (case h1 => walk_at "hp"))
  | with_reducible refine Rd.isNn ?_
  | with_reducible refine Rd.isNr ?_
  | with_reducible refine Rd.notNn ?_
  | with_reducible refine Rd.notNr ?_
  | with_reducible refine Rd.isB ?_
  | with_reducible refine Rd.notBtt ?_
  | with_reducible refine Rd.notBff ?_
  | with_reducible refine Rd.notBtf ?_
  | with_reducible refine Rd.notBft ?_
  | with_reducible refine Rd.notB ?_
  | with_reducible refine Rd.smeth ?_
  | with_reducible refine Rd.sl ?_
  | with_reducible refine Rd.po0 ?_
  | with_reducible refine Rd.poI ?_
  | with_reducible refine Rd.ixi ?_
  | with_reducible refine Rd.par ?_
  | with_reducible refine Rd.par2 ?_
  | with_reducible refine Rd.mkRS ?_
  | with_reducible refine Rd.callRS ?_
  | with_reducible refine Rd.mk ?_
  | with_reducible refine Rd.mkX ?_
  | with_reducible refine Rd.sF ?_
  | with_reducible refine Rd.dIn ?_
  | with_reducible refine Rd.dNi ?_
  | with_reducible refine Rd.dctL ?_
  | with_reducible refine Rd.dctT ?_
  | with_reducible refine Rd.forE ?_
  | with_reducible refine Rd.lc2T ?_
  | with_reducible refine Rd.lc2L ?_
  | with_reducible refine Rd.lc2R ?_
  | with_reducible refine Rd.inR2 ?_
  | with_reducible refine Rd.inR1 ?_
  | with_reducible refine Rd.inT ?_
  | with_reducible refine Rd.inL ?_
  | with_reducible refine Rd.lcT ?_
  | with_reducible refine Rd.lcL ?_
  | with_reducible refine Rd.lcR ?_
  | with_reducible refine Rd.forT ?_
  | with_reducible refine Rd.forL ?_
  | with_reducible refine Rd.forR ?_
  | with_reducible refine Rd.yes ?_
  | with_reducible refine iteT ?_
  | with_reducible refine iteF ?_
  | with_reducible refine Rd.iteNT ?_
  | with_reducible refine Rd.iteNF ?_
  | with_reducible refine Rd.tup ?_
  | with_reducible refine Rd.lst ?_
  | ((with_reducible refine Rd.eqs ?h1 ?_); (case h1 => rfl))
  | ((with_reducible refine Rd.nes ?h1 ?_); (case h1 => rfl))
  | ((with_reducible refine' Rd.ixL ?h1 ?h2 ?_); (case h1 => walk_at "hp"); (case h2 => first | rfl | assumption))
  | ((with_reducible refine' Rd.ixT ?h1 ?h2 ?_); (case h1 => walk_at "hp"); (case h2 => first | rfl | assumption))
  | ((with_reducible refine' Rd.lenL ?h1 ?_); (case h1 => walk_at "hp"))
  | ((with_reducible refine' Rd.lenT ?h1 ?_); (case h1 => walk_at "hp"))
  | ((with_reducible refine' Rd.setL ?h1 ?h2 ?_); (case h1 => walk_at "hp"); (case h2 => first | rfl | assumption))))
section
variable {base : Heap} {P : Program} {w : World} {mg : Str → Option Value} {K : PySem.W.Frag}
/-! ### _law_one -/
def sp_one (K : PySem.W.Frag) : Sp := fun vs H Q _ => ∃ (p l : Addr) (xs : List V), vs = [.ref p, .ref l] ∧ SqL K H l xs ∧ l ≠ p ∧ Pl p H ∧ 0 < xs.length ∧ xs.length < 1000000 ∧ ∀ (i : Nat) v H', xs[i]? = some v → Lt p H H' → Q v H'
theorem ok_one (T : Tx K mg) : FnR P w K mg base (L2.CX P w) 2 (a_law_one K) (sp_one K) := by
  refine fnr T.d_law_one sc_law_one (fun _ _ _ _ _ _ us hl => match us, hl with | [_, _], _ => rfl) (fun vs H Q E h => ?_) (fun cdv A outer s H vs Q E hr h => ?_)
  · obtain ⟨p, l, xs, rfl, _⟩ := h
    rfl
  · obtain ⟨p, l, xs, rfl, hl, ne, pl, h0, h1, k⟩ := h
    refine ⟨_, (pss_one (ps_ret (pe_ix (GW.ixL (K := K)) (pv 1) (pe_cr (ok_take T) (hr.mono (by decide)) (kp_of T.d_law_take) (by rfl) T.g_law_take (pa_cons (pv 0) (pa_cons (pe_callB (Rd.c_len (K := K)) (by rfl) T.f_len Rd.bt_len (pa_cons (pv 1) pa_nil)) pa_nil))) (fun _ _ => rfl)))), ?_⟩
    walk_at "go"
    refine draw pl (fun r H' hr2 lt => ?_) (by omega) (by omega)
    have hl' := lt.sq ne hl
    have hlt : r < xs.length := by omega
    have hat : atI xs (r : Int) = some xs[r] := Rd.nat_at rfl (List.getElem?_eq_getElem hlt)
    walk_at "go"
    exact k r _ _ (List.getElem?_eq_getElem hlt) lt
/-! ### _law_core -/
def sp_lawcore : Sp := fun vs H Q _ => ∃ (v : V) (p : Pr) (r : Int), vs = [v, .int r] ∧ PT H p v ∧ nn p ∧ 0 ≤ r ∧ ∀ t, H t = none → Q (.ref t) (upd H t (.tup [.int (core p r).1, .int (core p r).2]))
theorem ok_law_core (T : Tx K mg) : FnR P w K mg base (L2.CX P w) 2 (a_law_core K) sp_lawcore := by
  refine fnr T.d_law_core sc_law_core (fun _ _ _ _ _ _ us hl => match us, hl with | [_, _], _ => rfl) (fun vs H Q E h => ?_) (fun cdv A outer s H vs Q E hr h => ?_)
  · obtain ⟨v, p, r, rfl, _⟩ := h
    rfl
  · obtain ⟨v, p, r, rfl, hp, hn, h0, k⟩ := h
    refine ⟨_, (pss_cons (ps_asg (pv 0) (GW.tup (K := K) (n := 2) rfl (pgs_cons (gx 2 sc_law_core.nd) (pgs_cons (gx 3 sc_law_core.nd) pgs_nil)))) (pss_cons (sx 4 sc_law_core.nd (pe_callTy Rd.c_int (by rfl) T.f_int Rd.bt_int (pa_cons (pe_ifExp (pt_cmpR op_lt (pv 3) (pv 2) (nomark _)) (pv 3) (pv 2)) pa_nil))) (pss_cons (sx 4 sc_law_core.nd (pe_ifExp (pt_cmpR op_gt (pv 4) (pv 1) (nomark _)) (pv 1) (pv 4))) (pss_cons (ps_if (pt_cmpR op_gt (pe_op op_sub (pv 2) (pv 3)) (pv 1) (nomark _)) (pss_one (ps_ret (pe_tup (pa_cons (pe_op op_add (pv 4) (pv 1)) (pa_cons (pv 4) pa_nil))))) pss_nil) (pss_cons (ps_if (pt_cmpR op_gt (pe_op op_sub (pv 3) (pv 2)) (pv 1) (nomark _)) (pss_one (ps_ret (pe_tup (pa_cons (pv 4) (pa_cons (pe_op op_add (pv 4) (pv 1)) pa_nil))))) pss_nil) (pss_one (ps_ret (pe_ifExp (pt_cmpR op_ge (pv 2) (pv 3) (nomark _)) (pe_tup (pa_cons (pe_op op_sub (pe_op op_add (pv 4) (pv 2)) (pv 3)) (pa_cons (pv 4) pa_nil))) (pe_tup (pa_cons (pv 4) (pa_cons (pe_op op_sub (pe_op op_add (pv 4) (pv 3)) (pv 2)) pa_nil))))))))))), ?_⟩
    walk_at "go"
    refine un2 hp ?_
    with_reducible refine Rd.seq ?_
    with_reducible refine Rd.asg ?_
    with_reducible refine Rd.cb ?_
    with_reducible refine Rd.cons ?_
    refine Rd.ifI (p := p.2 < p.1) (i := p.2) (j := p.1) (fun R h => ?_) (fun R h => ?_) (fun R h => ?_) ?_
    · walk_at "go"
      exact h
    · walk_at "go"
      exact h
    · walk_at "go"
      exact h
    have e1 : cutI (if p.2 < p.1 then p.2 else p.1) r = (if (if p.2 < p.1 then p.2 else p.1) > r then r else (if p.2 < p.1 then p.2 else p.1)) := by
      unfold cutI
      split <;> split <;> omega
    generalize hl1 : (if p.2 < p.1 then p.2 else p.1) = l1 at e1 ⊢
    with_reducible refine Rd.nil ?_
    with_reducible refine Rd.int1 ?_
    with_reducible refine Rd.name ?_
    with_reducible refine Rd.seq ?_
    with_reducible refine Rd.asg ?_
    refine Rd.ifI (p := l1 > r) (i := r) (j := l1) (fun R h => ?_) (fun R h => ?_) (fun R h => ?_) ?_
    · walk_at "go"
      exact h
    · walk_at "go"
      exact h
    · walk_at "go"
      exact h
    rw [← e1]
    have fin : ∀ (a b : Int), (a, b) = core p r → ∀ t, H t = none → Q (.ref t) (upd H t (.tup [.int a, .int b])) := fun a b e t ht => by
      have := k t ht
      rw [← e] at this
      exact this
    clear k
    unfold nn at hn
    unfold core at fin
    walk_at "go"
    refine Rd.ited (fun c => ?_) (fun c => ?_)
    · walk_at "go"
      refine ⟨Rd.szr rfl, fin _ _ ?_⟩
      rw [if_pos (by omega)]
      unfold cutI
      rw [← hl1]
      apply Prod.ext <;> simp only [] <;> (repeat' split) <;> omega
    walk_at "go"
    refine Rd.ited (fun c2 => ?_) (fun c2 => ?_)
    · walk_at "go"
      refine ⟨Rd.szr rfl, fin _ _ ?_⟩
      rw [if_neg (by omega)]
      unfold cutI
      rw [← hl1]
      apply Prod.ext <;> simp only [] <;> (repeat' split) <;> omega
    walk_at "go"
    refine Rd.ited (fun c3 => ?_) (fun c3 => ?_)
    · walk_at "go"
      refine ⟨Rd.szr rfl, fin _ _ ?_⟩
      rw [if_pos (by omega)]
      unfold cutI
      rw [← hl1]
      apply Prod.ext <;> simp only [] <;> (repeat' split) <;> omega
    · walk_at "go"
      refine ⟨Rd.szr rfl, fin _ _ ?_⟩
      rw [if_neg (by omega)]
      unfold cutI
      rw [← hl1]
      apply Prod.ext <;> simp only [] <;> (repeat' split) <;> omega
end
end Lv

set_option Elab.async false
set_option linter.all false
set_option maxRecDepth 100000
set_option maxHeartbeats 0
/-! The results laws' own lists of cores. -/
namespace Rs
def rowC (r h : Nat) : List Pr := (List.range (highI r h + 1 - lowI r h)).map fun j => ((h : Int), ((lowI r h + j : Nat) : Int))
theorem allC_rows (r : Nat) : allC r = (List.range (2 * r + 1)).flatMap (rowC r) := rfl
theorem range_cut (lo hi : Nat) : ∀ n, (List.range n).filter (fun a => decide (lo ≤ a) && decide (a < hi)) = (List.range (min n hi - lo)).map (lo + ·)
  | 0 => by simp
  | n + 1 => by
    rw [List.range_succ, List.filter_append, range_cut lo hi n]
    by_cases c1 : lo ≤ n
    · by_cases c2 : n < hi
      · have e : min (n + 1) hi - lo = (min n hi - lo) + 1 := by omega
        rw [e, List.range_succ, List.map_append]
        have e2 : lo + (min n hi - lo) = n := by omega
        simp [c1, c2, e2]
      · have e : min (n + 1) hi - lo = min n hi - lo := by omega
        rw [e]
        simp [c2]
    · have e : min (n + 1) hi - lo = min n hi - lo := by omega
      rw [e]
      simp [c1]
theorem row_filter (r h : Nat) (hh : h < 2 * r + 1) : ((List.range (2 * r + 1)).map fun (a : Nat) => ((h : Int), (a : Int))).filter (fun p => decide (core p (r : Nat) = p)) = rowC r h := by
  rw [List.filter_map]
  have e : ((fun p : Pr => decide (core p (r : Nat) = p)) ∘ fun (a : Nat) => ((h : Int), (a : Int))) = fun a => decide (lowI r h ≤ a) && decide (a < highI r h + 1) := by
    funext a
    rw [Bool.eq_iff_iff, Bool.and_eq_true, decide_eq_true_iff, decide_eq_true_iff]
    show decide (core ((h : Int), (a : Int)) (r : Nat) = ((h : Int), (a : Int))) = true ↔ _
    rw [decide_eq_true_iff]
    have nnp : nn ((h : Int), (a : Int)) := ⟨by simp only []; omega, by simp only []; omega⟩
    have q : core ((h : Int), (a : Int)) (r : Nat) = ((h : Int), (a : Int)) ↔ isC (r : Nat) ((h : Int), (a : Int)) := ⟨fun z => by rw [← z]; exact isC_core nnp (by omega), core_isC⟩
    rw [q]
    unfold isC nn lowI highI
    simp only []
    split <;> omega
  rw [e, range_cut]
  unfold rowC
  rw [List.map_map]
  have m : min (2 * r + 1) (highI r h + 1) = highI r h + 1 := by unfold highI; split <;> omega
  rw [m]
  rfl
theorem rows_succ (r i : Nat) : (List.range (i + 1)).flatMap (rowC r) = (List.range i).flatMap (rowC r) ++ rowC r i := by
  rw [List.range_succ, List.flatMap_append, List.flatMap_singleton]
theorem rowC_len (r h : Nat) (hh : h < 2 * r + 1) : (rowC r h).length ≤ 2 * r + 1 := by
  unfold rowC highI lowI
  rw [List.length_map, List.length_range]
  split <;> omega
theorem rows_len (r : Nat) : ∀ i, i ≤ 2 * r + 1 → ((List.range i).flatMap (rowC r)).length ≤ i * (2 * r + 1)
  | 0, _ => by simp
  | i + 1, h => by
    rw [rows_succ, List.length_append, Nat.succ_mul]
    have h1 := rows_len r i (by omega)
    have h2 := rowC_len r i (by omega)
    omega
end Rs
namespace Lv
open PySem PySem.Spec PyProof.Rows L2 OwX Rs
local macro_rules | `(tactic| walk_at "side") => `(tactic| first
  | exact (show CMul _ _ from .inl ⟨by decide, by decide⟩) | exact (show CMul _ _ from .inr ⟨by decide, by decide⟩) | exact (show CMul _ _ from .inl ⟨by omega, by omega⟩) | exact (show CMul _ _ from .inr ⟨by omega, by omega⟩)
  | exact (show CPow _ _ from ⟨by decide, by decide, by decide⟩)
  | exact (show CDiv _ _ from ⟨by decide, by decide⟩) | exact (show CDiv _ _ from ⟨by omega, by omega⟩)
  | exact (show (0 : Int) < _ by decide) | exact (show (0 : Int) < _ by omega) | exact (show ¬ (_ : Int) = 0 by decide) | exact (show ¬ (_ : Int) = 0 by omega) | assumption)
local macro_rules | `(tactic| walk_at "hp") => `(tactic| first
  | assumption | exact upd_same
  | (refine' SqL.of ?h1; (case h1 => walk_at "hp")) | (refine' SqT.of ?h1; (case h1 => walk_at "hp"))
  | (refine' Rd.new_app ?h1 ?h2; (case h1 => assumption); (case h2 => walk_at "hp"))
  | (refine' Rd.upd_app ?h1 ?h2; (case h1 => first | assumption | exact Ne.symm (by assumption)); (case h2 => walk_at "hp"))
  | (refine' Rd.ext_app ?h1 ?h2; (case h1 => assumption); (case h2 => walk_at "hp"))
  | (refine' Rd.ext_L ?h1 ?h2; (case h1 => assumption); (case h2 => walk_at "hp"))
  | (refine' Rd.ext_T ?h1 ?h2; (case h1 => assumption); (case h2 => walk_at "hp")))
local macro_rules | `(tactic| walk_at "go") => `(tactic| repeat (first
  | with_reducible refine Rd.con ?_
  | ((with_reducible refine' Rd.var ?h1 ?_); (case h1 => rfl))
  | with_reducible refine Rd.op ?_
  | with_reducible refine Rd.un ?_
  | with_reducible refine Rd.i0 ?_
  | with_reducible refine Rd.iu ?_
  | ((with_reducible refine Rd.iC ?h1 ?_); (case h1 => walk_at "side"))
  | with_reducible refine Rd.nil ?_
  | with_reducible refine Rd.cons ?_
  | with_reducible refine Rd.cb ?_
  | with_reducible refine Rd.int1 ?_
  | with_reducible refine Rd.intB ?_
  | with_reducible refine Rd.maxI ?_
  | with_reducible refine Rd.minI ?_
  | with_reducible refine Rd.blx ?_
  | with_reducible refine Rd.tst ?_
  | with_reducible refine Rd.tb_ ?_
  | with_reducible refine Rd.not_ ?_
  | with_reducible refine Rd.and_ ?_
  | with_reducible refine Rd.or_ ?_
  | with_reducible refine Rd.ifx ?_
  | with_reducible refine Rd.chain ?_
  | with_reducible refine Rd.andV ?_
  | with_reducible refine Rd.orV ?_
  | with_reducible refine Rd.notV ?_
  | with_reducible refine Rd.seq ?_
  | with_reducible refine Rd.asg ?_
  | with_reducible refine Rd.name ?_
  | with_reducible refine Rd.ret ?_
  | with_reducible refine Rd.ifS ?_
  | with_reducible refine Rd.next ?_
  | with_reducible refine Rd.drop ?_
  | with_reducible refine Rd.gsub ?_
  | with_reducible refine Rd.cr ?_
  | with_reducible refine Rd.crX ?_
  | with_reducible refine Rd.ixOS ?_
  | ((with_reducible refine' Rd.xfv ?h1 ?h2 ?h3 ?_); (case h1 => walk_at "hp"); (case h2 => rfl); (case h3 => rfl))
  | ((with_reducible refine' Rd.bmLv ?h1 ?h2 ?_); (case h1 => rfl); (case h2 => walk_at "hp"))
  | ((with_reducible refine' Rd.countL ?h1 ?_); (case h1 => walk_at "hp"))
  | ((with_reducible refine' Rd.sumL ?h1 ?_); (case h1 => walk_at "hp"))
  | ((with_reducible refine' Rd.listL ?h1 ?_); (case h1 => walk_at "hp"))
  | ((with_reducible refine' Rd.listT ?h1 ?_); (case h1 => walk_at "hp"))
  | with_reducible refine Rd.isNn ?_
  | with_reducible refine Rd.isNr ?_
  | with_reducible refine Rd.notNn ?_
  | with_reducible refine Rd.notNr ?_
  | with_reducible refine Rd.isB ?_
  | with_reducible refine Rd.notBtt ?_
  | with_reducible refine Rd.notBff ?_
  | with_reducible refine Rd.notBtf ?_
  | with_reducible refine Rd.notBft ?_
  | with_reducible refine Rd.notB ?_
  | with_reducible refine Rd.smeth ?_
  | with_reducible refine Rd.sl ?_
  | with_reducible refine Rd.po0 ?_
  | with_reducible refine Rd.poI ?_
  | with_reducible refine Rd.ixi ?_
  | with_reducible refine Rd.par ?_
  | with_reducible refine Rd.par2 ?_
  | with_reducible refine Rd.mkRS ?_
  | with_reducible refine Rd.callRS ?_
  | with_reducible refine Rd.mk ?_
  | with_reducible refine Rd.mkX ?_
  | with_reducible refine Rd.sF ?_
  | with_reducible refine Rd.dIn ?_
  | with_reducible refine Rd.dNi ?_
  | with_reducible refine Rd.dctL ?_
  | with_reducible refine Rd.dctT ?_
  | with_reducible refine Rd.forE ?_
  | with_reducible refine Rd.lc2T ?_
  | with_reducible refine Rd.lc2L ?_
  | with_reducible refine Rd.lc2R ?_
  | with_reducible refine Rd.inR2 ?_
  | with_reducible refine Rd.inR1 ?_
  | with_reducible refine Rd.inT ?_
  | with_reducible refine Rd.inL ?_
  | with_reducible refine Rd.lcT ?_
  | with_reducible refine Rd.lcL ?_
  | with_reducible refine Rd.lcR ?_
  | with_reducible refine Rd.forT ?_
  | with_reducible refine Rd.forL ?_
  | with_reducible refine Rd.forR ?_
  | with_reducible refine Rd.yes ?_
  | with_reducible refine iteT ?_
  | with_reducible refine iteF ?_
  | with_reducible refine Rd.iteNT ?_
  | with_reducible refine Rd.iteNF ?_
  | with_reducible refine Rd.tup ?_
  | with_reducible refine Rd.lst ?_
  | ((with_reducible refine Rd.eqs ?h1 ?_); (case h1 => rfl))
  | ((with_reducible refine Rd.nes ?h1 ?_); (case h1 => rfl))
  | ((with_reducible refine' Rd.ixL ?h1 ?h2 ?_); (case h1 => walk_at "hp"); (case h2 => first | rfl | assumption))
  | ((with_reducible refine' Rd.ixT ?h1 ?h2 ?_); (case h1 => walk_at "hp"); (case h2 => first | rfl | assumption))
  | ((with_reducible refine' Rd.lenL ?h1 ?_); (case h1 => walk_at "hp"))
  | ((with_reducible refine' Rd.lenT ?h1 ?_); (case h1 => walk_at "hp"))
  | ((with_reducible refine' Rd.setL ?h1 ?h2 ?_); (case h1 => walk_at "hp"); (case h2 => first | rfl | assumption))))
section
variable {K : PySem.W.Frag} {p : Addr} {H H' : Hp}
theorem PT.lt {q : Pr} {v : V} (h : PT H q v) (pl : Pl p H) (l : Lt p H H') : PT H' q v := by
  obtain ⟨a, h1, h2⟩ := h
  exact ⟨a, h1, l.at (pl.ne_tup h2) h2⟩
theorem PL.lt {l : Addr} {ps : List Pr} (h : PL H l ps) (ne : l ≠ p) (pl : Pl p H) (t : Lt p H H') : PL H' l ps := by
  obtain ⟨vs, h1, h2⟩ := h
  exact ⟨vs, t.at ne h1, Rd.paired_imp (fun _ _ r => r.lt pl t) h2⟩
theorem catP {a b : Addr} {ps qs : List Pr} {Q : VK} (h1 : PL H a ps) (h2 : PL H b qs) (len : ps.length + qs.length ≤ 50000) (k : ∀ r H', Ext H H' → H r = none → PL H' r (ps ++ qs) → Q (.ref r) H') : rCat (.ref a) (.ref b) H Q := by
  obtain ⟨xs, h3, pr1⟩ := h1
  obtain ⟨ys, h4, pr2⟩ := h2
  have l1 := Rd.paired_len pr1
  have l2 := Rd.paired_len pr2
  exact Rd.catL h3 h4 (Rd.sz (by omega)) fun r hr => k r _ (Ext.upd hr) hr ⟨_, upd_same, Rd.paired_imp (fun _ _ z => z.ext (Ext.upd hr)) (Rd.paired_app pr1 pr2)⟩
theorem any_iff {α : Type} [DecidableEq α] {f : α → PyData} {n : Nat} (e : Rd.Enc f n) (x : α) (xs : List α) : ((xs.map f).any fun z => PyData.eqv z (f x)) = true ↔ x ∈ xs := by
  rw [List.any_map, List.any_eq_true]
  constructor
  · rintro ⟨y, hy, h⟩
    have h2 : PyData.eqv (f y) (f x) = true := h
    rw [e.eq, decide_eq_true_iff] at h2
    rw [← h2]; exact hy
  · intro h
    exact ⟨x, h, by show PyData.eqv (f x) (f x) = true; rw [e.eq, decide_eq_true rfl]⟩
/-- a pair in a list of pairs -/
theorem inP {l : Addr} {ps : List Pr} {v : V} {q : Pr} {Q : VK} (h : PL H l ps) (hq : PT H q v) (k : ∀ c : Bool, (c = true ↔ q ∈ ps) → Q (.bl c) H) : rInD K v (.ref l) H Q :=
  ⟨encP q, ps.map encP, dp_pt hq, dp_pl h, encP_ok.shaped (by decide) _, encP_ok.list.shaped (by decide) _, k _ (any_iff encP_ok _ _)⟩
theorem niP {l : Addr} {ps : List Pr} {v : V} {q : Pr} {Q : VK} (h : PL H l ps) (hq : PT H q v) (k : ∀ c : Bool, (c = true ↔ q ∉ ps) → Q (.bl c) H) : rNotInD K v (.ref l) H Q :=
  ⟨encP q, ps.map encP, dp_pt hq, dp_pl h, encP_ok.shaped (by decide) _, encP_ok.list.shaped (by decide) _, k _ (by rw [Bool.not_eq_true', ← Bool.not_eq_true, any_iff encP_ok])⟩
end
section
variable {base : Heap} {P : Program} {w : World} {mg : Str → Option Value} {K : PySem.W.Frag}
def sp_lawall : Sp := fun vs H Q _ => ∃ r : Nat, vs = [.int r] ∧ r ≤ 60 ∧ ∀ l H', Ext H H' → H l = none → PL H' l (allC r) → Q (.ref l) H'
theorem ok_all (T : Tx K mg) : FnR P w K mg base (L2.CX P w) 4 (a_law_all K) sp_lawall := by
  refine fnr T.d_law_all sc_law_all (fun _ _ _ _ _ _ us hl => match us, hl with | [_], _ => rfl) (fun vs H Q E h => ?_) (fun cdv A outer s H vs Q E hr h => ?_)
  · obtain ⟨r, rfl, _⟩ := h
    rfl
  · obtain ⟨r, rfl, h60, k⟩ := h
    refine ⟨_, (pss_cons (sx 1 sc_law_all.nd (pe_lst pa_nil)) (pss_cons (ps_for (passes_of rfl) rfl (pi_range1 (by rfl) T.f_range (pa_cons (pe_op op_add (pe_op op_mul pe_int (pv 0)) pe_int) pa_nil)) (gx 2 sc_law_all.nd) (pss_cons (ps_setLc (i := 3) (own := [("away", 4)]) rfl sc_law_all.nd rfl rfl rfl (pi_range1 (by rfl) T.f_range (pa_cons (pe_op op_add (pe_op op_mul pe_int (pv 0)) pe_int) pa_nil)) (blkOk_by (own := [("away", 4)]) (N := N_law_all) (sc := defScope s_law_all) (by decide +kernel)) (fun _ _ _ _ _ => (gx 4 sc_law_all.nd)) (fun _ _ _ _ _ => pts_nil) (fun _ _ _ _ _ => (pe_tup (pa_cons (pv 2) (pa_cons (pv 4) pa_nil))))) (pss_one (sx 1 sc_law_all.nd (pe_op op_cat (pv 1) (pe_lc (own := [("result", 5)]) rfl sc_law_all.nd (GW.pi_list (K := K) (pv 3)) (blkOk_by (own := [("result", 5)]) (N := N_law_all) (sc := defScope s_law_all) (by decide +kernel)) (fun _ _ _ _ _ => (gx 5 sc_law_all.nd)) (fun _ _ _ _ _ => (pts_one (pt_cmpR (GW.eqD hr.units (K := K)) (pe_cr (ok_law_core T) (hr.mono (by decide)) (kp_of T.d_law_core) (by rfl) T.g_law_core (pa_cons (pv 5) (pa_cons (pv 0) pa_nil))) (pv 5) (nomark _)))) (fun _ _ _ _ _ => (pv 5)))))))) (pss_one (ps_ret (pv 1))))), ?_⟩
    have e21 : (2 * (r : Int) + 1).toNat = 2 * r + 1 := by omega
    walk_at "go"
    refine ⟨Rd.szr rfl, fun f0 hf0 => ?_⟩
    walk_at "go"
    refine ⟨_, rfl, by omega, by omega, ?_⟩
    rw [e21]
    refine for_range (fun i σ H' => ∃ f v2 v3 v4 v5, σ = [some (.int r), some (.ref f), v2, v3, v4, v5] ∧ Ext H H' ∧ H f = none ∧ i ≤ 2 * r + 1 ∧ PL H' f ((List.range i).flatMap (rowC r))) ⟨_, _, _, _, _, rfl, Ext.upd hf0, hf0, Nat.zero_le _, ⟨[], upd_same, .nil⟩⟩ ?_ ?_
    · rintro i σ H1 hi ⟨f, v2, v3, v4, v5, rfl, e1, nf, _, pf⟩
      rw [Int.zero_add]
      walk_at "go"
      refine ⟨_, rfl, by omega, by omega, fun D hD => ?_⟩
      rw [e21]
      refine Rd.lcE (emb := fun j : Nat => V.int j) Rd.walk_rangeN Rd.yrng (by rw [List.length_range]; omega) (fun _ => true) (fun a y H => PT H ((i : Int), (a : Int)) y) (fun _ _ _ _ e h => h.ext e) hD (fun H' e => trivial) ?_ ?_
      · intro j it H' acc hj e ha Qy Qn ky kn
        walk_at "go"
        refine ⟨rfl, ?_⟩
        walk_at "go"
        exact ⟨Rd.szr rfl, fun t ht => ky _ _ (Ext.upd ht) rfl (PT.new (p := ((i : Int), (it : Int))) ha ht)⟩
      intro ys H2 e2 hys pr
      rw [List.filter_eq_self.mpr (fun _ _ => rfl)] at pr
      have pl := PL.of hys (Rd.paired_mapl (f := fun a : Nat => ((i : Int), (a : Int))) pr)
      clear pr hys ys
      obtain ⟨ys, hys, pr⟩ := pl
      have nD := Rd.ext_free e1 hD
      walk_at "go"
      refine ⟨D, rfl, ⟨_, SqL.of hys⟩, fun D2 hD2 => ?_⟩
      have len : ((List.range (2 * r + 1)).map fun (a : Nat) => ((i : Int), (a : Int))).length = 2 * r + 1 := by rw [List.length_map, List.length_range]
      refine Rd.lcB (Rd.walk_lB (K := K) (a := D) pr) (PT H2) (Rd.yB pr) (by omega) (fun q => decide (core q (r : Nat) = q)) (fun q y H => PT H q y) (fun _ _ _ _ e h => h.ext e) hD2 (fun H' e => SqL.of (e _ _ hys)) ?_ ?_
      · rintro j q y H3 acc hq hy e3 ha Qy Qn ky kn
        have hy3 := hy.ext e3
        have nq : nn q := by
          obtain ⟨a, _, rfl⟩ := List.mem_map.mp (List.mem_of_getElem? hq)
          exact ⟨by simp only []; omega, by simp only []; omega⟩
        walk_at "go"
        refine ⟨rfl, ?_⟩
        walk_at "go"
        refine ⟨y, q, r, rfl, hy3, nq, by omega, fun t ht => ?_⟩
        walk_at "go"
        refine Rd.eqD encP_ok (dp_new upd_same) (dp_pt (hy3.ext (Ext.upd ht))) ?_
        walk_at "go"
        refine Rd.ited (fun c => ?_) (fun c => ?_)
        · walk_at "go"
          exact ky _ _ (Ext.upd ht) (decide_eq_true c) (hy.keep hD2 (e3.trans (Ext.upd ht)))
        · exact kn _ (Ext.upd ht) (decide_eq_false c)
      intro zs H3 e3 hzs prz
      have pz := PL.of hzs prz
      rw [row_filter r i hi] at pz
      have l1 := rows_len r i (by omega)
      have l2 := rowC_len r i hi
      have l3 : i * (2 * r + 1) ≤ 121 * 121 := Nat.mul_le_mul (by omega) (by omega)
      refine catP (pf.ext (e2.trans e3)) pz (by omega) fun c H4 e4 nc hc => ?_
      walk_at "go"
      have e := ((e1.trans e2).trans e3).trans e4
      exact ⟨c, _, _, _, _, rfl, e, Rd.ext_free ((e1.trans e2).trans e3) nc, by omega, by rw [rows_succ]; exact hc⟩
    · rintro σ H1 ⟨f, v2, v3, v4, v5, rfl, e1, nf, _, pf⟩
      walk_at "go"
      exact k f H1 e1 nf pf
/-! ### lifted -/
def inCores (cs : List Pr) (r : Nat) : Pr → Bool := fun p => decide (core p (r : Nat) ∈ cs)
def sp_lifted : Sp := fun vs H Q _ => ∃ (r : Nat) (l : Addr) (cs : List Pr) (m : Nat), vs = [.int r, .ref l, .int m] ∧ m ≤ 60 ∧ PL H l cs ∧ ∀ b H', Ext H H' → H b = none → PL H' b ((allC m).filter (inCores cs r)) → Q (.ref b) H'
theorem ok_lifted (T : Tx K mg) : FnR P w K mg base (L2.CX P w) 6 (a_law_lifted K) sp_lifted := by
  refine fnr T.d_law_lifted sc_law_lifted (fun _ _ _ _ _ _ us hl => match us, hl with | [_, _, _], _ => rfl) (fun vs H Q E h => ?_) (fun cdv A outer s H vs Q E hr h => ?_)
  · obtain ⟨r, l, cs, m, rfl, _⟩ := h
    rfl
  · obtain ⟨r, l, cs, m, rfl, h60, hl, k⟩ := h
    refine ⟨_, (pss_one (ps_ret (pe_lc (own := [("one", 3)]) rfl sc_law_lifted.nd (GW.pi_list (K := K) (pe_cr (ok_all T) (hr.mono (by decide)) (kp_of T.d_law_all) (by rfl) T.g_law_all (pa_cons (pv 2) pa_nil))) (blkOk_by (own := [("one", 3)]) (N := N_law_lifted) (sc := defScope s_law_lifted) (by decide +kernel)) (fun _ _ _ _ _ => (gx 3 sc_law_lifted.nd)) (fun _ _ _ _ _ => (pts_one (pt_cmpR (GW.inD hr.units65 (K := K)) (pe_cr (ok_law_core T) (hr.mono (by decide)) (kp_of T.d_law_core) (by rfl) T.g_law_core (pa_cons (pv 3) (pa_cons (pv 0) pa_nil))) (pv 1) rfl))) (fun _ _ _ _ _ => (pv 3))))), ?_⟩
    walk_at "go"
    refine ⟨m, rfl, h60, fun a H1 e1 na ha => ?_⟩
    obtain ⟨ys, hys, pr⟩ := ha
    refine ⟨a, rfl, ⟨_, SqL.of hys⟩, fun D hD => ?_⟩
    refine lc_cores hys pr h60 (inCores cs r) hD ?_ ?_
    · intro p y H2 acc hp hy e2 ha Qy Qn ky kn
      walk_at "go"
      refine ⟨rfl, ?_⟩
      walk_at "go"
      refine ⟨y, p, r, rfl, hy, hp.1, by omega, fun t ht => ?_⟩
      walk_at "go"
      have e3 := Ext.upd (H := H2) (o := .tup [.int (core p (r : Nat)).1, .int (core p (r : Nat)).2]) ht
      refine inP (((hl.ext e1).ext e2).ext e3) ⟨t, rfl, upd_same⟩ fun c hc => ?_
      walk_at "go"
      cases c with
      | true =>
        walk_at "go"
        exact ky _ e3 (decide_eq_true (hc.mp rfl))
      | false =>
        walk_at "go"
        exact kn _ e3 (decide_eq_false fun z => by have := hc.mpr z; cases this)
    · intro H2 e2 h2
      exact k D H2 (e1.trans e2) (Rd.ext_free e1 hD) h2
end
end Lv

set_option Elab.async false
set_option linter.all false
set_option maxRecDepth 100000
set_option maxHeartbeats 0
/-! The results laws: sets drawn. -/
namespace Lv
open PySem PySem.Spec PyProof.Rows L2 OwX Rs
local macro_rules | `(tactic| walk_at "side") => `(tactic| first
  | exact (show CMul _ _ from .inl ⟨by decide, by decide⟩) | exact (show CMul _ _ from .inr ⟨by decide, by decide⟩) | exact (show CMul _ _ from .inl ⟨by omega, by omega⟩) | exact (show CMul _ _ from .inr ⟨by omega, by omega⟩)
  | exact (show CPow _ _ from ⟨by decide, by decide, by decide⟩)
  | exact (show CDiv _ _ from ⟨by decide, by decide⟩) | exact (show CDiv _ _ from ⟨by omega, by omega⟩)
  | exact (show (0 : Int) < _ by decide) | exact (show (0 : Int) < _ by omega) | exact (show ¬ (_ : Int) = 0 by decide) | exact (show ¬ (_ : Int) = 0 by omega) | assumption)
local macro_rules | `(tactic| walk_at "hp") => `(tactic| first
  | assumption | exact upd_same
  | (refine' SqL.of ?h1; (case h1 => walk_at "hp")) | (refine' SqT.of ?h1; (case h1 => walk_at "hp"))
  | (refine' Rd.new_app ?h1 ?h2; (case h1 => assumption); (case h2 => walk_at "hp"))
  | (refine' Rd.upd_app ?h1 ?h2; (case h1 => first | assumption | exact Ne.symm (by assumption)); (case h2 => walk_at "hp"))
  | (refine' Rd.ext_app ?h1 ?h2; (case h1 => assumption); (case h2 => walk_at "hp"))
  | (refine' Rd.ext_L ?h1 ?h2; (case h1 => assumption); (case h2 => walk_at "hp"))
  | (refine' Rd.ext_T ?h1 ?h2; (case h1 => assumption); (case h2 => walk_at "hp")))
local macro_rules | `(tactic| walk_at "go") => `(tactic| repeat (first
  | with_reducible refine Rd.con ?_
  | ((with_reducible refine' Rd.var ?h1 ?_); (case h1 => rfl))
  | with_reducible refine Rd.op ?_
  | with_reducible refine Rd.un ?_
  | with_reducible refine Rd.i0 ?_
  | with_reducible refine Rd.iu ?_
  | ((with_reducible refine Rd.iC ?h1 ?_); (case h1 => walk_at "side"))
  | with_reducible refine Rd.nil ?_
  | with_reducible refine Rd.cons ?_
  | with_reducible refine Rd.cb ?_
  | with_reducible refine Rd.int1 ?_
  | with_reducible refine Rd.intB ?_
  | with_reducible refine Rd.maxI ?_
  | with_reducible refine Rd.minI ?_
  | with_reducible refine Rd.blx ?_
  | with_reducible refine Rd.tst ?_
  | with_reducible refine Rd.tb_ ?_
  | with_reducible refine Rd.not_ ?_
  | with_reducible refine Rd.and_ ?_
  | with_reducible refine Rd.or_ ?_
  | with_reducible refine Rd.ifx ?_
  | with_reducible refine Rd.chain ?_
  | with_reducible refine Rd.andV ?_
  | with_reducible refine Rd.orV ?_
  | with_reducible refine Rd.notV ?_
  | with_reducible refine Rd.seq ?_
  | with_reducible refine Rd.asg ?_
  | with_reducible refine Rd.name ?_
  | with_reducible refine Rd.ret ?_
  | with_reducible refine Rd.ifS ?_
  | with_reducible refine Rd.next ?_
  | with_reducible refine Rd.drop ?_
  | with_reducible refine Rd.gsub ?_
  | with_reducible refine Rd.cr ?_
  | with_reducible refine Rd.crX ?_
  | with_reducible refine Rd.ixOS ?_
  | ((with_reducible refine' Rd.xfv ?h1 ?h2 ?h3 ?_); (case h1 => walk_at "hp"); (case h2 => rfl); (case h3 => rfl))
  | ((with_reducible refine' Rd.bmLv ?h1 ?h2 ?_); (case h1 => rfl); (case h2 => walk_at "hp"))
  | ((with_reducible refine' Rd.countL ?h1 ?_); (case h1 => walk_at "hp"))
  | ((with_reducible refine' Rd.sumL ?h1 ?_); (case h1 => walk_at "hp"))
  | ((with_reducible refine' Rd.listL ?h1 ?_); (case h1 => walk_at "hp"))
  | ((with_reducible refine' Rd.listT ?h1 ?_); (case h1 => walk_at "hp"))
  | with_reducible refine Rd.isNn ?_
  | with_reducible refine Rd.isNr ?_
  | with_reducible refine Rd.notNn ?_
  | with_reducible refine Rd.notNr ?_
  | with_reducible refine Rd.isB ?_
  | with_reducible refine Rd.notBtt ?_
  | with_reducible refine Rd.notBff ?_
  | with_reducible refine Rd.notBtf ?_
  | with_reducible refine Rd.notBft ?_
  | with_reducible refine Rd.notB ?_
  | with_reducible refine Rd.smeth ?_
  | with_reducible refine Rd.sl ?_
  | with_reducible refine Rd.po0 ?_
  | with_reducible refine Rd.poI ?_
  | with_reducible refine Rd.ixi ?_
  | with_reducible refine Rd.par ?_
  | with_reducible refine Rd.par2 ?_
  | with_reducible refine Rd.mkRS ?_
  | with_reducible refine Rd.callRS ?_
  | with_reducible refine Rd.mk ?_
  | with_reducible refine Rd.mkX ?_
  | with_reducible refine Rd.sF ?_
  | with_reducible refine Rd.dIn ?_
  | with_reducible refine Rd.dNi ?_
  | with_reducible refine Rd.dctL ?_
  | with_reducible refine Rd.dctT ?_
  | with_reducible refine Rd.forE ?_
  | with_reducible refine Rd.lc2T ?_
  | with_reducible refine Rd.lc2L ?_
  | with_reducible refine Rd.lc2R ?_
  | with_reducible refine Rd.inR2 ?_
  | with_reducible refine Rd.inR1 ?_
  | with_reducible refine Rd.inT ?_
  | with_reducible refine Rd.inL ?_
  | with_reducible refine Rd.lcT ?_
  | with_reducible refine Rd.lcL ?_
  | with_reducible refine Rd.lcR ?_
  | with_reducible refine Rd.forT ?_
  | with_reducible refine Rd.forL ?_
  | with_reducible refine Rd.forR ?_
  | with_reducible refine Rd.yes ?_
  | with_reducible refine iteT ?_
  | with_reducible refine iteF ?_
  | with_reducible refine Rd.iteNT ?_
  | with_reducible refine Rd.iteNF ?_
  | with_reducible refine Rd.tup ?_
  | with_reducible refine Rd.lst ?_
  | ((with_reducible refine Rd.eqs ?h1 ?_); (case h1 => rfl))
  | ((with_reducible refine Rd.nes ?h1 ?_); (case h1 => rfl))
  | ((with_reducible refine' Rd.ixL ?h1 ?h2 ?_); (case h1 => walk_at "hp"); (case h2 => first | rfl | assumption))
  | ((with_reducible refine' Rd.ixT ?h1 ?h2 ?_); (case h1 => walk_at "hp"); (case h2 => first | rfl | assumption))
  | ((with_reducible refine' Rd.lenL ?h1 ?_); (case h1 => walk_at "hp"))
  | ((with_reducible refine' Rd.lenT ?h1 ?_); (case h1 => walk_at "hp"))
  | ((with_reducible refine' Rd.setL ?h1 ?h2 ?_); (case h1 => walk_at "hp"); (case h2 => first | rfl | assumption))))
section
variable {K : PySem.W.Frag} {p : Addr} {H H' : Hp}
theorem PT.hid2 {D : Addr} {q : Pr} {v : V} {H1 : Hp} (h : PT H1 q v) (n : H1 D = none) (pl : Pl p H1) (t : Lt p H1 H') : PT (Rd.hid [D, p] H') q v := by
  obtain ⟨a, h1, h2⟩ := h
  exact ⟨a, h1, Lv.hid2 (ne_of_none h2 n) (pl.ne_tup h2) (t.at (pl.ne_tup h2) h2)⟩
theorem pick {α : Type} {A : Pr → Prop} {G : Hp} : ∀ {xs : List α} {ys : List V}, Paired (fun _ y => ∃ q, A q ∧ PT G q y) xs ys → ∃ ms, Paired (PT G) ms ys ∧ (∀ q ∈ ms, A q) ∧ ms.length = xs.length
  | _, _, .nil => ⟨[], .nil, by simp, rfl⟩
  | _, _, .cons ⟨q, h1, h2⟩ t => by
    obtain ⟨ms, h3, h4, h5⟩ := pick t
    exact ⟨q :: ms, .cons h2 h3, fun q' hq => by
      rcases List.mem_cons.mp hq with rfl | h
      · exact h1
      · exact h4 _ h, by rw [List.length_cons, List.length_cons, h5]⟩
theorem dec_iff {q : Prop} (i : Decidable q) {b : Bool} (h : b = true ↔ q) : b = @decide q i := by
  cases i with
  | isTrue z => exact h.mpr z
  | isFalse z => cases b with
    | true => exact absurd (h.mp rfl) z
    | false => rfl
theorem bl_ne (a b : Bool) : (!decide (V.bl a = V.bl b)) = (a != b) := by cases a <;> cases b <;> rfl
/-- a comprehension whose test draws: some of the items are kept -/
theorem lcS {α : Type} {J : It} {G : Hp → Prop} {Y : Nat → Hp → V → Hp → Prop} {items : List α} (wk : Walk J items.length G Y) (B : α → V → Prop) (hy : ∀ i H x H', Y i H x H' → ∃ it, items[i]? = some it ∧ (H' = H ∧ B it x)) (hn : items.length < 100000)
    {g : TG} {tt : TT} {te : TE} {vs : List Nat} {σ : L2.St} {H1 : Hp} {D : Addr} {Z : Hp → Prop} (pl : Pl p H1) (R : α → V → Hp → Prop) (mono : ∀ a y H H', Ext H H' → R a y H → R a y H') (hD : H1 D = none) (hG : ∀ H, Lt p H1 H → G H)
    (hs : ∀ (i : Nat) it x H acc, items[i]? = some it → B it x → Lt p H1 H → H D = some (.lst acc) → ∀ (Qy : VK) (Qn : Hp → Prop), (∀ y H4, Lt p H H4 → R it y (Rd.hid [D, p] H4) → Qy y H4) → (∀ H3, Lt p H H3 → Qn H3) →
      g x (wipe σ vs) H fun σ2 H2 => wipe σ2 vs = wipe σ vs ∧ tt σ2 H2 fun b H3 => if b = true then te σ2 H3 Qy else Qn H3)
    (hd : ∀ its ys H, (∀ a ∈ its, a ∈ items) → its.length ≤ items.length → Lt p H1 H → H D = some (.lst ys) → Paired (fun a y => R a y (Rd.hid [D, p] H)) its ys → Z H) :
    ∃ W : Nat → Nat → Hp → Prop, (∃ m, W 0 m (upd H1 D (.lst []))) ∧ ∀ i m H, W i m H →
      (J.stop i H ∧ Z H) ∨ (J.go i H ∧ ∃ Nx : Hp → Prop, (∀ H', Nx H' → ∃ m', m' < m ∧ W (i + 1) m' H') ∧ ∀ x H', J.yld i H x H' → g x (wipe σ vs) H' fun σ2 H2 => wipe σ2 vs = wipe σ vs ∧ tt σ2 H2 fun b H3 =>
        if b = true then te σ2 H3 fun y H4 => ∃ acc, H4 D = some (.lst acc) ∧ acc.length < sizeLine ∧ Nx (upd H4 D (.lst (acc ++ [y]))) else Nx H3) := by
  have nD : D ≠ p := pl.ne hD
  have hidD : ∀ {H : Hp} {u : HO}, Rd.hid [D, p] (upd H D u) = Rd.hid [D, p] H := fun {H u} => Rd.hid_upd (by simp)
  have later : ∀ {H H' : Hp}, Lt p H H' → Ext (Rd.hid [D, p] H) (Rd.hid [D, p] H') := fun {H H'} t a o h => by
    obtain ⟨h1, h2⟩ := Rd.hid_at h
    rw [Rd.hid_ne h2]
    exact t.at (fun z => h2 (by simp [z])) h1
  refine lc_it wk (fun i H => Lt p H1 H ∧ ∃ its ys, H D = some (.lst ys) ∧ Paired (fun a y => R a y (Rd.hid [D, p] H)) its ys ∧ (∀ a ∈ its, a ∈ items) ∧ its.length ≤ i) ⟨(Lt.rfl pl).mut hD nD, [], [], upd_same, .nil, by simp, Nat.le_refl _⟩ (fun i H _ h => hG H h.1) ?_ ?_
  · rintro i x H H' hi ⟨t, its, ys, hys, pr, sub, len⟩ y
    obtain ⟨it, hit, rfl, hB⟩ := hy i H x H' y
    have few : ys.length < 100000 := by
      rw [← Rd.paired_len pr]
      omega
    refine hs i it x H' ys hit hB t hys _ _ (fun v H4 t4 r4 => ?_) (fun H3 t3 => ?_)
    · refine ⟨ys, t4.at nD hys, Rd.szl few, (t.trans t4).mut hD nD, its ++ [it], ys ++ [v], upd_same, ?_, fun a ha => ?_, by simp; exact len⟩
      · rw [hidD]
        exact Rd.paired_snoc (R := fun a y => R a y (Rd.hid [D, p] H4)) r4 (Rd.paired_imp (fun a b r => mono a b _ _ (later t4) r) pr)
      · rcases List.mem_append.mp ha with h | h
        · exact sub a h
        · rw [List.mem_singleton.mp h]; exact List.mem_of_getElem? hit
    · exact ⟨t.trans t3, its, ys, t3.at nD hys, Rd.paired_imp (fun a b r => mono a b _ _ (later t3) r) pr, sub, by omega⟩
  · rintro H ⟨t, its, ys, hys, pr, sub, len⟩
    exact hd its ys H sub len t hys pr
end
section
variable {base : Heap} {P : Program} {w : World} {mg : Str → Option Value} {K : PySem.W.Frag}
theorem allC_pos (r : Nat) : 0 < (allC r).length := List.length_pos_of_mem (mem_allC.mpr (show isC (r : Nat) (0, 0) from ⟨⟨by simp, by simp⟩, by simp, by simp, by simp⟩))
def sp_members : Sp := fun vs H Q _ => ∃ (p : Addr) (r most : Nat), vs = [.ref p, .int r, .int most] ∧ Pl p H ∧ r ≤ 60 ∧ most ≤ 1000 ∧ ∀ l H' ms, Lt p H H' → l ≠ p → H l = none → PL H' l ms → (∀ q ∈ ms, isC (r : Nat) q) → ms.length ≤ most → Q (.ref l) H'
theorem ok_members (T : Tx K mg) : FnR P w K mg base (L2.CX P w) 8 (a_law_members K) sp_members := by
  refine fnr T.d_law_members sc_law_members (fun _ _ _ _ _ _ us hl => match us, hl with | [_, _, _], _ => rfl) (fun vs H Q E h => ?_) (fun cdv A outer s H vs Q E hr h => ?_)
  · obtain ⟨p, r, most, rfl, _⟩ := h
    rfl
  · obtain ⟨p, r, most, rfl, pl, h60, hm, k⟩ := h
    refine ⟨_, (pss_cons (sx 3 sc_law_members.nd (pe_cr (ok_all T) (hr.mono (by decide)) (kp_of T.d_law_all) (by rfl) T.g_law_all (pa_cons (pv 1) pa_nil))) (pss_one (ps_ret (pe_lc (own := [("turn", 4)]) rfl sc_law_members.nd (pi_range1 (by rfl) T.f_range (pa_cons (pe_cr (ok_take T) (hr.mono (by decide)) (kp_of T.d_law_take) (by rfl) T.g_law_take (pa_cons (pv 0) (pa_cons (pe_op op_add (pv 2) pe_int) pa_nil))) pa_nil)) (blkOk_by (own := [("turn", 4)]) (N := N_law_members) (sc := defScope s_law_members) (by decide +kernel)) (fun _ _ _ _ _ => (gx 4 sc_law_members.nd)) (fun _ _ _ _ _ => pts_nil) (fun _ _ _ _ _ => (pe_cr (ok_one T) (hr.mono (by decide)) (kp_of T.d_law_one) (by rfl) T.g_law_one (pa_cons (pv 0) (pa_cons (pv 3) pa_nil)))))))), ?_⟩
    walk_at "go"
    refine ⟨r, rfl, h60, fun c H1 e1 nc hc => ?_⟩
    have pl1 := pl.ext e1
    have ncp : c ≠ p := pl.ne nc
    obtain ⟨ys, hys, pr⟩ := hc
    have lys := Rd.paired_len pr
    have lC := allC_len r h60
    walk_at "go"
    refine draw pl1 (fun n H2 hn l2 => ?_) (by omega) (by omega)
    walk_at "go"
    refine ⟨_, rfl, by omega, by omega, fun D hD => ?_⟩
    rw [Int.toNat_natCast]
    have nD : H1 D = none := l2.free hD
    refine lcP (Rd.walk_rangeN) Rd.yrng (by rw [List.length_range]; omega) l2.pl (fun _ => true) (fun _ y H => ∃ q, isC (r : Nat) q ∧ PT H q y) (fun _ _ _ _ e ⟨q, h1, h2⟩ => ⟨q, h1, h2.ext e⟩) hD (fun _ _ => trivial) ?_ ?_
    · rintro j it x H3 _ acc hit lt ha ⟨rfl, rfl⟩ Qy Qn ky kn
      have l3 := l2.trans lt
      walk_at "go"
      refine ⟨rfl, ?_⟩
      walk_at "go"
      refine ⟨p, c, ys, rfl, SqL.of (l3.at ncp hys), ncp, l3.pl, by rw [← lys]; exact allC_pos r, by omega, fun i v H4 hv l4 => ?_⟩
      obtain ⟨q, hq, hqv⟩ := Rd.paired_back pr hv
      exact ky _ _ l4 rfl ⟨q, mem_allC.mp (List.mem_of_getElem? hq), hqv.hid2 nD pl1 (l3.trans l4)⟩
    intro zs H3 l3 hzs pz
    rw [List.filter_eq_self.mpr (fun _ _ => rfl)] at pz
    obtain ⟨ms, h1, h2, h3⟩ := pick pz
    rw [List.length_range] at h3
    exact k D H3 ms (((Lt.of pl e1).trans l2).trans l3) (l2.pl.ne hD) (Rd.ext_free e1 nD) ⟨zs, hzs, Rd.paired_imp (fun _ _ z => z.hid) h1⟩ h2 (by omega)
def sp_drawn : Sp := fun vs H Q _ => ∃ p : Addr, vs = [.ref p] ∧ Pl p H ∧ ∀ l c m f H', Lt p H H' → l ≠ p → c ≠ p → H' l = some (.lst [.int (m : Nat), .ref c]) → PL H' c ((allC m).filter f) → m ≤ 6 → Q (.ref l) H'
theorem ok_drawn (T : Tx K mg) : FnR P w K mg base (L2.CX P w) 10 (a_law_drawn K) sp_drawn := by
  refine fnr T.d_law_drawn sc_law_drawn (fun _ _ _ _ _ _ us hl => match us, hl with | [_], _ => rfl) (fun vs H Q E h => ?_) (fun cdv A outer s H vs Q E hr h => ?_)
  · obtain ⟨p, rfl, _⟩ := h
    rfl
  · obtain ⟨p, rfl, pl, k⟩ := h
    refine ⟨_, (pss_cons (sx 1 sc_law_drawn.nd (pe_cr (ok_take T) (hr.mono (by decide)) (kp_of T.d_law_take) (by rfl) T.g_law_take (pa_cons (pv 0) (pa_cons pe_int pa_nil)))) (pss_cons (ps_asg (pe_tup (pa_cons (pe_cr (ok_members T) (hr.mono (by decide)) (kp_of T.d_law_members) (by rfl) T.g_law_members (pa_cons (pv 0) (pa_cons (pv 1) (pa_cons pe_int pa_nil)))) (pa_cons (pe_cr (ok_take T) (hr.mono (by decide)) (kp_of T.d_law_take) (by rfl) T.g_law_take (pa_cons (pv 0) (pa_cons pe_int pa_nil))) pa_nil))) (GW.tup (K := K) (n := 2) rfl (pgs_cons (gx 2 sc_law_drawn.nd) (pgs_cons (gx 3 sc_law_drawn.nd) pgs_nil)))) (C8.pss_cut (ps_if (pt_cmpR op_eq (pv 3) pe_int (nomark _)) (pss_one (sx 2 sc_law_drawn.nd (pe_lc (own := [("one", 4)]) rfl sc_law_drawn.nd (GW.pi_list (K := K) (pe_cr (ok_all T) (hr.mono (by decide)) (kp_of T.d_law_all) (by rfl) T.g_law_all (pa_cons (pv 1) pa_nil))) (blkOk_by (own := [("one", 4)]) (N := N_law_drawn) (sc := defScope s_law_drawn) (by decide +kernel)) (fun _ _ _ _ _ => (gx 4 sc_law_drawn.nd)) (fun _ _ _ _ _ => (pts_one (pt_cmpR (GW.niD hr.units65 (K := K)) (pv 4) (pv 2) rfl))) (fun _ _ _ _ _ => (pv 4))))) pss_nil) (C8.pss_cut (ps_if (pt_cmpR op_eq (pv 3) pe_int (nomark _)) (pss_one (sx 2 sc_law_drawn.nd (pe_lc (own := [("one", 4)]) rfl sc_law_drawn.nd (GW.pi_list (K := K) (pe_cr (ok_all T) (hr.mono (by decide)) (kp_of T.d_law_all) (by rfl) T.g_law_all (pa_cons (pv 1) pa_nil))) (blkOk_by (own := [("one", 4)]) (N := N_law_drawn) (sc := defScope s_law_drawn) (by decide +kernel)) (fun _ _ _ _ _ => (gx 4 sc_law_drawn.nd)) (fun _ _ _ _ _ => (pts_one (pt_cmpR op_eq (pe_cr (ok_take T) (hr.mono (by decide)) (kp_of T.d_law_take) (by rfl) T.g_law_take (pa_cons (pv 0) (pa_cons pe_int pa_nil))) pe_int (nomark _)))) (fun _ _ _ _ _ => (pv 4))))) pss_nil) (pss_cons (sx 5 sc_law_drawn.nd (pe_op op_add (pv 1) (pe_cr (ok_take T) (hr.mono (by decide)) (kp_of T.d_law_take) (by rfl) T.g_law_take (pa_cons (pv 0) (pa_cons pe_int pa_nil))))) (pss_cons (sx 2 sc_law_drawn.nd (pe_cr (ok_lifted T) (hr.mono (by decide)) (kp_of T.d_law_lifted) (by rfl) T.g_law_lifted (pa_cons (pv 1) (pa_cons (pv 2) (pa_cons (pv 5) pa_nil))))) (C8.pss_cut (ps_if (pt_cmpR op_eq (pe_cr (ok_take T) (hr.mono (by decide)) (kp_of T.d_law_take) (by rfl) T.g_law_take (pa_cons (pv 0) (pa_cons pe_int pa_nil))) pe_int (nomark _)) (pss_cons (sx 6 sc_law_drawn.nd (pe_cr (ok_one T) (hr.mono (by decide)) (kp_of T.d_law_one) (by rfl) T.g_law_one (pa_cons (pv 0) (pa_cons (pe_cr (ok_all T) (hr.mono (by decide)) (kp_of T.d_law_all) (by rfl) T.g_law_all (pa_cons (pv 5) pa_nil)) pa_nil)))) (pss_one (sx 2 sc_law_drawn.nd (pe_lc (own := [("one", 4)]) rfl sc_law_drawn.nd (GW.pi_list (K := K) (pe_cr (ok_all T) (hr.mono (by decide)) (kp_of T.d_law_all) (by rfl) T.g_law_all (pa_cons (pv 5) pa_nil))) (blkOk_by (own := [("one", 4)]) (N := N_law_drawn) (sc := defScope s_law_drawn) (by decide +kernel)) (fun _ _ _ _ _ => (gx 4 sc_law_drawn.nd)) (fun _ _ _ _ _ => (pts_one (pt_cmpR op_ne (pe_cmpR (GW.inD hr.units65 (K := K)) (pv 4) (pv 2) rfl) (pe_cmpR (GW.eqD hr.units (K := K)) (pv 4) (pv 6) (nomark _)) (nomark _)))) (fun _ _ _ _ _ => (pv 4)))))) pss_nil) (pss_one (ps_ret (pe_lst (pa_cons (pv 5) (pa_cons (pv 2) pa_nil)))))))))))), ?_⟩
    walk_at "go"
    refine draw pl fun r H1 hr5 l1 => ?_
    walk_at "go"
    refine ⟨p, r, 9, rfl, l1.pl, by omega, by omega, fun c H2 ms l2 nc fc hc hms len => ?_⟩
    have l2 := l1.trans l2
    walk_at "go"
    refine draw l2.pl fun wy H3 hwy l3 => ?_
    have hc := hc.lt nc l2.pl l3
    have l3 := l2.trans l3
    clear l2
    walk_at "go"
    refine ⟨Rd.szr rfl, fun t ht => ⟨t, _, rfl, SqT.of upd_same, rfl, _, _, rfl, _, _, rfl, rfl, ?_⟩⟩
    have e4 := Ext.upd (H := H3) (o := .tup [.ref c, .int (wy : Nat)]) ht
    have l4 := l3.ext e4
    have hc4 := hc.ext e4
    generalize upd H3 t (.tup [.ref c, .int (wy : Nat)]) = H4 at l4 hc4
    refine ⟨fun σ' H' => ∃ c cs v4, σ' = [some (.ref p), some (.int r), some (.ref c), some (.int wy), v4, none, none] ∧ Lt p H H' ∧ c ≠ p ∧ PL H' c cs ∧ cs.length ≤ 20000, ?_, ?_⟩
    · walk_at "go"
      refine Rd.ited (fun c1 => ?_) (fun c1 => ?_)
      · walk_at "go"
        refine ⟨r, rfl, by omega, fun a H5 e5 na ha => ?_⟩
        obtain ⟨ys, hys, pr⟩ := ha
        refine ⟨a, rfl, ⟨_, SqL.of hys⟩, fun D hD => ?_⟩
        refine lc_cores hys pr (by omega) (fun q => !decide (q ∈ ms)) hD ?_ ?_
        · intro q y H6 acc hq hy e6 ha Qy Qn ky kn
          walk_at "go"
          refine ⟨rfl, ?_⟩
          walk_at "go"
          refine niP ((hc4.ext e5).ext e6) hy fun c hc => ?_
          walk_at "go"
          cases c with
          | true =>
            walk_at "go"
            exact ky _ Rd.ext_rfl (by rw [decide_eq_false (hc.mp rfl)]; rfl)
          | false => exact kn _ Rd.ext_rfl (by
              by_cases z : q ∈ ms
              · rw [decide_eq_true z]; rfl
              · have := hc.mpr z; cases this)
        · intro H6 e6 h6
          walk_at "go"
          exact ⟨D, _, _, rfl, l4.ext (e5.trans e6), (l4.ext e5).pl.ne hD, h6, Nat.le_trans (List.length_filter_le _ _) (Nat.le_trans (allC_len r (by omega)) (by decide))⟩
      · exact ⟨c, ms, _, rfl, l4, nc, hc4, by omega⟩
    clear hc4 l4 hc l3 e4 hms len
    rintro σ H5 ⟨c, cs, v4, rfl, l5, nc, hc, len⟩
    refine ⟨fun σ' H' => ∃ c cs v4, σ' = [some (.ref p), some (.int r), some (.ref c), some (.int wy), v4, none, none] ∧ Lt p H H' ∧ c ≠ p ∧ PL H' c cs ∧ cs.length ≤ 20000, ?_, ?_⟩
    · walk_at "go"
      refine Rd.ited (fun c1 => ?_) (fun c1 => ?_)
      · walk_at "go"
        refine ⟨r, rfl, by omega, fun a H6 e6 na ha => ?_⟩
        have l6 := l5.ext e6
        have nap : a ≠ p := l5.pl.ne na
        obtain ⟨ys, hys, pr⟩ := ha
        have lC := allC_len r (by omega)
        refine ⟨a, rfl, ⟨_, SqL.of hys⟩, fun D hD => ?_⟩
        refine lcS (Rd.walk_lB (K := K) (a := a) pr) (PT H6) (Rd.yB pr) (by omega) l6.pl (fun q y H => PT H q y) (fun _ _ _ _ e h => h.ext e) hD (fun H' t => SqL.of (t.at nap hys)) ?_ ?_
        · intro j q y H7 acc hq hy t7 ha Qy Qn ky kn
          walk_at "go"
          refine ⟨rfl, ?_⟩
          walk_at "go"
          refine draw t7.pl fun n H8 hn t8 => ?_
          walk_at "go"
          refine Rd.ited (fun c2 => ?_) (fun c2 => ?_)
          · walk_at "go"
            exact ky _ _ t8 (hy.hid2 hD l6.pl (t7.trans t8))
          · exact kn _ t8
        · intro its zs H7 sub len7 t7 hzs pz
          walk_at "go"
          exact ⟨D, its, _, rfl, l6.trans t7, l6.pl.ne hD, ⟨zs, hzs, Rd.paired_imp (fun _ _ z => z.hid) pz⟩, by omega⟩
      · exact ⟨c, cs, _, rfl, l5, nc, hc, len⟩
    clear hc nc len l5
    rintro σ H6 ⟨c, cs, v4, rfl, l6, nc, hc, len⟩
    walk_at "go"
    refine draw l6.pl fun m3 H7 hm3 l7 => ?_
    have hc7 := hc.lt nc l6.pl l7
    have l7 := l6.trans l7
    obtain ⟨m, hm⟩ : ∃ m : Nat, (r : Int) + (m3 : Int) = (m : Int) := ⟨r + m3, by omega⟩
    have m6 : m ≤ 6 := by omega
    walk_at "go"
    rw [hm]
    refine ⟨r, c, cs, m, rfl, by omega, hc7, fun b H8 e8 nb hb => ?_⟩
    have l8 := l7.ext e8
    have nbp : b ≠ p := l7.pl.ne nb
    walk_at "go"
    refine ⟨fun σ' H' => ∃ b f v4 v6, σ' = [some (.ref p), some (.int r), some (.ref b), some (.int wy), v4, some (.int m), v6] ∧ Lt p H H' ∧ b ≠ p ∧ PL H' b ((allC m).filter f), ?_, ?_⟩
    · walk_at "go"
      refine draw l8.pl fun n H9 hn l9 => ?_
      have hb9 := hb.lt nbp l8.pl l9
      have l9 := l8.trans l9
      walk_at "go"
      refine Rd.ited (fun c1 => ?_) (fun c1 => ?_)
      · walk_at "go"
        refine ⟨m, rfl, by omega, fun a H10 e10 na ha => ?_⟩
        have l10 := l9.ext e10
        have nap : a ≠ p := l9.pl.ne na
        obtain ⟨ys, hys, pr⟩ := ha
        have lys := Rd.paired_len pr
        have lC := allC_len m (by omega)
        walk_at "go"
        refine ⟨p, a, ys, rfl, SqL.of hys, nap, l10.pl, by rw [← lys]; exact allC_pos m, by omega, fun i v H11 hv l11 => ?_⟩
        obtain ⟨o, ho, hov⟩ := Rd.paired_back pr hv
        have hov := hov.lt l10.pl l11
        have hb11 := (hb9.ext e10).lt nbp l10.pl l11
        have l11 := l10.trans l11
        walk_at "go"
        refine ⟨m, rfl, by omega, fun a2 H12 e12 na2 ha2 => ?_⟩
        obtain ⟨zs, hzs, pz⟩ := ha2
        refine ⟨a2, rfl, ⟨_, SqL.of hzs⟩, fun D hD => ?_⟩
        refine lc_cores hzs pz (by omega) (fun q => decide (q ∈ (allC m).filter (inCores cs r)) != decide (q = o)) hD ?_ ?_
        · intro q y H13 acc hq hy e13 ha Qy Qn ky kn
          walk_at "go"
          refine ⟨rfl, ?_⟩
          walk_at "go"
          refine inP ((hb11.ext e12).ext e13) hy fun c hc => ?_
          walk_at "go"
          refine Rd.eqD encP_ok (dp_pt hy) (dp_pt ((hov.ext e12).ext e13)) ?_
          walk_at "go"
          rw [dec_iff (inferInstance : Decidable (q ∈ (allC m).filter (inCores cs r))) hc, bl_ne]
          refine Rd.iteb (fun z => ?_) (fun z => ?_)
          · walk_at "go"
            exact ky _ Rd.ext_rfl z
          · exact kn _ Rd.ext_rfl z
        · intro H13 e13 h13
          walk_at "go"
          exact ⟨D, _, _, _, rfl, l11.ext (e12.trans e13), (l11.ext e12).pl.ne hD, h13⟩
      · exact ⟨b, _, _, _, rfl, l9, nbp, hb9⟩
    rintro σ H9 ⟨b, f, v4, v6, rfl, l9, nb, hb⟩
    walk_at "go"
    exact ⟨Rd.szr rfl, fun o ho => k o b m f _ (l9.new ho) (l9.pl.ne ho) nb upd_same (hb.ext (Ext.upd ho)) m6⟩
end
end Lv

set_option Elab.async false
set_option linter.all false
set_option maxRecDepth 100000
set_option maxHeartbeats 0
/-! k56: the law's own least, results near and far. -/
namespace Rs
theorem lexLt_lex (p q : Pr) : HT.lexLt [p.1 + p.2, p.1] [q.1 + q.2, q.1] = decide (lex p q) := by
  rw [HT.lexLt_cons, HT.lexLt_cons, HT.lexLt_nil_nil, Bool.eq_iff_iff, decide_eq_true_iff]
  show _ ↔ (p.1 + p.2 < q.1 + q.2 ∨ (p.1 + p.2 = q.1 + q.2 ∧ p.1 < q.1))
  by_cases c : p.1 + p.2 = q.1 + q.2
  · rw [if_pos c]
    by_cases d : p.1 = q.1
    · rw [if_pos d]
      exact ⟨fun h => (by cases h), fun h => (by omega)⟩
    · rw [if_neg d, decide_eq_true_iff]
      omega
  · rw [if_neg c, decide_eq_true_iff]
    omega
theorem lessF_snoc (l : List Pr) (p : Pr) : lessF (l ++ [p]) = lessStep (lessF l) p := by
  unfold lessF
  rw [List.foldl_append]
  rfl
end Rs
namespace Lv
open PySem PySem.Spec PyProof.Rows L2 OwX Rs
local macro_rules | `(tactic| walk_at "side") => `(tactic| first
  | exact (show CMul _ _ from .inl ⟨by decide, by decide⟩) | exact (show CMul _ _ from .inr ⟨by decide, by decide⟩) | exact (show CMul _ _ from .inl ⟨by omega, by omega⟩) | exact (show CMul _ _ from .inr ⟨by omega, by omega⟩)
  | exact (show CPow _ _ from ⟨by decide, by decide, by decide⟩)
  | exact (show CDiv _ _ from ⟨by decide, by decide⟩) | exact (show CDiv _ _ from ⟨by omega, by omega⟩)
  | exact (show (0 : Int) < _ by decide) | exact (show (0 : Int) < _ by omega) | exact (show ¬ (_ : Int) = 0 by decide) | exact (show ¬ (_ : Int) = 0 by omega) | assumption)
local macro_rules | `(tactic| walk_at "hp") => `(tactic| first
  | assumption | exact upd_same
  | (refine' SqL.of ?h1; (case h1 => walk_at "hp")) | (refine' SqT.of ?h1; (case h1 => walk_at "hp"))
  | (refine' Rd.new_app ?h1 ?h2; (case h1 => assumption); (case h2 => walk_at "hp"))
  | (refine' Rd.upd_app ?h1 ?h2; (case h1 => first | assumption | exact Ne.symm (by assumption)); (case h2 => walk_at "hp"))
  | (refine' Rd.ext_app ?h1 ?h2; (case h1 => assumption); (case h2 => walk_at "hp"))
  | (refine' Rd.ext_L ?h1 ?h2; (case h1 => assumption); (case h2 => walk_at "hp"))
  | (refine' Rd.ext_T ?h1 ?h2; (case h1 => assumption); (case h2 => walk_at "hp")))
local macro_rules | `(tactic| walk_at "go") => `(tactic| repeat (first
  | with_reducible refine Rd.con ?_
  | ((with_reducible refine' Rd.var ?h1 ?_); (case h1 => rfl))
  | with_reducible refine Rd.op ?_
  | with_reducible refine Rd.un ?_
  | with_reducible refine Rd.i0 ?_
  | with_reducible refine Rd.iu ?_
  | ((with_reducible refine Rd.iC ?h1 ?_); (case h1 => walk_at "side"))
  | with_reducible refine Rd.nil ?_
  | with_reducible refine Rd.cons ?_
  | with_reducible refine Rd.cb ?_
  | with_reducible refine Rd.int1 ?_
  | with_reducible refine Rd.intB ?_
  | with_reducible refine Rd.maxI ?_
  | with_reducible refine Rd.minI ?_
  | with_reducible refine Rd.blx ?_
  | with_reducible refine Rd.tst ?_
  | with_reducible refine Rd.tb_ ?_
  | with_reducible refine Rd.not_ ?_
  | with_reducible refine Rd.and_ ?_
  | with_reducible refine Rd.or_ ?_
  | with_reducible refine Rd.ifx ?_
  | with_reducible refine Rd.chain ?_
  | with_reducible refine Rd.andV ?_
  | with_reducible refine Rd.orV ?_
  | with_reducible refine Rd.notV ?_
  | with_reducible refine Rd.seq ?_
  | with_reducible refine Rd.asg ?_
  | with_reducible refine Rd.name ?_
  | with_reducible refine Rd.ret ?_
  | with_reducible refine Rd.ifS ?_
  | with_reducible refine Rd.next ?_
  | with_reducible refine Rd.drop ?_
  | with_reducible refine Rd.gsub ?_
  | with_reducible refine Rd.cr ?_
  | with_reducible refine Rd.crX ?_
  | with_reducible refine Rd.ixOS ?_
  | ((with_reducible refine' Rd.xfv ?h1 ?h2 ?h3 ?_); (case h1 => walk_at "hp"); (case h2 => rfl); (case h3 => rfl))
  | ((with_reducible refine' Rd.bmLv ?h1 ?h2 ?_); (case h1 => rfl); (case h2 => walk_at "hp"))
  | ((with_reducible refine' Rd.countL ?h1 ?_); (case h1 => walk_at "hp"))
  | ((with_reducible refine' Rd.sumL ?h1 ?_); (case h1 => walk_at "hp"))
  | ((with_reducible refine' Rd.listL ?h1 ?_); (case h1 => walk_at "hp"))
  | ((with_reducible refine' Rd.listT ?h1 ?_); (case h1 => walk_at "hp"))
  | with_reducible refine Rd.isNn ?_
  | with_reducible refine Rd.isNr ?_
  | with_reducible refine Rd.notNn ?_
  | with_reducible refine Rd.notNr ?_
  | with_reducible refine Rd.isB ?_
  | with_reducible refine Rd.notBtt ?_
  | with_reducible refine Rd.notBff ?_
  | with_reducible refine Rd.notBtf ?_
  | with_reducible refine Rd.notBft ?_
  | with_reducible refine Rd.notB ?_
  | with_reducible refine Rd.smeth ?_
  | with_reducible refine Rd.sl ?_
  | with_reducible refine Rd.po0 ?_
  | with_reducible refine Rd.poI ?_
  | with_reducible refine Rd.ixi ?_
  | with_reducible refine Rd.par ?_
  | with_reducible refine Rd.par2 ?_
  | with_reducible refine Rd.mkRS ?_
  | with_reducible refine Rd.callRS ?_
  | with_reducible refine Rd.mk ?_
  | with_reducible refine Rd.mkX ?_
  | with_reducible refine Rd.sF ?_
  | with_reducible refine Rd.dIn ?_
  | with_reducible refine Rd.dNi ?_
  | with_reducible refine Rd.dctL ?_
  | with_reducible refine Rd.dctT ?_
  | with_reducible refine Rd.forE ?_
  | with_reducible refine Rd.lc2T ?_
  | with_reducible refine Rd.lc2L ?_
  | with_reducible refine Rd.lc2R ?_
  | with_reducible refine Rd.inR2 ?_
  | with_reducible refine Rd.inR1 ?_
  | with_reducible refine Rd.inT ?_
  | with_reducible refine Rd.inL ?_
  | with_reducible refine Rd.lcT ?_
  | with_reducible refine Rd.lcL ?_
  | with_reducible refine Rd.lcR ?_
  | with_reducible refine Rd.forT ?_
  | with_reducible refine Rd.forL ?_
  | with_reducible refine Rd.forR ?_
  | with_reducible refine Rd.yes ?_
  | with_reducible refine iteT ?_
  | with_reducible refine iteF ?_
  | with_reducible refine Rd.iteNT ?_
  | with_reducible refine Rd.iteNF ?_
  | with_reducible refine Rd.tup ?_
  | with_reducible refine Rd.lst ?_
  | ((with_reducible refine Rd.eqs ?h1 ?_); (case h1 => rfl))
  | ((with_reducible refine Rd.nes ?h1 ?_); (case h1 => rfl))
  | ((with_reducible refine' Rd.ixL ?h1 ?h2 ?_); (case h1 => walk_at "hp"); (case h2 => first | rfl | assumption))
  | ((with_reducible refine' Rd.ixT ?h1 ?h2 ?_); (case h1 => walk_at "hp"); (case h2 => first | rfl | assumption))
  | ((with_reducible refine' Rd.lenL ?h1 ?_); (case h1 => walk_at "hp"))
  | ((with_reducible refine' Rd.lenT ?h1 ?_); (case h1 => walk_at "hp"))
  | ((with_reducible refine' Rd.setL ?h1 ?h2 ?_); (case h1 => walk_at "hp"); (case h2 => first | rfl | assumption))))
section
variable {P : Program} {w : World} {K : PySem.W.Frag} {mg : Str → Option Value} {base : Heap} {H H' : Hp} {a : Addr} {M : Pr → Prop}
def sp_law_least : Sp := fun vs H Q _ => ∃ (l : Addr) (cs : List Pr), vs = [.ref l] ∧ PL H l cs ∧ ∀ v H', Ext H H' → OP H' (lessF cs) v → Q v H'
theorem ok_least (T : Tx K mg) : FnR P w K mg base (L2.CX P w) 1 (a_law_least K) sp_law_least := by
  refine fnr T.d_law_least sc_law_least (fun _ _ _ _ _ _ us hl => match us, hl with | [_], _ => rfl) (fun vs H Q E h => ?_) (fun cdv A outer s H vs Q E hr h => ?_)
  · obtain ⟨l, cs, rfl, _⟩ := h
    rfl
  · obtain ⟨l, cs, rfl, ⟨vs, h2, pr⟩, k⟩ := h
    refine ⟨_, (pss_cons (sx 1 sc_law_least.nd pe_non) (pss_cons (ps_for (passes_of rfl) rfl (GW.pi_list (K := K) (pv 0)) (GW.tup (K := K) (n := 2) rfl (pgs_cons (gx 2 sc_law_least.nd) (pgs_cons (gx 3 sc_law_least.nd) pgs_nil))) (pss_one (ps_if (PW.pt (pw_or (pt_cmpR GW.isN (pv 1) pe_non (nomark _)) (pw_or1 (pt_cmpR (GW.ltT hr.units0 (K := K)) (pe_tup (pa_cons (pe_op op_add (pv 2) (pv 3)) (pa_cons (pv 2) pa_nil))) (pe_tup (pa_cons (pe_op op_add (pe_ix (GW.ixT (K := K)) (pv 1) pe_int (fun _ _ => rfl)) (pe_ix (GW.ixT (K := K)) (pv 1) pe_int (fun _ _ => rfl))) (pa_cons (pe_ix (GW.ixT (K := K)) (pv 1) pe_int (fun _ _ => rfl)) pa_nil))) (nomark _))))) (pss_one (sx 1 sc_law_least.nd (pe_tup (pa_cons (pv 2) (pa_cons (pv 3) pa_nil))))) pss_nil))) (pss_one (ps_ret (pv 1))))), ?_⟩
    walk_at "go"
    refine ⟨l, rfl, ⟨_, SqL.of h2⟩, ?_⟩
    refine for_it (Rd.walk_lB (K := K) (a := l) pr) (fun i σ H' => ∃ b v2 v3, σ = [some (.ref l), some b, v2, v3] ∧ Ext H H' ∧ OP H' (lessF (cs.take i)) b) ⟨_, _, _, rfl, Rd.ext_rfl, rfl⟩ (fun i σ H' _ ⟨_, _, _, _, e, _⟩ => SqL.of (e _ _ h2)) ?_ ?_
    · rintro i x σ H1 H2 hi ⟨b, v2, v3, rfl, e1, ob⟩ y
      obtain ⟨p, hp, rfl, hB⟩ := Rd.yB pr i H1 x H2 y
      refine un2 (hB.ext e1) ?_
      have fin : ∀ H2 t H3, Ext H H2 → H2 t = none → H3 = upd H2 t (.tup [.int p.1, .int p.2]) → lessF (cs.take (i + 1)) = some p → ∃ b v2 v3, ([some (.ref l), some (.ref t), some (.int p.1), some (.int p.2)] : L2.St) = [some (.ref l), some b, v2, v3] ∧ Ext H H3 ∧ OP H3 (lessF (cs.take (i + 1))) b := by
        intro H2 t H3 e2 ht e3 el
        subst e3
        exact ⟨_, _, _, rfl, e2.trans (Ext.upd ht), by rw [el]; exact ⟨t, rfl, upd_same⟩⟩
      rw [Rd.take_snoc hp, lessF_snoc] at fin ⊢
      generalize lessF (cs.take i) = lf at ob fin ⊢
      walk_at "go"
      cases lf with
      | none =>
        obtain rfl : b = .non := ob
        walk_at "go"
        exact ⟨Rd.szr rfl, fun t ht => fin _ t _ e1 ht rfl rfl⟩
      | some z =>
        obtain ⟨t, rfl, ht⟩ := id ob
        walk_at "go"
        refine ⟨Rd.szr rfl, fun t1 ht1 => ?_⟩
        have e2 := Ext.upd (H := H2) (o := .tup [.int (p.1 + p.2), .int p.1]) ht1
        have ht := e2 _ _ ht
        walk_at "go"
        refine ⟨Rd.szr rfl, fun t2 ht2 => ?_⟩
        have e3 := e2.trans (Ext.upd (o := .tup [.int (z.1 + z.2), .int z.1]) ht2)
        refine ⟨t1, t2, [p.1 + p.2, p.1], [z.1 + z.2, z.1], rfl, rfl, SqT.of (by rw [upd_ne (ne_of_none upd_same ht2)]; exact upd_same), SqT.of upd_same, ?_⟩
        rw [lexLt_lex]
        have e13 := e1.trans e3
        walk_at "go"
        refine Rd.ited (fun c => ?_) (fun c => ?_)
        · walk_at "go"
          exact ⟨Rd.szr rfl, fun t ht => fin _ t _ e13 ht rfl (by unfold lessStep; exact if_pos c)⟩
        · exact ⟨_, _, _, rfl, e13, by
            have : lessStep (some z) p = some z := by unfold lessStep; exact if_neg c
            rw [this]; exact ob.ext e3⟩
    · rintro σ H1 ⟨b, v2, v3, rfl, e1, ob⟩
      rw [List.take_length] at ob
      walk_at "go"
      exact k _ _ e1 ob
/-! ### results near and far -/
def sp_some : Sp := fun vs H Q _ => ∃ (p : Addr) (r : Nat), vs = [.ref p, .int r] ∧ Pl p H ∧ r ≤ 50 ∧ ∀ b H' ms, Lt p H H' → b ≠ p → H b = none → PL H' b ms → (∀ q ∈ ms, nn q) → ms.length ≤ 20000 → Q (.ref b) H'
theorem four {D : Addr} {f : Addr} {fs : List Pr} {r : Addr} {a b c d : Pr} {t1 t2 t3 t4 : Addr} {p : Addr} {H0 : Hp} (h0 : Lt p H0 H) (hf : PL H f fs) (h1 : H t1 = none) (h2 : (upd H t1 (.tup [.int a.1, .int a.2])) t2 = none) (h3 : (upd (upd H t1 (.tup [.int a.1, .int a.2])) t2 (.tup [.int b.1, .int b.2])) t3 = none)
    (h4 : (upd (upd (upd H t1 (.tup [.int a.1, .int a.2])) t2 (.tup [.int b.1, .int b.2])) t3 (.tup [.int c.1, .int c.2])) t4 = none) (h5 : (upd (upd (upd (upd H t1 (.tup [.int a.1, .int a.2])) t2 (.tup [.int b.1, .int b.2])) t3 (.tup [.int c.1, .int c.2])) t4 (.tup [.int d.1, .int d.2])) r = none)
    (len : fs.length ≤ 19000) {Q : VK} (k : ∀ u H', Lt p H0 H' → H0 u = none → u ≠ p → PL H' u (fs ++ [a, b, c, d]) → Q (.ref u) H') :
    rCat (.ref f) (.ref r) (upd (upd (upd (upd (upd H t1 (.tup [.int a.1, .int a.2])) t2 (.tup [.int b.1, .int b.2])) t3 (.tup [.int c.1, .int c.2])) t4 (.tup [.int d.1, .int d.2])) r (.lst [.ref t1, .ref t2, .ref t3, .ref t4])) Q := by
  have e1 := Ext.upd (o := .tup [.int a.1, .int a.2]) h1
  have e2 := Ext.upd (o := .tup [.int b.1, .int b.2]) h2
  have e3 := Ext.upd (o := .tup [.int c.1, .int c.2]) h3
  have e4 := Ext.upd (o := .tup [.int d.1, .int d.2]) h4
  have e5 := Ext.upd (o := .lst [.ref t1, .ref t2, .ref t3, .ref t4]) h5
  have pa : PT _ a (.ref t1) := ⟨t1, rfl, upd_same (H := H) (o := .tup [.int a.1, .int a.2])⟩
  have pb : PT _ b (.ref t2) := ⟨t2, rfl, upd_same (H := upd H t1 (.tup [.int a.1, .int a.2])) (o := .tup [.int b.1, .int b.2])⟩
  have pc : PT _ c (.ref t3) := ⟨t3, rfl, upd_same (H := upd (upd H t1 (.tup [.int a.1, .int a.2])) t2 (.tup [.int b.1, .int b.2])) (o := .tup [.int c.1, .int c.2])⟩
  have pd : PT _ d (.ref t4) := ⟨t4, rfl, upd_same (H := upd (upd (upd H t1 (.tup [.int a.1, .int a.2])) t2 (.tup [.int b.1, .int b.2])) t3 (.tup [.int c.1, .int c.2])) (o := .tup [.int d.1, .int d.2])⟩
  have pl : PL (upd (upd (upd (upd (upd H t1 (.tup [.int a.1, .int a.2])) t2 (.tup [.int b.1, .int b.2])) t3 (.tup [.int c.1, .int c.2])) t4 (.tup [.int d.1, .int d.2])) r (.lst [.ref t1, .ref t2, .ref t3, .ref t4])) r [a, b, c, d] :=
    ⟨_, upd_same, .cons ((((pa.ext e2).ext e3).ext e4).ext e5) (.cons (((pb.ext e3).ext e4).ext e5) (.cons ((pc.ext e4).ext e5) (.cons (pd.ext e5) .nil)))⟩
  have e := (((e1.trans e2).trans e3).trans e4).trans e5
  refine catP (hf.ext e) pl (by simp; omega) fun u H' e' nu hu => ?_
  have l := (h0.ext e).ext e'
  exact k u H' l ((h0.ext e).free nu) ((h0.ext e).pl.ne nu) hu
theorem ok_some (T : Tx K mg) : FnR P w K mg base (L2.CX P w) 6 (a_law_some K) sp_some := by
  refine fnr T.d_law_some sc_law_some (fun _ _ _ _ _ _ us hl => match us, hl with | [_, _], _ => rfl) (fun vs H Q E h => ?_) (fun cdv A outer s H vs Q E hr h => ?_)
  · obtain ⟨p, r, rfl, _⟩ := h
    rfl
  · obtain ⟨p, r, rfl, pl, h60, k⟩ := h
    refine ⟨_, (pss_cons (sx 2 sc_law_some.nd (pe_cr (ok_all T) (hr.mono (by decide)) (kp_of T.d_law_all) (by rfl) T.g_law_all (pa_cons (pe_op op_add (pv 1) pe_int) pa_nil))) (pss_cons (ps_for (passes_of rfl) rfl (pi_range1 (by rfl) T.f_range (pa_cons pe_int pa_nil)) (gx 3 sc_law_some.nd) (pss_cons (ps_par (i := 4) (j := 5) rfl sc_law_some.nd rfl rfl (by decide) rfl rfl (pa_cons (pe_op op_add (pe_op op_pow pe_int pe_int) (pe_cr (ok_take T) (hr.mono (by decide)) (kp_of T.d_law_take) (by rfl) T.g_law_take (pa_cons (pv 0) (pa_cons (pe_op op_pow pe_int pe_int) pa_nil)))) (pa_cons (pe_cr (ok_take T) (hr.mono (by decide)) (kp_of T.d_law_take) (by rfl) T.g_law_take (pa_cons (pv 0) (pa_cons (pe_op op_add (pv 1) pe_int) pa_nil))) pa_nil)) rfl) (pss_cons (sx 2 sc_law_some.nd (pe_op op_cat (pv 2) (pe_lst (pa_cons (pe_tup (pa_cons (pv 4) (pa_cons (pv 5) pa_nil))) (pa_cons (pe_tup (pa_cons (pv 5) (pa_cons (pv 4) pa_nil))) (pa_cons (pe_tup (pa_cons (pv 4) (pa_cons (pe_op op_add (pv 4) (pv 5)) pa_nil))) (pa_cons (pe_tup (pa_cons (pe_op op_add (pv 4) (pv 5)) (pa_cons (pv 4) pa_nil))) pa_nil))))))) (pss_cons (sx 4 sc_law_some.nd (pe_op op_add (pe_op op_add (pv 1) pe_int) (pe_cr (ok_take T) (hr.mono (by decide)) (kp_of T.d_law_take) (by rfl) T.g_law_take (pa_cons (pv 0) (pa_cons pe_int pa_nil))))) (pss_one (sx 2 sc_law_some.nd (pe_op op_cat (pv 2) (pe_lst (pa_cons (pe_tup (pa_cons (pv 4) (pa_cons (pv 5) pa_nil))) (pa_cons (pe_tup (pa_cons (pv 5) (pa_cons (pv 4) pa_nil))) (pa_cons (pe_tup (pa_cons (pv 4) (pa_cons (pe_op op_add (pv 4) (pv 5)) pa_nil))) (pa_cons (pe_tup (pa_cons (pe_op op_add (pv 4) (pv 5)) (pa_cons (pv 4) pa_nil))) pa_nil)))))))))))) (pss_one (ps_ret (pv 2))))), ?_⟩
    walk_at "go"
    refine ⟨r + 1, rfl, by omega, fun f H1 e1 nf hf => ?_⟩
    have t1 := Lt.of pl e1
    have nfp := pl.ne nf
    have lC := allC_len (r + 1) (by omega)
    walk_at "go"
    refine ⟨_, rfl, by decide, by decide, ?_⟩
    refine for_range (fun i σ H' => ∃ f v3 v4 v5 ms, σ = [some (.ref p), some (.int r), some (.ref f), v3, v4, v5] ∧ Lt p H H' ∧ f ≠ p ∧ H f = none ∧ PL H' f ms ∧ (∀ q ∈ ms, nn q) ∧ ms.length ≤ 121 * 121 + 8 * i) ⟨_, _, _, _, _, rfl, t1, nfp, nf, hf, fun q hq => (mem_allC.mp hq).1, by omega⟩ ?_ ?_
    · rintro i σ H2 hi ⟨f, v3, v4, v5, ms, rfl, t2, nfp, nf, hf, all, len⟩
      have hi8 : i < 8 := hi
      obtain ⟨m29, hm29, hm1, hm2⟩ : ∃ m : Int, (10 : Int) ^ (29 : Int).toNat = m ∧ 100 < m ∧ m < 2 ^ 200 := ⟨_, rfl, by decide +kernel, by decide +kernel⟩
      obtain ⟨m9, hm9, hm9'⟩ : ∃ m : Nat, (10 : Int) ^ (9 : Int).toNat = (m : Int) ∧ 100 < m := ⟨10 ^ 9, by decide +kernel, by decide +kernel⟩
      walk_at "go"
      rw [hm29]
      refine draw t2.pl (fun x H3 hx t3 => ?_) (by omega) hm2
      rw [hm9]
      walk_at "go"
      refine draw t3.pl (fun y H4 hy t4 => ?_) (by omega) (by omega)
      have hf := (hf.lt nfp t2.pl t3).lt nfp t3.pl t4
      have t4 := (t2.trans t3).trans t4
      generalize efx : (m9 : Int) + (x : Int) = fx
      have fx0 : 0 ≤ fx := by omega
      walk_at "go"
      refine ⟨Rd.szr rfl, fun q1 hq1 => ?_⟩
      walk_at "go"
      refine ⟨Rd.szr rfl, fun q2 hq2 => ?_⟩
      walk_at "go"
      refine ⟨Rd.szr rfl, fun q3 hq3 => ?_⟩
      walk_at "go"
      refine ⟨Rd.szr rfl, fun q4 hq4 => ?_⟩
      walk_at "go"
      refine ⟨Rd.szr rfl, fun q5 hq5 => ?_⟩
      walk_at "go"
      refine four (D := f) (a := (fx, (y : Int))) (b := ((y : Int), fx)) (c := (fx, fx + y)) (d := (fx + y, fx)) t4 hf hq1 hq2 hq3 hq4 hq5 (by omega) fun u H5 t6 nu nup hu => ?_
      walk_at "go"
      refine draw t6.pl (fun z H6 hz t7 => ?_) (by omega) (by omega)
      have hu := hu.lt nup t6.pl t7
      have t7 := t6.trans t7
      obtain ⟨fz, efz⟩ : ∃ fz : Int, (r : Int) + 2 + (z : Int) = fz := ⟨_, rfl⟩
      have fz0 : 0 ≤ fz := by omega
      walk_at "go"
      rw [efz]
      refine ⟨Rd.szr rfl, fun q1 hq1 => ?_⟩
      walk_at "go"
      refine ⟨Rd.szr rfl, fun q2 hq2 => ?_⟩
      walk_at "go"
      refine ⟨Rd.szr rfl, fun q3 hq3 => ?_⟩
      walk_at "go"
      refine ⟨Rd.szr rfl, fun q4 hq4 => ?_⟩
      walk_at "go"
      refine ⟨Rd.szr rfl, fun q5 hq5 => ?_⟩
      walk_at "go"
      refine four (D := f) (a := (fz, (y : Int))) (b := ((y : Int), fz)) (c := (fz, fz + y)) (d := (fz + y, fz)) t7 hu hq1 hq2 hq3 hq4 hq5 (by simp; omega) fun u2 H7 t8 nu2 nup2 hu2 => ?_
      walk_at "go"
      refine ⟨u2, _, _, _, _, rfl, t8, nup2, nu2, hu2, fun q hq => ?_, by simp; omega⟩
      simp only [List.mem_append, List.mem_cons, List.not_mem_nil, or_false] at hq
      unfold nn
      rcases hq with (hq | hq) | hq
      · exact all q hq
      · rcases hq with rfl | rfl | rfl | rfl <;> (simp only []; omega)
      · rcases hq with rfl | rfl | rfl | rfl <;> (simp only []; omega)
    · rintro σ H2 ⟨f, v3, v4, v5, ms, rfl, t2, nfp, nf, hf, all, len⟩
      walk_at "go"
      exact k f H2 ms t2 nfp nf hf all (Nat.le_trans len (by decide))
end
end Lv

set_option Elab.async false
set_option linter.all false
set_option maxRecDepth 100000
set_option maxHeartbeats 0
/-! k56: the law. -/
namespace Lv
open PySem PySem.Spec PyProof.Rows L2 OwX Rs
local macro_rules | `(tactic| walk_at "side") => `(tactic| first
  | exact (show CMul _ _ from .inl ⟨by decide, by decide⟩) | exact (show CMul _ _ from .inr ⟨by decide, by decide⟩) | exact (show CMul _ _ from .inl ⟨by omega, by omega⟩) | exact (show CMul _ _ from .inr ⟨by omega, by omega⟩)
  | exact (show CPow _ _ from ⟨by decide, by decide, by decide⟩)
  | exact (show CDiv _ _ from ⟨by decide, by decide⟩) | exact (show CDiv _ _ from ⟨by omega, by omega⟩)
  | exact (show (0 : Int) < _ by decide) | exact (show (0 : Int) < _ by omega) | exact (show ¬ (_ : Int) = 0 by decide) | exact (show ¬ (_ : Int) = 0 by omega) | assumption)
local macro_rules | `(tactic| walk_at "hp") => `(tactic| first
  | assumption | exact upd_same
  | (refine' SqL.of ?h1; (case h1 => walk_at "hp")) | (refine' SqT.of ?h1; (case h1 => walk_at "hp"))
  | (refine' Rd.new_app ?h1 ?h2; (case h1 => assumption); (case h2 => walk_at "hp"))
  | (refine' Rd.upd_app ?h1 ?h2; (case h1 => first | assumption | exact Ne.symm (by assumption)); (case h2 => walk_at "hp"))
  | (refine' Rd.ext_app ?h1 ?h2; (case h1 => assumption); (case h2 => walk_at "hp"))
  | (refine' Rd.ext_L ?h1 ?h2; (case h1 => assumption); (case h2 => walk_at "hp"))
  | (refine' Rd.ext_T ?h1 ?h2; (case h1 => assumption); (case h2 => walk_at "hp")))
local macro_rules | `(tactic| walk_at "go") => `(tactic| repeat (first
  | with_reducible refine Rd.con ?_
  | ((with_reducible refine' Rd.var ?h1 ?_); (case h1 => rfl))
  | with_reducible refine Rd.op ?_
  | with_reducible refine Rd.un ?_
  | with_reducible refine Rd.i0 ?_
  | with_reducible refine Rd.iu ?_
  | ((with_reducible refine Rd.iC ?h1 ?_); (case h1 => walk_at "side"))
  | with_reducible refine Rd.nil ?_
  | with_reducible refine Rd.cons ?_
  | with_reducible refine Rd.cb ?_
  | with_reducible refine Rd.int1 ?_
  | with_reducible refine Rd.intB ?_
  | with_reducible refine Rd.maxI ?_
  | with_reducible refine Rd.minI ?_
  | with_reducible refine Rd.blx ?_
  | with_reducible refine Rd.tst ?_
  | with_reducible refine Rd.tb_ ?_
  | with_reducible refine Rd.not_ ?_
  | with_reducible refine Rd.and_ ?_
  | with_reducible refine Rd.or_ ?_
  | with_reducible refine Rd.ifx ?_
  | with_reducible refine Rd.chain ?_
  | with_reducible refine Rd.andV ?_
  | with_reducible refine Rd.orV ?_
  | with_reducible refine Rd.notV ?_
  | with_reducible refine Rd.seq ?_
  | with_reducible refine Rd.asg ?_
  | with_reducible refine Rd.name ?_
  | with_reducible refine Rd.ret ?_
  | with_reducible refine Rd.ifS ?_
  | with_reducible refine Rd.next ?_
  | with_reducible refine Rd.drop ?_
  | with_reducible refine Rd.gsub ?_
  | with_reducible refine Rd.cr ?_
  | with_reducible refine Rd.crX ?_
  | with_reducible refine Rd.ixOS ?_
  | ((with_reducible refine' Rd.xfv ?h1 ?h2 ?h3 ?_); (case h1 => walk_at "hp"); (case h2 => rfl); (case h3 => rfl))
  | ((with_reducible refine' Rd.bmLv ?h1 ?h2 ?_); (case h1 => rfl); (case h2 => walk_at "hp"))
  | ((with_reducible refine' Rd.countL ?h1 ?_); (case h1 => walk_at "hp"))
  | ((with_reducible refine' Rd.sumL ?h1 ?_); (case h1 => walk_at "hp"))
  | ((with_reducible refine' Rd.listL ?h1 ?_); (case h1 => walk_at "hp"))
  | ((with_reducible refine' Rd.listT ?h1 ?_); (case h1 => walk_at "hp"))
  | with_reducible refine Rd.isNn ?_
  | with_reducible refine Rd.isNr ?_
  | with_reducible refine Rd.notNn ?_
  | with_reducible refine Rd.notNr ?_
  | with_reducible refine Rd.isB ?_
  | with_reducible refine Rd.notBtt ?_
  | with_reducible refine Rd.notBff ?_
  | with_reducible refine Rd.notBtf ?_
  | with_reducible refine Rd.notBft ?_
  | with_reducible refine Rd.notB ?_
  | with_reducible refine Rd.smeth ?_
  | with_reducible refine Rd.sl ?_
  | with_reducible refine Rd.po0 ?_
  | with_reducible refine Rd.poI ?_
  | with_reducible refine Rd.ixi ?_
  | with_reducible refine Rd.par ?_
  | with_reducible refine Rd.par2 ?_
  | with_reducible refine Rd.mkRS ?_
  | with_reducible refine Rd.callRS ?_
  | with_reducible refine Rd.mk ?_
  | with_reducible refine Rd.mkX ?_
  | with_reducible refine Rd.sF ?_
  | with_reducible refine Rd.dIn ?_
  | with_reducible refine Rd.dNi ?_
  | with_reducible refine Rd.dctL ?_
  | with_reducible refine Rd.dctT ?_
  | with_reducible refine Rd.forE ?_
  | with_reducible refine Rd.lc2T ?_
  | with_reducible refine Rd.lc2L ?_
  | with_reducible refine Rd.lc2R ?_
  | with_reducible refine Rd.inR2 ?_
  | with_reducible refine Rd.inR1 ?_
  | with_reducible refine Rd.inT ?_
  | with_reducible refine Rd.inL ?_
  | with_reducible refine Rd.lcT ?_
  | with_reducible refine Rd.lcL ?_
  | with_reducible refine Rd.lcR ?_
  | with_reducible refine Rd.forT ?_
  | with_reducible refine Rd.forL ?_
  | with_reducible refine Rd.forR ?_
  | with_reducible refine Rd.yes ?_
  | with_reducible refine iteT ?_
  | with_reducible refine iteF ?_
  | with_reducible refine Rd.iteNT ?_
  | with_reducible refine Rd.iteNF ?_
  | with_reducible refine Rd.tup ?_
  | with_reducible refine Rd.lst ?_
  | ((with_reducible refine Rd.eqs ?h1 ?_); (case h1 => rfl))
  | ((with_reducible refine Rd.nes ?h1 ?_); (case h1 => rfl))
  | ((with_reducible refine' Rd.ixL ?h1 ?h2 ?_); (case h1 => walk_at "hp"); (case h2 => first | rfl | assumption))
  | ((with_reducible refine' Rd.ixT ?h1 ?h2 ?_); (case h1 => walk_at "hp"); (case h2 => first | rfl | assumption))
  | ((with_reducible refine' Rd.lenL ?h1 ?_); (case h1 => walk_at "hp"))
  | ((with_reducible refine' Rd.lenT ?h1 ?_); (case h1 => walk_at "hp"))
  | ((with_reducible refine' Rd.setL ?h1 ?h2 ?_); (case h1 => walk_at "hp"); (case h2 => first | rfl | assumption))))
/-- the set whose cores at r are among cs -/
def setOf (cs : List Pr) (r : Nat) : Pr → Prop := fun p => core p (r : Nat) ∈ cs
theorem paired_rev {α β : Type} {R : α → β → Prop} : ∀ {xs : List α} {ys : List β}, Paired R xs ys → Paired R xs.reverse ys.reverse
  | _, _, .nil => .nil
  | _, _, .cons r t => by rw [List.reverse_cons, List.reverse_cons]; exact Rd.paired_snoc r (paired_rev t)
section
variable {P : Program} {w : World} {K : PySem.W.Frag} {mg : Str → Option Value} {base : Heap} {H H' : Hp} {p a b : Addr} {M N : Pr → Prop}
theorem RsAt.lt {s : Nat} {ks : List Pr} (h : RsAt K H a s ks) (pl : Pl p H) (t : Lt p H H') : RsAt K H' a s ks := by
  obtain ⟨dx, q, d, h1, ⟨vs, h2, pr⟩, kvs, h3, h4⟩ := h
  obtain ⟨x, y, hp, _⟩ := id pl
  exact ⟨dx, q, d, t.at (pl.ne_ins h1) h1, ⟨vs, t.at (pl.ne_tup h2) h2, Rd.paired_imp (fun _ _ r => r.lt pl t) pr⟩, kvs, t.at (ne_of h3 hp (by intro z; cases z)) h3, h4⟩
theorem RsM.lt (h : RsM K H a M) (pl : Pl p H) (t : Lt p H H') : RsM K H' a M := by
  obtain ⟨s, ks, h1, h2⟩ := h
  exact ⟨s, ks, h1.lt pl t, h2⟩
theorem eqR {Q : VK} {E : XK} (h : RsM K H a M) (h' : RsM K H b N) (k : ∀ c : Bool, (c = true ↔ ∀ p, nn p → (M p ↔ N p)) → Q (.bl c) H) : rOwn2 (CR K) (sp_eq K) E (.ref a) (.ref b) H Q := by
  obtain ⟨dx, fs, h1⟩ := h.ins
  obtain ⟨dy, gs, h2⟩ := h'.ins
  exact ⟨a, b, dx, dy, fs, gs, rfl, rfl, h1, h2, a, b, M, N, rfl, h, h', fun c hc => ⟨⟨_, rfl⟩, k c hc⟩⟩
theorem mk_set {l : Addr} {r : Nat} {ms : List Pr} {Q : VK} {E : XK} (hr : r ≤ 60) (hl : PL H l ms) (len : ms.length ≤ 20000) (all : ∀ q ∈ ms, nn q) (hM : ∀ p, nn p → (core p (r : Nat) ∈ ms.map (fun m => core m (r : Nat)) ↔ M p)) (k : ∀ x H', Ext H H' → RsM K H' x M → Q (.ref x) H') : Rd.MkR (CR K) (sp_Results_init K) E [.int (r : Nat), .ref l] H Q := by
  refine mk_results hl len (fun c => absurd ⟨by omega, by omega⟩ c) (fun _ _ i hb => absurd (all _ (List.mem_of_getElem? hb.1.choose_spec.1)) hb.1.choose_spec.2) (fun _ _ _ x H' e nx R => ?_)
  rw [Int.toNat_natCast] at R
  exact k x H' e ⟨_, _, R, isR_of hr all hM⟩
/-- a list of pairs, each asked -/
theorem lc_list {H1 : Hp} {l D : Addr} {ps : List Pr} {g : TG} {tt : TT} {te : TE} {vs : List Nat} {σ : L2.St} {Z : Hp → Prop} {ys : List V} (hy : H1 l = some (.lst ys)) (pr : Paired (PT H1) ps ys) (len : ps.length < 100000) (f : Pr → Bool) (hD : H1 D = none)
    (hs : ∀ q y H acc, q ∈ ps → PT H q y → Ext H1 H → H D = some (.lst acc) → ∀ (Qy : VK) (Qn : Hp → Prop), (∀ H4, Ext H H4 → f q = true → Qy y H4) → (∀ H3, Ext H H3 → f q = false → Qn H3) →
      g y (wipe σ vs) H fun σ2 H2 => wipe σ2 vs = wipe σ vs ∧ tt σ2 H2 fun b H3 => if b = true then te σ2 H3 Qy else Qn H3)
    (hd : ∀ H, Ext H1 H → PL H D (ps.filter f) → Z H) :
    ∃ W : Nat → Nat → Hp → Prop, (∃ m, W 0 m (upd H1 D (.lst []))) ∧ ∀ i m H, W i m H →
      ((Itl K l).stop i H ∧ Z H) ∨ ((Itl K l).go i H ∧ ∃ Nx : Hp → Prop, (∀ H', Nx H' → ∃ m', m' < m ∧ W (i + 1) m' H') ∧ ∀ x H', (Itl K l).yld i H x H' → g x (wipe σ vs) H' fun σ2 H2 => wipe σ2 vs = wipe σ vs ∧ tt σ2 H2 fun b H3 =>
        if b = true then te σ2 H3 fun y H4 => ∃ acc, H4 D = some (.lst acc) ∧ acc.length < sizeLine ∧ Nx (upd H4 D (.lst (acc ++ [y]))) else Nx H3) := by
  refine Rd.lcB (Rd.walk_lB (K := K) (a := l) pr) (PT H1) (Rd.yB pr) len f (fun p y H => PT H p y) (fun _ _ _ _ e h => h.ext e) hD (fun H' e => SqL.of (e _ _ hy)) ?_ ?_
  · intro i p y H acc hp hB e ha Qy Qn ky kn
    exact hs p y H acc (List.mem_of_getElem? hp) (hB.ext e) e ha Qy Qn (fun H4 e4 c => ky y H4 e4 c (hB.keep hD (e.trans e4))) kn
  · intro zs H e hz pz
    exact hd H e (PL.of hz pz)
theorem leastA {σ : L2.St} {i s : Nat} {ks : List Pr} {Q : VK} (h : σ[i]? = some (some (.ref a))) (A : RsAt K H a s ks) (k : ∀ v H', Ext H H' → OP H' (leastF ks) v → Q v H') : tMe0 (CR K) "least" (sp_Results_least K) E0 (tVar i) σ H Q := by
  obtain ⟨dx, q, d, h1, h2⟩ := id A
  exact Rd.me0v h h1 (show (fsR s q d).lookup ("least" : Str) = none from rfl) ⟨a, s, ks, rfl, A, k⟩
theorem reachA {σ : L2.St} {i s : Nat} {ks : List Pr} {Q : VK} (h : σ[i]? = some (some (.ref a))) (A : RsAt K H a s ks) (k : Q (.int (s : Nat)) H) : tProp (CR K) (sp_reach K) [] E0 (tVar i) σ H Q := by
  obtain ⟨dx, q, d, h1, h2⟩ := id A
  exact Rd.propv h h1 ⟨a, s, ks, rfl, A, k⟩
theorem coresA {σ : L2.St} {i s : Nat} {ks : List Pr} {Q : VK} (h : σ[i]? = some (some (.ref a))) (A : RsAt K H a s ks) (k : ∀ q, PU H q ks → Q (.ref q) H) : tProp (CR K) (sp_cores K) [] E0 (tVar i) σ H Q := by
  obtain ⟨dx, q, d, h1, h2⟩ := id A
  exact Rd.propv h h1 ⟨a, s, ks, rfl, A, k⟩
theorem boolA {s : Nat} {ks : List Pr} {Q : VK} (A : RsAt K H a s ks) (k : Q (.bl (!ks.isEmpty)) H) : rOwnBool (CR K) (sp_Results_bool K) E0 [.ref a] H Q := by
  obtain ⟨dx, q, d, h1, h2⟩ := id A
  exact ⟨a, rfl, a, dx, _, rfl, h1, a, s, ks, rfl, A, _, rfl, k⟩
theorem empty_iff {s : Nat} {ks : List Pr} (I : IsR s ks M) : ks = [] ↔ ∀ p, nn p → ¬ M p := by
  constructor
  · intro e p hp hm
    have := (I.mem hp).mpr hm
    rw [e] at this
    cases this
  · intro h
    rw [List.eq_nil_iff_forall_not_mem]
    intro p hp
    have := I.kept_mem.mp hp
    exact h p this.1.1 this.2
theorem fsR_m (s : Nat) (q d : Addr) : (fsR s q d).lookup ("flipped" : Str) = none ∧ (fsR s q d).lookup ("least" : Str) = none := ⟨rfl, rfl⟩
theorem flipR {σ : L2.St} {i : Nat} {Q : VK} (h : σ[i]? = some (some (.ref a))) (R : RsM K H a M) (k : ∀ x H', Ext H H' → RsM K H' x (fun p => M (swap p)) → Q (.ref x) H') : tMe0 (CR K) "flipped" (sp_flipped K) E0 (tVar i) σ H Q := by
  obtain ⟨s, ks, ⟨dx, q, d, h1, h2⟩, I⟩ := id R
  exact Rd.me0v h h1 (fsR_m s q d).1 ⟨a, M, rfl, R, k⟩
theorem leastR {σ : L2.St} {i : Nat} {Q : VK} (h : σ[i]? = some (some (.ref a))) (R : RsM K H a M) (k : ∀ v H' s ks, IsR s ks M → Ext H H' → OP H' (leastF ks) v → Q v H') : tMe0 (CR K) "least" (sp_Results_least K) E0 (tVar i) σ H Q := by
  obtain ⟨s, ks, ⟨dx, q, d, h1, h2⟩, I⟩ := id R
  exact Rd.me0v h h1 (fsR_m s q d).2 ⟨a, s, ks, rfl, ⟨dx, q, d, h1, h2⟩, fun v H' e o => k v H' s ks I e o⟩
theorem reachR {σ : L2.St} {i : Nat} {Q : VK} (h : σ[i]? = some (some (.ref a))) (R : RsM K H a M) (k : ∀ s ks, IsR s ks M → RsAt K H a s ks → Q (.int (s : Nat)) H) : tProp (CR K) (sp_reach K) [] E0 (tVar i) σ H Q := by
  obtain ⟨s, ks, ⟨dx, q, d, h1, h2⟩, I⟩ := id R
  exact Rd.propv h h1 ⟨a, s, ks, rfl, ⟨dx, q, d, h1, h2⟩, k s ks I ⟨dx, q, d, h1, h2⟩⟩
theorem in_R {v : V} {p : Pr} {Q : VK} {E : XK} (R : RsM K H a M) (hp : PT H p v) (hn : nn p) (k : ∀ (c : Bool) H', (c = true ↔ M p) → Ext H H' → Q (.bl c) H') : rOwnIn (CR K) (sp_Results_contains K) E false v (.ref a) H Q := by
  obtain ⟨s, ks, R, I⟩ := R
  refine in_rs R hp fun H' e => ?_
  rw [if_neg (by simp)]
  exact k _ H' (isR_inS I hn) e
theorem mem_swap {cs : List Pr} {q : Pr} : q ∈ cs.map swap ↔ swap q ∈ cs := by
  rw [List.mem_map]
  exact ⟨fun ⟨a, h1, h2⟩ => by rw [← h2]; exact h1, fun h => ⟨swap q, h, rfl⟩⟩
/-- what is known in a turn -/
structure S56 (K : PySem.W.Frag) (H0 : Hp) (p c x y : Addr) (vd : V) (cs : List Pr) (r : Nat) (H : Hp) : Prop where
  lt : Lt p H0 H
  hc : PL H c cs
  R1 : RsM K H x (setOf cs r)
  R2 : RsM K H y (fun p => setOf cs r (swap p))
  hd : OP H (lessF cs) vd
section
variable {H0 : Hp} {c x y : Addr} {vd : V} {cs : List Pr} {r : Nat}
theorem S56.ext (h : S56 K H0 p c x y vd cs r H) (e : Ext H H') : S56 K H0 p c x y vd cs r H' := ⟨h.lt.ext e, h.hc.ext e, h.R1.ext e, h.R2.ext e, h.hd.ext e⟩
theorem OP.lt {o : Option Pr} {v : V} (h : OP H o v) (pl : Pl p H) (t : Lt p H H') : OP H' o v := by
  cases o with
  | none => exact h
  | some q => exact PT.lt h pl t
theorem S56.later (h : S56 K H0 p c x y vd cs r H) (nc : c ≠ p) (t : Lt p H H') : S56 K H0 p c x y vd cs r H' := ⟨h.lt.trans t, h.hc.lt nc h.lt.pl t, h.R1.lt h.lt.pl t, h.R2.lt h.lt.pl t, h.hd.lt h.lt.pl t⟩
end
theorem ne_go {c b : Bool} {A B : Prop} (h : c = b) (k : B) : if (!decide (V.bl c = V.bl b)) = true then A else B := by
  subst h
  rw [decide_eq_true rfl]
  exact k
theorem same_bl {c b : Bool} {S : Prop} (h : c = true ↔ S) (h' : b = true ↔ S) : c = b := by
  rw [Bool.eq_iff_iff, h, h']
theorem is_tt {c : Bool} {S : Prop} (h : c = true ↔ S) (s : S) : c = true := h.mpr s
theorem is_ff {c : Bool} {S : Prop} (h : c = true ↔ S) (s : ¬ S) : c = false := by
  cases c with
  | true => exact absurd (h.mp rfl) s
  | false => rfl
def sp_law (K : PySem.W.Frag) : Sp := fun vs H Q _ => ∃ (a : Addr) (ns : List Int), vs = [.ref a] ∧ SqL K H a (ns.map V.int) ∧ ns.length ≤ 63 ∧ (∀ z ∈ ns, Builtin.Int.intBits z ≤ 1048576) ∧ ∀ H', Q (.bl true) H'
theorem itersN (n m : Nat) (hm : 1 ≤ m) : (if (if (n : Int) < (m : Int) then (n : Int) else m) > 1 then (if (n : Int) < (m : Int) then (n : Int) else m) else 1).toNat ≤ m := by split <;> split <;> omega
theorem filt_len (t : Nat) (f : Pr → Bool) (h : t ≤ 60) : ((allC t).filter f).length ≤ 121 * 121 := Nat.le_trans (List.length_filter_le _ _) (allC_len t h)
theorem filt_isC {t : Nat} {f : Pr → Bool} : ∀ q ∈ (allC t).filter f, isC (t : Nat) q := fun q hq => mem_allC.mp (List.mem_filter.mp hq).1
theorem ok_law (T : Tx K mg) {fd : FuncData} (F : FunD K "law" "law" (defArgs s_law) (defBody s_law) (defScope s_law) [] [] (a_law K) fd) : FnOk P w K mg base (L2.CX P w) 40 (a_law K) fd P_law (sp_law K) := by
  obtain ⟨fP, FP_Results_reach, bP_Results_reach⟩ := ok_Results_reach (P := P) (w := w) (base := base) T
  obtain ⟨fC, FP_Results_cores, bP_Results_cores⟩ := ok_Results_cores (P := P) (w := w) (base := base) T
  refine F.ok sc_law (fun vs H Q E h => ?_) (fun cdv A outer s H vs Q E hr h => ?_)
  · obtain ⟨a, ns, rfl, _⟩ := h
    rfl
  · obtain ⟨sc, ns, rfl, hS, hn, hb, k⟩ := h
    refine ⟨_, (pss_cons (ps_for (passes_of rfl) rfl (pi_range1 (by rfl) T.f_range (pa_cons (pe_callB (Rd.c_max rfl) (by rfl) T.f_max Rd.bt_max (pa_cons pe_int (pa_cons (pe_callB (Rd.c_min rfl) (by rfl) T.f_min Rd.bt_min (pa_cons pe_int (pa_cons (pe_callB (Rd.c_len (K := K)) (by rfl) T.f_len Rd.bt_len (pa_cons (pv 0) pa_nil)) pa_nil))) pa_nil))) pa_nil)) (gx 1 sc_law.nd) (pss_cons (sx 2 sc_law.nd (pe_cr (ok_pool T) (hr.mono (by decide)) (kp_of T.d_law_pool) (by rfl) T.g_law_pool (pa_cons (pv 0) (pa_cons (pv 1) pa_nil)))) (pss_cons (ps_asg (pe_cr (ok_drawn T) (hr.mono (by decide)) (kp_of T.d_law_drawn) (by rfl) T.g_law_drawn (pa_cons (pv 2) pa_nil)) (GW.unl (K := K) (n := 2) rfl (pgs_cons (gx 3 sc_law.nd) (pgs_cons (gx 4 sc_law.nd) pgs_nil)))) (pss_cons (sx 5 sc_law.nd (pe_mk T.k_Results (ok_Results_init T) (hr.mono (by decide)) (by rfl) T.g_Results (pa_cons (pv 3) (pa_cons (GW.revL (K := K) (pv 4)) pa_nil)))) (pss_cons (sx 6 sc_law.nd (OwX.pe_me0 T.c_Results T.m_Results_flipped (ok_Results_flipped T) (hr.mono (by decide)) (pv 5))) (pss_cons (sx 7 sc_law.nd (pe_cr (ok_least T) (hr.mono (by decide)) (kp_of T.d_law_least) (by rfl) T.g_law_least (pa_cons (pv 4) pa_nil))) (pss_cons (ps_if (PW.pt (pw_or (pt_cmpR (GW.neD hr.units (K := K)) (OwX.pe_me0 T.c_Results T.m_Results_least (ok_Results_least T) (hr.mono (by decide)) (pv 5)) (pv 7) (nomark _)) (pw_or1 (pt_cmpR (GW.neD hr.units (K := K)) (OwX.pe_me0 T.c_Results T.m_Results_least (ok_Results_least T) (hr.mono (by decide)) (pv 6)) (pe_cr (ok_least T) (hr.mono (by decide)) (kp_of T.d_law_least) (by rfl) T.g_law_least (pa_cons (pe_lc (own := [("home", 8), ("away", 9)]) rfl sc_law.nd (GW.pi_list (K := K) (pv 4)) (blkOk_by (own := [("home", 8), ("away", 9)]) (N := N_law) (sc := defScope s_law) (by decide +kernel)) (fun _ _ _ _ _ => (GW.tup (K := K) (n := 2) rfl (pgs_cons (gx 8 sc_law.nd) (pgs_cons (gx 9 sc_law.nd) pgs_nil)))) (fun _ _ _ _ _ => pts_nil) (fun _ _ _ _ _ => (pe_tup (pa_cons (pv 9) (pa_cons (pv 8) pa_nil))))) pa_nil)) (nomark _))))) (pss_one (ps_ret pe_bl)) pss_nil) (C8.pss_cut (ps_if (PW.pt (pw_and (pt_cmpR GW.notN (pv 7) pe_non (nomark _)) (pw_and1 (pt_cmpR op_notBl (pe_cmpR (op_inO T.m_Results_contains (ok_Results_contains T) (hr.mono (by decide)) passL) (pv 7) (pv 5) rfl) pe_bl (nomark _))))) (pss_one (ps_ret pe_bl)) pss_nil) (C8.pss_cut (sx 10 sc_law.nd (pe_ifExp (pt_cmpR GW.isN (pv 7) pe_non (nomark _)) (pe_op op_add (pe_op op_mul pe_int (pv 3)) pe_int) (pe_op op_add (pe_ix (GW.ixT (K := K)) (pv 7) pe_int (fun _ _ => rfl)) (pe_ix (GW.ixT (K := K)) (pv 7) pe_int (fun _ _ => rfl))))) (pss_cons (ps_for (passes_of rfl) rfl (pi_range1 (by rfl) T.f_range (pa_cons (pv 10) pa_nil)) (gx 8 sc_law.nd) (pss_one (ps_for (passes_of rfl) rfl (pi_range1 (by rfl) T.f_range (pa_cons (pe_op op_sub (pv 10) (pv 8)) pa_nil)) (gx 9 sc_law.nd) (pss_one (ps_if (pt_cmpR (op_inO T.m_Results_contains (ok_Results_contains T) (hr.mono (by decide)) passL) (pe_tup (pa_cons (pv 8) (pa_cons (pv 9) pa_nil))) (pv 5) rfl) (pss_one (ps_ret pe_bl)) pss_nil))))) (pss_cons (ps_for (passes_of rfl) rfl (GW.pi_list (K := K) (pe_cr (ok_some T) (hr.mono (by decide)) (kp_of T.d_law_some) (by rfl) T.g_law_some (pa_cons (pv 2) (pa_cons (pv 3) pa_nil)))) (GW.tup (K := K) (n := 2) rfl (pgs_cons (gx 8 sc_law.nd) (pgs_cons (gx 9 sc_law.nd) pgs_nil))) (pss_one (ps_if (pt_cmpR op_ne (pe_cmpR (op_inO T.m_Results_contains (ok_Results_contains T) (hr.mono (by decide)) passL) (pe_tup (pa_cons (pv 9) (pa_cons (pv 8) pa_nil))) (pv 6) rfl) (pe_cmpR (GW.inD hr.units65 (K := K)) (pe_cr (ok_law_core T) (hr.mono (by decide)) (kp_of T.d_law_core) (by rfl) T.g_law_core (pa_cons (pe_tup (pa_cons (pv 8) (pa_cons (pv 9) pa_nil))) (pa_cons (pv 3) pa_nil))) (pv 4) rfl) (nomark _)) (pss_one (ps_ret pe_bl)) pss_nil))) (pss_cons (ps_if (PW.pt (pw_or (pt_cmpR op_notBl (pe_cmpR (op_eqO T.m_Results_eq (ok_Results_eq T) (hr.mono (by decide)) passL) (OwX.pe_me0 T.c_Results T.m_Results_flipped (ok_Results_flipped T) (hr.mono (by decide)) (pv 6)) (pv 5) (nomark _)) pe_bl (nomark _)) (pw_or (pt_cmpR op_ne (pe_prop (pv 6) T.c_Results T.p_Results_reach FP_Results_reach (hr.mono (by decide)) bP_Results_reach .nil passL rfl) (pe_prop (pv 5) T.c_Results T.p_Results_reach FP_Results_reach (hr.mono (by decide)) bP_Results_reach .nil passL rfl) (nomark _)) (pw_or1 (pt_cmpR op_ne (pe_callTy (call_boolO T.m_Results_bool (ok_Results_bool T) (hr.mono (by decide)) passL) (by rfl) T.f_bool Rd.bt_bool (pa_cons (pv 6) pa_nil)) (pe_cmpR (GW.neD hr.units (K := K)) (pv 4) (pe_lst pa_nil) (nomark _)) (nomark _)))))) (pss_one (ps_ret pe_bl)) pss_nil) (pss_one (ps_if (pt_cmpR op_ne (pe_cmpR (op_eqO T.m_Results_eq (ok_Results_eq T) (hr.mono (by decide)) passL) (pv 5) (pv 6) (nomark _)) (pe_cmpR (GW.eqD hr.units (K := K)) (pe_lc (own := [("one", 11)]) rfl sc_law.nd (GW.pi_list (K := K) (pv 4)) (blkOk_by (own := [("one", 11)]) (N := N_law) (sc := defScope s_law) (by decide +kernel)) (fun _ _ _ _ _ => (gx 11 sc_law.nd)) (fun _ _ _ _ _ => (pts_one (pt_cmpR (GW.niD hr.units65 (K := K)) (pe_tup (pa_cons (pe_ix (GW.ixT (K := K)) (pv 11) pe_int (fun _ _ => rfl)) (pa_cons (pe_ix (GW.ixT (K := K)) (pv 11) pe_int (fun _ _ => rfl)) pa_nil))) (pv 4) rfl))) (fun _ _ _ _ _ => (pv 11))) (pe_lst pa_nil) (nomark _)) (nomark _)) (pss_one (ps_ret pe_bl)) pss_nil)))))))))))))) (pss_cons (ps_par (i := 12) (j := 13) rfl sc_law.nd rfl rfl (by decide) rfl rfl (pa_cons (pe_smeth0 (pe_glob (v := .ref (He.ga K "Results")) (by rfl) T.g_Results rfl) T.r_Results T.sm_Results_every (ok_Results_every T) (hr.mono (by decide)) passL) (pa_cons (pe_smeth0 (pe_glob (v := .ref (He.ga K "Results")) (by rfl) T.g_Results rfl) T.r_Results T.sm_Results_none (ok_Results_none T) (hr.mono (by decide)) passL) pa_nil)) rfl) (pss_cons (ps_if (PW.pt (pw_or (pt_cmpR (GW.neD hr.units (K := K)) (OwX.pe_me0 T.c_Results T.m_Results_least (ok_Results_least T) (hr.mono (by decide)) (pv 12)) (pe_tup (pa_cons pe_int (pa_cons pe_int pa_nil))) (nomark _)) (pw_or (pt_cmpR GW.notN (OwX.pe_me0 T.c_Results T.m_Results_least (ok_Results_least T) (hr.mono (by decide)) (pv 13)) pe_non (nomark _)) (pw_or (pt_cmpR op_ne (pe_prop (pv 12) T.c_Results T.p_Results_reach FP_Results_reach (hr.mono (by decide)) bP_Results_reach .nil passL rfl) pe_int (nomark _)) (pw_or1 (pt_cmpR op_ne (pe_prop (pv 13) T.c_Results T.p_Results_reach FP_Results_reach (hr.mono (by decide)) bP_Results_reach .nil passL rfl) pe_int (nomark _))))))) (pss_one (ps_ret pe_bl)) pss_nil) (pss_one (ps_ret (pe_and (pe_cmpR op_isBl (pe_cmpR (op_eqO T.m_Results_eq (ok_Results_eq T) (hr.mono (by decide)) passL) (OwX.pe_me0 T.c_Results T.m_Results_flipped (ok_Results_flipped T) (hr.mono (by decide)) (pv 12)) (pv 12) (nomark _)) pe_bl (nomark _)) (pe_and (pe_cmpR op_isBl (pe_cmpR (op_eqO T.m_Results_eq (ok_Results_eq T) (hr.mono (by decide)) passL) (OwX.pe_me0 T.c_Results T.m_Results_flipped (ok_Results_flipped T) (hr.mono (by decide)) (pv 13)) (pv 13) (nomark _)) pe_bl (nomark _)) (pe_one (pe_cmpR (GW.eqD hr.units (K := K)) (pe_prop (pv 12) T.c_Results T.p_Results_cores FP_Results_cores (hr.mono (by decide)) bP_Results_cores .nil passL rfl) (pe_tup (pa_cons (pe_tup (pa_cons pe_int (pa_cons pe_int pa_nil))) pa_nil)) (nomark _)))))))))), ?_⟩
    walk_at "go"
    refine ⟨_, rfl, ?_, ?_, for_range (fun i σ H => ∃ v1 v2 v3 v4 v5 v6 v7 v8 v9 v10 v11 v12 v13, σ = [some (.ref sc), v1, v2, v3, v4, v5, v6, v7, v8, v9, v10, v11, v12, v13] ∧ SqL K H sc (ns.map V.int)) ⟨_, _, _, _, _, _, _, _, _, _, _, _, _, rfl, hS⟩ ?_ ?_⟩
    · split <;> split <;> omega
    · split <;> split <;> omega
    rotate_left
    · rintro σ H' ⟨v1, v2, v3, v4, v5, v6, v7, v8, v9, v10, v11, v12, v13, rfl, hS⟩
      walk_at "go"
      refine ⟨rfl, fun x H1 e1 Rx => ?_⟩
      walk_at "go"
      refine ⟨rfl, fun y H2 e2 Ry => ?_⟩
      have Rx := Rx.ext e2
      clear e1 e2
      walk_at "go"
      refine leastA rfl Rx fun v H3 e3 hv => ?_
      rw [every_kept] at hv
      have Rx := Rx.ext e3
      have Ry := Ry.ext e3
      walk_at "go"
      refine ⟨Rd.szr rfl, fun t ht => ?_⟩
      have e4 := Ext.upd (o := .tup [.int 0, .int 0]) ht
      have Rx := Rx.ext e4
      have Ry := Ry.ext e4
      refine Rd.neD encO_ok (a := some (0, 0)) (b := some (0, 0)) (dp_op (hv.ext e4)) (dp_op (o := some (0, 0)) ⟨t, rfl, upd_same⟩) ?_
      rw [decide_eq_true rfl]
      walk_at "go"
      refine leastA rfl Ry fun v2 H5 e5 hv2 => ?_
      rw [none_kept] at hv2
      obtain rfl : v2 = .non := hv2
      have Rx := Rx.ext e5
      have Ry := Ry.ext e5
      walk_at "go"
      refine reachA rfl Rx ?_
      walk_at "go"
      refine Rd.iten (fun c => absurd rfl c) (fun _ => ?_)
      walk_at "go"
      refine reachA rfl Ry ?_
      walk_at "go"
      refine Rd.iten (fun c => absurd rfl c) (fun _ => ?_)
      walk_at "go"
      have Mx : RsM K H5 x (fun _ => True) := ⟨_, _, Rx, every_R⟩
      have My : RsM K H5 y (fun _ => False) := ⟨_, _, Ry, none_R⟩
      refine flipR rfl Mx fun z H6 e6 Mz => ?_
      walk_at "go"
      refine eqR Mz (Mx.ext e6) fun b hb => ?_
      rw [is_tt hb fun p _ => Iff.rfl]
      walk_at "go"
      refine Rd.ited (fun _ => ?_) (fun c => absurd rfl c)
      walk_at "go"
      refine flipR rfl (My.ext e6) fun z H7 e7 Mz => ?_
      walk_at "go"
      refine eqR Mz ((My.ext e6).ext e7) fun b hb => ?_
      rw [is_tt hb fun p _ => Iff.rfl]
      walk_at "go"
      refine Rd.ited (fun _ => ?_) (fun c => absurd rfl c)
      walk_at "go"
      refine coresA rfl ((Rx.ext e6).ext e7) fun q hq => ?_
      rw [every_kept] at hq
      walk_at "go"
      refine ⟨Rd.szr rfl, fun t ht => ⟨Rd.szr rfl, fun u hu => ?_⟩⟩
      have e8 := Ext.upd (o := .tup [.int 0, .int 0]) ht
      have e9 := Ext.upd (o := .tup [.ref t]) hu
      refine Rd.eqD encP_ok.tuple (a := [(0, 0)]) (b := [(0, 0)]) (dp_pu ((hq.ext e8).ext e9)) (dp_pu ⟨_, upd_same, .cons ⟨t, rfl, by rw [upd_ne (ne_of_none upd_same hu)]; exact upd_same⟩ .nil⟩) ?_
      rw [decide_eq_true rfl]
      exact k _
    intro i σ H hi hh
    obtain ⟨v1, v2, v3, v4, v5, v6, v7, v8, v9, v10, v11, v12, v13, rfl, hS⟩ := hh
    have hk : i < 63 := by
      rw [List.length_map] at hi
      have := itersN ns.length 16 (by decide)
      omega
    rw [Int.zero_add]
    walk_at "go"
    refine mkPool hS hn hk hb fun p H1 np e1 pl1 => ?_
    walk_at "go"
    refine ⟨p, rfl, pl1, fun l1 c r f H2 t2 nl1 nc h2 hc r6 => ?_⟩
    walk_at "go"
    refine ⟨l1, _, rfl, SqL.of h2, rfl, _, _, rfl, _, _, rfl, rfl, ?_⟩
    generalize ecs : (allC r).filter f = cs at hc
    have lcs : cs.length ≤ 121 * 121 := by rw [← ecs]; exact filt_len r f (by omega)
    have ics : ∀ q ∈ cs, isC (r : Nat) q := by rw [← ecs]; exact filt_isC
    have hM : ∀ p, nn p → (core p (r : Nat) ∈ cs ↔ setOf cs r p) := fun p _ => Iff.rfl
    clear ecs
    walk_at "go"
    obtain ⟨ys, hys, pr⟩ := id hc
    refine Rd.revLv rfl (SqL.of hys) fun c2 nc2 => ?_
    have e3 := Ext.upd (H := H2) (o := .lst ys.reverse) nc2
    have hc2 : PL (upd H2 c2 (.lst ys.reverse)) c2 cs.reverse := ⟨_, upd_same, Rd.paired_imp (fun _ _ z => z.ext e3) (paired_rev pr)⟩
    have hc := hc.ext e3
    have t3 := t2.ext e3
    generalize upd H2 c2 (.lst ys.reverse) = H3 at e3 hc2 hc t3
    clear hys pr ys h2 e3
    walk_at "go"
    refine mk_set (M := setOf cs r) (by omega) hc2 (by rw [List.length_reverse]; omega) (fun q hq => (ics q (List.mem_reverse.mp hq)).1) ?_ fun x H4 e4 R1 => ?_
    · intro p hp
      show _ ↔ core p (r : Nat) ∈ cs
      rw [List.mem_map]
      constructor
      · rintro ⟨q, hq, e⟩
        have hq := List.mem_reverse.mp hq
        rw [core_isC (ics q hq)] at e
        rw [← e]; exact hq
      · intro h
        exact ⟨_, List.mem_reverse.mpr h, core_isC (ics _ h)⟩
    have hc := hc.ext e4
    have t4 := t3.ext e4
    clear hc2 t3 e4
    walk_at "go"
    refine flipR rfl R1 fun y H5 e5 R2 => ?_
    walk_at "go"
    refine ⟨c, cs, rfl, hc.ext e5, fun vd H6 e6 hd => ?_⟩
    have S : S56 K H1 p c x y vd cs r H6 := ⟨(t4.ext e5).ext e6, (hc.ext e5).ext e6, (R1.ext e5).ext e6, R2.ext e6, hd⟩
    clear hc t4 R1 R2 hd e5 e6
    have icw : ∀ q ∈ cs.map swap, isC (r : Nat) q := fun q hq => isC_swap.mp (ics _ (mem_swap.mp hq))
    have hMw : ∀ p, nn p → (core p (r : Nat) ∈ cs.map swap ↔ setOf cs r (swap p)) := fun p _ => by
      rw [mem_swap, ← core_swap p (show (0 : Int) ≤ (r : Nat) by omega)]; exact Iff.rfl
    walk_at "go"
    refine leastR rfl S.R1 fun v H7 s1 k1 I1 e7 hv => ?_
    rw [least_same I1 ics hM] at hv
    have S := S.ext e7
    walk_at "go"
    refine Rd.neD encO_ok (dp_op hv) (dp_op S.hd) ?_
    rw [decide_eq_true rfl]
    clear hv e7 I1 s1 k1
    walk_at "go"
    refine leastR rfl S.R2 fun v2 H8 s2 k2 I2 e8 hv => ?_
    rw [least_same I2 icw hMw] at hv
    have S := S.ext e8
    walk_at "go"
    obtain ⟨ys, hys, pr⟩ := S.hc
    refine ⟨c, rfl, ⟨_, SqL.of hys⟩, fun D hD => ?_⟩
    refine Rd.lcB (Rd.walk_lB (K := K) (a := c) pr) (PT _) (Rd.yB pr) (by omega) (fun _ => true) (fun p y H => PT H (swap p) y) (fun _ _ _ _ e h => h.ext e) hD (fun H' e => SqL.of (e _ _ hys)) ?_ ?_
    · intro i p y H2 acc hp hB e2 ha Qy Qn ky kn
      refine un2 (hB.ext e2) ?_
      refine ⟨rfl, ?_⟩
      walk_at "go"
      exact ⟨Rd.szr rfl, fun t ht => ky _ _ (Ext.upd ht) rfl (PT.new (p := swap p) ha ht)⟩
    intro zs H9 e9 hzs pz
    rw [List.filter_eq_self.mpr (fun _ _ => rfl)] at pz
    have hsw := PL.of hzs (Rd.paired_mapl (f := swap) pz)
    walk_at "go"
    refine ⟨D, cs.map swap, rfl, hsw, fun v3 H10 e10 hv3 => ?_⟩
    refine Rd.neD encO_ok (dp_op ((hv.ext e9).ext e10)) (dp_op hv3) ?_
    rw [decide_eq_true rfl]
    have S := (S.ext e9).ext e10
    clear hv hv3 e8 e9 e10 hsw pz hzs hys pr
    walk_at "go"
    -- due in told
    refine ⟨fun σ' H' => σ' = [some (.ref sc), some (.int i), some (.ref p), some (.int r), some (.ref c), some (.ref x), some (.ref y), some vd, v8, v9, v10, v11, v12, v13] ∧ S56 K H1 p c x y vd cs r H', ?_, ?_⟩
    · walk_at "go"
      rcases less_spec (l := cs) with ⟨h1, h2⟩ | ⟨d, h1, h2⟩
      · obtain rfl : vd = .non := by have := S.hd; rw [h1] at this; exact this
        walk_at "go"
        exact ⟨rfl, S⟩
      · obtain ⟨t, rfl, ht⟩ : PT H10 d vd := by have := S.hd; rw [h1] at this; exact this
        walk_at "go"
        refine in_R S.R1 ⟨t, rfl, ht⟩ (ics d h2.1).1 fun b H11 hb e11 => ?_
        rw [is_tt hb (by show core d (r : Nat) ∈ cs; rw [core_isC (ics d h2.1)]; exact h2.1)]
        walk_at "go"
        exact ⟨rfl, S.ext e11⟩
    rintro σ H11 ⟨rfl, S⟩
    refine ⟨fun σ' H' => ∃ g : Nat, σ' = [some (.ref sc), some (.int i), some (.ref p), some (.int r), some (.ref c), some (.ref x), some (.ref y), some vd, v8, v9, some (.int g), v11, v12, v13] ∧ S56 K H1 p c x y vd cs r H' ∧ g ≤ 100 ∧ ∀ q, nn q → q.1 + q.2 < g → ¬ setOf cs r q, ?_, ?_⟩
    · walk_at "go"
      rcases less_spec (l := cs) with ⟨h1, h2⟩ | ⟨d, h1, h2⟩
      · obtain rfl : vd = .non := by have := S.hd; rw [h1] at this; exact this
        walk_at "go"
        exact ⟨3 * r + 1, by simp, S, by omega, fun q hq _ hm => by unfold setOf at hm; rw [h2] at hm; cases hm⟩
      · obtain ⟨t, rfl, ht⟩ : PT H11 d vd := by have := S.hd; rw [h1] at this; exact this
        have hC := ics d h2.1
        have hn := hC.1
        unfold nn at hn
        unfold isC at hC
        walk_at "go"
        refine ⟨(d.1 + d.2).toNat, by simp; omega, S, by omega, fun q hq hl hm => ?_⟩
        have := (least_all ics hM h2).2 q ⟨hq, hm⟩
        rcases this with rfl | h
        · omega
        · unfold lex at h; omega
    rintro σ H12 ⟨g, rfl, S, g100, hg⟩
    walk_at "go"
    refine ⟨_, rfl, by omega, by omega, ?_⟩
    rw [Int.toNat_natCast]
    refine for_range (fun j σ' H' => ∃ v8 v9, σ' = [some (.ref sc), some (.int i), some (.ref p), some (.int r), some (.ref c), some (.ref x), some (.ref y), some vd, v8, v9, some (.int g), v11, v12, v13] ∧ S56 K H1 p c x y vd cs r H') ⟨_, _, rfl, S⟩ ?_ ?_
    · rintro j σ H13 hj ⟨v8, v9, rfl, S⟩
      rw [Int.zero_add]
      walk_at "go"
      refine ⟨_, rfl, by omega, by omega, ?_⟩
      have eg : ((g : Int) - (j : Int)).toNat = g - j := by omega
      rw [eg]
      refine for_range (fun l σ' H' => ∃ v9, σ' = [some (.ref sc), some (.int i), some (.ref p), some (.int r), some (.ref c), some (.ref x), some (.ref y), some vd, some (.int j), v9, some (.int g), v11, v12, v13] ∧ S56 K H1 p c x y vd cs r H') ⟨_, rfl, S⟩ ?_ ?_
      · rintro l σ H14 hl ⟨v9, rfl, S⟩
        rw [Int.zero_add]
        walk_at "go"
        refine ⟨Rd.szr rfl, fun t ht => ?_⟩
        have S := S.ext (Ext.upd (o := .tup [.int j, .int l]) ht)
        have hn : nn ((j : Int), (l : Int)) := ⟨by simp only []; omega, by simp only []; omega⟩
        walk_at "go"
        refine in_R (p := ((j : Int), (l : Int))) S.R1 ⟨t, rfl, upd_same⟩ hn fun b H15 hb e15 => ?_
        rw [is_ff hb (hg _ hn (by simp only []; omega))]
        walk_at "go"
        exact ⟨_, rfl, S.ext e15⟩
      · rintro σ H14 ⟨v9, rfl, S⟩
        exact ⟨_, _, rfl, S⟩
    rintro σ H13 ⟨v8, v9, rfl, S⟩
    clear hg
    walk_at "go"
    refine ⟨p, r, rfl, S.lt.pl, by omega, fun l H14 ms t14 nl fl hl all len => ?_⟩
    have S := S.later nc t14
    obtain ⟨ys, hys, pr⟩ := hl
    walk_at "go"
    refine ⟨l, rfl, ⟨_, SqL.of hys⟩, ?_⟩
    refine for_it (Rd.walk_lB (K := K) (a := l) pr) (fun j σ' H' => ∃ v8 v9, σ' = [some (.ref sc), some (.int i), some (.ref p), some (.int r), some (.ref c), some (.ref x), some (.ref y), some vd, v8, v9, some (.int g), v11, v12, v13] ∧ S56 K H1 p c x y vd cs r H' ∧ Ext H14 H') ⟨_, _, rfl, S, Rd.ext_rfl⟩ (fun j σ H' _ ⟨_, _, _, _, e⟩ => SqL.of (e _ _ hys)) ?_ ?_
    · rintro j z σ H15 H16 hj ⟨v8, v9, rfl, S, e15⟩ yy
      obtain ⟨q, hq, rfl, hB⟩ := Rd.yB pr j H15 z H16 yy
      have hn := all q (List.mem_of_getElem? hq)
      refine un2 (hB.ext e15) ?_
      walk_at "go"
      refine ⟨Rd.szr rfl, fun t ht => ?_⟩
      have e16 := Ext.upd (H := H16) (o := .tup [.int q.2, .int q.1]) ht
      have S := S.ext e16
      walk_at "go"
      refine in_R (p := swap q) S.R2 ⟨t, rfl, upd_same⟩ (nn_swap.mpr hn) fun b H17 hb e17 => ?_
      have S := S.ext e17
      walk_at "go"
      refine ⟨Rd.szr rfl, fun t2 ht2 => ?_⟩
      have e18 := Ext.upd (H := H17) (o := .tup [.int q.1, .int q.2]) ht2
      have S := S.ext e18
      walk_at "go"
      refine ⟨_, q, r, rfl, ⟨t2, rfl, upd_same⟩, hn, by omega, fun t3 ht3 => ?_⟩
      have e19 := Ext.upd (o := .tup [.int (core q (r : Nat)).1, .int (core q (r : Nat)).2]) ht3
      have S := S.ext e19
      walk_at "go"
      refine inP S.hc ⟨t3, rfl, upd_same⟩ fun b2 hb2 => ?_
      walk_at "go"
      refine ne_go (same_bl hb (hb2.trans Iff.rfl)) ?_
      exact ⟨_, _, rfl, S, (((e15.trans e16).trans e17).trans e18).trans e19⟩
    rintro σ H15 ⟨v8, v9, rfl, S, _⟩
    clear hys pr all len t14
    walk_at "go"
    refine flipR rfl S.R2 fun z H16 e16 R3 => ?_
    have S := S.ext e16
    walk_at "go"
    refine eqR R3 S.R1 fun b hb => ?_
    rw [is_tt hb fun p _ => by rw [swap_swap]]
    walk_at "go"
    refine reachR rfl S.R2 fun s2 k2 I2 A2 => ?_
    walk_at "go"
    refine reachR rfl S.R1 fun s1 k1 I1 A1 => ?_
    have es : s2 = s1 := flip_eq I1 I2
    subst es
    walk_at "go"
    refine Rd.iten (fun c => absurd rfl c) (fun _ => ?_)
    walk_at "go"
    refine boolA A2 ?_
    walk_at "go"
    refine ⟨Rd.szr rfl, fun o ho => ?_⟩
    have e17 := Ext.upd (o := .lst []) ho
    have S := S.ext e17
    refine Rd.neD encP_ok.list (dp_pl S.hc) (show Dp K _ (.ref o) (.list (([] : List Pr).map encP)) from .lst (SqL.of upd_same) .nil) ?_
    walk_at "go"
    refine ne_go ?_ ?_
    · have h1 : k2 = [] ↔ cs = [] := by
        rw [empty_iff I2]
        constructor
        · intro h
          rw [List.eq_nil_iff_forall_not_mem]
          intro q hq
          have hC := ics q hq
          exact h (swap q) (nn_swap.mpr hC.1) (by show core q (r : Nat) ∈ cs; rw [core_isC hC]; exact hq)
        · intro h p hp hm
          have hm : core (swap p) (r : Nat) ∈ cs := hm
          rw [h] at hm
          cases hm
      congr 1
      rw [Bool.eq_iff_iff, List.isEmpty_iff, decide_eq_true_iff, h1]
    clear A1 A2 I1 I2 hb R3
    walk_at "go"
    refine eqR S.R1 S.R2 fun b1 hb1 => ?_
    walk_at "go"
    obtain ⟨ys, hys, pr⟩ := S.hc
    refine ⟨c, rfl, ⟨_, SqL.of hys⟩, fun D hD => ?_⟩
    refine lc_list hys pr (by omega) (fun q => !decide (swap q ∈ cs)) hD ?_ ?_
    · intro q yv H18 acc hq hy e18 ha Qy Qn ky kn
      obtain ⟨t, rfl, ht⟩ := id hy
      walk_at "go"
      refine ⟨rfl, ?_⟩
      walk_at "go"
      refine ⟨Rd.szr rfl, fun t2 ht2 => ?_⟩
      have e19 := Ext.upd (H := H18) (o := .tup [.int q.2, .int q.1]) ht2
      walk_at "go"
      refine niP ((S.hc.ext e18).ext e19) (q := swap q) ⟨t2, rfl, upd_same⟩ fun cc hcc => ?_
      walk_at "go"
      cases cc with
      | true =>
        walk_at "go"
        exact ky _ e19 (by rw [decide_eq_false (hcc.mp rfl)]; rfl)
      | false => exact kn _ e19 (by
          by_cases z : swap q ∈ cs
          · rw [decide_eq_true z]; rfl
          · have := hcc.mpr z; cases this)
    intro H18 e18 h18
    walk_at "go"
    refine ⟨Rd.szr rfl, fun o3 ho3 => ?_⟩
    have e19 := Ext.upd (H := H18) (o := .lst []) ho3
    refine Rd.eqD encP_ok.list (dp_pl (h18.ext e19)) (show Dp K _ (.ref o3) (.list (([] : List Pr).map encP)) from .lst (SqL.of upd_same) .nil) ?_
    have S := (S.ext e18).ext e19
    walk_at "go"
    refine ne_go (same_bl hb1 ?_) ?_
    · rw [decide_eq_true_iff, List.filter_eq_nil_iff]
      constructor
      · intro h
        have half : ∀ p, nn p → setOf cs r p → setOf cs r (swap p) := fun p hp hm => by
          have := h _ hm
          rw [Bool.not_eq_true', decide_eq_false_iff_not, Classical.not_not, ← core_swap p (show (0 : Int) ≤ (r : Nat) by omega)] at this
          exact this
        exact fun p hp => ⟨half p hp, fun hm => by have := half (swap p) (nn_swap.mpr hp) hm; rw [swap_swap] at this; exact this⟩
      · intro h q hq
        have hC := ics q hq
        rw [Bool.not_eq_true', decide_eq_false_iff_not, Classical.not_not]
        have := (h q hC.1).mp (by show core q (r : Nat) ∈ cs; rw [core_isC hC]; exact hq)
        have this : core (swap q) (r : Nat) ∈ cs := this
        rw [core_isC (isC_swap.mpr hC)] at this
        exact this
    walk_at "go"
    exact ⟨_, _, _, _, _, _, _, _, _, _, _, _, _, rfl, SqL.later hS np e1 S.lt⟩
end
end Lv

set_option Elab.async false
set_option linter.all false
set_option maxRecDepth 100000
set_option maxHeartbeats 0
/-! The top's run. -/
namespace Lv
open PySem PySem.Spec PyProof.Rows L2 OwX
abbrev R : PySem.W.OpenRow := PySem.W.OpenLaw.row PySem.Challenge.rw_levelcascades_k56_least_and_flipped_sets
abbrev hk : PySem.W.Hook := HeZ.hookZ 5 fb fn tf
def ob (s : PySem.W.SharedT) : HeZ.AlZ := HeZ.obsZ 5 fb fn tf (HandSHeadRun.getT s)
theorem ob_eq (s : PySem.W.SharedT) : ob s = hk.obs s.abs := HeZ.obsZ_eq (HandSHeadRun.getT_eq s)
theorem run (w : World) : HandSHeadRun.RunEq R (PySem.W.view R.prog [lawAt]) hk ob 8000 names w := by
  intro os
  kernel_rfl
end Lv

set_option Elab.async false
set_option linter.all false
set_option maxRecDepth 100000
set_option maxHeartbeats 0
/-! The law holds. -/
namespace Lv
open PySem PySem.Spec PyProof.Rows L2 OwX
theorem no_exc (P : Program) (w : World) (H : Hp) (s : Shared) (e : Value) (s' : Shared) (h : L2.CX P w [] H s (fun _ _ _ => False) e s') : False := by
  obtain ⟨_, _, _, _, _, _, _, _, _, _, _, _, z⟩ := h
  exact z
theorem facts {w : World} {K : PySem.W.Frag} {h : Heap} {mg : Str → Option Value} {f : Addr} (X : K.In h) (G : h.Ns mainGlobals mg) (hfa : mg ("law" : Str) = some (.ref f)) (c : HeZ.SaysZ fb fn tf h K) : LamX.LawAtS PySem.Challenge.rw_levelcascades_k56_least_and_flipped_sets w K (L2.CX (PySem.Challenge.rw_levelcascades_k56_least_and_flipped_sets).prog w) 40 63 "script" mg f h := by
  have T : Tx K mg := ⟨h, X, G, c⟩
  obtain ⟨fd, F⟩ := T.d_law
  have e := hfa.symm.trans T.g_law
  cases e
  have b := FunD.bindsA (ps := ["script"]) F fun _ _ _ _ _ _ us hl => match us, hl with | [_], _ => rfl
  exact ⟨fd, [], sp_law K, by simp, by simp, by simp, fun s v => b s [v] rfl, fun H a ns hl hb _ hS => ⟨a, ns, rfl, hS, hl, hb, fun _ => rfl⟩, fun base _ _ _ => ok_law T F⟩
end Lv
open PySem PySem.W PySem.Calls PyProof.Rows
theorem PySem.Challenge.cw_levelcascades_k56_least_and_flipped_sets_holds : PySem.Challenge.rw_levelcascades_k56_least_and_flipped_sets.Holds := by
  w_on; o_law
  refine HandSHeadRun.head_any (r := OpenLaw.row PySem.Challenge.rw_levelcascades_k56_least_and_flipped_sets) (q := view (OpenLaw.row PySem.Challenge.rw_levelcascades_k56_least_and_flipped_sets).prog [Lv.lawAt]) (H := Lv.hk) (ob := Lv.ob) (M := 8000) (loose := Lv.names) (d := HandSHeadRun.topDef (OpenLaw.row PySem.Challenge.rw_levelcascades_k56_least_and_flipped_sets).prog Lv.lawAt) (kwd := []) Lv.ob_eq
    (by kernel_rfl) (fun s => by kernel_rfl) Lv.run (by kernel_rfl) (by kernel_rfl) (by kernel_rfl) (by rfl) (by first | assumption | decide +kernel) (by decide +kernel) ⟨rfl, rfl, rfl, rfl, rfl, by decide +kernel⟩ ?hw ?hc
  case hw => w_witness2
  case hc =>
    refine LamX.walk_ofTsE (l := PySem.Challenge.rw_levelcascades_k56_least_and_flipped_sets) (n := 63) (k := 40) (x := "script") (CX := fun w => L2.CX (PySem.Challenge.rw_levelcascades_k56_least_and_flipped_sets).prog w) rfl (by decide) (by kernel_rfl) ⟨rfl, by decide, by decide⟩ ?F (fun w H s e s' h => Lv.no_exc _ _ H s e s' h)
    intro w mg fa h Y G hmg0
    obtain ⟨K, KX, c⟩ := Y
    have hmg : mg ("law" : PySem.Str) = some (.ref fa) := by
      have e : (HandSHeadRun.topDef (OpenLaw.row PySem.Challenge.rw_levelcascades_k56_least_and_flipped_sets).prog Lv.lawAt).name = ("law" : PySem.Str) := by kernel_rfl
      rw [← e]
      exact hmg0
    exact ⟨K, KX, Lv.facts KX G hmg c⟩

