import PyProof.Rows.All
import Wide.All
import OpenK.AllK
import Wide.FinOn
import KE.KStateDown
import HandS.ForMost
import HandS.ForExc
import HandS.Evl
import HandS.Slots
import HandS.SlotsOwn
import HandS.Property
import HandS.Star
import HandS.Wide
import HandS.IsInst
import HandS.Defaults
import HandS.TupAny
import HandS.TupMul
import HandS.Conv
import HandS.HeadHook1
import HandS.HeadHook2
import HandS.HeadHook3
import HandS.HeadHook4
import HandS.Head0
import HandS.Head1
import HandS.Head2
import HandS.HeadWalk
import HandS.Words
import PySem.Challenge.RW_clerkblurs_k17_finer_clerks
set_option Elab.async false
set_option linter.all false
set_option maxRecDepth 100000
set_option maxHeartbeats 0
/-! GB: short judgements for defs, classes, methods, properties; the stepper; extensions of heaps. -/
namespace GB
open PySem PySem.Spec PyProof.Rows L2 Evl

abbrev Frag := PySem.W.Frag
/-- the fixed part: program, world, written part, the module's names, the base -/
structure En where
  P : Program
  w : World
  K : Frag
  mg : Str → Option Value
  base : Heap
abbrev En.ga (N : En) (x : Str) : Addr := He.ga N.K x
abbrev En.ma (N : En) (C m : Str) : Addr := He.ma N.K (He.ga N.K C) m
def Fr (N : En) (k : Nat) (f : Addr) (sp : Sp) : Prop := FnR N.P N.w N.K N.mg N.base (L2.CX N.P N.w) k f sp
/-- a def of the module -/
structure Dn (N : En) (k : Nat) (x : Str) (sp : Sp) : Prop where
  fn : Fr N k (N.ga x) sp
  g : N.mg x = some (.ref (N.ga x))
  kp : PySem.W.keepIn N.K (.ref (N.ga x)) = true
/-- a method -/
structure Dm (N : En) (k : Nat) (C m : Str) (sp : Sp) : Prop where
  fn : Fr N k (N.ma C m) sp
  m : Meth N.K (N.ga C) m (N.ma C m)
  c : Cls N.K (N.ga C)
/-- a property -/
structure Dp (N : En) (k : Nat) (C f : Str) (sp : Sp) : Prop where
  pr : ∃ g, PropOf N.K (N.ga C) f (N.ma C f) g ∧ Fr N k g sp
  c : Cls N.K (N.ga C)
/-- C(..) -/
structure Dc (N : En) (k : Nat) (C : Str) (sp : Sp) : Prop where
  mkr : ∃ spI, Mk N.K (N.ga C) (N.ma C "__init__") ∧ Fr N k (N.ma C "__init__") spI ∧ ∀ vs H Q E, sp vs H Q E → ∀ x dx, H x = Option.none → H dx = Option.none → dx ≠ x →
    spI (V.ref x :: vs) (upd (upd H dx (.own x)) x (.ins (N.ga C) dx [])) (fun v H2 => v = .non ∧ Q (.ref x) H2) E
  g : N.mg C = some (.ref (N.ga C))

/-- the context's fixed part -/
def En.of (X : Cx) : En := ⟨X.prog, X.w, X.K, X.mg, X.base⟩
section
variable {X : Cx} {k : Nat} {f C m x : Str} {sp : Sp} {E : XK} {e o : Expr} {es : List Expr} {ta : TE} {t : TA} {p pos apos : Pos}
/-- a call of a def: its promise at the arguments -/
def tD (sp : Sp) (E : XK) (t : TA) : TE := fun σ H Q => t σ H fun vs H1 => sp vs H1 Q E
theorem pe_d (D : Dn (En.of X) k x sp) (hr : Room k X.A) (hg : Gl X x) (hx : Passes (L2.CX X.prog X.w) X E) (ha : PA X (e :: es) t)
    (hdb : (x == ("__debug__" : Str)) = false := by decide) (he : starEach (e :: es) X.env = (false, eval e X.env) :: starEach es X.env := by rfl) (hpl : (backTo pos (starEach es X.env)).any (·.1) = false := by rfl) :
    PE X (.Call (.Name x p) (e :: es) [] pos) (tD sp E t) := by
  refine ⟨fun pins s σ H Q I h => ?_⟩
  refine wpAny_Call_Name_kw (ld_glob I hg D.g ?_ hdb)
  refine PySem.W.callWith_K (h₀ := X.base) I.ok.mod.kin D.kp (thn (ha.run pos pins s σ H _ I h) fun us s1 ⟨vs, H1, I1, r, q⟩ => ⟨I1.kIn, ?_⟩) he hpl
  exact wpAny_call (run_fnR D.fn hr hx I1 r q)
theorem pe_d0 (D : Dn (En.of X) k x sp) (hr : Room k X.A) (hg : Gl X x) (hx : Passes (L2.CX X.prog X.w) X E)
    (hdb : (x == ("__debug__" : Str)) = false := by decide) : PE X (.Call (.Name x p) [] [] pos) (tD sp E tNil) := by
  refine ⟨fun pins s σ H Q I h => ?_⟩
  refine wpAny_Call_Name_kw (ld_glob I hg D.g ?_ hdb)
  exact PySem.W.callWith_K0 I.kIn D.kp (wpAny_call (run_fnR (us := []) D.fn hr hx I .nil h))
theorem pe_c (D : Dc (En.of X) k C sp) (hr : Room (k + 1) X.A) (hg : Gl X C) (hx : Passes (L2.CX X.prog X.w) X E) (ha : PA X (e :: es) t)
    (hdb : (C == ("__debug__" : Str)) = false := by decide) (he : starEach (e :: es) X.env = (false, eval e X.env) :: starEach es X.env := by rfl) (hpl : (backTo pos (starEach es X.env)).any (·.1) = false := by rfl) :
    PE X (.Call (.Name C p) (e :: es) [] pos) (tD sp E t) := by
  obtain ⟨spI, M, F, imp⟩ := D.mkr
  refine ⟨fun pins s σ H Q I h => ?_⟩
  refine wpAny_Call_Name_kw (ld_glob I hg D.g ?_ hdb)
  refine PySem.W.callWith_K (h₀ := X.base) I.ok.mod.kin M.kp (thn (ha.run pos pins s σ H _ I h) fun us s1 ⟨vs, H1, I1, r, q⟩ => ⟨I1.kIn, ?_⟩) he hpl
  exact StX.run_makeR M F hr hx I1 r fun x dx h1 h2 h3 => imp _ _ _ _ q x dx h1 h2 h3
/-- o.m(e, ..) -/
def tMe (C : Addr) (m : Str) (sp : Sp) (E : XK) (ta : TE) (t : TA) : TE := fun σ H Q => ta σ H fun x H1 => ∃ a dx fs, x = .ref a ∧ H1 a = some (.ins C dx fs) ∧ fs.lookup m = Option.none ∧ t σ H1 fun vs H2 => sp (x :: vs) H2 Q E
theorem pe_m {pl : Sem Bool} (he : PE X o ta) (D : Dm (En.of X) k C m sp) (hr : Room k X.A) (hx : Passes (L2.CX X.prog X.w) X E) (ha : PA X (e :: es) t)
    (hst : starEach (e :: es) X.env = (false, eval e X.env) :: starEach es X.env := by rfl) (hpl : (backTo pos (starEach es X.env)).any (·.1) = false := by rfl)
    (ht : eval (.Call (.Attribute o m apos) (e :: es) [] pos) X.env = (do
      let ov ← eval o X.env
      standAt apos.atName
      let (f, first) ← holding [ov] (getMethod ov m pl)
      callWith pos f first (backTo pos (starEach (e :: es) X.env)) (backToKw pos (keywordEach [] X.env))) := by rfl) :
    PE X (.Call (.Attribute o m apos) (e :: es) [] pos) (tMe (He.ga X.K C) m sp E ta t) := by
  refine ⟨fun pins s σ H Q I h => ?_⟩
  refine PySem.W.methodCall_KW (pl := pl) (thn (he.run pins s σ H _ I h) fun u s1 ⟨x, H1, I1, rx, a, dx, fs, ex, ea, l, q⟩ => ?_) ht
  subst ex
  obtain rfl : u = Value.ref a := rx
  refine getmeth_ok I1 ea D.c D.m l ?_
  refine PySem.W.callWith_K (first := [.ref a]) (h₀ := X.base) I.ok.mod.kin D.m.kp (thn (ha.run pos pins s1 σ H1 _ I1 q) fun us s2 ⟨vs, H2, I2, r, q2⟩ => ⟨I2.kIn, ?_⟩) hst hpl
  exact wpAny_call (run_fnR (us := .ref a :: us) (vs := .ref a :: vs) D.fn hr hx I2 (.cons rfl r) q2)
theorem pe_m0 {pl : Sem Bool} (he : PE X o ta) (D : Dm (En.of X) k C m sp) (hr : Room k X.A) (hx : Passes (L2.CX X.prog X.w) X E)
    (ht : eval (.Call (.Attribute o m apos) [] [] pos) X.env = (do
      let ov ← eval o X.env
      standAt apos.atName
      let (f, first) ← holding [ov] (getMethod ov m pl)
      callWith pos f first (backTo pos (starEach [] X.env)) (backToKw pos (keywordEach [] X.env))) := by rfl) :
    PE X (.Call (.Attribute o m apos) [] [] pos) (tMe (He.ga X.K C) m sp E ta tNil) := by
  refine ⟨fun pins s σ H Q I h => ?_⟩
  refine PySem.W.methodCall_KW (pl := pl) (thn (he.run pins s σ H _ I h) fun u s1 ⟨x, H1, I1, rx, a, dx, fs, ex, ea, l, q⟩ => ?_) ht
  subst ex
  obtain rfl : u = Value.ref a := rx
  refine getmeth_ok I1 ea D.c D.m l ?_
  exact PySem.W.callWith_K0 (first := [.ref a]) I1.kIn D.m.kp (wpAny_call (run_fnR (us := [.ref a]) (vs := [.ref a]) D.fn hr hx I1 (.cons rfl .nil) q))
/-- f(e, ..), f an instance -/
def tCI (C : Addr) (sp : Sp) (E : XK) (tf : TE) (t : TA) : TE := fun σ H Q => tf σ H fun y H1 => ∃ a, y = V.ref a ∧ t σ H1 fun vs H2 => (∃ dx fs, H2 a = some (.ins C dx fs)) ∧ sp (V.ref a :: vs) H2 Q E
theorem pe_ci {fe : Expr} {tf : TE} (hf : PE X fe tf) (D : Dm (En.of X) k C "__call__" sp) (hfi : PySem.W.fnIn X.K (He.ma X.K (He.ga X.K C) "__call__") = true) (hr : Room k X.A) (hx : Passes (L2.CX X.prog X.w) X E) (ha : PA X (e :: es) t)
    (ht : eval (.Call fe (e :: es) [] pos) X.env = (do callWith pos (← eval fe X.env) [] (backTo pos (starEach (e :: es) X.env)) (backToKw pos (keywordEach [] X.env))) := by rfl)
    (he : starEach (e :: es) X.env = (false, eval e X.env) :: starEach es X.env := by rfl) (hpl : (backTo pos (starEach es X.env)).any (·.1) = false := by rfl) : PE X (.Call fe (e :: es) [] pos) (tCI (He.ga X.K C) sp E tf t) := by
  refine ⟨fun pins s σ H Q I h => ?_⟩
  refine Call_ (thn (hf.run pins s σ H _ I h) fun u s1 ⟨y, H1, I1, ry, a, ey, q⟩ => ?_) ht
  subst ey
  obtain rfl : u = Value.ref a := ry
  refine StX.callO_with (thn (ha.run pos pins s1 σ H1 _ I1 q) fun us s2 ⟨vs, H2, I2, r, hi, q2⟩ => ?_) he hpl
  obtain ⟨ox, od, J, hd⟩ := StX.insC_at I2 (.inr hi)
  exact ⟨⟨He.ga X.K C, ox, od, J, hd⟩, StX.run_callO (C := He.ga X.K C) ⟨D.m.at_, D.m.fn, hfi⟩ D.fn hr hx I2 (.inr hi) r q2⟩
/-- e.f, a property -/
def tPr (C : Addr) (sp : Sp) (E : XK) (ta : TE) : TE := fun σ H Q => ta σ H fun x H1 => ∃ a dx fs, x = .ref a ∧ H1 a = some (.ins C dx fs) ∧ sp [.ref a] H1 Q E
theorem pe_p (he : PE X e ta) (D : Dp (En.of X) k C f sp) (hr : Room (k + 1) X.A) (hx : Passes (L2.CX X.prog X.w) X.nox E) (hab : attributeBase e f X.env (eval e X.env) = eval e X.env := by rfl) : PE X (.Attribute e f pos) (tPr (He.ga X.K C) sp E ta) := by
  refine ⟨fun pins s σ H Q I h => ?_⟩
  refine attr_of hab (thn (he.run pins s σ H _ I h) fun u s1 ⟨x, H1, I1, rx, a, dx, fs, ex, ea, q⟩ => ?_)
  subst ex
  obtain rfl : u = Value.ref a := rx
  obtain ⟨g, pr, F⟩ := D.pr
  obtain ⟨mA, O, _⟩ := ins_get I1.hok ea
  obtain ⟨od, J, _⟩ := O.look
  obtain ⟨rest, hrec⟩ := pr.rec_
  have I2 := I1.tok (s1.toks + 1)
  have hc : (PySem.W.clsIn X.K (He.ga X.K C)).isSome = true := by
    obtain ⟨cd, hc, _⟩ := PySem.W.any_some D.c.hd
    have hc' : PySem.W.clsIn X.K (He.ga X.K C) = some cd := hc
    rw [hc']; rfl
  refine PySem.W.get_bind I1.kIn J (PySem.W.plainGet_of (D.c.get f)).1 (PySem.W.findObj_data hc pr.at_ pr.get pr.tak) (PySem.W.plainGet_of (D.c.get f)).2 (wpAny_call (PySem.W.prop_get (s := { s1 with toks := s1.toks + 1 }) I1.kIn hrec ?_))
  refine codeAny_mono (F X.A.in1 X.stack { s1 with toks := s1.toks + 1 } H1 [.ref a] [.ref a] Q E hr.in1 I2.env0.in1 (.cons rfl .nil) q) fun r s' hq => ?_
  cases r with
  | error er => exact False.elim (hx pins σ H1 { s1 with toks := s1.toks + 1 } er s' (I2.wish _) hq)
  | ok fl =>
    cases fl with
    | ret u =>
      obtain ⟨v, H', I3, rv, q3⟩ := I2.after hq
      exact wpAny_of_eq (PySem.W.handedOut_of (handed_of rv)) ⟨v, H', I3, rv, q3⟩
    | next => exact False.elim hq
    | brk => exact False.elim hq
    | cont => exact False.elim hq

/-! ### operators of one's own -/
/-- x op y: the def of x's class -/
def rOp (C : Addr) (sp : Sp) (E : XK) : R2 := fun x y H Q => ∃ a dx fs b dy gs, x = .ref a ∧ y = .ref b ∧ H a = some (.ins C dx fs) ∧ H b = some (.ins C dy gs) ∧ sp [x, y] H Q E
theorem op_bin {op : Operator} (D : Dm (En.of X) k C (PySem.dunder op.info.2) sp) (hc : PySem.W.selfFirst X.K (He.ga X.K C) = true) (hr : Room k X.A) (hx : Passes (L2.CX X.prog X.w) X E) : OpR X (binaryOp op) (rOp (He.ga X.K C) sp E) := by
  intro pins s σ H x y v u Q I rx ry h
  obtain ⟨a, dx, fs, b, dy, gs, rfl, rfl, ha, hb, q⟩ := h
  cases (show v = Value.ref a from rx)
  cases (show u = Value.ref b from ry)
  obtain ⟨mA, J, _⟩ := ins_get I.hok ha
  obtain ⟨mB, J', _⟩ := ins_get I.hok hb
  obtain ⟨od, J, _⟩ := J.look
  obtain ⟨od', J', _⟩ := J'.look
  obtain ⟨m, hF⟩ := I.fr
  refine PySem.W.binop_K hF I.ok.mod.kin J J'.type hc D.m.at_ D.m.fn ?_
  refine wpAny_mono (wpAny_call (run_fnR (us := [.ref a, .ref b]) (vs := [.ref a, .ref b]) D.fn hr hx I (.cons rfl (.cons rfl .nil)) q)) (fun w s' z => ?_) fun _ _ x => x
  obtain ⟨z', H', I', rz, qz⟩ := z
  exact SlX.cmpback rz ⟨z', H', I', rz, qz⟩
/-- x == y by an own __eq__; y any value whose type is told -/
def rEqO (K : Frag) (C : Addr) (sp : Sp) (E : XK) : R2 := fun x y H Q => ∃ a dx fs b dy gs, x = .ref a ∧ y = .ref b ∧ H a = some (.ins C dx fs) ∧ H b = some (.ins C dy gs) ∧ sp [x, y] H Q E
theorem op_eqO (D : Dm (En.of X) k C "__eq__" sp) (hr : Room k X.A) (hx : Passes (L2.CX X.prog X.w) X E) : OpR X (compareOp .Eq) (rEqO X.K (He.ga X.K C) sp E) := by
  intro pins s σ H x y v u Q I rx ry h
  obtain ⟨a, dx, fs, b, dy, gs, rfl, rfl, ha, hb, q⟩ := h
  cases (show v = Value.ref a from rx)
  cases (show u = Value.ref b from ry)
  obtain ⟨mA, J, _⟩ := ins_get I.hok ha
  obtain ⟨mB, J', _⟩ := ins_get I.hok hb
  obtain ⟨od, J, _⟩ := J.look
  obtain ⟨od', J', _⟩ := J'.look
  obtain ⟨m, hF⟩ := I.fr
  show wpAny _ _ (richCompare .Eq _ _) _ _ _
  refine PySem.W.cmp_K (op := .Eq) (tb := .ref (He.ga X.K C)) hr.units0 hF I.ok.mod.kin J J'.type (by simp [PySem.W.notFirst]) D.m.at_ D.m.fn ?_
  refine wpAny_mono (wpAny_call (run_fnR (us := [.ref a, .ref b]) (vs := [.ref a, .ref b]) D.fn hr hx I (.cons rfl (.cons rfl .nil)) q)) (fun w s' z => ?_) fun _ _ x => x
  obtain ⟨z', H', I', rz, qz⟩ := z
  exact SlX.cmpback rz ⟨z', H', I', rz, qz⟩
theorem op_pow9 : OpR X (binaryOp .Pow) (rI (fun i j => 0 ≤ j ∧ (Builtin.Int.intBits i : Int) * j ≤ 2 ^ 27) fun i j => .int (i ^ j.toNat)) := opI fun _ _ _ _ _ _ _ hc q => pow_int hc.1 hc.2 q
end
end GB

/-! GE: what an expression gives, as a set of Lean values under a representation; the heap only grows, but for the dice. -/
namespace GE
open PySem PySem.Spec PyProof.Rows L2 GB

abbrev Frag := PySem.W.Frag
/-- the dice, where there are some -/
def DiceM : Option Addr → Hp → Prop
  | none, _ => True
  | some d, H => ∃ a b c : Int, H d = some (.lst [.int a, .int b, .int c])
structure Xt (M : Option Addr) (H H' : Hp) : Prop where
  keep : ∀ a o, M ≠ some a → H a = some o → H' a = some o
  dice : DiceM M H'
theorem Xt.refl {M H} (d : DiceM M H) : Xt M H H := ⟨fun _ _ _ h => h, d⟩
theorem Xt.trans {M H H1 H2} (a : Xt M H H1) (b : Xt M H1 H2) : Xt M H H2 := ⟨fun x o n h => b.keep x o n (a.keep x o n h), b.dice⟩
theorem ne_dice {M : Option Addr} {H : Hp} {p : Addr} (d : DiceM M H) (hp : H p = none) : M ≠ some p := by
  rintro rfl
  obtain ⟨a, b, c, e⟩ := d
  rw [hp] at e; cases e
theorem Xt.new {M : Option Addr} {H : Hp} {p : Addr} {o : HO} (d : DiceM M H) (hp : H p = none) : Xt M H (upd H p o) := by
  have n := ne_dice d hp
  refine ⟨fun a u _ e => by rw [upd_ne (ne_of_none e hp)]; exact e, ?_⟩
  cases M with
  | none => trivial
  | some d' =>
    obtain ⟨a, b, c, e⟩ := d
    exact ⟨a, b, c, by rw [upd_ne (ne_of_none e hp)]; exact e⟩
theorem Xt.of_same {M : Option Addr} {H H' : Hp} (d : DiceM M H) (h : ∀ a o, H a = some o → H' a = some o) : Xt M H H' := by
  refine ⟨fun a o _ e => h a o e, ?_⟩
  cases M with
  | none => trivial
  | some d' => obtain ⟨a, b, c, e⟩ := d; exact ⟨a, b, c, h _ _ e⟩

/-! ### representations -/
abbrev Rp (α : Type) := α → V → Hp → Prop
class Mo (M : Option Addr) {α : Type} (R : Rp α) : Prop where
  up : ∀ {x v H H'}, Xt M H H' → R x v H → R x v H'
def RI : Rp Int := fun i v _ => v = .int i
def RB : Rp Bool := fun b v _ => v = .bl b
def RN : Rp Unit := fun _ v _ => v = .non
def RS : Rp Str := fun s v _ => v = .str s
/-- any value at all, itself -/
def RV : Rp V := fun x v _ => v = x
def ROpt {α} (R : Rp α) : Rp (Option α) := fun o v H => match o with
  | none => v = .non
  | some x => R x v H
/-- a tuple, a list: items by a representation of lists of values -/
abbrev Rs (α : Type) := α → List V → Hp → Prop
class Mos (M : Option Addr) {α : Type} (R : Rs α) : Prop where
  up : ∀ {x v H H'}, Xt M H H' → R x v H → R x v H'
def All {α} (R : Rp α) : Rs (List α) := fun l vs H => Paired (fun x v => R x v H) l vs
def Nil : Rs Unit := fun _ vs _ => vs = []
def Cons {α β} (R : Rp α) (S : Rs β) : Rs (α × β) := fun p vs H => ∃ v r, vs = v :: r ∧ R p.1 v H ∧ S p.2 r H
def RT (M : Option Addr) {α} (R : Rs α) : Rp α := fun x v H => ∃ a vs, v = .ref a ∧ M ≠ some a ∧ H a = some (.tup vs) ∧ R x vs H
def RL (M : Option Addr) {α} (R : Rs α) : Rp α := fun x v H => ∃ a vs, v = .ref a ∧ M ≠ some a ∧ H a = some (.lst vs) ∧ R x vs H
/-- an instance of the class at C with attributes as told -/
def RO (M : Option Addr) (C : Addr) {α} (F : α → List (Str × V) → Hp → Prop) : Rp α := fun x v H => ∃ a dx fs, v = .ref a ∧ M ≠ some a ∧ H a = some (.ins C dx fs) ∧ F x fs H
section
variable {M : Option Addr} {α β : Type}
instance : Mo M RI := ⟨fun _ h => h⟩
instance : Mo M RB := ⟨fun _ h => h⟩
instance : Mo M RN := ⟨fun _ h => h⟩
instance : Mo M RS := ⟨fun _ h => h⟩
instance : Mo M RV := ⟨fun _ h => h⟩
instance {R : Rp α} [Mo M R] : Mo M (ROpt R) := ⟨fun {o v H H'} e h => by
  cases o with
  | none => exact h
  | some x => exact Mo.up (M := M) (R := R) e h⟩
theorem paired_imp {γ δ : Type} {F G : γ → δ → Prop} (h : ∀ x y, F x y → G x y) : ∀ {l : List γ} {r : List δ}, Paired F l r → Paired G l r
  | _, _, .nil => .nil
  | _, _, .cons a b => .cons (h _ _ a) (paired_imp h b)
instance {R : Rp α} [Mo M R] : Mos M (All R) := ⟨fun e h => paired_imp (fun _ _ z => Mo.up (M := M) (R := R) e z) h⟩
instance : Mos M Nil := ⟨fun _ h => h⟩
instance {R : Rp α} {S : Rs β} [Mo M R] [Mos M S] : Mos M (Cons R S) := ⟨fun e ⟨v, r, h1, h2, h3⟩ => ⟨v, r, h1, Mo.up (M := M) (R := R) e h2, Mos.up (M := M) (R := S) e h3⟩⟩
instance {R : Rs α} [Mos M R] : Mo M (RT M R) := ⟨fun e ⟨a, vs, h1, h2, h3, h4⟩ => ⟨a, vs, h1, h2, e.keep _ _ h2 h3, Mos.up (M := M) (R := R) e h4⟩⟩
instance {R : Rs α} [Mos M R] : Mo M (RL M R) := ⟨fun e ⟨a, vs, h1, h2, h3, h4⟩ => ⟨a, vs, h1, h2, e.keep _ _ h2 h3, Mos.up (M := M) (R := R) e h4⟩⟩
theorem up {R : Rp α} [Mo M R] {x v H H'} (h : R x v H) (e : Xt M H H') : R x v H' := Mo.up (M := M) e h
end
/-- a tuple of ints -/
abbrev RTI (M : Option Addr) : Rp (List Int) := RT M (All RI)
abbrev RLI (M : Option Addr) : Rp (List Int) := RL M (All RI)

/-! ### what is given -/
abbrev St := L2.St
/-- te gives, under R, one of the values of S; the heap only grows -/
def Ev (M : Option Addr) (te : TE) (σ : St) (H : Hp) {α : Type} (R : Rp α) (S : α → Prop) : Prop :=
  ∀ H1, Xt M H H1 → ∀ Q : VK, (∀ v x H2, Xt M H1 H2 → S x → R x v H2 → Q v H2) → te σ H1 Q
def EvT (M : Option Addr) (t : TT) (σ : St) (H : Hp) (S : Bool → Prop) : Prop :=
  ∀ H1, Xt M H H1 → ∀ Q : Bool → Hp → Prop, (∀ b H2, Xt M H1 H2 → S b → Q b H2) → t σ H1 Q
def EvA (M : Option Addr) (t : TA) (σ : St) (H : Hp) {α : Type} (R : Rs α) (S : α → Prop) : Prop :=
  ∀ H1, Xt M H H1 → ∀ Q : List V → Hp → Prop, (∀ vs x H2, Xt M H1 H2 → S x → R x vs H2 → Q vs H2) → t σ H1 Q
/-- an operation on values -/
def Op2 (M : Option Addr) (r : R2) {α β γ : Type} (R : Rp α) (R' : Rp β) (R'' : Rp γ) (f : α → β → γ → Prop) (pre : α → β → Prop) : Prop :=
  ∀ x y v u H, DiceM M H → R x v H → R' y u H → pre x y → ∀ Q : VK, (∀ w z H2, Xt M H H2 → f x y z → R'' z w H2 → Q w H2) → r v u H Q
def Cl (M : Option Addr) (r : List V → Hp → VK → Prop) {α γ : Type} (R : Rs α) (R'' : Rp γ) (f : α → γ → Prop) (pre : α → Prop) : Prop :=
  ∀ x vs H, DiceM M H → R x vs H → pre x → ∀ Q : VK, (∀ w z H2, Xt M H H2 → f x z → R'' z w H2 → Q w H2) → r vs H Q
abbrev Eq1 {α : Type} (x : α) : α → Prop := fun y => y = x
section
variable {M : Option Addr} {σ : St} {H : Hp} {te ta tb tc : TE} {t u : TT} {α β γ : Type} {R : Rp α} {R' : Rp β} {R'' : Rp γ} {A : α → Prop} {B : β → Prop} {C : γ → Prop} {i : Nat}
theorem Ev.imp {A' : α → Prop} (h : Ev M te σ H R A) (k : ∀ x, A x → A' x) : Ev M te σ H R A' := fun H1 e Q q => h H1 e Q fun v x H2 e2 a r => q v x H2 e2 (k x a) r
theorem Ev.to {x y : α} (h : Ev M te σ H R (Eq1 x)) (k : x = y) : Ev M te σ H R (Eq1 y) := k ▸ h
theorem Ev.mono {H' : Hp} (h : Ev M te σ H R A) (e : Xt M H H') : Ev M te σ H' R A := fun H1 e1 Q q => h H1 (e.trans e1) Q q
theorem EvT.imp {A A' : Bool → Prop} (h : EvT M t σ H A) (k : ∀ x, A x → A' x) : EvT M t σ H A' := fun H1 e Q q => h H1 e Q fun x H2 e2 a => q x H2 e2 (k x a)
theorem ev_var [Mo M R] {v : V} {x : α} (h : σ[i]? = some (some v)) (r : R x v H) : Ev M (tVar i) σ H R (Eq1 x) := fun H1 e Q q => ⟨v, h, q v x H1 (.refl e.dice) rfl (Mo.up (M := M) e r)⟩
theorem ev_c {v : V} {x : α} (h : ∀ H, R x v H) : Ev M (tC v) σ H R (Eq1 x) := fun H1 e Q q => q v x H1 (.refl e.dice) rfl (h H1)
theorem ev_int {z : Int} : Ev M (tC (.int z)) σ H RI (Eq1 z) := ev_c fun _ => rfl
theorem ev_bl {z : Bool} : Ev M (tC (.bl z)) σ H RB (Eq1 z) := ev_c fun _ => rfl
theorem ev_non : Ev M (tC .non) σ H RN (Eq1 ()) := ev_c fun _ => rfl
theorem ev_str {z : Str} : Ev M (tC (.str z)) σ H RS (Eq1 z) := ev_c fun _ => rfl
/-- two operands -/
theorem ev_op [Mo M R] {r : R2} {f : α → β → γ → Prop} {pre : α → β → Prop} (ho : Op2 M r R R' R'' f pre) (ha : Ev M ta σ H R A) (hb : Ev M tb σ H R' B) (hp : ∀ x y, A x → B y → pre x y) :
    Ev M (tOp r ta tb) σ H R'' (fun z => ∃ x, A x ∧ ∃ y, B y ∧ f x y z) := fun H1 e Q q =>
  ha H1 e _ fun v x H2 e2 a rx => hb H2 (e.trans e2) _ fun u y H3 e3 b ry =>
    ho x y v u H3 e3.dice (Mo.up (M := M) e3 rx) ry (hp x y a b) Q fun w z H4 e4 hz rz => q w z H4 ((e2.trans e3).trans e4) ⟨x, a, y, b, hz⟩ rz
/-- two operands, each one value; the result one value -/
theorem ev_op1 [Mo M R] {r : R2} {f : α → β → γ} {pre : α → β → Prop} {x : α} {y : β} (ho : Op2 M r R R' R'' (fun x y z => z = f x y) pre) (ha : Ev M ta σ H R (Eq1 x)) (hb : Ev M tb σ H R' (Eq1 y)) (hp : pre x y) :
    Ev M (tOp r ta tb) σ H R'' (Eq1 (f x y)) := (ev_op ho ha hb (by rintro _ _ rfl rfl; exact hp)).imp (by rintro z ⟨_, rfl, _, rfl, e⟩; exact e)
theorem ev_un {r : V → Hp → VK → Prop} {f : α → γ} (ho : ∀ x v H, R x v H → ∀ Q : VK, (∀ w, R'' (f x) w H → Q w H) → r v H Q) {x : α} (ha : Ev M ta σ H R (Eq1 x)) : Ev M (tUn r ta) σ H R'' (Eq1 (f x)) := fun H1 e Q q =>
  ha H1 e _ fun v x' H2 e2 a rx => ho x' v H2 rx Q fun w rw => q w _ H2 e2 (congrArg f a) rw
/-! arguments -/
theorem ea_nil : EvA M tNil σ H Nil (Eq1 ()) := fun H1 e Q q => q [] () H1 (.refl e.dice) rfl rfl
theorem ea_cons [Mo M R] {ts : TA} {S : Rs β} {B : β → Prop} (ha : Ev M ta σ H R A) (hb : EvA M ts σ H S B) : EvA M (tCons ta ts) σ H (Cons R S) (fun p => A p.1 ∧ B p.2) := fun H1 e Q q =>
  ha H1 e _ fun v x H2 e2 a rx => hb H2 (e.trans e2) _ fun vs y H3 e3 b ry => q (v :: vs) (x, y) H3 (e2.trans e3) ⟨a, b⟩ ⟨v, vs, rfl, Mo.up (M := M) e3 rx, ry⟩
theorem ea_one {x : α} (ha : Ev M ta σ H R A) : EvA M (tCons ta tNil) σ H (Cons R Nil) (fun p => A p.1) := fun H1 e Q q =>
  ha H1 e _ fun v x H2 e2 a rx => q [v] (x, ()) H2 e2 a ⟨v, [], rfl, rx, rfl⟩
/-- a call by values -/
theorem ev_cb {ts : TA} {S : Rs β} {r : List V → Hp → VK → Prop} {f : β → γ → Prop} {pre : β → Prop} (hc : Cl M r S R'' f pre) (ha : EvA M ts σ H S B) (hp : ∀ x, B x → pre x) : Ev M (tCB r ts) σ H R'' (fun z => ∃ x, B x ∧ f x z) := fun H1 e Q q =>
  ha H1 e _ fun vs x H2 e2 b rx => hc x vs H2 e2.dice rx (hp x b) Q fun w z H3 e3 hz rz => q w z H3 (e2.trans e3) ⟨x, b, hz⟩ rz
/-- a promise of a def, in standard form -/
def Fn (M : Option Addr) {α γ : Type} (S : Rs α) (R'' : Rp γ) (pre : α → Prop) (f : α → γ → Prop) : Sp := fun vs H Q _ =>
  ∃ x, DiceM M H ∧ S x vs H ∧ pre x ∧ ∀ w z H2, Xt M H H2 → f x z → R'' z w H2 → Q w H2
theorem ev_d {ts : TA} {S : Rs β} {sp : Sp} {E : XK} {f : β → γ → Prop} {pre : β → Prop} (hs : ∀ vs H Q E, Fn M S R'' pre f vs H Q E → sp vs H Q E) (ha : EvA M ts σ H S B) (hp : ∀ x, B x → pre x) : Ev M (tD sp E ts) σ H R'' (fun z => ∃ x, B x ∧ f x z) := fun H1 e Q q =>
  ha H1 e _ fun vs x H2 e2 b rx => hs _ _ _ _ ⟨x, e2.dice, rx, hp x b, fun w z H3 e3 hz rz => q w z H3 (e2.trans e3) ⟨x, b, hz⟩ rz⟩
/-! displays -/
theorem ev_tup {ts : TA} {S : Rs β} [Mos M S] (ha : EvA M ts σ H S B) (hl : ∀ x vs H, S x vs H → B x → vs.length ≤ sizeLine) : Ev M (tTup ts) σ H (RT M S) B := fun H1 e Q q =>
  ha H1 e _ fun vs x H2 e2 b rx => ⟨hl x vs H2 rx b, fun p hp => q _ x _ (e2.trans (.new e2.dice hp)) b ⟨p, vs, rfl, ne_dice e2.dice hp, upd_same, Mos.up (.new e2.dice hp) rx⟩⟩
theorem ev_lst {ts : TA} {S : Rs β} [Mos M S] (ha : EvA M ts σ H S B) (hl : ∀ x vs H, S x vs H → B x → vs.length ≤ sizeLine) : Ev M (tLst ts) σ H (RL M S) B := fun H1 e Q q =>
  ha H1 e _ fun vs x H2 e2 b rx => ⟨hl x vs H2 rx b, fun p hp => q _ x _ (e2.trans (.new e2.dice hp)) b ⟨p, vs, rfl, ne_dice e2.dice hp, upd_same, Mos.up (.new e2.dice hp) rx⟩⟩
/-! tests -/
theorem et_val {A : Bool → Prop} (h : Ev M te σ H RB A) : EvT M (tB te) σ H A := fun H1 e Q q => h H1 e _ fun v x H2 e2 a rx => ⟨x, rx, q x H2 e2 a⟩
theorem et_test {A : Bool → Prop} (h : Ev M te σ H RB A) : EvT M (tTest te) σ H A := fun H1 e Q q => h H1 e _ fun v x H2 e2 a rx => ⟨x, rx, q x H2 e2 a⟩
theorem et_not {a : Bool} (h : EvT M t σ H (Eq1 a)) : EvT M (tNot t) σ H (Eq1 (!a)) := fun H1 e Q q => h H1 e _ fun b H2 e2 hb => q _ H2 e2 (congrArg (!·) hb)
theorem et_and {a b : Bool} (h1 : EvT M t σ H (Eq1 a)) (h2 : a = true → EvT M u σ H (Eq1 b)) : EvT M (tAnd t u) σ H (Eq1 (a && b)) := fun H1 e Q q => h1 H1 e _ fun c H2 e2 hc => by
  subst hc
  cases c with
  | true => exact h2 rfl H2 (e.trans e2) _ fun d H3 e3 hd => q d H3 (e2.trans e3) hd
  | false => exact q false H2 e2 rfl
theorem et_or {a b : Bool} (h1 : EvT M t σ H (Eq1 a)) (h2 : a = false → EvT M u σ H (Eq1 b)) : EvT M (tOr t u) σ H (Eq1 (a || b)) := fun H1 e Q q => h1 H1 e _ fun c H2 e2 hc => by
  subst hc
  cases c with
  | false => exact h2 rfl H2 (e.trans e2) _ fun d H3 e3 hd => q d H3 (e2.trans e3) hd
  | true => exact q true H2 e2 rfl
theorem ev_and {a b : Bool} (h1 : Ev M ta σ H RB (Eq1 a)) (h2 : a = true → Ev M tb σ H RB (Eq1 b)) : Ev M (tAndV ta tb) σ H RB (Eq1 (a && b)) := fun H1 e Q q => h1 H1 e _ fun v c H2 e2 hc rc => by
  subst hc
  refine ⟨c, rc, ?_⟩
  cases c with
  | true => exact h2 rfl H2 (e.trans e2) _ fun w d H3 e3 hd rd => q w d H3 (e2.trans e3) hd rd
  | false => exact q _ false H2 e2 rfl rfl
theorem ev_or {a b : Bool} (h1 : Ev M ta σ H RB (Eq1 a)) (h2 : a = false → Ev M tb σ H RB (Eq1 b)) : Ev M (tOrV ta tb) σ H RB (Eq1 (a || b)) := fun H1 e Q q => h1 H1 e _ fun v c H2 e2 hc rc => by
  subst hc
  refine ⟨c, rc, ?_⟩
  cases c with
  | false => exact h2 rfl H2 (e.trans e2) _ fun w d H3 e3 hd rd => q w d H3 (e2.trans e3) hd rd
  | true => exact q _ true H2 e2 rfl rfl
theorem ev_notV {a : Bool} (h1 : Ev M ta σ H RB (Eq1 a)) : Ev M (tNotV ta) σ H RB (Eq1 (!a)) := fun H1 e Q q => h1 H1 e _ fun v c H2 e2 hc rc => ⟨c, rc, q _ _ H2 e2 (congrArg (!·) hc) rfl⟩
theorem ev_if {b : Bool} {A : α → Prop} (h : EvT M t σ H (Eq1 b)) (h1 : b = true → Ev M ta σ H R A) (h2 : b = false → Ev M tb σ H R A) : Ev M (tIf t ta tb) σ H R A := fun H1 e Q q => h H1 e _ fun c H2 e2 hc => by
  subst hc
  cases c with
  | true => exact h1 rfl H2 (e.trans e2) _ fun w d H3 e3 hd rd => q w d H3 (e2.trans e3) hd rd
  | false => exact h2 rfl H2 (e.trans e2) _ fun w d H3 e3 hd rd => q w d H3 (e2.trans e3) hd rd
/-! chains: a < b < c -/
/-! statements -/
variable {D : Ends} {ts tr : TS} {ta' : TA}
theorem q_set (d : DiceM M H) (h : Ev M te σ H R A) (k : ∀ v x H1, Xt M H H1 → A x → R x v H1 → ts D (σ.set i (some v)) H1) : tSeq (tAsg te (gName i)) ts D σ H := h H (.refl d) _ k
theorem q_ret (d : DiceM M H) (h : Ev M te σ H R A) (k : ∀ v x H1, Xt M H H1 → A x → R x v H1 → D.rt v H1) : tRet te D σ H := h H (.refl d) _ k
theorem q_drop (d : DiceM M H) (h : Ev M te σ H R A) (k : ∀ v x H1, Xt M H H1 → A x → R x v H1 → ts D σ H1) : tSeq (tDrop te) ts D σ H := h H (.refl d) _ k
theorem q_drop1 (d : DiceM M H) (h : Ev M te σ H R A) (k : ∀ v x H1, Xt M H H1 → A x → R x v H1 → D.nx σ H1) : tDrop te D σ H := h H (.refl d) _ k
theorem q_if {A : Bool → Prop} (d : DiceM M H) (h : EvT M t σ H A) (k1 : ∀ H1, Xt M H H1 → A true → ts D σ H1) (k2 : ∀ H1, Xt M H H1 → A false → tr D σ H1) : tIfS t ts tr D σ H := h H (.refl d) _ fun b H1 e a => by
  cases b with
  | true => exact k1 H1 e a
  | false => exact k2 H1 e a
theorem q_par {j : Nat} (d : DiceM M H) (h : EvA M ta' σ H (Cons R (Cons R' Nil)) (fun p => A p.1 ∧ B p.2.1 ∧ p.2.2 = ())) (k : ∀ v w x y H1, Xt M H H1 → A x → B y → R x v H1 → R' y w H1 → ts D ((σ.set i (some v)).set j (some w)) H1) : tSeq (tPar i j ta') ts D σ H :=
  h H (.refl d) _ fun vs p H1 e a ⟨v, r, h1, h2, w, r', h3, h4, h5⟩ => by
    subst h3
    have h5' : r' = [] := h5
    subst h5'
    exact ⟨v, w, h1, k v w p.1 p.2.1 H1 e a.1 a.2.1 h2 h4⟩
end
end GE

/-! GF: the rules for operators, calls of built-ins, displays, comprehensions, loops. -/
namespace GE
open PySem PySem.Spec PyProof.Rows L2 GB
section
variable {M : Option Addr} {σ : St} {H : Hp} {te ta tb tc : TE} {t u : TT} {α β γ : Type} {R : Rp α} {R' : Rp β} {R'' : Rp γ} {A : α → Prop} {B : β → Prop} {i : Nat} {K : Frag}
theorem Xt.set_dice {d : Addr} {H : Hp} {a b c : Int} {o : HO} (e : o = .lst [.int a, .int b, .int c]) : Xt (some d) H (upd H d o) :=
  ⟨fun x u n h => by rw [upd_ne (fun z => n (by rw [z]))]; exact h, ⟨a, b, c, by rw [upd_same, e]⟩⟩

/-! ### numbers -/
theorem o2_I0 {g : Int → Int → V} {f : Int → Int → γ} (h : ∀ i j H, R'' (f i j) (g i j) H) : Op2 M (rI0 g) RI RI R'' (fun x y z => z = f x y) (fun _ _ => True) := by
  rintro x y v u H d rfl rfl _ Q q
  exact ⟨x, y, rfl, rfl, q _ _ H (.refl d) rfl (h x y H)⟩
theorem o2_I {C : Int → Int → Prop} {g : Int → Int → V} {f : Int → Int → γ} (h : ∀ i j H, R'' (f i j) (g i j) H) : Op2 M (rI C g) RI RI R'' (fun x y z => z = f x y) C := by
  rintro x y v u H d rfl rfl c Q q
  exact ⟨x, y, rfl, rfl, c, q _ _ H (.refl d) rfl (h x y H)⟩
theorem o_add : Op2 M (rI0 fun i j => .int (i + j)) RI RI RI (fun x y z => z = x + y) (fun _ _ => True) := o2_I0 fun _ _ _ => rfl
theorem o_sub : Op2 M (rI0 fun i j => .int (i - j)) RI RI RI (fun x y z => z = x - y) (fun _ _ => True) := o2_I0 fun _ _ _ => rfl
theorem o_mul : Op2 M (rI CMul fun i j => .int (i * j)) RI RI RI (fun x y z => z = x * y) CMul := o2_I fun _ _ _ => rfl
theorem o_mulW : Op2 M (rI CMulW fun i j => .int (i * j)) RI RI RI (fun x y z => z = x * y) CMulW := o2_I fun _ _ _ => rfl
theorem o_fdiv : Op2 M (rI CDiv fun i j => .int (i / j)) RI RI RI (fun x y z => z = x / y) CDiv := o2_I fun _ _ _ => rfl
theorem o_fdivW : Op2 M (rI CDivW fun i j => .int (i / j)) RI RI RI (fun x y z => z = x / y) CDivW := o2_I fun _ _ _ => rfl
theorem o_mod : Op2 M (rI (fun _ j => 0 < j) fun i j => .int (i % j)) RI RI RI (fun x y z => z = x % y) (fun _ j => 0 < j) := o2_I fun _ _ _ => rfl
theorem o_pow : Op2 M (rI CPow fun i j => .int (i ^ j.toNat)) RI RI RI (fun x y z => z = x ^ y.toNat) CPow := o2_I fun _ _ _ => rfl
theorem o_pow9 : Op2 M (rI (fun i j => 0 ≤ j ∧ (Builtin.Int.intBits i : Int) * j ≤ 2 ^ 27) fun i j => .int (i ^ j.toNat)) RI RI RI (fun x y z => z = x ^ y.toNat) (fun i j => 0 ≤ j ∧ (Builtin.Int.intBits i : Int) * j ≤ 2 ^ 27) := o2_I fun _ _ _ => rfl
theorem o_lt : Op2 M (rI0 fun i j => .bl (decide (i < j))) RI RI RB (fun x y z => z = decide (x < y)) (fun _ _ => True) := o2_I0 fun _ _ _ => rfl
theorem o_le : Op2 M (rI0 fun i j => .bl (decide (i ≤ j))) RI RI RB (fun x y z => z = decide (x ≤ y)) (fun _ _ => True) := o2_I0 fun _ _ _ => rfl
theorem o_gt : Op2 M (rI0 fun i j => .bl (decide (j < i))) RI RI RB (fun x y z => z = decide (y < x)) (fun _ _ => True) := o2_I0 fun _ _ _ => rfl
theorem o_ge : Op2 M (rI0 fun i j => .bl (decide (j ≤ i))) RI RI RB (fun x y z => z = decide (y ≤ x)) (fun _ _ => True) := o2_I0 fun _ _ _ => rfl
theorem dInt {i j : Int} : decide (V.int i = V.int j) = decide (i = j) := by
  by_cases h : i = j
  · subst h; simp
  · have : ¬ V.int i = V.int j := fun z => h (V.int.inj z)
    simp [h]
theorem dBl {i j : Bool} : decide (V.bl i = V.bl j) = (i == j) := by cases i <;> cases j <;> rfl
theorem dStr {i j : Str} : decide (V.str i = V.str j) = decide (i = j) := by
  by_cases h : i = j
  · subst h; simp
  · have : ¬ V.str i = V.str j := fun z => h (V.str.inj z)
    simp [h]
theorem o_eq : Op2 M rEq RI RI RB (fun x y z => z = decide (x = y)) (fun _ _ => True) := by
  rintro x y v u H d rfl rfl _ Q q
  exact ⟨rfl, q _ _ H (.refl d) rfl (congrArg V.bl dInt)⟩
theorem o_ne : Op2 M rNe RI RI RB (fun x y z => z = !decide (x = y)) (fun _ _ => True) := by
  rintro x y v u H d rfl rfl _ Q q
  exact ⟨rfl, q _ _ H (.refl d) rfl (congrArg (fun b => V.bl !b) dInt)⟩
theorem o_eqB : Op2 M rEq RB RB RB (fun x y z => z = (x == y)) (fun _ _ => True) := by
  rintro x y v u H d rfl rfl _ Q q
  exact ⟨rfl, q _ _ H (.refl d) rfl (congrArg V.bl dBl)⟩
theorem o_neB : Op2 M rNe RB RB RB (fun x y z => z = !(x == y)) (fun _ _ => True) := by
  rintro x y v u H d rfl rfl _ Q q
  exact ⟨rfl, q _ _ H (.refl d) rfl (congrArg (fun b => V.bl !b) dBl)⟩
theorem o_eqS : Op2 M rEq RS RS RB (fun x y z => z = decide (x = y)) (fun _ _ => True) := by
  rintro x y v u H d rfl rfl _ Q q
  exact ⟨rfl, q _ _ H (.refl d) rfl (congrArg V.bl dStr)⟩
theorem u_neg : ∀ x v H, RI x v H → ∀ Q : VK, (∀ w, RI (-x) w H → Q w H) → (rU fun i => .int (-i)) v H Q := by
  rintro x v H rfl Q q
  exact ⟨x, rfl, q _ rfl⟩

/-! ### built-ins -/
theorem c_abs : Cl M (fun xs H Q => ∃ i, xs = [V.int i] ∧ Q (.int (if i < 0 then -i else i)) H) (Cons RI Nil) RI (fun p z => z = if p.1 < 0 then -p.1 else p.1) (fun _ => True) := by
  rintro ⟨x, _⟩ vs H d ⟨v, r, rfl, rfl, rfl⟩ _ Q q
  exact ⟨x, rfl, q _ _ H (.refl d) rfl rfl⟩
theorem c_int : Cl M (fun xs H Q => (∃ i, xs = [V.int i] ∧ Q (.int i) H) ∨ ∃ k, xs = [V.bl k] ∧ Q (.int (if k then 1 else 0)) H) (Cons RI Nil) RI (fun p z => z = p.1) (fun _ => True) := by
  rintro ⟨x, _⟩ vs H d ⟨v, r, rfl, rfl, rfl⟩ _ Q q
  exact .inl ⟨x, rfl, q _ _ H (.refl d) rfl rfl⟩
theorem c_intB : Cl M (fun xs H Q => (∃ i, xs = [V.int i] ∧ Q (.int i) H) ∨ ∃ k, xs = [V.bl k] ∧ Q (.int (if k then 1 else 0)) H) (Cons RB Nil) RI (fun p z => z = if p.1 = true then 1 else 0) (fun _ => True) := by
  rintro ⟨x, _⟩ vs H d ⟨v, r, rfl, rfl, rfl⟩ _ Q q
  exact .inr ⟨x, rfl, q _ _ H (.refl d) rfl rfl⟩
theorem c_max : Cl M (fun xs H Q => ∃ i j, xs = [V.int i, .int j] ∧ Q (.int (if j > i then j else i)) H) (Cons RI (Cons RI Nil)) RI (fun p z => z = if p.2.1 > p.1 then p.2.1 else p.1) (fun _ => True) := by
  rintro ⟨x, y, _⟩ vs H d ⟨v, r, rfl, rfl, w, r', rfl, rfl, rfl⟩ _ Q q
  exact ⟨x, y, rfl, q _ _ H (.refl d) rfl rfl⟩
theorem c_min : Cl M (fun xs H Q => ∃ i j, xs = [V.int i, .int j] ∧ Q (.int (if j < i then j else i)) H) (Cons RI (Cons RI Nil)) RI (fun p z => z = if p.2.1 < p.1 then p.2.1 else p.1) (fun _ => True) := by
  rintro ⟨x, y, _⟩ vs H d ⟨v, r, rfl, rfl, w, r', rfl, rfl, rfl⟩ _ Q q
  exact ⟨x, y, rfl, q _ _ H (.refl d) rfl rfl⟩
theorem paired_len {F : α → β → Prop} {l : List α} {r : List β} (h : Paired F l r) : r.length = l.length := by
  induction h with
  | nil => rfl
  | cons _ _ ih => simp [ih]
theorem all_len {l : List α} {vs : List V} {H : Hp} (h : All R l vs H) : vs.length = l.length := paired_len (F := fun x v => R x v H) h
theorem c_lenT : Cl M (fun xs H Q => ∃ p ys, xs = [V.ref p] ∧ (SqL K H p ys ∨ SqT K H p ys) ∧ Q (.int (ys.length : Int)) H) (Cons (RT M (All R)) Nil) RI (fun p z => z = (p.1.length : Int)) (fun _ => True) := by
  rintro ⟨x, _⟩ vs H d ⟨v, r, rfl, ⟨a, ws, rfl, n, h, hr⟩, rfl⟩ _ Q q
  exact ⟨a, ws, rfl, .inr (.of h), q _ _ H (.refl d) rfl (by show V.int _ = V.int _; rw [all_len hr])⟩
theorem c_lenL : Cl M (fun xs H Q => ∃ p ys, xs = [V.ref p] ∧ (SqL K H p ys ∨ SqT K H p ys) ∧ Q (.int (ys.length : Int)) H) (Cons (RL M (All R)) Nil) RI (fun p z => z = (p.1.length : Int)) (fun _ => True) := by
  rintro ⟨x, _⟩ vs H d ⟨v, r, rfl, ⟨a, ws, rfl, n, h, hr⟩, rfl⟩ _ Q q
  exact ⟨a, ws, rfl, .inl (.of h), q _ _ H (.refl d) rfl (by show V.int _ = V.int _; rw [all_len hr])⟩
/-- tuple(xs) of a list -/
theorem c_tupL {S : Rs β} [Mos M S] : Cl M (fun xs H Q => ∃ p ys, xs = [V.ref p] ∧ ((SqL K H p ys ∧ ∀ l, H l = none → Q (.ref l) (upd H l (.tup ys))) ∨ (SqT K H p ys ∧ Q (.ref p) H))) (Cons (RL M S) Nil) (RT M S) (fun p z => z = p.1) (fun _ => True) := by
  rintro ⟨x, _⟩ vs H d ⟨v, r, rfl, ⟨a, ws, rfl, n, h, hr⟩, rfl⟩ _ Q q
  exact ⟨a, ws, rfl, .inl ⟨.of h, fun l hl => q _ _ _ (.new d hl) rfl ⟨l, ws, rfl, ne_dice d hl, upd_same, Mos.up (M := M) (.new d hl) hr⟩⟩⟩
/-- list(xs) of a list, a tuple -/
theorem c_lstL {S : Rs β} [Mos M S] : Cl M (fun xs H Q => ∃ p ys, xs = [V.ref p] ∧ (SqL K H p ys ∨ SqT K H p ys) ∧ ∀ l, H l = none → Q (.ref l) (upd H l (.lst ys))) (Cons (RL M S) Nil) (RL M S) (fun p z => z = p.1) (fun _ => True) := by
  rintro ⟨x, _⟩ vs H d ⟨v, r, rfl, ⟨a, ws, rfl, n, h, hr⟩, rfl⟩ _ Q q
  exact ⟨a, ws, rfl, .inl (.of h), fun l hl => q _ _ _ (.new d hl) rfl ⟨l, ws, rfl, ne_dice d hl, upd_same, Mos.up (M := M) (.new d hl) hr⟩⟩
theorem c_lstT {S : Rs β} [Mos M S] : Cl M (fun xs H Q => ∃ p ys, xs = [V.ref p] ∧ (SqL K H p ys ∨ SqT K H p ys) ∧ ∀ l, H l = none → Q (.ref l) (upd H l (.lst ys))) (Cons (RT M S) Nil) (RL M S) (fun p z => z = p.1) (fun _ => True) := by
  rintro ⟨x, _⟩ vs H d ⟨v, r, rfl, ⟨a, ws, rfl, n, h, hr⟩, rfl⟩ _ Q q
  exact ⟨a, ws, rfl, .inr (.of h), fun l hl => q _ _ _ (.new d hl) rfl ⟨l, ws, rfl, ne_dice d hl, upd_same, Mos.up (M := M) (.new d hl) hr⟩⟩

/-! ### items -/
theorem paired_at {F : α → β → Prop} : ∀ {l : List α} {r : List β} {i : Nat} {x : α}, Paired F l r → l[i]? = some x → ∃ y, r[i]? = some y ∧ F x y
  | _, _, _, _, .nil, h => by simp at h
  | _, _, 0, _, .cons a b, h => by simp at h; subst h; exact ⟨_, rfl, a⟩
  | _, _, i + 1, _, .cons a b, h => by
    obtain ⟨y, h1, h2⟩ := paired_at (i := i) b (by simpa using h)
    exact ⟨y, by simpa using h1, h2⟩
theorem paired_at' {F : α → β → Prop} : ∀ {l : List α} {r : List β} {i : Nat} {y : β}, Paired F l r → r[i]? = some y → ∃ x, l[i]? = some x ∧ F x y
  | _, _, _, _, .nil, h => by simp at h
  | _, _, 0, _, .cons a b, h => by simp at h; subst h; exact ⟨_, rfl, a⟩
  | _, _, i + 1, _, .cons a b, h => by
    obtain ⟨y, h1, h2⟩ := paired_at' (i := i) b (by simpa using h)
    exact ⟨y, by simpa using h1, h2⟩
theorem atI_rep {l : List α} {vs : List V} {H : Hp} {i : Int} {x : α} (h : All R l vs H) (e : atI l i = some x) : ∃ v, atI vs i = some v ∧ R x v H := by
  have hl := all_len h
  unfold atI at e ⊢
  rw [hl]
  cases q : ixN l.length i with
  | none => rw [q] at e; cases e
  | some j =>
    rw [q] at e
    exact paired_at h e
theorem o_ixL : Op2 M (rIxL K) (RL M (All R)) RI R (fun l i z => atI l i = some z) (fun l i => (atI l i).isSome = true) := by
  rintro l i v u H d ⟨a, ws, rfl, n, h, hr⟩ rfl hs Q q
  obtain ⟨z, hz⟩ := Option.isSome_iff_exists.mp hs
  obtain ⟨w, h1, h2⟩ := atI_rep hr hz
  exact ⟨a, ws, i, w, rfl, rfl, .of h, h1, q w z H (.refl d) hz h2⟩
theorem o_ixT : Op2 M (rIxT K) (RT M (All R)) RI R (fun l i z => atI l i = some z) (fun l i => (atI l i).isSome = true) := by
  rintro l i v u H d ⟨a, ws, rfl, n, h, hr⟩ rfl hs Q q
  obtain ⟨z, hz⟩ := Option.isSome_iff_exists.mp hs
  obtain ⟨w, h1, h2⟩ := atI_rep hr hz
  exact ⟨a, ws, i, w, rfl, rfl, .of h, h1, q w z H (.refl d) hz h2⟩
/-- an item of a written pair -/
theorem o_ixC0 {S : Rs β} {T : Rp α} : Op2 M (rIxT K) (RT M (Cons T S)) RI T (fun p _ z => z = p.1) (fun _ i => i = 0) := by
  rintro ⟨x, y⟩ i v u H d ⟨a, ws, rfl, n, h, w, r, rfl, h1, h2⟩ rfl rfl Q q
  exact ⟨a, w :: r, 0, w, rfl, rfl, .of h, atI_nat (j := 0) rfl, q w x H (.refl d) rfl h1⟩
theorem o_ixC1 {S : Rs γ} {T : Rp α} {U : Rp β} : Op2 M (rIxT K) (RT M (Cons T (Cons U S))) RI U (fun p _ z => z = p.2.1) (fun _ i => i = 1) := by
  rintro ⟨x, y, z'⟩ i v u H d ⟨a, ws, rfl, n, h, w, r, rfl, h1, w2, r2, rfl, h2, h3⟩ rfl rfl Q q
  exact ⟨a, w :: w2 :: r2, 1, w2, rfl, rfl, .of h, atI_nat (j := 1) rfl, q w2 y H (.refl d) rfl h2⟩

/-! ### comprehensions -/
/-- what a comprehension gives: p the test, B what an item gives -/
inductive Comp (p : α → Bool) (B : α → β → Prop) : List α → List β → Prop
  | nil : Comp p B [] []
  | yes {x y xs ys} : p x = true → B x y → Comp p B xs ys → Comp p B (x :: xs) (y :: ys)
  | no {x xs ys} : p x = false → Comp p B xs ys → Comp p B (x :: xs) ys
theorem Comp.det {p : α → Bool} {f : α → β} {xs : List α} {ys : List β} (h : Comp p (fun x y => y = f x) xs ys) : ys = (xs.filter p).map f := by
  induction h with
  | nil => rfl
  | yes h1 h2 _ ih => rw [List.filter_cons_of_pos h1, List.map_cons, ← ih, h2]
  | no h1 _ ih => rw [List.filter_cons_of_neg (by simp [h1]), ih]
theorem Comp.map {B : α → β → Prop} {xs : List α} {ys : List β} (h : Comp (fun _ => true) B xs ys) : Paired B xs ys := by
  induction h with
  | nil => exact .nil
  | yes _ h2 _ ih => exact .cons h2 ih
  | no h1 _ _ => cases h1
theorem Comp.snoc_yes {p : α → Bool} {B : α → β → Prop} {x : α} {y : β} (h1 : p x = true) (h2 : B x y) : ∀ {xs : List α} {ys : List β}, Comp p B xs ys → Comp p B (xs ++ [x]) (ys ++ [y])
  | _, _, .nil => .yes h1 h2 .nil
  | _, _, .yes a b c => .yes a b (Comp.snoc_yes h1 h2 c)
  | _, _, .no a c => .no a (Comp.snoc_yes h1 h2 c)
theorem Comp.snoc_no {p : α → Bool} {B : α → β → Prop} {x : α} (h1 : p x = false) : ∀ {xs : List α} {ys : List β}, Comp p B xs ys → Comp p B (xs ++ [x]) ys
  | _, _, .nil => .no h1 .nil
  | _, _, .yes a b c => .yes a b (Comp.snoc_no h1 c)
  | _, _, .no a c => .no a (Comp.snoc_no h1 c)
theorem Comp.len {p : α → Bool} {B : α → β → Prop} {xs : List α} {ys : List β} (h : Comp p B xs ys) : ys.length ≤ xs.length := by
  induction h with
  | nil => exact Nat.le_refl _
  | yes _ _ _ ih => simp; exact ih
  | no _ _ ih => simp; omega
theorem All.snoc {l : List α} {vs : List V} {H : Hp} {x : α} {v : V} (h : All R l vs H) (r : R x v H) : All R (l ++ [x]) (vs ++ [v]) H := Paired.snoc h r
/-- how a target takes an item: the value v goes to σ' -/
def Gt (g : TG) (M : Option Addr) (R : Rp α) (τ : α → V → St → St → Prop) (σ : St) : Prop := ∀ x v H (Q : St → Hp → Prop), R x v H → (∀ σ', τ x v σ σ' → Q σ' H) → g v σ H Q
/-- what stays when a list changes: no list of ours is within -/
class Ml {α : Type} (R : Rp α) : Prop where
  l : ∀ {x v H D vs vs'}, H D = some (.lst vs) → R x v H → R x v (upd H D (.lst vs'))
class Mls {α : Type} (R : Rs α) : Prop where
  l : ∀ {x v H D vs vs'}, H D = some (.lst vs) → R x v H → R x v (upd H D (.lst vs'))
instance : Ml RI := ⟨fun _ h => h⟩
instance : Ml RB := ⟨fun _ h => h⟩
instance : Ml RN := ⟨fun _ h => h⟩
instance : Ml RS := ⟨fun _ h => h⟩
instance : Ml RV := ⟨fun _ h => h⟩
instance {R : Rp α} [Ml R] : Ml (ROpt R) := ⟨fun {o v H D vs vs'} e h => by
  cases o with
  | none => exact h
  | some x => exact Ml.l (R := R) e h⟩
instance {R : Rp α} [Ml R] : Mls (All R) := ⟨fun e h => paired_imp (fun _ _ z => Ml.l (R := R) e z) h⟩
instance : Mls Nil := ⟨fun _ h => h⟩
instance {R : Rp α} {S : Rs β} [Ml R] [Mls S] : Mls (Cons R S) := ⟨fun e ⟨v, r, h1, h2, h3⟩ => ⟨v, r, h1, Ml.l (R := R) e h2, Mls.l (R := S) e h3⟩⟩
instance {R : Rs α} [Mls R] : Ml (RT M R) := ⟨fun e ⟨a, vs, h1, h2, h3, h4⟩ => ⟨a, vs, h1, h2, by rw [upd_ne (ne_of h3 e (by intro z; cases z))]; exact h3, Mls.l (R := R) e h4⟩⟩
/-- the list at D so far -/
structure Acc (M : Option Addr) (R : Rp β) (H0 : Hp) (D : Addr) (S : List β → Prop) (H : Hp) : Prop where
  free : H0 D = none
  nd : M ≠ some D
  ext : Xt M H0 H
  at_ : ∃ vs ys, H D = some (.lst vs) ∧ All R ys vs H ∧ S ys
theorem Acc.start {H0 : Hp} {D : Addr} {S : List β → Prop} (d : DiceM M H0) (h : H0 D = none) (s : S []) : Acc M R' H0 D S (upd H0 D (.lst [])) := ⟨h, ne_dice d h, .new d h, [], [], upd_same, .nil, s⟩
theorem Xt.put {H0 H : Hp} {D : Addr} {o : HO} (e : Xt M H0 H) (h : H0 D = none) (nd : M ≠ some D) : Xt M H0 (upd H D o) := by
  refine ⟨fun a u n q => by rw [upd_ne (ne_of_none q h)]; exact e.keep a u n q, ?_⟩
  cases M with
  | none => trivial
  | some d =>
    obtain ⟨a, b, c, q⟩ := e.dice
    exact ⟨a, b, c, by rw [upd_ne (fun z => nd (by rw [z]))]; exact q⟩
theorem Acc.turn [Mo M R'] [Ml R'] {H0 H : Hp} {D : Addr} {S S' : List β → Prop} {p : Bool} {B : β → Prop} (a : Acc M R' H0 D S H) (hn : ∀ ys, S ys → ys.length < 1000000) (ht : EvT M t σ H0 (Eq1 p)) (he : p = true → Ev M te σ H0 R' B)
    (hy : p = true → ∀ ys y, S ys → B y → S' (ys ++ [y])) (hno : p = false → ∀ ys, S ys → S' ys) :
    t σ H fun b H3 => if b = true then te σ H3 fun y H4 => ∃ acc, H4 D = some (.lst acc) ∧ acc.length < sizeLine ∧ Acc M R' H0 D S' (upd H4 D (.lst (acc ++ [y]))) else Acc M R' H0 D S' H3 := by
  obtain ⟨hf, nd, e, vs, ys, h1, h2, h3⟩ := a
  refine ht H e _ fun b H3 e3 hb => ?_
  subst hb
  cases b with
  | true =>
    show te σ H3 _
    refine he rfl H3 (e.trans e3) _ fun v y H4 e4 hB ry => ?_
    have h4 : H4 D = some (.lst vs) := e4.keep D _ nd (e3.keep D _ nd h1)
    have hl : vs.length < sizeLine := by rw [all_len h2]; exact Nat.lt_trans (hn ys h3) (by decide)
    refine ⟨vs, h4, hl, hf, nd, Xt.put ((e.trans e3).trans e4) hf nd, vs ++ [v], ys ++ [y], upd_same, ?_, hy rfl ys y h3 hB⟩
    have h2' : All R' ys vs H4 := Mos.up (M := M) (R := All R') (e3.trans e4) h2
    exact Mls.l (R := All R') h4 (All.snoc h2' ry)
  | false =>
    show Acc M R' H0 D S' H3
    exact ⟨hf, nd, e.trans e3, vs, ys, e3.keep D _ nd h1, Mos.up (M := M) (R := All R') e3 h2, hno rfl ys h3⟩
/-- [te for .. in a list or tuple if t]; τ tells the slots behind the target -/
theorem lc_seq [Mo M R'] [Ml R'] {g : TG} {vs : List Nat} {H1 : Hp} {D : Addr} {xs : List α} {ws : List V} {p : α → Bool} {B : α → β → Prop} {Qd : Hp → Prop} (τ : V → St) (d : DiceM M H1) (hD : H1 D = none) (hr : All R xs ws H1) [Mo M R]
    (hz : xs.length < 1000000) (hg : ∀ v x H Q, R x v H → Q (τ v) H → g v (wipe σ vs) H Q) (hw : ∀ v, wipe (τ v) vs = wipe σ vs)
    (ht : ∀ v x, x ∈ xs → R x v H1 → EvT M t (τ v) H1 (Eq1 (p x))) (he : ∀ v x, x ∈ xs → R x v H1 → p x = true → Ev M te (τ v) H1 R' (B x))
    (hd : ∀ H' ys, Xt M H1 H' → RL M (All R') ys (.ref D) H' → Comp p B xs ys → Qd H') :
    ∃ Pv : Nat → Hp → Prop, Pv 0 (upd H1 D (.lst [])) ∧ (∀ i H, Pv i H → Xt M H1 H) ∧
      (∀ i v H, ws[i]? = some v → Pv i H → g v (wipe σ vs) H fun σ2 H2 => wipe σ2 vs = wipe σ vs ∧ t σ2 H2 fun b H3 =>
        if b = true then te σ2 H3 fun y H4 => ∃ acc, H4 D = some (.lst acc) ∧ acc.length < sizeLine ∧ Pv (i + 1) (upd H4 D (.lst (acc ++ [y]))) else Pv (i + 1) H3) ∧ ∀ H, Pv ws.length H → Qd H := by
  refine ⟨fun i H => Acc M R' H1 D (fun ys => Comp p B (xs.take i) ys) H, Acc.start d hD .nil, fun i H a => a.ext, fun i v H hi a => ?_, fun H a => ?_⟩
  · obtain ⟨x, hx, rx⟩ := paired_at' hr hi
    have hm : x ∈ xs := List.mem_of_getElem? hx
    have rx' : R x v H := Mo.up (M := M) a.ext rx
    refine hg v x H _ rx' ⟨hw v, ?_⟩
    have htk : xs.take (i + 1) = xs.take i ++ [x] := by rw [List.take_add_one, hx]; rfl
    refine a.turn (p := p x) (B := B x) (fun ys c => Nat.lt_of_le_of_lt c.len (Nat.lt_of_le_of_lt (by simp [List.length_take]; omega) hz)) (ht v x hm rx) (he v x hm rx) (fun hp ys y c b => ?_) (fun hp ys c => ?_)
    · rw [htk]; exact Comp.snoc_yes hp b c
    · rw [htk]; exact Comp.snoc_no hp c
  · obtain ⟨hf, nd, e, vs', ys, h1, h2, h3⟩ := a
    rw [paired_len hr, List.take_length] at h3
    exact hd H ys e ⟨D, vs', rfl, nd, h1, h2⟩ h3
theorem ev_lcL [Mo M R] [Mo M R'] [Ml R'] {g : TG} {vs : List Nat} {tl : TE} {xs : List α} {p : α → Bool} {B : α → β → Prop} (τ : V → St) (hl : Ev M tl σ H (RL M (All R)) (Eq1 xs)) (hz : xs.length < 1000000)
    (hg : ∀ v x H Q, R x v H → Q (τ v) H → g v (wipe σ vs) H Q) (hw : ∀ v, wipe (τ v) vs = wipe σ vs)
    (ht : ∀ H1, Xt M H H1 → ∀ v x, x ∈ xs → R x v H1 → EvT M t (τ v) H1 (Eq1 (p x))) (he : ∀ H1, Xt M H H1 → ∀ v x, x ∈ xs → R x v H1 → p x = true → Ev M te (τ v) H1 R' (B x)) :
    Ev M (tLc (iList K tl) g t te vs) σ H (RL M (All R')) (fun ys => Comp p B xs ys) := fun H0 e0 Q q =>
  hl H0 e0 _ fun v x H1 e1 hx rx => by
    subst hx
    obtain ⟨a, ws, rfl, na, ha, hr⟩ := rx
    refine ⟨a, rfl, ⟨ws, .of ha⟩, fun D hD => ?_⟩
    obtain ⟨Pv, p0, pe, ps, pd⟩ := lc_seq (g := g) τ e1.dice hD hr hz hg hw (ht H1 (e0.trans e1)) (he H1 (e0.trans e1)) (Qd := Q (.ref D)) (fun H' ys e r c => q _ ys H' (e1.trans e) c r)
    exact lc_list (xs := ws) Pv p0 (fun i H' _ z => .of ((pe i H' z).keep a _ na ha)) (fun i v H' hi z => ps i v H' hi z) pd
theorem ev_lcT [Mo M R] [Mo M R'] [Ml R'] {g : TG} {vs : List Nat} {tl : TE} {xs : List α} {p : α → Bool} {B : α → β → Prop} (τ : V → St) (hl : Ev M tl σ H (RT M (All R)) (Eq1 xs)) (hz : xs.length < 1000000)
    (hg : ∀ v x H Q, R x v H → Q (τ v) H → g v (wipe σ vs) H Q) (hw : ∀ v, wipe (τ v) vs = wipe σ vs)
    (ht : ∀ H1, Xt M H H1 → ∀ v x, x ∈ xs → R x v H1 → EvT M t (τ v) H1 (Eq1 (p x))) (he : ∀ H1, Xt M H H1 → ∀ v x, x ∈ xs → R x v H1 → p x = true → Ev M te (τ v) H1 R' (B x)) :
    Ev M (tLc (iTup K tl) g t te vs) σ H (RL M (All R')) (fun ys => Comp p B xs ys) := fun H0 e0 Q q =>
  hl H0 e0 _ fun v x H1 e1 hx rx => by
    subst hx
    obtain ⟨a, ws, rfl, na, ha, hr⟩ := rx
    refine ⟨a, rfl, ⟨ws, .of ha⟩, fun D hD => ?_⟩
    obtain ⟨Pv, p0, pe, ps, pd⟩ := lc_seq (g := g) τ e1.dice hD hr hz hg hw (ht H1 (e0.trans e1)) (he H1 (e0.trans e1)) (Qd := Q (.ref D)) (fun H' ys e r c => q _ ys H' (e1.trans e) c r)
    exact lc_tup (xs := ws) Pv p0 (fun i H' _ z => .of ((pe i H' z).keep a _ na ha)) (fun i v H' hi z => ps i v H' hi z) pd
/-- lo, lo + 1, .. below hi -/
def rng (lo hi : Int) : List Int := (List.range (hi - lo).toNat).map fun (i : Nat) => lo + (i : Int)
theorem rng_at {lo hi : Int} {i : Nat} (h : i < (hi - lo).toNat) : (rng lo hi)[i]? = some (lo + (i : Int)) := by
  unfold rng; simp [h]
theorem rng_len {lo hi : Int} : (rng lo hi).length = (hi - lo).toNat := by unfold rng; simp
theorem mem_rng {lo hi x : Int} : x ∈ rng lo hi ↔ lo ≤ x ∧ x < hi := by
  unfold rng
  simp only [List.mem_map, List.mem_range]
  constructor
  · rintro ⟨i, h, rfl⟩; omega
  · rintro ⟨h1, h2⟩; exact ⟨(x - lo).toNat, by omega, by omega⟩
theorem all_rng {H : Hp} {lo hi : Int} : All RI (rng lo hi) ((List.range (hi - lo).toNat).map fun (i : Nat) => V.int (lo + (i : Int))) H := by
  unfold rng
  generalize List.range (hi - lo).toNat = l
  induction l with
  | nil => exact .nil
  | cons a l ih => exact .cons rfl ih
theorem lc_rng [Mo M R'] [Ml R'] {g : TG} {vs : List Nat} {H1 : Hp} {D : Addr} {lo hi : Int} {p : Int → Bool} {B : Int → β → Prop} {Qd : Hp → Prop} (τ : V → St) (d : DiceM M H1) (hD : H1 D = none)
    (hz : (hi - lo).toNat < 1000000) (hg : ∀ v x H Q, RI x v H → Q (τ v) H → g v (wipe σ vs) H Q) (hw : ∀ v, wipe (τ v) vs = wipe σ vs)
    (ht : ∀ x, lo ≤ x → x < hi → EvT M t (τ (.int x)) H1 (Eq1 (p x))) (he : ∀ x, lo ≤ x → x < hi → p x = true → Ev M te (τ (.int x)) H1 R' (B x))
    (hd : ∀ H' ys, Xt M H1 H' → RL M (All R') ys (.ref D) H' → Comp p B (rng lo hi) ys → Qd H') :
    ∃ W : Nat → Nat → Hp → Prop, (∃ m, W 0 m (upd H1 D (.lst []))) ∧ ∀ i m H, W i m H →
      ((Itr lo (hi - lo).toNat).stop i H ∧ Qd H) ∨ ((Itr lo (hi - lo).toNat).go i H ∧ ∃ Nx : Hp → Prop, (∀ H', Nx H' → ∃ m', m' < m ∧ W (i + 1) m' H') ∧ ∀ x H', (Itr lo (hi - lo).toNat).yld i H x H' → g x (wipe σ vs) H' fun σ2 H2 => wipe σ2 vs = wipe σ vs ∧ t σ2 H2 fun b H3 =>
        if b = true then te σ2 H3 fun y H4 => ∃ acc, H4 D = some (.lst acc) ∧ acc.length < sizeLine ∧ Nx (upd H4 D (.lst (acc ++ [y]))) else Nx H3) := by
  obtain ⟨Pv, p0, pe, ps, pd⟩ := lc_seq (g := g) (R := RI) (xs := rng lo hi) τ d hD all_rng (by rw [rng_len]; exact hz) hg hw
    (fun v x hm rx => by cases (show v = V.int x from rx); exact ht x (mem_rng.mp hm).1 (mem_rng.mp hm).2) (fun v x hm rx hp => by cases (show v = V.int x from rx); exact he x (mem_rng.mp hm).1 (mem_rng.mp hm).2 hp) hd
  refine lc_range Pv p0 (fun i H' hi' z => ps i _ H' (by simp [hi']) z) fun H z => pd H (by simpa using z)
theorem ev_lcR1 [Mo M R'] [Ml R'] {g : TG} {vs : List Nat} {ts : TA} {n : Int} {p : Int → Bool} {B : Int → β → Prop} (τ : V → St) (hl : EvA M ts σ H (Cons RI Nil) (fun q => q.1 = n)) (hz : 0 ≤ n ∧ n < 1000000)
    (hg : ∀ v x H Q, RI x v H → Q (τ v) H → g v (wipe σ vs) H Q) (hw : ∀ v, wipe (τ v) vs = wipe σ vs)
    (ht : ∀ H1, Xt M H H1 → ∀ x, 0 ≤ x → x < n → EvT M t (τ (.int x)) H1 (Eq1 (p x))) (he : ∀ H1, Xt M H H1 → ∀ x, 0 ≤ x → x < n → p x = true → Ev M te (τ (.int x)) H1 R' (B x)) :
    Ev M (tLc (iRng1 ts) g t te vs) σ H (RL M (All R')) (fun ys => Comp p B (rng 0 n) ys) := fun H0 e0 Q q =>
  hl H0 e0 _ fun vs' x H1 e1 hx ⟨v, r, e2, e3, e4⟩ => by
    cases (show r = [] from e4); cases (show v = V.int x.1 from e3); subst e2
    refine ⟨x.1, rfl, by omega, by omega, fun D hD => ?_⟩
    have e5 : x.1.toNat = (n - 0).toNat := by rw [hx]; omega
    rw [e5]
    exact lc_rng τ e1.dice hD (by omega) hg hw (ht H1 (e0.trans e1)) (he H1 (e0.trans e1)) fun H' ys e r c => q _ ys H' (e1.trans e) c r
theorem ev_lcR2 [Mo M R'] [Ml R'] {g : TG} {vs : List Nat} {ts : TA} {lo n : Int} {p : Int → Bool} {B : Int → β → Prop} (τ : V → St) (hl : EvA M ts σ H (Cons RI (Cons RI Nil)) (fun q => q.1 = lo ∧ q.2.1 = n)) (hz : -1000000 < lo ∧ n < 1000000 ∧ lo < 1000000 ∧ -1000000 < n ∧ n - lo < 1000000)
    (hg : ∀ v x H Q, RI x v H → Q (τ v) H → g v (wipe σ vs) H Q) (hw : ∀ v, wipe (τ v) vs = wipe σ vs)
    (ht : ∀ H1, Xt M H H1 → ∀ x, lo ≤ x → x < n → EvT M t (τ (.int x)) H1 (Eq1 (p x))) (he : ∀ H1, Xt M H H1 → ∀ x, lo ≤ x → x < n → p x = true → Ev M te (τ (.int x)) H1 R' (B x)) :
    Ev M (tLc (iRng2 ts) g t te vs) σ H (RL M (All R')) (fun ys => Comp p B (rng lo n) ys) := fun H0 e0 Q q =>
  hl H0 e0 _ fun vs' x H1 e1 hx ⟨v, r, e2, e3, w, r', e4, e5, e6⟩ => by
    obtain ⟨x1, x2, x3⟩ := x
    dsimp only at hx
    obtain ⟨rfl, rfl⟩ := hx
    cases (show r' = [] from e6); cases (show v = V.int x1 from e3); cases (show w = V.int x2 from e5); subst e4; subst e2
    refine ⟨x1, x2, rfl, by omega, fun D hD => ?_⟩
    exact lc_rng τ e1.dice hD (by omega) hg hw (ht H1 (e0.trans e1)) (he H1 (e0.trans e1)) fun H' ys e r c => q _ ys H' (e1.trans e) c r
end
end GE

/-! GH: equality of data, homogeneous displays, loops, unpacking, isinstance. -/
namespace GE
open PySem PySem.Spec PyProof.Rows L2 GB
/-- values that are data -/
class Da {α : Type} (R : Rp α) where
  f : α → PyData
  n : Nat
  dp : ∀ {K x v H}, R x v H → L2.Dp K H v (f x)
  ok : ∀ x, (f x).canLay0 = true
  dep : ∀ x, (f x).depth ≤ n
  inj : ∀ x y, PyData.eqv (f x) (f y) = true ↔ x = y
class Das {α : Type} (R : Rs α) where
  f : α → List PyData
  n : Nat
  dp : ∀ {K x vs H}, R x vs H → L2.DpAll K H vs (f x)
  ok : ∀ x, PyData.canLayAll0 (f x) = true
  dep : ∀ x, PyData.depthAll (f x) ≤ n
  inj : ∀ x y, PyData.eqvAll (f x) (f y) = true ↔ x = y
section
variable {M : Option Addr} {α β γ : Type}
instance : Da RI := ⟨fun i => .int i, 0, fun {K x v H} h => by cases (show v = V.int x from h); exact .int _, fun _ => rfl, fun _ => Nat.le_refl _, fun x y => by simp [PyData.eqv]⟩
instance : Da RB := ⟨fun i => .bool i, 0, fun {K x v H} h => by cases (show v = V.bl x from h); exact .bl _, fun _ => rfl, fun _ => Nat.le_refl _, fun x y => by simp [PyData.eqv]⟩
instance : Da RN := ⟨fun _ => .none, 0, fun {K x v H} h => by cases (show v = V.non from h); exact .non, fun _ => rfl, fun _ => Nat.le_refl _, fun x y => by simp [PyData.eqv]⟩
instance : Das Nil := ⟨fun _ => [], 0, fun {K x vs H} h => by cases (show vs = [] from h); exact .nil, fun _ => rfl, fun _ => Nat.le_refl _, fun x y => by simp [PyData.eqvAll]⟩
instance {R : Rp α} {S : Rs β} [a : Da R] [b : Das S] : Das (Cons R S) := ⟨fun p => a.f p.1 :: b.f p.2, max a.n b.n, fun {K x vs H} h => by obtain ⟨v, r, rfl, h1, h2⟩ := h; exact .cons (a.dp h1) (b.dp h2),
  fun x => by simp [PyData.canLayAll0, a.ok, b.ok], fun x => by simp only [PyData.depthAll]; have := a.dep x.1; have := b.dep x.2; omega, fun x y => by
    simp only [PyData.eqvAll, Bool.and_eq_true, a.inj, b.inj]
    constructor
    · rintro ⟨h1, h2⟩; exact Prod.ext h1 h2
    · rintro rfl; exact ⟨rfl, rfl⟩⟩
instance {R : Rp α} [a : Da R] : Das (All R) := ⟨fun l => l.map a.f, a.n, fun {K x vs H} h => by
    have h' : Paired (fun x v => R x v H) x vs := h
    induction h' with
    | nil => exact .nil
    | cons h1 h2 ih => exact .cons (a.dp h1) (ih h2),
  fun x => by
    induction x with
    | nil => rfl
    | cons y l ih => simp [PyData.canLayAll0, a.ok, ih], fun x => by
    induction x with
    | nil => exact Nat.zero_le _
    | cons y l ih => simp only [List.map_cons, PyData.depthAll]; have := a.dep y; omega, fun x y => by
    induction x generalizing y with
    | nil => cases y <;> simp [PyData.eqvAll]
    | cons z l ih => cases y <;> simp [PyData.eqvAll, a.inj, ih]⟩
instance {S : Rs β} [b : Das S] : Da (RT M S) := ⟨fun x => .tuple (b.f x), b.n + 1, fun {K x v H} h => by obtain ⟨a, vs, rfl, n, h1, h2⟩ := h; exact .tup (.of h1) (b.dp h2),
  fun x => by simpa [PyData.canLay0] using b.ok x, fun x => by simp only [PyData.depth]; have := b.dep x; omega, fun x y => by simp [PyData.eqv, b.inj]⟩
instance {S : Rs β} [b : Das S] : Da (RL M S) := ⟨fun x => .list (b.f x), b.n + 1, fun {K x v H} h => by obtain ⟨a, vs, rfl, n, h1, h2⟩ := h; exact .lst (.of h1) (b.dp h2),
  fun x => by simpa [PyData.canLay0] using b.ok x, fun x => by simp only [PyData.depth]; have := b.dep x; omega, fun x y => by simp [PyData.eqv, b.inj]⟩
variable {σ : St} {H : Hp} {te ta tb tc tl : TE} {t u : TT} {R : Rp α} {R' : Rp β} {R'' : Rp γ} {A : α → Prop} {B : β → Prop} {i : Nat} {K : Frag}
theorem sh (a : Da R) (h : a.n ≤ 64) (x : α) : SeqAt.shaped (a.f x) = true := by
  unfold SeqAt.shaped
  rw [a.ok, decide_eq_true (Nat.le_trans (a.dep x) h)] <;> rfl
theorem eqv_dec [DecidableEq α] [a : Da R] (x y : α) : PyData.eqv (a.f x) (a.f y) = decide (x = y) := by
  by_cases h : x = y
  · rw [decide_eq_true h]; exact (a.inj x y).mpr h
  · rw [decide_eq_false h]
    cases q : PyData.eqv (a.f x) (a.f y) with
    | false => rfl
    | true => exact absurd ((a.inj x y).mp q) h
theorem o_eqD [DecidableEq α] [a : Da R] (hn : a.n ≤ 64 := by exact Nat.le_of_ble_eq_true rfl) : Op2 M (rEqD K) R R RB (fun x y z => z = decide (x = y)) (fun _ _ => True) := by
  intro x y v u H d rx ry _ Q q
  exact ⟨_, _, a.dp rx, a.dp ry, sh a hn x, sh a hn y, q _ _ H (.refl d) rfl (congrArg V.bl (eqv_dec (R := R) x y))⟩
theorem o_neD [DecidableEq α] [a : Da R] (hn : a.n ≤ 64 := by exact Nat.le_of_ble_eq_true rfl) : Op2 M (rNeD K) R R RB (fun x y z => z = !decide (x = y)) (fun _ _ => True) := by
  intro x y v u H d rx ry _ Q q
  exact ⟨_, _, a.dp rx, a.dp ry, sh a hn x, sh a hn y, q _ _ H (.refl d) rfl (congrArg (fun b => V.bl !b) (eqv_dec (R := R) x y))⟩
/-! ### displays of items of one kind -/
theorem ea_nilA : EvA M tNil σ H (All R) (Eq1 []) := fun H1 e Q q => q [] [] H1 (.refl e.dice) rfl .nil
theorem ea_consA [Mo M R] {ts : TA} {x : α} {xs : List α} (ha : Ev M ta σ H R (Eq1 x)) (hb : EvA M ts σ H (All R) (Eq1 xs)) : EvA M (tCons ta ts) σ H (All R) (Eq1 (x :: xs)) := fun H1 e Q q =>
  ha H1 e _ fun v x' H2 e2 a rx => hb H2 (e.trans e2) _ fun vs y H3 e3 b ry => q (v :: vs) (x :: xs) H3 (e2.trans e3) rfl (by
    cases (show x' = x from a); cases (show y = xs from b)
    exact Paired.cons (Mo.up (M := M) e3 rx) ry)
theorem EvA.imp {S : Rs β} {ts : TA} {A A' : β → Prop} (h : EvA M ts σ H S A) (k : ∀ x, A x → A' x) : EvA M ts σ H S A' := fun H1 e Q q => h H1 e Q fun v x H2 e2 a r => q v x H2 e2 (k x a) r
/-! ### statements -/
variable {D : Ends} {ts tr : TS} {tz : TA}
theorem st_seq {t1 t2 : TS} (h : t1 { D with nx := t2 D } σ H) : tSeq t1 t2 D σ H := h
theorem ev_set (d : DiceM M H) (h : Ev M te σ H R A) (k : ∀ v x H1, Xt M H H1 → A x → R x v H1 → D.nx (σ.set i (some v)) H1) : tAsg te (gName i) D σ H := h H (.refl d) _ k
theorem q_ifS {A : Bool → Prop} {w : TS} (d : DiceM M H) (h : EvT M t σ H A) (k1 : ∀ H1, Xt M H H1 → A true → ts { D with nx := w D } σ H1) (k2 : ∀ H1, Xt M H H1 → A false → tr { D with nx := w D } σ H1) : tSeq (tIfS t ts tr) w D σ H := q_if (D := { D with nx := w D }) d h k1 k2
/-- a, b = e -/
theorem q_un2 {e : TE} {w : TS} {j : Nat} {R : Rp α} {R' : Rp β} {C : α × β × Unit → Prop} [Mo M R] [Mo M R'] (d : DiceM M H) (h : Ev M e σ H (RT M (Cons R (Cons R' Nil))) C)
    (k : ∀ v u x y H1, Xt M H H1 → C (x, y, ()) → R x v H1 → R' y u H1 → w D ((σ.set i (some v)).set j (some u)) H1) : tSeq (tAsg e (gTup K 2 (gCons (gName i) (gCons (gName j) gNil)))) w D σ H :=
  h H (.refl d) _ fun v x H1 e1 c r => by
    obtain ⟨x1, x2, _⟩ := x
    obtain ⟨a, vs, rfl, n, ha, v1, r1, rfl, h1, v2, r2, rfl, h2, h3⟩ := r
    cases (show r2 = [] from h3)
    exact ⟨a, [v1, v2], rfl, .of ha, rfl, v1, [v2], rfl, v2, [], rfl, rfl, k v1 v2 x1 x2 H1 e1 c h1 h2⟩
theorem q_un3 {δ : Type} {e : TE} {w : TS} {j l : Nat} {R : Rp α} {R' : Rp β} {R'' : Rp δ} {C : α × β × δ × Unit → Prop} [Mo M R] [Mo M R'] [Mo M R''] (d : DiceM M H) (h : Ev M e σ H (RT M (Cons R (Cons R' (Cons R'' Nil)))) C)
    (k : ∀ v u s x y z H1, Xt M H H1 → C (x, y, z, ()) → R x v H1 → R' y u H1 → R'' z s H1 → w D (((σ.set i (some v)).set j (some u)).set l (some s)) H1) : tSeq (tAsg e (gTup K 3 (gCons (gName i) (gCons (gName j) (gCons (gName l) gNil))))) w D σ H :=
  h H (.refl d) _ fun v x H1 e1 c r => by
    obtain ⟨x1, x2, x3, _⟩ := x
    obtain ⟨a, vs, rfl, n, ha, v1, r1, rfl, h1, v2, r2, rfl, h2, v3, r3, rfl, h3, h4⟩ := r
    cases (show r3 = [] from h4)
    exact ⟨a, [v1, v2, v3], rfl, .of ha, rfl, v1, _, rfl, v2, _, rfl, v3, _, rfl, rfl, k v1 v2 v3 x1 x2 x3 H1 e1 c h1 h2 h3⟩
/-- one, two, three = a list of three -/
theorem q_unL3 {e : TE} {w : TS} {j l : Nat} {R : Rp α} [Mo M R] {C : List α → Prop} (d : DiceM M H) (h : Ev M e σ H (RL M (All R)) C) (hl : ∀ xs, C xs → xs.length = 3)
    (k : ∀ v u s x y z H1, Xt M H H1 → C [x, y, z] → R x v H1 → R y u H1 → R z s H1 → w D (((σ.set i (some v)).set j (some u)).set l (some s)) H1) : tSeq (tAsg e (gLst K 3 (gCons (gName i) (gCons (gName j) (gCons (gName l) gNil))))) w D σ H :=
  h H (.refl d) _ fun v xs H1 e1 c r => by
    obtain ⟨a, vs, rfl, n, ha, hr⟩ := r
    have hl3 := hl xs c
    match xs, hl3, hr, c with
    | [x1, x2, x3], _, hr, c =>
      have hr' : Paired (fun x v => R x v H1) [x1, x2, x3] vs := hr
      cases hr' with
      | cons a1 r1 => cases r1 with
        | cons a2 r2 => cases r2 with
          | cons a3 r3 => cases r3 with
            | nil => exact ⟨a, _, rfl, .of ha, rfl, _, _, rfl, _, _, rfl, _, _, rfl, rfl, k _ _ _ _ _ _ H1 e1 c a1 a2 a3⟩
/-- loops: an invariant over turns, slots, heaps -/
theorem l_rng1 {n : Int} {j : Nat} (d : DiceM M H) (h : EvA M tz σ H (Cons RI Nil) (fun q => q.1 = n)) (hn : n < 1000000) (Pv : Int → St → Hp → Prop) (h0 : ∀ H1, Xt M H H1 → Pv 0 σ H1)
    (hs : ∀ (i : Int) σ' H', 0 ≤ i → i < n → Pv i σ' H' → ts { D with nx := Pv (i + 1), ct := Pv (i + 1), bk := D.nx } (σ'.set j (some (.int i))) H') (hd : ∀ σ' H', (0 ≤ n → Pv n σ' H') → (n ≤ 0 → Pv 0 σ' H') → D.nx σ' H') (hlo : -1000000 < n) : tFor (iRng1 tz) (gName j) ts D σ H :=
  h H (.refl d) _ fun vs x H1 e1 hx ⟨v, r, e2, e3, e4⟩ => by
    cases (show r = [] from e4); cases (show v = V.int x.1 from e3); subst e2
    refine ⟨x.1, rfl, by omega, by omega, ?_⟩
    rw [hx]
    refine for_range (lo := 0) (n := n.toNat) (fun i σ' H' => Pv (i : Int) σ' H') (h0 H1 e1) (fun i σ' H' hi p => ?_) (fun σ' H' p => ?_)
    · have e0 : (0 : Int) + (i : Int) = (i : Int) := Int.zero_add _
      show ts _ (σ'.set j (some (.int ((0 : Int) + (i : Int))))) H'
      rw [e0]
      exact hs i σ' H' (by omega) (by omega) p
    · refine hd σ' H' (fun h => ?_) (fun h => ?_)
      · have : ((n.toNat : Nat) : Int) = n := by omega
        rwa [this] at p
      · have : ((n.toNat : Nat) : Int) = 0 := by omega
        rwa [this] at p
theorem l_rng2 {lo n : Int} {j : Nat} (d : DiceM M H) (h : EvA M tz σ H (Cons RI (Cons RI Nil)) (fun q => q.1 = lo ∧ q.2.1 = n)) (hn : lo ≤ n ∧ n < 1000000 ∧ -1000000 < lo) (Pv : Int → St → Hp → Prop) (h0 : ∀ H1, Xt M H H1 → Pv lo σ H1)
    (hs : ∀ (i : Int) σ' H', lo ≤ i → i < n → Pv i σ' H' → ts { D with nx := Pv (i + 1), ct := Pv (i + 1), bk := D.nx } (σ'.set j (some (.int i))) H') (hd : ∀ σ' H', Pv n σ' H' → D.nx σ' H') : tFor (iRng2 tz) (gName j) ts D σ H :=
  h H (.refl d) _ fun vs x H1 e1 hx ⟨v, r, e2, e3, w, r', e4, e5, e6⟩ => by
    obtain ⟨x1, x2, x3⟩ := x
    dsimp only at hx
    obtain ⟨rfl, rfl⟩ := hx
    cases (show r' = [] from e6); cases (show v = V.int x1 from e3); cases (show w = V.int x2 from e5); subst e4; subst e2
    refine ⟨x1, x2, rfl, by omega, ?_⟩
    refine for_range (lo := x1) (n := (x2 - x1).toNat) (fun i σ' H' => Pv (x1 + (i : Int)) σ' H') ?_ (fun i σ' H' hi p => ?_) (fun σ' H' p => hd σ' H' ?_)
    · have : x1 + ((0 : Nat) : Int) = x1 := by omega
      rw [this]; exact h0 H1 e1
    · have e0 : x1 + ((i + 1 : Nat) : Int) = x1 + (i : Int) + 1 := by omega
      rw [e0]
      exact hs (x1 + i) σ' H' (by omega) (by omega) p
    · have : x1 + (((x2 - x1).toNat : Nat) : Int) = x2 := by omega
      rwa [this] at p
/-- over a list, a tuple that stands in H -/
theorem l_seqL {xs : List α} {g : TG} {v0 : V} (d : DiceM M H) [Mo M R] (h : ∀ Q : VK, Q v0 H → tl σ H Q) (hr : RL M (All R) xs v0 H) (Pv : Nat → St → Hp → Prop) (h0 : Pv 0 σ H) (hst : ∀ i σ' H', Pv i σ' H' → Xt M H H')
    (hs : ∀ (i : Nat) v x σ' H', xs[i]? = some x → R x v H' → Pv i σ' H' → g v σ' H' fun σ2 H2 => ts { D with nx := Pv (i + 1), ct := Pv (i + 1), bk := D.nx } σ2 H2) (hd : ∀ σ' H', Pv xs.length σ' H' → D.nx σ' H') : tFor (iList K tl) g ts D σ H := by
  obtain ⟨a, ws, rfl, n, ha, hr⟩ := hr
  refine h _ ⟨a, rfl, ⟨ws, .of ha⟩, for_list (xs := ws) Pv h0 (fun i σ' H' _ p => .of ((hst i σ' H' p).keep a _ n ha)) (fun i v σ' H' hi p => ?_) (fun σ' H' p => ?_)⟩
  · obtain ⟨x, hx, rx⟩ := paired_at' hr hi
    exact hs i v x σ' H' hx (Mo.up (M := M) (hst i σ' H' p) rx) p
  · rw [paired_len hr] at p; exact hd σ' H' p
theorem l_seqT {xs : List α} {g : TG} {v0 : V} (d : DiceM M H) [Mo M R] (h : ∀ Q : VK, Q v0 H → tl σ H Q) (hr : RT M (All R) xs v0 H) (Pv : Nat → St → Hp → Prop) (h0 : Pv 0 σ H) (hst : ∀ i σ' H', Pv i σ' H' → Xt M H H')
    (hs : ∀ (i : Nat) v x σ' H', xs[i]? = some x → R x v H' → Pv i σ' H' → g v σ' H' fun σ2 H2 => ts { D with nx := Pv (i + 1), ct := Pv (i + 1), bk := D.nx } σ2 H2) (hd : ∀ σ' H', Pv xs.length σ' H' → D.nx σ' H') : tFor (iTup K tl) g ts D σ H := by
  obtain ⟨a, ws, rfl, n, ha, hr⟩ := hr
  refine h _ ⟨a, rfl, ⟨ws, .of ha⟩, for_tup (xs := ws) Pv h0 (fun i σ' H' _ p => .of ((hst i σ' H' p).keep a _ n ha)) (fun i v σ' H' hi p => ?_) (fun σ' H' p => ?_)⟩
  · obtain ⟨x, hx, rx⟩ := paired_at' hr hi
    exact hs i v x σ' H' hx (Mo.up (M := M) (hst i σ' H' p) rx) p
  · rw [paired_len hr] at p; exact hd σ' H' p
end
end GE

/-! GI: instances, defs in standard form, one value each. -/
namespace GE
open PySem PySem.Spec PyProof.Rows L2 GB
/-- the dice as an argument -/
def RD (M : Option Addr) : Rp Addr := fun d v _ => v = .ref d ∧ M = some d
/-- a promise in standard form, whatever the dice -/
def FnM {α γ : Type} (S : Option Addr → Rs α) (R'' : Option Addr → Rp γ) (pre : α → Prop) (f : α → γ → Prop) : Sp := fun vs H Q E => ∃ M, Fn M (S M) (R'' M) pre f vs H Q E
class Mfs {α : Type} (F : α → List (Str × V) → Hp → Prop) (M : Option Addr) : Prop where
  up : ∀ {x fs H H'}, Xt M H H' → F x fs H → F x fs H'
class Mlf {α : Type} (F : α → List (Str × V) → Hp → Prop) : Prop where
  l : ∀ {x fs H D vs vs'}, H D = some (.lst vs) → F x fs H → F x fs (upd H D (.lst vs'))
section
variable {M : Option Addr} {σ : St} {H : Hp} {te ta tb tc tl : TE} {t u : TT} {α β γ : Type} {R : Rp α} {R' : Rp β} {R'' : Rp γ} {A : α → Prop} {B : β → Prop} {i : Nat} {K : Frag} {X : Cx} {E : XK} {ts : TA}
instance : Mo M (RD M) := ⟨fun _ h => h⟩
instance {F : α → List (Str × V) → Hp → Prop} {C : Addr} [Mfs F M] : Mo M (RO M C F) := ⟨fun e ⟨a, dx, fs, h1, h2, h3, h4⟩ => ⟨a, dx, fs, h1, h2, e.keep _ _ h2 h3, Mfs.up (M := M) e h4⟩⟩
instance {F : α → List (Str × V) → Hp → Prop} {C : Addr} [Mlf F] : Ml (RO M C F) := ⟨fun e ⟨a, dx, fs, h1, h2, h3, h4⟩ => ⟨a, dx, fs, h1, h2, by rw [upd_ne (ne_of h3 e (by intro z; cases z))]; exact h3, Mlf.l e h4⟩⟩
theorem ea_cons1 [Mo M R] {S : Rs β} {x : α} {y : β} (ha : Ev M ta σ H R (Eq1 x)) (hb : EvA M ts σ H S (Eq1 y)) : EvA M (tCons ta ts) σ H (Cons R S) (Eq1 (x, y)) := (ea_cons ha hb).imp fun p ⟨h1, h2⟩ => Prod.ext h1 h2
theorem ev_d1 {S : Option Addr → Rs β} {R'' : Option Addr → Rp γ} {f : β → γ → Prop} {pre : β → Prop} {x : β} (ha : EvA M ts σ H (S M) (Eq1 x)) (hp : pre x) : Ev M (tD (FnM S R'' pre f) E ts) σ H (R'' M) (fun z => f x z) :=
  (ev_d (fun _ _ _ _ h => ⟨M, h⟩) ha (by rintro _ rfl; exact hp)).imp (by rintro z ⟨_, rfl, h⟩; exact h)
theorem ev_dS {S : Option Addr → Rs β} {R'' : Option Addr → Rp γ} {f : β → γ → Prop} {pre : β → Prop} (ha : EvA M ts σ H (S M) B) (hp : ∀ x, B x → pre x) : Ev M (tD (FnM S R'' pre f) E ts) σ H (R'' M) (fun z => ∃ x, B x ∧ f x z) :=
  ev_d (fun _ _ _ _ h => ⟨M, h⟩) ha hp
theorem ev_cb1 {S : Rs β} {r : List V → Hp → VK → Prop} {f : β → γ → Prop} {pre : β → Prop} {x : β} (hc : Cl M r S R'' f pre) (ha : EvA M ts σ H S (Eq1 x)) (hp : pre x) : Ev M (tCB r ts) σ H R'' (fun z => f x z) :=
  (ev_cb hc ha (by rintro _ rfl; exact hp)).imp (by rintro z ⟨_, rfl, h⟩; exact h)
theorem ev_cbf {S : Rs β} {r : List V → Hp → VK → Prop} {F : β → γ} {x : β} (hc : Cl M r S R'' (fun p z => z = F p) (fun _ => True)) (ha : EvA M ts σ H S (Eq1 x)) : Ev M (tCB r ts) σ H R'' (Eq1 (F x)) := ev_cb1 (f := fun p z => z = F p) (pre := fun _ => True) hc ha trivial
/-- a promise of one value -/
abbrev FnF {α γ : Type} (S : Option Addr → Rs α) (R'' : Option Addr → Rp γ) (pre : α → Prop) (F : α → γ) : Sp := FnM S R'' pre fun p z => z = F p
theorem ev_df {S : Option Addr → Rs β} {R'' : Option Addr → Rp γ} {F : β → γ} {pre : β → Prop} {x : β} (ha : EvA M ts σ H (S M) (Eq1 x)) (hp : pre x) : Ev M (tD (FnF S R'' pre F) E ts) σ H (R'' M) (Eq1 (F x)) := ev_d1 (f := fun p z => z = F p) ha hp
theorem ev_cbt {S : Rs β} {r : List V → Hp → VK → Prop} {f : β → γ → Prop} {x : β} (hc : Cl M r S R'' f (fun _ => True)) (ha : EvA M ts σ H S (Eq1 x)) : Ev M (tCB r ts) σ H R'' (fun z => f x z) := ev_cb1 hc ha trivial
theorem ev_opt [Mo M R] {r : R2} {f : α → β → γ} {x : α} {y : β} (ho : Op2 M r R R' R'' (fun x y z => z = f x y) (fun _ _ => True)) (ha : Ev M ta σ H R (Eq1 x)) (hb : Ev M tb σ H R' (Eq1 y)) : Ev M (tOp r ta tb) σ H R'' (Eq1 (f x y)) := ev_op1 ho ha hb trivial
/-- a relation's value, where it is one -/
theorem ev_opf [Mo M R] {r : R2} {f : α → β → γ → Prop} {pre : α → β → Prop} {x : α} {y : β} {z : γ} (ho : Op2 M r R R' R'' f pre) (ha : Ev M ta σ H R (Eq1 x)) (hb : Ev M tb σ H R' (Eq1 y)) (hp : pre x y) (hz : ∀ w, f x y w → w = z) : Ev M (tOp r ta tb) σ H R'' (Eq1 z) :=
  (ev_op ho ha hb (by rintro _ _ rfl rfl; exact hp)).imp (by rintro w ⟨_, rfl, _, rfl, h⟩; exact hz w h)
/-! ### instances -/
/-- o.f, an attribute -/
theorem ev_fld {C : Addr} {F : α → List (Str × V) → Hp → Prop} {f : Str} {g : α → γ} (c : Cls K C) (n : NoAttr K C f) (hf : ∀ x fs H, F x fs H → ∃ v, fs.lookup f = some v ∧ R'' (g x) v H) (ha : Ev M ta σ H (RO M C F) A) :
    Ev M (tFld K ta f) σ H R'' (fun z => ∃ x, A x ∧ z = g x) := fun H1 e Q q =>
  ha H1 e _ fun v x H2 e2 a ⟨p, dx, fs, h1, h2, h3, h4⟩ => by
    obtain ⟨w, l, r⟩ := hf x fs H2 h4
    exact ⟨p, C, dx, fs, w, h1, h3, c, n, l, q w (g x) H2 e2 ⟨x, a, rfl⟩ r⟩
theorem ev_fld1 {C : Addr} {F : α → List (Str × V) → Hp → Prop} {f : Str} {g : α → γ} {x : α} (c : Cls K C) (n : NoAttr K C f) (hf : ∀ x fs H, F x fs H → ∃ v, fs.lookup f = some v ∧ R'' (g x) v H) (ha : Ev M ta σ H (RO M C F) (Eq1 x)) :
    Ev M (tFld K ta f) σ H R'' (Eq1 (g x)) := (ev_fld c n hf ha).imp (by rintro z ⟨_, rfl, h⟩; exact h)
/-- o.f, a property by its getter's promise -/
theorem ev_pr {C : Addr} {F : α → List (Str × V) → Hp → Prop} {R'' : Option Addr → Rp γ} {f : α × Unit → γ → Prop} {pre : α × Unit → Prop} {x : α} [Mfs F M] (ha : Ev M ta σ H (RO M C F) (Eq1 x)) (hp : pre (x, ())) :
    Ev M (tPr C (FnM (fun M => Cons (RO M C F) Nil) R'' pre f) E ta) σ H (R'' M) (fun z => f (x, ()) z) := fun H1 e Q q =>
  ha H1 e _ fun v y H2 e2 a r => by
    cases (show y = x from a)
    obtain ⟨p, dx, fs, h1, h2, h3, h4⟩ := id r
    subst h1
    exact ⟨p, dx, fs, rfl, h3, M, (x, ()), e2.dice, ⟨_, [], rfl, r, rfl⟩, hp, fun w z H3 e3 hz rz => q w z H3 (e2.trans e3) hz rz⟩
theorem ev_prf {C : Addr} {F : α → List (Str × V) → Hp → Prop} {R'' : Option Addr → Rp γ} {g : α × Unit → γ} {pre : α × Unit → Prop} {x : α} [Mfs F M] (ha : Ev M ta σ H (RO M C F) (Eq1 x)) (hp : pre (x, ())) :
    Ev M (tPr C (FnF (fun M => Cons (RO M C F) Nil) R'' pre g) E ta) σ H (R'' M) (Eq1 (g (x, ()))) := ev_pr (f := fun p z => z = g p) ha hp
/-- o.m(..) -/
theorem ev_me {C : Addr} {m : Str} {F : α → List (Str × V) → Hp → Prop} {S : Option Addr → Rs β} {R'' : Option Addr → Rp γ} {f : α × β → γ → Prop} {pre : α × β → Prop} [Mfs F M] (hm : ∀ x fs H, F x fs H → fs.lookup m = none)
    (ha : Ev M ta σ H (RO M C F) A) (hb : EvA M ts σ H (S M) B) (hp : ∀ x y, A x → B y → pre (x, y)) :
    Ev M (tMe C m (FnM (fun M => Cons (RO M C F) (S M)) R'' pre f) E ta ts) σ H (R'' M) (fun z => ∃ x, A x ∧ ∃ y, B y ∧ f (x, y) z) := fun H1 e Q q =>
  ha H1 e _ fun v x H2 e2 a r => by
    obtain ⟨p, dx, fs, h1, h2, h3, h4⟩ := id r
    subst h1
    exact ⟨p, dx, fs, rfl, h3, hm x fs H2 h4, hb H2 (e.trans e2) _ fun vs y H3 e3 b ry =>
      ⟨M, (x, y), e3.dice, ⟨_, vs, rfl, Mo.up (M := M) e3 r, ry⟩, hp x y a b, fun w z H4 e4 hz rz => q w z H4 ((e2.trans e3).trans e4) ⟨x, a, y, b, hz⟩ rz⟩⟩
theorem ev_me1 {C : Addr} {m : Str} {F : α → List (Str × V) → Hp → Prop} {S : Option Addr → Rs β} {R'' : Option Addr → Rp γ} {f : α × β → γ → Prop} {pre : α × β → Prop} [Mfs F M] {x : α} {y : β} (hm : ∀ x fs H, F x fs H → fs.lookup m = none)
    (ha : Ev M ta σ H (RO M C F) (Eq1 x)) (hb : EvA M ts σ H (S M) (Eq1 y)) (hp : pre (x, y)) :
    Ev M (tMe C m (FnM (fun M => Cons (RO M C F) (S M)) R'' pre f) E ta ts) σ H (R'' M) (fun z => f (x, y) z) :=
  (ev_me hm ha hb (by rintro _ _ rfl rfl; exact hp)).imp (by rintro z ⟨_, rfl, _, rfl, h⟩; exact h)
theorem ev_mef {C : Addr} {m : Str} {F : α → List (Str × V) → Hp → Prop} {S : Option Addr → Rs β} {R'' : Option Addr → Rp γ} {g : α × β → γ} {pre : α × β → Prop} [Mfs F M] {x : α} {y : β} (hm : ∀ x fs H, F x fs H → fs.lookup m = none)
    (ha : Ev M ta σ H (RO M C F) (Eq1 x)) (hb : EvA M ts σ H (S M) (Eq1 y)) (hp : pre (x, y)) :
    Ev M (tMe C m (FnF (fun M => Cons (RO M C F) (S M)) R'' pre g) E ta ts) σ H (R'' M) (Eq1 (g (x, y))) := ev_me1 (f := fun p z => z = g p) hm ha hb hp
/-- f(..), f an instance -/
theorem ev_ci1 {C : Addr} {F : α → List (Str × V) → Hp → Prop} {S : Option Addr → Rs β} {R'' : Option Addr → Rp γ} {f : α × β → γ → Prop} {pre : α × β → Prop} [Mfs F M] {x : α} {y : β}
    (ha : Ev M ta σ H (RO M C F) (Eq1 x)) (hb : EvA M ts σ H (S M) (Eq1 y)) (hp : pre (x, y)) :
    Ev M (tCI C (FnM (fun M => Cons (RO M C F) (S M)) R'' pre f) E ta ts) σ H (R'' M) (fun z => f (x, y) z) := fun H1 e Q q =>
  ha H1 e _ fun v x' H2 e2 a r => by
    cases (show x' = x from a)
    obtain ⟨p, dx, fs, h1, h2, h3, h4⟩ := id r
    subst h1
    exact ⟨p, rfl, hb H2 (e.trans e2) _ fun vs y' H3 e3 b ry => by
      cases (show y' = y from b)
      exact ⟨⟨dx, fs, e3.keep _ _ h2 h3⟩, M, (x, y), e3.dice, ⟨_, vs, rfl, Mo.up (M := M) e3 r, ry⟩, hp, fun w z H4 e4 hz rz => q w z H4 ((e2.trans e3).trans e4) hz rz⟩⟩
theorem ev_cif {C : Addr} {F : α → List (Str × V) → Hp → Prop} {S : Option Addr → Rs β} {R'' : Option Addr → Rp γ} {g : α × β → γ} {pre : α × β → Prop} [Mfs F M] {x : α} {y : β}
    (ha : Ev M ta σ H (RO M C F) (Eq1 x)) (hb : EvA M ts σ H (S M) (Eq1 y)) (hp : pre (x, y)) :
    Ev M (tCI C (FnF (fun M => Cons (RO M C F) (S M)) R'' pre g) E ta ts) σ H (R'' M) (Eq1 (g (x, y))) := ev_ci1 (f := fun p z => z = g p) ha hb hp
/-- x op y, both instances -/
theorem o_own {C : Addr} {F : α → List (Str × V) → Hp → Prop} [Mfs F M] {R'' : Option Addr → Rp γ} {f : α × α × Unit → γ → Prop} {pre : α × α × Unit → Prop} :
    Op2 M (rOp C (FnM (fun M => Cons (RO M C F) (Cons (RO M C F) Nil)) R'' pre f) E) (RO M C F) (RO M C F) (R'' M) (fun x y z => f (x, y, ()) z) (fun x y => pre (x, y, ())) := by
  intro x y v u H d rx ry hp Q q
  obtain ⟨p, dx, fs, h1, h2, h3, h4⟩ := id rx
  obtain ⟨p', dx', fs', h1', h2', h3', h4'⟩ := id ry
  subst h1 h1'
  exact ⟨p, dx, fs, p', dx', fs', rfl, rfl, h3, h3', M, (x, y, ()), d, ⟨_, _, rfl, rx, _, _, rfl, ry, rfl⟩, hp, q⟩
theorem o_ownf {C : Addr} {F : α → List (Str × V) → Hp → Prop} [Mfs F M] {R'' : Option Addr → Rp γ} {g : α × α × Unit → γ} {pre : α × α × Unit → Prop} :
    Op2 M (rOp C (FnF (fun M => Cons (RO M C F) (Cons (RO M C F) Nil)) R'' pre g) E) (RO M C F) (RO M C F) (R'' M) (fun x y z => z = g (x, y, ())) (fun x y => pre (x, y, ())) := o_own (f := fun p z => z = g p)
theorem o_eqO {C : Addr} {F : α → List (Str × V) → Hp → Prop} [Mfs F M] {R'' : Option Addr → Rp γ} {f : α × α × Unit → γ → Prop} {pre : α × α × Unit → Prop} :
    Op2 M (rEqO K C (FnM (fun M => Cons (RO M C F) (Cons (RO M C F) Nil)) R'' pre f) E) (RO M C F) (RO M C F) (R'' M) (fun x y z => f (x, y, ()) z) (fun x y => pre (x, y, ())) := by
  intro x y v u H d rx ry hp Q q
  obtain ⟨p, dx, fs, h1, h2, h3, h4⟩ := id rx
  obtain ⟨p', dx', fs', h1', h2', h3', h4'⟩ := id ry
  subst h1 h1'
  exact ⟨p, dx, fs, p', dx', fs', rfl, rfl, h3, h3', M, (x, y, ()), d, ⟨_, _, rfl, rx, _, _, rfl, ry, rfl⟩, hp, q⟩
theorem o_eqOf {C : Addr} {F : α → List (Str × V) → Hp → Prop} [Mfs F M] {R'' : Option Addr → Rp γ} {g : α × α × Unit → γ} {pre : α × α × Unit → Prop} :
    Op2 M (rEqO K C (FnF (fun M => Cons (RO M C F) (Cons (RO M C F) Nil)) R'' pre g) E) (RO M C F) (RO M C F) (R'' M) (fun x y z => z = g (x, y, ())) (fun x y => pre (x, y, ())) := o_eqO (f := fun p z => z = g p)
end
section
variable {M : Option Addr} {σ : St} {H : Hp} {te ta tb : TE} {t : TT} {α : Type} {R : Rp α}
theorem ev_ifE {b : Bool} {x y : α} (h : EvT M t σ H (Eq1 b)) (h1 : b = true → Ev M ta σ H R (Eq1 x)) (h2 : b = false → Ev M tb σ H R (Eq1 y)) : Ev M (tIf t ta tb) σ H R (Eq1 (if b = true then x else y)) := fun H1 e Q q => h H1 e _ fun c H2 e2 hc => by
  subst hc
  cases c with
  | true => exact h1 rfl H2 (e.trans e2) _ fun w d H3 e3 hd rd => q w d H3 (e2.trans e3) hd rd
  | false => exact h2 rfl H2 (e.trans e2) _ fun w d H3 e3 hd rd => q w d H3 (e2.trans e3) hd rd
theorem et_yes : EvT M tYes σ H (Eq1 true) := fun H1 e Q q => q true H1 (.refl e.dice) rfl
end
theorem px0 {X : Cx} {s H sc cenv fp} : Passes (L2.CX X.prog X.w) (X.blk s H sc cenv fp) E0 := fun _ _ _ _ _ _ _ ⟨_, _, _, _, _, _, _, _, _, _, _, _, h⟩ => h.elim
theorem px0n {X : Cx} : Passes (L2.CX X.prog X.w) X.nox E0 := fun _ _ _ _ _ _ _ ⟨_, _, _, _, _, _, _, _, _, _, _, _, h⟩ => h.elim
/-! ### defs of the text -/
abbrev FunP (N : En) (x : Str) (st : Stmt) : Prop := (∃ fd, FunD N.K x x (defArgs st) (defBody st) (defScope st) [] [] (N.ga x) fd) ∧ N.mg x = some (.ref (N.ga x))
abbrev FunM (N : En) (C m q : Str) (st : Stmt) : Prop := (∃ fd, FunD N.K m q (defArgs st) (defBody st) (defScope st) [] [] (N.ma C m) fd) ∧ Meth N.K (N.ga C) m (N.ma C m) ∧ Cls N.K (N.ga C)
/-- what a body's proof gives: the walk from the arguments -/
abbrev Body (N : En) (k : Nat) (q : Str) (f : Addr) (st : Stmt) (Ns : List Str) (sp : Sp) : Prop := ∀ (cdv : Value) (A : Around) (outer : List Env) (s : Shared) (H : Hp) (vs : List V) (Q : VK) (E : XK), Room k (A.deeper (envOfC q (defScope st) s.heap.objs.size f cdv)) → sp vs H Q E →
      ∃ t, PSs (cxOf (L2.CX N.P N.w) N.P N.w N.K N.mg N.base Ns q (defScope st) f cdv A outer s H E) (defBody st) t ∧ t { nx := fun _ H' => Q .non H', rt := Q } (start Ns vs) H
theorem dn_mk {N : En} {k : Nat} {x : Str} {st : Stmt} {Ns ps : List Str} {sp : Sp} (F : FunP N x st) (S : FnScope Ns ps (defScope st))
    (bd : ∀ (kV doc pm : Value) (an : Option Addr) (cdv ct : Value) (us : List Value), us.length = ps.length → bindArgs (PySem.W.fnOf x x (defArgs st) (defBody st) (defScope st) .none kV doc pm an cdv ct) ⟨us, []⟩ = pure (ps.zip us))
    (len : ∀ vs H Q E, sp vs H Q E → vs.length = ps.length) (body : Body N k x (N.ga x) st Ns sp) : Dn N (k + 1) x sp := by
  obtain ⟨⟨fd, F⟩, g⟩ := F
  have z := (F.ok S len body : FnOk N.P N.w N.K N.mg N.base (L2.CX N.P N.w) (k + 1) _ fd ps sp).raw (F.bindsN bd) .nil
  exact ⟨z.imp fun vs H Q E q => by rw [List.append_nil]; exact q, g, F.kp⟩
theorem dm_mk {N : En} {k : Nat} {C m q : Str} {st : Stmt} {Ns ps : List Str} {sp : Sp} (F : FunM N C m q st) (S : FnScope Ns ps (defScope st))
    (bd : ∀ (kV doc pm : Value) (an : Option Addr) (cdv ct : Value) (us : List Value), us.length = ps.length → bindArgs (PySem.W.fnOf m q (defArgs st) (defBody st) (defScope st) .none kV doc pm an cdv ct) ⟨us, []⟩ = pure (ps.zip us))
    (len : ∀ vs H Q E, sp vs H Q E → vs.length = ps.length) (body : Body N k q (N.ma C m) st Ns sp) : Dm N (k + 1) C m sp := by
  obtain ⟨⟨fd, F⟩, g, c⟩ := F
  have z := (F.ok S len body : FnOk N.P N.w N.K N.mg N.base (L2.CX N.P N.w) (k + 1) _ fd ps sp).raw (F.bindsN bd) .nil
  exact ⟨z.imp fun vs H Q E q => by rw [List.append_nil]; exact q, g, c⟩
theorem Dn.imp {N : En} {k : Nat} {x : Str} {sp sp' : Sp} (D : Dn N k x sp) (h : ∀ vs H Q E, sp' vs H Q E → sp vs H Q E) : Dn N k x sp' := ⟨D.fn.imp h, D.g, D.kp⟩
theorem Dm.imp {N : En} {k : Nat} {C m : Str} {sp sp' : Sp} (D : Dm N k C m sp) (h : ∀ vs H Q E, sp' vs H Q E → sp vs H Q E) : Dm N k C m sp' := ⟨D.fn.imp h, D.m, D.c⟩
end GE

/-! GJ: != by an own ==; isinstance; more rules. -/
namespace GE
open PySem PySem.Spec PyProof.Rows L2 GB
section
variable {prog : Program} {w : World} {A : Around} {E : Value → Shared → Prop} {s : Shared} {K : Frag} {x C f : Addr} {ox : Obj} {od : Option Obj} {b tb : Value}
theorem check_ne {Q : Unit → Shared → Prop} (X : K.In s.heap) (I : PySem.W.InstAt s.heap x ox C od) (hm : PySem.W.subIn K (.ref C) (.type "object") = some true) (h : Q () s) :
    wpAny (model prog w) A (checkBuiltinCall "object.__ne__" ⟨[.ref x, b], []⟩) Q E s := by
  have L : PySem.W.Looks (model prog w) s.heap (isSubtype (.ref C) (.type "object")) true := PySem.W.looks_subIn X hm
  simp only [checkBuiltinCall, PySem.F.cmpKind_ne, PySem.F.cmpSplit_ne]
  refine wpAny_bind ?_
  unfold isInstance
  refine wpAny_bind (I.type.here (L.here ?_))
  have ha := PySem.F.cmpArgs_ne (.ref x) b
  rw [if_neg (by simp)]
  cases hsig : Manifest.signature? "object.__ne__" with
  | none => exact wpAny_pure h
  | some sig =>
    simp only [argsOk, hsig] at ha
    have h2 : Bind.checkArgs "object.__ne__" sig ⟨[.ref x, b], []⟩ = pure () := ha
    show wpAny _ A (Bind.checkArgs "object.__ne__" sig ⟨[.ref x, b], []⟩) Q E _
    rw [h2]; exact wpAny_pure h
theorem ne_K {Q : Bool → Shared → Prop} (hu : A.units + 1 < cLine) (X : K.In s.heap) (I : PySem.W.InstAt s.heap x ox C od) (hb : PySem.W.Looks (model prog w) s.heap (typeOf b) tb) (hn : PySem.W.notFirst K C tb = true)
    (hm : PySem.W.subIn K (.ref C) (.type "object") = some true) (hne : PySem.W.findIn K (.ref C) "__ne__" = some (some (.builtin "object.__ne__"))) (hs : PySem.W.findIn K (.ref C) "__eq__" = some (some (.ref f))) (hf : PySem.W.isFn K (.ref f) = true)
    (h : wpAny (model prog w) A.in1 (call (.ref f) [.ref x, b]) (fun v s' => ∃ r, v = .bool r ∧ Q r s') E s) : wpAny (model prog w) A (richCompare .NotEq (.ref x) b) (fun v s' => ∃ r, v = .bool (!r) ∧ Q r s') E s := by
  have call_ne : wpAny (model prog w) A (call (.builtin "object.__ne__") [.ref x, b]) (fun v s' => ∃ r, v = .bool (!r) ∧ Q r s') E s := by
    refine wpAny_call (codeAny_call_builtin (PySem.F.slot_object_ne).plain PySem.F.cmpEntry_ne (check_ne X I hm ?_))
    unfold Builtin.«object.__ne__»
    repeat (first | with_reducible refine wpAny_cRoomFor (show A.in1.units < cLine from hu) ?_ | (with_reducible refine wpAny_bind (PySem.W.ifBound_K X I hs hf (wpAny_mono h (fun v s' hv => ?_) fun _ _ e => e))) | wp_step)
    obtain ⟨r, rfl, hq⟩ := hv
    repeat (first | with_reducible refine wpAny_truthy_bool ?_ | wp_step)
    exact ⟨r, rfl, hq⟩
  have one : wpAny (model prog w) A (tryCompare (.ref x) "__ne__" b) (fun r s' => ∃ v, r = some v ∧ ∃ r, v = .bool (!r) ∧ Q r s') E s := by
    unfold tryCompare callSpecialIfBound? bindSpecialIfBound?
    refine wpAny_bind (wpAny_holding (wpAny_bind (wpAny_bind (wpAny_bind (I.type.here ((PySem.W.looks_findIn X hne).here ?_))))))
    have bd : bindSpecial (.builtin "object.__ne__") (.ref x) = pure (.builtin "object.__ne__", [.ref x]) := PySem.F.slot_object_ne.bind _
    dsimp only
    rw [bd]
    have fin : wpAny (model prog w) A (call (.builtin "object.__ne__") ([.ref x] ++ [b]) >>= fun v => pure (some v)) (fun a s' => wpAny (model prog w) A (match a with
            | some Value.notImplemented => pure none
            | none => pure none
            | some v => pure (some v)) (fun r s' => ∃ v, r = some v ∧ ∃ r, v = Value.bool !r ∧ Q r s') E s') E s := by
      refine wpAny_bind (wpAny_mono call_ne (fun v s' hv => ?_) fun _ _ e => e)
      obtain ⟨r, rfl, hq⟩ := hv
      exact wpAny_pure (wpAny_pure ⟨_, rfl, r, rfl, hq⟩)
    refine wpAny_bind (wpAny_askSetting (wpAny_ite ?_))
    split
    · exact wpAny_bind (wpAny_pure (wpAny_pure (by exact fin)))
    · exact wpAny_tryCatch (wpAny_bind (wpAny_pure (wpAny_pure (by exact fin))))
  unfold richCompare
  simp only [oneThing_ref]
  refine wpAny_holding (wpAny_bind (wpAny_cRoomFor (Nat.lt_of_succ_lt hu) ?_))
  refine wpAny_bind (I.type.here (wpAny_bind (hb.here ?_)))
  have e2 : (cmpInfo .NotEq).2.1 = ("__ne__" : Str) := rfl
  split
  · rename_i q
    have e : PySem.W.subIn K tb (.ref C) = some false := by
      rcases Bool.or_eq_true_iff.mp hn with e | e
      · rw [beq_iff_eq.mp e] at q; simp at q
      · exact beq_iff_eq.mp e
    refine wpAny_bind ((PySem.W.looks_subIn X e).here ?_)
    simp only [Bool.false_eq_true, if_false]
    refine wpAny_bind (wpAny_mono one (fun r s' z => ?_) fun _ _ e => e)
    obtain ⟨v, rfl, hq⟩ := z
    exact wpAny_pure hq
  · refine wpAny_bind (wpAny_pure ?_)
    simp only [Bool.false_eq_true, if_false]
    refine wpAny_bind (wpAny_mono one (fun r s' z => ?_) fun _ _ e => e)
    obtain ⟨v, rfl, hq⟩ := z
    exact wpAny_pure hq
end
/-- what != asks of the class, besides its == -/
structure NeC (K : Frag) (C : Addr) : Prop where
  hm : PySem.W.subIn K (.ref C) (.type "object") = some true
  hne : PySem.W.findIn K (.ref C) "__ne__" = some (some (.builtin "object.__ne__"))
/-- what isinstance asks of the class -/
structure IsC (K : Frag) (C : Addr) : Prop where
  ha : PySem.W.findIn K (.ref C) "__class__" = some (some (.builtin "object.__class__"))
  hn : PySem.W.specialIn K (.builtin "object.__class__") "__get__" = some (some (.builtin "getset_descriptor.__get__"))
  ht : PySem.W.takesIn K (.builtin "object.__class__") = some true
  hm : PySem.W.mroIn K C (.type "object") = some true
def rNeO (C : Addr) (sp : Sp) (E : XK) : R2 := fun x y H Q => ∃ a dx fs b dy gs, x = .ref a ∧ y = .ref b ∧ H a = some (.ins C dx fs) ∧ H b = some (.ins C dy gs) ∧ sp [x, y] H (fun z H' => ∃ r, z = .bl r ∧ Q (.bl (!r)) H') E
section
variable {X : Cx} {k : Nat} {C : Str} {sp : Sp} {E : XK} {M : Option Addr} {σ : St} {H : Hp} {te ta tb tc tl : TE} {t u : TT} {α β γ : Type} {R : Rp α} {R' : Rp β} {R'' : Rp γ} {A : α → Prop} {B : β → Prop} {i : Nat} {K : Frag} {ts : TA}
theorem op_neO (D : Dm (En.of X) k C "__eq__" sp) (nc : NeC X.K (He.ga X.K C)) (hr : Room (k + 1) X.A) (hx : Passes (L2.CX X.prog X.w) X E) : OpR X (compareOp .NotEq) (rNeO (He.ga X.K C) sp E) := by
  intro pins s σ H x y v u Q I rx ry h
  obtain ⟨a, dx, fs, b, dy, gs, rfl, rfl, ha, hb, q⟩ := h
  cases (show v = Value.ref a from rx)
  cases (show u = Value.ref b from ry)
  obtain ⟨mA, J, _⟩ := ins_get I.hok ha
  obtain ⟨mB, J', _⟩ := ins_get I.hok hb
  obtain ⟨od, J, _⟩ := J.look
  obtain ⟨od', J', _⟩ := J'.look
  show wpAny _ _ (richCompare .NotEq _ _) _ _ _
  have hu : X.A.units + 1 < cLine := by have := hr.units; omega
  refine wpAny_mono (ne_K (Q := fun r s' => ∃ H', Inv X pins σ H' s' ∧ Q (.bl (!r)) H') hu I.kIn J J'.type (by simp [PySem.W.notFirst]) nc.hm nc.hne D.m.at_ D.m.fn ?_) (fun w s' z => ?_) fun _ _ x => x
  · refine wpAny_mono (wpAny_call (SlX.run_at (us := [.ref a, .ref b]) (ws := [.ref a, .ref b]) D.fn (show Room k X.A.in1 from hr.in1) I.env0.in1 hx I (.cons rfl (.cons rfl .nil)) q)) (fun w s' z => ?_) fun _ _ x => x
    obtain ⟨z', H', I', rz, r, ez, qz⟩ := z
    subst ez
    exact ⟨r, rz, H', I', qz⟩
  · obtain ⟨r, e, H', I', q'⟩ := z
    exact ⟨.bl (!r), H', I', e, q'⟩
theorem o_neOf {C : Addr} {F : α → List (Str × V) → Hp → Prop} [Mfs F M] {g : α × α × Unit → Bool} {pre : α × α × Unit → Prop} :
    Op2 M (rNeO C (FnF (fun M => Cons (RO M C F) (Cons (RO M C F) Nil)) (fun _ => RB) pre g) E) (RO M C F) (RO M C F) RB (fun x y z => z = !g (x, y, ())) (fun x y => pre (x, y, ())) := by
  intro x y v u H d rx ry hp Q q
  obtain ⟨p, dx, fs, h1, h2, h3, h4⟩ := id rx
  obtain ⟨p', dx', fs', h1', h2', h3', h4'⟩ := id ry
  subst h1 h1'
  refine ⟨p, dx, fs, p', dx', fs', rfl, rfl, h3, h3', M, (x, y, ()), d, ⟨_, _, rfl, rx, _, _, rfl, ry, rfl⟩, hp, fun w z H2 e2 hz rz => ?_⟩
  exact ⟨z, rz, q (.bl (!z)) (!z) H2 e2 (congrArg (!·) hz) rfl⟩
/-! ### isinstance -/
theorem c_isi {t u : Value} {c : V} {b : Bool} (hc : ClsV c u) (hk : PySem.W.kitOne K t u = some b) (hty : ∀ x v H, R x v H → TyX K H v t) :
    Cl M (rIsi K) (Cons R (Cons RV Nil)) RB (fun _ z => z = b) (fun p => p.2.1 = c) := by
  rintro ⟨x, y, _⟩ vs H d ⟨v, r, rfl, rx, w, r', rfl, rw', rfl⟩ hp Q q
  have e1 : y = c := hp
  have e2 : w = y := rw'
  subst e2
  subst e1
  exact ⟨v, w, t, u, b, rfl, hc, hty _ _ _ rx, hk, q _ b H (.refl d) rfl rfl⟩
theorem ty_int {x v H} (h : RI x v H) : TyX K H v (.type "int") := by cases (show v = V.int x from h); exact .base (.int x)
theorem ty_bl {x v H} (h : RB x v H) : TyX K H v (.type "bool") := by cases (show v = V.bl x from h); exact .base (.bl x)
theorem ty_tup {S : Rs β} {x v H} (h : RT M S x v H) : TyX K H v (.type "tuple") := by obtain ⟨a, vs, rfl, _, h, _⟩ := h; exact .base (.tup h)
theorem ty_lst {S : Rs β} {x v H} (h : RL M S x v H) : TyX K H v (.type "list") := by obtain ⟨a, vs, rfl, _, h, _⟩ := h; exact .base (.lst h)
theorem ty_ins {C : Addr} {F : α → List (Str × V) → Hp → Prop} (c : Cls K C) (i : IsC K C) {x v H} (h : RO M C F x v H) : TyX K H v (.ref C) := by obtain ⟨a, dx, fs, rfl, _, h, _⟩ := h; exact .base (.ins h c i.ha i.hn i.ht i.hm)
/-- the class as an argument -/
theorem ev_cls {v : V} : Ev M (tC v) σ H RV (Eq1 v) := ev_c fun _ => rfl
/-! ### None -/
theorem o_isN : Op2 M (fun x y H Q => y = V.non ∧ Q (.bl (decide (x = .non))) H) (ROpt RI) RN RB (fun x _ z => z = x.isNone) (fun _ _ => True) := by
  rintro x y v u H d rx rfl _ Q q
  refine ⟨rfl, q _ _ H (.refl d) rfl ?_⟩
  cases x with
  | none => cases (show v = V.non from rx); rfl
  | some i => cases (show v = V.int i from rx); rfl
theorem o_isNI : Op2 M (fun x y H Q => y = V.non ∧ Q (.bl (decide (x = .non))) H) RI RN RB (fun _ _ z => z = false) (fun _ _ => True) := by
  rintro x y v u H d rfl rfl _ Q q
  exact ⟨rfl, q _ _ H (.refl d) rfl rfl⟩
/-! ### a < b < c, both asked -/
theorem ev_chain [Mo M R] [Mo M R'] {δ : Type} {R3 : Rp δ} {r r' : R2} {f : α → β → Bool} {g : β → δ → Bool} {x : α} {y : β} {z : δ} (h1 : Op2 M r R R' RB (fun x y z => z = f x y) (fun _ _ => True)) (h2 : Op2 M r' R' R3 RB (fun x y z => z = g x y) (fun _ _ => True))
    (ha : Ev M ta σ H R (Eq1 x)) (hb : Ev M tb σ H R' (Eq1 y)) (hc : Ev M tc σ H R3 (Eq1 z)) : Ev M (tChain r r' ta tb tc) σ H RB (Eq1 (f x y && g y z)) := fun H1 e Q q =>
  ha H1 e _ fun v x' H2 e2 a rx => hb H2 (e.trans e2) _ fun w y' H3 e3 b ry => by
    cases (show x' = x from a); cases (show y' = y from b)
    refine h1 x y v w H3 e3.dice (Mo.up (M := M) e3 rx) ry trivial _ fun p p' H4 e4 hp rp => ?_
    refine ⟨p', rp, ?_⟩
    cases (show p' = f x y from hp)
    cases hf : f x y with
    | true =>
      refine hc H4 ((e.trans e2).trans (e3.trans e4)) _ fun w2 z' H5 e5 c rz => ?_
      cases (show z' = z from c)
      exact h2 y z w w2 H5 e5.dice (Mo.up (M := M) (e4.trans e5) ry) rz trivial Q fun q1 q2 H6 e6 hq rq => q q1 q2 H6 (e2.trans (e3.trans (e4.trans (e5.trans e6)))) (by have hq' : q2 = g y z := hq; show q2 = (f x y && g y z); rw [hf, hq'] <;> rfl) rq
    | false => exact q _ false H4 (e2.trans (e3.trans e4)) (by show false = (f x y && g y z); rw [hf] <;> rfl) rfl
/-! ### lists -/
theorem paired_ints {H : Hp} {l : List Int} {ws : List V} (h : Paired (fun (x : Int) v => RI x v H) l ws) : ws = l.map V.int := by
  induction h with
  | nil => rfl
  | cons h _ ih => rw [List.map_cons, ← ih, (show _ = V.int _ from h)]
theorem c_sorted : Cl M (rSorted K) (Cons (RLI M) Nil) (RLI M) (fun p z => z.Perm p.1 ∧ z.Pairwise (· ≤ ·)) (fun p => p.1.length < 64) := by
  rintro ⟨l, _⟩ vs H d ⟨v, r, rfl, ⟨a, ws, rfl, n, ha, hr⟩, rfl⟩ hp Q q
  have hw : ws = l.map V.int := by
    have hr' : Paired (fun (x : Int) v => RI x v H) l ws := hr
    exact paired_ints hr'
  subst hw
  refine ⟨a, l, rfl, .of ha, hp, fun ns' p h1 h2 hn => q _ ns' _ (.new d hn) ⟨h1, h2⟩ ⟨p, ns'.map V.int, rfl, ne_dice d hn, upd_same, ?_⟩⟩
  clear h1 h2
  induction ns' with
  | nil => exact .nil
  | cons x l ih => exact .cons rfl (ih)
end
end GE

/-! GK: two for's in a comprehension; lists that grow; repeated lists. -/
namespace GE
open PySem PySem.Spec PyProof.Rows L2 GB
section
variable {M : Option Addr} {σ : St} {H : Hp} {te ta tb tc tl : TE} {t u : TT} {α β γ : Type} {R : Rp α} {R' : Rp β} {R'' : Rp γ} {A : α → Prop} {B : β → Prop} {i : Nat} {K : Frag} {ts : TA}
theorem ty_pos {Q : Bool → Hp → Prop} : tYes σ H Q = Q true H := rfl
/-- one more item, where the list is known -/
theorem Acc.step [Mo M R'] [Ml R'] {H0 H : Hp} {D : Addr} {l : List β} {y : β} (a : Acc M R' H0 D (Eq1 l) H) (hn : l.length < 1000000) (he : Ev M te σ H0 R' (Eq1 y)) :
    te σ H fun v H4 => ∃ acc, H4 D = some (.lst acc) ∧ acc.length < sizeLine ∧ Acc M R' H0 D (Eq1 (l ++ [y])) (upd H4 D (.lst (acc ++ [v]))) := by
  obtain ⟨hf, nd, e, vs, ys, h1, h2, h3⟩ := a
  cases (show ys = l from h3)
  refine he H e _ fun v y' H4 e4 hB ry => ?_
  cases (show y' = y from hB)
  have h4 : H4 D = some (.lst vs) := e4.keep D _ nd h1
  refine ⟨vs, h4, by rw [all_len h2]; exact Nat.lt_trans hn (by decide), hf, nd, Xt.put (e.trans e4) hf nd, vs ++ [v], _, upd_same, Mls.l (R := All R') h4 (All.snoc (Mos.up (M := M) (R := All R') e4 h2) ry), rfl⟩
theorem Acc.xt [Mo M R'] {H0 H H' : Hp} {D : Addr} {S : List β → Prop} (a : Acc M R' H0 D S H) (e : Xt M H H') : Acc M R' H0 D S H' := by
  obtain ⟨hf, nd, e0, vs, ys, h1, h2, h3⟩ := a
  exact ⟨hf, nd, e0.trans e, vs, ys, e.keep D _ nd h1, Mos.up (M := M) (R := All R') e h2, h3⟩
theorem Acc.done {H0 H : Hp} {D : Addr} {l : List β} (a : Acc M R' H0 D (Eq1 l) H) : RL M (All R') l (.ref D) H := by
  obtain ⟨hf, nd, e0, vs, ys, h1, h2, h3⟩ := a
  cases (show ys = l from h3)
  exact ⟨D, vs, rfl, nd, h1, h2⟩
/-- [te for x in range(n) for y in l] -/
theorem ev_lc2RL [Mo M R] [Mo M R'] [Ml R'] {g g1 : TG} {vs vs1 : List Nat} {tl1 : TE} {n : Int} {xs : List α} {f : Int → α → β} (τ : V → St) (τ1 : V → V → St) (hl : EvA M ts σ H (Cons RI Nil) (fun q => q.1 = n)) (hz : 0 ≤ n ∧ n < 10000 ∧ xs.length < 100)
    (hg : ∀ v x H Q, RI x v H → Q (τ v) H → g v (wipe σ vs) H Q) (hw : ∀ v, wipe (τ v) vs = wipe σ vs) {v1 : V} (hl1 : ∀ v H (Q : VK), Q v1 H → tl1 (τ v) H Q) (r1 : RL M (All R) xs v1 H)
    (hg1 : ∀ v w x H Q, R x w H → Q (τ1 v w) H → g1 w (wipe (τ v) vs1) H Q) (hw1 : ∀ v w, wipe (τ1 v w) vs1 = wipe (τ v) vs1)
    (he : ∀ H1, Xt M H H1 → ∀ x w y, 0 ≤ x → x < n → y ∈ xs → R y w H1 → Ev M te (τ1 (.int x) w) H1 R' (Eq1 (f x y))) :
    Ev M (tLc2 (iRng1 ts) g tYes (iList K tl1) g1 tYes te vs vs1) σ H (RL M (All R')) (Eq1 ((rng 0 n).flatMap fun x => xs.map (f x))) := fun H0 e0 Q q =>
  hl H0 e0 _ fun vs' x H1 e1 hx ⟨v, r, e2, e3, e4⟩ => by
    cases (show r = [] from e4); cases (show v = V.int x.1 from e3); subst e2
    refine ⟨x.1, rfl, by omega, by omega, fun D hD => ?_⟩
    obtain ⟨a, ws, rfl, na, ha, hr⟩ := Mo.up (M := M) (R := RL M (All R)) (e0.trans e1) r1
    have hlen : ∀ (k : Nat) (l : List α), ((rng 0 (k : Int)).flatMap fun x => xs.map (f x)).length = k * xs.length := fun k _ => by
      rw [List.length_flatMap]
      have : ((rng 0 (k : Int)).map fun a => (xs.map (f a)).length) = List.replicate k xs.length := by
        unfold rng; simp [List.map_const', Function.comp_def]
      rw [this]; simp
    have hstep : ∀ (k : Nat), ((rng 0 ((k + 1 : Nat) : Int)).flatMap fun x => xs.map (f x)) = ((rng 0 (k : Int)).flatMap fun x => xs.map (f x)) ++ xs.map (f (k : Int)) := fun k => by
      have : rng 0 ((k + 1 : Nat) : Int) = rng 0 (k : Int) ++ [(k : Int)] := by unfold rng; simp [List.range_succ]
      rw [this, List.flatMap_append]; simp
    have hn' : x.1 = n := hx
    refine ⟨fun i m H' => m = n.toNat - i ∧ i ≤ n.toNat ∧ Acc M R' H1 D (Eq1 ((rng 0 (i : Int)).flatMap fun x => xs.map (f x))) H', ⟨n.toNat, by simp, Nat.zero_le _, Acc.start e1.dice hD (by show [] = _; unfold rng; rfl)⟩, ?_⟩
    rintro i m H' ⟨rfl, hi, acc⟩
    by_cases hlt : i < n.toNat
    · refine .inr ⟨by show i < x.1.toNat; omega, fun H'' => Acc M R' H1 D (Eq1 ((rng 0 ((i + 1 : Nat) : Int)).flatMap fun x => xs.map (f x))) H'', fun H'' p => ⟨n.toNat - (i + 1), by omega, rfl, hlt, p⟩, fun v H'' y => ?_⟩
      obtain ⟨e, y⟩ := y
      subst e
      have y' : v = .int (i : Int) := by rw [y]; simp
      subst y'
      refine hg _ (i : Int) _ _ rfl ⟨hw _, ?_⟩
      rw [ty_pos]
      refine hl1 _ _ _ ⟨a, rfl, ⟨ws, .of (acc.ext.keep a _ na ha)⟩, ?_⟩
      refine ⟨fun j k H4 => k = xs.length - j ∧ j ≤ xs.length ∧ Acc M R' H1 D (Eq1 (((rng 0 (i : Int)).flatMap fun x => xs.map (f x)) ++ (xs.take j).map (f (i : Int)))) H4, ⟨xs.length, by simp, Nat.zero_le _, by simpa using acc⟩, ?_⟩
      rintro j k H4 ⟨rfl, hj, acc4⟩
      have hsq : SqL K H4 a ws := .of (acc4.ext.keep a _ na ha)
      by_cases hlt2 : j < xs.length
      · have hx1 : xs[j]? = some xs[j] := by simp [hlt2]
        obtain ⟨w, hw2, rw2⟩ := paired_at (i := j) hr hx1
        refine .inr ⟨⟨ws, w, hsq, hw2⟩, fun H5 => Acc M R' H1 D (Eq1 (((rng 0 (i : Int)).flatMap fun x => xs.map (f x)) ++ (xs.take (j + 1)).map (f (i : Int)))) H5, fun H5 p => ⟨xs.length - (j + 1), by omega, rfl, hlt2, p⟩, fun w' H5 y => ?_⟩
        obtain ⟨e5, y5⟩ := y
        subst e5
        have : w' = w := by have := y5 ws hsq; rw [hw2] at this; exact (Option.some.inj this).symm
        subst this
        refine hg1 _ w' xs[j] _ _ (Mo.up (M := M) acc4.ext rw2) ⟨hw1 _ _, ?_⟩
        rw [ty_pos]
        have htk : (xs.take (j + 1)).map (f (i : Int)) = (xs.take j).map (f (i : Int)) ++ [f (i : Int) xs[j]] := by rw [List.take_add_one, hx1, List.map_append]; rfl
        rw [htk, ← List.append_assoc]
        refine acc4.step ?_ (he H1 (e0.trans e1) (i : Int) w' xs[j] (by omega) (by omega) (List.getElem_mem _) rw2)
        rw [List.length_append, hlen i xs, List.length_map, List.length_take]
        have h1 : i * xs.length ≤ 10000 * 100 - 100 := by
          have := Nat.mul_le_mul (show i ≤ 9999 by omega) (show xs.length ≤ 99 by omega)
          omega
        omega
      · have e6 : j = xs.length := by omega
        subst e6
        refine .inl ⟨⟨ws, hsq, Nat.le_of_eq (paired_len hr)⟩, ?_⟩
        show Acc M R' H1 D (Eq1 _) H4
        rw [hstep i]
        simpa using acc4
    · have e6 : i = n.toNat := by omega
      subst e6
      refine .inl ⟨by show x.1.toNat ≤ n.toNat; omega, ?_⟩
      have hc : ((n.toNat : Nat) : Int) = n := by omega
      rw [hc] at acc
      exact q _ _ H' (e1.trans acc.ext) rfl acc.done
theorem o_rep [Mo M R] : Op2 M rRep (RL M (All R)) RI (RL M (All R)) (fun l k z => z = (List.replicate k.toNat l).flatten) (fun l k => 0 ≤ k ∧ k < 100000 ∧ l.length * k.toNat ≤ 1000000) := by
  rintro l k v u H d ⟨a, ws, rfl, n, ha, hr⟩ rfl ⟨h1, h2, h3⟩ Q q
  refine ⟨a, k, ws, rfl, rfl, ha, by omega, by omega, by rw [all_len hr]; exact Nat.le_trans h3 (by decide), fun p hp => q _ _ _ (.new d hp) rfl ⟨p, _, rfl, ne_dice d hp, upd_same, ?_⟩⟩
  have hr' : All R l ws (upd H p (.lst (List.replicate k.toNat ws).flatten)) := Mos.up (M := M) (R := All R) (.new d hp) hr
  generalize upd H p (.lst (List.replicate k.toNat ws).flatten) = H2 at hr'
  generalize k.toNat = m
  have app : ∀ {l : List α} {ws : List V} {l' ws'}, Paired (fun x v => R x v H2) l ws → Paired (fun x v => R x v H2) l' ws' → Paired (fun x v => R x v H2) (l ++ l') (ws ++ ws') := fun {l ws l' ws'} a b => by
    induction a with
    | nil => exact b
    | cons h _ ih => exact .cons h ih
  have key : ∀ m, Paired (fun x v => R x v H2) (List.replicate m l).flatten (List.replicate m ws).flatten := fun m => by
    induction m with
    | zero => exact .nil
    | succ m ih => rw [List.replicate_succ, List.replicate_succ, List.flatten_cons, List.flatten_cons]; exact app hr' ih
  exact key m
/-- D.extend(xs) -/
theorem Acc.extend [Mo M R'] [Ml R'] {H0 H : Hp} {D : Addr} {l xs : List β} {Q : Hp → Prop} {to : TE} (a : Acc M R' H0 D (Eq1 l) H) (ho : ∀ H (Q : VK), Q (.ref D) H → to σ H Q) (hn : l.length + xs.length ≤ 1000000) (he : Ev M te σ H0 (RL M (All R')) (Eq1 xs))
    (k : ∀ H', Acc M R' H0 D (Eq1 (l ++ xs)) H' → Q H') : tBM K "list" rExtend to (tCons te tNil) σ H (fun _ H' => Q H') := by
  obtain ⟨hf, nd, e, vs, ys, h1, h2, h3⟩ := a
  cases (show ys = l from h3)
  refine ho _ _ ⟨.inl ⟨rfl, _, .inl (.inl h1)⟩, ?_⟩
  refine he H e _ fun v y' H4 e4 hB ry => ?_
  cases (show y' = xs from hB)
  obtain ⟨b, ws, rfl, nb, hb, hr⟩ := ry
  have h4 : H4 D = some (.lst vs) := e4.keep D _ nd h1
  have h2' := Mos.up (M := M) (R := All R') e4 h2
  refine ⟨D, b, vs, ws, rfl, rfl, h4, hb, by rw [all_len h2, all_len hr]; exact Nat.le_trans hn (by decide), k _ ⟨hf, nd, Xt.put (e.trans e4) hf nd, vs ++ ws, _, upd_same, ?_, rfl⟩⟩
  refine Mls.l (R := All R') h4 ?_
  have app : ∀ {l : List β} {ws : List V} {l' ws'}, Paired (fun x v => R' x v H4) l ws → Paired (fun x v => R' x v H4) l' ws' → Paired (fun x v => R' x v H4) (l ++ l') (ws ++ ws') := fun {l ws l' ws'} a b => by
    induction a with
    | nil => exact b
    | cons h _ ih => exact .cons h ih
  exact app h2' hr
end
end GE

/-! GL: constructors, defaults, objects with slots, properties' defs, the head's hook with properties. -/
namespace GE
open PySem PySem.Spec PyProof.Rows L2 GB
abbrev FunMD (N : En) (C m q : Str) (st : Stmt) (dvs : List V) : Prop := (∃ fd, FunD N.K m q (defArgs st) (defBody st) (defScope st) dvs [] (N.ma C m) fd) ∧ Meth N.K (N.ga C) m (N.ma C m) ∧ Cls N.K (N.ga C)
/-- a method with defaults: n values given, the last defaults (from the j-th) put behind them -/
theorem dm_mkD {N : En} {k : Nat} {C m q : Str} {st : Stmt} {Ns ps : List Str} {sp : Sp} {dvs : List V} (n j : Nat) (hd : dvs ≠ []) (hn : n + (dvs.length - j) = ps.length) (F : ∃ fd, FunD N.K m q (defArgs st) (defBody st) (defScope st) dvs [] (N.ma C m) fd) (S : FnScope Ns ps (defScope st))
    (bd : ∀ (T : Addr) (kV doc pm : Value) (an : Option Addr) (cdv ct : Value) (us its : List Value), us.length = n → its.length = dvs.length →
      ∃ k, bindArgs (PySem.W.fnOf m q (defArgs st) (defBody st) (defScope st) (.ref T) kV doc pm an cdv ct) ⟨us, []⟩ = seqItems? (.ref T) >>= k ∧ k (some its.toArray) = pure (ps.zip (us ++ its.drop j)))
    (len : ∀ vs H Q E, sp vs H Q E → vs.length = ps.length) (body : Body N k q (N.ma C m) st Ns sp) : Fr N (k + 1) (N.ma C m) (fun vs H Q E => sp (vs ++ dvs.drop j) H Q E) := by
  obtain ⟨fd, F⟩ := F
  obtain ⟨ds, h1, h2⟩ := F.binds1 n j hd hn bd
  exact (F.ok S len body : FnOk N.P N.w N.K N.mg N.base (L2.CX N.P N.w) (k + 1) _ fd ps sp).raw h2 h1
/-- a method of a class with slots -/
abbrev FunS (N : En) (C m q : Str) (st : Stmt) : Prop := ∃ fd, FunD N.K m q (defArgs st) (defBody st) (defScope st) [] [] (N.ma C m) fd
theorem fs_mk {N : En} {k : Nat} {C m q : Str} {st : Stmt} {Ns ps : List Str} {sp : Sp} (F : FunS N C m q st) (S : FnScope Ns ps (defScope st))
    (bd : ∀ (kV doc pm : Value) (an : Option Addr) (cdv ct : Value) (us : List Value), us.length = ps.length → bindArgs (PySem.W.fnOf m q (defArgs st) (defBody st) (defScope st) .none kV doc pm an cdv ct) ⟨us, []⟩ = pure (ps.zip us))
    (len : ∀ vs H Q E, sp vs H Q E → vs.length = ps.length) (body : Body N k q (N.ma C m) st Ns sp) : Fr N (k + 1) (N.ma C m) sp := by
  obtain ⟨fd, F⟩ := F
  have z := (F.ok S len body : FnOk N.P N.w N.K N.mg N.base (L2.CX N.P N.w) (k + 1) _ fd ps sp).raw (F.bindsN bd) .nil
  exact z.imp fun vs H Q E q => by rw [List.append_nil]; exact q
/-- a property's getter -/
abbrev FunPr (N : En) (C f q : Str) (st : Stmt) : Prop := ∃ g fd, PropOf N.K (N.ga C) f (N.ma C f) g ∧ FunD N.K f q (defArgs st) (defBody st) (defScope st) [] [] g fd ∧ Cls N.K (N.ga C)
theorem dp_mk {N : En} {k : Nat} {C m q : Str} {st : Stmt} {Ns ps : List Str} {sp : Sp} (F : FunPr N C m q st) (S : FnScope Ns ps (defScope st))
    (bd : ∀ (kV doc pm : Value) (an : Option Addr) (cdv ct : Value) (us : List Value), us.length = ps.length → bindArgs (PySem.W.fnOf m q (defArgs st) (defBody st) (defScope st) .none kV doc pm an cdv ct) ⟨us, []⟩ = pure (ps.zip us))
    (len : ∀ vs H Q E, sp vs H Q E → vs.length = ps.length) (body : ∀ g, Body N k q g st Ns sp) : Dp N (k + 1) C m sp := by
  obtain ⟨g, fd, hp, F, c⟩ := F
  have z := (F.ok S len (body g) : FnOk N.P N.w N.K N.mg N.base (L2.CX N.P N.w) (k + 1) _ fd ps sp).raw (F.bindsN bd) .nil
  exact ⟨⟨g, hp, z.imp fun vs H Q E q => by rw [List.append_nil]; exact q⟩, c⟩
/-! ### constructors -/
def InitP {α γ : Type} (N : En) (C : Str) (S : Option Addr → Rs α) (F : γ → List (Str × V) → Hp → Prop) (pre : α → Prop) (f : α → γ → Prop) : Sp := fun vs H Q E =>
  ∃ M x a dx us H0, vs = V.ref a :: us ∧ Xt M H0 H ∧ H0 a = none ∧ H0 dx = none ∧ dx ≠ a ∧ M ≠ some a ∧ S M x us H0 ∧ pre x ∧ H a = some (.ins (N.ga C) dx []) ∧
    ∀ H' z fs, Xt M H0 H' → H' a = some (.ins (N.ga C) dx fs) → f x z → F z fs H' → Q .non H'
theorem dc_mk {α γ : Type} {N : En} {k : Nat} {C : Str} {S : Option Addr → Rs α} {F : γ → List (Str × V) → Hp → Prop} {pre : α → Prop} {f : α → γ → Prop} (hm : Mk N.K (N.ga C) (N.ma C "__init__")) (hg : N.mg C = some (.ref (N.ga C)))
    {dvs : List V} (fr : Fr N k (N.ma C "__init__") (fun vs H Q E => InitP N C S F pre f (vs ++ dvs) H Q E)) {S' : Option Addr → Rs α} (hS : ∀ {M x vs H}, S' M x vs H → S M x (vs ++ dvs) H) : Dc N k C (FnM S' (fun M => RO M (N.ga C) F) pre f) := by
  refine ⟨⟨_, hm, fr, fun vs H Q E h a dx h1 h2 h3 => ?_⟩, hg⟩
  obtain ⟨M, x, d, hs, hp, q⟩ := h
  refine ⟨M, x, a, dx, vs ++ dvs, H, rfl, ?_, h1, h2, h3, ne_dice d h1, hS hs, hp, upd_same, fun H' z fs e ha hf hF => ⟨rfl, q (.ref a) z H' e hf ⟨a, dx, fs, rfl, ne_dice d h1, ha, hF⟩⟩⟩
  have e1 : Xt M H (upd H dx (.own a)) := .new d h2
  exact e1.trans (.new e1.dice (by rw [upd_ne (fun z => h3 z.symm)]; exact h1))
theorem Dc.imp {N : En} {k : Nat} {C : Str} {sp sp' : Sp} (D : Dc N k C sp) (h : ∀ vs H Q E, sp' vs H Q E → sp vs H Q E) : Dc N k C sp' := by
  obtain ⟨⟨spI, h1, h2, h3⟩, g⟩ := D
  exact ⟨⟨spI, h1, h2, fun vs H Q E q => h3 vs H Q E (h vs H Q E q)⟩, g⟩
/-- the same for objects with slots -/
def RSl (M : Option Addr) (C : Addr) {α : Type} (g : α → List V) : Rp α := fun x v H => ∃ a dx, v = .ref a ∧ M ≠ some a ∧ M ≠ some dx ∧ dx ≠ a ∧ H a = some (SlX.SlO a C dx ((g x).map some)) ∧ H dx = some (.xd [])
instance {M : Option Addr} {C : Addr} {α : Type} {g : α → List V} : Mo M (RSl M C g) := ⟨fun e ⟨a, dx, h1, h2, h3, h4, h5, h6⟩ => ⟨a, dx, h1, h2, h3, h4, e.keep _ _ h2 h5, e.keep _ _ h3 h6⟩⟩
def InitS {α γ : Type} (N : En) (C : Str) (S : Option Addr → Rs α) (g : γ → List V) (pre : α → Prop) (f : α → γ → Prop) : Sp := fun vs H Q E =>
  ∃ M x a dx us H0, vs = V.ref a :: us ∧ Xt M H0 H ∧ H0 a = none ∧ H0 dx = none ∧ dx ≠ a ∧ M ≠ some a ∧ M ≠ some dx ∧ S M x us H0 ∧ pre x ∧ SlX.Slt H a (N.ga C) dx [] ∧
    ∀ H' z, Xt M H0 H' → H' a = some (SlX.SlO a (N.ga C) dx ((g z).map some)) → H' dx = some (.xd []) → f x z → Q .non H'
theorem dc_mkS {α γ : Type} {N : En} {k : Nat} {C : Str} {S : Option Addr → Rs α} {g : γ → List V} {pre : α → Prop} {f : α → γ → Prop} (hm : Mk N.K (N.ga C) (N.ma C "__init__")) (hg : N.mg C = some (.ref (N.ga C)))
    (fr : Fr N k (N.ma C "__init__") (InitS N C S g pre f)) : Dc N k C (FnM S (fun M => RSl M (N.ga C) g) pre f) := by
  refine ⟨⟨_, hm, fr, fun vs H Q E h a dx h1 h2 h3 => ?_⟩, hg⟩
  obtain ⟨M, x, d, hs, hp, q⟩ := h
  refine ⟨M, x, a, dx, vs, H, rfl, ?_, h1, h2, h3, ne_dice d h1, ne_dice d h2, hs, hp, .inl ⟨upd_same, rfl⟩, fun H' z e ha hb hf => ⟨rfl, q (.ref a) z H' e hf ⟨a, dx, rfl, ne_dice d h1, ne_dice d h2, h3, ha, hb⟩⟩⟩
  have e1 : Xt M H (upd H dx (.own a)) := .new d h2
  exact e1.trans (.new e1.dice (by rw [upd_ne (fun z => h3 z.symm)]; exact h1))
section
variable {M : Option Addr} {σ : St} {H : Hp} {te ta tb tv : TE} {α β γ : Type} {R : Rp α} {R'' : Rp γ} {A : α → Prop} {i : Nat} {K : Frag}
/-- o.f, a slot -/
theorem ev_sl {C p : Addr} {f : Str} {g : α → List V} {h : α → γ} {x : α} {w : V} (c : SlX.SCls K C) (t : SlX.Slot1 K C f p i) (hw : (g x)[i]? = some w) (hr : ∀ H, R'' (h x) w H) (ha : Ev M ta σ H (RSl M C g) (Eq1 x)) : Ev M (SlX.tSl K ta f) σ H R'' (Eq1 (h x)) := fun H1 e Q q =>
  ha H1 e _ fun v y H2 e2 hy ⟨a, dx, h1, h2, h3, h4, h5, h6⟩ => by
    cases (show y = x from hy)
    exact ⟨a, C, dx, p, _, i, w, h1, .inr ⟨h5, h6⟩, c, t, by rw [List.getElem?_map, hw]; rfl, q w (h x) H2 e2 rfl (hr H2)⟩
/-- self.f = e -/
theorem q_fld {D : Ends} {a C dx : Addr} {fs : List (Str × V)} {f : Str} {z : α} (d : DiceM M H) (hi : σ[i]? = some (some (V.ref a))) (ha : H a = some (.ins C dx fs)) (hn : M ≠ some a) (c : Cls K C) (n : NoAttr K C f) (hl : fs.length < 1000) (hv : Ev M tv σ H R (Eq1 z))
    (k : ∀ v H1, Xt M H H1 → R z v H1 → D.nx σ (upd H1 a (.ins C dx (putF f v fs)))) : sFld K (tVar i) tv f D σ H :=
  hv H (.refl d) _ fun v y H2 e2 hy r => by
    cases (show y = z from hy)
    exact ⟨_, hi, a, C, dx, fs, rfl, e2.keep _ _ hn ha, c, n, hl, k v H2 e2 r⟩
/-- self.f = e, a slot -/
theorem q_sl {D : Ends} {a C dx p : Addr} {vs : List (Option V)} {f : Str} {z : α} {j : Nat} (d : DiceM M H) (hi : σ[i]? = some (some (V.ref a))) (ha : ∀ H1, Xt M H H1 → SlX.Slt H1 a C dx vs) (c : SlX.SCls K C) (t : SlX.Slot1 K C f p j) (hv : Ev M tv σ H R (Eq1 z))
    (k : ∀ v H1, Xt M H H1 → R z v H1 → D.nx σ (SlX.slH H1 a C dx (SlX.putS j v vs))) : SlX.sSl K (tVar i) tv f D σ H :=
  hv H (.refl d) _ fun v y H2 e2 hy r => by
    cases (show y = z from hy)
    exact ⟨_, hi, a, C, dx, p, vs, j, rfl, ha H2 e2, c, t, k v H2 e2 r⟩
theorem Xt.slH {H0 : Hp} {a C dx : Addr} {vs : List (Option V)} (e : Xt M H0 H) (h1 : H0 a = none) (h2 : H0 dx = none) (n1 : M ≠ some a) (n2 : M ≠ some dx) : Xt M H0 (SlX.slH H a C dx vs) := Xt.put (Xt.put e h2 n2) h1 n1
end
/-! ### how many values -/
class Ln {β : Type} (S : Rs β) (n : outParam Nat) : Prop where
  len : ∀ {x vs H}, S x vs H → vs.length = n
instance : Ln Nil 0 := ⟨fun h => by cases (show _ = [] from h); rfl⟩
instance {α β : Type} {R : Rp α} {S : Rs β} {n : Nat} [Ln S n] : Ln (Cons R S) (n + 1) := ⟨fun ⟨v, r, e, _, h⟩ => by subst e; rw [List.length_cons, Ln.len h]⟩
theorem len1 {β : Type} {S : Rs β} {n : Nat} {B : β → Prop} [Ln S n] (hn : n ≤ 1000) : ∀ x vs H, S x vs H → B x → vs.length ≤ sizeLine := fun x vs H h _ => by rw [Ln.len h, sizeLine_eq]; omega
theorem len2 {α : Type} {R : Rp α} {l : List α} (hn : l.length ≤ 1000) : ∀ x vs H, All R x vs H → Eq1 l x → vs.length ≤ sizeLine := fun x vs H h e => by rw [all_len h, (show x = l from e), sizeLine_eq]; omega
/-! ### names, len of an own object, list(range(..)) -/
abbrev IntG (N : En) (x : Str) (z : Int) : Prop := ∃ t, N.mg x = some (.int z t)
section
variable {X : Cx} {k : Nat} {C x : Str} {sp : Sp} {E : XK} {M : Option Addr} {σ : St} {H : Hp} {te ta tb : TE} {α : Type} {K : Frag} {pos : Pos}
theorem pe_globI {z : Int} (hg : Gl X x) (h : IntG (En.of X) x z) (hd : (x == ("__debug__" : Str)) = false := by decide) : PE X (.Name x pos) (tC (.int z)) := by
  obtain ⟨t, e⟩ := h
  exact pe_glob hg e ⟨t, rfl⟩ hd
theorem pe_globR {a : Addr} (hg : Gl X x) (h : X.mg x = some (.ref a)) (hd : (x == ("__debug__" : Str)) = false := by decide) : PE X (.Name x pos) (tC (.ref a)) := pe_glob hg h rfl hd
def rLenO (C : Addr) (sp : Sp) (E : XK) : List V → Hp → VK → Prop := fun xs H Q => ∃ a dx fs, xs = [V.ref a] ∧ H a = some (.ins C dx fs) ∧ sp [V.ref a] H (fun z H' => ∃ n, z = V.int n ∧ (0 ≤ n ∧ n < 2 ^ 63) ∧ Q (.int n) H') E
theorem call_lenO (D : Dm (En.of X) k C "__len__" sp) (hr : Room (k + 1) X.A) (hx : Passes (L2.CX X.prog X.w) X E) : CallR X (.builtin "len") (rLenO (He.ga X.K C) sp E) := by
  intro pins s σ H xs us Q I r h
  obtain ⟨a, dx, fs, rfl, ha, q⟩ := h
  obtain ⟨u, rfl, rx⟩ := vals1 r
  cases (show u = Value.ref a from rx)
  obtain ⟨mA, J, _⟩ := ins_get I.hok ha
  obtain ⟨od, J, _⟩ := J.look
  obtain ⟨m, hF⟩ := I.fr
  refine PySem.W.len_K hF I.ok.mod.kin J D.m.at_ D.m.fn ?_
  refine wpAny_mono (wpAny_call (SlX.run_at (us := [.ref a]) (ws := [.ref a]) D.fn (show Room k X.A.in1 from hr.in1) I.env0.in1 hx I (.cons rfl .nil) q)) (fun w s' z => ?_) fun _ _ x => x
  obtain ⟨z', H', I', rz, n, ez, hn, qz⟩ := z
  subst ez
  obtain ⟨t, rfl⟩ := rz
  exact ⟨hn, .int n, H', I'.tok _, ⟨_, rfl⟩, qz⟩
theorem c_lenO {C : Addr} {F : α → List (Str × V) → Hp → Prop} [Mfs F M] {g : α × Unit → Int} {pre : α × Unit → Prop} :
    Cl M (rLenO C (FnF (fun M => Cons (RO M C F) Nil) (fun _ => RI) pre g) E) (Cons (RO M C F) Nil) RI (fun p z => z = g p) (fun p => pre p ∧ 0 ≤ g p ∧ g p < 2 ^ 63) := by
  rintro ⟨y, ⟨⟩⟩ vs H d ⟨v, r, rfl, ry, rfl⟩ ⟨hp, h0, h1⟩ Q q
  obtain ⟨p, dx, fs, e1, e2, e3, e4⟩ := id ry
  subst e1
  refine ⟨p, dx, fs, rfl, e3, M, (y, ()), d, ⟨_, [], rfl, ry, rfl⟩, hp, fun w z H2 e hz rz => ?_⟩
  cases (show z = g (y, ()) from hz)
  exact ⟨g (y, ()), rz, ⟨h0, h1⟩, q (.int (g (y, ()))) _ H2 e rfl rfl⟩
theorem ev_some {R : Rp α} {x : α} (h : Ev M te σ H R (Eq1 x)) : Ev M te σ H (ROpt R) (Eq1 (some x)) := fun H1 e Q q => h H1 e Q fun v y H2 e2 hy r => q v (some y) H2 e2 (congrArg some hy) r
theorem ev_none {R : Rp α} : Ev M (tC .non) σ H (ROpt R) (Eq1 none) := ev_c fun _ => rfl
theorem rgV_rng {a b : Int} {H : Hp} : All RI (rng a b) (rgV a b) H := by
  unfold rng rgV
  show Paired (fun x v => RI x v H) _ _
  induction (List.range (b - a).toNat) with
  | nil => exact .nil
  | cons i l ih => exact .cons rfl ih
theorem ev_lstRg1 {n : Int} (ha : Ev M ta σ H RI (Eq1 n)) (hn : 0 ≤ n ∧ n ≤ 1000000) : Ev M (tLstRg (tRg1 ta)) σ H (RL M (All RI)) (Eq1 (rng 0 n)) := fun H1 e Q q =>
  ha H1 e _ fun v z H2 e2 hz r => ⟨n, by rw [(show v = V.int z from r), (show z = n from hz)], .of_le (by decide) (by omega) (by decide) (by omega), fun p hp =>
    q _ _ _ (e2.trans (.new e2.dice hp)) rfl ⟨p, _, rfl, ne_dice e2.dice hp, upd_same, rgV_rng⟩⟩
end
/-! ### classes with slots, properties: by Bools -/
def sclsB (K : Frag) (C : Addr) : Bool := (PySem.W.plainGet K C Str.empty && PySem.W.isClsIn K C) && (PySem.W.plainOver K C && decide (PySem.W.findIn K (.ref C) "__setattr__" = some (some (.builtin "object.__setattr__"))))
theorem sclsB_ok {K : Frag} {C : Addr} (h : sclsB K C = true) : SlX.SCls K C := by
  obtain ⟨h1, h2⟩ := He.ba h
  obtain ⟨h3, h4⟩ := He.ba h1
  obtain ⟨h5, h6⟩ := He.ba h2
  exact ⟨h3, h4, h5, of_decide_eq_true h6⟩
def slotB (K : Frag) (C : Addr) (f : Str) (i : Nat) : Bool := match PySem.W.findIn K (.ref C) f with
  | some (some (.ref p)) => (decide (PySem.W.specialIn K (.ref p) "__get__" = some (some (.builtin "member_descriptor.__get__"))) && decide (PySem.W.takesIn K (.ref p) = some true)) && (decide (PySem.W.typeIn K (.ref p) = some (.type "member_descriptor")) && (decide (PySem.W.slotIn K p C = some i) && decide (i < 1000)))
  | _ => false
theorem slotB_ok {K : Frag} {C : Addr} {f : Str} {i : Nat} (h : slotB K C f i = true) : ∃ p, SlX.Slot1 K C f p i := by
  unfold slotB at h
  split at h
  · rename_i p e
    obtain ⟨h1, h2⟩ := He.ba h
    obtain ⟨h3, h4⟩ := He.ba h1
    obtain ⟨h5, h6⟩ := He.ba h2
    obtain ⟨h7, h8⟩ := He.ba h6
    exact ⟨p, e, of_decide_eq_true h3, of_decide_eq_true h4, of_decide_eq_true h5, of_decide_eq_true h7, of_decide_eq_true h8⟩
  · cases h
def isiB (K : Frag) (C : Addr) : Bool := (decide (PySem.W.findIn K (.ref C) "__class__" = some (some (.builtin "object.__class__"))) && decide (PySem.W.specialIn K (.builtin "object.__class__") "__get__" = some (some (.builtin "getset_descriptor.__get__")))) &&
  (decide (PySem.W.takesIn K (.builtin "object.__class__") = some true) && decide (PySem.W.mroIn K C (.type "object") = some true))
theorem isiB_ok {K : Frag} {C : Addr} (h : isiB K C = true) : IsC K C := by
  obtain ⟨h1, h2⟩ := He.ba h
  obtain ⟨h3, h4⟩ := He.ba h1
  obtain ⟨h5, h6⟩ := He.ba h2
  exact ⟨of_decide_eq_true h3, of_decide_eq_true h4, of_decide_eq_true h5, of_decide_eq_true h6⟩
theorem IsC.s {K : Frag} {C : Addr} (h : IsC K C) : SlX.SIsi K C := ⟨h.ha, h.hn, h.ht, h.hm⟩
def kitB (K : Frag) (t u : Value) (b : Bool) : Bool := decide (PySem.W.kitOne K t u = some b)
theorem kitB_ok {K : Frag} {t u : Value} {b : Bool} (h : kitB K t u b = true) : PySem.W.kitOne K t u = some b := of_decide_eq_true h
def necB (K : Frag) (C : Addr) : Bool := decide (PySem.W.subIn K (.ref C) (.type "object") = some true) && decide (PySem.W.findIn K (.ref C) "__ne__" = some (some (.builtin "object.__ne__")))
theorem necB_ok {K : Frag} {C : Addr} (h : necB K C = true) : NeC K C := by
  obtain ⟨h1, h2⟩ := He.ba h
  exact ⟨of_decide_eq_true h1, of_decide_eq_true h2⟩
def prG (K : Frag) (q : Str × Str) : Addr := match PySem.W.recIn K (He.ma K (He.ga K q.1) q.2) "property" with
  | some (.ref g :: _) => g
  | _ => 0
def prB (K : Frag) (q : Str × Str) : Bool := decide (PySem.W.findIn K (.ref (He.ga K q.1)) q.2 = some (some (.ref (He.ma K (He.ga K q.1) q.2)))) && (decide (PySem.W.specialIn K (.ref (He.ma K (He.ga K q.1) q.2)) "__get__" = some (some (.builtin "property.__get__"))) &&
  (decide (PySem.W.takesIn K (.ref (He.ma K (He.ga K q.1) q.2)) = some true) && (match PySem.W.recIn K (He.ma K (He.ga K q.1) q.2) "property" with
    | some (.ref _ :: _) => true
    | _ => false)))
theorem prB_ok {K : Frag} {q : Str × Str} (h : prB K q = true) : PropOf K (He.ga K q.1) q.2 (He.ma K (He.ga K q.1) q.2) (prG K q) := by
  obtain ⟨h1, h2⟩ := He.ba h
  obtain ⟨h3, h4⟩ := He.ba h2
  obtain ⟨h5, h6⟩ := He.ba h4
  refine ⟨of_decide_eq_true h1, of_decide_eq_true h3, of_decide_eq_true h5, ?_⟩
  unfold prG
  split at h6
  · rename_i g r e
    rw [e]
    exact ⟨r, rfl⟩
  · cases h6
/-- a property's def: the class, the name, its qualified name, the getter's statement -/
structure PrD where
  C : Str
  f : Str
  qual : Str
  st : Stmt
def PrD.d (p : PrD) : He.DefD := ⟨(p.C, none), p.f, p.qual, defArgs p.st, defBody p.st, defScope p.st, [], []⟩
def fnP (K : Frag) (a : Addr) : He.FnW := (K.lookup a).bind fun o => match o.data with
  | .func fd => some (fd.name, fd.qualname, fd.params, fd.body, fd.scope, fd.globals, fd.closure, fd.builtins)
  | _ => none
def okP (K : Frag) (p : PrD) : Bool := PySem.W.keepIn K (.ref (prG K (p.C, p.f))) && (prB K (p.C, p.f) && (match K.lookup (prG K (p.C, p.f)) with
  | some ⟨_, _, .func fd, _⟩ => PySem.W.codeIn K fd.code p.qual && (He.dflB K fd.defaults [] && He.kwdB K fd.kwdefaults [])
  | _ => false))
theorem okP_fun {K : Frag} {p : PrD} (e : fnP K (prG K (p.C, p.f)) = p.d.val) (c : okP K p = true) : ∃ fd, FunD K p.f p.qual (defArgs p.st) (defBody p.st) (defScope p.st) [] [] (prG K (p.C, p.f)) fd := by
  obtain ⟨kp, c1⟩ := He.ba c
  obtain ⟨_, c2⟩ := He.ba c1
  unfold fnP at e
  cases q : K.lookup (prG K (p.C, p.f)) with
  | none => rw [q] at c2; cases c2
  | some o =>
    obtain ⟨oc, od, dt, osl⟩ := o
    rw [q] at c2 e
    cases dt with
    | func fd =>
      obtain ⟨n1, n2, n3, n4, n5, n6, n7, n8, n9, n10, n11, n12, n13, n14, n15⟩ := fd
      have e2 : (some (n1, n2, n3, n4, n5, n6, n7, n15) : He.FnW) = some (p.f, p.qual, defArgs p.st, .stmts (defBody p.st), defScope p.st, mainGlobals, [], builtinsNs) := e
      simp only [Option.some.injEq, Prod.mk.injEq] at e2
      obtain ⟨h1, h2, h3, h4, h5, h6, h7, h8⟩ := e2
      subst h1 h2 h3 h4 h5 h6 h7 h8
      have c3 : (PySem.W.codeIn K n13 p.qual && (He.dflB K n8 [] && He.kwdB K n9 [])) = true := c2
      obtain ⟨k1, k2⟩ := He.ba c3
      obtain ⟨k3, k4⟩ := He.ba k2
      exact ⟨_, ⟨oc, od, n8, n9, n10, n11, n12, n13, n14, osl, rfl, q, k1, He.dflB_ok k3, He.kwdB_ok k4⟩, kp⟩
    | _ => cases c2
/-- the head's hook: facts, defs, properties, one more Bool -/
structure SaysP (fa : List He.Fa) (fn : List He.DefD) (pr : List PrD) (ex : Frag → Bool) (K : Frag) : Prop where
  d : He.SaysD fa fn K
  p : pr.map (fun p => fnP K (prG K (p.C, p.f))) = pr.map fun p => p.d.val
  ok : (pr.all fun p => okP K p) = true
  more : ex K = true
abbrev AlP : Type := He.AlD × List He.FnW × Bool
def obK (fa : List He.Fa) (fn : List He.DefD) (pr : List PrD) (ex : Frag → Bool) (K : Frag) : AlP := (He.obsD fa fn K, pr.map (fun p => fnP K (prG K (p.C, p.f))), (pr.all fun p => okP K p) && ex K)
def obP (n : Nat) (fa : List He.Fa) (fn : List He.DefD) (pr : List PrD) (ex : Frag → Bool) (g : Addr → Option Obj) : AlP := obK fa fn pr ex (He.frT g (He.asD g n))
def hookP (n : Nat) (fa : List He.Fa) (fn : List He.DefD) (pr : List PrD) (ex : Frag → Bool) : PySem.W.Hook where
  α := AlP
  obs := fun s => obP n fa fn pr ex s.heap.get?
  val := fun _ => (He.valD fn, pr.map (fun p => p.d.val), true)
  says := fun _ h => ∃ K : Frag, K.In h ∧ SaysP fa fn pr ex K
  of := fun _ _ e => ⟨_, He.frT_in, by
    have e1 := congrArg (fun z : AlP => z.1) e
    have e2 := congrArg (fun z : AlP => z.2.1) e
    have e3 := congrArg (fun z : AlP => z.2.2) e
    obtain ⟨h1, h2⟩ := He.ba e3
    exact ⟨e1, e2, h1, h2⟩⟩
  keeps := fun _ _ _ ⟨K, hK, c⟩ k => ⟨K, PySem.W.Frag.In.keeps hK k, c⟩
theorem obP_eq {n : Nat} {fa : List He.Fa} {fn : List He.DefD} {pr : List PrD} {ex : Frag → Bool} {g : Addr → Option Obj} {s : Shared} (h : ∀ a, g a = s.heap.get? a) : obP n fa fn pr ex g = (hookP n fa fn pr ex).obs s := by
  have e : g = s.heap.get? := funext h
  rw [e] <;> rfl
theorem SaysP.prop {fa : List He.Fa} {fn : List He.DefD} {pr : List PrD} {ex : Frag → Bool} {N : En} (c : SaysP fa fn pr ex N.K) (i : Nat) {p : PrD} (h : pr[i]? = some p) (hc : Cls N.K (N.ga p.C)) : FunPr N p.C p.f p.qual p.st := by
  have e2 : (pr.map (fun p => fnP N.K (prG N.K (p.C, p.f))))[i]? = (pr.map fun p => p.d.val)[i]? := by rw [c.p]
  rw [List.getElem?_map, List.getElem?_map, h] at e2
  have ok := List.all_eq_true.mp c.ok p (List.mem_of_getElem? h)
  obtain ⟨fd, F⟩ := okP_fun (Option.some.inj e2) ok
  exact ⟨_, fd, prB_ok (He.ba (He.ba ok).2).1, F, hc⟩
end GE

/-! GD: the script, the dice. -/
namespace GE
open PySem PySem.Spec PyProof.Rows L2 GB
/-- the script, wherever it stands -/
def RSq (K : Frag) (M : Option Addr) : Rp (List Int) := fun l v H => ∃ a, v = .ref a ∧ ((∃ o, H a = some o ∧ M ≠ some a ∧ ∀ H' : Hp, H' a = some o → SqL K H' a (l.map V.int)) ∨ ∀ H' : Hp, SqL K H' a (l.map V.int))
instance {K : Frag} {M : Option Addr} : Mo M (RSq K M) := ⟨fun e ⟨a, h1, h⟩ => ⟨a, h1, h.imp (fun ⟨o, h2, h3, h4⟩ => ⟨o, e.keep _ _ h3 h2, h3, h4⟩) id⟩⟩
theorem rsq_of {K : Frag} {l : List Int} {a : Addr} {H : Hp} (h : SqL K H a (l.map V.int)) : RSq K none l (.ref a) H := by
  refine ⟨a, rfl, ?_⟩
  rcases h with (h | ⟨o, h⟩) | h
  · exact .inl ⟨_, h, nofun, fun H' e => .inl (.inl e)⟩
  · exact .inl ⟨_, h, nofun, fun H' e => .inl (.inr ⟨o, e⟩)⟩
  · exact .inr fun H' => .inr h
theorem RSq.sq {K : Frag} {M : Option Addr} {l : List Int} {v : V} {H : Hp} (h : RSq K M l v H) : ∃ a, v = .ref a ∧ SqL K H a (l.map V.int) := by
  obtain ⟨a, e, ⟨o, h1, _, h2⟩ | h⟩ := h
  · exact ⟨a, e, h2 H h1⟩
  · exact ⟨a, e, h H⟩
/-- a dice made: what stood before stays under it -/
theorem RSq.dice {K : Frag} {l : List Int} {v : V} {H H' : Hp} {d : Addr} (h : RSq K none l v H) (e : Xt none H H') (hd : H d = none) : RSq K (some d) l v H' := by
  obtain ⟨a, ev, ⟨o, h1, _, h2⟩ | h⟩ := h
  · exact ⟨a, ev, .inl ⟨o, e.keep _ _ nofun h1, (fun z => by cases z; rw [h1] at hd; cases hd), h2⟩⟩
  · exact ⟨a, ev, .inr h⟩
section
variable {M : Option Addr} {K : Frag}
theorem c_lenQ : Cl M (fun xs H Q => ∃ p ys, xs = [V.ref p] ∧ (SqL K H p ys ∨ SqT K H p ys) ∧ Q (.int (ys.length : Int)) H) (Cons (RSq K M) Nil) RI (fun p z => z = (p.1.length : Int)) (fun _ => True) := by
  rintro ⟨x, _⟩ vs H d ⟨v, r, rfl, h, rfl⟩ _ Q q
  obtain ⟨a, rfl, h2⟩ := h.sq
  exact ⟨a, _, rfl, .inl h2, q _ _ H (.refl d) rfl (by show V.int _ = V.int _; rw [List.length_map])⟩
theorem o_ixQ : Op2 M (rIxL K) (RSq K M) RI RI (fun l i z => atI l i = some z) (fun l i => (atI l i).isSome = true) := by
  rintro l i v u H d h rfl hs Q q
  obtain ⟨a, rfl, h0⟩ := h.sq
  obtain ⟨z, hz⟩ := Option.isSome_iff_exists.mp hs
  have hr : All RI l (l.map V.int) H := by
    clear h hs hz h0 q d
    show Paired (fun x v => RI x v H) _ _
    induction l with
    | nil => exact .nil
    | cons x l ih => exact .cons rfl ih
  obtain ⟨w, h1, h2⟩ := atI_rep hr hz
  exact ⟨a, _, i, w, rfl, rfl, h0, h1, q w z H (.refl d) hz h2⟩
end
theorem q_args {M : Option Addr} {ts : TA} {σ : L2.St} {H : Hp} {β : Type} {S : Rs β} {B : β → Prop} {Q : List V → Hp → Prop} (d : DiceM M H) (h : EvA M ts σ H S B) (k : ∀ vs y H1, Xt M H H1 → B y → S y vs H1 → Q vs H1) : ts σ H Q := h H (.refl d) Q k
theorem par2 {α β : Type} {x : α} {y : β} : ∀ p : α × β × Unit, Eq1 (x, y, ()) p → Eq1 x p.1 ∧ Eq1 y p.2.1 ∧ p.2.2 = () := fun _ h => ⟨congrArg (fun q => q.1) h, congrArg (fun q => q.2.1) h, rfl⟩
theorem par2n {α β : Type} {A : α → Prop} {B : β → Prop} {C : Unit → Prop} : ∀ p : α × β × Unit, (A p.1 ∧ B p.2.1 ∧ C p.2.2) → A p.1 ∧ B p.2.1 ∧ p.2.2 = () := fun _ h => ⟨h.1, h.2.1, rfl⟩
theorem rg1 {n : Int} : ∀ q : Int × Unit, Eq1 (n, ()) q → q.1 = n := fun _ h => congrArg Prod.fst h
theorem rg2 {m n : Int} : ∀ q : Int × Int × Unit, Eq1 (m, n, ()) q → q.1 = m ∧ q.2.1 = n := fun _ h => ⟨congrArg (fun q => q.1) h, congrArg (fun q => q.2.1) h⟩
theorem rg3 {m n l : Int} : ∀ q : Int × Int × Int × Unit, Eq1 (m, n, l, ()) q → q.1 = m ∧ q.2.1 = n ∧ q.2.2.1 = l := fun _ h => ⟨congrArg (fun q => q.1) h, congrArg (fun q => q.2.1) h, congrArg (fun q => q.2.2.1) h⟩
theorem law_mk {N : En} {k : Nat} {x : Str} {st : Stmt} {Ns ps : List Str} {sp : Sp} {fd : FuncData} (F : FunD N.K x x (defArgs st) (defBody st) (defScope st) [] [] (N.ga x) fd) (S : FnScope Ns ps (defScope st)) (len : ∀ vs H Q E, sp vs H Q E → vs.length = ps.length) (body : Body N k x (N.ga x) st Ns sp) : FnOk N.P N.w N.K N.mg N.base (L2.CX N.P N.w) (k + 1) (N.ga x) fd ps sp := F.ok S len body
def sp_dice (K : Frag) : Sp := fun vs H Q _ => ∃ v l at', vs = [v, V.int at'] ∧ RSq K none l v H ∧ (0 ≤ at' ∧ at' < 1000) ∧ ∀ d H' x y, Xt none H H' → H d = none → H' d = some (.lst [.int x, .int y, .int 0]) → Q (.ref d) H'
abbrev sp_roll : Sp := FnM (fun M => Cons (RD M) (Cons RI Nil)) (fun _ => RI) (fun p => 0 < p.2.1 ∧ p.2.1 < 1000000000) (fun p z => 0 ≤ z ∧ z < p.2.1)
theorem old {M : Option Addr} {H H' : Hp} {a : Addr} (e : Xt M H H') (n : M ≠ some a) (h : H' a = none) : H a = none := by
  cases q : H a with
  | none => rfl
  | some o => rw [e.keep a o n q] at h; cases h
/-- a dice of the one kind: what Xt (some d) says of a fresh one -/
theorem xt_none {H H' : Hp} {d : Addr} (e : Xt (some d) H H') (h : H d = none) : Xt none H H' := ⟨fun a o _ q => e.keep a o (fun z => by cases z; rw [h] at q; cases q) q, trivial⟩
end GE
namespace GE
open PySem PySem.Spec PyProof.Rows L2 GB
section
variable {M : Option Addr} {σ : L2.St} {H : Hp} {tz : TA} {tl : TE} {ts w : TS} {D : Ends} {α : Type} {R : Rp α} {K : Frag} {g : TG}
theorem l_for1 {n : Int} {j : Nat} (d : DiceM M H) (h : EvA M tz σ H (Cons RI Nil) (fun q => q.1 = n)) (hn : 0 ≤ n ∧ n < 1000000) (Pv : Int → L2.St → Hp → Prop) (h0 : ∀ H1, Xt M H H1 → Pv 0 σ H1)
    (hs : ∀ (i : Int) σ' H', 0 ≤ i → i < n → Pv i σ' H' → ts { D with nx := Pv (i + 1), ct := Pv (i + 1), bk := D.nx } (σ'.set j (some (.int i))) H') (hd : ∀ σ' H', Pv n σ' H' → D.nx σ' H') : tFor (iRng1 tz) (gName j) ts D σ H :=
  l_rng1 d h hn.2 Pv h0 hs (fun σ' H' a _ => hd σ' H' (a hn.1)) (by omega)
theorem q_for1 {n : Int} {j : Nat} (d : DiceM M H) (h : EvA M tz σ H (Cons RI Nil) (fun q => q.1 = n)) (hn : 0 ≤ n ∧ n < 1000000) (Pv : Int → L2.St → Hp → Prop) (h0 : ∀ H1, Xt M H H1 → Pv 0 σ H1)
    (hs : ∀ (i : Int) σ' H', 0 ≤ i → i < n → Pv i σ' H' → ts { D with nx := Pv (i + 1), ct := Pv (i + 1), bk := w D } (σ'.set j (some (.int i))) H') (hd : ∀ σ' H', Pv n σ' H' → w D σ' H') : tSeq (tFor (iRng1 tz) (gName j) ts) w D σ H :=
  l_for1 (D := { D with nx := w D }) d h hn Pv h0 hs hd
theorem q_for2 {lo n : Int} {j : Nat} (d : DiceM M H) (h : EvA M tz σ H (Cons RI (Cons RI Nil)) (fun q => q.1 = lo ∧ q.2.1 = n)) (hn : lo ≤ n ∧ n < 1000000 ∧ -1000000 < lo) (Pv : Int → L2.St → Hp → Prop) (h0 : ∀ H1, Xt M H H1 → Pv lo σ H1)
    (hs : ∀ (i : Int) σ' H', lo ≤ i → i < n → Pv i σ' H' → ts { D with nx := Pv (i + 1), ct := Pv (i + 1), bk := w D } (σ'.set j (some (.int i))) H') (hd : ∀ σ' H', Pv n σ' H' → w D σ' H') : tSeq (tFor (iRng2 tz) (gName j) ts) w D σ H :=
  l_rng2 (D := { D with nx := w D }) d h hn Pv h0 hs hd
theorem l_forL {xs : List α} (d : DiceM M H) [Mo M R] (h : Ev M tl σ H (RL M (All R)) (Eq1 xs)) (Pv : Hp → Nat → L2.St → Hp → Prop) (h0 : ∀ H1, Xt M H H1 → Pv H1 0 σ H1) (hst : ∀ H1 i σ' H', Pv H1 i σ' H' → Xt M H1 H')
    (hs : ∀ H1, Xt M H H1 → ∀ (i : Nat) v x σ' H', xs[i]? = some x → R x v H' → Pv H1 i σ' H' → g v σ' H' fun σ2 H2 => ts { D with nx := Pv H1 (i + 1), ct := Pv H1 (i + 1), bk := D.nx } σ2 H2) (hd : ∀ H1, Xt M H H1 → ∀ σ' H', Pv H1 xs.length σ' H' → D.nx σ' H') : tFor (iList K tl) g ts D σ H :=
  h H (.refl d) _ fun v x H1 e1 hx rx => by
    cases (show x = xs from hx)
    obtain ⟨a, ws, rfl, n, ha, hr⟩ := rx
    refine ⟨a, rfl, ⟨ws, .of ha⟩, for_list (xs := ws) (Pv H1) (h0 H1 e1) (fun i σ' H' _ p => .of ((hst H1 i σ' H' p).keep a _ n ha)) (fun i v σ' H' hi p => ?_) (fun σ' H' p => ?_)⟩
    · obtain ⟨x, hx, rx⟩ := paired_at' hr hi
      exact hs H1 e1 i v x σ' H' hx (Mo.up (M := M) (hst H1 i σ' H' p) rx) p
    · rw [paired_len hr] at p; exact hd H1 e1 σ' H' p
theorem q_forL {xs : List α} (d : DiceM M H) [Mo M R] (h : Ev M tl σ H (RL M (All R)) (Eq1 xs)) (Pv : Hp → Nat → L2.St → Hp → Prop) (h0 : ∀ H1, Xt M H H1 → Pv H1 0 σ H1) (hst : ∀ H1 i σ' H', Pv H1 i σ' H' → Xt M H1 H')
    (hs : ∀ H1, Xt M H H1 → ∀ (i : Nat) v x σ' H', xs[i]? = some x → R x v H' → Pv H1 i σ' H' → g v σ' H' fun σ2 H2 => ts { D with nx := Pv H1 (i + 1), ct := Pv H1 (i + 1), bk := w D } σ2 H2) (hd : ∀ H1, Xt M H H1 → ∀ σ' H', Pv H1 xs.length σ' H' → w D σ' H') : tSeq (tFor (iList K tl) g ts) w D σ H :=
  l_forL (D := { D with nx := w D }) d h Pv h0 hst hs hd
theorem l_forT {xs : List α} (d : DiceM M H) [Mo M R] (h : Ev M tl σ H (RT M (All R)) (Eq1 xs)) (Pv : Hp → Nat → L2.St → Hp → Prop) (h0 : ∀ H1, Xt M H H1 → Pv H1 0 σ H1) (hst : ∀ H1 i σ' H', Pv H1 i σ' H' → Xt M H1 H')
    (hs : ∀ H1, Xt M H H1 → ∀ (i : Nat) v x σ' H', xs[i]? = some x → R x v H' → Pv H1 i σ' H' → g v σ' H' fun σ2 H2 => ts { D with nx := Pv H1 (i + 1), ct := Pv H1 (i + 1), bk := D.nx } σ2 H2) (hd : ∀ H1, Xt M H H1 → ∀ σ' H', Pv H1 xs.length σ' H' → D.nx σ' H') : tFor (iTup K tl) g ts D σ H :=
  h H (.refl d) _ fun v x H1 e1 hx rx => by
    cases (show x = xs from hx)
    obtain ⟨a, ws, rfl, n, ha, hr⟩ := rx
    refine ⟨a, rfl, ⟨ws, .of ha⟩, for_tup (xs := ws) (Pv H1) (h0 H1 e1) (fun i σ' H' _ p => .of ((hst H1 i σ' H' p).keep a _ n ha)) (fun i v σ' H' hi p => ?_) (fun σ' H' p => ?_)⟩
    · obtain ⟨x, hx, rx⟩ := paired_at' hr hi
      exact hs H1 e1 i v x σ' H' hx (Mo.up (M := M) (hst H1 i σ' H' p) rx) p
    · rw [paired_len hr] at p; exact hd H1 e1 σ' H' p
theorem q_forT {xs : List α} (d : DiceM M H) [Mo M R] (h : Ev M tl σ H (RT M (All R)) (Eq1 xs)) (Pv : Hp → Nat → L2.St → Hp → Prop) (h0 : ∀ H1, Xt M H H1 → Pv H1 0 σ H1) (hst : ∀ H1 i σ' H', Pv H1 i σ' H' → Xt M H1 H')
    (hs : ∀ H1, Xt M H H1 → ∀ (i : Nat) v x σ' H', xs[i]? = some x → R x v H' → Pv H1 i σ' H' → g v σ' H' fun σ2 H2 => ts { D with nx := Pv H1 (i + 1), ct := Pv H1 (i + 1), bk := w D } σ2 H2) (hd : ∀ H1, Xt M H H1 → ∀ σ' H', Pv H1 xs.length σ' H' → w D σ' H') : tSeq (tFor (iTup K tl) g ts) w D σ H :=
  l_forT (D := { D with nx := w D }) d h Pv h0 hst hs hd
theorem ev_ixL [Mo M R] {ta tb : TE} {l : List α} {i : Int} {z : α} (ha : Ev M ta σ H (RL M (All R)) (Eq1 l)) (hb : Ev M tb σ H RI (Eq1 i)) (h : atI l i = some z) : Ev M (tOp (rIxL K) ta tb) σ H R (Eq1 z) :=
  ev_opf o_ixL ha hb (by rw [h]; rfl) fun w e => by rw [h] at e; exact (Option.some.inj e).symm
theorem ev_ixT [Mo M R] {ta tb : TE} {l : List α} {i : Int} {z : α} (ha : Ev M ta σ H (RT M (All R)) (Eq1 l)) (hb : Ev M tb σ H RI (Eq1 i)) (h : atI l i = some z) : Ev M (tOp (rIxT K) ta tb) σ H R (Eq1 z) :=
  ev_opf o_ixT ha hb (by rw [h]; rfl) fun w e => by rw [h] at e; exact (Option.some.inj e).symm
theorem q_if0 {t : TT} {A : Bool → Prop} (d : DiceM M H) (h : EvT M t σ H A) (k1 : ∀ H1, Xt M H H1 → A true → ts D σ H1) (k2 : ∀ H1, Xt M H H1 → A false → D.nx σ H1) : tIfS t ts tNext D σ H := q_if d h k1 k2
theorem q_ifS0 {t : TT} {A : Bool → Prop} (d : DiceM M H) (h : EvT M t σ H A) (k1 : ∀ H1, Xt M H H1 → A true → ts { D with nx := w D } σ H1) (k2 : ∀ H1, Xt M H H1 → A false → w D σ H1) : tSeq (tIfS t ts tNext) w D σ H := q_if (D := { D with nx := w D }) d h k1 k2
theorem xt_mix {H H1 H2 H3 : Hp} {d : Addr} (e1 : Xt none H H1) (hd : H1 d = none) (e2 : Xt none H1 H2) (e3 : Xt (some d) H2 H3) : Xt none H H3 := ⟨fun a o _ q => by
  have q1 := e1.keep a o nofun q
  exact e3.keep a o (fun z => by cases z; rw [hd] at q1; cases q1) (e2.keep a o nofun q1), trivial⟩
/-- the law's promise -/
def sp_law (K : Frag) : Sp := fun vs H Q _ => ∃ v l, vs = [v] ∧ RSq K none l v H ∧ ∀ H', Q (.bl true) H'
theorem ev_lenO {C : Addr} {F : α → List (Str × V) → Hp → Prop} [Mfs F M] {g : α × Unit → Int} {pre : α × Unit → Prop} {E : XK} {ta : TE} {x : α} (ha : Ev M ta σ H (RO M C F) (Eq1 x)) (hp : pre (x, ()) ∧ 0 ≤ g (x, ()) ∧ g (x, ()) < 2 ^ 63) :
    Ev M (tCB (rLenO C (FnF (fun M => Cons (RO M C F) Nil) (fun _ => RI) pre g) E) (tCons ta tNil)) σ H RI (Eq1 (g (x, ()))) :=
  ev_cb1 (f := fun p z => z = g p) (pre := fun p => pre p ∧ 0 ≤ g p ∧ g p < 2 ^ 63) c_lenO (ea_cons1 ha ea_nil) hp
theorem tnext {D : Ends} (h : D.nx σ H) : tNext D σ H := h
theorem sort_one {a b : List Int} (p : a.Perm b) (ha : a.Pairwise (· ≤ ·)) (hb : b.Pairwise (· ≤ ·)) : a = b := by
  induction a generalizing b with
  | nil => exact (List.nil_perm.mp p).symm
  | cons x a ih =>
    cases b with
    | nil => exact absurd p (by simp)
    | cons y b =>
      have hx : x ∈ y :: b := p.subset List.mem_cons_self
      have hy : y ∈ x :: a := p.symm.subset List.mem_cons_self
      have h1 := List.pairwise_cons.mp ha
      have h2 := List.pairwise_cons.mp hb
      have e : x = y := by
        rcases List.mem_cons.mp hx with e | m1
        · exact e
        · rcases List.mem_cons.mp hy with e | m2
          · exact e.symm
          · have := h1.1 y m2; have := h2.1 x m1; omega
      subst e
      rw [ih (List.Perm.cons_inv p) h1.2 h2.2]
/-- the list in order -/
def srt (l : List Int) : List Int := l.mergeSort fun a b => decide (a ≤ b)
theorem srt_perm (l : List Int) : (srt l).Perm l := List.mergeSort_perm l _
theorem srt_sorted (l : List Int) : (srt l).Pairwise (· ≤ ·) := by
  have h := List.pairwise_mergeSort (le := fun a b : Int => decide (a ≤ b)) (fun a b c h1 h2 => by simp at h1 h2 ⊢; omega) (fun a b => by simp; omega) l
  exact h.imp (by simp)
theorem srt2 (a b : Int) : srt [a, b] = [min a b, max a b] := by
  refine sort_one ((srt_perm _).trans ?_) (srt_sorted _) (by simp; omega)
  rcases Int.le_total a b with h | h
  · rw [Int.min_eq_left h, Int.max_eq_right h]
  · rw [Int.min_eq_right h, Int.max_eq_left h]; exact List.Perm.swap _ _ _
theorem ev_sorted {ta : TE} {l : List Int} (h : Ev M ta σ H (RLI M) (Eq1 l)) (hl : l.length < 64) : Ev M (tCB (rSorted K) (tCons ta tNil)) σ H (RLI M) (Eq1 (srt l)) :=
  (ev_cb1 (f := fun (p : List Int × Unit) (z : List Int) => z.Perm p.1 ∧ z.Pairwise (· ≤ ·)) (pre := fun p => p.1.length < 64) c_sorted (ea_cons1 h ea_nil) hl).imp fun z hz => sort_one (hz.1.trans (srt_perm l).symm) hz.2 (srt_sorted l)
end
end GE

/-! GN: rules with the written part named, for blocks. -/
namespace GE
open PySem PySem.Spec PyProof.Rows L2 GB
section
variable {X : Cx}
theorem pe_fldK (K : Frag) (hK : X.K = K) {e : Expr} {f : Str} {pos : Pos} {ta : TE} (he : PE X e ta) (hb : attributeBase e f X.env (eval e X.env) = eval e X.env) : PE X (.Attribute e f pos) (tFld K ta f) := by
  subst hK
  exact pe_fld he hb
theorem pe_pK (K : Frag) (hK : X.K = K) {e : Expr} {f C : Str} {pos : Pos} {ta : TE} {k : Nat} {sp : Sp} {E : XK} (he : PE X e ta) (D : Dp (En.of X) k C f sp) (hr : Room (k + 1) X.A) (hx : Passes (L2.CX X.prog X.w) X.nox E) (hab : attributeBase e f X.env (eval e X.env) = eval e X.env := by rfl) : PE X (.Attribute e f pos) (tPr (He.ga K C) sp E ta) := by
  subst hK
  exact pe_p he D hr hx hab
theorem op_binK (K : Frag) (hK : X.K = K) {op : Operator} {k : Nat} {C : Str} {sp : Sp} {E : XK} (D : Dm (En.of X) k C (PySem.dunder op.info.2) sp) (hc : PySem.W.selfFirst X.K (He.ga X.K C) = true) (hr : Room k X.A) (hx : Passes (L2.CX X.prog X.w) X E) : OpR X (binaryOp op) (rOp (He.ga K C) sp E) := by
  subst hK
  exact op_bin D hc hr hx
theorem op_eqOK (K : Frag) (hK : X.K = K) {k : Nat} {C : Str} {sp : Sp} {E : XK} (D : Dm (En.of X) k C "__eq__" sp) (hr : Room k X.A) (hx : Passes (L2.CX X.prog X.w) X E) : OpR X (compareOp .Eq) (rEqO K (He.ga K C) sp E) := by
  subst hK
  exact op_eqO D hr hx
theorem op_neOK (K : Frag) (hK : X.K = K) {k : Nat} {C : Str} {sp : Sp} {E : XK} (D : Dm (En.of X) k C "__eq__" sp) (nc : NeC X.K (He.ga X.K C)) (hr : Room (k + 1) X.A) (hx : Passes (L2.CX X.prog X.w) X E) : OpR X (compareOp .NotEq) (rNeO (He.ga K C) sp E) := by
  subst hK
  exact op_neO D nc hr hx
theorem call_lenOK (K : Frag) (hK : X.K = K) {k : Nat} {C : Str} {sp : Sp} {E : XK} (D : Dm (En.of X) k C "__len__" sp) (hr : Room (k + 1) X.A) (hx : Passes (L2.CX X.prog X.w) X E) : CallR X (.builtin "len") (rLenO (He.ga K C) sp E) := by
  subst hK
  exact call_lenO D hr hx
theorem ix_listK (K : Frag) (hK : X.K = K)  : IxR X (rIxL K) := by
  subst hK
  exact ix_list
theorem ix_tupK (K : Frag) (hK : X.K = K)  : IxR X (rIxT K) := by
  subst hK
  exact ix_tup
theorem call_len_seqK (K : Frag) (hK : X.K = K)  : CallR X (.builtin "len") (fun xs H Q => ∃ p ys, xs = [.ref p] ∧ (SqL K H p ys ∨ SqT K H p ys) ∧ Q (.int ys.length) H) := by
  subst hK
  exact call_len_seq
theorem call_list_ofK (K : Frag) (hK : X.K = K)  : CallR X (.type "list") (fun xs H Q => ∃ p ys, xs = [.ref p] ∧ (SqL K H p ys ∨ SqT K H p ys) ∧ ∀ l, H l = none → Q (.ref l) (upd H l (.lst ys))) := by
  subst hK
  exact call_list_of
theorem call_tuple_ofK (K : Frag) (hK : X.K = K)  : CallR X (.type "tuple") (fun xs H Q => ∃ p ys, xs = [.ref p] ∧ ((SqL K H p ys ∧ ∀ l, H l = none → Q (.ref l) (upd H l (.tup ys))) ∨ (SqT K H p ys ∧ Q (.ref p) H))) := by
  subst hK
  exact call_tuple_of
theorem call_isiK (K : Frag) (hK : X.K = K)  : CallR X (.builtin "isinstance") (rIsi K) := by
  subst hK
  exact call_isi
theorem op_eqDK (K : Frag) (hK : X.K = K) (hu : X.A.units + 64 < cLine) : OpR X (compareOp .Eq) (rEqD K) := by
  subst hK
  exact op_eqD hu
theorem op_neDK (K : Frag) (hK : X.K = K) (hu : X.A.units + 64 < cLine) : OpR X (compareOp .NotEq) (rNeD K) := by
  subst hK
  exact op_neD hu
theorem pi_listK (K : Frag) (hK : X.K = K) {tg l : Expr} {tl : TE} (hl : PE X l tl) : PI X tg l (iList K tl) := by
  subst hK
  exact pi_list hl
theorem pi_tupK (K : Frag) (hK : X.K = K) {tg l : Expr} {tl : TE} (hl : PE X l tl) : PI X tg l (iTup K tl) := by
  subst hK
  exact pi_tup hl
theorem op_in_seqK (K : Frag) (hK : X.K = K)  : OpR X (compareOp .In) (rIn K false) := by
  subst hK
  exact op_in_seq
theorem op_notIn_seqK (K : Frag) (hK : X.K = K)  : OpR X (compareOp .NotIn) (rIn K true) := by
  subst hK
  exact op_notIn_seq
theorem op_catAK (K : Frag) (hK : X.K = K)  : OpR X (binaryOp .Add) (rCatA K) := by
  subst hK
  exact op_catA
theorem sl_tupAK (K : Frag) (hK : X.K = K)  : SlR X (rSlA K) := by
  subst hK
  exact sl_tupA
theorem sl_listK (K : Frag) (hK : X.K = K)  : SlR X (rSlL K) := by
  subst hK
  exact sl_list
theorem cr_allK (K : Frag) (hK : X.K = K) (hc : X.calm = true) : CallR X (.builtin "all") (rAll K) := by
  subst hK
  exact cr_all hc
theorem cr_sumK (K : Frag) (hK : X.K = K) (hc : X.calm = true) : CallR X (.builtin "sum") (rSum K) := by
  subst hK
  exact cr_sum hc
theorem cr_maxK (K : Frag) (hK : X.K = K) (hc : X.calm = true) : CallR X (.builtin "max") (rMax K) := by
  subst hK
  exact cr_max hc
theorem cr_sortedK (K : Frag) (hK : X.K = K)  : CallR X (.builtin "sorted") (rSorted K) := by
  subst hK
  exact cr_sorted
theorem pe_mK (K : Frag) (hK : X.K = K) {o e : Expr} {es : List Expr} {m C : Str} {k : Nat} {sp : Sp} {E : XK} {pos apos : Pos} {ta : TE} {t : TA} {pl : Sem Bool} (he : PE X o ta) (D : Dm (En.of X) k C m sp) (hr : Room k X.A) (hx : Passes (L2.CX X.prog X.w) X E) (ha : PA X (e :: es) t)
    (hst : starEach (e :: es) X.env = (false, eval e X.env) :: starEach es X.env := by rfl) (hpl : (backTo pos (starEach es X.env)).any (·.1) = false := by rfl)
    (ht : eval (.Call (.Attribute o m apos) (e :: es) [] pos) X.env = (do let ov ← eval o X.env; standAt apos.atName; let (f, first) ← holding [ov] (getMethod ov m pl); callWith pos f first (backTo pos (starEach (e :: es) X.env)) (backToKw pos (keywordEach [] X.env))) := by rfl) :
    PE X (.Call (.Attribute o m apos) (e :: es) [] pos) (tMe (He.ga K C) m sp E ta t) := by
  subst hK
  exact pe_m he D hr hx ha hst hpl ht
theorem pe_m0K (K : Frag) (hK : X.K = K) {o : Expr} {m C : Str} {k : Nat} {sp : Sp} {E : XK} {pos apos : Pos} {ta : TE} {pl : Sem Bool} (he : PE X o ta) (D : Dm (En.of X) k C m sp) (hr : Room k X.A) (hx : Passes (L2.CX X.prog X.w) X E)
    (ht : eval (.Call (.Attribute o m apos) [] [] pos) X.env = (do let ov ← eval o X.env; standAt apos.atName; let (f, first) ← holding [ov] (getMethod ov m pl); callWith pos f first (backTo pos (starEach [] X.env)) (backToKw pos (keywordEach [] X.env))) := by rfl) :
    PE X (.Call (.Attribute o m apos) [] [] pos) (tMe (He.ga K C) m sp E ta tNil) := by
  subst hK
  exact pe_m0 he D hr hx ht
theorem pe_ciK (K : Frag) (hK : X.K = K) {fe e : Expr} {es : List Expr} {C : Str} {k : Nat} {sp : Sp} {E : XK} {pos : Pos} {tf : TE} {t : TA} (hf : PE X fe tf) (D : Dm (En.of X) k C "__call__" sp) (hfi : PySem.W.fnIn X.K (He.ma X.K (He.ga X.K C) "__call__") = true) (hr : Room k X.A) (hx : Passes (L2.CX X.prog X.w) X E) (ha : PA X (e :: es) t)
    (ht : eval (.Call fe (e :: es) [] pos) X.env = (do callWith pos (← eval fe X.env) [] (backTo pos (starEach (e :: es) X.env)) (backToKw pos (keywordEach [] X.env))) := by rfl)
    (hst : starEach (e :: es) X.env = (false, eval e X.env) :: starEach es X.env := by rfl) (hpl : (backTo pos (starEach es X.env)).any (·.1) = false := by rfl) : PE X (.Call fe (e :: es) [] pos) (tCI (He.ga K C) sp E tf t) := by
  subst hK
  exact pe_ci hf D hfi hr hx ha ht hst hpl
end
end GE

namespace T17
open PySem PySem.Spec PyProof.Rows L2 GB GE
def mkc (x y : Int) : Int × Int := (x, y)
/-- what a clerk (cap, modulus) sees of a count -/
def see (c : Int × Int) (n : Int) : Int := if n < c.1 then n else c.1 + (n - c.1) % c.2
def finer (a b : Int × Int) : Bool := decide (b.1 ≤ a.1) && decide (a.2 % b.2 = 0)
def jn (a b : Int × Int) : Int × Int := (max a.1 b.1, (Int.lcm a.2 b.2 : Int))
def mt (a b : Int × Int) : Int × Int := (min a.1 b.1, (Int.gcd a.2 b.2 : Int))
theorem gpos (a b : Int) (h : 0 < a) : 0 < (Int.gcd a b : Int) := by
  have : 0 < Int.gcd a b := Int.gcd_pos_of_ne_zero_left b (by omega)
  omega
theorem gle (a b : Int) (h : 0 < a) : (Int.gcd a b : Int) ≤ a := Int.le_of_dvd h (Int.gcd_dvd_left a b)
theorem gle2 (a b : Int) (h : 0 < b) : (Int.gcd a b : Int) ≤ b := Int.le_of_dvd h (Int.gcd_dvd_right a b)
theorem lcm_eq (a b : Int) (ha : 0 < a) (hb : 0 < b) : a * b / (Int.gcd a b : Int) = (Int.lcm a b : Int) := by
  obtain ⟨m, rfl⟩ := Int.eq_ofNat_of_zero_le (Int.le_of_lt ha)
  obtain ⟨n, rfl⟩ := Int.eq_ofNat_of_zero_le (Int.le_of_lt hb)
  show ((m : Int) * (n : Int)) / ((Nat.gcd m n : Nat) : Int) = ((Nat.lcm m n : Nat) : Int)
  unfold Nat.lcm
  rw [Int.natCast_ediv, Int.natCast_mul]
theorem lpos (a b : Int) (ha : 0 < a) (hb : 0 < b) : 0 < (Int.lcm a b : Int) := by
  have : 0 < Int.lcm a b := Int.lcm_pos (by omega) (by omega)
  omega
theorem lle (a b : Int) (ha : 0 < a) (hb : 0 < b) : (Int.lcm a b : Int) ≤ a * b := by
  apply Int.le_of_dvd (Int.mul_pos ha hb)
  exact Int.coe_lcm_dvd (Int.dvd_mul_right a b) (Int.dvd_mul_left (a := a) (b := b))
theorem max_eq (a b : Int) : (if b > a then b else a) = max a b := by omega
theorem min_eq (a b : Int) : (if b < a then b else a) = min a b := by omega
/-- facts of the semilattices -/
theorem jn_assoc (a b c : Int × Int) : jn (jn a b) c = jn a (jn b c) := by
  unfold jn
  dsimp only
  rw [show max (max a.1 b.1) c.1 = max a.1 (max b.1 c.1) by omega]
  congr 1
  have : Int.lcm (Int.lcm a.2 b.2) c.2 = Int.lcm a.2 (Int.lcm b.2 c.2) := by
    simp only [Int.lcm, Int.natAbs_natCast]
    exact Nat.lcm_assoc _ _ _
  rw [this]
theorem mt_assoc (a b c : Int × Int) : mt (mt a b) c = mt a (mt b c) := by
  unfold mt
  dsimp only
  rw [show min (min a.1 b.1) c.1 = min a.1 (min b.1 c.1) by omega]
  congr 1
  have : Int.gcd (Int.gcd a.2 b.2) c.2 = Int.gcd a.2 (Int.gcd b.2 c.2) := by
    simp only [Int.gcd, Int.natAbs_natCast]
    exact Nat.gcd_assoc _ _ _
  rw [this]
theorem jn_comm (a b : Int × Int) : jn a b = jn b a := by
  unfold jn
  rw [Int.max_comm, Int.lcm_comm]
theorem mt_jn (a b : Int × Int) (ha : 0 < a.2) : mt a (jn a b) = a := by
  unfold mt jn
  dsimp only
  rw [show min a.1 (max a.1 b.1) = a.1 by omega]
  have : (Int.gcd a.2 (Int.lcm a.2 b.2) : Int) = a.2 := by
    have h : a.2 ∣ (Int.lcm a.2 b.2 : Int) := Int.dvd_lcm_left a.2 b.2
    have h2 : a.2 ∣ (Int.gcd a.2 (Int.lcm a.2 b.2) : Int) := Int.dvd_coe_gcd (Int.dvd_refl _) h
    have h3 := gle a.2 (Int.lcm a.2 b.2) ha
    have h4 := Int.le_of_dvd (gpos a.2 (Int.lcm a.2 b.2) ha) h2
    omega
  rw [this]
theorem jn_mt (a b : Int × Int) (ha : 0 < a.2) : jn a (mt a b) = a := by
  unfold mt jn
  dsimp only
  rw [show max a.1 (min a.1 b.1) = a.1 by omega]
  have : (Int.lcm a.2 (Int.gcd a.2 b.2) : Int) = a.2 := by
    have h : (Int.gcd a.2 b.2 : Int) ∣ a.2 := Int.gcd_dvd_left a.2 b.2
    have h2 : (Int.lcm a.2 (Int.gcd a.2 b.2) : Int) ∣ a.2 := Int.coe_lcm_dvd (Int.dvd_refl _) h
    have h3 : a.2 ∣ (Int.lcm a.2 (Int.gcd a.2 b.2) : Int) := Int.dvd_lcm_left _ _
    have h4 := Int.le_of_dvd ha h2
    have h5 := Int.le_of_dvd (lpos a.2 _ ha (gpos a.2 b.2 ha)) h3
    omega
  rw [this]
theorem mod_eq (a b m : Int) (hm : 0 < m) (h : a % m = b % m) : (b - a) % m = 0 := by
  rw [Int.sub_emod, h, Int.sub_self, Int.zero_emod]
theorem finer_see {a b : Int × Int} (h : finer a b = true) (n : Int) (hn : a.1 ≤ n) (ha : 0 < a.2) : see b n = see b (n + a.2) := by
  unfold finer at h
  simp at h
  unfold see
  rw [if_neg (by omega), if_neg (by omega)]
  have : (n + a.2 - b.1) % b.2 = (n - b.1) % b.2 := by
    rw [show n + a.2 - b.1 = (n - b.1) + a.2 by omega, Int.add_emod, h.2, Int.add_zero, Int.emod_emod_of_dvd _ (Int.dvd_refl _)]
  rw [this]
theorem finer_of {a b : Int × Int} (ha : 0 ≤ a.1 ∧ 0 < a.2) (hb : 0 ≤ b.1 ∧ 0 < b.2) (h : ∀ n, a.1 ≤ n → n < a.1 + a.2 → see b n = see b (n + a.2)) : finer a b = true := by
  have h0 := h a.1 (by omega) (by omega)
  unfold see at h0
  have hlt : ¬ a.1 < b.1 := by
    intro hlt
    rw [if_pos hlt] at h0
    split at h0
    · omega
    · have := Int.emod_nonneg (a.1 + a.2 - b.1) (show b.2 ≠ 0 by omega)
      omega
  rw [if_neg hlt, if_neg (by omega)] at h0
  have h1 := mod_eq (a.1 - b.1) (a.1 + a.2 - b.1) b.2 hb.2 (by omega)
  rw [show a.1 + a.2 - b.1 - (a.1 - b.1) = a.2 by omega] at h1
  unfold finer
  simp [h1]
  omega
theorem see_see {a b : Int × Int} (hb : 0 ≤ b.1 ∧ 0 < b.2) (ha : 0 ≤ a.1 ∧ 0 < a.2) (h : finer a b = true) (n : Int) : see b (see a n) = see b n := by
  unfold finer at h
  simp at h
  obtain ⟨h1, h2⟩ := h
  unfold see
  by_cases q : n < a.1
  · rw [if_pos q]
  · rw [if_neg q]
    have e := Int.emod_nonneg (n - a.1) (show a.2 ≠ 0 by omega)
    rw [if_neg (by omega), if_neg (by omega)]
    have : (a.1 + (n - a.1) % a.2 - b.1) % b.2 = (n - b.1) % b.2 := by
      have h3 : (n - a.1) % a.2 = (n - a.1) - a.2 * ((n - a.1) / a.2) := by have := Int.mul_ediv_add_emod (n - a.1) a.2; omega
      rw [h3, show a.1 + (n - a.1 - a.2 * ((n - a.1) / a.2)) - b.1 = (n - b.1) - a.2 * ((n - a.1) / a.2) by omega]
      obtain ⟨c, hc⟩ := Int.dvd_of_emod_eq_zero h2
      rw [hc, Int.mul_assoc, Int.sub_mul_emod_self_left]
    rw [this]
def most_c (a b : Int) : List Int := (rng 1 145).filter fun n => decide (([a, b].filter fun p => !decide (n % p = 0)) = [])
def least_c (a b : Int) : List Int := (rng 1 13).filter fun n => decide (([a, b].filter fun p => !decide (p % n = 0)) = [])
theorem most_chk : ((List.range 13).all fun i => (List.range 13).all fun j => i == 0 || j == 0 || decide (atI (most_c i j) 0 = some (Int.lcm i j : Int) ∧ atI (least_c i j) (-1) = some (Int.gcd i j : Int))) = true := by decide +kernel
theorem most_ix {a b : Int} (ha : 0 < a ∧ a ≤ 12) (hb : 0 < b ∧ b ≤ 12) : atI (most_c a b) 0 = some (Int.lcm a b : Int) ∧ atI (least_c a b) (-1) = some (Int.gcd a b : Int) := by
  obtain ⟨i, rfl⟩ := Int.eq_ofNat_of_zero_le (show 0 ≤ a by omega)
  obtain ⟨j, rfl⟩ := Int.eq_ofNat_of_zero_le (show 0 ≤ b by omega)
  have h := List.all_eq_true.mp (List.all_eq_true.mp most_chk i (List.mem_range.mpr (by omega))) j (List.mem_range.mpr (by omega))
  have h1 : i ≠ 0 := by omega
  have h2 : j ≠ 0 := by omega
  simp [h1, h2] at h
  exact h
theorem jn_lt {a b : Int × Int} (h1 : 0 < a.2) (h2 : a.2 ≤ 12) (h3 : 0 < b.2) (h4 : b.2 ≤ 12) : (jn a b).2 < 1000 := by
  have h5 := lle a.2 b.2 h1 h3
  have h6 : a.2 * b.2 ≤ 12 * 12 := Int.mul_le_mul h2 h4 (by omega) (by omega)
  show (Int.lcm a.2 b.2 : Int) < 1000
  omega
theorem mt_lt {a b : Int × Int} (h1 : 0 < a.2) (h2 : a.2 ≤ 12) : (mt a b).2 < 1000 := by
  have h5 := gle a.2 b.2 h1
  show (Int.gcd a.2 b.2 : Int) < 1000
  omega
theorem fin_jn1 {a b : Int × Int} (ha : 0 ≤ a.1 ∧ 0 < a.2) (hb : 0 ≤ b.1 ∧ 0 < b.2) : finer (jn a b) a = true := by
  unfold finer jn
  have h : (Int.lcm a.2 b.2 : Int) % a.2 = 0 := Int.emod_eq_zero_of_dvd (Int.dvd_lcm_left a.2 b.2)
  simp [h]; omega
theorem fin_jn2 {a b : Int × Int} (ha : 0 ≤ a.1 ∧ 0 < a.2) (hb : 0 ≤ b.1 ∧ 0 < b.2) : finer (jn a b) b = true := by
  rw [jn_comm]; exact fin_jn1 hb ha
theorem fin_mt1 {a b : Int × Int} (ha : 0 ≤ a.1 ∧ 0 < a.2) (hb : 0 ≤ b.1 ∧ 0 < b.2) : finer a (mt a b) = true := by
  unfold finer mt
  have h : a.2 % (Int.gcd a.2 b.2 : Int) = 0 := Int.emod_eq_zero_of_dvd (Int.gcd_dvd_left a.2 b.2)
  simp [h]; omega
theorem fin_mt2 {a b : Int × Int} (ha : 0 ≤ a.1 ∧ 0 < a.2) (hb : 0 ≤ b.1 ∧ 0 < b.2) : finer b (mt a b) = true := by
  unfold finer mt
  have h : b.2 % (Int.gcd a.2 b.2 : Int) = 0 := Int.emod_eq_zero_of_dvd (Int.gcd_dvd_right a.2 b.2)
  simp [h]; omega
theorem mt_comm (a b : Int × Int) : mt a b = mt b a := by
  unfold mt
  rw [Int.min_comm, Int.gcd_comm]
theorem fin_anti {a b : Int × Int} (ha : 0 ≤ a.1 ∧ 1 ≤ a.2) (hb : 0 ≤ b.1 ∧ 1 ≤ b.2) : (finer a b && finer b a) = decide (a = b) := by
  by_cases e : a = b
  · subst e
    simp [finer]
  · rw [decide_eq_false e]
    cases h : (finer a b && finer b a) with
    | false => rfl
    | true =>
      exfalso
      apply e
      unfold finer at h
      simp at h
      obtain ⟨⟨h1, h2⟩, h3, h4⟩ := h
      have h5 := Int.le_of_dvd (by omega) (Int.dvd_of_emod_eq_zero h2)
      have h6 := Int.le_of_dvd (by omega) (Int.dvd_of_emod_eq_zero h4)
      exact Prod.ext (by omega) (by omega)
theorem comp_all {α β : Type} {B : α → β → Prop} {P : β → Prop} (hB : ∀ x y, B x y → P y) {xs : List α} {ys : List β} (h : Comp (fun _ => true) B xs ys) : ys.length = xs.length ∧ ∀ y ∈ ys, P y := by
  induction h with
  | nil => exact ⟨rfl, fun y h => by cases h⟩
  | yes h1 h2 h3 ih =>
    refine ⟨by simp [ih.1], fun y hy => ?_⟩
    rcases List.mem_cons.mp hy with e | m
    · subst e; exact hB _ _ h2
    · exact ih.2 y m
  | no h1 _ _ => cases h1
end T17

namespace T17
open PySem PySem.Spec PyProof.Rows L2 GB GE
def top (i : Nat) : Stmt := PySem.Challenge.pw_clerkblurs_k17_finer_clerks.main.body.getD i (.Pass ⟨0, 0, 0, 0⟩)
local macro_rules | `(tactic| wtm_at "pre") => `(tactic| first | with_reducible exact True.intro | ((try dsimp only); first | with_reducible exact True.intro | with_reducible assumption | omega | (exact Or.inl ⟨by omega, by omega⟩) | (exact Or.inr ⟨by omega, by omega⟩) | exact ⟨by omega, by omega⟩ | exact ⟨by omega, by omega, by omega⟩ | decide +kernel | (simp_all; done) | (simp_all; omega)))
local macro_rules | `(tactic| wtm_at "len") => `(tactic| first | exact len1 (by decide) | exact len2 (by decide) | exact len2 (by simp))
/-! the mathematics -/
def isInt (v l : Int) (m : Option Int) : Bool := decide (l ≤ v) && (match m with | none => true | some z => decide (v ≤ z))
def divs (m : Int) : List Int := (rng 1 (m + 1)).filter fun d => decide (m % d = 0)
def crs (c : Int × Int) : List (Int × Int × Unit) := (rng 0 (c.1 + 1)).flatMap fun x => (divs c.2).map fun d => (x, d, ())
local macro_rules | `(tactic| wtm_at "fin") => `(tactic| first | rfl | (simp [see, finer, isInt, rng_len, Prod.ext_iff]; done) | (simp [see, finer, isInt, rng_len, Prod.ext_iff]; omega) | (simp only [see, finer]; split <;> first | rfl | omega) | (dsimp only; rw [List.filter_eq_self.2 (fun _ _ => rfl)]; refine List.map_congr_left fun y _ => ?_; simp [see]; done) | (simp [see, finer, isInt, rng_len, Prod.ext_iff] <;> omega))
local macro_rules | `(tactic| wtm_at "nev") => `(tactic| first | (simp_all [Eq1]; done) | (simp_all [Eq1, isInt]; done) | (simp [Eq1, isInt] at *; omega))
structure Txt (N : En) : Prop where
  n_int : N.mg "int" = none
  n_bool : N.mg "bool" = none
  n_tuple : N.mg "tuple" = none
  n_list : N.mg "list" = none
  n_len : N.mg "len" = none
  n_range : N.mg "range" = none
  n_max : N.mg "max" = none
  n_min : N.mg "min" = none
  n_abs : N.mg "abs" = none
  n_sorted : N.mg "sorted" = none
  n_isinstance : N.mg "isinstance" = none
  i_MAX_CAP : IntG N "MAX_CAP" 12
  i_MAX_MODULUS : IntG N "MAX_MODULUS" 12
  g_Clerk : N.mg "Clerk" = some (.ref (N.ga "Clerk"))
  g_Numbers : N.mg "Numbers" = some (.ref (N.ga "Numbers"))
  c_Clerk : Cls N.K (N.ga "Clerk")
  is_Clerk : IsC N.K (N.ga "Clerk")
  ne_Clerk : NeC N.K (N.ga "Clerk")
  sf_Clerk : PySem.W.selfFirst N.K (N.ga "Clerk") = true
  na_Clerk_own_cap : NoAttr N.K (N.ga "Clerk") "own_cap"
  na_Clerk_own_modulus : NoAttr N.K (N.ga "Clerk") "own_modulus"
  mk_Clerk : Mk N.K (N.ga "Clerk") (N.ma "Clerk" "__init__")
  mk_Numbers : Mk N.K (N.ga "Numbers") (N.ma "Numbers" "__init__")
  kt_int_bool : PySem.W.kitOne N.K (.type "int") (.type "bool") = some false
  kt_int_Numbers : PySem.W.kitOne N.K (.type "int") (.ref (N.ga "Numbers")) = some false
  kt_Numbers_Numbers : PySem.W.kitOne N.K (.ref (N.ga "Numbers")) (.ref (N.ga "Numbers")) = some true
  kt_Clerk_Clerk : PySem.W.kitOne N.K (.ref (N.ga "Clerk")) (.ref (N.ga "Clerk")) = some true
  sc_Numbers : SlX.SCls N.K (N.ga "Numbers")
  is_Numbers : IsC N.K (N.ga "Numbers")
  sl_cap : ∃ p, SlX.Slot1 N.K (N.ga "Numbers") "own_cap" p 0
  sl_modulus : ∃ p, SlX.Slot1 N.K (N.ga "Numbers") "own_modulus" p 1
def FClerk : Int × Int → List (Str × V) → Hp → Prop := fun x fs _ => fs = ([(("own_cap" : Str), V.int x.1), (("own_modulus" : Str), V.int x.2)] : List (Str × V)) ∧ 0 ≤ x.1 ∧ 0 < x.2
instance {M : Option Addr} : Mfs FClerk M := ⟨fun _ h => h⟩
instance : Mlf FClerk := ⟨fun _ h => h⟩
abbrev R_Clerk (N : En) (M : Option Addr) : Rp (Int × Int) := RO M (N.ga "Clerk") FClerk
theorem clerk_ok {N M x v H} (h : R_Clerk N M x v H) : 0 ≤ x.1 ∧ 0 < x.2 := by obtain ⟨_, _, _, _, _, _, _, h⟩ := h; exact h
theorem lks (a b : V) : ([(("own_cap" : Str), a), (("own_modulus" : Str), b)] : List (Str × V)).lookup ("own_cap" : Str) = some a ∧ ([(("own_cap" : Str), a), (("own_modulus" : Str), b)] : List (Str × V)).lookup ("own_modulus" : Str) = some b := ⟨rfl, by
  have h : (("own_modulus" : Str) == ("own_cap" : Str)) = false := by decide +kernel
  rw [List.lookup_cons, h]; rfl⟩
theorem put2 (a b : V) : putF ("own_modulus" : Str) b (putF ("own_cap" : Str) a []) = [(("own_cap" : Str), a), (("own_modulus" : Str), b)] := by
  show (if ("own_cap" : Str) = "own_modulus" then _ else _) = _
  rw [if_neg (by decide +kernel)]
  rfl
theorem lkn (m : Str) (a b : V) (h1 : (m == ("own_cap" : Str)) = false) (h2 : (m == ("own_modulus" : Str)) = false) : ([(("own_cap" : Str), a), (("own_modulus" : Str), b)] : List (Str × V)).lookup m = none := by
  rw [List.lookup_cons, h1, List.lookup_cons, h2]; rfl
theorem lk_Clerk_own_cap : ∀ (x : Int × Int) (fs : List (Str × V)) (H : Hp), FClerk x fs H → ∃ v, fs.lookup ("own_cap" : Str) = some v ∧ RI x.1 v H := fun x fs H h => by rw [h.1]; exact ⟨_, (lks _ _).1, rfl⟩
theorem lk_Clerk_own_modulus : ∀ (x : Int × Int) (fs : List (Str × V)) (H : Hp), FClerk x fs H → ∃ v, fs.lookup ("own_modulus" : Str) = some v ∧ RI x.2 v H := fun x fs H h => by rw [h.1]; exact ⟨_, (lks _ _).2, rfl⟩
theorem lkm_Clerk_count : ∀ (x : Int × Int) (fs : List (Str × V)) (H : Hp), FClerk x fs H → fs.lookup ("count" : Str) = none := fun x fs H h => by rw [h.1]; exact lkn _ _ _ (by decide +kernel) (by decide +kernel)
theorem lkm_Clerk_is_finer : ∀ (x : Int × Int) (fs : List (Str × V)) (H : Hp), FClerk x fs H → fs.lookup ("is_finer" : Str) = none := fun x fs H h => by rw [h.1]; exact lkn _ _ _ (by decide +kernel) (by decide +kernel)
/-- the numbers that are held -/
def gN (p : Int × Int) : List V := [.int p.1, .int p.2]
abbrev R_Numbers (N : En) (M : Option Addr) : Rp (Int × Int) := RSl M (N.ga "Numbers") gN
abbrev s_is_integer : Stmt := top 8
def N_is_integer : List Str := ["value", "least", "most"]
theorem sc_is_integer : FnScope N_is_integer ["value", "least", "most"] (defScope s_is_integer) := ⟨rfl, rfl, rfl, by decide +kernel, rfl, by decide +kernel, by decide +kernel⟩
abbrev sp_is_integer (N : En) : Sp := FnF (fun M => (Cons RI (Cons RI (Cons (ROpt RI) Nil)))) (fun M => RB) (fun (x_value, x_least, x_most, _) => True) (fun (x_value, x_least, x_most, _) => isInt x_value x_least x_most)
theorem ok_is_integer {N : En} (T : Txt N) (F : FunP N "is_integer" s_is_integer)  : Dn N 1 "is_integer" (sp_is_integer N) := by
  refine dn_mk F sc_is_integer (fun _ _ _ _ _ _ us hl => match us, hl with | [_, _, _], _ => rfl) (fun vs H Q E h => by obtain ⟨_, _, _, ⟨_, _, rfl, _, _, _, rfl, _, _, _, rfl, _, rfl⟩, _⟩ := h; rfl) ?_
  rintro cdv A outer s H vs Q E hr ⟨M, ⟨x_value, x_least, x_most, ⟨⟩⟩, d0, ⟨v_value, _, rfl, r_value, v_least, _, rfl, r_least, v_most, _, rfl, r_most, rfl⟩, hp, k⟩
  replace r_value : RI x_value v_value H := r_value
  replace r_least : RI x_least v_least H := r_least
  replace r_most : (ROpt RI) x_most v_most H := r_most
  try dsimp only at hp
  refine ⟨_, (pss_cons (ps_if (PW.pt (pw_or (pt_not (pt_val (pe_callB call_isi (by rfl) T.n_isinstance (by decide +kernel) (pa_cons (pv 0) (pa_cons (pe_bltn (v := .ty "int") (by rfl) T.n_int (by decide +kernel) rfl) pa_nil))))) (pw_or (pt_val (pe_callB call_isi (by rfl) T.n_isinstance (by decide +kernel) (pa_cons (pv 0) (pa_cons (pe_bltn (v := .ty "bool") (by rfl) T.n_bool (by decide +kernel) rfl) pa_nil)))) (pw_or1 (pt_cmpR op_lt (pv 0) (pv 1) (nomark _))))))
      (pss_one (ps_ret pe_bl)) pss_nil)
    (pss_one (ps_ret (pe_or (pe_cmpR op_isN (pv 2) pe_non (nomark _)) (pe_one (pe_cmpR op_le (pv 0) (pv 2) (nomark _))))))), ?_⟩
  refine q_ifS0 d0 (et_or (et_not (et_val (ev_cb1 (f := fun _ z => z = true) (c_isi (R := RI) (ClsV.ty _) (by rfl) (fun _ _ _ => ty_int)) (ea_cons1 (ev_var rfl r_value) (ea_cons1 ev_cls ea_nil)) rfl))) (fun _ => (et_or (et_val (ev_cb1 (f := fun _ z => z = false) (c_isi (R := RI) (ClsV.ty _) T.kt_int_bool (fun _ _ _ => ty_int)) (ea_cons1 (ev_var rfl r_value) (ea_cons1 ev_cls ea_nil)) rfl)) (fun _ => (et_test (ev_opt o_lt (ev_var rfl r_value) (ev_var rfl r_least))))))) (fun H1 e1 hb => ?_) (fun H1 e1 hb => ?_)
  · simp [Eq1] at hb
    have d1 := e1.dice; replace r_value := up r_value e1; replace r_least := up r_least e1; replace r_most := up r_most e1
    refine q_ret d1 ev_bl fun v z H2 e2 hz rz => ?_
    exact k v z H2 (e1.trans e2) (by first | exact hz | (refine Eq.trans hz ?_; wtm_at "fin")) rz
  · simp [Eq1] at hb
    have d1 := e1.dice; replace r_value := up r_value e1; replace r_least := up r_least e1; replace r_most := up r_most e1
    cases x_most with
    | none =>
      refine q_ret d1 (ev_or (ev_opt o_isN (ev_var (R := ROpt RI) (x := none) rfl r_most) ev_non) (b := true) (fun h => by cases h)) fun v z H2 e2 hz rz => ?_
      exact k v z H2 (e1.trans e2) (by refine Eq.trans hz ?_; show true = (decide (x_least ≤ x_value) && true); rw [decide_eq_true hb]; rfl) rz
    | some m =>
      replace r_most : RI m v_most H1 := r_most
      refine q_ret d1 (ev_or (ev_opt o_isN (ev_var (R := ROpt RI) (x := some m) rfl r_most) ev_non) (fun _ => (ev_opt o_le (ev_var rfl r_value) (ev_var rfl r_most)))) fun v z H2 e2 hz rz => ?_
      exact k v z H2 (e1.trans e2) (by refine Eq.trans hz ?_; show decide (x_value ≤ m) = (decide (x_least ≤ x_value) && decide (x_value ≤ m)); rw [decide_eq_true hb]; rfl) rz
abbrev s_Numbers___init__ : Stmt := inClass (top 14) 1
def N_Numbers___init__ : List Str := ["self", "cap", "modulus"]
theorem sc_Numbers___init__ : FnScope N_Numbers___init__ ["self", "cap", "modulus"] (defScope s_Numbers___init__) := ⟨rfl, rfl, rfl, by decide +kernel, rfl, by decide +kernel, by decide +kernel⟩
abbrev sp_Numbers___init__ (N : En) : Sp := InitS N "Numbers" (fun M => Cons RI (Cons RI Nil)) gN (fun p => True) (fun p (z : Int × Int) => z = (p.1, p.2.1))
theorem ok_Numbers___init__ {N : En} (T : Txt N) (F : FunS N "Numbers" "__init__" "Numbers.__init__" s_Numbers___init__) : Fr N 1 (N.ma "Numbers" "__init__") (sp_Numbers___init__ N) := by
  refine (fs_mk F sc_Numbers___init__ (sp := sp_Numbers___init__ N) (fun _ _ _ _ _ _ us hl => match us, hl with | [_, _, _], _ => rfl) (fun vs H Q E h => by obtain ⟨_, _, _, _, _, _, rfl, _, _, _, _, _, _, ⟨_, _, rfl, _, _, _, rfl, _, rfl⟩, _⟩ := h; rfl) ?_)
  rintro cdv A outer s H vs Q E hr ⟨M, ⟨x, y, ⟨⟩⟩, a, dx, us, H0, rfl, e0, n1, n2, n3, m1, m2, ⟨v1, _, rfl, r1, v2, _, rfl, r2, rfl⟩, hp, hs, k⟩
  replace r1 : RI x v1 H := r1
  replace r2 : RI y v2 H := r2
  refine ⟨_, (pss_cons (SlX.ps_sl (pv 0) (pv 1))
    (pss_one (SlX.ps_sl (pv 0) (pv 2)))), ?_⟩
  obtain ⟨p1, t1⟩ := T.sl_cap
  obtain ⟨p2, t2⟩ := T.sl_modulus
  refine q_sl (M := M) (dx := dx) (vs := []) e0.dice rfl (fun H1 e1 => ?_) T.sc_Numbers t1 (ev_var rfl r1) fun w H1 e1 rw => ?_
  · rcases hs with ⟨h, e⟩ | ⟨h, h'⟩
    · exact .inl ⟨e1.keep _ _ m1 h, e⟩
    · exact .inr ⟨e1.keep _ _ m1 h, e1.keep _ _ m2 h'⟩
  have e2 := Xt.slH (C := N.ga "Numbers") (vs := SlX.putS 0 w []) (e0.trans e1) n1 n2 m1 m2
  refine q_sl (M := M) (dx := dx) (vs := SlX.putS 0 w []) e2.dice rfl (fun H2 e3 => ?_) T.sc_Numbers t2 (ev_var (R := RI) rfl r2) fun w' H2 e3 rw' => ?_
  · exact .inr ⟨e3.keep _ _ m1 upd_same, e3.keep _ _ m2 (by unfold SlX.slH; rw [upd_ne n3, upd_same])⟩
  refine k _ (x, y) (Xt.slH (e2.trans e3) n1 n2 m1 m2) ?_ ?_ rfl
  · cases (show w = V.int x from rw); cases (show w' = V.int y from rw')
    exact upd_same
  · unfold SlX.slH; rw [upd_ne n3, upd_same]
abbrev sp_Numbers (N : En) : Sp := FnF (fun M => Cons RI (Cons RI Nil)) (fun M => R_Numbers N M) (fun _ => True) (fun p => mkc p.1 p.2.1)
theorem ok_Numbers {N : En} (T : Txt N) (F : FunS N "Numbers" "__init__" "Numbers.__init__" s_Numbers___init__) : Dc N 1 "Numbers" (sp_Numbers N) := dc_mkS T.mk_Numbers T.g_Numbers (ok_Numbers___init__ T F)
theorem ev_Numbers {N : En} {M : Option Addr} {σ : L2.St} {H : Hp} {ts : TA} {E : XK} {x y : Int} (h : EvA M ts σ H (Cons RI (Cons RI Nil)) (Eq1 (x, y, ()))) : Ev M (tD (sp_Numbers N) E ts) σ H (R_Numbers N M) (Eq1 (mkc x y)) := ev_df (S := fun M => Cons RI (Cons RI Nil)) h trivial
abbrev s_checked : Stmt := top 15
def N_checked : List Str := ["cap", "modulus"]
theorem sc_checked : FnScope N_checked ["cap", "modulus"] (defScope s_checked) := ⟨rfl, rfl, rfl, by decide +kernel, rfl, by decide +kernel, by decide +kernel⟩
abbrev sp_checked (N : En) : Sp := FnF (fun M => (Cons RI (Cons RI Nil))) (fun M => (R_Numbers N M)) (fun (x_cap, x_modulus, _) => (0 ≤ x_cap ∧ x_cap ≤ 12) ∧ 1 ≤ x_modulus ∧ x_modulus ≤ 12) (fun (x_cap, x_modulus, _) => mkc x_cap x_modulus)
theorem ok_checked {N : En} (T : Txt N) (F : FunP N "checked" s_checked) (D_is_integer : Dn N 1 "is_integer" (sp_is_integer N)) (D_Numbers : Dc N 1 "Numbers" (sp_Numbers N)) : Dn N 3 "checked" (sp_checked N) := by
  refine dn_mk F sc_checked (fun _ _ _ _ _ _ us hl => match us, hl with | [_, _], _ => rfl) (fun vs H Q E h => by obtain ⟨_, _, _, ⟨_, _, rfl, _, _, _, rfl, _, rfl⟩, _⟩ := h; rfl) ?_
  rintro cdv A outer s H vs Q E hr ⟨M, ⟨x_cap, x_modulus, ⟨⟩⟩, d0, ⟨v_cap, _, rfl, r_cap, v_modulus, _, rfl, r_modulus, rfl⟩, hp, k⟩
  replace r_cap : RI x_cap v_cap H := r_cap
  replace r_modulus : RI x_modulus v_modulus H := r_modulus
  try dsimp only at hp
  refine ⟨_, (pss_cons (ps_if (PW.pt (pw_or (pt_not (pt_val (pe_d D_is_integer (hr.mono (by decide)) (by rfl) (passes_call (takes_of rfl rfl rfl rfl) fun _ _ _ _ z => z) (pa_cons (pv 0) (pa_cons pe_int (pa_cons (pe_globI rfl T.i_MAX_CAP) pa_nil)))))) (pw_or1 (pt_not (pt_val (pe_d D_is_integer (hr.mono (by decide)) (by rfl) (passes_call (takes_of rfl rfl rfl rfl) fun _ _ _ _ z => z) (pa_cons (pv 1) (pa_cons pe_int (pa_cons (pe_globI rfl T.i_MAX_MODULUS) pa_nil)))))))))
      (pss_one ps_never) pss_nil)
    (pss_one (ps_ret (pe_c D_Numbers (hr.mono (by decide)) (by rfl) (passes_call (takes_of rfl rfl rfl rfl) fun _ _ _ _ z => z) (pa_cons (pv 0) (pa_cons (pv 1) pa_nil)))))), ?_⟩
  refine q_ifS0 d0 (et_or (et_not (et_val (ev_df (ea_cons1 (ev_var rfl r_cap) (ea_cons1 ev_int (ea_cons1 (ev_some ev_int) ea_nil))) (by wtm_at "pre")))) (fun _ => (et_not (et_val (ev_df (ea_cons1 (ev_var rfl r_modulus) (ea_cons1 ev_int (ea_cons1 (ev_some ev_int) ea_nil))) (by wtm_at "pre")))))) (fun H1 e1 hb => ?_) (fun H1 e1 hb => ?_)
  · exact absurd hb (by wtm_at "nev")
  · simp [Eq1] at hb
    have d1 := e1.dice; replace r_cap := up r_cap e1; replace r_modulus := up r_modulus e1
    refine q_ret d1 (ev_Numbers (ea_cons1 (ev_var rfl r_cap) (ea_cons1 (ev_var rfl r_modulus) ea_nil))) fun v z H2 e2 hz rz => ?_
    exact k v z H2 (e1.trans e2) (by first | exact hz | (refine Eq.trans hz ?_; wtm_at "fin")) rz
theorem gcd_step (a b : Int) (ha : 0 ≤ a) (hb : 0 < b) : Int.gcd b (a % b) = Int.gcd a b := by
  unfold Int.gcd
  have : (a % b).natAbs = a.natAbs % b.natAbs := by
    apply Int.ofNat.inj
    show (((a % b).natAbs : Nat) : Int) = ((a.natAbs % b.natAbs : Nat) : Int)
    rw [Int.natAbs_of_nonneg (Int.emod_nonneg _ (by omega)), Int.natCast_emod, Int.natAbs_of_nonneg ha, Int.natAbs_of_nonneg (by omega)]
  rw [this, Nat.gcd_comm, ← Nat.gcd_rec, Nat.gcd_comm]
abbrev s_common_divisor : Stmt := top 16
def N_common_divisor : List Str := ["one", "other"]
theorem sc_common_divisor : FnScope N_common_divisor ["one", "other"] (defScope s_common_divisor) := ⟨rfl, rfl, rfl, by decide +kernel, rfl, by decide +kernel, by decide +kernel⟩
abbrev sp_common_divisor (N : En) : Sp := FnF (fun M => (Cons RI (Cons RI Nil))) (fun M => RI) (fun (x_one, x_other, _) => 0 ≤ x_one ∧ 0 ≤ x_other) (fun (x_one, x_other, _) => (Int.gcd x_one x_other : Int))
theorem ok_common_divisor {N : En} (T : Txt N) (F : FunP N "common_divisor" s_common_divisor)  : Dn N 1 "common_divisor" (sp_common_divisor N) := by
  refine dn_mk F sc_common_divisor (fun _ _ _ _ _ _ us hl => match us, hl with | [_, _], _ => rfl) (fun vs H Q E h => by obtain ⟨_, _, _, ⟨_, _, rfl, _, _, _, rfl, _, rfl⟩, _⟩ := h; rfl) ?_
  rintro cdv A outer s H vs Q E hr ⟨M, ⟨x_one, x_other, ⟨⟩⟩, d0, ⟨v_one, _, rfl, r_one, v_other, _, rfl, r_other, rfl⟩, hp, k⟩
  replace r_one : RI x_one v_one H := r_one
  replace r_other : RI x_other v_other H := r_other
  try dsimp only at hp
  refine ⟨_, (pss_cons (ps_while (passes_of rfl) (pt_cmpR op_ne (pv 1) pe_int (nomark _))
      (pss_one (ps_par rfl sc_common_divisor.nd (i := 0) (j := 1) rfl rfl (by decide) rfl rfl (pa_cons (pv 1) (pa_cons (pe_op op_mod (pv 0) (pv 1)) pa_nil)) rfl)))
    (pss_one (ps_ret (pv 0)))), ?_⟩
  refine ⟨fun m σ H' => ∃ a b : Int, σ = [some (.int a), some (.int b)] ∧ 0 ≤ a ∧ 0 ≤ b ∧ m = b.toNat ∧ Int.gcd a b = Int.gcd x_one x_other ∧ Xt M H H', ⟨_, x_one, x_other, ?_, hp.1, hp.2, rfl, rfl, .refl d0⟩, ?_⟩
  · cases (show v_one = V.int x_one from r_one); cases (show v_other = V.int x_other from r_other); rfl
  rintro m σ H' ⟨a, b, rfl, ha, hb, rfl, hg, e1⟩
  refine (et_test (ev_opt (M := M) (R := RI) (R' := RI) (x := b) (y := 0) o_ne (ev_var rfl rfl) ev_int)) H' (.refl e1.dice) _ fun c H2 e2 hc => ?_
  cases c with
  | true =>
    have hb' : b ≠ 0 := by simpa [Eq1] using hc
    rw [if_pos rfl]
    refine ⟨fun σ' H3 => ∃ c, 0 ≤ c ∧ c < b ∧ σ' = [some (.int b), some (.int c)] ∧ Int.gcd b c = Int.gcd x_one x_other ∧ Xt M H H3, fun σ' H3 ⟨c, h1, h2, h3, h4, h5⟩ => ⟨c.toNat, by omega, b, c, h3, hb, h1, rfl, h4, h5⟩, ?_⟩
    refine (ea_cons1 (ev_var (R := RI) (x := b) rfl rfl) (ea_cons1 (ev_op1 o_mod (ev_var (R := RI) (x := a) rfl rfl) (ev_var (R := RI) (x := b) rfl rfl) (by wtm_at "pre")) ea_nil)) H2 (.refl e2.dice) _ fun vs y H3 e3 hy ⟨w1, r1, q1, q2, w2, r2, q3, q4, q5⟩ => ?_
    subst hy; subst q1; subst q3
    cases (show r2 = [] from q5); cases (show w1 = V.int b from q2); cases (show w2 = V.int (a % b) from q4)
    exact ⟨_, _, rfl, a % b, Int.emod_nonneg _ hb', Int.emod_lt_of_pos _ (by omega), rfl, (gcd_step a b ha (by omega)).trans hg, (e1.trans e2).trans e3⟩
  | false =>
    have hb' : b = 0 := by simpa [Eq1] using hc
    subst hb'
    refine q_ret e2.dice (ev_var (R := RI) (x := a) rfl rfl) fun v z H3 e3 hz rz => ?_
    exact k v z H3 ((e1.trans e2).trans e3) (by
      refine Eq.trans hz ?_
      show a = (Int.gcd x_one x_other : Int)
      rw [← hg, Int.gcd_zero_right, Int.natAbs_of_nonneg ha]) rz
abbrev s_Clerk_cap : Stmt := inClass (top 17) 1
def N_Clerk_cap : List Str := ["self"]
theorem sc_Clerk_cap : FnScope N_Clerk_cap ["self"] (defScope s_Clerk_cap) := ⟨rfl, rfl, rfl, by decide +kernel, rfl, by decide +kernel, by decide +kernel⟩
abbrev sp_Clerk_cap (N : En) : Sp := FnF (fun M => (Cons (R_Clerk N M) Nil)) (fun M => RI) (fun (x_self, _) => True) (fun (x_self, _) => x_self.1)
theorem ok_Clerk_cap {N : En} (T : Txt N) (F : FunPr N "Clerk" "cap" "Clerk.cap" s_Clerk_cap)  : Dp N 1 "Clerk" "cap" (sp_Clerk_cap N) := by
  refine dp_mk F sc_Clerk_cap (fun _ _ _ _ _ _ us hl => match us, hl with | [_], _ => rfl) (fun vs H Q E h => by obtain ⟨_, _, _, ⟨_, _, rfl, _, rfl⟩, _⟩ := h; rfl) ?_
  rintro g cdv A outer s H vs Q E hr ⟨M, ⟨x_self, ⟨⟩⟩, d0, ⟨v_self, _, rfl, r_self, rfl⟩, hp, k⟩
  replace r_self : (R_Clerk N M) x_self v_self H := r_self
  try dsimp only at hp
  have w_self := clerk_ok r_self
  refine ⟨_, (pss_one (ps_ret (pe_fld (pv 0) rfl))), ?_⟩
  refine q_ret d0 (ev_fld1 T.c_Clerk T.na_Clerk_own_cap lk_Clerk_own_cap (ev_var rfl r_self)) fun v z H1 e1 hz rz => ?_
  exact k v z H1 e1 (by first | exact hz | (refine Eq.trans hz ?_; wtm_at "fin")) rz
abbrev s_Clerk_modulus : Stmt := inClass (top 17) 2
def N_Clerk_modulus : List Str := ["self"]
theorem sc_Clerk_modulus : FnScope N_Clerk_modulus ["self"] (defScope s_Clerk_modulus) := ⟨rfl, rfl, rfl, by decide +kernel, rfl, by decide +kernel, by decide +kernel⟩
abbrev sp_Clerk_modulus (N : En) : Sp := FnF (fun M => (Cons (R_Clerk N M) Nil)) (fun M => RI) (fun (x_self, _) => True) (fun (x_self, _) => x_self.2)
theorem ok_Clerk_modulus {N : En} (T : Txt N) (F : FunPr N "Clerk" "modulus" "Clerk.modulus" s_Clerk_modulus)  : Dp N 1 "Clerk" "modulus" (sp_Clerk_modulus N) := by
  refine dp_mk F sc_Clerk_modulus (fun _ _ _ _ _ _ us hl => match us, hl with | [_], _ => rfl) (fun vs H Q E h => by obtain ⟨_, _, _, ⟨_, _, rfl, _, rfl⟩, _⟩ := h; rfl) ?_
  rintro g cdv A outer s H vs Q E hr ⟨M, ⟨x_self, ⟨⟩⟩, d0, ⟨v_self, _, rfl, r_self, rfl⟩, hp, k⟩
  replace r_self : (R_Clerk N M) x_self v_self H := r_self
  try dsimp only at hp
  have w_self := clerk_ok r_self
  refine ⟨_, (pss_one (ps_ret (pe_fld (pv 0) rfl))), ?_⟩
  refine q_ret d0 (ev_fld1 T.c_Clerk T.na_Clerk_own_modulus lk_Clerk_own_modulus (ev_var rfl r_self)) fun v z H1 e1 hz rz => ?_
  exact k v z H1 e1 (by first | exact hz | (refine Eq.trans hz ?_; wtm_at "fin")) rz
theorem ev_checked {N : En} {M : Option Addr} {σ : L2.St} {H : Hp} {ts : TA} {E : XK} {x y : Int} (h : EvA M ts σ H (Cons RI (Cons RI Nil)) (Eq1 (x, y, ()))) (hp : (0 ≤ x ∧ x ≤ 12) ∧ 1 ≤ y ∧ y ≤ 12) : Ev M (tD (sp_checked N) E ts) σ H (R_Numbers N M) (Eq1 (mkc x y)) := ev_df (S := fun M => Cons RI (Cons RI Nil)) h hp
abbrev s_Clerk___init__ : Stmt := inClass (top 17) 0
def N_Clerk___init__ : List Str := ["self", "cap", "modulus", "held"]
theorem sc_Clerk___init__ : FnScope N_Clerk___init__ ["self", "cap", "modulus"] (defScope s_Clerk___init__) := ⟨rfl, rfl, rfl, by decide +kernel, rfl, by decide +kernel, by decide +kernel⟩
abbrev sp_Clerk___init__ (N : En) : Sp := InitP N "Clerk" (fun M => Cons RI (Cons RI Nil)) FClerk (fun (x, y, _) => (0 ≤ x ∧ x ≤ 12) ∧ 1 ≤ y ∧ y ≤ 12) (fun (x, y, _) z => z = mkc x y)
theorem ok_Clerk___init__ {N : En} (T : Txt N) (F : FunMD N "Clerk" "__init__" "Clerk.__init__" s_Clerk___init__ [.int 1]) (D_checked : Dn N 3 "checked" (sp_checked N)) : Fr N 4 (N.ma "Clerk" "__init__") (fun vs H Q E => sp_Clerk___init__ N (vs ++ []) H Q E) := by
  refine dm_mkD 3 1 (dvs := [.int 1]) (by simp) (by decide) F.1 sc_Clerk___init__ (sp := sp_Clerk___init__ N) (fun _ _ _ _ _ _ _ us its h1 h2 => match us, its, h1, h2 with | [_, _, _], [_], _, _ => ⟨_, rfl, rfl⟩) (fun vs H Q E h => by obtain ⟨_, _, _, _, _, _, rfl, _, _, _, _, _, ⟨_, _, rfl, _, _, _, rfl, _, rfl⟩, _⟩ := h; rfl) ?_
  rintro cdv A outer s H vs Q E hr ⟨M, ⟨x_cap, x_modulus, ⟨⟩⟩, a, dx, us, H0, rfl, e0, n1, n2, n3, m1, ⟨v_cap, _, rfl, r_cap, v_modulus, _, rfl, r_modulus, rfl⟩, hp, hs, k⟩
  replace r_cap : RI x_cap v_cap H := r_cap
  replace r_modulus : RI x_modulus v_modulus H := r_modulus
  dsimp only at hp
  have d0 := e0.dice
  refine ⟨_, (pss_cons (ps_set (i := 3) sc_Clerk___init__.nd rfl (by first | exact Or.inl rfl | exact Or.inr rfl) (pe_ifExp (pt_val (pe_callB call_isi (by rfl) T.n_isinstance (by decide +kernel) (pa_cons (pv 1) (pa_cons (pe_globR rfl T.g_Numbers) pa_nil)))) (pv 1) (pe_d D_checked (hr.mono (by decide)) (by rfl) (passes_call (takes_of rfl rfl rfl rfl) fun _ _ _ _ z => z) (pa_cons (pv 1) (pa_cons (pv 2) pa_nil)))))
    (pss_cons (ps_fld (pv 0) (SlX.pe_sl (pv 3)) rfl)
    (pss_one (ps_fld (pv 0) (SlX.pe_sl (pv 3)) rfl)))), ?_⟩
  refine q_set d0 (ev_ifE (R := R_Numbers N M) (x := (0, 0)) (et_val (ev_cb1 (f := fun _ z => z = false) (c_isi (R := RI) (ClsV.own _) T.kt_int_Numbers (fun _ _ _ => ty_int)) (ea_cons1 (ev_var rfl r_cap) (ea_cons1 ev_cls ea_nil)) rfl)) (fun h => by cases h) (fun _ => (ev_checked (ea_cons1 (ev_var rfl r_cap) (ea_cons1 (ev_var rfl r_modulus) ea_nil)) hp))) fun v_held x_held H1 e1 h_held r_held => ?_
  replace h_held : x_held = mkc x_cap x_modulus := h_held
  subst h_held
  obtain ⟨p1, t1⟩ := T.sl_cap
  obtain ⟨p2, t2⟩ := T.sl_modulus
  have hs1 := e1.keep _ _ m1 hs
  refine q_fld (M := M) (R := RI) (z := x_cap) e1.dice rfl hs1 m1 T.c_Clerk T.na_Clerk_own_cap (by decide) (ev_sl (R'' := RI) (g := gN) (h := fun p => p.1) (x := mkc x_cap x_modulus) T.sc_Numbers t1 rfl (fun _ => rfl) (ev_var rfl r_held)) fun w H2 e2 rw1 => ?_
  have e3 : Xt M H0 (upd H2 a (.ins (N.ga "Clerk") dx (putF "own_cap" w []))) := Xt.put ((e0.trans e1).trans e2) n1 m1
  have r_held2 : R_Numbers N M (mkc x_cap x_modulus) v_held (upd H2 a (.ins (N.ga "Clerk") dx (putF "own_cap" w []))) := by
    obtain ⟨b, dy, g1, g2, g3, g4, g5, g6⟩ := up r_held e2
    have hb : H2 a = some (.ins (N.ga "Clerk") dx []) := e2.keep _ _ m1 hs1
    refine ⟨b, dy, g1, g2, g3, g4, ?_, ?_⟩
    · rw [upd_ne (fun z => by subst z; rw [hb] at g5; cases g5)]; exact g5
    · rw [upd_ne (fun z => by subst z; rw [hb] at g6; cases g6)]; exact g6
  refine q_fld (M := M) (R := RI) (z := x_modulus) e3.dice rfl upd_same m1 T.c_Clerk T.na_Clerk_own_modulus (by simp [putF]) (ev_sl (R'' := RI) (g := gN) (h := fun p => p.2) (x := mkc x_cap x_modulus) T.sc_Numbers t2 rfl (fun _ => rfl) (ev_var rfl r_held2)) fun w' H4 e4 rw2 => ?_
  refine k _ (mkc x_cap x_modulus) _ (Xt.put (e3.trans e4) n1 m1) upd_same rfl ⟨?_, by show 0 ≤ x_cap; omega, by show 0 < x_modulus; omega⟩
  cases (show w = V.int x_cap from rw1); cases (show w' = V.int x_modulus from rw2)
  exact put2 _ _
abbrev sp_Clerk (N : En) : Sp := FnF (fun M => Cons RI (Cons RI Nil)) (fun M => R_Clerk N M) (fun p => (0 ≤ p.1 ∧ p.1 ≤ 12) ∧ 1 ≤ p.2.1 ∧ p.2.1 ≤ 12) (fun p => mkc p.1 p.2.1)
theorem ok_Clerk {N : En} (T : Txt N) (F : FunMD N "Clerk" "__init__" "Clerk.__init__" s_Clerk___init__ [.int 1]) (D_checked : Dn N 3 "checked" (sp_checked N)) : Dc N 4 "Clerk" (sp_Clerk N) :=
  dc_mk (dvs := []) T.mk_Clerk T.g_Clerk (ok_Clerk___init__ T F D_checked) (fun h => by rw [List.append_nil]; exact h)
theorem ev_Clerk {N : En} {M : Option Addr} {σ : L2.St} {H : Hp} {ts : TA} {E : XK} {x y : Int} (h : EvA M ts σ H (Cons RI (Cons RI Nil)) (Eq1 (x, y, ()))) (hp : (0 ≤ x ∧ x ≤ 12) ∧ 1 ≤ y ∧ y ≤ 12) : Ev M (tD (sp_Clerk N) E ts) σ H (R_Clerk N M) (Eq1 (mkc x y)) := ev_df (S := fun M => Cons RI (Cons RI Nil)) h hp
abbrev sp_Clerk___initN (N : En) : Sp := InitP N "Clerk" (fun M => Cons (R_Numbers N M) (Cons RI Nil)) FClerk (fun (x, y, _) => 0 ≤ x.1 ∧ 0 < x.2) (fun (x, y, _) z => z = mkc x.1 x.2)
theorem ok_Clerk___initN {N : En} (T : Txt N) (F : FunMD N "Clerk" "__init__" "Clerk.__init__" s_Clerk___init__ [.int 1]) (D_checked : Dn N 3 "checked" (sp_checked N)) : Fr N 4 (N.ma "Clerk" "__init__") (fun vs H Q E => sp_Clerk___initN N (vs ++ [.int 1]) H Q E) := by
  refine dm_mkD 2 0 (dvs := [.int 1]) (by simp) (by decide) F.1 sc_Clerk___init__ (sp := sp_Clerk___initN N) (fun _ _ _ _ _ _ _ us its h1 h2 => match us, its, h1, h2 with | [_, _], [_], _, _ => ⟨_, rfl, rfl⟩) (fun vs H Q E h => by obtain ⟨_, _, _, _, _, _, rfl, _, _, _, _, _, ⟨_, _, rfl, _, _, _, rfl, _, rfl⟩, _⟩ := h; rfl) ?_
  rintro cdv A outer s H vs Q E hr ⟨M, ⟨⟨x_cap, x_modulus⟩, x_one, ⟨⟩⟩, a, dx, us, H0, rfl, e0, n1, n2, n3, m1, ⟨v_cap, _, rfl, r_cap, v_modulus, _, rfl, r_modulus, rfl⟩, hp, hs, k⟩
  replace r_cap : R_Numbers N M (x_cap, x_modulus) v_cap H := up (show R_Numbers N M (x_cap, x_modulus) v_cap H0 from r_cap) e0
  replace r_modulus : RI x_one v_modulus H := r_modulus
  dsimp only at hp
  have d0 := e0.dice
  have isN : Cl M (SlX.rIsiSl N.K (.ref (N.ga "Numbers"))) (Cons (R_Numbers N M) (Cons RV Nil)) RB (fun _ z => z = true) (fun p => p.2.1 = V.ref (N.ga "Numbers")) := by
    rintro ⟨x, y, ⟨⟩⟩ vs H d ⟨v, r, rfl, rx, w, r', rfl, rw', rfl⟩ hp Q q
    obtain ⟨b, dy, g1, g2, g3, g4, g5, g6⟩ := rx
    have e1 : y = V.ref (N.ga "Numbers") := hp
    have e2 : w = y := rw'
    subst g1
    subst e2
    subst e1
    exact ⟨b, N.ga "Numbers", dy, _, _, true, rfl, rfl, fun w h => h, .inr ⟨g5, g6⟩, T.sc_Numbers, T.is_Numbers.s, T.kt_Numbers_Numbers, q _ true H (.refl d) rfl rfl⟩
  refine ⟨_, (pss_cons (ps_set (i := 3) sc_Clerk___init__.nd rfl (by first | exact Or.inl rfl | exact Or.inr rfl) (pe_ifExp (pt_val (pe_callB (SlX.call_isiSl (.ref (N.ga "Numbers"))) (by rfl) T.n_isinstance (by decide +kernel) (pa_cons (pv 1) (pa_cons (pe_globR rfl T.g_Numbers) pa_nil)))) (pv 1) (pe_d D_checked (hr.mono (by decide)) (by rfl) (passes_call (takes_of rfl rfl rfl rfl) fun _ _ _ _ z => z) (pa_cons (pv 1) (pa_cons (pv 2) pa_nil)))))
    (pss_cons (ps_fld (pv 0) (SlX.pe_sl (pv 3)) rfl)
    (pss_one (ps_fld (pv 0) (SlX.pe_sl (pv 3)) rfl)))), ?_⟩
  refine q_set d0 (ev_ifE (R := R_Numbers N M) (y := (0, 0)) (et_val (ev_cb1 (f := fun _ z => z = true) isN (ea_cons1 (ev_var rfl r_cap) (ea_cons1 ev_cls ea_nil)) rfl)) (fun _ => (ev_var rfl r_cap)) (fun h => by cases h)) fun v_held x_held H1 e1 h_held r_held => ?_
  replace h_held : x_held = (x_cap, x_modulus) := h_held
  subst h_held
  obtain ⟨p1, t1⟩ := T.sl_cap
  obtain ⟨p2, t2⟩ := T.sl_modulus
  have hs1 := e1.keep _ _ m1 hs
  refine q_fld (M := M) (R := RI) (z := x_cap) e1.dice rfl hs1 m1 T.c_Clerk T.na_Clerk_own_cap (by decide) (ev_sl (R'' := RI) (g := gN) (h := fun p => p.1) (x := (x_cap, x_modulus)) T.sc_Numbers t1 rfl (fun _ => rfl) (ev_var rfl r_held)) fun w H2 e2 rw1 => ?_
  have e3 : Xt M H0 (upd H2 a (.ins (N.ga "Clerk") dx (putF "own_cap" w []))) := Xt.put ((e0.trans e1).trans e2) n1 m1
  have r_held2 : R_Numbers N M (x_cap, x_modulus) v_held (upd H2 a (.ins (N.ga "Clerk") dx (putF "own_cap" w []))) := by
    obtain ⟨b, dy, g1, g2, g3, g4, g5, g6⟩ := up r_held e2
    have hb : H2 a = some (.ins (N.ga "Clerk") dx []) := e2.keep _ _ m1 hs1
    refine ⟨b, dy, g1, g2, g3, g4, ?_, ?_⟩
    · rw [upd_ne (fun z => by subst z; rw [hb] at g5; cases g5)]; exact g5
    · rw [upd_ne (fun z => by subst z; rw [hb] at g6; cases g6)]; exact g6
  refine q_fld (M := M) (R := RI) (z := x_modulus) e3.dice rfl upd_same m1 T.c_Clerk T.na_Clerk_own_modulus (by simp [putF]) (ev_sl (R'' := RI) (g := gN) (h := fun p => p.2) (x := (x_cap, x_modulus)) T.sc_Numbers t2 rfl (fun _ => rfl) (ev_var rfl r_held2)) fun w' H4 e4 rw2 => ?_
  refine k _ (mkc x_cap x_modulus) _ (Xt.put (e3.trans e4) n1 m1) upd_same rfl ⟨?_, by show 0 ≤ x_cap; omega, by show 0 < x_modulus; omega⟩
  cases (show w = V.int x_cap from rw1); cases (show w' = V.int x_modulus from rw2)
  exact put2 _ _
abbrev sp_ClerkN (N : En) : Sp := FnF (fun M => Cons (R_Numbers N M) Nil) (fun M => R_Clerk N M) (fun p => 0 ≤ p.1.1 ∧ 0 < p.1.2) (fun p => mkc p.1.1 p.1.2)
theorem ok_ClerkN {N : En} (T : Txt N) (F : FunMD N "Clerk" "__init__" "Clerk.__init__" s_Clerk___init__ [.int 1]) (D_checked : Dn N 3 "checked" (sp_checked N)) : Dc N 4 "Clerk" (sp_ClerkN N) := by
  refine Dc.imp (dc_mk (dvs := [.int 1]) (S' := fun M (x : (Int × Int) × Int × Unit) vs H => x.2.1 = 1 ∧ Cons (R_Numbers N M) Nil (x.1, ()) vs H) T.mk_Clerk T.g_Clerk (ok_Clerk___initN T F D_checked) (fun {M x vs H} h => ?_)) fun vs H Q E h => ?_
  · obtain ⟨⟨x1, x2⟩, x3, ⟨⟩⟩ := x
    obtain ⟨h1, v, r, rfl, h2, h3⟩ := h
    cases (show r = [] from h3)
    exact ⟨v, _, rfl, h2, _, _, rfl, (by show V.int 1 = V.int x3; rw [show x3 = 1 from h1]), rfl⟩
  · obtain ⟨M, ⟨x, ⟨⟩⟩, d, hs, hp, q⟩ := h
    exact ⟨M, (x, 1, ()), d, ⟨rfl, hs⟩, hp, q⟩
theorem ev_ClerkN {N : En} {M : Option Addr} {σ : L2.St} {H : Hp} {ts : TA} {E : XK} {x : Int × Int} (h : EvA M ts σ H (Cons (R_Numbers N M) Nil) (Eq1 (x, ()))) (hp : 0 ≤ x.1 ∧ 0 < x.2) : Ev M (tD (sp_ClerkN N) E ts) σ H (R_Clerk N M) (Eq1 (mkc x.1 x.2)) := ev_df (S := fun M => Cons (R_Numbers N M) Nil) h hp
end T17

namespace T17
open PySem PySem.Spec PyProof.Rows L2 GB GE
local macro_rules | `(tactic| wtm_at "pre") => `(tactic| first | exact True.intro | ((try dsimp only); first | exact True.intro | assumption | omega | (exact Or.inl ⟨by omega, by omega⟩) | (exact Or.inr ⟨by omega, by omega⟩) | exact ⟨by omega, by omega⟩ | exact ⟨by omega, by omega, by omega⟩ | (simp_all; done) | (simp_all; omega)))
local macro_rules | `(tactic| wtm_at "len") => `(tactic| first | exact len1 (by decide) | exact len2 (by decide) | exact len2 (by simp))
local macro_rules | `(tactic| wtm_at "fin") => `(tactic| first | rfl | (simp [see, finer, isInt, rng_len, Prod.ext_iff]; done) | (simp [see, finer, isInt, rng_len, Prod.ext_iff]; omega) | (simp only [see, finer]; split <;> first | rfl | omega) | (dsimp only; rw [List.filter_eq_self.2 (fun _ _ => rfl)]; refine List.map_congr_left fun y _ => ?_; simp [see]; done) | (simp [see, finer, isInt, rng_len, Prod.ext_iff] <;> omega))
local macro_rules | `(tactic| wtm_at "nev") => `(tactic| first | (simp_all [Eq1]; done) | (simp_all [Eq1, isInt]; done) | (simp [Eq1, isInt] at *; omega))
abbrev s_clerk_in : Stmt := top 18
def N_clerk_in : List Str := ["cap", "modulus"]
theorem sc_clerk_in : FnScope N_clerk_in ["cap", "modulus"] (defScope s_clerk_in) := ⟨rfl, rfl, rfl, by decide +kernel, rfl, by decide +kernel, by decide +kernel⟩
abbrev sp_clerk_in (N : En) : Sp := FnF (fun M => (Cons RI (Cons RI Nil))) (fun M => (R_Clerk N M)) (fun (x_cap, x_modulus, _) => 0 ≤ x_cap ∧ 0 < x_modulus) (fun (x_cap, x_modulus, _) => mkc x_cap x_modulus)
theorem ok_clerk_in {N : En} (T : Txt N) (F : FunP N "clerk_in" s_clerk_in) (D_Numbers : Dc N 1 "Numbers" (sp_Numbers N)) (D_Clerk : Dc N 4 "Clerk" (sp_ClerkN N)) : Dn N 6 "clerk_in" (sp_clerk_in N) := by
  refine dn_mk F sc_clerk_in (fun _ _ _ _ _ _ us hl => match us, hl with | [_, _], _ => rfl) (fun vs H Q E h => by obtain ⟨_, _, _, ⟨_, _, rfl, _, _, _, rfl, _, rfl⟩, _⟩ := h; rfl) ?_
  rintro cdv A outer s H vs Q E hr ⟨M, ⟨x_cap, x_modulus, ⟨⟩⟩, d0, ⟨v_cap, _, rfl, r_cap, v_modulus, _, rfl, r_modulus, rfl⟩, hp, k⟩
  replace r_cap : RI x_cap v_cap H := r_cap
  replace r_modulus : RI x_modulus v_modulus H := r_modulus
  try dsimp only at hp
  refine ⟨_, (pss_one (ps_ret (pe_c D_Clerk (hr.mono (by decide)) (by rfl) (passes_call (takes_of rfl rfl rfl rfl) fun _ _ _ _ z => z) (pa_cons (pe_c D_Numbers (hr.mono (by decide)) (by rfl) (passes_call (takes_of rfl rfl rfl rfl) fun _ _ _ _ z => z) (pa_cons (pv 0) (pa_cons (pv 1) pa_nil))) pa_nil)))), ?_⟩
  refine q_ret d0 (ev_ClerkN (ea_cons1 (ev_Numbers (ea_cons1 (ev_var rfl r_cap) (ea_cons1 (ev_var rfl r_modulus) ea_nil))) ea_nil) hp) fun v z H1 e1 hz rz => ?_
  exact k v z H1 e1 hz rz
abbrev s_require_clerk : Stmt := top 19
def N_require_clerk : List Str := ["value"]
theorem sc_require_clerk : FnScope N_require_clerk ["value"] (defScope s_require_clerk) := ⟨rfl, rfl, rfl, by decide +kernel, rfl, by decide +kernel, by decide +kernel⟩
abbrev sp_require_clerk (N : En) : Sp := FnM (fun M => (Cons (R_Clerk N M) Nil)) (fun M => RN) (fun (x_value, _) => True) (fun (x_value, _) z => True)
theorem ok_require_clerk {N : En} (T : Txt N) (F : FunP N "require_clerk" s_require_clerk)  : Dn N 1 "require_clerk" (sp_require_clerk N) := by
  refine dn_mk F sc_require_clerk (fun _ _ _ _ _ _ us hl => match us, hl with | [_], _ => rfl) (fun vs H Q E h => by obtain ⟨_, _, _, ⟨_, _, rfl, _, rfl⟩, _⟩ := h; rfl) ?_
  rintro cdv A outer s H vs Q E hr ⟨M, ⟨x_value, ⟨⟩⟩, d0, ⟨v_value, _, rfl, r_value, rfl⟩, hp, k⟩
  replace r_value : (R_Clerk N M) x_value v_value H := r_value
  try dsimp only at hp
  have w_value := clerk_ok r_value
  refine ⟨_, (pss_one (ps_if (pt_not (pt_val (pe_callB call_isi (by rfl) T.n_isinstance (by decide +kernel) (pa_cons (pv 0) (pa_cons (pe_globR rfl T.g_Clerk) pa_nil)))))
      (pss_one ps_never) pss_nil)), ?_⟩
  refine q_if0 d0 (et_not (et_val (ev_cb1 (f := fun _ z => z = true) (c_isi (R := (R_Clerk N M)) (ClsV.own _) T.kt_Clerk_Clerk (fun _ _ _ => ty_ins T.c_Clerk T.is_Clerk)) (ea_cons1 (ev_var rfl r_value) (ea_cons1 ev_cls ea_nil)) rfl))) (fun H1 e1 hb => ?_) (fun H1 e1 hb => ?_)
  · exact absurd hb (by wtm_at "nev")
  · simp [Eq1] at hb
    have d1 := e1.dice; replace r_value := up r_value e1
    exact k .non () _ e1 trivial rfl
abbrev s_require_count : Stmt := top 20
def N_require_count : List Str := ["number"]
theorem sc_require_count : FnScope N_require_count ["number"] (defScope s_require_count) := ⟨rfl, rfl, rfl, by decide +kernel, rfl, by decide +kernel, by decide +kernel⟩
abbrev sp_require_count (N : En) : Sp := FnM (fun M => (Cons RI Nil)) (fun M => RN) (fun (x_number, _) => 0 ≤ x_number) (fun (x_number, _) z => True)
theorem ok_require_count {N : En} (T : Txt N) (F : FunP N "require_count" s_require_count) (D_is_integer : Dn N 1 "is_integer" (sp_is_integer N)) : Dn N 2 "require_count" (sp_require_count N) := by
  refine dn_mk F sc_require_count (fun _ _ _ _ _ _ us hl => match us, hl with | [_], _ => rfl) (fun vs H Q E h => by obtain ⟨_, _, _, ⟨_, _, rfl, _, rfl⟩, _⟩ := h; rfl) ?_
  rintro cdv A outer s H vs Q E hr ⟨M, ⟨x_number, ⟨⟩⟩, d0, ⟨v_number, _, rfl, r_number, rfl⟩, hp, k⟩
  replace r_number : RI x_number v_number H := r_number
  try dsimp only at hp
  refine ⟨_, (pss_one (ps_if (pt_not (pt_val (pe_d D_is_integer (hr.mono (by decide)) (by rfl) (passes_call (takes_of rfl rfl rfl rfl) fun _ _ _ _ z => z) (pa_cons (pv 0) (pa_cons pe_int (pa_cons pe_non pa_nil))))))
      (pss_one ps_never) pss_nil)), ?_⟩
  refine q_if0 d0 (et_not (et_val (ev_df (ea_cons1 (ev_var rfl r_number) (ea_cons1 ev_int (ea_cons1 ev_none ea_nil))) (by wtm_at "pre")))) (fun H1 e1 hb => ?_) (fun H1 e1 hb => ?_)
  · exact absurd hb (by wtm_at "nev")
  · simp [Eq1] at hb
    have d1 := e1.dice; replace r_number := up r_number e1
    exact k .non () _ e1 trivial rfl
abbrev s_is_as_fine : Stmt := top 21
def N_is_as_fine : List Str := ["one", "other"]
theorem sc_is_as_fine : FnScope N_is_as_fine ["one", "other"] (defScope s_is_as_fine) := ⟨rfl, rfl, rfl, by decide +kernel, rfl, by decide +kernel, by decide +kernel⟩
abbrev sp_is_as_fine (N : En) : Sp := FnF (fun M => (Cons (R_Clerk N M) (Cons (R_Clerk N M) Nil))) (fun M => RB) (fun (x_one, x_other, _) => True) (fun (x_one, x_other, _) => finer x_one x_other)
theorem ok_is_as_fine {N : En} (T : Txt N) (F : FunP N "is_as_fine" s_is_as_fine)  : Dn N 1 "is_as_fine" (sp_is_as_fine N) := by
  refine dn_mk F sc_is_as_fine (fun _ _ _ _ _ _ us hl => match us, hl with | [_, _], _ => rfl) (fun vs H Q E h => by obtain ⟨_, _, _, ⟨_, _, rfl, _, _, _, rfl, _, rfl⟩, _⟩ := h; rfl) ?_
  rintro cdv A outer s H vs Q E hr ⟨M, ⟨x_one, x_other, ⟨⟩⟩, d0, ⟨v_one, _, rfl, r_one, v_other, _, rfl, r_other, rfl⟩, hp, k⟩
  replace r_one : (R_Clerk N M) x_one v_one H := r_one
  replace r_other : (R_Clerk N M) x_other v_other H := r_other
  try dsimp only at hp
  have w_one := clerk_ok r_one
  have w_other := clerk_ok r_other
  refine ⟨_, (pss_one (ps_ret (pe_and (pe_cmpR op_ge (pe_fld (pv 0) rfl) (pe_fld (pv 1) rfl) (nomark _)) (pe_one (pe_cmpR op_eq (pe_op op_mod (pe_fld (pv 0) rfl) (pe_fld (pv 1) rfl)) pe_int (nomark _)))))), ?_⟩
  refine q_ret d0 (ev_and (ev_opt o_ge (ev_fld1 T.c_Clerk T.na_Clerk_own_cap lk_Clerk_own_cap (ev_var rfl r_one)) (ev_fld1 T.c_Clerk T.na_Clerk_own_cap lk_Clerk_own_cap (ev_var rfl r_other))) (fun _ => (ev_opt o_eq (ev_op1 o_mod (ev_fld1 T.c_Clerk T.na_Clerk_own_modulus lk_Clerk_own_modulus (ev_var rfl r_one)) (ev_fld1 T.c_Clerk T.na_Clerk_own_modulus lk_Clerk_own_modulus (ev_var rfl r_other)) (by wtm_at "pre")) ev_int))) fun v z H1 e1 hz rz => ?_
  exact k v z H1 e1 (by first | exact hz | (refine Eq.trans hz ?_; wtm_at "fin")) rz
abbrev s_seen_count : Stmt := top 22
def N_seen_count : List Str := ["clerk", "number"]
theorem sc_seen_count : FnScope N_seen_count ["clerk", "number"] (defScope s_seen_count) := ⟨rfl, rfl, rfl, by decide +kernel, rfl, by decide +kernel, by decide +kernel⟩
abbrev sp_seen_count (N : En) : Sp := FnF (fun M => (Cons (R_Clerk N M) (Cons RI Nil))) (fun M => RI) (fun (x_clerk, x_number, _) => True) (fun (x_clerk, x_number, _) => see x_clerk x_number)
theorem ok_seen_count {N : En} (T : Txt N) (F : FunP N "seen_count" s_seen_count)  : Dn N 1 "seen_count" (sp_seen_count N) := by
  refine dn_mk F sc_seen_count (fun _ _ _ _ _ _ us hl => match us, hl with | [_, _], _ => rfl) (fun vs H Q E h => by obtain ⟨_, _, _, ⟨_, _, rfl, _, _, _, rfl, _, rfl⟩, _⟩ := h; rfl) ?_
  rintro cdv A outer s H vs Q E hr ⟨M, ⟨x_clerk, x_number, ⟨⟩⟩, d0, ⟨v_clerk, _, rfl, r_clerk, v_number, _, rfl, r_number, rfl⟩, hp, k⟩
  replace r_clerk : (R_Clerk N M) x_clerk v_clerk H := r_clerk
  replace r_number : RI x_number v_number H := r_number
  try dsimp only at hp
  have w_clerk := clerk_ok r_clerk
  refine ⟨_, (pss_cons (ps_if (pt_cmpR op_lt (pv 1) (pe_fld (pv 0) rfl) (nomark _))
      (pss_one (ps_ret (pv 1))) pss_nil)
    (pss_one (ps_ret (pe_op op_add (pe_fld (pv 0) rfl) (pe_op op_mod (pe_op op_sub (pv 1) (pe_fld (pv 0) rfl)) (pe_fld (pv 0) rfl)))))), ?_⟩
  refine q_ifS0 d0 (et_test (ev_opt o_lt (ev_var rfl r_number) (ev_fld1 T.c_Clerk T.na_Clerk_own_cap lk_Clerk_own_cap (ev_var rfl r_clerk)))) (fun H1 e1 hb => ?_) (fun H1 e1 hb => ?_)
  · simp [Eq1] at hb
    have d1 := e1.dice; replace r_clerk := up r_clerk e1; replace r_number := up r_number e1
    refine q_ret d1 (ev_var rfl r_number) fun v z H2 e2 hz rz => ?_
    exact k v z H2 (e1.trans e2) (by first | exact hz | (refine Eq.trans hz ?_; wtm_at "fin")) rz
  · simp [Eq1] at hb
    have d1 := e1.dice; replace r_clerk := up r_clerk e1; replace r_number := up r_number e1
    refine q_ret d1 (ev_opt o_add (ev_fld1 T.c_Clerk T.na_Clerk_own_cap lk_Clerk_own_cap (ev_var rfl r_clerk)) (ev_op1 o_mod (ev_opt o_sub (ev_var rfl r_number) (ev_fld1 T.c_Clerk T.na_Clerk_own_cap lk_Clerk_own_cap (ev_var rfl r_clerk))) (ev_fld1 T.c_Clerk T.na_Clerk_own_modulus lk_Clerk_own_modulus (ev_var rfl r_clerk)) (by wtm_at "pre"))) fun v z H2 e2 hz rz => ?_
    exact k v z H2 (e1.trans e2) (by first | exact hz | (refine Eq.trans hz ?_; wtm_at "fin")) rz
abbrev s_Clerk_count : Stmt := inClass (top 17) 4
def N_Clerk_count : List Str := ["self", "number"]
theorem sc_Clerk_count : FnScope N_Clerk_count ["self", "number"] (defScope s_Clerk_count) := ⟨rfl, rfl, rfl, by decide +kernel, rfl, by decide +kernel, by decide +kernel⟩
abbrev sp_Clerk_count (N : En) : Sp := FnF (fun M => (Cons (R_Clerk N M) (Cons RI Nil))) (fun M => RI) (fun (x_self, x_number, _) => 0 ≤ x_number) (fun (x_self, x_number, _) => see x_self x_number)
theorem ok_Clerk_count {N : En} (T : Txt N) (F : FunM N "Clerk" "count" "Clerk.count" s_Clerk_count) (D_require_count : Dn N 2 "require_count" (sp_require_count N)) (D_seen_count : Dn N 1 "seen_count" (sp_seen_count N)) : Dm N 3 "Clerk" "count" (sp_Clerk_count N) := by
  refine dm_mk F sc_Clerk_count (fun _ _ _ _ _ _ us hl => match us, hl with | [_, _], _ => rfl) (fun vs H Q E h => by obtain ⟨_, _, _, ⟨_, _, rfl, _, _, _, rfl, _, rfl⟩, _⟩ := h; rfl) ?_
  rintro cdv A outer s H vs Q E hr ⟨M, ⟨x_self, x_number, ⟨⟩⟩, d0, ⟨v_self, _, rfl, r_self, v_number, _, rfl, r_number, rfl⟩, hp, k⟩
  replace r_self : (R_Clerk N M) x_self v_self H := r_self
  replace r_number : RI x_number v_number H := r_number
  try dsimp only at hp
  have w_self := clerk_ok r_self
  refine ⟨_, (pss_cons (ps_expr (pe_d D_require_count (hr.mono (by decide)) (by rfl) (passes_call (takes_of rfl rfl rfl rfl) fun _ _ _ _ z => z) (pa_cons (pv 1) pa_nil)))
    (pss_one (ps_ret (pe_d D_seen_count (hr.mono (by decide)) (by rfl) (passes_call (takes_of rfl rfl rfl rfl) fun _ _ _ _ z => z) (pa_cons (pv 0) (pa_cons (pv 1) pa_nil)))))), ?_⟩
  refine q_drop d0 (ev_d1 (ea_cons1 (ev_var rfl r_number) ea_nil) (by wtm_at "pre")) fun _ _ H1 e1 _ _ => ?_
  have d1 := e1.dice; replace r_self := up r_self e1; replace r_number := up r_number e1
  refine q_ret d1 (ev_df (ea_cons1 (ev_var rfl r_self) (ea_cons1 (ev_var rfl r_number) ea_nil)) (by wtm_at "pre")) fun v z H2 e2 hz rz => ?_
  exact k v z H2 (e1.trans e2) (by first | exact hz | (refine Eq.trans hz ?_; wtm_at "fin")) rz
abbrev s_Clerk_is_finer : Stmt := inClass (top 17) 7
def N_Clerk_is_finer : List Str := ["self", "other"]
theorem sc_Clerk_is_finer : FnScope N_Clerk_is_finer ["self", "other"] (defScope s_Clerk_is_finer) := ⟨rfl, rfl, rfl, by decide +kernel, rfl, by decide +kernel, by decide +kernel⟩
abbrev sp_Clerk_is_finer (N : En) : Sp := FnF (fun M => (Cons (R_Clerk N M) (Cons (R_Clerk N M) Nil))) (fun M => RB) (fun (x_self, x_other, _) => True) (fun (x_self, x_other, _) => finer x_self x_other)
theorem ok_Clerk_is_finer {N : En} (T : Txt N) (F : FunM N "Clerk" "is_finer" "Clerk.is_finer" s_Clerk_is_finer) (D_require_clerk : Dn N 1 "require_clerk" (sp_require_clerk N)) (D_is_as_fine : Dn N 1 "is_as_fine" (sp_is_as_fine N)) : Dm N 2 "Clerk" "is_finer" (sp_Clerk_is_finer N) := by
  refine dm_mk F sc_Clerk_is_finer (fun _ _ _ _ _ _ us hl => match us, hl with | [_, _], _ => rfl) (fun vs H Q E h => by obtain ⟨_, _, _, ⟨_, _, rfl, _, _, _, rfl, _, rfl⟩, _⟩ := h; rfl) ?_
  rintro cdv A outer s H vs Q E hr ⟨M, ⟨x_self, x_other, ⟨⟩⟩, d0, ⟨v_self, _, rfl, r_self, v_other, _, rfl, r_other, rfl⟩, hp, k⟩
  replace r_self : (R_Clerk N M) x_self v_self H := r_self
  replace r_other : (R_Clerk N M) x_other v_other H := r_other
  try dsimp only at hp
  have w_self := clerk_ok r_self
  have w_other := clerk_ok r_other
  refine ⟨_, (pss_cons (ps_expr (pe_d D_require_clerk (hr.mono (by decide)) (by rfl) (passes_call (takes_of rfl rfl rfl rfl) fun _ _ _ _ z => z) (pa_cons (pv 1) pa_nil)))
    (pss_one (ps_ret (pe_d D_is_as_fine (hr.mono (by decide)) (by rfl) (passes_call (takes_of rfl rfl rfl rfl) fun _ _ _ _ z => z) (pa_cons (pv 0) (pa_cons (pv 1) pa_nil)))))), ?_⟩
  refine q_drop d0 (ev_d1 (ea_cons1 (ev_var rfl r_other) ea_nil) (by wtm_at "pre")) fun _ _ H1 e1 _ _ => ?_
  have d1 := e1.dice; replace r_self := up r_self e1; replace r_other := up r_other e1
  refine q_ret d1 (ev_df (ea_cons1 (ev_var rfl r_self) (ea_cons1 (ev_var rfl r_other) ea_nil)) (by wtm_at "pre")) fun v z H2 e2 hz rz => ?_
  exact k v z H2 (e1.trans e2) (by first | exact hz | (refine Eq.trans hz ?_; wtm_at "fin")) rz
abbrev s_Clerk___or__ : Stmt := inClass (top 17) 8
def N_Clerk___or__ : List Str := ["self", "other", "shared"]
theorem sc_Clerk___or__ : FnScope N_Clerk___or__ ["self", "other"] (defScope s_Clerk___or__) := ⟨rfl, rfl, rfl, by decide +kernel, rfl, by decide +kernel, by decide +kernel⟩
abbrev sp_Clerk___or__ (N : En) : Sp := FnF (fun M => (Cons (R_Clerk N M) (Cons (R_Clerk N M) Nil))) (fun M => (R_Clerk N M)) (fun (x_self, x_other, _) => x_self.2 < 1000000 ∧ x_other.2 < 1000000) (fun (x_self, x_other, _) => jn x_self x_other)
theorem ok_Clerk___or__ {N : En} (T : Txt N) (F : FunM N "Clerk" "__or__" "Clerk.__or__" s_Clerk___or__) (D_require_clerk : Dn N 1 "require_clerk" (sp_require_clerk N)) (D_common_divisor : Dn N 1 "common_divisor" (sp_common_divisor N)) (D_clerk_in : Dn N 6 "clerk_in" (sp_clerk_in N)) : Dm N 7 "Clerk" "__or__" (sp_Clerk___or__ N) := by
  refine dm_mk F sc_Clerk___or__ (fun _ _ _ _ _ _ us hl => match us, hl with | [_, _], _ => rfl) (fun vs H Q E h => by obtain ⟨_, _, _, ⟨_, _, rfl, _, _, _, rfl, _, rfl⟩, _⟩ := h; rfl) ?_
  rintro cdv A outer s H vs Q E hr ⟨M, ⟨x_self, x_other, ⟨⟩⟩, d0, ⟨v_self, _, rfl, r_self, v_other, _, rfl, r_other, rfl⟩, hp, k⟩
  replace r_self : (R_Clerk N M) x_self v_self H := r_self
  replace r_other : (R_Clerk N M) x_other v_other H := r_other
  try dsimp only at hp
  have w_self := clerk_ok r_self
  have w_other := clerk_ok r_other
  refine ⟨_, (pss_cons (ps_expr (pe_d D_require_clerk (hr.mono (by decide)) (by rfl) (passes_call (takes_of rfl rfl rfl rfl) fun _ _ _ _ z => z) (pa_cons (pv 1) pa_nil)))
    (pss_cons (ps_set (i := 2) sc_Clerk___or__.nd rfl (by first | exact Or.inl rfl | exact Or.inr rfl) (pe_d D_common_divisor (hr.mono (by decide)) (by rfl) (passes_call (takes_of rfl rfl rfl rfl) fun _ _ _ _ z => z) (pa_cons (pe_fld (pv 0) rfl) (pa_cons (pe_fld (pv 1) rfl) pa_nil))))
    (pss_one (ps_ret (pe_d D_clerk_in (hr.mono (by decide)) (by rfl) (passes_call (takes_of rfl rfl rfl rfl) fun _ _ _ _ z => z) (pa_cons (pe_callB (call_max2 rfl) (by rfl) T.n_max (by decide +kernel) (pa_cons (pe_fld (pv 0) rfl) (pa_cons (pe_fld (pv 1) rfl) pa_nil))) (pa_cons (pe_op op_fdiv (pe_op op_mul (pe_fld (pv 0) rfl) (pe_fld (pv 1) rfl)) (pv 2)) pa_nil))))))), ?_⟩
  refine q_drop d0 (ev_d1 (ea_cons1 (ev_var rfl r_other) ea_nil) (by wtm_at "pre")) fun _ _ H1 e1 _ _ => ?_
  have d1 := e1.dice; replace r_self := up r_self e1; replace r_other := up r_other e1
  refine q_set d1 (ev_df (ea_cons1 (ev_fld1 T.c_Clerk T.na_Clerk_own_modulus lk_Clerk_own_modulus (ev_var rfl r_self)) (ea_cons1 (ev_fld1 T.c_Clerk T.na_Clerk_own_modulus lk_Clerk_own_modulus (ev_var rfl r_other)) ea_nil)) (by wtm_at "pre")) fun v_shared x_shared H2 e2 h_shared r_shared => ?_
  replace h_shared : x_shared = _ := h_shared; try dsimp only at h_shared
  have d2 := e2.dice; replace r_self := up r_self e2; replace r_other := up r_other e2
  replace h_shared : x_shared = (Int.gcd x_self.2 x_other.2 : Int) := h_shared
  have hs : 0 < x_shared ∧ x_shared ≤ x_self.2 := by rw [h_shared]; exact ⟨gpos _ _ w_self.2, gle _ _ w_self.2⟩
  have hl := lcm_eq x_self.2 x_other.2 w_self.2 w_other.2
  have hl2 := lpos x_self.2 x_other.2 w_self.2 w_other.2
  refine q_ret d2 (ev_df (ea_cons1 (ev_cbf c_max (ea_cons1 (ev_fld1 T.c_Clerk T.na_Clerk_own_cap lk_Clerk_own_cap (ev_var rfl r_self)) (ea_cons1 (ev_fld1 T.c_Clerk T.na_Clerk_own_cap lk_Clerk_own_cap (ev_var rfl r_other)) ea_nil))) (ea_cons1 (ev_op1 o_fdiv (ev_op1 o_mul (ev_fld1 T.c_Clerk T.na_Clerk_own_modulus lk_Clerk_own_modulus (ev_var rfl r_self)) (ev_fld1 T.c_Clerk T.na_Clerk_own_modulus lk_Clerk_own_modulus (ev_var rfl r_other)) (Or.inl ⟨by omega, by omega⟩)) (ev_var rfl r_shared) ⟨hs.1, by omega⟩) ea_nil)) (by
    show (0 ≤ if x_other.1 > x_self.1 then x_other.1 else x_self.1) ∧ 0 < x_self.2 * x_other.2 / x_shared
    rw [h_shared, hl, max_eq]; exact ⟨by omega, hl2⟩)) fun v z H3 e3 hz rz => ?_
  exact k v z H3 ((e1.trans e2).trans e3) (by
    refine Eq.trans hz ?_
    show mkc (if x_other.1 > x_self.1 then x_other.1 else x_self.1) (x_self.2 * x_other.2 / x_shared) = _
    rw [h_shared, hl, max_eq]; rfl) rz
abbrev s_Clerk___and__ : Stmt := inClass (top 17) 9
def N_Clerk___and__ : List Str := ["self", "other"]
theorem sc_Clerk___and__ : FnScope N_Clerk___and__ ["self", "other"] (defScope s_Clerk___and__) := ⟨rfl, rfl, rfl, by decide +kernel, rfl, by decide +kernel, by decide +kernel⟩
abbrev sp_Clerk___and__ (N : En) : Sp := FnF (fun M => (Cons (R_Clerk N M) (Cons (R_Clerk N M) Nil))) (fun M => (R_Clerk N M)) (fun (x_self, x_other, _) => x_self.2 < 1000000) (fun (x_self, x_other, _) => mt x_self x_other)
theorem ok_Clerk___and__ {N : En} (T : Txt N) (F : FunM N "Clerk" "__and__" "Clerk.__and__" s_Clerk___and__) (D_require_clerk : Dn N 1 "require_clerk" (sp_require_clerk N)) (D_common_divisor : Dn N 1 "common_divisor" (sp_common_divisor N)) (D_clerk_in : Dn N 6 "clerk_in" (sp_clerk_in N)) : Dm N 7 "Clerk" "__and__" (sp_Clerk___and__ N) := by
  refine dm_mk F sc_Clerk___and__ (fun _ _ _ _ _ _ us hl => match us, hl with | [_, _], _ => rfl) (fun vs H Q E h => by obtain ⟨_, _, _, ⟨_, _, rfl, _, _, _, rfl, _, rfl⟩, _⟩ := h; rfl) ?_
  rintro cdv A outer s H vs Q E hr ⟨M, ⟨x_self, x_other, ⟨⟩⟩, d0, ⟨v_self, _, rfl, r_self, v_other, _, rfl, r_other, rfl⟩, hp, k⟩
  replace r_self : (R_Clerk N M) x_self v_self H := r_self
  replace r_other : (R_Clerk N M) x_other v_other H := r_other
  try dsimp only at hp
  have w_self := clerk_ok r_self
  have w_other := clerk_ok r_other
  refine ⟨_, (pss_cons (ps_expr (pe_d D_require_clerk (hr.mono (by decide)) (by rfl) (passes_call (takes_of rfl rfl rfl rfl) fun _ _ _ _ z => z) (pa_cons (pv 1) pa_nil)))
    (pss_one (ps_ret (pe_d D_clerk_in (hr.mono (by decide)) (by rfl) (passes_call (takes_of rfl rfl rfl rfl) fun _ _ _ _ z => z) (pa_cons (pe_callB (call_min2 rfl) (by rfl) T.n_min (by decide +kernel) (pa_cons (pe_fld (pv 0) rfl) (pa_cons (pe_fld (pv 1) rfl) pa_nil))) (pa_cons (pe_d D_common_divisor (hr.mono (by decide)) (by rfl) (passes_call (takes_of rfl rfl rfl rfl) fun _ _ _ _ z => z) (pa_cons (pe_fld (pv 0) rfl) (pa_cons (pe_fld (pv 1) rfl) pa_nil))) pa_nil)))))), ?_⟩
  refine q_drop d0 (ev_d1 (ea_cons1 (ev_var rfl r_other) ea_nil) (by wtm_at "pre")) fun _ _ H1 e1 _ _ => ?_
  have d1 := e1.dice; replace r_self := up r_self e1; replace r_other := up r_other e1
  have hl2 := gpos x_self.2 x_other.2 w_self.2
  refine q_ret d1 (ev_df (ea_cons1 (ev_cbf c_min (ea_cons1 (ev_fld1 T.c_Clerk T.na_Clerk_own_cap lk_Clerk_own_cap (ev_var rfl r_self)) (ea_cons1 (ev_fld1 T.c_Clerk T.na_Clerk_own_cap lk_Clerk_own_cap (ev_var rfl r_other)) ea_nil))) (ea_cons1 (ev_df (ea_cons1 (ev_fld1 T.c_Clerk T.na_Clerk_own_modulus lk_Clerk_own_modulus (ev_var rfl r_self)) (ea_cons1 (ev_fld1 T.c_Clerk T.na_Clerk_own_modulus lk_Clerk_own_modulus (ev_var rfl r_other)) ea_nil)) (by wtm_at "pre")) ea_nil)) (by
    show (0 ≤ if x_other.1 < x_self.1 then x_other.1 else x_self.1) ∧ 0 < (Int.gcd x_self.2 x_other.2 : Int)
    rw [min_eq]; exact ⟨by omega, hl2⟩)) fun v z H2 e2 hz rz => ?_
  exact k v z H2 (e1.trans e2) (by
    refine Eq.trans hz ?_
    show mkc (if x_other.1 < x_self.1 then x_other.1 else x_self.1) (Int.gcd x_self.2 x_other.2 : Int) = _
    rw [min_eq]; rfl) rz
abbrev s_Clerk___len__ : Stmt := inClass (top 17) 10
def N_Clerk___len__ : List Str := ["self"]
theorem sc_Clerk___len__ : FnScope N_Clerk___len__ ["self"] (defScope s_Clerk___len__) := ⟨rfl, rfl, rfl, by decide +kernel, rfl, by decide +kernel, by decide +kernel⟩
abbrev sp_Clerk___len__ (N : En) : Sp := FnF (fun M => (Cons (R_Clerk N M) Nil)) (fun M => RI) (fun (x_self, _) => x_self.1 + x_self.2 ≤ 1000000) (fun (x_self, _) => x_self.1 + x_self.2)
theorem ok_Clerk___len__ {N : En} (T : Txt N) (F : FunM N "Clerk" "__len__" "Clerk.__len__" s_Clerk___len__)  : Dm N 1 "Clerk" "__len__" (sp_Clerk___len__ N) := by
  refine dm_mk F sc_Clerk___len__ (fun _ _ _ _ _ _ us hl => match us, hl with | [_], _ => rfl) (fun vs H Q E h => by obtain ⟨_, _, _, ⟨_, _, rfl, _, rfl⟩, _⟩ := h; rfl) ?_
  rintro cdv A outer s H vs Q E hr ⟨M, ⟨x_self, ⟨⟩⟩, d0, ⟨v_self, _, rfl, r_self, rfl⟩, hp, k⟩
  replace r_self : (R_Clerk N M) x_self v_self H := r_self
  try dsimp only at hp
  have w_self := clerk_ok r_self
  refine ⟨_, (pss_one (ps_ret (pe_callB call_len_seq (by rfl) T.n_len (by decide +kernel) (pa_cons (pe_listRg rfl (by rfl) T.n_list (prg_1 (by rfl) T.n_range (pe_op op_add (pe_fld (pv 0) rfl) (pe_fld (pv 0) rfl)))) pa_nil)))), ?_⟩
  refine q_ret d0 (ev_cbf c_lenL (ea_cons1 (ev_lstRg1 (ev_opt o_add (ev_fld1 T.c_Clerk T.na_Clerk_own_cap lk_Clerk_own_cap (ev_var rfl r_self)) (ev_fld1 T.c_Clerk T.na_Clerk_own_modulus lk_Clerk_own_modulus (ev_var rfl r_self))) (by wtm_at "pre")) ea_nil)) fun v z H1 e1 hz rz => ?_
  exact k v z H1 e1 (by first | exact hz | (refine Eq.trans hz ?_; wtm_at "fin")) rz
abbrev s_Clerk___eq__ : Stmt := inClass (top 17) 11
def N_Clerk___eq__ : List Str := ["self", "value"]
theorem sc_Clerk___eq__ : FnScope N_Clerk___eq__ ["self", "value"] (defScope s_Clerk___eq__) := ⟨rfl, rfl, rfl, by decide +kernel, rfl, by decide +kernel, by decide +kernel⟩
abbrev sp_Clerk___eq__ (N : En) : Sp := FnF (fun M => (Cons (R_Clerk N M) (Cons (R_Clerk N M) Nil))) (fun M => RB) (fun (x_self, x_value, _) => True) (fun (x_self, x_value, _) => decide (x_self = x_value))
theorem ok_Clerk___eq__ {N : En} (T : Txt N) (F : FunM N "Clerk" "__eq__" "Clerk.__eq__" s_Clerk___eq__)  : Dm N 1 "Clerk" "__eq__" (sp_Clerk___eq__ N) := by
  refine dm_mk F sc_Clerk___eq__ (fun _ _ _ _ _ _ us hl => match us, hl with | [_, _], _ => rfl) (fun vs H Q E h => by obtain ⟨_, _, _, ⟨_, _, rfl, _, _, _, rfl, _, rfl⟩, _⟩ := h; rfl) ?_
  rintro cdv A outer s H vs Q E hr ⟨M, ⟨x_self, x_value, ⟨⟩⟩, d0, ⟨v_self, _, rfl, r_self, v_value, _, rfl, r_value, rfl⟩, hp, k⟩
  replace r_self : (R_Clerk N M) x_self v_self H := r_self
  replace r_value : (R_Clerk N M) x_value v_value H := r_value
  try dsimp only at hp
  have w_self := clerk_ok r_self
  have w_value := clerk_ok r_value
  refine ⟨_, (pss_one (ps_ret (pe_and (pe_callB call_isi (by rfl) T.n_isinstance (by decide +kernel) (pa_cons (pv 1) (pa_cons (pe_globR rfl T.g_Clerk) pa_nil))) (pe_one (pe_cmpR (op_eqD hr.units) (pe_tup (pa_cons (pe_fld (pv 0) rfl) (pa_cons (pe_fld (pv 0) rfl) pa_nil))) (pe_tup (pa_cons (pe_fld (pv 1) rfl) (pa_cons (pe_fld (pv 1) rfl) pa_nil))) (nomark _)))))), ?_⟩
  refine q_ret d0 (ev_and (ev_cb1 (f := fun _ z => z = true) (c_isi (R := (R_Clerk N M)) (ClsV.own _) T.kt_Clerk_Clerk (fun _ _ _ => ty_ins T.c_Clerk T.is_Clerk)) (ea_cons1 (ev_var rfl r_value) (ea_cons1 ev_cls ea_nil)) rfl) (fun _ => (ev_opt o_eqD (ev_tup (ea_cons1 (ev_fld1 T.c_Clerk T.na_Clerk_own_cap lk_Clerk_own_cap (ev_var rfl r_self)) (ea_cons1 (ev_fld1 T.c_Clerk T.na_Clerk_own_modulus lk_Clerk_own_modulus (ev_var rfl r_self)) ea_nil)) (by wtm_at "len")) (ev_tup (ea_cons1 (ev_fld1 T.c_Clerk T.na_Clerk_own_cap lk_Clerk_own_cap (ev_var rfl r_value)) (ea_cons1 (ev_fld1 T.c_Clerk T.na_Clerk_own_modulus lk_Clerk_own_modulus (ev_var rfl r_value)) ea_nil)) (by wtm_at "len"))))) fun v z H1 e1 hz rz => ?_
  exact k v z H1 e1 (by first | exact hz | (refine Eq.trans hz ?_; wtm_at "fin")) rz
end T17

namespace T17
open PySem PySem.Spec PyProof.Rows L2 GB GE
local macro_rules | `(tactic| wtm_at "pre") => `(tactic| first | exact True.intro | ((try dsimp only); first | exact True.intro | assumption | omega | (exact Or.inl ⟨by omega, by omega⟩) | (exact Or.inr ⟨by omega, by omega⟩) | exact ⟨by omega, by omega⟩ | exact ⟨by omega, by omega, by omega⟩ | (simp_all; done) | (simp_all; omega)))
local macro_rules | `(tactic| wtm_at "len") => `(tactic| first | exact len1 (by decide) | exact len2 (by decide) | exact len2 (by simp))
local macro_rules | `(tactic| wtm_at "fin") => `(tactic| first | rfl | (simp [see, finer, isInt, rng_len, Prod.ext_iff]; done) | (simp [see, finer, isInt, rng_len, Prod.ext_iff]; omega) | (simp only [see, finer]; split <;> first | rfl | omega) | (dsimp only; rw [List.filter_eq_self.2 (fun _ _ => rfl)]; refine List.map_congr_left fun y _ => ?_; simp [see]; done) | (simp [see, finer, isInt, rng_len, Prod.ext_iff] <;> omega))
local macro_rules | `(tactic| wtm_at "nev") => `(tactic| first | (simp_all [Eq1]; done) | (simp_all [Eq1, isInt]; done) | (simp [Eq1, isInt] at *; omega))
abbrev s__law_dice : Stmt := top 26
def N__law_dice : List Str := ["script", "at", "cell", "great", "left", "mixed"]
theorem sc__law_dice : FnScope N__law_dice ["script", "at"] (defScope s__law_dice) := ⟨rfl, rfl, rfl, by decide +kernel, rfl, by decide +kernel, by decide +kernel⟩
theorem ok__law_dice {N : En} (T : Txt N) (F : FunP N "_law_dice" s__law_dice)  : Dn N 1 "_law_dice" (sp_dice N.K) := by
  refine dn_mk F sc__law_dice (fun _ _ _ _ _ _ us hl => match us, hl with | [_, _], _ => rfl) (fun vs H Q E ⟨_, _, _, e, _⟩ => by rw [e]; rfl) ?_
  rintro cdv A outer s H vs Q E hr ⟨v_script, x_script, x_at, rfl, r_script, hp, k⟩
  have d0 : DiceM none H := trivial
  refine ⟨_, (pss_cons (ps_set (i := 2) sc__law_dice.nd rfl (by first | exact Or.inl rfl | exact Or.inr rfl) (pe_op op_add (pe_op op_mul pe_int (pv 1)) pe_int))
    (pss_cons (ps_if (pt_cmpR op_lt (pv 1) (pe_callB call_len_seq (by rfl) T.n_len (by decide +kernel) (pa_cons (pv 0) pa_nil)) (nomark _))
      (pss_one (ps_set (i := 2) sc__law_dice.nd rfl (by first | exact Or.inl rfl | exact Or.inr rfl) (pe_ix ix_list (pv 0) (pv 1) (fun _ _ => rfl)))) pss_nil)
    (pss_cons (ps_set (i := 3) sc__law_dice.nd rfl (by first | exact Or.inl rfl | exact Or.inr rfl) (pe_op op_mod (pe_callTy call_int1 (by rfl) T.n_int (by decide +kernel) (pa_cons (pe_callB call_abs (by rfl) T.n_abs (by decide +kernel) (pa_cons (pv 2) pa_nil)) pa_nil)) (pe_op op_pow9 (pe_op op_pow9 pe_int pe_int) pe_int)))
    (pss_cons (ps_set (i := 4) sc__law_dice.nd rfl (by first | exact Or.inl rfl | exact Or.inr rfl) (pe_op op_fdivW (pv 3) (pe_op op_pow9 pe_int pe_int)))
    (pss_cons (ps_set (i := 5) sc__law_dice.nd rfl (by first | exact Or.inl rfl | exact Or.inr rfl) (pe_op op_add (pe_op op_add (pe_op op_add (pe_op op_mul (pe_op op_mod (pv 3) pe_int) pe_int) (pe_op op_mul pe_int (pv 1))) (pe_op op_mul pe_int (pe_callTy call_int1 (by rfl) T.n_int (by decide +kernel) (pa_cons (pe_cmpR op_lt (pv 2) pe_int (nomark _)) pa_nil)))) pe_int))
    (pss_one (ps_ret (pe_lst (pa_cons (pv 4) (pa_cons (pe_op op_mod (pv 5) pe_int) (pa_cons pe_int pa_nil))))))))))), ?_⟩
  refine q_set (M := none) d0 (ev_opt o_add (ev_op1 o_mul ev_int (ev_var (R := RI) (x := x_at) rfl rfl) (Or.inl ⟨by decide, by decide⟩)) ev_int) fun v_cell x_cell H1 e1 h_cell r_cell => ?_
  have r1 := up r_script e1
  refine q_ifS e1.dice (et_test (ev_opt o_lt (ev_var (R := RI) (x := x_at) rfl rfl) (ev_cbf c_lenQ (ea_cons1 (ev_var rfl r1) ea_nil)))) (fun H2 e2 hb => ?_) (fun H2 e2 hb => ?_)
  · simp [Eq1] at hb
    refine ev_set e2.dice (ev_op o_ixQ (ev_var rfl (up r1 e2)) (ev_var (R := RI) (x := x_at) rfl rfl) (by
      rintro _ _ rfl rfl
      unfold atI ixN
      rw [if_pos hp.1, if_pos (by omega)]
      simp; omega)) fun v_cell x_cell H3 e3 h_cell r_cell => ?_
    refine q_set (M := none) e3.dice (ev_op1 o_mod (ev_cbf c_int (ea_cons1 (ev_cbf c_abs (ea_cons1 (ev_var rfl r_cell) ea_nil)) ea_nil)) (ev_op1 o_pow9 (ev_op1 o_pow9 ev_int ev_int ⟨by decide, by decide +kernel⟩) ev_int ⟨by decide, by decide +kernel⟩) (by show (0 : Int) < _; decide +kernel)) fun v_great x_great H4 e4 h_great r_great => ?_
    refine q_set e4.dice (ev_op1 o_fdivW (ev_var rfl r_great) (ev_op1 o_pow9 ev_int ev_int ⟨by decide, by decide +kernel⟩) ⟨by decide +kernel, by decide +kernel⟩) fun v_left x_left H5 e5 h_left r_left => ?_
    have l1 := Int.emod_lt_of_pos x_great (show (0 : Int) < 2147483353 by decide)
    have l2 := Int.emod_nonneg x_great (show (2147483353 : Int) ≠ 0 by decide)
    refine q_set e5.dice (ev_opt o_add (ev_opt o_add (ev_opt o_add (ev_op1 o_mul (ev_op1 o_mod (ev_var rfl (up r_great e5)) ev_int (by show (0 : Int) < 2147483353; decide)) ev_int (Or.inr ⟨by decide, by decide⟩)) (ev_op1 o_mul ev_int (ev_var (R := RI) (x := x_at) rfl rfl) (Or.inl ⟨by decide, by decide⟩))) (ev_op1 o_mul ev_int (ev_cbf c_intB (ea_cons1 (ev_opt o_lt (ev_var rfl (up (up r_cell e4) e5)) ev_int) ea_nil)) (Or.inl ⟨by decide, by decide⟩))) ev_int) fun v_mixed x_mixed H6 e6 h_mixed r_mixed => ?_
    refine q_args (M := none) e6.dice (ea_cons1 (ev_var rfl (up r_left e6)) (ea_cons1 (ev_op1 o_mod (ev_var rfl r_mixed) ev_int (by show (0 : Int) < 2147483323; decide)) (ea_cons1 ev_int ea_nil))) fun vs y H7 e7 hy ry => ?_
    obtain ⟨w1, t1, rfl, q1, w2, t2, rfl, q2, w3, t3, rfl, q3, q4⟩ := ry
    cases (show t3 = [] from q4)
    subst hy
    cases (show w1 = V.int _ from q1); cases (show w2 = V.int _ from q2); cases (show w3 = V.int _ from q3)
    refine ⟨by rw [sizeLine_eq]; show (3 : Nat) ≤ 16777216; decide, fun d hd => ?_⟩
    have ee := ((((e1.trans e2).trans e3).trans e4).trans e5).trans (e6.trans e7)
    exact k d _ _ _ (ee.trans (.new trivial hd)) (old ee nofun hd) upd_same
  · have e3 := e2; replace e2 := Xt.refl e1.dice; replace r_cell := up r_cell e3
    refine q_set (M := none) e3.dice (ev_op1 o_mod (ev_cbf c_int (ea_cons1 (ev_cbf c_abs (ea_cons1 (ev_var rfl r_cell) ea_nil)) ea_nil)) (ev_op1 o_pow9 (ev_op1 o_pow9 ev_int ev_int ⟨by decide, by decide +kernel⟩) ev_int ⟨by decide, by decide +kernel⟩) (by show (0 : Int) < _; decide +kernel)) fun v_great x_great H4 e4 h_great r_great => ?_
    refine q_set e4.dice (ev_op1 o_fdivW (ev_var rfl r_great) (ev_op1 o_pow9 ev_int ev_int ⟨by decide, by decide +kernel⟩) ⟨by decide +kernel, by decide +kernel⟩) fun v_left x_left H5 e5 h_left r_left => ?_
    have l1 := Int.emod_lt_of_pos x_great (show (0 : Int) < 2147483353 by decide)
    have l2 := Int.emod_nonneg x_great (show (2147483353 : Int) ≠ 0 by decide)
    refine q_set e5.dice (ev_opt o_add (ev_opt o_add (ev_opt o_add (ev_op1 o_mul (ev_op1 o_mod (ev_var rfl (up r_great e5)) ev_int (by show (0 : Int) < 2147483353; decide)) ev_int (Or.inr ⟨by decide, by decide⟩)) (ev_op1 o_mul ev_int (ev_var (R := RI) (x := x_at) rfl rfl) (Or.inl ⟨by decide, by decide⟩))) (ev_op1 o_mul ev_int (ev_cbf c_intB (ea_cons1 (ev_opt o_lt (ev_var rfl (up (up r_cell e4) e5)) ev_int) ea_nil)) (Or.inl ⟨by decide, by decide⟩))) ev_int) fun v_mixed x_mixed H6 e6 h_mixed r_mixed => ?_
    refine q_args (M := none) e6.dice (ea_cons1 (ev_var rfl (up r_left e6)) (ea_cons1 (ev_op1 o_mod (ev_var rfl r_mixed) ev_int (by show (0 : Int) < 2147483323; decide)) (ea_cons1 ev_int ea_nil))) fun vs y H7 e7 hy ry => ?_
    obtain ⟨w1, t1, rfl, q1, w2, t2, rfl, q2, w3, t3, rfl, q3, q4⟩ := ry
    cases (show t3 = [] from q4)
    subst hy
    cases (show w1 = V.int _ from q1); cases (show w2 = V.int _ from q2); cases (show w3 = V.int _ from q3)
    refine ⟨by rw [sizeLine_eq]; show (3 : Nat) ≤ 16777216; decide, fun d hd => ?_⟩
    have ee := ((((e1.trans e2).trans e3).trans e4).trans e5).trans (e6.trans e7)
    exact k d _ _ _ (ee.trans (.new trivial hd)) (old ee nofun hd) upd_same
abbrev s__law_roll : Stmt := top 27
def N__law_roll : List Str := ["dice", "total", "number", "drawn", "one", "two"]
theorem sc__law_roll : FnScope N__law_roll ["dice", "total"] (defScope s__law_roll) := ⟨rfl, rfl, rfl, by decide +kernel, rfl, by decide +kernel, by decide +kernel⟩
abbrev sp__law_roll (N : En) : Sp := sp_roll
abbrev sp__law_dice (N : En) : Sp := sp_dice N.K
theorem ok__law_roll {N : En} (T : Txt N) (F : FunP N "_law_roll" s__law_roll) : Dn N 1 "_law_roll" sp_roll := by
  refine dn_mk F sc__law_roll (fun _ _ _ _ _ _ us hl => match us, hl with | [_, _], _ => rfl) (fun vs H Q E h => by obtain ⟨_, _, _, ⟨_, _, rfl, _, _, _, rfl, _, rfl⟩, _⟩ := h; rfl) ?_
  rintro cdv A outer s H vs Q E hr ⟨M, ⟨d, n, ⟨⟩⟩, dm, ⟨v1, _, rfl, ⟨rfl, rfl⟩, v2, _, rfl, r2, rfl⟩, ⟨h0, h1⟩, k1⟩
  cases (show v2 = V.int n from r2)
  replace h0 : 0 < n := h0
  replace h1 : n < 1000000000 := h1
  have k : ∀ r H', Xt (some d) H H' → 0 ≤ r → r < n → Q (.int r) H' := fun r H' e p1 p2 => k1 (.int r) r H' e ⟨p1, p2⟩ rfl
  refine ⟨_, (pss_cons (ps_set (i := 2) sc__law_roll.nd rfl (by first | exact Or.inl rfl | exact Or.inr rfl) (pe_callTy call_int1 (by rfl) T.n_int (by decide +kernel) (pa_cons (pv 1) pa_nil)))
    (pss_cons (ps_if (pt_cmpR op_gt (pe_ix ix_list (pv 0) pe_int (fun _ _ => rfl)) pe_int (nomark _))
      (pss_cons (ps_set (i := 3) sc__law_roll.nd rfl (by first | exact Or.inl rfl | exact Or.inr rfl) (pe_op op_mod (pe_ix ix_list (pv 0) pe_int (fun _ _ => rfl)) (pv 2)))
    (pss_cons (ps_asg (pe_op op_fdiv (pe_ix ix_list (pv 0) pe_int (fun _ _ => rfl)) (pv 2)) (pg_sub (pv 0) pe_int set_list))
    (pss_one (ps_ret (pe_callTy call_int1 (by rfl) T.n_int (by decide +kernel) (pa_cons (pv 3) pa_nil)))))) pss_nil)
    (pss_cons (ps_asg (pe_op op_add (pe_ix ix_list (pv 0) pe_int (fun _ _ => rfl)) pe_int) (pg_sub (pv 0) pe_int set_list))
    (pss_cons (ps_set (i := 4) sc__law_roll.nd rfl (by first | exact Or.inl rfl | exact Or.inr rfl) (pe_op op_mod (pe_op op_add (pe_ix ix_list (pv 0) pe_int (fun _ _ => rfl)) (pe_op op_mul pe_int (pe_ix ix_list (pv 0) pe_int (fun _ _ => rfl)))) pe_int))
    (pss_cons (ps_set (i := 5) sc__law_roll.nd rfl (by first | exact Or.inl rfl | exact Or.inr rfl) (pe_op op_add (pe_op op_mul (pe_op op_mod (pe_op op_mul (pv 4) (pv 4)) pe_int) (pv 4)) (pe_op op_mul pe_int (pe_ix ix_list (pv 0) pe_int (fun _ _ => rfl)))))
    (pss_cons (ps_set (i := 5) sc__law_roll.nd rfl (by first | exact Or.inl rfl | exact Or.inr rfl) (pe_op op_mod (pv 5) pe_int))
    (pss_one (ps_ret (pe_callTy call_int1 (by rfl) T.n_int (by decide +kernel) (pa_cons (pe_op op_mod (pe_op op_fdiv (pv 5) pe_int) (pv 2)) pa_nil)))))))))), ?_⟩
  obtain ⟨a, b, c, hd⟩ := id dm
  have i0 : ∀ (x y z : Int), atI [V.int x, V.int y, V.int z] 0 = some (V.int x) := fun _ _ _ => rfl
  have i1 : ∀ (x y z : Int), atI [V.int x, V.int y, V.int z] 1 = some (V.int y) := fun _ _ _ => rfl
  have i2 : ∀ (x y z : Int), atI [V.int x, V.int y, V.int z] 2 = some (V.int z) := fun _ _ _ => rfl
  -- number = int(total)
  refine ⟨_, rfl, .inl ⟨n, rfl, ?_⟩⟩
  -- if dice[0] > 0
  refine ⟨_, rfl, d, _, 0, _, rfl, rfl, .of hd, i0 _ _ _, _, _, rfl, rfl, _, rfl, ?_⟩
  refine ite2 (fun hp => ?_) (fun hp => ?_)
  · refine ⟨_, rfl, d, _, 0, _, rfl, rfl, .of hd, i0 _ _ _, _, rfl, _, _, rfl, rfl, h0, ?_⟩
    refine ⟨_, rfl, d, _, 0, _, rfl, rfl, .of hd, i0 _ _ _, _, rfl, _, _, rfl, rfl, ⟨h0, by omega⟩, ?_⟩
    refine ⟨_, rfl, d, _, 0, 0, rfl, rfl, hd, rfl, ?_⟩
    refine ⟨_, rfl, .inl ⟨_, rfl, ?_⟩⟩
    exact k _ _ (Xt.set_dice (a := a / n) (b := b) (c := c) rfl) (Int.emod_nonneg _ (by omega)) (Int.emod_lt_of_pos _ h0)
  · refine ⟨_, rfl, d, _, 2, _, rfl, rfl, .of hd, i2 _ _ _, _, _, rfl, rfl, ?_⟩
    refine ⟨_, rfl, d, _, 2, 2, rfl, rfl, hd, rfl, ?_⟩
    have hd2 : (upd H d (.lst [.int a, .int b, .int (c + 1)])) d = some (.lst [.int a, .int b, .int (c + 1)]) := upd_same
    refine ⟨_, rfl, d, _, 1, _, rfl, rfl, .of hd2, i1 _ _ _, ?_⟩
    refine ⟨_, rfl, d, _, 2, _, rfl, rfl, .of hd2, i2 _ _ _, _, _, rfl, rfl, .inl ⟨by decide, by decide⟩, _, _, rfl, rfl, _, _, rfl, rfl, (by show (0 : Int) < 2305843009213693951; decide), ?_⟩
    have h61 := Int.emod_lt_of_pos (b + 1000151 * (c + 1)) (by decide : (0 : Int) < 2305843009213693951)
    have h60 := Int.emod_nonneg (b + 1000151 * (c + 1)) (by decide : (2305843009213693951 : Int) ≠ 0)
    refine ⟨_, rfl, _, rfl, _, _, rfl, rfl, .inl ⟨by omega, by omega⟩, _, _, rfl, rfl, (by show (0 : Int) < 2305843009213693921; decide), _, rfl, _, _, rfl, rfl, .inr ⟨by omega, by omega⟩, ?_⟩
    refine ⟨_, rfl, d, _, 2, _, rfl, rfl, .of hd2, i2 _ _ _, _, _, rfl, rfl, .inl ⟨by decide, by decide⟩, _, _, rfl, rfl, ?_⟩
    refine ⟨_, rfl, _, _, rfl, rfl, (by show (0 : Int) < 2305843009213693907; decide), ?_⟩
    refine ⟨_, rfl, _, _, rfl, rfl, ⟨by decide, by decide⟩, _, rfl, _, _, rfl, rfl, h0, .inl ⟨_, rfl, ?_⟩⟩
    exact k _ _ (Xt.set_dice (a := a) (b := b) (c := c + 1) rfl) (Int.emod_nonneg _ (by omega)) (Int.emod_lt_of_pos _ h0)
end T17

namespace T17
open PySem PySem.Spec PyProof.Rows L2 GB GE
local macro_rules | `(tactic| wtm_at "pre") => `(tactic| first | exact True.intro | ((try dsimp only); first | exact True.intro | assumption | omega | (exact Or.inl ⟨by omega, by omega⟩) | (exact Or.inr ⟨by omega, by omega⟩) | exact ⟨by omega, by omega⟩ | exact ⟨by omega, by omega, by omega⟩ | (simp_all; done) | (simp_all; omega)))
local macro_rules | `(tactic| wtm_at "len") => `(tactic| first | exact len1 (by decide) | exact len2 (by decide) | exact len2 (by simp))
local macro_rules | `(tactic| wtm_at "fin") => `(tactic| first | rfl | (simp [see, finer, isInt, rng_len, Prod.ext_iff]; done) | (simp [see, finer, isInt, rng_len, Prod.ext_iff]; omega) | (simp only [see, finer]; split <;> first | rfl | omega) | (dsimp only; rw [List.filter_eq_self.2 (fun _ _ => rfl)]; refine List.map_congr_left fun y _ => ?_; simp [see]; done) | (simp [see, finer, isInt, rng_len, Prod.ext_iff] <;> omega))
local macro_rules | `(tactic| wtm_at "nev") => `(tactic| first | (simp_all [Eq1]; done) | (simp_all [Eq1, isInt]; done) | (simp [Eq1, isInt] at *; omega))
local macro_rules | `(tactic| wtm_at "rg1") => `(tactic| (rintro _ rfl; rfl))
local macro_rules | `(tactic| wtm_at "rg2") => `(tactic| (rintro _ rfl; exact ⟨rfl, rfl⟩))
local macro_rules | `(tactic| wtm_at "inv0") => `(tactic| first | trivial | (intros; omega))
local macro_rules | `(tactic| wtm_at "ixz") => `(tactic| (rintro w h; exact (Option.some.inj h).symm))

abbrev s__law_seen : Stmt := top 28
def N__law_seen : List Str := ["cap", "modulus", "row", "count"]
theorem sc__law_seen : FnScope N__law_seen ["cap", "modulus", "row"] (defScope s__law_seen) := ⟨rfl, rfl, rfl, by decide +kernel, rfl, by decide +kernel, by decide +kernel⟩
abbrev sp__law_seen (N : En) : Sp := FnF (fun M => (Cons RI (Cons RI (Cons (RT M (All RI)) Nil)))) (fun M => (RT M (All RI))) (fun (x_cap, x_modulus, x_row, _) => 0 < x_modulus ∧ x_row.length < 1000000) (fun (x_cap, x_modulus, x_row, _) => x_row.map (see (x_cap, x_modulus)))
theorem ok__law_seen {N : En} (T : Txt N) (F : FunP N "_law_seen" s__law_seen)  : Dn N 1 "_law_seen" (sp__law_seen N) := by
  refine dn_mk F sc__law_seen (fun _ _ _ _ _ _ us hl => match us, hl with | [_, _, _], _ => rfl) (fun vs H Q E h => by obtain ⟨_, _, _, ⟨_, _, rfl, _, _, _, rfl, _, _, _, rfl, _, rfl⟩, _⟩ := h; rfl) ?_
  rintro cdv A outer s H vs Q E hr ⟨M, ⟨x_cap, x_modulus, x_row, ⟨⟩⟩, d0, ⟨v_cap, _, rfl, r_cap, v_modulus, _, rfl, r_modulus, v_row, _, rfl, r_row, rfl⟩, hp, k⟩
  replace r_cap : RI x_cap v_cap H := r_cap
  replace r_modulus : RI x_modulus v_modulus H := r_modulus
  replace r_row : (RT M (All RI)) x_row v_row H := r_row
  try dsimp only at hp
  refine ⟨_, (pss_one (ps_ret (pe_callTy call_tuple_of (by rfl) T.n_tuple (by decide +kernel) (pa_cons (pe_lc (own := [("count", 3)]) (g := gName 3) rfl sc__law_seen.nd (pi_tup (pv 2)) (blkOk_by (own := [("count", 3)]) (N := N__law_seen) (sc := defScope s__law_seen) (by decide +kernel)) (fun _ _ _ _ _ => (pg_name (i := 3) sc__law_seen.nd rfl (by first | exact Or.inl rfl | exact Or.inr rfl))) (fun _ _ _ _ _ => pts_nil) (fun _ _ _ _ _ => (pe_ifExp (pt_cmpR op_lt (pv 3) (pv 0) (nomark _)) (pv 3) (pe_op op_add (pv 0) (pe_op op_mod (pe_callTy call_int1 (by rfl) T.n_int (by decide +kernel) (pa_cons (pe_op op_sub (pv 3) (pv 0)) pa_nil)) (pv 1)))))) pa_nil)))), ?_⟩
  refine q_ret d0 (ev_cbf c_tupL (ea_cons1 ((ev_lcT (fun v => (wipe _ [3]).set 3 (some v)) (ev_var rfl r_row) (by wtm_at "pre") (fun _ _ _ _ _ q => q) (fun _ => rfl) (fun H' q1 v1 y1 _ s1 => et_yes) (fun H' q1 v1 y1 _ s1 _ => (ev_ifE (et_test (ev_opt o_lt (ev_var rfl s1) (ev_var rfl (up r_cap q1)))) (fun _ => (ev_var rfl s1)) (fun _ => (ev_opt o_add (ev_var rfl (up r_cap q1)) (ev_op1 o_mod (ev_cbf c_int (ea_cons1 (ev_opt o_sub (ev_var rfl s1) (ev_var rfl (up r_cap q1))) ea_nil)) (ev_var rfl (up r_modulus q1)) (by wtm_at "pre"))))))).imp fun _ c => c.det) ea_nil)) fun v z H1 e1 hz rz => ?_
  exact k v z H1 e1 (by first | exact hz | (refine Eq.trans hz ?_; wtm_at "fin")) rz
abbrev s__law_see : Stmt := top 29
def N__law_see : List Str := ["clerk", "number"]
theorem sc__law_see : FnScope N__law_see ["clerk", "number"] (defScope s__law_see) := ⟨rfl, rfl, rfl, by decide +kernel, rfl, by decide +kernel, by decide +kernel⟩
abbrev sp__law_see (N : En) : Sp := FnF (fun M => (Cons (R_Clerk N M) (Cons RI Nil))) (fun M => RI) (fun (x_clerk, x_number, _) => True) (fun (x_clerk, x_number, _) => see x_clerk x_number)
theorem ok__law_see {N : En} (T : Txt N) (F : FunP N "_law_see" s__law_see) (D_Clerk_cap : Dp N 1 "Clerk" "cap" (sp_Clerk_cap N)) (D_Clerk_modulus : Dp N 1 "Clerk" "modulus" (sp_Clerk_modulus N)) (D__law_seen : Dn N 1 "_law_seen" (sp__law_seen N)) : Dn N 3 "_law_see" (sp__law_see N) := by
  refine dn_mk F sc__law_see (fun _ _ _ _ _ _ us hl => match us, hl with | [_, _], _ => rfl) (fun vs H Q E h => by obtain ⟨_, _, _, ⟨_, _, rfl, _, _, _, rfl, _, rfl⟩, _⟩ := h; rfl) ?_
  rintro cdv A outer s H vs Q E hr ⟨M, ⟨x_clerk, x_number, ⟨⟩⟩, d0, ⟨v_clerk, _, rfl, r_clerk, v_number, _, rfl, r_number, rfl⟩, hp, k⟩
  replace r_clerk : (R_Clerk N M) x_clerk v_clerk H := r_clerk
  replace r_number : RI x_number v_number H := r_number
  try dsimp only at hp
  have w_clerk := clerk_ok r_clerk
  refine ⟨_, (pss_one (ps_ret (pe_ix ix_tup (pe_d D__law_seen (hr.mono (by decide)) (by rfl) (passes_call (takes_of rfl rfl rfl rfl) fun _ _ _ _ z => z) (pa_cons (pe_p (pv 0) D_Clerk_cap (hr.mono (by decide)) px0n) (pa_cons (pe_p (pv 0) D_Clerk_modulus (hr.mono (by decide)) px0n) (pa_cons (pe_tup (pa_cons (pv 1) pa_nil)) pa_nil)))) pe_int (fun _ _ => rfl)))), ?_⟩
  refine q_ret d0 (ev_ixT (ev_df (ea_cons1 (ev_prf (ev_var rfl r_clerk) trivial) (ea_cons1 (ev_prf (ev_var rfl r_clerk) trivial) (ea_cons1 (ev_tup (ea_consA (ev_var rfl r_number) ea_nilA) (by wtm_at "len")) ea_nil))) (by wtm_at "pre")) ev_int rfl) fun v z H1 e1 hz rz => ?_
  exact k v z H1 e1 (by first | exact hz | (refine Eq.trans hz ?_; wtm_at "fin")) rz
abbrev s__law_is_finer : Stmt := top 30
def N__law_is_finer : List Str := ["one", "other", "number", "later"]
theorem sc__law_is_finer : FnScope N__law_is_finer ["one", "other"] (defScope s__law_is_finer) := ⟨rfl, rfl, rfl, by decide +kernel, rfl, by decide +kernel, by decide +kernel⟩
abbrev sp__law_is_finer (N : En) : Sp := FnF (fun M => (Cons (R_Clerk N M) (Cons (R_Clerk N M) Nil))) (fun M => RB) (fun (x_one, x_other, _) => x_one.1 + x_one.2 ≤ 1000) (fun (x_one, x_other, _) => finer x_one x_other)
theorem ok__law_is_finer {N : En} (T : Txt N) (F : FunP N "_law_is_finer" s__law_is_finer) (D_Clerk_cap : Dp N 1 "Clerk" "cap" (sp_Clerk_cap N)) (D_Clerk_modulus : Dp N 1 "Clerk" "modulus" (sp_Clerk_modulus N)) (D__law_see : Dn N 3 "_law_see" (sp__law_see N)) : Dn N 4 "_law_is_finer" (sp__law_is_finer N) := by
  refine dn_mk F sc__law_is_finer (fun _ _ _ _ _ _ us hl => match us, hl with | [_, _], _ => rfl) (fun vs H Q E h => by obtain ⟨_, _, _, ⟨_, _, rfl, _, _, _, rfl, _, rfl⟩, _⟩ := h; rfl) ?_
  rintro cdv A outer s H vs Q E hr ⟨M, ⟨x_one, x_other, ⟨⟩⟩, d0, ⟨v_one, _, rfl, r_one, v_other, _, rfl, r_other, rfl⟩, hp, k⟩
  replace r_one : (R_Clerk N M) x_one v_one H := r_one
  replace r_other : (R_Clerk N M) x_other v_other H := r_other
  try dsimp only at hp
  have w_one := clerk_ok r_one
  have w_other := clerk_ok r_other
  refine ⟨_, (pss_cons (ps_for (passes_of rfl) rfl (pi_range1 (by rfl) T.n_range (pa_cons (pe_op op_add (pe_p (pv 0) D_Clerk_cap (hr.mono (by decide)) px0n) (pe_p (pv 0) D_Clerk_modulus (hr.mono (by decide)) px0n)) pa_nil)) (pg_name (i := 2) sc__law_is_finer.nd rfl (by first | exact Or.inl rfl | exact Or.inr rfl))
      (pss_cons (ps_set (i := 3) sc__law_is_finer.nd rfl (by first | exact Or.inl rfl | exact Or.inr rfl) (pe_op op_add (pv 2) (pe_p (pv 0) D_Clerk_modulus (hr.mono (by decide)) px0n)))
    (pss_one (ps_if (PW.pt (pw_and (pt_cmpR op_ge (pv 2) (pe_p (pv 0) D_Clerk_cap (hr.mono (by decide)) px0n) (nomark _)) (pw_and1 (pt_cmpR op_ne (pe_d D__law_see (hr.mono (by decide)) (by rfl) (passes_call (takes_of rfl rfl rfl rfl) fun _ _ _ _ z => z) (pa_cons (pv 1) (pa_cons (pv 2) pa_nil))) (pe_d D__law_see (hr.mono (by decide)) (by rfl) (passes_call (takes_of rfl rfl rfl rfl) fun _ _ _ _ z => z) (pa_cons (pv 1) (pa_cons (pv 3) pa_nil))) (nomark _)))))
      (pss_one (ps_ret pe_bl)) pss_nil))))
    (pss_one (ps_ret pe_bl))), ?_⟩
  refine q_for1 d0 ((ea_cons1 (ev_opt o_add (ev_prf (ev_var rfl r_one) trivial) (ev_prf (ev_var rfl r_one) trivial)) ea_nil).imp rg1) (by wtm_at "pre") (fun i σ' H' => ∃ (o_number : Option V) (o_later : Option V), σ' = [some v_one, some v_other, o_number, o_later] ∧ Xt M H H' ∧ (∀ n, x_one.1 ≤ n → n < i → see x_other n = see x_other (n + x_one.2))) (fun H' e0' => ⟨_, _, rfl, e0', by wtm_at "inv0"⟩) (fun x_number σ' H1 hi0 hi1 hI => ?_) (fun σ' H1 hI => ?_)
  · obtain ⟨o_number, o_later, rfl, e1', hI⟩ := hI
    have e1 := e1'
    have d1 := e1.dice; replace r_one := up r_one e1; replace r_other := up r_other e1; have r_number : RI x_number (.int x_number) H1 := rfl
    refine q_set d1 (ev_opt o_add (ev_var rfl r_number) (ev_prf (ev_var rfl r_one) trivial)) fun v_later x_later H2 e2 h_later r_later => ?_
    replace h_later : x_later = _ := h_later; try dsimp only at h_later
    have d2 := e2.dice; replace r_one := up r_one e2; replace r_other := up r_other e2; replace r_number := up r_number e2
    refine q_if0 d2 (et_and (et_test (ev_opt o_ge (ev_var rfl r_number) (ev_prf (ev_var rfl r_one) trivial))) (fun _ => (et_test (ev_opt o_ne (ev_df (ea_cons1 (ev_var rfl r_other) (ea_cons1 (ev_var rfl r_number) ea_nil)) (by wtm_at "pre")) (ev_df (ea_cons1 (ev_var rfl r_other) (ea_cons1 (ev_var rfl r_later) ea_nil)) (by wtm_at "pre")))))) (fun H3 e3 hb => ?_) (fun H3 e3 hb => ?_)
    · simp [Eq1] at hb
      have d3 := e3.dice; replace r_one := up r_one e3; replace r_other := up r_other e3; replace r_number := up r_number e3; replace r_later := up r_later e3
      refine q_ret d3 ev_bl fun v z H4 e4 hz rz => ?_
      exact k v z H4 (((e1.trans e2).trans e3).trans e4) (by
        refine Eq.trans hz ?_
        show false = finer x_one x_other
        cases q : finer x_one x_other with
        | false => rfl
        | true => exact absurd ((finer_see q x_number hb.1 w_one.2).trans (by rw [h_later])) hb.2) rz
    · simp [Eq1] at hb
      have d3 := e3.dice; replace r_one := up r_one e3; replace r_other := up r_other e3; replace r_number := up r_number e3; replace r_later := up r_later e3
      exact ⟨_, _, rfl, ((e1'.trans e2).trans e3), by
        intro n h1 h2
        by_cases e : n = x_number
        · subst e
          have := hb h1
          rw [h_later] at this
          exact this
        · exact hI n h1 (by omega)⟩
  · obtain ⟨o_number, o_later, rfl, e1', hI⟩ := hI
    have e1 := e1'
    have d1 := e1.dice; replace r_one := up r_one e1; replace r_other := up r_other e1
    refine q_ret d1 ev_bl fun v z H2 e2 hz rz => ?_
    exact k v z H2 (e1.trans e2) (by
      refine Eq.trans hz ?_
      exact (finer_of w_one w_other hI).symm) rz
end T17

namespace T17
open PySem PySem.Spec PyProof.Rows L2 GB GE
local macro_rules | `(tactic| wtm_at "pre") => `(tactic| first | exact True.intro | ((try dsimp only); first | exact True.intro | assumption | omega | (exact Or.inl ⟨by omega, by omega⟩) | (exact Or.inr ⟨by omega, by omega⟩) | exact ⟨by omega, by omega⟩ | exact ⟨by omega, by omega, by omega⟩ | (simp_all; done) | (simp_all; omega)))
local macro_rules | `(tactic| wtm_at "len") => `(tactic| first | exact len1 (by decide) | exact len2 (by decide) | exact len2 (by simp))
local macro_rules | `(tactic| wtm_at "fin") => `(tactic| first | rfl | (simp [see, finer, isInt, rng_len, Prod.ext_iff]; done) | (simp [see, finer, isInt, rng_len, Prod.ext_iff]; omega) | (simp only [see, finer]; split <;> first | rfl | omega) | (dsimp only; rw [List.filter_eq_self.2 (fun _ _ => rfl)]; refine List.map_congr_left fun y _ => ?_; simp [see]; done) | (simp [see, finer, isInt, rng_len, Prod.ext_iff] <;> omega))
local macro_rules | `(tactic| wtm_at "nev") => `(tactic| first | (simp_all [Eq1]; done) | (simp_all [Eq1, isInt]; done) | (simp [Eq1, isInt] at *; omega))
local macro_rules | `(tactic| wtm_at "inv0") => `(tactic| first | trivial | (intros; omega))

abbrev s_coarser : Stmt := top 24
def N_coarser : List Str := ["clerk", "divisors", "number", "cap"]
theorem sc_coarser : FnScope N_coarser ["clerk"] (defScope s_coarser) := ⟨rfl, rfl, rfl, by decide +kernel, rfl, by decide +kernel, by decide +kernel⟩
abbrev sp_coarser (N : En) : Sp := FnF (fun M => (Cons (R_Clerk N M) Nil)) (fun M => (RT M (All (RT M (Cons RI (Cons RI Nil)))))) (fun (x_clerk, _) => x_clerk.1 < 100 ∧ x_clerk.2 < 100) (fun (x_clerk, _) => crs x_clerk)
theorem ok_coarser {N : En} (T : Txt N) (F : FunP N "coarser" s_coarser) (D_require_clerk : Dn N 1 "require_clerk" (sp_require_clerk N)) : Dn N 2 "coarser" (sp_coarser N) := by
  refine dn_mk F sc_coarser (fun _ _ _ _ _ _ us hl => match us, hl with | [_], _ => rfl) (fun vs H Q E h => by obtain ⟨_, _, _, ⟨_, _, rfl, _, rfl⟩, _⟩ := h; rfl) ?_
  rintro cdv A outer s H vs Q E hr ⟨M, ⟨x_clerk, ⟨⟩⟩, d0, ⟨v_clerk, _, rfl, r_clerk, rfl⟩, hp, k⟩
  replace r_clerk : (R_Clerk N M) x_clerk v_clerk H := r_clerk
  try dsimp only at hp
  have w_clerk := clerk_ok r_clerk
  refine ⟨_, (pss_cons (ps_expr (pe_d D_require_clerk (hr.mono (by decide)) (by rfl) (passes_call (takes_of rfl rfl rfl rfl) fun _ _ _ _ z => z) (pa_cons (pv 0) pa_nil)))
    (pss_cons (ps_set (i := 1) sc_coarser.nd rfl (by first | exact Or.inl rfl | exact Or.inr rfl) (pe_lc (own := [("number", 2)]) (g := gName 2) rfl sc_coarser.nd (pi_range2 (by rfl) T.n_range (pa_cons pe_int (pa_cons (pe_op op_add (pe_fld (pv 0) rfl) pe_int) pa_nil))) (blkOk_by (own := [("number", 2)]) (N := N_coarser) (sc := defScope s_coarser) (by decide +kernel)) (fun _ _ _ _ _ => (pg_name (i := 2) sc_coarser.nd rfl (by first | exact Or.inl rfl | exact Or.inr rfl))) (fun _ _ _ _ _ => (pts_one (pt_cmpR op_eq (pe_op op_mod (pe_fldK N.K (by rfl) (pv 0) (by rfl)) (pv 2)) pe_int (nomark _)))) (fun _ _ _ _ _ => (pv 2))))
    (pss_one (ps_ret (pe_callTy call_tuple_of (by rfl) T.n_tuple (by decide +kernel) (pa_cons (pe_lc2 (own := [("cap", 3), ("number", 2)]) (vs1 := [2]) (g := gName 3) (g1 := gName 2) rfl sc_coarser.nd (pi_range1 (by rfl) T.n_range (pa_cons (pe_op op_add (pe_fld (pv 0) rfl) pe_int) pa_nil)) (blkOk_by (own := [("cap", 3), ("number", 2)]) (N := N_coarser) (sc := defScope s_coarser) (by decide +kernel)) (by decide) (fun _ _ _ _ _ => (pg_name (i := 3) sc_coarser.nd rfl (by first | exact Or.inl rfl | exact Or.inr rfl))) (fun _ _ _ _ _ => pts_nil) (fun _ _ _ _ _ => (pi_listK N.K (by rfl) (pv 1))) (fun _ _ _ _ _ => (pg_name (i := 2) sc_coarser.nd rfl (by first | exact Or.inl rfl | exact Or.inr rfl))) (fun _ _ _ _ _ => pts_nil) (fun _ _ _ _ _ => (pe_tup (pa_cons (pv 3) (pa_cons (pv 2) pa_nil))))) pa_nil)))))), ?_⟩
  refine q_drop d0 (ev_d1 (ea_cons1 (ev_var rfl r_clerk) ea_nil) (by wtm_at "pre")) fun _ _ H1 e1 _ _ => ?_
  have d1 := e1.dice; replace r_clerk := up r_clerk e1
  refine q_set d1 ((ev_lcR2 (fun v => (wipe _ [2]).set 2 (some v)) ((ea_cons1 ev_int (ea_cons1 (ev_opt o_add (ev_fld1 T.c_Clerk T.na_Clerk_own_modulus lk_Clerk_own_modulus (ev_var rfl r_clerk)) ev_int) ea_nil)).imp rg2) (by wtm_at "pre") (fun _ _ _ _ _ q => q) (fun _ => rfl) (fun H' q1 y1 _ _ => (et_test (ev_opt o_eq (ev_op1 o_mod (ev_fld1 T.c_Clerk T.na_Clerk_own_modulus lk_Clerk_own_modulus (ev_var rfl (up r_clerk q1))) (ev_var (R := RI) rfl rfl) (by wtm_at "pre")) ev_int))) (fun H' q1 y1 _ _ _ => (ev_var (R := RI) rfl rfl))).imp fun _ c => c.det) fun v_divisors x_divisors H2 e2 h_divisors r_divisors => ?_
  replace h_divisors : x_divisors = _ := h_divisors; try dsimp only at h_divisors
  have d2 := e2.dice; replace r_clerk := up r_clerk e2
  have hl : x_divisors.length < 100 := by
    rw [h_divisors, List.length_map]
    refine Nat.lt_of_le_of_lt (List.length_filter_le _ _) ?_
    rw [rng_len]; omega
  refine q_ret d2 (ev_cbf c_tupL (ea_cons1 (ev_lc2RL (R := RI) (R' := RT M (Cons RI (Cons RI Nil))) (f := fun x y => (x, y, ())) (fun v => (wipe ((L2.start N_coarser [v_clerk]).set 1 (some v_divisors)) [3, 2]).set 3 (some v)) (fun v w => (wipe ((wipe ((L2.start N_coarser [v_clerk]).set 1 (some v_divisors)) [3, 2]).set 3 (some v)) [2]).set 2 (some w)) ((ea_cons1 (ev_opt o_add (ev_fld1 T.c_Clerk T.na_Clerk_own_cap lk_Clerk_own_cap (ev_var rfl r_clerk)) ev_int) ea_nil).imp rg1) ⟨by omega, by omega, hl⟩
    (fun _ _ _ _ _ q => q) (fun _ => rfl) (fun _ _ _ q => ⟨_, rfl, q⟩) r_divisors (fun _ _ _ _ _ _ q => q) (fun _ _ => rfl) (fun H1 q1 x w y _ _ _ ry => ev_tup (ea_cons1 (ev_var (R := RI) rfl rfl) (ea_cons1 (ev_var rfl ry) ea_nil)) (by wtm_at "len"))) ea_nil)) fun v z H3 e3 hz rz => ?_
  exact k v z H3 ((e1.trans e2).trans e3) (by
    refine Eq.trans hz ?_
    show List.flatMap _ (rng 0 (x_clerk.1 + 1)) = crs x_clerk
    rw [h_divisors]
    unfold crs divs
    simp) rz
abbrev s__law_bounds_right : Stmt := top 31
def N__law_bounds_right : List Str := ["one", "other", "caps", "moduli", "most", "number", "part", "least", "up", "down"]
theorem sc__law_bounds_right : FnScope N__law_bounds_right ["one", "other"] (defScope s__law_bounds_right) := ⟨rfl, rfl, rfl, by decide +kernel, rfl, by decide +kernel, by decide +kernel⟩
abbrev sp__law_bounds_right (N : En) : Sp := FnF (fun M => (Cons (R_Clerk N M) (Cons (R_Clerk N M) Nil))) (fun M => RB) (fun (x_one, x_other, _) => (x_one.1 ≤ 12 ∧ x_one.2 ≤ 12) ∧ x_other.1 ≤ 12 ∧ x_other.2 ≤ 12) (fun (x_one, x_other, _) => true)
theorem ok__law_bounds_right {N : En} (T : Txt N) (F : FunP N "_law_bounds_right" s__law_bounds_right) (D_Clerk_cap : Dp N 1 "Clerk" "cap" (sp_Clerk_cap N)) (D_Clerk_modulus : Dp N 1 "Clerk" "modulus" (sp_Clerk_modulus N)) (D_Clerk___or__ : Dm N 7 "Clerk" "__or__" (sp_Clerk___or__ N)) (D_Clerk___and__ : Dm N 7 "Clerk" "__and__" (sp_Clerk___and__ N)) (D_Clerk_is_finer : Dm N 2 "Clerk" "is_finer" (sp_Clerk_is_finer N)) (D_Clerk___eq__ : Dm N 1 "Clerk" "__eq__" (sp_Clerk___eq__ N)) : Dn N 9 "_law_bounds_right" (sp__law_bounds_right N) := by
  refine dn_mk F sc__law_bounds_right (fun _ _ _ _ _ _ us hl => match us, hl with | [_, _], _ => rfl) (fun vs H Q E h => by obtain ⟨_, _, _, ⟨_, _, rfl, _, _, _, rfl, _, rfl⟩, _⟩ := h; rfl) ?_
  rintro cdv A outer s H vs Q E hr ⟨M, ⟨x_one, x_other, ⟨⟩⟩, d0, ⟨v_one, _, rfl, r_one, v_other, _, rfl, r_other, rfl⟩, hp, k⟩
  replace r_one : (R_Clerk N M) x_one v_one H := r_one
  replace r_other : (R_Clerk N M) x_other v_other H := r_other
  try dsimp only at hp
  have w_one := clerk_ok r_one
  have w_other := clerk_ok r_other
  refine ⟨_, (pss_cons (ps_asg (pe_tup (pa_cons (pe_callB cr_sorted (by rfl) T.n_sorted (by decide +kernel) (pa_cons (pe_lst (pa_cons (pe_p (pv 0) D_Clerk_cap (hr.mono (by decide)) px0n) (pa_cons (pe_p (pv 1) D_Clerk_cap (hr.mono (by decide)) px0n) pa_nil))) pa_nil)) (pa_cons (pe_lst (pa_cons (pe_p (pv 0) D_Clerk_modulus (hr.mono (by decide)) px0n) (pa_cons (pe_p (pv 1) D_Clerk_modulus (hr.mono (by decide)) px0n) pa_nil))) pa_nil))) (pg_tup rfl (pgs_cons (pg_name (i := 2) sc__law_bounds_right.nd rfl (by first | exact Or.inl rfl | exact Or.inr rfl)) (pgs_cons (pg_name (i := 3) sc__law_bounds_right.nd rfl (by first | exact Or.inl rfl | exact Or.inr rfl)) pgs_nil))))
    (pss_cons (ps_set (i := 4) sc__law_bounds_right.nd rfl (by first | exact Or.inl rfl | exact Or.inr rfl) (pe_ix ix_list (pe_lc (own := [("number", 5)]) (g := gName 5) rfl sc__law_bounds_right.nd (pi_range2 (by rfl) T.n_range (pa_cons pe_int (pa_cons pe_int pa_nil))) (blkOk_by (own := [("number", 5)]) (N := N__law_bounds_right) (sc := defScope s__law_bounds_right) (by decide +kernel)) (fun _ _ _ _ _ => (pg_name (i := 5) sc__law_bounds_right.nd rfl (by first | exact Or.inl rfl | exact Or.inr rfl))) (fun _ _ _ _ _ => (pts_one (pt_cmpR (op_eqDK N.K (by rfl) hr.units) (pe_lc (own := [("part", 6)]) (g := gName 6) rfl sc__law_bounds_right.nd (pi_listK N.K (by rfl) (pv 3)) (blkOk_by (own := [("part", 6)]) (N := N__law_bounds_right) (by kernel_rfl)) (fun _ _ _ _ _ => (pg_name (i := 6) sc__law_bounds_right.nd rfl (by first | exact Or.inl rfl | exact Or.inr rfl))) (fun _ _ _ _ _ => (pts_one (pt_cmpR op_ne (pe_op op_mod (pv 5) (pv 6)) pe_int (nomark _)))) (fun _ _ _ _ _ => (pv 6))) (pe_lst pa_nil) (nomark _)))) (fun _ _ _ _ _ => (pv 5))) pe_int (fun _ _ => rfl)))
    (pss_cons (ps_set (i := 7) sc__law_bounds_right.nd rfl (by first | exact Or.inl rfl | exact Or.inr rfl) (pe_ix ix_list (pe_lc (own := [("number", 5)]) (g := gName 5) rfl sc__law_bounds_right.nd (pi_range2 (by rfl) T.n_range (pa_cons pe_int (pa_cons pe_int pa_nil))) (blkOk_by (own := [("number", 5)]) (N := N__law_bounds_right) (sc := defScope s__law_bounds_right) (by decide +kernel)) (fun _ _ _ _ _ => (pg_name (i := 5) sc__law_bounds_right.nd rfl (by first | exact Or.inl rfl | exact Or.inr rfl))) (fun _ _ _ _ _ => (pts_one (pt_cmpR (op_eqDK N.K (by rfl) hr.units) (pe_lc (own := [("part", 6)]) (g := gName 6) rfl sc__law_bounds_right.nd (pi_listK N.K (by rfl) (pv 3)) (blkOk_by (own := [("part", 6)]) (N := N__law_bounds_right) (by kernel_rfl)) (fun _ _ _ _ _ => (pg_name (i := 6) sc__law_bounds_right.nd rfl (by first | exact Or.inl rfl | exact Or.inr rfl))) (fun _ _ _ _ _ => (pts_one (pt_cmpR op_ne (pe_op op_mod (pv 6) (pv 5)) pe_int (nomark _)))) (fun _ _ _ _ _ => (pv 6))) (pe_lst pa_nil) (nomark _)))) (fun _ _ _ _ _ => (pv 5))) (pe_un un_neg pe_int) (fun _ _ => rfl)))
    (pss_cons (ps_par rfl sc__law_bounds_right.nd (i := 8) (j := 9) rfl rfl (by decide) rfl rfl (pa_cons (pe_op (op_bin D_Clerk___or__ T.sf_Clerk (hr.mono (by decide)) (passes_call (takes_of rfl rfl rfl rfl) fun _ _ _ _ z => z)) (pv 0) (pv 1)) (pa_cons (pe_op (op_bin D_Clerk___and__ T.sf_Clerk (hr.mono (by decide)) (passes_call (takes_of rfl rfl rfl rfl) fun _ _ _ _ z => z)) (pv 0) (pv 1)) pa_nil)) rfl)
    (pss_cons (ps_if (pt_cmpR (op_neD hr.units) (pe_lst (pa_cons (pe_p (pv 8) D_Clerk_cap (hr.mono (by decide)) px0n) (pa_cons (pe_p (pv 8) D_Clerk_modulus (hr.mono (by decide)) px0n) (pa_cons (pe_p (pv 9) D_Clerk_cap (hr.mono (by decide)) px0n) (pa_cons (pe_p (pv 9) D_Clerk_modulus (hr.mono (by decide)) px0n) pa_nil))))) (pe_lst (pa_cons (pe_ix ix_list (pv 2) pe_int (fun _ _ => rfl)) (pa_cons (pv 4) (pa_cons (pe_ix ix_list (pv 2) pe_int (fun _ _ => rfl)) (pa_cons (pv 7) pa_nil))))) (nomark _))
      (pss_one (ps_ret pe_bl)) pss_nil)
    (pss_cons (ps_if (pt_cmpR (op_neD hr.units) (pe_lst (pa_cons (pe_m (pv 8) D_Clerk_is_finer (hr.mono (by decide)) (passes_call (takes_of rfl rfl rfl rfl) fun _ _ _ _ z => z) (pa_cons (pv 0) pa_nil)) (pa_cons (pe_m (pv 8) D_Clerk_is_finer (hr.mono (by decide)) (passes_call (takes_of rfl rfl rfl rfl) fun _ _ _ _ z => z) (pa_cons (pv 1) pa_nil)) (pa_cons (pe_m (pv 0) D_Clerk_is_finer (hr.mono (by decide)) (passes_call (takes_of rfl rfl rfl rfl) fun _ _ _ _ z => z) (pa_cons (pv 9) pa_nil)) (pa_cons (pe_m (pv 1) D_Clerk_is_finer (hr.mono (by decide)) (passes_call (takes_of rfl rfl rfl rfl) fun _ _ _ _ z => z) (pa_cons (pv 9) pa_nil)) pa_nil))))) (pe_op op_rep (pe_lst (pa_cons pe_bl pa_nil)) pe_int) (nomark _))
      (pss_one (ps_ret pe_bl)) pss_nil)
    (pss_one (ps_ret (pe_and (pe_cmpR (op_eqO D_Clerk___eq__ (hr.mono (by decide)) (passes_call (takes_of rfl rfl rfl rfl) fun _ _ _ _ z => z)) (pe_op (op_bin D_Clerk___or__ T.sf_Clerk (hr.mono (by decide)) (passes_call (takes_of rfl rfl rfl rfl) fun _ _ _ _ z => z)) (pv 0) (pv 1)) (pe_op (op_bin D_Clerk___or__ T.sf_Clerk (hr.mono (by decide)) (passes_call (takes_of rfl rfl rfl rfl) fun _ _ _ _ z => z)) (pv 1) (pv 0)) (nomark _)) (pe_and (pe_cmpR (op_eqO D_Clerk___eq__ (hr.mono (by decide)) (passes_call (takes_of rfl rfl rfl rfl) fun _ _ _ _ z => z)) (pe_op (op_bin D_Clerk___and__ T.sf_Clerk (hr.mono (by decide)) (passes_call (takes_of rfl rfl rfl rfl) fun _ _ _ _ z => z)) (pv 0) (pe_op (op_bin D_Clerk___or__ T.sf_Clerk (hr.mono (by decide)) (passes_call (takes_of rfl rfl rfl rfl) fun _ _ _ _ z => z)) (pv 0) (pv 1))) (pv 0) (nomark _)) (pe_one (pe_cmpR (op_eqO D_Clerk___eq__ (hr.mono (by decide)) (passes_call (takes_of rfl rfl rfl rfl) fun _ _ _ _ z => z)) (pe_op (op_bin D_Clerk___or__ T.sf_Clerk (hr.mono (by decide)) (passes_call (takes_of rfl rfl rfl rfl) fun _ _ _ _ z => z)) (pv 0) (pe_op (op_bin D_Clerk___and__ T.sf_Clerk (hr.mono (by decide)) (passes_call (takes_of rfl rfl rfl rfl) fun _ _ _ _ z => z)) (pv 0) (pv 1))) (pv 0) (nomark _))))))))))))), ?_⟩
  refine q_un2 (R := (RL M (All RI))) (R' := (RL M (All RI))) d0 (ev_tup (ea_cons1 (ev_sorted (ev_lst (ea_consA (ev_prf (ev_var rfl r_one) trivial) (ea_consA (ev_prf (ev_var rfl r_other) trivial) ea_nilA)) (by wtm_at "len")) (by wtm_at "pre")) (ea_cons1 (ev_lst (ea_consA (ev_prf (ev_var rfl r_one) trivial) (ea_consA (ev_prf (ev_var rfl r_other) trivial) ea_nilA)) (by wtm_at "len")) ea_nil)) (by wtm_at "len")) fun v_caps v_moduli x_caps x_moduli H1 e1 hxy r_caps r_moduli => ?_
  obtain ⟨h_caps, h_moduli⟩ : x_caps = _ ∧ x_moduli = _ := ⟨congrArg (fun q => q.1) hxy, congrArg (fun q => q.2.1) hxy⟩; try dsimp only at h_caps h_moduli
  have d1 := e1.dice; replace r_one := up r_one e1; replace r_other := up r_other e1
  refine q_set d1 (ev_ixL ((ev_lcR2 (fun v => (wipe _ [5]).set 5 (some v)) ((ea_cons1 ev_int (ea_cons1 ev_int ea_nil)).imp rg2) (by wtm_at "pre") (fun _ _ _ _ _ q => q) (fun _ => rfl) (fun H' q1 y1 _ _ => (et_test (ev_opt o_eqD ((ev_lcL (fun v => (wipe _ [6]).set 6 (some v)) (ev_var rfl (up r_moduli q1)) (by wtm_at "pre") (fun _ _ _ _ _ q => q) (fun _ => rfl) (fun H' q2 v2 y2 _ s2 => (et_test (ev_opt o_ne (ev_op1 o_mod (ev_var (R := RI) rfl rfl) (ev_var rfl s2) (by wtm_at "pre")) ev_int))) (fun H' q2 v2 y2 _ s2 _ => (ev_var rfl s2))).imp fun _ c => c.det) (ev_lst ea_nilA (by wtm_at "len"))))) (fun H' q1 y1 _ _ _ => (ev_var (R := RI) rfl rfl))).imp fun _ c => c.det) ev_int (by rw [h_moduli]; refine Eq.trans ?_ (most_ix ⟨w_one.2, hp.1.2⟩ ⟨w_other.2, hp.2.2⟩).1; simp only [List.map_id']; rfl)) fun v_most x_most H2 e2 h_most r_most => ?_
  replace h_most : x_most = _ := h_most; try dsimp only at h_most
  have d2 := e2.dice; replace r_one := up r_one e2; replace r_other := up r_other e2; replace r_caps := up r_caps e2; replace r_moduli := up r_moduli e2
  refine q_set d2 (ev_ixL ((ev_lcR2 (fun v => (wipe _ [5]).set 5 (some v)) ((ea_cons1 ev_int (ea_cons1 ev_int ea_nil)).imp rg2) (by wtm_at "pre") (fun _ _ _ _ _ q => q) (fun _ => rfl) (fun H' q1 y1 _ _ => (et_test (ev_opt o_eqD ((ev_lcL (fun v => (wipe _ [6]).set 6 (some v)) (ev_var rfl (up r_moduli q1)) (by wtm_at "pre") (fun _ _ _ _ _ q => q) (fun _ => rfl) (fun H' q2 v2 y2 _ s2 => (et_test (ev_opt o_ne (ev_op1 o_mod (ev_var rfl s2) (ev_var (R := RI) rfl rfl) (by wtm_at "pre")) ev_int))) (fun H' q2 v2 y2 _ s2 _ => (ev_var rfl s2))).imp fun _ c => c.det) (ev_lst ea_nilA (by wtm_at "len"))))) (fun H' q1 y1 _ _ _ => (ev_var (R := RI) rfl rfl))).imp fun _ c => c.det) (ev_un u_neg ev_int) (by rw [h_moduli]; refine Eq.trans ?_ (most_ix ⟨w_one.2, hp.1.2⟩ ⟨w_other.2, hp.2.2⟩).2; simp only [List.map_id']; rfl)) fun v_least x_least H3 e3 h_least r_least => ?_
  replace h_least : x_least = _ := h_least; try dsimp only at h_least
  have d3 := e3.dice; replace r_one := up r_one e3; replace r_other := up r_other e3; replace r_caps := up r_caps e3; replace r_moduli := up r_moduli e3; replace r_most := up r_most e3
  refine q_par d3 ((ea_cons1 (ev_op1 o_ownf (ev_var rfl r_one) (ev_var rfl r_other) (by wtm_at "pre")) (ea_cons1 (ev_op1 o_ownf (ev_var rfl r_one) (ev_var rfl r_other) (by wtm_at "pre")) ea_nil)).imp par2) fun v_up v_down x_up x_down H4 e4 h_up h_down r_up r_down => ?_
  replace h_up : x_up = _ := h_up; try dsimp only at h_up
  replace h_down : x_down = _ := h_down; try dsimp only at h_down
  have d4 := e4.dice; replace r_one := up r_one e4; replace r_other := up r_other e4; replace r_caps := up r_caps e4; replace r_moduli := up r_moduli e4; replace r_most := up r_most e4; replace r_least := up r_least e4
  have hj : (jn x_one x_other).2 < 1000 := jn_lt w_one.2 hp.1.2 w_other.2 hp.2.2
  have hm : (mt x_one x_other).2 < 1000 := mt_lt w_one.2 hp.1.2
  refine q_ifS0 d4 (et_test (ev_opt o_neD (ev_lst (ea_consA (ev_prf (ev_var rfl r_up) trivial) (ea_consA (ev_prf (ev_var rfl r_up) trivial) (ea_consA (ev_prf (ev_var rfl r_down) trivial) (ea_consA (ev_prf (ev_var rfl r_down) trivial) ea_nilA)))) (by wtm_at "len")) (ev_lst (ea_consA (ev_ixL (ev_var rfl r_caps) ev_int (by rw [h_caps, srt2]; rfl)) (ea_consA (ev_var rfl r_most) (ea_consA (ev_ixL (ev_var rfl r_caps) ev_int (by rw [h_caps, srt2]; rfl)) (ea_consA (ev_var rfl r_least) ea_nilA)))) (by wtm_at "len")))) (fun H5 e5 hb => ?_) (fun H5 e5 hb => ?_)
  · exact absurd hb (by rw [h_up, h_down, h_most, h_least]; simp [Eq1, jn, mt])
  · simp [Eq1] at hb
    have d5 := e5.dice; replace r_one := up r_one e5; replace r_other := up r_other e5; replace r_caps := up r_caps e5; replace r_moduli := up r_moduli e5; replace r_most := up r_most e5; replace r_least := up r_least e5; replace r_up := up r_up e5; replace r_down := up r_down e5
    refine q_ifS0 d5 (et_test (ev_opt o_neD (ev_lst (ea_consA (ev_mef lkm_Clerk_is_finer (ev_var rfl r_up) (ea_cons1 (ev_var rfl r_one) ea_nil) (by wtm_at "pre")) (ea_consA (ev_mef lkm_Clerk_is_finer (ev_var rfl r_up) (ea_cons1 (ev_var rfl r_other) ea_nil) (by wtm_at "pre")) (ea_consA (ev_mef lkm_Clerk_is_finer (ev_var rfl r_one) (ea_cons1 (ev_var rfl r_down) ea_nil) (by wtm_at "pre")) (ea_consA (ev_mef lkm_Clerk_is_finer (ev_var rfl r_other) (ea_cons1 (ev_var rfl r_down) ea_nil) (by wtm_at "pre")) ea_nilA)))) (by wtm_at "len")) (ev_op1 o_rep (ev_lst (ea_consA ev_bl ea_nilA) (by wtm_at "len")) ev_int (by wtm_at "pre")))) (fun H6 e6 hb => ?_) (fun H6 e6 hb => ?_)
    · exact absurd hb (by rw [h_up, h_down]; simp [Eq1, fin_jn1 w_one w_other, fin_jn2 w_one w_other, fin_mt1 w_one w_other, fin_mt2 w_one w_other])
    · simp [Eq1] at hb
      have d6 := e6.dice; replace r_one := up r_one e6; replace r_other := up r_other e6; replace r_caps := up r_caps e6; replace r_moduli := up r_moduli e6; replace r_most := up r_most e6; replace r_least := up r_least e6; replace r_up := up r_up e6; replace r_down := up r_down e6
      refine q_ret d6 (ev_and (ev_op1 o_eqOf (ev_op1 o_ownf (ev_var rfl r_one) (ev_var rfl r_other) (by wtm_at "pre")) (ev_op1 o_ownf (ev_var rfl r_other) (ev_var rfl r_one) (by wtm_at "pre")) (by wtm_at "pre")) (fun _ => (ev_and (ev_op1 o_eqOf (ev_op1 o_ownf (ev_var rfl r_one) (ev_op1 o_ownf (ev_var rfl r_one) (ev_var rfl r_other) (by wtm_at "pre")) (by wtm_at "pre")) (ev_var rfl r_one) (by wtm_at "pre")) (fun _ => (ev_op1 o_eqOf (ev_op1 o_ownf (ev_var rfl r_one) (ev_op1 o_ownf (ev_var rfl r_one) (ev_var rfl r_other) (by wtm_at "pre")) (by wtm_at "pre")) (ev_var rfl r_one) (by wtm_at "pre")))))) fun v z H7 e7 hz rz => ?_
      exact k v z H7 ((((((e1.trans e2).trans e3).trans e4).trans e5).trans e6).trans e7) (by refine Eq.trans hz ?_; show (decide (jn x_one x_other = jn x_other x_one) && (decide (mt x_one (jn x_one x_other) = x_one) && decide (jn x_one (mt x_one x_other) = x_one))) = true; rw [jn_comm x_other, mt_jn _ _ w_one.2, jn_mt _ _ w_one.2]; simp) rz
end T17

namespace T17
open PySem PySem.Spec PyProof.Rows L2 GB GE
local macro_rules | `(tactic| wtm_at "pre") => `(tactic| first | with_reducible exact True.intro | ((try dsimp only); first | with_reducible exact True.intro | with_reducible assumption | omega | (exact Or.inl ⟨by omega, by omega⟩) | (exact Or.inr ⟨by omega, by omega⟩) | exact ⟨by omega, by omega⟩ | exact ⟨by omega, by omega, by omega⟩ | (simp_all; done) | (simp_all; omega)))
local macro_rules | `(tactic| wtm_at "len") => `(tactic| first | exact len1 (by decide) | exact len2 (by decide) | exact len2 (by simp))
local macro_rules | `(tactic| wtm_at "fin") => `(tactic| first | rfl | (simp [see, finer, isInt, rng_len, Prod.ext_iff]; done) | (simp [see, finer, isInt, rng_len, Prod.ext_iff]; omega) | (simp only [see, finer]; split <;> first | rfl | omega) | (dsimp only; rw [List.filter_eq_self.2 (fun _ _ => rfl)]; refine List.map_congr_left fun y _ => ?_; simp [see]; done) | (simp [see, finer, isInt, rng_len, Prod.ext_iff] <;> omega))
local macro_rules | `(tactic| wtm_at "nev") => `(tactic| first | (simp_all [Eq1]; done) | (simp_all [Eq1, isInt]; done) | (simp [Eq1, isInt] at *; omega))
local macro_rules | `(tactic| wtm_at "inv0") => `(tactic| first | trivial | (intros; omega))
local macro_rules | `(tactic| wtm_at "inv") => `(tactic| first | trivial | (intros; omega))

abbrev s__law_right : Stmt := top 32
def N__law_right : List Str := ["dice", "made", "turn", "one", "other", "two", "three", "great", "number", "told", "due", "cap", "pair"]
theorem sc__law_right : FnScope N__law_right ["dice"] (defScope s__law_right) := ⟨rfl, rfl, rfl, by decide +kernel, rfl, by decide +kernel, by decide +kernel⟩
abbrev sp__law_right (N : En) : Sp := FnF (fun M => (Cons (RD M) Nil)) (fun M => RB) (fun (x_dice, _) => True) (fun (x_dice, _) => true)
theorem ok__law_right {N : En} (T : Txt N) (F : FunP N "_law_right" s__law_right) (D__law_roll : Dn N 1 "_law_roll" (sp__law_roll N)) (D_Clerk : Dc N 4 "Clerk" (sp_Clerk N)) (D_Clerk_is_finer : Dm N 2 "Clerk" "is_finer" (sp_Clerk_is_finer N)) (D__law_is_finer : Dn N 4 "_law_is_finer" (sp__law_is_finer N)) (D__law_bounds_right : Dn N 9 "_law_bounds_right" (sp__law_bounds_right N)) (D_Clerk___eq__ : Dm N 1 "Clerk" "__eq__" (sp_Clerk___eq__ N)) (D_Clerk___or__ : Dm N 7 "Clerk" "__or__" (sp_Clerk___or__ N)) (D_Clerk___and__ : Dm N 7 "Clerk" "__and__" (sp_Clerk___and__ N)) (D_Clerk_count : Dm N 3 "Clerk" "count" (sp_Clerk_count N)) (D__law_see : Dn N 3 "_law_see" (sp__law_see N)) (D_coarser : Dn N 2 "coarser" (sp_coarser N)) (D_Clerk_cap : Dp N 1 "Clerk" "cap" (sp_Clerk_cap N)) (D_Clerk_modulus : Dp N 1 "Clerk" "modulus" (sp_Clerk_modulus N)) : Dn N 10 "_law_right" (sp__law_right N) := by
  refine dn_mk F sc__law_right (fun _ _ _ _ _ _ us hl => match us, hl with | [_], _ => rfl) (fun vs H Q E h => by obtain ⟨_, _, _, ⟨_, _, rfl, _, rfl⟩, _⟩ := h; rfl) ?_
  rintro cdv A outer s H vs Q E hr ⟨M, ⟨x_dice, ⟨⟩⟩, d0, ⟨v_dice, _, rfl, r_dice, rfl⟩, hp, k⟩
  replace r_dice : (RD M) x_dice v_dice H := r_dice
  try dsimp only at hp
  refine ⟨_, (pss_cons (ps_setLc (i := 1) (own := [("turn", 2)]) (g := gName 2) rfl sc__law_right.nd rfl rfl (sw_true rfl rfl rfl (by decide +kernel)) (pi_range1 (by rfl) T.n_range (pa_cons pe_int pa_nil)) (blkOk_by (own := [("turn", 2)]) (N := N__law_right) (sc := defScope s__law_right) (by decide +kernel)) (fun _ _ _ _ _ => (pg_name (i := 2) sc__law_right.nd rfl (by first | exact Or.inl rfl | exact Or.inr rfl))) (fun _ _ _ _ _ => pts_nil) (fun _ _ _ _ _ => (pe_c D_Clerk (hr.mono (by decide)) (by rfl) px0 (pa_cons (pe_d D__law_roll (hr.mono (by decide)) (by rfl) px0 (pa_cons (pv 0) (pa_cons pe_int pa_nil))) (pa_cons (pe_op op_add pe_int (pe_d D__law_roll (hr.mono (by decide)) (by rfl) px0 (pa_cons (pv 0) (pa_cons pe_int pa_nil)))) pa_nil)))))
    (pss_cons (ps_for (passes_of rfl) rfl (pi_list (pv 1)) (pg_name (i := 3) sc__law_right.nd rfl (by first | exact Or.inl rfl | exact Or.inr rfl))
      (pss_one (ps_for (passes_of rfl) rfl (pi_list (pv 1)) (pg_name (i := 4) sc__law_right.nd rfl (by first | exact Or.inl rfl | exact Or.inr rfl))
      (pss_cons (ps_if (PW.pt (pw_or (pt_cmpR op_ne (pe_m (pv 3) D_Clerk_is_finer (hr.mono (by decide)) (passes_call (takes_of rfl rfl rfl rfl) fun _ _ _ _ z => z) (pa_cons (pv 4) pa_nil)) (pe_d D__law_is_finer (hr.mono (by decide)) (by rfl) (passes_call (takes_of rfl rfl rfl rfl) fun _ _ _ _ z => z) (pa_cons (pv 3) (pa_cons (pv 4) pa_nil))) (nomark _)) (pw_or1 (pt_not (pt_val (pe_d D__law_bounds_right (hr.mono (by decide)) (by rfl) (passes_call (takes_of rfl rfl rfl rfl) fun _ _ _ _ z => z) (pa_cons (pv 3) (pa_cons (pv 4) pa_nil))))))))
      (pss_one (ps_ret pe_bl)) pss_nil)
    (pss_one (ps_if (pt_cmpR op_ne (pe_and (pe_m (pv 3) D_Clerk_is_finer (hr.mono (by decide)) (passes_call (takes_of rfl rfl rfl rfl) fun _ _ _ _ z => z) (pa_cons (pv 4) pa_nil)) (pe_one (pe_m (pv 4) D_Clerk_is_finer (hr.mono (by decide)) (passes_call (takes_of rfl rfl rfl rfl) fun _ _ _ _ z => z) (pa_cons (pv 3) pa_nil)))) (pe_cmpR (op_eqO D_Clerk___eq__ (hr.mono (by decide)) (passes_call (takes_of rfl rfl rfl rfl) fun _ _ _ _ z => z)) (pv 3) (pv 4) (nomark _)) (nomark _))
      (pss_one (ps_ret pe_bl)) pss_nil))))))
    (pss_cons (ps_asg (pv 1) (pg_lst rfl (pgs_cons (pg_name (i := 3) sc__law_right.nd rfl (by first | exact Or.inl rfl | exact Or.inr rfl)) (pgs_cons (pg_name (i := 5) sc__law_right.nd rfl (by first | exact Or.inl rfl | exact Or.inr rfl)) (pgs_cons (pg_name (i := 6) sc__law_right.nd rfl (by first | exact Or.inl rfl | exact Or.inr rfl)) pgs_nil)))))
    (pss_cons (ps_if (PW.pt (pw_or (pt_cmpR (op_neO D_Clerk___eq__ T.ne_Clerk (hr.mono (by decide)) (passes_call (takes_of rfl rfl rfl rfl) fun _ _ _ _ z => z)) (pe_op (op_bin D_Clerk___or__ T.sf_Clerk (hr.mono (by decide)) (passes_call (takes_of rfl rfl rfl rfl) fun _ _ _ _ z => z)) (pe_op (op_bin D_Clerk___or__ T.sf_Clerk (hr.mono (by decide)) (passes_call (takes_of rfl rfl rfl rfl) fun _ _ _ _ z => z)) (pv 3) (pv 5)) (pv 6)) (pe_op (op_bin D_Clerk___or__ T.sf_Clerk (hr.mono (by decide)) (passes_call (takes_of rfl rfl rfl rfl) fun _ _ _ _ z => z)) (pv 3) (pe_op (op_bin D_Clerk___or__ T.sf_Clerk (hr.mono (by decide)) (passes_call (takes_of rfl rfl rfl rfl) fun _ _ _ _ z => z)) (pv 5) (pv 6))) (nomark _)) (pw_or1 (pt_cmpR (op_neO D_Clerk___eq__ T.ne_Clerk (hr.mono (by decide)) (passes_call (takes_of rfl rfl rfl rfl) fun _ _ _ _ z => z)) (pe_op (op_bin D_Clerk___and__ T.sf_Clerk (hr.mono (by decide)) (passes_call (takes_of rfl rfl rfl rfl) fun _ _ _ _ z => z)) (pe_op (op_bin D_Clerk___and__ T.sf_Clerk (hr.mono (by decide)) (passes_call (takes_of rfl rfl rfl rfl) fun _ _ _ _ z => z)) (pv 3) (pv 5)) (pv 6)) (pe_op (op_bin D_Clerk___and__ T.sf_Clerk (hr.mono (by decide)) (passes_call (takes_of rfl rfl rfl rfl) fun _ _ _ _ z => z)) (pv 3) (pe_op (op_bin D_Clerk___and__ T.sf_Clerk (hr.mono (by decide)) (passes_call (takes_of rfl rfl rfl rfl) fun _ _ _ _ z => z)) (pv 5) (pv 6))) (nomark _)))))
      (pss_one (ps_ret pe_bl)) pss_nil)
    (pss_cons (ps_set (i := 7) sc__law_right.nd rfl (by first | exact Or.inl rfl | exact Or.inr rfl) (pe_op (op_bin D_Clerk___or__ T.sf_Clerk (hr.mono (by decide)) (passes_call (takes_of rfl rfl rfl rfl) fun _ _ _ _ z => z)) (pv 3) (pv 5)))
    (pss_cons (ps_if (pt_cmpR (op_neD hr.units) (pe_lc (own := [("number", 8)]) (g := gName 8) rfl sc__law_right.nd (pi_range1 (by rfl) T.n_range (pa_cons pe_int pa_nil)) (blkOk_by (own := [("number", 8)]) (N := N__law_right) (sc := defScope s__law_right) (by decide +kernel)) (fun _ _ _ _ _ => (pg_name (i := 8) sc__law_right.nd rfl (by first | exact Or.inl rfl | exact Or.inr rfl))) (fun _ _ _ _ _ => (pts_one (pt_cmpR op_ne (pe_d D__law_see (hr.mono (by decide)) (by rfl) px0 (pa_cons (pv 3) (pa_cons (pe_mK N.K (by rfl) (pv 7) D_Clerk_count (hr.mono (by decide)) px0 (pa_cons (pv 8) pa_nil)) pa_nil))) (pe_d D__law_see (hr.mono (by decide)) (by rfl) px0 (pa_cons (pv 3) (pa_cons (pv 8) pa_nil))) (nomark _)))) (fun _ _ _ _ _ => (pv 8))) (pe_lst pa_nil) (nomark _))
      (pss_one (ps_ret pe_bl)) pss_nil)
    (pss_cons (ps_par rfl sc__law_right.nd (i := 9) (j := 10) rfl rfl (by decide) rfl rfl (pa_cons (pe_d D_coarser (hr.mono (by decide)) (by rfl) (passes_call (takes_of rfl rfl rfl rfl) fun _ _ _ _ z => z) (pa_cons (pv 3) pa_nil)) (pa_cons (pe_lst pa_nil) pa_nil)) rfl)
    (pss_cons (ps_for (passes_of rfl) rfl (pi_range1 (by rfl) T.n_range (pa_cons (pe_op op_add (pe_p (pv 3) D_Clerk_cap (hr.mono (by decide)) px0n) pe_int) pa_nil)) (pg_name (i := 11) sc__law_right.nd rfl (by first | exact Or.inl rfl | exact Or.inr rfl))
      (pss_one (ps_expr (pe_bm PySem.F.plainAttrs_list PySem.F.slot_list_extend PySem.F.type_list_extend mt_extend (pv 10) (pa_cons (pe_lc (own := [("number", 8)]) (g := gName 8) rfl sc__law_right.nd (pi_range2 (by rfl) T.n_range (pa_cons pe_int (pa_cons (pe_op op_add (pe_p (pv 3) D_Clerk_modulus (hr.mono (by decide)) px0n) pe_int) pa_nil))) (blkOk_by (own := [("number", 8)]) (N := N__law_right) (sc := defScope s__law_right) (by decide +kernel)) (fun _ _ _ _ _ => (pg_name (i := 8) sc__law_right.nd rfl (by first | exact Or.inl rfl | exact Or.inr rfl))) (fun _ _ _ _ _ => (pts_one (pt_cmpR op_eq (pe_op op_mod (pe_pK N.K (by rfl) (pv 3) D_Clerk_modulus (hr.mono (by decide)) px0n) (pv 8)) pe_int (nomark _)))) (fun _ _ _ _ _ => (pe_tup (pa_cons (pv 11) (pa_cons (pv 8) pa_nil))))) pa_nil)))))
    (pss_one (ps_ret (pe_and (pe_cmpR (op_eqD hr.units) (pv 9) (pe_callTy call_tuple_of (by rfl) T.n_tuple (by decide +kernel) (pa_cons (pv 10) pa_nil)) (nomark _)) (pe_one (pe_cmpR (op_eqD hr.units) (pe_lc (own := [("pair", 12)]) (g := gName 12) rfl sc__law_right.nd (pi_tup (pv 9)) (blkOk_by (own := [("pair", 12)]) (N := N__law_right) (sc := defScope s__law_right) (by decide +kernel)) (fun _ _ _ _ _ => (pg_name (i := 12) sc__law_right.nd rfl (by first | exact Or.inl rfl | exact Or.inr rfl))) (fun _ _ _ _ _ => (pts_one (pt_not (pt_val (pe_mK N.K (by rfl) (pv 3) D_Clerk_is_finer (hr.mono (by decide)) px0 (pa_cons (pe_c D_Clerk (hr.mono (by decide)) (by rfl) px0 (pa_cons (pe_ix (ix_tupK N.K (by rfl)) (pv 12) pe_int (fun _ _ => rfl)) (pa_cons (pe_ix (ix_tupK N.K (by rfl)) (pv 12) pe_int (fun _ _ => rfl)) pa_nil))) pa_nil)))))) (fun _ _ _ _ _ => (pv 12))) (pe_lst pa_nil) (nomark _)))))))))))))), ?_⟩
  refine q_set d0 (ev_lcR1 (fun v => (wipe _ [2]).set 2 (some v)) ((ea_cons1 ev_int ea_nil).imp rg1) (by wtm_at "pre") (fun _ _ _ _ _ q => q) (fun _ => rfl) (fun H' q1 y1 _ _ => et_yes) (fun H' q1 y1 _ _ _ => (ev_dS (ea_cons (ev_d1 (ea_cons1 (ev_var rfl (up r_dice q1)) (ea_cons1 ev_int ea_nil)) (by wtm_at "pre")) (ea_cons (ev_op o_add ev_int (ev_d1 (ea_cons1 (ev_var rfl (up r_dice q1)) (ea_cons1 ev_int ea_nil)) (by wtm_at "pre")) (fun _ _ _ _ => trivial)) ea_nil)) (by
    rintro ⟨a, b, _⟩ ⟨h1, ⟨_, rfl, y, h2, rfl⟩, _⟩
    replace h1 : 0 ≤ a ∧ a < 7 := h1
    replace h2 : 0 ≤ y ∧ y < 12 := h2
    show (0 ≤ a ∧ a ≤ 12) ∧ 1 ≤ 1 + y ∧ 1 + y ≤ 12
    omega)))) fun v_made x_made H1 e1 h_made r_made => ?_
  have d1 := e1.dice; replace r_dice := up r_dice e1
  obtain ⟨hlen3, hmade⟩ := comp_all (P := fun c : Int × Int => (0 ≤ c.1 ∧ 1 ≤ c.2) ∧ c.1 ≤ 6 ∧ c.2 ≤ 12) (by
    rintro _ _ ⟨⟨a, b, _⟩, ⟨h1, ⟨_, rfl, y, h2, rfl⟩, _⟩, rfl⟩
    replace h1 : 0 ≤ a ∧ a < 7 := h1
    replace h2 : 0 ≤ y ∧ y < 12 := h2
    show (0 ≤ a ∧ 1 ≤ 1 + y) ∧ a ≤ 6 ∧ 1 + y ≤ 12
    omega) h_made
  refine q_forL d1 (ev_var rfl r_made) (fun Hb i σ' H' => ∃ (o_turn : Option V) (o_one : Option V) (o_other : Option V) (o_two : Option V) (o_three : Option V) (o_great : Option V) (o_number : Option V) (o_told : Option V) (o_due : Option V) (o_cap : Option V) (o_pair : Option V), σ' = [some v_dice, some v_made, o_turn, o_one, o_other, o_two, o_three, o_great, o_number, o_told, o_due, o_cap, o_pair] ∧ Xt M Hb H' ∧ (True)) (fun Hb e0' => ⟨_, _, _, _, _, _, _, _, _, _, _, rfl, .refl e0'.dice, by wtm_at "inv0"⟩) (fun _ _ _ _ hI => by obtain ⟨o_turn, o_one, o_other, o_two, o_three, o_great, o_number, o_told, o_due, o_cap, o_pair, rfl, e0', hI⟩ := hI; exact e0') (fun Hb eb i v_one x_one σ' H2 hx r_one hI => ?_) (fun Hb eb σ' H2 hI => ?_)
  · obtain ⟨o_turn, o_one, o_other, o_two, o_three, o_great, o_number, o_told, o_due, o_cap, o_pair, rfl, e2', hI⟩ := hI
    have e2 := eb.trans e2'
    have d2 := e2.dice; replace r_dice := up r_dice e2; replace r_made := up r_made e2
    have b_one := hmade x_one (List.mem_of_getElem? hx)
    refine l_forL d2 (ev_var rfl r_made) (fun Hb i σ' H' => ∃ (o_turn : Option V) (o_other : Option V) (o_two : Option V) (o_three : Option V) (o_great : Option V) (o_number : Option V) (o_told : Option V) (o_due : Option V) (o_cap : Option V) (o_pair : Option V), σ' = [some v_dice, some v_made, o_turn, some v_one, o_other, o_two, o_three, o_great, o_number, o_told, o_due, o_cap, o_pair] ∧ Xt M Hb H' ∧ (True)) (fun Hb e0' => ⟨_, _, _, _, _, _, _, _, _, _, rfl, .refl e0'.dice, by wtm_at "inv0"⟩) (fun _ _ _ _ hI => by obtain ⟨o_turn, o_other, o_two, o_three, o_great, o_number, o_told, o_due, o_cap, o_pair, rfl, e0', hI⟩ := hI; exact e0') (fun Hb eb i v_other x_other σ' H3 hx r_other hI => ?_) (fun Hb eb σ' H3 hI => ?_)
    · obtain ⟨o_turn, o_other, o_two, o_three, o_great, o_number, o_told, o_due, o_cap, o_pair, rfl, e3', hI⟩ := hI
      have e3 := eb.trans e3'
      have d3 := e3.dice; replace r_dice := up r_dice e3; replace r_made := up r_made e3; replace r_one := up r_one e3
      have b_other := hmade x_other (List.mem_of_getElem? hx)
      refine q_ifS0 d3 (et_or (et_test (ev_opt o_neB (ev_mef lkm_Clerk_is_finer (ev_var rfl r_one) (ea_cons1 (ev_var rfl r_other) ea_nil) (by wtm_at "pre")) (ev_df (ea_cons1 (ev_var rfl r_one) (ea_cons1 (ev_var rfl r_other) ea_nil)) (by wtm_at "pre")))) (fun _ => (et_not (et_val (ev_df (ea_cons1 (ev_var rfl r_one) (ea_cons1 (ev_var rfl r_other) ea_nil)) (by wtm_at "pre")))))) (fun H4 e4 hb => ?_) (fun H4 e4 hb => ?_)
      · exact absurd hb (by simp [Eq1])
      · simp [Eq1] at hb
        have d4 := e4.dice; replace r_dice := up r_dice e4; replace r_made := up r_made e4; replace r_one := up r_one e4; replace r_other := up r_other e4
        refine q_if0 d4 (et_test (ev_opt o_neB (ev_and (ev_mef lkm_Clerk_is_finer (ev_var rfl r_one) (ea_cons1 (ev_var rfl r_other) ea_nil) (by wtm_at "pre")) (fun _ => (ev_mef lkm_Clerk_is_finer (ev_var rfl r_other) (ea_cons1 (ev_var rfl r_one) ea_nil) (by wtm_at "pre")))) (ev_op1 o_eqOf (ev_var rfl r_one) (ev_var rfl r_other) (by wtm_at "pre")))) (fun H5 e5 hb => ?_) (fun H5 e5 hb => ?_)
        · exact absurd hb (by simp [Eq1, fin_anti (a := x_one) (b := x_other) (by omega) (by omega)])
        · simp [Eq1] at hb
          have d5 := e5.dice; replace r_dice := up r_dice e5; replace r_made := up r_made e5; replace r_one := up r_one e5; replace r_other := up r_other e5
          exact ⟨_, _, _, _, _, _, _, _, _, _, rfl, ((e3'.trans e4).trans e5), by wtm_at "inv"⟩
    · obtain ⟨o_turn, o_other, o_two, o_three, o_great, o_number, o_told, o_due, o_cap, o_pair, rfl, e3', hI⟩ := hI
      have e3 := eb.trans e3'
      have d3 := e3.dice; replace r_dice := up r_dice e3; replace r_made := up r_made e3; replace r_one := up r_one e3
      exact ⟨_, _, _, _, _, _, _, _, _, _, _, rfl, (e2'.trans e3), by wtm_at "inv"⟩
  · obtain ⟨o_turn, o_one, o_other, o_two, o_three, o_great, o_number, o_told, o_due, o_cap, o_pair, rfl, e2', hI⟩ := hI
    have e2 := eb.trans e2'
    have d2 := e2.dice; replace r_dice := up r_dice e2; replace r_made := up r_made e2
    refine q_unL3 d2 (ev_var rfl r_made) (by rintro _ rfl; exact hlen3) fun v_one v_two v_three x_one x_two x_three H3 e3 hxs r_one r_two r_three => ?_
    have d3 := e3.dice; replace r_dice := up r_dice e3; replace r_made := up r_made e3
    have b_one := hmade x_one (by rw [← (show [x_one, x_two, x_three] = x_made from hxs)]; simp)
    have b_two := hmade x_two (by rw [← (show [x_one, x_two, x_three] = x_made from hxs)]; simp)
    have b_three := hmade x_three (by rw [← (show [x_one, x_two, x_three] = x_made from hxs)]; simp)
    have j12 := jn_lt (a := x_one) (b := x_two) (by omega) (by omega) (by omega) (by omega)
    have j23 := jn_lt (a := x_two) (b := x_three) (by omega) (by omega) (by omega) (by omega)
    have m12 := mt_lt (a := x_one) (b := x_two) (by omega) (by omega)
    have m23 := mt_lt (a := x_two) (b := x_three) (by omega) (by omega)
    refine q_ifS0 d3 (et_or (et_test (ev_op1 o_neOf (ev_op1 o_ownf (ev_op1 o_ownf (ev_var rfl r_one) (ev_var rfl r_two) (by wtm_at "pre")) (ev_var rfl r_three) (by wtm_at "pre")) (ev_op1 o_ownf (ev_var rfl r_one) (ev_op1 o_ownf (ev_var rfl r_two) (ev_var rfl r_three) (by wtm_at "pre")) (by wtm_at "pre")) (by wtm_at "pre"))) (fun _ => (et_test (ev_op1 o_neOf (ev_op1 o_ownf (ev_op1 o_ownf (ev_var rfl r_one) (ev_var rfl r_two) (by wtm_at "pre")) (ev_var rfl r_three) (by wtm_at "pre")) (ev_op1 o_ownf (ev_var rfl r_one) (ev_op1 o_ownf (ev_var rfl r_two) (ev_var rfl r_three) (by wtm_at "pre")) (by wtm_at "pre")) (by wtm_at "pre"))))) (fun H4 e4 hb => ?_) (fun H4 e4 hb => ?_)
    · exact absurd hb (by simp [Eq1, jn_assoc, mt_assoc])
    · simp [Eq1] at hb
      have d4 := e4.dice; replace r_dice := up r_dice e4; replace r_made := up r_made e4; replace r_one := up r_one e4; replace r_two := up r_two e4; replace r_three := up r_three e4
      refine q_set d4 (ev_op1 o_ownf (ev_var rfl r_one) (ev_var rfl r_two) (by wtm_at "pre")) fun v_great x_great H5 e5 h_great r_great => ?_
      replace h_great : x_great = _ := h_great; try dsimp only at h_great
      have d5 := e5.dice; replace r_dice := up r_dice e5; replace r_made := up r_made e5; replace r_one := up r_one e5; replace r_two := up r_two e5; replace r_three := up r_three e5
      have w_great := clerk_ok r_great
      refine q_ifS0 d5 (et_test (ev_opt o_neD ((ev_lcR1 (fun v => (wipe _ [8]).set 8 (some v)) ((ea_cons1 ev_int ea_nil).imp rg1) (by wtm_at "pre") (fun _ _ _ _ _ q => q) (fun _ => rfl) (fun H' q1 y1 _ _ => (et_test (ev_opt o_ne (ev_df (ea_cons1 (ev_var rfl (up r_one q1)) (ea_cons1 (ev_mef lkm_Clerk_count (ev_var rfl (up r_great q1)) (ea_cons1 (ev_var (R := RI) rfl rfl) ea_nil) (by wtm_at "pre")) ea_nil)) (by wtm_at "pre")) (ev_df (ea_cons1 (ev_var rfl (up r_one q1)) (ea_cons1 (ev_var (R := RI) rfl rfl) ea_nil)) (by wtm_at "pre"))))) (fun H' q1 y1 _ _ _ => (ev_var (R := RI) rfl rfl))).imp fun _ c => c.det) (ev_lst ea_nilA (by wtm_at "len")))) (fun H6 e6 hb => ?_) (fun H6 e6 hb => ?_)
      · exact absurd hb (by have e : ∀ y, see x_one (see x_great y) = see x_one y := fun y => see_see (by omega) w_great (by rw [h_great]; exact fin_jn1 (by omega) (by omega)) y; simp [Eq1, e])
      · simp [Eq1] at hb
        have d6 := e6.dice; replace r_dice := up r_dice e6; replace r_made := up r_made e6; replace r_one := up r_one e6; replace r_two := up r_two e6; replace r_three := up r_three e6; replace r_great := up r_great e6
        have hw : 0 ≤ x_one.1 ∧ 0 < x_one.2 := by omega
        refine (ev_df (S := fun M => Cons (R_Clerk N M) Nil) (pre := fun (x_clerk, _) => x_clerk.1 < 100 ∧ x_clerk.2 < 100) (F := fun (x_clerk, _) => crs x_clerk) (ea_cons1 (ev_var rfl r_one) ea_nil) (by show x_one.1 < 100 ∧ x_one.2 < 100; omega) : Ev M (tD (sp_coarser N) E (tCons (tVar 3) tNil)) _ H6 (RT M (All (RT M (Cons RI (Cons RI Nil))))) (Eq1 (crs x_one))) H6 (.refl d6) _ fun v_told x_told H7 e7 h_told r_told => ?_
        refine ⟨by rw [sizeLine_eq]; decide, fun p hp7 => ⟨_, _, rfl, ?_⟩⟩
        dsimp only
        have d7 := e7.dice
        have e8 : Xt M H7 (upd H7 p (.lst [])) := .new d7 hp7
        have acc0 : Acc M (RT M (Cons RI (Cons RI Nil))) H7 p (Eq1 ([] : List (Int × Int × Unit))) (upd H7 p (.lst [])) := Acc.start d7 hp7 rfl
        have f_one := up (up r_one e7) e8
        have hcl : ∀ i : Int, 0 ≤ i → i ≤ x_one.1 + 1 → ((rng 0 i).flatMap fun x => (divs x_one.2).map fun d => (x, d, ())).length ≤ 100 * 100 := by
          intro i h1 h2
          have hd : (divs x_one.2).length ≤ 100 := by
            unfold divs
            refine Nat.le_trans (List.length_filter_le _ _) ?_
            rw [rng_len]; omega
          rw [List.length_flatMap]
          have : ((rng 0 i).map fun x => ((divs x_one.2).map fun d => (x, d, ())).length) = List.replicate i.toNat (divs x_one.2).length := by
            unfold rng; simp [List.map_const', Function.comp_def]
          rw [this]; simp
          exact Nat.mul_le_mul (show i.toNat ≤ 100 by omega) hd
        refine q_for1 e8.dice ((ea_cons1 (ev_opt o_add (ev_prf (ev_var rfl f_one) trivial) ev_int) ea_nil).imp rg1) (by wtm_at "pre") (fun i σ' H' => ∃ (o_turn : Option V) (o_other : Option V) (o_number : Option V) (o_cap : Option V) (o_pair : Option V), σ' = [some v_dice, some v_made, o_turn, some v_one, o_other, some v_two, some v_three, some v_great, o_number, some v_told, some (.ref p), o_cap, o_pair] ∧ Acc M (RT M (Cons RI (Cons RI Nil))) H7 p (Eq1 ((rng 0 i).flatMap fun x => (divs x_one.2).map fun d => (x, d, ()))) H') (fun H' e0' => ⟨_, _, _, _, _, rfl, acc0.xt e0'⟩) (fun x_cap σ' H8 hi0 hi1 hI => ?_) (fun σ' H8 hI => ?_)
        · obtain ⟨o_turn, o_other, o_number, o_cap, o_pair, rfl, acc⟩ := hI
          replace hi1 : x_cap < x_one.1 + 1 := hi1
          have hsplit : ((rng 0 (x_cap + 1)).flatMap fun x => (divs x_one.2).map fun d => (x, d, ())) = ((rng 0 x_cap).flatMap fun x => (divs x_one.2).map fun d => (x, d, ())) ++ (divs x_one.2).map fun d => (x_cap, d, ()) := by
            have : rng 0 (x_cap + 1) = rng 0 x_cap ++ [x_cap] := by
              unfold rng
              rw [show (x_cap + 1 - 0).toNat = (x_cap - 0).toNat + 1 by omega, List.range_succ]
              simp; omega
            rw [this, List.flatMap_append]; simp
          refine acc.extend (xs := (divs x_one.2).map fun d => (x_cap, d, ())) (fun _ _ q => ⟨_, rfl, q⟩) ?_ ?_ fun H9 acc2 => ?_
          · have := hcl (x_cap + 1) (by omega) (by omega)
            rw [hsplit, List.length_append] at this
            omega
          · have g_one := up r_one e7
            refine (((ev_lcR2 (R' := RT M (Cons RI (Cons RI Nil))) (B := fun y z => z = (x_cap, y, ())) (fun v => (wipe _ [8]).set 8 (some v)) ((ea_cons1 ev_int (ea_cons1 (ev_opt o_add (ev_prf (ev_var rfl g_one) trivial) ev_int) ea_nil)).imp rg2) (by wtm_at "pre") (fun _ _ _ _ _ q => q) (fun _ => rfl)
              (fun H' q1 y1 h1 h2 => (et_test (ev_opt o_eq (ev_op1 o_mod (ev_prf (ev_var rfl (up g_one q1)) trivial) (ev_var (R := RI) rfl rfl) (by show 0 < y1; omega)) ev_int)))
              (fun H' q1 y1 _ _ _ => ev_tup (ea_cons1 (ev_var (R := RI) (x := x_cap) rfl rfl) (ea_cons1 (ev_var (R := RI) rfl rfl) ea_nil)) (by wtm_at "len"))).imp fun _ c => c.det))
          · exact ⟨_, _, _, _, _, rfl, by rw [hsplit]; exact acc2⟩
        · obtain ⟨o_turn, o_other, o_number, o_cap, o_pair, rfl, acc⟩ := hI
          have r_due := acc.done
          have e8 := acc.ext
          have d8 := e8.dice
          replace r_told := up r_told e8
          replace r_one := up (up r_one e7) e8
          cases (show x_told = crs x_one from h_told)
          have hcl2 : (crs x_one).length < 1000000 := by have := hcl (x_one.1 + 1) (by omega) (by omega); unfold crs; omega
          have hall : ∀ q ∈ crs x_one, (0 ≤ q.1 ∧ q.1 ≤ x_one.1) ∧ (1 ≤ q.2.1 ∧ q.2.1 ≤ x_one.2) ∧ x_one.2 % q.2.1 = 0 := by
            intro q hq
            unfold crs divs at hq
            obtain ⟨x, hx, hy⟩ := List.mem_flatMap.mp hq
            obtain ⟨d, hd, rfl⟩ := List.mem_map.mp hy
            obtain ⟨h3, h4⟩ := List.mem_filter.mp hd
            have h5 := mem_rng.mp hx
            have h6 := mem_rng.mp h3
            simp at h4
            show (0 ≤ x ∧ x ≤ x_one.1) ∧ (1 ≤ d ∧ d ≤ x_one.2) ∧ x_one.2 % d = 0
            refine ⟨by omega, by omega, h4⟩
          refine q_ret d8 (ev_and (ev_opt o_eqD (ev_var rfl r_told) (ev_cbf c_tupL (ea_cons1 (ev_var rfl r_due) ea_nil))) (fun _ => (ev_opt o_eqD ((ev_lcT (fun v => (wipe _ [12]).set 12 (some v)) (ev_var rfl r_told) hcl2 (fun _ _ _ _ _ q => q) (fun _ => rfl) (fun H' q1 v1 y1 hy s1 => (et_not (et_val (ev_mef lkm_Clerk_is_finer (ev_var rfl (up r_one q1)) (ea_cons1 (ev_Clerk (ea_cons1 (ev_op1 o_ixC0 (ev_var rfl s1) ev_int rfl) (ea_cons1 (ev_op1 o_ixC1 (ev_var rfl s1) ev_int rfl) ea_nil)) (by have := hall _ hy; omega)) ea_nil) (by wtm_at "pre"))))) (fun H' q1 v1 y1 _ s1 _ => (ev_var rfl s1))).imp fun _ c => c.det) (ev_lst ea_nilA (by wtm_at "len"))))) fun v z H9 e9 hz rz => ?_
          exact k v z H9 (((((((e1.trans e2).trans e3).trans e4).trans e5).trans e6).trans e7).trans (e8.trans e9)) (by
            refine Eq.trans hz ?_
            have e1 : ∀ q ∈ crs x_one, finer x_one (mkc q.1 q.2.1) = true := by
              intro q hq
              have := hall q hq
              unfold finer mkc
              simp
              omega
            refine Bool.and_eq_true_iff.mpr ⟨decide_eq_true rfl, decide_eq_true ?_⟩
            show List.map _ (List.filter _ (crs x_one)) = []
            rw [List.filter_eq_nil_iff.mpr fun q hq => by show ¬ (!finer x_one (mkc q.1 q.2.1)) = true; rw [e1 q hq]; decide]
            rfl) rz
end T17

namespace T17
open PySem PySem.Spec PyProof.Rows L2 GB GE
local macro_rules | `(tactic| wtm_at "pre") => `(tactic| first | with_reducible exact True.intro | ((try dsimp only); first | with_reducible exact True.intro | with_reducible assumption | omega | (exact Or.inl ⟨by omega, by omega⟩) | (exact Or.inr ⟨by omega, by omega⟩) | exact ⟨by omega, by omega⟩ | exact ⟨by omega, by omega, by omega⟩ | decide +kernel | (simp_all; done) | (simp_all; omega)))
local macro_rules | `(tactic| wtm_at "len") => `(tactic| first | exact len1 (by decide) | exact len2 (by decide) | exact len2 (by simp))
local macro_rules | `(tactic| wtm_at "fin") => `(tactic| first | rfl | (simp [see, finer, isInt, rng_len, Prod.ext_iff]; done) | (simp [see, finer, isInt, rng_len, Prod.ext_iff]; omega) | (simp only [see, finer]; split <;> first | rfl | omega) | (dsimp only; rw [List.filter_eq_self.2 (fun _ _ => rfl)]; refine List.map_congr_left fun y _ => ?_; simp [see]; done) | (simp [see, finer, isInt, rng_len, Prod.ext_iff] <;> omega))
local macro_rules | `(tactic| wtm_at "nev") => `(tactic| first | (simp_all [Eq1]; done) | (simp_all [Eq1, isInt]; done) | (simp [Eq1, isInt] at *; omega))
local macro_rules | `(tactic| wtm_at "inv0") => `(tactic| first | trivial | (intros; omega))
local macro_rules | `(tactic| wtm_at "inv") => `(tactic| first | trivial | (intros; omega))

abbrev s_law : Stmt := top 33
def N_law : List Str := ["script", "at", "dice", "turn", "great", "told"]
theorem sc_law : FnScope N_law ["script"] (defScope s_law) := ⟨rfl, rfl, rfl, by decide +kernel, rfl, by decide +kernel, by decide +kernel⟩
theorem ok_law {N : En} {fd : FuncData} (T : Txt N) (F : FunD N.K "law" "law" (defArgs s_law) (defBody s_law) (defScope s_law) [] [] (N.ga "law") fd) (D__law_dice : Dn N 1 "_law_dice" (sp__law_dice N)) (D__law_right : Dn N 10 "_law_right" (sp__law_right N)) (D_Clerk : Dc N 4 "Clerk" (sp_Clerk N)) (D_Clerk___or__ : Dm N 7 "Clerk" "__or__" (sp_Clerk___or__ N)) (D_Clerk_cap : Dp N 1 "Clerk" "cap" (sp_Clerk_cap N)) (D_Clerk_modulus : Dp N 1 "Clerk" "modulus" (sp_Clerk_modulus N)) (D_Clerk_is_finer : Dm N 2 "Clerk" "is_finer" (sp_Clerk_is_finer N)) (D_Clerk___len__ : Dm N 1 "Clerk" "__len__" (sp_Clerk___len__ N)) (D_coarser : Dn N 2 "coarser" (sp_coarser N)) : FnOk N.P N.w N.K N.mg N.base (L2.CX N.P N.w) 11 (N.ga "law") fd ["script"] (sp_law N.K) := by
  refine law_mk F sc_law (fun vs H Q E h => by obtain ⟨_, _, rfl, _⟩ := h; rfl) ?_
  rintro cdv A outer s H vs Q E hr ⟨v_script, x_script, rfl, r_script, k0⟩
  have d0 : DiceM none H := trivial
  refine ⟨_, (pss_cons (ps_for (passes_of rfl) rfl (pi_range1 (by rfl) T.n_range (pa_cons (pe_callB (call_max2 rfl) (by rfl) T.n_max (by decide +kernel) (pa_cons pe_int (pa_cons (pe_callB (call_min2 rfl) (by rfl) T.n_min (by decide +kernel) (pa_cons pe_int (pa_cons (pe_callB call_len_seq (by rfl) T.n_len (by decide +kernel) (pa_cons (pv 0) pa_nil)) pa_nil))) pa_nil))) pa_nil)) (pg_name (i := 1) sc_law.nd rfl (by first | exact Or.inl rfl | exact Or.inr rfl))
      (pss_cons (ps_set (i := 2) sc_law.nd rfl (by first | exact Or.inl rfl | exact Or.inr rfl) (pe_d D__law_dice (hr.mono (by decide)) (by rfl) (passes_call (takes_of rfl rfl rfl rfl) fun _ _ _ _ z => z) (pa_cons (pv 0) (pa_cons (pv 1) pa_nil))))
    (pss_one (ps_for (passes_of rfl) rfl (pi_range1 (by rfl) T.n_range (pa_cons pe_int pa_nil)) (pg_name (i := 3) sc_law.nd rfl (by first | exact Or.inl rfl | exact Or.inr rfl))
      (pss_one (ps_if (pt_not (pt_val (pe_d D__law_right (hr.mono (by decide)) (by rfl) (passes_call (takes_of rfl rfl rfl rfl) fun _ _ _ _ z => z) (pa_cons (pv 2) pa_nil))))
      (pss_one (ps_ret pe_bl)) pss_nil))))))
    (pss_cons (ps_set (i := 4) sc_law.nd rfl (by first | exact Or.inl rfl | exact Or.inr rfl) (pe_op (op_bin D_Clerk___or__ T.sf_Clerk (hr.mono (by decide)) (passes_call (takes_of rfl rfl rfl rfl) fun _ _ _ _ z => z)) (pe_op (op_bin D_Clerk___or__ T.sf_Clerk (hr.mono (by decide)) (passes_call (takes_of rfl rfl rfl rfl) fun _ _ _ _ z => z)) (pe_c D_Clerk (hr.mono (by decide)) (by rfl) (passes_call (takes_of rfl rfl rfl rfl) fun _ _ _ _ z => z) (pa_cons pe_int (pa_cons pe_int pa_nil))) (pe_c D_Clerk (hr.mono (by decide)) (by rfl) (passes_call (takes_of rfl rfl rfl rfl) fun _ _ _ _ z => z) (pa_cons pe_int (pa_cons pe_int pa_nil)))) (pe_c D_Clerk (hr.mono (by decide)) (by rfl) (passes_call (takes_of rfl rfl rfl rfl) fun _ _ _ _ z => z) (pa_cons pe_int (pa_cons pe_int pa_nil)))))
    (pss_cons (ps_set (i := 5) sc_law.nd rfl (by first | exact Or.inl rfl | exact Or.inr rfl) (pe_lst (pa_cons (pe_p (pv 4) D_Clerk_cap (hr.mono (by decide)) px0n) (pa_cons (pe_p (pv 4) D_Clerk_modulus (hr.mono (by decide)) px0n) (pa_cons (pe_m (pv 4) D_Clerk_is_finer (hr.mono (by decide)) (passes_call (takes_of rfl rfl rfl rfl) fun _ _ _ _ z => z) (pa_cons (pe_c D_Clerk (hr.mono (by decide)) (by rfl) (passes_call (takes_of rfl rfl rfl rfl) fun _ _ _ _ z => z) (pa_cons pe_int (pa_cons pe_int pa_nil))) pa_nil)) (pa_cons (pe_m (pe_c D_Clerk (hr.mono (by decide)) (by rfl) (passes_call (takes_of rfl rfl rfl rfl) fun _ _ _ _ z => z) (pa_cons pe_int (pa_cons pe_int pa_nil))) D_Clerk_is_finer (hr.mono (by decide)) (passes_call (takes_of rfl rfl rfl rfl) fun _ _ _ _ z => z) (pa_cons (pv 4) pa_nil)) (pa_cons (pe_callB (call_lenO D_Clerk___len__ (hr.mono (by decide)) (passes_call (takes_of rfl rfl rfl rfl) fun _ _ _ _ z => z)) (by rfl) T.n_len (by decide +kernel) (pa_cons (pv 4) pa_nil)) pa_nil)))))))
    (pss_one (ps_ret (pe_and (pe_cmpR (op_eqD hr.units) (pv 5) (pe_lst (pa_cons pe_int (pa_cons pe_int (pa_cons pe_bl (pa_cons pe_bl (pa_cons pe_int pa_nil)))))) (nomark _)) (pe_one (pe_cmpR op_eq (pe_callB call_len_seq (by rfl) T.n_len (by decide +kernel) (pa_cons (pe_d D_coarser (hr.mono (by decide)) (by rfl) (passes_call (takes_of rfl rfl rfl rfl) fun _ _ _ _ z => z) (pa_cons (pe_c D_Clerk (hr.mono (by decide)) (by rfl) (passes_call (takes_of rfl rfl rfl rfl) fun _ _ _ _ z => z) (pa_cons pe_int (pa_cons pe_int pa_nil))) pa_nil)) pa_nil)) pe_int (nomark _))))))))), ?_⟩
  refine q_for1 (M := none) d0 ((ea_cons1 (ev_cbf c_max (ea_cons1 ev_int (ea_cons1 (ev_cbf c_min (ea_cons1 ev_int (ea_cons1 (ev_cbf c_lenQ (ea_cons1 (ev_var rfl r_script) ea_nil)) ea_nil))) ea_nil))) ea_nil).imp rg1) (by dsimp only; constructor <;> (repeat' split) <;> omega) (fun i σ' H' => ∃ (o_at : Option V) (o_dice : Option V) (o_turn : Option V) (o_great : Option V) (o_told : Option V), σ' = [some v_script, o_at, o_dice, o_turn, o_great, o_told] ∧ Xt none H H' ∧ (True)) (fun H' e0' => ⟨_, _, _, _, _, rfl, e0', trivial⟩) (fun x_at σ' H1 hi0 hi1 hI => ?_) (fun σ' H1 hI => ?_)
  · obtain ⟨o_at, o_dice, o_turn, o_great, o_told, rfl, e1, hI⟩ := hI
    replace r_script := up r_script e1
    replace hi1 : x_at < 9 := Int.lt_of_lt_of_le hi1 (by dsimp only; (repeat' split) <;> omega)
    refine ⟨_, rfl, _, rfl, v_script, x_script, x_at, rfl, r_script, ⟨hi0, by omega⟩, fun d H2 x y e2 hd hH2 => ?_⟩
    have d2 : DiceM (some d) H2 := ⟨x, y, 0, hH2⟩
    refine l_for1 (M := some d) d2 ((ea_cons1 ev_int ea_nil).imp rg1) (by wtm_at "pre") (fun i σ' H' => ∃ (o_turn : Option V) (o_great : Option V) (o_told : Option V), σ' = [some v_script, some (.int x_at), some (.ref d), o_turn, o_great, o_told] ∧ Xt (some d) H2 H' ∧ (True)) (fun H' e0' => ⟨_, _, _, rfl, e0', trivial⟩) (fun x_turn σ' H3 hi0 hi1 hI => ?_) (fun σ' H3 hI => ?_)
    · obtain ⟨o_turn, o_great, o_told, rfl, e3, hI⟩ := hI
      have d3 := e3.dice
      refine q_if0 d3 (et_not (et_val (ev_df (ea_cons1 (ev_var (R := RD (some d)) (x := d) rfl ⟨rfl, rfl⟩) ea_nil) (by wtm_at "pre")))) (fun H4 e4 hb => absurd hb (by simp [Eq1])) (fun H4 e4 hb => ?_)
      exact ⟨_, _, _, rfl, e3.trans e4, trivial⟩
    · obtain ⟨o_turn, o_great, o_told, rfl, e3, hI⟩ := hI
      exact ⟨_, _, _, _, _, rfl, xt_mix e1 hd e2 e3, trivial⟩
  · obtain ⟨o_at, o_dice, o_turn, o_great, o_told, rfl, e1, hI⟩ := hI
    have d1 := e1.dice; replace r_script := up r_script e1
    refine q_set d1 (ev_op1 o_ownf (ev_op1 o_ownf (ev_df (ea_cons1 ev_int (ea_cons1 ev_int ea_nil)) (by dsimp only; decide +kernel)) (ev_df (ea_cons1 ev_int (ea_cons1 ev_int ea_nil)) (by dsimp only; decide +kernel)) (by dsimp only; decide +kernel)) (ev_df (ea_cons1 ev_int (ea_cons1 ev_int ea_nil)) (by dsimp only; decide +kernel)) (by dsimp only; decide +kernel)) fun v_great x_great H2 e2 h_great r_great => ?_
    replace h_great : x_great = _ := h_great; try dsimp only at h_great
    have d2 := e2.dice; replace r_script := up r_script e2
    have g1 : x_great = (12, 924) := by rw [h_great]; decide +kernel
    clear h_great; subst g1
    refine q_set d2 (ev_lst (ea_cons1 (ev_prf (ev_var rfl r_great) trivial) (ea_cons1 (ev_prf (ev_var rfl r_great) trivial) (ea_cons1 (ev_mef lkm_Clerk_is_finer (ev_var rfl r_great) (ea_cons1 (ev_df (ea_cons1 ev_int (ea_cons1 ev_int ea_nil)) (by wtm_at "pre")) ea_nil) (by wtm_at "pre")) (ea_cons1 (ev_mef lkm_Clerk_is_finer (ev_df (ea_cons1 ev_int (ea_cons1 ev_int ea_nil)) (by wtm_at "pre")) (ea_cons1 (ev_var rfl r_great) ea_nil) (by wtm_at "pre")) (ea_cons1 (ev_lenO (ev_var rfl r_great) (by wtm_at "pre")) ea_nil))))) (by wtm_at "len")) fun v_told x_told H3 e3 h_told r_told => ?_
    replace h_told : x_told = _ := h_told; try dsimp only at h_told
    have d3 := e3.dice; replace r_script := up r_script e3; replace r_great := up r_great e3
    refine q_ret d3 (ev_and (ev_opt o_eqD (ev_var rfl r_told) (ev_lst (ea_cons1 ev_int (ea_cons1 ev_int (ea_cons1 ev_bl (ea_cons1 ev_bl (ea_cons1 ev_int ea_nil))))) (by wtm_at "len"))) (fun _ => (ev_opt o_eq (ev_cbf c_lenT (ea_cons1 (ev_df (ea_cons1 (ev_df (ea_cons1 ev_int (ea_cons1 ev_int ea_nil)) (by wtm_at "pre")) ea_nil) (by wtm_at "pre")) ea_nil)) ev_int))) fun v z H4 e4 hz rz => ?_
    cases (show v = V.bl z from rz)
    have ez : z = true := by
      refine Eq.trans hz ?_
      rw [h_told]
      decide +kernel
    subst ez
    exact k0 H4
end T17

namespace T17
open PySem PySem.Spec PyProof.Rows L2 GB GE
def fn : List He.DefD := [⟨("is_integer", none), "is_integer", "is_integer", defArgs s_is_integer, defBody s_is_integer, defScope s_is_integer, [], []⟩, ⟨("Numbers", some "__init__"), "__init__", "Numbers.__init__", defArgs s_Numbers___init__, defBody s_Numbers___init__, defScope s_Numbers___init__, [], []⟩, ⟨("checked", none), "checked", "checked", defArgs s_checked, defBody s_checked, defScope s_checked, [], []⟩, ⟨("common_divisor", none), "common_divisor", "common_divisor", defArgs s_common_divisor, defBody s_common_divisor, defScope s_common_divisor, [], []⟩, ⟨("Clerk", some "__init__"), "__init__", "Clerk.__init__", defArgs s_Clerk___init__, defBody s_Clerk___init__, defScope s_Clerk___init__, [.int 1], []⟩, ⟨("clerk_in", none), "clerk_in", "clerk_in", defArgs s_clerk_in, defBody s_clerk_in, defScope s_clerk_in, [], []⟩, ⟨("require_clerk", none), "require_clerk", "require_clerk", defArgs s_require_clerk, defBody s_require_clerk, defScope s_require_clerk, [], []⟩, ⟨("require_count", none), "require_count", "require_count", defArgs s_require_count, defBody s_require_count, defScope s_require_count, [], []⟩, ⟨("is_as_fine", none), "is_as_fine", "is_as_fine", defArgs s_is_as_fine, defBody s_is_as_fine, defScope s_is_as_fine, [], []⟩, ⟨("seen_count", none), "seen_count", "seen_count", defArgs s_seen_count, defBody s_seen_count, defScope s_seen_count, [], []⟩, ⟨("Clerk", some "count"), "count", "Clerk.count", defArgs s_Clerk_count, defBody s_Clerk_count, defScope s_Clerk_count, [], []⟩, ⟨("Clerk", some "is_finer"), "is_finer", "Clerk.is_finer", defArgs s_Clerk_is_finer, defBody s_Clerk_is_finer, defScope s_Clerk_is_finer, [], []⟩, ⟨("Clerk", some "__or__"), "__or__", "Clerk.__or__", defArgs s_Clerk___or__, defBody s_Clerk___or__, defScope s_Clerk___or__, [], []⟩, ⟨("Clerk", some "__and__"), "__and__", "Clerk.__and__", defArgs s_Clerk___and__, defBody s_Clerk___and__, defScope s_Clerk___and__, [], []⟩, ⟨("Clerk", some "__len__"), "__len__", "Clerk.__len__", defArgs s_Clerk___len__, defBody s_Clerk___len__, defScope s_Clerk___len__, [], []⟩, ⟨("Clerk", some "__eq__"), "__eq__", "Clerk.__eq__", defArgs s_Clerk___eq__, defBody s_Clerk___eq__, defScope s_Clerk___eq__, [], []⟩, ⟨("_law_dice", none), "_law_dice", "_law_dice", defArgs s__law_dice, defBody s__law_dice, defScope s__law_dice, [], []⟩, ⟨("_law_roll", none), "_law_roll", "_law_roll", defArgs s__law_roll, defBody s__law_roll, defScope s__law_roll, [], []⟩, ⟨("_law_seen", none), "_law_seen", "_law_seen", defArgs s__law_seen, defBody s__law_seen, defScope s__law_seen, [], []⟩, ⟨("_law_see", none), "_law_see", "_law_see", defArgs s__law_see, defBody s__law_see, defScope s__law_see, [], []⟩, ⟨("_law_is_finer", none), "_law_is_finer", "_law_is_finer", defArgs s__law_is_finer, defBody s__law_is_finer, defScope s__law_is_finer, [], []⟩, ⟨("coarser", none), "coarser", "coarser", defArgs s_coarser, defBody s_coarser, defScope s_coarser, [], []⟩, ⟨("_law_bounds_right", none), "_law_bounds_right", "_law_bounds_right", defArgs s__law_bounds_right, defBody s__law_bounds_right, defScope s__law_bounds_right, [], []⟩, ⟨("_law_right", none), "_law_right", "_law_right", defArgs s__law_right, defBody s__law_right, defScope s__law_right, [], []⟩, ⟨("law", none), "law", "law", defArgs s_law, defBody s_law, defScope s_law, [], []⟩]
def fa : List He.Fa := [.free "int", .free "bool", .free "tuple", .free "list", .free "len", .free "range", .free "max", .free "min", .free "abs", .free "sorted", .free "isinstance", .int "MAX_CAP" 12, .int "MAX_MODULUS" 12, .glo "Clerk", .glo "Numbers", .cls "Clerk", .noat "Clerk" "own_cap", .noat "Clerk" "own_modulus", .mkr "Clerk", .mkr "Numbers", .glo "is_integer", .glo "checked", .glo "common_divisor", .meth "Clerk" "__init__", .glo "clerk_in", .glo "require_clerk", .glo "require_count", .glo "is_as_fine", .glo "seen_count", .meth "Clerk" "count", .meth "Clerk" "is_finer", .meth "Clerk" "__or__", .meth "Clerk" "__and__", .meth "Clerk" "__len__", .meth "Clerk" "__eq__", .glo "_law_dice", .glo "_law_roll", .glo "_law_seen", .glo "_law_see", .glo "_law_is_finer", .glo "coarser", .glo "_law_bounds_right", .glo "_law_right", .glo "law"]
def pr : List PrD := [⟨"Clerk", "cap", "Clerk.cap", s_Clerk_cap⟩, ⟨"Clerk", "modulus", "Clerk.modulus", s_Clerk_modulus⟩]
def exB (i : Nat) (K : GE.Frag) : Bool := match i with
  | 0 => isiB K (He.ga K "Clerk")
  | 1 => necB K (He.ga K "Clerk")
  | 2 => PySem.W.selfFirst K (He.ga K "Clerk")
  | 3 => kitB K (.type "int") (.type "bool") false
  | 4 => kitB K (.type "int") (.ref (He.ga K "Numbers")) false
  | 5 => kitB K (.ref (He.ga K "Numbers")) (.ref (He.ga K "Numbers")) true
  | 6 => kitB K (.ref (He.ga K "Clerk")) (.ref (He.ga K "Clerk")) true
  | 7 => sclsB K (He.ga K "Numbers")
  | 8 => isiB K (He.ga K "Numbers")
  | 9 => slotB K (He.ga K "Numbers") "own_cap" 0
  | 10 => slotB K (He.ga K "Numbers") "own_modulus" 1
  | _ => true
def ex (K : GE.Frag) : Bool := (List.range 11).all fun i => exB i K
def loose : List PySem.Str := ["_wall", "ClerkError", "InvalidOrder", "InvalidClerk", "InvalidNumber", "MAX_SORTS", "is_integer", "is_order", "require_order", "MAX_CAP", "MAX_MODULUS", "Numbers", "checked", "common_divisor", "Clerk", "clerk_in", "require_clerk", "require_count", "is_as_fine", "seen_count", "seen", "coarser", "_law_dice", "_law_roll", "_law_seen", "_law_see", "_law_is_finer", "_law_bounds_right", "_law_right"]
abbrev R : PySem.W.OpenRow := PySem.W.OpenLaw.row PySem.Challenge.rw_clerkblurs_k17_finer_clerks
abbrev hk : PySem.W.Hook := hookP 5 fa fn pr ex
def ob (s : PySem.W.SharedT) : AlP := obP 5 fa fn pr ex (HandSHeadRun.getT s)
theorem ob_eq (s : PySem.W.SharedT) : ob s = hk.obs s.abs := obP_eq (HandSHeadRun.getT_eq s)
theorem run (w : World) : HandSHeadRun.RunEq R (PySem.W.view R.prog [33]) hk ob 20000 loose w := by
  intro os
  kernel_rfl
theorem txt {N : En} {h : Heap} (X : N.K.In h) (G : h.Ns mainGlobals N.mg) (c : SaysP fa fn pr ex N.K) : Txt N := by
  have e : ∀ i, i < 11 → exB i N.K = true := fun i hi => List.all_eq_true.mp c.more i (List.mem_range.mpr hi)
  exact {
    n_int := He.free_ok X G (c.d.fact 0 (f := .free "int") rfl)
    n_bool := He.free_ok X G (c.d.fact 1 (f := .free "bool") rfl)
    n_tuple := He.free_ok X G (c.d.fact 2 (f := .free "tuple") rfl)
    n_list := He.free_ok X G (c.d.fact 3 (f := .free "list") rfl)
    n_len := He.free_ok X G (c.d.fact 4 (f := .free "len") rfl)
    n_range := He.free_ok X G (c.d.fact 5 (f := .free "range") rfl)
    n_max := He.free_ok X G (c.d.fact 6 (f := .free "max") rfl)
    n_min := He.free_ok X G (c.d.fact 7 (f := .free "min") rfl)
    n_abs := He.free_ok X G (c.d.fact 8 (f := .free "abs") rfl)
    n_sorted := He.free_ok X G (c.d.fact 9 (f := .free "sorted") rfl)
    n_isinstance := He.free_ok X G (c.d.fact 10 (f := .free "isinstance") rfl)
    i_MAX_CAP := He.int_ok X G (c.d.fact 11 (f := .int "MAX_CAP" 12) rfl)
    i_MAX_MODULUS := He.int_ok X G (c.d.fact 12 (f := .int "MAX_MODULUS" 12) rfl)
    g_Clerk := He.glo_ok X G (c.d.fact 13 (f := .glo "Clerk") rfl)
    g_Numbers := He.glo_ok X G (c.d.fact 14 (f := .glo "Numbers") rfl)
    c_Clerk := He.cls_ok (c.d.fact 15 (f := .cls "Clerk") rfl)
    is_Clerk := isiB_ok (e 0 (by decide))
    ne_Clerk := necB_ok (e 1 (by decide))
    sf_Clerk := id (e 2 (by decide))
    na_Clerk_own_cap := He.noat_ok (c.d.fact 16 (f := .noat "Clerk" "own_cap") rfl)
    na_Clerk_own_modulus := He.noat_ok (c.d.fact 17 (f := .noat "Clerk" "own_modulus") rfl)
    mk_Clerk := He.mkr_ok (c.d.fact 18 (f := .mkr "Clerk") rfl)
    mk_Numbers := He.mkr_ok (c.d.fact 19 (f := .mkr "Numbers") rfl)
    kt_int_bool := kitB_ok (e 3 (by decide))
    kt_int_Numbers := kitB_ok (e 4 (by decide))
    kt_Numbers_Numbers := kitB_ok (e 5 (by decide))
    kt_Clerk_Clerk := kitB_ok (e 6 (by decide))
    sc_Numbers := sclsB_ok (e 7 (by decide))
    is_Numbers := isiB_ok (e 8 (by decide))
    sl_cap := slotB_ok (e 9 (by decide))
    sl_modulus := slotB_ok (e 10 (by decide))
  }
theorem facts {P : Program} {w : World} {K : GE.Frag} {h : Heap} {mg : Str → Option Value} {f : Addr} (X : K.In h) (G : h.Ns mainGlobals mg) (hfa : mg ("law" : Str) = some (.ref f)) (c : SaysP fa fn pr ex K) :
    ∃ fd : FuncData, (∀ (s : Shared) (v : Value), BindsTo s fd ⟨[v], []⟩ [("script", v)]) ∧ ∀ base : Heap, K.In base → base.Ns mainGlobals mg → FnOk P w K mg base (L2.CX P w) 11 f fd ["script"] (sp_law K) := by
  obtain ⟨fd, F0⟩ := c.d.def_ 24 rfl
  have e := hfa.symm.trans (He.glo_ok X G (c.d.fact 43 (f := .glo "law") rfl))
  cases e
  have b := FunD.bindsA (ps := ["script"]) F0 fun _ _ _ _ _ _ us hl => match us, hl with | [_], _ => rfl
  refine ⟨fd, fun s v => b s [v] rfl, fun base _ _ => ?_⟩
  let N : En := ⟨P, w, K, mg, base⟩
  have T : Txt N := txt X G c
  have ok_is_integer_ := ok_is_integer T (⟨c.d.def_ 0 rfl, He.glo_ok X G (c.d.fact 20 (f := .glo "is_integer") rfl)⟩) 
  have ok_Numbers_ := ok_Numbers T (c.d.def_ 1 rfl) 
  have ok_checked_ := ok_checked T (⟨c.d.def_ 2 rfl, He.glo_ok X G (c.d.fact 21 (f := .glo "checked") rfl)⟩) ok_is_integer_ ok_Numbers_
  have ok_common_divisor_ := ok_common_divisor T (⟨c.d.def_ 3 rfl, He.glo_ok X G (c.d.fact 22 (f := .glo "common_divisor") rfl)⟩) 
  have ok_Clerk_cap_ := ok_Clerk_cap T (c.prop (N := N) 0 rfl (He.cls_ok (c.d.fact 15 (f := .cls "Clerk") rfl))) 
  have ok_Clerk_modulus_ := ok_Clerk_modulus T (c.prop (N := N) 1 rfl (He.cls_ok (c.d.fact 15 (f := .cls "Clerk") rfl))) 
  have ok_Clerk_ := ok_Clerk T (⟨c.d.def_ 4 rfl, He.meth_ok (c.d.fact 23 (f := .meth "Clerk" "__init__") rfl), He.cls_ok (c.d.fact 15 (f := .cls "Clerk") rfl)⟩) ok_checked_
  have ok_ClerkN_ := ok_ClerkN T (⟨c.d.def_ 4 rfl, He.meth_ok (c.d.fact 23 (f := .meth "Clerk" "__init__") rfl), He.cls_ok (c.d.fact 15 (f := .cls "Clerk") rfl)⟩) ok_checked_
  have ok_clerk_in_ := ok_clerk_in T (⟨c.d.def_ 5 rfl, He.glo_ok X G (c.d.fact 24 (f := .glo "clerk_in") rfl)⟩) ok_Numbers_ ok_ClerkN_
  have ok_require_clerk_ := ok_require_clerk T (⟨c.d.def_ 6 rfl, He.glo_ok X G (c.d.fact 25 (f := .glo "require_clerk") rfl)⟩) 
  have ok_require_count_ := ok_require_count T (⟨c.d.def_ 7 rfl, He.glo_ok X G (c.d.fact 26 (f := .glo "require_count") rfl)⟩) ok_is_integer_
  have ok_is_as_fine_ := ok_is_as_fine T (⟨c.d.def_ 8 rfl, He.glo_ok X G (c.d.fact 27 (f := .glo "is_as_fine") rfl)⟩) 
  have ok_seen_count_ := ok_seen_count T (⟨c.d.def_ 9 rfl, He.glo_ok X G (c.d.fact 28 (f := .glo "seen_count") rfl)⟩) 
  have ok_Clerk_count_ := ok_Clerk_count T (⟨c.d.def_ 10 rfl, He.meth_ok (c.d.fact 29 (f := .meth "Clerk" "count") rfl), He.cls_ok (c.d.fact 15 (f := .cls "Clerk") rfl)⟩) ok_require_count_ ok_seen_count_
  have ok_Clerk_is_finer_ := ok_Clerk_is_finer T (⟨c.d.def_ 11 rfl, He.meth_ok (c.d.fact 30 (f := .meth "Clerk" "is_finer") rfl), He.cls_ok (c.d.fact 15 (f := .cls "Clerk") rfl)⟩) ok_require_clerk_ ok_is_as_fine_
  have ok_Clerk___or___ := ok_Clerk___or__ T (⟨c.d.def_ 12 rfl, He.meth_ok (c.d.fact 31 (f := .meth "Clerk" "__or__") rfl), He.cls_ok (c.d.fact 15 (f := .cls "Clerk") rfl)⟩) ok_require_clerk_ ok_common_divisor_ ok_clerk_in_
  have ok_Clerk___and___ := ok_Clerk___and__ T (⟨c.d.def_ 13 rfl, He.meth_ok (c.d.fact 32 (f := .meth "Clerk" "__and__") rfl), He.cls_ok (c.d.fact 15 (f := .cls "Clerk") rfl)⟩) ok_require_clerk_ ok_common_divisor_ ok_clerk_in_
  have ok_Clerk___len___ := ok_Clerk___len__ T (⟨c.d.def_ 14 rfl, He.meth_ok (c.d.fact 33 (f := .meth "Clerk" "__len__") rfl), He.cls_ok (c.d.fact 15 (f := .cls "Clerk") rfl)⟩) 
  have ok_Clerk___eq___ := ok_Clerk___eq__ T (⟨c.d.def_ 15 rfl, He.meth_ok (c.d.fact 34 (f := .meth "Clerk" "__eq__") rfl), He.cls_ok (c.d.fact 15 (f := .cls "Clerk") rfl)⟩) 
  have ok__law_dice_ := ok__law_dice T (⟨c.d.def_ 16 rfl, He.glo_ok X G (c.d.fact 35 (f := .glo "_law_dice") rfl)⟩) 
  have ok__law_roll_ := ok__law_roll T (⟨c.d.def_ 17 rfl, He.glo_ok X G (c.d.fact 36 (f := .glo "_law_roll") rfl)⟩) 
  have ok__law_seen_ := ok__law_seen T (⟨c.d.def_ 18 rfl, He.glo_ok X G (c.d.fact 37 (f := .glo "_law_seen") rfl)⟩) 
  have ok__law_see_ := ok__law_see T (⟨c.d.def_ 19 rfl, He.glo_ok X G (c.d.fact 38 (f := .glo "_law_see") rfl)⟩) ok_Clerk_cap_ ok_Clerk_modulus_ ok__law_seen_
  have ok__law_is_finer_ := ok__law_is_finer T (⟨c.d.def_ 20 rfl, He.glo_ok X G (c.d.fact 39 (f := .glo "_law_is_finer") rfl)⟩) ok_Clerk_cap_ ok_Clerk_modulus_ ok__law_see_
  have ok_coarser_ := ok_coarser T (⟨c.d.def_ 21 rfl, He.glo_ok X G (c.d.fact 40 (f := .glo "coarser") rfl)⟩) ok_require_clerk_
  have ok__law_bounds_right_ := ok__law_bounds_right T (⟨c.d.def_ 22 rfl, He.glo_ok X G (c.d.fact 41 (f := .glo "_law_bounds_right") rfl)⟩) ok_Clerk_cap_ ok_Clerk_modulus_ ok_Clerk___or___ ok_Clerk___and___ ok_Clerk_is_finer_ ok_Clerk___eq___
  have ok__law_right_ := ok__law_right T (⟨c.d.def_ 23 rfl, He.glo_ok X G (c.d.fact 42 (f := .glo "_law_right") rfl)⟩) ok__law_roll_ ok_Clerk_ ok_Clerk_is_finer_ ok__law_is_finer_ ok__law_bounds_right_ ok_Clerk___eq___ ok_Clerk___or___ ok_Clerk___and___ ok_Clerk_count_ ok__law_see_ ok_coarser_ ok_Clerk_cap_ ok_Clerk_modulus_
  have ok_law_ := ok_law T (F0) ok__law_dice_ ok__law_right_ ok_Clerk_ ok_Clerk___or___ ok_Clerk_cap_ ok_Clerk_modulus_ ok_Clerk_is_finer_ ok_Clerk___len___ ok_coarser_
  exact ok_law_
end T17
open PySem PySem.W PySem.Calls PyProof.Rows
theorem PySem.Challenge.cw_clerkblurs_k17_finer_clerks_holds : PySem.Challenge.rw_clerkblurs_k17_finer_clerks.Holds := by
  w_on; o_law
  refine HandSHeadRun.head_any (r := OpenLaw.row PySem.Challenge.rw_clerkblurs_k17_finer_clerks) (q := view (OpenLaw.row PySem.Challenge.rw_clerkblurs_k17_finer_clerks).prog [33]) (H := T17.hk) (ob := T17.ob) (M := 20000) (loose := T17.loose) (d := HandSHeadRun.topDef (OpenLaw.row PySem.Challenge.rw_clerkblurs_k17_finer_clerks).prog 33) (kwd := []) T17.ob_eq
    (by kernel_rfl) (fun s => by kernel_rfl) T17.run (by kernel_rfl) (by kernel_rfl) (by kernel_rfl) (by rfl) (by first | assumption | decide +kernel) (by decide +kernel) ⟨rfl, rfl, rfl, rfl, rfl, by decide +kernel⟩ ?hw ?hc
  case hw => w_witness2
  case hc =>
    refine LamX.walk_ofTsE (l := PySem.Challenge.rw_clerkblurs_k17_finer_clerks) (n := 63) (k := 11) (x := "script") (CX := fun w => L2.CX (PySem.Challenge.rw_clerkblurs_k17_finer_clerks).prog w) rfl (by decide) (by kernel_rfl) ⟨rfl, by decide, by decide⟩ ?F (fun _ _ _ _ _ ⟨_, _, _, _, _, _, _, _, _, _, _, _, z⟩ => z.elim)
    intro w mg fa h Y G hmg0
    obtain ⟨K, KX, c⟩ := Y
    have hmg : mg ("law" : PySem.Str) = some (.ref fa) := by
      have e : (HandSHeadRun.topDef (OpenLaw.row PySem.Challenge.rw_clerkblurs_k17_finer_clerks).prog 33).name = ("law" : PySem.Str) := by kernel_rfl
      rw [← e]
      exact hmg0
    obtain ⟨fd, hb, hF⟩ := T17.facts (P := (PySem.Challenge.rw_clerkblurs_k17_finer_clerks).prog) (w := w) KX G hmg c
    refine ⟨K, KX, ?_⟩
    unfold LamX.LawAtS
    exact ⟨fd, [], GE.sp_law K, fun _ hp => absurd hp List.not_mem_nil, fun _ hp => absurd hp List.not_mem_nil, fun _ hp => absurd hp List.not_mem_nil, hb, fun H a ns _ _ _ hS => ⟨_, ns, rfl, GE.rsq_of hS, fun _ => rfl⟩, fun base h1 h2 _ => hF base h1 h2⟩

