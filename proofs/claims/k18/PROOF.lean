import PyProof.Rows.All
import Wide.All
import OpenK.AllK
import Wide.FinOn
import KE.KStateDown
import HandS.ForMost
import HandS.ForExc
import HandS.Evl
import HandS.Slots
import HandS.SlotsOwn
import HandS.Property
import HandS.Star
import HandS.Wide
import HandS.IsInst
import HandS.Defaults
import HandS.TupAny
import HandS.TupMul
import HandS.Conv
import HandS.HeadHook1
import HandS.HeadHook2
import HandS.HeadHook3
import HandS.HeadHook4
import HandS.Head0
import HandS.Head1
import HandS.Head2
import HandS.HeadWalk
import HandS.Zip
import PyProof.ListMulRoad
import PyProof.FactsAll.tuple_2
import HandS.Words
import PySem.Challenge.RW_clerkblurs_k18_whole_sums_seen_piece_by
set_option Elab.async false
set_option linter.all false
set_option maxRecDepth 100000
set_option maxHeartbeats 0
/-! GB: short judgements for defs, classes, methods, properties; the stepper; extensions of heaps. -/
namespace GB
open PySem PySem.Spec PyProof.Rows L2 Evl

abbrev Frag := PySem.W.Frag
/-- the fixed part: program, world, written part, the module's names, the base -/
structure En where
  P : Program
  w : World
  K : Frag
  mg : Str → Option Value
  base : Heap
abbrev En.ga (N : En) (x : Str) : Addr := He.ga N.K x
abbrev En.ma (N : En) (C m : Str) : Addr := He.ma N.K (He.ga N.K C) m
def Fr (N : En) (k : Nat) (f : Addr) (sp : Sp) : Prop := FnR N.P N.w N.K N.mg N.base (L2.CX N.P N.w) k f sp
/-- a def of the module -/
structure Dn (N : En) (k : Nat) (x : Str) (sp : Sp) : Prop where
  fn : Fr N k (N.ga x) sp
  g : N.mg x = some (.ref (N.ga x))
  kp : PySem.W.keepIn N.K (.ref (N.ga x)) = true
/-- a method -/
structure Dm (N : En) (k : Nat) (C m : Str) (sp : Sp) : Prop where
  fn : Fr N k (N.ma C m) sp
  m : Meth N.K (N.ga C) m (N.ma C m)
  c : Cls N.K (N.ga C)
/-- a property -/
structure Dp (N : En) (k : Nat) (C f : Str) (sp : Sp) : Prop where
  pr : ∃ g, PropOf N.K (N.ga C) f (N.ma C f) g ∧ Fr N k g sp
  c : Cls N.K (N.ga C)
/-- C(..) -/
structure Dc (N : En) (k : Nat) (C : Str) (sp : Sp) : Prop where
  mkr : ∃ spI, Mk N.K (N.ga C) (N.ma C "__init__") ∧ Fr N k (N.ma C "__init__") spI ∧ ∀ vs H Q E, sp vs H Q E → ∀ x dx, H x = Option.none → H dx = Option.none → dx ≠ x →
    spI (V.ref x :: vs) (upd (upd H dx (.own x)) x (.ins (N.ga C) dx [])) (fun v H2 => v = .non ∧ Q (.ref x) H2) E
  g : N.mg C = some (.ref (N.ga C))

/-- the context's fixed part -/
def En.of (X : Cx) : En := ⟨X.prog, X.w, X.K, X.mg, X.base⟩
section
variable {X : Cx} {k : Nat} {f C m x : Str} {sp : Sp} {E : XK} {e o : Expr} {es : List Expr} {ta : TE} {t : TA} {p pos apos : Pos}
/-- a call of a def: its promise at the arguments -/
def tD (sp : Sp) (E : XK) (t : TA) : TE := fun σ H Q => t σ H fun vs H1 => sp vs H1 Q E
theorem pe_d (D : Dn (En.of X) k x sp) (hr : Room k X.A) (hg : Gl X x) (hx : Passes (L2.CX X.prog X.w) X E) (ha : PA X (e :: es) t)
    (hdb : (x == ("__debug__" : Str)) = false := by decide) (he : starEach (e :: es) X.env = (false, eval e X.env) :: starEach es X.env := by rfl) (hpl : (backTo pos (starEach es X.env)).any (·.1) = false := by rfl) :
    PE X (.Call (.Name x p) (e :: es) [] pos) (tD sp E t) := by
  refine ⟨fun pins s σ H Q I h => ?_⟩
  refine wpAny_Call_Name_kw (ld_glob I hg D.g ?_ hdb)
  refine PySem.W.callWith_K (h₀ := X.base) I.ok.mod.kin D.kp (thn (ha.run pos pins s σ H _ I h) fun us s1 ⟨vs, H1, I1, r, q⟩ => ⟨I1.kIn, ?_⟩) he hpl
  exact wpAny_call (run_fnR D.fn hr hx I1 r q)
theorem pe_d0 (D : Dn (En.of X) k x sp) (hr : Room k X.A) (hg : Gl X x) (hx : Passes (L2.CX X.prog X.w) X E)
    (hdb : (x == ("__debug__" : Str)) = false := by decide) : PE X (.Call (.Name x p) [] [] pos) (tD sp E tNil) := by
  refine ⟨fun pins s σ H Q I h => ?_⟩
  refine wpAny_Call_Name_kw (ld_glob I hg D.g ?_ hdb)
  exact PySem.W.callWith_K0 I.kIn D.kp (wpAny_call (run_fnR (us := []) D.fn hr hx I .nil h))
theorem pe_c (D : Dc (En.of X) k C sp) (hr : Room (k + 1) X.A) (hg : Gl X C) (hx : Passes (L2.CX X.prog X.w) X E) (ha : PA X (e :: es) t)
    (hdb : (C == ("__debug__" : Str)) = false := by decide) (he : starEach (e :: es) X.env = (false, eval e X.env) :: starEach es X.env := by rfl) (hpl : (backTo pos (starEach es X.env)).any (·.1) = false := by rfl) :
    PE X (.Call (.Name C p) (e :: es) [] pos) (tD sp E t) := by
  obtain ⟨spI, M, F, imp⟩ := D.mkr
  refine ⟨fun pins s σ H Q I h => ?_⟩
  refine wpAny_Call_Name_kw (ld_glob I hg D.g ?_ hdb)
  refine PySem.W.callWith_K (h₀ := X.base) I.ok.mod.kin M.kp (thn (ha.run pos pins s σ H _ I h) fun us s1 ⟨vs, H1, I1, r, q⟩ => ⟨I1.kIn, ?_⟩) he hpl
  exact StX.run_makeR M F hr hx I1 r fun x dx h1 h2 h3 => imp _ _ _ _ q x dx h1 h2 h3
/-- o.m(e, ..) -/
def tMe (C : Addr) (m : Str) (sp : Sp) (E : XK) (ta : TE) (t : TA) : TE := fun σ H Q => ta σ H fun x H1 => ∃ a dx fs, x = .ref a ∧ H1 a = some (.ins C dx fs) ∧ fs.lookup m = Option.none ∧ t σ H1 fun vs H2 => sp (x :: vs) H2 Q E
theorem pe_m {pl : Sem Bool} (he : PE X o ta) (D : Dm (En.of X) k C m sp) (hr : Room k X.A) (hx : Passes (L2.CX X.prog X.w) X E) (ha : PA X (e :: es) t)
    (hst : starEach (e :: es) X.env = (false, eval e X.env) :: starEach es X.env := by rfl) (hpl : (backTo pos (starEach es X.env)).any (·.1) = false := by rfl)
    (ht : eval (.Call (.Attribute o m apos) (e :: es) [] pos) X.env = (do
      let ov ← eval o X.env
      standAt apos.atName
      let (f, first) ← holding [ov] (getMethod ov m pl)
      callWith pos f first (backTo pos (starEach (e :: es) X.env)) (backToKw pos (keywordEach [] X.env))) := by rfl) :
    PE X (.Call (.Attribute o m apos) (e :: es) [] pos) (tMe (He.ga X.K C) m sp E ta t) := by
  refine ⟨fun pins s σ H Q I h => ?_⟩
  refine PySem.W.methodCall_KW (pl := pl) (thn (he.run pins s σ H _ I h) fun u s1 ⟨x, H1, I1, rx, a, dx, fs, ex, ea, l, q⟩ => ?_) ht
  subst ex
  obtain rfl : u = Value.ref a := rx
  refine getmeth_ok I1 ea D.c D.m l ?_
  refine PySem.W.callWith_K (first := [.ref a]) (h₀ := X.base) I.ok.mod.kin D.m.kp (thn (ha.run pos pins s1 σ H1 _ I1 q) fun us s2 ⟨vs, H2, I2, r, q2⟩ => ⟨I2.kIn, ?_⟩) hst hpl
  exact wpAny_call (run_fnR (us := .ref a :: us) (vs := .ref a :: vs) D.fn hr hx I2 (.cons rfl r) q2)
theorem pe_m0 {pl : Sem Bool} (he : PE X o ta) (D : Dm (En.of X) k C m sp) (hr : Room k X.A) (hx : Passes (L2.CX X.prog X.w) X E)
    (ht : eval (.Call (.Attribute o m apos) [] [] pos) X.env = (do
      let ov ← eval o X.env
      standAt apos.atName
      let (f, first) ← holding [ov] (getMethod ov m pl)
      callWith pos f first (backTo pos (starEach [] X.env)) (backToKw pos (keywordEach [] X.env))) := by rfl) :
    PE X (.Call (.Attribute o m apos) [] [] pos) (tMe (He.ga X.K C) m sp E ta tNil) := by
  refine ⟨fun pins s σ H Q I h => ?_⟩
  refine PySem.W.methodCall_KW (pl := pl) (thn (he.run pins s σ H _ I h) fun u s1 ⟨x, H1, I1, rx, a, dx, fs, ex, ea, l, q⟩ => ?_) ht
  subst ex
  obtain rfl : u = Value.ref a := rx
  refine getmeth_ok I1 ea D.c D.m l ?_
  exact PySem.W.callWith_K0 (first := [.ref a]) I1.kIn D.m.kp (wpAny_call (run_fnR (us := [.ref a]) (vs := [.ref a]) D.fn hr hx I1 (.cons rfl .nil) q))
/-- f(e, ..), f an instance -/
def tCI (C : Addr) (sp : Sp) (E : XK) (tf : TE) (t : TA) : TE := fun σ H Q => tf σ H fun y H1 => ∃ a, y = V.ref a ∧ t σ H1 fun vs H2 => (∃ dx fs, H2 a = some (.ins C dx fs)) ∧ sp (V.ref a :: vs) H2 Q E
theorem pe_ci {fe : Expr} {tf : TE} (hf : PE X fe tf) (D : Dm (En.of X) k C "__call__" sp) (hfi : PySem.W.fnIn X.K (He.ma X.K (He.ga X.K C) "__call__") = true) (hr : Room k X.A) (hx : Passes (L2.CX X.prog X.w) X E) (ha : PA X (e :: es) t)
    (ht : eval (.Call fe (e :: es) [] pos) X.env = (do callWith pos (← eval fe X.env) [] (backTo pos (starEach (e :: es) X.env)) (backToKw pos (keywordEach [] X.env))) := by rfl)
    (he : starEach (e :: es) X.env = (false, eval e X.env) :: starEach es X.env := by rfl) (hpl : (backTo pos (starEach es X.env)).any (·.1) = false := by rfl) : PE X (.Call fe (e :: es) [] pos) (tCI (He.ga X.K C) sp E tf t) := by
  refine ⟨fun pins s σ H Q I h => ?_⟩
  refine Call_ (thn (hf.run pins s σ H _ I h) fun u s1 ⟨y, H1, I1, ry, a, ey, q⟩ => ?_) ht
  subst ey
  obtain rfl : u = Value.ref a := ry
  refine StX.callO_with (thn (ha.run pos pins s1 σ H1 _ I1 q) fun us s2 ⟨vs, H2, I2, r, hi, q2⟩ => ?_) he hpl
  obtain ⟨ox, od, J, hd⟩ := StX.insC_at I2 (.inr hi)
  exact ⟨⟨He.ga X.K C, ox, od, J, hd⟩, StX.run_callO (C := He.ga X.K C) ⟨D.m.at_, D.m.fn, hfi⟩ D.fn hr hx I2 (.inr hi) r q2⟩
/-- e.f, a property -/
def tPr (C : Addr) (sp : Sp) (E : XK) (ta : TE) : TE := fun σ H Q => ta σ H fun x H1 => ∃ a dx fs, x = .ref a ∧ H1 a = some (.ins C dx fs) ∧ sp [.ref a] H1 Q E
theorem pe_p (he : PE X e ta) (D : Dp (En.of X) k C f sp) (hr : Room (k + 1) X.A) (hx : Passes (L2.CX X.prog X.w) X.nox E) (hab : attributeBase e f X.env (eval e X.env) = eval e X.env := by rfl) : PE X (.Attribute e f pos) (tPr (He.ga X.K C) sp E ta) := by
  refine ⟨fun pins s σ H Q I h => ?_⟩
  refine attr_of hab (thn (he.run pins s σ H _ I h) fun u s1 ⟨x, H1, I1, rx, a, dx, fs, ex, ea, q⟩ => ?_)
  subst ex
  obtain rfl : u = Value.ref a := rx
  obtain ⟨g, pr, F⟩ := D.pr
  obtain ⟨mA, O, _⟩ := ins_get I1.hok ea
  obtain ⟨od, J, _⟩ := O.look
  obtain ⟨rest, hrec⟩ := pr.rec_
  have I2 := I1.tok (s1.toks + 1)
  have hc : (PySem.W.clsIn X.K (He.ga X.K C)).isSome = true := by
    obtain ⟨cd, hc, _⟩ := PySem.W.any_some D.c.hd
    have hc' : PySem.W.clsIn X.K (He.ga X.K C) = some cd := hc
    rw [hc']; rfl
  refine PySem.W.get_bind I1.kIn J (PySem.W.plainGet_of (D.c.get f)).1 (PySem.W.findObj_data hc pr.at_ pr.get pr.tak) (PySem.W.plainGet_of (D.c.get f)).2 (wpAny_call (PySem.W.prop_get (s := { s1 with toks := s1.toks + 1 }) I1.kIn hrec ?_))
  refine codeAny_mono (F X.A.in1 X.stack { s1 with toks := s1.toks + 1 } H1 [.ref a] [.ref a] Q E hr.in1 I2.env0.in1 (.cons rfl .nil) q) fun r s' hq => ?_
  cases r with
  | error er => exact False.elim (hx pins σ H1 { s1 with toks := s1.toks + 1 } er s' (I2.wish _) hq)
  | ok fl =>
    cases fl with
    | ret u =>
      obtain ⟨v, H', I3, rv, q3⟩ := I2.after hq
      exact wpAny_of_eq (PySem.W.handedOut_of (handed_of rv)) ⟨v, H', I3, rv, q3⟩
    | next => exact False.elim hq
    | brk => exact False.elim hq
    | cont => exact False.elim hq

/-! ### operators of one's own -/
/-- x op y: the def of x's class -/
def rOp (C : Addr) (sp : Sp) (E : XK) : R2 := fun x y H Q => ∃ a dx fs b dy gs, x = .ref a ∧ y = .ref b ∧ H a = some (.ins C dx fs) ∧ H b = some (.ins C dy gs) ∧ sp [x, y] H Q E
theorem op_bin {op : Operator} (D : Dm (En.of X) k C (PySem.dunder op.info.2) sp) (hc : PySem.W.selfFirst X.K (He.ga X.K C) = true) (hr : Room k X.A) (hx : Passes (L2.CX X.prog X.w) X E) : OpR X (binaryOp op) (rOp (He.ga X.K C) sp E) := by
  intro pins s σ H x y v u Q I rx ry h
  obtain ⟨a, dx, fs, b, dy, gs, rfl, rfl, ha, hb, q⟩ := h
  cases (show v = Value.ref a from rx)
  cases (show u = Value.ref b from ry)
  obtain ⟨mA, J, _⟩ := ins_get I.hok ha
  obtain ⟨mB, J', _⟩ := ins_get I.hok hb
  obtain ⟨od, J, _⟩ := J.look
  obtain ⟨od', J', _⟩ := J'.look
  obtain ⟨m, hF⟩ := I.fr
  refine PySem.W.binop_K hF I.ok.mod.kin J J'.type hc D.m.at_ D.m.fn ?_
  refine wpAny_mono (wpAny_call (run_fnR (us := [.ref a, .ref b]) (vs := [.ref a, .ref b]) D.fn hr hx I (.cons rfl (.cons rfl .nil)) q)) (fun w s' z => ?_) fun _ _ x => x
  obtain ⟨z', H', I', rz, qz⟩ := z
  exact SlX.cmpback rz ⟨z', H', I', rz, qz⟩
/-- x == y by an own __eq__; y any value whose type is told -/
def rEqO (K : Frag) (C : Addr) (sp : Sp) (E : XK) : R2 := fun x y H Q => ∃ a dx fs b dy gs, x = .ref a ∧ y = .ref b ∧ H a = some (.ins C dx fs) ∧ H b = some (.ins C dy gs) ∧ sp [x, y] H Q E
theorem op_eqO (D : Dm (En.of X) k C "__eq__" sp) (hr : Room k X.A) (hx : Passes (L2.CX X.prog X.w) X E) : OpR X (compareOp .Eq) (rEqO X.K (He.ga X.K C) sp E) := by
  intro pins s σ H x y v u Q I rx ry h
  obtain ⟨a, dx, fs, b, dy, gs, rfl, rfl, ha, hb, q⟩ := h
  cases (show v = Value.ref a from rx)
  cases (show u = Value.ref b from ry)
  obtain ⟨mA, J, _⟩ := ins_get I.hok ha
  obtain ⟨mB, J', _⟩ := ins_get I.hok hb
  obtain ⟨od, J, _⟩ := J.look
  obtain ⟨od', J', _⟩ := J'.look
  obtain ⟨m, hF⟩ := I.fr
  show wpAny _ _ (richCompare .Eq _ _) _ _ _
  refine PySem.W.cmp_K (op := .Eq) (tb := .ref (He.ga X.K C)) hr.units0 hF I.ok.mod.kin J J'.type (by simp [PySem.W.notFirst]) D.m.at_ D.m.fn ?_
  refine wpAny_mono (wpAny_call (run_fnR (us := [.ref a, .ref b]) (vs := [.ref a, .ref b]) D.fn hr hx I (.cons rfl (.cons rfl .nil)) q)) (fun w s' z => ?_) fun _ _ x => x
  obtain ⟨z', H', I', rz, qz⟩ := z
  exact SlX.cmpback rz ⟨z', H', I', rz, qz⟩
theorem op_pow9 : OpR X (binaryOp .Pow) (rI (fun i j => 0 ≤ j ∧ (Builtin.Int.intBits i : Int) * j ≤ 2 ^ 27) fun i j => .int (i ^ j.toNat)) := opI fun _ _ _ _ _ _ _ hc q => pow_int hc.1 hc.2 q
end
end GB

/-! GE: what an expression gives, as a set of Lean values under a representation; the heap only grows, but for the dice. -/
namespace GE
open PySem PySem.Spec PyProof.Rows L2 GB

abbrev Frag := PySem.W.Frag
/-- the dice, where there are some -/
def DiceM : Option Addr → Hp → Prop
  | none, _ => True
  | some d, H => ∃ a b c : Int, H d = some (.lst [.int a, .int b, .int c])
structure Xt (M : Option Addr) (H H' : Hp) : Prop where
  keep : ∀ a o, M ≠ some a → H a = some o → H' a = some o
  dice : DiceM M H'
theorem Xt.refl {M H} (d : DiceM M H) : Xt M H H := ⟨fun _ _ _ h => h, d⟩
theorem Xt.trans {M H H1 H2} (a : Xt M H H1) (b : Xt M H1 H2) : Xt M H H2 := ⟨fun x o n h => b.keep x o n (a.keep x o n h), b.dice⟩
theorem ne_dice {M : Option Addr} {H : Hp} {p : Addr} (d : DiceM M H) (hp : H p = none) : M ≠ some p := by
  rintro rfl
  obtain ⟨a, b, c, e⟩ := d
  rw [hp] at e; cases e
theorem Xt.new {M : Option Addr} {H : Hp} {p : Addr} {o : HO} (d : DiceM M H) (hp : H p = none) : Xt M H (upd H p o) := by
  have n := ne_dice d hp
  refine ⟨fun a u _ e => by rw [upd_ne (ne_of_none e hp)]; exact e, ?_⟩
  cases M with
  | none => trivial
  | some d' =>
    obtain ⟨a, b, c, e⟩ := d
    exact ⟨a, b, c, by rw [upd_ne (ne_of_none e hp)]; exact e⟩
theorem Xt.of_same {M : Option Addr} {H H' : Hp} (d : DiceM M H) (h : ∀ a o, H a = some o → H' a = some o) : Xt M H H' := by
  refine ⟨fun a o _ e => h a o e, ?_⟩
  cases M with
  | none => trivial
  | some d' => obtain ⟨a, b, c, e⟩ := d; exact ⟨a, b, c, h _ _ e⟩

/-! ### representations -/
abbrev Rp (α : Type) := α → V → Hp → Prop
class Mo (M : Option Addr) {α : Type} (R : Rp α) : Prop where
  up : ∀ {x v H H'}, Xt M H H' → R x v H → R x v H'
def RI : Rp Int := fun i v _ => v = .int i
def RB : Rp Bool := fun b v _ => v = .bl b
def RN : Rp Unit := fun _ v _ => v = .non
def RS : Rp Str := fun s v _ => v = .str s
/-- any value at all, itself -/
def RV : Rp V := fun x v _ => v = x
def ROpt {α} (R : Rp α) : Rp (Option α) := fun o v H => match o with
  | none => v = .non
  | some x => R x v H
/-- a tuple, a list: items by a representation of lists of values -/
abbrev Rs (α : Type) := α → List V → Hp → Prop
class Mos (M : Option Addr) {α : Type} (R : Rs α) : Prop where
  up : ∀ {x v H H'}, Xt M H H' → R x v H → R x v H'
def All {α} (R : Rp α) : Rs (List α) := fun l vs H => Paired (fun x v => R x v H) l vs
def Nil : Rs Unit := fun _ vs _ => vs = []
def Cons {α β} (R : Rp α) (S : Rs β) : Rs (α × β) := fun p vs H => ∃ v r, vs = v :: r ∧ R p.1 v H ∧ S p.2 r H
def RT (M : Option Addr) {α} (R : Rs α) : Rp α := fun x v H => ∃ a vs, v = .ref a ∧ M ≠ some a ∧ H a = some (.tup vs) ∧ R x vs H
def RL (M : Option Addr) {α} (R : Rs α) : Rp α := fun x v H => ∃ a vs, v = .ref a ∧ M ≠ some a ∧ H a = some (.lst vs) ∧ R x vs H
/-- an instance of the class at C with attributes as told -/
def RO (M : Option Addr) (C : Addr) {α} (F : α → List (Str × V) → Hp → Prop) : Rp α := fun x v H => ∃ a dx fs, v = .ref a ∧ M ≠ some a ∧ H a = some (.ins C dx fs) ∧ F x fs H
section
variable {M : Option Addr} {α β : Type}
instance : Mo M RI := ⟨fun _ h => h⟩
instance : Mo M RB := ⟨fun _ h => h⟩
instance : Mo M RN := ⟨fun _ h => h⟩
instance : Mo M RS := ⟨fun _ h => h⟩
instance : Mo M RV := ⟨fun _ h => h⟩
instance {R : Rp α} [Mo M R] : Mo M (ROpt R) := ⟨fun {o v H H'} e h => by
  cases o with
  | none => exact h
  | some x => exact Mo.up (M := M) (R := R) e h⟩
theorem paired_imp {γ δ : Type} {F G : γ → δ → Prop} (h : ∀ x y, F x y → G x y) : ∀ {l : List γ} {r : List δ}, Paired F l r → Paired G l r
  | _, _, .nil => .nil
  | _, _, .cons a b => .cons (h _ _ a) (paired_imp h b)
instance {R : Rp α} [Mo M R] : Mos M (All R) := ⟨fun e h => paired_imp (fun _ _ z => Mo.up (M := M) (R := R) e z) h⟩
instance : Mos M Nil := ⟨fun _ h => h⟩
instance {R : Rp α} {S : Rs β} [Mo M R] [Mos M S] : Mos M (Cons R S) := ⟨fun e ⟨v, r, h1, h2, h3⟩ => ⟨v, r, h1, Mo.up (M := M) (R := R) e h2, Mos.up (M := M) (R := S) e h3⟩⟩
instance {R : Rs α} [Mos M R] : Mo M (RT M R) := ⟨fun e ⟨a, vs, h1, h2, h3, h4⟩ => ⟨a, vs, h1, h2, e.keep _ _ h2 h3, Mos.up (M := M) (R := R) e h4⟩⟩
instance {R : Rs α} [Mos M R] : Mo M (RL M R) := ⟨fun e ⟨a, vs, h1, h2, h3, h4⟩ => ⟨a, vs, h1, h2, e.keep _ _ h2 h3, Mos.up (M := M) (R := R) e h4⟩⟩
theorem up {R : Rp α} [Mo M R] {x v H H'} (h : R x v H) (e : Xt M H H') : R x v H' := Mo.up (M := M) e h
end
/-- a tuple of ints -/
abbrev RTI (M : Option Addr) : Rp (List Int) := RT M (All RI)
abbrev RLI (M : Option Addr) : Rp (List Int) := RL M (All RI)

/-! ### what is given -/
abbrev St := L2.St
/-- te gives, under R, one of the values of S; the heap only grows -/
def Ev (M : Option Addr) (te : TE) (σ : St) (H : Hp) {α : Type} (R : Rp α) (S : α → Prop) : Prop :=
  ∀ H1, Xt M H H1 → ∀ Q : VK, (∀ v x H2, Xt M H1 H2 → S x → R x v H2 → Q v H2) → te σ H1 Q
def EvT (M : Option Addr) (t : TT) (σ : St) (H : Hp) (S : Bool → Prop) : Prop :=
  ∀ H1, Xt M H H1 → ∀ Q : Bool → Hp → Prop, (∀ b H2, Xt M H1 H2 → S b → Q b H2) → t σ H1 Q
def EvA (M : Option Addr) (t : TA) (σ : St) (H : Hp) {α : Type} (R : Rs α) (S : α → Prop) : Prop :=
  ∀ H1, Xt M H H1 → ∀ Q : List V → Hp → Prop, (∀ vs x H2, Xt M H1 H2 → S x → R x vs H2 → Q vs H2) → t σ H1 Q
/-- an operation on values -/
def Op2 (M : Option Addr) (r : R2) {α β γ : Type} (R : Rp α) (R' : Rp β) (R'' : Rp γ) (f : α → β → γ → Prop) (pre : α → β → Prop) : Prop :=
  ∀ x y v u H, DiceM M H → R x v H → R' y u H → pre x y → ∀ Q : VK, (∀ w z H2, Xt M H H2 → f x y z → R'' z w H2 → Q w H2) → r v u H Q
def Cl (M : Option Addr) (r : List V → Hp → VK → Prop) {α γ : Type} (R : Rs α) (R'' : Rp γ) (f : α → γ → Prop) (pre : α → Prop) : Prop :=
  ∀ x vs H, DiceM M H → R x vs H → pre x → ∀ Q : VK, (∀ w z H2, Xt M H H2 → f x z → R'' z w H2 → Q w H2) → r vs H Q
abbrev Eq1 {α : Type} (x : α) : α → Prop := fun y => y = x
section
variable {M : Option Addr} {σ : St} {H : Hp} {te ta tb tc : TE} {t u : TT} {α β γ : Type} {R : Rp α} {R' : Rp β} {R'' : Rp γ} {A : α → Prop} {B : β → Prop} {C : γ → Prop} {i : Nat}
theorem Ev.imp {A' : α → Prop} (h : Ev M te σ H R A) (k : ∀ x, A x → A' x) : Ev M te σ H R A' := fun H1 e Q q => h H1 e Q fun v x H2 e2 a r => q v x H2 e2 (k x a) r
theorem Ev.to {x y : α} (h : Ev M te σ H R (Eq1 x)) (k : x = y) : Ev M te σ H R (Eq1 y) := k ▸ h
theorem Ev.mono {H' : Hp} (h : Ev M te σ H R A) (e : Xt M H H') : Ev M te σ H' R A := fun H1 e1 Q q => h H1 (e.trans e1) Q q
theorem EvT.imp {A A' : Bool → Prop} (h : EvT M t σ H A) (k : ∀ x, A x → A' x) : EvT M t σ H A' := fun H1 e Q q => h H1 e Q fun x H2 e2 a => q x H2 e2 (k x a)
theorem ev_var [Mo M R] {v : V} {x : α} (h : σ[i]? = some (some v)) (r : R x v H) : Ev M (tVar i) σ H R (Eq1 x) := fun H1 e Q q => ⟨v, h, q v x H1 (.refl e.dice) rfl (Mo.up (M := M) e r)⟩
theorem ev_c {v : V} {x : α} (h : ∀ H, R x v H) : Ev M (tC v) σ H R (Eq1 x) := fun H1 e Q q => q v x H1 (.refl e.dice) rfl (h H1)
theorem ev_int {z : Int} : Ev M (tC (.int z)) σ H RI (Eq1 z) := ev_c fun _ => rfl
theorem ev_bl {z : Bool} : Ev M (tC (.bl z)) σ H RB (Eq1 z) := ev_c fun _ => rfl
theorem ev_non : Ev M (tC .non) σ H RN (Eq1 ()) := ev_c fun _ => rfl
theorem ev_str {z : Str} : Ev M (tC (.str z)) σ H RS (Eq1 z) := ev_c fun _ => rfl
/-- two operands -/
theorem ev_op [Mo M R] {r : R2} {f : α → β → γ → Prop} {pre : α → β → Prop} (ho : Op2 M r R R' R'' f pre) (ha : Ev M ta σ H R A) (hb : Ev M tb σ H R' B) (hp : ∀ x y, A x → B y → pre x y) :
    Ev M (tOp r ta tb) σ H R'' (fun z => ∃ x, A x ∧ ∃ y, B y ∧ f x y z) := fun H1 e Q q =>
  ha H1 e _ fun v x H2 e2 a rx => hb H2 (e.trans e2) _ fun u y H3 e3 b ry =>
    ho x y v u H3 e3.dice (Mo.up (M := M) e3 rx) ry (hp x y a b) Q fun w z H4 e4 hz rz => q w z H4 ((e2.trans e3).trans e4) ⟨x, a, y, b, hz⟩ rz
/-- two operands, each one value; the result one value -/
theorem ev_op1 [Mo M R] {r : R2} {f : α → β → γ} {pre : α → β → Prop} {x : α} {y : β} (ho : Op2 M r R R' R'' (fun x y z => z = f x y) pre) (ha : Ev M ta σ H R (Eq1 x)) (hb : Ev M tb σ H R' (Eq1 y)) (hp : pre x y) :
    Ev M (tOp r ta tb) σ H R'' (Eq1 (f x y)) := (ev_op ho ha hb (by rintro _ _ rfl rfl; exact hp)).imp (by rintro z ⟨_, rfl, _, rfl, e⟩; exact e)
theorem ev_un {r : V → Hp → VK → Prop} {f : α → γ} (ho : ∀ x v H, R x v H → ∀ Q : VK, (∀ w, R'' (f x) w H → Q w H) → r v H Q) {x : α} (ha : Ev M ta σ H R (Eq1 x)) : Ev M (tUn r ta) σ H R'' (Eq1 (f x)) := fun H1 e Q q =>
  ha H1 e _ fun v x' H2 e2 a rx => ho x' v H2 rx Q fun w rw => q w _ H2 e2 (congrArg f a) rw
/-! arguments -/
theorem ea_nil : EvA M tNil σ H Nil (Eq1 ()) := fun H1 e Q q => q [] () H1 (.refl e.dice) rfl rfl
theorem ea_cons [Mo M R] {ts : TA} {S : Rs β} {B : β → Prop} (ha : Ev M ta σ H R A) (hb : EvA M ts σ H S B) : EvA M (tCons ta ts) σ H (Cons R S) (fun p => A p.1 ∧ B p.2) := fun H1 e Q q =>
  ha H1 e _ fun v x H2 e2 a rx => hb H2 (e.trans e2) _ fun vs y H3 e3 b ry => q (v :: vs) (x, y) H3 (e2.trans e3) ⟨a, b⟩ ⟨v, vs, rfl, Mo.up (M := M) e3 rx, ry⟩
theorem ea_one {x : α} (ha : Ev M ta σ H R A) : EvA M (tCons ta tNil) σ H (Cons R Nil) (fun p => A p.1) := fun H1 e Q q =>
  ha H1 e _ fun v x H2 e2 a rx => q [v] (x, ()) H2 e2 a ⟨v, [], rfl, rx, rfl⟩
/-- a call by values -/
theorem ev_cb {ts : TA} {S : Rs β} {r : List V → Hp → VK → Prop} {f : β → γ → Prop} {pre : β → Prop} (hc : Cl M r S R'' f pre) (ha : EvA M ts σ H S B) (hp : ∀ x, B x → pre x) : Ev M (tCB r ts) σ H R'' (fun z => ∃ x, B x ∧ f x z) := fun H1 e Q q =>
  ha H1 e _ fun vs x H2 e2 b rx => hc x vs H2 e2.dice rx (hp x b) Q fun w z H3 e3 hz rz => q w z H3 (e2.trans e3) ⟨x, b, hz⟩ rz
/-- a promise of a def, in standard form -/
def Fn (M : Option Addr) {α γ : Type} (S : Rs α) (R'' : Rp γ) (pre : α → Prop) (f : α → γ → Prop) : Sp := fun vs H Q _ =>
  ∃ x, DiceM M H ∧ S x vs H ∧ pre x ∧ ∀ w z H2, Xt M H H2 → f x z → R'' z w H2 → Q w H2
theorem ev_d {ts : TA} {S : Rs β} {sp : Sp} {E : XK} {f : β → γ → Prop} {pre : β → Prop} (hs : ∀ vs H Q E, Fn M S R'' pre f vs H Q E → sp vs H Q E) (ha : EvA M ts σ H S B) (hp : ∀ x, B x → pre x) : Ev M (tD sp E ts) σ H R'' (fun z => ∃ x, B x ∧ f x z) := fun H1 e Q q =>
  ha H1 e _ fun vs x H2 e2 b rx => hs _ _ _ _ ⟨x, e2.dice, rx, hp x b, fun w z H3 e3 hz rz => q w z H3 (e2.trans e3) ⟨x, b, hz⟩ rz⟩
/-! displays -/
theorem ev_tup {ts : TA} {S : Rs β} [Mos M S] (ha : EvA M ts σ H S B) (hl : ∀ x vs H, S x vs H → B x → vs.length ≤ sizeLine) : Ev M (tTup ts) σ H (RT M S) B := fun H1 e Q q =>
  ha H1 e _ fun vs x H2 e2 b rx => ⟨hl x vs H2 rx b, fun p hp => q _ x _ (e2.trans (.new e2.dice hp)) b ⟨p, vs, rfl, ne_dice e2.dice hp, upd_same, Mos.up (.new e2.dice hp) rx⟩⟩
theorem ev_lst {ts : TA} {S : Rs β} [Mos M S] (ha : EvA M ts σ H S B) (hl : ∀ x vs H, S x vs H → B x → vs.length ≤ sizeLine) : Ev M (tLst ts) σ H (RL M S) B := fun H1 e Q q =>
  ha H1 e _ fun vs x H2 e2 b rx => ⟨hl x vs H2 rx b, fun p hp => q _ x _ (e2.trans (.new e2.dice hp)) b ⟨p, vs, rfl, ne_dice e2.dice hp, upd_same, Mos.up (.new e2.dice hp) rx⟩⟩
/-! tests -/
theorem et_val {A : Bool → Prop} (h : Ev M te σ H RB A) : EvT M (tB te) σ H A := fun H1 e Q q => h H1 e _ fun v x H2 e2 a rx => ⟨x, rx, q x H2 e2 a⟩
theorem et_test {A : Bool → Prop} (h : Ev M te σ H RB A) : EvT M (tTest te) σ H A := fun H1 e Q q => h H1 e _ fun v x H2 e2 a rx => ⟨x, rx, q x H2 e2 a⟩
theorem et_not {a : Bool} (h : EvT M t σ H (Eq1 a)) : EvT M (tNot t) σ H (Eq1 (!a)) := fun H1 e Q q => h H1 e _ fun b H2 e2 hb => q _ H2 e2 (congrArg (!·) hb)
theorem et_and {a b : Bool} (h1 : EvT M t σ H (Eq1 a)) (h2 : a = true → EvT M u σ H (Eq1 b)) : EvT M (tAnd t u) σ H (Eq1 (a && b)) := fun H1 e Q q => h1 H1 e _ fun c H2 e2 hc => by
  subst hc
  cases c with
  | true => exact h2 rfl H2 (e.trans e2) _ fun d H3 e3 hd => q d H3 (e2.trans e3) hd
  | false => exact q false H2 e2 rfl
theorem et_or {a b : Bool} (h1 : EvT M t σ H (Eq1 a)) (h2 : a = false → EvT M u σ H (Eq1 b)) : EvT M (tOr t u) σ H (Eq1 (a || b)) := fun H1 e Q q => h1 H1 e _ fun c H2 e2 hc => by
  subst hc
  cases c with
  | false => exact h2 rfl H2 (e.trans e2) _ fun d H3 e3 hd => q d H3 (e2.trans e3) hd
  | true => exact q true H2 e2 rfl
theorem ev_and {a b : Bool} (h1 : Ev M ta σ H RB (Eq1 a)) (h2 : a = true → Ev M tb σ H RB (Eq1 b)) : Ev M (tAndV ta tb) σ H RB (Eq1 (a && b)) := fun H1 e Q q => h1 H1 e _ fun v c H2 e2 hc rc => by
  subst hc
  refine ⟨c, rc, ?_⟩
  cases c with
  | true => exact h2 rfl H2 (e.trans e2) _ fun w d H3 e3 hd rd => q w d H3 (e2.trans e3) hd rd
  | false => exact q _ false H2 e2 rfl rfl
theorem ev_or {a b : Bool} (h1 : Ev M ta σ H RB (Eq1 a)) (h2 : a = false → Ev M tb σ H RB (Eq1 b)) : Ev M (tOrV ta tb) σ H RB (Eq1 (a || b)) := fun H1 e Q q => h1 H1 e _ fun v c H2 e2 hc rc => by
  subst hc
  refine ⟨c, rc, ?_⟩
  cases c with
  | false => exact h2 rfl H2 (e.trans e2) _ fun w d H3 e3 hd rd => q w d H3 (e2.trans e3) hd rd
  | true => exact q _ true H2 e2 rfl rfl
theorem ev_notV {a : Bool} (h1 : Ev M ta σ H RB (Eq1 a)) : Ev M (tNotV ta) σ H RB (Eq1 (!a)) := fun H1 e Q q => h1 H1 e _ fun v c H2 e2 hc rc => ⟨c, rc, q _ _ H2 e2 (congrArg (!·) hc) rfl⟩
theorem ev_if {b : Bool} {A : α → Prop} (h : EvT M t σ H (Eq1 b)) (h1 : b = true → Ev M ta σ H R A) (h2 : b = false → Ev M tb σ H R A) : Ev M (tIf t ta tb) σ H R A := fun H1 e Q q => h H1 e _ fun c H2 e2 hc => by
  subst hc
  cases c with
  | true => exact h1 rfl H2 (e.trans e2) _ fun w d H3 e3 hd rd => q w d H3 (e2.trans e3) hd rd
  | false => exact h2 rfl H2 (e.trans e2) _ fun w d H3 e3 hd rd => q w d H3 (e2.trans e3) hd rd
/-! chains: a < b < c -/
/-! statements -/
variable {D : Ends} {ts tr : TS} {ta' : TA}
theorem q_set (d : DiceM M H) (h : Ev M te σ H R A) (k : ∀ v x H1, Xt M H H1 → A x → R x v H1 → ts D (σ.set i (some v)) H1) : tSeq (tAsg te (gName i)) ts D σ H := h H (.refl d) _ k
theorem q_ret (d : DiceM M H) (h : Ev M te σ H R A) (k : ∀ v x H1, Xt M H H1 → A x → R x v H1 → D.rt v H1) : tRet te D σ H := h H (.refl d) _ k
theorem q_drop (d : DiceM M H) (h : Ev M te σ H R A) (k : ∀ v x H1, Xt M H H1 → A x → R x v H1 → ts D σ H1) : tSeq (tDrop te) ts D σ H := h H (.refl d) _ k
theorem q_drop1 (d : DiceM M H) (h : Ev M te σ H R A) (k : ∀ v x H1, Xt M H H1 → A x → R x v H1 → D.nx σ H1) : tDrop te D σ H := h H (.refl d) _ k
theorem q_if {A : Bool → Prop} (d : DiceM M H) (h : EvT M t σ H A) (k1 : ∀ H1, Xt M H H1 → A true → ts D σ H1) (k2 : ∀ H1, Xt M H H1 → A false → tr D σ H1) : tIfS t ts tr D σ H := h H (.refl d) _ fun b H1 e a => by
  cases b with
  | true => exact k1 H1 e a
  | false => exact k2 H1 e a
theorem q_par {j : Nat} (d : DiceM M H) (h : EvA M ta' σ H (Cons R (Cons R' Nil)) (fun p => A p.1 ∧ B p.2.1 ∧ p.2.2 = ())) (k : ∀ v w x y H1, Xt M H H1 → A x → B y → R x v H1 → R' y w H1 → ts D ((σ.set i (some v)).set j (some w)) H1) : tSeq (tPar i j ta') ts D σ H :=
  h H (.refl d) _ fun vs p H1 e a ⟨v, r, h1, h2, w, r', h3, h4, h5⟩ => by
    subst h3
    have h5' : r' = [] := h5
    subst h5'
    exact ⟨v, w, h1, k v w p.1 p.2.1 H1 e a.1 a.2.1 h2 h4⟩
end
end GE

/-! GF: the rules for operators, calls of built-ins, displays, comprehensions, loops. -/
namespace GE
open PySem PySem.Spec PyProof.Rows L2 GB
section
variable {M : Option Addr} {σ : St} {H : Hp} {te ta tb tc : TE} {t u : TT} {α β γ : Type} {R : Rp α} {R' : Rp β} {R'' : Rp γ} {A : α → Prop} {B : β → Prop} {i : Nat} {K : Frag}
theorem Xt.set_dice {d : Addr} {H : Hp} {a b c : Int} {o : HO} (e : o = .lst [.int a, .int b, .int c]) : Xt (some d) H (upd H d o) :=
  ⟨fun x u n h => by rw [upd_ne (fun z => n (by rw [z]))]; exact h, ⟨a, b, c, by rw [upd_same, e]⟩⟩

/-! ### numbers -/
theorem o2_I0 {g : Int → Int → V} {f : Int → Int → γ} (h : ∀ i j H, R'' (f i j) (g i j) H) : Op2 M (rI0 g) RI RI R'' (fun x y z => z = f x y) (fun _ _ => True) := by
  rintro x y v u H d rfl rfl _ Q q
  exact ⟨x, y, rfl, rfl, q _ _ H (.refl d) rfl (h x y H)⟩
theorem o2_I {C : Int → Int → Prop} {g : Int → Int → V} {f : Int → Int → γ} (h : ∀ i j H, R'' (f i j) (g i j) H) : Op2 M (rI C g) RI RI R'' (fun x y z => z = f x y) C := by
  rintro x y v u H d rfl rfl c Q q
  exact ⟨x, y, rfl, rfl, c, q _ _ H (.refl d) rfl (h x y H)⟩
theorem o_add : Op2 M (rI0 fun i j => .int (i + j)) RI RI RI (fun x y z => z = x + y) (fun _ _ => True) := o2_I0 fun _ _ _ => rfl
theorem o_sub : Op2 M (rI0 fun i j => .int (i - j)) RI RI RI (fun x y z => z = x - y) (fun _ _ => True) := o2_I0 fun _ _ _ => rfl
theorem o_mul : Op2 M (rI CMul fun i j => .int (i * j)) RI RI RI (fun x y z => z = x * y) CMul := o2_I fun _ _ _ => rfl
theorem o_mulW : Op2 M (rI CMulW fun i j => .int (i * j)) RI RI RI (fun x y z => z = x * y) CMulW := o2_I fun _ _ _ => rfl
theorem o_fdiv : Op2 M (rI CDiv fun i j => .int (i / j)) RI RI RI (fun x y z => z = x / y) CDiv := o2_I fun _ _ _ => rfl
theorem o_fdivW : Op2 M (rI CDivW fun i j => .int (i / j)) RI RI RI (fun x y z => z = x / y) CDivW := o2_I fun _ _ _ => rfl
theorem o_mod : Op2 M (rI (fun _ j => 0 < j) fun i j => .int (i % j)) RI RI RI (fun x y z => z = x % y) (fun _ j => 0 < j) := o2_I fun _ _ _ => rfl
theorem o_pow : Op2 M (rI CPow fun i j => .int (i ^ j.toNat)) RI RI RI (fun x y z => z = x ^ y.toNat) CPow := o2_I fun _ _ _ => rfl
theorem o_pow9 : Op2 M (rI (fun i j => 0 ≤ j ∧ (Builtin.Int.intBits i : Int) * j ≤ 2 ^ 27) fun i j => .int (i ^ j.toNat)) RI RI RI (fun x y z => z = x ^ y.toNat) (fun i j => 0 ≤ j ∧ (Builtin.Int.intBits i : Int) * j ≤ 2 ^ 27) := o2_I fun _ _ _ => rfl
theorem o_lt : Op2 M (rI0 fun i j => .bl (decide (i < j))) RI RI RB (fun x y z => z = decide (x < y)) (fun _ _ => True) := o2_I0 fun _ _ _ => rfl
theorem o_le : Op2 M (rI0 fun i j => .bl (decide (i ≤ j))) RI RI RB (fun x y z => z = decide (x ≤ y)) (fun _ _ => True) := o2_I0 fun _ _ _ => rfl
theorem o_gt : Op2 M (rI0 fun i j => .bl (decide (j < i))) RI RI RB (fun x y z => z = decide (y < x)) (fun _ _ => True) := o2_I0 fun _ _ _ => rfl
theorem o_ge : Op2 M (rI0 fun i j => .bl (decide (j ≤ i))) RI RI RB (fun x y z => z = decide (y ≤ x)) (fun _ _ => True) := o2_I0 fun _ _ _ => rfl
theorem dInt {i j : Int} : decide (V.int i = V.int j) = decide (i = j) := by
  by_cases h : i = j
  · subst h; simp
  · have : ¬ V.int i = V.int j := fun z => h (V.int.inj z)
    simp [h]
theorem dBl {i j : Bool} : decide (V.bl i = V.bl j) = (i == j) := by cases i <;> cases j <;> rfl
theorem dStr {i j : Str} : decide (V.str i = V.str j) = decide (i = j) := by
  by_cases h : i = j
  · subst h; simp
  · have : ¬ V.str i = V.str j := fun z => h (V.str.inj z)
    simp [h]
theorem o_eq : Op2 M rEq RI RI RB (fun x y z => z = decide (x = y)) (fun _ _ => True) := by
  rintro x y v u H d rfl rfl _ Q q
  exact ⟨rfl, q _ _ H (.refl d) rfl (congrArg V.bl dInt)⟩
theorem o_ne : Op2 M rNe RI RI RB (fun x y z => z = !decide (x = y)) (fun _ _ => True) := by
  rintro x y v u H d rfl rfl _ Q q
  exact ⟨rfl, q _ _ H (.refl d) rfl (congrArg (fun b => V.bl !b) dInt)⟩
theorem o_eqB : Op2 M rEq RB RB RB (fun x y z => z = (x == y)) (fun _ _ => True) := by
  rintro x y v u H d rfl rfl _ Q q
  exact ⟨rfl, q _ _ H (.refl d) rfl (congrArg V.bl dBl)⟩
theorem o_neB : Op2 M rNe RB RB RB (fun x y z => z = !(x == y)) (fun _ _ => True) := by
  rintro x y v u H d rfl rfl _ Q q
  exact ⟨rfl, q _ _ H (.refl d) rfl (congrArg (fun b => V.bl !b) dBl)⟩
theorem o_eqS : Op2 M rEq RS RS RB (fun x y z => z = decide (x = y)) (fun _ _ => True) := by
  rintro x y v u H d rfl rfl _ Q q
  exact ⟨rfl, q _ _ H (.refl d) rfl (congrArg V.bl dStr)⟩
theorem u_neg : ∀ x v H, RI x v H → ∀ Q : VK, (∀ w, RI (-x) w H → Q w H) → (rU fun i => .int (-i)) v H Q := by
  rintro x v H rfl Q q
  exact ⟨x, rfl, q _ rfl⟩

/-! ### built-ins -/
theorem c_abs : Cl M (fun xs H Q => ∃ i, xs = [V.int i] ∧ Q (.int (if i < 0 then -i else i)) H) (Cons RI Nil) RI (fun p z => z = if p.1 < 0 then -p.1 else p.1) (fun _ => True) := by
  rintro ⟨x, _⟩ vs H d ⟨v, r, rfl, rfl, rfl⟩ _ Q q
  exact ⟨x, rfl, q _ _ H (.refl d) rfl rfl⟩
theorem c_int : Cl M (fun xs H Q => (∃ i, xs = [V.int i] ∧ Q (.int i) H) ∨ ∃ k, xs = [V.bl k] ∧ Q (.int (if k then 1 else 0)) H) (Cons RI Nil) RI (fun p z => z = p.1) (fun _ => True) := by
  rintro ⟨x, _⟩ vs H d ⟨v, r, rfl, rfl, rfl⟩ _ Q q
  exact .inl ⟨x, rfl, q _ _ H (.refl d) rfl rfl⟩
theorem c_intB : Cl M (fun xs H Q => (∃ i, xs = [V.int i] ∧ Q (.int i) H) ∨ ∃ k, xs = [V.bl k] ∧ Q (.int (if k then 1 else 0)) H) (Cons RB Nil) RI (fun p z => z = if p.1 = true then 1 else 0) (fun _ => True) := by
  rintro ⟨x, _⟩ vs H d ⟨v, r, rfl, rfl, rfl⟩ _ Q q
  exact .inr ⟨x, rfl, q _ _ H (.refl d) rfl rfl⟩
theorem c_max : Cl M (fun xs H Q => ∃ i j, xs = [V.int i, .int j] ∧ Q (.int (if j > i then j else i)) H) (Cons RI (Cons RI Nil)) RI (fun p z => z = if p.2.1 > p.1 then p.2.1 else p.1) (fun _ => True) := by
  rintro ⟨x, y, _⟩ vs H d ⟨v, r, rfl, rfl, w, r', rfl, rfl, rfl⟩ _ Q q
  exact ⟨x, y, rfl, q _ _ H (.refl d) rfl rfl⟩
theorem c_min : Cl M (fun xs H Q => ∃ i j, xs = [V.int i, .int j] ∧ Q (.int (if j < i then j else i)) H) (Cons RI (Cons RI Nil)) RI (fun p z => z = if p.2.1 < p.1 then p.2.1 else p.1) (fun _ => True) := by
  rintro ⟨x, y, _⟩ vs H d ⟨v, r, rfl, rfl, w, r', rfl, rfl, rfl⟩ _ Q q
  exact ⟨x, y, rfl, q _ _ H (.refl d) rfl rfl⟩
theorem paired_len {F : α → β → Prop} {l : List α} {r : List β} (h : Paired F l r) : r.length = l.length := by
  induction h with
  | nil => rfl
  | cons _ _ ih => simp [ih]
theorem all_len {l : List α} {vs : List V} {H : Hp} (h : All R l vs H) : vs.length = l.length := paired_len (F := fun x v => R x v H) h
theorem c_lenT : Cl M (fun xs H Q => ∃ p ys, xs = [V.ref p] ∧ (SqL K H p ys ∨ SqT K H p ys) ∧ Q (.int (ys.length : Int)) H) (Cons (RT M (All R)) Nil) RI (fun p z => z = (p.1.length : Int)) (fun _ => True) := by
  rintro ⟨x, _⟩ vs H d ⟨v, r, rfl, ⟨a, ws, rfl, n, h, hr⟩, rfl⟩ _ Q q
  exact ⟨a, ws, rfl, .inr (.of h), q _ _ H (.refl d) rfl (by show V.int _ = V.int _; rw [all_len hr])⟩
theorem c_lenL : Cl M (fun xs H Q => ∃ p ys, xs = [V.ref p] ∧ (SqL K H p ys ∨ SqT K H p ys) ∧ Q (.int (ys.length : Int)) H) (Cons (RL M (All R)) Nil) RI (fun p z => z = (p.1.length : Int)) (fun _ => True) := by
  rintro ⟨x, _⟩ vs H d ⟨v, r, rfl, ⟨a, ws, rfl, n, h, hr⟩, rfl⟩ _ Q q
  exact ⟨a, ws, rfl, .inl (.of h), q _ _ H (.refl d) rfl (by show V.int _ = V.int _; rw [all_len hr])⟩
/-- tuple(xs) of a list -/
theorem c_tupL {S : Rs β} [Mos M S] : Cl M (fun xs H Q => ∃ p ys, xs = [V.ref p] ∧ ((SqL K H p ys ∧ ∀ l, H l = none → Q (.ref l) (upd H l (.tup ys))) ∨ (SqT K H p ys ∧ Q (.ref p) H))) (Cons (RL M S) Nil) (RT M S) (fun p z => z = p.1) (fun _ => True) := by
  rintro ⟨x, _⟩ vs H d ⟨v, r, rfl, ⟨a, ws, rfl, n, h, hr⟩, rfl⟩ _ Q q
  exact ⟨a, ws, rfl, .inl ⟨.of h, fun l hl => q _ _ _ (.new d hl) rfl ⟨l, ws, rfl, ne_dice d hl, upd_same, Mos.up (M := M) (.new d hl) hr⟩⟩⟩
/-- list(xs) of a list, a tuple -/
theorem c_lstL {S : Rs β} [Mos M S] : Cl M (fun xs H Q => ∃ p ys, xs = [V.ref p] ∧ (SqL K H p ys ∨ SqT K H p ys) ∧ ∀ l, H l = none → Q (.ref l) (upd H l (.lst ys))) (Cons (RL M S) Nil) (RL M S) (fun p z => z = p.1) (fun _ => True) := by
  rintro ⟨x, _⟩ vs H d ⟨v, r, rfl, ⟨a, ws, rfl, n, h, hr⟩, rfl⟩ _ Q q
  exact ⟨a, ws, rfl, .inl (.of h), fun l hl => q _ _ _ (.new d hl) rfl ⟨l, ws, rfl, ne_dice d hl, upd_same, Mos.up (M := M) (.new d hl) hr⟩⟩
theorem c_lstT {S : Rs β} [Mos M S] : Cl M (fun xs H Q => ∃ p ys, xs = [V.ref p] ∧ (SqL K H p ys ∨ SqT K H p ys) ∧ ∀ l, H l = none → Q (.ref l) (upd H l (.lst ys))) (Cons (RT M S) Nil) (RL M S) (fun p z => z = p.1) (fun _ => True) := by
  rintro ⟨x, _⟩ vs H d ⟨v, r, rfl, ⟨a, ws, rfl, n, h, hr⟩, rfl⟩ _ Q q
  exact ⟨a, ws, rfl, .inr (.of h), fun l hl => q _ _ _ (.new d hl) rfl ⟨l, ws, rfl, ne_dice d hl, upd_same, Mos.up (M := M) (.new d hl) hr⟩⟩

/-! ### items -/
theorem paired_at {F : α → β → Prop} : ∀ {l : List α} {r : List β} {i : Nat} {x : α}, Paired F l r → l[i]? = some x → ∃ y, r[i]? = some y ∧ F x y
  | _, _, _, _, .nil, h => by simp at h
  | _, _, 0, _, .cons a b, h => by simp at h; subst h; exact ⟨_, rfl, a⟩
  | _, _, i + 1, _, .cons a b, h => by
    obtain ⟨y, h1, h2⟩ := paired_at (i := i) b (by simpa using h)
    exact ⟨y, by simpa using h1, h2⟩
theorem paired_at' {F : α → β → Prop} : ∀ {l : List α} {r : List β} {i : Nat} {y : β}, Paired F l r → r[i]? = some y → ∃ x, l[i]? = some x ∧ F x y
  | _, _, _, _, .nil, h => by simp at h
  | _, _, 0, _, .cons a b, h => by simp at h; subst h; exact ⟨_, rfl, a⟩
  | _, _, i + 1, _, .cons a b, h => by
    obtain ⟨y, h1, h2⟩ := paired_at' (i := i) b (by simpa using h)
    exact ⟨y, by simpa using h1, h2⟩
theorem atI_rep {l : List α} {vs : List V} {H : Hp} {i : Int} {x : α} (h : All R l vs H) (e : atI l i = some x) : ∃ v, atI vs i = some v ∧ R x v H := by
  have hl := all_len h
  unfold atI at e ⊢
  rw [hl]
  cases q : ixN l.length i with
  | none => rw [q] at e; cases e
  | some j =>
    rw [q] at e
    exact paired_at h e
theorem o_ixL : Op2 M (rIxL K) (RL M (All R)) RI R (fun l i z => atI l i = some z) (fun l i => (atI l i).isSome = true) := by
  rintro l i v u H d ⟨a, ws, rfl, n, h, hr⟩ rfl hs Q q
  obtain ⟨z, hz⟩ := Option.isSome_iff_exists.mp hs
  obtain ⟨w, h1, h2⟩ := atI_rep hr hz
  exact ⟨a, ws, i, w, rfl, rfl, .of h, h1, q w z H (.refl d) hz h2⟩
theorem o_ixT : Op2 M (rIxT K) (RT M (All R)) RI R (fun l i z => atI l i = some z) (fun l i => (atI l i).isSome = true) := by
  rintro l i v u H d ⟨a, ws, rfl, n, h, hr⟩ rfl hs Q q
  obtain ⟨z, hz⟩ := Option.isSome_iff_exists.mp hs
  obtain ⟨w, h1, h2⟩ := atI_rep hr hz
  exact ⟨a, ws, i, w, rfl, rfl, .of h, h1, q w z H (.refl d) hz h2⟩
/-- an item of a written pair -/
theorem o_ixC0 {S : Rs β} {T : Rp α} : Op2 M (rIxT K) (RT M (Cons T S)) RI T (fun p _ z => z = p.1) (fun _ i => i = 0) := by
  rintro ⟨x, y⟩ i v u H d ⟨a, ws, rfl, n, h, w, r, rfl, h1, h2⟩ rfl rfl Q q
  exact ⟨a, w :: r, 0, w, rfl, rfl, .of h, atI_nat (j := 0) rfl, q w x H (.refl d) rfl h1⟩
theorem o_ixC1 {S : Rs γ} {T : Rp α} {U : Rp β} : Op2 M (rIxT K) (RT M (Cons T (Cons U S))) RI U (fun p _ z => z = p.2.1) (fun _ i => i = 1) := by
  rintro ⟨x, y, z'⟩ i v u H d ⟨a, ws, rfl, n, h, w, r, rfl, h1, w2, r2, rfl, h2, h3⟩ rfl rfl Q q
  exact ⟨a, w :: w2 :: r2, 1, w2, rfl, rfl, .of h, atI_nat (j := 1) rfl, q w2 y H (.refl d) rfl h2⟩

/-! ### comprehensions -/
/-- what a comprehension gives: p the test, B what an item gives -/
inductive Comp (p : α → Bool) (B : α → β → Prop) : List α → List β → Prop
  | nil : Comp p B [] []
  | yes {x y xs ys} : p x = true → B x y → Comp p B xs ys → Comp p B (x :: xs) (y :: ys)
  | no {x xs ys} : p x = false → Comp p B xs ys → Comp p B (x :: xs) ys
theorem Comp.det {p : α → Bool} {f : α → β} {xs : List α} {ys : List β} (h : Comp p (fun x y => y = f x) xs ys) : ys = (xs.filter p).map f := by
  induction h with
  | nil => rfl
  | yes h1 h2 _ ih => rw [List.filter_cons_of_pos h1, List.map_cons, ← ih, h2]
  | no h1 _ ih => rw [List.filter_cons_of_neg (by simp [h1]), ih]
theorem Comp.map {B : α → β → Prop} {xs : List α} {ys : List β} (h : Comp (fun _ => true) B xs ys) : Paired B xs ys := by
  induction h with
  | nil => exact .nil
  | yes _ h2 _ ih => exact .cons h2 ih
  | no h1 _ _ => cases h1
theorem Comp.snoc_yes {p : α → Bool} {B : α → β → Prop} {x : α} {y : β} (h1 : p x = true) (h2 : B x y) : ∀ {xs : List α} {ys : List β}, Comp p B xs ys → Comp p B (xs ++ [x]) (ys ++ [y])
  | _, _, .nil => .yes h1 h2 .nil
  | _, _, .yes a b c => .yes a b (Comp.snoc_yes h1 h2 c)
  | _, _, .no a c => .no a (Comp.snoc_yes h1 h2 c)
theorem Comp.snoc_no {p : α → Bool} {B : α → β → Prop} {x : α} (h1 : p x = false) : ∀ {xs : List α} {ys : List β}, Comp p B xs ys → Comp p B (xs ++ [x]) ys
  | _, _, .nil => .no h1 .nil
  | _, _, .yes a b c => .yes a b (Comp.snoc_no h1 c)
  | _, _, .no a c => .no a (Comp.snoc_no h1 c)
theorem Comp.len {p : α → Bool} {B : α → β → Prop} {xs : List α} {ys : List β} (h : Comp p B xs ys) : ys.length ≤ xs.length := by
  induction h with
  | nil => exact Nat.le_refl _
  | yes _ _ _ ih => simp; exact ih
  | no _ _ ih => simp; omega
theorem All.snoc {l : List α} {vs : List V} {H : Hp} {x : α} {v : V} (h : All R l vs H) (r : R x v H) : All R (l ++ [x]) (vs ++ [v]) H := Paired.snoc h r
/-- how a target takes an item: the value v goes to σ' -/
def Gt (g : TG) (M : Option Addr) (R : Rp α) (τ : α → V → St → St → Prop) (σ : St) : Prop := ∀ x v H (Q : St → Hp → Prop), R x v H → (∀ σ', τ x v σ σ' → Q σ' H) → g v σ H Q
/-- what stays when a list changes: no list of ours is within -/
class Ml {α : Type} (R : Rp α) : Prop where
  l : ∀ {x v H D vs vs'}, H D = some (.lst vs) → R x v H → R x v (upd H D (.lst vs'))
class Mls {α : Type} (R : Rs α) : Prop where
  l : ∀ {x v H D vs vs'}, H D = some (.lst vs) → R x v H → R x v (upd H D (.lst vs'))
instance : Ml RI := ⟨fun _ h => h⟩
instance : Ml RB := ⟨fun _ h => h⟩
instance : Ml RN := ⟨fun _ h => h⟩
instance : Ml RS := ⟨fun _ h => h⟩
instance : Ml RV := ⟨fun _ h => h⟩
instance {R : Rp α} [Ml R] : Ml (ROpt R) := ⟨fun {o v H D vs vs'} e h => by
  cases o with
  | none => exact h
  | some x => exact Ml.l (R := R) e h⟩
instance {R : Rp α} [Ml R] : Mls (All R) := ⟨fun e h => paired_imp (fun _ _ z => Ml.l (R := R) e z) h⟩
instance : Mls Nil := ⟨fun _ h => h⟩
instance {R : Rp α} {S : Rs β} [Ml R] [Mls S] : Mls (Cons R S) := ⟨fun e ⟨v, r, h1, h2, h3⟩ => ⟨v, r, h1, Ml.l (R := R) e h2, Mls.l (R := S) e h3⟩⟩
instance {R : Rs α} [Mls R] : Ml (RT M R) := ⟨fun e ⟨a, vs, h1, h2, h3, h4⟩ => ⟨a, vs, h1, h2, by rw [upd_ne (ne_of h3 e (by intro z; cases z))]; exact h3, Mls.l (R := R) e h4⟩⟩
/-- the list at D so far -/
structure Acc (M : Option Addr) (R : Rp β) (H0 : Hp) (D : Addr) (S : List β → Prop) (H : Hp) : Prop where
  free : H0 D = none
  nd : M ≠ some D
  ext : Xt M H0 H
  at_ : ∃ vs ys, H D = some (.lst vs) ∧ All R ys vs H ∧ S ys
theorem Acc.start {H0 : Hp} {D : Addr} {S : List β → Prop} (d : DiceM M H0) (h : H0 D = none) (s : S []) : Acc M R' H0 D S (upd H0 D (.lst [])) := ⟨h, ne_dice d h, .new d h, [], [], upd_same, .nil, s⟩
theorem Xt.put {H0 H : Hp} {D : Addr} {o : HO} (e : Xt M H0 H) (h : H0 D = none) (nd : M ≠ some D) : Xt M H0 (upd H D o) := by
  refine ⟨fun a u n q => by rw [upd_ne (ne_of_none q h)]; exact e.keep a u n q, ?_⟩
  cases M with
  | none => trivial
  | some d =>
    obtain ⟨a, b, c, q⟩ := e.dice
    exact ⟨a, b, c, by rw [upd_ne (fun z => nd (by rw [z]))]; exact q⟩
theorem Acc.turn [Mo M R'] [Ml R'] {H0 H : Hp} {D : Addr} {S S' : List β → Prop} {p : Bool} {B : β → Prop} (a : Acc M R' H0 D S H) (hn : ∀ ys, S ys → ys.length < 1000000) (ht : EvT M t σ H0 (Eq1 p)) (he : p = true → Ev M te σ H0 R' B)
    (hy : p = true → ∀ ys y, S ys → B y → S' (ys ++ [y])) (hno : p = false → ∀ ys, S ys → S' ys) :
    t σ H fun b H3 => if b = true then te σ H3 fun y H4 => ∃ acc, H4 D = some (.lst acc) ∧ acc.length < sizeLine ∧ Acc M R' H0 D S' (upd H4 D (.lst (acc ++ [y]))) else Acc M R' H0 D S' H3 := by
  obtain ⟨hf, nd, e, vs, ys, h1, h2, h3⟩ := a
  refine ht H e _ fun b H3 e3 hb => ?_
  subst hb
  cases b with
  | true =>
    show te σ H3 _
    refine he rfl H3 (e.trans e3) _ fun v y H4 e4 hB ry => ?_
    have h4 : H4 D = some (.lst vs) := e4.keep D _ nd (e3.keep D _ nd h1)
    have hl : vs.length < sizeLine := by rw [all_len h2]; exact Nat.lt_trans (hn ys h3) (by decide)
    refine ⟨vs, h4, hl, hf, nd, Xt.put ((e.trans e3).trans e4) hf nd, vs ++ [v], ys ++ [y], upd_same, ?_, hy rfl ys y h3 hB⟩
    have h2' : All R' ys vs H4 := Mos.up (M := M) (R := All R') (e3.trans e4) h2
    exact Mls.l (R := All R') h4 (All.snoc h2' ry)
  | false =>
    show Acc M R' H0 D S' H3
    exact ⟨hf, nd, e.trans e3, vs, ys, e3.keep D _ nd h1, Mos.up (M := M) (R := All R') e3 h2, hno rfl ys h3⟩
/-- [te for .. in a list or tuple if t]; τ tells the slots behind the target -/
theorem lc_seq [Mo M R'] [Ml R'] {g : TG} {vs : List Nat} {H1 : Hp} {D : Addr} {xs : List α} {ws : List V} {p : α → Bool} {B : α → β → Prop} {Qd : Hp → Prop} (τ : V → St) (d : DiceM M H1) (hD : H1 D = none) (hr : All R xs ws H1) [Mo M R]
    (hz : xs.length < 1000000) (hg : ∀ v x H Q, R x v H → Q (τ v) H → g v (wipe σ vs) H Q) (hw : ∀ v, wipe (τ v) vs = wipe σ vs)
    (ht : ∀ v x, x ∈ xs → R x v H1 → EvT M t (τ v) H1 (Eq1 (p x))) (he : ∀ v x, x ∈ xs → R x v H1 → p x = true → Ev M te (τ v) H1 R' (B x))
    (hd : ∀ H' ys, Xt M H1 H' → RL M (All R') ys (.ref D) H' → Comp p B xs ys → Qd H') :
    ∃ Pv : Nat → Hp → Prop, Pv 0 (upd H1 D (.lst [])) ∧ (∀ i H, Pv i H → Xt M H1 H) ∧
      (∀ i v H, ws[i]? = some v → Pv i H → g v (wipe σ vs) H fun σ2 H2 => wipe σ2 vs = wipe σ vs ∧ t σ2 H2 fun b H3 =>
        if b = true then te σ2 H3 fun y H4 => ∃ acc, H4 D = some (.lst acc) ∧ acc.length < sizeLine ∧ Pv (i + 1) (upd H4 D (.lst (acc ++ [y]))) else Pv (i + 1) H3) ∧ ∀ H, Pv ws.length H → Qd H := by
  refine ⟨fun i H => Acc M R' H1 D (fun ys => Comp p B (xs.take i) ys) H, Acc.start d hD .nil, fun i H a => a.ext, fun i v H hi a => ?_, fun H a => ?_⟩
  · obtain ⟨x, hx, rx⟩ := paired_at' hr hi
    have hm : x ∈ xs := List.mem_of_getElem? hx
    have rx' : R x v H := Mo.up (M := M) a.ext rx
    refine hg v x H _ rx' ⟨hw v, ?_⟩
    have htk : xs.take (i + 1) = xs.take i ++ [x] := by rw [List.take_add_one, hx]; rfl
    refine a.turn (p := p x) (B := B x) (fun ys c => Nat.lt_of_le_of_lt c.len (Nat.lt_of_le_of_lt (by simp [List.length_take]; omega) hz)) (ht v x hm rx) (he v x hm rx) (fun hp ys y c b => ?_) (fun hp ys c => ?_)
    · rw [htk]; exact Comp.snoc_yes hp b c
    · rw [htk]; exact Comp.snoc_no hp c
  · obtain ⟨hf, nd, e, vs', ys, h1, h2, h3⟩ := a
    rw [paired_len hr, List.take_length] at h3
    exact hd H ys e ⟨D, vs', rfl, nd, h1, h2⟩ h3
theorem ev_lcL [Mo M R] [Mo M R'] [Ml R'] {g : TG} {vs : List Nat} {tl : TE} {xs : List α} {p : α → Bool} {B : α → β → Prop} (τ : V → St) (hl : Ev M tl σ H (RL M (All R)) (Eq1 xs)) (hz : xs.length < 1000000)
    (hg : ∀ v x H Q, R x v H → Q (τ v) H → g v (wipe σ vs) H Q) (hw : ∀ v, wipe (τ v) vs = wipe σ vs)
    (ht : ∀ H1, Xt M H H1 → ∀ v x, x ∈ xs → R x v H1 → EvT M t (τ v) H1 (Eq1 (p x))) (he : ∀ H1, Xt M H H1 → ∀ v x, x ∈ xs → R x v H1 → p x = true → Ev M te (τ v) H1 R' (B x)) :
    Ev M (tLc (iList K tl) g t te vs) σ H (RL M (All R')) (fun ys => Comp p B xs ys) := fun H0 e0 Q q =>
  hl H0 e0 _ fun v x H1 e1 hx rx => by
    subst hx
    obtain ⟨a, ws, rfl, na, ha, hr⟩ := rx
    refine ⟨a, rfl, ⟨ws, .of ha⟩, fun D hD => ?_⟩
    obtain ⟨Pv, p0, pe, ps, pd⟩ := lc_seq (g := g) τ e1.dice hD hr hz hg hw (ht H1 (e0.trans e1)) (he H1 (e0.trans e1)) (Qd := Q (.ref D)) (fun H' ys e r c => q _ ys H' (e1.trans e) c r)
    exact lc_list (xs := ws) Pv p0 (fun i H' _ z => .of ((pe i H' z).keep a _ na ha)) (fun i v H' hi z => ps i v H' hi z) pd
theorem ev_lcT [Mo M R] [Mo M R'] [Ml R'] {g : TG} {vs : List Nat} {tl : TE} {xs : List α} {p : α → Bool} {B : α → β → Prop} (τ : V → St) (hl : Ev M tl σ H (RT M (All R)) (Eq1 xs)) (hz : xs.length < 1000000)
    (hg : ∀ v x H Q, R x v H → Q (τ v) H → g v (wipe σ vs) H Q) (hw : ∀ v, wipe (τ v) vs = wipe σ vs)
    (ht : ∀ H1, Xt M H H1 → ∀ v x, x ∈ xs → R x v H1 → EvT M t (τ v) H1 (Eq1 (p x))) (he : ∀ H1, Xt M H H1 → ∀ v x, x ∈ xs → R x v H1 → p x = true → Ev M te (τ v) H1 R' (B x)) :
    Ev M (tLc (iTup K tl) g t te vs) σ H (RL M (All R')) (fun ys => Comp p B xs ys) := fun H0 e0 Q q =>
  hl H0 e0 _ fun v x H1 e1 hx rx => by
    subst hx
    obtain ⟨a, ws, rfl, na, ha, hr⟩ := rx
    refine ⟨a, rfl, ⟨ws, .of ha⟩, fun D hD => ?_⟩
    obtain ⟨Pv, p0, pe, ps, pd⟩ := lc_seq (g := g) τ e1.dice hD hr hz hg hw (ht H1 (e0.trans e1)) (he H1 (e0.trans e1)) (Qd := Q (.ref D)) (fun H' ys e r c => q _ ys H' (e1.trans e) c r)
    exact lc_tup (xs := ws) Pv p0 (fun i H' _ z => .of ((pe i H' z).keep a _ na ha)) (fun i v H' hi z => ps i v H' hi z) pd
/-- lo, lo + 1, .. below hi -/
def rng (lo hi : Int) : List Int := (List.range (hi - lo).toNat).map fun (i : Nat) => lo + (i : Int)
theorem rng_at {lo hi : Int} {i : Nat} (h : i < (hi - lo).toNat) : (rng lo hi)[i]? = some (lo + (i : Int)) := by
  unfold rng; simp [h]
theorem rng_len {lo hi : Int} : (rng lo hi).length = (hi - lo).toNat := by unfold rng; simp
theorem mem_rng {lo hi x : Int} : x ∈ rng lo hi ↔ lo ≤ x ∧ x < hi := by
  unfold rng
  simp only [List.mem_map, List.mem_range]
  constructor
  · rintro ⟨i, h, rfl⟩; omega
  · rintro ⟨h1, h2⟩; exact ⟨(x - lo).toNat, by omega, by omega⟩
theorem all_rng {H : Hp} {lo hi : Int} : All RI (rng lo hi) ((List.range (hi - lo).toNat).map fun (i : Nat) => V.int (lo + (i : Int))) H := by
  unfold rng
  generalize List.range (hi - lo).toNat = l
  induction l with
  | nil => exact .nil
  | cons a l ih => exact .cons rfl ih
theorem lc_rng [Mo M R'] [Ml R'] {g : TG} {vs : List Nat} {H1 : Hp} {D : Addr} {lo hi : Int} {p : Int → Bool} {B : Int → β → Prop} {Qd : Hp → Prop} (τ : V → St) (d : DiceM M H1) (hD : H1 D = none)
    (hz : (hi - lo).toNat < 1000000) (hg : ∀ v x H Q, RI x v H → Q (τ v) H → g v (wipe σ vs) H Q) (hw : ∀ v, wipe (τ v) vs = wipe σ vs)
    (ht : ∀ x, lo ≤ x → x < hi → EvT M t (τ (.int x)) H1 (Eq1 (p x))) (he : ∀ x, lo ≤ x → x < hi → p x = true → Ev M te (τ (.int x)) H1 R' (B x))
    (hd : ∀ H' ys, Xt M H1 H' → RL M (All R') ys (.ref D) H' → Comp p B (rng lo hi) ys → Qd H') :
    ∃ W : Nat → Nat → Hp → Prop, (∃ m, W 0 m (upd H1 D (.lst []))) ∧ ∀ i m H, W i m H →
      ((Itr lo (hi - lo).toNat).stop i H ∧ Qd H) ∨ ((Itr lo (hi - lo).toNat).go i H ∧ ∃ Nx : Hp → Prop, (∀ H', Nx H' → ∃ m', m' < m ∧ W (i + 1) m' H') ∧ ∀ x H', (Itr lo (hi - lo).toNat).yld i H x H' → g x (wipe σ vs) H' fun σ2 H2 => wipe σ2 vs = wipe σ vs ∧ t σ2 H2 fun b H3 =>
        if b = true then te σ2 H3 fun y H4 => ∃ acc, H4 D = some (.lst acc) ∧ acc.length < sizeLine ∧ Nx (upd H4 D (.lst (acc ++ [y]))) else Nx H3) := by
  obtain ⟨Pv, p0, pe, ps, pd⟩ := lc_seq (g := g) (R := RI) (xs := rng lo hi) τ d hD all_rng (by rw [rng_len]; exact hz) hg hw
    (fun v x hm rx => by cases (show v = V.int x from rx); exact ht x (mem_rng.mp hm).1 (mem_rng.mp hm).2) (fun v x hm rx hp => by cases (show v = V.int x from rx); exact he x (mem_rng.mp hm).1 (mem_rng.mp hm).2 hp) hd
  refine lc_range Pv p0 (fun i H' hi' z => ps i _ H' (by simp [hi']) z) fun H z => pd H (by simpa using z)
theorem ev_lcR1 [Mo M R'] [Ml R'] {g : TG} {vs : List Nat} {ts : TA} {n : Int} {p : Int → Bool} {B : Int → β → Prop} (τ : V → St) (hl : EvA M ts σ H (Cons RI Nil) (fun q => q.1 = n)) (hz : 0 ≤ n ∧ n < 1000000)
    (hg : ∀ v x H Q, RI x v H → Q (τ v) H → g v (wipe σ vs) H Q) (hw : ∀ v, wipe (τ v) vs = wipe σ vs)
    (ht : ∀ H1, Xt M H H1 → ∀ x, 0 ≤ x → x < n → EvT M t (τ (.int x)) H1 (Eq1 (p x))) (he : ∀ H1, Xt M H H1 → ∀ x, 0 ≤ x → x < n → p x = true → Ev M te (τ (.int x)) H1 R' (B x)) :
    Ev M (tLc (iRng1 ts) g t te vs) σ H (RL M (All R')) (fun ys => Comp p B (rng 0 n) ys) := fun H0 e0 Q q =>
  hl H0 e0 _ fun vs' x H1 e1 hx ⟨v, r, e2, e3, e4⟩ => by
    cases (show r = [] from e4); cases (show v = V.int x.1 from e3); subst e2
    refine ⟨x.1, rfl, by omega, by omega, fun D hD => ?_⟩
    have e5 : x.1.toNat = (n - 0).toNat := by rw [hx]; omega
    rw [e5]
    exact lc_rng τ e1.dice hD (by omega) hg hw (ht H1 (e0.trans e1)) (he H1 (e0.trans e1)) fun H' ys e r c => q _ ys H' (e1.trans e) c r
theorem ev_lcR2 [Mo M R'] [Ml R'] {g : TG} {vs : List Nat} {ts : TA} {lo n : Int} {p : Int → Bool} {B : Int → β → Prop} (τ : V → St) (hl : EvA M ts σ H (Cons RI (Cons RI Nil)) (fun q => q.1 = lo ∧ q.2.1 = n)) (hz : -1000000 < lo ∧ n < 1000000 ∧ lo < 1000000 ∧ -1000000 < n ∧ n - lo < 1000000)
    (hg : ∀ v x H Q, RI x v H → Q (τ v) H → g v (wipe σ vs) H Q) (hw : ∀ v, wipe (τ v) vs = wipe σ vs)
    (ht : ∀ H1, Xt M H H1 → ∀ x, lo ≤ x → x < n → EvT M t (τ (.int x)) H1 (Eq1 (p x))) (he : ∀ H1, Xt M H H1 → ∀ x, lo ≤ x → x < n → p x = true → Ev M te (τ (.int x)) H1 R' (B x)) :
    Ev M (tLc (iRng2 ts) g t te vs) σ H (RL M (All R')) (fun ys => Comp p B (rng lo n) ys) := fun H0 e0 Q q =>
  hl H0 e0 _ fun vs' x H1 e1 hx ⟨v, r, e2, e3, w, r', e4, e5, e6⟩ => by
    obtain ⟨x1, x2, x3⟩ := x
    dsimp only at hx
    obtain ⟨rfl, rfl⟩ := hx
    cases (show r' = [] from e6); cases (show v = V.int x1 from e3); cases (show w = V.int x2 from e5); subst e4; subst e2
    refine ⟨x1, x2, rfl, by omega, fun D hD => ?_⟩
    exact lc_rng τ e1.dice hD (by omega) hg hw (ht H1 (e0.trans e1)) (he H1 (e0.trans e1)) fun H' ys e r c => q _ ys H' (e1.trans e) c r
end
end GE

/-! GH: equality of data, homogeneous displays, loops, unpacking, isinstance. -/
namespace GE
open PySem PySem.Spec PyProof.Rows L2 GB
/-- values that are data -/
class Da {α : Type} (R : Rp α) where
  f : α → PyData
  n : Nat
  dp : ∀ {K x v H}, R x v H → L2.Dp K H v (f x)
  ok : ∀ x, (f x).canLay0 = true
  dep : ∀ x, (f x).depth ≤ n
  inj : ∀ x y, PyData.eqv (f x) (f y) = true ↔ x = y
class Das {α : Type} (R : Rs α) where
  f : α → List PyData
  n : Nat
  dp : ∀ {K x vs H}, R x vs H → L2.DpAll K H vs (f x)
  ok : ∀ x, PyData.canLayAll0 (f x) = true
  dep : ∀ x, PyData.depthAll (f x) ≤ n
  inj : ∀ x y, PyData.eqvAll (f x) (f y) = true ↔ x = y
section
variable {M : Option Addr} {α β γ : Type}
instance : Da RI := ⟨fun i => .int i, 0, fun {K x v H} h => by cases (show v = V.int x from h); exact .int _, fun _ => rfl, fun _ => Nat.le_refl _, fun x y => by simp [PyData.eqv]⟩
instance : Da RB := ⟨fun i => .bool i, 0, fun {K x v H} h => by cases (show v = V.bl x from h); exact .bl _, fun _ => rfl, fun _ => Nat.le_refl _, fun x y => by simp [PyData.eqv]⟩
instance : Da RN := ⟨fun _ => .none, 0, fun {K x v H} h => by cases (show v = V.non from h); exact .non, fun _ => rfl, fun _ => Nat.le_refl _, fun x y => by simp [PyData.eqv]⟩
instance : Das Nil := ⟨fun _ => [], 0, fun {K x vs H} h => by cases (show vs = [] from h); exact .nil, fun _ => rfl, fun _ => Nat.le_refl _, fun x y => by simp [PyData.eqvAll]⟩
instance {R : Rp α} {S : Rs β} [a : Da R] [b : Das S] : Das (Cons R S) := ⟨fun p => a.f p.1 :: b.f p.2, max a.n b.n, fun {K x vs H} h => by obtain ⟨v, r, rfl, h1, h2⟩ := h; exact .cons (a.dp h1) (b.dp h2),
  fun x => by simp [PyData.canLayAll0, a.ok, b.ok], fun x => by simp only [PyData.depthAll]; have := a.dep x.1; have := b.dep x.2; omega, fun x y => by
    simp only [PyData.eqvAll, Bool.and_eq_true, a.inj, b.inj]
    constructor
    · rintro ⟨h1, h2⟩; exact Prod.ext h1 h2
    · rintro rfl; exact ⟨rfl, rfl⟩⟩
instance {R : Rp α} [a : Da R] : Das (All R) := ⟨fun l => l.map a.f, a.n, fun {K x vs H} h => by
    have h' : Paired (fun x v => R x v H) x vs := h
    induction h' with
    | nil => exact .nil
    | cons h1 h2 ih => exact .cons (a.dp h1) (ih h2),
  fun x => by
    induction x with
    | nil => rfl
    | cons y l ih => simp [PyData.canLayAll0, a.ok, ih], fun x => by
    induction x with
    | nil => exact Nat.zero_le _
    | cons y l ih => simp only [List.map_cons, PyData.depthAll]; have := a.dep y; omega, fun x y => by
    induction x generalizing y with
    | nil => cases y <;> simp [PyData.eqvAll]
    | cons z l ih => cases y <;> simp [PyData.eqvAll, a.inj, ih]⟩
instance {S : Rs β} [b : Das S] : Da (RT M S) := ⟨fun x => .tuple (b.f x), b.n + 1, fun {K x v H} h => by obtain ⟨a, vs, rfl, n, h1, h2⟩ := h; exact .tup (.of h1) (b.dp h2),
  fun x => by simpa [PyData.canLay0] using b.ok x, fun x => by simp only [PyData.depth]; have := b.dep x; omega, fun x y => by simp [PyData.eqv, b.inj]⟩
instance {S : Rs β} [b : Das S] : Da (RL M S) := ⟨fun x => .list (b.f x), b.n + 1, fun {K x v H} h => by obtain ⟨a, vs, rfl, n, h1, h2⟩ := h; exact .lst (.of h1) (b.dp h2),
  fun x => by simpa [PyData.canLay0] using b.ok x, fun x => by simp only [PyData.depth]; have := b.dep x; omega, fun x y => by simp [PyData.eqv, b.inj]⟩
variable {σ : St} {H : Hp} {te ta tb tc tl : TE} {t u : TT} {R : Rp α} {R' : Rp β} {R'' : Rp γ} {A : α → Prop} {B : β → Prop} {i : Nat} {K : Frag}
theorem sh (a : Da R) (h : a.n ≤ 64) (x : α) : SeqAt.shaped (a.f x) = true := by
  unfold SeqAt.shaped
  rw [a.ok, decide_eq_true (Nat.le_trans (a.dep x) h)] <;> rfl
theorem eqv_dec [DecidableEq α] [a : Da R] (x y : α) : PyData.eqv (a.f x) (a.f y) = decide (x = y) := by
  by_cases h : x = y
  · rw [decide_eq_true h]; exact (a.inj x y).mpr h
  · rw [decide_eq_false h]
    cases q : PyData.eqv (a.f x) (a.f y) with
    | false => rfl
    | true => exact absurd ((a.inj x y).mp q) h
theorem o_eqD [DecidableEq α] [a : Da R] (hn : a.n ≤ 64 := by exact Nat.le_of_ble_eq_true rfl) : Op2 M (rEqD K) R R RB (fun x y z => z = decide (x = y)) (fun _ _ => True) := by
  intro x y v u H d rx ry _ Q q
  exact ⟨_, _, a.dp rx, a.dp ry, sh a hn x, sh a hn y, q _ _ H (.refl d) rfl (congrArg V.bl (eqv_dec (R := R) x y))⟩
theorem o_neD [DecidableEq α] [a : Da R] (hn : a.n ≤ 64 := by exact Nat.le_of_ble_eq_true rfl) : Op2 M (rNeD K) R R RB (fun x y z => z = !decide (x = y)) (fun _ _ => True) := by
  intro x y v u H d rx ry _ Q q
  exact ⟨_, _, a.dp rx, a.dp ry, sh a hn x, sh a hn y, q _ _ H (.refl d) rfl (congrArg (fun b => V.bl !b) (eqv_dec (R := R) x y))⟩
/-! ### displays of items of one kind -/
theorem ea_nilA : EvA M tNil σ H (All R) (Eq1 []) := fun H1 e Q q => q [] [] H1 (.refl e.dice) rfl .nil
theorem ea_consA [Mo M R] {ts : TA} {x : α} {xs : List α} (ha : Ev M ta σ H R (Eq1 x)) (hb : EvA M ts σ H (All R) (Eq1 xs)) : EvA M (tCons ta ts) σ H (All R) (Eq1 (x :: xs)) := fun H1 e Q q =>
  ha H1 e _ fun v x' H2 e2 a rx => hb H2 (e.trans e2) _ fun vs y H3 e3 b ry => q (v :: vs) (x :: xs) H3 (e2.trans e3) rfl (by
    cases (show x' = x from a); cases (show y = xs from b)
    exact Paired.cons (Mo.up (M := M) e3 rx) ry)
theorem EvA.imp {S : Rs β} {ts : TA} {A A' : β → Prop} (h : EvA M ts σ H S A) (k : ∀ x, A x → A' x) : EvA M ts σ H S A' := fun H1 e Q q => h H1 e Q fun v x H2 e2 a r => q v x H2 e2 (k x a) r
/-! ### statements -/
variable {D : Ends} {ts tr : TS} {tz : TA}
theorem st_seq {t1 t2 : TS} (h : t1 { D with nx := t2 D } σ H) : tSeq t1 t2 D σ H := h
theorem ev_set (d : DiceM M H) (h : Ev M te σ H R A) (k : ∀ v x H1, Xt M H H1 → A x → R x v H1 → D.nx (σ.set i (some v)) H1) : tAsg te (gName i) D σ H := h H (.refl d) _ k
theorem q_ifS {A : Bool → Prop} {w : TS} (d : DiceM M H) (h : EvT M t σ H A) (k1 : ∀ H1, Xt M H H1 → A true → ts { D with nx := w D } σ H1) (k2 : ∀ H1, Xt M H H1 → A false → tr { D with nx := w D } σ H1) : tSeq (tIfS t ts tr) w D σ H := q_if (D := { D with nx := w D }) d h k1 k2
/-- a, b = e -/
theorem q_un2 {e : TE} {w : TS} {j : Nat} {R : Rp α} {R' : Rp β} {C : α × β × Unit → Prop} [Mo M R] [Mo M R'] (d : DiceM M H) (h : Ev M e σ H (RT M (Cons R (Cons R' Nil))) C)
    (k : ∀ v u x y H1, Xt M H H1 → C (x, y, ()) → R x v H1 → R' y u H1 → w D ((σ.set i (some v)).set j (some u)) H1) : tSeq (tAsg e (gTup K 2 (gCons (gName i) (gCons (gName j) gNil)))) w D σ H :=
  h H (.refl d) _ fun v x H1 e1 c r => by
    obtain ⟨x1, x2, _⟩ := x
    obtain ⟨a, vs, rfl, n, ha, v1, r1, rfl, h1, v2, r2, rfl, h2, h3⟩ := r
    cases (show r2 = [] from h3)
    exact ⟨a, [v1, v2], rfl, .of ha, rfl, v1, [v2], rfl, v2, [], rfl, rfl, k v1 v2 x1 x2 H1 e1 c h1 h2⟩
theorem q_un3 {δ : Type} {e : TE} {w : TS} {j l : Nat} {R : Rp α} {R' : Rp β} {R'' : Rp δ} {C : α × β × δ × Unit → Prop} [Mo M R] [Mo M R'] [Mo M R''] (d : DiceM M H) (h : Ev M e σ H (RT M (Cons R (Cons R' (Cons R'' Nil)))) C)
    (k : ∀ v u s x y z H1, Xt M H H1 → C (x, y, z, ()) → R x v H1 → R' y u H1 → R'' z s H1 → w D (((σ.set i (some v)).set j (some u)).set l (some s)) H1) : tSeq (tAsg e (gTup K 3 (gCons (gName i) (gCons (gName j) (gCons (gName l) gNil))))) w D σ H :=
  h H (.refl d) _ fun v x H1 e1 c r => by
    obtain ⟨x1, x2, x3, _⟩ := x
    obtain ⟨a, vs, rfl, n, ha, v1, r1, rfl, h1, v2, r2, rfl, h2, v3, r3, rfl, h3, h4⟩ := r
    cases (show r3 = [] from h4)
    exact ⟨a, [v1, v2, v3], rfl, .of ha, rfl, v1, _, rfl, v2, _, rfl, v3, _, rfl, rfl, k v1 v2 v3 x1 x2 x3 H1 e1 c h1 h2 h3⟩
/-- one, two, three = a list of three -/
theorem q_unL3 {e : TE} {w : TS} {j l : Nat} {R : Rp α} [Mo M R] {C : List α → Prop} (d : DiceM M H) (h : Ev M e σ H (RL M (All R)) C) (hl : ∀ xs, C xs → xs.length = 3)
    (k : ∀ v u s x y z H1, Xt M H H1 → C [x, y, z] → R x v H1 → R y u H1 → R z s H1 → w D (((σ.set i (some v)).set j (some u)).set l (some s)) H1) : tSeq (tAsg e (gLst K 3 (gCons (gName i) (gCons (gName j) (gCons (gName l) gNil))))) w D σ H :=
  h H (.refl d) _ fun v xs H1 e1 c r => by
    obtain ⟨a, vs, rfl, n, ha, hr⟩ := r
    have hl3 := hl xs c
    match xs, hl3, hr, c with
    | [x1, x2, x3], _, hr, c =>
      have hr' : Paired (fun x v => R x v H1) [x1, x2, x3] vs := hr
      cases hr' with
      | cons a1 r1 => cases r1 with
        | cons a2 r2 => cases r2 with
          | cons a3 r3 => cases r3 with
            | nil => exact ⟨a, _, rfl, .of ha, rfl, _, _, rfl, _, _, rfl, _, _, rfl, rfl, k _ _ _ _ _ _ H1 e1 c a1 a2 a3⟩
/-- loops: an invariant over turns, slots, heaps -/
theorem l_rng1 {n : Int} {j : Nat} (d : DiceM M H) (h : EvA M tz σ H (Cons RI Nil) (fun q => q.1 = n)) (hn : n < 1000000) (Pv : Int → St → Hp → Prop) (h0 : ∀ H1, Xt M H H1 → Pv 0 σ H1)
    (hs : ∀ (i : Int) σ' H', 0 ≤ i → i < n → Pv i σ' H' → ts { D with nx := Pv (i + 1), ct := Pv (i + 1), bk := D.nx } (σ'.set j (some (.int i))) H') (hd : ∀ σ' H', (0 ≤ n → Pv n σ' H') → (n ≤ 0 → Pv 0 σ' H') → D.nx σ' H') (hlo : -1000000 < n) : tFor (iRng1 tz) (gName j) ts D σ H :=
  h H (.refl d) _ fun vs x H1 e1 hx ⟨v, r, e2, e3, e4⟩ => by
    cases (show r = [] from e4); cases (show v = V.int x.1 from e3); subst e2
    refine ⟨x.1, rfl, by omega, by omega, ?_⟩
    rw [hx]
    refine for_range (lo := 0) (n := n.toNat) (fun i σ' H' => Pv (i : Int) σ' H') (h0 H1 e1) (fun i σ' H' hi p => ?_) (fun σ' H' p => ?_)
    · have e0 : (0 : Int) + (i : Int) = (i : Int) := Int.zero_add _
      show ts _ (σ'.set j (some (.int ((0 : Int) + (i : Int))))) H'
      rw [e0]
      exact hs i σ' H' (by omega) (by omega) p
    · refine hd σ' H' (fun h => ?_) (fun h => ?_)
      · have : ((n.toNat : Nat) : Int) = n := by omega
        rwa [this] at p
      · have : ((n.toNat : Nat) : Int) = 0 := by omega
        rwa [this] at p
theorem l_rng2 {lo n : Int} {j : Nat} (d : DiceM M H) (h : EvA M tz σ H (Cons RI (Cons RI Nil)) (fun q => q.1 = lo ∧ q.2.1 = n)) (hn : lo ≤ n ∧ n < 1000000 ∧ -1000000 < lo) (Pv : Int → St → Hp → Prop) (h0 : ∀ H1, Xt M H H1 → Pv lo σ H1)
    (hs : ∀ (i : Int) σ' H', lo ≤ i → i < n → Pv i σ' H' → ts { D with nx := Pv (i + 1), ct := Pv (i + 1), bk := D.nx } (σ'.set j (some (.int i))) H') (hd : ∀ σ' H', Pv n σ' H' → D.nx σ' H') : tFor (iRng2 tz) (gName j) ts D σ H :=
  h H (.refl d) _ fun vs x H1 e1 hx ⟨v, r, e2, e3, w, r', e4, e5, e6⟩ => by
    obtain ⟨x1, x2, x3⟩ := x
    dsimp only at hx
    obtain ⟨rfl, rfl⟩ := hx
    cases (show r' = [] from e6); cases (show v = V.int x1 from e3); cases (show w = V.int x2 from e5); subst e4; subst e2
    refine ⟨x1, x2, rfl, by omega, ?_⟩
    refine for_range (lo := x1) (n := (x2 - x1).toNat) (fun i σ' H' => Pv (x1 + (i : Int)) σ' H') ?_ (fun i σ' H' hi p => ?_) (fun σ' H' p => hd σ' H' ?_)
    · have : x1 + ((0 : Nat) : Int) = x1 := by omega
      rw [this]; exact h0 H1 e1
    · have e0 : x1 + ((i + 1 : Nat) : Int) = x1 + (i : Int) + 1 := by omega
      rw [e0]
      exact hs (x1 + i) σ' H' (by omega) (by omega) p
    · have : x1 + (((x2 - x1).toNat : Nat) : Int) = x2 := by omega
      rwa [this] at p
/-- over a list, a tuple that stands in H -/
theorem l_seqL {xs : List α} {g : TG} {v0 : V} (d : DiceM M H) [Mo M R] (h : ∀ Q : VK, Q v0 H → tl σ H Q) (hr : RL M (All R) xs v0 H) (Pv : Nat → St → Hp → Prop) (h0 : Pv 0 σ H) (hst : ∀ i σ' H', Pv i σ' H' → Xt M H H')
    (hs : ∀ (i : Nat) v x σ' H', xs[i]? = some x → R x v H' → Pv i σ' H' → g v σ' H' fun σ2 H2 => ts { D with nx := Pv (i + 1), ct := Pv (i + 1), bk := D.nx } σ2 H2) (hd : ∀ σ' H', Pv xs.length σ' H' → D.nx σ' H') : tFor (iList K tl) g ts D σ H := by
  obtain ⟨a, ws, rfl, n, ha, hr⟩ := hr
  refine h _ ⟨a, rfl, ⟨ws, .of ha⟩, for_list (xs := ws) Pv h0 (fun i σ' H' _ p => .of ((hst i σ' H' p).keep a _ n ha)) (fun i v σ' H' hi p => ?_) (fun σ' H' p => ?_)⟩
  · obtain ⟨x, hx, rx⟩ := paired_at' hr hi
    exact hs i v x σ' H' hx (Mo.up (M := M) (hst i σ' H' p) rx) p
  · rw [paired_len hr] at p; exact hd σ' H' p
theorem l_seqT {xs : List α} {g : TG} {v0 : V} (d : DiceM M H) [Mo M R] (h : ∀ Q : VK, Q v0 H → tl σ H Q) (hr : RT M (All R) xs v0 H) (Pv : Nat → St → Hp → Prop) (h0 : Pv 0 σ H) (hst : ∀ i σ' H', Pv i σ' H' → Xt M H H')
    (hs : ∀ (i : Nat) v x σ' H', xs[i]? = some x → R x v H' → Pv i σ' H' → g v σ' H' fun σ2 H2 => ts { D with nx := Pv (i + 1), ct := Pv (i + 1), bk := D.nx } σ2 H2) (hd : ∀ σ' H', Pv xs.length σ' H' → D.nx σ' H') : tFor (iTup K tl) g ts D σ H := by
  obtain ⟨a, ws, rfl, n, ha, hr⟩ := hr
  refine h _ ⟨a, rfl, ⟨ws, .of ha⟩, for_tup (xs := ws) Pv h0 (fun i σ' H' _ p => .of ((hst i σ' H' p).keep a _ n ha)) (fun i v σ' H' hi p => ?_) (fun σ' H' p => ?_)⟩
  · obtain ⟨x, hx, rx⟩ := paired_at' hr hi
    exact hs i v x σ' H' hx (Mo.up (M := M) (hst i σ' H' p) rx) p
  · rw [paired_len hr] at p; exact hd σ' H' p
end
end GE

/-! GI: instances, defs in standard form, one value each. -/
namespace GE
open PySem PySem.Spec PyProof.Rows L2 GB
/-- the dice as an argument -/
def RD (M : Option Addr) : Rp Addr := fun d v _ => v = .ref d ∧ M = some d
/-- a promise in standard form, whatever the dice -/
def FnM {α γ : Type} (S : Option Addr → Rs α) (R'' : Option Addr → Rp γ) (pre : α → Prop) (f : α → γ → Prop) : Sp := fun vs H Q E => ∃ M, Fn M (S M) (R'' M) pre f vs H Q E
class Mfs {α : Type} (F : α → List (Str × V) → Hp → Prop) (M : Option Addr) : Prop where
  up : ∀ {x fs H H'}, Xt M H H' → F x fs H → F x fs H'
class Mlf {α : Type} (F : α → List (Str × V) → Hp → Prop) : Prop where
  l : ∀ {x fs H D vs vs'}, H D = some (.lst vs) → F x fs H → F x fs (upd H D (.lst vs'))
section
variable {M : Option Addr} {σ : St} {H : Hp} {te ta tb tc tl : TE} {t u : TT} {α β γ : Type} {R : Rp α} {R' : Rp β} {R'' : Rp γ} {A : α → Prop} {B : β → Prop} {i : Nat} {K : Frag} {X : Cx} {E : XK} {ts : TA}
instance : Mo M (RD M) := ⟨fun _ h => h⟩
instance {F : α → List (Str × V) → Hp → Prop} {C : Addr} [Mfs F M] : Mo M (RO M C F) := ⟨fun e ⟨a, dx, fs, h1, h2, h3, h4⟩ => ⟨a, dx, fs, h1, h2, e.keep _ _ h2 h3, Mfs.up (M := M) e h4⟩⟩
instance {F : α → List (Str × V) → Hp → Prop} {C : Addr} [Mlf F] : Ml (RO M C F) := ⟨fun e ⟨a, dx, fs, h1, h2, h3, h4⟩ => ⟨a, dx, fs, h1, h2, by rw [upd_ne (ne_of h3 e (by intro z; cases z))]; exact h3, Mlf.l e h4⟩⟩
theorem ea_cons1 [Mo M R] {S : Rs β} {x : α} {y : β} (ha : Ev M ta σ H R (Eq1 x)) (hb : EvA M ts σ H S (Eq1 y)) : EvA M (tCons ta ts) σ H (Cons R S) (Eq1 (x, y)) := (ea_cons ha hb).imp fun p ⟨h1, h2⟩ => Prod.ext h1 h2
theorem ev_d1 {S : Option Addr → Rs β} {R'' : Option Addr → Rp γ} {f : β → γ → Prop} {pre : β → Prop} {x : β} (ha : EvA M ts σ H (S M) (Eq1 x)) (hp : pre x) : Ev M (tD (FnM S R'' pre f) E ts) σ H (R'' M) (fun z => f x z) :=
  (ev_d (fun _ _ _ _ h => ⟨M, h⟩) ha (by rintro _ rfl; exact hp)).imp (by rintro z ⟨_, rfl, h⟩; exact h)
theorem ev_dS {S : Option Addr → Rs β} {R'' : Option Addr → Rp γ} {f : β → γ → Prop} {pre : β → Prop} (ha : EvA M ts σ H (S M) B) (hp : ∀ x, B x → pre x) : Ev M (tD (FnM S R'' pre f) E ts) σ H (R'' M) (fun z => ∃ x, B x ∧ f x z) :=
  ev_d (fun _ _ _ _ h => ⟨M, h⟩) ha hp
theorem ev_cb1 {S : Rs β} {r : List V → Hp → VK → Prop} {f : β → γ → Prop} {pre : β → Prop} {x : β} (hc : Cl M r S R'' f pre) (ha : EvA M ts σ H S (Eq1 x)) (hp : pre x) : Ev M (tCB r ts) σ H R'' (fun z => f x z) :=
  (ev_cb hc ha (by rintro _ rfl; exact hp)).imp (by rintro z ⟨_, rfl, h⟩; exact h)
theorem ev_cbf {S : Rs β} {r : List V → Hp → VK → Prop} {F : β → γ} {x : β} (hc : Cl M r S R'' (fun p z => z = F p) (fun _ => True)) (ha : EvA M ts σ H S (Eq1 x)) : Ev M (tCB r ts) σ H R'' (Eq1 (F x)) := ev_cb1 (f := fun p z => z = F p) (pre := fun _ => True) hc ha trivial
/-- a promise of one value -/
abbrev FnF {α γ : Type} (S : Option Addr → Rs α) (R'' : Option Addr → Rp γ) (pre : α → Prop) (F : α → γ) : Sp := FnM S R'' pre fun p z => z = F p
theorem ev_df {S : Option Addr → Rs β} {R'' : Option Addr → Rp γ} {F : β → γ} {pre : β → Prop} {x : β} (ha : EvA M ts σ H (S M) (Eq1 x)) (hp : pre x) : Ev M (tD (FnF S R'' pre F) E ts) σ H (R'' M) (Eq1 (F x)) := ev_d1 (f := fun p z => z = F p) ha hp
theorem ev_cbt {S : Rs β} {r : List V → Hp → VK → Prop} {f : β → γ → Prop} {x : β} (hc : Cl M r S R'' f (fun _ => True)) (ha : EvA M ts σ H S (Eq1 x)) : Ev M (tCB r ts) σ H R'' (fun z => f x z) := ev_cb1 hc ha trivial
theorem ev_opt [Mo M R] {r : R2} {f : α → β → γ} {x : α} {y : β} (ho : Op2 M r R R' R'' (fun x y z => z = f x y) (fun _ _ => True)) (ha : Ev M ta σ H R (Eq1 x)) (hb : Ev M tb σ H R' (Eq1 y)) : Ev M (tOp r ta tb) σ H R'' (Eq1 (f x y)) := ev_op1 ho ha hb trivial
/-- a relation's value, where it is one -/
theorem ev_opf [Mo M R] {r : R2} {f : α → β → γ → Prop} {pre : α → β → Prop} {x : α} {y : β} {z : γ} (ho : Op2 M r R R' R'' f pre) (ha : Ev M ta σ H R (Eq1 x)) (hb : Ev M tb σ H R' (Eq1 y)) (hp : pre x y) (hz : ∀ w, f x y w → w = z) : Ev M (tOp r ta tb) σ H R'' (Eq1 z) :=
  (ev_op ho ha hb (by rintro _ _ rfl rfl; exact hp)).imp (by rintro w ⟨_, rfl, _, rfl, h⟩; exact hz w h)
/-! ### instances -/
/-- o.f, an attribute -/
theorem ev_fld {C : Addr} {F : α → List (Str × V) → Hp → Prop} {f : Str} {g : α → γ} (c : Cls K C) (n : NoAttr K C f) (hf : ∀ x fs H, F x fs H → ∃ v, fs.lookup f = some v ∧ R'' (g x) v H) (ha : Ev M ta σ H (RO M C F) A) :
    Ev M (tFld K ta f) σ H R'' (fun z => ∃ x, A x ∧ z = g x) := fun H1 e Q q =>
  ha H1 e _ fun v x H2 e2 a ⟨p, dx, fs, h1, h2, h3, h4⟩ => by
    obtain ⟨w, l, r⟩ := hf x fs H2 h4
    exact ⟨p, C, dx, fs, w, h1, h3, c, n, l, q w (g x) H2 e2 ⟨x, a, rfl⟩ r⟩
theorem ev_fld1 {C : Addr} {F : α → List (Str × V) → Hp → Prop} {f : Str} {g : α → γ} {x : α} (c : Cls K C) (n : NoAttr K C f) (hf : ∀ x fs H, F x fs H → ∃ v, fs.lookup f = some v ∧ R'' (g x) v H) (ha : Ev M ta σ H (RO M C F) (Eq1 x)) :
    Ev M (tFld K ta f) σ H R'' (Eq1 (g x)) := (ev_fld c n hf ha).imp (by rintro z ⟨_, rfl, h⟩; exact h)
/-- o.f, a property by its getter's promise -/
theorem ev_pr {C : Addr} {F : α → List (Str × V) → Hp → Prop} {R'' : Option Addr → Rp γ} {f : α × Unit → γ → Prop} {pre : α × Unit → Prop} {x : α} [Mfs F M] (ha : Ev M ta σ H (RO M C F) (Eq1 x)) (hp : pre (x, ())) :
    Ev M (tPr C (FnM (fun M => Cons (RO M C F) Nil) R'' pre f) E ta) σ H (R'' M) (fun z => f (x, ()) z) := fun H1 e Q q =>
  ha H1 e _ fun v y H2 e2 a r => by
    cases (show y = x from a)
    obtain ⟨p, dx, fs, h1, h2, h3, h4⟩ := id r
    subst h1
    exact ⟨p, dx, fs, rfl, h3, M, (x, ()), e2.dice, ⟨_, [], rfl, r, rfl⟩, hp, fun w z H3 e3 hz rz => q w z H3 (e2.trans e3) hz rz⟩
theorem ev_prf {C : Addr} {F : α → List (Str × V) → Hp → Prop} {R'' : Option Addr → Rp γ} {g : α × Unit → γ} {pre : α × Unit → Prop} {x : α} [Mfs F M] (ha : Ev M ta σ H (RO M C F) (Eq1 x)) (hp : pre (x, ())) :
    Ev M (tPr C (FnF (fun M => Cons (RO M C F) Nil) R'' pre g) E ta) σ H (R'' M) (Eq1 (g (x, ()))) := ev_pr (f := fun p z => z = g p) ha hp
/-- o.m(..) -/
theorem ev_me {C : Addr} {m : Str} {F : α → List (Str × V) → Hp → Prop} {S : Option Addr → Rs β} {R'' : Option Addr → Rp γ} {f : α × β → γ → Prop} {pre : α × β → Prop} [Mfs F M] (hm : ∀ x fs H, F x fs H → fs.lookup m = none)
    (ha : Ev M ta σ H (RO M C F) A) (hb : EvA M ts σ H (S M) B) (hp : ∀ x y, A x → B y → pre (x, y)) :
    Ev M (tMe C m (FnM (fun M => Cons (RO M C F) (S M)) R'' pre f) E ta ts) σ H (R'' M) (fun z => ∃ x, A x ∧ ∃ y, B y ∧ f (x, y) z) := fun H1 e Q q =>
  ha H1 e _ fun v x H2 e2 a r => by
    obtain ⟨p, dx, fs, h1, h2, h3, h4⟩ := id r
    subst h1
    exact ⟨p, dx, fs, rfl, h3, hm x fs H2 h4, hb H2 (e.trans e2) _ fun vs y H3 e3 b ry =>
      ⟨M, (x, y), e3.dice, ⟨_, vs, rfl, Mo.up (M := M) e3 r, ry⟩, hp x y a b, fun w z H4 e4 hz rz => q w z H4 ((e2.trans e3).trans e4) ⟨x, a, y, b, hz⟩ rz⟩⟩
theorem ev_me1 {C : Addr} {m : Str} {F : α → List (Str × V) → Hp → Prop} {S : Option Addr → Rs β} {R'' : Option Addr → Rp γ} {f : α × β → γ → Prop} {pre : α × β → Prop} [Mfs F M] {x : α} {y : β} (hm : ∀ x fs H, F x fs H → fs.lookup m = none)
    (ha : Ev M ta σ H (RO M C F) (Eq1 x)) (hb : EvA M ts σ H (S M) (Eq1 y)) (hp : pre (x, y)) :
    Ev M (tMe C m (FnM (fun M => Cons (RO M C F) (S M)) R'' pre f) E ta ts) σ H (R'' M) (fun z => f (x, y) z) :=
  (ev_me hm ha hb (by rintro _ _ rfl rfl; exact hp)).imp (by rintro z ⟨_, rfl, _, rfl, h⟩; exact h)
theorem ev_mef {C : Addr} {m : Str} {F : α → List (Str × V) → Hp → Prop} {S : Option Addr → Rs β} {R'' : Option Addr → Rp γ} {g : α × β → γ} {pre : α × β → Prop} [Mfs F M] {x : α} {y : β} (hm : ∀ x fs H, F x fs H → fs.lookup m = none)
    (ha : Ev M ta σ H (RO M C F) (Eq1 x)) (hb : EvA M ts σ H (S M) (Eq1 y)) (hp : pre (x, y)) :
    Ev M (tMe C m (FnF (fun M => Cons (RO M C F) (S M)) R'' pre g) E ta ts) σ H (R'' M) (Eq1 (g (x, y))) := ev_me1 (f := fun p z => z = g p) hm ha hb hp
/-- f(..), f an instance -/
theorem ev_ci1 {C : Addr} {F : α → List (Str × V) → Hp → Prop} {S : Option Addr → Rs β} {R'' : Option Addr → Rp γ} {f : α × β → γ → Prop} {pre : α × β → Prop} [Mfs F M] {x : α} {y : β}
    (ha : Ev M ta σ H (RO M C F) (Eq1 x)) (hb : EvA M ts σ H (S M) (Eq1 y)) (hp : pre (x, y)) :
    Ev M (tCI C (FnM (fun M => Cons (RO M C F) (S M)) R'' pre f) E ta ts) σ H (R'' M) (fun z => f (x, y) z) := fun H1 e Q q =>
  ha H1 e _ fun v x' H2 e2 a r => by
    cases (show x' = x from a)
    obtain ⟨p, dx, fs, h1, h2, h3, h4⟩ := id r
    subst h1
    exact ⟨p, rfl, hb H2 (e.trans e2) _ fun vs y' H3 e3 b ry => by
      cases (show y' = y from b)
      exact ⟨⟨dx, fs, e3.keep _ _ h2 h3⟩, M, (x, y), e3.dice, ⟨_, vs, rfl, Mo.up (M := M) e3 r, ry⟩, hp, fun w z H4 e4 hz rz => q w z H4 ((e2.trans e3).trans e4) hz rz⟩⟩
theorem ev_cif {C : Addr} {F : α → List (Str × V) → Hp → Prop} {S : Option Addr → Rs β} {R'' : Option Addr → Rp γ} {g : α × β → γ} {pre : α × β → Prop} [Mfs F M] {x : α} {y : β}
    (ha : Ev M ta σ H (RO M C F) (Eq1 x)) (hb : EvA M ts σ H (S M) (Eq1 y)) (hp : pre (x, y)) :
    Ev M (tCI C (FnF (fun M => Cons (RO M C F) (S M)) R'' pre g) E ta ts) σ H (R'' M) (Eq1 (g (x, y))) := ev_ci1 (f := fun p z => z = g p) ha hb hp
/-- x op y, both instances -/
theorem o_own {C : Addr} {F : α → List (Str × V) → Hp → Prop} [Mfs F M] {R'' : Option Addr → Rp γ} {f : α × α × Unit → γ → Prop} {pre : α × α × Unit → Prop} :
    Op2 M (rOp C (FnM (fun M => Cons (RO M C F) (Cons (RO M C F) Nil)) R'' pre f) E) (RO M C F) (RO M C F) (R'' M) (fun x y z => f (x, y, ()) z) (fun x y => pre (x, y, ())) := by
  intro x y v u H d rx ry hp Q q
  obtain ⟨p, dx, fs, h1, h2, h3, h4⟩ := id rx
  obtain ⟨p', dx', fs', h1', h2', h3', h4'⟩ := id ry
  subst h1 h1'
  exact ⟨p, dx, fs, p', dx', fs', rfl, rfl, h3, h3', M, (x, y, ()), d, ⟨_, _, rfl, rx, _, _, rfl, ry, rfl⟩, hp, q⟩
theorem o_ownf {C : Addr} {F : α → List (Str × V) → Hp → Prop} [Mfs F M] {R'' : Option Addr → Rp γ} {g : α × α × Unit → γ} {pre : α × α × Unit → Prop} :
    Op2 M (rOp C (FnF (fun M => Cons (RO M C F) (Cons (RO M C F) Nil)) R'' pre g) E) (RO M C F) (RO M C F) (R'' M) (fun x y z => z = g (x, y, ())) (fun x y => pre (x, y, ())) := o_own (f := fun p z => z = g p)
theorem o_eqO {C : Addr} {F : α → List (Str × V) → Hp → Prop} [Mfs F M] {R'' : Option Addr → Rp γ} {f : α × α × Unit → γ → Prop} {pre : α × α × Unit → Prop} :
    Op2 M (rEqO K C (FnM (fun M => Cons (RO M C F) (Cons (RO M C F) Nil)) R'' pre f) E) (RO M C F) (RO M C F) (R'' M) (fun x y z => f (x, y, ()) z) (fun x y => pre (x, y, ())) := by
  intro x y v u H d rx ry hp Q q
  obtain ⟨p, dx, fs, h1, h2, h3, h4⟩ := id rx
  obtain ⟨p', dx', fs', h1', h2', h3', h4'⟩ := id ry
  subst h1 h1'
  exact ⟨p, dx, fs, p', dx', fs', rfl, rfl, h3, h3', M, (x, y, ()), d, ⟨_, _, rfl, rx, _, _, rfl, ry, rfl⟩, hp, q⟩
theorem o_eqOf {C : Addr} {F : α → List (Str × V) → Hp → Prop} [Mfs F M] {R'' : Option Addr → Rp γ} {g : α × α × Unit → γ} {pre : α × α × Unit → Prop} :
    Op2 M (rEqO K C (FnF (fun M => Cons (RO M C F) (Cons (RO M C F) Nil)) R'' pre g) E) (RO M C F) (RO M C F) (R'' M) (fun x y z => z = g (x, y, ())) (fun x y => pre (x, y, ())) := o_eqO (f := fun p z => z = g p)
end
section
variable {M : Option Addr} {σ : St} {H : Hp} {te ta tb : TE} {t : TT} {α : Type} {R : Rp α}
theorem ev_ifE {b : Bool} {x y : α} (h : EvT M t σ H (Eq1 b)) (h1 : b = true → Ev M ta σ H R (Eq1 x)) (h2 : b = false → Ev M tb σ H R (Eq1 y)) : Ev M (tIf t ta tb) σ H R (Eq1 (if b = true then x else y)) := fun H1 e Q q => h H1 e _ fun c H2 e2 hc => by
  subst hc
  cases c with
  | true => exact h1 rfl H2 (e.trans e2) _ fun w d H3 e3 hd rd => q w d H3 (e2.trans e3) hd rd
  | false => exact h2 rfl H2 (e.trans e2) _ fun w d H3 e3 hd rd => q w d H3 (e2.trans e3) hd rd
theorem et_yes : EvT M tYes σ H (Eq1 true) := fun H1 e Q q => q true H1 (.refl e.dice) rfl
end
theorem px0 {X : Cx} {s H sc cenv fp} : Passes (L2.CX X.prog X.w) (X.blk s H sc cenv fp) E0 := fun _ _ _ _ _ _ _ ⟨_, _, _, _, _, _, _, _, _, _, _, _, h⟩ => h.elim
theorem px0n {X : Cx} : Passes (L2.CX X.prog X.w) X.nox E0 := fun _ _ _ _ _ _ _ ⟨_, _, _, _, _, _, _, _, _, _, _, _, h⟩ => h.elim
/-! ### defs of the text -/
abbrev FunP (N : En) (x : Str) (st : Stmt) : Prop := (∃ fd, FunD N.K x x (defArgs st) (defBody st) (defScope st) [] [] (N.ga x) fd) ∧ N.mg x = some (.ref (N.ga x))
abbrev FunM (N : En) (C m q : Str) (st : Stmt) : Prop := (∃ fd, FunD N.K m q (defArgs st) (defBody st) (defScope st) [] [] (N.ma C m) fd) ∧ Meth N.K (N.ga C) m (N.ma C m) ∧ Cls N.K (N.ga C)
/-- what a body's proof gives: the walk from the arguments -/
abbrev Body (N : En) (k : Nat) (q : Str) (f : Addr) (st : Stmt) (Ns : List Str) (sp : Sp) : Prop := ∀ (cdv : Value) (A : Around) (outer : List Env) (s : Shared) (H : Hp) (vs : List V) (Q : VK) (E : XK), Room k (A.deeper (envOfC q (defScope st) s.heap.objs.size f cdv)) → sp vs H Q E →
      ∃ t, PSs (cxOf (L2.CX N.P N.w) N.P N.w N.K N.mg N.base Ns q (defScope st) f cdv A outer s H E) (defBody st) t ∧ t { nx := fun _ H' => Q .non H', rt := Q } (start Ns vs) H
theorem dn_mk {N : En} {k : Nat} {x : Str} {st : Stmt} {Ns ps : List Str} {sp : Sp} (F : FunP N x st) (S : FnScope Ns ps (defScope st))
    (bd : ∀ (kV doc pm : Value) (an : Option Addr) (cdv ct : Value) (us : List Value), us.length = ps.length → bindArgs (PySem.W.fnOf x x (defArgs st) (defBody st) (defScope st) .none kV doc pm an cdv ct) ⟨us, []⟩ = pure (ps.zip us))
    (len : ∀ vs H Q E, sp vs H Q E → vs.length = ps.length) (body : Body N k x (N.ga x) st Ns sp) : Dn N (k + 1) x sp := by
  obtain ⟨⟨fd, F⟩, g⟩ := F
  have z := (F.ok S len body : FnOk N.P N.w N.K N.mg N.base (L2.CX N.P N.w) (k + 1) _ fd ps sp).raw (F.bindsN bd) .nil
  exact ⟨z.imp fun vs H Q E q => by rw [List.append_nil]; exact q, g, F.kp⟩
theorem dm_mk {N : En} {k : Nat} {C m q : Str} {st : Stmt} {Ns ps : List Str} {sp : Sp} (F : FunM N C m q st) (S : FnScope Ns ps (defScope st))
    (bd : ∀ (kV doc pm : Value) (an : Option Addr) (cdv ct : Value) (us : List Value), us.length = ps.length → bindArgs (PySem.W.fnOf m q (defArgs st) (defBody st) (defScope st) .none kV doc pm an cdv ct) ⟨us, []⟩ = pure (ps.zip us))
    (len : ∀ vs H Q E, sp vs H Q E → vs.length = ps.length) (body : Body N k q (N.ma C m) st Ns sp) : Dm N (k + 1) C m sp := by
  obtain ⟨⟨fd, F⟩, g, c⟩ := F
  have z := (F.ok S len body : FnOk N.P N.w N.K N.mg N.base (L2.CX N.P N.w) (k + 1) _ fd ps sp).raw (F.bindsN bd) .nil
  exact ⟨z.imp fun vs H Q E q => by rw [List.append_nil]; exact q, g, c⟩
theorem Dn.imp {N : En} {k : Nat} {x : Str} {sp sp' : Sp} (D : Dn N k x sp) (h : ∀ vs H Q E, sp' vs H Q E → sp vs H Q E) : Dn N k x sp' := ⟨D.fn.imp h, D.g, D.kp⟩
theorem Dm.imp {N : En} {k : Nat} {C m : Str} {sp sp' : Sp} (D : Dm N k C m sp) (h : ∀ vs H Q E, sp' vs H Q E → sp vs H Q E) : Dm N k C m sp' := ⟨D.fn.imp h, D.m, D.c⟩
end GE

/-! GJ: != by an own ==; isinstance; more rules. -/
namespace GE
open PySem PySem.Spec PyProof.Rows L2 GB
section
variable {prog : Program} {w : World} {A : Around} {E : Value → Shared → Prop} {s : Shared} {K : Frag} {x C f : Addr} {ox : Obj} {od : Option Obj} {b tb : Value}
theorem check_ne {Q : Unit → Shared → Prop} (X : K.In s.heap) (I : PySem.W.InstAt s.heap x ox C od) (hm : PySem.W.subIn K (.ref C) (.type "object") = some true) (h : Q () s) :
    wpAny (model prog w) A (checkBuiltinCall "object.__ne__" ⟨[.ref x, b], []⟩) Q E s := by
  have L : PySem.W.Looks (model prog w) s.heap (isSubtype (.ref C) (.type "object")) true := PySem.W.looks_subIn X hm
  simp only [checkBuiltinCall, PySem.F.cmpKind_ne, PySem.F.cmpSplit_ne]
  refine wpAny_bind ?_
  unfold isInstance
  refine wpAny_bind (I.type.here (L.here ?_))
  have ha := PySem.F.cmpArgs_ne (.ref x) b
  rw [if_neg (by simp)]
  cases hsig : Manifest.signature? "object.__ne__" with
  | none => exact wpAny_pure h
  | some sig =>
    simp only [argsOk, hsig] at ha
    have h2 : Bind.checkArgs "object.__ne__" sig ⟨[.ref x, b], []⟩ = pure () := ha
    show wpAny _ A (Bind.checkArgs "object.__ne__" sig ⟨[.ref x, b], []⟩) Q E _
    rw [h2]; exact wpAny_pure h
theorem ne_K {Q : Bool → Shared → Prop} (hu : A.units + 1 < cLine) (X : K.In s.heap) (I : PySem.W.InstAt s.heap x ox C od) (hb : PySem.W.Looks (model prog w) s.heap (typeOf b) tb) (hn : PySem.W.notFirst K C tb = true)
    (hm : PySem.W.subIn K (.ref C) (.type "object") = some true) (hne : PySem.W.findIn K (.ref C) "__ne__" = some (some (.builtin "object.__ne__"))) (hs : PySem.W.findIn K (.ref C) "__eq__" = some (some (.ref f))) (hf : PySem.W.isFn K (.ref f) = true)
    (h : wpAny (model prog w) A.in1 (call (.ref f) [.ref x, b]) (fun v s' => ∃ r, v = .bool r ∧ Q r s') E s) : wpAny (model prog w) A (richCompare .NotEq (.ref x) b) (fun v s' => ∃ r, v = .bool (!r) ∧ Q r s') E s := by
  have call_ne : wpAny (model prog w) A (call (.builtin "object.__ne__") [.ref x, b]) (fun v s' => ∃ r, v = .bool (!r) ∧ Q r s') E s := by
    refine wpAny_call (codeAny_call_builtin (PySem.F.slot_object_ne).plain PySem.F.cmpEntry_ne (check_ne X I hm ?_))
    unfold Builtin.«object.__ne__»
    repeat (first | with_reducible refine wpAny_cRoomFor (show A.in1.units < cLine from hu) ?_ | (with_reducible refine wpAny_bind (PySem.W.ifBound_K X I hs hf (wpAny_mono h (fun v s' hv => ?_) fun _ _ e => e))) | wp_step)
    obtain ⟨r, rfl, hq⟩ := hv
    repeat (first | with_reducible refine wpAny_truthy_bool ?_ | wp_step)
    exact ⟨r, rfl, hq⟩
  have one : wpAny (model prog w) A (tryCompare (.ref x) "__ne__" b) (fun r s' => ∃ v, r = some v ∧ ∃ r, v = .bool (!r) ∧ Q r s') E s := by
    unfold tryCompare callSpecialIfBound? bindSpecialIfBound?
    refine wpAny_bind (wpAny_holding (wpAny_bind (wpAny_bind (wpAny_bind (I.type.here ((PySem.W.looks_findIn X hne).here ?_))))))
    have bd : bindSpecial (.builtin "object.__ne__") (.ref x) = pure (.builtin "object.__ne__", [.ref x]) := PySem.F.slot_object_ne.bind _
    dsimp only
    rw [bd]
    have fin : wpAny (model prog w) A (call (.builtin "object.__ne__") ([.ref x] ++ [b]) >>= fun v => pure (some v)) (fun a s' => wpAny (model prog w) A (match a with
            | some Value.notImplemented => pure none
            | none => pure none
            | some v => pure (some v)) (fun r s' => ∃ v, r = some v ∧ ∃ r, v = Value.bool !r ∧ Q r s') E s') E s := by
      refine wpAny_bind (wpAny_mono call_ne (fun v s' hv => ?_) fun _ _ e => e)
      obtain ⟨r, rfl, hq⟩ := hv
      exact wpAny_pure (wpAny_pure ⟨_, rfl, r, rfl, hq⟩)
    refine wpAny_bind (wpAny_askSetting (wpAny_ite ?_))
    split
    · exact wpAny_bind (wpAny_pure (wpAny_pure (by exact fin)))
    · exact wpAny_tryCatch (wpAny_bind (wpAny_pure (wpAny_pure (by exact fin))))
  unfold richCompare
  simp only [oneThing_ref]
  refine wpAny_holding (wpAny_bind (wpAny_cRoomFor (Nat.lt_of_succ_lt hu) ?_))
  refine wpAny_bind (I.type.here (wpAny_bind (hb.here ?_)))
  have e2 : (cmpInfo .NotEq).2.1 = ("__ne__" : Str) := rfl
  split
  · rename_i q
    have e : PySem.W.subIn K tb (.ref C) = some false := by
      rcases Bool.or_eq_true_iff.mp hn with e | e
      · rw [beq_iff_eq.mp e] at q; simp at q
      · exact beq_iff_eq.mp e
    refine wpAny_bind ((PySem.W.looks_subIn X e).here ?_)
    simp only [Bool.false_eq_true, if_false]
    refine wpAny_bind (wpAny_mono one (fun r s' z => ?_) fun _ _ e => e)
    obtain ⟨v, rfl, hq⟩ := z
    exact wpAny_pure hq
  · refine wpAny_bind (wpAny_pure ?_)
    simp only [Bool.false_eq_true, if_false]
    refine wpAny_bind (wpAny_mono one (fun r s' z => ?_) fun _ _ e => e)
    obtain ⟨v, rfl, hq⟩ := z
    exact wpAny_pure hq
end
/-- what != asks of the class, besides its == -/
structure NeC (K : Frag) (C : Addr) : Prop where
  hm : PySem.W.subIn K (.ref C) (.type "object") = some true
  hne : PySem.W.findIn K (.ref C) "__ne__" = some (some (.builtin "object.__ne__"))
/-- what isinstance asks of the class -/
structure IsC (K : Frag) (C : Addr) : Prop where
  ha : PySem.W.findIn K (.ref C) "__class__" = some (some (.builtin "object.__class__"))
  hn : PySem.W.specialIn K (.builtin "object.__class__") "__get__" = some (some (.builtin "getset_descriptor.__get__"))
  ht : PySem.W.takesIn K (.builtin "object.__class__") = some true
  hm : PySem.W.mroIn K C (.type "object") = some true
def rNeO (C : Addr) (sp : Sp) (E : XK) : R2 := fun x y H Q => ∃ a dx fs b dy gs, x = .ref a ∧ y = .ref b ∧ H a = some (.ins C dx fs) ∧ H b = some (.ins C dy gs) ∧ sp [x, y] H (fun z H' => ∃ r, z = .bl r ∧ Q (.bl (!r)) H') E
section
variable {X : Cx} {k : Nat} {C : Str} {sp : Sp} {E : XK} {M : Option Addr} {σ : St} {H : Hp} {te ta tb tc tl : TE} {t u : TT} {α β γ : Type} {R : Rp α} {R' : Rp β} {R'' : Rp γ} {A : α → Prop} {B : β → Prop} {i : Nat} {K : Frag} {ts : TA}
theorem op_neO (D : Dm (En.of X) k C "__eq__" sp) (nc : NeC X.K (He.ga X.K C)) (hr : Room (k + 1) X.A) (hx : Passes (L2.CX X.prog X.w) X E) : OpR X (compareOp .NotEq) (rNeO (He.ga X.K C) sp E) := by
  intro pins s σ H x y v u Q I rx ry h
  obtain ⟨a, dx, fs, b, dy, gs, rfl, rfl, ha, hb, q⟩ := h
  cases (show v = Value.ref a from rx)
  cases (show u = Value.ref b from ry)
  obtain ⟨mA, J, _⟩ := ins_get I.hok ha
  obtain ⟨mB, J', _⟩ := ins_get I.hok hb
  obtain ⟨od, J, _⟩ := J.look
  obtain ⟨od', J', _⟩ := J'.look
  show wpAny _ _ (richCompare .NotEq _ _) _ _ _
  have hu : X.A.units + 1 < cLine := by have := hr.units; omega
  refine wpAny_mono (ne_K (Q := fun r s' => ∃ H', Inv X pins σ H' s' ∧ Q (.bl (!r)) H') hu I.kIn J J'.type (by simp [PySem.W.notFirst]) nc.hm nc.hne D.m.at_ D.m.fn ?_) (fun w s' z => ?_) fun _ _ x => x
  · refine wpAny_mono (wpAny_call (SlX.run_at (us := [.ref a, .ref b]) (ws := [.ref a, .ref b]) D.fn (show Room k X.A.in1 from hr.in1) I.env0.in1 hx I (.cons rfl (.cons rfl .nil)) q)) (fun w s' z => ?_) fun _ _ x => x
    obtain ⟨z', H', I', rz, r, ez, qz⟩ := z
    subst ez
    exact ⟨r, rz, H', I', qz⟩
  · obtain ⟨r, e, H', I', q'⟩ := z
    exact ⟨.bl (!r), H', I', e, q'⟩
theorem o_neOf {C : Addr} {F : α → List (Str × V) → Hp → Prop} [Mfs F M] {g : α × α × Unit → Bool} {pre : α × α × Unit → Prop} :
    Op2 M (rNeO C (FnF (fun M => Cons (RO M C F) (Cons (RO M C F) Nil)) (fun _ => RB) pre g) E) (RO M C F) (RO M C F) RB (fun x y z => z = !g (x, y, ())) (fun x y => pre (x, y, ())) := by
  intro x y v u H d rx ry hp Q q
  obtain ⟨p, dx, fs, h1, h2, h3, h4⟩ := id rx
  obtain ⟨p', dx', fs', h1', h2', h3', h4'⟩ := id ry
  subst h1 h1'
  refine ⟨p, dx, fs, p', dx', fs', rfl, rfl, h3, h3', M, (x, y, ()), d, ⟨_, _, rfl, rx, _, _, rfl, ry, rfl⟩, hp, fun w z H2 e2 hz rz => ?_⟩
  exact ⟨z, rz, q (.bl (!z)) (!z) H2 e2 (congrArg (!·) hz) rfl⟩
/-! ### isinstance -/
theorem c_isi {t u : Value} {c : V} {b : Bool} (hc : ClsV c u) (hk : PySem.W.kitOne K t u = some b) (hty : ∀ x v H, R x v H → TyX K H v t) :
    Cl M (rIsi K) (Cons R (Cons RV Nil)) RB (fun _ z => z = b) (fun p => p.2.1 = c) := by
  rintro ⟨x, y, _⟩ vs H d ⟨v, r, rfl, rx, w, r', rfl, rw', rfl⟩ hp Q q
  have e1 : y = c := hp
  have e2 : w = y := rw'
  subst e2
  subst e1
  exact ⟨v, w, t, u, b, rfl, hc, hty _ _ _ rx, hk, q _ b H (.refl d) rfl rfl⟩
theorem ty_int {x v H} (h : RI x v H) : TyX K H v (.type "int") := by cases (show v = V.int x from h); exact .base (.int x)
theorem ty_bl {x v H} (h : RB x v H) : TyX K H v (.type "bool") := by cases (show v = V.bl x from h); exact .base (.bl x)
theorem ty_tup {S : Rs β} {x v H} (h : RT M S x v H) : TyX K H v (.type "tuple") := by obtain ⟨a, vs, rfl, _, h, _⟩ := h; exact .base (.tup h)
theorem ty_lst {S : Rs β} {x v H} (h : RL M S x v H) : TyX K H v (.type "list") := by obtain ⟨a, vs, rfl, _, h, _⟩ := h; exact .base (.lst h)
theorem ty_ins {C : Addr} {F : α → List (Str × V) → Hp → Prop} (c : Cls K C) (i : IsC K C) {x v H} (h : RO M C F x v H) : TyX K H v (.ref C) := by obtain ⟨a, dx, fs, rfl, _, h, _⟩ := h; exact .base (.ins h c i.ha i.hn i.ht i.hm)
/-- the class as an argument -/
theorem ev_cls {v : V} : Ev M (tC v) σ H RV (Eq1 v) := ev_c fun _ => rfl
/-! ### None -/
theorem o_isN : Op2 M (fun x y H Q => y = V.non ∧ Q (.bl (decide (x = .non))) H) (ROpt RI) RN RB (fun x _ z => z = x.isNone) (fun _ _ => True) := by
  rintro x y v u H d rx rfl _ Q q
  refine ⟨rfl, q _ _ H (.refl d) rfl ?_⟩
  cases x with
  | none => cases (show v = V.non from rx); rfl
  | some i => cases (show v = V.int i from rx); rfl
theorem o_isNI : Op2 M (fun x y H Q => y = V.non ∧ Q (.bl (decide (x = .non))) H) RI RN RB (fun _ _ z => z = false) (fun _ _ => True) := by
  rintro x y v u H d rfl rfl _ Q q
  exact ⟨rfl, q _ _ H (.refl d) rfl rfl⟩
/-! ### a < b < c, both asked -/
theorem ev_chain [Mo M R] [Mo M R'] {δ : Type} {R3 : Rp δ} {r r' : R2} {f : α → β → Bool} {g : β → δ → Bool} {x : α} {y : β} {z : δ} (h1 : Op2 M r R R' RB (fun x y z => z = f x y) (fun _ _ => True)) (h2 : Op2 M r' R' R3 RB (fun x y z => z = g x y) (fun _ _ => True))
    (ha : Ev M ta σ H R (Eq1 x)) (hb : Ev M tb σ H R' (Eq1 y)) (hc : Ev M tc σ H R3 (Eq1 z)) : Ev M (tChain r r' ta tb tc) σ H RB (Eq1 (f x y && g y z)) := fun H1 e Q q =>
  ha H1 e _ fun v x' H2 e2 a rx => hb H2 (e.trans e2) _ fun w y' H3 e3 b ry => by
    cases (show x' = x from a); cases (show y' = y from b)
    refine h1 x y v w H3 e3.dice (Mo.up (M := M) e3 rx) ry trivial _ fun p p' H4 e4 hp rp => ?_
    refine ⟨p', rp, ?_⟩
    cases (show p' = f x y from hp)
    cases hf : f x y with
    | true =>
      refine hc H4 ((e.trans e2).trans (e3.trans e4)) _ fun w2 z' H5 e5 c rz => ?_
      cases (show z' = z from c)
      exact h2 y z w w2 H5 e5.dice (Mo.up (M := M) (e4.trans e5) ry) rz trivial Q fun q1 q2 H6 e6 hq rq => q q1 q2 H6 (e2.trans (e3.trans (e4.trans (e5.trans e6)))) (by have hq' : q2 = g y z := hq; show q2 = (f x y && g y z); rw [hf, hq'] <;> rfl) rq
    | false => exact q _ false H4 (e2.trans (e3.trans e4)) (by show false = (f x y && g y z); rw [hf] <;> rfl) rfl
/-! ### lists -/
theorem paired_ints {H : Hp} {l : List Int} {ws : List V} (h : Paired (fun (x : Int) v => RI x v H) l ws) : ws = l.map V.int := by
  induction h with
  | nil => rfl
  | cons h _ ih => rw [List.map_cons, ← ih, (show _ = V.int _ from h)]
theorem c_sorted : Cl M (rSorted K) (Cons (RLI M) Nil) (RLI M) (fun p z => z.Perm p.1 ∧ z.Pairwise (· ≤ ·)) (fun p => p.1.length < 64) := by
  rintro ⟨l, _⟩ vs H d ⟨v, r, rfl, ⟨a, ws, rfl, n, ha, hr⟩, rfl⟩ hp Q q
  have hw : ws = l.map V.int := by
    have hr' : Paired (fun (x : Int) v => RI x v H) l ws := hr
    exact paired_ints hr'
  subst hw
  refine ⟨a, l, rfl, .of ha, hp, fun ns' p h1 h2 hn => q _ ns' _ (.new d hn) ⟨h1, h2⟩ ⟨p, ns'.map V.int, rfl, ne_dice d hn, upd_same, ?_⟩⟩
  clear h1 h2
  induction ns' with
  | nil => exact .nil
  | cons x l ih => exact .cons rfl (ih)
end
end GE

/-! GK: two for's in a comprehension; lists that grow; repeated lists. -/
namespace GE
open PySem PySem.Spec PyProof.Rows L2 GB
section
variable {M : Option Addr} {σ : St} {H : Hp} {te ta tb tc tl : TE} {t u : TT} {α β γ : Type} {R : Rp α} {R' : Rp β} {R'' : Rp γ} {A : α → Prop} {B : β → Prop} {i : Nat} {K : Frag} {ts : TA}
theorem ty_pos {Q : Bool → Hp → Prop} : tYes σ H Q = Q true H := rfl
/-- one more item, where the list is known -/
theorem Acc.step [Mo M R'] [Ml R'] {H0 H : Hp} {D : Addr} {l : List β} {y : β} (a : Acc M R' H0 D (Eq1 l) H) (hn : l.length < 1000000) (he : Ev M te σ H0 R' (Eq1 y)) :
    te σ H fun v H4 => ∃ acc, H4 D = some (.lst acc) ∧ acc.length < sizeLine ∧ Acc M R' H0 D (Eq1 (l ++ [y])) (upd H4 D (.lst (acc ++ [v]))) := by
  obtain ⟨hf, nd, e, vs, ys, h1, h2, h3⟩ := a
  cases (show ys = l from h3)
  refine he H e _ fun v y' H4 e4 hB ry => ?_
  cases (show y' = y from hB)
  have h4 : H4 D = some (.lst vs) := e4.keep D _ nd h1
  refine ⟨vs, h4, by rw [all_len h2]; exact Nat.lt_trans hn (by decide), hf, nd, Xt.put (e.trans e4) hf nd, vs ++ [v], _, upd_same, Mls.l (R := All R') h4 (All.snoc (Mos.up (M := M) (R := All R') e4 h2) ry), rfl⟩
theorem Acc.xt [Mo M R'] {H0 H H' : Hp} {D : Addr} {S : List β → Prop} (a : Acc M R' H0 D S H) (e : Xt M H H') : Acc M R' H0 D S H' := by
  obtain ⟨hf, nd, e0, vs, ys, h1, h2, h3⟩ := a
  exact ⟨hf, nd, e0.trans e, vs, ys, e.keep D _ nd h1, Mos.up (M := M) (R := All R') e h2, h3⟩
theorem Acc.done {H0 H : Hp} {D : Addr} {l : List β} (a : Acc M R' H0 D (Eq1 l) H) : RL M (All R') l (.ref D) H := by
  obtain ⟨hf, nd, e0, vs, ys, h1, h2, h3⟩ := a
  cases (show ys = l from h3)
  exact ⟨D, vs, rfl, nd, h1, h2⟩
/-- [te for x in range(n) for y in l] -/
theorem ev_lc2RL [Mo M R] [Mo M R'] [Ml R'] {g g1 : TG} {vs vs1 : List Nat} {tl1 : TE} {n : Int} {xs : List α} {f : Int → α → β} (τ : V → St) (τ1 : V → V → St) (hl : EvA M ts σ H (Cons RI Nil) (fun q => q.1 = n)) (hz : 0 ≤ n ∧ n < 10000 ∧ xs.length < 100)
    (hg : ∀ v x H Q, RI x v H → Q (τ v) H → g v (wipe σ vs) H Q) (hw : ∀ v, wipe (τ v) vs = wipe σ vs) {v1 : V} (hl1 : ∀ v H (Q : VK), Q v1 H → tl1 (τ v) H Q) (r1 : RL M (All R) xs v1 H)
    (hg1 : ∀ v w x H Q, R x w H → Q (τ1 v w) H → g1 w (wipe (τ v) vs1) H Q) (hw1 : ∀ v w, wipe (τ1 v w) vs1 = wipe (τ v) vs1)
    (he : ∀ H1, Xt M H H1 → ∀ x w y, 0 ≤ x → x < n → y ∈ xs → R y w H1 → Ev M te (τ1 (.int x) w) H1 R' (Eq1 (f x y))) :
    Ev M (tLc2 (iRng1 ts) g tYes (iList K tl1) g1 tYes te vs vs1) σ H (RL M (All R')) (Eq1 ((rng 0 n).flatMap fun x => xs.map (f x))) := fun H0 e0 Q q =>
  hl H0 e0 _ fun vs' x H1 e1 hx ⟨v, r, e2, e3, e4⟩ => by
    cases (show r = [] from e4); cases (show v = V.int x.1 from e3); subst e2
    refine ⟨x.1, rfl, by omega, by omega, fun D hD => ?_⟩
    obtain ⟨a, ws, rfl, na, ha, hr⟩ := Mo.up (M := M) (R := RL M (All R)) (e0.trans e1) r1
    have hlen : ∀ (k : Nat) (l : List α), ((rng 0 (k : Int)).flatMap fun x => xs.map (f x)).length = k * xs.length := fun k _ => by
      rw [List.length_flatMap]
      have : ((rng 0 (k : Int)).map fun a => (xs.map (f a)).length) = List.replicate k xs.length := by
        unfold rng; simp [List.map_const', Function.comp_def]
      rw [this]; simp
    have hstep : ∀ (k : Nat), ((rng 0 ((k + 1 : Nat) : Int)).flatMap fun x => xs.map (f x)) = ((rng 0 (k : Int)).flatMap fun x => xs.map (f x)) ++ xs.map (f (k : Int)) := fun k => by
      have : rng 0 ((k + 1 : Nat) : Int) = rng 0 (k : Int) ++ [(k : Int)] := by unfold rng; simp [List.range_succ]
      rw [this, List.flatMap_append]; simp
    have hn' : x.1 = n := hx
    refine ⟨fun i m H' => m = n.toNat - i ∧ i ≤ n.toNat ∧ Acc M R' H1 D (Eq1 ((rng 0 (i : Int)).flatMap fun x => xs.map (f x))) H', ⟨n.toNat, by simp, Nat.zero_le _, Acc.start e1.dice hD (by show [] = _; unfold rng; rfl)⟩, ?_⟩
    rintro i m H' ⟨rfl, hi, acc⟩
    by_cases hlt : i < n.toNat
    · refine .inr ⟨by show i < x.1.toNat; omega, fun H'' => Acc M R' H1 D (Eq1 ((rng 0 ((i + 1 : Nat) : Int)).flatMap fun x => xs.map (f x))) H'', fun H'' p => ⟨n.toNat - (i + 1), by omega, rfl, hlt, p⟩, fun v H'' y => ?_⟩
      obtain ⟨e, y⟩ := y
      subst e
      have y' : v = .int (i : Int) := by rw [y]; simp
      subst y'
      refine hg _ (i : Int) _ _ rfl ⟨hw _, ?_⟩
      rw [ty_pos]
      refine hl1 _ _ _ ⟨a, rfl, ⟨ws, .of (acc.ext.keep a _ na ha)⟩, ?_⟩
      refine ⟨fun j k H4 => k = xs.length - j ∧ j ≤ xs.length ∧ Acc M R' H1 D (Eq1 (((rng 0 (i : Int)).flatMap fun x => xs.map (f x)) ++ (xs.take j).map (f (i : Int)))) H4, ⟨xs.length, by simp, Nat.zero_le _, by simpa using acc⟩, ?_⟩
      rintro j k H4 ⟨rfl, hj, acc4⟩
      have hsq : SqL K H4 a ws := .of (acc4.ext.keep a _ na ha)
      by_cases hlt2 : j < xs.length
      · have hx1 : xs[j]? = some xs[j] := by simp [hlt2]
        obtain ⟨w, hw2, rw2⟩ := paired_at (i := j) hr hx1
        refine .inr ⟨⟨ws, w, hsq, hw2⟩, fun H5 => Acc M R' H1 D (Eq1 (((rng 0 (i : Int)).flatMap fun x => xs.map (f x)) ++ (xs.take (j + 1)).map (f (i : Int)))) H5, fun H5 p => ⟨xs.length - (j + 1), by omega, rfl, hlt2, p⟩, fun w' H5 y => ?_⟩
        obtain ⟨e5, y5⟩ := y
        subst e5
        have : w' = w := by have := y5 ws hsq; rw [hw2] at this; exact (Option.some.inj this).symm
        subst this
        refine hg1 _ w' xs[j] _ _ (Mo.up (M := M) acc4.ext rw2) ⟨hw1 _ _, ?_⟩
        rw [ty_pos]
        have htk : (xs.take (j + 1)).map (f (i : Int)) = (xs.take j).map (f (i : Int)) ++ [f (i : Int) xs[j]] := by rw [List.take_add_one, hx1, List.map_append]; rfl
        rw [htk, ← List.append_assoc]
        refine acc4.step ?_ (he H1 (e0.trans e1) (i : Int) w' xs[j] (by omega) (by omega) (List.getElem_mem _) rw2)
        rw [List.length_append, hlen i xs, List.length_map, List.length_take]
        have h1 : i * xs.length ≤ 10000 * 100 - 100 := by
          have := Nat.mul_le_mul (show i ≤ 9999 by omega) (show xs.length ≤ 99 by omega)
          omega
        omega
      · have e6 : j = xs.length := by omega
        subst e6
        refine .inl ⟨⟨ws, hsq, Nat.le_of_eq (paired_len hr)⟩, ?_⟩
        show Acc M R' H1 D (Eq1 _) H4
        rw [hstep i]
        simpa using acc4
    · have e6 : i = n.toNat := by omega
      subst e6
      refine .inl ⟨by show x.1.toNat ≤ n.toNat; omega, ?_⟩
      have hc : ((n.toNat : Nat) : Int) = n := by omega
      rw [hc] at acc
      exact q _ _ H' (e1.trans acc.ext) rfl acc.done
theorem o_rep [Mo M R] : Op2 M rRep (RL M (All R)) RI (RL M (All R)) (fun l k z => z = (List.replicate k.toNat l).flatten) (fun l k => 0 ≤ k ∧ k < 100000 ∧ l.length * k.toNat ≤ 1000000) := by
  rintro l k v u H d ⟨a, ws, rfl, n, ha, hr⟩ rfl ⟨h1, h2, h3⟩ Q q
  refine ⟨a, k, ws, rfl, rfl, ha, by omega, by omega, by rw [all_len hr]; exact Nat.le_trans h3 (by decide), fun p hp => q _ _ _ (.new d hp) rfl ⟨p, _, rfl, ne_dice d hp, upd_same, ?_⟩⟩
  have hr' : All R l ws (upd H p (.lst (List.replicate k.toNat ws).flatten)) := Mos.up (M := M) (R := All R) (.new d hp) hr
  generalize upd H p (.lst (List.replicate k.toNat ws).flatten) = H2 at hr'
  generalize k.toNat = m
  have app : ∀ {l : List α} {ws : List V} {l' ws'}, Paired (fun x v => R x v H2) l ws → Paired (fun x v => R x v H2) l' ws' → Paired (fun x v => R x v H2) (l ++ l') (ws ++ ws') := fun {l ws l' ws'} a b => by
    induction a with
    | nil => exact b
    | cons h _ ih => exact .cons h ih
  have key : ∀ m, Paired (fun x v => R x v H2) (List.replicate m l).flatten (List.replicate m ws).flatten := fun m => by
    induction m with
    | zero => exact .nil
    | succ m ih => rw [List.replicate_succ, List.replicate_succ, List.flatten_cons, List.flatten_cons]; exact app hr' ih
  exact key m
/-- D.extend(xs) -/
theorem Acc.extend [Mo M R'] [Ml R'] {H0 H : Hp} {D : Addr} {l xs : List β} {Q : Hp → Prop} {to : TE} (a : Acc M R' H0 D (Eq1 l) H) (ho : ∀ H (Q : VK), Q (.ref D) H → to σ H Q) (hn : l.length + xs.length ≤ 1000000) (he : Ev M te σ H0 (RL M (All R')) (Eq1 xs))
    (k : ∀ H', Acc M R' H0 D (Eq1 (l ++ xs)) H' → Q H') : tBM K "list" rExtend to (tCons te tNil) σ H (fun _ H' => Q H') := by
  obtain ⟨hf, nd, e, vs, ys, h1, h2, h3⟩ := a
  cases (show ys = l from h3)
  refine ho _ _ ⟨.inl ⟨rfl, _, .inl (.inl h1)⟩, ?_⟩
  refine he H e _ fun v y' H4 e4 hB ry => ?_
  cases (show y' = xs from hB)
  obtain ⟨b, ws, rfl, nb, hb, hr⟩ := ry
  have h4 : H4 D = some (.lst vs) := e4.keep D _ nd h1
  have h2' := Mos.up (M := M) (R := All R') e4 h2
  refine ⟨D, b, vs, ws, rfl, rfl, h4, hb, by rw [all_len h2, all_len hr]; exact Nat.le_trans hn (by decide), k _ ⟨hf, nd, Xt.put (e.trans e4) hf nd, vs ++ ws, _, upd_same, ?_, rfl⟩⟩
  refine Mls.l (R := All R') h4 ?_
  have app : ∀ {l : List β} {ws : List V} {l' ws'}, Paired (fun x v => R' x v H4) l ws → Paired (fun x v => R' x v H4) l' ws' → Paired (fun x v => R' x v H4) (l ++ l') (ws ++ ws') := fun {l ws l' ws'} a b => by
    induction a with
    | nil => exact b
    | cons h _ ih => exact .cons h ih
  exact app h2' hr
end
end GE

/-! GL: constructors, defaults, objects with slots, properties' defs, the head's hook with properties. -/
namespace GE
open PySem PySem.Spec PyProof.Rows L2 GB
abbrev FunMD (N : En) (C m q : Str) (st : Stmt) (dvs : List V) : Prop := (∃ fd, FunD N.K m q (defArgs st) (defBody st) (defScope st) dvs [] (N.ma C m) fd) ∧ Meth N.K (N.ga C) m (N.ma C m) ∧ Cls N.K (N.ga C)
/-- a method with defaults: n values given, the last defaults (from the j-th) put behind them -/
theorem dm_mkD {N : En} {k : Nat} {C m q : Str} {st : Stmt} {Ns ps : List Str} {sp : Sp} {dvs : List V} (n j : Nat) (hd : dvs ≠ []) (hn : n + (dvs.length - j) = ps.length) (F : ∃ fd, FunD N.K m q (defArgs st) (defBody st) (defScope st) dvs [] (N.ma C m) fd) (S : FnScope Ns ps (defScope st))
    (bd : ∀ (T : Addr) (kV doc pm : Value) (an : Option Addr) (cdv ct : Value) (us its : List Value), us.length = n → its.length = dvs.length →
      ∃ k, bindArgs (PySem.W.fnOf m q (defArgs st) (defBody st) (defScope st) (.ref T) kV doc pm an cdv ct) ⟨us, []⟩ = seqItems? (.ref T) >>= k ∧ k (some its.toArray) = pure (ps.zip (us ++ its.drop j)))
    (len : ∀ vs H Q E, sp vs H Q E → vs.length = ps.length) (body : Body N k q (N.ma C m) st Ns sp) : Fr N (k + 1) (N.ma C m) (fun vs H Q E => sp (vs ++ dvs.drop j) H Q E) := by
  obtain ⟨fd, F⟩ := F
  obtain ⟨ds, h1, h2⟩ := F.binds1 n j hd hn bd
  exact (F.ok S len body : FnOk N.P N.w N.K N.mg N.base (L2.CX N.P N.w) (k + 1) _ fd ps sp).raw h2 h1
/-- a method of a class with slots -/
abbrev FunS (N : En) (C m q : Str) (st : Stmt) : Prop := ∃ fd, FunD N.K m q (defArgs st) (defBody st) (defScope st) [] [] (N.ma C m) fd
theorem fs_mk {N : En} {k : Nat} {C m q : Str} {st : Stmt} {Ns ps : List Str} {sp : Sp} (F : FunS N C m q st) (S : FnScope Ns ps (defScope st))
    (bd : ∀ (kV doc pm : Value) (an : Option Addr) (cdv ct : Value) (us : List Value), us.length = ps.length → bindArgs (PySem.W.fnOf m q (defArgs st) (defBody st) (defScope st) .none kV doc pm an cdv ct) ⟨us, []⟩ = pure (ps.zip us))
    (len : ∀ vs H Q E, sp vs H Q E → vs.length = ps.length) (body : Body N k q (N.ma C m) st Ns sp) : Fr N (k + 1) (N.ma C m) sp := by
  obtain ⟨fd, F⟩ := F
  have z := (F.ok S len body : FnOk N.P N.w N.K N.mg N.base (L2.CX N.P N.w) (k + 1) _ fd ps sp).raw (F.bindsN bd) .nil
  exact z.imp fun vs H Q E q => by rw [List.append_nil]; exact q
/-- a property's getter -/
abbrev FunPr (N : En) (C f q : Str) (st : Stmt) : Prop := ∃ g fd, PropOf N.K (N.ga C) f (N.ma C f) g ∧ FunD N.K f q (defArgs st) (defBody st) (defScope st) [] [] g fd ∧ Cls N.K (N.ga C)
theorem dp_mk {N : En} {k : Nat} {C m q : Str} {st : Stmt} {Ns ps : List Str} {sp : Sp} (F : FunPr N C m q st) (S : FnScope Ns ps (defScope st))
    (bd : ∀ (kV doc pm : Value) (an : Option Addr) (cdv ct : Value) (us : List Value), us.length = ps.length → bindArgs (PySem.W.fnOf m q (defArgs st) (defBody st) (defScope st) .none kV doc pm an cdv ct) ⟨us, []⟩ = pure (ps.zip us))
    (len : ∀ vs H Q E, sp vs H Q E → vs.length = ps.length) (body : ∀ g, Body N k q g st Ns sp) : Dp N (k + 1) C m sp := by
  obtain ⟨g, fd, hp, F, c⟩ := F
  have z := (F.ok S len (body g) : FnOk N.P N.w N.K N.mg N.base (L2.CX N.P N.w) (k + 1) _ fd ps sp).raw (F.bindsN bd) .nil
  exact ⟨⟨g, hp, z.imp fun vs H Q E q => by rw [List.append_nil]; exact q⟩, c⟩
/-! ### constructors -/
def InitP {α γ : Type} (N : En) (C : Str) (S : Option Addr → Rs α) (F : γ → List (Str × V) → Hp → Prop) (pre : α → Prop) (f : α → γ → Prop) : Sp := fun vs H Q E =>
  ∃ M x a dx us H0, vs = V.ref a :: us ∧ Xt M H0 H ∧ H0 a = none ∧ H0 dx = none ∧ dx ≠ a ∧ M ≠ some a ∧ S M x us H0 ∧ pre x ∧ H a = some (.ins (N.ga C) dx []) ∧
    ∀ H' z fs, Xt M H0 H' → H' a = some (.ins (N.ga C) dx fs) → f x z → F z fs H' → Q .non H'
theorem dc_mk {α γ : Type} {N : En} {k : Nat} {C : Str} {S : Option Addr → Rs α} {F : γ → List (Str × V) → Hp → Prop} {pre : α → Prop} {f : α → γ → Prop} (hm : Mk N.K (N.ga C) (N.ma C "__init__")) (hg : N.mg C = some (.ref (N.ga C)))
    {dvs : List V} (fr : Fr N k (N.ma C "__init__") (fun vs H Q E => InitP N C S F pre f (vs ++ dvs) H Q E)) {S' : Option Addr → Rs α} (hS : ∀ {M x vs H}, S' M x vs H → S M x (vs ++ dvs) H) : Dc N k C (FnM S' (fun M => RO M (N.ga C) F) pre f) := by
  refine ⟨⟨_, hm, fr, fun vs H Q E h a dx h1 h2 h3 => ?_⟩, hg⟩
  obtain ⟨M, x, d, hs, hp, q⟩ := h
  refine ⟨M, x, a, dx, vs ++ dvs, H, rfl, ?_, h1, h2, h3, ne_dice d h1, hS hs, hp, upd_same, fun H' z fs e ha hf hF => ⟨rfl, q (.ref a) z H' e hf ⟨a, dx, fs, rfl, ne_dice d h1, ha, hF⟩⟩⟩
  have e1 : Xt M H (upd H dx (.own a)) := .new d h2
  exact e1.trans (.new e1.dice (by rw [upd_ne (fun z => h3 z.symm)]; exact h1))
theorem Dc.imp {N : En} {k : Nat} {C : Str} {sp sp' : Sp} (D : Dc N k C sp) (h : ∀ vs H Q E, sp' vs H Q E → sp vs H Q E) : Dc N k C sp' := by
  obtain ⟨⟨spI, h1, h2, h3⟩, g⟩ := D
  exact ⟨⟨spI, h1, h2, fun vs H Q E q => h3 vs H Q E (h vs H Q E q)⟩, g⟩
/-- the same for objects with slots -/
def RSl (M : Option Addr) (C : Addr) {α : Type} (g : α → List V) : Rp α := fun x v H => ∃ a dx, v = .ref a ∧ M ≠ some a ∧ M ≠ some dx ∧ dx ≠ a ∧ H a = some (SlX.SlO a C dx ((g x).map some)) ∧ H dx = some (.xd [])
instance {M : Option Addr} {C : Addr} {α : Type} {g : α → List V} : Mo M (RSl M C g) := ⟨fun e ⟨a, dx, h1, h2, h3, h4, h5, h6⟩ => ⟨a, dx, h1, h2, h3, h4, e.keep _ _ h2 h5, e.keep _ _ h3 h6⟩⟩
def InitS {α γ : Type} (N : En) (C : Str) (S : Option Addr → Rs α) (g : γ → List V) (pre : α → Prop) (f : α → γ → Prop) : Sp := fun vs H Q E =>
  ∃ M x a dx us H0, vs = V.ref a :: us ∧ Xt M H0 H ∧ H0 a = none ∧ H0 dx = none ∧ dx ≠ a ∧ M ≠ some a ∧ M ≠ some dx ∧ S M x us H0 ∧ pre x ∧ SlX.Slt H a (N.ga C) dx [] ∧
    ∀ H' z, Xt M H0 H' → H' a = some (SlX.SlO a (N.ga C) dx ((g z).map some)) → H' dx = some (.xd []) → f x z → Q .non H'
theorem dc_mkS {α γ : Type} {N : En} {k : Nat} {C : Str} {S : Option Addr → Rs α} {g : γ → List V} {pre : α → Prop} {f : α → γ → Prop} (hm : Mk N.K (N.ga C) (N.ma C "__init__")) (hg : N.mg C = some (.ref (N.ga C)))
    (fr : Fr N k (N.ma C "__init__") (InitS N C S g pre f)) : Dc N k C (FnM S (fun M => RSl M (N.ga C) g) pre f) := by
  refine ⟨⟨_, hm, fr, fun vs H Q E h a dx h1 h2 h3 => ?_⟩, hg⟩
  obtain ⟨M, x, d, hs, hp, q⟩ := h
  refine ⟨M, x, a, dx, vs, H, rfl, ?_, h1, h2, h3, ne_dice d h1, ne_dice d h2, hs, hp, .inl ⟨upd_same, rfl⟩, fun H' z e ha hb hf => ⟨rfl, q (.ref a) z H' e hf ⟨a, dx, rfl, ne_dice d h1, ne_dice d h2, h3, ha, hb⟩⟩⟩
  have e1 : Xt M H (upd H dx (.own a)) := .new d h2
  exact e1.trans (.new e1.dice (by rw [upd_ne (fun z => h3 z.symm)]; exact h1))
section
variable {M : Option Addr} {σ : St} {H : Hp} {te ta tb tv : TE} {α β γ : Type} {R : Rp α} {R'' : Rp γ} {A : α → Prop} {i : Nat} {K : Frag}
/-- o.f, a slot -/
theorem ev_sl {C p : Addr} {f : Str} {g : α → List V} {h : α → γ} {x : α} {w : V} (c : SlX.SCls K C) (t : SlX.Slot1 K C f p i) (hw : (g x)[i]? = some w) (hr : ∀ H, R'' (h x) w H) (ha : Ev M ta σ H (RSl M C g) (Eq1 x)) : Ev M (SlX.tSl K ta f) σ H R'' (Eq1 (h x)) := fun H1 e Q q =>
  ha H1 e _ fun v y H2 e2 hy ⟨a, dx, h1, h2, h3, h4, h5, h6⟩ => by
    cases (show y = x from hy)
    exact ⟨a, C, dx, p, _, i, w, h1, .inr ⟨h5, h6⟩, c, t, by rw [List.getElem?_map, hw]; rfl, q w (h x) H2 e2 rfl (hr H2)⟩
/-- self.f = e -/
theorem q_fld {D : Ends} {a C dx : Addr} {fs : List (Str × V)} {f : Str} {z : α} (d : DiceM M H) (hi : σ[i]? = some (some (V.ref a))) (ha : H a = some (.ins C dx fs)) (hn : M ≠ some a) (c : Cls K C) (n : NoAttr K C f) (hl : fs.length < 1000) (hv : Ev M tv σ H R (Eq1 z))
    (k : ∀ v H1, Xt M H H1 → R z v H1 → D.nx σ (upd H1 a (.ins C dx (putF f v fs)))) : sFld K (tVar i) tv f D σ H :=
  hv H (.refl d) _ fun v y H2 e2 hy r => by
    cases (show y = z from hy)
    exact ⟨_, hi, a, C, dx, fs, rfl, e2.keep _ _ hn ha, c, n, hl, k v H2 e2 r⟩
/-- self.f = e, a slot -/
theorem q_sl {D : Ends} {a C dx p : Addr} {vs : List (Option V)} {f : Str} {z : α} {j : Nat} (d : DiceM M H) (hi : σ[i]? = some (some (V.ref a))) (ha : ∀ H1, Xt M H H1 → SlX.Slt H1 a C dx vs) (c : SlX.SCls K C) (t : SlX.Slot1 K C f p j) (hv : Ev M tv σ H R (Eq1 z))
    (k : ∀ v H1, Xt M H H1 → R z v H1 → D.nx σ (SlX.slH H1 a C dx (SlX.putS j v vs))) : SlX.sSl K (tVar i) tv f D σ H :=
  hv H (.refl d) _ fun v y H2 e2 hy r => by
    cases (show y = z from hy)
    exact ⟨_, hi, a, C, dx, p, vs, j, rfl, ha H2 e2, c, t, k v H2 e2 r⟩
theorem Xt.slH {H0 : Hp} {a C dx : Addr} {vs : List (Option V)} (e : Xt M H0 H) (h1 : H0 a = none) (h2 : H0 dx = none) (n1 : M ≠ some a) (n2 : M ≠ some dx) : Xt M H0 (SlX.slH H a C dx vs) := Xt.put (Xt.put e h2 n2) h1 n1
end
/-! ### how many values -/
class Ln {β : Type} (S : Rs β) (n : outParam Nat) : Prop where
  len : ∀ {x vs H}, S x vs H → vs.length = n
instance : Ln Nil 0 := ⟨fun h => by cases (show _ = [] from h); rfl⟩
instance {α β : Type} {R : Rp α} {S : Rs β} {n : Nat} [Ln S n] : Ln (Cons R S) (n + 1) := ⟨fun ⟨v, r, e, _, h⟩ => by subst e; rw [List.length_cons, Ln.len h]⟩
theorem len1 {β : Type} {S : Rs β} {n : Nat} {B : β → Prop} [Ln S n] (hn : n ≤ 1000) : ∀ x vs H, S x vs H → B x → vs.length ≤ sizeLine := fun x vs H h _ => by rw [Ln.len h, sizeLine_eq]; omega
theorem len2 {α : Type} {R : Rp α} {l : List α} (hn : l.length ≤ 1000) : ∀ x vs H, All R x vs H → Eq1 l x → vs.length ≤ sizeLine := fun x vs H h e => by rw [all_len h, (show x = l from e), sizeLine_eq]; omega
/-! ### names, len of an own object, list(range(..)) -/
abbrev IntG (N : En) (x : Str) (z : Int) : Prop := ∃ t, N.mg x = some (.int z t)
section
variable {X : Cx} {k : Nat} {C x : Str} {sp : Sp} {E : XK} {M : Option Addr} {σ : St} {H : Hp} {te ta tb : TE} {α : Type} {K : Frag} {pos : Pos}
theorem pe_globI {z : Int} (hg : Gl X x) (h : IntG (En.of X) x z) (hd : (x == ("__debug__" : Str)) = false := by decide) : PE X (.Name x pos) (tC (.int z)) := by
  obtain ⟨t, e⟩ := h
  exact pe_glob hg e ⟨t, rfl⟩ hd
theorem pe_globR {a : Addr} (hg : Gl X x) (h : X.mg x = some (.ref a)) (hd : (x == ("__debug__" : Str)) = false := by decide) : PE X (.Name x pos) (tC (.ref a)) := pe_glob hg h rfl hd
def rLenO (C : Addr) (sp : Sp) (E : XK) : List V → Hp → VK → Prop := fun xs H Q => ∃ a dx fs, xs = [V.ref a] ∧ H a = some (.ins C dx fs) ∧ sp [V.ref a] H (fun z H' => ∃ n, z = V.int n ∧ (0 ≤ n ∧ n < 2 ^ 63) ∧ Q (.int n) H') E
theorem call_lenO (D : Dm (En.of X) k C "__len__" sp) (hr : Room (k + 1) X.A) (hx : Passes (L2.CX X.prog X.w) X E) : CallR X (.builtin "len") (rLenO (He.ga X.K C) sp E) := by
  intro pins s σ H xs us Q I r h
  obtain ⟨a, dx, fs, rfl, ha, q⟩ := h
  obtain ⟨u, rfl, rx⟩ := vals1 r
  cases (show u = Value.ref a from rx)
  obtain ⟨mA, J, _⟩ := ins_get I.hok ha
  obtain ⟨od, J, _⟩ := J.look
  obtain ⟨m, hF⟩ := I.fr
  refine PySem.W.len_K hF I.ok.mod.kin J D.m.at_ D.m.fn ?_
  refine wpAny_mono (wpAny_call (SlX.run_at (us := [.ref a]) (ws := [.ref a]) D.fn (show Room k X.A.in1 from hr.in1) I.env0.in1 hx I (.cons rfl .nil) q)) (fun w s' z => ?_) fun _ _ x => x
  obtain ⟨z', H', I', rz, n, ez, hn, qz⟩ := z
  subst ez
  obtain ⟨t, rfl⟩ := rz
  exact ⟨hn, .int n, H', I'.tok _, ⟨_, rfl⟩, qz⟩
theorem c_lenO {C : Addr} {F : α → List (Str × V) → Hp → Prop} [Mfs F M] {g : α × Unit → Int} {pre : α × Unit → Prop} :
    Cl M (rLenO C (FnF (fun M => Cons (RO M C F) Nil) (fun _ => RI) pre g) E) (Cons (RO M C F) Nil) RI (fun p z => z = g p) (fun p => pre p ∧ 0 ≤ g p ∧ g p < 2 ^ 63) := by
  rintro ⟨y, ⟨⟩⟩ vs H d ⟨v, r, rfl, ry, rfl⟩ ⟨hp, h0, h1⟩ Q q
  obtain ⟨p, dx, fs, e1, e2, e3, e4⟩ := id ry
  subst e1
  refine ⟨p, dx, fs, rfl, e3, M, (y, ()), d, ⟨_, [], rfl, ry, rfl⟩, hp, fun w z H2 e hz rz => ?_⟩
  cases (show z = g (y, ()) from hz)
  exact ⟨g (y, ()), rz, ⟨h0, h1⟩, q (.int (g (y, ()))) _ H2 e rfl rfl⟩
theorem ev_some {R : Rp α} {x : α} (h : Ev M te σ H R (Eq1 x)) : Ev M te σ H (ROpt R) (Eq1 (some x)) := fun H1 e Q q => h H1 e Q fun v y H2 e2 hy r => q v (some y) H2 e2 (congrArg some hy) r
theorem ev_none {R : Rp α} : Ev M (tC .non) σ H (ROpt R) (Eq1 none) := ev_c fun _ => rfl
theorem rgV_rng {a b : Int} {H : Hp} : All RI (rng a b) (rgV a b) H := by
  unfold rng rgV
  show Paired (fun x v => RI x v H) _ _
  induction (List.range (b - a).toNat) with
  | nil => exact .nil
  | cons i l ih => exact .cons rfl ih
theorem ev_lstRg1 {n : Int} (ha : Ev M ta σ H RI (Eq1 n)) (hn : 0 ≤ n ∧ n ≤ 1000000) : Ev M (tLstRg (tRg1 ta)) σ H (RL M (All RI)) (Eq1 (rng 0 n)) := fun H1 e Q q =>
  ha H1 e _ fun v z H2 e2 hz r => ⟨n, by rw [(show v = V.int z from r), (show z = n from hz)], .of_le (by decide) (by omega) (by decide) (by omega), fun p hp =>
    q _ _ _ (e2.trans (.new e2.dice hp)) rfl ⟨p, _, rfl, ne_dice e2.dice hp, upd_same, rgV_rng⟩⟩
end
/-! ### classes with slots, properties: by Bools -/
def sclsB (K : Frag) (C : Addr) : Bool := (PySem.W.plainGet K C Str.empty && PySem.W.isClsIn K C) && (PySem.W.plainOver K C && decide (PySem.W.findIn K (.ref C) "__setattr__" = some (some (.builtin "object.__setattr__"))))
theorem sclsB_ok {K : Frag} {C : Addr} (h : sclsB K C = true) : SlX.SCls K C := by
  obtain ⟨h1, h2⟩ := He.ba h
  obtain ⟨h3, h4⟩ := He.ba h1
  obtain ⟨h5, h6⟩ := He.ba h2
  exact ⟨h3, h4, h5, of_decide_eq_true h6⟩
def slotB (K : Frag) (C : Addr) (f : Str) (i : Nat) : Bool := match PySem.W.findIn K (.ref C) f with
  | some (some (.ref p)) => (decide (PySem.W.specialIn K (.ref p) "__get__" = some (some (.builtin "member_descriptor.__get__"))) && decide (PySem.W.takesIn K (.ref p) = some true)) && (decide (PySem.W.typeIn K (.ref p) = some (.type "member_descriptor")) && (decide (PySem.W.slotIn K p C = some i) && decide (i < 1000)))
  | _ => false
theorem slotB_ok {K : Frag} {C : Addr} {f : Str} {i : Nat} (h : slotB K C f i = true) : ∃ p, SlX.Slot1 K C f p i := by
  unfold slotB at h
  split at h
  · rename_i p e
    obtain ⟨h1, h2⟩ := He.ba h
    obtain ⟨h3, h4⟩ := He.ba h1
    obtain ⟨h5, h6⟩ := He.ba h2
    obtain ⟨h7, h8⟩ := He.ba h6
    exact ⟨p, e, of_decide_eq_true h3, of_decide_eq_true h4, of_decide_eq_true h5, of_decide_eq_true h7, of_decide_eq_true h8⟩
  · cases h
def isiB (K : Frag) (C : Addr) : Bool := (decide (PySem.W.findIn K (.ref C) "__class__" = some (some (.builtin "object.__class__"))) && decide (PySem.W.specialIn K (.builtin "object.__class__") "__get__" = some (some (.builtin "getset_descriptor.__get__")))) &&
  (decide (PySem.W.takesIn K (.builtin "object.__class__") = some true) && decide (PySem.W.mroIn K C (.type "object") = some true))
theorem isiB_ok {K : Frag} {C : Addr} (h : isiB K C = true) : IsC K C := by
  obtain ⟨h1, h2⟩ := He.ba h
  obtain ⟨h3, h4⟩ := He.ba h1
  obtain ⟨h5, h6⟩ := He.ba h2
  exact ⟨of_decide_eq_true h3, of_decide_eq_true h4, of_decide_eq_true h5, of_decide_eq_true h6⟩
theorem IsC.s {K : Frag} {C : Addr} (h : IsC K C) : SlX.SIsi K C := ⟨h.ha, h.hn, h.ht, h.hm⟩
def kitB (K : Frag) (t u : Value) (b : Bool) : Bool := decide (PySem.W.kitOne K t u = some b)
theorem kitB_ok {K : Frag} {t u : Value} {b : Bool} (h : kitB K t u b = true) : PySem.W.kitOne K t u = some b := of_decide_eq_true h
def necB (K : Frag) (C : Addr) : Bool := decide (PySem.W.subIn K (.ref C) (.type "object") = some true) && decide (PySem.W.findIn K (.ref C) "__ne__" = some (some (.builtin "object.__ne__")))
theorem necB_ok {K : Frag} {C : Addr} (h : necB K C = true) : NeC K C := by
  obtain ⟨h1, h2⟩ := He.ba h
  exact ⟨of_decide_eq_true h1, of_decide_eq_true h2⟩
def prG (K : Frag) (q : Str × Str) : Addr := match PySem.W.recIn K (He.ma K (He.ga K q.1) q.2) "property" with
  | some (.ref g :: _) => g
  | _ => 0
def prB (K : Frag) (q : Str × Str) : Bool := decide (PySem.W.findIn K (.ref (He.ga K q.1)) q.2 = some (some (.ref (He.ma K (He.ga K q.1) q.2)))) && (decide (PySem.W.specialIn K (.ref (He.ma K (He.ga K q.1) q.2)) "__get__" = some (some (.builtin "property.__get__"))) &&
  (decide (PySem.W.takesIn K (.ref (He.ma K (He.ga K q.1) q.2)) = some true) && (match PySem.W.recIn K (He.ma K (He.ga K q.1) q.2) "property" with
    | some (.ref _ :: _) => true
    | _ => false)))
theorem prB_ok {K : Frag} {q : Str × Str} (h : prB K q = true) : PropOf K (He.ga K q.1) q.2 (He.ma K (He.ga K q.1) q.2) (prG K q) := by
  obtain ⟨h1, h2⟩ := He.ba h
  obtain ⟨h3, h4⟩ := He.ba h2
  obtain ⟨h5, h6⟩ := He.ba h4
  refine ⟨of_decide_eq_true h1, of_decide_eq_true h3, of_decide_eq_true h5, ?_⟩
  unfold prG
  split at h6
  · rename_i g r e
    rw [e]
    exact ⟨r, rfl⟩
  · cases h6
/-- a property's def: the class, the name, its qualified name, the getter's statement -/
structure PrD where
  C : Str
  f : Str
  qual : Str
  st : Stmt
def PrD.d (p : PrD) : He.DefD := ⟨(p.C, none), p.f, p.qual, defArgs p.st, defBody p.st, defScope p.st, [], []⟩
def fnP (K : Frag) (a : Addr) : He.FnW := (K.lookup a).bind fun o => match o.data with
  | .func fd => some (fd.name, fd.qualname, fd.params, fd.body, fd.scope, fd.globals, fd.closure, fd.builtins)
  | _ => none
def okP (K : Frag) (p : PrD) : Bool := PySem.W.keepIn K (.ref (prG K (p.C, p.f))) && (prB K (p.C, p.f) && (match K.lookup (prG K (p.C, p.f)) with
  | some ⟨_, _, .func fd, _⟩ => PySem.W.codeIn K fd.code p.qual && (He.dflB K fd.defaults [] && He.kwdB K fd.kwdefaults [])
  | _ => false))
theorem okP_fun {K : Frag} {p : PrD} (e : fnP K (prG K (p.C, p.f)) = p.d.val) (c : okP K p = true) : ∃ fd, FunD K p.f p.qual (defArgs p.st) (defBody p.st) (defScope p.st) [] [] (prG K (p.C, p.f)) fd := by
  obtain ⟨kp, c1⟩ := He.ba c
  obtain ⟨_, c2⟩ := He.ba c1
  unfold fnP at e
  cases q : K.lookup (prG K (p.C, p.f)) with
  | none => rw [q] at c2; cases c2
  | some o =>
    obtain ⟨oc, od, dt, osl⟩ := o
    rw [q] at c2 e
    cases dt with
    | func fd =>
      obtain ⟨n1, n2, n3, n4, n5, n6, n7, n8, n9, n10, n11, n12, n13, n14, n15⟩ := fd
      have e2 : (some (n1, n2, n3, n4, n5, n6, n7, n15) : He.FnW) = some (p.f, p.qual, defArgs p.st, .stmts (defBody p.st), defScope p.st, mainGlobals, [], builtinsNs) := e
      simp only [Option.some.injEq, Prod.mk.injEq] at e2
      obtain ⟨h1, h2, h3, h4, h5, h6, h7, h8⟩ := e2
      subst h1 h2 h3 h4 h5 h6 h7 h8
      have c3 : (PySem.W.codeIn K n13 p.qual && (He.dflB K n8 [] && He.kwdB K n9 [])) = true := c2
      obtain ⟨k1, k2⟩ := He.ba c3
      obtain ⟨k3, k4⟩ := He.ba k2
      exact ⟨_, ⟨oc, od, n8, n9, n10, n11, n12, n13, n14, osl, rfl, q, k1, He.dflB_ok k3, He.kwdB_ok k4⟩, kp⟩
    | _ => cases c2
/-- the head's hook: facts, defs, properties, one more Bool -/
structure SaysP (fa : List He.Fa) (fn : List He.DefD) (pr : List PrD) (ex : Frag → Bool) (K : Frag) : Prop where
  d : He.SaysD fa fn K
  p : pr.map (fun p => fnP K (prG K (p.C, p.f))) = pr.map fun p => p.d.val
  ok : (pr.all fun p => okP K p) = true
  more : ex K = true
abbrev AlP : Type := He.AlD × List He.FnW × Bool
def obK (fa : List He.Fa) (fn : List He.DefD) (pr : List PrD) (ex : Frag → Bool) (K : Frag) : AlP := (He.obsD fa fn K, pr.map (fun p => fnP K (prG K (p.C, p.f))), (pr.all fun p => okP K p) && ex K)
def obP (n : Nat) (fa : List He.Fa) (fn : List He.DefD) (pr : List PrD) (ex : Frag → Bool) (g : Addr → Option Obj) : AlP := obK fa fn pr ex (He.frT g (He.asD g n))
def hookP (n : Nat) (fa : List He.Fa) (fn : List He.DefD) (pr : List PrD) (ex : Frag → Bool) : PySem.W.Hook where
  α := AlP
  obs := fun s => obP n fa fn pr ex s.heap.get?
  val := fun _ => (He.valD fn, pr.map (fun p => p.d.val), true)
  says := fun _ h => ∃ K : Frag, K.In h ∧ SaysP fa fn pr ex K
  of := fun _ _ e => ⟨_, He.frT_in, by
    have e1 := congrArg (fun z : AlP => z.1) e
    have e2 := congrArg (fun z : AlP => z.2.1) e
    have e3 := congrArg (fun z : AlP => z.2.2) e
    obtain ⟨h1, h2⟩ := He.ba e3
    exact ⟨e1, e2, h1, h2⟩⟩
  keeps := fun _ _ _ ⟨K, hK, c⟩ k => ⟨K, PySem.W.Frag.In.keeps hK k, c⟩
theorem obP_eq {n : Nat} {fa : List He.Fa} {fn : List He.DefD} {pr : List PrD} {ex : Frag → Bool} {g : Addr → Option Obj} {s : Shared} (h : ∀ a, g a = s.heap.get? a) : obP n fa fn pr ex g = (hookP n fa fn pr ex).obs s := by
  have e : g = s.heap.get? := funext h
  rw [e] <;> rfl
theorem SaysP.prop {fa : List He.Fa} {fn : List He.DefD} {pr : List PrD} {ex : Frag → Bool} {N : En} (c : SaysP fa fn pr ex N.K) (i : Nat) {p : PrD} (h : pr[i]? = some p) (hc : Cls N.K (N.ga p.C)) : FunPr N p.C p.f p.qual p.st := by
  have e2 : (pr.map (fun p => fnP N.K (prG N.K (p.C, p.f))))[i]? = (pr.map fun p => p.d.val)[i]? := by rw [c.p]
  rw [List.getElem?_map, List.getElem?_map, h] at e2
  have ok := List.all_eq_true.mp c.ok p (List.mem_of_getElem? h)
  obtain ⟨fd, F⟩ := okP_fun (Option.some.inj e2) ok
  exact ⟨_, fd, prB_ok (He.ba (He.ba ok).2).1, F, hc⟩
end GE

/-! GD: the script, the dice. -/
namespace GE
open PySem PySem.Spec PyProof.Rows L2 GB
/-- the script, wherever it stands -/
def RSq (K : Frag) (M : Option Addr) : Rp (List Int) := fun l v H => ∃ a, v = .ref a ∧ ((∃ o, H a = some o ∧ M ≠ some a ∧ ∀ H' : Hp, H' a = some o → SqL K H' a (l.map V.int)) ∨ ∀ H' : Hp, SqL K H' a (l.map V.int))
instance {K : Frag} {M : Option Addr} : Mo M (RSq K M) := ⟨fun e ⟨a, h1, h⟩ => ⟨a, h1, h.imp (fun ⟨o, h2, h3, h4⟩ => ⟨o, e.keep _ _ h3 h2, h3, h4⟩) id⟩⟩
theorem rsq_of {K : Frag} {l : List Int} {a : Addr} {H : Hp} (h : SqL K H a (l.map V.int)) : RSq K none l (.ref a) H := by
  refine ⟨a, rfl, ?_⟩
  rcases h with (h | ⟨o, h⟩) | h
  · exact .inl ⟨_, h, nofun, fun H' e => .inl (.inl e)⟩
  · exact .inl ⟨_, h, nofun, fun H' e => .inl (.inr ⟨o, e⟩)⟩
  · exact .inr fun H' => .inr h
theorem RSq.sq {K : Frag} {M : Option Addr} {l : List Int} {v : V} {H : Hp} (h : RSq K M l v H) : ∃ a, v = .ref a ∧ SqL K H a (l.map V.int) := by
  obtain ⟨a, e, ⟨o, h1, _, h2⟩ | h⟩ := h
  · exact ⟨a, e, h2 H h1⟩
  · exact ⟨a, e, h H⟩
/-- a dice made: what stood before stays under it -/
theorem RSq.dice {K : Frag} {l : List Int} {v : V} {H H' : Hp} {d : Addr} (h : RSq K none l v H) (e : Xt none H H') (hd : H d = none) : RSq K (some d) l v H' := by
  obtain ⟨a, ev, ⟨o, h1, _, h2⟩ | h⟩ := h
  · exact ⟨a, ev, .inl ⟨o, e.keep _ _ nofun h1, (fun z => by cases z; rw [h1] at hd; cases hd), h2⟩⟩
  · exact ⟨a, ev, .inr h⟩
section
variable {M : Option Addr} {K : Frag}
theorem c_lenQ : Cl M (fun xs H Q => ∃ p ys, xs = [V.ref p] ∧ (SqL K H p ys ∨ SqT K H p ys) ∧ Q (.int (ys.length : Int)) H) (Cons (RSq K M) Nil) RI (fun p z => z = (p.1.length : Int)) (fun _ => True) := by
  rintro ⟨x, _⟩ vs H d ⟨v, r, rfl, h, rfl⟩ _ Q q
  obtain ⟨a, rfl, h2⟩ := h.sq
  exact ⟨a, _, rfl, .inl h2, q _ _ H (.refl d) rfl (by show V.int _ = V.int _; rw [List.length_map])⟩
theorem o_ixQ : Op2 M (rIxL K) (RSq K M) RI RI (fun l i z => atI l i = some z) (fun l i => (atI l i).isSome = true) := by
  rintro l i v u H d h rfl hs Q q
  obtain ⟨a, rfl, h0⟩ := h.sq
  obtain ⟨z, hz⟩ := Option.isSome_iff_exists.mp hs
  have hr : All RI l (l.map V.int) H := by
    clear h hs hz h0 q d
    show Paired (fun x v => RI x v H) _ _
    induction l with
    | nil => exact .nil
    | cons x l ih => exact .cons rfl ih
  obtain ⟨w, h1, h2⟩ := atI_rep hr hz
  exact ⟨a, _, i, w, rfl, rfl, h0, h1, q w z H (.refl d) hz h2⟩
end
theorem q_args {M : Option Addr} {ts : TA} {σ : L2.St} {H : Hp} {β : Type} {S : Rs β} {B : β → Prop} {Q : List V → Hp → Prop} (d : DiceM M H) (h : EvA M ts σ H S B) (k : ∀ vs y H1, Xt M H H1 → B y → S y vs H1 → Q vs H1) : ts σ H Q := h H (.refl d) Q k
theorem par2 {α β : Type} {x : α} {y : β} : ∀ p : α × β × Unit, Eq1 (x, y, ()) p → Eq1 x p.1 ∧ Eq1 y p.2.1 ∧ p.2.2 = () := fun _ h => ⟨congrArg (fun q => q.1) h, congrArg (fun q => q.2.1) h, rfl⟩
theorem par2n {α β : Type} {A : α → Prop} {B : β → Prop} {C : Unit → Prop} : ∀ p : α × β × Unit, (A p.1 ∧ B p.2.1 ∧ C p.2.2) → A p.1 ∧ B p.2.1 ∧ p.2.2 = () := fun _ h => ⟨h.1, h.2.1, rfl⟩
theorem rg1 {n : Int} : ∀ q : Int × Unit, Eq1 (n, ()) q → q.1 = n := fun _ h => congrArg Prod.fst h
theorem rg2 {m n : Int} : ∀ q : Int × Int × Unit, Eq1 (m, n, ()) q → q.1 = m ∧ q.2.1 = n := fun _ h => ⟨congrArg (fun q => q.1) h, congrArg (fun q => q.2.1) h⟩
theorem rg3 {m n l : Int} : ∀ q : Int × Int × Int × Unit, Eq1 (m, n, l, ()) q → q.1 = m ∧ q.2.1 = n ∧ q.2.2.1 = l := fun _ h => ⟨congrArg (fun q => q.1) h, congrArg (fun q => q.2.1) h, congrArg (fun q => q.2.2.1) h⟩
theorem law_mk {N : En} {k : Nat} {x : Str} {st : Stmt} {Ns ps : List Str} {sp : Sp} {fd : FuncData} (F : FunD N.K x x (defArgs st) (defBody st) (defScope st) [] [] (N.ga x) fd) (S : FnScope Ns ps (defScope st)) (len : ∀ vs H Q E, sp vs H Q E → vs.length = ps.length) (body : Body N k x (N.ga x) st Ns sp) : FnOk N.P N.w N.K N.mg N.base (L2.CX N.P N.w) (k + 1) (N.ga x) fd ps sp := F.ok S len body
def sp_dice (K : Frag) : Sp := fun vs H Q _ => ∃ v l at', vs = [v, V.int at'] ∧ RSq K none l v H ∧ (0 ≤ at' ∧ at' < 1000) ∧ ∀ d H' x y, Xt none H H' → H d = none → H' d = some (.lst [.int x, .int y, .int 0]) → Q (.ref d) H'
abbrev sp_roll : Sp := FnM (fun M => Cons (RD M) (Cons RI Nil)) (fun _ => RI) (fun p => 0 < p.2.1 ∧ p.2.1 < 1000000000) (fun p z => 0 ≤ z ∧ z < p.2.1)
theorem old {M : Option Addr} {H H' : Hp} {a : Addr} (e : Xt M H H') (n : M ≠ some a) (h : H' a = none) : H a = none := by
  cases q : H a with
  | none => rfl
  | some o => rw [e.keep a o n q] at h; cases h
/-- a dice of the one kind: what Xt (some d) says of a fresh one -/
theorem xt_none {H H' : Hp} {d : Addr} (e : Xt (some d) H H') (h : H d = none) : Xt none H H' := ⟨fun a o _ q => e.keep a o (fun z => by cases z; rw [h] at q; cases q) q, trivial⟩
end GE
namespace GE
open PySem PySem.Spec PyProof.Rows L2 GB
section
variable {M : Option Addr} {σ : L2.St} {H : Hp} {tz : TA} {tl : TE} {ts w : TS} {D : Ends} {α : Type} {R : Rp α} {K : Frag} {g : TG}
theorem l_for1 {n : Int} {j : Nat} (d : DiceM M H) (h : EvA M tz σ H (Cons RI Nil) (fun q => q.1 = n)) (hn : 0 ≤ n ∧ n < 1000000) (Pv : Int → L2.St → Hp → Prop) (h0 : ∀ H1, Xt M H H1 → Pv 0 σ H1)
    (hs : ∀ (i : Int) σ' H', 0 ≤ i → i < n → Pv i σ' H' → ts { D with nx := Pv (i + 1), ct := Pv (i + 1), bk := D.nx } (σ'.set j (some (.int i))) H') (hd : ∀ σ' H', Pv n σ' H' → D.nx σ' H') : tFor (iRng1 tz) (gName j) ts D σ H :=
  l_rng1 d h hn.2 Pv h0 hs (fun σ' H' a _ => hd σ' H' (a hn.1)) (by omega)
theorem q_for1 {n : Int} {j : Nat} (d : DiceM M H) (h : EvA M tz σ H (Cons RI Nil) (fun q => q.1 = n)) (hn : 0 ≤ n ∧ n < 1000000) (Pv : Int → L2.St → Hp → Prop) (h0 : ∀ H1, Xt M H H1 → Pv 0 σ H1)
    (hs : ∀ (i : Int) σ' H', 0 ≤ i → i < n → Pv i σ' H' → ts { D with nx := Pv (i + 1), ct := Pv (i + 1), bk := w D } (σ'.set j (some (.int i))) H') (hd : ∀ σ' H', Pv n σ' H' → w D σ' H') : tSeq (tFor (iRng1 tz) (gName j) ts) w D σ H :=
  l_for1 (D := { D with nx := w D }) d h hn Pv h0 hs hd
theorem q_for2 {lo n : Int} {j : Nat} (d : DiceM M H) (h : EvA M tz σ H (Cons RI (Cons RI Nil)) (fun q => q.1 = lo ∧ q.2.1 = n)) (hn : lo ≤ n ∧ n < 1000000 ∧ -1000000 < lo) (Pv : Int → L2.St → Hp → Prop) (h0 : ∀ H1, Xt M H H1 → Pv lo σ H1)
    (hs : ∀ (i : Int) σ' H', lo ≤ i → i < n → Pv i σ' H' → ts { D with nx := Pv (i + 1), ct := Pv (i + 1), bk := w D } (σ'.set j (some (.int i))) H') (hd : ∀ σ' H', Pv n σ' H' → w D σ' H') : tSeq (tFor (iRng2 tz) (gName j) ts) w D σ H :=
  l_rng2 (D := { D with nx := w D }) d h hn Pv h0 hs hd
theorem l_forL {xs : List α} (d : DiceM M H) [Mo M R] (h : Ev M tl σ H (RL M (All R)) (Eq1 xs)) (Pv : Hp → Nat → L2.St → Hp → Prop) (h0 : ∀ H1, Xt M H H1 → Pv H1 0 σ H1) (hst : ∀ H1 i σ' H', Pv H1 i σ' H' → Xt M H1 H')
    (hs : ∀ H1, Xt M H H1 → ∀ (i : Nat) v x σ' H', xs[i]? = some x → R x v H' → Pv H1 i σ' H' → g v σ' H' fun σ2 H2 => ts { D with nx := Pv H1 (i + 1), ct := Pv H1 (i + 1), bk := D.nx } σ2 H2) (hd : ∀ H1, Xt M H H1 → ∀ σ' H', Pv H1 xs.length σ' H' → D.nx σ' H') : tFor (iList K tl) g ts D σ H :=
  h H (.refl d) _ fun v x H1 e1 hx rx => by
    cases (show x = xs from hx)
    obtain ⟨a, ws, rfl, n, ha, hr⟩ := rx
    refine ⟨a, rfl, ⟨ws, .of ha⟩, for_list (xs := ws) (Pv H1) (h0 H1 e1) (fun i σ' H' _ p => .of ((hst H1 i σ' H' p).keep a _ n ha)) (fun i v σ' H' hi p => ?_) (fun σ' H' p => ?_)⟩
    · obtain ⟨x, hx, rx⟩ := paired_at' hr hi
      exact hs H1 e1 i v x σ' H' hx (Mo.up (M := M) (hst H1 i σ' H' p) rx) p
    · rw [paired_len hr] at p; exact hd H1 e1 σ' H' p
theorem q_forL {xs : List α} (d : DiceM M H) [Mo M R] (h : Ev M tl σ H (RL M (All R)) (Eq1 xs)) (Pv : Hp → Nat → L2.St → Hp → Prop) (h0 : ∀ H1, Xt M H H1 → Pv H1 0 σ H1) (hst : ∀ H1 i σ' H', Pv H1 i σ' H' → Xt M H1 H')
    (hs : ∀ H1, Xt M H H1 → ∀ (i : Nat) v x σ' H', xs[i]? = some x → R x v H' → Pv H1 i σ' H' → g v σ' H' fun σ2 H2 => ts { D with nx := Pv H1 (i + 1), ct := Pv H1 (i + 1), bk := w D } σ2 H2) (hd : ∀ H1, Xt M H H1 → ∀ σ' H', Pv H1 xs.length σ' H' → w D σ' H') : tSeq (tFor (iList K tl) g ts) w D σ H :=
  l_forL (D := { D with nx := w D }) d h Pv h0 hst hs hd
theorem l_forT {xs : List α} (d : DiceM M H) [Mo M R] (h : Ev M tl σ H (RT M (All R)) (Eq1 xs)) (Pv : Hp → Nat → L2.St → Hp → Prop) (h0 : ∀ H1, Xt M H H1 → Pv H1 0 σ H1) (hst : ∀ H1 i σ' H', Pv H1 i σ' H' → Xt M H1 H')
    (hs : ∀ H1, Xt M H H1 → ∀ (i : Nat) v x σ' H', xs[i]? = some x → R x v H' → Pv H1 i σ' H' → g v σ' H' fun σ2 H2 => ts { D with nx := Pv H1 (i + 1), ct := Pv H1 (i + 1), bk := D.nx } σ2 H2) (hd : ∀ H1, Xt M H H1 → ∀ σ' H', Pv H1 xs.length σ' H' → D.nx σ' H') : tFor (iTup K tl) g ts D σ H :=
  h H (.refl d) _ fun v x H1 e1 hx rx => by
    cases (show x = xs from hx)
    obtain ⟨a, ws, rfl, n, ha, hr⟩ := rx
    refine ⟨a, rfl, ⟨ws, .of ha⟩, for_tup (xs := ws) (Pv H1) (h0 H1 e1) (fun i σ' H' _ p => .of ((hst H1 i σ' H' p).keep a _ n ha)) (fun i v σ' H' hi p => ?_) (fun σ' H' p => ?_)⟩
    · obtain ⟨x, hx, rx⟩ := paired_at' hr hi
      exact hs H1 e1 i v x σ' H' hx (Mo.up (M := M) (hst H1 i σ' H' p) rx) p
    · rw [paired_len hr] at p; exact hd H1 e1 σ' H' p
theorem q_forT {xs : List α} (d : DiceM M H) [Mo M R] (h : Ev M tl σ H (RT M (All R)) (Eq1 xs)) (Pv : Hp → Nat → L2.St → Hp → Prop) (h0 : ∀ H1, Xt M H H1 → Pv H1 0 σ H1) (hst : ∀ H1 i σ' H', Pv H1 i σ' H' → Xt M H1 H')
    (hs : ∀ H1, Xt M H H1 → ∀ (i : Nat) v x σ' H', xs[i]? = some x → R x v H' → Pv H1 i σ' H' → g v σ' H' fun σ2 H2 => ts { D with nx := Pv H1 (i + 1), ct := Pv H1 (i + 1), bk := w D } σ2 H2) (hd : ∀ H1, Xt M H H1 → ∀ σ' H', Pv H1 xs.length σ' H' → w D σ' H') : tSeq (tFor (iTup K tl) g ts) w D σ H :=
  l_forT (D := { D with nx := w D }) d h Pv h0 hst hs hd
theorem ev_ixL [Mo M R] {ta tb : TE} {l : List α} {i : Int} {z : α} (ha : Ev M ta σ H (RL M (All R)) (Eq1 l)) (hb : Ev M tb σ H RI (Eq1 i)) (h : atI l i = some z) : Ev M (tOp (rIxL K) ta tb) σ H R (Eq1 z) :=
  ev_opf o_ixL ha hb (by rw [h]; rfl) fun w e => by rw [h] at e; exact (Option.some.inj e).symm
theorem ev_ixT [Mo M R] {ta tb : TE} {l : List α} {i : Int} {z : α} (ha : Ev M ta σ H (RT M (All R)) (Eq1 l)) (hb : Ev M tb σ H RI (Eq1 i)) (h : atI l i = some z) : Ev M (tOp (rIxT K) ta tb) σ H R (Eq1 z) :=
  ev_opf o_ixT ha hb (by rw [h]; rfl) fun w e => by rw [h] at e; exact (Option.some.inj e).symm
theorem q_if0 {t : TT} {A : Bool → Prop} (d : DiceM M H) (h : EvT M t σ H A) (k1 : ∀ H1, Xt M H H1 → A true → ts D σ H1) (k2 : ∀ H1, Xt M H H1 → A false → D.nx σ H1) : tIfS t ts tNext D σ H := q_if d h k1 k2
theorem q_ifS0 {t : TT} {A : Bool → Prop} (d : DiceM M H) (h : EvT M t σ H A) (k1 : ∀ H1, Xt M H H1 → A true → ts { D with nx := w D } σ H1) (k2 : ∀ H1, Xt M H H1 → A false → w D σ H1) : tSeq (tIfS t ts tNext) w D σ H := q_if (D := { D with nx := w D }) d h k1 k2
theorem xt_mix {H H1 H2 H3 : Hp} {d : Addr} (e1 : Xt none H H1) (hd : H1 d = none) (e2 : Xt none H1 H2) (e3 : Xt (some d) H2 H3) : Xt none H H3 := ⟨fun a o _ q => by
  have q1 := e1.keep a o nofun q
  exact e3.keep a o (fun z => by cases z; rw [hd] at q1; cases q1) (e2.keep a o nofun q1), trivial⟩
/-- the law's promise -/
def sp_law (K : Frag) : Sp := fun vs H Q _ => ∃ v l, vs = [v] ∧ RSq K none l v H ∧ ∀ H', Q (.bl true) H'
theorem ev_lenO {C : Addr} {F : α → List (Str × V) → Hp → Prop} [Mfs F M] {g : α × Unit → Int} {pre : α × Unit → Prop} {E : XK} {ta : TE} {x : α} (ha : Ev M ta σ H (RO M C F) (Eq1 x)) (hp : pre (x, ()) ∧ 0 ≤ g (x, ()) ∧ g (x, ()) < 2 ^ 63) :
    Ev M (tCB (rLenO C (FnF (fun M => Cons (RO M C F) Nil) (fun _ => RI) pre g) E) (tCons ta tNil)) σ H RI (Eq1 (g (x, ()))) :=
  ev_cb1 (f := fun p z => z = g p) (pre := fun p => pre p ∧ 0 ≤ g p ∧ g p < 2 ^ 63) c_lenO (ea_cons1 ha ea_nil) hp
theorem tnext {D : Ends} (h : D.nx σ H) : tNext D σ H := h
theorem sort_one {a b : List Int} (p : a.Perm b) (ha : a.Pairwise (· ≤ ·)) (hb : b.Pairwise (· ≤ ·)) : a = b := by
  induction a generalizing b with
  | nil => exact (List.nil_perm.mp p).symm
  | cons x a ih =>
    cases b with
    | nil => exact absurd p (by simp)
    | cons y b =>
      have hx : x ∈ y :: b := p.subset List.mem_cons_self
      have hy : y ∈ x :: a := p.symm.subset List.mem_cons_self
      have h1 := List.pairwise_cons.mp ha
      have h2 := List.pairwise_cons.mp hb
      have e : x = y := by
        rcases List.mem_cons.mp hx with e | m1
        · exact e
        · rcases List.mem_cons.mp hy with e | m2
          · exact e.symm
          · have := h1.1 y m2; have := h2.1 x m1; omega
      subst e
      rw [ih (List.Perm.cons_inv p) h1.2 h2.2]
/-- the list in order -/
def srt (l : List Int) : List Int := l.mergeSort fun a b => decide (a ≤ b)
theorem srt_perm (l : List Int) : (srt l).Perm l := List.mergeSort_perm l _
theorem srt_sorted (l : List Int) : (srt l).Pairwise (· ≤ ·) := by
  have h := List.pairwise_mergeSort (le := fun a b : Int => decide (a ≤ b)) (fun a b c h1 h2 => by simp at h1 h2 ⊢; omega) (fun a b => by simp; omega) l
  exact h.imp (by simp)
theorem srt2 (a b : Int) : srt [a, b] = [min a b, max a b] := by
  refine sort_one ((srt_perm _).trans ?_) (srt_sorted _) (by simp; omega)
  rcases Int.le_total a b with h | h
  · rw [Int.min_eq_left h, Int.max_eq_right h]
  · rw [Int.min_eq_right h, Int.max_eq_left h]; exact List.Perm.swap _ _ _
theorem ev_sorted {ta : TE} {l : List Int} (h : Ev M ta σ H (RLI M) (Eq1 l)) (hl : l.length < 64) : Ev M (tCB (rSorted K) (tCons ta tNil)) σ H (RLI M) (Eq1 (srt l)) :=
  (ev_cb1 (f := fun (p : List Int × Unit) (z : List Int) => z.Perm p.1 ∧ z.Pairwise (· ≤ ·)) (pre := fun p => p.1.length < 64) c_sorted (ea_cons1 h ea_nil) hl).imp fun z hz => sort_one (hz.1.trans (srt_perm l).symm) hz.2 (srt_sorted l)
end
end GE

/-! GN: rules with the written part named, for blocks. -/
namespace GE
open PySem PySem.Spec PyProof.Rows L2 GB
section
variable {X : Cx}
theorem pe_fldK (K : Frag) (hK : X.K = K) {e : Expr} {f : Str} {pos : Pos} {ta : TE} (he : PE X e ta) (hb : attributeBase e f X.env (eval e X.env) = eval e X.env) : PE X (.Attribute e f pos) (tFld K ta f) := by
  subst hK
  exact pe_fld he hb
theorem pe_pK (K : Frag) (hK : X.K = K) {e : Expr} {f C : Str} {pos : Pos} {ta : TE} {k : Nat} {sp : Sp} {E : XK} (he : PE X e ta) (D : Dp (En.of X) k C f sp) (hr : Room (k + 1) X.A) (hx : Passes (L2.CX X.prog X.w) X.nox E) (hab : attributeBase e f X.env (eval e X.env) = eval e X.env := by rfl) : PE X (.Attribute e f pos) (tPr (He.ga K C) sp E ta) := by
  subst hK
  exact pe_p he D hr hx hab
theorem op_binK (K : Frag) (hK : X.K = K) {op : Operator} {k : Nat} {C : Str} {sp : Sp} {E : XK} (D : Dm (En.of X) k C (PySem.dunder op.info.2) sp) (hc : PySem.W.selfFirst X.K (He.ga X.K C) = true) (hr : Room k X.A) (hx : Passes (L2.CX X.prog X.w) X E) : OpR X (binaryOp op) (rOp (He.ga K C) sp E) := by
  subst hK
  exact op_bin D hc hr hx
theorem op_eqOK (K : Frag) (hK : X.K = K) {k : Nat} {C : Str} {sp : Sp} {E : XK} (D : Dm (En.of X) k C "__eq__" sp) (hr : Room k X.A) (hx : Passes (L2.CX X.prog X.w) X E) : OpR X (compareOp .Eq) (rEqO K (He.ga K C) sp E) := by
  subst hK
  exact op_eqO D hr hx
theorem op_neOK (K : Frag) (hK : X.K = K) {k : Nat} {C : Str} {sp : Sp} {E : XK} (D : Dm (En.of X) k C "__eq__" sp) (nc : NeC X.K (He.ga X.K C)) (hr : Room (k + 1) X.A) (hx : Passes (L2.CX X.prog X.w) X E) : OpR X (compareOp .NotEq) (rNeO (He.ga K C) sp E) := by
  subst hK
  exact op_neO D nc hr hx
theorem call_lenOK (K : Frag) (hK : X.K = K) {k : Nat} {C : Str} {sp : Sp} {E : XK} (D : Dm (En.of X) k C "__len__" sp) (hr : Room (k + 1) X.A) (hx : Passes (L2.CX X.prog X.w) X E) : CallR X (.builtin "len") (rLenO (He.ga K C) sp E) := by
  subst hK
  exact call_lenO D hr hx
theorem ix_listK (K : Frag) (hK : X.K = K)  : IxR X (rIxL K) := by
  subst hK
  exact ix_list
theorem ix_tupK (K : Frag) (hK : X.K = K)  : IxR X (rIxT K) := by
  subst hK
  exact ix_tup
theorem call_len_seqK (K : Frag) (hK : X.K = K)  : CallR X (.builtin "len") (fun xs H Q => ∃ p ys, xs = [.ref p] ∧ (SqL K H p ys ∨ SqT K H p ys) ∧ Q (.int ys.length) H) := by
  subst hK
  exact call_len_seq
theorem call_list_ofK (K : Frag) (hK : X.K = K)  : CallR X (.type "list") (fun xs H Q => ∃ p ys, xs = [.ref p] ∧ (SqL K H p ys ∨ SqT K H p ys) ∧ ∀ l, H l = none → Q (.ref l) (upd H l (.lst ys))) := by
  subst hK
  exact call_list_of
theorem call_tuple_ofK (K : Frag) (hK : X.K = K)  : CallR X (.type "tuple") (fun xs H Q => ∃ p ys, xs = [.ref p] ∧ ((SqL K H p ys ∧ ∀ l, H l = none → Q (.ref l) (upd H l (.tup ys))) ∨ (SqT K H p ys ∧ Q (.ref p) H))) := by
  subst hK
  exact call_tuple_of
theorem call_isiK (K : Frag) (hK : X.K = K)  : CallR X (.builtin "isinstance") (rIsi K) := by
  subst hK
  exact call_isi
theorem op_eqDK (K : Frag) (hK : X.K = K) (hu : X.A.units + 64 < cLine) : OpR X (compareOp .Eq) (rEqD K) := by
  subst hK
  exact op_eqD hu
theorem op_neDK (K : Frag) (hK : X.K = K) (hu : X.A.units + 64 < cLine) : OpR X (compareOp .NotEq) (rNeD K) := by
  subst hK
  exact op_neD hu
theorem pi_listK (K : Frag) (hK : X.K = K) {tg l : Expr} {tl : TE} (hl : PE X l tl) : PI X tg l (iList K tl) := by
  subst hK
  exact pi_list hl
theorem pi_tupK (K : Frag) (hK : X.K = K) {tg l : Expr} {tl : TE} (hl : PE X l tl) : PI X tg l (iTup K tl) := by
  subst hK
  exact pi_tup hl
theorem op_in_seqK (K : Frag) (hK : X.K = K)  : OpR X (compareOp .In) (rIn K false) := by
  subst hK
  exact op_in_seq
theorem op_notIn_seqK (K : Frag) (hK : X.K = K)  : OpR X (compareOp .NotIn) (rIn K true) := by
  subst hK
  exact op_notIn_seq
theorem op_catAK (K : Frag) (hK : X.K = K)  : OpR X (binaryOp .Add) (rCatA K) := by
  subst hK
  exact op_catA
theorem sl_tupAK (K : Frag) (hK : X.K = K)  : SlR X (rSlA K) := by
  subst hK
  exact sl_tupA
theorem sl_listK (K : Frag) (hK : X.K = K)  : SlR X (rSlL K) := by
  subst hK
  exact sl_list
theorem cr_allK (K : Frag) (hK : X.K = K) (hc : X.calm = true) : CallR X (.builtin "all") (rAll K) := by
  subst hK
  exact cr_all hc
theorem cr_sumK (K : Frag) (hK : X.K = K) (hc : X.calm = true) : CallR X (.builtin "sum") (rSum K) := by
  subst hK
  exact cr_sum hc
theorem cr_maxK (K : Frag) (hK : X.K = K) (hc : X.calm = true) : CallR X (.builtin "max") (rMax K) := by
  subst hK
  exact cr_max hc
theorem cr_sortedK (K : Frag) (hK : X.K = K)  : CallR X (.builtin "sorted") (rSorted K) := by
  subst hK
  exact cr_sorted
theorem pg_tupK (K : Frag) (hK : X.K = K) {es : List Expr} {k : Nat} {t : TGs} {n : Nat} {pos : Pos} (hc : X.calm = true) (h : PGs X es t) (hn : (assignEach es X.env).length = n := by rfl) (hst : (assignEach es X.env).findIdx? (·.1) = none := by rfl) : PG X (.Tuple es k pos) (gTup K n t) := by
  subst hK
  exact pg_tup hc h hn hst
theorem pg_lstK (K : Frag) (hK : X.K = K) {es : List Expr} {k : Nat} {t : TGs} {n : Nat} {pos : Pos} (hc : X.calm = true) (h : PGs X es t) (hn : (assignEach es X.env).length = n := by rfl) (hst : (assignEach es X.env).findIdx? (·.1) = none := by rfl) : PG X (.Tuple es k pos) (gLst K n t) := by
  subst hK
  exact pg_lst hc h hn hst
theorem pi_zipAK (K : Frag) (hK : X.K = K) {e e2 : Expr} {ta : TA} {p pos tpos : Pos} {elts : List Expr} {kk : Nat} (hg : Gl X "zip") (hm : X.mg "zip" = none) (ha : PA X [e, e2] ta) (hs : starEach [e, e2] X.env = (false, eval e X.env) :: starEach [e2] X.env := by rfl) (hpl : (backTo pos (starEach [e2] X.env)).any (·.1) = false := by rfl) : PI X (.Tuple elts kk tpos) (.Call (.Name "zip" p) [e, e2] [] pos) (RZ.iZipA K ta) := by
  subst hK
  exact RZ.pi_zipA hg hm ha hs hpl
theorem pe_mK (K : Frag) (hK : X.K = K) {o e : Expr} {es : List Expr} {m C : Str} {k : Nat} {sp : Sp} {E : XK} {pos apos : Pos} {ta : TE} {t : TA} {pl : Sem Bool} (he : PE X o ta) (D : Dm (En.of X) k C m sp) (hr : Room k X.A) (hx : Passes (L2.CX X.prog X.w) X E) (ha : PA X (e :: es) t)
    (hst : starEach (e :: es) X.env = (false, eval e X.env) :: starEach es X.env := by rfl) (hpl : (backTo pos (starEach es X.env)).any (·.1) = false := by rfl)
    (ht : eval (.Call (.Attribute o m apos) (e :: es) [] pos) X.env = (do let ov ← eval o X.env; standAt apos.atName; let (f, first) ← holding [ov] (getMethod ov m pl); callWith pos f first (backTo pos (starEach (e :: es) X.env)) (backToKw pos (keywordEach [] X.env))) := by rfl) :
    PE X (.Call (.Attribute o m apos) (e :: es) [] pos) (tMe (He.ga K C) m sp E ta t) := by
  subst hK
  exact pe_m he D hr hx ha hst hpl ht
theorem pe_m0K (K : Frag) (hK : X.K = K) {o : Expr} {m C : Str} {k : Nat} {sp : Sp} {E : XK} {pos apos : Pos} {ta : TE} {pl : Sem Bool} (he : PE X o ta) (D : Dm (En.of X) k C m sp) (hr : Room k X.A) (hx : Passes (L2.CX X.prog X.w) X E)
    (ht : eval (.Call (.Attribute o m apos) [] [] pos) X.env = (do let ov ← eval o X.env; standAt apos.atName; let (f, first) ← holding [ov] (getMethod ov m pl); callWith pos f first (backTo pos (starEach [] X.env)) (backToKw pos (keywordEach [] X.env))) := by rfl) :
    PE X (.Call (.Attribute o m apos) [] [] pos) (tMe (He.ga K C) m sp E ta tNil) := by
  subst hK
  exact pe_m0 he D hr hx ht
theorem pe_ciK (K : Frag) (hK : X.K = K) {fe e : Expr} {es : List Expr} {C : Str} {k : Nat} {sp : Sp} {E : XK} {pos : Pos} {tf : TE} {t : TA} (hf : PE X fe tf) (D : Dm (En.of X) k C "__call__" sp) (hfi : PySem.W.fnIn X.K (He.ma X.K (He.ga X.K C) "__call__") = true) (hr : Room k X.A) (hx : Passes (L2.CX X.prog X.w) X E) (ha : PA X (e :: es) t)
    (ht : eval (.Call fe (e :: es) [] pos) X.env = (do callWith pos (← eval fe X.env) [] (backTo pos (starEach (e :: es) X.env)) (backToKw pos (keywordEach [] X.env))) := by rfl)
    (hst : starEach (e :: es) X.env = (false, eval e X.env) :: starEach es X.env := by rfl) (hpl : (backTo pos (starEach es X.env)).any (·.1) = false := by rfl) : PE X (.Call fe (e :: es) [] pos) (tCI (He.ga K C) sp E tf t) := by
  subst hK
  exact pe_ci hf D hfi hr hx ha ht hst hpl
end
end GE

/-! GO: zip in a comprehension, all, more lists. -/
namespace GE
open PySem PySem.Spec PyProof.Rows L2 GB RZ
section
variable {M : Option Addr} {σ : L2.St} {H : Hp} {te ta tb tl : TE} {t : TT} {α β γ : Type} {R : Rp α} {R' : Rp β} {R2 : Rp γ} {K : Frag}
theorem zip_map {δ : Type} {f : α → γ → δ} {xs : List α} {ys : List γ} : (xs.zip ys).map (fun q => f q.1 q.2) = List.zipWith f xs ys := by simp [List.zip, List.map_zipWith]
theorem all_bl : ∀ {l : List Bool} {ws : List V} {H : Hp}, All RB l ws H → ws = l.map V.bl
  | _, _, _, .nil => rfl
  | _, _, _, .cons h r => by rw [List.map_cons, ← all_bl r, (show _ = V.bl _ from h)]
theorem c_all : Cl M (rAll K) (Cons (RL M (All RB)) Nil) RB (fun p z => z = p.1.all id) (fun _ => True) := by
  rintro ⟨l, _⟩ vs H d ⟨v, r, rfl, ⟨a, ws, rfl, n, ha, hr⟩, rfl⟩ _ Q q
  have e := all_bl hr
  subst e
  exact ⟨a, l, rfl, .of ha, q _ _ H (.refl d) rfl rfl⟩
theorem ev_lcZT [Mo M R] [Mo M R2] [Mo M R'] [Ml R'] {g : TG} {vs : List Nat} {ts : TA} {xs : List α} {ys : List γ} {p : α → γ → Bool} {B : α → γ → β → Prop} (τ : V → V → L2.St) (hl : EvA M ts σ H (Cons (RT M (All R)) (Cons (RT M (All R2)) Nil)) (Eq1 (xs, ys, ()))) (hz : xs.length < 1000000)
    (hg : ∀ T v u H Q, SqT K H T [v, u] → Q (τ v u) H → g (.ref T) (wipe σ vs) H Q) (hw : ∀ v u, wipe (τ v u) vs = wipe σ vs)
    (ht : ∀ H1, Xt M H H1 → ∀ v u x y, (x, y) ∈ xs.zip ys → R x v H1 → R2 y u H1 → EvT M t (τ v u) H1 (Eq1 (p x y))) (he : ∀ H1, Xt M H H1 → ∀ v u x y, (x, y) ∈ xs.zip ys → R x v H1 → R2 y u H1 → p x y = true → Ev M te (τ v u) H1 R' (B x y)) :
    Ev M (tLc (iZipA K ts) g t te vs) σ H (RL M (All R')) (fun zs => Comp (fun q => p q.1 q.2) (fun q => B q.1 q.2) (xs.zip ys) zs) := fun H0 e0 Q q =>
  hl H0 e0 _ fun vs' q0 H1 e1 hx rx => by
    subst hx
    obtain ⟨v1, t1, rfl, ⟨a, ws, rfl, na, ha, hr⟩, v2, t2, rfl, ⟨b, us, rfl, nb, hb, hs⟩, h3⟩ := rx
    cases (show t2 = [] from h3)
    have e01 := e0.trans e1
    refine ⟨a, b, ws, us, rfl, .inr ⟨.of ha, .of hb, fun D hD => ?_⟩⟩
    have l1 : ws.length = xs.length := paired_len hr
    have l2 : us.length = ys.length := paired_len hs
    have sa : ∀ {H'}, Xt M H1 H' → SqT K H' a ws := fun e => .of (e.keep a _ na ha)
    have sb : ∀ {H'}, Xt M H1 H' → SqT K H' b us := fun e => .of (e.keep b _ nb hb)
    refine ⟨fun i m H' => m = (xs.zip ys).length - i ∧ i ≤ (xs.zip ys).length ∧ Acc M R' H1 D (fun zs => Comp (fun q => p q.1 q.2) (fun q => B q.1 q.2) ((xs.zip ys).take i) zs) H', ⟨_, rfl, Nat.zero_le _, Acc.start e1.dice hD .nil⟩, ?_⟩
    rintro i m H' ⟨rfl, hi, acc⟩
    have hzl : (xs.zip ys).length = min xs.length ys.length := List.length_zip
    by_cases hlt : i < (xs.zip ys).length
    · have hx1 : xs[i]? = some xs[i] := by simp
      have hy1 : ys[i]? = some ys[i] := by simp
      obtain ⟨wx, hwx, rx⟩ := paired_at (i := i) hr hx1
      obtain ⟨wy, hwy, ry⟩ := paired_at (i := i) hs hy1
      refine .inr ⟨⟨ws, us, wx, wy, sa acc.ext, sb acc.ext, hwx, hwy⟩, fun H'' => Acc M R' H1 D (fun zs => Comp (fun q => p q.1 q.2) (fun q => B q.1 q.2) ((xs.zip ys).take (i + 1)) zs) H'', fun H'' p => ⟨(xs.zip ys).length - (i + 1), by omega, rfl, hlt, p⟩, ?_⟩
      rintro v H'' ⟨T, x', y', rfl, hT, rfl, hx', hy'⟩
      have e1' : x' = wx := by have := hx' ws (sa acc.ext); rw [hwx] at this; exact (Option.some.inj this).symm
      have e2' : y' = wy := by have := hy' us (sb acc.ext); rw [hwy] at this; exact (Option.some.inj this).symm
      subst e1' e2'
      have hzi : (xs.zip ys)[i]? = some (xs[i], ys[i]) := by simp [List.getElem?_zip_eq_some]
      have hm : (xs[i], ys[i]) ∈ xs.zip ys := List.mem_of_getElem? hzi
      have htk : (xs.zip ys).take (i + 1) = (xs.zip ys).take i ++ [(xs[i], ys[i])] := by rw [List.take_add_one, hzi]; rfl
      refine hg T x' y' _ _ (.of upd_same) ⟨hw _ _, ?_⟩
      have acc2 := acc.xt (.new acc.ext.dice hT (o := .tup [x', y']))
      refine acc2.turn (p := p xs[i] ys[i]) (B := B xs[i] ys[i]) (fun zs c => Nat.lt_of_le_of_lt c.len (by simp [List.length_take]; omega)) (ht H1 e01 _ _ _ _ hm rx ry) (he H1 e01 _ _ _ _ hm rx ry) (fun hp zs y c b => ?_) (fun hp zs c => ?_)
      · rw [htk]; exact Comp.snoc_yes (p := fun q : α × γ => p q.1 q.2) (B := fun q : α × γ => B q.1 q.2) (x := (xs[i], ys[i])) hp b c
      · rw [htk]; exact Comp.snoc_no (p := fun q : α × γ => p q.1 q.2) (B := fun q : α × γ => B q.1 q.2) (x := (xs[i], ys[i])) hp c
    · have e6 : i = (xs.zip ys).length := by omega
      subst e6
      refine .inl ⟨⟨ws, us, sa acc.ext, sb acc.ext, by omega⟩, ?_⟩
      obtain ⟨hf, nd, e, ws', zs, h1, h2, h3⟩ := acc
      rw [List.take_length] at h3
      exact q _ zs H' (e1.trans e) h3 ⟨D, ws', rfl, nd, h1, h2⟩
theorem ev_lcZL [Mo M R] [Mo M R2] [Mo M R'] [Ml R'] {g : TG} {vs : List Nat} {ts : TA} {xs : List α} {ys : List γ} {p : α → γ → Bool} {B : α → γ → β → Prop} (τ : V → V → L2.St) (hl : EvA M ts σ H (Cons (RL M (All R)) (Cons (RL M (All R2)) Nil)) (Eq1 (xs, ys, ()))) (hz : xs.length < 1000000)
    (hg : ∀ T v u H Q, SqT K H T [v, u] → Q (τ v u) H → g (.ref T) (wipe σ vs) H Q) (hw : ∀ v u, wipe (τ v u) vs = wipe σ vs)
    (ht : ∀ H1, Xt M H H1 → ∀ v u x y, (x, y) ∈ xs.zip ys → R x v H1 → R2 y u H1 → EvT M t (τ v u) H1 (Eq1 (p x y))) (he : ∀ H1, Xt M H H1 → ∀ v u x y, (x, y) ∈ xs.zip ys → R x v H1 → R2 y u H1 → p x y = true → Ev M te (τ v u) H1 R' (B x y)) :
    Ev M (tLc (iZipA K ts) g t te vs) σ H (RL M (All R')) (fun zs => Comp (fun q => p q.1 q.2) (fun q => B q.1 q.2) (xs.zip ys) zs) := fun H0 e0 Q q =>
  hl H0 e0 _ fun vs' q0 H1 e1 hx rx => by
    subst hx
    obtain ⟨v1, t1, rfl, ⟨a, ws, rfl, na, ha, hr⟩, v2, t2, rfl, ⟨b, us, rfl, nb, hb, hs⟩, h3⟩ := rx
    cases (show t2 = [] from h3)
    have e01 := e0.trans e1
    refine ⟨a, b, ws, us, rfl, .inl ⟨.of ha, .of hb, fun D hD => ?_⟩⟩
    have l1 : ws.length = xs.length := paired_len hr
    have l2 : us.length = ys.length := paired_len hs
    have sa : ∀ {H'}, Xt M H1 H' → SqL K H' a ws := fun e => .of (e.keep a _ na ha)
    have sb : ∀ {H'}, Xt M H1 H' → SqL K H' b us := fun e => .of (e.keep b _ nb hb)
    refine ⟨fun i m H' => m = (xs.zip ys).length - i ∧ i ≤ (xs.zip ys).length ∧ Acc M R' H1 D (fun zs => Comp (fun q => p q.1 q.2) (fun q => B q.1 q.2) ((xs.zip ys).take i) zs) H', ⟨_, rfl, Nat.zero_le _, Acc.start e1.dice hD .nil⟩, ?_⟩
    rintro i m H' ⟨rfl, hi, acc⟩
    have hzl : (xs.zip ys).length = min xs.length ys.length := List.length_zip
    by_cases hlt : i < (xs.zip ys).length
    · have hx1 : xs[i]? = some xs[i] := by simp
      have hy1 : ys[i]? = some ys[i] := by simp
      obtain ⟨wx, hwx, rx⟩ := paired_at (i := i) hr hx1
      obtain ⟨wy, hwy, ry⟩ := paired_at (i := i) hs hy1
      refine .inr ⟨⟨ws, us, wx, wy, sa acc.ext, sb acc.ext, hwx, hwy⟩, fun H'' => Acc M R' H1 D (fun zs => Comp (fun q => p q.1 q.2) (fun q => B q.1 q.2) ((xs.zip ys).take (i + 1)) zs) H'', fun H'' p => ⟨(xs.zip ys).length - (i + 1), by omega, rfl, hlt, p⟩, ?_⟩
      rintro v H'' ⟨T, x', y', rfl, hT, rfl, hx', hy'⟩
      have e1' : x' = wx := by have := hx' ws (sa acc.ext); rw [hwx] at this; exact (Option.some.inj this).symm
      have e2' : y' = wy := by have := hy' us (sb acc.ext); rw [hwy] at this; exact (Option.some.inj this).symm
      subst e1' e2'
      have hzi : (xs.zip ys)[i]? = some (xs[i], ys[i]) := by simp [List.getElem?_zip_eq_some]
      have hm : (xs[i], ys[i]) ∈ xs.zip ys := List.mem_of_getElem? hzi
      have htk : (xs.zip ys).take (i + 1) = (xs.zip ys).take i ++ [(xs[i], ys[i])] := by rw [List.take_add_one, hzi]; rfl
      refine hg T x' y' _ _ (.of upd_same) ⟨hw _ _, ?_⟩
      have acc2 := acc.xt (.new acc.ext.dice hT (o := .tup [x', y']))
      refine acc2.turn (p := p xs[i] ys[i]) (B := B xs[i] ys[i]) (fun zs c => Nat.lt_of_le_of_lt c.len (by simp [List.length_take]; omega)) (ht H1 e01 _ _ _ _ hm rx ry) (he H1 e01 _ _ _ _ hm rx ry) (fun hp zs y c b => ?_) (fun hp zs c => ?_)
      · rw [htk]; exact Comp.snoc_yes (p := fun q : α × γ => p q.1 q.2) (B := fun q : α × γ => B q.1 q.2) (x := (xs[i], ys[i])) hp b c
      · rw [htk]; exact Comp.snoc_no (p := fun q : α × γ => p q.1 q.2) (B := fun q : α × γ => B q.1 q.2) (x := (xs[i], ys[i])) hp c
    · have e6 : i = (xs.zip ys).length := by omega
      subst e6
      refine .inl ⟨⟨ws, us, sa acc.ext, sb acc.ext, by omega⟩, ?_⟩
      obtain ⟨hf, nd, e, ws', zs, h1, h2, h3⟩ := acc
      rw [List.take_length] at h3
      exact q _ zs H' (e1.trans e) h3 ⟨D, ws', rfl, nd, h1, h2⟩
end
end GE

/-! GP: tuple * 1, tuple * n, lists that grow and shrink, slices. -/
namespace GE
open PySem PySem.Spec PyProof.Rows L2 GB
theorem tuple_mul1 (l : Addr) (items : Array Value) (n : Nat) (dd : Option Addr) (sl : Array (Option Value)) (u : Tok) :
    Meets (Builtin.«tuple.__mul__» ⟨[.ref l, .int 1 u], []⟩) (fun _ R s => s.heap.get? l = some { cls := .type "tuple", dict := dd, data := .seq items n, slots := sl } ∧ R (.ok (.ret (Value.ref l))) s) :=
  .of_wp fun prog w A R s h => by
    obtain ⟨hp, g, d, tk, os⟩ := s
    obtain ⟨hl, h⟩ := h
    have f1 := AutoSeq1.idx_int
    have c0 : (decide ((1 : Int) < -(2 ^ 63)) || decide ((1 : Int) ≥ 2 ^ 63)) = false := by decide
    have c1 : (items.isEmpty || (1 : Int) == 1) = true := by simp
    wp_walk using wpAny_loadPart' hl
    repeat (first
      | (refine wpAny_ite_false (decide_eq_false (by rw [c0]; exact Bool.false_ne_true)) ?_; wp_walk using wpAny_loadPart' hl)
      | (refine wpAny_ite_true (decide_eq_true c1) ?_; wp_walk using wpAny_loadPart' hl))
    exact ⟨_, rfl, h⟩
def rRepTA (K : Frag) : R2 := fun x y H Q => ∃ l k xs, x = V.ref l ∧ y = V.int k ∧ SqT K H l xs ∧ xs ≠ [] ∧ (1 ≤ k ∧ k ≤ 1000) ∧ xs.length ≤ 1000 ∧ (k = 1 → Q (.ref l) H) ∧ (2 ≤ k → ∀ p, H p = none → Q (.ref p) (upd H p (.tup (List.replicate k.toNat xs).flatten)))
section
variable {X : Cx}
theorem op_repTA : OpR X (binaryOp .Mult) (rRepTA X.K) := by
  intro pins s σ H x y v u Q I rx ry h
  obtain ⟨l, k, xs, rfl, rfl, hT, hne, h1, hz, q1, q2⟩ := h
  by_cases hk : k = 1
  · subst hk
    cases rx
    obtain ⟨t, rfl⟩ := ry
    obtain ⟨its, r, ⟨⟨cls, dd, data, sl⟩, ho, hc, n, hd⟩, hs⟩ := I.tuple hT
    simp only at hc hd
    subst hc hd
    refine wpAny_binaryOp_repeat_ref (T := "tuple") (U := "int") (by decide) ⟨_, ho, rfl⟩ (fun s' => typeIs_int s' 1 t) noFill_tuple_mul F.fills_int_mul F.slot_int_rmul repeat_tuple F.slot_int_index.lookup
      (call_meets F.slot_int_rmul (typeIs_int s 1 t) F.entry_int_rmul (F.args_int_rmul_2 _ _) (int_rmul_tuple 1 t l its.toArray n dd sl)
        ⟨ho, rfl, ⟨_, ho, rfl⟩, call_meets F.slot_tuple_mul ⟨_, ho, rfl⟩ F.entry_tuple_mul (F.args_tuple_mul_2 _ _) (tuple_mul1 l its.toArray n dd sl t) ⟨ho, ?_⟩⟩)
    exact ⟨.ref l, H, I, rfl, q1 rfl⟩
  · exact op_repT pins s σ H (V.ref l) (V.int k) v u Q I rx ry ⟨l, k, xs, rfl, rfl, hT, hne, by omega, h1.2, hz, q2 (by omega)⟩
theorem op_repTAK (K : Frag) (hK : X.K = K) : OpR X (binaryOp .Mult) (rRepTA K) := by
  subst hK
  exact op_repTA
end
section
variable {M : Option Addr} {σ : L2.St} {H : Hp} {te ta tb tl : TE} {t : TT} {α β γ : Type} {R : Rp α} {R' : Rp β} {R2 : Rp γ} {K : Frag}
theorem rep_all {l : List α} {ws : List V} {H : Hp} (h : All R l ws H) : ∀ m, All R (List.replicate m l).flatten (List.replicate m ws).flatten H
  | 0 => .nil
  | m + 1 => by
    have app : ∀ {l : List α} {ws : List V} {l' ws'}, Paired (fun x v => R x v H) l ws → Paired (fun x v => R x v H) l' ws' → Paired (fun x v => R x v H) (l ++ l') (ws ++ ws') := fun {l ws l' ws'} a b => by
      induction a with
      | nil => exact b
      | cons h _ ih => exact .cons h ih
    rw [List.replicate_succ, List.replicate_succ, List.flatten_cons, List.flatten_cons]
    exact app h (rep_all h m)
theorem o_repT [Mo M R] : Op2 M (rRepTA K) (RT M (All R)) RI (RT M (All R)) (fun l k z => z = (List.replicate k.toNat l).flatten) (fun l k => (1 ≤ k ∧ k ≤ 1000) ∧ 1 ≤ l.length ∧ l.length ≤ 1000) := by
  rintro l k v u H d ⟨a, ws, rfl, n, ha, hr⟩ rfl ⟨h1, h2, h3⟩ Q q
  have hl : ws.length = l.length := all_len hr
  refine ⟨a, k, ws, rfl, rfl, .of ha, fun e => by rw [e] at hl; simp at hl; omega, h1, by omega, fun e => ?_, fun _ p hp => ?_⟩
  · subst e
    exact q _ _ H (.refl d) rfl (by show RT M (All R) (List.replicate 1 l).flatten (.ref a) H; simp; exact ⟨a, ws, rfl, n, ha, hr⟩)
  · refine q _ _ _ (.new d hp) rfl ⟨p, _, rfl, ne_dice d hp, upd_same, ?_⟩
    exact Mos.up (M := M) (R := All R) (.new d hp) (rep_all hr k.toNat)
/-- D.append(e) -/
theorem Acc.append [Mo M R'] [Ml R'] {H0 H : Hp} {D : Addr} {S : List β → Prop} {B : β → Prop} {Q : Hp → Prop} {to : TE} (a : Acc M R' H0 D S H) (ho : ∀ H (Q : VK), Q (.ref D) H → to σ H Q) (hn : ∀ l, S l → l.length < 1000000) (he : ∀ H1, Xt M H0 H1 → Ev M te σ H1 R' B)
    (k : ∀ H' y, Xt M H0 H' → B y → Acc M R' H0 D (fun l => ∃ l0, S l0 ∧ l = l0 ++ [y]) H' → Q H') : tBM K "list" rAppend to (tCons te tNil) σ H (fun _ H' => Q H') := by
  obtain ⟨hf, nd, e, vs, ys, h1, h2, h3⟩ := a
  refine ho _ _ ⟨.inl ⟨rfl, _, .inl (.inl h1)⟩, ?_⟩
  refine he H e H (.refl e.dice) _ fun v y H4 e4 hB ry => ?_
  have h4 : H4 D = some (.lst vs) := e4.keep D _ nd h1
  have h2' := Mos.up (M := M) (R := All R') e4 h2
  have e5 : Xt M H0 (upd H4 D (.lst (vs ++ [v]))) := Xt.put (e.trans e4) hf nd
  refine ⟨D, vs, v, rfl, rfl, h4, by rw [all_len h2, sizeLine_eq]; have := hn ys h3; omega, k _ y e5 hB ⟨hf, nd, e5, vs ++ [v], ys ++ [y], upd_same, ?_, ys, h3, rfl⟩⟩
  exact Mls.l (R := All R') h4 (All.snoc h2' ry)
/-- D.pop(i) -/
theorem Acc.pop [Mo M R'] [Ml R'] {H0 H : Hp} {D : Addr} {l : List β} {A : Int → Prop} {Q : VK} {to : TE} (a : Acc M R' H0 D (Eq1 l) H) (ho : ∀ H (Q : VK), Q (.ref D) H → to σ H Q) (hn : l.length < 1000000) (he : ∀ H1, Xt M H0 H1 → Acc M R' H0 D (Eq1 l) H1 → Ev M te σ H1 RI A)
    (hi : ∀ i, A i → 0 ≤ i ∧ i < l.length) (k : ∀ v y (i : Nat) H', l[i]? = some y → R' y v H' → Acc M R' H0 D (Eq1 (l.eraseIdx i)) H' → Q v H') : tBM K "list" rPopAt to (tCons te tNil) σ H Q := by
  have a0 := a
  obtain ⟨hf, nd, e, vs, ys, h1, h2, h3⟩ := a
  cases (show ys = l from h3)
  refine ho _ _ ⟨.inl ⟨rfl, _, .inl (.inl h1)⟩, ?_⟩
  refine he H e a0 H (.refl e.dice) _ fun v z H4 e4 hB ry => ?_
  cases (show v = V.int z from ry)
  have h4 : H4 D = some (.lst vs) := e4.keep D _ nd h1
  have h2' := Mos.up (M := M) (R := All R') e4 h2
  obtain ⟨b1, b2⟩ := hi z hB
  have hl : vs.length = l.length := all_len h2
  have hy : l[z.toNat]? = some (l[z.toNat]'(by omega)) := by simp
  obtain ⟨w, hw, rw2⟩ := paired_at (i := z.toNat) h2' hy
  have hlt : z.toNat < vs.length := by omega
  refine ⟨D, vs, z, z.toNat, w, rfl, rfl, h4, by omega, by omega, ?_, hw, ?_⟩
  · unfold seqIndex?
    dsimp only
    rw [if_neg (show ¬ z < 0 by omega), if_pos (by simp; omega)]
  · have e5 : Xt M H0 (upd H4 D (.lst (vs.eraseIdx z.toNat))) := Xt.put (e.trans e4) hf nd
    have er : ∀ {l : List β} {ws : List V} {H : Hp} (j : Nat), Paired (fun x v => R' x v H) l ws → Paired (fun x v => R' x v H) (l.eraseIdx j) (ws.eraseIdx j) := fun {l ws H} j h => by
      induction h generalizing j with
      | nil => exact .nil
      | cons h1 h2 ih => cases j with
        | zero => exact h2
        | succ j => exact .cons h1 (ih j)
    have k1 : R' (l[z.toNat]'(by omega)) w (upd H4 D (.lst (vs.eraseIdx z.toNat))) := by
      have h5 : All R' [l[z.toNat]'(by omega)] [w] (upd H4 D (.lst (vs.eraseIdx z.toNat))) := Mls.l (R := All R') h4 (.cons rw2 .nil)
      cases h5 with
      | cons h _ => exact h
    exact k w _ z.toNat _ hy k1 ⟨hf, nd, e5, _, _, upd_same, Mls.l (R := All R') h4 (er z.toNat h2'), rfl⟩
theorem all_take {l : List α} {ws : List V} {H : Hp} (h : All R l ws H) : ∀ n, All R (l.take n) (ws.take n) H := fun n => by
  have h' : Paired (fun x v => R x v H) l ws := h
  show Paired (fun x v => R x v H) _ _
  induction h' generalizing n with
  | nil => simp; exact .nil
  | cons a b ih => cases n with
    | zero => exact .nil
    | succ n => exact .cons a (ih b n)
theorem all_drop {l : List α} {ws : List V} {H : Hp} (h : All R l ws H) : ∀ n, All R (l.drop n) (ws.drop n) H := fun n => by
  have h' : Paired (fun x v => R x v H) l ws := h
  show Paired (fun x v => R x v H) _ _
  induction h' generalizing n with
  | nil => simp; exact .nil
  | cons a b ih => cases n with
    | zero => exact .cons a b
    | succ n => exact ih b n
theorem ev_slTo [Mo M R] {l : List α} {n : Int} (ha : Ev M ta σ H (RL M (All R)) (Eq1 l)) (hb : Ev M tb σ H RI (Eq1 n)) (hn : 0 ≤ n) : Ev M (L2.tSl (rSlL K) ta tNoPart (tPart tb)) σ H (RL M (All R)) (Eq1 (l.take n.toNat)) := fun H1 e Q q =>
  ha H1 e _ fun v x H2 e2 hx rx => hb H2 (e.trans e2) _ fun u z H3 e3 hz rz => by
    cases (show x = l from hx); cases (show z = n from hz); cases (show u = V.int n from rz)
    obtain ⟨a, ws, rfl, na, ha, hr⟩ := Mo.up (M := M) (R := RL M (All R)) e3 rx
    refine ⟨n, rfl, a, ws, rfl, .of ha, fun p hp => q _ _ _ ((e2.trans e3).trans (.new e3.dice hp)) rfl ⟨p, _, rfl, ne_dice e3.dice hp, upd_same, ?_⟩⟩
    have h := Mos.up (M := M) (R := All R) (Xt.new (o := .lst (cutV ws none (some n))) e3.dice hp) (all_take hr n.toNat)
    have e : cutV ws none (some n) = ws.take n.toNat := by
      obtain ⟨m, rfl⟩ := Int.eq_ofNat_of_zero_le hn
      unfold cutV
      rw [HT.sIx_none, HT.sIx_nat]
      simp [List.take_eq_take_iff]
    rw [e] at h ⊢
    exact h
theorem ev_slFrom [Mo M R] {l : List α} {n : Int} (ha : Ev M ta σ H (RL M (All R)) (Eq1 l)) (hb : Ev M tb σ H RI (Eq1 n)) (hn : 0 ≤ n) : Ev M (L2.tSl (rSlL K) ta (tPart tb) tNoPart) σ H (RL M (All R)) (Eq1 (l.drop n.toNat)) := fun H1 e Q q =>
  ha H1 e _ fun v x H2 e2 hx rx => hb H2 (e.trans e2) _ fun u z H3 e3 hz rz => by
    cases (show x = l from hx); cases (show z = n from hz); cases (show u = V.int n from rz)
    obtain ⟨a, ws, rfl, na, ha, hr⟩ := Mo.up (M := M) (R := RL M (All R)) e3 rx
    refine ⟨n, rfl, a, ws, rfl, .of ha, fun p hp => q _ _ _ ((e2.trans e3).trans (.new e3.dice hp)) rfl ⟨p, _, rfl, ne_dice e3.dice hp, upd_same, ?_⟩⟩
    have h := Mos.up (M := M) (R := All R) (Xt.new (o := .lst (cutV ws (some n) none)) e3.dice hp) (all_drop hr n.toNat)
    have e : cutV ws (some n) none = ws.drop n.toNat := by
      obtain ⟨m, rfl⟩ := Int.eq_ofNat_of_zero_le hn
      unfold cutV
      rw [HT.sIx_none, HT.sIx_nat]
      by_cases h : m ≤ ws.length
      · rw [Nat.min_eq_left h]; exact List.take_of_length_le (by simp)
      · rw [Nat.min_eq_right (by omega)]; simp; omega
    rw [e] at h ⊢
    exact h
theorem q_seqT0 {g : TG} {xs : List α} {v0 : V} {H0 : Hp} {ts w : TS} {D : Ends} [Mo M R] (h : ∀ Q : VK, Q v0 H → tl σ H Q) (hr : RT M (All R) xs v0 H0) (e : Xt M H0 H) (Pv : Nat → L2.St → Hp → Prop) (h0 : Pv 0 σ H) (hst : ∀ i σ' H', Pv i σ' H' → Xt M H0 H')
    (hs : ∀ (i : Nat) v x σ' H', xs[i]? = some x → R x v H' → Pv i σ' H' → g v σ' H' fun σ2 H2 => ts { D with nx := Pv (i + 1), ct := Pv (i + 1), bk := w D } σ2 H2) (hd : ∀ σ' H', Pv xs.length σ' H' → w D σ' H') : tSeq (tFor (iTup K tl) g ts) w D σ H := by
  obtain ⟨a, ws, rfl, n, ha, hr⟩ := hr
  refine h _ ⟨a, rfl, ⟨ws, .of (e.keep a _ n ha)⟩, for_tup (xs := ws) Pv h0 (fun i σ' H' _ p => .of ((hst i σ' H' p).keep a _ n ha)) (fun i v σ' H' hi p => ?_) (fun σ' H' p => ?_)⟩
  · obtain ⟨x, hx, rx⟩ := paired_at' hr hi
    exact hs i v x σ' H' hx (Mo.up (M := M) (hst i σ' H' p) rx) p
  · rw [paired_len hr] at p; exact hd σ' H' p
theorem q_seqL0 {g : TG} {xs : List α} {v0 : V} {H0 : Hp} {ts w : TS} {D : Ends} [Mo M R] (h : ∀ Q : VK, Q v0 H → tl σ H Q) (hr : RL M (All R) xs v0 H0) (e : Xt M H0 H) (Pv : Nat → L2.St → Hp → Prop) (h0 : Pv 0 σ H) (hst : ∀ i σ' H', Pv i σ' H' → Xt M H0 H')
    (hs : ∀ (i : Nat) v x σ' H', xs[i]? = some x → R x v H' → Pv i σ' H' → g v σ' H' fun σ2 H2 => ts { D with nx := Pv (i + 1), ct := Pv (i + 1), bk := w D } σ2 H2) (hd : ∀ σ' H', Pv xs.length σ' H' → w D σ' H') : tSeq (tFor (iList K tl) g ts) w D σ H := by
  obtain ⟨a, ws, rfl, n, ha, hr⟩ := hr
  refine h _ ⟨a, rfl, ⟨ws, .of (e.keep a _ n ha)⟩, for_list (xs := ws) Pv h0 (fun i σ' H' _ p => .of ((hst i σ' H' p).keep a _ n ha)) (fun i v σ' H' hi p => ?_) (fun σ' H' p => ?_)⟩
  · obtain ⟨x, hx, rx⟩ := paired_at' hr hi
    exact hs i v x σ' H' hx (Mo.up (M := M) (hst i σ' H' p) rx) p
  · rw [paired_len hr] at p; exact hd σ' H' p
theorem l_forN {A : Int → Prop} {j : Nat} {tz : TA} {ts : TS} {D : Ends} (d : DiceM M H) (h : EvA M tz σ H (Cons RI Nil) (fun q => A q.1)) (hn : ∀ n, A n → 0 ≤ n ∧ n < 1000000) (Pv : Int → L2.St → Hp → Prop) (h0 : ∀ H1, Xt M H H1 → Pv 0 σ H1)
    (hs : ∀ n, A n → ∀ (i : Int) σ' H', 0 ≤ i → i < n → Pv i σ' H' → ts { D with nx := Pv (i + 1), ct := Pv (i + 1), bk := D.nx } (σ'.set j (some (.int i))) H') (hd : ∀ n, A n → ∀ σ' H', Pv n σ' H' → D.nx σ' H') : tFor (iRng1 tz) (gName j) ts D σ H :=
  h H (.refl d) _ fun vs x H1 e1 hx ⟨v, r, e2, e3, e4⟩ => by
    cases (show r = [] from e4); cases (show v = V.int x.1 from e3); subst e2
    exact (l_for1 (M := M) (σ := σ) (H := H1) (tz := fun σ H Q => Q [.int x.1] H) (n := x.1) e1.dice (fun H2 e Q q => q [.int x.1] (x.1, ()) H2 (.refl e.dice) rfl ⟨_, [], rfl, rfl, rfl⟩) (hn x.1 hx) Pv (fun H2 e => h0 H2 (e1.trans e)) (hs x.1 hx) (hd x.1 hx) : tFor (iRng1 _) (gName j) ts D σ H1)
theorem q_forN {A : Int → Prop} {j : Nat} {tz : TA} {ts w : TS} {D : Ends} (d : DiceM M H) (h : EvA M tz σ H (Cons RI Nil) (fun q => A q.1)) (hn : ∀ n, A n → 0 ≤ n ∧ n < 1000000) (Pv : Int → L2.St → Hp → Prop) (h0 : ∀ H1, Xt M H H1 → Pv 0 σ H1)
    (hs : ∀ n, A n → ∀ (i : Int) σ' H', 0 ≤ i → i < n → Pv i σ' H' → ts { D with nx := Pv (i + 1), ct := Pv (i + 1), bk := w D } (σ'.set j (some (.int i))) H') (hd : ∀ n, A n → ∀ σ' H', Pv n σ' H' → w D σ' H') : tSeq (tFor (iRng1 tz) (gName j) ts) w D σ H :=
  l_forN (D := { D with nx := w D }) d h hn Pv h0 hs hd
theorem ev_unopt {o : Option α} {x : α} (h : Ev M te σ H (ROpt R) (Eq1 o)) (e : o = some x) : Ev M te σ H R (Eq1 x) := fun H1 e1 Q q => h H1 e1 Q fun v y H2 e2 hy r => by
  have hy' : y = some x := (show y = o from hy).trans e
  subst hy'
  exact q v x H2 e2 rfl r
theorem q_nil {i : Nat} {w : TS} {D : Ends} (k : ∀ F, H F = none → w D (σ.set i (some (.ref F))) (upd H F (.lst []))) : tSeq (tAsg (tLst tNil) (gName i)) w D σ H := ⟨Nat.zero_le _, fun F hF => k F hF⟩
theorem all_rv : ∀ {l : List V} {ws : List V} {H : Hp}, All RV l ws H → ws = l
  | _, _, _, .nil => rfl
  | _, _, _, .cons h r => by rw [all_rv r, (show _ = _ from h)]
theorem ev_isiT [Mo M R] {t : Value} {cs : List V} {us : List Value} {x : α} {b : Bool} (hc : Paired ClsV cs us) (hk : PySem.W.kitAny K t us = some b) (hty : ∀ x v H, R x v H → TyX K H v t) {ts : TA} (ha : Ev M ta σ H R (Eq1 x)) (hs : EvA M ts σ H (All RV) (Eq1 cs)) (hl : cs.length ≤ 1000 := by decide) :
    Ev M (tCB (rIsiT K) (tCons ta (tCons (tTup ts) tNil))) σ H RB (Eq1 b) := fun H1 e Q q =>
  ha H1 e _ fun v y H2 e2 hy ry => hs H2 (e.trans e2) _ fun ws z H3 e3 hz rz => by
    have hw := all_rv rz
    cases (show z = cs from hz)
    subst hw
    refine ⟨by rw [sizeLine_eq]; omega, fun p hp => ?_⟩
    have e4 : Xt M H3 (upd H3 p (.tup ws)) := .new e3.dice hp
    exact ⟨v, p, ws, t, us, b, rfl, upd_same, hc, hty _ _ _ (Mo.up (M := M) (e3.trans e4) ry), hk, q _ b _ ((e2.trans e3).trans e4) rfl rfl⟩
theorem same_zip {δ : Type} : ∀ (a b : List δ), (a.length = b.length ∧ ∀ q ∈ a.zip b, q.1 = q.2) ↔ a = b
  | [], [] => by simp
  | [], y :: b => by simp
  | x :: a, [] => by simp
  | x :: a, y :: b => by
    have ih := same_zip a b
    simp only [List.zip_cons_cons, List.length_cons, List.mem_cons, forall_eq_or_imp, List.cons.injEq]
    constructor
    · rintro ⟨h1, h2, h3⟩
      exact ⟨h2, ih.mp ⟨by omega, h3⟩⟩
    · rintro ⟨h1, h2⟩
      have := ih.mpr h2
      exact ⟨by omega, h1, this.2⟩
theorem same_bool {δ : Type} [DecidableEq δ] {f : δ × δ → Int} {a b : List δ} {d : Decidable (List.map f ((a.zip b).filter fun q => !decide (q.1 = q.2)) = [])} : (decide (((a.length : Nat) : Int) = ((b.length : Nat) : Int)) && @decide _ d) = decide (a = b) := by
  rw [Bool.eq_iff_iff, Bool.and_eq_true]
  constructor
  · rintro ⟨h1, h2⟩
    have h1' := of_decide_eq_true h1
    have h2' := of_decide_eq_true h2
    rw [List.map_eq_nil_iff, List.filter_eq_nil_iff] at h2'
    exact decide_eq_true ((same_zip a b).mp ⟨by omega, fun q hq => by have := h2' q hq; simpa using this⟩)
  · intro h
    have h' := (same_zip a b).mpr (of_decide_eq_true h)
    refine ⟨decide_eq_true (by rw [h'.1]), decide_eq_true ?_⟩
    rw [List.map_eq_nil_iff, List.filter_eq_nil_iff]
    intro q hq
    simp [h'.2 q hq]
theorem o_catL [Mo M R] : Op2 M rCat (RL M (All R)) (RL M (All R)) (RL M (All R)) (fun l k z => z = l ++ k) (fun l k => l.length + k.length ≤ 1000000) := by
  rintro l k v u H d ⟨a, ws, rfl, n, ha, hr⟩ ⟨b, us, rfl, nb, hb, hs⟩ hp Q q
  have app : ∀ {l : List α} {ws : List V} {l' ws'}, Paired (fun x v => R x v H) l ws → Paired (fun x v => R x v H) l' ws' → Paired (fun x v => R x v H) (l ++ l') (ws ++ ws') := fun {l ws l' ws'} a b => by
    induction a with
    | nil => exact b
    | cons h _ ih => exact .cons h ih
  have h3 : All R (l ++ k) (ws ++ us) H := app hr hs
  exact ⟨a, b, ws, us, rfl, rfl, ha, hb, by rw [all_len hr, all_len hs, sizeLine_eq]; omega, fun p hp => q _ _ _ (.new d hp) rfl ⟨p, _, rfl, ne_dice d hp, upd_same, Mos.up (M := M) (R := All R) (.new d hp) h3⟩⟩
theorem ev_lcRN [Mo M R'] [Ml R'] {g : TG} {vs : List Nat} {ts : TA} {A : Int → Prop} {p : Int → Bool} {B : Int → β → Prop} (τ : V → L2.St) (hl : EvA M ts σ H (Cons RI Nil) (fun q => A q.1)) (hz : ∀ n, A n → 0 ≤ n ∧ n < 1000000)
    (hg : ∀ v x H Q, RI x v H → Q (τ v) H → g v (wipe σ vs) H Q) (hw : ∀ v, wipe (τ v) vs = wipe σ vs)
    (ht : ∀ H1, Xt M H H1 → ∀ x, 0 ≤ x → EvT M t (τ (.int x)) H1 (Eq1 (p x))) (he : ∀ H1, Xt M H H1 → ∀ x, 0 ≤ x → p x = true → Ev M te (τ (.int x)) H1 R' (B x)) :
    Ev M (tLc (iRng1 ts) g t te vs) σ H (RL M (All R')) (fun ys => ∃ n, A n ∧ Comp p B (rng 0 n) ys) := fun H0 e0 Q q =>
  hl H0 e0 _ fun vs' x H1 e1 hx ⟨v, r, e2, e3, e4⟩ => by
    cases (show r = [] from e4); cases (show v = V.int x.1 from e3); subst e2
    exact (ev_lcR1 (M := M) (R' := R') (g := g) (vs := vs) (ts := fun σ H Q => Q [.int x.1] H) (n := x.1) (p := p) (B := B) τ (fun H2 e Q q => q [.int x.1] (x.1, ()) H2 (.refl e.dice) rfl ⟨_, [], rfl, rfl, rfl⟩) (hz x.1 hx) hg hw (fun H2 e y h _ => ht H2 e y h) (fun H2 e y h _ => he H2 e y h) : Ev M (tLc (iRng1 _) g t te vs) σ H (RL M (All R')) _) H1 (e0.trans e1) Q (fun v y H2 e2 hy ry => q v y H2 (e1.trans e2) ⟨x.1, hx, hy⟩ ry)
theorem atI_getD {δ : Type} {l : List δ} {i : Int} {d : δ} (h : 0 ≤ i ∧ i < (l.length : Int)) : atI l i = some (l.getD i.toNat d) := by
  unfold atI ixN
  rw [if_pos h.1, if_pos h.2]
  have : i.toNat < l.length := by omega
  simp [this]
end
end GE

namespace T17
open PySem PySem.Spec PyProof.Rows L2 GB GE
def mkc (x y : Int) : Int × Int := (x, y)
/-- what a clerk (cap, modulus) sees of a count -/
def see (c : Int × Int) (n : Int) : Int := if n < c.1 then n else c.1 + (n - c.1) % c.2
def finer (a b : Int × Int) : Bool := decide (b.1 ≤ a.1) && decide (a.2 % b.2 = 0)
def jn (a b : Int × Int) : Int × Int := (max a.1 b.1, (Int.lcm a.2 b.2 : Int))
def mt (a b : Int × Int) : Int × Int := (min a.1 b.1, (Int.gcd a.2 b.2 : Int))
theorem gpos (a b : Int) (h : 0 < a) : 0 < (Int.gcd a b : Int) := by
  have : 0 < Int.gcd a b := Int.gcd_pos_of_ne_zero_left b (by omega)
  omega
theorem gle (a b : Int) (h : 0 < a) : (Int.gcd a b : Int) ≤ a := Int.le_of_dvd h (Int.gcd_dvd_left a b)
theorem gle2 (a b : Int) (h : 0 < b) : (Int.gcd a b : Int) ≤ b := Int.le_of_dvd h (Int.gcd_dvd_right a b)
theorem lcm_eq (a b : Int) (ha : 0 < a) (hb : 0 < b) : a * b / (Int.gcd a b : Int) = (Int.lcm a b : Int) := by
  obtain ⟨m, rfl⟩ := Int.eq_ofNat_of_zero_le (Int.le_of_lt ha)
  obtain ⟨n, rfl⟩ := Int.eq_ofNat_of_zero_le (Int.le_of_lt hb)
  show ((m : Int) * (n : Int)) / ((Nat.gcd m n : Nat) : Int) = ((Nat.lcm m n : Nat) : Int)
  unfold Nat.lcm
  rw [Int.natCast_ediv, Int.natCast_mul]
theorem lpos (a b : Int) (ha : 0 < a) (hb : 0 < b) : 0 < (Int.lcm a b : Int) := by
  have : 0 < Int.lcm a b := Int.lcm_pos (by omega) (by omega)
  omega
theorem lle (a b : Int) (ha : 0 < a) (hb : 0 < b) : (Int.lcm a b : Int) ≤ a * b := by
  apply Int.le_of_dvd (Int.mul_pos ha hb)
  exact Int.coe_lcm_dvd (Int.dvd_mul_right a b) (Int.dvd_mul_left (a := a) (b := b))
theorem max_eq (a b : Int) : (if b > a then b else a) = max a b := by omega
theorem min_eq (a b : Int) : (if b < a then b else a) = min a b := by omega
/-- facts of the semilattices -/
theorem jn_assoc (a b c : Int × Int) : jn (jn a b) c = jn a (jn b c) := by
  unfold jn
  dsimp only
  rw [show max (max a.1 b.1) c.1 = max a.1 (max b.1 c.1) by omega]
  congr 1
  have : Int.lcm (Int.lcm a.2 b.2) c.2 = Int.lcm a.2 (Int.lcm b.2 c.2) := by
    simp only [Int.lcm, Int.natAbs_natCast]
    exact Nat.lcm_assoc _ _ _
  rw [this]
theorem mt_assoc (a b c : Int × Int) : mt (mt a b) c = mt a (mt b c) := by
  unfold mt
  dsimp only
  rw [show min (min a.1 b.1) c.1 = min a.1 (min b.1 c.1) by omega]
  congr 1
  have : Int.gcd (Int.gcd a.2 b.2) c.2 = Int.gcd a.2 (Int.gcd b.2 c.2) := by
    simp only [Int.gcd, Int.natAbs_natCast]
    exact Nat.gcd_assoc _ _ _
  rw [this]
theorem jn_comm (a b : Int × Int) : jn a b = jn b a := by
  unfold jn
  rw [Int.max_comm, Int.lcm_comm]
theorem mt_jn (a b : Int × Int) (ha : 0 < a.2) : mt a (jn a b) = a := by
  unfold mt jn
  dsimp only
  rw [show min a.1 (max a.1 b.1) = a.1 by omega]
  have : (Int.gcd a.2 (Int.lcm a.2 b.2) : Int) = a.2 := by
    have h : a.2 ∣ (Int.lcm a.2 b.2 : Int) := Int.dvd_lcm_left a.2 b.2
    have h2 : a.2 ∣ (Int.gcd a.2 (Int.lcm a.2 b.2) : Int) := Int.dvd_coe_gcd (Int.dvd_refl _) h
    have h3 := gle a.2 (Int.lcm a.2 b.2) ha
    have h4 := Int.le_of_dvd (gpos a.2 (Int.lcm a.2 b.2) ha) h2
    omega
  rw [this]
theorem jn_mt (a b : Int × Int) (ha : 0 < a.2) : jn a (mt a b) = a := by
  unfold mt jn
  dsimp only
  rw [show max a.1 (min a.1 b.1) = a.1 by omega]
  have : (Int.lcm a.2 (Int.gcd a.2 b.2) : Int) = a.2 := by
    have h : (Int.gcd a.2 b.2 : Int) ∣ a.2 := Int.gcd_dvd_left a.2 b.2
    have h2 : (Int.lcm a.2 (Int.gcd a.2 b.2) : Int) ∣ a.2 := Int.coe_lcm_dvd (Int.dvd_refl _) h
    have h3 : a.2 ∣ (Int.lcm a.2 (Int.gcd a.2 b.2) : Int) := Int.dvd_lcm_left _ _
    have h4 := Int.le_of_dvd ha h2
    have h5 := Int.le_of_dvd (lpos a.2 _ ha (gpos a.2 b.2 ha)) h3
    omega
  rw [this]
theorem mod_eq (a b m : Int) (hm : 0 < m) (h : a % m = b % m) : (b - a) % m = 0 := by
  rw [Int.sub_emod, h, Int.sub_self, Int.zero_emod]
theorem finer_see {a b : Int × Int} (h : finer a b = true) (n : Int) (hn : a.1 ≤ n) (ha : 0 < a.2) : see b n = see b (n + a.2) := by
  unfold finer at h
  simp at h
  unfold see
  rw [if_neg (by omega), if_neg (by omega)]
  have : (n + a.2 - b.1) % b.2 = (n - b.1) % b.2 := by
    rw [show n + a.2 - b.1 = (n - b.1) + a.2 by omega, Int.add_emod, h.2, Int.add_zero, Int.emod_emod_of_dvd _ (Int.dvd_refl _)]
  rw [this]
theorem finer_of {a b : Int × Int} (ha : 0 ≤ a.1 ∧ 0 < a.2) (hb : 0 ≤ b.1 ∧ 0 < b.2) (h : ∀ n, a.1 ≤ n → n < a.1 + a.2 → see b n = see b (n + a.2)) : finer a b = true := by
  have h0 := h a.1 (by omega) (by omega)
  unfold see at h0
  have hlt : ¬ a.1 < b.1 := by
    intro hlt
    rw [if_pos hlt] at h0
    split at h0
    · omega
    · have := Int.emod_nonneg (a.1 + a.2 - b.1) (show b.2 ≠ 0 by omega)
      omega
  rw [if_neg hlt, if_neg (by omega)] at h0
  have h1 := mod_eq (a.1 - b.1) (a.1 + a.2 - b.1) b.2 hb.2 (by omega)
  rw [show a.1 + a.2 - b.1 - (a.1 - b.1) = a.2 by omega] at h1
  unfold finer
  simp [h1]
  omega
theorem see_see {a b : Int × Int} (hb : 0 ≤ b.1 ∧ 0 < b.2) (ha : 0 ≤ a.1 ∧ 0 < a.2) (h : finer a b = true) (n : Int) : see b (see a n) = see b n := by
  unfold finer at h
  simp at h
  obtain ⟨h1, h2⟩ := h
  unfold see
  by_cases q : n < a.1
  · rw [if_pos q]
  · rw [if_neg q]
    have e := Int.emod_nonneg (n - a.1) (show a.2 ≠ 0 by omega)
    rw [if_neg (by omega), if_neg (by omega)]
    have : (a.1 + (n - a.1) % a.2 - b.1) % b.2 = (n - b.1) % b.2 := by
      have h3 : (n - a.1) % a.2 = (n - a.1) - a.2 * ((n - a.1) / a.2) := by have := Int.mul_ediv_add_emod (n - a.1) a.2; omega
      rw [h3, show a.1 + (n - a.1 - a.2 * ((n - a.1) / a.2)) - b.1 = (n - b.1) - a.2 * ((n - a.1) / a.2) by omega]
      obtain ⟨c, hc⟩ := Int.dvd_of_emod_eq_zero h2
      rw [hc, Int.mul_assoc, Int.sub_mul_emod_self_left]
    rw [this]
def most_c (a b : Int) : List Int := (rng 1 145).filter fun n => decide (([a, b].filter fun p => !decide (n % p = 0)) = [])
def least_c (a b : Int) : List Int := (rng 1 13).filter fun n => decide (([a, b].filter fun p => !decide (p % n = 0)) = [])
theorem most_chk : ((List.range 13).all fun i => (List.range 13).all fun j => i == 0 || j == 0 || decide (atI (most_c i j) 0 = some (Int.lcm i j : Int) ∧ atI (least_c i j) (-1) = some (Int.gcd i j : Int))) = true := by decide +kernel
theorem most_ix {a b : Int} (ha : 0 < a ∧ a ≤ 12) (hb : 0 < b ∧ b ≤ 12) : atI (most_c a b) 0 = some (Int.lcm a b : Int) ∧ atI (least_c a b) (-1) = some (Int.gcd a b : Int) := by
  obtain ⟨i, rfl⟩ := Int.eq_ofNat_of_zero_le (show 0 ≤ a by omega)
  obtain ⟨j, rfl⟩ := Int.eq_ofNat_of_zero_le (show 0 ≤ b by omega)
  have h := List.all_eq_true.mp (List.all_eq_true.mp most_chk i (List.mem_range.mpr (by omega))) j (List.mem_range.mpr (by omega))
  have h1 : i ≠ 0 := by omega
  have h2 : j ≠ 0 := by omega
  simp [h1, h2] at h
  exact h
theorem jn_lt {a b : Int × Int} (h1 : 0 < a.2) (h2 : a.2 ≤ 12) (h3 : 0 < b.2) (h4 : b.2 ≤ 12) : (jn a b).2 < 1000 := by
  have h5 := lle a.2 b.2 h1 h3
  have h6 : a.2 * b.2 ≤ 12 * 12 := Int.mul_le_mul h2 h4 (by omega) (by omega)
  show (Int.lcm a.2 b.2 : Int) < 1000
  omega
theorem mt_lt {a b : Int × Int} (h1 : 0 < a.2) (h2 : a.2 ≤ 12) : (mt a b).2 < 1000 := by
  have h5 := gle a.2 b.2 h1
  show (Int.gcd a.2 b.2 : Int) < 1000
  omega
theorem fin_jn1 {a b : Int × Int} (ha : 0 ≤ a.1 ∧ 0 < a.2) (hb : 0 ≤ b.1 ∧ 0 < b.2) : finer (jn a b) a = true := by
  unfold finer jn
  have h : (Int.lcm a.2 b.2 : Int) % a.2 = 0 := Int.emod_eq_zero_of_dvd (Int.dvd_lcm_left a.2 b.2)
  simp [h]; omega
theorem fin_jn2 {a b : Int × Int} (ha : 0 ≤ a.1 ∧ 0 < a.2) (hb : 0 ≤ b.1 ∧ 0 < b.2) : finer (jn a b) b = true := by
  rw [jn_comm]; exact fin_jn1 hb ha
theorem fin_mt1 {a b : Int × Int} (ha : 0 ≤ a.1 ∧ 0 < a.2) (hb : 0 ≤ b.1 ∧ 0 < b.2) : finer a (mt a b) = true := by
  unfold finer mt
  have h : a.2 % (Int.gcd a.2 b.2 : Int) = 0 := Int.emod_eq_zero_of_dvd (Int.gcd_dvd_left a.2 b.2)
  simp [h]; omega
theorem fin_mt2 {a b : Int × Int} (ha : 0 ≤ a.1 ∧ 0 < a.2) (hb : 0 ≤ b.1 ∧ 0 < b.2) : finer b (mt a b) = true := by
  unfold finer mt
  have h : b.2 % (Int.gcd a.2 b.2 : Int) = 0 := Int.emod_eq_zero_of_dvd (Int.gcd_dvd_right a.2 b.2)
  simp [h]; omega
theorem mt_comm (a b : Int × Int) : mt a b = mt b a := by
  unfold mt
  rw [Int.min_comm, Int.gcd_comm]
theorem fin_anti {a b : Int × Int} (ha : 0 ≤ a.1 ∧ 1 ≤ a.2) (hb : 0 ≤ b.1 ∧ 1 ≤ b.2) : (finer a b && finer b a) = decide (a = b) := by
  by_cases e : a = b
  · subst e
    simp [finer]
  · rw [decide_eq_false e]
    cases h : (finer a b && finer b a) with
    | false => rfl
    | true =>
      exfalso
      apply e
      unfold finer at h
      simp at h
      obtain ⟨⟨h1, h2⟩, h3, h4⟩ := h
      have h5 := Int.le_of_dvd (by omega) (Int.dvd_of_emod_eq_zero h2)
      have h6 := Int.le_of_dvd (by omega) (Int.dvd_of_emod_eq_zero h4)
      exact Prod.ext (by omega) (by omega)
theorem comp_all {α β : Type} {B : α → β → Prop} {P : β → Prop} (hB : ∀ x y, B x y → P y) {xs : List α} {ys : List β} (h : Comp (fun _ => true) B xs ys) : ys.length = xs.length ∧ ∀ y ∈ ys, P y := by
  induction h with
  | nil => exact ⟨rfl, fun y h => by cases h⟩
  | yes h1 h2 h3 ih =>
    refine ⟨by simp [ih.1], fun y hy => ?_⟩
    rcases List.mem_cons.mp hy with e | m
    · subst e; exact hB _ _ h2
    · exact ih.2 y m
  | no h1 _ _ => cases h1
end T17

namespace T18
open PySem PySem.Spec PyProof.Rows L2 GB GE T17
def isOrd (l : List Int) : Prop := (1 ≤ l.length ∧ l.length ≤ 3) ∧ ∀ c ∈ l, 0 ≤ c
def nextA (c : Int × Int) (n : Int) : Option Int := if n < c.1 then none else some (n + c.2)
def addL (a b : List Int) : List Int := List.zipWith (· + ·) a b
def sumR (n : Nat) (rows : List (List Int)) : List Int := rows.foldl addL (List.replicate n 0)
/-- a good clerk -/
def okC (c : Int × Int) : Prop := 0 ≤ c.1 ∧ 0 < c.2
theorem see_b {c : Int × Int} (hc : okC c) {n : Int} (hn : 0 ≤ n) : 0 ≤ see c n ∧ see c n < c.1 + c.2 := by
  obtain ⟨h1, h2⟩ := hc
  unfold see
  have e1 := Int.emod_nonneg (n - c.1) (show c.2 ≠ 0 by omega)
  have e2 := Int.emod_lt_of_pos (n - c.1) h2
  split <;> omega
/-- a sight's count added to b is seen as the count itself added -/
theorem see_add {c : Int × Int} (hc : okC c) {a b : Int} (ha : 0 ≤ a) (hb : 0 ≤ b) : see c (see c a + b) = see c (a + b) := by
  obtain ⟨h1, h2⟩ := hc
  by_cases q : a < c.1
  · unfold see
    rw [if_pos q]
  · have e1 := Int.emod_nonneg (a - c.1) (show c.2 ≠ 0 by omega)
    have e : see c a = c.1 + (a - c.1) % c.2 := by unfold see; rw [if_neg q]
    rw [e]
    unfold see
    rw [if_neg (by omega), if_neg (by omega)]
    have : (c.1 + (a - c.1) % c.2 + b - c.1) % c.2 = (a + b - c.1) % c.2 := by
      rw [show c.1 + (a - c.1) % c.2 + b - c.1 = (a - c.1) % c.2 + b by omega, show a + b - c.1 = (a - c.1) + b by omega, Int.emod_add_emod]
    rw [this]
theorem see_add2 {c : Int × Int} (hc : okC c) {a b : Int} (ha : 0 ≤ a) (hb : 0 ≤ b) : see c (a + see c b) = see c (a + b) := by
  rw [Int.add_comm, see_add hc hb ha, Int.add_comm]
theorem see_idem {c : Int × Int} (hc : okC c) {a : Int} (ha : 0 ≤ a) : see c (see c a) = see c a := by
  have h := see_add hc ha (b := 0) (by omega)
  simpa using h
/-- lists of counts that are not below 0, of n sorts -/
def good (n : Nat) (l : List Int) : Prop := l.length = n ∧ ∀ x ∈ l, 0 ≤ x
theorem good_add {n : Nat} {a b : List Int} (ha : good n a) (hb : good n b) : good n (addL a b) := by
  refine ⟨by unfold addL; rw [List.length_zipWith, ha.1, hb.1]; omega, fun x hx => ?_⟩
  replace hx : x ∈ List.zipWith (· + ·) a b := hx
  obtain ⟨i, hi, e⟩ := List.mem_iff_getElem.mp hx
  rw [List.getElem_zipWith] at e
  rw [List.length_zipWith] at hi
  have h1 := ha.2 a[i] (List.getElem_mem (by omega))
  have h2 := hb.2 b[i] (List.getElem_mem (by omega))
  omega
theorem good_zero (n : Nat) : good n (List.replicate n 0) := ⟨by simp, fun x hx => by rw [List.eq_of_mem_replicate hx]; omega⟩
theorem good_see {c : Int × Int} (hc : okC c) {n : Nat} {a : List Int} (ha : good n a) : good n (a.map (see c)) := ⟨by simp [ha.1], fun x hx => by
  obtain ⟨y, hy, rfl⟩ := List.mem_map.mp hx
  exact (see_b hc (ha.2 y hy)).1⟩
theorem good_fold {n : Nat} : ∀ {rows : List (List Int)} {z : List Int}, good n z → (∀ r ∈ rows, good n r) → good n (rows.foldl addL z)
  | [], _, hz, _ => hz
  | r :: rows, z, hz, h => good_fold (rows := rows) (z := addL z r) (good_add hz (h r List.mem_cons_self)) fun q hq => h q (List.mem_cons_of_mem _ hq)
theorem good_sum {n : Nat} {rows : List (List Int)} (h : ∀ r ∈ rows, good n r) : good n (sumR n rows) := good_fold (good_zero n) h
/-- what is seen of a sum depends on what is seen of the parts -/
theorem map_see_add {c : Int × Int} (hc : okC c) : ∀ {a b a' b' : List Int}, (∀ x ∈ a, 0 ≤ x) → (∀ x ∈ b, 0 ≤ x) → (∀ x ∈ a', 0 ≤ x) → (∀ x ∈ b', 0 ≤ x) → a.map (see c) = a'.map (see c) → b.map (see c) = b'.map (see c) → (addL a b).map (see c) = (addL a' b').map (see c)
  | [], _, [], _, _, _, _, _, _, _ => by simp [addL]
  | [], _, _ :: _, _, _, _, _, _, h, _ => by simp at h
  | _ :: _, _, [], _, _, _, _, _, h, _ => by simp at h
  | _ :: _, [], _ :: _, [], _, _, _, _, _, _ => by simp [addL]
  | _ :: _, [], _ :: _, _ :: _, _, _, _, _, _, h => by simp at h
  | _ :: _, _ :: _, _ :: _, [], _, _, _, _, _, h => by simp at h
  | x :: a, y :: b, x' :: a', y' :: b', h1, h2, h3, h4, e1, e2 => by
    simp only [List.map_cons, List.cons.injEq] at e1 e2
    have ih := map_see_add hc (a := a) (b := b) (a' := a') (b' := b') (fun z hz => h1 z (List.mem_cons_of_mem _ hz)) (fun z hz => h2 z (List.mem_cons_of_mem _ hz)) (fun z hz => h3 z (List.mem_cons_of_mem _ hz)) (fun z hz => h4 z (List.mem_cons_of_mem _ hz)) e1.2 e2.2
    unfold addL at ih ⊢
    rw [List.zipWith_cons_cons, List.zipWith_cons_cons, List.map_cons, List.map_cons, ih]
    have p1 := h1 x List.mem_cons_self; have p2 := h2 y List.mem_cons_self; have p3 := h3 x' List.mem_cons_self; have p4 := h4 y' List.mem_cons_self
    have k1 := (see_b hc p1).1; have k2 := (see_b hc p2).1
    congr 1
    rw [← see_add hc p1 p2, ← see_add2 hc k1 p2, e1.1, e2.1, see_add2 hc (see_b hc p3).1 p4, see_add hc p3 p4]
theorem see_map_idem {c : Int × Int} (hc : okC c) {a : List Int} (ha : ∀ x ∈ a, 0 ≤ x) : (a.map (see c)).map (see c) = a.map (see c) := by
  rw [List.map_map]
  exact List.map_congr_left fun x hx => see_idem hc (ha x hx)
theorem fold_see {c : Int × Int} (hc : okC c) {n : Nat} : ∀ {rows rows' : List (List Int)} {z z' : List Int}, good n z → good n z' → (∀ r ∈ rows, good n r) → (∀ r ∈ rows', good n r) → z.map (see c) = z'.map (see c) → rows.map (List.map (see c)) = rows'.map (List.map (see c)) →
    (rows.foldl addL z).map (see c) = (rows'.foldl addL z').map (see c)
  | [], [], _, _, _, _, _, _, e, _ => e
  | [], _ :: _, _, _, _, _, _, _, _, h => by simp at h
  | _ :: _, [], _, _, _, _, _, _, _, h => by simp at h
  | r :: rows, r' :: rows', z, z', hz, hz', h, h', e, er => by
    simp only [List.map_cons, List.cons.injEq] at er
    have g1 := h r List.mem_cons_self
    have g2 := h' r' List.mem_cons_self
    exact fold_see (rows := rows) (rows' := rows') (z := addL z r) (z' := addL z' r') hc (good_add hz g1) (good_add hz' g2) (fun q hq => h q (List.mem_cons_of_mem _ hq)) (fun q hq => h' q (List.mem_cons_of_mem _ hq)) (map_see_add hc hz.2 g1.2 hz'.2 g2.2 e er.1) er.2
theorem sum_see {c : Int × Int} (hc : okC c) {n : Nat} {rows rows' : List (List Int)} (h : ∀ r ∈ rows, good n r) (h' : ∀ r ∈ rows', good n r) (e : rows.map (List.map (see c)) = rows'.map (List.map (see c))) : (sumR n rows).map (see c) = (sumR n rows').map (see c) :=
  fold_see hc (good_zero n) (good_zero n) h h' rfl e
theorem addL_comm (a b : List Int) : addL a b = addL b a := by
  unfold addL
  exact List.zipWith_comm_of_comm (fun x y => Int.add_comm x y)
theorem addL_assoc : ∀ (a b c : List Int), addL (addL a b) c = addL a (addL b c)
  | [], _, _ => by simp [addL]
  | _ :: _, [], _ => by simp [addL]
  | _ :: _, _ :: _, [] => by simp [addL]
  | x :: a, y :: b, z :: c => by
    have ih := addL_assoc a b c
    unfold addL at ih ⊢
    simp only [List.zipWith_cons_cons, ih, Int.add_assoc]
theorem addL_right (a b c : List Int) : addL (addL a b) c = addL (addL a c) b := by
  rw [addL_assoc, addL_comm b c, addL_assoc]
theorem sum_perm {n : Nat} {rows rows' : List (List Int)} (h : rows.Perm rows') : sumR n rows = sumR n rows' := by
  unfold sumR
  exact h.foldl_eq' (fun x _ y _ z => addL_right z x y) _
theorem addL_zero {n : Nat} {a : List Int} (ha : a.length = n) : addL (List.replicate n 0) a = a := by
  subst ha
  induction a with
  | nil => rfl
  | cons x a ih =>
    have : addL (List.replicate (x :: a).length 0) (x :: a) = (0 + x) :: addL (List.replicate a.length 0) a := rfl
    rw [this, ih, Int.zero_add]
theorem fold_add {n : Nat} : ∀ {rows : List (List Int)} {z : List Int}, z.length = n → (∀ r ∈ rows, good n r) → rows.foldl addL z = addL z (sumR n rows)
  | [], z, hz, _ => by show z = addL z (List.replicate n 0); rw [addL_comm, addL_zero hz]
  | r :: rows, z, hz, h => by
    have g := h r List.mem_cons_self
    have h2 : ∀ q ∈ rows, good n q := fun q hq => h q (List.mem_cons_of_mem _ hq)
    have e1 : sumR n (r :: rows) = rows.foldl addL r := by show rows.foldl addL (addL (List.replicate n 0) r) = _; rw [addL_zero g.1]
    show rows.foldl addL (addL z r) = _
    rw [fold_add (n := n) (by unfold addL; rw [List.length_zipWith, hz, g.1]; omega) h2, e1, fold_add g.1 h2, addL_assoc]
theorem sum_app {n : Nat} {a b : List (List Int)} (ha : ∀ r ∈ a, good n r) (hb : ∀ r ∈ b, good n r) : sumR n (a ++ b) = addL (sumR n a) (sumR n b) := by
  show (a ++ b).foldl addL _ = _
  rw [List.foldl_append]
  exact fold_add (good_sum ha).1 hb
theorem sum_snoc {n : Nat} {a : List (List Int)} {r : List Int} : sumR n (a ++ [r]) = addL (sumR n a) r := by
  show (a ++ [r]).foldl addL _ = _
  rw [List.foldl_append]; rfl
theorem sum_rep {n : Nat} {r : List Int} (hr : good n r) : ∀ k : Nat, sumR n (List.replicate k r) = r.map (· * (k : Int))
  | 0 => by
    show List.replicate n 0 = _
    rw [← hr.1]
    simp [List.map_const']
  | k + 1 => by
    rw [List.replicate_succ', sum_snoc, sum_rep hr k]
    unfold addL
    rw [List.zipWith_map_left, List.zipWith_self]
    exact List.map_congr_left fun x _ => by rw [Int.natCast_add, Int.mul_add]; simp
theorem see_next {c : Int × Int} (hc : okC c) {n : Int} (h : ¬ n < c.1) : see c (n + c.2) = see c n := by
  obtain ⟨h1, h2⟩ := hc
  unfold see
  rw [if_neg h, if_neg (by omega), show n + c.2 - c.1 = (n - c.1) + c.2 by omega, Int.add_emod_right]
theorem others_ok {c : Int × Int} {n : Nat} : ∀ {rows others : List (List Int)}, Paired (fun row z => good row.length z ∧ z.map (see c) = row.map (see c)) rows others → (∀ r ∈ rows, good n r) → others.map (List.map (see c)) = rows.map (List.map (see c)) ∧ (∀ r ∈ others, good n r) ∧ others.length = rows.length
  | _, _, .nil, _ => ⟨rfl, (fun _ h => by cases h), rfl⟩
  | _, _, .cons (a := r) (l₁ := rows) h t, hg => by
    have ih := others_ok t fun q hq => hg q (List.mem_cons_of_mem _ hq)
    have hr := hg _ List.mem_cons_self
    refine ⟨by rw [List.map_cons, List.map_cons, ih.1, h.2], fun q hq => ?_, by simp [ih.2.2]⟩
    rcases List.mem_cons.mp hq with e | m
    · subst e; exact ⟨h.1.1.trans hr.1, h.1.2⟩
    · exact ih.2.1 q m
theorem flat1 {α : Type} {a : α} : ∀ n : Nat, (List.replicate n [a]).flatten = List.replicate n a
  | 0 => rfl
  | n + 1 => by rw [List.replicate_succ, List.flatten_cons, flat1 n, List.replicate_succ]; rfl
theorem ord_of {n : Nat} {l : List Int} (h : good n l) (h1 : 1 ≤ n) (h2 : n ≤ 3) : isOrd l := ⟨by rw [h.1]; exact ⟨h1, h2⟩, h.2⟩
theorem see_mul {c : Int × Int} (hc : okC c) {n : Nat} {a : List Int} (ha : good n a) (k : Nat) : ((a.map (see c)).map (· * (k : Int))).map (see c) = (a.map (· * (k : Int))).map (see c) := by
  rw [← sum_rep (good_see hc ha), ← sum_rep ha]
  refine sum_see hc (fun r hr => by rw [List.eq_of_mem_replicate hr]; exact good_see hc ha) (fun r hr => by rw [List.eq_of_mem_replicate hr]; exact ha) ?_
  rw [List.map_replicate, List.map_replicate, see_map_idem hc ha.2]
theorem perm_erase {α : Type} : ∀ (l : List α) (j : Nat) (h : j < l.length), (l[j] :: l.eraseIdx j).Perm l
  | x :: l, 0, _ => by simp
  | x :: l, j + 1, h => by
    have ih := perm_erase l j (by simpa using h)
    simp only [List.getElem_cons_succ, List.eraseIdx_cons_succ]
    exact (List.Perm.swap x _ _).trans (ih.cons x)
end T18

namespace T18
open PySem PySem.Spec PyProof.Rows L2 GB GE T17
def top (i : Nat) : Stmt := PySem.Challenge.pw_clerkblurs_k18_whole_sums_seen_piece_by.main.body.getD i (.Pass ⟨0, 0, 0, 0⟩)
local macro_rules | `(tactic| wtm_at "pre") => `(tactic| first | with_reducible exact True.intro | ((try dsimp only); first | with_reducible exact True.intro | with_reducible assumption | omega | (exact Or.inl ⟨by omega, by omega⟩) | (exact Or.inr ⟨by omega, by omega⟩) | exact ⟨by omega, by omega⟩ | exact ⟨by omega, by omega, by omega⟩ | decide +kernel | (simp_all; done) | (simp_all; omega)))
local macro_rules | `(tactic| wtm_at "len") => `(tactic| first | exact len1 (by decide) | exact len2 (by decide) | exact len2 (by simp))
/-! the mathematics -/
def isInt (v l : Int) (m : Option Int) : Bool := decide (l ≤ v) && (match m with | none => true | some z => decide (v ≤ z))
local macro_rules | `(tactic| wtm_at "fin") => `(tactic| first | rfl | (simp [see, finer, isInt, rng_len, Prod.ext_iff, nextA]; done) | (simp [see, finer, isInt, rng_len, Prod.ext_iff, nextA]; omega) | (simp only [see, finer]; split <;> first | rfl | omega) | (dsimp only; rw [List.filter_eq_self.2 (fun _ _ => rfl)]; done) | (dsimp only; rw [List.filter_eq_self.2 (fun _ _ => rfl)]; exact zip_map) | (dsimp only; rw [List.filter_eq_self.2 (fun _ _ => rfl)]; refine List.map_congr_left fun y _ => ?_; simp [see]; done) | (simp [see, finer, isInt, rng_len, Prod.ext_iff, nextA] <;> omega))
local macro_rules | `(tactic| wtm_at "nev") => `(tactic| first | (simp_all [Eq1]; done) | (simp_all [Eq1, isInt]; done) | (simp [Eq1, isInt] at *; omega))
structure Txt (N : En) : Prop where
  n_int : N.mg "int" = none
  n_bool : N.mg "bool" = none
  n_tuple : N.mg "tuple" = none
  n_list : N.mg "list" = none
  n_len : N.mg "len" = none
  n_range : N.mg "range" = none
  n_max : N.mg "max" = none
  n_min : N.mg "min" = none
  n_dict : N.mg "dict" = none
  n_str : N.mg "str" = none
  n_zip : N.mg "zip" = none
  n_all : N.mg "all" = none
  n_abs : N.mg "abs" = none
  n_isinstance : N.mg "isinstance" = none
  i_MAX_SORTS : IntG N "MAX_SORTS" 3
  i_MAX_TIMES : IntG N "MAX_TIMES" 99
  i_MAX_CAP : IntG N "MAX_CAP" 12
  i_MAX_MODULUS : IntG N "MAX_MODULUS" 12
  g_Clerk : N.mg "Clerk" = some (.ref (N.ga "Clerk"))
  g_Numbers : N.mg "Numbers" = some (.ref (N.ga "Numbers"))
  c_Clerk : Cls N.K (N.ga "Clerk")
  na_Clerk_own_cap : NoAttr N.K (N.ga "Clerk") "own_cap"
  na_Clerk_own_modulus : NoAttr N.K (N.ga "Clerk") "own_modulus"
  fi_Clerk : PySem.W.fnIn N.K (He.ma N.K (N.ga "Clerk") "__call__") = true
  mk_Clerk : Mk N.K (N.ga "Clerk") (N.ma "Clerk" "__init__")
  mk_Numbers : Mk N.K (N.ga "Numbers") (N.ma "Numbers" "__init__")
  kt_int_bool : PySem.W.kitOne N.K (.type "int") (.type "bool") = some false
  kt_int_Numbers : PySem.W.kitOne N.K (.type "int") (.ref (N.ga "Numbers")) = some false
  kt_Numbers_Numbers : PySem.W.kitOne N.K (.ref (N.ga "Numbers")) (.ref (N.ga "Numbers")) = some true
  kt_tuple_dict : PySem.W.kitOne N.K (.type "tuple") (.type "dict") = some false
  kt_tuple_tuplelist : PySem.W.kitAny N.K (.type "tuple") [.type "tuple", .type "list"] = some true
  kt_list_dict : PySem.W.kitOne N.K (.type "list") (.type "dict") = some false
  kt_list_tuplelist : PySem.W.kitAny N.K (.type "list") [.type "tuple", .type "list"] = some true
  kt_int_dict : PySem.W.kitOne N.K (.type "int") (.type "dict") = some false
  kt_int_tuplelist : PySem.W.kitAny N.K (.type "int") [.type "tuple", .type "list"] = some false
  kt_list_tuple : PySem.W.kitOne N.K (.type "list") (.type "tuple") = some false
  kt_int_str : PySem.W.kitOne N.K (.type "int") (.type "str") = some false
  sc_Numbers : SlX.SCls N.K (N.ga "Numbers")
  is_Numbers : IsC N.K (N.ga "Numbers")
  sl_cap : ∃ p, SlX.Slot1 N.K (N.ga "Numbers") "own_cap" p 0
  sl_modulus : ∃ p, SlX.Slot1 N.K (N.ga "Numbers") "own_modulus" p 1
def FClerk : Int × Int → List (Str × V) → Hp → Prop := fun x fs _ => fs = ([(("own_cap" : Str), V.int x.1), (("own_modulus" : Str), V.int x.2)] : List (Str × V)) ∧ 0 ≤ x.1 ∧ 0 < x.2
instance {M : Option Addr} : Mfs FClerk M := ⟨fun _ h => h⟩
instance : Mlf FClerk := ⟨fun _ h => h⟩
abbrev R_Clerk (N : En) (M : Option Addr) : Rp (Int × Int) := RO M (N.ga "Clerk") FClerk
theorem clerk_ok {N M x v H} (h : R_Clerk N M x v H) : 0 ≤ x.1 ∧ 0 < x.2 := by obtain ⟨_, _, _, _, _, _, _, h⟩ := h; exact h
theorem lks (a b : V) : ([(("own_cap" : Str), a), (("own_modulus" : Str), b)] : List (Str × V)).lookup ("own_cap" : Str) = some a ∧ ([(("own_cap" : Str), a), (("own_modulus" : Str), b)] : List (Str × V)).lookup ("own_modulus" : Str) = some b := ⟨rfl, by
  have h : (("own_modulus" : Str) == ("own_cap" : Str)) = false := by decide +kernel
  rw [List.lookup_cons, h]; rfl⟩
theorem put2 (a b : V) : putF ("own_modulus" : Str) b (putF ("own_cap" : Str) a []) = [(("own_cap" : Str), a), (("own_modulus" : Str), b)] := by
  show (if ("own_cap" : Str) = "own_modulus" then _ else _) = _
  rw [if_neg (by decide +kernel)]
  rfl
theorem lkn (m : Str) (a b : V) (h1 : (m == ("own_cap" : Str)) = false) (h2 : (m == ("own_modulus" : Str)) = false) : ([(("own_cap" : Str), a), (("own_modulus" : Str), b)] : List (Str × V)).lookup m = none := by
  rw [List.lookup_cons, h1, List.lookup_cons, h2]; rfl
theorem lk_Clerk_own_cap : ∀ (x : Int × Int) (fs : List (Str × V)) (H : Hp), FClerk x fs H → ∃ v, fs.lookup ("own_cap" : Str) = some v ∧ RI x.1 v H := fun x fs H h => by rw [h.1]; exact ⟨_, (lks _ _).1, rfl⟩
theorem lk_Clerk_own_modulus : ∀ (x : Int × Int) (fs : List (Str × V)) (H : Hp), FClerk x fs H → ∃ v, fs.lookup ("own_modulus" : Str) = some v ∧ RI x.2 v H := fun x fs H h => by rw [h.1]; exact ⟨_, (lks _ _).2, rfl⟩
theorem lkm_Clerk_next_alike : ∀ (x : Int × Int) (fs : List (Str × V)) (H : Hp), FClerk x fs H → fs.lookup ("next_alike" : Str) = none := fun x fs H h => by rw [h.1]; exact lkn _ _ _ (by decide +kernel) (by decide +kernel)
theorem lkm_Clerk_added : ∀ (x : Int × Int) (fs : List (Str × V)) (H : Hp), FClerk x fs H → fs.lookup ("added" : Str) = none := fun x fs H h => by rw [h.1]; exact lkn _ _ _ (by decide +kernel) (by decide +kernel)
/-- the numbers that are held -/
def gN (p : Int × Int) : List V := [.int p.1, .int p.2]
abbrev R_Numbers (N : En) (M : Option Addr) : Rp (Int × Int) := RSl M (N.ga "Numbers") gN
abbrev s_is_integer : Stmt := top 10
def N_is_integer : List Str := ["value", "least", "most"]
theorem sc_is_integer : FnScope N_is_integer ["value", "least", "most"] (defScope s_is_integer) := ⟨rfl, rfl, rfl, by decide +kernel, rfl, by decide +kernel, by decide +kernel⟩
abbrev sp_is_integer (N : En) : Sp := FnF (fun M => (Cons RI (Cons RI (Cons (ROpt RI) Nil)))) (fun M => RB) (fun (x_value, x_least, x_most, _) => True) (fun (x_value, x_least, x_most, _) => isInt x_value x_least x_most)
theorem ok_is_integer {N : En} (T : Txt N) (F : FunP N "is_integer" s_is_integer)  : Dn N 1 "is_integer" (sp_is_integer N) := by
  refine dn_mk F sc_is_integer (fun _ _ _ _ _ _ us hl => match us, hl with | [_, _, _], _ => rfl) (fun vs H Q E h => by obtain ⟨_, _, _, ⟨_, _, rfl, _, _, _, rfl, _, _, _, rfl, _, rfl⟩, _⟩ := h; rfl) ?_
  rintro cdv A outer s H vs Q E hr ⟨M, ⟨x_value, x_least, x_most, ⟨⟩⟩, d0, ⟨v_value, _, rfl, r_value, v_least, _, rfl, r_least, v_most, _, rfl, r_most, rfl⟩, hp, k⟩
  replace r_value : RI x_value v_value H := r_value
  replace r_least : RI x_least v_least H := r_least
  replace r_most : (ROpt RI) x_most v_most H := r_most
  try dsimp only at hp
  refine ⟨_, (pss_cons (ps_if (PW.pt (pw_or (pt_not (pt_val (pe_callB call_isi (by rfl) T.n_isinstance (by decide +kernel) (pa_cons (pv 0) (pa_cons (pe_bltn (v := .ty "int") (by rfl) T.n_int (by decide +kernel) rfl) pa_nil))))) (pw_or (pt_val (pe_callB call_isi (by rfl) T.n_isinstance (by decide +kernel) (pa_cons (pv 0) (pa_cons (pe_bltn (v := .ty "bool") (by rfl) T.n_bool (by decide +kernel) rfl) pa_nil)))) (pw_or1 (pt_cmpR op_lt (pv 0) (pv 1) (nomark _))))))
      (pss_one (ps_ret pe_bl)) pss_nil)
    (pss_one (ps_ret (pe_or (pe_cmpR op_isN (pv 2) pe_non (nomark _)) (pe_one (pe_cmpR op_le (pv 0) (pv 2) (nomark _))))))), ?_⟩
  refine q_ifS0 d0 (et_or (et_not (et_val (ev_cb1 (f := fun _ z => z = true) (c_isi (R := RI) (ClsV.ty _) (by rfl) (fun _ _ _ => ty_int)) (ea_cons1 (ev_var rfl r_value) (ea_cons1 ev_cls ea_nil)) rfl))) (fun _ => (et_or (et_val (ev_cb1 (f := fun _ z => z = false) (c_isi (R := RI) (ClsV.ty _) T.kt_int_bool (fun _ _ _ => ty_int)) (ea_cons1 (ev_var rfl r_value) (ea_cons1 ev_cls ea_nil)) rfl)) (fun _ => (et_test (ev_opt o_lt (ev_var rfl r_value) (ev_var rfl r_least))))))) (fun H1 e1 hb => ?_) (fun H1 e1 hb => ?_)
  · simp [Eq1] at hb
    have d1 := e1.dice; replace r_value := up r_value e1; replace r_least := up r_least e1; replace r_most := up r_most e1
    refine q_ret d1 ev_bl fun v z H2 e2 hz rz => ?_
    exact k v z H2 (e1.trans e2) (by first | exact hz | (refine Eq.trans hz ?_; wtm_at "fin")) rz
  · simp [Eq1] at hb
    have d1 := e1.dice; replace r_value := up r_value e1; replace r_least := up r_least e1; replace r_most := up r_most e1
    cases x_most with
    | none =>
      refine q_ret d1 (ev_or (ev_opt o_isN (ev_var (R := ROpt RI) (x := none) rfl r_most) ev_non) (b := true) (fun h => by cases h)) fun v z H2 e2 hz rz => ?_
      exact k v z H2 (e1.trans e2) (by refine Eq.trans hz ?_; show true = (decide (x_least ≤ x_value) && true); rw [decide_eq_true hb]; rfl) rz
    | some m =>
      replace r_most : RI m v_most H1 := r_most
      refine q_ret d1 (ev_or (ev_opt o_isN (ev_var (R := ROpt RI) (x := some m) rfl r_most) ev_non) (fun _ => (ev_opt o_le (ev_var rfl r_value) (ev_var rfl r_most)))) fun v z H2 e2 hz rz => ?_
      exact k v z H2 (e1.trans e2) (by refine Eq.trans hz ?_; show decide (x_value ≤ m) = (decide (x_least ≤ x_value) && decide (x_value ≤ m)); rw [decide_eq_true hb]; rfl) rz
abbrev s_Numbers___init__ : Stmt := inClass (top 20) 1
def N_Numbers___init__ : List Str := ["self", "cap", "modulus"]
theorem sc_Numbers___init__ : FnScope N_Numbers___init__ ["self", "cap", "modulus"] (defScope s_Numbers___init__) := ⟨rfl, rfl, rfl, by decide +kernel, rfl, by decide +kernel, by decide +kernel⟩
abbrev sp_Numbers___init__ (N : En) : Sp := InitS N "Numbers" (fun M => Cons RI (Cons RI Nil)) gN (fun p => True) (fun p (z : Int × Int) => z = (p.1, p.2.1))
theorem ok_Numbers___init__ {N : En} (T : Txt N) (F : FunS N "Numbers" "__init__" "Numbers.__init__" s_Numbers___init__) : Fr N 1 (N.ma "Numbers" "__init__") (sp_Numbers___init__ N) := by
  refine (fs_mk F sc_Numbers___init__ (sp := sp_Numbers___init__ N) (fun _ _ _ _ _ _ us hl => match us, hl with | [_, _, _], _ => rfl) (fun vs H Q E h => by obtain ⟨_, _, _, _, _, _, rfl, _, _, _, _, _, _, ⟨_, _, rfl, _, _, _, rfl, _, rfl⟩, _⟩ := h; rfl) ?_)
  rintro cdv A outer s H vs Q E hr ⟨M, ⟨x, y, ⟨⟩⟩, a, dx, us, H0, rfl, e0, n1, n2, n3, m1, m2, ⟨v1, _, rfl, r1, v2, _, rfl, r2, rfl⟩, hp, hs, k⟩
  replace r1 : RI x v1 H := r1
  replace r2 : RI y v2 H := r2
  refine ⟨_, (pss_cons (SlX.ps_sl (pv 0) (pv 1))
    (pss_one (SlX.ps_sl (pv 0) (pv 2)))), ?_⟩
  obtain ⟨p1, t1⟩ := T.sl_cap
  obtain ⟨p2, t2⟩ := T.sl_modulus
  refine q_sl (M := M) (dx := dx) (vs := []) e0.dice rfl (fun H1 e1 => ?_) T.sc_Numbers t1 (ev_var rfl r1) fun w H1 e1 rw => ?_
  · rcases hs with ⟨h, e⟩ | ⟨h, h'⟩
    · exact .inl ⟨e1.keep _ _ m1 h, e⟩
    · exact .inr ⟨e1.keep _ _ m1 h, e1.keep _ _ m2 h'⟩
  have e2 := Xt.slH (C := N.ga "Numbers") (vs := SlX.putS 0 w []) (e0.trans e1) n1 n2 m1 m2
  refine q_sl (M := M) (dx := dx) (vs := SlX.putS 0 w []) e2.dice rfl (fun H2 e3 => ?_) T.sc_Numbers t2 (ev_var (R := RI) rfl r2) fun w' H2 e3 rw' => ?_
  · exact .inr ⟨e3.keep _ _ m1 upd_same, e3.keep _ _ m2 (by unfold SlX.slH; rw [upd_ne n3, upd_same])⟩
  refine k _ (x, y) (Xt.slH (e2.trans e3) n1 n2 m1 m2) ?_ ?_ rfl
  · cases (show w = V.int x from rw); cases (show w' = V.int y from rw')
    exact upd_same
  · unfold SlX.slH; rw [upd_ne n3, upd_same]
abbrev sp_Numbers (N : En) : Sp := FnF (fun M => Cons RI (Cons RI Nil)) (fun M => R_Numbers N M) (fun _ => True) (fun p => mkc p.1 p.2.1)
theorem ok_Numbers {N : En} (T : Txt N) (F : FunS N "Numbers" "__init__" "Numbers.__init__" s_Numbers___init__) : Dc N 1 "Numbers" (sp_Numbers N) := dc_mkS T.mk_Numbers T.g_Numbers (ok_Numbers___init__ T F)
theorem ev_Numbers {N : En} {M : Option Addr} {σ : L2.St} {H : Hp} {ts : TA} {E : XK} {x y : Int} (h : EvA M ts σ H (Cons RI (Cons RI Nil)) (Eq1 (x, y, ()))) : Ev M (tD (sp_Numbers N) E ts) σ H (R_Numbers N M) (Eq1 (mkc x y)) := ev_df (S := fun M => Cons RI (Cons RI Nil)) h trivial
abbrev s_checked : Stmt := top 21
def N_checked : List Str := ["cap", "modulus"]
theorem sc_checked : FnScope N_checked ["cap", "modulus"] (defScope s_checked) := ⟨rfl, rfl, rfl, by decide +kernel, rfl, by decide +kernel, by decide +kernel⟩
abbrev sp_checked (N : En) : Sp := FnF (fun M => (Cons RI (Cons RI Nil))) (fun M => (R_Numbers N M)) (fun (x_cap, x_modulus, _) => (0 ≤ x_cap ∧ x_cap ≤ 12) ∧ 1 ≤ x_modulus ∧ x_modulus ≤ 12) (fun (x_cap, x_modulus, _) => mkc x_cap x_modulus)
theorem ok_checked {N : En} (T : Txt N) (F : FunP N "checked" s_checked) (D_is_integer : Dn N 1 "is_integer" (sp_is_integer N)) (D_Numbers : Dc N 1 "Numbers" (sp_Numbers N)) : Dn N 3 "checked" (sp_checked N) := by
  refine dn_mk F sc_checked (fun _ _ _ _ _ _ us hl => match us, hl with | [_, _], _ => rfl) (fun vs H Q E h => by obtain ⟨_, _, _, ⟨_, _, rfl, _, _, _, rfl, _, rfl⟩, _⟩ := h; rfl) ?_
  rintro cdv A outer s H vs Q E hr ⟨M, ⟨x_cap, x_modulus, ⟨⟩⟩, d0, ⟨v_cap, _, rfl, r_cap, v_modulus, _, rfl, r_modulus, rfl⟩, hp, k⟩
  replace r_cap : RI x_cap v_cap H := r_cap
  replace r_modulus : RI x_modulus v_modulus H := r_modulus
  try dsimp only at hp
  refine ⟨_, (pss_cons (ps_if (PW.pt (pw_or (pt_not (pt_val (pe_d D_is_integer (hr.mono (by decide)) (by rfl) (passes_call (takes_of rfl rfl rfl rfl) fun _ _ _ _ z => z) (pa_cons (pv 0) (pa_cons pe_int (pa_cons (pe_globI rfl T.i_MAX_CAP) pa_nil)))))) (pw_or1 (pt_not (pt_val (pe_d D_is_integer (hr.mono (by decide)) (by rfl) (passes_call (takes_of rfl rfl rfl rfl) fun _ _ _ _ z => z) (pa_cons (pv 1) (pa_cons pe_int (pa_cons (pe_globI rfl T.i_MAX_MODULUS) pa_nil)))))))))
      (pss_one ps_never) pss_nil)
    (pss_one (ps_ret (pe_c D_Numbers (hr.mono (by decide)) (by rfl) (passes_call (takes_of rfl rfl rfl rfl) fun _ _ _ _ z => z) (pa_cons (pv 0) (pa_cons (pv 1) pa_nil)))))), ?_⟩
  refine q_ifS0 d0 (et_or (et_not (et_val (ev_df (ea_cons1 (ev_var rfl r_cap) (ea_cons1 ev_int (ea_cons1 (ev_some ev_int) ea_nil))) (by wtm_at "pre")))) (fun _ => (et_not (et_val (ev_df (ea_cons1 (ev_var rfl r_modulus) (ea_cons1 ev_int (ea_cons1 (ev_some ev_int) ea_nil))) (by wtm_at "pre")))))) (fun H1 e1 hb => ?_) (fun H1 e1 hb => ?_)
  · exact absurd hb (by wtm_at "nev")
  · simp [Eq1] at hb
    have d1 := e1.dice; replace r_cap := up r_cap e1; replace r_modulus := up r_modulus e1
    refine q_ret d1 (ev_Numbers (ea_cons1 (ev_var rfl r_cap) (ea_cons1 (ev_var rfl r_modulus) ea_nil))) fun v z H2 e2 hz rz => ?_
    exact k v z H2 (e1.trans e2) (by first | exact hz | (refine Eq.trans hz ?_; wtm_at "fin")) rz
abbrev s_Clerk_cap : Stmt := inClass (top 23) 1
def N_Clerk_cap : List Str := ["self"]
theorem sc_Clerk_cap : FnScope N_Clerk_cap ["self"] (defScope s_Clerk_cap) := ⟨rfl, rfl, rfl, by decide +kernel, rfl, by decide +kernel, by decide +kernel⟩
abbrev sp_Clerk_cap (N : En) : Sp := FnF (fun M => (Cons (R_Clerk N M) Nil)) (fun M => RI) (fun (x_self, _) => True) (fun (x_self, _) => x_self.1)
theorem ok_Clerk_cap {N : En} (T : Txt N) (F : FunPr N "Clerk" "cap" "Clerk.cap" s_Clerk_cap)  : Dp N 1 "Clerk" "cap" (sp_Clerk_cap N) := by
  refine dp_mk F sc_Clerk_cap (fun _ _ _ _ _ _ us hl => match us, hl with | [_], _ => rfl) (fun vs H Q E h => by obtain ⟨_, _, _, ⟨_, _, rfl, _, rfl⟩, _⟩ := h; rfl) ?_
  rintro g cdv A outer s H vs Q E hr ⟨M, ⟨x_self, ⟨⟩⟩, d0, ⟨v_self, _, rfl, r_self, rfl⟩, hp, k⟩
  replace r_self : (R_Clerk N M) x_self v_self H := r_self
  try dsimp only at hp
  have w_self := clerk_ok r_self
  refine ⟨_, (pss_one (ps_ret (pe_fld (pv 0) rfl))), ?_⟩
  refine q_ret d0 (ev_fld1 T.c_Clerk T.na_Clerk_own_cap lk_Clerk_own_cap (ev_var rfl r_self)) fun v z H1 e1 hz rz => ?_
  exact k v z H1 e1 (by first | exact hz | (refine Eq.trans hz ?_; wtm_at "fin")) rz
abbrev s_Clerk_modulus : Stmt := inClass (top 23) 2
def N_Clerk_modulus : List Str := ["self"]
theorem sc_Clerk_modulus : FnScope N_Clerk_modulus ["self"] (defScope s_Clerk_modulus) := ⟨rfl, rfl, rfl, by decide +kernel, rfl, by decide +kernel, by decide +kernel⟩
abbrev sp_Clerk_modulus (N : En) : Sp := FnF (fun M => (Cons (R_Clerk N M) Nil)) (fun M => RI) (fun (x_self, _) => True) (fun (x_self, _) => x_self.2)
theorem ok_Clerk_modulus {N : En} (T : Txt N) (F : FunPr N "Clerk" "modulus" "Clerk.modulus" s_Clerk_modulus)  : Dp N 1 "Clerk" "modulus" (sp_Clerk_modulus N) := by
  refine dp_mk F sc_Clerk_modulus (fun _ _ _ _ _ _ us hl => match us, hl with | [_], _ => rfl) (fun vs H Q E h => by obtain ⟨_, _, _, ⟨_, _, rfl, _, rfl⟩, _⟩ := h; rfl) ?_
  rintro g cdv A outer s H vs Q E hr ⟨M, ⟨x_self, ⟨⟩⟩, d0, ⟨v_self, _, rfl, r_self, rfl⟩, hp, k⟩
  replace r_self : (R_Clerk N M) x_self v_self H := r_self
  try dsimp only at hp
  have w_self := clerk_ok r_self
  refine ⟨_, (pss_one (ps_ret (pe_fld (pv 0) rfl))), ?_⟩
  refine q_ret d0 (ev_fld1 T.c_Clerk T.na_Clerk_own_modulus lk_Clerk_own_modulus (ev_var rfl r_self)) fun v z H1 e1 hz rz => ?_
  exact k v z H1 e1 (by first | exact hz | (refine Eq.trans hz ?_; wtm_at "fin")) rz
theorem ev_checked {N : En} {M : Option Addr} {σ : L2.St} {H : Hp} {ts : TA} {E : XK} {x y : Int} (h : EvA M ts σ H (Cons RI (Cons RI Nil)) (Eq1 (x, y, ()))) (hp : (0 ≤ x ∧ x ≤ 12) ∧ 1 ≤ y ∧ y ≤ 12) : Ev M (tD (sp_checked N) E ts) σ H (R_Numbers N M) (Eq1 (mkc x y)) := ev_df (S := fun M => Cons RI (Cons RI Nil)) h hp
abbrev s_Clerk___init__ : Stmt := inClass (top 23) 0
def N_Clerk___init__ : List Str := ["self", "cap", "modulus", "held"]
theorem sc_Clerk___init__ : FnScope N_Clerk___init__ ["self", "cap", "modulus"] (defScope s_Clerk___init__) := ⟨rfl, rfl, rfl, by decide +kernel, rfl, by decide +kernel, by decide +kernel⟩
abbrev sp_Clerk___init__ (N : En) : Sp := InitP N "Clerk" (fun M => Cons RI (Cons RI Nil)) FClerk (fun (x, y, _) => (0 ≤ x ∧ x ≤ 12) ∧ 1 ≤ y ∧ y ≤ 12) (fun (x, y, _) z => z = mkc x y)
theorem ok_Clerk___init__ {N : En} (T : Txt N) (F : FunMD N "Clerk" "__init__" "Clerk.__init__" s_Clerk___init__ [.int 1]) (D_checked : Dn N 3 "checked" (sp_checked N)) : Fr N 4 (N.ma "Clerk" "__init__") (fun vs H Q E => sp_Clerk___init__ N (vs ++ []) H Q E) := by
  refine dm_mkD 3 1 (dvs := [.int 1]) (by simp) (by decide) F.1 sc_Clerk___init__ (sp := sp_Clerk___init__ N) (fun _ _ _ _ _ _ _ us its h1 h2 => match us, its, h1, h2 with | [_, _, _], [_], _, _ => ⟨_, rfl, rfl⟩) (fun vs H Q E h => by obtain ⟨_, _, _, _, _, _, rfl, _, _, _, _, _, ⟨_, _, rfl, _, _, _, rfl, _, rfl⟩, _⟩ := h; rfl) ?_
  rintro cdv A outer s H vs Q E hr ⟨M, ⟨x_cap, x_modulus, ⟨⟩⟩, a, dx, us, H0, rfl, e0, n1, n2, n3, m1, ⟨v_cap, _, rfl, r_cap, v_modulus, _, rfl, r_modulus, rfl⟩, hp, hs, k⟩
  replace r_cap : RI x_cap v_cap H := r_cap
  replace r_modulus : RI x_modulus v_modulus H := r_modulus
  dsimp only at hp
  have d0 := e0.dice
  refine ⟨_, (pss_cons (ps_set (i := 3) sc_Clerk___init__.nd rfl (by first | exact Or.inl rfl | exact Or.inr rfl) (pe_ifExp (pt_val (pe_callB call_isi (by rfl) T.n_isinstance (by decide +kernel) (pa_cons (pv 1) (pa_cons (pe_globR rfl T.g_Numbers) pa_nil)))) (pv 1) (pe_d D_checked (hr.mono (by decide)) (by rfl) (passes_call (takes_of rfl rfl rfl rfl) fun _ _ _ _ z => z) (pa_cons (pv 1) (pa_cons (pv 2) pa_nil)))))
    (pss_cons (ps_fld (pv 0) (SlX.pe_sl (pv 3)) rfl)
    (pss_one (ps_fld (pv 0) (SlX.pe_sl (pv 3)) rfl)))), ?_⟩
  refine q_set d0 (ev_ifE (R := R_Numbers N M) (x := (0, 0)) (et_val (ev_cb1 (f := fun _ z => z = false) (c_isi (R := RI) (ClsV.own _) T.kt_int_Numbers (fun _ _ _ => ty_int)) (ea_cons1 (ev_var rfl r_cap) (ea_cons1 ev_cls ea_nil)) rfl)) (fun h => by cases h) (fun _ => (ev_checked (ea_cons1 (ev_var rfl r_cap) (ea_cons1 (ev_var rfl r_modulus) ea_nil)) hp))) fun v_held x_held H1 e1 h_held r_held => ?_
  replace h_held : x_held = mkc x_cap x_modulus := h_held
  subst h_held
  obtain ⟨p1, t1⟩ := T.sl_cap
  obtain ⟨p2, t2⟩ := T.sl_modulus
  have hs1 := e1.keep _ _ m1 hs
  refine q_fld (M := M) (R := RI) (z := x_cap) e1.dice rfl hs1 m1 T.c_Clerk T.na_Clerk_own_cap (by decide) (ev_sl (R'' := RI) (g := gN) (h := fun p => p.1) (x := mkc x_cap x_modulus) T.sc_Numbers t1 rfl (fun _ => rfl) (ev_var rfl r_held)) fun w H2 e2 rw1 => ?_
  have e3 : Xt M H0 (upd H2 a (.ins (N.ga "Clerk") dx (putF "own_cap" w []))) := Xt.put ((e0.trans e1).trans e2) n1 m1
  have r_held2 : R_Numbers N M (mkc x_cap x_modulus) v_held (upd H2 a (.ins (N.ga "Clerk") dx (putF "own_cap" w []))) := by
    obtain ⟨b, dy, g1, g2, g3, g4, g5, g6⟩ := up r_held e2
    have hb : H2 a = some (.ins (N.ga "Clerk") dx []) := e2.keep _ _ m1 hs1
    refine ⟨b, dy, g1, g2, g3, g4, ?_, ?_⟩
    · rw [upd_ne (fun z => by subst z; rw [hb] at g5; cases g5)]; exact g5
    · rw [upd_ne (fun z => by subst z; rw [hb] at g6; cases g6)]; exact g6
  refine q_fld (M := M) (R := RI) (z := x_modulus) e3.dice rfl upd_same m1 T.c_Clerk T.na_Clerk_own_modulus (by simp [putF]) (ev_sl (R'' := RI) (g := gN) (h := fun p => p.2) (x := mkc x_cap x_modulus) T.sc_Numbers t2 rfl (fun _ => rfl) (ev_var rfl r_held2)) fun w' H4 e4 rw2 => ?_
  refine k _ (mkc x_cap x_modulus) _ (Xt.put (e3.trans e4) n1 m1) upd_same rfl ⟨?_, by show 0 ≤ x_cap; omega, by show 0 < x_modulus; omega⟩
  cases (show w = V.int x_cap from rw1); cases (show w' = V.int x_modulus from rw2)
  exact put2 _ _
abbrev sp_Clerk (N : En) : Sp := FnF (fun M => Cons RI (Cons RI Nil)) (fun M => R_Clerk N M) (fun p => (0 ≤ p.1 ∧ p.1 ≤ 12) ∧ 1 ≤ p.2.1 ∧ p.2.1 ≤ 12) (fun p => mkc p.1 p.2.1)
theorem ok_Clerk {N : En} (T : Txt N) (F : FunMD N "Clerk" "__init__" "Clerk.__init__" s_Clerk___init__ [.int 1]) (D_checked : Dn N 3 "checked" (sp_checked N)) : Dc N 4 "Clerk" (sp_Clerk N) :=
  dc_mk (dvs := []) T.mk_Clerk T.g_Clerk (ok_Clerk___init__ T F D_checked) (fun h => by rw [List.append_nil]; exact h)
theorem ev_Clerk {N : En} {M : Option Addr} {σ : L2.St} {H : Hp} {ts : TA} {E : XK} {x y : Int} (h : EvA M ts σ H (Cons RI (Cons RI Nil)) (Eq1 (x, y, ()))) (hp : (0 ≤ x ∧ x ≤ 12) ∧ 1 ≤ y ∧ y ≤ 12) : Ev M (tD (sp_Clerk N) E ts) σ H (R_Clerk N M) (Eq1 (mkc x y)) := ev_df (S := fun M => Cons RI (Cons RI Nil)) h hp
abbrev sp_Clerk___initN (N : En) : Sp := InitP N "Clerk" (fun M => Cons (R_Numbers N M) (Cons RI Nil)) FClerk (fun (x, y, _) => 0 ≤ x.1 ∧ 0 < x.2) (fun (x, y, _) z => z = mkc x.1 x.2)
theorem ok_Clerk___initN {N : En} (T : Txt N) (F : FunMD N "Clerk" "__init__" "Clerk.__init__" s_Clerk___init__ [.int 1]) (D_checked : Dn N 3 "checked" (sp_checked N)) : Fr N 4 (N.ma "Clerk" "__init__") (fun vs H Q E => sp_Clerk___initN N (vs ++ [.int 1]) H Q E) := by
  refine dm_mkD 2 0 (dvs := [.int 1]) (by simp) (by decide) F.1 sc_Clerk___init__ (sp := sp_Clerk___initN N) (fun _ _ _ _ _ _ _ us its h1 h2 => match us, its, h1, h2 with | [_, _], [_], _, _ => ⟨_, rfl, rfl⟩) (fun vs H Q E h => by obtain ⟨_, _, _, _, _, _, rfl, _, _, _, _, _, ⟨_, _, rfl, _, _, _, rfl, _, rfl⟩, _⟩ := h; rfl) ?_
  rintro cdv A outer s H vs Q E hr ⟨M, ⟨⟨x_cap, x_modulus⟩, x_one, ⟨⟩⟩, a, dx, us, H0, rfl, e0, n1, n2, n3, m1, ⟨v_cap, _, rfl, r_cap, v_modulus, _, rfl, r_modulus, rfl⟩, hp, hs, k⟩
  replace r_cap : R_Numbers N M (x_cap, x_modulus) v_cap H := up (show R_Numbers N M (x_cap, x_modulus) v_cap H0 from r_cap) e0
  replace r_modulus : RI x_one v_modulus H := r_modulus
  dsimp only at hp
  have d0 := e0.dice
  have isN : Cl M (SlX.rIsiSl N.K (.ref (N.ga "Numbers"))) (Cons (R_Numbers N M) (Cons RV Nil)) RB (fun _ z => z = true) (fun p => p.2.1 = V.ref (N.ga "Numbers")) := by
    rintro ⟨x, y, ⟨⟩⟩ vs H d ⟨v, r, rfl, rx, w, r', rfl, rw', rfl⟩ hp Q q
    obtain ⟨b, dy, g1, g2, g3, g4, g5, g6⟩ := rx
    have e1 : y = V.ref (N.ga "Numbers") := hp
    have e2 : w = y := rw'
    subst g1
    subst e2
    subst e1
    exact ⟨b, N.ga "Numbers", dy, _, _, true, rfl, rfl, fun w h => h, .inr ⟨g5, g6⟩, T.sc_Numbers, T.is_Numbers.s, T.kt_Numbers_Numbers, q _ true H (.refl d) rfl rfl⟩
  refine ⟨_, (pss_cons (ps_set (i := 3) sc_Clerk___init__.nd rfl (by first | exact Or.inl rfl | exact Or.inr rfl) (pe_ifExp (pt_val (pe_callB (SlX.call_isiSl (.ref (N.ga "Numbers"))) (by rfl) T.n_isinstance (by decide +kernel) (pa_cons (pv 1) (pa_cons (pe_globR rfl T.g_Numbers) pa_nil)))) (pv 1) (pe_d D_checked (hr.mono (by decide)) (by rfl) (passes_call (takes_of rfl rfl rfl rfl) fun _ _ _ _ z => z) (pa_cons (pv 1) (pa_cons (pv 2) pa_nil)))))
    (pss_cons (ps_fld (pv 0) (SlX.pe_sl (pv 3)) rfl)
    (pss_one (ps_fld (pv 0) (SlX.pe_sl (pv 3)) rfl)))), ?_⟩
  refine q_set d0 (ev_ifE (R := R_Numbers N M) (y := (0, 0)) (et_val (ev_cb1 (f := fun _ z => z = true) isN (ea_cons1 (ev_var rfl r_cap) (ea_cons1 ev_cls ea_nil)) rfl)) (fun _ => (ev_var rfl r_cap)) (fun h => by cases h)) fun v_held x_held H1 e1 h_held r_held => ?_
  replace h_held : x_held = (x_cap, x_modulus) := h_held
  subst h_held
  obtain ⟨p1, t1⟩ := T.sl_cap
  obtain ⟨p2, t2⟩ := T.sl_modulus
  have hs1 := e1.keep _ _ m1 hs
  refine q_fld (M := M) (R := RI) (z := x_cap) e1.dice rfl hs1 m1 T.c_Clerk T.na_Clerk_own_cap (by decide) (ev_sl (R'' := RI) (g := gN) (h := fun p => p.1) (x := (x_cap, x_modulus)) T.sc_Numbers t1 rfl (fun _ => rfl) (ev_var rfl r_held)) fun w H2 e2 rw1 => ?_
  have e3 : Xt M H0 (upd H2 a (.ins (N.ga "Clerk") dx (putF "own_cap" w []))) := Xt.put ((e0.trans e1).trans e2) n1 m1
  have r_held2 : R_Numbers N M (x_cap, x_modulus) v_held (upd H2 a (.ins (N.ga "Clerk") dx (putF "own_cap" w []))) := by
    obtain ⟨b, dy, g1, g2, g3, g4, g5, g6⟩ := up r_held e2
    have hb : H2 a = some (.ins (N.ga "Clerk") dx []) := e2.keep _ _ m1 hs1
    refine ⟨b, dy, g1, g2, g3, g4, ?_, ?_⟩
    · rw [upd_ne (fun z => by subst z; rw [hb] at g5; cases g5)]; exact g5
    · rw [upd_ne (fun z => by subst z; rw [hb] at g6; cases g6)]; exact g6
  refine q_fld (M := M) (R := RI) (z := x_modulus) e3.dice rfl upd_same m1 T.c_Clerk T.na_Clerk_own_modulus (by simp [putF]) (ev_sl (R'' := RI) (g := gN) (h := fun p => p.2) (x := (x_cap, x_modulus)) T.sc_Numbers t2 rfl (fun _ => rfl) (ev_var rfl r_held2)) fun w' H4 e4 rw2 => ?_
  refine k _ (mkc x_cap x_modulus) _ (Xt.put (e3.trans e4) n1 m1) upd_same rfl ⟨?_, by show 0 ≤ x_cap; omega, by show 0 < x_modulus; omega⟩
  cases (show w = V.int x_cap from rw1); cases (show w' = V.int x_modulus from rw2)
  exact put2 _ _
abbrev sp_ClerkN (N : En) : Sp := FnF (fun M => Cons (R_Numbers N M) Nil) (fun M => R_Clerk N M) (fun p => 0 ≤ p.1.1 ∧ 0 < p.1.2) (fun p => mkc p.1.1 p.1.2)
theorem ok_ClerkN {N : En} (T : Txt N) (F : FunMD N "Clerk" "__init__" "Clerk.__init__" s_Clerk___init__ [.int 1]) (D_checked : Dn N 3 "checked" (sp_checked N)) : Dc N 4 "Clerk" (sp_ClerkN N) := by
  refine Dc.imp (dc_mk (dvs := [.int 1]) (S' := fun M (x : (Int × Int) × Int × Unit) vs H => x.2.1 = 1 ∧ Cons (R_Numbers N M) Nil (x.1, ()) vs H) T.mk_Clerk T.g_Clerk (ok_Clerk___initN T F D_checked) (fun {M x vs H} h => ?_)) fun vs H Q E h => ?_
  · obtain ⟨⟨x1, x2⟩, x3, ⟨⟩⟩ := x
    obtain ⟨h1, v, r, rfl, h2, h3⟩ := h
    cases (show r = [] from h3)
    exact ⟨v, _, rfl, h2, _, _, rfl, (by show V.int 1 = V.int x3; rw [show x3 = 1 from h1]), rfl⟩
  · obtain ⟨M, ⟨x, ⟨⟩⟩, d, hs, hp, q⟩ := h
    exact ⟨M, (x, 1, ()), d, ⟨rfl, hs⟩, hp, q⟩
theorem ev_ClerkN {N : En} {M : Option Addr} {σ : L2.St} {H : Hp} {ts : TA} {E : XK} {x : Int × Int} (h : EvA M ts σ H (Cons (R_Numbers N M) Nil) (Eq1 (x, ()))) (hp : 0 ≤ x.1 ∧ 0 < x.2) : Ev M (tD (sp_ClerkN N) E ts) σ H (R_Clerk N M) (Eq1 (mkc x.1 x.2)) := ev_df (S := fun M => Cons (R_Numbers N M) Nil) h hp
end T18

namespace T18
open PySem PySem.Spec PyProof.Rows L2 GB GE T17
local macro_rules | `(tactic| wtm_at "pre") => `(tactic| first | with_reducible exact True.intro | ((try dsimp only); first | with_reducible exact True.intro | with_reducible assumption | omega | (exact Or.inl ⟨by omega, by omega⟩) | (exact Or.inr ⟨by omega, by omega⟩) | exact ⟨by omega, by omega⟩ | exact ⟨by omega, by omega, by omega⟩ | decide +kernel | (simp_all; done) | (simp_all; omega)))
local macro_rules | `(tactic| wtm_at "len") => `(tactic| first | exact len1 (by decide) | exact len2 (by decide) | exact len2 (by simp))
local macro_rules | `(tactic| wtm_at "fin") => `(tactic| first | rfl | (simp [see, finer, isInt, rng_len, Prod.ext_iff, nextA]; done) | (simp [see, finer, isInt, rng_len, Prod.ext_iff, nextA]; omega) | (simp only [see, finer]; split <;> first | rfl | omega) | (dsimp only; rw [List.filter_eq_self.2 (fun _ _ => rfl)]; done) | (dsimp only; rw [List.filter_eq_self.2 (fun _ _ => rfl)]; exact zip_map) | (dsimp only; rw [List.filter_eq_self.2 (fun _ _ => rfl)]; refine List.map_congr_left fun y _ => ?_; simp [see]; done) | (simp [see, finer, isInt, rng_len, Prod.ext_iff, nextA] <;> omega))
local macro_rules | `(tactic| wtm_at "nev") => `(tactic| first | (simp_all [Eq1]; done) | (simp_all [Eq1, isInt]; done) | (simp [Eq1, isInt] at *; omega))
abbrev s_is_order : Stmt := top 11
def N_is_order : List Str := ["value", "count"]
theorem sc_is_order : FnScope N_is_order ["value"] (defScope s_is_order) := ⟨rfl, rfl, rfl, by decide +kernel, rfl, by decide +kernel, by decide +kernel⟩
abbrev sp_is_order (N : En) : Sp := FnF (fun M => (Cons (RT M (All RI)) Nil)) (fun M => RB) (fun (x_value, _) => isOrd x_value) (fun (x_value, _) => true)
theorem ok_is_order {N : En} (T : Txt N) (F : FunP N "is_order" s_is_order) (D_is_integer : Dn N 1 "is_integer" (sp_is_integer N)) : Dn N 2 "is_order" (sp_is_order N) := by
  refine dn_mk F sc_is_order (fun _ _ _ _ _ _ us hl => match us, hl with | [_], _ => rfl) (fun vs H Q E h => by obtain ⟨_, _, _, ⟨_, _, rfl, _, rfl⟩, _⟩ := h; rfl) ?_
  rintro cdv A outer s H vs Q E hr ⟨M, ⟨x_value, ⟨⟩⟩, d0, ⟨v_value, _, rfl, r_value, rfl⟩, hp, k⟩
  replace r_value : (RT M (All RI)) x_value v_value H := r_value
  try dsimp only at hp
  have hl := hp.1
  refine ⟨_, (pss_cons (ps_if (PW.pt (pw_or (pt_not (pt_val (pe_callB call_isi (by rfl) T.n_isinstance (by decide +kernel) (pa_cons (pv 0) (pa_cons (pe_bltn (v := .ty "tuple") (by rfl) T.n_tuple (by decide +kernel) rfl) pa_nil))))) (pw_or1 (pt_not (pt_chain op_le op_le pe_int (pe_callB call_len_seq (by rfl) T.n_len (by decide +kernel) (pa_cons (pv 0) pa_nil)) (pe_globI rfl T.i_MAX_SORTS))))))
      (pss_one (ps_ret pe_bl)) pss_nil)
    (pss_one (ps_ret (pe_callB (cr_all rfl) (by rfl) T.n_all (by decide +kernel) (pa_cons (pe_lc (own := [("count", 1)]) (g := gName 1) rfl sc_is_order.nd (pi_tup (pv 0)) (blkOk_by (own := [("count", 1)]) (N := N_is_order) (sc := defScope s_is_order) (by decide +kernel)) (fun _ _ _ _ _ => (pg_name (i := 1) sc_is_order.nd rfl (by first | exact Or.inl rfl | exact Or.inr rfl))) (fun _ _ _ _ _ => pts_nil) (fun _ _ _ _ _ => (pe_d D_is_integer (hr.mono (by decide)) (by rfl) px0 (pa_cons (pv 1) (pa_cons pe_int (pa_cons pe_non pa_nil)))))) pa_nil))))), ?_⟩
  refine q_ifS0 d0 (et_or (et_not (et_val (ev_cb1 (f := fun _ z => z = true) (c_isi (R := (RT M (All RI))) (ClsV.ty _) (by rfl) (fun _ _ _ => ty_tup)) (ea_cons1 (ev_var rfl r_value) (ea_cons1 ev_cls ea_nil)) rfl))) (fun _ => (et_not (et_test (ev_chain o_le o_le ev_int (ev_cbf c_lenT (ea_cons1 (ev_var rfl r_value) ea_nil)) ev_int))))) (fun H1 e1 hb => ?_) (fun H1 e1 hb => ?_)
  · exact absurd hb (by simp [Eq1]; omega)
  · simp [Eq1] at hb
    have d1 := e1.dice; replace r_value := up r_value e1
    refine q_ret d1 (ev_cbf c_all (ea_cons1 ((ev_lcT (fun v => (wipe _ [1]).set 1 (some v)) (ev_var rfl r_value) (by wtm_at "pre") (fun _ _ _ _ _ q => q) (fun _ => rfl) (fun H' q1 v1 y1 _ s1 => et_yes) (fun H' q1 v1 y1 _ s1 _ => (ev_df (ea_cons1 (ev_var rfl s1) (ea_cons1 ev_int (ea_cons1 ev_none ea_nil))) (by wtm_at "pre")))).imp fun _ c => c.det) ea_nil)) fun v z H2 e2 hz rz => ?_
    exact k v z H2 (e1.trans e2) (by refine Eq.trans hz ?_; show List.all _ id = true; simp [isInt]; exact hp.2) rz
abbrev s_require_order : Stmt := top 12
def N_require_order : List Str := ["value"]
theorem sc_require_order : FnScope N_require_order ["value"] (defScope s_require_order) := ⟨rfl, rfl, rfl, by decide +kernel, rfl, by decide +kernel, by decide +kernel⟩
abbrev sp_require_order (N : En) : Sp := FnM (fun M => (Cons (RT M (All RI)) Nil)) (fun M => RN) (fun (x_value, _) => isOrd x_value) (fun (x_value, _) z => True)
theorem ok_require_order {N : En} (T : Txt N) (F : FunP N "require_order" s_require_order) (D_is_order : Dn N 2 "is_order" (sp_is_order N)) : Dn N 3 "require_order" (sp_require_order N) := by
  refine dn_mk F sc_require_order (fun _ _ _ _ _ _ us hl => match us, hl with | [_], _ => rfl) (fun vs H Q E h => by obtain ⟨_, _, _, ⟨_, _, rfl, _, rfl⟩, _⟩ := h; rfl) ?_
  rintro cdv A outer s H vs Q E hr ⟨M, ⟨x_value, ⟨⟩⟩, d0, ⟨v_value, _, rfl, r_value, rfl⟩, hp, k⟩
  replace r_value : (RT M (All RI)) x_value v_value H := r_value
  try dsimp only at hp
  have hl := hp.1
  refine ⟨_, (pss_one (ps_if (pt_not (pt_val (pe_d D_is_order (hr.mono (by decide)) (by rfl) (passes_call (takes_of rfl rfl rfl rfl) fun _ _ _ _ z => z) (pa_cons (pv 0) pa_nil))))
      (pss_one ps_never) pss_nil)), ?_⟩
  refine q_if0 d0 (et_not (et_val (ev_df (ea_cons1 (ev_var rfl r_value) ea_nil) (by wtm_at "pre")))) (fun H1 e1 hb => ?_) (fun H1 e1 hb => ?_)
  · exact absurd hb (by wtm_at "nev")
  · simp [Eq1] at hb
    have d1 := e1.dice; replace r_value := up r_value e1
    exact k .non () _ e1 trivial rfl
abbrev s_require_equal_sorts : Stmt := top 13
def N_require_equal_sorts : List Str := ["one", "other"]
theorem sc_require_equal_sorts : FnScope N_require_equal_sorts ["one", "other"] (defScope s_require_equal_sorts) := ⟨rfl, rfl, rfl, by decide +kernel, rfl, by decide +kernel, by decide +kernel⟩
abbrev sp_require_equal_sorts (N : En) : Sp := FnM (fun M => (Cons (RT M (All RI)) (Cons (RT M (All RI)) Nil))) (fun M => RN) (fun (x_one, x_other, _) => x_one.length = x_other.length) (fun (x_one, x_other, _) z => True)
theorem ok_require_equal_sorts {N : En} (T : Txt N) (F : FunP N "require_equal_sorts" s_require_equal_sorts)  : Dn N 1 "require_equal_sorts" (sp_require_equal_sorts N) := by
  refine dn_mk F sc_require_equal_sorts (fun _ _ _ _ _ _ us hl => match us, hl with | [_, _], _ => rfl) (fun vs H Q E h => by obtain ⟨_, _, _, ⟨_, _, rfl, _, _, _, rfl, _, rfl⟩, _⟩ := h; rfl) ?_
  rintro cdv A outer s H vs Q E hr ⟨M, ⟨x_one, x_other, ⟨⟩⟩, d0, ⟨v_one, _, rfl, r_one, v_other, _, rfl, r_other, rfl⟩, hp, k⟩
  replace r_one : (RT M (All RI)) x_one v_one H := r_one
  replace r_other : (RT M (All RI)) x_other v_other H := r_other
  try dsimp only at hp
  refine ⟨_, (pss_one (ps_if (pt_cmpR op_ne (pe_callB call_len_seq (by rfl) T.n_len (by decide +kernel) (pa_cons (pv 0) pa_nil)) (pe_callB call_len_seq (by rfl) T.n_len (by decide +kernel) (pa_cons (pv 1) pa_nil)) (nomark _))
      (pss_one ps_never) pss_nil)), ?_⟩
  refine q_if0 d0 (et_test (ev_opt o_ne (ev_cbf c_lenT (ea_cons1 (ev_var rfl r_one) ea_nil)) (ev_cbf c_lenT (ea_cons1 (ev_var rfl r_other) ea_nil)))) (fun H1 e1 hb => ?_) (fun H1 e1 hb => ?_)
  · exact absurd hb (by wtm_at "nev")
  · simp [Eq1] at hb
    have d1 := e1.dice; replace r_one := up r_one e1; replace r_other := up r_other e1
    exact k .non () _ e1 trivial rfl
abbrev s_plus : Stmt := top 14
def N_plus : List Str := ["one", "other", "left", "right"]
theorem sc_plus : FnScope N_plus ["one", "other"] (defScope s_plus) := ⟨rfl, rfl, rfl, by decide +kernel, rfl, by decide +kernel, by decide +kernel⟩
abbrev sp_plus (N : En) : Sp := FnF (fun M => (Cons (RT M (All RI)) (Cons (RT M (All RI)) Nil))) (fun M => (RT M (All RI))) (fun (x_one, x_other, _) => x_one.length < 1000 ∧ x_other.length < 1000) (fun (x_one, x_other, _) => List.zipWith (· + ·) x_one x_other)
theorem ok_plus {N : En} (T : Txt N) (F : FunP N "plus" s_plus)  : Dn N 1 "plus" (sp_plus N) := by
  refine dn_mk F sc_plus (fun _ _ _ _ _ _ us hl => match us, hl with | [_, _], _ => rfl) (fun vs H Q E h => by obtain ⟨_, _, _, ⟨_, _, rfl, _, _, _, rfl, _, rfl⟩, _⟩ := h; rfl) ?_
  rintro cdv A outer s H vs Q E hr ⟨M, ⟨x_one, x_other, ⟨⟩⟩, d0, ⟨v_one, _, rfl, r_one, v_other, _, rfl, r_other, rfl⟩, hp, k⟩
  replace r_one : (RT M (All RI)) x_one v_one H := r_one
  replace r_other : (RT M (All RI)) x_other v_other H := r_other
  try dsimp only at hp
  refine ⟨_, (pss_one (ps_ret (pe_callTy call_tuple_of (by rfl) T.n_tuple (by decide +kernel) (pa_cons (pe_lc (own := [("left", 2), ("right", 3)]) rfl sc_plus.nd (RZ.pi_zipA (by rfl) T.n_zip (pa_cons (pv 0) (pa_cons (pv 1) pa_nil))) (blkOk_by (own := [("left", 2), ("right", 3)]) (N := N_plus) (sc := defScope s_plus) (by decide +kernel)) (fun _ _ _ _ _ => (pg_tupK N.K (by rfl) (n := 2) rfl (pgs_cons (pg_name (i := 2) sc_plus.nd rfl (by first | exact Or.inl rfl | exact Or.inr rfl)) (pgs_cons (pg_name (i := 3) sc_plus.nd rfl (by first | exact Or.inl rfl | exact Or.inr rfl)) pgs_nil)))) (fun _ _ _ _ _ => pts_nil) (fun _ _ _ _ _ => (pe_op op_add (pv 2) (pv 3)))) pa_nil)))), ?_⟩
  refine q_ret d0 (ev_cbf c_tupL (ea_cons1 ((ev_lcZT (fun v u => ((wipe _ [2, 3]).set 2 (some v)).set 3 (some u)) (ea_cons1 (ev_var rfl r_one) (ea_cons1 (ev_var rfl r_other) ea_nil)) (by wtm_at "pre") (fun _ _ _ _ _ h q => ⟨_, _, rfl, h, rfl, _, _, rfl, _, _, rfl, rfl, q⟩) (fun _ _ => rfl) (fun H' q1 v1 u1 y1 z1 m1 s1a s1b => et_yes) (fun H' q1 v1 u1 y1 z1 m1 s1a s1b _ => (ev_opt o_add (ev_var rfl s1a) (ev_var rfl s1b)))).imp fun _ c => c.det) ea_nil)) fun v z H1 e1 hz rz => ?_
  exact k v z H1 e1 (by first | exact hz | (refine Eq.trans hz ?_; wtm_at "fin")) rz
abbrev s_taken : Stmt := top 15
def N_taken : List Str := ["order", "number", "count"]
theorem sc_taken : FnScope N_taken ["order", "number"] (defScope s_taken) := ⟨rfl, rfl, rfl, by decide +kernel, rfl, by decide +kernel, by decide +kernel⟩
abbrev sp_taken (N : En) : Sp := FnF (fun M => (Cons (RT M (All RI)) (Cons RI Nil))) (fun M => (RT M (All RI))) (fun (x_order, x_number, _) => x_order.length < 1000 ∧ -1000000 < x_number ∧ x_number < 1000000) (fun (x_order, x_number, _) => x_order.map (· * x_number))
theorem ok_taken {N : En} (T : Txt N) (F : FunP N "taken" s_taken)  : Dn N 1 "taken" (sp_taken N) := by
  refine dn_mk F sc_taken (fun _ _ _ _ _ _ us hl => match us, hl with | [_, _], _ => rfl) (fun vs H Q E h => by obtain ⟨_, _, _, ⟨_, _, rfl, _, _, _, rfl, _, rfl⟩, _⟩ := h; rfl) ?_
  rintro cdv A outer s H vs Q E hr ⟨M, ⟨x_order, x_number, ⟨⟩⟩, d0, ⟨v_order, _, rfl, r_order, v_number, _, rfl, r_number, rfl⟩, hp, k⟩
  replace r_order : (RT M (All RI)) x_order v_order H := r_order
  replace r_number : RI x_number v_number H := r_number
  try dsimp only at hp
  refine ⟨_, (pss_one (ps_ret (pe_callTy call_tuple_of (by rfl) T.n_tuple (by decide +kernel) (pa_cons (pe_lc (own := [("count", 2)]) (g := gName 2) rfl sc_taken.nd (pi_tup (pv 0)) (blkOk_by (own := [("count", 2)]) (N := N_taken) (sc := defScope s_taken) (by decide +kernel)) (fun _ _ _ _ _ => (pg_name (i := 2) sc_taken.nd rfl (by first | exact Or.inl rfl | exact Or.inr rfl))) (fun _ _ _ _ _ => pts_nil) (fun _ _ _ _ _ => (pe_op op_mul (pv 2) (pv 1)))) pa_nil)))), ?_⟩
  refine q_ret d0 (ev_cbf c_tupL (ea_cons1 ((ev_lcT (fun v => (wipe _ [2]).set 2 (some v)) (ev_var rfl r_order) (by wtm_at "pre") (fun _ _ _ _ _ q => q) (fun _ => rfl) (fun H' q1 v1 y1 _ s1 => et_yes) (fun H' q1 v1 y1 _ s1 _ => (ev_op1 o_mul (ev_var rfl s1) (ev_var rfl (up r_number q1)) (by wtm_at "pre")))).imp fun _ c => c.det) ea_nil)) fun v z H1 e1 hz rz => ?_
  exact k v z H1 e1 (by first | exact hz | (refine Eq.trans hz ?_; wtm_at "fin")) rz
abbrev s_times : Stmt := top 16
def N_times : List Str := ["order", "number"]
theorem sc_times : FnScope N_times ["order", "number"] (defScope s_times) := ⟨rfl, rfl, rfl, by decide +kernel, rfl, by decide +kernel, by decide +kernel⟩
abbrev sp_times (N : En) : Sp := FnF (fun M => (Cons (RT M (All RI)) (Cons RI Nil))) (fun M => (RT M (All RI))) (fun (x_order, x_number, _) => isOrd x_order ∧ 0 ≤ x_number ∧ x_number ≤ 99) (fun (x_order, x_number, _) => x_order.map (· * x_number))
theorem ok_times {N : En} (T : Txt N) (F : FunP N "times" s_times) (D_require_order : Dn N 3 "require_order" (sp_require_order N)) (D_is_integer : Dn N 1 "is_integer" (sp_is_integer N)) (D_taken : Dn N 1 "taken" (sp_taken N)) : Dn N 4 "times" (sp_times N) := by
  refine dn_mk F sc_times (fun _ _ _ _ _ _ us hl => match us, hl with | [_, _], _ => rfl) (fun vs H Q E h => by obtain ⟨_, _, _, ⟨_, _, rfl, _, _, _, rfl, _, rfl⟩, _⟩ := h; rfl) ?_
  rintro cdv A outer s H vs Q E hr ⟨M, ⟨x_order, x_number, ⟨⟩⟩, d0, ⟨v_order, _, rfl, r_order, v_number, _, rfl, r_number, rfl⟩, hp, k⟩
  replace r_order : (RT M (All RI)) x_order v_order H := r_order
  replace r_number : RI x_number v_number H := r_number
  try dsimp only at hp
  have ho : isOrd x_order := hp.1
  have hl := hp.1.1
  refine ⟨_, (pss_cons (ps_expr (pe_d D_require_order (hr.mono (by decide)) (by rfl) (passes_call (takes_of rfl rfl rfl rfl) fun _ _ _ _ z => z) (pa_cons (pv 0) pa_nil)))
    (pss_cons (ps_if (pt_not (pt_val (pe_d D_is_integer (hr.mono (by decide)) (by rfl) (passes_call (takes_of rfl rfl rfl rfl) fun _ _ _ _ z => z) (pa_cons (pv 1) (pa_cons pe_int (pa_cons (pe_globI rfl T.i_MAX_TIMES) pa_nil))))))
      (pss_one ps_never) pss_nil)
    (pss_one (ps_ret (pe_d D_taken (hr.mono (by decide)) (by rfl) (passes_call (takes_of rfl rfl rfl rfl) fun _ _ _ _ z => z) (pa_cons (pv 0) (pa_cons (pv 1) pa_nil))))))), ?_⟩
  refine q_drop d0 (ev_d1 (ea_cons1 (ev_var rfl r_order) ea_nil) (by wtm_at "pre")) fun _ _ H1 e1 _ _ => ?_
  have d1 := e1.dice; replace r_order := up r_order e1; replace r_number := up r_number e1
  refine q_ifS0 d1 (et_not (et_val (ev_df (ea_cons1 (ev_var rfl r_number) (ea_cons1 ev_int (ea_cons1 (ev_some ev_int) ea_nil))) (by wtm_at "pre")))) (fun H2 e2 hb => ?_) (fun H2 e2 hb => ?_)
  · exact absurd hb (by wtm_at "nev")
  · simp [Eq1] at hb
    have d2 := e2.dice; replace r_order := up r_order e2; replace r_number := up r_number e2
    refine q_ret d2 (ev_df (ea_cons1 (ev_var rfl r_order) (ea_cons1 (ev_var rfl r_number) ea_nil)) (by wtm_at "pre")) fun v z H3 e3 hz rz => ?_
    exact k v z H3 ((e1.trans e2).trans e3) (by first | exact hz | (refine Eq.trans hz ?_; wtm_at "fin")) rz
abbrev s_require_count : Stmt := top 26
def N_require_count : List Str := ["number"]
theorem sc_require_count : FnScope N_require_count ["number"] (defScope s_require_count) := ⟨rfl, rfl, rfl, by decide +kernel, rfl, by decide +kernel, by decide +kernel⟩
abbrev sp_require_count (N : En) : Sp := FnM (fun M => (Cons RI Nil)) (fun M => RN) (fun (x_number, _) => 0 ≤ x_number) (fun (x_number, _) z => True)
theorem ok_require_count {N : En} (T : Txt N) (F : FunP N "require_count" s_require_count) (D_is_integer : Dn N 1 "is_integer" (sp_is_integer N)) : Dn N 2 "require_count" (sp_require_count N) := by
  refine dn_mk F sc_require_count (fun _ _ _ _ _ _ us hl => match us, hl with | [_], _ => rfl) (fun vs H Q E h => by obtain ⟨_, _, _, ⟨_, _, rfl, _, rfl⟩, _⟩ := h; rfl) ?_
  rintro cdv A outer s H vs Q E hr ⟨M, ⟨x_number, ⟨⟩⟩, d0, ⟨v_number, _, rfl, r_number, rfl⟩, hp, k⟩
  replace r_number : RI x_number v_number H := r_number
  try dsimp only at hp
  refine ⟨_, (pss_one (ps_if (pt_not (pt_val (pe_d D_is_integer (hr.mono (by decide)) (by rfl) (passes_call (takes_of rfl rfl rfl rfl) fun _ _ _ _ z => z) (pa_cons (pv 0) (pa_cons pe_int (pa_cons pe_non pa_nil))))))
      (pss_one ps_never) pss_nil)), ?_⟩
  refine q_if0 d0 (et_not (et_val (ev_df (ea_cons1 (ev_var rfl r_number) (ea_cons1 ev_int (ea_cons1 ev_none ea_nil))) (by wtm_at "pre")))) (fun H1 e1 hb => ?_) (fun H1 e1 hb => ?_)
  · exact absurd hb (by wtm_at "nev")
  · simp [Eq1] at hb
    have d1 := e1.dice; replace r_number := up r_number e1
    exact k .non () _ e1 trivial rfl
abbrev s_seen_count : Stmt := top 27
def N_seen_count : List Str := ["clerk", "number"]
theorem sc_seen_count : FnScope N_seen_count ["clerk", "number"] (defScope s_seen_count) := ⟨rfl, rfl, rfl, by decide +kernel, rfl, by decide +kernel, by decide +kernel⟩
abbrev sp_seen_count (N : En) : Sp := FnF (fun M => (Cons (R_Clerk N M) (Cons RI Nil))) (fun M => RI) (fun (x_clerk, x_number, _) => True) (fun (x_clerk, x_number, _) => see x_clerk x_number)
theorem ok_seen_count {N : En} (T : Txt N) (F : FunP N "seen_count" s_seen_count)  : Dn N 1 "seen_count" (sp_seen_count N) := by
  refine dn_mk F sc_seen_count (fun _ _ _ _ _ _ us hl => match us, hl with | [_, _], _ => rfl) (fun vs H Q E h => by obtain ⟨_, _, _, ⟨_, _, rfl, _, _, _, rfl, _, rfl⟩, _⟩ := h; rfl) ?_
  rintro cdv A outer s H vs Q E hr ⟨M, ⟨x_clerk, x_number, ⟨⟩⟩, d0, ⟨v_clerk, _, rfl, r_clerk, v_number, _, rfl, r_number, rfl⟩, hp, k⟩
  replace r_clerk : (R_Clerk N M) x_clerk v_clerk H := r_clerk
  replace r_number : RI x_number v_number H := r_number
  try dsimp only at hp
  have w_clerk := clerk_ok r_clerk
  refine ⟨_, (pss_cons (ps_if (pt_cmpR op_lt (pv 1) (pe_fld (pv 0) rfl) (nomark _))
      (pss_one (ps_ret (pv 1))) pss_nil)
    (pss_one (ps_ret (pe_op op_add (pe_fld (pv 0) rfl) (pe_op op_mod (pe_op op_sub (pv 1) (pe_fld (pv 0) rfl)) (pe_fld (pv 0) rfl)))))), ?_⟩
  refine q_ifS0 d0 (et_test (ev_opt o_lt (ev_var rfl r_number) (ev_fld1 T.c_Clerk T.na_Clerk_own_cap lk_Clerk_own_cap (ev_var rfl r_clerk)))) (fun H1 e1 hb => ?_) (fun H1 e1 hb => ?_)
  · simp [Eq1] at hb
    have d1 := e1.dice; replace r_clerk := up r_clerk e1; replace r_number := up r_number e1
    refine q_ret d1 (ev_var rfl r_number) fun v z H2 e2 hz rz => ?_
    exact k v z H2 (e1.trans e2) (by first | exact hz | (refine Eq.trans hz ?_; wtm_at "fin")) rz
  · simp [Eq1] at hb
    have d1 := e1.dice; replace r_clerk := up r_clerk e1; replace r_number := up r_number e1
    refine q_ret d1 (ev_opt o_add (ev_fld1 T.c_Clerk T.na_Clerk_own_cap lk_Clerk_own_cap (ev_var rfl r_clerk)) (ev_op1 o_mod (ev_opt o_sub (ev_var rfl r_number) (ev_fld1 T.c_Clerk T.na_Clerk_own_cap lk_Clerk_own_cap (ev_var rfl r_clerk))) (ev_fld1 T.c_Clerk T.na_Clerk_own_modulus lk_Clerk_own_modulus (ev_var rfl r_clerk)) (by wtm_at "pre"))) fun v z H2 e2 hz rz => ?_
    exact k v z H2 (e1.trans e2) (by first | exact hz | (refine Eq.trans hz ?_; wtm_at "fin")) rz
abbrev s_seen : Stmt := top 28
def N_seen : List Str := ["clerk", "order", "count"]
theorem sc_seen : FnScope N_seen ["clerk", "order"] (defScope s_seen) := ⟨rfl, rfl, rfl, by decide +kernel, rfl, by decide +kernel, by decide +kernel⟩
abbrev sp_seen (N : En) : Sp := FnF (fun M => (Cons (R_Clerk N M) (Cons (RT M (All RI)) Nil))) (fun M => (RT M (All RI))) (fun (x_clerk, x_order, _) => x_order.length < 1000) (fun (x_clerk, x_order, _) => x_order.map (see x_clerk))
theorem ok_seen {N : En} (T : Txt N) (F : FunP N "seen" s_seen) (D_seen_count : Dn N 1 "seen_count" (sp_seen_count N)) : Dn N 2 "seen" (sp_seen N) := by
  refine dn_mk F sc_seen (fun _ _ _ _ _ _ us hl => match us, hl with | [_, _], _ => rfl) (fun vs H Q E h => by obtain ⟨_, _, _, ⟨_, _, rfl, _, _, _, rfl, _, rfl⟩, _⟩ := h; rfl) ?_
  rintro cdv A outer s H vs Q E hr ⟨M, ⟨x_clerk, x_order, ⟨⟩⟩, d0, ⟨v_clerk, _, rfl, r_clerk, v_order, _, rfl, r_order, rfl⟩, hp, k⟩
  replace r_clerk : (R_Clerk N M) x_clerk v_clerk H := r_clerk
  replace r_order : (RT M (All RI)) x_order v_order H := r_order
  try dsimp only at hp
  have w_clerk := clerk_ok r_clerk
  refine ⟨_, (pss_one (ps_ret (pe_callTy call_tuple_of (by rfl) T.n_tuple (by decide +kernel) (pa_cons (pe_lc (own := [("count", 2)]) (g := gName 2) rfl sc_seen.nd (pi_tup (pv 1)) (blkOk_by (own := [("count", 2)]) (N := N_seen) (sc := defScope s_seen) (by decide +kernel)) (fun _ _ _ _ _ => (pg_name (i := 2) sc_seen.nd rfl (by first | exact Or.inl rfl | exact Or.inr rfl))) (fun _ _ _ _ _ => pts_nil) (fun _ _ _ _ _ => (pe_d D_seen_count (hr.mono (by decide)) (by rfl) px0 (pa_cons (pv 0) (pa_cons (pv 2) pa_nil))))) pa_nil)))), ?_⟩
  refine q_ret d0 (ev_cbf c_tupL (ea_cons1 ((ev_lcT (fun v => (wipe _ [2]).set 2 (some v)) (ev_var rfl r_order) (by wtm_at "pre") (fun _ _ _ _ _ q => q) (fun _ => rfl) (fun H' q1 v1 y1 _ s1 => et_yes) (fun H' q1 v1 y1 _ s1 _ => (ev_df (ea_cons1 (ev_var rfl (up r_clerk q1)) (ea_cons1 (ev_var rfl s1) ea_nil)) (by wtm_at "pre")))).imp fun _ c => c.det) ea_nil)) fun v z H1 e1 hz rz => ?_
  exact k v z H1 e1 (by first | exact hz | (refine Eq.trans hz ?_; wtm_at "fin")) rz
abbrev s_is_any_sight : Stmt := top 29
def N_is_any_sight : List Str := ["clerk", "value", "count"]
theorem sc_is_any_sight : FnScope N_is_any_sight ["clerk", "value"] (defScope s_is_any_sight) := ⟨rfl, rfl, rfl, by decide +kernel, rfl, by decide +kernel, by decide +kernel⟩
abbrev sp_is_any_sight (N : En) : Sp := FnF (fun M => (Cons (R_Clerk N M) (Cons (RT M (All RI)) Nil))) (fun M => RB) (fun (x_clerk, x_value, _) => isOrd x_value ∧ ∀ c ∈ x_value, c < x_clerk.1 + x_clerk.2) (fun (x_clerk, x_value, _) => true)
theorem ok_is_any_sight {N : En} (T : Txt N) (F : FunP N "is_any_sight" s_is_any_sight) (D_is_integer : Dn N 1 "is_integer" (sp_is_integer N)) : Dn N 2 "is_any_sight" (sp_is_any_sight N) := by
  refine dn_mk F sc_is_any_sight (fun _ _ _ _ _ _ us hl => match us, hl with | [_, _], _ => rfl) (fun vs H Q E h => by obtain ⟨_, _, _, ⟨_, _, rfl, _, _, _, rfl, _, rfl⟩, _⟩ := h; rfl) ?_
  rintro cdv A outer s H vs Q E hr ⟨M, ⟨x_clerk, x_value, ⟨⟩⟩, d0, ⟨v_clerk, _, rfl, r_clerk, v_value, _, rfl, r_value, rfl⟩, hp, k⟩
  replace r_clerk : (R_Clerk N M) x_clerk v_clerk H := r_clerk
  replace r_value : (RT M (All RI)) x_value v_value H := r_value
  try dsimp only at hp
  have w_clerk := clerk_ok r_clerk
  have hl := hp.1.1
  refine ⟨_, (pss_cons (ps_if (PW.pt (pw_or (pt_not (pt_val (pe_callB call_isi (by rfl) T.n_isinstance (by decide +kernel) (pa_cons (pv 1) (pa_cons (pe_bltn (v := .ty "tuple") (by rfl) T.n_tuple (by decide +kernel) rfl) pa_nil))))) (pw_or1 (pt_not (pt_chain op_le op_le pe_int (pe_callB call_len_seq (by rfl) T.n_len (by decide +kernel) (pa_cons (pv 1) pa_nil)) (pe_globI rfl T.i_MAX_SORTS))))))
      (pss_one (ps_ret pe_bl)) pss_nil)
    (pss_one (ps_ret (pe_callB (cr_all rfl) (by rfl) T.n_all (by decide +kernel) (pa_cons (pe_lc (own := [("count", 2)]) (g := gName 2) rfl sc_is_any_sight.nd (pi_tup (pv 1)) (blkOk_by (own := [("count", 2)]) (N := N_is_any_sight) (sc := defScope s_is_any_sight) (by decide +kernel)) (fun _ _ _ _ _ => (pg_name (i := 2) sc_is_any_sight.nd rfl (by first | exact Or.inl rfl | exact Or.inr rfl))) (fun _ _ _ _ _ => pts_nil) (fun _ _ _ _ _ => (pe_d D_is_integer (hr.mono (by decide)) (by rfl) px0 (pa_cons (pv 2) (pa_cons pe_int (pa_cons (pe_op op_sub (pe_op op_add (pe_fldK N.K (by rfl) (pv 0) (by rfl)) (pe_fldK N.K (by rfl) (pv 0) (by rfl))) pe_int) pa_nil)))))) pa_nil))))), ?_⟩
  refine q_ifS0 d0 (et_or (et_not (et_val (ev_cb1 (f := fun _ z => z = true) (c_isi (R := (RT M (All RI))) (ClsV.ty _) (by rfl) (fun _ _ _ => ty_tup)) (ea_cons1 (ev_var rfl r_value) (ea_cons1 ev_cls ea_nil)) rfl))) (fun _ => (et_not (et_test (ev_chain o_le o_le ev_int (ev_cbf c_lenT (ea_cons1 (ev_var rfl r_value) ea_nil)) ev_int))))) (fun H1 e1 hb => ?_) (fun H1 e1 hb => ?_)
  · exact absurd hb (by simp [Eq1]; omega)
  · simp [Eq1] at hb
    have d1 := e1.dice; replace r_clerk := up r_clerk e1; replace r_value := up r_value e1
    refine q_ret d1 (ev_cbf c_all (ea_cons1 ((ev_lcT (fun v => (wipe _ [2]).set 2 (some v)) (ev_var rfl r_value) (by wtm_at "pre") (fun _ _ _ _ _ q => q) (fun _ => rfl) (fun H' q1 v1 y1 _ s1 => et_yes) (fun H' q1 v1 y1 _ s1 _ => (ev_df (ea_cons1 (ev_var rfl s1) (ea_cons1 ev_int (ea_cons1 (ev_some (ev_opt o_sub (ev_opt o_add (ev_fld1 T.c_Clerk T.na_Clerk_own_cap lk_Clerk_own_cap (ev_var rfl (up r_clerk q1))) (ev_fld1 T.c_Clerk T.na_Clerk_own_modulus lk_Clerk_own_modulus (ev_var rfl (up r_clerk q1)))) ev_int)) ea_nil))) (by wtm_at "pre")))).imp fun _ c => c.det) ea_nil)) fun v z H2 e2 hz rz => ?_
    exact k v z H2 (e1.trans e2) (by refine Eq.trans hz ?_; show List.all _ id = true; simp [isInt]; intro c hc; have := hp.1.2 c hc; have := hp.2 c hc; omega) rz
abbrev s_Clerk___call__ : Stmt := inClass (top 23) 3
def N_Clerk___call__ : List Str := ["self", "order"]
theorem sc_Clerk___call__ : FnScope N_Clerk___call__ ["self", "order"] (defScope s_Clerk___call__) := ⟨rfl, rfl, rfl, by decide +kernel, rfl, by decide +kernel, by decide +kernel⟩
abbrev sp_Clerk___call__ (N : En) : Sp := FnF (fun M => (Cons (R_Clerk N M) (Cons (RT M (All RI)) Nil))) (fun M => (RT M (All RI))) (fun (x_self, x_order, _) => isOrd x_order) (fun (x_self, x_order, _) => x_order.map (see x_self))
theorem ok_Clerk___call__ {N : En} (T : Txt N) (F : FunM N "Clerk" "__call__" "Clerk.__call__" s_Clerk___call__) (D_require_order : Dn N 3 "require_order" (sp_require_order N)) (D_seen : Dn N 2 "seen" (sp_seen N)) : Dm N 4 "Clerk" "__call__" (sp_Clerk___call__ N) := by
  refine dm_mk F sc_Clerk___call__ (fun _ _ _ _ _ _ us hl => match us, hl with | [_, _], _ => rfl) (fun vs H Q E h => by obtain ⟨_, _, _, ⟨_, _, rfl, _, _, _, rfl, _, rfl⟩, _⟩ := h; rfl) ?_
  rintro cdv A outer s H vs Q E hr ⟨M, ⟨x_self, x_order, ⟨⟩⟩, d0, ⟨v_self, _, rfl, r_self, v_order, _, rfl, r_order, rfl⟩, hp, k⟩
  replace r_self : (R_Clerk N M) x_self v_self H := r_self
  replace r_order : (RT M (All RI)) x_order v_order H := r_order
  try dsimp only at hp
  have w_self := clerk_ok r_self
  have hl := hp.1
  refine ⟨_, (pss_cons (ps_expr (pe_d D_require_order (hr.mono (by decide)) (by rfl) (passes_call (takes_of rfl rfl rfl rfl) fun _ _ _ _ z => z) (pa_cons (pv 1) pa_nil)))
    (pss_one (ps_ret (pe_d D_seen (hr.mono (by decide)) (by rfl) (passes_call (takes_of rfl rfl rfl rfl) fun _ _ _ _ z => z) (pa_cons (pv 0) (pa_cons (pv 1) pa_nil)))))), ?_⟩
  refine q_drop d0 (ev_d1 (ea_cons1 (ev_var rfl r_order) ea_nil) (by wtm_at "pre")) fun _ _ H1 e1 _ _ => ?_
  have d1 := e1.dice; replace r_self := up r_self e1; replace r_order := up r_order e1
  refine q_ret d1 (ev_df (ea_cons1 (ev_var rfl r_self) (ea_cons1 (ev_var rfl r_order) ea_nil)) (by wtm_at "pre")) fun v z H2 e2 hz rz => ?_
  exact k v z H2 (e1.trans e2) (by first | exact hz | (refine Eq.trans hz ?_; wtm_at "fin")) rz
abbrev s_Clerk_next_alike : Stmt := inClass (top 23) 5
def N_Clerk_next_alike : List Str := ["self", "number"]
theorem sc_Clerk_next_alike : FnScope N_Clerk_next_alike ["self", "number"] (defScope s_Clerk_next_alike) := ⟨rfl, rfl, rfl, by decide +kernel, rfl, by decide +kernel, by decide +kernel⟩
abbrev sp_Clerk_next_alike (N : En) : Sp := FnF (fun M => (Cons (R_Clerk N M) (Cons RI Nil))) (fun M => (ROpt RI)) (fun (x_self, x_number, _) => 0 ≤ x_number) (fun (x_self, x_number, _) => nextA x_self x_number)
theorem ok_Clerk_next_alike {N : En} (T : Txt N) (F : FunM N "Clerk" "next_alike" "Clerk.next_alike" s_Clerk_next_alike) (D_require_count : Dn N 2 "require_count" (sp_require_count N)) : Dm N 3 "Clerk" "next_alike" (sp_Clerk_next_alike N) := by
  refine dm_mk F sc_Clerk_next_alike (fun _ _ _ _ _ _ us hl => match us, hl with | [_, _], _ => rfl) (fun vs H Q E h => by obtain ⟨_, _, _, ⟨_, _, rfl, _, _, _, rfl, _, rfl⟩, _⟩ := h; rfl) ?_
  rintro cdv A outer s H vs Q E hr ⟨M, ⟨x_self, x_number, ⟨⟩⟩, d0, ⟨v_self, _, rfl, r_self, v_number, _, rfl, r_number, rfl⟩, hp, k⟩
  replace r_self : (R_Clerk N M) x_self v_self H := r_self
  replace r_number : RI x_number v_number H := r_number
  try dsimp only at hp
  have w_self := clerk_ok r_self
  refine ⟨_, (pss_cons (ps_expr (pe_d D_require_count (hr.mono (by decide)) (by rfl) (passes_call (takes_of rfl rfl rfl rfl) fun _ _ _ _ z => z) (pa_cons (pv 1) pa_nil)))
    (pss_one (ps_ret (pe_ifExp (pt_cmpR op_lt (pv 1) (pe_fld (pv 0) rfl) (nomark _)) pe_non (pe_op op_add (pv 1) (pe_fld (pv 0) rfl)))))), ?_⟩
  refine q_drop d0 (ev_d1 (ea_cons1 (ev_var rfl r_number) ea_nil) (by wtm_at "pre")) fun _ _ H1 e1 _ _ => ?_
  have d1 := e1.dice; replace r_self := up r_self e1; replace r_number := up r_number e1
  refine q_ret d1 (ev_ifE (et_test (ev_opt o_lt (ev_var rfl r_number) (ev_fld1 T.c_Clerk T.na_Clerk_own_cap lk_Clerk_own_cap (ev_var rfl r_self)))) (fun _ => ev_none) (fun _ => (ev_some (ev_opt o_add (ev_var rfl r_number) (ev_fld1 T.c_Clerk T.na_Clerk_own_modulus lk_Clerk_own_modulus (ev_var rfl r_self)))))) fun v z H2 e2 hz rz => ?_
  exact k v z H2 (e1.trans e2) (by first | exact hz | (refine Eq.trans hz ?_; wtm_at "fin")) rz
abbrev s_Clerk_added : Stmt := inClass (top 23) 6
def N_Clerk_added : List Str := ["self", "sight", "order"]
theorem sc_Clerk_added : FnScope N_Clerk_added ["self", "sight", "order"] (defScope s_Clerk_added) := ⟨rfl, rfl, rfl, by decide +kernel, rfl, by decide +kernel, by decide +kernel⟩
abbrev sp_Clerk_added (N : En) : Sp := FnF (fun M => (Cons (R_Clerk N M) (Cons (RT M (All RI)) (Cons (RT M (All RI)) Nil)))) (fun M => (RT M (All RI))) (fun (x_self, x_sight, x_order, _) => isOrd x_sight ∧ (∀ c ∈ x_sight, c < x_self.1 + x_self.2) ∧ isOrd x_order ∧ x_sight.length = x_order.length) (fun (x_self, x_sight, x_order, _) => (List.zipWith (· + ·) x_sight x_order).map (see x_self))
theorem ok_Clerk_added {N : En} (T : Txt N) (F : FunM N "Clerk" "added" "Clerk.added" s_Clerk_added) (D_is_any_sight : Dn N 2 "is_any_sight" (sp_is_any_sight N)) (D_require_order : Dn N 3 "require_order" (sp_require_order N)) (D_require_equal_sorts : Dn N 1 "require_equal_sorts" (sp_require_equal_sorts N)) (D_plus : Dn N 1 "plus" (sp_plus N)) (D_seen : Dn N 2 "seen" (sp_seen N)) : Dm N 4 "Clerk" "added" (sp_Clerk_added N) := by
  refine dm_mk F sc_Clerk_added (fun _ _ _ _ _ _ us hl => match us, hl with | [_, _, _], _ => rfl) (fun vs H Q E h => by obtain ⟨_, _, _, ⟨_, _, rfl, _, _, _, rfl, _, _, _, rfl, _, rfl⟩, _⟩ := h; rfl) ?_
  rintro cdv A outer s H vs Q E hr ⟨M, ⟨x_self, x_sight, x_order, ⟨⟩⟩, d0, ⟨v_self, _, rfl, r_self, v_sight, _, rfl, r_sight, v_order, _, rfl, r_order, rfl⟩, hp, k⟩
  replace r_self : (R_Clerk N M) x_self v_self H := r_self
  replace r_sight : (RT M (All RI)) x_sight v_sight H := r_sight
  replace r_order : (RT M (All RI)) x_order v_order H := r_order
  try dsimp only at hp
  have w_self := clerk_ok r_self
  obtain ⟨ho1, hs, ho2, hln⟩ := hp
  have hl1 := ho1.1
  have hl2 := ho2.1
  have hl3 : (List.zipWith (· + ·) x_sight x_order).length < 1000 := by rw [List.length_zipWith]; omega
  refine ⟨_, (pss_cons (ps_if (pt_not (pt_val (pe_d D_is_any_sight (hr.mono (by decide)) (by rfl) (passes_call (takes_of rfl rfl rfl rfl) fun _ _ _ _ z => z) (pa_cons (pv 0) (pa_cons (pv 1) pa_nil)))))
      (pss_one ps_never) pss_nil)
    (pss_cons (ps_expr (pe_d D_require_order (hr.mono (by decide)) (by rfl) (passes_call (takes_of rfl rfl rfl rfl) fun _ _ _ _ z => z) (pa_cons (pv 2) pa_nil)))
    (pss_cons (ps_expr (pe_d D_require_equal_sorts (hr.mono (by decide)) (by rfl) (passes_call (takes_of rfl rfl rfl rfl) fun _ _ _ _ z => z) (pa_cons (pv 1) (pa_cons (pv 2) pa_nil))))
    (pss_one (ps_ret (pe_d D_seen (hr.mono (by decide)) (by rfl) (passes_call (takes_of rfl rfl rfl rfl) fun _ _ _ _ z => z) (pa_cons (pv 0) (pa_cons (pe_d D_plus (hr.mono (by decide)) (by rfl) (passes_call (takes_of rfl rfl rfl rfl) fun _ _ _ _ z => z) (pa_cons (pv 1) (pa_cons (pv 2) pa_nil))) pa_nil)))))))), ?_⟩
  refine q_ifS0 d0 (et_not (et_val (ev_df (ea_cons1 (ev_var rfl r_self) (ea_cons1 (ev_var rfl r_sight) ea_nil)) (by wtm_at "pre")))) (fun H1 e1 hb => ?_) (fun H1 e1 hb => ?_)
  · exact absurd hb (by wtm_at "nev")
  · simp [Eq1] at hb
    have d1 := e1.dice; replace r_self := up r_self e1; replace r_sight := up r_sight e1; replace r_order := up r_order e1
    refine q_drop d1 (ev_d1 (ea_cons1 (ev_var rfl r_order) ea_nil) (by wtm_at "pre")) fun _ _ H2 e2 _ _ => ?_
    have d2 := e2.dice; replace r_self := up r_self e2; replace r_sight := up r_sight e2; replace r_order := up r_order e2
    refine q_drop d2 (ev_d1 (ea_cons1 (ev_var rfl r_sight) (ea_cons1 (ev_var rfl r_order) ea_nil)) (by wtm_at "pre")) fun _ _ H3 e3 _ _ => ?_
    have d3 := e3.dice; replace r_self := up r_self e3; replace r_sight := up r_sight e3; replace r_order := up r_order e3
    refine q_ret d3 (ev_df (ea_cons1 (ev_var rfl r_self) (ea_cons1 (ev_df (ea_cons1 (ev_var rfl r_sight) (ea_cons1 (ev_var rfl r_order) ea_nil)) (by wtm_at "pre")) ea_nil)) (by wtm_at "pre")) fun v z H4 e4 hz rz => ?_
    exact k v z H4 (((e1.trans e2).trans e3).trans e4) (by first | exact hz | (refine Eq.trans hz ?_; wtm_at "fin")) rz
end T18

namespace T18
open PySem PySem.Spec PyProof.Rows L2 GB GE T17
local macro_rules | `(tactic| wtm_at "pre") => `(tactic| first | with_reducible exact True.intro | ((try dsimp only); first | with_reducible exact True.intro | with_reducible assumption | omega | (exact Or.inl ⟨by omega, by omega⟩) | (exact Or.inr ⟨by omega, by omega⟩) | exact ⟨by omega, by omega⟩ | exact ⟨by omega, by omega, by omega⟩ | decide +kernel | (simp_all; done) | (simp_all; omega)))
local macro_rules | `(tactic| wtm_at "len") => `(tactic| first | exact len1 (by decide) | exact len2 (by decide) | exact len2 (by simp))
local macro_rules | `(tactic| wtm_at "fin") => `(tactic| first | rfl | (simp [see, finer, isInt, rng_len, Prod.ext_iff, nextA]; done) | (simp [see, finer, isInt, rng_len, Prod.ext_iff, nextA]; omega) | (simp only [see, finer]; split <;> first | rfl | omega) | (dsimp only; rw [List.filter_eq_self.2 (fun _ _ => rfl)]; done) | (dsimp only; rw [List.filter_eq_self.2 (fun _ _ => rfl)]; exact zip_map) | (dsimp only; rw [List.filter_eq_self.2 (fun _ _ => rfl)]; refine List.map_congr_left fun y _ => ?_; simp [see]; done) | (simp [see, finer, isInt, rng_len, Prod.ext_iff, nextA] <;> omega))
local macro_rules | `(tactic| wtm_at "nev") => `(tactic| first | (simp_all [Eq1]; done) | (simp_all [Eq1, isInt]; done) | (simp [Eq1, isInt] at *; omega))
abbrev s__law_dice : Stmt := top 32
def N__law_dice : List Str := ["script", "at", "cell", "great", "left", "mixed"]
theorem sc__law_dice : FnScope N__law_dice ["script", "at"] (defScope s__law_dice) := ⟨rfl, rfl, rfl, by decide +kernel, rfl, by decide +kernel, by decide +kernel⟩
theorem ok__law_dice {N : En} (T : Txt N) (F : FunP N "_law_dice" s__law_dice)  : Dn N 1 "_law_dice" (sp_dice N.K) := by
  refine dn_mk F sc__law_dice (fun _ _ _ _ _ _ us hl => match us, hl with | [_, _], _ => rfl) (fun vs H Q E ⟨_, _, _, e, _⟩ => by rw [e]; rfl) ?_
  rintro cdv A outer s H vs Q E hr ⟨v_script, x_script, x_at, rfl, r_script, hp, k⟩
  have d0 : DiceM none H := trivial
  refine ⟨_, (pss_cons (ps_set (i := 2) sc__law_dice.nd rfl (by first | exact Or.inl rfl | exact Or.inr rfl) (pe_op op_add (pe_op op_mul pe_int (pv 1)) pe_int))
    (pss_cons (ps_if (pt_cmpR op_lt (pv 1) (pe_callB call_len_seq (by rfl) T.n_len (by decide +kernel) (pa_cons (pv 0) pa_nil)) (nomark _))
      (pss_one (ps_set (i := 2) sc__law_dice.nd rfl (by first | exact Or.inl rfl | exact Or.inr rfl) (pe_ix ix_list (pv 0) (pv 1) (fun _ _ => rfl)))) pss_nil)
    (pss_cons (ps_set (i := 3) sc__law_dice.nd rfl (by first | exact Or.inl rfl | exact Or.inr rfl) (pe_op op_mod (pe_callTy call_int1 (by rfl) T.n_int (by decide +kernel) (pa_cons (pe_callB call_abs (by rfl) T.n_abs (by decide +kernel) (pa_cons (pv 2) pa_nil)) pa_nil)) (pe_op op_pow9 (pe_op op_pow9 pe_int pe_int) pe_int)))
    (pss_cons (ps_set (i := 4) sc__law_dice.nd rfl (by first | exact Or.inl rfl | exact Or.inr rfl) (pe_op op_fdivW (pv 3) (pe_op op_pow9 pe_int pe_int)))
    (pss_cons (ps_set (i := 5) sc__law_dice.nd rfl (by first | exact Or.inl rfl | exact Or.inr rfl) (pe_op op_add (pe_op op_add (pe_op op_add (pe_op op_mul (pe_op op_mod (pv 3) pe_int) pe_int) (pe_op op_mul pe_int (pv 1))) (pe_op op_mul pe_int (pe_callTy call_int1 (by rfl) T.n_int (by decide +kernel) (pa_cons (pe_cmpR op_lt (pv 2) pe_int (nomark _)) pa_nil)))) pe_int))
    (pss_one (ps_ret (pe_lst (pa_cons (pv 4) (pa_cons (pe_op op_mod (pv 5) pe_int) (pa_cons pe_int pa_nil))))))))))), ?_⟩
  refine q_set (M := none) d0 (ev_opt o_add (ev_op1 o_mul ev_int (ev_var (R := RI) (x := x_at) rfl rfl) (Or.inl ⟨by decide, by decide⟩)) ev_int) fun v_cell x_cell H1 e1 h_cell r_cell => ?_
  have r1 := up r_script e1
  refine q_ifS e1.dice (et_test (ev_opt o_lt (ev_var (R := RI) (x := x_at) rfl rfl) (ev_cbf c_lenQ (ea_cons1 (ev_var rfl r1) ea_nil)))) (fun H2 e2 hb => ?_) (fun H2 e2 hb => ?_)
  · simp [Eq1] at hb
    refine ev_set e2.dice (ev_op o_ixQ (ev_var rfl (up r1 e2)) (ev_var (R := RI) (x := x_at) rfl rfl) (by
      rintro _ _ rfl rfl
      unfold atI ixN
      rw [if_pos hp.1, if_pos (by omega)]
      simp; omega)) fun v_cell x_cell H3 e3 h_cell r_cell => ?_
    refine q_set (M := none) e3.dice (ev_op1 o_mod (ev_cbf c_int (ea_cons1 (ev_cbf c_abs (ea_cons1 (ev_var rfl r_cell) ea_nil)) ea_nil)) (ev_op1 o_pow9 (ev_op1 o_pow9 ev_int ev_int ⟨by decide, by decide +kernel⟩) ev_int ⟨by decide, by decide +kernel⟩) (by show (0 : Int) < _; decide +kernel)) fun v_great x_great H4 e4 h_great r_great => ?_
    refine q_set e4.dice (ev_op1 o_fdivW (ev_var rfl r_great) (ev_op1 o_pow9 ev_int ev_int ⟨by decide, by decide +kernel⟩) ⟨by decide +kernel, by decide +kernel⟩) fun v_left x_left H5 e5 h_left r_left => ?_
    have l1 := Int.emod_lt_of_pos x_great (show (0 : Int) < 2147483353 by decide)
    have l2 := Int.emod_nonneg x_great (show (2147483353 : Int) ≠ 0 by decide)
    refine q_set e5.dice (ev_opt o_add (ev_opt o_add (ev_opt o_add (ev_op1 o_mul (ev_op1 o_mod (ev_var rfl (up r_great e5)) ev_int (by show (0 : Int) < 2147483353; decide)) ev_int (Or.inr ⟨by decide, by decide⟩)) (ev_op1 o_mul ev_int (ev_var (R := RI) (x := x_at) rfl rfl) (Or.inl ⟨by decide, by decide⟩))) (ev_op1 o_mul ev_int (ev_cbf c_intB (ea_cons1 (ev_opt o_lt (ev_var rfl (up (up r_cell e4) e5)) ev_int) ea_nil)) (Or.inl ⟨by decide, by decide⟩))) ev_int) fun v_mixed x_mixed H6 e6 h_mixed r_mixed => ?_
    refine q_args (M := none) e6.dice (ea_cons1 (ev_var rfl (up r_left e6)) (ea_cons1 (ev_op1 o_mod (ev_var rfl r_mixed) ev_int (by show (0 : Int) < 2147483323; decide)) (ea_cons1 ev_int ea_nil))) fun vs y H7 e7 hy ry => ?_
    obtain ⟨w1, t1, rfl, q1, w2, t2, rfl, q2, w3, t3, rfl, q3, q4⟩ := ry
    cases (show t3 = [] from q4)
    subst hy
    cases (show w1 = V.int _ from q1); cases (show w2 = V.int _ from q2); cases (show w3 = V.int _ from q3)
    refine ⟨by rw [sizeLine_eq]; show (3 : Nat) ≤ 16777216; decide, fun d hd => ?_⟩
    have ee := ((((e1.trans e2).trans e3).trans e4).trans e5).trans (e6.trans e7)
    exact k d _ _ _ (ee.trans (.new trivial hd)) (old ee nofun hd) upd_same
  · have e3 := e2; replace e2 := Xt.refl e1.dice; replace r_cell := up r_cell e3
    refine q_set (M := none) e3.dice (ev_op1 o_mod (ev_cbf c_int (ea_cons1 (ev_cbf c_abs (ea_cons1 (ev_var rfl r_cell) ea_nil)) ea_nil)) (ev_op1 o_pow9 (ev_op1 o_pow9 ev_int ev_int ⟨by decide, by decide +kernel⟩) ev_int ⟨by decide, by decide +kernel⟩) (by show (0 : Int) < _; decide +kernel)) fun v_great x_great H4 e4 h_great r_great => ?_
    refine q_set e4.dice (ev_op1 o_fdivW (ev_var rfl r_great) (ev_op1 o_pow9 ev_int ev_int ⟨by decide, by decide +kernel⟩) ⟨by decide +kernel, by decide +kernel⟩) fun v_left x_left H5 e5 h_left r_left => ?_
    have l1 := Int.emod_lt_of_pos x_great (show (0 : Int) < 2147483353 by decide)
    have l2 := Int.emod_nonneg x_great (show (2147483353 : Int) ≠ 0 by decide)
    refine q_set e5.dice (ev_opt o_add (ev_opt o_add (ev_opt o_add (ev_op1 o_mul (ev_op1 o_mod (ev_var rfl (up r_great e5)) ev_int (by show (0 : Int) < 2147483353; decide)) ev_int (Or.inr ⟨by decide, by decide⟩)) (ev_op1 o_mul ev_int (ev_var (R := RI) (x := x_at) rfl rfl) (Or.inl ⟨by decide, by decide⟩))) (ev_op1 o_mul ev_int (ev_cbf c_intB (ea_cons1 (ev_opt o_lt (ev_var rfl (up (up r_cell e4) e5)) ev_int) ea_nil)) (Or.inl ⟨by decide, by decide⟩))) ev_int) fun v_mixed x_mixed H6 e6 h_mixed r_mixed => ?_
    refine q_args (M := none) e6.dice (ea_cons1 (ev_var rfl (up r_left e6)) (ea_cons1 (ev_op1 o_mod (ev_var rfl r_mixed) ev_int (by show (0 : Int) < 2147483323; decide)) (ea_cons1 ev_int ea_nil))) fun vs y H7 e7 hy ry => ?_
    obtain ⟨w1, t1, rfl, q1, w2, t2, rfl, q2, w3, t3, rfl, q3, q4⟩ := ry
    cases (show t3 = [] from q4)
    subst hy
    cases (show w1 = V.int _ from q1); cases (show w2 = V.int _ from q2); cases (show w3 = V.int _ from q3)
    refine ⟨by rw [sizeLine_eq]; show (3 : Nat) ≤ 16777216; decide, fun d hd => ?_⟩
    have ee := ((((e1.trans e2).trans e3).trans e4).trans e5).trans (e6.trans e7)
    exact k d _ _ _ (ee.trans (.new trivial hd)) (old ee nofun hd) upd_same
abbrev s__law_roll : Stmt := top 33
def N__law_roll : List Str := ["dice", "total", "number", "drawn", "one", "two"]
theorem sc__law_roll : FnScope N__law_roll ["dice", "total"] (defScope s__law_roll) := ⟨rfl, rfl, rfl, by decide +kernel, rfl, by decide +kernel, by decide +kernel⟩
abbrev sp__law_roll (N : En) : Sp := sp_roll
abbrev sp__law_dice (N : En) : Sp := sp_dice N.K
theorem ok__law_roll {N : En} (T : Txt N) (F : FunP N "_law_roll" s__law_roll) : Dn N 1 "_law_roll" sp_roll := by
  refine dn_mk F sc__law_roll (fun _ _ _ _ _ _ us hl => match us, hl with | [_, _], _ => rfl) (fun vs H Q E h => by obtain ⟨_, _, _, ⟨_, _, rfl, _, _, _, rfl, _, rfl⟩, _⟩ := h; rfl) ?_
  rintro cdv A outer s H vs Q E hr ⟨M, ⟨d, n, ⟨⟩⟩, dm, ⟨v1, _, rfl, ⟨rfl, rfl⟩, v2, _, rfl, r2, rfl⟩, ⟨h0, h1⟩, k1⟩
  cases (show v2 = V.int n from r2)
  replace h0 : 0 < n := h0
  replace h1 : n < 1000000000 := h1
  have k : ∀ r H', Xt (some d) H H' → 0 ≤ r → r < n → Q (.int r) H' := fun r H' e p1 p2 => k1 (.int r) r H' e ⟨p1, p2⟩ rfl
  refine ⟨_, (pss_cons (ps_set (i := 2) sc__law_roll.nd rfl (by first | exact Or.inl rfl | exact Or.inr rfl) (pe_callTy call_int1 (by rfl) T.n_int (by decide +kernel) (pa_cons (pv 1) pa_nil)))
    (pss_cons (ps_if (pt_cmpR op_gt (pe_ix ix_list (pv 0) pe_int (fun _ _ => rfl)) pe_int (nomark _))
      (pss_cons (ps_set (i := 3) sc__law_roll.nd rfl (by first | exact Or.inl rfl | exact Or.inr rfl) (pe_op op_mod (pe_ix ix_list (pv 0) pe_int (fun _ _ => rfl)) (pv 2)))
    (pss_cons (ps_asg (pe_op op_fdiv (pe_ix ix_list (pv 0) pe_int (fun _ _ => rfl)) (pv 2)) (pg_sub (pv 0) pe_int set_list))
    (pss_one (ps_ret (pe_callTy call_int1 (by rfl) T.n_int (by decide +kernel) (pa_cons (pv 3) pa_nil)))))) pss_nil)
    (pss_cons (ps_asg (pe_op op_add (pe_ix ix_list (pv 0) pe_int (fun _ _ => rfl)) pe_int) (pg_sub (pv 0) pe_int set_list))
    (pss_cons (ps_set (i := 4) sc__law_roll.nd rfl (by first | exact Or.inl rfl | exact Or.inr rfl) (pe_op op_mod (pe_op op_add (pe_ix ix_list (pv 0) pe_int (fun _ _ => rfl)) (pe_op op_mul pe_int (pe_ix ix_list (pv 0) pe_int (fun _ _ => rfl)))) pe_int))
    (pss_cons (ps_set (i := 5) sc__law_roll.nd rfl (by first | exact Or.inl rfl | exact Or.inr rfl) (pe_op op_add (pe_op op_mul (pe_op op_mod (pe_op op_mul (pv 4) (pv 4)) pe_int) (pv 4)) (pe_op op_mul pe_int (pe_ix ix_list (pv 0) pe_int (fun _ _ => rfl)))))
    (pss_cons (ps_set (i := 5) sc__law_roll.nd rfl (by first | exact Or.inl rfl | exact Or.inr rfl) (pe_op op_mod (pv 5) pe_int))
    (pss_one (ps_ret (pe_callTy call_int1 (by rfl) T.n_int (by decide +kernel) (pa_cons (pe_op op_mod (pe_op op_fdiv (pv 5) pe_int) (pv 2)) pa_nil)))))))))), ?_⟩
  obtain ⟨a, b, c, hd⟩ := id dm
  have i0 : ∀ (x y z : Int), atI [V.int x, V.int y, V.int z] 0 = some (V.int x) := fun _ _ _ => rfl
  have i1 : ∀ (x y z : Int), atI [V.int x, V.int y, V.int z] 1 = some (V.int y) := fun _ _ _ => rfl
  have i2 : ∀ (x y z : Int), atI [V.int x, V.int y, V.int z] 2 = some (V.int z) := fun _ _ _ => rfl
  -- number = int(total)
  refine ⟨_, rfl, .inl ⟨n, rfl, ?_⟩⟩
  -- if dice[0] > 0
  refine ⟨_, rfl, d, _, 0, _, rfl, rfl, .of hd, i0 _ _ _, _, _, rfl, rfl, _, rfl, ?_⟩
  refine ite2 (fun hp => ?_) (fun hp => ?_)
  · refine ⟨_, rfl, d, _, 0, _, rfl, rfl, .of hd, i0 _ _ _, _, rfl, _, _, rfl, rfl, h0, ?_⟩
    refine ⟨_, rfl, d, _, 0, _, rfl, rfl, .of hd, i0 _ _ _, _, rfl, _, _, rfl, rfl, ⟨h0, by omega⟩, ?_⟩
    refine ⟨_, rfl, d, _, 0, 0, rfl, rfl, hd, rfl, ?_⟩
    refine ⟨_, rfl, .inl ⟨_, rfl, ?_⟩⟩
    exact k _ _ (Xt.set_dice (a := a / n) (b := b) (c := c) rfl) (Int.emod_nonneg _ (by omega)) (Int.emod_lt_of_pos _ h0)
  · refine ⟨_, rfl, d, _, 2, _, rfl, rfl, .of hd, i2 _ _ _, _, _, rfl, rfl, ?_⟩
    refine ⟨_, rfl, d, _, 2, 2, rfl, rfl, hd, rfl, ?_⟩
    have hd2 : (upd H d (.lst [.int a, .int b, .int (c + 1)])) d = some (.lst [.int a, .int b, .int (c + 1)]) := upd_same
    refine ⟨_, rfl, d, _, 1, _, rfl, rfl, .of hd2, i1 _ _ _, ?_⟩
    refine ⟨_, rfl, d, _, 2, _, rfl, rfl, .of hd2, i2 _ _ _, _, _, rfl, rfl, .inl ⟨by decide, by decide⟩, _, _, rfl, rfl, _, _, rfl, rfl, (by show (0 : Int) < 2305843009213693951; decide), ?_⟩
    have h61 := Int.emod_lt_of_pos (b + 1000151 * (c + 1)) (by decide : (0 : Int) < 2305843009213693951)
    have h60 := Int.emod_nonneg (b + 1000151 * (c + 1)) (by decide : (2305843009213693951 : Int) ≠ 0)
    refine ⟨_, rfl, _, rfl, _, _, rfl, rfl, .inl ⟨by omega, by omega⟩, _, _, rfl, rfl, (by show (0 : Int) < 2305843009213693921; decide), _, rfl, _, _, rfl, rfl, .inr ⟨by omega, by omega⟩, ?_⟩
    refine ⟨_, rfl, d, _, 2, _, rfl, rfl, .of hd2, i2 _ _ _, _, _, rfl, rfl, .inl ⟨by decide, by decide⟩, _, _, rfl, rfl, ?_⟩
    refine ⟨_, rfl, _, _, rfl, rfl, (by show (0 : Int) < 2305843009213693907; decide), ?_⟩
    refine ⟨_, rfl, _, _, rfl, rfl, ⟨by decide, by decide⟩, _, rfl, _, _, rfl, rfl, h0, .inl ⟨_, rfl, ?_⟩⟩
    exact k _ _ (Xt.set_dice (a := a) (b := b) (c := c + 1) rfl) (Int.emod_nonneg _ (by omega)) (Int.emod_lt_of_pos _ h0)
abbrev s__law_order : Stmt := top 35
def N__law_order : List Str := ["dice", "sorts", "most", "sort"]
theorem sc__law_order : FnScope N__law_order ["dice", "sorts", "most"] (defScope s__law_order) := ⟨rfl, rfl, rfl, by decide +kernel, rfl, by decide +kernel, by decide +kernel⟩
abbrev sp__law_order (N : En) : Sp := FnM (fun M => (Cons (RD M) (Cons RI (Cons RI Nil)))) (fun M => (RT M (All RI))) (fun (x_dice, x_sorts, x_most, _) => 0 ≤ x_sorts ∧ x_sorts < 1000 ∧ 0 ≤ x_most ∧ x_most < 1000) (fun (x_dice, x_sorts, x_most, _) z => z.length = x_sorts.toNat ∧ ∀ c ∈ z, 0 ≤ c ∧ c ≤ x_most)
theorem ok__law_order {N : En} (T : Txt N) (F : FunP N "_law_order" s__law_order) (D__law_roll : Dn N 1 "_law_roll" (sp__law_roll N)) : Dn N 2 "_law_order" (sp__law_order N) := by
  refine dn_mk F sc__law_order (fun _ _ _ _ _ _ us hl => match us, hl with | [_, _, _], _ => rfl) (fun vs H Q E h => by obtain ⟨_, _, _, ⟨_, _, rfl, _, _, _, rfl, _, _, _, rfl, _, rfl⟩, _⟩ := h; rfl) ?_
  rintro cdv A outer s H vs Q E hr ⟨M, ⟨x_dice, x_sorts, x_most, ⟨⟩⟩, d0, ⟨v_dice, _, rfl, r_dice, v_sorts, _, rfl, r_sorts, v_most, _, rfl, r_most, rfl⟩, hp, k⟩
  replace r_dice : (RD M) x_dice v_dice H := r_dice
  replace r_sorts : RI x_sorts v_sorts H := r_sorts
  replace r_most : RI x_most v_most H := r_most
  try dsimp only at hp
  refine ⟨_, (pss_one (ps_ret (pe_callTy call_tuple_of (by rfl) T.n_tuple (by decide +kernel) (pa_cons (pe_lc (own := [("sort", 3)]) (g := gName 3) rfl sc__law_order.nd (pi_range1 (by rfl) T.n_range (pa_cons (pv 1) pa_nil)) (blkOk_by (own := [("sort", 3)]) (N := N__law_order) (sc := defScope s__law_order) (by decide +kernel)) (fun _ _ _ _ _ => (pg_name (i := 3) sc__law_order.nd rfl (by first | exact Or.inl rfl | exact Or.inr rfl))) (fun _ _ _ _ _ => pts_nil) (fun _ _ _ _ _ => (pe_d D__law_roll (hr.mono (by decide)) (by rfl) px0 (pa_cons (pv 0) (pa_cons (pe_op op_add (pv 2) pe_int) pa_nil))))) pa_nil)))), ?_⟩
  refine q_ret d0 (ev_cb c_tupL (ea_cons (ev_lcR1 (fun v => (wipe _ [3]).set 3 (some v)) ((ea_cons1 (ev_var rfl r_sorts) ea_nil).imp rg1) (by wtm_at "pre") (fun _ _ _ _ _ q => q) (fun _ => rfl) (fun H' q1 y1 _ _ => et_yes) (fun H' q1 y1 _ _ _ => (ev_d1 (ea_cons1 (ev_var rfl (up r_dice q1)) (ea_cons1 (ev_opt o_add (ev_var rfl (up r_most q1)) ev_int) ea_nil)) (by wtm_at "pre")))) ea_nil) (fun _ _ => trivial)) fun v z H1 e1 hz rz => ?_
  exact k v z H1 e1 (by obtain ⟨⟨q, _⟩, ⟨hq, _⟩, ez⟩ := hz; have ez' : z = q := ez; subst ez'; have h := comp_all (P := fun c : Int => 0 ≤ c ∧ c ≤ x_most) (fun _ c hc => by replace hc : 0 ≤ c ∧ c < x_most + 1 := hc; omega) hq; rw [rng_len] at h; exact ⟨by rw [show z.length = _ from h.1, Int.sub_zero], h.2⟩) rz
abbrev s__law_plus : Stmt := top 36
def N__law_plus : List Str := ["one", "other", "left", "right"]
theorem sc__law_plus : FnScope N__law_plus ["one", "other"] (defScope s__law_plus) := ⟨rfl, rfl, rfl, by decide +kernel, rfl, by decide +kernel, by decide +kernel⟩
abbrev sp__law_plus (N : En) : Sp := FnF (fun M => (Cons (RT M (All RI)) (Cons (RT M (All RI)) Nil))) (fun M => (RT M (All RI))) (fun (x_one, x_other, _) => x_one.length < 1000 ∧ x_other.length < 1000) (fun (x_one, x_other, _) => List.zipWith (· + ·) x_one x_other)
theorem ok__law_plus {N : En} (T : Txt N) (F : FunP N "_law_plus" s__law_plus)  : Dn N 1 "_law_plus" (sp__law_plus N) := by
  refine dn_mk F sc__law_plus (fun _ _ _ _ _ _ us hl => match us, hl with | [_, _], _ => rfl) (fun vs H Q E h => by obtain ⟨_, _, _, ⟨_, _, rfl, _, _, _, rfl, _, rfl⟩, _⟩ := h; rfl) ?_
  rintro cdv A outer s H vs Q E hr ⟨M, ⟨x_one, x_other, ⟨⟩⟩, d0, ⟨v_one, _, rfl, r_one, v_other, _, rfl, r_other, rfl⟩, hp, k⟩
  replace r_one : (RT M (All RI)) x_one v_one H := r_one
  replace r_other : (RT M (All RI)) x_other v_other H := r_other
  try dsimp only at hp
  refine ⟨_, (pss_one (ps_ret (pe_callTy call_tuple_of (by rfl) T.n_tuple (by decide +kernel) (pa_cons (pe_lc (own := [("left", 2), ("right", 3)]) rfl sc__law_plus.nd (RZ.pi_zipA (by rfl) T.n_zip (pa_cons (pv 0) (pa_cons (pv 1) pa_nil))) (blkOk_by (own := [("left", 2), ("right", 3)]) (N := N__law_plus) (sc := defScope s__law_plus) (by decide +kernel)) (fun _ _ _ _ _ => (pg_tupK N.K (by rfl) (n := 2) rfl (pgs_cons (pg_name (i := 2) sc__law_plus.nd rfl (by first | exact Or.inl rfl | exact Or.inr rfl)) (pgs_cons (pg_name (i := 3) sc__law_plus.nd rfl (by first | exact Or.inl rfl | exact Or.inr rfl)) pgs_nil)))) (fun _ _ _ _ _ => pts_nil) (fun _ _ _ _ _ => (pe_op op_add (pv 2) (pv 3)))) pa_nil)))), ?_⟩
  refine q_ret d0 (ev_cbf c_tupL (ea_cons1 ((ev_lcZT (fun v u => ((wipe _ [2, 3]).set 2 (some v)).set 3 (some u)) (ea_cons1 (ev_var rfl r_one) (ea_cons1 (ev_var rfl r_other) ea_nil)) (by wtm_at "pre") (fun _ _ _ _ _ h q => ⟨_, _, rfl, h, rfl, _, _, rfl, _, _, rfl, rfl, q⟩) (fun _ _ => rfl) (fun H' q1 v1 u1 y1 z1 m1 s1a s1b => et_yes) (fun H' q1 v1 u1 y1 z1 m1 s1a s1b _ => (ev_opt o_add (ev_var rfl s1a) (ev_var rfl s1b)))).imp fun _ c => c.det) ea_nil)) fun v z H1 e1 hz rz => ?_
  exact k v z H1 e1 (by first | exact hz | (refine Eq.trans hz ?_; wtm_at "fin")) rz
abbrev s__law_seen : Stmt := top 37
def N__law_seen : List Str := ["cap", "modulus", "row", "count"]
theorem sc__law_seen : FnScope N__law_seen ["cap", "modulus", "row"] (defScope s__law_seen) := ⟨rfl, rfl, rfl, by decide +kernel, rfl, by decide +kernel, by decide +kernel⟩
abbrev sp__law_seen (N : En) : Sp := FnF (fun M => (Cons RI (Cons RI (Cons (RT M (All RI)) Nil)))) (fun M => (RT M (All RI))) (fun (x_cap, x_modulus, x_row, _) => 0 < x_modulus ∧ x_row.length < 1000) (fun (x_cap, x_modulus, x_row, _) => x_row.map (see (x_cap, x_modulus)))
theorem ok__law_seen {N : En} (T : Txt N) (F : FunP N "_law_seen" s__law_seen)  : Dn N 1 "_law_seen" (sp__law_seen N) := by
  refine dn_mk F sc__law_seen (fun _ _ _ _ _ _ us hl => match us, hl with | [_, _, _], _ => rfl) (fun vs H Q E h => by obtain ⟨_, _, _, ⟨_, _, rfl, _, _, _, rfl, _, _, _, rfl, _, rfl⟩, _⟩ := h; rfl) ?_
  rintro cdv A outer s H vs Q E hr ⟨M, ⟨x_cap, x_modulus, x_row, ⟨⟩⟩, d0, ⟨v_cap, _, rfl, r_cap, v_modulus, _, rfl, r_modulus, v_row, _, rfl, r_row, rfl⟩, hp, k⟩
  replace r_cap : RI x_cap v_cap H := r_cap
  replace r_modulus : RI x_modulus v_modulus H := r_modulus
  replace r_row : (RT M (All RI)) x_row v_row H := r_row
  try dsimp only at hp
  refine ⟨_, (pss_one (ps_ret (pe_callTy call_tuple_of (by rfl) T.n_tuple (by decide +kernel) (pa_cons (pe_lc (own := [("count", 3)]) (g := gName 3) rfl sc__law_seen.nd (pi_tup (pv 2)) (blkOk_by (own := [("count", 3)]) (N := N__law_seen) (sc := defScope s__law_seen) (by decide +kernel)) (fun _ _ _ _ _ => (pg_name (i := 3) sc__law_seen.nd rfl (by first | exact Or.inl rfl | exact Or.inr rfl))) (fun _ _ _ _ _ => pts_nil) (fun _ _ _ _ _ => (pe_ifExp (pt_cmpR op_lt (pv 3) (pv 0) (nomark _)) (pv 3) (pe_op op_add (pv 0) (pe_op op_mod (pe_callTy call_int1 (by rfl) T.n_int (by decide +kernel) (pa_cons (pe_op op_sub (pv 3) (pv 0)) pa_nil)) (pv 1)))))) pa_nil)))), ?_⟩
  refine q_ret d0 (ev_cbf c_tupL (ea_cons1 ((ev_lcT (fun v => (wipe _ [3]).set 3 (some v)) (ev_var rfl r_row) (by wtm_at "pre") (fun _ _ _ _ _ q => q) (fun _ => rfl) (fun H' q1 v1 y1 _ s1 => et_yes) (fun H' q1 v1 y1 _ s1 _ => (ev_ifE (et_test (ev_opt o_lt (ev_var rfl s1) (ev_var rfl (up r_cap q1)))) (fun _ => (ev_var rfl s1)) (fun _ => (ev_opt o_add (ev_var rfl (up r_cap q1)) (ev_op1 o_mod (ev_cbf c_int (ea_cons1 (ev_opt o_sub (ev_var rfl s1) (ev_var rfl (up r_cap q1))) ea_nil)) (ev_var rfl (up r_modulus q1)) (by wtm_at "pre"))))))).imp fun _ c => c.det) ea_nil)) fun v z H1 e1 hz rz => ?_
  exact k v z H1 e1 (by first | exact hz | (refine Eq.trans hz ?_; wtm_at "fin")) rz
abbrev s__law_summed : Stmt := top 38
def N__law_summed : List Str := ["clerk", "rows", "sorts", "found", "row"]
theorem sc__law_summed : FnScope N__law_summed ["clerk", "rows", "sorts"] (defScope s__law_summed) := ⟨rfl, rfl, rfl, by decide +kernel, rfl, by decide +kernel, by decide +kernel⟩
abbrev sp__law_summed (N : En) : Sp := FnF (fun M => (Cons (R_Clerk N M) (Cons (RL M (All (RT M (All RI)))) (Cons RI Nil)))) (fun M => (RT M (All RI))) (fun (x_clerk, x_rows, x_sorts, _) => (1 ≤ x_sorts ∧ x_sorts ≤ 3) ∧ x_rows.length < 1000 ∧ ∀ r ∈ x_rows, good x_sorts.toNat r) (fun (x_clerk, x_rows, x_sorts, _) => (sumR x_sorts.toNat x_rows).map (see x_clerk))
theorem ok__law_summed {N : En} (T : Txt N) (F : FunP N "_law_summed" s__law_summed) (D_Clerk___call__ : Dm N 4 "Clerk" "__call__" (sp_Clerk___call__ N)) (D_Clerk_added : Dm N 4 "Clerk" "added" (sp_Clerk_added N)) : Dn N 6 "_law_summed" (sp__law_summed N) := by
  refine dn_mk F sc__law_summed (fun _ _ _ _ _ _ us hl => match us, hl with | [_, _, _], _ => rfl) (fun vs H Q E h => by obtain ⟨_, _, _, ⟨_, _, rfl, _, _, _, rfl, _, _, _, rfl, _, rfl⟩, _⟩ := h; rfl) ?_
  rintro cdv A outer s H vs Q E hr ⟨M, ⟨x_clerk, x_rows, x_sorts, ⟨⟩⟩, d0, ⟨v_clerk, _, rfl, r_clerk, v_rows, _, rfl, r_rows, v_sorts, _, rfl, r_sorts, rfl⟩, hp, k⟩
  replace r_clerk : (R_Clerk N M) x_clerk v_clerk H := r_clerk
  replace r_rows : (RL M (All (RT M (All RI)))) x_rows v_rows H := r_rows
  replace r_sorts : RI x_sorts v_sorts H := r_sorts
  try dsimp only at hp
  have w_clerk := clerk_ok r_clerk
  obtain ⟨hp1, hp2, hp3⟩ := hp
  have hoc : okC x_clerk := w_clerk
  have hz0 : isOrd (List.replicate x_sorts.toNat [(0 : Int)]).flatten := by simp [isOrd]; omega
  have hn3 : x_sorts.toNat ≤ 3 ∧ 1 ≤ x_sorts.toNat := by omega
  refine ⟨_, (pss_cons (ps_set (i := 3) sc__law_summed.nd rfl (by first | exact Or.inl rfl | exact Or.inr rfl) (pe_ci (pv 0) D_Clerk___call__ T.fi_Clerk (hr.mono (by decide)) (passes_call (takes_of rfl rfl rfl rfl) fun _ _ _ _ z => z) (pa_cons (pe_op op_repTA (pe_tup (pa_cons pe_int pa_nil)) (pv 2)) pa_nil)))
    (pss_cons (ps_for (passes_of rfl) rfl (pi_list (pv 1)) (pg_name (i := 4) sc__law_summed.nd rfl (by first | exact Or.inl rfl | exact Or.inr rfl))
      (pss_one (ps_set (i := 3) sc__law_summed.nd rfl (by first | exact Or.inl rfl | exact Or.inr rfl) (pe_m (pv 0) D_Clerk_added (hr.mono (by decide)) (passes_call (takes_of rfl rfl rfl rfl) fun _ _ _ _ z => z) (pa_cons (pv 3) (pa_cons (pv 4) pa_nil))))))
    (pss_one (ps_ret (pv 3))))), ?_⟩
  refine q_set d0 (ev_cif (ev_var rfl r_clerk) (ea_cons1 (ev_op1 o_repT (ev_tup (ea_consA ev_int ea_nilA) (by wtm_at "len")) (ev_var rfl r_sorts) (by wtm_at "pre")) ea_nil) (by wtm_at "pre")) fun v_found x_found H1 e1 h_found r_found => ?_
  replace h_found : x_found = _ := h_found; try dsimp only at h_found
  have d1 := e1.dice; replace r_clerk := up r_clerk e1; replace r_rows := up r_rows e1; replace r_sorts := up r_sorts e1
  refine q_forL d1 (ev_var rfl r_rows) (fun Hb i σ' H' => ∃ (v_found : V) (o_row : Option V) (x_found : _), σ' = [some v_clerk, some v_rows, some v_sorts, some v_found, o_row] ∧ Xt M Hb H' ∧ (RT M (All RI)) x_found v_found H' ∧ (x_found = (sumR x_sorts.toNat (x_rows.take i)).map (see x_clerk))) (fun Hb e0' => ⟨_, _, _, rfl, .refl e0'.dice, up r_found e0', by rw [h_found]; simp [sumR]⟩) (fun _ _ _ _ hI => by obtain ⟨v_found, o_row, x_found, rfl, e0', r_found, hI⟩ := hI; exact e0') (fun Hb eb i v_row x_row σ' H2 hx r_row hI => ?_) (fun Hb eb σ' H2 hI => ?_)
  · obtain ⟨v_found, o_row, x_found, rfl, e2', r_found, hI⟩ := hI
    have e2 := eb.trans e2'
    have d2 := e2.dice; replace r_clerk := up r_clerk e2; replace r_rows := up r_rows e2; replace r_sorts := up r_sorts e2
    have gr := hp3 x_row (List.mem_of_getElem? hx)
    have gs : good x_sorts.toNat (sumR x_sorts.toNat (x_rows.take i)) := good_sum fun r hr => hp3 r (List.mem_of_mem_take hr)
    have gf : good x_sorts.toNat x_found := by rw [hI]; exact good_see hoc gs
    have gb : ∀ c ∈ x_found, c < x_clerk.1 + x_clerk.2 := by rw [hI]; intro c hc; obtain ⟨y, hy, rfl⟩ := List.mem_map.mp hc; exact (see_b hoc (gs.2 y hy)).2
    have pp : isOrd x_found ∧ (∀ c ∈ x_found, c < x_clerk.1 + x_clerk.2) ∧ isOrd x_row ∧ x_found.length = x_row.length := ⟨⟨by rw [gf.1]; omega, gf.2⟩, gb, ⟨by rw [gr.1]; omega, gr.2⟩, by rw [gf.1, gr.1]⟩
    refine ev_set d2 (ev_mef lkm_Clerk_added (ev_var rfl r_clerk) (ea_cons1 (ev_var rfl r_found) (ea_cons1 (ev_var rfl r_row) ea_nil)) (by wtm_at "pre")) fun v_found x_found H3 e3 h_found r_found => ?_
    replace h_found : x_found = _ := h_found; try dsimp only at h_found
    have d3 := e3.dice; replace r_clerk := up r_clerk e3; replace r_rows := up r_rows e3; replace r_sorts := up r_sorts e3; replace r_row := up r_row e3
    exact ⟨_, _, _, rfl, (e2'.trans e3), r_found, by rw [h_found, List.take_add_one, hx, Option.toList_some, sum_snoc, hI]; exact map_see_add hoc (good_see hoc gs).2 gr.2 gs.2 gr.2 (see_map_idem hoc gs.2) rfl⟩
  · obtain ⟨v_found, o_row, x_found, rfl, e2', r_found, hI⟩ := hI
    have e2 := eb.trans e2'
    have d2 := e2.dice; replace r_clerk := up r_clerk e2; replace r_rows := up r_rows e2; replace r_sorts := up r_sorts e2
    refine q_ret d2 (ev_var rfl r_found) fun v z H3 e3 hz rz => ?_
    exact k v z H3 ((e1.trans e2).trans e3) (by refine Eq.trans hz ?_; rw [hI, List.take_length]) rz
end T18

namespace T18
open PySem PySem.Spec PyProof.Rows L2 GB GE T17
local macro_rules | `(tactic| wtm_at "pre") => `(tactic| first | with_reducible exact True.intro | ((try dsimp only); first | with_reducible exact True.intro | with_reducible assumption | omega | (exact Or.inl ⟨by omega, by omega⟩) | (exact Or.inr ⟨by omega, by omega⟩) | exact ⟨by omega, by omega⟩ | exact ⟨by omega, by omega, by omega⟩ | decide +kernel | (simp_all; done) | (simp_all; omega)))
local macro_rules | `(tactic| wtm_at "len") => `(tactic| first | exact len1 (by decide) | exact len2 (by decide) | exact len2 (by simp))
local macro_rules | `(tactic| wtm_at "fin") => `(tactic| first | rfl | (simp [see, finer, isInt, rng_len, Prod.ext_iff, nextA]; done) | (simp [see, finer, isInt, rng_len, Prod.ext_iff, nextA]; omega) | (simp only [see, finer]; split <;> first | rfl | omega) | (dsimp only; rw [List.filter_eq_self.2 (fun _ _ => rfl)]; done) | (dsimp only; rw [List.filter_eq_self.2 (fun _ _ => rfl)]; exact zip_map) | (dsimp only; rw [List.filter_eq_self.2 (fun _ _ => rfl)]; refine List.map_congr_left fun y _ => ?_; simp [see]; done) | (simp [see, finer, isInt, rng_len, Prod.ext_iff, nextA] <;> omega))
local macro_rules | `(tactic| wtm_at "nev") => `(tactic| first | (simp_all [Eq1]; done) | (simp_all [Eq1, isInt]; done) | (simp [Eq1, isInt] at *; omega))
abbrev s__law_mixed : Stmt := top 34
def N__law_mixed : List Str := ["dice", "items", "left", "found"]
theorem sc__law_mixed : FnScope N__law_mixed ["dice", "items"] (defScope s__law_mixed) := ⟨rfl, rfl, rfl, by decide +kernel, rfl, by decide +kernel, by decide +kernel⟩
abbrev sp__law_mixed (N : En) : Sp := FnM (fun M => (Cons (RD M) (Cons (RL M (All (RT M (All RI)))) Nil))) (fun M => (RL M (All (RT M (All RI))))) (fun (x_dice, x_items, _) => x_items.length < 1000) (fun (x_dice, x_items, _) z => z.Perm x_items)
theorem ok__law_mixed {N : En} (T : Txt N) (F : FunP N "_law_mixed" s__law_mixed) (D__law_roll : Dn N 1 "_law_roll" (sp__law_roll N)) : Dn N 2 "_law_mixed" (sp__law_mixed N) := by
  refine dn_mk F sc__law_mixed (fun _ _ _ _ _ _ us hl => match us, hl with | [_, _], _ => rfl) (fun vs H Q E h => by obtain ⟨_, _, _, ⟨_, _, rfl, _, _, _, rfl, _, rfl⟩, _⟩ := h; rfl) ?_
  rintro cdv A outer s H vs Q E hr ⟨M, ⟨x_dice, x_items, ⟨⟩⟩, d0, ⟨v_dice, _, rfl, r_dice, v_items, _, rfl, r_items, rfl⟩, hp, k⟩
  replace r_dice : (RD M) x_dice v_dice H := r_dice
  replace r_items : (RL M (All (RT M (All RI)))) x_items v_items H := r_items
  try dsimp only at hp
  refine ⟨_, (pss_cons (ps_par rfl sc__law_mixed.nd (i := 2) (j := 3) rfl rfl (by decide) rfl rfl (pa_cons (pe_callTy call_list_of (by rfl) T.n_list (by decide +kernel) (pa_cons (pv 1) pa_nil)) (pa_cons (pe_lst pa_nil) pa_nil)) rfl)
    (pss_cons (ps_while (passes_of rfl) (pt_cmpR (op_neD hr.units) (pv 2) (pe_lst pa_nil) (nomark _))
      (pss_one (ps_expr (pe_bm PySem.F.plainAttrs_list PySem.F.slot_list_append PySem.F.type_list_append mt_append (pv 3) (pa_cons (pe_bm PySem.F.plainAttrs_list PySem.F.slot_list_pop PySem.F.type_list_pop mt_popAt (pv 2) (pa_cons (pe_d D__law_roll (hr.mono (by decide)) (by rfl) (passes_call (takes_of rfl rfl rfl rfl) fun _ _ _ _ z => z) (pa_cons (pv 0) (pa_cons (pe_callB call_len_seq (by rfl) T.n_len (by decide +kernel) (pa_cons (pv 2) pa_nil)) pa_nil))) pa_nil)) pa_nil)))))
    (pss_one (ps_ret (pv 3))))), ?_⟩
  obtain ⟨ai, wi, rfl, nai, hai, hri⟩ := id r_items
  have hz0 : (0 : Nat) ≤ sizeLine := Nat.zero_le _
  refine ⟨_, rfl, ai, wi, rfl, .inl (.of hai), fun L hL => ⟨hz0, fun F hF => ⟨_, _, rfl, ?_⟩⟩⟩
  have hFL : F ≠ L := fun z => by subst z; rw [upd_same] at hF; cases hF
  have hF0 : H F = none := by rw [upd_ne hFL] at hF; exact hF
  have nL := ne_dice d0 hL
  have nF := ne_dice d0 hF0
  have e1 : Xt M H (upd H L (.lst wi)) := .new d0 hL
  have e2 : Xt M H (upd (upd H L (.lst wi)) F (.lst [])) := e1.trans (.new e1.dice hF)
  have lwi : wi.length = x_items.length := all_len hri
  refine ⟨fun m σ H' => ∃ ls fs yl yf, σ = [some v_dice, some (.ref ai), some (.ref L), some (.ref F)] ∧ Xt M H H' ∧ H' L = some (.lst ls) ∧ H' F = some (.lst fs) ∧ All (RT M (All RI)) yl ls H' ∧ All (RT M (All RI)) yf fs H' ∧ (yf ++ yl).Perm x_items ∧ m = yl.length, ⟨_, wi, [], x_items, [], rfl, e2, by rw [upd_ne (fun z => hFL z.symm)]; exact upd_same, upd_same, Mos.up (M := M) (R := All (RT M (All RI))) e2 hri, .nil, by simp, rfl⟩, ?_⟩
  rintro m σ H' ⟨ls, fs, yl, yf, rfl, e, h1, h2, h3, h4, h5, rfl⟩
  have rl : RL M (All (RT M (All RI))) yl (.ref L) H' := ⟨L, ls, rfl, nL, h1, h3⟩
  have hlen : yf.length + yl.length = x_items.length := by have := h5.length_eq; rw [List.length_append] at this; exact this
  refine (et_test (ev_opt (M := M) (x := yl) (y := []) o_neD (ev_var rfl rl) (ev_lst ea_nilA (fun x vs H h b => by rw [all_len h, (show x = [] from b)]; exact Nat.zero_le _)))) H' (.refl e.dice) _ fun c H2 e3 hc => ?_
  replace h1 := e3.keep _ _ nL h1
  replace h2 := e3.keep _ _ nF h2
  replace h3 := Mos.up (M := M) (R := All (RT M (All RI))) e3 h3
  replace h4 := Mos.up (M := M) (R := All (RT M (All RI))) e3 h4
  replace rl := up rl e3
  have ll : ls.length = yl.length := all_len h3
  have lf : fs.length = yf.length := all_len h4
  cases c with
  | true =>
    have hne : yl ≠ [] := by intro z; subst z; exact absurd hc (by simp [Eq1])
    have hpos : 0 < yl.length := List.length_pos_iff.mpr hne
    rw [if_pos rfl]
    refine ⟨fun σ' H3 => ∃ ls fs yl' yf, σ' = [some v_dice, some (.ref ai), some (.ref L), some (.ref F)] ∧ Xt M H H3 ∧ H3 L = some (.lst ls) ∧ H3 F = some (.lst fs) ∧ All (RT M (All RI)) yl' ls H3 ∧ All (RT M (All RI)) yf fs H3 ∧ (yf ++ yl').Perm x_items ∧ yl'.length < yl.length, fun σ' H3 ⟨a, b, c, d, k1, k2, k3, k4, k5, k6, k7, k8⟩ => ⟨c.length, k8, a, b, c, d, k1, k2, k3, k4, k5, k6, k7, rfl⟩, ?_⟩
    refine ⟨_, rfl, .inl ⟨rfl, _, .inl (.inl h2)⟩, ?_⟩
    refine ⟨_, rfl, .inl ⟨rfl, _, .inl (.inl h1)⟩, ?_⟩
    refine (ev_d1 (M := M) (S := fun M => Cons (RD M) (Cons RI Nil)) (R'' := fun _ => RI) (x := (x_dice, (yl.length : Int), ())) (pre := fun p => 0 < p.2.1 ∧ p.2.1 < 1000000000) (f := fun p z => 0 ≤ z ∧ z < p.2.1) (ea_cons1 (ev_var rfl (up (up r_dice e) e3)) (ea_cons1 (ev_cbf (F := fun p => (p.1.length : Int)) (x := (yl, ())) (c_lenL (R := RT M (All RI))) (ea_cons1 (ev_var rfl rl) ea_nil)) ea_nil)) (by show 0 < (yl.length : Int) ∧ (yl.length : Int) < 1000000000; omega)) H2 (.refl e3.dice) _ fun v i H3 e4 hi ri => ?_
    cases (show v = V.int i from ri)
    replace hi : 0 ≤ i ∧ i < (yl.length : Int) := hi
    replace h1 := e4.keep _ _ nL h1
    replace h2 := e4.keep _ _ nF h2
    replace h3 := Mos.up (M := M) (R := All (RT M (All RI))) e4 h3
    replace h4 := Mos.up (M := M) (R := All (RT M (All RI))) e4 h4
    obtain ⟨j, rfl⟩ := Int.eq_ofNat_of_zero_le hi.1
    have hj : j < yl.length := by omega
    have hy : yl[j]? = some yl[j] := by simp [hj]
    obtain ⟨w, hw, rw2⟩ := paired_at (i := j) h3 hy
    refine ⟨L, ls, (j : Int), j, w, rfl, rfl, h1, by omega, by omega, by unfold seqIndex?; dsimp only; rw [if_neg (show ¬ (j : Int) < 0 by omega), if_pos (by simp; omega)]; simp, hw, ?_⟩
    have e5 : Xt M H (upd H3 L (.lst (ls.eraseIdx j))) := Xt.put ((e.trans e3).trans e4) hL nL
    have h2b : (upd H3 L (.lst (ls.eraseIdx j))) F = some (.lst fs) := by rw [upd_ne hFL]; exact h2
    refine ⟨F, fs, w, rfl, rfl, h2b, by rw [lf, sizeLine_eq]; omega, ?_⟩
    have er : ∀ {l : List (List Int)} {ws : List V} {H : Hp} (j : Nat), Paired (fun x v => RT M (All RI) x v H) l ws → Paired (fun x v => RT M (All RI) x v H) (l.eraseIdx j) (ws.eraseIdx j) := fun {l ws H} j h => by
      induction h generalizing j with
      | nil => exact .nil
      | cons h1 h2 ih => cases j with
        | zero => exact h2
        | succ j => exact .cons h1 (ih j)
    have h3' := er j h3
    have k3 : All (RT M (All RI)) (yl.eraseIdx j) (ls.eraseIdx j) (upd H3 L (.lst (ls.eraseIdx j))) := Mls.l (R := All (RT M (All RI))) h1 h3'
    have k4 : All (RT M (All RI)) (yf ++ [yl[j]]) (fs ++ [w]) (upd H3 L (.lst (ls.eraseIdx j))) := Mls.l (R := All (RT M (All RI))) h1 (All.snoc h4 rw2)
    refine ⟨ls.eraseIdx j, fs ++ [w], yl.eraseIdx j, yf ++ [yl[j]], rfl, Xt.put e5 hF0 nF, by rw [upd_ne (fun z => hFL z.symm)]; exact upd_same, upd_same, Mls.l (R := All (RT M (All RI))) h2b k3, Mls.l (R := All (RT M (All RI))) h2b k4, ?_, by rw [List.length_eraseIdx_of_lt hj]; omega⟩
    refine List.Perm.trans ?_ h5
    rw [List.append_assoc]
    refine List.Perm.append_left yf ?_
    show (yl[j] :: yl.eraseIdx j).Perm yl
    exact perm_erase yl j hj
  | false =>
    have hnil : yl = [] := by simpa [Eq1] using hc
    subst hnil
    have rf : RL M (All (RT M (All RI))) yf (.ref F) H2 := ⟨F, fs, rfl, nF, h2, h4⟩
    refine q_ret e3.dice (ev_var rfl rf) fun v z H3 e4 hz rz => ?_
    exact k v z H3 ((e.trans e3).trans e4) (by show z.Perm x_items; rw [(show z = yf from hz)]; simpa using h5) rz
end T18

namespace T18
open PySem PySem.Spec PyProof.Rows L2 GB GE T17
local macro_rules | `(tactic| wtm_at "pre") => `(tactic| first | with_reducible exact True.intro | ((try dsimp only); first | with_reducible exact True.intro | with_reducible assumption | omega | (exact Or.inl ⟨by omega, by omega⟩) | (exact Or.inr ⟨by omega, by omega⟩) | exact ⟨by omega, by omega⟩ | exact ⟨by omega, by omega, by omega⟩ | decide +kernel | (simp_all; done) | (simp_all; omega)))
local macro_rules | `(tactic| wtm_at "len") => `(tactic| first | exact len1 (by decide) | exact len2 (by decide) | exact len2 (by simp))
local macro_rules | `(tactic| wtm_at "fin") => `(tactic| first | rfl | (simp [see, finer, isInt, rng_len, Prod.ext_iff, nextA]; done) | (simp [see, finer, isInt, rng_len, Prod.ext_iff, nextA]; omega) | (simp only [see, finer]; split <;> first | rfl | omega) | (dsimp only; rw [List.filter_eq_self.2 (fun _ _ => rfl)]; done) | (dsimp only; rw [List.filter_eq_self.2 (fun _ _ => rfl)]; exact zip_map) | (dsimp only; rw [List.filter_eq_self.2 (fun _ _ => rfl)]; refine List.map_congr_left fun y _ => ?_; simp [see]; done) | (simp [see, finer, isInt, rng_len, Prod.ext_iff, nextA] <;> omega))
local macro_rules | `(tactic| wtm_at "nev") => `(tactic| first | (simp_all [Eq1]; done) | (simp_all [Eq1, isInt]; done) | (simp [Eq1, isInt] at *; omega))
abbrev s__law_raised : Stmt := top 39
def N__law_raised : List Str := ["dice", "clerk", "row", "found", "count", "later", "turn"]
theorem sc__law_raised : FnScope N__law_raised ["dice", "clerk", "row"] (defScope s__law_raised) := ⟨rfl, rfl, rfl, by decide +kernel, rfl, by decide +kernel, by decide +kernel⟩
abbrev sp__law_raised (N : En) : Sp := FnM (fun M => (Cons (RD M) (Cons (R_Clerk N M) (Cons (RT M (All RI)) Nil)))) (fun M => (RT M (All RI))) (fun (x_dice, x_clerk, x_row, _) => x_row.length < 1000 ∧ ∀ c ∈ x_row, 0 ≤ c) (fun (x_dice, x_clerk, x_row, _) z => good x_row.length z ∧ z.map (see x_clerk) = x_row.map (see x_clerk))
theorem ok__law_raised {N : En} (T : Txt N) (F : FunP N "_law_raised" s__law_raised) (D__law_roll : Dn N 1 "_law_roll" (sp__law_roll N)) (D_Clerk_next_alike : Dm N 3 "Clerk" "next_alike" (sp_Clerk_next_alike N)) : Dn N 4 "_law_raised" (sp__law_raised N) := by
  refine dn_mk F sc__law_raised (fun _ _ _ _ _ _ us hl => match us, hl with | [_, _, _], _ => rfl) (fun vs H Q E h => by obtain ⟨_, _, _, ⟨_, _, rfl, _, _, _, rfl, _, _, _, rfl, _, rfl⟩, _⟩ := h; rfl) ?_
  rintro cdv A outer s H vs Q E hr ⟨M, ⟨x_dice, x_clerk, x_row, ⟨⟩⟩, d0, ⟨v_dice, _, rfl, r_dice, v_clerk, _, rfl, r_clerk, v_row, _, rfl, r_row, rfl⟩, hp, k⟩
  replace r_dice : (RD M) x_dice v_dice H := r_dice
  replace r_clerk : (R_Clerk N M) x_clerk v_clerk H := r_clerk
  replace r_row : (RT M (All RI)) x_row v_row H := r_row
  try dsimp only at hp
  have w_clerk := clerk_ok r_clerk
  refine ⟨_, (pss_cons (ps_set (i := 3) sc__law_raised.nd rfl (by first | exact Or.inl rfl | exact Or.inr rfl) (pe_lst pa_nil))
    (pss_cons (ps_for (passes_of rfl) rfl (pi_tup (pv 2)) (pg_name (i := 4) sc__law_raised.nd rfl (by first | exact Or.inl rfl | exact Or.inr rfl))
      (pss_cons (ps_set (i := 5) sc__law_raised.nd rfl (by first | exact Or.inl rfl | exact Or.inr rfl) (pv 4))
    (pss_cons (ps_for (passes_of rfl) rfl (pi_range1 (by rfl) T.n_range (pa_cons (pe_d D__law_roll (hr.mono (by decide)) (by rfl) (passes_call (takes_of rfl rfl rfl rfl) fun _ _ _ _ z => z) (pa_cons (pv 0) (pa_cons pe_int pa_nil))) pa_nil)) (pg_name (i := 6) sc__law_raised.nd rfl (by first | exact Or.inl rfl | exact Or.inr rfl))
      (pss_one (ps_set (i := 5) sc__law_raised.nd rfl (by first | exact Or.inl rfl | exact Or.inr rfl) (pe_ifExp (pt_cmpR op_isN (pe_m (pv 1) D_Clerk_next_alike (hr.mono (by decide)) (passes_call (takes_of rfl rfl rfl rfl) fun _ _ _ _ z => z) (pa_cons (pv 5) pa_nil)) pe_non (nomark _)) (pv 5) (pe_m (pv 1) D_Clerk_next_alike (hr.mono (by decide)) (passes_call (takes_of rfl rfl rfl rfl) fun _ _ _ _ z => z) (pa_cons (pv 5) pa_nil))))))
    (pss_one (ps_expr (pe_bm PySem.F.plainAttrs_list PySem.F.slot_list_append PySem.F.type_list_append mt_append (pv 3) (pa_cons (pv 5) pa_nil)))))))
    (pss_one (ps_ret (pe_callTy call_tuple_of (by rfl) T.n_tuple (by decide +kernel) (pa_cons (pv 3) pa_nil)))))), ?_⟩
  have hoc : okC x_clerk := w_clerk
  refine q_nil fun F hF => ?_
  have nF := ne_dice d0 hF
  have e1 : Xt M H (upd H F (.lst [])) := .new d0 hF
  refine q_seqT0 (M := M) (H0 := H) (R := RI) (fun Q q => ⟨_, rfl, q⟩) r_row e1 (fun i σ' H' => ∃ (o_count : Option V) (o_later : Option V) (o_turn : Option V), σ' = [some v_dice, some v_clerk, some v_row, some (.ref F), o_count, o_later, o_turn] ∧ Acc M RI H F (fun l => good i l ∧ l.map (see x_clerk) = (x_row.take i).map (see x_clerk)) H') ⟨_, _, _, rfl, Acc.start d0 hF ⟨⟨rfl, fun _ h => by cases h⟩, rfl⟩⟩ (fun i σ' H' p => by obtain ⟨_, _, _, _, a⟩ := p; exact a.ext) (fun i v_count x_count σ' H2 hx r_count hI => ?_) (fun σ' H2 hI => ?_)
  · obtain ⟨o_count, o_later, o_turn, rfl, acc⟩ := hI
    have hc0 : 0 ≤ x_count := hp.2 x_count (List.mem_of_getElem? hx)
    have hil : i < x_row.length := (List.getElem?_eq_some_iff.mp hx).1
    have e2 := acc.ext
    refine q_set e2.dice (ev_var rfl r_count) fun v_later x_later H3 e3 h_later r_later => ?_
    replace h_later : x_later = x_count := h_later
    refine q_forN (A := fun n => 0 ≤ n ∧ n < 4) e3.dice ((ea_one (x := (0 : Int)) (ev_d1 (S := fun M => Cons (RD M) (Cons RI Nil)) (R'' := fun _ => RI) (x := (x_dice, 4, ())) (pre := fun p => 0 < p.2.1 ∧ p.2.1 < 1000000000) (f := fun p z => 0 ≤ z ∧ z < p.2.1) (ea_cons1 (ev_var rfl (up (up r_dice e2) e3)) (ea_cons1 ev_int ea_nil)) (by show (0 : Int) < 4 ∧ (4 : Int) < 1000000000; omega))).imp fun q h => h) (fun n h => by omega) (fun i σ' H' => ∃ (v_later : V) (o_turn : Option V) (x_later : Int), σ' = [some v_dice, some v_clerk, some v_row, some (.ref F), some v_count, some v_later, o_turn] ∧ Xt M H3 H' ∧ RI x_later v_later H' ∧ (0 ≤ x_later ∧ see x_clerk x_later = see x_clerk x_count)) (fun H' e0' => ⟨_, _, _, rfl, e0', up r_later e0', by rw [h_later]; exact ⟨hc0, rfl⟩⟩) (fun n hn x_turn σ' H4 hi0 hi1 hI => ?_) (fun n hn σ' H4 hI => ?_)
    · obtain ⟨v_later, o_turn, x_later, rfl, e4', r_later, hI⟩ := hI
      have r_clerk4 := up (up (up r_clerk e2) e3) e4'
      refine ev_set e4'.dice (ev_ifE (R := RI) (x := x_later) (y := x_later + x_clerk.2) (et_test (ev_opt o_isN (ev_mef lkm_Clerk_next_alike (ev_var rfl r_clerk4) (ea_cons1 (ev_var rfl r_later) ea_nil) hI.1) ev_non)) (fun _ => (ev_var rfl r_later)) (fun h => ev_unopt (ev_mef lkm_Clerk_next_alike (ev_var rfl r_clerk4) (ea_cons1 (ev_var rfl r_later) ea_nil) hI.1) (by
        replace h : (nextA x_clerk x_later).isNone = false := h
        show nextA x_clerk x_later = some (x_later + x_clerk.2)
        unfold nextA at h ⊢
        split
        · rename_i q; rw [if_pos q] at h; cases h
        · rfl))) fun v_later2 x_later2 H5 e5 h_later2 r_later2 => ?_
      replace h_later2 : x_later2 = if (nextA x_clerk x_later).isNone = true then x_later else x_later + x_clerk.2 := h_later2
      refine ⟨_, _, _, rfl, e4'.trans e5, r_later2, ?_⟩
      rw [h_later2]
      unfold nextA
      by_cases q : x_later < x_clerk.1
      · rw [if_pos q]; exact hI
      · rw [if_neg q]
        show 0 ≤ x_later + x_clerk.2 ∧ see x_clerk (x_later + x_clerk.2) = see x_clerk x_count
        rw [see_next hoc q]
        exact ⟨by have := hI.1; have := hoc.2; omega, hI.2⟩
    · obtain ⟨v_later, o_turn, x_later, rfl, e4', r_later, hI⟩ := hI
      have acc4 := acc.xt (e3.trans e4')
      refine Acc.append (M := M) (R' := RI) (B := Eq1 x_later) acc4 (fun _ _ q => ⟨_, rfl, q⟩) (fun l hl => by rw [hl.1.1]; omega) (fun H1 e1 => ev_var rfl (show RI x_later v_later H1 from r_later)) fun H' y e5 hy acc5 => ?_
      cases (show y = x_later from hy)
      obtain ⟨hf, nd, e6, vs, ys, h1, h2, l0, h3, h4⟩ := acc5
      refine ⟨_, _, _, rfl, hf, nd, e6, vs, ys, h1, h2, ?_⟩
      subst h4
      refine ⟨⟨by rw [List.length_append, h3.1.1]; rfl, fun c hc => ?_⟩, ?_⟩
      · rcases List.mem_append.mp hc with m | m
        · exact h3.1.2 c m
        · rw [List.mem_singleton.mp m]; exact hI.1
      · rw [List.map_append, h3.2, List.take_add_one, hx, Option.toList_some, List.map_append]
        show _ ++ [see x_clerk x_later] = _
        rw [hI.2]; rfl
  · obtain ⟨o_count, o_later, o_turn, rfl, acc⟩ := hI
    obtain ⟨hf, nd, e6, vs, ys, h1, h2, h3⟩ := acc
    have rf : RL M (All RI) ys (.ref F) H2 := ⟨F, vs, rfl, nd, h1, h2⟩
    refine q_ret e6.dice (ev_cbf c_tupL (ea_cons1 (ev_var rfl rf) ea_nil)) fun v z H3 e3 hz rz => ?_
    exact k v z H3 (e6.trans e3) (by
      rw [show z = ys from hz]
      rw [List.take_length] at h3
      exact h3) rz
end T18

namespace T18
open PySem PySem.Spec PyProof.Rows L2 GB GE T17
local macro_rules | `(tactic| wtm_at "pre") => `(tactic| first | with_reducible exact True.intro | ((try dsimp only); first | with_reducible exact True.intro | with_reducible assumption | omega | (exact Or.inl ⟨by omega, by omega⟩) | (exact Or.inr ⟨by omega, by omega⟩) | exact ⟨by omega, by omega⟩ | exact ⟨by omega, by omega, by omega⟩ | decide +kernel | (simp_all; done) | (simp_all; omega)))
local macro_rules | `(tactic| wtm_at "len") => `(tactic| first | exact len1 (by decide) | exact len2 (by decide) | exact len2 (by simp))
local macro_rules | `(tactic| wtm_at "fin") => `(tactic| first | rfl | (simp [see, finer, isInt, rng_len, Prod.ext_iff, nextA]; done) | (simp [see, finer, isInt, rng_len, Prod.ext_iff, nextA]; omega) | (simp only [see, finer]; split <;> first | rfl | omega) | (dsimp only; rw [List.filter_eq_self.2 (fun _ _ => rfl)]; done) | (dsimp only; rw [List.filter_eq_self.2 (fun _ _ => rfl)]; exact zip_map) | (dsimp only; rw [List.filter_eq_self.2 (fun _ _ => rfl)]; refine List.map_congr_left fun y _ => ?_; simp [see]; done) | (simp [see, finer, isInt, rng_len, Prod.ext_iff, nextA] <;> omega))
local macro_rules | `(tactic| wtm_at "nev") => `(tactic| first | (simp_all [Eq1]; done) | (simp_all [Eq1, isInt]; done) | (simp [Eq1, isInt] at *; omega))
abbrev s__law_is_same : Stmt := top 31
def N__law_is_same : List Str := ["told", "due", "one", "other"]
theorem sc__law_is_same : FnScope N__law_is_same ["told", "due"] (defScope s__law_is_same) := ⟨rfl, rfl, rfl, by decide +kernel, rfl, by decide +kernel, by decide +kernel⟩
abbrev sp__law_is_same0 (N : En) : Sp := FnF (fun M => (Cons RI (Cons RI Nil))) (fun M => RB) (fun (x_told, x_due, _) => True) (fun (x_told, x_due, _) => decide (x_told = x_due))
theorem ok__law_is_same0 {N : En} (T : Txt N) (F : FunP N "_law_is_same" s__law_is_same)  : Dn N 1 "_law_is_same" (sp__law_is_same0 N) := by
  refine dn_mk F sc__law_is_same (fun _ _ _ _ _ _ us hl => match us, hl with | [_, _], _ => rfl) (fun vs H Q E h => by obtain ⟨_, _, _, ⟨_, _, rfl, _, _, _, rfl, _, rfl⟩, _⟩ := h; rfl) ?_
  rintro cdv A outer s H vs Q E hr ⟨M, ⟨x_told, x_due, ⟨⟩⟩, d0, ⟨v_told, _, rfl, r_told, v_due, _, rfl, r_due, rfl⟩, hp, k⟩
  replace r_told : RI x_told v_told H := r_told
  replace r_due : RI x_due v_due H := r_due
  try dsimp only at hp
  refine ⟨_, (pss_cons (ps_if (pt_val (pe_callB call_isi (by rfl) T.n_isinstance (by decide +kernel) (pa_cons (pv 1) (pa_cons (pe_bltn (v := .ty "dict") (by rfl) T.n_dict (by decide +kernel) rfl) pa_nil))))
      (pss_one ps_never) pss_nil)
    (pss_cons (ps_if (pt_val (pe_callB call_isiT (by rfl) T.n_isinstance (by decide +kernel) (pa_cons (pv 1) (pa_cons (pe_tup (pa_cons (pe_bltn (v := .ty "tuple") (by rfl) T.n_tuple (by decide +kernel) rfl) (pa_cons (pe_bltn (v := .ty "list") (by rfl) T.n_list (by decide +kernel) rfl) pa_nil))) pa_nil))))
      (pss_cons ps_never
    (pss_one ps_never)) pss_nil)
    (pss_cons (ps_if (pt_cmpR op_isN (pv 1) pe_non (nomark _))
      (pss_one ps_never) pss_nil)
    (pss_cons (ps_if (pt_val (pe_callB call_isi (by rfl) T.n_isinstance (by decide +kernel) (pa_cons (pv 1) (pa_cons (pe_bltn (v := .ty "bool") (by rfl) T.n_bool (by decide +kernel) rfl) pa_nil))))
      (pss_one ps_never) pss_nil)
    (pss_cons (ps_if (pt_val (pe_callB call_isi (by rfl) T.n_isinstance (by decide +kernel) (pa_cons (pv 1) (pa_cons (pe_bltn (v := .ty "str") (by rfl) T.n_str (by decide +kernel) rfl) pa_nil))))
      (pss_one ps_never) pss_nil)
    (pss_one (ps_ret (pe_and (pe_callB call_isi (by rfl) T.n_isinstance (by decide +kernel) (pa_cons (pv 0) (pa_cons (pe_bltn (v := .ty "int") (by rfl) T.n_int (by decide +kernel) rfl) pa_nil))) (pe_and (pe_not (pe_callB call_isi (by rfl) T.n_isinstance (by decide +kernel) (pa_cons (pv 0) (pa_cons (pe_bltn (v := .ty "bool") (by rfl) T.n_bool (by decide +kernel) rfl) pa_nil)))) (pe_one (pe_cmpR op_eq (pv 0) (pv 1) (nomark _)))))))))))), ?_⟩
  refine q_ifS0 d0 (et_val (ev_cb1 (f := fun _ z => z = false) (c_isi (R := RI) (ClsV.ty _) T.kt_int_dict (fun _ _ _ => ty_int)) (ea_cons1 (ev_var rfl r_due) (ea_cons1 ev_cls ea_nil)) rfl)) (fun H1 e1 hb => ?_) (fun H1 e1 hb => ?_)
  · exact absurd hb (by wtm_at "nev")
  · simp [Eq1] at hb
    have d1 := e1.dice; replace r_told := up r_told e1; replace r_due := up r_due e1
    refine q_ifS0 d1 (et_val (ev_isiT (R := RI) (b := false) (.cons (.ty _) (.cons (.ty _) .nil)) T.kt_int_tuplelist (fun _ _ _ => ty_int) (ev_var rfl r_due) (ea_consA ev_cls (ea_consA ev_cls ea_nilA)))) (fun H2 e2 hb => ?_) (fun H2 e2 hb => ?_)
    · exact absurd hb (by wtm_at "nev")
    · simp [Eq1] at hb
      have d2 := e2.dice; replace r_told := up r_told e2; replace r_due := up r_due e2
      refine q_ifS0 d2 (et_test (ev_opt o_isNI (ev_var rfl r_due) ev_non)) (fun H3 e3 hb => ?_) (fun H3 e3 hb => ?_)
      · exact absurd hb (by wtm_at "nev")
      · simp [Eq1] at hb
        have d3 := e3.dice; replace r_told := up r_told e3; replace r_due := up r_due e3
        refine q_ifS0 d3 (et_val (ev_cb1 (f := fun _ z => z = false) (c_isi (R := RI) (ClsV.ty _) T.kt_int_bool (fun _ _ _ => ty_int)) (ea_cons1 (ev_var rfl r_due) (ea_cons1 ev_cls ea_nil)) rfl)) (fun H4 e4 hb => ?_) (fun H4 e4 hb => ?_)
        · exact absurd hb (by wtm_at "nev")
        · simp [Eq1] at hb
          have d4 := e4.dice; replace r_told := up r_told e4; replace r_due := up r_due e4
          refine q_ifS0 d4 (et_val (ev_cb1 (f := fun _ z => z = false) (c_isi (R := RI) (ClsV.ty _) T.kt_int_str (fun _ _ _ => ty_int)) (ea_cons1 (ev_var rfl r_due) (ea_cons1 ev_cls ea_nil)) rfl)) (fun H5 e5 hb => ?_) (fun H5 e5 hb => ?_)
          · exact absurd hb (by wtm_at "nev")
          · simp [Eq1] at hb
            have d5 := e5.dice; replace r_told := up r_told e5; replace r_due := up r_due e5
            refine q_ret d5 (ev_and (ev_cb1 (f := fun _ z => z = true) (c_isi (R := RI) (ClsV.ty _) (by rfl) (fun _ _ _ => ty_int)) (ea_cons1 (ev_var rfl r_told) (ea_cons1 ev_cls ea_nil)) rfl) (fun _ => (ev_and (ev_notV (ev_cb1 (f := fun _ z => z = false) (c_isi (R := RI) (ClsV.ty _) T.kt_int_bool (fun _ _ _ => ty_int)) (ea_cons1 (ev_var rfl r_told) (ea_cons1 ev_cls ea_nil)) rfl)) (fun _ => (ev_opt o_eq (ev_var rfl r_told) (ev_var rfl r_due)))))) fun v z H6 e6 hz rz => ?_
            exact k v z H6 (((((e1.trans e2).trans e3).trans e4).trans e5).trans e6) (by first | exact hz | (refine Eq.trans hz ?_; wtm_at "fin")) rz
abbrev sp__law_is_same1 (N : En) : Sp := FnF (fun M => (Cons (RT M (All RI)) (Cons (RT M (All RI)) Nil))) (fun M => RB) (fun (x_told, x_due, _) => x_told.length < 1000) (fun (x_told, x_due, _) => decide (x_told = x_due))
theorem ok__law_is_same1 {N : En} (T : Txt N) (F : FunP N "_law_is_same" s__law_is_same) (D__law_is_same : Dn N 1 "_law_is_same" (sp__law_is_same0 N)) : Dn N 2 "_law_is_same" (sp__law_is_same1 N) := by
  refine dn_mk F sc__law_is_same (fun _ _ _ _ _ _ us hl => match us, hl with | [_, _], _ => rfl) (fun vs H Q E h => by obtain ⟨_, _, _, ⟨_, _, rfl, _, _, _, rfl, _, rfl⟩, _⟩ := h; rfl) ?_
  rintro cdv A outer s H vs Q E hr ⟨M, ⟨x_told, x_due, ⟨⟩⟩, d0, ⟨v_told, _, rfl, r_told, v_due, _, rfl, r_due, rfl⟩, hp, k⟩
  replace r_told : (RT M (All RI)) x_told v_told H := r_told
  replace r_due : (RT M (All RI)) x_due v_due H := r_due
  try dsimp only at hp
  refine ⟨_, (pss_cons (ps_if (pt_val (pe_callB call_isi (by rfl) T.n_isinstance (by decide +kernel) (pa_cons (pv 1) (pa_cons (pe_bltn (v := .ty "dict") (by rfl) T.n_dict (by decide +kernel) rfl) pa_nil))))
      (pss_one ps_never) pss_nil)
    (pss_cons (ps_if (pt_val (pe_callB call_isiT (by rfl) T.n_isinstance (by decide +kernel) (pa_cons (pv 1) (pa_cons (pe_tup (pa_cons (pe_bltn (v := .ty "tuple") (by rfl) T.n_tuple (by decide +kernel) rfl) (pa_cons (pe_bltn (v := .ty "list") (by rfl) T.n_list (by decide +kernel) rfl) pa_nil))) pa_nil))))
      (pss_cons (ps_if (PW.pt (pw_or (pt_not (pt_val (pe_callB call_isiT (by rfl) T.n_isinstance (by decide +kernel) (pa_cons (pv 0) (pa_cons (pe_tup (pa_cons (pe_bltn (v := .ty "tuple") (by rfl) T.n_tuple (by decide +kernel) rfl) (pa_cons (pe_bltn (v := .ty "list") (by rfl) T.n_list (by decide +kernel) rfl) pa_nil))) pa_nil))))) (pw_or1 (pt_cmpR op_ne (pe_callB call_isi (by rfl) T.n_isinstance (by decide +kernel) (pa_cons (pv 0) (pa_cons (pe_bltn (v := .ty "tuple") (by rfl) T.n_tuple (by decide +kernel) rfl) pa_nil))) (pe_callB call_isi (by rfl) T.n_isinstance (by decide +kernel) (pa_cons (pv 1) (pa_cons (pe_bltn (v := .ty "tuple") (by rfl) T.n_tuple (by decide +kernel) rfl) pa_nil))) (nomark _)))))
      (pss_one (ps_ret pe_bl)) pss_nil)
    (pss_one (ps_ret (pe_and (pe_cmpR op_eq (pe_callB call_len_seq (by rfl) T.n_len (by decide +kernel) (pa_cons (pv 0) pa_nil)) (pe_callB call_len_seq (by rfl) T.n_len (by decide +kernel) (pa_cons (pv 1) pa_nil)) (nomark _)) (pe_one (pe_cmpR (op_eqD hr.units) (pe_lc (own := [("one", 2), ("other", 3)]) rfl sc__law_is_same.nd (RZ.pi_zipA (by rfl) T.n_zip (pa_cons (pv 0) (pa_cons (pv 1) pa_nil))) (blkOk_by (own := [("one", 2), ("other", 3)]) (N := N__law_is_same) (sc := defScope s__law_is_same) (by decide +kernel)) (fun _ _ _ _ _ => (pg_tupK N.K (by rfl) (n := 2) rfl (pgs_cons (pg_name (i := 2) sc__law_is_same.nd rfl (by first | exact Or.inl rfl | exact Or.inr rfl)) (pgs_cons (pg_name (i := 3) sc__law_is_same.nd rfl (by first | exact Or.inl rfl | exact Or.inr rfl)) pgs_nil)))) (fun _ _ _ _ _ => (pts_one (pt_not (pt_val (pe_d D__law_is_same (hr.mono (by decide)) (by rfl) px0 (pa_cons (pv 2) (pa_cons (pv 3) pa_nil))))))) (fun _ _ _ _ _ => pe_int)) (pe_lst pa_nil) (nomark _))))))) pss_nil)
    (pss_cons ps_never
    (pss_cons ps_never
    (pss_cons ps_never
    (pss_one ps_never)))))), ?_⟩
  refine q_ifS0 d0 (et_val (ev_cb1 (f := fun _ z => z = false) (c_isi (R := (RT M (All RI))) (ClsV.ty _) T.kt_tuple_dict (fun _ _ _ => ty_tup)) (ea_cons1 (ev_var rfl r_due) (ea_cons1 ev_cls ea_nil)) rfl)) (fun H1 e1 hb => ?_) (fun H1 e1 hb => ?_)
  · exact absurd hb (by wtm_at "nev")
  · simp [Eq1] at hb
    have d1 := e1.dice; replace r_told := up r_told e1; replace r_due := up r_due e1
    refine q_ifS0 d1 (et_val (ev_isiT (R := (RT M (All RI))) (b := true) (.cons (.ty _) (.cons (.ty _) .nil)) T.kt_tuple_tuplelist (fun _ _ _ => ty_tup) (ev_var rfl r_due) (ea_consA ev_cls (ea_consA ev_cls ea_nilA)))) (fun H2 e2 hb => ?_) (fun H2 e2 hb => ?_)
    · simp [Eq1] at hb
      have d2 := e2.dice; replace r_told := up r_told e2; replace r_due := up r_due e2
      refine q_ifS0 d2 (et_or (et_not (et_val (ev_isiT (R := (RT M (All RI))) (b := true) (.cons (.ty _) (.cons (.ty _) .nil)) T.kt_tuple_tuplelist (fun _ _ _ => ty_tup) (ev_var rfl r_told) (ea_consA ev_cls (ea_consA ev_cls ea_nilA))))) (fun _ => (et_test (ev_opt o_neB (ev_cb1 (f := fun _ z => z = true) (c_isi (R := (RT M (All RI))) (ClsV.ty _) (by rfl) (fun _ _ _ => ty_tup)) (ea_cons1 (ev_var rfl r_told) (ea_cons1 ev_cls ea_nil)) rfl) (ev_cb1 (f := fun _ z => z = true) (c_isi (R := (RT M (All RI))) (ClsV.ty _) (by rfl) (fun _ _ _ => ty_tup)) (ea_cons1 (ev_var rfl r_due) (ea_cons1 ev_cls ea_nil)) rfl))))) (fun H3 e3 hb => ?_) (fun H3 e3 hb => ?_)
      · exact absurd hb (by simp [Eq1])
      · simp [Eq1] at hb
        have d3 := e3.dice; replace r_told := up r_told e3; replace r_due := up r_due e3
        refine q_ret d3 (ev_and (ev_opt o_eq (ev_cbf c_lenT (ea_cons1 (ev_var rfl r_told) ea_nil)) (ev_cbf c_lenT (ea_cons1 (ev_var rfl r_due) ea_nil))) (fun _ => (ev_opt o_eqD ((ev_lcZT (fun v u => ((wipe _ [2, 3]).set 2 (some v)).set 3 (some u)) (ea_cons1 (ev_var rfl r_told) (ea_cons1 (ev_var rfl r_due) ea_nil)) (by wtm_at "pre") (fun _ _ _ _ _ h q => ⟨_, _, rfl, h, rfl, _, _, rfl, _, _, rfl, rfl, q⟩) (fun _ _ => rfl) (fun H' q1 v1 u1 y1 z1 m1 s1a s1b => (et_not (et_val (ev_df (ea_cons1 (ev_var rfl s1a) (ea_cons1 (ev_var rfl s1b) ea_nil)) (by wtm_at "pre"))))) (fun H' q1 v1 u1 y1 z1 m1 s1a s1b _ => ev_int)).imp fun _ c => c.det) (ev_lst ea_nilA (by wtm_at "len"))))) fun v z H4 e4 hz rz => ?_
        exact k v z H4 (((e1.trans e2).trans e3).trans e4) (by refine Eq.trans hz ?_; exact same_bool) rz
    · exact absurd hb (by wtm_at "nev")
abbrev sp__law_is_same2 (N : En) : Sp := FnF (fun M => (Cons (RL M (All (RT M (All RI)))) (Cons (RL M (All (RT M (All RI)))) Nil))) (fun M => RB) (fun (x_told, x_due, _) => x_told.length < 1000 ∧ ∀ r ∈ x_told, r.length < 1000) (fun (x_told, x_due, _) => decide (x_told = x_due))
theorem ok__law_is_same2 {N : En} (T : Txt N) (F : FunP N "_law_is_same" s__law_is_same) (D__law_is_same : Dn N 2 "_law_is_same" (sp__law_is_same1 N)) : Dn N 3 "_law_is_same" (sp__law_is_same2 N) := by
  refine dn_mk F sc__law_is_same (fun _ _ _ _ _ _ us hl => match us, hl with | [_, _], _ => rfl) (fun vs H Q E h => by obtain ⟨_, _, _, ⟨_, _, rfl, _, _, _, rfl, _, rfl⟩, _⟩ := h; rfl) ?_
  rintro cdv A outer s H vs Q E hr ⟨M, ⟨x_told, x_due, ⟨⟩⟩, d0, ⟨v_told, _, rfl, r_told, v_due, _, rfl, r_due, rfl⟩, hp, k⟩
  replace r_told : (RL M (All (RT M (All RI)))) x_told v_told H := r_told
  replace r_due : (RL M (All (RT M (All RI)))) x_due v_due H := r_due
  try dsimp only at hp
  refine ⟨_, (pss_cons (ps_if (pt_val (pe_callB call_isi (by rfl) T.n_isinstance (by decide +kernel) (pa_cons (pv 1) (pa_cons (pe_bltn (v := .ty "dict") (by rfl) T.n_dict (by decide +kernel) rfl) pa_nil))))
      (pss_one ps_never) pss_nil)
    (pss_cons (ps_if (pt_val (pe_callB call_isiT (by rfl) T.n_isinstance (by decide +kernel) (pa_cons (pv 1) (pa_cons (pe_tup (pa_cons (pe_bltn (v := .ty "tuple") (by rfl) T.n_tuple (by decide +kernel) rfl) (pa_cons (pe_bltn (v := .ty "list") (by rfl) T.n_list (by decide +kernel) rfl) pa_nil))) pa_nil))))
      (pss_cons (ps_if (PW.pt (pw_or (pt_not (pt_val (pe_callB call_isiT (by rfl) T.n_isinstance (by decide +kernel) (pa_cons (pv 0) (pa_cons (pe_tup (pa_cons (pe_bltn (v := .ty "tuple") (by rfl) T.n_tuple (by decide +kernel) rfl) (pa_cons (pe_bltn (v := .ty "list") (by rfl) T.n_list (by decide +kernel) rfl) pa_nil))) pa_nil))))) (pw_or1 (pt_cmpR op_ne (pe_callB call_isi (by rfl) T.n_isinstance (by decide +kernel) (pa_cons (pv 0) (pa_cons (pe_bltn (v := .ty "tuple") (by rfl) T.n_tuple (by decide +kernel) rfl) pa_nil))) (pe_callB call_isi (by rfl) T.n_isinstance (by decide +kernel) (pa_cons (pv 1) (pa_cons (pe_bltn (v := .ty "tuple") (by rfl) T.n_tuple (by decide +kernel) rfl) pa_nil))) (nomark _)))))
      (pss_one (ps_ret pe_bl)) pss_nil)
    (pss_one (ps_ret (pe_and (pe_cmpR op_eq (pe_callB call_len_seq (by rfl) T.n_len (by decide +kernel) (pa_cons (pv 0) pa_nil)) (pe_callB call_len_seq (by rfl) T.n_len (by decide +kernel) (pa_cons (pv 1) pa_nil)) (nomark _)) (pe_one (pe_cmpR (op_eqD hr.units) (pe_lc (own := [("one", 2), ("other", 3)]) rfl sc__law_is_same.nd (RZ.pi_zipA (by rfl) T.n_zip (pa_cons (pv 0) (pa_cons (pv 1) pa_nil))) (blkOk_by (own := [("one", 2), ("other", 3)]) (N := N__law_is_same) (sc := defScope s__law_is_same) (by decide +kernel)) (fun _ _ _ _ _ => (pg_tupK N.K (by rfl) (n := 2) rfl (pgs_cons (pg_name (i := 2) sc__law_is_same.nd rfl (by first | exact Or.inl rfl | exact Or.inr rfl)) (pgs_cons (pg_name (i := 3) sc__law_is_same.nd rfl (by first | exact Or.inl rfl | exact Or.inr rfl)) pgs_nil)))) (fun _ _ _ _ _ => (pts_one (pt_not (pt_val (pe_d D__law_is_same (hr.mono (by decide)) (by rfl) px0 (pa_cons (pv 2) (pa_cons (pv 3) pa_nil))))))) (fun _ _ _ _ _ => pe_int)) (pe_lst pa_nil) (nomark _))))))) pss_nil)
    (pss_cons ps_never
    (pss_cons ps_never
    (pss_cons ps_never
    (pss_one ps_never)))))), ?_⟩
  refine q_ifS0 d0 (et_val (ev_cb1 (f := fun _ z => z = false) (c_isi (R := (RL M (All (RT M (All RI))))) (ClsV.ty _) T.kt_list_dict (fun _ _ _ => ty_lst)) (ea_cons1 (ev_var rfl r_due) (ea_cons1 ev_cls ea_nil)) rfl)) (fun H1 e1 hb => ?_) (fun H1 e1 hb => ?_)
  · exact absurd hb (by wtm_at "nev")
  · simp [Eq1] at hb
    have d1 := e1.dice; replace r_told := up r_told e1; replace r_due := up r_due e1
    refine q_ifS0 d1 (et_val (ev_isiT (R := (RL M (All (RT M (All RI))))) (b := true) (.cons (.ty _) (.cons (.ty _) .nil)) T.kt_list_tuplelist (fun _ _ _ => ty_lst) (ev_var rfl r_due) (ea_consA ev_cls (ea_consA ev_cls ea_nilA)))) (fun H2 e2 hb => ?_) (fun H2 e2 hb => ?_)
    · simp [Eq1] at hb
      have d2 := e2.dice; replace r_told := up r_told e2; replace r_due := up r_due e2
      refine q_ifS0 d2 (et_or (et_not (et_val (ev_isiT (R := (RL M (All (RT M (All RI))))) (b := true) (.cons (.ty _) (.cons (.ty _) .nil)) T.kt_list_tuplelist (fun _ _ _ => ty_lst) (ev_var rfl r_told) (ea_consA ev_cls (ea_consA ev_cls ea_nilA))))) (fun _ => (et_test (ev_opt o_neB (ev_cb1 (f := fun _ z => z = false) (c_isi (R := (RL M (All (RT M (All RI))))) (ClsV.ty _) T.kt_list_tuple (fun _ _ _ => ty_lst)) (ea_cons1 (ev_var rfl r_told) (ea_cons1 ev_cls ea_nil)) rfl) (ev_cb1 (f := fun _ z => z = false) (c_isi (R := (RL M (All (RT M (All RI))))) (ClsV.ty _) T.kt_list_tuple (fun _ _ _ => ty_lst)) (ea_cons1 (ev_var rfl r_due) (ea_cons1 ev_cls ea_nil)) rfl))))) (fun H3 e3 hb => ?_) (fun H3 e3 hb => ?_)
      · exact absurd hb (by simp [Eq1])
      · simp [Eq1] at hb
        have d3 := e3.dice; replace r_told := up r_told e3; replace r_due := up r_due e3
        refine q_ret d3 (ev_and (ev_opt o_eq (ev_cbf c_lenL (ea_cons1 (ev_var rfl r_told) ea_nil)) (ev_cbf c_lenL (ea_cons1 (ev_var rfl r_due) ea_nil))) (fun _ => (ev_opt o_eqD ((ev_lcZL (fun v u => ((wipe _ [2, 3]).set 2 (some v)).set 3 (some u)) (ea_cons1 (ev_var rfl r_told) (ea_cons1 (ev_var rfl r_due) ea_nil)) (by wtm_at "pre") (fun _ _ _ _ _ h q => ⟨_, _, rfl, h, rfl, _, _, rfl, _, _, rfl, rfl, q⟩) (fun _ _ => rfl) (fun H' q1 v1 u1 y1 z1 m1 s1a s1b => (et_not (et_val (ev_df (ea_cons1 (ev_var rfl s1a) (ea_cons1 (ev_var rfl s1b) ea_nil)) (by exact hp.2 y1 (List.of_mem_zip m1).1))))) (fun H' q1 v1 u1 y1 z1 m1 s1a s1b _ => ev_int)).imp fun _ c => c.det) (ev_lst ea_nilA (by wtm_at "len"))))) fun v z H4 e4 hz rz => ?_
        exact k v z H4 (((e1.trans e2).trans e3).trans e4) (by refine Eq.trans hz ?_; exact same_bool) rz
    · exact absurd hb (by wtm_at "nev")
end T18

namespace T18
open PySem PySem.Spec PyProof.Rows L2 GB GE T17
local macro_rules | `(tactic| wtm_at "pre") => `(tactic| first | with_reducible exact True.intro | ((try dsimp only); first | with_reducible exact True.intro | with_reducible assumption | omega | (exact Or.inl ⟨by omega, by omega⟩) | (exact Or.inr ⟨by omega, by omega⟩) | exact ⟨by omega, by omega⟩ | exact ⟨by omega, by omega, by omega⟩ | decide +kernel | (simp_all; done) | (simp_all; omega)))
local macro_rules | `(tactic| wtm_at "len") => `(tactic| first | exact len1 (by decide) | exact len2 (by decide) | exact len2 (by simp))
local macro_rules | `(tactic| wtm_at "fin") => `(tactic| first | rfl | (simp [see, finer, isInt, rng_len, Prod.ext_iff, nextA]; done) | (simp [see, finer, isInt, rng_len, Prod.ext_iff, nextA]; omega) | (simp only [see, finer]; split <;> first | rfl | omega) | (dsimp only; rw [List.filter_eq_self.2 (fun _ _ => rfl)]; done) | (dsimp only; rw [List.filter_eq_self.2 (fun _ _ => rfl)]; exact zip_map) | (dsimp only; rw [List.filter_eq_self.2 (fun _ _ => rfl)]; refine List.map_congr_left fun y _ => ?_; simp [see]; done) | (simp [see, finer, isInt, rng_len, Prod.ext_iff, nextA] <;> omega))
local macro_rules | `(tactic| wtm_at "nev") => `(tactic| first | (simp_all [Eq1]; done) | (simp_all [Eq1, isInt]; done) | (simp [Eq1, isInt] at *; omega))
abbrev LL (N : En) (M : Option Addr) : Rp (List (List Int)) := RL M (All (RT M (All RI)))
theorem ev_summed {N : En} {M : Option Addr} {σ : L2.St} {H : Hp} {ts : TA} {E : XK} {c : Int × Int} {rows : List (List Int)} {n : Int} (h : EvA M ts σ H (Cons (R_Clerk N M) (Cons (LL N M) (Cons RI Nil))) (fun p => p.1 = c ∧ p.2.1.Perm rows ∧ p.2.2.1 = n)) (hn : 1 ≤ n ∧ n ≤ 3) (hl : rows.length < 1000) (hg : ∀ r ∈ rows, good n.toNat r) :
    Ev M (tD (sp__law_summed N) E ts) σ H (RT M (All RI)) (Eq1 ((sumR n.toNat rows).map (see c))) :=
  (ev_dS (S := fun M => Cons (R_Clerk N M) (Cons (LL N M) (Cons RI Nil))) (R'' := fun M => RT M (All RI)) (pre := fun (x_clerk, x_rows, x_sorts, _) => (1 ≤ x_sorts ∧ x_sorts ≤ 3) ∧ x_rows.length < 1000 ∧ ∀ r ∈ x_rows, good x_sorts.toNat r) (f := fun (x_clerk, x_rows, x_sorts, _) z => z = (sumR x_sorts.toNat x_rows).map (see x_clerk)) h
    (by
      rintro ⟨a, b, m, _⟩ ⟨h1, h2, h3⟩
      replace h2 : b.Perm rows := h2
      replace h3 : m = n := h3
      show (1 ≤ m ∧ m ≤ 3) ∧ b.length < 1000 ∧ ∀ r ∈ b, good m.toNat r
      rw [h3, h2.length_eq]
      exact ⟨hn, hl, fun r hr => hg r (h2.subset hr)⟩)).imp (by
      rintro z ⟨⟨a, b, m, _⟩, ⟨h1, h2, h3⟩, hz⟩
      replace h1 : a = c := h1
      replace h2 : b.Perm rows := h2
      replace h3 : m = n := h3
      replace hz : z = (sumR m.toNat b).map (see a) := hz
      show z = _
      rw [hz, h1, h3, sum_perm h2])
abbrev s__law_right : Stmt := top 40
def N__law_right : List Str := ["dice", "sorts", "clerk", "rows", "turn", "total", "row", "due", "others", "cut", "told", "left", "right", "at", "often", "same"]
theorem sc__law_right : FnScope N__law_right ["dice"] (defScope s__law_right) := ⟨rfl, rfl, rfl, by decide +kernel, rfl, by decide +kernel, by decide +kernel⟩
abbrev sp__law_right (N : En) : Sp := FnF (fun M => (Cons (RD M) Nil)) (fun M => RB) (fun (x_dice, _) => True) (fun (x_dice, _) => true)
theorem ok__law_right {N : En} (T : Txt N) (F : FunP N "_law_right" s__law_right) (D__law_roll : Dn N 1 "_law_roll" (sp__law_roll N)) (D_Clerk : Dc N 4 "Clerk" (sp_Clerk N)) (D__law_order : Dn N 2 "_law_order" (sp__law_order N)) (D__law_plus : Dn N 1 "_law_plus" (sp__law_plus N)) (D_Clerk_cap : Dp N 1 "Clerk" "cap" (sp_Clerk_cap N)) (D_Clerk_modulus : Dp N 1 "Clerk" "modulus" (sp_Clerk_modulus N)) (D__law_seen : Dn N 1 "_law_seen" (sp__law_seen N)) (D__law_raised : Dn N 4 "_law_raised" (sp__law_raised N)) (D_Clerk___call__ : Dm N 4 "Clerk" "__call__" (sp_Clerk___call__ N)) (D__law_summed : Dn N 6 "_law_summed" (sp__law_summed N)) (D__law_mixed : Dn N 2 "_law_mixed" (sp__law_mixed N)) (D_Clerk_added : Dm N 4 "Clerk" "added" (sp_Clerk_added N)) (D__law_is_same : Dn N 3 "_law_is_same" (sp__law_is_same2 N)) (D_times : Dn N 4 "times" (sp_times N)) : Dn N 7 "_law_right" (sp__law_right N) := by
  refine dn_mk F sc__law_right (fun _ _ _ _ _ _ us hl => match us, hl with | [_], _ => rfl) (fun vs H Q E h => by obtain ⟨_, _, _, ⟨_, _, rfl, _, rfl⟩, _⟩ := h; rfl) ?_
  rintro cdv A outer s H vs Q E hr ⟨M, ⟨x_dice, ⟨⟩⟩, d0, ⟨v_dice, _, rfl, r_dice, rfl⟩, hp, k⟩
  replace r_dice : (RD M) x_dice v_dice H := r_dice
  try dsimp only at hp
  refine ⟨_, (pss_cons (ps_asg (pe_tup (pa_cons (pe_op op_add pe_int (pe_d D__law_roll (hr.mono (by decide)) (by rfl) (passes_call (takes_of rfl rfl rfl rfl) fun _ _ _ _ z => z) (pa_cons (pv 0) (pa_cons pe_int pa_nil)))) (pa_cons (pe_c D_Clerk (hr.mono (by decide)) (by rfl) (passes_call (takes_of rfl rfl rfl rfl) fun _ _ _ _ z => z) (pa_cons (pe_d D__law_roll (hr.mono (by decide)) (by rfl) (passes_call (takes_of rfl rfl rfl rfl) fun _ _ _ _ z => z) (pa_cons (pv 0) (pa_cons pe_int pa_nil))) (pa_cons (pe_op op_add pe_int (pe_d D__law_roll (hr.mono (by decide)) (by rfl) (passes_call (takes_of rfl rfl rfl rfl) fun _ _ _ _ z => z) (pa_cons (pv 0) (pa_cons pe_int pa_nil)))) pa_nil))) pa_nil))) (pg_tup (n := 2) rfl (pgs_cons (pg_name (i := 1) sc__law_right.nd rfl (by first | exact Or.inl rfl | exact Or.inr rfl)) (pgs_cons (pg_name (i := 2) sc__law_right.nd rfl (by first | exact Or.inl rfl | exact Or.inr rfl)) pgs_nil))))
    (pss_cons (ps_set (i := 3) sc__law_right.nd rfl (by first | exact Or.inl rfl | exact Or.inr rfl) (pe_lc (own := [("turn", 4)]) (g := gName 4) rfl sc__law_right.nd (pi_range1 (by rfl) T.n_range (pa_cons (pe_op op_add pe_int (pe_d D__law_roll (hr.mono (by decide)) (by rfl) (passes_call (takes_of rfl rfl rfl rfl) fun _ _ _ _ z => z) (pa_cons (pv 0) (pa_cons pe_int pa_nil)))) pa_nil)) (blkOk_by (own := [("turn", 4)]) (N := N__law_right) (sc := defScope s__law_right) (by decide +kernel)) (fun _ _ _ _ _ => (pg_name (i := 4) sc__law_right.nd rfl (by first | exact Or.inl rfl | exact Or.inr rfl))) (fun _ _ _ _ _ => pts_nil) (fun _ _ _ _ _ => (pe_d D__law_order (hr.mono (by decide)) (by rfl) px0 (pa_cons (pv 0) (pa_cons (pv 1) (pa_cons pe_int pa_nil)))))))
    (pss_cons (ps_set (i := 5) sc__law_right.nd rfl (by first | exact Or.inl rfl | exact Or.inr rfl) (pe_op op_repTA (pe_tup (pa_cons pe_int pa_nil)) (pv 1)))
    (pss_cons (ps_for (passes_of rfl) rfl (pi_list (pv 3)) (pg_name (i := 6) sc__law_right.nd rfl (by first | exact Or.inl rfl | exact Or.inr rfl))
      (pss_one (ps_set (i := 5) sc__law_right.nd rfl (by first | exact Or.inl rfl | exact Or.inr rfl) (pe_d D__law_plus (hr.mono (by decide)) (by rfl) (passes_call (takes_of rfl rfl rfl rfl) fun _ _ _ _ z => z) (pa_cons (pv 5) (pa_cons (pv 6) pa_nil))))))
    (pss_cons (ps_set (i := 7) sc__law_right.nd rfl (by first | exact Or.inl rfl | exact Or.inr rfl) (pe_d D__law_seen (hr.mono (by decide)) (by rfl) (passes_call (takes_of rfl rfl rfl rfl) fun _ _ _ _ z => z) (pa_cons (pe_p (pv 2) D_Clerk_cap (hr.mono (by decide)) px0n) (pa_cons (pe_p (pv 2) D_Clerk_modulus (hr.mono (by decide)) px0n) (pa_cons (pv 5) pa_nil)))))
    (pss_cons (ps_set (i := 8) sc__law_right.nd rfl (by first | exact Or.inl rfl | exact Or.inr rfl) (pe_lc (own := [("row", 6)]) (g := gName 6) rfl sc__law_right.nd (pi_list (pv 3)) (blkOk_by (own := [("row", 6)]) (N := N__law_right) (sc := defScope s__law_right) (by decide +kernel)) (fun _ _ _ _ _ => (pg_name (i := 6) sc__law_right.nd rfl (by first | exact Or.inl rfl | exact Or.inr rfl))) (fun _ _ _ _ _ => pts_nil) (fun _ _ _ _ _ => (pe_d D__law_raised (hr.mono (by decide)) (by rfl) px0 (pa_cons (pv 0) (pa_cons (pv 2) (pa_cons (pv 6) pa_nil)))))))
    (pss_cons (ps_set (i := 9) sc__law_right.nd rfl (by first | exact Or.inl rfl | exact Or.inr rfl) (pe_d D__law_roll (hr.mono (by decide)) (by rfl) (passes_call (takes_of rfl rfl rfl rfl) fun _ _ _ _ z => z) (pa_cons (pv 0) (pa_cons (pe_op op_add (pe_callB call_len_seq (by rfl) T.n_len (by decide +kernel) (pa_cons (pv 3) pa_nil)) pe_int) pa_nil))))
    (pss_cons (ps_set (i := 10) sc__law_right.nd rfl (by first | exact Or.inl rfl | exact Or.inr rfl) (pe_lst (pa_cons (pe_ci (pv 2) D_Clerk___call__ T.fi_Clerk (hr.mono (by decide)) (passes_call (takes_of rfl rfl rfl rfl) fun _ _ _ _ z => z) (pa_cons (pv 5) pa_nil)) (pa_cons (pe_d D__law_summed (hr.mono (by decide)) (by rfl) (passes_call (takes_of rfl rfl rfl rfl) fun _ _ _ _ z => z) (pa_cons (pv 2) (pa_cons (pv 3) (pa_cons (pv 1) pa_nil)))) (pa_cons (pe_d D__law_summed (hr.mono (by decide)) (by rfl) (passes_call (takes_of rfl rfl rfl rfl) fun _ _ _ _ z => z) (pa_cons (pv 2) (pa_cons (pe_d D__law_mixed (hr.mono (by decide)) (by rfl) (passes_call (takes_of rfl rfl rfl rfl) fun _ _ _ _ z => z) (pa_cons (pv 0) (pa_cons (pv 3) pa_nil))) (pa_cons (pv 1) pa_nil)))) pa_nil)))))
    (pss_cons (ps_set (i := 10) sc__law_right.nd rfl (by first | exact Or.inl rfl | exact Or.inr rfl) (pe_op op_cat (pv 10) (pe_lst (pa_cons (pe_d D__law_summed (hr.mono (by decide)) (by rfl) (passes_call (takes_of rfl rfl rfl rfl) fun _ _ _ _ z => z) (pa_cons (pv 2) (pa_cons (pe_lc (own := [("row", 6)]) (g := gName 6) rfl sc__law_right.nd (pi_list (pv 3)) (blkOk_by (own := [("row", 6)]) (N := N__law_right) (sc := defScope s__law_right) (by decide +kernel)) (fun _ _ _ _ _ => (pg_name (i := 6) sc__law_right.nd rfl (by first | exact Or.inl rfl | exact Or.inr rfl))) (fun _ _ _ _ _ => pts_nil) (fun _ _ _ _ _ => (pe_ciK N.K (by rfl) (pv 2) D_Clerk___call__ T.fi_Clerk (hr.mono (by decide)) px0 (pa_cons (pv 6) pa_nil)))) (pa_cons (pv 1) pa_nil)))) (pa_cons (pe_d D__law_summed (hr.mono (by decide)) (by rfl) (passes_call (takes_of rfl rfl rfl rfl) fun _ _ _ _ z => z) (pa_cons (pv 2) (pa_cons (pv 8) (pa_cons (pv 1) pa_nil)))) pa_nil)))))
    (pss_cons (ps_par rfl sc__law_right.nd (i := 11) (j := 12) rfl rfl (by decide) rfl rfl (pa_cons (pe_d D__law_summed (hr.mono (by decide)) (by rfl) (passes_call (takes_of rfl rfl rfl rfl) fun _ _ _ _ z => z) (pa_cons (pv 2) (pa_cons (pe_slice sl_list (pv 3) po_none (po_some (pv 9))) (pa_cons (pv 1) pa_nil)))) (pa_cons (pe_d D__law_summed (hr.mono (by decide)) (by rfl) (passes_call (takes_of rfl rfl rfl rfl) fun _ _ _ _ z => z) (pa_cons (pv 2) (pa_cons (pe_slice sl_list (pv 3) (po_some (pv 9)) po_none) (pa_cons (pv 1) pa_nil)))) pa_nil)) rfl)
    (pss_cons (ps_set (i := 10) sc__law_right.nd rfl (by first | exact Or.inl rfl | exact Or.inr rfl) (pe_op op_cat (pv 10) (pe_lst (pa_cons (pe_m (pv 2) D_Clerk_added (hr.mono (by decide)) (passes_call (takes_of rfl rfl rfl rfl) fun _ _ _ _ z => z) (pa_cons (pv 11) (pa_cons (pv 12) pa_nil))) (pa_cons (pe_m (pv 2) D_Clerk_added (hr.mono (by decide)) (passes_call (takes_of rfl rfl rfl rfl) fun _ _ _ _ z => z) (pa_cons (pv 12) (pa_cons (pv 11) pa_nil))) (pa_cons (pe_ci (pv 2) D_Clerk___call__ T.fi_Clerk (hr.mono (by decide)) (passes_call (takes_of rfl rfl rfl rfl) fun _ _ _ _ z => z) (pa_cons (pe_ci (pv 2) D_Clerk___call__ T.fi_Clerk (hr.mono (by decide)) (passes_call (takes_of rfl rfl rfl rfl) fun _ _ _ _ z => z) (pa_cons (pv 5) pa_nil)) pa_nil)) pa_nil))))))
    (pss_cons (ps_if (pt_not (pt_val (pe_d D__law_is_same (hr.mono (by decide)) (by rfl) (passes_call (takes_of rfl rfl rfl rfl) fun _ _ _ _ z => z) (pa_cons (pv 10) (pa_cons (pe_op op_rep (pe_lst (pa_cons (pv 7) pa_nil)) pe_int) pa_nil)))))
      (pss_one (ps_ret pe_bl)) pss_nil)
    (pss_cons (ps_if (pt_cmpR (op_neD hr.units) (pe_lc (own := [("at", 13)]) (g := gName 13) rfl sc__law_right.nd (pi_range1 (by rfl) T.n_range (pa_cons (pe_callB call_len_seq (by rfl) T.n_len (by decide +kernel) (pa_cons (pv 3) pa_nil)) pa_nil)) (blkOk_by (own := [("at", 13)]) (N := N__law_right) (sc := defScope s__law_right) (by decide +kernel)) (fun _ _ _ _ _ => (pg_name (i := 13) sc__law_right.nd rfl (by first | exact Or.inl rfl | exact Or.inr rfl))) (fun _ _ _ _ _ => (pts_one (pt_cmpR (op_neDK N.K (by rfl) hr.units) (pe_ciK N.K (by rfl) (pv 2) D_Clerk___call__ T.fi_Clerk (hr.mono (by decide)) px0 (pa_cons (pe_ix (ix_listK N.K (by rfl)) (pv 3) (pv 13) (fun _ _ => rfl)) pa_nil)) (pe_ciK N.K (by rfl) (pv 2) D_Clerk___call__ T.fi_Clerk (hr.mono (by decide)) px0 (pa_cons (pe_ix (ix_listK N.K (by rfl)) (pv 8) (pv 13) (fun _ _ => rfl)) pa_nil)) (nomark _)))) (fun _ _ _ _ _ => (pv 13))) (pe_lst pa_nil) (nomark _))
      (pss_one (ps_ret pe_bl)) pss_nil)
    (pss_cons (ps_set (i := 14) sc__law_right.nd rfl (by first | exact Or.inl rfl | exact Or.inr rfl) (pe_d D__law_roll (hr.mono (by decide)) (by rfl) (passes_call (takes_of rfl rfl rfl rfl) fun _ _ _ _ z => z) (pa_cons (pv 0) (pa_cons pe_int pa_nil))))
    (pss_cons (ps_set (i := 15) sc__law_right.nd rfl (by first | exact Or.inl rfl | exact Or.inr rfl) (pe_d D__law_summed (hr.mono (by decide)) (by rfl) (passes_call (takes_of rfl rfl rfl rfl) fun _ _ _ _ z => z) (pa_cons (pv 2) (pa_cons (pe_op op_rep (pe_lst (pa_cons (pe_ix ix_list (pv 3) pe_int (fun _ _ => rfl)) pa_nil)) (pv 14)) (pa_cons (pv 1) pa_nil)))))
    (pss_one (ps_ret (pe_and (pe_cmpR (op_eqD hr.units) (pv 15) (pe_ci (pv 2) D_Clerk___call__ T.fi_Clerk (hr.mono (by decide)) (passes_call (takes_of rfl rfl rfl rfl) fun _ _ _ _ z => z) (pa_cons (pe_d D_times (hr.mono (by decide)) (by rfl) (passes_call (takes_of rfl rfl rfl rfl) fun _ _ _ _ z => z) (pa_cons (pe_ix ix_list (pv 3) pe_int (fun _ _ => rfl)) (pa_cons (pv 14) pa_nil))) pa_nil)) (nomark _)) (pe_one (pe_cmpR (op_eqD hr.units) (pv 15) (pe_ci (pv 2) D_Clerk___call__ T.fi_Clerk (hr.mono (by decide)) (passes_call (takes_of rfl rfl rfl rfl) fun _ _ _ _ z => z) (pa_cons (pe_d D_times (hr.mono (by decide)) (by rfl) (passes_call (takes_of rfl rfl rfl rfl) fun _ _ _ _ z => z) (pa_cons (pe_ci (pv 2) D_Clerk___call__ T.fi_Clerk (hr.mono (by decide)) (passes_call (takes_of rfl rfl rfl rfl) fun _ _ _ _ z => z) (pa_cons (pe_ix ix_list (pv 3) pe_int (fun _ _ => rfl)) pa_nil)) (pa_cons (pv 14) pa_nil))) pa_nil)) (nomark _))))))))))))))))))))), ?_⟩
  refine q_un2 (R := RI) (R' := (R_Clerk N M)) d0 (ev_tup (ea_cons (ev_op o_add ev_int (ev_d1 (ea_cons1 (ev_var rfl r_dice) (ea_cons1 ev_int ea_nil)) (by wtm_at "pre")) (fun _ _ _ _ => trivial)) (ea_cons (ev_dS (ea_cons (ev_d1 (ea_cons1 (ev_var rfl r_dice) (ea_cons1 ev_int ea_nil)) (by wtm_at "pre")) (ea_cons (ev_op o_add ev_int (ev_d1 (ea_cons1 (ev_var rfl r_dice) (ea_cons1 ev_int ea_nil)) (by wtm_at "pre")) (fun _ _ _ _ => trivial)) ea_nil)) (by
    rintro ⟨a, b, _⟩ ⟨h1, ⟨_, rfl, y, h2, rfl⟩, _⟩
    replace h1 : 0 ≤ a ∧ a < 13 := h1
    replace h2 : 0 ≤ y ∧ y < 12 := h2
    show (0 ≤ a ∧ a ≤ 12) ∧ 1 ≤ 1 + y ∧ 1 + y ≤ 12
    omega)) ea_nil)) (by wtm_at "len")) fun v_sorts v_clerk x_sorts x_clerk H1 e1 hxy r_sorts r_clerk => ?_
  obtain ⟨h_sorts, h_clerk, _⟩ := hxy
  have d1 := e1.dice; replace r_dice := up r_dice e1
  have hs : 1 ≤ x_sorts ∧ x_sorts ≤ 3 := by
    obtain ⟨_, rfl, y, hy, rfl⟩ := h_sorts
    replace hy : 0 ≤ y ∧ y < 3 := hy
    omega
  have hn : 1 ≤ x_sorts.toNat ∧ x_sorts.toNat ≤ 3 := by omega
  have hc : okC x_clerk := clerk_ok r_clerk
  refine q_set d1 (ev_lcRN (A := fun n => 1 ≤ n ∧ n ≤ 7) (fun v => (wipe _ [4]).set 4 (some v)) ((ea_cons (ev_op o_add ev_int (ev_d1 (ea_cons1 (ev_var rfl r_dice) (ea_cons1 ev_int ea_nil)) (by wtm_at "pre")) (fun _ _ _ _ => trivial)) ea_nil).imp (by
    rintro ⟨m, _⟩ ⟨⟨_, rfl, y, hy, rfl⟩, _⟩
    replace hy : 0 ≤ y ∧ y < 7 := hy
    show 1 ≤ 1 + y ∧ 1 + y ≤ 7
    omega)) (fun n h => by omega) (fun _ _ _ _ _ q => q) (fun _ => rfl) (fun H' q1 y1 _ => et_yes) (fun H' q1 y1 _ _ => (ev_d1 (ea_cons1 (ev_var rfl (up r_dice q1)) (ea_cons1 (ev_var rfl (up r_sorts q1)) (ea_cons1 ev_int ea_nil))) (by wtm_at "pre")))) fun v_rows x_rows H2 e2 h_rows r_rows => ?_
  have d2 := e2.dice; replace r_dice := up r_dice e2; replace r_sorts := up r_sorts e2; replace r_clerk := up r_clerk e2
  obtain ⟨hr1, hr2, hr3, hr4⟩ : 1 ≤ x_rows.length ∧ x_rows.length ≤ 7 ∧ (∀ r ∈ x_rows, good x_sorts.toNat r) ∧ ∀ r ∈ x_rows, ∀ c ∈ r, c ≤ 12 := by
    obtain ⟨n, hn', hq⟩ := h_rows
    have h := comp_all (P := fun r : List Int => good x_sorts.toNat r ∧ ∀ c ∈ r, c ≤ 12) (fun _ z hz => by
      replace hz : z.length = x_sorts.toNat ∧ ∀ c ∈ z, 0 ≤ c ∧ c ≤ 12 := hz
      exact ⟨⟨hz.1, fun c hc => (hz.2 c hc).1⟩, fun c hc => (hz.2 c hc).2⟩) hq
    rw [rng_len] at h
    exact ⟨by have := h.1; omega, by have := h.1; omega, fun r hr => (h.2 r hr).1, fun r hr => (h.2 r hr).2⟩
  refine q_set d2 (ev_op1 o_repT (ev_tup (ea_consA ev_int ea_nilA) (by wtm_at "len")) (ev_var rfl r_sorts) (by wtm_at "pre")) fun v_total x_total H3 e3 h_total r_total => ?_
  replace h_total : x_total = _ := h_total; try dsimp only at h_total
  have d3 := e3.dice; replace r_dice := up r_dice e3; replace r_sorts := up r_sorts e3; replace r_clerk := up r_clerk e3; replace r_rows := up r_rows e3
  refine q_forL d3 (ev_var rfl r_rows) (fun Hb i σ' H' => ∃ (o_turn : Option V) (v_total : V) (o_row : Option V) (o_due : Option V) (o_others : Option V) (o_cut : Option V) (o_told : Option V) (o_left : Option V) (o_right : Option V) (o_at : Option V) (o_often : Option V) (o_same : Option V) (x_total : _), σ' = [some v_dice, some v_sorts, some v_clerk, some v_rows, o_turn, some v_total, o_row, o_due, o_others, o_cut, o_told, o_left, o_right, o_at, o_often, o_same] ∧ Xt M Hb H' ∧ (RT M (All RI)) x_total v_total H' ∧ (x_total = sumR x_sorts.toNat (x_rows.take i))) (fun Hb e0' => ⟨_, _, _, _, _, _, _, _, _, _, _, _, _, rfl, .refl e0'.dice, up r_total e0', by rw [h_total, flat1]; rfl⟩) (fun _ _ _ _ hI => by obtain ⟨o_turn, v_total, o_row, o_due, o_others, o_cut, o_told, o_left, o_right, o_at, o_often, o_same, x_total, rfl, e0', r_total, hI⟩ := hI; exact e0') (fun Hb eb i v_row x_row σ' H4 hx r_row hI => ?_) (fun Hb eb σ' H4 hI => ?_)
  · obtain ⟨o_turn, v_total, o_row, o_due, o_others, o_cut, o_told, o_left, o_right, o_at, o_often, o_same, x_total, rfl, e4', r_total, hI⟩ := hI
    have e4 := eb.trans e4'
    have d4 := e4.dice; replace r_dice := up r_dice e4; replace r_sorts := up r_sorts e4; replace r_clerk := up r_clerk e4; replace r_rows := up r_rows e4
    have gr := hr3 x_row (List.mem_of_getElem? hx)
    have gs : good x_sorts.toNat x_total := by rw [hI]; exact good_sum fun r hr => hr3 r (List.mem_of_mem_take hr)
    have lg : x_total.length < 1000 ∧ x_row.length < 1000 := by rw [gs.1, gr.1]; omega
    refine ev_set d4 (ev_df (ea_cons1 (ev_var rfl r_total) (ea_cons1 (ev_var rfl r_row) ea_nil)) (by wtm_at "pre")) fun v_total x_total H5 e5 h_total r_total => ?_
    replace h_total : x_total = _ := h_total; try dsimp only at h_total
    have d5 := e5.dice; replace r_dice := up r_dice e5; replace r_sorts := up r_sorts e5; replace r_clerk := up r_clerk e5; replace r_rows := up r_rows e5; replace r_row := up r_row e5
    exact ⟨_, _, _, _, _, _, _, _, _, _, _, _, _, rfl, (e4'.trans e5), r_total, by rw [h_total, List.take_add_one, hx, Option.toList_some, sum_snoc, hI]; rfl⟩
  · obtain ⟨o_turn, v_total, o_row, o_due, o_others, o_cut, o_told, o_left, o_right, o_at, o_often, o_same, x_total, rfl, e4', r_total, hI⟩ := hI
    have e4 := eb.trans e4'
    have d4 := e4.dice; replace r_dice := up r_dice e4; replace r_sorts := up r_sorts e4; replace r_clerk := up r_clerk e4; replace r_rows := up r_rows e4
    rw [List.take_length] at hI
    have gT : good x_sorts.toNat x_total := by rw [hI]; exact good_sum hr3
    have oT : isOrd x_total := ord_of gT hn.1 hn.2
    have oS : isOrd (x_total.map (see x_clerk)) := ord_of (good_see hc gT) hn.1 hn.2
    have lT : 0 < x_clerk.2 ∧ x_total.length < 1000 := ⟨hc.2, by rw [gT.1]; omega⟩
    refine q_set d4 (ev_df (ea_cons1 (ev_prf (ev_var rfl r_clerk) trivial) (ea_cons1 (ev_prf (ev_var rfl r_clerk) trivial) (ea_cons1 (ev_var rfl r_total) ea_nil))) (by wtm_at "pre")) fun v_due x_due H5 e5 h_due r_due => ?_
    replace h_due : x_due = _ := h_due; try dsimp only at h_due
    replace h_due : x_due = x_total.map (see x_clerk) := h_due
    have d5 := e5.dice; replace r_dice := up r_dice e5; replace r_sorts := up r_sorts e5; replace r_clerk := up r_clerk e5; replace r_rows := up r_rows e5; replace r_total := up r_total e5
    refine q_set d5 (ev_lcL (fun v => (wipe _ [6]).set 6 (some v)) (ev_var rfl r_rows) (by wtm_at "pre") (fun _ _ _ _ _ q => q) (fun _ => rfl) (fun H' q1 v1 y1 _ s1 => et_yes) (fun H' q1 v1 y1 hy s1 _ => (ev_d1 (ea_cons1 (ev_var rfl (up r_dice q1)) (ea_cons1 (ev_var rfl (up r_clerk q1)) (ea_cons1 (ev_var rfl s1) ea_nil))) (by show y1.length < 1000 ∧ ∀ c ∈ y1, 0 ≤ c; have := hr3 y1 hy; exact ⟨by rw [this.1]; omega, this.2⟩)))) fun v_others x_others H6 e6 h_others r_others => ?_
    have d6 := e6.dice; replace r_dice := up r_dice e6; replace r_sorts := up r_sorts e6; replace r_clerk := up r_clerk e6; replace r_rows := up r_rows e6; replace r_total := up r_total e6; replace r_due := up r_due e6
    obtain ⟨ho1, ho2, ho3⟩ := others_ok (c := x_clerk) (n := x_sorts.toNat) (Comp.map h_others) hr3
    refine q_set d6 (ev_d1 (ea_cons1 (ev_var rfl r_dice) (ea_cons1 (ev_opt o_add (ev_cbf c_lenL (ea_cons1 (ev_var rfl r_rows) ea_nil)) ev_int) ea_nil)) (by wtm_at "pre")) fun v_cut x_cut H7 e7 h_cut r_cut => ?_
    have d7 := e7.dice; replace r_dice := up r_dice e7; replace r_sorts := up r_sorts e7; replace r_clerk := up r_clerk e7; replace r_rows := up r_rows e7; replace r_total := up r_total e7; replace r_due := up r_due e7; replace r_others := up r_others e7
    replace h_cut : 0 ≤ x_cut ∧ x_cut < (x_rows.length : Int) + 1 := h_cut
    have hS : (sumR x_sorts.toNat x_rows).map (see x_clerk) = x_due := by rw [h_due, hI]
    have pR : (1 ≤ x_sorts ∧ x_sorts ≤ 3) ∧ x_rows.length < 1000 ∧ ∀ r ∈ x_rows, good x_sorts.toNat r := ⟨hs, by omega, hr3⟩
    have pO : (1 ≤ x_sorts ∧ x_sorts ≤ 3) ∧ x_others.length < 1000 ∧ ∀ r ∈ x_others, good x_sorts.toNat r := ⟨hs, by omega, ho2⟩
    have gV : ∀ r ∈ x_rows.map (List.map (see x_clerk)), good x_sorts.toNat r := fun r hr => by obtain ⟨q, hq, rfl⟩ := List.mem_map.mp hr; exact good_see hc (hr3 q hq)
    refine q_set d7 (ev_lst (ea_consA (ev_cif (ev_var rfl r_clerk) (ea_cons1 (ev_var rfl r_total) ea_nil) (by wtm_at "pre")) (ea_consA (ev_df (ea_cons1 (ev_var rfl r_clerk) (ea_cons1 (ev_var rfl r_rows) (ea_cons1 (ev_var rfl r_sorts) ea_nil))) (by wtm_at "pre")) (ea_consA (ev_summed ((ea_cons (ev_var rfl r_clerk) (ea_cons (ev_d1 (ea_cons1 (ev_var rfl r_dice) (ea_cons1 (ev_var rfl r_rows) ea_nil)) (by show x_rows.length < 1000; omega)) (ea_cons (ev_var rfl r_sorts) ea_nil))).imp (by intro p h; exact ⟨h.1, h.2.1, h.2.2.1⟩)) hs (by omega) hr3) ea_nilA))) (by wtm_at "len")) fun v_told x_told H8 e8 h_told r_told => ?_
    have d8 := e8.dice; replace r_dice := up r_dice e8; replace r_sorts := up r_sorts e8; replace r_clerk := up r_clerk e8; replace r_rows := up r_rows e8; replace r_total := up r_total e8; replace r_due := up r_due e8; replace r_others := up r_others e8; replace r_cut := up r_cut e8
    have ht1 : x_told = [x_due, x_due, x_due] := by
      replace h_told : x_told = [x_total.map (see x_clerk), (sumR x_sorts.toNat x_rows).map (see x_clerk), (sumR x_sorts.toNat x_rows).map (see x_clerk)] := h_told
      rw [h_told, hS, ← h_due]
    refine q_set d8 (ev_op1 o_catL (ev_var rfl r_told) (ev_lst (ea_consA (ev_df (ea_cons1 (ev_var rfl r_clerk) (ea_cons1 ((ev_lcL (fun v => (wipe _ [6]).set 6 (some v)) (ev_var rfl r_rows) (by wtm_at "pre") (fun _ _ _ _ _ q => q) (fun _ => rfl) (fun H' q1 v1 y1 _ s1 => et_yes) (fun H' q1 v1 y1 hy s1 _ => (ev_cif (ev_var rfl (up r_clerk q1)) (ea_cons1 (ev_var rfl s1) ea_nil) (by exact ord_of (hr3 y1 hy) hn.1 hn.2)))).imp fun _ c => c.det) (ea_cons1 (ev_var rfl r_sorts) ea_nil))) (by dsimp only; rw [List.filter_eq_self.2 (fun _ _ => rfl)]; exact ⟨hs, by rw [List.length_map]; omega, gV⟩)) (ea_consA (ev_df (ea_cons1 (ev_var rfl r_clerk) (ea_cons1 (ev_var rfl r_others) (ea_cons1 (ev_var rfl r_sorts) ea_nil))) (by wtm_at "pre")) ea_nilA)) (by wtm_at "len")) (by show List.length _ + List.length _ ≤ 1000000; rw [ht1]; show (3 : Nat) + 2 ≤ 1000000; decide)) fun v_told x_told H9 e9 h_told r_told => ?_
    have ht2 : x_told = [x_due, x_due, x_due, x_due, x_due] := by
      refine Eq.trans h_told ?_
      dsimp only
      rw [ht1, List.filter_eq_self.2 (fun _ _ => rfl)]
      have e1 : (sumR x_sorts.toNat (x_rows.map (List.map (see x_clerk)))).map (see x_clerk) = x_due := by
        rw [← hS]; exact sum_see hc gV hr3 (by rw [List.map_map]; exact List.map_congr_left fun r hr => see_map_idem hc (hr3 r hr).2)
      have e2 : (sumR x_sorts.toNat x_others).map (see x_clerk) = x_due := by rw [← hS]; exact sum_see hc ho2 hr3 ho1
      show [x_due, x_due, x_due] ++ [(sumR x_sorts.toNat (x_rows.map (List.map (see x_clerk)))).map (see x_clerk), (sumR x_sorts.toNat x_others).map (see x_clerk)] = _
      rw [e1, e2]; rfl
    have d9 := e9.dice; replace r_dice := up r_dice e9; replace r_sorts := up r_sorts e9; replace r_clerk := up r_clerk e9; replace r_rows := up r_rows e9; replace r_total := up r_total e9; replace r_due := up r_due e9; replace r_others := up r_others e9; replace r_cut := up r_cut e9
    refine q_par d9 ((ea_cons1 (ev_df (ea_cons1 (ev_var rfl r_clerk) (ea_cons1 (ev_slTo (ev_var rfl r_rows) (ev_var rfl r_cut) h_cut.1) (ea_cons1 (ev_var rfl r_sorts) ea_nil))) (by exact ⟨hs, by rw [List.length_take]; omega, fun r hr => hr3 r (List.mem_of_mem_take hr)⟩)) (ea_cons1 (ev_df (ea_cons1 (ev_var rfl r_clerk) (ea_cons1 (ev_slFrom (ev_var rfl r_rows) (ev_var rfl r_cut) h_cut.1) (ea_cons1 (ev_var rfl r_sorts) ea_nil))) (by exact ⟨hs, by rw [List.length_drop]; omega, fun r hr => hr3 r (List.mem_of_mem_drop hr)⟩)) ea_nil)).imp par2) fun v_left v_right x_left x_right H10 e10 h_left h_right r_left r_right => ?_
    replace h_left : x_left = _ := h_left; try dsimp only at h_left
    replace h_right : x_right = _ := h_right; try dsimp only at h_right
    have d10 := e10.dice; replace r_dice := up r_dice e10; replace r_sorts := up r_sorts e10; replace r_clerk := up r_clerk e10; replace r_rows := up r_rows e10; replace r_total := up r_total e10; replace r_due := up r_due e10; replace r_others := up r_others e10; replace r_cut := up r_cut e10; replace r_told := up r_told e10
    replace h_left : x_left = (sumR x_sorts.toNat (x_rows.take x_cut.toNat)).map (see x_clerk) := h_left
    replace h_right : x_right = (sumR x_sorts.toNat (x_rows.drop x_cut.toNat)).map (see x_clerk) := h_right
    have gt1 : good x_sorts.toNat (sumR x_sorts.toNat (x_rows.take x_cut.toNat)) := good_sum fun r hr => hr3 r (List.mem_of_mem_take hr)
    have gt2 : good x_sorts.toNat (sumR x_sorts.toNat (x_rows.drop x_cut.toNat)) := good_sum fun r hr => hr3 r (List.mem_of_mem_drop hr)
    have gl : good x_sorts.toNat x_left := by rw [h_left]; exact good_see hc gt1
    have gr : good x_sorts.toNat x_right := by rw [h_right]; exact good_see hc gt2
    have bl : ∀ c ∈ x_left, c < x_clerk.1 + x_clerk.2 := by rw [h_left]; intro c h; obtain ⟨y, hy, rfl⟩ := List.mem_map.mp h; exact (see_b hc (gt1.2 y hy)).2
    have br : ∀ c ∈ x_right, c < x_clerk.1 + x_clerk.2 := by rw [h_right]; intro c h; obtain ⟨y, hy, rfl⟩ := List.mem_map.mp h; exact (see_b hc (gt2.2 y hy)).2
    have pa1 : isOrd x_left ∧ (∀ c ∈ x_left, c < x_clerk.1 + x_clerk.2) ∧ isOrd x_right ∧ x_left.length = x_right.length := ⟨ord_of gl hn.1 hn.2, bl, ord_of gr hn.1 hn.2, by rw [gl.1, gr.1]⟩
    have pa2 : isOrd x_right ∧ (∀ c ∈ x_right, c < x_clerk.1 + x_clerk.2) ∧ isOrd x_left ∧ x_right.length = x_left.length := ⟨ord_of gr hn.1 hn.2, br, ord_of gl hn.1 hn.2, by rw [gl.1, gr.1]⟩
    have hsum : (addL x_left x_right).map (see x_clerk) = x_due := by
      rw [← hS]
      have e := sum_app (n := x_sorts.toNat) (a := x_rows.take x_cut.toNat) (b := x_rows.drop x_cut.toNat) (fun r hr => hr3 r (List.mem_of_mem_take hr)) (fun r hr => hr3 r (List.mem_of_mem_drop hr))
      rw [List.take_append_drop] at e
      rw [e]
      exact map_see_add hc gl.2 gr.2 gt1.2 gt2.2 (by rw [h_left]; exact see_map_idem hc gt1.2) (by rw [h_right]; exact see_map_idem hc gt2.2)
    refine q_set d10 (ev_op1 o_catL (ev_var rfl r_told) (ev_lst (ea_consA (ev_mef lkm_Clerk_added (ev_var rfl r_clerk) (ea_cons1 (ev_var rfl r_left) (ea_cons1 (ev_var rfl r_right) ea_nil)) (by wtm_at "pre")) (ea_consA (ev_mef lkm_Clerk_added (ev_var rfl r_clerk) (ea_cons1 (ev_var rfl r_right) (ea_cons1 (ev_var rfl r_left) ea_nil)) (by wtm_at "pre")) (ea_consA (ev_cif (ev_var rfl r_clerk) (ea_cons1 (ev_cif (ev_var rfl r_clerk) (ea_cons1 (ev_var rfl r_total) ea_nil) (by wtm_at "pre")) ea_nil) (by wtm_at "pre")) ea_nilA))) (by wtm_at "len")) (by show List.length _ + List.length _ ≤ 1000000; rw [ht2]; show (5 : Nat) + 3 ≤ 1000000; decide)) fun v_told x_told H11 e11 h_told r_told => ?_
    have ht3 : x_told = List.replicate 8 x_due := by
      refine Eq.trans h_told ?_
      dsimp only
      rw [ht2]
      have e2 : (addL x_right x_left).map (see x_clerk) = x_due := by rw [addL_comm]; exact hsum
      show [x_due, x_due, x_due, x_due, x_due] ++ [(addL x_left x_right).map (see x_clerk), (addL x_right x_left).map (see x_clerk), (x_total.map (see x_clerk)).map (see x_clerk)] = _
      rw [hsum, e2, see_map_idem hc gT.2, ← h_due]; rfl
    have pS : x_told.length < 1000 ∧ ∀ r ∈ x_told, r.length < 1000 := by
      rw [ht3]
      exact ⟨by simp, fun r hr => by rw [List.eq_of_mem_replicate hr, h_due, List.length_map]; exact lT.2⟩
    have d11 := e11.dice; replace r_dice := up r_dice e11; replace r_sorts := up r_sorts e11; replace r_clerk := up r_clerk e11; replace r_rows := up r_rows e11; replace r_total := up r_total e11; replace r_due := up r_due e11; replace r_others := up r_others e11; replace r_cut := up r_cut e11; replace r_left := up r_left e11; replace r_right := up r_right e11
    refine q_ifS0 d11 (et_not (et_val (ev_df (ea_cons1 (ev_var rfl r_told) (ea_cons1 (ev_op1 o_rep (ev_lst (ea_consA (ev_var rfl r_due) ea_nilA) (by wtm_at "len")) ev_int (by exact ⟨by decide, by decide, by show 1 * 8 ≤ 1000000; decide⟩)) ea_nil)) pS))) (fun H12 e12 hb => absurd hb (by rw [ht3, show (8 : Int).toNat = 8 from rfl]; simp [Eq1, flat1])) (fun H12 e12 hb => ?_)
    have d12 := e12.dice; replace r_dice := up r_dice e12; replace r_sorts := up r_sorts e12; replace r_clerk := up r_clerk e12; replace r_rows := up r_rows e12; replace r_total := up r_total e12; replace r_due := up r_due e12; replace r_others := up r_others e12; replace r_cut := up r_cut e12; replace r_told := up r_told e12; replace r_left := up r_left e12; replace r_right := up r_right e12
    have getG : ∀ (l : List (List Int)) (i : Int), 0 ≤ i → i < (l.length : Int) → l.getD i.toNat [] ∈ l := fun l i h1 h2 => by
      have : i.toNat < l.length := by omega
      simp [this]
    have oG : ∀ i : Int, 0 ≤ i → i < (x_rows.length : Int) → isOrd (x_rows.getD i.toNat []) := fun i h1 h2 => ord_of (hr3 _ (getG _ i h1 h2)) hn.1 hn.2
    have oH : ∀ i : Int, 0 ≤ i → i < (x_rows.length : Int) → isOrd (x_others.getD i.toNat []) := fun i h1 h2 => ord_of (ho2 _ (getG _ i h1 (by rw [ho3]; exact h2))) hn.1 hn.2
    have eG : ∀ i : Int, 0 ≤ i → i < (x_rows.length : Int) → (x_rows.getD i.toNat []).map (see x_clerk) = (x_others.getD i.toNat []).map (see x_clerk) := fun i h1 h2 => by
      have hi1 : i.toNat < x_rows.length := by omega
      have hi2 : i.toNat < x_others.length := by omega
      have e := congrArg (fun l => l[i.toNat]?) ho1
      simp [hi1, hi2] at e
      simp [hi1, hi2, e]
    have eF : List.map (fun y1 : Int => y1) (List.filter (fun y1 : Int => !decide ((x_rows.getD y1.toNat []).map (see x_clerk) = (x_others.getD y1.toNat []).map (see x_clerk))) (rng 0 (x_rows.length : Int))) = [] := by
      rw [List.filter_eq_nil_iff.mpr]
      · rfl
      · intro y hy
        have h := mem_rng.mp hy
        show ¬ (!decide ((x_rows.getD y.toNat []).map (see x_clerk) = (x_others.getD y.toNat []).map (see x_clerk))) = true
        rw [eG y h.1 h.2]
        simp
    have g0 : good x_sorts.toNat (x_rows.getD (0 : Int).toNat []) := hr3 _ (getG _ 0 (by omega) (by omega))
    refine q_ifS0 d12 (et_test (ev_opt o_neD ((ev_lcR1 (fun v => (wipe _ [13]).set 13 (some v)) ((ea_cons1 (ev_cbf c_lenL (ea_cons1 (ev_var rfl r_rows) ea_nil)) ea_nil).imp rg1) (by show 0 ≤ (x_rows.length : Int) ∧ (x_rows.length : Int) < 1000000; omega) (fun _ _ _ _ _ q => q) (fun _ => rfl) (fun H' q1 y1 h1y h2y => (et_test (ev_opt o_neD (ev_cif (ev_var rfl (up r_clerk q1)) (ea_cons1 (ev_ixL (ev_var rfl (up r_rows q1)) (ev_var (R := RI) rfl rfl) (atI_getD (d := []) ⟨h1y, h2y⟩)) ea_nil) (by exact oG y1 h1y h2y)) (ev_cif (ev_var rfl (up r_clerk q1)) (ea_cons1 (ev_ixL (ev_var rfl (up r_others q1)) (ev_var (R := RI) rfl rfl) (atI_getD (d := []) ⟨h1y, by rw [ho3]; exact h2y⟩)) ea_nil) (by exact oH y1 h1y h2y))))) (fun H' q1 y1 _ _ _ => (ev_var (R := RI) rfl rfl))).imp fun _ c => c.det) (ev_lst ea_nilA (by wtm_at "len")))) (fun H13 e13 hb => absurd hb (by rw [eF]; simp [Eq1])) (fun H13 e13 hb => ?_)
    have d13 := e13.dice; replace r_dice := up r_dice e13; replace r_sorts := up r_sorts e13; replace r_clerk := up r_clerk e13; replace r_rows := up r_rows e13; replace r_total := up r_total e13; replace r_due := up r_due e13; replace r_others := up r_others e13; replace r_cut := up r_cut e13; replace r_told := up r_told e13; replace r_left := up r_left e13; replace r_right := up r_right e13
    refine q_set d13 (ev_d1 (ea_cons1 (ev_var rfl r_dice) (ea_cons1 ev_int ea_nil)) (by wtm_at "pre")) fun v_often x_often H14 e14 h_often r_often => ?_
    have d14 := e14.dice; replace r_dice := up r_dice e14; replace r_sorts := up r_sorts e14; replace r_clerk := up r_clerk e14; replace r_rows := up r_rows e14; replace r_total := up r_total e14; replace r_due := up r_due e14; replace r_others := up r_others e14; replace r_cut := up r_cut e14; replace r_told := up r_told e14; replace r_left := up r_left e14; replace r_right := up r_right e14
    replace h_often : 0 ≤ x_often ∧ x_often < 30 := h_often
    have l0 : ((x_rows.length : Nat) : Int) > 0 := by omega
    have hz1 : (0 : Int) ≤ 0 ∧ (0 : Int) < (x_rows.length : Int) := ⟨by omega, l0⟩
    refine q_set d14 (ev_df (ea_cons1 (ev_var rfl r_clerk) (ea_cons1 (ev_op1 o_rep (ev_lst (ea_consA (ev_ixL (ev_var rfl r_rows) ev_int (atI_getD (d := []) hz1)) ea_nilA) (by wtm_at "len")) (ev_var rfl r_often) (by exact ⟨h_often.1, by omega, by show 1 * x_often.toNat ≤ 1000000; omega⟩)) (ea_cons1 (ev_var rfl r_sorts) ea_nil))) (by dsimp only; rw [flat1]; exact ⟨hs, by rw [List.length_replicate]; omega, fun r hr => by rw [List.eq_of_mem_replicate hr]; exact g0⟩)) fun v_same x_same H15 e15 h_same r_same => ?_
    have oft : ((x_often.toNat : Nat) : Int) = x_often := Int.toNat_of_nonneg h_often.1
    have hsame : x_same = ((x_rows.getD (0 : Int).toNat []).map (· * x_often)).map (see x_clerk) := by
      refine Eq.trans h_same ?_
      dsimp only
      rw [flat1, sum_rep g0, oft]
    have gm : ∀ l : List Int, good x_sorts.toNat l → good x_sorts.toNat (l.map (· * x_often)) := fun l hl => ⟨by rw [List.length_map]; exact hl.1, fun y hy => by obtain ⟨z, hz, rfl⟩ := List.mem_map.mp hy; exact Int.mul_nonneg (hl.2 z hz) h_often.1⟩
    have om : isOrd ((x_rows.getD (0 : Int).toNat []).map (· * x_often)) := ord_of (gm _ g0) hn.1 hn.2
    have g1 := good_see hc g0
    have om2 : isOrd (((x_rows.getD (0 : Int).toNat []).map (see x_clerk)).map (· * x_often)) := ord_of (gm _ g1) hn.1 hn.2
    have o0 : isOrd (x_rows.getD (0 : Int).toNat []) := ord_of g0 hn.1 hn.2
    have o1 : isOrd ((x_rows.getD (0 : Int).toNat []).map (see x_clerk)) := ord_of g1 hn.1 hn.2
    have d15 := e15.dice; replace r_dice := up r_dice e15; replace r_sorts := up r_sorts e15; replace r_clerk := up r_clerk e15; replace r_rows := up r_rows e15; replace r_total := up r_total e15; replace r_due := up r_due e15; replace r_others := up r_others e15; replace r_cut := up r_cut e15; replace r_told := up r_told e15; replace r_left := up r_left e15; replace r_right := up r_right e15; replace r_often := up r_often e15
    refine q_ret d15 (ev_and (ev_opt o_eqD (ev_var rfl r_same) (ev_cif (ev_var rfl r_clerk) (ea_cons1 (ev_df (ea_cons1 (ev_ixL (ev_var rfl r_rows) ev_int (atI_getD (d := []) hz1)) (ea_cons1 (ev_var rfl r_often) ea_nil)) (by exact ⟨o0, h_often.1, by omega⟩)) ea_nil) (by exact om))) (fun _ => (ev_opt o_eqD (ev_var rfl r_same) (ev_cif (ev_var rfl r_clerk) (ea_cons1 (ev_df (ea_cons1 (ev_cif (ev_var rfl r_clerk) (ea_cons1 (ev_ixL (ev_var rfl r_rows) ev_int (atI_getD (d := []) hz1)) ea_nil) (by exact o0)) (ea_cons1 (ev_var rfl r_often) ea_nil)) (by exact ⟨o1, h_often.1, by omega⟩)) ea_nil) (by exact om2))))) fun v z H16 e16 hz rz => ?_
    exact k v z H16 (((((((((((((((e1.trans e2).trans e3).trans e4).trans e5).trans e6).trans e7).trans e8).trans e9).trans e10).trans e11).trans e12).trans e13).trans e14).trans e15).trans e16) (by
      refine Eq.trans hz ?_
      refine Bool.and_eq_true_iff.mpr ⟨decide_eq_true hsame, decide_eq_true (hsame.trans ?_)⟩
      have h := see_mul hc g0 x_often.toNat
      rw [oft] at h
      exact h.symm) rz
end T18

namespace T18
open PySem PySem.Spec PyProof.Rows L2 GB GE T17
local macro_rules | `(tactic| wtm_at "pre") => `(tactic| first | with_reducible exact True.intro | ((try dsimp only); first | with_reducible exact True.intro | with_reducible assumption | omega | (exact Or.inl ⟨by omega, by omega⟩) | (exact Or.inr ⟨by omega, by omega⟩) | exact ⟨by omega, by omega⟩ | exact ⟨by omega, by omega, by omega⟩ | decide +kernel | (simp_all; done) | (simp_all; omega)))
local macro_rules | `(tactic| wtm_at "len") => `(tactic| first | exact len1 (by decide) | exact len2 (by decide) | exact len2 (by simp))
local macro_rules | `(tactic| wtm_at "fin") => `(tactic| first | rfl | (simp [see, finer, isInt, rng_len, Prod.ext_iff, nextA]; done) | (simp [see, finer, isInt, rng_len, Prod.ext_iff, nextA]; omega) | (simp only [see, finer]; split <;> first | rfl | omega) | (dsimp only; rw [List.filter_eq_self.2 (fun _ _ => rfl)]; done) | (dsimp only; rw [List.filter_eq_self.2 (fun _ _ => rfl)]; exact zip_map) | (dsimp only; rw [List.filter_eq_self.2 (fun _ _ => rfl)]; refine List.map_congr_left fun y _ => ?_; simp [see]; done) | (simp [see, finer, isInt, rng_len, Prod.ext_iff, nextA] <;> omega))
local macro_rules | `(tactic| wtm_at "nev") => `(tactic| first | (simp_all [Eq1]; done) | (simp_all [Eq1, isInt]; done) | (simp [Eq1, isInt] at *; omega))
abbrev s_law : Stmt := top 41
def N_law : List Str := ["script", "at", "dice", "turn"]
theorem sc_law : FnScope N_law ["script"] (defScope s_law) := ⟨rfl, rfl, rfl, by decide +kernel, rfl, by decide +kernel, by decide +kernel⟩
theorem ok_law {N : En} {fd : FuncData} (T : Txt N) (F : FunD N.K "law" "law" (defArgs s_law) (defBody s_law) (defScope s_law) [] [] (N.ga "law") fd) (D__law_dice : Dn N 1 "_law_dice" (sp__law_dice N)) (D__law_right : Dn N 7 "_law_right" (sp__law_right N)) : FnOk N.P N.w N.K N.mg N.base (L2.CX N.P N.w) 8 (N.ga "law") fd ["script"] (sp_law N.K) := by
  refine law_mk F sc_law (fun vs H Q E h => by obtain ⟨_, _, rfl, _⟩ := h; rfl) ?_
  rintro cdv A outer s H vs Q E hr ⟨v_script, x_script, rfl, r_script, k0⟩
  have d0 : DiceM none H := trivial
  refine ⟨_, (pss_cons (ps_for (passes_of rfl) rfl (pi_range1 (by rfl) T.n_range (pa_cons (pe_callB (call_max2 rfl) (by rfl) T.n_max (by decide +kernel) (pa_cons pe_int (pa_cons (pe_callB (call_min2 rfl) (by rfl) T.n_min (by decide +kernel) (pa_cons pe_int (pa_cons (pe_callB call_len_seq (by rfl) T.n_len (by decide +kernel) (pa_cons (pv 0) pa_nil)) pa_nil))) pa_nil))) pa_nil)) (pg_name (i := 1) sc_law.nd rfl (by first | exact Or.inl rfl | exact Or.inr rfl))
      (pss_cons (ps_set (i := 2) sc_law.nd rfl (by first | exact Or.inl rfl | exact Or.inr rfl) (pe_d D__law_dice (hr.mono (by decide)) (by rfl) (passes_call (takes_of rfl rfl rfl rfl) fun _ _ _ _ z => z) (pa_cons (pv 0) (pa_cons (pv 1) pa_nil))))
    (pss_one (ps_for (passes_of rfl) rfl (pi_range1 (by rfl) T.n_range (pa_cons pe_int pa_nil)) (pg_name (i := 3) sc_law.nd rfl (by first | exact Or.inl rfl | exact Or.inr rfl))
      (pss_one (ps_if (pt_not (pt_val (pe_d D__law_right (hr.mono (by decide)) (by rfl) (passes_call (takes_of rfl rfl rfl rfl) fun _ _ _ _ z => z) (pa_cons (pv 2) pa_nil))))
      (pss_one (ps_ret pe_bl)) pss_nil))))))
    (pss_one (ps_ret pe_bl))), ?_⟩
  refine q_for1 (M := none) d0 ((ea_cons1 (ev_cbf c_max (ea_cons1 ev_int (ea_cons1 (ev_cbf c_min (ea_cons1 ev_int (ea_cons1 (ev_cbf c_lenQ (ea_cons1 (ev_var rfl r_script) ea_nil)) ea_nil))) ea_nil))) ea_nil).imp rg1) (by dsimp only; constructor <;> (repeat' split) <;> omega) (fun i σ' H' => ∃ (o_at : Option V) (o_dice : Option V) (o_turn : Option V), σ' = [some v_script, o_at, o_dice, o_turn] ∧ Xt none H H' ∧ (True)) (fun H' e0' => ⟨_, _, _, rfl, e0', trivial⟩) (fun x_at σ' H1 hi0 hi1 hI => ?_) (fun σ' H1 hI => ?_)
  · obtain ⟨o_at, o_dice, o_turn, rfl, e1, hI⟩ := hI
    replace r_script := up r_script e1
    replace hi1 : x_at < 99 := Int.lt_of_lt_of_le hi1 (by dsimp only; (repeat' split) <;> omega)
    refine ⟨_, rfl, _, rfl, v_script, x_script, x_at, rfl, r_script, ⟨hi0, by omega⟩, fun d H2 x y e2 hd hH2 => ?_⟩
    have d2 : DiceM (some d) H2 := ⟨x, y, 0, hH2⟩
    refine l_for1 (M := some d) d2 ((ea_cons1 ev_int ea_nil).imp rg1) (by wtm_at "pre") (fun i σ' H' => ∃ (o_turn : Option V), σ' = [some v_script, some (.int x_at), some (.ref d), o_turn] ∧ Xt (some d) H2 H' ∧ (True)) (fun H' e0' => ⟨_, rfl, e0', trivial⟩) (fun x_turn σ' H3 hi0 hi1 hI => ?_) (fun σ' H3 hI => ?_)
    · obtain ⟨o_turn, rfl, e3, hI⟩ := hI
      have d3 := e3.dice
      refine q_if0 d3 (et_not (et_val (ev_df (ea_cons1 (ev_var (R := RD (some d)) (x := d) rfl ⟨rfl, rfl⟩) ea_nil) (by wtm_at "pre")))) (fun H4 e4 hb => absurd hb (by simp [Eq1])) (fun H4 e4 hb => ?_)
      exact ⟨_, rfl, e3.trans e4, trivial⟩
    · obtain ⟨o_turn, rfl, e3, hI⟩ := hI
      exact ⟨_, _, _, rfl, xt_mix e1 hd e2 e3, trivial⟩
  · obtain ⟨o_at, o_dice, o_turn, rfl, e1, hI⟩ := hI
    refine q_ret (M := none) e1.dice ev_bl fun v z H2 e2 hz rz => ?_
    cases (show z = true from hz)
    cases (show v = V.bl true from rz)
    exact k0 H2
end T18

namespace T18
open PySem PySem.Spec PyProof.Rows L2 GB GE
def fn : List He.DefD := [⟨("is_integer", none), "is_integer", "is_integer", defArgs s_is_integer, defBody s_is_integer, defScope s_is_integer, [], []⟩, ⟨("Numbers", some "__init__"), "__init__", "Numbers.__init__", defArgs s_Numbers___init__, defBody s_Numbers___init__, defScope s_Numbers___init__, [], []⟩, ⟨("checked", none), "checked", "checked", defArgs s_checked, defBody s_checked, defScope s_checked, [], []⟩, ⟨("Clerk", some "__init__"), "__init__", "Clerk.__init__", defArgs s_Clerk___init__, defBody s_Clerk___init__, defScope s_Clerk___init__, [.int 1], []⟩, ⟨("is_order", none), "is_order", "is_order", defArgs s_is_order, defBody s_is_order, defScope s_is_order, [], []⟩, ⟨("require_order", none), "require_order", "require_order", defArgs s_require_order, defBody s_require_order, defScope s_require_order, [], []⟩, ⟨("require_equal_sorts", none), "require_equal_sorts", "require_equal_sorts", defArgs s_require_equal_sorts, defBody s_require_equal_sorts, defScope s_require_equal_sorts, [], []⟩, ⟨("plus", none), "plus", "plus", defArgs s_plus, defBody s_plus, defScope s_plus, [], []⟩, ⟨("taken", none), "taken", "taken", defArgs s_taken, defBody s_taken, defScope s_taken, [], []⟩, ⟨("times", none), "times", "times", defArgs s_times, defBody s_times, defScope s_times, [], []⟩, ⟨("require_count", none), "require_count", "require_count", defArgs s_require_count, defBody s_require_count, defScope s_require_count, [], []⟩, ⟨("seen_count", none), "seen_count", "seen_count", defArgs s_seen_count, defBody s_seen_count, defScope s_seen_count, [], []⟩, ⟨("seen", none), "seen", "seen", defArgs s_seen, defBody s_seen, defScope s_seen, [], []⟩, ⟨("is_any_sight", none), "is_any_sight", "is_any_sight", defArgs s_is_any_sight, defBody s_is_any_sight, defScope s_is_any_sight, [], []⟩, ⟨("Clerk", some "__call__"), "__call__", "Clerk.__call__", defArgs s_Clerk___call__, defBody s_Clerk___call__, defScope s_Clerk___call__, [], []⟩, ⟨("Clerk", some "next_alike"), "next_alike", "Clerk.next_alike", defArgs s_Clerk_next_alike, defBody s_Clerk_next_alike, defScope s_Clerk_next_alike, [], []⟩, ⟨("Clerk", some "added"), "added", "Clerk.added", defArgs s_Clerk_added, defBody s_Clerk_added, defScope s_Clerk_added, [], []⟩, ⟨("_law_dice", none), "_law_dice", "_law_dice", defArgs s__law_dice, defBody s__law_dice, defScope s__law_dice, [], []⟩, ⟨("_law_roll", none), "_law_roll", "_law_roll", defArgs s__law_roll, defBody s__law_roll, defScope s__law_roll, [], []⟩, ⟨("_law_order", none), "_law_order", "_law_order", defArgs s__law_order, defBody s__law_order, defScope s__law_order, [], []⟩, ⟨("_law_plus", none), "_law_plus", "_law_plus", defArgs s__law_plus, defBody s__law_plus, defScope s__law_plus, [], []⟩, ⟨("_law_seen", none), "_law_seen", "_law_seen", defArgs s__law_seen, defBody s__law_seen, defScope s__law_seen, [], []⟩, ⟨("_law_summed", none), "_law_summed", "_law_summed", defArgs s__law_summed, defBody s__law_summed, defScope s__law_summed, [], []⟩, ⟨("_law_mixed", none), "_law_mixed", "_law_mixed", defArgs s__law_mixed, defBody s__law_mixed, defScope s__law_mixed, [], []⟩, ⟨("_law_raised", none), "_law_raised", "_law_raised", defArgs s__law_raised, defBody s__law_raised, defScope s__law_raised, [], []⟩, ⟨("_law_is_same", none), "_law_is_same", "_law_is_same", defArgs s__law_is_same, defBody s__law_is_same, defScope s__law_is_same, [], []⟩, ⟨("_law_right", none), "_law_right", "_law_right", defArgs s__law_right, defBody s__law_right, defScope s__law_right, [], []⟩, ⟨("law", none), "law", "law", defArgs s_law, defBody s_law, defScope s_law, [], []⟩]
def fa : List He.Fa := [.free "int", .free "bool", .free "tuple", .free "list", .free "len", .free "range", .free "max", .free "min", .free "dict", .free "str", .free "zip", .free "all", .free "abs", .free "isinstance", .int "MAX_SORTS" 3, .int "MAX_TIMES" 99, .int "MAX_CAP" 12, .int "MAX_MODULUS" 12, .glo "Clerk", .glo "Numbers", .cls "Clerk", .noat "Clerk" "own_cap", .noat "Clerk" "own_modulus", .mkr "Clerk", .mkr "Numbers", .glo "is_integer", .glo "checked", .meth "Clerk" "__init__", .glo "is_order", .glo "require_order", .glo "require_equal_sorts", .glo "plus", .glo "taken", .glo "times", .glo "require_count", .glo "seen_count", .glo "seen", .glo "is_any_sight", .meth "Clerk" "__call__", .meth "Clerk" "next_alike", .meth "Clerk" "added", .glo "_law_dice", .glo "_law_roll", .glo "_law_order", .glo "_law_plus", .glo "_law_seen", .glo "_law_summed", .glo "_law_mixed", .glo "_law_raised", .glo "_law_is_same", .glo "_law_right", .glo "law"]
def pr : List PrD := [⟨"Clerk", "cap", "Clerk.cap", s_Clerk_cap⟩, ⟨"Clerk", "modulus", "Clerk.modulus", s_Clerk_modulus⟩]
def exB (i : Nat) (K : GE.Frag) : Bool := match i with
  | 0 => PySem.W.fnIn K (He.ma K (He.ga K "Clerk") "__call__")
  | 1 => kitB K (.type "int") (.type "bool") false
  | 2 => kitB K (.type "int") (.ref (He.ga K "Numbers")) false
  | 3 => kitB K (.ref (He.ga K "Numbers")) (.ref (He.ga K "Numbers")) true
  | 4 => kitB K (.type "tuple") (.type "dict") false
  | 5 => decide (PySem.W.kitAny K (.type "tuple") [.type "tuple", .type "list"] = some true)
  | 6 => kitB K (.type "list") (.type "dict") false
  | 7 => decide (PySem.W.kitAny K (.type "list") [.type "tuple", .type "list"] = some true)
  | 8 => kitB K (.type "int") (.type "dict") false
  | 9 => decide (PySem.W.kitAny K (.type "int") [.type "tuple", .type "list"] = some false)
  | 10 => kitB K (.type "list") (.type "tuple") false
  | 11 => kitB K (.type "int") (.type "str") false
  | 12 => sclsB K (He.ga K "Numbers")
  | 13 => isiB K (He.ga K "Numbers")
  | 14 => slotB K (He.ga K "Numbers") "own_cap" 0
  | 15 => slotB K (He.ga K "Numbers") "own_modulus" 1
  | _ => true
def ex (K : GE.Frag) : Bool := (List.range 16).all fun i => exB i K
def loose : List PySem.Str := (["_wall", "ClerkError", "InvalidOrder", "InvalidClerk", "InvalidOperation", "InvalidNumber", "MAX_SORTS", "MAX_TIMES", "is_integer", "is_order", "require_order", "require_equal_sorts", "plus", "taken", "times", "MAX_CAP", "MAX_MODULUS", "Numbers", "checked", "common_divisor"] : List PySem.Str) ++ (["Clerk", "clerk_in", "require_clerk", "require_count", "seen_count", "seen", "is_any_sight", "_law_is_same", "_law_dice", "_law_roll", "_law_mixed", "_law_order", "_law_plus", "_law_seen", "_law_summed", "_law_raised", "_law_right"] : List PySem.Str)
abbrev R : PySem.W.OpenRow := PySem.W.OpenLaw.row PySem.Challenge.rw_clerkblurs_k18_whole_sums_seen_piece_by
abbrev hk : PySem.W.Hook := hookP 5 fa fn pr ex
def ob (s : PySem.W.SharedT) : AlP := obP 5 fa fn pr ex (HandSHeadRun.getT s)
theorem ob_eq (s : PySem.W.SharedT) : ob s = hk.obs s.abs := obP_eq (HandSHeadRun.getT_eq s)
theorem run (w : World) : HandSHeadRun.RunEq R (PySem.W.view R.prog [41]) hk ob 20000 loose w := by
  intro os
  kernel_rfl
theorem txt {N : En} {h : Heap} (X : N.K.In h) (G : h.Ns mainGlobals N.mg) (c : SaysP fa fn pr ex N.K) : Txt N := by
  have e : ∀ i, i < 16 → exB i N.K = true := fun i hi => List.all_eq_true.mp c.more i (List.mem_range.mpr hi)
  exact {
    n_int := He.free_ok X G (c.d.fact 0 (f := .free "int") rfl)
    n_bool := He.free_ok X G (c.d.fact 1 (f := .free "bool") rfl)
    n_tuple := He.free_ok X G (c.d.fact 2 (f := .free "tuple") rfl)
    n_list := He.free_ok X G (c.d.fact 3 (f := .free "list") rfl)
    n_len := He.free_ok X G (c.d.fact 4 (f := .free "len") rfl)
    n_range := He.free_ok X G (c.d.fact 5 (f := .free "range") rfl)
    n_max := He.free_ok X G (c.d.fact 6 (f := .free "max") rfl)
    n_min := He.free_ok X G (c.d.fact 7 (f := .free "min") rfl)
    n_dict := He.free_ok X G (c.d.fact 8 (f := .free "dict") rfl)
    n_str := He.free_ok X G (c.d.fact 9 (f := .free "str") rfl)
    n_zip := He.free_ok X G (c.d.fact 10 (f := .free "zip") rfl)
    n_all := He.free_ok X G (c.d.fact 11 (f := .free "all") rfl)
    n_abs := He.free_ok X G (c.d.fact 12 (f := .free "abs") rfl)
    n_isinstance := He.free_ok X G (c.d.fact 13 (f := .free "isinstance") rfl)
    i_MAX_SORTS := He.int_ok X G (c.d.fact 14 (f := .int "MAX_SORTS" 3) rfl)
    i_MAX_TIMES := He.int_ok X G (c.d.fact 15 (f := .int "MAX_TIMES" 99) rfl)
    i_MAX_CAP := He.int_ok X G (c.d.fact 16 (f := .int "MAX_CAP" 12) rfl)
    i_MAX_MODULUS := He.int_ok X G (c.d.fact 17 (f := .int "MAX_MODULUS" 12) rfl)
    g_Clerk := He.glo_ok X G (c.d.fact 18 (f := .glo "Clerk") rfl)
    g_Numbers := He.glo_ok X G (c.d.fact 19 (f := .glo "Numbers") rfl)
    c_Clerk := He.cls_ok (c.d.fact 20 (f := .cls "Clerk") rfl)
    na_Clerk_own_cap := He.noat_ok (c.d.fact 21 (f := .noat "Clerk" "own_cap") rfl)
    na_Clerk_own_modulus := He.noat_ok (c.d.fact 22 (f := .noat "Clerk" "own_modulus") rfl)
    fi_Clerk := id (e 0 (by decide))
    mk_Clerk := He.mkr_ok (c.d.fact 23 (f := .mkr "Clerk") rfl)
    mk_Numbers := He.mkr_ok (c.d.fact 24 (f := .mkr "Numbers") rfl)
    kt_int_bool := kitB_ok (e 1 (by decide))
    kt_int_Numbers := kitB_ok (e 2 (by decide))
    kt_Numbers_Numbers := kitB_ok (e 3 (by decide))
    kt_tuple_dict := kitB_ok (e 4 (by decide))
    kt_tuple_tuplelist := of_decide_eq_true (e 5 (by decide))
    kt_list_dict := kitB_ok (e 6 (by decide))
    kt_list_tuplelist := of_decide_eq_true (e 7 (by decide))
    kt_int_dict := kitB_ok (e 8 (by decide))
    kt_int_tuplelist := of_decide_eq_true (e 9 (by decide))
    kt_list_tuple := kitB_ok (e 10 (by decide))
    kt_int_str := kitB_ok (e 11 (by decide))
    sc_Numbers := sclsB_ok (e 12 (by decide))
    is_Numbers := isiB_ok (e 13 (by decide))
    sl_cap := slotB_ok (e 14 (by decide))
    sl_modulus := slotB_ok (e 15 (by decide))
  }
theorem facts {P : Program} {w : World} {K : GE.Frag} {h : Heap} {mg : Str → Option Value} {f : Addr} (X : K.In h) (G : h.Ns mainGlobals mg) (hfa : mg ("law" : Str) = some (.ref f)) (c : SaysP fa fn pr ex K) :
    ∃ fd : FuncData, (∀ (s : Shared) (v : Value), BindsTo s fd ⟨[v], []⟩ [("script", v)]) ∧ ∀ base : Heap, K.In base → base.Ns mainGlobals mg → FnOk P w K mg base (L2.CX P w) 8 f fd ["script"] (sp_law K) := by
  obtain ⟨fd, F0⟩ := c.d.def_ 27 rfl
  have e := hfa.symm.trans (He.glo_ok X G (c.d.fact 51 (f := .glo "law") rfl))
  cases e
  have b := FunD.bindsA (ps := ["script"]) F0 fun _ _ _ _ _ _ us hl => match us, hl with | [_], _ => rfl
  refine ⟨fd, fun s v => b s [v] rfl, fun base _ _ => ?_⟩
  let N : En := ⟨P, w, K, mg, base⟩
  have T : Txt N := txt X G c
  have ok_is_integer_ := ok_is_integer T (⟨c.d.def_ 0 rfl, He.glo_ok X G (c.d.fact 25 (f := .glo "is_integer") rfl)⟩) 
  have ok_Numbers_ := ok_Numbers T (c.d.def_ 1 rfl) 
  have ok_checked_ := ok_checked T (⟨c.d.def_ 2 rfl, He.glo_ok X G (c.d.fact 26 (f := .glo "checked") rfl)⟩) ok_is_integer_ ok_Numbers_
  have ok_Clerk_cap_ := ok_Clerk_cap T (c.prop (N := N) 0 rfl (He.cls_ok (c.d.fact 20 (f := .cls "Clerk") rfl))) 
  have ok_Clerk_modulus_ := ok_Clerk_modulus T (c.prop (N := N) 1 rfl (He.cls_ok (c.d.fact 20 (f := .cls "Clerk") rfl))) 
  have ok_Clerk_ := ok_Clerk T (⟨c.d.def_ 3 rfl, He.meth_ok (c.d.fact 27 (f := .meth "Clerk" "__init__") rfl), He.cls_ok (c.d.fact 20 (f := .cls "Clerk") rfl)⟩) ok_checked_
  have ok_ClerkN_ := ok_ClerkN T (⟨c.d.def_ 3 rfl, He.meth_ok (c.d.fact 27 (f := .meth "Clerk" "__init__") rfl), He.cls_ok (c.d.fact 20 (f := .cls "Clerk") rfl)⟩) ok_checked_
  have ok_is_order_ := ok_is_order T (⟨c.d.def_ 4 rfl, He.glo_ok X G (c.d.fact 28 (f := .glo "is_order") rfl)⟩) ok_is_integer_
  have ok_require_order_ := ok_require_order T (⟨c.d.def_ 5 rfl, He.glo_ok X G (c.d.fact 29 (f := .glo "require_order") rfl)⟩) ok_is_order_
  have ok_require_equal_sorts_ := ok_require_equal_sorts T (⟨c.d.def_ 6 rfl, He.glo_ok X G (c.d.fact 30 (f := .glo "require_equal_sorts") rfl)⟩) 
  have ok_plus_ := ok_plus T (⟨c.d.def_ 7 rfl, He.glo_ok X G (c.d.fact 31 (f := .glo "plus") rfl)⟩) 
  have ok_taken_ := ok_taken T (⟨c.d.def_ 8 rfl, He.glo_ok X G (c.d.fact 32 (f := .glo "taken") rfl)⟩) 
  have ok_times_ := ok_times T (⟨c.d.def_ 9 rfl, He.glo_ok X G (c.d.fact 33 (f := .glo "times") rfl)⟩) ok_require_order_ ok_is_integer_ ok_taken_
  have ok_require_count_ := ok_require_count T (⟨c.d.def_ 10 rfl, He.glo_ok X G (c.d.fact 34 (f := .glo "require_count") rfl)⟩) ok_is_integer_
  have ok_seen_count_ := ok_seen_count T (⟨c.d.def_ 11 rfl, He.glo_ok X G (c.d.fact 35 (f := .glo "seen_count") rfl)⟩) 
  have ok_seen_ := ok_seen T (⟨c.d.def_ 12 rfl, He.glo_ok X G (c.d.fact 36 (f := .glo "seen") rfl)⟩) ok_seen_count_
  have ok_is_any_sight_ := ok_is_any_sight T (⟨c.d.def_ 13 rfl, He.glo_ok X G (c.d.fact 37 (f := .glo "is_any_sight") rfl)⟩) ok_is_integer_
  have ok_Clerk___call___ := ok_Clerk___call__ T (⟨c.d.def_ 14 rfl, He.meth_ok (c.d.fact 38 (f := .meth "Clerk" "__call__") rfl), He.cls_ok (c.d.fact 20 (f := .cls "Clerk") rfl)⟩) ok_require_order_ ok_seen_
  have ok_Clerk_next_alike_ := ok_Clerk_next_alike T (⟨c.d.def_ 15 rfl, He.meth_ok (c.d.fact 39 (f := .meth "Clerk" "next_alike") rfl), He.cls_ok (c.d.fact 20 (f := .cls "Clerk") rfl)⟩) ok_require_count_
  have ok_Clerk_added_ := ok_Clerk_added T (⟨c.d.def_ 16 rfl, He.meth_ok (c.d.fact 40 (f := .meth "Clerk" "added") rfl), He.cls_ok (c.d.fact 20 (f := .cls "Clerk") rfl)⟩) ok_is_any_sight_ ok_require_order_ ok_require_equal_sorts_ ok_plus_ ok_seen_
  have ok__law_dice_ := ok__law_dice T (⟨c.d.def_ 17 rfl, He.glo_ok X G (c.d.fact 41 (f := .glo "_law_dice") rfl)⟩) 
  have ok__law_roll_ := ok__law_roll T (⟨c.d.def_ 18 rfl, He.glo_ok X G (c.d.fact 42 (f := .glo "_law_roll") rfl)⟩) 
  have ok__law_order_ := ok__law_order T (⟨c.d.def_ 19 rfl, He.glo_ok X G (c.d.fact 43 (f := .glo "_law_order") rfl)⟩) ok__law_roll_
  have ok__law_plus_ := ok__law_plus T (⟨c.d.def_ 20 rfl, He.glo_ok X G (c.d.fact 44 (f := .glo "_law_plus") rfl)⟩) 
  have ok__law_seen_ := ok__law_seen T (⟨c.d.def_ 21 rfl, He.glo_ok X G (c.d.fact 45 (f := .glo "_law_seen") rfl)⟩) 
  have ok__law_summed_ := ok__law_summed T (⟨c.d.def_ 22 rfl, He.glo_ok X G (c.d.fact 46 (f := .glo "_law_summed") rfl)⟩) ok_Clerk___call___ ok_Clerk_added_
  have ok__law_mixed_ := ok__law_mixed T (⟨c.d.def_ 23 rfl, He.glo_ok X G (c.d.fact 47 (f := .glo "_law_mixed") rfl)⟩) ok__law_roll_
  have ok__law_raised_ := ok__law_raised T (⟨c.d.def_ 24 rfl, He.glo_ok X G (c.d.fact 48 (f := .glo "_law_raised") rfl)⟩) ok__law_roll_ ok_Clerk_next_alike_
  have ok__law_is_same0_ := ok__law_is_same0 T (⟨c.d.def_ 25 rfl, He.glo_ok X G (c.d.fact 49 (f := .glo "_law_is_same") rfl)⟩) 
  have ok__law_is_same1_ := ok__law_is_same1 T (⟨c.d.def_ 25 rfl, He.glo_ok X G (c.d.fact 49 (f := .glo "_law_is_same") rfl)⟩) ok__law_is_same0_
  have ok__law_is_same2_ := ok__law_is_same2 T (⟨c.d.def_ 25 rfl, He.glo_ok X G (c.d.fact 49 (f := .glo "_law_is_same") rfl)⟩) ok__law_is_same1_
  have ok__law_right_ := ok__law_right T (⟨c.d.def_ 26 rfl, He.glo_ok X G (c.d.fact 50 (f := .glo "_law_right") rfl)⟩) ok__law_roll_ ok_Clerk_ ok__law_order_ ok__law_plus_ ok_Clerk_cap_ ok_Clerk_modulus_ ok__law_seen_ ok__law_raised_ ok_Clerk___call___ ok__law_summed_ ok__law_mixed_ ok_Clerk_added_ ok__law_is_same2_ ok_times_
  have ok_law_ := ok_law T (F0) ok__law_dice_ ok__law_right_
  exact ok_law_
end T18
open PySem PySem.W PySem.Calls PyProof.Rows
theorem PySem.Challenge.cw_clerkblurs_k18_whole_sums_seen_piece_by_holds : PySem.Challenge.rw_clerkblurs_k18_whole_sums_seen_piece_by.Holds := by
  w_on; o_law
  refine HandSHeadRun.head_any (r := OpenLaw.row PySem.Challenge.rw_clerkblurs_k18_whole_sums_seen_piece_by) (q := view (OpenLaw.row PySem.Challenge.rw_clerkblurs_k18_whole_sums_seen_piece_by).prog [41]) (H := T18.hk) (ob := T18.ob) (M := 20000) (loose := T18.loose) (d := HandSHeadRun.topDef (OpenLaw.row PySem.Challenge.rw_clerkblurs_k18_whole_sums_seen_piece_by).prog 41) (kwd := []) T18.ob_eq
    (by kernel_rfl) (fun s => by kernel_rfl) T18.run (by kernel_rfl) (by kernel_rfl) (by kernel_rfl) (by rfl) (by first | assumption | decide +kernel) (by decide +kernel) ⟨rfl, rfl, rfl, rfl, rfl, by decide +kernel⟩ ?hw ?hc
  case hw => w_witness2
  case hc =>
    refine LamX.walk_ofTsE (l := PySem.Challenge.rw_clerkblurs_k18_whole_sums_seen_piece_by) (n := 63) (k := 8) (x := "script") (CX := fun w => L2.CX (PySem.Challenge.rw_clerkblurs_k18_whole_sums_seen_piece_by).prog w) rfl (by decide) (by kernel_rfl) ⟨rfl, by decide, by decide⟩ ?F (fun _ _ _ _ _ ⟨_, _, _, _, _, _, _, _, _, _, _, _, z⟩ => z.elim)
    intro w mg fa h Y G hmg0
    obtain ⟨K, KX, c⟩ := Y
    have hmg : mg ("law" : PySem.Str) = some (.ref fa) := by
      have e : (HandSHeadRun.topDef (OpenLaw.row PySem.Challenge.rw_clerkblurs_k18_whole_sums_seen_piece_by).prog 41).name = ("law" : PySem.Str) := by kernel_rfl
      rw [← e]
      exact hmg0
    obtain ⟨fd, hb, hF⟩ := T18.facts (P := (PySem.Challenge.rw_clerkblurs_k18_whole_sums_seen_piece_by).prog) (w := w) KX G hmg c
    refine ⟨K, KX, ?_⟩
    unfold LamX.LawAtS
    exact ⟨fd, [], GE.sp_law K, fun _ hp => absurd hp List.not_mem_nil, fun _ hp => absurd hp List.not_mem_nil, fun _ hp => absurd hp List.not_mem_nil, hb, fun H a ns _ _ _ hS => ⟨_, ns, rfl, GE.rsq_of hS, fun _ => rfl⟩, fun base h1 h2 _ => hF base h1 h2⟩

