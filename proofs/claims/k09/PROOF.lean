import PyProof.Rows.All
import Wide.All
import OpenK.AllK
import Wide.FinOn
import KE.KStateDown
import HandS.ForMost
import HandS.ForExc
import HandS.Evl
import HandS.Slots
import HandS.SlotsOwn
import HandS.Property
import HandS.Star
import HandS.Wide
import HandS.IsInst
import HandS.Defaults
import HandS.TupAny
import HandS.TupMul
import HandS.Conv
import HandS.HeadHook1
import HandS.HeadHook2
import HandS.HeadHook3
import HandS.HeadHook4
import HandS.Head0
import HandS.Head1
import HandS.Head2
import HandS.HeadWalk
import HandS.Zip
import PyProof.ListMulRoad
import PyProof.FactsAll.tuple_2
import KE.KStar
import HandS.FStr
import HandS.GenYield
import HandS.GenList
import HandS.Deep
import HandS.SortOrd
import HandS.TupLen
import HandS.DictTup
import KE.GoesEnum
import KE.GoesMore
import KE.DataMinMax
import KE.SortData
import OpenK.KMeth
import KE.KDictWalk
import KE.KDictDisplayH
import HandS.Walk
import HandS.TupSets
import HandS.IterVal
import KE.KOwnIter
import HandS.OwnEq
import HandS.Words
import PySem.Challenge.RW_clerkblurs_k09_whole_styles_put_together
set_option Elab.async false
set_option linter.all false
set_option maxRecDepth 100000
set_option maxHeartbeats 0
/-! GB: short judgements for defs, classes, methods, properties; the stepper; extensions of heaps. -/
namespace GB
open PySem PySem.Spec PyProof.Rows L2 Evl

abbrev Frag := PySem.W.Frag
/-- the fixed part: program, world, written part, the module's names, the base -/
structure En where
  P : Program
  w : World
  K : Frag
  mg : Str → Option Value
  base : Heap
abbrev En.ga (N : En) (x : Str) : Addr := He.ga N.K x
abbrev En.ma (N : En) (C m : Str) : Addr := He.ma N.K (He.ga N.K C) m
def Fr (N : En) (k : Nat) (f : Addr) (sp : Sp) : Prop := FnR N.P N.w N.K N.mg N.base (L2.CX N.P N.w) k f sp
/-- a def of the module -/
structure Dn (N : En) (k : Nat) (x : Str) (sp : Sp) : Prop where
  fn : Fr N k (N.ga x) sp
  g : N.mg x = some (.ref (N.ga x))
  kp : PySem.W.keepIn N.K (.ref (N.ga x)) = true
/-- a method -/
structure Dm (N : En) (k : Nat) (C m : Str) (sp : Sp) : Prop where
  fn : Fr N k (N.ma C m) sp
  m : Meth N.K (N.ga C) m (N.ma C m)
  c : Cls N.K (N.ga C)
/-- a property -/
structure Dp (N : En) (k : Nat) (C f : Str) (sp : Sp) : Prop where
  pr : ∃ g, PropOf N.K (N.ga C) f (N.ma C f) g ∧ Fr N k g sp
  c : Cls N.K (N.ga C)
/-- C(..) -/
structure Dc (N : En) (k : Nat) (C : Str) (sp : Sp) : Prop where
  mkr : ∃ spI, Mk N.K (N.ga C) (N.ma C "__init__") ∧ Fr N k (N.ma C "__init__") spI ∧ ∀ vs H Q E, sp vs H Q E → ∀ x dx, H x = Option.none → H dx = Option.none → dx ≠ x →
    spI (V.ref x :: vs) (upd (upd H dx (.own x)) x (.ins (N.ga C) dx [])) (fun v H2 => v = .non ∧ Q (.ref x) H2) E
  g : N.mg C = some (.ref (N.ga C))

/-- the context's fixed part -/
def En.of (X : Cx) : En := ⟨X.prog, X.w, X.K, X.mg, X.base⟩
section
variable {X : Cx} {k : Nat} {f C m x : Str} {sp : Sp} {E : XK} {e o : Expr} {es : List Expr} {ta : TE} {t : TA} {p pos apos : Pos}
/-- a call of a def: its promise at the arguments -/
def tD (sp : Sp) (E : XK) (t : TA) : TE := fun σ H Q => t σ H fun vs H1 => sp vs H1 Q E
theorem pe_d (D : Dn (En.of X) k x sp) (hr : Room k X.A) (hg : Gl X x) (hx : Passes (L2.CX X.prog X.w) X E) (ha : PA X (e :: es) t)
    (hdb : (x == ("__debug__" : Str)) = false := by decide) (he : starEach (e :: es) X.env = (false, eval e X.env) :: starEach es X.env := by rfl) (hpl : (backTo pos (starEach es X.env)).any (·.1) = false := by rfl) :
    PE X (.Call (.Name x p) (e :: es) [] pos) (tD sp E t) := by
  refine ⟨fun pins s σ H Q I h => ?_⟩
  refine wpAny_Call_Name_kw (ld_glob I hg D.g ?_ hdb)
  refine PySem.W.callWith_K (h₀ := X.base) I.ok.mod.kin D.kp (thn (ha.run pos pins s σ H _ I h) fun us s1 ⟨vs, H1, I1, r, q⟩ => ⟨I1.kIn, ?_⟩) he hpl
  exact wpAny_call (run_fnR D.fn hr hx I1 r q)
theorem pe_d0 (D : Dn (En.of X) k x sp) (hr : Room k X.A) (hg : Gl X x) (hx : Passes (L2.CX X.prog X.w) X E)
    (hdb : (x == ("__debug__" : Str)) = false := by decide) : PE X (.Call (.Name x p) [] [] pos) (tD sp E tNil) := by
  refine ⟨fun pins s σ H Q I h => ?_⟩
  refine wpAny_Call_Name_kw (ld_glob I hg D.g ?_ hdb)
  exact PySem.W.callWith_K0 I.kIn D.kp (wpAny_call (run_fnR (us := []) D.fn hr hx I .nil h))
theorem pe_c (D : Dc (En.of X) k C sp) (hr : Room (k + 1) X.A) (hg : Gl X C) (hx : Passes (L2.CX X.prog X.w) X E) (ha : PA X (e :: es) t)
    (hdb : (C == ("__debug__" : Str)) = false := by decide) (he : starEach (e :: es) X.env = (false, eval e X.env) :: starEach es X.env := by rfl) (hpl : (backTo pos (starEach es X.env)).any (·.1) = false := by rfl) :
    PE X (.Call (.Name C p) (e :: es) [] pos) (tD sp E t) := by
  obtain ⟨spI, M, F, imp⟩ := D.mkr
  refine ⟨fun pins s σ H Q I h => ?_⟩
  refine wpAny_Call_Name_kw (ld_glob I hg D.g ?_ hdb)
  refine PySem.W.callWith_K (h₀ := X.base) I.ok.mod.kin M.kp (thn (ha.run pos pins s σ H _ I h) fun us s1 ⟨vs, H1, I1, r, q⟩ => ⟨I1.kIn, ?_⟩) he hpl
  exact StX.run_makeR M F hr hx I1 r fun x dx h1 h2 h3 => imp _ _ _ _ q x dx h1 h2 h3
/-- o.m(e, ..) -/
def tMe (C : Addr) (m : Str) (sp : Sp) (E : XK) (ta : TE) (t : TA) : TE := fun σ H Q => ta σ H fun x H1 => ∃ a dx fs, x = .ref a ∧ H1 a = some (.ins C dx fs) ∧ fs.lookup m = Option.none ∧ t σ H1 fun vs H2 => sp (x :: vs) H2 Q E
theorem pe_m {pl : Sem Bool} (he : PE X o ta) (D : Dm (En.of X) k C m sp) (hr : Room k X.A) (hx : Passes (L2.CX X.prog X.w) X E) (ha : PA X (e :: es) t)
    (hst : starEach (e :: es) X.env = (false, eval e X.env) :: starEach es X.env := by rfl) (hpl : (backTo pos (starEach es X.env)).any (·.1) = false := by rfl)
    (ht : eval (.Call (.Attribute o m apos) (e :: es) [] pos) X.env = (do
      let ov ← eval o X.env
      standAt apos.atName
      let (f, first) ← holding [ov] (getMethod ov m pl)
      callWith pos f first (backTo pos (starEach (e :: es) X.env)) (backToKw pos (keywordEach [] X.env))) := by rfl) :
    PE X (.Call (.Attribute o m apos) (e :: es) [] pos) (tMe (He.ga X.K C) m sp E ta t) := by
  refine ⟨fun pins s σ H Q I h => ?_⟩
  refine PySem.W.methodCall_KW (pl := pl) (thn (he.run pins s σ H _ I h) fun u s1 ⟨x, H1, I1, rx, a, dx, fs, ex, ea, l, q⟩ => ?_) ht
  subst ex
  obtain rfl : u = Value.ref a := rx
  refine getmeth_ok I1 ea D.c D.m l ?_
  refine PySem.W.callWith_K (first := [.ref a]) (h₀ := X.base) I.ok.mod.kin D.m.kp (thn (ha.run pos pins s1 σ H1 _ I1 q) fun us s2 ⟨vs, H2, I2, r, q2⟩ => ⟨I2.kIn, ?_⟩) hst hpl
  exact wpAny_call (run_fnR (us := .ref a :: us) (vs := .ref a :: vs) D.fn hr hx I2 (.cons rfl r) q2)
theorem pe_m0 {pl : Sem Bool} (he : PE X o ta) (D : Dm (En.of X) k C m sp) (hr : Room k X.A) (hx : Passes (L2.CX X.prog X.w) X E)
    (ht : eval (.Call (.Attribute o m apos) [] [] pos) X.env = (do
      let ov ← eval o X.env
      standAt apos.atName
      let (f, first) ← holding [ov] (getMethod ov m pl)
      callWith pos f first (backTo pos (starEach [] X.env)) (backToKw pos (keywordEach [] X.env))) := by rfl) :
    PE X (.Call (.Attribute o m apos) [] [] pos) (tMe (He.ga X.K C) m sp E ta tNil) := by
  refine ⟨fun pins s σ H Q I h => ?_⟩
  refine PySem.W.methodCall_KW (pl := pl) (thn (he.run pins s σ H _ I h) fun u s1 ⟨x, H1, I1, rx, a, dx, fs, ex, ea, l, q⟩ => ?_) ht
  subst ex
  obtain rfl : u = Value.ref a := rx
  refine getmeth_ok I1 ea D.c D.m l ?_
  exact PySem.W.callWith_K0 (first := [.ref a]) I1.kIn D.m.kp (wpAny_call (run_fnR (us := [.ref a]) (vs := [.ref a]) D.fn hr hx I1 (.cons rfl .nil) q))
/-- f(e, ..), f an instance -/
def tCI (C : Addr) (sp : Sp) (E : XK) (tf : TE) (t : TA) : TE := fun σ H Q => tf σ H fun y H1 => ∃ a, y = V.ref a ∧ t σ H1 fun vs H2 => (∃ dx fs, H2 a = some (.ins C dx fs)) ∧ sp (V.ref a :: vs) H2 Q E
theorem pe_ci {fe : Expr} {tf : TE} (hf : PE X fe tf) (D : Dm (En.of X) k C "__call__" sp) (hfi : PySem.W.fnIn X.K (He.ma X.K (He.ga X.K C) "__call__") = true) (hr : Room k X.A) (hx : Passes (L2.CX X.prog X.w) X E) (ha : PA X (e :: es) t)
    (ht : eval (.Call fe (e :: es) [] pos) X.env = (do callWith pos (← eval fe X.env) [] (backTo pos (starEach (e :: es) X.env)) (backToKw pos (keywordEach [] X.env))) := by rfl)
    (he : starEach (e :: es) X.env = (false, eval e X.env) :: starEach es X.env := by rfl) (hpl : (backTo pos (starEach es X.env)).any (·.1) = false := by rfl) : PE X (.Call fe (e :: es) [] pos) (tCI (He.ga X.K C) sp E tf t) := by
  refine ⟨fun pins s σ H Q I h => ?_⟩
  refine Call_ (thn (hf.run pins s σ H _ I h) fun u s1 ⟨y, H1, I1, ry, a, ey, q⟩ => ?_) ht
  subst ey
  obtain rfl : u = Value.ref a := ry
  refine StX.callO_with (thn (ha.run pos pins s1 σ H1 _ I1 q) fun us s2 ⟨vs, H2, I2, r, hi, q2⟩ => ?_) he hpl
  obtain ⟨ox, od, J, hd⟩ := StX.insC_at I2 (.inr hi)
  exact ⟨⟨He.ga X.K C, ox, od, J, hd⟩, StX.run_callO (C := He.ga X.K C) ⟨D.m.at_, D.m.fn, hfi⟩ D.fn hr hx I2 (.inr hi) r q2⟩
/-- e.f, a property -/
def tPr (C : Addr) (sp : Sp) (E : XK) (ta : TE) : TE := fun σ H Q => ta σ H fun x H1 => ∃ a dx fs, x = .ref a ∧ H1 a = some (.ins C dx fs) ∧ sp [.ref a] H1 Q E
theorem pe_p (he : PE X e ta) (D : Dp (En.of X) k C f sp) (hr : Room (k + 1) X.A) (hx : Passes (L2.CX X.prog X.w) X.nox E) (hab : attributeBase e f X.env (eval e X.env) = eval e X.env := by rfl) : PE X (.Attribute e f pos) (tPr (He.ga X.K C) sp E ta) := by
  refine ⟨fun pins s σ H Q I h => ?_⟩
  refine attr_of hab (thn (he.run pins s σ H _ I h) fun u s1 ⟨x, H1, I1, rx, a, dx, fs, ex, ea, q⟩ => ?_)
  subst ex
  obtain rfl : u = Value.ref a := rx
  obtain ⟨g, pr, F⟩ := D.pr
  obtain ⟨mA, O, _⟩ := ins_get I1.hok ea
  obtain ⟨od, J, _⟩ := O.look
  obtain ⟨rest, hrec⟩ := pr.rec_
  have I2 := I1.tok (s1.toks + 1)
  have hc : (PySem.W.clsIn X.K (He.ga X.K C)).isSome = true := by
    obtain ⟨cd, hc, _⟩ := PySem.W.any_some D.c.hd
    have hc' : PySem.W.clsIn X.K (He.ga X.K C) = some cd := hc
    rw [hc']; rfl
  refine PySem.W.get_bind I1.kIn J (PySem.W.plainGet_of (D.c.get f)).1 (PySem.W.findObj_data hc pr.at_ pr.get pr.tak) (PySem.W.plainGet_of (D.c.get f)).2 (wpAny_call (PySem.W.prop_get (s := { s1 with toks := s1.toks + 1 }) I1.kIn hrec ?_))
  refine codeAny_mono (F X.A.in1 X.stack { s1 with toks := s1.toks + 1 } H1 [.ref a] [.ref a] Q E hr.in1 I2.env0.in1 (.cons rfl .nil) q) fun r s' hq => ?_
  cases r with
  | error er => exact False.elim (hx pins σ H1 { s1 with toks := s1.toks + 1 } er s' (I2.wish _) hq)
  | ok fl =>
    cases fl with
    | ret u =>
      obtain ⟨v, H', I3, rv, q3⟩ := I2.after hq
      exact wpAny_of_eq (PySem.W.handedOut_of (handed_of rv)) ⟨v, H', I3, rv, q3⟩
    | next => exact False.elim hq
    | brk => exact False.elim hq
    | cont => exact False.elim hq

/-! ### operators of one's own -/
/-- x op y: the def of x's class -/
def rOp (C : Addr) (sp : Sp) (E : XK) : R2 := fun x y H Q => ∃ a dx fs b dy gs, x = .ref a ∧ y = .ref b ∧ H a = some (.ins C dx fs) ∧ H b = some (.ins C dy gs) ∧ sp [x, y] H Q E
theorem op_bin {op : Operator} (D : Dm (En.of X) k C (PySem.dunder op.info.2) sp) (hc : PySem.W.selfFirst X.K (He.ga X.K C) = true) (hr : Room k X.A) (hx : Passes (L2.CX X.prog X.w) X E) : OpR X (binaryOp op) (rOp (He.ga X.K C) sp E) := by
  intro pins s σ H x y v u Q I rx ry h
  obtain ⟨a, dx, fs, b, dy, gs, rfl, rfl, ha, hb, q⟩ := h
  cases (show v = Value.ref a from rx)
  cases (show u = Value.ref b from ry)
  obtain ⟨mA, J, _⟩ := ins_get I.hok ha
  obtain ⟨mB, J', _⟩ := ins_get I.hok hb
  obtain ⟨od, J, _⟩ := J.look
  obtain ⟨od', J', _⟩ := J'.look
  obtain ⟨m, hF⟩ := I.fr
  refine PySem.W.binop_K hF I.ok.mod.kin J J'.type hc D.m.at_ D.m.fn ?_
  refine wpAny_mono (wpAny_call (run_fnR (us := [.ref a, .ref b]) (vs := [.ref a, .ref b]) D.fn hr hx I (.cons rfl (.cons rfl .nil)) q)) (fun w s' z => ?_) fun _ _ x => x
  obtain ⟨z', H', I', rz, qz⟩ := z
  exact SlX.cmpback rz ⟨z', H', I', rz, qz⟩
/-- x == y by an own __eq__; y any value whose type is told -/
def rEqO (K : Frag) (C : Addr) (sp : Sp) (E : XK) : R2 := fun x y H Q => ∃ a dx fs b dy gs, x = .ref a ∧ y = .ref b ∧ H a = some (.ins C dx fs) ∧ H b = some (.ins C dy gs) ∧ sp [x, y] H Q E
theorem op_eqO (D : Dm (En.of X) k C "__eq__" sp) (hr : Room k X.A) (hx : Passes (L2.CX X.prog X.w) X E) : OpR X (compareOp .Eq) (rEqO X.K (He.ga X.K C) sp E) := by
  intro pins s σ H x y v u Q I rx ry h
  obtain ⟨a, dx, fs, b, dy, gs, rfl, rfl, ha, hb, q⟩ := h
  cases (show v = Value.ref a from rx)
  cases (show u = Value.ref b from ry)
  obtain ⟨mA, J, _⟩ := ins_get I.hok ha
  obtain ⟨mB, J', _⟩ := ins_get I.hok hb
  obtain ⟨od, J, _⟩ := J.look
  obtain ⟨od', J', _⟩ := J'.look
  obtain ⟨m, hF⟩ := I.fr
  show wpAny _ _ (richCompare .Eq _ _) _ _ _
  refine PySem.W.cmp_K (op := .Eq) (tb := .ref (He.ga X.K C)) hr.units0 hF I.ok.mod.kin J J'.type (by simp [PySem.W.notFirst]) D.m.at_ D.m.fn ?_
  refine wpAny_mono (wpAny_call (run_fnR (us := [.ref a, .ref b]) (vs := [.ref a, .ref b]) D.fn hr hx I (.cons rfl (.cons rfl .nil)) q)) (fun w s' z => ?_) fun _ _ x => x
  obtain ⟨z', H', I', rz, qz⟩ := z
  exact SlX.cmpback rz ⟨z', H', I', rz, qz⟩
theorem op_pow9 : OpR X (binaryOp .Pow) (rI (fun i j => 0 ≤ j ∧ (Builtin.Int.intBits i : Int) * j ≤ 2 ^ 27) fun i j => .int (i ^ j.toNat)) := opI fun _ _ _ _ _ _ _ hc q => pow_int hc.1 hc.2 q
end
end GB

/-! wG: rules over the row (no representation). -/
namespace GB
open PySem PySem.Spec PyProof.Rows L2
theorem px0 {X : Cx} {s H sc cenv fp} : Passes (L2.CX X.prog X.w) (X.blk s H sc cenv fp) E0 := fun _ _ _ _ _ _ _ ⟨_, _, _, _, _, _, _, _, _, _, _, _, h⟩ => h.elim
theorem px0n {X : Cx} : Passes (L2.CX X.prog X.w) X.nox E0 := fun _ _ _ _ _ _ _ ⟨_, _, _, _, _, _, _, _, _, _, _, _, h⟩ => h.elim
/-! ### defs of the text -/
abbrev FunP (N : En) (x : Str) (st : Stmt) : Prop := (∃ fd, FunD N.K x x (defArgs st) (defBody st) (defScope st) [] [] (N.ga x) fd) ∧ N.mg x = some (.ref (N.ga x))
abbrev FunM (N : En) (C m q : Str) (st : Stmt) : Prop := (∃ fd, FunD N.K m q (defArgs st) (defBody st) (defScope st) [] [] (N.ma C m) fd) ∧ Meth N.K (N.ga C) m (N.ma C m) ∧ Cls N.K (N.ga C)
/-- what a body's proof gives: the walk from the arguments -/
abbrev Body (N : En) (k : Nat) (q : Str) (f : Addr) (st : Stmt) (Ns : List Str) (sp : Sp) : Prop := ∀ (cdv : Value) (A : Around) (outer : List Env) (s : Shared) (H : Hp) (vs : List V) (Q : VK) (E : XK), Room k (A.deeper (envOfC q (defScope st) s.heap.objs.size f cdv)) → sp vs H Q E →
      ∃ t, PSs (cxOf (L2.CX N.P N.w) N.P N.w N.K N.mg N.base Ns q (defScope st) f cdv A outer s H E) (defBody st) t ∧ t { nx := fun _ H' => Q .non H', rt := Q } (start Ns vs) H
theorem dn_mk {N : En} {k : Nat} {x : Str} {st : Stmt} {Ns ps : List Str} {sp : Sp} (F : FunP N x st) (S : FnScope Ns ps (defScope st))
    (bd : ∀ (kV doc pm : Value) (an : Option Addr) (cdv ct : Value) (us : List Value), us.length = ps.length → bindArgs (PySem.W.fnOf x x (defArgs st) (defBody st) (defScope st) .none kV doc pm an cdv ct) ⟨us, []⟩ = pure (ps.zip us))
    (len : ∀ vs H Q E, sp vs H Q E → vs.length = ps.length) (body : Body N k x (N.ga x) st Ns sp) : Dn N (k + 1) x sp := by
  obtain ⟨⟨fd, F⟩, g⟩ := F
  have z := (F.ok S len body : FnOk N.P N.w N.K N.mg N.base (L2.CX N.P N.w) (k + 1) _ fd ps sp).raw (F.bindsN bd) .nil
  exact ⟨z.imp fun vs H Q E q => by rw [List.append_nil]; exact q, g, F.kp⟩
theorem dm_mk {N : En} {k : Nat} {C m q : Str} {st : Stmt} {Ns ps : List Str} {sp : Sp} (F : FunM N C m q st) (S : FnScope Ns ps (defScope st))
    (bd : ∀ (kV doc pm : Value) (an : Option Addr) (cdv ct : Value) (us : List Value), us.length = ps.length → bindArgs (PySem.W.fnOf m q (defArgs st) (defBody st) (defScope st) .none kV doc pm an cdv ct) ⟨us, []⟩ = pure (ps.zip us))
    (len : ∀ vs H Q E, sp vs H Q E → vs.length = ps.length) (body : Body N k q (N.ma C m) st Ns sp) : Dm N (k + 1) C m sp := by
  obtain ⟨⟨fd, F⟩, g, c⟩ := F
  have z := (F.ok S len body : FnOk N.P N.w N.K N.mg N.base (L2.CX N.P N.w) (k + 1) _ fd ps sp).raw (F.bindsN bd) .nil
  exact ⟨z.imp fun vs H Q E q => by rw [List.append_nil]; exact q, g, c⟩
theorem Dn.imp {N : En} {k : Nat} {x : Str} {sp sp' : Sp} (D : Dn N k x sp) (h : ∀ vs H Q E, sp' vs H Q E → sp vs H Q E) : Dn N k x sp' := ⟨D.fn.imp h, D.g, D.kp⟩
theorem Dm.imp {N : En} {k : Nat} {C m : Str} {sp sp' : Sp} (D : Dm N k C m sp) (h : ∀ vs H Q E, sp' vs H Q E → sp vs H Q E) : Dm N k C m sp' := ⟨D.fn.imp h, D.m, D.c⟩
section
variable {prog : Program} {w : World} {A : Around} {E : Value → Shared → Prop} {s : Shared} {K : PySem.W.Frag} {x C f : Addr} {ox : Obj} {od : Option Obj} {b tb : Value}
theorem check_ne {Q : Unit → Shared → Prop} (X : K.In s.heap) (I : PySem.W.InstAt s.heap x ox C od) (hm : PySem.W.subIn K (.ref C) (.type "object") = some true) (h : Q () s) :
    wpAny (model prog w) A (checkBuiltinCall "object.__ne__" ⟨[.ref x, b], []⟩) Q E s := by
  have L : PySem.W.Looks (model prog w) s.heap (isSubtype (.ref C) (.type "object")) true := PySem.W.looks_subIn X hm
  simp only [checkBuiltinCall, PySem.F.cmpKind_ne, PySem.F.cmpSplit_ne]
  refine wpAny_bind ?_
  unfold isInstance
  refine wpAny_bind (I.type.here (L.here ?_))
  have ha := PySem.F.cmpArgs_ne (.ref x) b
  rw [if_neg (by simp)]
  cases hsig : Manifest.signature? "object.__ne__" with
  | none => exact wpAny_pure h
  | some sig =>
    simp only [argsOk, hsig] at ha
    have h2 : Bind.checkArgs "object.__ne__" sig ⟨[.ref x, b], []⟩ = pure () := ha
    show wpAny _ A (Bind.checkArgs "object.__ne__" sig ⟨[.ref x, b], []⟩) Q E _
    rw [h2]; exact wpAny_pure h
theorem ne_K {Q : Bool → Shared → Prop} (hu : A.units + 1 < cLine) (X : K.In s.heap) (I : PySem.W.InstAt s.heap x ox C od) (hb : PySem.W.Looks (model prog w) s.heap (typeOf b) tb) (hn : PySem.W.notFirst K C tb = true)
    (hm : PySem.W.subIn K (.ref C) (.type "object") = some true) (hne : PySem.W.findIn K (.ref C) "__ne__" = some (some (.builtin "object.__ne__"))) (hs : PySem.W.findIn K (.ref C) "__eq__" = some (some (.ref f))) (hf : PySem.W.isFn K (.ref f) = true)
    (h : wpAny (model prog w) A.in1 (call (.ref f) [.ref x, b]) (fun v s' => ∃ r, v = .bool r ∧ Q r s') E s) : wpAny (model prog w) A (richCompare .NotEq (.ref x) b) (fun v s' => ∃ r, v = .bool (!r) ∧ Q r s') E s := by
  have call_ne : wpAny (model prog w) A (call (.builtin "object.__ne__") [.ref x, b]) (fun v s' => ∃ r, v = .bool (!r) ∧ Q r s') E s := by
    refine wpAny_call (codeAny_call_builtin (PySem.F.slot_object_ne).plain PySem.F.cmpEntry_ne (check_ne X I hm ?_))
    unfold Builtin.«object.__ne__»
    repeat (first | with_reducible refine wpAny_cRoomFor (show A.in1.units < cLine from hu) ?_ | (with_reducible refine wpAny_bind (PySem.W.ifBound_K X I hs hf (wpAny_mono h (fun v s' hv => ?_) fun _ _ e => e))) | wp_step)
    obtain ⟨r, rfl, hq⟩ := hv
    repeat (first | with_reducible refine wpAny_truthy_bool ?_ | wp_step)
    exact ⟨r, rfl, hq⟩
  have one : wpAny (model prog w) A (tryCompare (.ref x) "__ne__" b) (fun r s' => ∃ v, r = some v ∧ ∃ r, v = .bool (!r) ∧ Q r s') E s := by
    unfold tryCompare callSpecialIfBound? bindSpecialIfBound?
    refine wpAny_bind (wpAny_holding (wpAny_bind (wpAny_bind (wpAny_bind (I.type.here ((PySem.W.looks_findIn X hne).here ?_))))))
    have bd : bindSpecial (.builtin "object.__ne__") (.ref x) = pure (.builtin "object.__ne__", [.ref x]) := PySem.F.slot_object_ne.bind _
    dsimp only
    rw [bd]
    have fin : wpAny (model prog w) A (call (.builtin "object.__ne__") ([.ref x] ++ [b]) >>= fun v => pure (some v)) (fun a s' => wpAny (model prog w) A (match a with
            | some Value.notImplemented => pure none
            | none => pure none
            | some v => pure (some v)) (fun r s' => ∃ v, r = some v ∧ ∃ r, v = Value.bool !r ∧ Q r s') E s') E s := by
      refine wpAny_bind (wpAny_mono call_ne (fun v s' hv => ?_) fun _ _ e => e)
      obtain ⟨r, rfl, hq⟩ := hv
      exact wpAny_pure (wpAny_pure ⟨_, rfl, r, rfl, hq⟩)
    refine wpAny_bind (wpAny_askSetting (wpAny_ite ?_))
    split
    · exact wpAny_bind (wpAny_pure (wpAny_pure (by exact fin)))
    · exact wpAny_tryCatch (wpAny_bind (wpAny_pure (wpAny_pure (by exact fin))))
  unfold richCompare
  simp only [oneThing_ref]
  refine wpAny_holding (wpAny_bind (wpAny_cRoomFor (Nat.lt_of_succ_lt hu) ?_))
  refine wpAny_bind (I.type.here (wpAny_bind (hb.here ?_)))
  have e2 : (cmpInfo .NotEq).2.1 = ("__ne__" : Str) := rfl
  split
  · rename_i q
    have e : PySem.W.subIn K tb (.ref C) = some false := by
      rcases Bool.or_eq_true_iff.mp hn with e | e
      · rw [beq_iff_eq.mp e] at q; simp at q
      · exact beq_iff_eq.mp e
    refine wpAny_bind ((PySem.W.looks_subIn X e).here ?_)
    simp only [Bool.false_eq_true, if_false]
    refine wpAny_bind (wpAny_mono one (fun r s' z => ?_) fun _ _ e => e)
    obtain ⟨v, rfl, hq⟩ := z
    exact wpAny_pure hq
  · refine wpAny_bind (wpAny_pure ?_)
    simp only [Bool.false_eq_true, if_false]
    refine wpAny_bind (wpAny_mono one (fun r s' z => ?_) fun _ _ e => e)
    obtain ⟨v, rfl, hq⟩ := z
    exact wpAny_pure hq
end
/-- what != asks of the class, besides its == -/
structure NeC (K : PySem.W.Frag) (C : Addr) : Prop where
  hm : PySem.W.subIn K (.ref C) (.type "object") = some true
  hne : PySem.W.findIn K (.ref C) "__ne__" = some (some (.builtin "object.__ne__"))
/-- what isinstance asks of the class -/
structure IsC (K : PySem.W.Frag) (C : Addr) : Prop where
  ha : PySem.W.findIn K (.ref C) "__class__" = some (some (.builtin "object.__class__"))
  hn : PySem.W.specialIn K (.builtin "object.__class__") "__get__" = some (some (.builtin "getset_descriptor.__get__"))
  ht : PySem.W.takesIn K (.builtin "object.__class__") = some true
  hm : PySem.W.mroIn K C (.type "object") = some true
def rNeO (C : Addr) (sp : Sp) (E : XK) : R2 := fun x y H Q => ∃ a dx fs b dy gs, x = .ref a ∧ y = .ref b ∧ H a = some (.ins C dx fs) ∧ H b = some (.ins C dy gs) ∧ sp [x, y] H (fun z H' => ∃ r, z = .bl r ∧ Q (.bl (!r)) H') E
section
variable {X : Cx} {k : Nat} {C : Str} {sp : Sp} {E : XK}
theorem op_neO (D : Dm (En.of X) k C "__eq__" sp) (nc : NeC X.K (He.ga X.K C)) (hr : Room (k + 1) X.A) (hx : Passes (L2.CX X.prog X.w) X E) : OpR X (compareOp .NotEq) (rNeO (He.ga X.K C) sp E) := by
  intro pins s σ H x y v u Q I rx ry h
  obtain ⟨a, dx, fs, b, dy, gs, rfl, rfl, ha, hb, q⟩ := h
  cases (show v = Value.ref a from rx)
  cases (show u = Value.ref b from ry)
  obtain ⟨mA, J, _⟩ := ins_get I.hok ha
  obtain ⟨mB, J', _⟩ := ins_get I.hok hb
  obtain ⟨od, J, _⟩ := J.look
  obtain ⟨od', J', _⟩ := J'.look
  show wpAny _ _ (richCompare .NotEq _ _) _ _ _
  have hu : X.A.units + 1 < cLine := by have := hr.units; omega
  refine wpAny_mono (ne_K (Q := fun r s' => ∃ H', Inv X pins σ H' s' ∧ Q (.bl (!r)) H') hu I.kIn J J'.type (by simp [PySem.W.notFirst]) nc.hm nc.hne D.m.at_ D.m.fn ?_) (fun w s' z => ?_) fun _ _ x => x
  · refine wpAny_mono (wpAny_call (SlX.run_at (us := [.ref a, .ref b]) (ws := [.ref a, .ref b]) D.fn (show Room k X.A.in1 from hr.in1) I.env0.in1 hx I (.cons rfl (.cons rfl .nil)) q)) (fun w s' z => ?_) fun _ _ x => x
    obtain ⟨z', H', I', rz, r, ez, qz⟩ := z
    subst ez
    exact ⟨r, rz, H', I', qz⟩
  · obtain ⟨r, e, H', I', q'⟩ := z
    exact ⟨.bl (!r), H', I', e, q'⟩
end
abbrev FunMD (N : En) (C m q : Str) (st : Stmt) (dvs : List V) : Prop := (∃ fd, FunD N.K m q (defArgs st) (defBody st) (defScope st) dvs [] (N.ma C m) fd) ∧ Meth N.K (N.ga C) m (N.ma C m) ∧ Cls N.K (N.ga C)
/-- a method with defaults: n values given, the last defaults (from the j-th) put behind them -/
theorem dm_mkD {N : En} {k : Nat} {C m q : Str} {st : Stmt} {Ns ps : List Str} {sp : Sp} {dvs : List V} (n j : Nat) (hd : dvs ≠ []) (hn : n + (dvs.length - j) = ps.length) (F : ∃ fd, FunD N.K m q (defArgs st) (defBody st) (defScope st) dvs [] (N.ma C m) fd) (S : FnScope Ns ps (defScope st))
    (bd : ∀ (T : Addr) (kV doc pm : Value) (an : Option Addr) (cdv ct : Value) (us its : List Value), us.length = n → its.length = dvs.length →
      ∃ k, bindArgs (PySem.W.fnOf m q (defArgs st) (defBody st) (defScope st) (.ref T) kV doc pm an cdv ct) ⟨us, []⟩ = seqItems? (.ref T) >>= k ∧ k (some its.toArray) = pure (ps.zip (us ++ its.drop j)))
    (len : ∀ vs H Q E, sp vs H Q E → vs.length = ps.length) (body : Body N k q (N.ma C m) st Ns sp) : Fr N (k + 1) (N.ma C m) (fun vs H Q E => sp (vs ++ dvs.drop j) H Q E) := by
  obtain ⟨fd, F⟩ := F
  obtain ⟨ds, h1, h2⟩ := F.binds1 n j hd hn bd
  exact (F.ok S len body : FnOk N.P N.w N.K N.mg N.base (L2.CX N.P N.w) (k + 1) _ fd ps sp).raw h2 h1
/-- a method of a class with slots -/
abbrev FunS (N : En) (C m q : Str) (st : Stmt) : Prop := ∃ fd, FunD N.K m q (defArgs st) (defBody st) (defScope st) [] [] (N.ma C m) fd
theorem fs_mk {N : En} {k : Nat} {C m q : Str} {st : Stmt} {Ns ps : List Str} {sp : Sp} (F : FunS N C m q st) (S : FnScope Ns ps (defScope st))
    (bd : ∀ (kV doc pm : Value) (an : Option Addr) (cdv ct : Value) (us : List Value), us.length = ps.length → bindArgs (PySem.W.fnOf m q (defArgs st) (defBody st) (defScope st) .none kV doc pm an cdv ct) ⟨us, []⟩ = pure (ps.zip us))
    (len : ∀ vs H Q E, sp vs H Q E → vs.length = ps.length) (body : Body N k q (N.ma C m) st Ns sp) : Fr N (k + 1) (N.ma C m) sp := by
  obtain ⟨fd, F⟩ := F
  have z := (F.ok S len body : FnOk N.P N.w N.K N.mg N.base (L2.CX N.P N.w) (k + 1) _ fd ps sp).raw (F.bindsN bd) .nil
  exact z.imp fun vs H Q E q => by rw [List.append_nil]; exact q
/-- a property's getter -/
abbrev FunPr (N : En) (C f q : Str) (st : Stmt) : Prop := ∃ g fd, PropOf N.K (N.ga C) f (N.ma C f) g ∧ FunD N.K f q (defArgs st) (defBody st) (defScope st) [] [] g fd ∧ Cls N.K (N.ga C)
theorem dp_mk {N : En} {k : Nat} {C m q : Str} {st : Stmt} {Ns ps : List Str} {sp : Sp} (F : FunPr N C m q st) (S : FnScope Ns ps (defScope st))
    (bd : ∀ (kV doc pm : Value) (an : Option Addr) (cdv ct : Value) (us : List Value), us.length = ps.length → bindArgs (PySem.W.fnOf m q (defArgs st) (defBody st) (defScope st) .none kV doc pm an cdv ct) ⟨us, []⟩ = pure (ps.zip us))
    (len : ∀ vs H Q E, sp vs H Q E → vs.length = ps.length) (body : ∀ g, Body N k q g st Ns sp) : Dp N (k + 1) C m sp := by
  obtain ⟨g, fd, hp, F, c⟩ := F
  have z := (F.ok S len (body g) : FnOk N.P N.w N.K N.mg N.base (L2.CX N.P N.w) (k + 1) _ fd ps sp).raw (F.bindsN bd) .nil
  exact ⟨⟨g, hp, z.imp fun vs H Q E q => by rw [List.append_nil]; exact q⟩, c⟩
theorem Dc.imp {N : En} {k : Nat} {C : Str} {sp sp' : Sp} (D : Dc N k C sp) (h : ∀ vs H Q E, sp' vs H Q E → sp vs H Q E) : Dc N k C sp' := by
  obtain ⟨⟨spI, h1, h2, h3⟩, g⟩ := D
  exact ⟨⟨spI, h1, h2, fun vs H Q E q => h3 vs H Q E (h vs H Q E q)⟩, g⟩
abbrev IntG (N : En) (x : Str) (z : Int) : Prop := ∃ t, N.mg x = some (.int z t)
section
variable {X : Cx} {k : Nat} {C x : Str} {sp : Sp} {E : XK} {pos : Pos}
theorem pe_globI {z : Int} (hg : Gl X x) (h : IntG (En.of X) x z) (hd : (x == ("__debug__" : Str)) = false := by decide) : PE X (.Name x pos) (tC (.int z)) := by
  obtain ⟨t, e⟩ := h
  exact pe_glob hg e ⟨t, rfl⟩ hd
theorem pe_globR {a : Addr} (hg : Gl X x) (h : X.mg x = some (.ref a)) (hd : (x == ("__debug__" : Str)) = false := by decide) : PE X (.Name x pos) (tC (.ref a)) := pe_glob hg h rfl hd
def rLenO (C : Addr) (sp : Sp) (E : XK) : List V → Hp → VK → Prop := fun xs H Q => ∃ a dx fs, xs = [V.ref a] ∧ H a = some (.ins C dx fs) ∧ sp [V.ref a] H (fun z H' => ∃ n, z = V.int n ∧ (0 ≤ n ∧ n < 2 ^ 63) ∧ Q (.int n) H') E
theorem call_lenO (D : Dm (En.of X) k C "__len__" sp) (hr : Room (k + 1) X.A) (hx : Passes (L2.CX X.prog X.w) X E) : CallR X (.builtin "len") (rLenO (He.ga X.K C) sp E) := by
  intro pins s σ H xs us Q I r h
  obtain ⟨a, dx, fs, rfl, ha, q⟩ := h
  obtain ⟨u, rfl, rx⟩ := vals1 r
  cases (show u = Value.ref a from rx)
  obtain ⟨mA, J, _⟩ := ins_get I.hok ha
  obtain ⟨od, J, _⟩ := J.look
  obtain ⟨m, hF⟩ := I.fr
  refine PySem.W.len_K hF I.ok.mod.kin J D.m.at_ D.m.fn ?_
  refine wpAny_mono (wpAny_call (SlX.run_at (us := [.ref a]) (ws := [.ref a]) D.fn (show Room k X.A.in1 from hr.in1) I.env0.in1 hx I (.cons rfl .nil) q)) (fun w s' z => ?_) fun _ _ x => x
  obtain ⟨z', H', I', rz, n, ez, hn, qz⟩ := z
  subst ez
  obtain ⟨t, rfl⟩ := rz
  exact ⟨hn, .int n, H', I'.tok _, ⟨_, rfl⟩, qz⟩
end
/-! ### classes with slots, properties: by Bools -/
def sclsB (K : PySem.W.Frag) (C : Addr) : Bool := (PySem.W.plainGet K C Str.empty && PySem.W.isClsIn K C) && (PySem.W.plainOver K C && decide (PySem.W.findIn K (.ref C) "__setattr__" = some (some (.builtin "object.__setattr__"))))
theorem sclsB_ok {K : PySem.W.Frag} {C : Addr} (h : sclsB K C = true) : SlX.SCls K C := by
  obtain ⟨h1, h2⟩ := He.ba h
  obtain ⟨h3, h4⟩ := He.ba h1
  obtain ⟨h5, h6⟩ := He.ba h2
  exact ⟨h3, h4, h5, of_decide_eq_true h6⟩
def slotB (K : PySem.W.Frag) (C : Addr) (f : Str) (i : Nat) : Bool := match PySem.W.findIn K (.ref C) f with
  | some (some (.ref p)) => (decide (PySem.W.specialIn K (.ref p) "__get__" = some (some (.builtin "member_descriptor.__get__"))) && decide (PySem.W.takesIn K (.ref p) = some true)) && (decide (PySem.W.typeIn K (.ref p) = some (.type "member_descriptor")) && (decide (PySem.W.slotIn K p C = some i) && decide (i < 1000)))
  | _ => false
theorem slotB_ok {K : PySem.W.Frag} {C : Addr} {f : Str} {i : Nat} (h : slotB K C f i = true) : ∃ p, SlX.Slot1 K C f p i := by
  unfold slotB at h
  split at h
  · rename_i p e
    obtain ⟨h1, h2⟩ := He.ba h
    obtain ⟨h3, h4⟩ := He.ba h1
    obtain ⟨h5, h6⟩ := He.ba h2
    obtain ⟨h7, h8⟩ := He.ba h6
    exact ⟨p, e, of_decide_eq_true h3, of_decide_eq_true h4, of_decide_eq_true h5, of_decide_eq_true h7, of_decide_eq_true h8⟩
  · cases h
def isiB (K : PySem.W.Frag) (C : Addr) : Bool := (decide (PySem.W.findIn K (.ref C) "__class__" = some (some (.builtin "object.__class__"))) && decide (PySem.W.specialIn K (.builtin "object.__class__") "__get__" = some (some (.builtin "getset_descriptor.__get__")))) &&
  (decide (PySem.W.takesIn K (.builtin "object.__class__") = some true) && decide (PySem.W.mroIn K C (.type "object") = some true))
theorem isiB_ok {K : PySem.W.Frag} {C : Addr} (h : isiB K C = true) : IsC K C := by
  obtain ⟨h1, h2⟩ := He.ba h
  obtain ⟨h3, h4⟩ := He.ba h1
  obtain ⟨h5, h6⟩ := He.ba h2
  exact ⟨of_decide_eq_true h3, of_decide_eq_true h4, of_decide_eq_true h5, of_decide_eq_true h6⟩
theorem IsC.s {K : PySem.W.Frag} {C : Addr} (h : IsC K C) : SlX.SIsi K C := ⟨h.ha, h.hn, h.ht, h.hm⟩
def kitB (K : PySem.W.Frag) (t u : Value) (b : Bool) : Bool := decide (PySem.W.kitOne K t u = some b)
theorem kitB_ok {K : PySem.W.Frag} {t u : Value} {b : Bool} (h : kitB K t u b = true) : PySem.W.kitOne K t u = some b := of_decide_eq_true h
def necB (K : PySem.W.Frag) (C : Addr) : Bool := decide (PySem.W.subIn K (.ref C) (.type "object") = some true) && decide (PySem.W.findIn K (.ref C) "__ne__" = some (some (.builtin "object.__ne__")))
theorem necB_ok {K : PySem.W.Frag} {C : Addr} (h : necB K C = true) : NeC K C := by
  obtain ⟨h1, h2⟩ := He.ba h
  exact ⟨of_decide_eq_true h1, of_decide_eq_true h2⟩
def prG (K : PySem.W.Frag) (q : Str × Str) : Addr := match PySem.W.recIn K (He.ma K (He.ga K q.1) q.2) "property" with
  | some (.ref g :: _) => g
  | _ => 0
def prB (K : PySem.W.Frag) (q : Str × Str) : Bool := decide (PySem.W.findIn K (.ref (He.ga K q.1)) q.2 = some (some (.ref (He.ma K (He.ga K q.1) q.2)))) && (decide (PySem.W.specialIn K (.ref (He.ma K (He.ga K q.1) q.2)) "__get__" = some (some (.builtin "property.__get__"))) &&
  (decide (PySem.W.takesIn K (.ref (He.ma K (He.ga K q.1) q.2)) = some true) && (match PySem.W.recIn K (He.ma K (He.ga K q.1) q.2) "property" with
    | some (.ref _ :: _) => true
    | _ => false)))
theorem prB_ok {K : PySem.W.Frag} {q : Str × Str} (h : prB K q = true) : PropOf K (He.ga K q.1) q.2 (He.ma K (He.ga K q.1) q.2) (prG K q) := by
  obtain ⟨h1, h2⟩ := He.ba h
  obtain ⟨h3, h4⟩ := He.ba h2
  obtain ⟨h5, h6⟩ := He.ba h4
  refine ⟨of_decide_eq_true h1, of_decide_eq_true h3, of_decide_eq_true h5, ?_⟩
  unfold prG
  split at h6
  · rename_i g r e
    rw [e]
    exact ⟨r, rfl⟩
  · cases h6
/-- a property's def: the class, the name, its qualified name, the getter's statement -/
structure PrD where
  C : Str
  f : Str
  qual : Str
  st : Stmt
def PrD.d (p : PrD) : He.DefD := ⟨(p.C, none), p.f, p.qual, defArgs p.st, defBody p.st, defScope p.st, [], []⟩
def fnP (K : PySem.W.Frag) (a : Addr) : He.FnW := (K.lookup a).bind fun o => match o.data with
  | .func fd => some (fd.name, fd.qualname, fd.params, fd.body, fd.scope, fd.globals, fd.closure, fd.builtins)
  | _ => none
def okP (K : PySem.W.Frag) (p : PrD) : Bool := PySem.W.keepIn K (.ref (prG K (p.C, p.f))) && (prB K (p.C, p.f) && (match K.lookup (prG K (p.C, p.f)) with
  | some ⟨_, _, .func fd, _⟩ => PySem.W.codeIn K fd.code p.qual && (He.dflB K fd.defaults [] && He.kwdB K fd.kwdefaults [])
  | _ => false))
theorem okP_fun {K : PySem.W.Frag} {p : PrD} (e : fnP K (prG K (p.C, p.f)) = p.d.val) (c : okP K p = true) : ∃ fd, FunD K p.f p.qual (defArgs p.st) (defBody p.st) (defScope p.st) [] [] (prG K (p.C, p.f)) fd := by
  obtain ⟨kp, c1⟩ := He.ba c
  obtain ⟨_, c2⟩ := He.ba c1
  unfold fnP at e
  cases q : K.lookup (prG K (p.C, p.f)) with
  | none => rw [q] at c2; cases c2
  | some o =>
    obtain ⟨oc, od, dt, osl⟩ := o
    rw [q] at c2 e
    cases dt with
    | func fd =>
      obtain ⟨n1, n2, n3, n4, n5, n6, n7, n8, n9, n10, n11, n12, n13, n14, n15⟩ := fd
      have e2 : (some (n1, n2, n3, n4, n5, n6, n7, n15) : He.FnW) = some (p.f, p.qual, defArgs p.st, .stmts (defBody p.st), defScope p.st, mainGlobals, [], builtinsNs) := e
      simp only [Option.some.injEq, Prod.mk.injEq] at e2
      obtain ⟨h1, h2, h3, h4, h5, h6, h7, h8⟩ := e2
      subst h1 h2 h3 h4 h5 h6 h7 h8
      have c3 : (PySem.W.codeIn K n13 p.qual && (He.dflB K n8 [] && He.kwdB K n9 [])) = true := c2
      obtain ⟨k1, k2⟩ := He.ba c3
      obtain ⟨k3, k4⟩ := He.ba k2
      exact ⟨_, ⟨oc, od, n8, n9, n10, n11, n12, n13, n14, osl, rfl, q, k1, He.dflB_ok k3, He.kwdB_ok k4⟩, kp⟩
    | _ => cases c2
/-- the head's hook: facts, defs, properties, one more Bool -/
structure SaysP (fa : List He.Fa) (fn : List He.DefD) (pr : List PrD) (ex : PySem.W.Frag → Bool) (K : PySem.W.Frag) : Prop where
  d : He.SaysD fa fn K
  p : pr.map (fun p => fnP K (prG K (p.C, p.f))) = pr.map fun p => p.d.val
  ok : (pr.all fun p => okP K p) = true
  more : ex K = true
abbrev AlP : Type := He.AlD × List He.FnW × Bool
def obK (fa : List He.Fa) (fn : List He.DefD) (pr : List PrD) (ex : PySem.W.Frag → Bool) (K : PySem.W.Frag) : AlP := (He.obsD fa fn K, pr.map (fun p => fnP K (prG K (p.C, p.f))), (pr.all fun p => okP K p) && ex K)
def obP (n : Nat) (fa : List He.Fa) (fn : List He.DefD) (pr : List PrD) (ex : PySem.W.Frag → Bool) (g : Addr → Option Obj) : AlP := obK fa fn pr ex (He.frT g (He.asD g n))
def hookP (n : Nat) (fa : List He.Fa) (fn : List He.DefD) (pr : List PrD) (ex : PySem.W.Frag → Bool) : PySem.W.Hook where
  α := AlP
  obs := fun s => obP n fa fn pr ex s.heap.get?
  val := fun _ => (He.valD fn, pr.map (fun p => p.d.val), true)
  says := fun _ h => ∃ K : Frag, K.In h ∧ SaysP fa fn pr ex K
  of := fun _ _ e => ⟨_, He.frT_in, by
    have e1 := congrArg (fun z : AlP => z.1) e
    have e2 := congrArg (fun z : AlP => z.2.1) e
    have e3 := congrArg (fun z : AlP => z.2.2) e
    obtain ⟨h1, h2⟩ := He.ba e3
    exact ⟨e1, e2, h1, h2⟩⟩
  keeps := fun _ _ _ ⟨K, hK, c⟩ k => ⟨K, PySem.W.Frag.In.keeps hK k, c⟩
theorem obP_eq {n : Nat} {fa : List He.Fa} {fn : List He.DefD} {pr : List PrD} {ex : PySem.W.Frag → Bool} {g : Addr → Option Obj} {s : Shared} (h : ∀ a, g a = s.heap.get? a) : obP n fa fn pr ex g = (hookP n fa fn pr ex).obs s := by
  have e : g = s.heap.get? := funext h
  rw [e] <;> rfl
theorem SaysP.prop {fa : List He.Fa} {fn : List He.DefD} {pr : List PrD} {ex : PySem.W.Frag → Bool} {N : En} (c : SaysP fa fn pr ex N.K) (i : Nat) {p : PrD} (h : pr[i]? = some p) (hc : Cls N.K (N.ga p.C)) : FunPr N p.C p.f p.qual p.st := by
  have e2 : (pr.map (fun p => fnP N.K (prG N.K (p.C, p.f))))[i]? = (pr.map fun p => p.d.val)[i]? := by rw [c.p]
  rw [List.getElem?_map, List.getElem?_map, h] at e2
  have ok := List.all_eq_true.mp c.ok p (List.mem_of_getElem? h)
  obtain ⟨fd, F⟩ := okP_fun (Option.some.inj e2) ok
  exact ⟨_, fd, prB_ok (He.ba (He.ba ok).2).1, F, hc⟩
theorem law_mk {N : En} {k : Nat} {x : Str} {st : Stmt} {Ns ps : List Str} {sp : Sp} {fd : FuncData} (F : FunD N.K x x (defArgs st) (defBody st) (defScope st) [] [] (N.ga x) fd) (S : FnScope Ns ps (defScope st)) (len : ∀ vs H Q E, sp vs H Q E → vs.length = ps.length) (body : Body N k x (N.ga x) st Ns sp) : FnOk N.P N.w N.K N.mg N.base (L2.CX N.P N.w) (k + 1) (N.ga x) fd ps sp := F.ok S len body
section
variable {X : Cx}
theorem pe_fldK (K : PySem.W.Frag) (hK : X.K = K) {e : Expr} {f : Str} {pos : Pos} {ta : TE} (he : PE X e ta) (hb : attributeBase e f X.env (eval e X.env) = eval e X.env) : PE X (.Attribute e f pos) (tFld K ta f) := by
  subst hK
  exact pe_fld he hb
theorem pe_pK (K : PySem.W.Frag) (hK : X.K = K) {e : Expr} {f C : Str} {pos : Pos} {ta : TE} {k : Nat} {sp : Sp} {E : XK} (he : PE X e ta) (D : Dp (En.of X) k C f sp) (hr : Room (k + 1) X.A) (hx : Passes (L2.CX X.prog X.w) X.nox E) (hab : attributeBase e f X.env (eval e X.env) = eval e X.env := by rfl) : PE X (.Attribute e f pos) (tPr (He.ga K C) sp E ta) := by
  subst hK
  exact pe_p he D hr hx hab
theorem op_binK (K : PySem.W.Frag) (hK : X.K = K) {op : Operator} {k : Nat} {C : Str} {sp : Sp} {E : XK} (D : Dm (En.of X) k C (PySem.dunder op.info.2) sp) (hc : PySem.W.selfFirst X.K (He.ga X.K C) = true) (hr : Room k X.A) (hx : Passes (L2.CX X.prog X.w) X E) : OpR X (binaryOp op) (rOp (He.ga K C) sp E) := by
  subst hK
  exact op_bin D hc hr hx
theorem op_eqOK (K : PySem.W.Frag) (hK : X.K = K) {k : Nat} {C : Str} {sp : Sp} {E : XK} (D : Dm (En.of X) k C "__eq__" sp) (hr : Room k X.A) (hx : Passes (L2.CX X.prog X.w) X E) : OpR X (compareOp .Eq) (rEqO K (He.ga K C) sp E) := by
  subst hK
  exact op_eqO D hr hx
theorem op_neOK (K : PySem.W.Frag) (hK : X.K = K) {k : Nat} {C : Str} {sp : Sp} {E : XK} (D : Dm (En.of X) k C "__eq__" sp) (nc : NeC X.K (He.ga X.K C)) (hr : Room (k + 1) X.A) (hx : Passes (L2.CX X.prog X.w) X E) : OpR X (compareOp .NotEq) (rNeO (He.ga K C) sp E) := by
  subst hK
  exact op_neO D nc hr hx
theorem call_lenOK (K : PySem.W.Frag) (hK : X.K = K) {k : Nat} {C : Str} {sp : Sp} {E : XK} (D : Dm (En.of X) k C "__len__" sp) (hr : Room (k + 1) X.A) (hx : Passes (L2.CX X.prog X.w) X E) : CallR X (.builtin "len") (rLenO (He.ga K C) sp E) := by
  subst hK
  exact call_lenO D hr hx
theorem ix_listK (K : PySem.W.Frag) (hK : X.K = K)  : IxR X (rIxL K) := by
  subst hK
  exact ix_list
theorem ix_tupK (K : PySem.W.Frag) (hK : X.K = K)  : IxR X (rIxT K) := by
  subst hK
  exact ix_tup
theorem call_len_seqK (K : PySem.W.Frag) (hK : X.K = K)  : CallR X (.builtin "len") (fun xs H Q => ∃ p ys, xs = [.ref p] ∧ (SqL K H p ys ∨ SqT K H p ys) ∧ Q (.int ys.length) H) := by
  subst hK
  exact call_len_seq
theorem call_list_ofK (K : PySem.W.Frag) (hK : X.K = K)  : CallR X (.type "list") (fun xs H Q => ∃ p ys, xs = [.ref p] ∧ (SqL K H p ys ∨ SqT K H p ys) ∧ ∀ l, H l = none → Q (.ref l) (upd H l (.lst ys))) := by
  subst hK
  exact call_list_of
theorem call_tuple_ofK (K : PySem.W.Frag) (hK : X.K = K)  : CallR X (.type "tuple") (fun xs H Q => ∃ p ys, xs = [.ref p] ∧ ((SqL K H p ys ∧ ∀ l, H l = none → Q (.ref l) (upd H l (.tup ys))) ∨ (SqT K H p ys ∧ Q (.ref p) H))) := by
  subst hK
  exact call_tuple_of
theorem call_isiK (K : PySem.W.Frag) (hK : X.K = K)  : CallR X (.builtin "isinstance") (rIsi K) := by
  subst hK
  exact call_isi
theorem op_eqDK (K : PySem.W.Frag) (hK : X.K = K) (hu : X.A.units + 64 < cLine) : OpR X (compareOp .Eq) (rEqD K) := by
  subst hK
  exact op_eqD hu
theorem op_neDK (K : PySem.W.Frag) (hK : X.K = K) (hu : X.A.units + 64 < cLine) : OpR X (compareOp .NotEq) (rNeD K) := by
  subst hK
  exact op_neD hu
theorem pi_listK (K : PySem.W.Frag) (hK : X.K = K) {tg l : Expr} {tl : TE} (hl : PE X l tl) : PI X tg l (iList K tl) := by
  subst hK
  exact pi_list hl
theorem pi_tupK (K : PySem.W.Frag) (hK : X.K = K) {tg l : Expr} {tl : TE} (hl : PE X l tl) : PI X tg l (iTup K tl) := by
  subst hK
  exact pi_tup hl
theorem op_in_seqK (K : PySem.W.Frag) (hK : X.K = K)  : OpR X (compareOp .In) (rIn K false) := by
  subst hK
  exact op_in_seq
theorem op_notIn_seqK (K : PySem.W.Frag) (hK : X.K = K)  : OpR X (compareOp .NotIn) (rIn K true) := by
  subst hK
  exact op_notIn_seq
theorem op_catAK (K : PySem.W.Frag) (hK : X.K = K)  : OpR X (binaryOp .Add) (rCatA K) := by
  subst hK
  exact op_catA
theorem sl_tupAK (K : PySem.W.Frag) (hK : X.K = K)  : SlR X (rSlA K) := by
  subst hK
  exact sl_tupA
theorem sl_listK (K : PySem.W.Frag) (hK : X.K = K)  : SlR X (rSlL K) := by
  subst hK
  exact sl_list
theorem cr_allK (K : PySem.W.Frag) (hK : X.K = K) (hc : X.calm = true) : CallR X (.builtin "all") (rAll K) := by
  subst hK
  exact cr_all hc
theorem cr_sumK (K : PySem.W.Frag) (hK : X.K = K) (hc : X.calm = true) : CallR X (.builtin "sum") (rSum K) := by
  subst hK
  exact cr_sum hc
theorem cr_maxK (K : PySem.W.Frag) (hK : X.K = K) (hc : X.calm = true) : CallR X (.builtin "max") (rMax K) := by
  subst hK
  exact cr_max hc
theorem cr_sortedK (K : PySem.W.Frag) (hK : X.K = K)  : CallR X (.builtin "sorted") (rSorted K) := by
  subst hK
  exact cr_sorted
theorem pg_tupK (K : PySem.W.Frag) (hK : X.K = K) {es : List Expr} {k : Nat} {t : TGs} {n : Nat} {pos : Pos} (hc : X.calm = true) (h : PGs X es t) (hn : (assignEach es X.env).length = n := by rfl) (hst : (assignEach es X.env).findIdx? (·.1) = none := by rfl) : PG X (.Tuple es k pos) (gTup K n t) := by
  subst hK
  exact pg_tup hc h hn hst
theorem pg_lstK (K : PySem.W.Frag) (hK : X.K = K) {es : List Expr} {k : Nat} {t : TGs} {n : Nat} {pos : Pos} (hc : X.calm = true) (h : PGs X es t) (hn : (assignEach es X.env).length = n := by rfl) (hst : (assignEach es X.env).findIdx? (·.1) = none := by rfl) : PG X (.Tuple es k pos) (gLst K n t) := by
  subst hK
  exact pg_lst hc h hn hst
theorem pi_zipAK (K : PySem.W.Frag) (hK : X.K = K) {e e2 : Expr} {ta : TA} {p pos tpos : Pos} {elts : List Expr} {kk : Nat} (hg : Gl X "zip") (hm : X.mg "zip" = none) (ha : PA X [e, e2] ta) (hs : starEach [e, e2] X.env = (false, eval e X.env) :: starEach [e2] X.env := by rfl) (hpl : (backTo pos (starEach [e2] X.env)).any (·.1) = false := by rfl) : PI X (.Tuple elts kk tpos) (.Call (.Name "zip" p) [e, e2] [] pos) (RZ.iZipA K ta) := by
  subst hK
  exact RZ.pi_zipA hg hm ha hs hpl
theorem pe_mK (K : PySem.W.Frag) (hK : X.K = K) {o e : Expr} {es : List Expr} {m C : Str} {k : Nat} {sp : Sp} {E : XK} {pos apos : Pos} {ta : TE} {t : TA} {pl : Sem Bool} (he : PE X o ta) (D : Dm (En.of X) k C m sp) (hr : Room k X.A) (hx : Passes (L2.CX X.prog X.w) X E) (ha : PA X (e :: es) t)
    (hst : starEach (e :: es) X.env = (false, eval e X.env) :: starEach es X.env := by rfl) (hpl : (backTo pos (starEach es X.env)).any (·.1) = false := by rfl)
    (ht : eval (.Call (.Attribute o m apos) (e :: es) [] pos) X.env = (do let ov ← eval o X.env; standAt apos.atName; let (f, first) ← holding [ov] (getMethod ov m pl); callWith pos f first (backTo pos (starEach (e :: es) X.env)) (backToKw pos (keywordEach [] X.env))) := by rfl) :
    PE X (.Call (.Attribute o m apos) (e :: es) [] pos) (tMe (He.ga K C) m sp E ta t) := by
  subst hK
  exact pe_m he D hr hx ha hst hpl ht
theorem pe_m0K (K : PySem.W.Frag) (hK : X.K = K) {o : Expr} {m C : Str} {k : Nat} {sp : Sp} {E : XK} {pos apos : Pos} {ta : TE} {pl : Sem Bool} (he : PE X o ta) (D : Dm (En.of X) k C m sp) (hr : Room k X.A) (hx : Passes (L2.CX X.prog X.w) X E)
    (ht : eval (.Call (.Attribute o m apos) [] [] pos) X.env = (do let ov ← eval o X.env; standAt apos.atName; let (f, first) ← holding [ov] (getMethod ov m pl); callWith pos f first (backTo pos (starEach [] X.env)) (backToKw pos (keywordEach [] X.env))) := by rfl) :
    PE X (.Call (.Attribute o m apos) [] [] pos) (tMe (He.ga K C) m sp E ta tNil) := by
  subst hK
  exact pe_m0 he D hr hx ht
theorem pe_ciK (K : PySem.W.Frag) (hK : X.K = K) {fe e : Expr} {es : List Expr} {C : Str} {k : Nat} {sp : Sp} {E : XK} {pos : Pos} {tf : TE} {t : TA} (hf : PE X fe tf) (D : Dm (En.of X) k C "__call__" sp) (hfi : PySem.W.fnIn X.K (He.ma X.K (He.ga X.K C) "__call__") = true) (hr : Room k X.A) (hx : Passes (L2.CX X.prog X.w) X E) (ha : PA X (e :: es) t)
    (ht : eval (.Call fe (e :: es) [] pos) X.env = (do callWith pos (← eval fe X.env) [] (backTo pos (starEach (e :: es) X.env)) (backToKw pos (keywordEach [] X.env))) := by rfl)
    (hst : starEach (e :: es) X.env = (false, eval e X.env) :: starEach es X.env := by rfl) (hpl : (backTo pos (starEach es X.env)).any (·.1) = false := by rfl) : PE X (.Call fe (e :: es) [] pos) (tCI (He.ga K C) sp E tf t) := by
  subst hK
  exact pe_ci hf D hfi hr hx ha ht hst hpl
end
theorem tuple_mul1 (l : Addr) (items : Array Value) (n : Nat) (dd : Option Addr) (sl : Array (Option Value)) (u : Tok) :
    Meets (Builtin.«tuple.__mul__» ⟨[.ref l, .int 1 u], []⟩) (fun _ R s => s.heap.get? l = some { cls := .type "tuple", dict := dd, data := .seq items n, slots := sl } ∧ R (.ok (.ret (Value.ref l))) s) :=
  .of_wp fun prog w A R s h => by
    obtain ⟨hp, g, d, tk, os⟩ := s
    obtain ⟨hl, h⟩ := h
    have f1 := AutoSeq1.idx_int
    have c0 : (decide ((1 : Int) < -(2 ^ 63)) || decide ((1 : Int) ≥ 2 ^ 63)) = false := by decide
    have c1 : (items.isEmpty || (1 : Int) == 1) = true := by simp
    wp_walk using wpAny_loadPart' hl
    repeat (first
      | (refine wpAny_ite_false (decide_eq_false (by rw [c0]; exact Bool.false_ne_true)) ?_; wp_walk using wpAny_loadPart' hl)
      | (refine wpAny_ite_true (decide_eq_true c1) ?_; wp_walk using wpAny_loadPart' hl))
    exact ⟨_, rfl, h⟩
def rRepTA (K : PySem.W.Frag) : R2 := fun x y H Q => ∃ l k xs, x = V.ref l ∧ y = V.int k ∧ SqT K H l xs ∧ xs ≠ [] ∧ (1 ≤ k ∧ k ≤ 1000) ∧ xs.length ≤ 1000 ∧ (k = 1 → Q (.ref l) H) ∧ (2 ≤ k → ∀ p, H p = none → Q (.ref p) (upd H p (.tup (List.replicate k.toNat xs).flatten)))
section
variable {X : Cx}
theorem op_repTA : OpR X (binaryOp .Mult) (rRepTA X.K) := by
  intro pins s σ H x y v u Q I rx ry h
  obtain ⟨l, k, xs, rfl, rfl, hT, hne, h1, hz, q1, q2⟩ := h
  by_cases hk : k = 1
  · subst hk
    cases rx
    obtain ⟨t, rfl⟩ := ry
    obtain ⟨its, r, ⟨⟨cls, dd, data, sl⟩, ho, hc, n, hd⟩, hs⟩ := I.tuple hT
    simp only at hc hd
    subst hc hd
    refine wpAny_binaryOp_repeat_ref (T := "tuple") (U := "int") (by decide) ⟨_, ho, rfl⟩ (fun s' => typeIs_int s' 1 t) noFill_tuple_mul F.fills_int_mul F.slot_int_rmul repeat_tuple F.slot_int_index.lookup
      (call_meets F.slot_int_rmul (typeIs_int s 1 t) F.entry_int_rmul (F.args_int_rmul_2 _ _) (int_rmul_tuple 1 t l its.toArray n dd sl)
        ⟨ho, rfl, ⟨_, ho, rfl⟩, call_meets F.slot_tuple_mul ⟨_, ho, rfl⟩ F.entry_tuple_mul (F.args_tuple_mul_2 _ _) (tuple_mul1 l its.toArray n dd sl t) ⟨ho, ?_⟩⟩)
    exact ⟨.ref l, H, I, rfl, q1 rfl⟩
  · exact op_repT pins s σ H (V.ref l) (V.int k) v u Q I rx ry ⟨l, k, xs, rfl, rfl, hT, hne, by omega, h1.2, hz, q2 (by omega)⟩
theorem op_repTAK (K : PySem.W.Frag) (hK : X.K = K) : OpR X (binaryOp .Mult) (rRepTA K) := by
  subst hK
  exact op_repTA
end
/-- *e, .. , e a tuple -/
def tStar (K : PySem.W.Frag) (te : TE) (t : TA) : TA := fun σ H Q => te σ H fun v H1 => ∃ a ws, v = V.ref a ∧ SqT K H1 a ws ∧ t σ H1 fun us H2 => Q (ws ++ us) H2
section
variable {X : Cx} {e : Expr} {es : List Expr} {te : TE} {t : TA} {p : Pos}
theorem pa_star (he : PE X e te) (hr : PA X es t) (hs : starEach (.Starred e p :: es) X.env = (true, eval e X.env) :: starEach es X.env := by rfl) : PA X (.Starred e p :: es) (tStar X.K te t) := by
  refine ⟨fun pos pins s σ H Q I h => ?_⟩
  rw [hs]
  show wpAny _ _ (spliced ((true, (do let v ← eval e X.env; standAt pos; pure v)) :: backTo pos (starEach es X.env))) _ _ s
  refine PySem.W.ks_spliced (thn (he.run pins s σ H _ I h) fun u s1 ⟨x, H1, I1, r1, a, ws, ex, ht, q⟩ => ?_)
  subst ex
  obtain rfl : u = Value.ref a := r1
  refine star_tup I1 ht fun us s2 I2 rv => ?_
  exact thn (hr.run pos pins s2 σ H1 _ I2 q) fun us2 s3 ⟨xs, H3, I3, r3, q3⟩ => ⟨ws ++ xs, H3, I3, rv.append r3, q3⟩
theorem pa_starK (K : PySem.W.Frag) (hK : X.K = K) (he : PE X e te) (hr : PA X es t) (hs : starEach (.Starred e p :: es) X.env = (true, eval e X.env) :: starEach es X.env := by rfl) : PA X (.Starred e p :: es) (tStar K te t) := by
  subst hK
  exact pa_star he hr hs
end
open PySem PySem.Spec PyProof.Rows L2 GB
section
variable {prog : Program} {w : World} {A : Around} {E : Value → Shared → Prop} {s : Shared}
theorem li_item {it l : Addr} {i : Nat} {items : Array Value} {x : Value} {Q : Option Value → Shared → Prop} (hit : s.heap.IsListIter it l i) (hl : s.heap.IsList l items) (hx : items[i]? = some x)
    (hQ : ∀ h', h'.IsListIter it l (i + 1) → Heap.SameBut it s.heap h' → Q (some x) { s with heap := h' }) : wpAny (model prog w) A (callSpecial? (.ref it) "__next__") Q E s := by
  obtain ⟨o, ho, hc, hd⟩ := id hit
  obtain ⟨ol, hol, _, nl, hdl⟩ := hl
  refine wpAny_callSpecial?_slot (name := Str.ofString "__next__") hit.typeIs slot_listiter_next (wpAny_call_entry slot_listiter_next hit.typeIs entry_listiter_next ?_ (args_listiter_next _))
  refine wpAny_bind (m := field (.ref it) 0) (wpAny_field ho hd (x := .ref l) rfl ?_)
  show wpAny _ _ (if (Value.ref l == Value.none) = true then _ else _) _ _ s
  rw [if_neg (show ¬ ((Value.ref l == Value.none) = true) from Bool.false_ne_true)]
  refine wpAny_bind (m := field (.ref it) 1) (wpAny_field ho hd (x := .int i 0) rfl ?_)
  refine wpAny_bind (m := seqItems? (.ref l)) (wpAny_seqItems hol hdl ?_)
  simp only [Int.toNat_natCast, hx]
  refine wpAny_bind (wpAny_setField ho hd (by simp) (wpAny_pure ⟨x, rfl, hQ _ ?_ (Heap.SameBut.update ..)⟩))
  exact ⟨_, Heap.get?_update_self _ ho (Obj.isFreed_of_fields (Obj.data_mapFields hd _)), (Obj.cls_mapFields ..).trans hc, by
    rw [Obj.data_mapFields hd]; simp [rawInt]⟩
theorem li_end {it l : Addr} {i : Nat} {items : Array Value} {Q : Option Value → Shared → Prop} (hh : A.handled = none) (hit : s.heap.IsListIter it l i) (hl : s.heap.IsList l items) (hx : items[i]? = none)
    (hE : ∀ e h', StopX e h' → Heap.ExtBut it s.heap h' → E e { s with heap := h' }) : wpAny (model prog w) A (callSpecial? (.ref it) "__next__") Q E s := by
  obtain ⟨o, ho, hc, hd⟩ := id hit
  obtain ⟨ol, hol, _, nl, hdl⟩ := hl
  refine wpAny_callSpecial?_slot (name := Str.ofString "__next__") hit.typeIs slot_listiter_next (wpAny_call_entry slot_listiter_next hit.typeIs entry_listiter_next ?_ (args_listiter_next _))
  refine wpAny_bind (m := field (.ref it) 0) (wpAny_field ho hd (x := .ref l) rfl ?_)
  show wpAny _ _ (if (Value.ref l == Value.none) = true then _ else _) _ _ s
  rw [if_neg (show ¬ ((Value.ref l == Value.none) = true) from Bool.false_ne_true)]
  refine wpAny_bind (m := field (.ref it) 1) (wpAny_field ho hd (x := .int i 0) rfl ?_)
  refine wpAny_bind (m := seqItems? (.ref l)) (wpAny_seqItems hol hdl ?_)
  simp only [Int.toNat_natCast, hx]
  refine wpAny_bind (wpAny_rule (wpAny_bind (wpAny_setField ho hd (by simp) ?_)))
  refine wpAny_bind (m := newExc (.type "StopIteration") []) ?_
  simp only [newExc, newTuple]
  refine wpAny_bind (wpAny_newObj_type ?_ (by size_fits))
  refine wpAny_bind (m := firstArgMember _ _) (wpAny_of_eq (a := Value.none) (by first | rfl | (simp only [firstArgMember]; rfl)) ?_)
  refine wpAny_newObj_type ?_ (by size_fits)
  simp only [raiseNew]
  refine wpAny_bind (wpAny_handled ?_)
  first | rw [show A.in1.handled = none from hh] | rw [hh]
  refine wpAny_bind (wpAny_pure (wpAny_throw ?_))
  refine hE _ _ ⟨_, _, _, rfl, Heap.get?_push_size _ rfl, rfl, rfl, ?_⟩ (((Heap.SameBut.update ..).extBut.push _).push _)
  first
    | rfl
    | (rw [Array.getElem?_append_left (by decide)]; rfl)
    | kernel_rfl
end
def tYfLst (te : TE) : TYf := fun σ H Q => te σ H fun x H1 => ∃ a xs, x = .ref a ∧ H1 a = some (.lst xs) ∧ Q xs H1
theorem close_li : typeLookup (.type "list_iterator") "close" = pure none := by rw [typeLookup_type, builtinLookup_eq_fast]; kernel_rfl
theorem yf_lst {X : Cx} {e : Expr} {te : TE} (he : PE X e te) : YfE X e (tYfLst te) := by
  refine ⟨fun pins s σ H Q I h => ?_⟩
  refine thn (he.run pins s σ H _ I h) fun v s1 ⟨x, H1, I1, r1, a, xs, ex, ha, hq⟩ => ?_
  subst ex
  obtain rfl : v = Value.ref a := r1
  obtain ⟨hlen, its, n, rits, hoa⟩ := I1.hok a _ ha
  have ht : s1.heap.IsList a its.toArray := ⟨_, hoa, rfl, n, rfl⟩
  refine ⟨"list", ht.typeIs, by decide, wpAny_pyIter_list ht ?_⟩
  have ksz : ∀ b o, s1.heap.get? b = some o → b ≠ s1.heap.objs.size := fun b o e => Nat.ne_of_lt (Heap.lt_size e)
  have kp : ∀ b o, s1.heap.get? b = some o → (s1.heap.push { cls := .type "list_iterator", data := .fields #[.ref a, .int 0 0] }).get? b = some o := fun b o e => Heap.get?_push_of_some _ e
  refine ⟨s1.heap.objs.size, H1, xs, fun j h => h.IsListIter s1.heap.objs.size a j ∧ h.IsList a its.toArray, rfl, I1.kept (t' := s1.toks) kp, .inr I1.sz, Nat.ne_of_gt I1.lt, fun y c hy => ?_, I1.hok.fresh (Nat.le_refl _), fun p hp => ?_,
    ⟨⟨_, Heap.get?_push_size _ rfl, rfl, rfl⟩, ht.push _⟩, ⟨⟨"list_iterator", fun j h q => ?_, close_li, by decide⟩, fun j h h' q hk => ?_, fun A' j x s2 Q' E' hA hx q hQ => ?_, fun A' s2 Q' E' hA q hE => ?_⟩, hq⟩
  · obtain ⟨v, o, ho, _⟩ := I1.cell y c hy
    exact ksz c o ho
  · exact ksz p.1 _ (I1.pin p hp).1
  · obtain ⟨⟨o, ho, hc, _⟩, _⟩ := q
    exact ⟨o, ho, hc⟩
  · obtain ⟨⟨o, ho, r⟩, o2, ho2, r2⟩ := q
    exact ⟨⟨o, hk _ o (.inl rfl) ho, r⟩, o2, hk _ o2 (.inr (by rw [ha]; exact fun z => by cases z)) ho2, r2⟩
  · obtain ⟨q1, q2⟩ := q
    obtain ⟨u, hu, ru⟩ := rits.get hx
    have hne : a ≠ s1.heap.objs.size := ksz a _ hoa
    exact li_item q1 q2 (x := u) (by simpa using hu) fun h' q1' hs => hQ u h' s2.toks ru ⟨q1', q2.extBut hs.extBut hne⟩ fun b o hb eb => hs.extBut b o hb eb
  · obtain ⟨q1, q2⟩ := q
    have hnone : its.toArray[xs.length]? = none := by
      have e := rits.length
      have e2 : its[xs.length]? = none := List.getElem?_eq_none_iff.mpr (by omega)
      simpa using e2
    exact li_end hA q1 q2 hnone fun e h' hS hk => hE e h' s2.toks hS fun b o hb eb => hk b o hb eb
/-- a generator def of the module -/
structure Dg (N : En) (k : Nat) (x : Str) (sp : SpG) : Prop where
  fn : ∃ fd ps, GFn N.P N.w N.K N.mg N.base k (N.ga x) fd ps sp ∧ Binds N.K fd ps []
  g : N.mg x = some (.ref (N.ga x))
  kp : PySem.W.keepIn N.K (.ref (N.ga x)) = true
section
variable {X : Cx} {k : Nat} {x nm : Str} {sp : SpG} {E : XK} {e : Expr} {es : List Expr} {t : TA} {p p2 pos pos2 : Pos}
theorem pe_dg (D : Dg (En.of X) k x sp) (hr : Room (k + 3) X.A) (hg : Gl X x) (hx : Passes (L2.CX X.prog X.w) X E) (hns : NoStop X.K E) (hgl : Gl X nm) (hmg : X.mg nm = none) (hv : bootBuiltins nm = some (.type "list")) (ha : PA X (e :: es) t)
    (hdb : (x == ("__debug__" : Str)) = false := by decide) (he : starEach (e :: es) X.env = (false, eval e X.env) :: starEach es X.env := by rfl) (hpl : (backTo pos2 (starEach es X.env)).any (·.1) = false := by rfl)
    (hnm : nm ≠ "__name__" := by decide) (hdb2 : (nm == ("__debug__" : Str)) = false := by decide)
    (he2 : starEach [.Call (.Name x p2) (e :: es) [] pos2] X.env = (false, eval (.Call (.Name x p2) (e :: es) [] pos2) X.env) :: starEach [] X.env := by rfl) :
    PE X (.Call (.Name nm p) [.Call (.Name x p2) (e :: es) [] pos2] [] pos) (tListG (tCallG sp [] E t)) := by
  obtain ⟨fd, ps, F, hb⟩ := D.fn
  exact pe_listG (pgen_call F (hr.mono (by omega)) hg D.g D.kp hb .nil ha hdb he hpl) hx hns hr hgl hmg hv hnm hdb2 he2
end
/-- a generator def by its body -/
theorem dg_mk {N : En} {k : Nat} {x : Str} {st : Stmt} {Ns ps : List Str} {sp : SpG} (F : FunP N x st) (S : GScope Ns ps (defScope st))
    (bd : ∀ (kV doc pm : Value) (an : Option Addr) (cdv ct : Value) (us : List Value), us.length = ps.length → bindArgs (PySem.W.fnOf x x (defArgs st) (defBody st) (defScope st) .none kV doc pm an cdv ct) ⟨us, []⟩ = pure (ps.zip us))
    (len : ∀ vs H Q E, sp vs H Q E → vs.length = ps.length)
    (body : ∀ (cdv : Value) (A : Around) (outer : List Env) (s : Shared) (H : Hp) (vs : List V) (Q : List V → Hp → Prop) (E : XK) (pn : List (Addr × Obj)), Room k (A.deeper (envOfC x (defScope st) s.heap.objs.size (N.ga x) cdv)) → sp vs H Q E →
      ∃ t, GSs (gcxOf N.P N.w N.K N.mg N.base Ns x (defScope st) (N.ga x) cdv A outer s H E pn) (defBody st) t ∧ t { nx := fun ys _ H' => Q ys H', rt := fun ys v H' => v = .non ∧ Q ys H' } [] (start Ns vs) H) : Dg N (k + 1) x sp := by
  obtain ⟨⟨fd, F⟩, g⟩ := F
  have hb : Binds N.K fd ps [] := F.bindsN bd
  have kp := F.kp
  obtain ⟨oc, od, dV, kV, doc, pm, an, cdv, ct, osl, rfl, lk, hcd, _, _⟩ := F.ex
  exact ⟨⟨_, ps, gfn_of lk hcd S len fun A outer s H vs Q E pn hr hsp => body cdv A outer s H vs Q E pn hr hsp, hb⟩, g, kp⟩
end GB

/-! wX: rules over the row that rest on the library: zip and enumerate of lists and tuples, max and min of tuples, sorted data. -/
namespace GX
open PySem PySem.Spec PyProof.Rows L2
abbrev Fg := PySem.W.Frag
/-- t: a tuple, else a list -/
def ItS (t : Bool) (h : Heap) (it a : Addr) (i : Nat) : Prop := match t with | true => h.IsTupleIter it a i | false => h.IsListIter it a i
def SqS (K : Fg) (t : Bool) (H : Hp) (a : Addr) (xs : List V) : Prop := match t with | true => SqT K H a xs | false => SqL K H a xs
def IsS (t : Bool) (h : Heap) (a : Addr) (its : Array Value) : Prop := match t with | true => h.IsTuple a its | false => h.IsList a its
section
variable {X : Cx} {pins : List (Addr × Obj)} {σ : L2.St} {H : Hp} {s : Shared} {t : Bool} {a it : Addr} {xs : List V} {h h' : Heap} {its : Array Value} {i : Nat}
theorem seqS (I : L2.Inv X pins σ H s) (q : SqS X.K t H a xs) : ∃ us, Vals xs us ∧ IsS t s.heap a us.toArray := by
  cases t with
  | true => obtain ⟨us, rv, p, _⟩ := I.tuple q; exact ⟨us, rv, p⟩
  | false => obtain ⟨us, rv, p, _⟩ := I.list q; exact ⟨us, rv, p.isList⟩
theorem injS {ys : List V} (I : L2.Inv X pins σ H s) (q : SqS X.K t H a xs) (r : SqS X.K t H a ys) : xs = ys := by
  cases t with
  | true => exact I.tuple_inj q r
  | false => exact I.list_inj q r
theorem IsS.lt (q : IsS t h a its) : a < h.objs.size := by
  cases t with
  | true => obtain ⟨_, e, _⟩ := q; exact Heap.lt_size e
  | false => obtain ⟨_, e, _⟩ := q; exact Heap.lt_size e
theorem IsS.kp (q : IsS t h a its) (k : ∀ o, h.get? a = some o → h'.get? a = some o) : IsS t h' a its := by
  cases t with
  | true => exact Heap.IsTuple.at q k
  | false => exact Heap.IsList.at q k
theorem ItS.lt (q : ItS t h it a i) : it < h.objs.size := by
  cases t with
  | true => obtain ⟨_, e, _⟩ := q; exact Heap.lt_size e
  | false => obtain ⟨_, e, _⟩ := q; exact Heap.lt_size e
theorem ItS.kp (q : ItS t h it a i) (k : ∀ o, h.get? it = some o → h'.get? it = some o) : ItS t h' it a i := by
  cases t with
  | true => exact Heap.IsTupleIter.at q k
  | false => exact Heap.IsListIter.at q k
theorem ItS.obj (q : ItS t h it a i) : ∃ o, h.get? it = some o ∧ ∀ v, o.data ≠ .cell v := by
  cases t with
  | true => obtain ⟨o, e, _, d⟩ := q; exact ⟨o, e, fun v z => by rw [d] at z; cases z⟩
  | false => obtain ⟨o, e, _, d⟩ := q; exact ⟨o, e, fun v z => by rw [d] at z; cases z⟩
theorem ItS.ne (q : ItS t h it a i) (p : IsS t h a its) : a ≠ it := by
  intro z
  subst z
  cases t with
  | true =>
    obtain ⟨o, e, c, _⟩ := q
    obtain ⟨u, e', c', _⟩ := p
    rw [e] at e'
    cases e'
    rw [c] at c'
    exact absurd (Value.type.inj c') (by decide)
  | false =>
    obtain ⟨o, e, c, _⟩ := q
    obtain ⟨u, e', c', _⟩ := p
    rw [e] at e'
    cases e'
    rw [c] at c'
    exact absurd (Value.type.inj c') (by decide)
theorem drawS {prog : Program} {w : World} {A : Around} (hh : A.handled = none) (hne : a ≠ it) (its : Array Value) (t : Bool) :
    Draws prog w A it [it, a] its.size (fun i v => its[i]? = some v) (fun i h => ItS t h it a i ∧ IsS t h a its) := by
  cases t with
  | true => exact Draws.tuple hh it a hne its
  | false => exact Draws.list hh it a hne its
/-- the new iterator -/
def itO (t : Bool) (a : Addr) : Obj := match t with | true => { cls := .type "tuple_iterator", data := .fields #[.ref a, .int 0 0] } | false => { cls := .type "list_iterator", data := .fields #[.ref a, .int 0 0] }
theorem begS (t : Bool) (a : Addr) (its : Array Value) : Begins (.ref a) (itO t a) fun h => IsS t h a its := by
  cases t with
  | true => exact begins_tuple a its
  | false => exact begins_list a its
theorem itO_it (e : h.get? it = some (itO t a)) : ItS t h it a 0 := by
  cases t with
  | true => exact ⟨_, e, rfl, rfl⟩
  | false => exact ⟨_, e, rfl, rfl⟩
end
/-! ### zip -/
def ItzS (K : Fg) (t u : Bool) (a b : Addr) : It :=
  ⟨fun i H => ∃ (xs ys : List V) (x y : V), SqS K t H a xs ∧ SqS K u H b ys ∧ xs[i]? = some x ∧ ys[i]? = some y,
    fun i H v H' => ∃ T x y, v = .ref T ∧ H T = none ∧ H' = upd H T (.tup [x, y]) ∧ (∀ xs, SqS K t H a xs → xs[i]? = some x) ∧ ∀ ys, SqS K u H b ys → ys[i]? = some y,
    fun i H => ∃ xs ys : List V, SqS K t H a xs ∧ SqS K u H b ys ∧ i ≤ xs.length ∧ i ≤ ys.length ∧ (i = xs.length ∨ i = ys.length)⟩
theorem turn_zipS {P : Program} {w : World} {K : Fg} {elts : List Expr} {kk : Nat} {tpos : Pos} {t u : Bool} {a b N : Addr} (ha : a < N) (hb : b < N) :
    Turn P w K (.Tuple elts kk tpos) (ItzS K t u a b) [N + 4, N + 2, N + 3, N, N + 1] (N + 4) (fun i h => IsZip h (N + 4) (N + 2) (N + 3) .none ∧ IsTupOf2 h (N + 2) (.ref N) (.ref (N + 1)) ∧ (∃ x y, IsTupOf2 h (N + 3) x y) ∧ ItS t h N a i ∧ ItS u h (N + 1) b i) := by
  have S : ZipSep2 (N + 4) (N + 2) (N + 3) N (N + 1) (N :: [a]) ((N + 1) :: [b]) := zip_sep2 (by simpa using ha) (by simpa using hb)
  have nn : ∀ {k l : Nat}, k ≠ l → (N : Nat) + k ≠ N + l := fun h e => h (Nat.add_left_cancel e)
  have nn0 : ∀ {k : Nat}, k ≠ 0 → (N : Nat) + k ≠ N := fun h e => h (Nat.add_left_cancel (e.trans (Nat.add_zero N).symm))
  have five : ∀ {c : Addr}, c ∈ [N + 4, N + 2, N + 3, N, N + 1] → c = N + 4 ∨ c = N + 2 ∨ c = N + 3 ∨ c = N ∨ c = N + 1 := fun h => by simpa using h
  refine ⟨by simp, fun i h st c hc => ?_, fun i h h' st k => ?_, ?_, ?_, fun A i s Q E st h => wpAny_pyIter_zip st.1 h⟩
  · obtain ⟨hz, hTI, ⟨x, y, hTO⟩, h1, h2⟩ := st
    rcases five hc with q | q | q | q | q <;> subst q
    · exact ⟨_, hz, fun v q => nomatch q⟩
    · exact ⟨_, hTI, fun v q => nomatch q⟩
    · exact ⟨_, hTO, fun v q => nomatch q⟩
    · exact h1.obj
    · exact h2.obj
  · obtain ⟨hz, hTI, ⟨x, y, hTO⟩, h1, h2⟩ := st
    exact ⟨k _ (by simp) _ hz, k _ (by simp) _ hTI, ⟨x, y, k _ (by simp) _ hTO⟩, h1.kp fun o q => k _ (by simp) o q, h2.kp fun o q => k _ (by simp) o q⟩
  · intro X hP hw hK hc i pins s σ H E I hf st hg
    subst hP hw hK
    obtain ⟨hz, hTI, ⟨x0, y0, hTO⟩, h1, h2⟩ := st
    obtain ⟨xs, ys, x, y, hqx, hqy, hx, hy⟩ := hg
    obtain ⟨its, rv, p⟩ := seqS I hqx
    obtain ⟨its2, rv2, p2⟩ := seqS I hqy
    obtain ⟨v1, hv1, rv1⟩ := rv.get hx
    obtain ⟨v2, hv2, rv2'⟩ := rv2.get hy
    have hh : X.A.in1.handled = none := I.ok.hd hc
    have l1 : i < its.toArray.size := by have := (List.getElem?_eq_some_iff.mp hv1).1; simpa using this
    have l2 : i < its2.toArray.size := by have := (List.getElem?_eq_some_iff.mp hv2).1; simpa using this
    refine wpAny_pyNext_zipD2_item S (drawS hh (h1.ne p) its.toArray t) (drawS hh (h2.ne p2) its2.toArray u) hz hTI hTO ⟨h1, p⟩ ⟨h2, p2⟩ l1 l2 fun x1 x2 h' tk y1 y2 z' TO' st1 st2 hT hsz hk => ?_
    have e1 : x1 = v1 := by rw [List.getElem?_toArray, hv1] at y1; exact (Option.some.inj y1).symm
    have e2 : x2 = v2 := by rw [List.getElem?_toArray, hv2] at y2; exact (Option.some.inj y2).symm
    subst e1 e2
    have lz : N + 4 < s.heap.objs.size := Heap.lt_size hz
    refine ⟨_, rfl, wpAny_letOwnedTupleGo_zip (s := { s with heap := h', toks := tk }) z' fun h'' z'' sb => ?_⟩
    have hT2 : h''.get? s.heap.objs.size = some { cls := .type "tuple", data := .seq #[x1, x2] } := (sb.2 _ (Nat.ne_of_gt lz)).trans hT
    have ob : ObjOk X.prog X.w (upd H s.heap.objs.size (.tup [x, y])) h'' s.heap.objs.size (.tup [x, y]) :=
      ⟨by show 2 ≤ sizeLine; decide, [x1, x2], .cons rv1 (.cons rv2' .nil), ⟨_, hT2, rfl, _, rfl⟩⟩
    have I1 : L2.Inv X pins σ (upd H s.heap.objs.size (.tup [x, y])) { s with heap := h'', toks := tk } :=
      I.turnedNew (t' := tk) (ch := [N + 4, N + 2, N + 3, N, N + 1]) (fun c o nc q => (sb.2 c (fun z => nc (by simp [z]))).trans (hk c o (fun z => nc (by simp [z])) (fun z => nc (by simp [z])) (fun z => nc (by simp [z])) (fun z => nc (by simp [z])) q)) hf (Nat.le_refl _) ob
    refine ⟨.ref s.heap.objs.size, _, I1, rfl, ⟨_, x, y, rfl, I.hok.fresh (Nat.le_refl _), rfl, fun l hl => by rw [injS I hl hqx]; exact hx, fun l hl => by rw [injS I hl hqy]; exact hy⟩, ⟨z'', ?_, ⟨x1, x2, ?_⟩, ?_, ?_⟩, fun c hcm => ?_⟩
    · exact (sb.2 _ (nn (by decide))).trans (hk _ _ (nn (by decide)) (nn (by decide)) (nn0 (by decide)) (nn (by decide)) hTI)
    · exact (sb.2 _ (nn (by decide))).trans TO'
    · exact st1.1.kp fun o q => (sb.2 _ (fun e => nn0 (k := 4) (by decide) e.symm)).trans q
    · exact st2.1.kp fun o q => (sb.2 _ (nn (by decide))).trans q
    · have lz' : (N : Nat) + 4 < s.heap.objs.size := lz
      have le4 : (c : Nat) ≤ N + 4 := by
        rcases five hcm with q | q | q | q | q <;> rw [q] <;> first | exact Nat.le_refl _ | exact Nat.add_le_add_left (by decide) _ | exact Nat.le_add_right _ _
      have hlt : c < s.heap.objs.size := Nat.lt_of_le_of_lt le4 lz'
      rw [upd_ne (Nat.ne_of_lt hlt)]
      exact (hf c hcm).1
  · intro X hP hw hK hc i pins s σ H E I hf st hg
    subst hP hw hK
    obtain ⟨hz, hTI, ⟨x0, y0, hTO⟩, h1, h2⟩ := st
    obtain ⟨xs, ys, hqx, hqy, q1, q2, hend⟩ := hg
    obtain ⟨its, rv, p⟩ := seqS I hqx
    obtain ⟨its2, rv2, p2⟩ := seqS I hqy
    have hh : X.A.in1.handled = none := I.ok.hd hc
    have e1 := rv.length
    have e2 := rv2.length
    refine wpAny_pyNext_zipD2_end S (drawS hh (h1.ne p) its.toArray t) (drawS hh (h2.ne p2) its2.toArray u) hz hTI hTO ⟨h1, p⟩ ⟨h2, p2⟩ (by simp; omega) (by simp; omega) (by simp; omega) fun h' tk hk => ⟨rfl, I.turnedL (t' := tk) (ch := [N + 4, N + 2, N + 3, N, N + 1]) (fun c o nc q => ?_) hf⟩
    exact hk c o (fun z => nc (by simp [z])) (fun z => nc (by simp [z])) (fun z => nc (by simp [z])) (fun z => nc (by simp [z])) q
def iZipS (K : Fg) (t u : Bool) (ta : TA) : TI := fun σ H R => ta σ H fun vs H1 => ∃ a b xs ys, vs = [.ref a, .ref b] ∧ SqS K t H1 a xs ∧ SqS K u H1 b ys ∧ R (ItzS K t u a b) H1
theorem pi_zipS {X : Cx} (t u : Bool) {e e2 : Expr} {ta : TA} {p pos tpos : Pos} {elts : List Expr} {kk : Nat} (hg : Gl X "zip") (hm : X.mg "zip" = none) (ha : PA X [e, e2] ta)
    (hs : starEach [e, e2] X.env = (false, eval e X.env) :: starEach [e2] X.env := by rfl) (hpl : (backTo pos (starEach [e2] X.env)).any (·.1) = false := by rfl) :
    PI X (.Tuple elts kk tpos) (.Call (.Name "zip" p) [e, e2] [] pos) (iZipS X.K t u ta) := by
  refine ⟨fun pins s σ H R I h => Call_ (ld_blt I hg hm PyProof.Rows.boot_zip (PyProof.Rows.callWith_type1 (thn (ha.run pos pins s σ H _ I h) fun us s1 ⟨vs, H1, I1, r1, q1⟩ => ?_) hs hpl))⟩
  obtain ⟨a, b, xs, ys, rfl, hqx, hqy, q⟩ := q1
  cases r1 with
  | cons r rr => cases rr with
    | cons r' rr =>
      cases rr; cases r; cases r'
      obtain ⟨its, rv, p1⟩ := seqS I1 hqx
      obtain ⟨its2, rv2, p2⟩ := seqS I1 hqy
      refine zip_begins2 (begS t a its.toArray) (begS u b its2.toArray) p1 p2 fun h' hz hTI hTO h1 h2 hsz hk => wpAny_pyIter_zip hz ?_
      have I2 : L2.Inv X pins σ H1 { s1 with heap := h' } := I1.kept (t' := s1.toks) hk
      refine ⟨s1.heap.objs.size + 4, [s1.heap.objs.size + 4, s1.heap.objs.size + 2, s1.heap.objs.size + 3, s1.heap.objs.size, s1.heap.objs.size + 1], _, _, H1, rfl, I2, turn_zipS p1.lt p2.lt, ⟨hz, hTI, ⟨_, _, hTO⟩, itO_it h1, itO_it h2⟩, fun c hcm => ?_, q⟩
      have hle : s1.heap.objs.size ≤ c := by
        have : c = s1.heap.objs.size + 4 ∨ c = s1.heap.objs.size + 2 ∨ c = s1.heap.objs.size + 3 ∨ c = s1.heap.objs.size ∨ c = s1.heap.objs.size + 1 := by simpa using hcm
        rcases this with z | z | z | z | z <;> rw [z] <;> first | exact Nat.le_add_right _ _ | exact Nat.le_refl _
      exact I1.fpOk hle (I1.hok.fresh hle)
theorem pi_zipSK {X : Cx} (K : Fg) (hK : X.K = K) (t u : Bool) {e e2 : Expr} {ta : TA} {p pos tpos : Pos} {elts : List Expr} {kk : Nat} (hg : Gl X "zip") (hm : X.mg "zip" = none) (ha : PA X [e, e2] ta)
    (hs : starEach [e, e2] X.env = (false, eval e X.env) :: starEach [e2] X.env := by rfl) (hpl : (backTo pos (starEach [e2] X.env)).any (·.1) = false := by rfl) :
    PI X (.Tuple elts kk tpos) (.Call (.Name "zip" p) [e, e2] [] pos) (iZipS K t u ta) := by subst hK; exact pi_zipS t u hg hm ha hs hpl
/-! ### enumerate -/
theorem enum_new {v : Value} {o : Obj} {H : Heap → Prop} (B : Begins v o H) :
    Meets (Builtin.«enumerate.__new__» ⟨[.type "enumerate", v], []⟩) (fun _ R s => H s.heap ∧
      R (.ok (.ret (.ref (s.heap.push o).objs.size))) { s with heap := (s.heap.push o).push { cls := .type "enumerate", data := .fields #[.none, .bool false, .ref s.heap.objs.size, rawInt 0, .none, .none] } }) :=
  .of_wp fun prog w A R s h => by
    obtain ⟨hp, g, d, tk, os⟩ := s
    obtain ⟨h1, h⟩ := h
    have hsub := sub_enumerate
    have q1 : ∀ {A' : Around} {E : Value → Shared → Prop} {Q : Value → Shared → Prop}, Q (.ref hp.objs.size) ⟨hp.push o, g, d, tk, os⟩ → wpAny (model prog w) A' (pyIter v) Q E ⟨hp, g, d, tk, os⟩ := fun q => B.iter prog w _ _ ⟨hp, g, d, tk, os⟩ _ h1 q
    wp_walk using q1
    refine wpAny_stack_any fun st => wpAny_pure ?_
    split
    · rename_i c _ _ _ _ _
      cases (c == Value.type "enumerate") <;> (wp_walk using q1; exact ⟨_, rfl, h⟩)
    · wp_walk using q1
      exact ⟨_, rfl, h⟩
section
variable {prog : Program} {w : World} {A : Around} {E : Value → Shared → Prop} {s : Shared}
theorem enum_call {v : Value} {o : Obj} {H : Heap → Prop} {Q : Value → Shared → Prop} (B : Begins v o H) (h1 : H s.heap)
    (h : ∀ h', IsEnum h' (s.heap.objs.size + 1) s.heap.objs.size 0 .none → h'.get? s.heap.objs.size = some o → (∀ b o, s.heap.get? b = some o → h'.get? b = some o) → Q (.ref (s.heap.objs.size + 1)) { s with heap := h' }) :
    wpAny (model prog w) A (call (.type "enumerate") [v]) Q E s := by
  refine callType_new F.called_enumerate (by decide) (F.typeCall_enumerate_1 _) (F.newCall_enumerate_1 _) (fun obj => F.args_object_init_2 obj _) F.entry_enumerate_new (enum_new B) ⟨h1, ?_⟩
  have hz : (s.heap.push o).objs.size = s.heap.objs.size + 1 := Heap.size_push ..
  show _ ∧ _
  rw [hz]
  have he : IsEnum ((s.heap.push o).push { cls := .type "enumerate", data := .fields #[.none, .bool false, .ref s.heap.objs.size, rawInt 0, .none, .none] }) (s.heap.objs.size + 1) s.heap.objs.size 0 .none := by
    have := Heap.get?_push_size (s.heap.push o) (o := { cls := .type "enumerate", data := .fields #[.none, .bool false, .ref s.heap.objs.size, rawInt 0, .none, .none] }) rfl
    rw [hz] at this; exact this
  exact ⟨⟨_, he, rfl⟩, h _ he (Heap.get?_push_of_some _ (Heap.get?_push_size _ B.free)) fun b o x => Heap.get?_push_of_some _ (Heap.get?_push_of_some _ x)⟩
end
def IteS (K : Fg) (t : Bool) (a : Addr) : It :=
  ⟨fun i H => ∃ xs x, SqS K t H a xs ∧ xs[i]? = some x, fun i H v H' => ∃ T x, v = .ref T ∧ H T = none ∧ H' = upd H T (.tup [.int (i : Nat), x]) ∧ ∀ xs, SqS K t H a xs → xs[i]? = some x, fun i H => ∃ xs, SqS K t H a xs ∧ i = xs.length⟩
theorem turn_enumS {P : Program} {w : World} {K : Fg} {elts : List Expr} {kk : Nat} {tpos : Pos} {t : Bool} {a N : Addr} (ha : a < N) :
    Turn P w K (.Tuple elts kk tpos) (IteS K t a) [N + 1, N] (N + 1) (fun i h => (∃ old, IsEnum h (N + 1) N ((i : Nat) : Int) old) ∧ ItS t h N a i) := by
  have two : ∀ {c : Addr}, c ∈ [N + 1, N] → c = N + 1 ∨ c = N := fun h => by simpa using h
  have n1 : N + 1 ≠ N := Nat.succ_ne_self _
  refine ⟨by simp, fun i h st c hc => ?_, fun i h h' st k => ?_, ?_, ?_, fun A i s Q E st h => let ⟨⟨_, he⟩, _⟩ := st; wpAny_pyIter_enum he h⟩
  · obtain ⟨⟨old, he⟩, h1⟩ := st
    rcases two hc with q | q <;> subst q
    · exact ⟨_, he, fun v q => nomatch q⟩
    · exact h1.obj
  · obtain ⟨⟨old, he⟩, h1⟩ := st
    exact ⟨⟨old, k _ (by simp) _ he⟩, h1.kp fun o q => k _ (by simp) o q⟩
  · intro X hP hw hK hc i pins s σ H E I hf st hg
    subst hP hw hK
    obtain ⟨⟨old, he⟩, h1⟩ := st
    obtain ⟨xs, x, hq, hx⟩ := hg
    obtain ⟨its, rv, p⟩ := seqS I hq
    obtain ⟨v1, hv1, rv1⟩ := rv.get hx
    have hh : X.A.in1.handled = none := I.ok.hd hc
    have l1 : i < its.toArray.size := by have := (List.getElem?_eq_some_iff.mp hv1).1; simpa using this
    have le1 : N + 1 < s.heap.objs.size := Heap.lt_size he
    have nf : (N + 1 : Nat) ∉ [N, a] := by
      intro m
      have : (N : Nat) + 1 = N ∨ (N : Nat) + 1 = a := by simpa using m
      rcases this with z | z
      · exact n1 z
      · exact Nat.lt_irrefl _ (Nat.lt_of_lt_of_le ha (by rw [← z]; exact Nat.le_succ _))
    refine wpAny_pyNext_enum_itemD (drawS hh (h1.ne p) its.toArray t) he ⟨h1, p⟩ l1 n1 nf fun y h' tk y1 ho st' hT hsz hk => ?_
    have e1 : y = v1 := by rw [List.getElem?_toArray, hv1] at y1; exact (Option.some.inj y1).symm
    subst e1
    refine ⟨_, rfl, wpAny_letOwnedTupleGo_enum (s := { s with heap := h', toks := tk + 1 }) ho fun h'' he' sb => ?_⟩
    have hT2 : h''.get? s.heap.objs.size = some { cls := .type "tuple", data := .seq #[.int i tk, y] } := (sb.2 _ (Nat.ne_of_gt le1)).trans hT
    have ob : ObjOk X.prog X.w (upd H s.heap.objs.size (.tup [.int (i : Nat), x])) h'' s.heap.objs.size (.tup [.int (i : Nat), x]) :=
      ⟨by show 2 ≤ sizeLine; decide, [.int i tk, y], .cons ⟨_, rfl⟩ (.cons rv1 .nil), ⟨_, hT2, rfl, _, rfl⟩⟩
    have I1 : L2.Inv X pins σ (upd H s.heap.objs.size (.tup [.int (i : Nat), x])) { s with heap := h'', toks := tk + 1 } :=
      I.turnedNew (t' := tk + 1) (ch := [N + 1, N]) (fun c o nc q => (sb.2 c (fun z => nc (by simp [z]))).trans (hk c o (fun z => nc (by simp [z])) (fun z => nc (by simp [z])) q)) hf (Nat.le_refl _) ob
    refine ⟨.ref s.heap.objs.size, _, I1, rfl, ⟨_, x, rfl, I.hok.fresh (Nat.le_refl _), rfl, fun l hl => by rw [injS I hl hq]; exact hx⟩, ⟨⟨y, ?_⟩, st'.1.kp fun o q => (sb.2 _ (Ne.symm n1)).trans q⟩, fun c hcm => ?_⟩
    · have e1 : ((i + 1 : Nat) : Int) = (i : Int) + 1 := by omega
      rw [e1]; exact he'
    · have hlt : c < s.heap.objs.size := by
        rcases two hcm with q | q
        · rw [q]; exact le1
        · rw [q]; exact Nat.lt_of_succ_lt le1
      rw [upd_ne (Nat.ne_of_lt hlt)]
      exact (hf c hcm).1
  · intro X hP hw hK hc i pins s σ H E I hf st hg
    subst hP hw hK
    obtain ⟨⟨old, he⟩, h1⟩ := st
    obtain ⟨xs, hq, hend⟩ := hg
    obtain ⟨its, rv, p⟩ := seqS I hq
    have hh : X.A.in1.handled = none := I.ok.hd hc
    have e1 := rv.length
    obtain ⟨f0, f1, f2, f3, f4, f5⟩ := hf N (by simp)
    have ei : i = its.toArray.size := by simp; omega
    rw [ei] at h1
    exact wpAny_pyNext_enum_endD (drawS hh (h1.ne p) its.toArray t) he ⟨h1, p⟩ fun h' eb => ⟨rfl, I.turned (t' := s.toks) (fun b o hb q => eb b o hb q) f0 f1 f3 f4 f5⟩
def iEnumS (K : Fg) (t : Bool) (ta : TA) : TI := fun σ H R => ta σ H fun vs H1 => ∃ a xs, vs = [.ref a] ∧ SqS K t H1 a xs ∧ R (IteS K t a) H1
theorem pi_enumS {X : Cx} (t : Bool) {e : Expr} {ta : TA} {p pos tpos : Pos} {elts : List Expr} {kk : Nat} (hg : Gl X "enumerate") (hm : X.mg "enumerate" = none) (ha : PA X [e] ta) (hs : starEach [e] X.env = [(false, eval e X.env)] := by rfl) :
    PI X (.Tuple elts kk tpos) (.Call (.Name "enumerate" p) [e] [] pos) (iEnumS X.K t ta) := by
  refine ⟨fun pins s σ H R I h => Call_ (ld_blt I hg hm boot_enumerate (PyProof.Rows.callWith_type1 (thn (ha.run pos pins s σ H _ I h) fun us s1 ⟨vs, H1, I1, r1, q1⟩ => ?_) hs rfl))⟩
  obtain ⟨a, xs, rfl, hq, q⟩ := q1
  cases r1 with
  | cons r rr =>
    cases rr; cases r
    obtain ⟨its, rv, p'⟩ := seqS I1 hq
    refine enum_call (begS t a its.toArray) p' fun h' he hit hk => wpAny_pyIter_enum he ?_
    have I2 : L2.Inv X pins σ H1 { s1 with heap := h' } := I1.kept (t' := s1.toks) hk
    refine ⟨s1.heap.objs.size + 1, [s1.heap.objs.size + 1, s1.heap.objs.size], _, _, H1, rfl, I2, turn_enumS p'.lt, ⟨⟨.none, he⟩, itO_it hit⟩, fun c hcm => ?_, q⟩
    have hle : s1.heap.objs.size ≤ c := by
      have : c = s1.heap.objs.size + 1 ∨ c = s1.heap.objs.size := by simpa using hcm
      rcases this with z | z <;> rw [z] <;> first | exact Nat.le_add_right _ _ | exact Nat.le_refl _
    exact I1.fpOk hle (I1.hok.fresh hle)
theorem pi_enumSK {X : Cx} (K : Fg) (hK : X.K = K) (t : Bool) {e : Expr} {ta : TA} {p pos tpos : Pos} {elts : List Expr} {kk : Nat} (hg : Gl X "enumerate") (hm : X.mg "enumerate" = none) (ha : PA X [e] ta) (hs : starEach [e] X.env = [(false, eval e X.env)] := by rfl) :
    PI X (.Tuple elts kk tpos) (.Call (.Name "enumerate" p) [e] [] pos) (iEnumS K t ta) := by subst hK; exact pi_enumS t hg hm ha hs
/-! ### max, min of a tuple of ints -/
theorem rv_ints {ns : List Int} {us : List Value} (rv : Vals (ns.map V.int) us) (h : Heap) : ∃ as, ReadsAll h us (ns.map PyData.int) as := by
  induction ns generalizing us with
  | nil => cases rv; exact ⟨_, .nil⟩
  | cons n ns ih =>
    cases rv with
    | cons r rr =>
      obtain ⟨t, rfl⟩ := r
      obtain ⟨as, h⟩ := ih rr
      exact ⟨_, .cons (.int n t) h⟩
theorem alike_ints (l : List Int) : PySem.W.AlikeAll (l.map PyData.int) := by
  refine ⟨fun x hx y hy => ?_, fun x hx => ?_⟩
  · obtain ⟨a, _, rfl⟩ := List.mem_map.mp hx
    obtain ⟨b, _, rfl⟩ := List.mem_map.mp hy
    simp only [PySem.W.alike]
  · obtain ⟨a, _, rfl⟩ := List.mem_map.mp hx
    exact fun e => by cases e
theorem reads_int {h : Heap} {v : Value} {n : Int} {as : List Addr} (r : Reads h v (.int n) as) : ∃ t, v = .int n t := by cases r; exact ⟨_, rfl⟩
def rMxT (K : Fg) : List V → Hp → VK → Prop := fun vs H Q => ∃ (a : Addr) (n : Int) (ns : List Int), vs = [V.ref a] ∧ SqT K H a ((n :: ns).map V.int) ∧ Q (.int (ns.foldl max n)) H
def rMnT (K : Fg) : List V → Hp → VK → Prop := fun vs H Q => ∃ (a : Addr) (n : Int) (ns : List Int), vs = [V.ref a] ∧ SqT K H a ((n :: ns).map V.int) ∧ Q (.int (ns.foldl min n)) H
section
variable {X : Cx}
theorem cr_maxT (hc : X.calm = true) (hu : X.A.units + 1 < cLine) : CallR X (.builtin "max") (rMxT X.K) := by
  intro pins s σ H vs us Q I r h
  obtain ⟨a, n, ns, rfl, hs, q⟩ := h
  obtain ⟨its, rv, p, _⟩ := I.tuple hs
  rw [Vals.ref1 r]
  obtain ⟨as, hr⟩ := rv_ints rv s.heap
  have hd : PyData.depthAll ((n :: ns).map PyData.int) = 0 := PySem.W.depth_ints _
  refine PySem.W.max_tuple_data (I.ok.hd hc) (vs := its.toArray) p (x := .int n) (xs := ns.map PyData.int) hr (alike_ints (n :: ns)) (by rw [show PyData.int n :: ns.map PyData.int = (n :: ns).map PyData.int from rfl, hd]; exact hu) fun i v h' tk bs hv hm hk => ?_
  rw [PySem.W.maxD_ints] at hm
  obtain ⟨t, rfl⟩ := reads_int hm
  exact ⟨.int _, H, I.kept hk, ⟨_, rfl⟩, q⟩
theorem cr_minT (hc : X.calm = true) (hu : X.A.units + 1 < cLine) : CallR X (.builtin "min") (rMnT X.K) := by
  intro pins s σ H vs us Q I r h
  obtain ⟨a, n, ns, rfl, hs, q⟩ := h
  obtain ⟨its, rv, p, _⟩ := I.tuple hs
  rw [Vals.ref1 r]
  obtain ⟨as, hr⟩ := rv_ints rv s.heap
  have hd : PyData.depthAll ((n :: ns).map PyData.int) = 0 := PySem.W.depth_ints _
  refine PySem.W.min_tuple_data (I.ok.hd hc) (vs := its.toArray) p (x := .int n) (xs := ns.map PyData.int) hr (alike_ints (n :: ns)) (by rw [show PyData.int n :: ns.map PyData.int = (n :: ns).map PyData.int from rfl, hd]; exact hu) fun i v h' tk bs hv hm hk => ?_
  rw [PySem.W.minD_ints] at hm
  obtain ⟨t, rfl⟩ := reads_int hm
  exact ⟨.int _, H, I.kept hk, ⟨_, rfl⟩, q⟩
theorem cr_maxTK (K : Fg) (hK : X.K = K) (hc : X.calm = true) (hu : X.A.units + 1 < cLine) : CallR X (.builtin "max") (rMxT K) := by subst hK; exact cr_maxT hc hu
theorem cr_minTK (K : Fg) (hK : X.K = K) (hc : X.calm = true) (hu : X.A.units + 1 < cLine) : CallR X (.builtin "min") (rMnT K) := by subst hK; exact cr_minT hc hu
end
/-! ### sorted rows of ints -/
/-- rows in order -/
def leR (a b : List Int) : Bool := decide (a ≤ b)
def srtR (l : List (List Int)) : List (List Int) := l.mergeSort leR
def rSortR (K : Fg) : List V → Hp → VK → Prop := fun vs H Q => ∃ (a : Addr) (rows : List (List Int)) (ws : List V), vs = [V.ref a] ∧ SqL K H a ws ∧ Paired (fun r w => ∃ b, w = V.ref b ∧ SqT K H b (r.map V.int)) rows ws ∧ rows.length ≤ 1000000 ∧ (∀ r ∈ rows, r ≠ []) ∧
  ∀ p zs, H p = none → (∀ G : List Int → V → Prop, Paired G rows ws → Paired G (srtR rows) zs) → Q (.ref p) (upd H p (.lst zs))
theorem paired_zip {α β : Type} {G : α → β → Prop} {l : List α} {r : List β} (h : Paired G l r) : ∀ p ∈ l.zip r, G p.1 p.2 := by
  induction h with
  | nil => intro p hp; cases hp
  | cons a _ ih =>
    intro p hp
    rw [List.zip_cons_cons] at hp
    rcases List.mem_cons.mp hp with e | m
    · subst e; exact a
    · exact ih p m
theorem paired_of {α β : Type} {G : α → β → Prop} : ∀ (l : List (α × β)), (∀ p ∈ l, G p.1 p.2) → Paired G (l.map Prod.fst) (l.map Prod.snd)
  | [], _ => .nil
  | p :: l, h => .cons (h p List.mem_cons_self) (paired_of l fun q m => h q (List.mem_cons_of_mem _ m))
theorem paired_len {α β : Type} {G : α → β → Prop} {l : List α} {r : List β} (h : Paired G l r) : l.length = r.length := by
  induction h with
  | nil => rfl
  | cons _ _ ih => simp [ih]
theorem vals_each {α : Type} : ∀ {ws : List V} {us : List Value} {rows : List α}, Vals ws us → rows.length = ws.length → PySem.W.EachIs (fun u (p : α × V) => RelV p.2 u) us (rows.zip ws)
  | _, _, [], .nil, _ => .nil
  | _, _, r :: rows, .cons h t, e => .cons h (vals_each t (by simpa using e))
  | _, _, [], .cons _ _, e => by simp at e
  | _, _, _ :: _, .nil, e => by simp at e
theorem each_vals {α : Type} : ∀ {us : List Value} {ps : List (α × V)}, PySem.W.EachIs (fun u (p : α × V) => RelV p.2 u) us ps → Vals (ps.map Prod.snd) us
  | _, _, .nil => .nil
  | _, _, .cons h t => .cons h (each_vals t)
section
variable {X : Cx}
theorem cr_sortR (hu : X.A.units + 3 < cLine) : CallR X (.builtin "sorted") (rSortR X.K) := by
  intro pins s σ H vs us Q I r h
  obtain ⟨a, rows, ws, rfl, hs, hp, hz, hne, q⟩ := h
  obtain ⟨its, rv, hl, hsm⟩ := I.list hs
  rw [Vals.ref1 r]
  have hlen := paired_len hp
  let enc : List Int × V → PyData := fun p => .tuple (p.1.map PyData.int)
  have hlz : (rows.zip ws).length = rows.length := by rw [List.length_zip, hlen, Nat.min_self]
  have er : PySem.W.EachIs (fun u (p : List Int × V) => ∃ as, Reads s.heap u (enc p) as) its (rows.zip ws) := by
    clear q hs hl hz hne hlz r hsm
    induction hp generalizing its with
    | nil => cases rv; exact .nil
    | cons h1 h2 ih =>
      cases rv with
      | cons g gs =>
        refine .cons ?_ (ih _ gs (by simpa using hlen))
        obtain ⟨b, rfl, hb⟩ := h1
        obtain ⟨us2, rv2, p2, _⟩ := I.tuple hb
        obtain ⟨as, ra⟩ := rv_ints rv2 s.heap
        cases g
        obtain ⟨o, e1, e2, n, e3⟩ := p2
        exact ⟨as, .tuple e1 e2 e3 ra⟩
  have hal : PySem.W.AllAlike ((rows.zip ws).map enc) := PySem.W.AllAlike.of fun b b' => by show PySem.W.alike (.tuple _) (.tuple _) = true; rw [PySem.W.alike]; exact PySem.W.alike_ints _ _
  have hk : PySem.W.Sortable ((rows.zip ws).map enc) := .inl fun d hd => by
    obtain ⟨p, hp', rfl⟩ := List.mem_map.mp hd
    have h1 := hne p.1 (List.of_mem_zip hp').1
    cases e : p.1 with
    | nil => exact absurd e h1
    | cons x l => exact ⟨.int x, l.map PyData.int, by show PyData.tuple (p.1.map PyData.int) = _; rw [e]; rfl⟩
  refine PySem.W.sorted_data hl.isList (vals_each rv hlen) er hal hk (by rw [hlz, sizeLine_eq]; omega) (fun b _ => ?_) fun out ho hout => ?_
  · show X.A.units + 2 + (PyData.tuple (b.1.map PyData.int)).depth < cLine
    rw [PyData.depth, PySem.W.depth_ints]
    exact hu
  · have hle : PySem.W.dataLe false enc = fun p q => leR p.1 q.1 := by
      funext p q
      show (!PySem.W.dataLt (.tuple (q.1.map PyData.int)) (.tuple (p.1.map PyData.int))) = _
      rw [PySem.W.dataLt_tuple]
      show (!PySem.W.rowLt _ _) = _
      rw [PySem.W.dataLt_ints]
      unfold leR
      by_cases h : q.1 < p.1
      · have h' : ¬ p.1 ≤ q.1 := fun r => List.not_lt.mpr r h
        simp [h, h']
      · have h' : p.1 ≤ q.1 := List.not_lt.mp h
        simp [h, h']
    rw [hle] at hout
    have hv := each_vals hout
    obtain ⟨ep, he'⟩ := PyProof.Rows.sortedAll_at s.heap its out.toArray
    have hlen2 : (((rows.zip ws).mergeSort fun p q => leR p.1 q.1).map Prod.snd).length ≤ sizeLine := by
      rw [List.length_map, List.length_mergeSort, hlz, sizeLine_eq]; omega
    have hfst : ((rows.zip ws).mergeSort fun p q => leR p.1 q.1).map Prod.fst = srtR rows := by
      unfold srtR
      rw [PySem.W.sort_maps (s := leR) Prod.fst (fun a _ b _ => rfl), List.map_fst_zip (Nat.le_of_eq hlen)]
    refine ⟨.ref _, upd H (s.heap.objs.size + 1) (.lst (((rows.zip ws).mergeSort fun p q => leR p.1 q.1).map Prod.snd)), I.laid (t' := s.toks) (fun _ _ => PyProof.Rows.sortedAll_old) (Nat.le_succ _) ⟨hlen2, out, ep, hv, he'⟩, rfl, q _ _ (I.hok.fresh (Nat.le_succ _)) fun G hG => ?_⟩
    rw [← hfst]
    refine paired_of _ fun p hp' => paired_zip hG p ((List.mergeSort_perm _ _).subset hp')
theorem cr_sortRK (K : Fg) (hK : X.K = K) (hu : X.A.units + 3 < cLine) : CallR X (.builtin "sorted") (rSortR K) := by subst hK; exact cr_sortR hu
end
/-! ### x in o by an own __contains__ -/
def rInO (C : Addr) (sp : Sp) (E : XK) (n : Bool) : R2 := fun x y H Q => ∃ b dy gs, y = V.ref b ∧ H b = some (.ins C dy gs) ∧ sp [y, x] H (fun z H' => ∃ r, z = V.bl r ∧ Q (.bl (n.xor r)) H') E
section
variable {X : Cx} {k : Nat} {C : Str} {sp : Sp} {E : XK}
theorem op_inO (D : GB.Dm (GB.En.of X) k C "__contains__" sp) (hr : Room k X.A) (hx : Passes (L2.CX X.prog X.w) X E) : OpR X (compareOp .In) (rInO (He.ga X.K C) sp E false) := by
  intro pins s σ H x y v u Q I rx ry h
  obtain ⟨b, dy, gs, rfl, hb, q⟩ := h
  cases (show u = Value.ref b from ry)
  obtain ⟨mB, J, _⟩ := ins_get I.hok hb
  obtain ⟨od, J, _⟩ := J.look
  obtain ⟨m, hF⟩ := I.fr
  refine PySem.W.in_K hF I.ok.mod.kin J D.m.at_ D.m.fn ?_
  refine wpAny_mono (wpAny_call (run_fnR (us := [.ref b, v]) (vs := [.ref b, x]) D.fn hr hx I (.cons rfl (.cons rx .nil)) q)) (fun w s' z => ?_) fun _ _ x => x
  obtain ⟨z', H', I', rz, r, ez, qz⟩ := z
  subst ez
  cases (show w = Value.bool r from rz)
  exact wpAny_truthy_bool ⟨.bl r, H', I', rfl, by simpa using qz⟩
theorem op_ninO (D : GB.Dm (GB.En.of X) k C "__contains__" sp) (hr : Room k X.A) (hx : Passes (L2.CX X.prog X.w) X E) : OpR X (compareOp .NotIn) (rInO (He.ga X.K C) sp E true) := by
  intro pins s σ H x y v u Q I rx ry h
  obtain ⟨b, dy, gs, rfl, hb, q⟩ := h
  cases (show u = Value.ref b from ry)
  obtain ⟨mB, J, _⟩ := ins_get I.hok hb
  obtain ⟨od, J, _⟩ := J.look
  obtain ⟨m, hF⟩ := I.fr
  refine PySem.W.notIn_K hF I.ok.mod.kin J D.m.at_ D.m.fn ?_
  refine wpAny_mono (wpAny_call (run_fnR (us := [.ref b, v]) (vs := [.ref b, x]) D.fn hr hx I (.cons rfl (.cons rx .nil)) q)) (fun w s' z => ?_) fun _ _ x => x
  obtain ⟨z', H', I', rz, r, ez, qz⟩ := z
  subst ez
  cases (show w = Value.bool r from rz)
  exact wpAny_truthy_bool ⟨.bl (!r), H', I', rfl, by simpa using qz⟩
end
end GX

/-! wY: dicts with tuple keys: their items walked, displays, and a dict that changes no more. -/
namespace GX
open PySem PySem.Spec PyProof.Rows L2
section
variable {X : Cx} {pins : List (Addr × Obj)} {σ : L2.St} {H : Hp} {s : Shared} {P : Program} {w : World} {K : Fg} {o : Obj} {es : Array DictEntry} {ep : Nat} {d : Addr}
/-- what each entry holds -/
theorem rowsT {kvs : List (List Key × V)} (I : L2.Inv X pins σ H s) (h : H d = some (.frz o (.dT kvs))) :
    (d == sysModules) = false ∧ s.heap.get? d = some o ∧ o.ExactDict ∧ ∃ (es : Array DictEntry) (ep : Nat), o.data = .dict es ep ∧ es.size = kvs.length ∧
      ∀ (i : Nat) (hi : i < es.size), ∃ k v q, kvs[i]? = some (k, v) ∧ es[i].key = .ref q ∧ H q = some (.tup (k.map kV)) ∧ RelV v es[i].val := by
  obtain ⟨hd, z, hs, xs, pr, o', es, ep, ho, hx, hdt, he, _⟩ := I.hok d _ h
  rw [hd] at ho
  cases ho
  have l1 : es.size = xs.length := size_of_entries he
  have l2 : kvs.length = xs.length := Paired.length pr
  refine ⟨hs, hd, hx, es, ep, hdt, by omega, fun i hi => ?_⟩
  have hk : i < kvs.length := by omega
  obtain ⟨b, hb, e1, e2, e3⟩ := paired_get pr (List.getElem?_eq_getElem hk)
  have q := entry_at he i
  rw [hb] at q
  have qe : es[i]? = some es[i] := Array.getElem?_eq_getElem hi
  rw [qe] at q
  have q' := Option.some.inj q
  refine ⟨kvs[i].1, kvs[i].2, b.2.1, List.getElem?_eq_getElem hk, by rw [q']; rfl, e2, by rw [q']; exact e3⟩
/-- key and value in a new pair -/
def ItiT (d : Addr) (o : Obj) (kvs : List (List Key × V)) : It :=
  ⟨fun i H => H d = some (.frz o (.dT kvs)) ∧ i < kvs.length, fun i H x H' => ∃ (T q : Addr) (k : List Key) (v : V), kvs[i]? = some (k, v) ∧ x = .ref T ∧ H T = none ∧ H q = some (.tup (k.map kV)) ∧ H' = upd H T (.tup [.ref q, v]), fun i H => H d = some (.frz o (.dT kvs)) ∧ kvs.length ≤ i⟩
theorem turn_itemsT {kvs : List (List Key × V)} {elts : List Expr} {kk : Nat} {tpos : Pos} (it : Addr) (hod : o.data = .dict es ep) :
    Turn P w K (.Tuple elts kk tpos) (ItiT d o kvs) [it] it (fun i h => ∃ ok ov, IsItemIter h it d i kvs.length ep ok ov) where
  mem := by simp
  obj := fun i h st b hb => by
    obtain rfl : b = it := by simpa using hb
    obtain ⟨ok, ov, z⟩ := st
    exact ⟨_, z, fun v y => nomatch y⟩
  keep := fun i h h' st k => by obtain ⟨ok, ov, z⟩ := st; exact ⟨ok, ov, k it (by simp) _ z⟩
  item := by
    intro X hP hw hK hc i pins s σ H E I hf st hg
    subst hP hw hK
    obtain ⟨hd, hi⟩ := hg
    obtain ⟨hs, hgd, hx, es', ep', hdt, hsz, row⟩ := rowsT I hd
    obtain ⟨z1, z2⟩ := dict_ep hod hdt
    subst z1 z2
    obtain ⟨ok, ov, he⟩ := st
    have hi' : i < es'.size := by omega
    obtain ⟨k, v, q, hkv, hkey, hq, hval⟩ := row i hi'
    have hraw : s.heap.DictRaw d es' ep' := ⟨o, hgd, hx, hdt⟩
    have hlt : it < s.heap.objs.size := Heap.lt_size he
    rw [← hsz] at he
    refine wpAny_pyNext_items_item_raw he hraw hi' fun h' ho hT hz hk => ?_
    refine ⟨_, rfl, wpAny_letOwnedTupleGo_items (s := { s with heap := h' }) ho fun h'' he' sb => ?_⟩
    have hT2 : h''.get? s.heap.objs.size = some { cls := .type "tuple", data := .seq #[es'[i].key, es'[i].val] } := (sb.2 _ (Nat.ne_of_gt hlt)).trans hT
    have new : ObjOk X.prog X.w (upd H s.heap.objs.size (.tup [.ref q, v])) h'' s.heap.objs.size (.tup [.ref q, v]) := by
      refine ⟨by show 2 ≤ sizeLine; decide, [es'[i].key, es'[i].val], .cons ?_ (.cons hval .nil), ⟨_, hT2, rfl, _, rfl⟩⟩
      rw [hkey]
      rfl
    have I1 : L2.Inv X pins σ (upd H s.heap.objs.size (.tup [.ref q, v])) { s with heap := h'' } :=
      I.turnedNew (t' := s.toks) (ch := [it]) (fun b ob hb e => (sb.2 b (by simpa using hb)).trans (hk b ob (by simpa using hb) e)) hf (Nat.le_refl _) new
    refine ⟨.ref s.heap.objs.size, _, I1, rfl, ⟨_, q, k, v, hkv, rfl, I.hok.fresh (Nat.le_refl _), hq, rfl⟩, ⟨es'[i].key, es'[i].val, ?_⟩, fun b hb => ?_⟩
    · rw [← hsz]; exact he'
    · obtain rfl : b = it := by simpa using hb
      rw [upd_ne (Nat.ne_of_lt hlt)]
      exact (hf b (by simp)).1
  done := by
    intro X hP hw hK hc i pins s σ H E I hf st hg
    subst hP hw hK
    obtain ⟨hd, hi⟩ := hg
    obtain ⟨f0, f1, f2, f3, f4, f5⟩ := hf it (by simp)
    obtain ⟨hs, hgd, hx, es', ep', hdt, hsz, row⟩ := rowsT I hd
    obtain ⟨z1, z2⟩ := dict_ep hod hdt
    subst z1 z2
    obtain ⟨ok, ov, he⟩ := st
    rw [← hsz] at he
    exact wpAny_pyNext_items_end_raw (I.ok.hd hc) he ⟨o, hgd, hx, hdt⟩ (by omega) fun h' eb => ⟨rfl, I.turned (t' := s.toks) (fun b ob hb e => eb b ob hb e) f0 f1 f3 f4 f5⟩
  self := fun A i s Q E st h => by obtain ⟨_, _, z⟩ := st; exact PySem.W.kcp_self z h
end
def iItemsT (td : TE) : TI := fun σ H R => td σ H fun x H1 => ∃ d o kvs, x = .ref d ∧ H1 d = some (.frz o (.dT kvs)) ∧ R (ItiT d o kvs) H1
theorem pi_itemsT {X : Cx} {e : Expr} {td : TE} {apos cpos : Pos} {elts : List Expr} {kk : Nat} {tpos : Pos} (he : PE X e td) (hbase : attributeBase e "items" X.env (eval e X.env) = eval e X.env := by rfl) (hline : (apos.endLine == cpos.line) = true := by rfl) :
    PI X (.Tuple elts kk tpos) (.Call (.Attribute e "items" apos) [] [] cpos) (iItemsT td) := by
  refine ⟨fun pins s σ H R I h => ?_⟩
  refine wpAny_Call_method (T := "dict") (id := "dict.items") hbase rfl hline F.plainAttrs_dict F.slot_dict_items F.type_dict_items (thn (he.run pins s σ H _ I h) fun u s1 ⟨x, H1, I1, rx, d, o, kvs, ex, hd, q⟩ => ?_)
  subst ex
  obtain rfl : u = Value.ref d := rx
  obtain ⟨hs, hgd, hx, es, ep, hdt, hsz, row⟩ := rowsT I1 hd
  have hraw : s1.heap.DictRaw d es ep := ⟨o, hgd, hx, hdt⟩
  refine ⟨hraw.typeIs, fun b q => by cases q; exact ⟨o, hgd, hx.2.1⟩, ?_⟩
  have I2 : L2.Inv X pins σ H1 { s1 with heap := s1.heap.push { cls := .type "dict_items", data := .fields #[.ref d] } } := I1.kept (t' := s1.toks) fun b ob q => Heap.get?_push_of_some _ q
  have fin : wpAny (model X.prog X.w) X.A (pyIter (.ref s1.heap.objs.size)) (PIE X pins σ (.Tuple elts kk tpos) R) X.xe { s1 with heap := s1.heap.push { cls := .type "dict_items", data := .fields #[.ref d] } } := by
    refine wpAny_pyIter_items_raw (d := d) (es := es) (ep := ep) ⟨_, Heap.get?_push_size _ rfl, rfl, rfl⟩ (hraw.at fun o e => Heap.get?_push_of_some _ e) (pi_one (tk := s1.toks) I2 _ (turn_itemsT _ hdt) ⟨.none, .none, ?_⟩ q)
    rw [← hsz]
    exact Heap.get?_push_size _ rfl
  show wpAny _ _ (callWith cpos (.builtin "dict.items") [.ref d] [] []) _ X.xe s1
  exact method_meetsIn F.slot_dict_items F.entry_dict_items rfl (PySem.evalArgs_none ⟨rfl, hraw.typeIs, F.args_dict_items_1 _, _, meets_dict_items_raw d hs, ⟨es, ep, hraw⟩, fin⟩)
/-- what e gives changes no more from now on -/
def tFrz (t : TE) : TE := fun σ H Q => t σ H fun v H' => ∃ d u, v = .ref d ∧ H' d = some u ∧ Mut (some u) ∧ ∀ od, Q v (upd H' d (.frz od u))
theorem pe_frz {X : Cx} {e : Expr} {t : TE} (h : PE X e t) : PE X e (tFrz t) := ⟨fun pins s σ H Q I hw => thn (h.run pins s σ H _ I hw) fun v s1 ⟨x, H1, I1, r, d, u, e1, e2, mu, q⟩ => by
  obtain ⟨od, I2⟩ := I1.lock e2 mu
  exact ⟨x, _, I2, r, q od⟩⟩
/-- displays -/
def mergeT (kvs more : List (List Key × V)) : List (List Key × V) := more.foldl (fun acc kv => putK acc kv.1 kv.2) kvs
def PrT (H : Hp) : List (V × V) → List (List Key × V) → Prop := Paired fun x kv => ∃ b, x.1 = .ref b ∧ H b = some (.tup (kv.1.map kV)) ∧ x.2 = kv.2
def tDispT (trs : List (TE × TE)) : TE := fun σ H Q => ∀ p, H p = none → tPairs trs σ (upd H p (.dT [])) fun ps H2 => H2 p = some (.dT []) ∧ ∃ kvs : List (List Key × V), PrT H2 ps kvs ∧ kvs.length ≤ 15 ∧ Q (.ref p) (upd H2 p (.dT (mergeT [] kvs)))
theorem kt_merge {H : Hp} {more : List (List Key × V)} {rs : List (List Key × Addr × Value)} (r : KT H more rs) : ∀ {kvs : List (List Key × V)} {xs : List (List Key × Addr × Value)}, KT H kvs xs → KT H (mergeT kvs more) (storedAllH xs rs) := by
  induction r with
  | nil => intro kvs xs q; exact q
  | @cons p q ps qs h t ih =>
    intro kvs xs r0
    obtain ⟨h1, h2, h3⟩ := h
    show KT H (mergeT (putK kvs p.1 p.2) ps) (storedAllH (storedH xs q.1 q.2.1 q.2.2) qs)
    rw [← h1]
    exact ih (r0.put p.1 h2 h3)
theorem len_merge : ∀ (more kvs : List (List Key × V)), (mergeT kvs more).length ≤ kvs.length + more.length
  | [], kvs => Nat.le_refl _
  | p :: ps, kvs => by
    show (mergeT (putK kvs p.1 p.2) ps).length ≤ _
    have := len_merge ps (putK kvs p.1 p.2)
    have := length_putK kvs p.1 p.2
    rw [List.length_cons]; omega
theorem carryH {P : Program} {w : World} {H : Hp} {h : Heap} (ok : HOk P w H h) {ps : List (V × V)} {kvs : List (List Key × V)} (r : PrT H ps kvs) : ∀ {ws : List (Value × Value)}, VV ps ws → ∃ rs, CarriesH (tupleKind (mixKind P w)) h ws rs ∧ KT H kvs rs := by
  have r' : Paired (fun (x : V × V) (kv : List Key × V) => ∃ b, x.1 = .ref b ∧ H b = some (.tup (kv.1.map kV)) ∧ x.2 = kv.2) ps kvs := r
  induction r' with
  | nil => intro ws q; cases q; exact ⟨[], trivial, .nil⟩
  | @cons p kv ps kvs hh t ih =>
    intro ws q
    cases q with
    | @cons a b as bs h1 t1 =>
      obtain ⟨rs, c, z⟩ := ih t t1
      obtain ⟨ad, e1, e2, e3⟩ := hh
      obtain ⟨b1, b2⟩ := b
      obtain ⟨h2, h3⟩ := h1
      rw [e1] at h2
      rw [e3] at h3
      exact ⟨(kv.1, ad, b2) :: rs, ⟨h2, rfl, key_of ok e2, c⟩, .cons ⟨rfl, e2, h3⟩ z⟩
theorem pe_dispT {X : Cx} {pos : Pos} {keys : List (Option Expr)} {values : List Expr} {trs : List (TE × TE)} (hu : X.A.units + 1 < cLine) (h : PPs X pos keys values trs) (hall : keys.all (·.isSome) = true) (hl : keys.length = values.length) (h0 : keys ≠ [])
    (h15 : keys.length ≤ 15) : PE X (.Dict keys values pos) (tDispT trs) := by
  refine ⟨fun pins s σ H Q I q => ?_⟩
  have hn := I.hok.fresh (Nat.le_refl s.heap.objs.size)
  have I1 := I.laid (a := s.heap.objs.size) (o := .dT []) (h' := s.heap.push { cls := .type "dict", data := .dict #[] }) (t' := s.toks) (fun _ _ q => Heap.get?_push_of_some _ q) (Nat.le_refl _) (dt_empty s.heap I.big)
  have hlen := pairTrees_length keys values X.env pos hall hl
  rw [arm_eval_Dict, zip_pairTrees keys values X.env pos hall hl, dictDisplay_pairs (pairTrees keys values X.env pos) (by
    intro he
    rw [he] at hlen
    exact h0 (List.length_eq_zero_iff.mp hlen.symm)) (by omega)]
  refine wpAny_bind (wpAny_standAt (wpAny_bind (wpAny_subDictH (knd := tupleKind (mixKind X.prog X.w)) (Q := fun d s' => wpAny (model X.prog X.w) X.A (pure (Value.ref d)) (EP X pins σ Q) X.xe s') (show X.A.units < cLine by omega) (by omega)
    (thn (h.run pins _ σ _ _ I1 (q _ hn)) fun ws s2 ⟨ps, H2, I2, rel, e, kvs, epr, lk, q2⟩ => ?_))))
  obtain ⟨rs, c, rk⟩ := carryH I2.hok epr rel
  obtain ⟨z, hd, vs0, r0, dd⟩ := dt_of I2.hok e
  cases r0
  refine ⟨rs, c, dd, fun h' tk dd' hs => wpAny_pure ⟨.ref s.heap.objs.size, _, ?_, rfl, q2⟩⟩
  have hz : (mergeT [] kvs).length ≤ sizeLine := by
    have h1 := len_merge kvs []
    rw [List.length_nil] at h1
    rw [sizeLine_eq]; omega
  obtain ⟨oq, es, ep, hq, h2, h3, h4, _, h5⟩ := dd'
  refine d_write I2 (by rw [e]; exact True.intro) hs ⟨oq, hq⟩ ⟨hz, hd, _, (kt_merge rk .nil).keeps fun c ys ec => ?_, oq, es, ep, hq, h2, h3, h4, h5⟩
  rw [upd_ne (ne_of ec e (fun z => nomatch z))]
  exact ec
end GX
namespace GX
open PySem PySem.Spec PyProof.Rows L2
theorem hu3 {k : Nat} {A : Around} (r : Room k A) : A.units + 3 < cLine := by have := r.un; omega
theorem hu65 {k : Nat} {A : Around} (r : Room k A) : A.units + 65 < cLine := by have := r.un; omega
section
variable {X : Cx}
theorem op_ltTK (K : Fg) (hK : X.K = K) (hu : X.A.units < cLine) : OpR X (compareOp .Lt) (rLtT K) := by subst hK; exact op_ltT hu
theorem op_inOK {k : Nat} {C : Str} {sp : Sp} {E : XK} (K : Fg) (hK : X.K = K) (D : GB.Dm (GB.En.of X) k C "__contains__" sp) (hr : Room k X.A) (hx : Passes (L2.CX X.prog X.w) X E) : OpR X (compareOp .In) (rInO (He.ga K C) sp E false) := by subst hK; exact op_inO D hr hx
theorem op_ninOK {k : Nat} {C : Str} {sp : Sp} {E : XK} (K : Fg) (hK : X.K = K) (D : GB.Dm (GB.En.of X) k C "__contains__" sp) (hr : Room k X.A) (hx : Passes (L2.CX X.prog X.w) X E) : OpR X (compareOp .NotIn) (rInO (He.ga K C) sp E true) := by subst hK; exact op_ninO D hr hx
theorem op_inDX (hu : X.A.units + 65 < cLine) : OpR X (compareOp .In) (rInD X.K) := op_inD hu
theorem op_ninDX (hu : X.A.units + 65 < cLine) : OpR X (compareOp .NotIn) (rNotInD X.K) := op_notInD hu
theorem op_inDXK (K : Fg) (hK : X.K = K) (hu : X.A.units + 65 < cLine) : OpR X (compareOp .In) (rInD K) := by subst hK; exact op_inD hu
theorem op_ninDXK (K : Fg) (hK : X.K = K) (hu : X.A.units + 65 < cLine) : OpR X (compareOp .NotIn) (rNotInD K) := by subst hK; exact op_notInD hu
/-- len of a dict with tuple keys, frozen or not -/
def rLenTR : List V → Hp → VK → Prop := fun xs H Q => ∃ (a : Addr) (rows : List (List Key × V)), xs = [V.ref a] ∧ Rd H a (.dT rows) ∧ Q (.int ((rows.length : Nat) : Int)) H
theorem cr_lenTR : CallR X (.builtin "len") rLenTR := by
  intro pins s σ H xs us Q I r h
  obtain ⟨a, rows, e, ha, q⟩ := h
  subst e
  obtain ⟨u, e, rx⟩ := vals1 r
  subst e
  obtain rfl : u = Value.ref a := rx
  obtain ⟨z, hd, ys, rel, dd⟩ := dt_rd I.hok ha
  have hl : rows.length = ys.length := Paired.length rel
  refine call_len_dictH hd dd (by rw [sizeLine_eq] at z; omega) ?_
  exact ⟨.int ((rows.length : Nat) : Int), H, I.tok _, ⟨_, by rw [hl]⟩, q⟩
end
end GX

/-! wA: heaps, representations, the mirror's monad, what a reading gives. -/
namespace MW
open PySem PySem.Spec PyProof.Rows L2 GB
abbrev Frag := PySem.W.Frag
abbrev St := L2.St
/-- d: the dice; l: the lists and dicts that may change; ca: where the classes stand -/
structure Mm where
  d : Option Addr
  l : List Addr
  ca : Str → Addr
def Mm.fr (M : Mm) (a : Addr) : Prop := M.d ≠ some a ∧ a ∉ M.l
@[reducible] def Mm.add (M : Mm) (D : Addr) : Mm := ⟨M.d, D :: M.l, M.ca⟩
/-- fewer things may change -/
structure Mm.le (M' M : Mm) : Prop where
  d : M'.d = M.d
  l : ∀ a, a ∈ M'.l → a ∈ M.l
  ca : M'.ca = M.ca
theorem Mm.le.refl {M : Mm} : M.le M := ⟨rfl, fun _ h => h, rfl⟩
theorem Mm.le.trans {A B C : Mm} (h : A.le B) (k : B.le C) : A.le C := ⟨h.d.trans k.d, fun a m => k.l a (h.l a m), h.ca.trans k.ca⟩
theorem Mm.le.add {M M' : Mm} {D : Addr} (h : M'.le M) : M'.le (M.add D) := ⟨h.d, fun a m => List.mem_cons_of_mem _ (h.l a m), h.ca⟩
theorem Mm.le.adds {M M' : Mm} {D : Addr} (h : M'.le M) : (M'.add D).le (M.add D) := ⟨h.d, fun a m => by
  rcases List.mem_cons.mp m with e | m
  · exact e ▸ List.mem_cons_self
  · exact List.mem_cons_of_mem _ (h.l a m), h.ca⟩
theorem Mm.le.none {M : Mm} : Mm.le ⟨M.d, [], M.ca⟩ M := ⟨rfl, fun _ h => (nomatch h), rfl⟩
theorem Mm.fr.wk {M M' : Mm} {a : Addr} (h : M.fr a) (l : M'.le M) : M'.fr a := ⟨l.d ▸ h.1, fun m => h.2 (l.l a m)⟩
theorem Mm.fr.add {M : Mm} {a D : Addr} (h : M.fr a) (n : a ≠ D) : (M.add D).fr a := ⟨h.1, fun m => by
  rcases List.mem_cons.mp m with e | m
  · exact n e
  · exact h.2 m⟩
/-- no tuple -/
class NT (o : HO) : Prop where
  nt : ∀ vs, o ≠ .tup vs
instance {xs} : NT (.lst xs) := ⟨fun _ e => nomatch e⟩
instance {xs} : NT (.dK xs) := ⟨fun _ e => nomatch e⟩
instance {xs} : NT (.dT xs) := ⟨fun _ e => nomatch e⟩
instance {S n} : NT (.set S n) := ⟨fun _ e => nomatch e⟩
instance {C dx fs} : NT (.ins C dx fs) := ⟨fun _ e => nomatch e⟩
instance {x} : NT (.own x) := ⟨fun _ e => nomatch e⟩
instance {x} : NT (.xd x) := ⟨fun _ e => nomatch e⟩
instance {o u} : NT (.frz o u) := ⟨fun _ e => nomatch e⟩
instance {φ} : NT (.ext φ) := ⟨fun _ e => nomatch e⟩
structure DiceM (M : Mm) (H : Hp) : Prop where
  d : ∀ d, M.d = some d → ∃ a b c : Int, H d = some (.lst [.int a, .int b, .int c])
  l : ∀ a, a ∈ M.l → M.d ≠ some a ∧ ∃ o, H a = some o ∧ NT o
/-- all stays but the dice -/
structure Xt (M : Mm) (H H' : Hp) : Prop where
  keep : ∀ a o, M.d ≠ some a → H a = some o → H' a = some o
  dice : DiceM M H'
/-- all stays but the dice and what may change -/
structure Xm (M : Mm) (H H' : Hp) : Prop where
  keep : ∀ a o, M.fr a → H a = some o → H' a = some o
  dice : DiceM M H'
section
variable {M M' : Mm} {H H1 H2 H' : Hp} {p D : Addr} {o : HO}
theorem Xt.refl (d : DiceM M H) : Xt M H H := ⟨fun _ _ _ h => h, d⟩
theorem Xt.trans (a : Xt M H H1) (b : Xt M H1 H2) : Xt M H H2 := ⟨fun x o n h => b.keep x o n (a.keep x o n h), b.dice⟩
theorem Xm.refl (d : DiceM M H) : Xm M H H := ⟨fun _ _ _ h => h, d⟩
theorem Xm.trans (a : Xm M H H1) (b : Xm M H1 H2) : Xm M H H2 := ⟨fun x o n h => b.keep x o n (a.keep x o n h), b.dice⟩
theorem Xt.m (a : Xt M H H1) : Xm M H H1 := ⟨fun x o n h => a.keep x o n.1 h, a.dice⟩
theorem Xm.t (a : Xm M H H1) (b : Xt M H1 H2) : Xm M H H2 := a.trans b.m
theorem DiceM.fr (d : DiceM M H) (h : H p = none) : M.fr p := by
  refine ⟨fun z => ?_, fun z => ?_⟩
  · obtain ⟨a, b, c, e⟩ := d.d p z
    rw [h] at e; cases e
  · obtain ⟨_, o, e, _⟩ := d.l p z
    rw [h] at e; cases e
theorem DiceM.wk (d : DiceM M H) (l : M'.le M) : DiceM M' H := ⟨fun x e => d.d x (l.d ▸ e), fun a m => ⟨l.d ▸ (d.l a (l.l a m)).1, (d.l a (l.l a m)).2⟩⟩
theorem DiceM.new (d : DiceM M H) (h : H p = none) : DiceM M (upd H p o) := by
  refine ⟨fun x e => ?_, fun a m => ⟨(d.l a m).1, ?_⟩⟩
  · obtain ⟨a, b, c, q⟩ := d.d x e
    exact ⟨a, b, c, by rw [upd_ne (ne_of_none q h)]; exact q⟩
  · obtain ⟨_, u, q, n⟩ := d.l a m
    exact ⟨u, by rw [upd_ne (ne_of_none q h)]; exact q, n⟩
theorem DiceM.add [n : NT o] (d : DiceM M H) (h : H D = none) (h' : H' D = some o) (e : Xt M H H') : DiceM (M.add D) H' := by
  refine ⟨fun x z => e.dice.d x z, fun a m => ?_⟩
  rcases List.mem_cons.mp m with z | m
  · subst z; exact ⟨(d.fr h).1, o, h', n⟩
  · exact e.dice.l a m
theorem Xt.new (d : DiceM M H) (h : H p = none) : Xt M H (upd H p o) := ⟨fun a u _ e => by rw [upd_ne (ne_of_none e h)]; exact e, d.new h⟩
theorem Xt.wk (e : Xt M H H') (l : M'.le M) : Xt M' H H' := ⟨fun a o n h => e.keep a o (l.d ▸ n) h, e.dice.wk l⟩
theorem Xm.up (e : Xm M' H H') (l : M'.le M) (d : DiceM M H') : Xm M H H' := ⟨fun a o n h => e.keep a o (n.wk l) h, d⟩
/-- a change of what may change -/
theorem DiceM.put [n : NT o] (d : DiceM M H) (m : D ∈ M.l) : DiceM M (upd H D o) := by
  refine ⟨fun x e => ?_, fun a m' => ⟨(d.l a m').1, ?_⟩⟩
  · obtain ⟨a, b, c, q⟩ := d.d x e
    exact ⟨a, b, c, by rw [upd_ne (fun z => (d.l D m).1 (by rw [← z]; exact e))]; exact q⟩
  · by_cases z : a = D
    · subst z; exact ⟨o, upd_same, n⟩
    · obtain ⟨_, u, q, nu⟩ := d.l a m'
      exact ⟨u, by rw [upd_ne z]; exact q, nu⟩
theorem Xm.put [NT o] (d : DiceM M H) (m : D ∈ M.l) : Xm M H (upd H D o) := ⟨fun a u n e => by rw [upd_ne (fun z => n.2 (by rw [z]; exact m))]; exact e, d.put m⟩
theorem Xm.putN [NT o] (e : Xm M' H H1) (l : M'.le M) (d : DiceM M H1) (m : D ∈ M.l) (h : H D = none) : Xm M' H (upd H1 D o) := ⟨fun a u n q => by rw [upd_ne (ne_of_none q h)]; exact e.keep a u n q, (d.put m).wk l⟩
theorem Xt.putN [NT o] (e : Xt M' H H1) (l : M'.le M) (d : DiceM M H1) (m : D ∈ M.l) (h : H D = none) : Xt M' H (upd H1 D o) := ⟨fun a u n q => by rw [upd_ne (ne_of_none q h)]; exact e.keep a u n q, (d.put m).wk l⟩
theorem Xt.t (b : Xt M' H H1) (l : M'.le M) (e : Xt M H1 H2) : Xt M' H H2 := b.trans (e.wk l)
theorem Xm.tl (b : Xm M' H H1) (l : M'.le M) (e : Xt M H1 H2) : Xm M' H H2 := b.trans (e.wk l).m
/-- a tuple never changes -/
theorem DiceM.tup {vs : List V} (d : DiceM M H) (h : H p = some (.tup vs)) : M.fr p := by
  refine ⟨fun z => ?_, fun z => ?_⟩
  · obtain ⟨a, b, c, e⟩ := d.d p z
    rw [h] at e; cases e
  · obtain ⟨_, o, e, n⟩ := d.l p z
    rw [h] at e
    exact n.nt vs (Option.some.inj e).symm
theorem Xt.none (b : Xt M H H1) (h : H1 D = none) : H D = none := by
  cases q : H D with
  | none => rfl
  | some o => rw [b.keep D o (b.dice.fr h).1 q] at h; cases h
theorem Xm.none (b : Xm M H H1) (h : H1 D = none) : H D = none := by
  cases q : H D with
  | none => rfl
  | some o => rw [b.keep D o (b.dice.fr h) q] at h; cases h
end
/-! ### representations -/
abbrev Rp (α : Type) := Mm → α → V → Hp → Prop
abbrev Rs (α : Type) := Mm → α → List V → Hp → Prop
/-- from M, H to M', H': what does not change stays -/
structure Lk (M : Mm) (H : Hp) (M' : Mm) (H' : Hp) : Prop where
  d : M'.d = M.d
  ca : M'.ca = M.ca
  k : ∀ a o, M.fr a → H a = some o → H' a = some o ∧ M'.fr a
/-- .. and what may change stays, too -/
structure LkX (M : Mm) (H : Hp) (M' : Mm) (H' : Hp) : Prop extends Lk M H M' H' where
  kx : ∀ a o, M.d ≠ some a → H a = some o → H' a = some o
theorem Xt.x {M H H'} (e : Xt M H H') : LkX M H M H' := ⟨⟨rfl, rfl, fun a o f h => ⟨e.keep a o f.1 h, f⟩⟩, e.keep⟩
theorem Xm.k {M H H'} (e : Xm M H H') : Lk M H M H' := ⟨rfl, rfl, fun a o f h => ⟨e.keep a o f h, f⟩⟩
theorem Mm.le.x {M M' : Mm} {H} (l : M'.le M) : LkX M H M' H := ⟨⟨l.d, l.ca, fun a o f h => ⟨h, f.wk l⟩⟩, fun _ _ _ h => h⟩
theorem LkX.add {M : Mm} {H : Hp} {D : Addr} (h : H D = none) : LkX M H (M.add D) H := ⟨⟨rfl, rfl, fun a o f e => ⟨e, f.add (ne_of_none e h)⟩⟩, fun _ _ _ h => h⟩
theorem LkX.trans {A B C : Mm} {H H1 H2 : Hp} (x : LkX A H B H1) (y : LkX B H1 C H2) : LkX A H C H2 := ⟨⟨y.d.trans x.d, y.ca.trans x.ca, fun a o f h => y.k a o (x.k a o f h).2 (x.k a o f h).1⟩, fun a o n h => y.kx a o (x.d ▸ n) (x.kx a o n h)⟩
class MoX {α : Type} (R : Rp α) : Prop where
  lk : ∀ {M M' x v H H'}, LkX M H M' H' → R M x v H → R M' x v H'
class MoXs {α : Type} (R : Rs α) : Prop where
  lk : ∀ {M M' x v H H'}, LkX M H M' H' → R M x v H → R M' x v H'
class Mo {α : Type} (R : Rp α) : Prop where
  lk : ∀ {M M' x v H H'}, Lk M H M' H' → R M x v H → R M' x v H'
class Mos {α : Type} (R : Rs α) : Prop where
  lk : ∀ {M M' x v H H'}, Lk M H M' H' → R M x v H → R M' x v H'
instance {α : Type} {R : Rp α} [Mo R] : MoX R := ⟨fun e h => Mo.lk e.toLk h⟩
instance {α : Type} {R : Rs α} [Mos R] : MoXs R := ⟨fun e h => Mos.lk e.toLk h⟩
theorem MoX.up {α : Type} {R : Rp α} [MoX R] {M x v H H'} (e : Xt M H H') (h : R M x v H) : R M x v H' := MoX.lk e.x h
theorem MoXs.up {α : Type} {R : Rs α} [MoXs R] {M x v H H'} (e : Xt M H H') (h : R M x v H) : R M x v H' := MoXs.lk e.x h
def RI : Rp Int := fun _ i v _ => v = .int i
def RB : Rp Bool := fun _ b v _ => v = .bl b
def RN : Rp Unit := fun _ _ v _ => v = .non
def RS : Rp Str := fun _ s v _ => v = .str s
/-- any value at all, itself -/
def RV : Rp V := fun _ x v _ => v = x
def ROpt {α} (R : Rp α) : Rp (Option α) := fun M o v H => match o with
  | none => v = .non
  | some x => R M x v H
def All {α} (R : Rp α) : Rs (List α) := fun M l vs H => Paired (fun x v => R M x v H) l vs
def Nil : Rs Unit := fun _ _ vs _ => vs = []
def One {α} (R : Rp α) : Rs α := fun M x vs H => ∃ v, vs = [v] ∧ R M x v H
def Cons {α β} (R : Rp α) (S : Rs β) : Rs (α × β) := fun M p vs H => ∃ v r, vs = v :: r ∧ R M p.1 v H ∧ S M p.2 r H
def RT {α} (R : Rs α) : Rp α := fun M x v H => ∃ a vs, v = .ref a ∧ M.fr a ∧ H a = some (.tup vs) ∧ R M x vs H
def RL {α} (R : Rs α) : Rp α := fun M x v H => ∃ a vs, v = .ref a ∧ M.fr a ∧ H a = some (.lst vs) ∧ R M x vs H
/-- a list that may change -/
def RW {α} (R : Rs α) : Rp α := fun M x v H => ∃ a vs, v = .ref a ∧ M.d ≠ some a ∧ H a = some (.lst vs) ∧ R M x vs H
/-- the dice -/
def RD : Rp Addr := fun M d v _ => v = .ref d ∧ M.d = some d
section
variable {α β : Type}
theorem paired_imp {γ δ : Type} {F G : γ → δ → Prop} (h : ∀ x y, F x y → G x y) : ∀ {l : List γ} {r : List δ}, Paired F l r → Paired G l r
  | _, _, .nil => .nil
  | _, _, .cons a b => .cons (h _ _ a) (paired_imp h b)
instance : Mo RI := ⟨fun _ h => h⟩
instance : Mo RB := ⟨fun _ h => h⟩
instance : Mo RN := ⟨fun _ h => h⟩
instance : Mo RS := ⟨fun _ h => h⟩
instance : Mo RV := ⟨fun _ h => h⟩
instance : Mo RD := ⟨fun l h => ⟨h.1, l.d ▸ h.2⟩⟩
instance {R : Rp α} [Mo R] : Mo (ROpt R) := ⟨fun {M M' o v H H'} e h => by
  cases o with
  | none => exact h
  | some x => exact Mo.lk (R := R) e h⟩
instance {R : Rp α} [Mo R] : Mos (All R) := ⟨fun e h => paired_imp (fun _ _ z => Mo.lk (R := R) e z) h⟩
instance : Mos Nil := ⟨fun _ h => h⟩
instance {R : Rp α} [Mo R] : Mos (One R) := ⟨fun e ⟨v, h, k⟩ => ⟨v, h, Mo.lk (R := R) e k⟩⟩
instance {R : Rp α} {S : Rs β} [Mo R] [Mos S] : Mos (Cons R S) := ⟨fun e ⟨v, r, h1, h2, h3⟩ => ⟨v, r, h1, Mo.lk (R := R) e h2, Mos.lk (R := S) e h3⟩⟩
instance {R : Rp α} [MoX R] : MoXs (All R) := ⟨fun e h => paired_imp (fun _ _ z => MoX.lk (R := R) e z) h⟩
instance {R : Rp α} [MoX R] : MoXs (One R) := ⟨fun e ⟨v, h, k⟩ => ⟨v, h, MoX.lk (R := R) e k⟩⟩
instance {R : Rp α} {S : Rs β} [MoX R] [MoXs S] : MoXs (Cons R S) := ⟨fun e ⟨v, r, h1, h2, h3⟩ => ⟨v, r, h1, MoX.lk (R := R) e h2, MoXs.lk (R := S) e h3⟩⟩
instance {R : Rs α} [Mos R] : Mo (RT R) := ⟨fun e ⟨a, vs, h1, h2, h3, h4⟩ => ⟨a, vs, h1, (e.k _ _ h2 h3).2, (e.k _ _ h2 h3).1, Mos.lk (R := R) e h4⟩⟩
instance {R : Rs α} [Mos R] : Mo (RL R) := ⟨fun e ⟨a, vs, h1, h2, h3, h4⟩ => ⟨a, vs, h1, (e.k _ _ h2 h3).2, (e.k _ _ h2 h3).1, Mos.lk (R := R) e h4⟩⟩
instance {R : Rs α} [MoXs R] : MoX (RW R) := ⟨fun e ⟨a, vs, h1, h2, h3, h4⟩ => ⟨a, vs, h1, e.d ▸ h2, e.kx _ _ h2 h3, MoXs.lk (R := R) e h4⟩⟩
theorem RL.w {R : Rs α} {M x v H} (h : RL R M x v H) : RW R M x v H := by obtain ⟨a, vs, h1, h2, h3⟩ := h; exact ⟨a, vs, h1, h2.1, h3⟩
theorem up {R : Rp α} [MoX R] {M x v H H'} (h : R M x v H) (e : Xt M H H') : R M x v H' := MoX.lk e.x h
theorem upm {R : Rp α} [Mo R] {M x v H H'} (h : R M x v H) (e : Xm M H H') : R M x v H' := Mo.lk e.k h
theorem wk {R : Rp α} [MoX R] {M M' x v H} (h : R M x v H) (e : Mm.le M' M) : R M' x v H := MoX.lk e.x h
theorem nw {R : Rp α} [MoX R] {M D x v H} (h : R M x v H) (e : H D = none) : R (M.add D) x v H := MoX.lk (.add e) h
theorem lf {R : Rp α} [MoX R] {M M' x v H H'} (h : R M x v H) (e : LkX M H M' H') : R M' x v H' := MoX.lk e h
end
/-- values of any kind -/
inductive U where
  | int (i : Int) | bl (b : Bool) | non | str (s : Str) | tup (l : List U) | lst (l : List U) | oth (v : V)
mutual
def RU : U → Mm → V → Hp → Prop
  | .int i, _, v, _ => v = .int i
  | .bl i, _, v, _ => v = .bl i
  | .non, _, v, _ => v = .non
  | .str i, _, v, _ => v = .str i
  | .oth i, _, v, _ => v = i
  | .tup l, M, v, H => ∃ a vs, v = .ref a ∧ M.fr a ∧ H a = some (.tup vs) ∧ RUs l M vs H
  | .lst l, M, v, H => ∃ a vs, v = .ref a ∧ M.fr a ∧ H a = some (.lst vs) ∧ RUs l M vs H
def RUs : List U → Mm → List V → Hp → Prop
  | [], _, vs, _ => vs = []
  | x :: l, M, vs, H => ∃ v r, vs = v :: r ∧ RU x M v H ∧ RUs l M r H
end
/-- what is raised: a class by name, the field that it keeps -/
structure Ex where
  cls : Str
  pay : Option (Str × U)
def REx (M : Mm) (x : Ex) (c : Value) (d : Option Addr) (H : Hp) : Prop := c = .ref (M.ca x.cls) ∧ match x.pay with
  | none => d = none
  | some (f, u) => ∃ a v, d = some a ∧ H a = some (.xd [(f, v)]) ∧ RU u M v H
theorem REx.wk {M M' : Mm} {x c d H} (h : REx M x c d H) (l : M'.le M) : REx M' x c d H := by
  have key : ∀ n, (∀ u : U, sizeOf u < n → ∀ v, RU u M v H → RU u M' v H) ∧ (∀ u : List U, sizeOf u < n → ∀ v, RUs u M v H → RUs u M' v H) := by
    intro n
    induction n with
    | zero => exact ⟨fun _ h => absurd h (Nat.not_lt_zero _), fun _ h => absurd h (Nat.not_lt_zero _)⟩
    | succ n ih =>
      refine ⟨fun u hu v h => ?_, fun u hu v h => ?_⟩
      · cases u with
        | tup l' => unfold RU at h ⊢; obtain ⟨a, vs, h1, h2, h3, h4⟩ := h; exact ⟨a, vs, h1, h2.wk l, h3, ih.2 l' (by simp at hu; omega) vs h4⟩
        | lst l' => unfold RU at h ⊢; obtain ⟨a, vs, h1, h2, h3, h4⟩ := h; exact ⟨a, vs, h1, h2.wk l, h3, ih.2 l' (by simp at hu; omega) vs h4⟩
        | _ => unfold RU at h ⊢; exact h
      · cases u with
        | nil => unfold RUs at h ⊢; exact h
        | cons x l' => unfold RUs at h ⊢; obtain ⟨w, r, h1, h2, h3⟩ := h; exact ⟨w, r, h1, ih.1 x (by simp at hu; omega) w h2, ih.2 l' (by simp at hu; omega) r h3⟩
  obtain ⟨h1, h2⟩ := h
  refine ⟨by rw [l.ca]; exact h1, ?_⟩
  cases e : x.pay with
  | none => rw [e] at h2; exact h2
  | some p => obtain ⟨f, u⟩ := p; rw [e] at h2; obtain ⟨a, v, k1, k2, k3⟩ := h2; exact ⟨a, v, k1, k2, (key (sizeOf u + 1)).1 u (Nat.lt_succ_self _) v k3⟩
/-! ### the mirror -/
abbrev W (α : Type) := (α → Prop) → (Ex → Prop) → Prop
namespace W
variable {α β : Type}
abbrev pure (x : α) : W α := fun P _ => P x
abbrev bind (m : W α) (k : α → W β) : W β := fun P E => m (fun x => k x P E) E
/-- x, where c holds -/
abbrev grd (c : Prop) (x : α) : W α := fun P _ => c ∧ P x
/-- any x of f, where c holds -/
abbrev any (c : Prop) (f : α → Prop) : W α := fun P _ => c ∧ ∀ x, f x → P x
abbrev exc (e : Ex) : W α := fun _ E => E e
/-- x of o -/
abbrev get (o : Option α) : W α := fun P _ => ∃ x, o = some x ∧ P x
abbrev ite (m : W Bool) (a b : W α) : W α := bind m fun c => if c = true then a else b
/-- no end -/
abbrev stuck : W α := fun _ _ => False
end W
/-! ### what is given -/
def GoE (M : Mm) (E : XK) (H : Hp) (PE : Ex → Prop) : Prop := ∀ ex c d H2, Xt M H H2 → PE ex → REx M ex c d H2 → E c d H2
theorem GoE.up {M E H H1 PE} (h : GoE M E H PE) (e : Xt M H H1) : GoE M E H1 PE := fun ex c d H2 e2 => h ex c d H2 (e.trans e2)
theorem GoE.at {M M0 E H0 H PE} (h : GoE M0 E H0 PE) (b : Xt M0 H0 H) (l : M0.le M) : GoE M E H PE := fun ex c d H2 e2 p r => h ex c d H2 (b.trans (e2.wk l)) p (r.wk l)
theorem GoE.none {M E H} : GoE M E H (fun _ => False) := fun _ _ _ _ _ h => h.elim
def Ev (M : Mm) (E : XK) (te : TE) (σ : St) (H : Hp) {α : Type} (R : Rp α) (m : W α) : Prop :=
  ∀ H1, Xt M H H1 → ∀ (Q : VK) (P : α → Prop) (PE : Ex → Prop), m P PE → (∀ v x H2, Xt M H1 H2 → P x → R M x v H2 → Q v H2) → GoE M E H1 PE → te σ H1 Q
def EvT (M : Mm) (E : XK) (t : TT) (σ : St) (H : Hp) (m : W Bool) : Prop :=
  ∀ H1, Xt M H H1 → ∀ (Q : Bool → Hp → Prop) (P : Bool → Prop) (PE : Ex → Prop), m P PE → (∀ b H2, Xt M H1 H2 → P b → Q b H2) → GoE M E H1 PE → t σ H1 Q
def EvA (M : Mm) (E : XK) (t : TA) (σ : St) (H : Hp) {α : Type} (R : Rs α) (m : W α) : Prop :=
  ∀ H1, Xt M H H1 → ∀ (Q : List V → Hp → Prop) (P : α → Prop) (PE : Ex → Prop), m P PE → (∀ vs x H2, Xt M H1 H2 → P x → R M x vs H2 → Q vs H2) → GoE M E H1 PE → t σ H1 Q
/-- an operation on values -/
def Op2 (E : XK) (r : R2) {α β γ : Type} (R : Rp α) (R' : Rp β) (R'' : Rp γ) (om : α → β → W γ) : Prop :=
  ∀ M x y v u H, DiceM M H → R M x v H → R' M y u H → ∀ (Q : VK) P PE, om x y P PE → (∀ w z H2, Xt M H H2 → P z → R'' M z w H2 → Q w H2) → GoE M E H PE → r v u H Q
def Cl (E : XK) (r : List V → Hp → VK → Prop) {α γ : Type} (R : Rs α) (R'' : Rp γ) (om : α → W γ) : Prop :=
  ∀ M x vs H, DiceM M H → R M x vs H → ∀ (Q : VK) P PE, om x P PE → (∀ w z H2, Xt M H H2 → P z → R'' M z w H2 → Q w H2) → GoE M E H PE → r vs H Q
section
variable {M : Mm} {E : XK} {σ : St} {H : Hp} {te ta tb tc : TE} {t u : TT} {ts : TA} {α β γ : Type} {R : Rp α} {R' : Rp β} {R'' : Rp γ} {S : Rs β} {ma : W α} {mb : W β} {mc : W γ} {i : Nat} {K : Frag}
theorem Ev.mono {H' : Hp} (h : Ev M E te σ H R ma) (e : Xt M H H') : Ev M E te σ H' R ma := fun H1 e1 => h H1 (e.trans e1)
theorem ev_var [MoX R] {v : V} {x : α} (h : σ[i]? = some (some v)) (r : R M x v H) : Ev M E (tVar i) σ H R (W.pure x) := fun H1 e Q P PE hm q _ => ⟨v, h, q v x H1 (.refl e.dice) hm (MoX.up e r)⟩
theorem ev_c {v : V} {x : α} (h : ∀ M H, R M x v H) : Ev M E (tC v) σ H R (W.pure x) := fun H1 e Q P PE hm q _ => q v x H1 (.refl e.dice) hm (h M H1)
theorem ev_int {z : Int} : Ev M E (tC (.int z)) σ H RI (W.pure z) := ev_c fun _ _ => rfl
theorem ev_bl {z : Bool} : Ev M E (tC (.bl z)) σ H RB (W.pure z) := ev_c fun _ _ => rfl
theorem ev_non : Ev M E (tC .non) σ H RN (W.pure ()) := ev_c fun _ _ => rfl
theorem ev_str {z : Str} : Ev M E (tC (.str z)) σ H RS (W.pure z) := ev_c fun _ _ => rfl
theorem ev_cls {v : V} : Ev M E (tC v) σ H RV (W.pure v) := ev_c fun _ _ => rfl
theorem ev_op [MoX R] {r : R2} {om : α → β → W γ} (ho : Op2 E r R R' R'' om) (ha : Ev M E ta σ H R ma) (hb : Ev M E tb σ H R' mb) :
    Ev M E (tOp r ta tb) σ H R'' (W.bind ma fun x => W.bind mb fun y => om x y) := fun H1 e Q P PE hm q g =>
  ha H1 e _ _ PE hm (fun v x H2 e2 hx rx => hb H2 (e.trans e2) _ _ PE hx (fun u y H3 e3 hy ry => ho M x y v u H3 e3.dice (MoX.up e3 rx) ry Q P PE hy (fun w z H4 e4 hz rz => q w z H4 ((e2.trans e3).trans e4) hz rz) ((g.up e2).up e3)) (g.up e2)) g
theorem ev_un {r : V → Hp → VK → Prop} {f : α → γ} (ho : ∀ M x v H, R M x v H → ∀ Q : VK, (∀ w, R'' M (f x) w H → Q w H) → r v H Q) (ha : Ev M E ta σ H R ma) : Ev M E (tUn r ta) σ H R'' (W.bind ma fun x => W.pure (f x)) := fun H1 e Q P PE hm q g =>
  ha H1 e _ _ PE hm (fun v x H2 e2 hx rx => ho M x v H2 rx Q fun w rw => q w _ H2 e2 hx rw) g
/-! arguments -/
theorem ea_nil : EvA M E tNil σ H Nil (W.pure ()) := fun H1 e Q P PE hm q _ => q [] () H1 (.refl e.dice) hm rfl
theorem ea_one (ha : Ev M E ta σ H R ma) : EvA M E (tCons ta tNil) σ H (One R) ma := fun H1 e Q P PE hm q g =>
  ha H1 e _ _ PE hm (fun v x H2 e2 a rx => q [v] x H2 e2 a ⟨v, rfl, rx⟩) g
theorem ea_cons [MoX R] {ms : W β} (ha : Ev M E ta σ H R ma) (hb : EvA M E ts σ H S ms) : EvA M E (tCons ta ts) σ H (Cons R S) (W.bind ma fun x => W.bind ms fun y => W.pure (x, y)) := fun H1 e Q P PE hm q g =>
  ha H1 e _ _ PE hm (fun v x H2 e2 a rx => hb H2 (e.trans e2) _ _ PE a (fun vs y H3 e3 b ry => q (v :: vs) (x, y) H3 (e2.trans e3) b ⟨v, vs, rfl, MoX.up e3 rx, ry⟩) (g.up e2)) g
theorem ea_nilA : EvA M E tNil σ H (All R) (W.pure []) := fun H1 e Q P PE hm q _ => q [] [] H1 (.refl e.dice) hm .nil
theorem ea_consA [MoX R] {ms : W (List α)} (ha : Ev M E ta σ H R ma) (hb : EvA M E ts σ H (All R) ms) : EvA M E (tCons ta ts) σ H (All R) (W.bind ma fun x => W.bind ms fun y => W.pure (x :: y)) := fun H1 e Q P PE hm q g =>
  ha H1 e _ _ PE hm (fun v x H2 e2 a rx => hb H2 (e.trans e2) _ _ PE a (fun vs y H3 e3 b ry => q (v :: vs) (x :: y) H3 (e2.trans e3) b (.cons (MoX.up e3 rx) ry)) (g.up e2)) g
/-- a call by values -/
theorem ev_cb {r : List V → Hp → VK → Prop} {om : β → W γ} {ms : W β} (hc : Cl E r S R'' om) (ha : EvA M E ts σ H S ms) : Ev M E (tCB r ts) σ H R'' (W.bind ms om) := fun H1 e Q P PE hm q g =>
  ha H1 e _ _ PE hm (fun vs x H2 e2 b rx => hc M x vs H2 e2.dice rx Q P PE b (fun w z H3 e3 hz rz => q w z H3 (e2.trans e3) hz rz) (g.up e2)) g
/-! displays -/
theorem ev_tup {ms : W β} [MoXs S] (ha : EvA M E ts σ H S ms) (hl : ∀ M x vs H, S M x vs H → vs.length ≤ sizeLine) : Ev M E (tTup ts) σ H (RT S) ms := fun H1 e Q P PE hm q g =>
  ha H1 e _ _ PE hm (fun vs x H2 e2 b rx => ⟨hl M x vs H2 rx, fun p hp => q _ x _ (e2.trans (.new e2.dice hp)) b ⟨p, vs, rfl, e2.dice.fr hp, upd_same, MoXs.up (.new e2.dice hp) rx⟩⟩) g
theorem ev_lst {ms : W β} [MoXs S] (ha : EvA M E ts σ H S ms) (hl : ∀ M x vs H, S M x vs H → vs.length ≤ sizeLine) : Ev M E (tLst ts) σ H (RL S) ms := fun H1 e Q P PE hm q g =>
  ha H1 e _ _ PE hm (fun vs x H2 e2 b rx => ⟨hl M x vs H2 rx, fun p hp => q _ x _ (e2.trans (.new e2.dice hp)) b ⟨p, vs, rfl, e2.dice.fr hp, upd_same, MoXs.up (.new e2.dice hp) rx⟩⟩) g
theorem all_len {l : List α} {vs : List V} {H : Hp} (h : All R M l vs H) : vs.length = l.length := by
  have h' : Paired (fun x v => R M x v H) l vs := h
  induction h' with
  | nil => rfl
  | cons _ b ih => simp [ih b]
/-- a display of items of one kind -/
theorem ev_tupA {ms : W (List α)} [MoX R] (ha : EvA M E ts σ H (All R) ms) : Ev M E (tTup ts) σ H (RT (All R)) (W.bind ms fun l => W.grd (l.length ≤ 1000000) l) := fun H1 e Q P PE hm q g =>
  ha H1 e _ _ PE hm (fun vs x H2 e2 b rx => ⟨by rw [all_len rx, sizeLine_eq]; have := b.1; omega, fun p hp => q _ x _ (e2.trans (.new e2.dice hp)) b.2 ⟨p, vs, rfl, e2.dice.fr hp, upd_same, MoXs.up (.new e2.dice hp) rx⟩⟩) g
theorem ev_lstA {ms : W (List α)} [MoX R] (ha : EvA M E ts σ H (All R) ms) : Ev M E (tLst ts) σ H (RL (All R)) (W.bind ms fun l => W.grd (l.length ≤ 1000000) l) := fun H1 e Q P PE hm q g =>
  ha H1 e _ _ PE hm (fun vs x H2 e2 b rx => ⟨by rw [all_len rx, sizeLine_eq]; have := b.1; omega, fun p hp => q _ x _ (e2.trans (.new e2.dice hp)) b.2 ⟨p, vs, rfl, e2.dice.fr hp, upd_same, MoXs.up (.new e2.dice hp) rx⟩⟩) g
/-- some of an option -/
theorem ev_some (h : Ev M E te σ H R ma) : Ev M E te σ H (ROpt R) (W.bind ma fun x => W.pure (some x)) := fun H1 e Q P PE hm q g => h H1 e Q _ PE hm (fun v y H2 e2 hy r => q v (some y) H2 e2 hy r) g
theorem ev_none : Ev M E (tC .non) σ H (ROpt R) (W.pure none) := ev_c fun _ _ => rfl
theorem ev_unopt {mo : W (Option α)} (h : Ev M E te σ H (ROpt R) mo) : Ev M E te σ H R (W.bind mo W.get) := fun H1 e Q P PE hm q g => h H1 e Q _ PE hm (fun v y H2 e2 hy r => by
  obtain ⟨x, rfl, hp⟩ := hy
  exact q v x H2 e2 hp r) g
/-! tests -/
theorem et_val {m : W Bool} (h : Ev M E te σ H RB m) : EvT M E (tB te) σ H m := fun H1 e Q P PE hm q g => h H1 e _ _ PE hm (fun v x H2 e2 a rx => ⟨x, rx, q x H2 e2 a⟩) g
theorem et_test {m : W Bool} (h : Ev M E te σ H RB m) : EvT M E (tTest te) σ H m := fun H1 e Q P PE hm q g => h H1 e _ _ PE hm (fun v x H2 e2 a rx => ⟨x, rx, q x H2 e2 a⟩) g
theorem et_not {m : W Bool} (h : EvT M E t σ H m) : EvT M E (tNot t) σ H (W.bind m fun b => W.pure (!b)) := fun H1 e Q P PE hm q g => h H1 e _ _ PE hm (fun b H2 e2 hb => q _ H2 e2 hb) g
theorem et_and {m n : W Bool} (h1 : EvT M E t σ H m) (h2 : EvT M E u σ H n) : EvT M E (tAnd t u) σ H (W.ite m n (W.pure false)) := fun H1 e Q P PE hm q g => h1 H1 e _ _ PE hm (fun c H2 e2 hc => by
  cases c with
  | true => rw [if_pos rfl] at hc; exact h2 H2 (e.trans e2) _ _ PE hc (fun d H3 e3 hd => q d H3 (e2.trans e3) hd) (g.up e2)
  | false => rw [if_neg (by decide)] at hc; exact q false H2 e2 hc) g
theorem et_or {m n : W Bool} (h1 : EvT M E t σ H m) (h2 : EvT M E u σ H n) : EvT M E (tOr t u) σ H (W.ite m (W.pure true) n) := fun H1 e Q P PE hm q g => h1 H1 e _ _ PE hm (fun c H2 e2 hc => by
  cases c with
  | false => rw [if_neg (by decide)] at hc; exact h2 H2 (e.trans e2) _ _ PE hc (fun d H3 e3 hd => q d H3 (e2.trans e3) hd) (g.up e2)
  | true => rw [if_pos rfl] at hc; exact q true H2 e2 hc) g
theorem ev_and {m n : W Bool} (h1 : Ev M E ta σ H RB m) (h2 : Ev M E tb σ H RB n) : Ev M E (tAndV ta tb) σ H RB (W.ite m n (W.pure false)) := fun H1 e Q P PE hm q g => h1 H1 e _ _ PE hm (fun v c H2 e2 hc rc => by
  refine ⟨c, rc, ?_⟩
  cases c with
  | true => rw [if_pos rfl] at hc; exact h2 H2 (e.trans e2) _ _ PE hc (fun w d H3 e3 hd rd => q w d H3 (e2.trans e3) hd rd) (g.up e2)
  | false => rw [if_neg (by decide)] at hc; exact q _ false H2 e2 hc rfl) g
theorem ev_or {m n : W Bool} (h1 : Ev M E ta σ H RB m) (h2 : Ev M E tb σ H RB n) : Ev M E (tOrV ta tb) σ H RB (W.ite m (W.pure true) n) := fun H1 e Q P PE hm q g => h1 H1 e _ _ PE hm (fun v c H2 e2 hc rc => by
  refine ⟨c, rc, ?_⟩
  cases c with
  | false => rw [if_neg (by decide)] at hc; exact h2 H2 (e.trans e2) _ _ PE hc (fun w d H3 e3 hd rd => q w d H3 (e2.trans e3) hd rd) (g.up e2)
  | true => rw [if_pos rfl] at hc; exact q _ true H2 e2 hc rfl) g
theorem ev_notV {m : W Bool} (h1 : Ev M E ta σ H RB m) : Ev M E (tNotV ta) σ H RB (W.bind m fun b => W.pure (!b)) := fun H1 e Q P PE hm q g => h1 H1 e _ _ PE hm (fun v c H2 e2 hc rc => ⟨c, rc, q _ _ H2 e2 hc rfl⟩) g
theorem ev_if {m : W Bool} {n : W α} (h : EvT M E t σ H m) (h1 : Ev M E ta σ H R ma) (h2 : Ev M E tb σ H R n) : Ev M E (tIf t ta tb) σ H R (W.ite m ma n) := fun H1 e Q P PE hm q g => h H1 e _ _ PE hm (fun c H2 e2 hc => by
  cases c with
  | true => rw [if_pos rfl] at hc; exact h1 H2 (e.trans e2) _ _ PE hc (fun w d H3 e3 hd rd => q w d H3 (e2.trans e3) hd rd) (g.up e2)
  | false => rw [if_neg (by decide)] at hc; exact h2 H2 (e.trans e2) _ _ PE hc (fun w d H3 e3 hd rd => q w d H3 (e2.trans e3) hd rd) (g.up e2)) g
theorem et_yes : EvT M E tYes σ H (W.pure true) := fun H1 e Q P PE hm q _ => q true H1 (.refl e.dice) hm
/-- a < b < c, both asked; c without a wish -/
theorem ev_chain [MoX R] [MoX R'] {r r' : R2} {f : α → β → Bool} {g : β → γ → Bool} {z : γ} (h1 : Op2 E r R R' RB (fun x y => W.pure (f x y))) (h2 : Op2 E r' R' R'' RB (fun x y => W.pure (g x y)))
    (ha : Ev M E ta σ H R ma) (hb : Ev M E tb σ H R' mb) (hc : Ev M E tc σ H R'' (W.pure z)) : Ev M E (tChain r r' ta tb tc) σ H RB (W.bind ma fun x => W.bind mb fun y => W.pure (f x y && g y z)) := fun H1 e Q P PE hm q go =>
  ha H1 e _ _ PE hm (fun v x H2 e2 a rx => hb H2 (e.trans e2) _ _ PE a (fun w y H3 e3 b ry => by
    replace b : P (f x y && g y z) := b
    refine h1 M x y v w H3 e3.dice (MoX.up e3 rx) ry _ (fun z => f x y = z) PE rfl (fun p p' H4 e4 hp rp => ?_) ((go.up e2).up e3)
    refine ⟨p', rp, ?_⟩
    subst hp
    cases hf : f x y with
    | true =>
      rw [hf, Bool.true_and] at b
      show tc σ H4 _
      refine hc H4 ((e.trans e2).trans (e3.trans e4)) _ (fun w => z = w) PE rfl (fun w2 z' H5 e5 c rz => ?_) (((go.up e2).up e3).up e4)
      subst c
      exact h2 M y z w w2 H5 e5.dice (MoX.up (e4.trans e5) ry) rz Q _ PE b (fun q1 q2 H6 e6 hq rq => q q1 q2 H6 (e2.trans (e3.trans (e4.trans (e5.trans e6)))) hq rq) ((((go.up e2).up e3).up e4).up e5)
    | false =>
      rw [hf, Bool.false_and] at b
      exact q _ false H4 (e2.trans (e3.trans e4)) b rfl) (go.up e2)) go
/-! the second operand without a wish -/
theorem et_andP {m : W Bool} {b : Bool} (h1 : EvT M E t σ H m) (h2 : EvT M E u σ H (W.pure b)) : EvT M E (tAnd t u) σ H (W.bind m fun a => W.pure (a && b)) := fun H1 e Q P PE hm q g => et_and h1 h2 H1 e Q P PE (by
  refine Eq.mp (congrArg (fun f => m f PE) (funext fun a => ?_)) hm
  cases a <;> rfl) q g
theorem et_orP {m : W Bool} {b : Bool} (h1 : EvT M E t σ H m) (h2 : EvT M E u σ H (W.pure b)) : EvT M E (tOr t u) σ H (W.bind m fun a => W.pure (a || b)) := fun H1 e Q P PE hm q g => et_or h1 h2 H1 e Q P PE (by
  refine Eq.mp (congrArg (fun f => m f PE) (funext fun a => ?_)) hm
  cases a <;> rfl) q g
theorem ev_andP {m : W Bool} {b : Bool} (h1 : Ev M E ta σ H RB m) (h2 : Ev M E tb σ H RB (W.pure b)) : Ev M E (tAndV ta tb) σ H RB (W.bind m fun a => W.pure (a && b)) := fun H1 e Q P PE hm q g => ev_and h1 h2 H1 e Q P PE (by
  refine Eq.mp (congrArg (fun f => m f PE) (funext fun a => ?_)) hm
  cases a <;> rfl) q g
theorem ev_orP {m : W Bool} {b : Bool} (h1 : Ev M E ta σ H RB m) (h2 : Ev M E tb σ H RB (W.pure b)) : Ev M E (tOrV ta tb) σ H RB (W.bind m fun a => W.pure (a || b)) := fun H1 e Q P PE hm q g => ev_or h1 h2 H1 e Q P PE (by
  refine Eq.mp (congrArg (fun f => m f PE) (funext fun a => ?_)) hm
  cases a <;> rfl) q g
theorem ev_ifP {m : W Bool} {x y : α} (h : EvT M E t σ H m) (h1 : Ev M E ta σ H R (W.pure x)) (h2 : Ev M E tb σ H R (W.pure y)) : Ev M E (tIf t ta tb) σ H R (W.bind m fun c => W.pure (if c = true then x else y)) := fun H1 e Q P PE hm q g => ev_if h h1 h2 H1 e Q P PE (by
  refine Eq.mp (congrArg (fun f => m f PE) (funext fun a => ?_)) hm
  cases a <;> rfl) q g
end
end MW

/-! wB: operators, built-ins, items, equality. -/
namespace MW
open PySem PySem.Spec PyProof.Rows L2 GB
section
variable {M : Mm} {E : XK} {σ : St} {H : Hp} {te ta tb tc : TE} {t u : TT} {ts : TA} {α β γ : Type} {R : Rp α} {R' : Rp β} {R'' : Rp γ} {S : Rs β} {ma : W α} {mb : W β} {mc : W γ} {i : Nat} {K : Frag}
/-! ### numbers -/
theorem o2_I0 {g : Int → Int → V} {f : Int → Int → γ} (h : ∀ i j M H, R'' M (f i j) (g i j) H) : Op2 E (rI0 g) RI RI R'' (fun x y => W.pure (f x y)) := by
  rintro M x y v u H d rfl rfl Q P PE hm q _
  exact ⟨x, y, rfl, rfl, q _ _ H (.refl d) hm (h x y M H)⟩
theorem o2_I {C : Int → Int → Prop} {g : Int → Int → V} {f : Int → Int → γ} (h : ∀ i j M H, R'' M (f i j) (g i j) H) : Op2 E (rI C g) RI RI R'' (fun x y => W.grd (C x y) (f x y)) := by
  rintro M x y v u H d rfl rfl Q P PE hm q _
  exact ⟨x, y, rfl, rfl, hm.1, q _ _ H (.refl d) hm.2 (h x y M H)⟩
theorem o_add : Op2 E (rI0 fun i j => .int (i + j)) RI RI RI (fun x y => W.pure (x + y)) := o2_I0 fun _ _ _ _ => rfl
theorem o_sub : Op2 E (rI0 fun i j => .int (i - j)) RI RI RI (fun x y => W.pure (x - y)) := o2_I0 fun _ _ _ _ => rfl
theorem o_mul : Op2 E (rI CMul fun i j => .int (i * j)) RI RI RI (fun x y => W.grd (CMul x y) (x * y)) := o2_I fun _ _ _ _ => rfl
theorem o_mulW : Op2 E (rI CMulW fun i j => .int (i * j)) RI RI RI (fun x y => W.grd (CMulW x y) (x * y)) := o2_I fun _ _ _ _ => rfl
theorem o_fdiv : Op2 E (rI CDiv fun i j => .int (i / j)) RI RI RI (fun x y => W.grd (CDiv x y) (x / y)) := o2_I fun _ _ _ _ => rfl
theorem o_fdivW : Op2 E (rI CDivW fun i j => .int (i / j)) RI RI RI (fun x y => W.grd (CDivW x y) (x / y)) := o2_I fun _ _ _ _ => rfl
theorem o_mod : Op2 E (rI (fun _ j => 0 < j) fun i j => .int (i % j)) RI RI RI (fun x y => W.grd (0 < y) (x % y)) := o2_I fun _ _ _ _ => rfl
theorem o_pow9 : Op2 E (rI (fun i j => 0 ≤ j ∧ (Builtin.Int.intBits i : Int) * j ≤ 2 ^ 27) fun i j => .int (i ^ j.toNat)) RI RI RI (fun x y => W.grd (0 ≤ y ∧ (Builtin.Int.intBits x : Int) * y ≤ 2 ^ 27) (x ^ y.toNat)) := o2_I fun _ _ _ _ => rfl
theorem o_lt : Op2 E (rI0 fun i j => .bl (decide (i < j))) RI RI RB (fun x y => W.pure (decide (x < y))) := o2_I0 fun _ _ _ _ => rfl
theorem o_le : Op2 E (rI0 fun i j => .bl (decide (i ≤ j))) RI RI RB (fun x y => W.pure (decide (x ≤ y))) := o2_I0 fun _ _ _ _ => rfl
theorem o_gt : Op2 E (rI0 fun i j => .bl (decide (j < i))) RI RI RB (fun x y => W.pure (decide (y < x))) := o2_I0 fun _ _ _ _ => rfl
theorem o_ge : Op2 E (rI0 fun i j => .bl (decide (j ≤ i))) RI RI RB (fun x y => W.pure (decide (y ≤ x))) := o2_I0 fun _ _ _ _ => rfl
theorem dInt {i j : Int} : decide (V.int i = V.int j) = decide (i = j) := by
  by_cases h : i = j
  · subst h; simp
  · have : ¬ V.int i = V.int j := fun z => h (V.int.inj z)
    simp [h]
theorem dBl {i j : Bool} : decide (V.bl i = V.bl j) = (i == j) := by cases i <;> cases j <;> rfl
theorem dStr {i j : Str} : decide (V.str i = V.str j) = decide (i = j) := by
  by_cases h : i = j
  · subst h; simp
  · have : ¬ V.str i = V.str j := fun z => h (V.str.inj z)
    simp [h]
theorem o_eq : Op2 E rEq RI RI RB (fun x y => W.pure (decide (x = y))) := by
  rintro M x y v u H d rfl rfl Q P PE hm q _
  exact ⟨rfl, q _ _ H (.refl d) hm (congrArg V.bl dInt)⟩
theorem o_ne : Op2 E rNe RI RI RB (fun x y => W.pure (!decide (x = y))) := by
  rintro M x y v u H d rfl rfl Q P PE hm q _
  exact ⟨rfl, q _ _ H (.refl d) hm (congrArg (fun b => V.bl !b) dInt)⟩
theorem o_eqB : Op2 E rEq RB RB RB (fun x y => W.pure (x == y)) := by
  rintro M x y v u H d rfl rfl Q P PE hm q _
  exact ⟨rfl, q _ _ H (.refl d) hm (congrArg V.bl dBl)⟩
theorem o_neB : Op2 E rNe RB RB RB (fun x y => W.pure (!(x == y))) := by
  rintro M x y v u H d rfl rfl Q P PE hm q _
  exact ⟨rfl, q _ _ H (.refl d) hm (congrArg (fun b => V.bl !b) dBl)⟩
theorem o_eqS : Op2 E rEq RS RS RB (fun x y => W.pure (decide (x = y))) := by
  rintro M x y v u H d rfl rfl Q P PE hm q _
  exact ⟨rfl, q _ _ H (.refl d) hm (congrArg V.bl dStr)⟩
theorem o_neS : Op2 E rNe RS RS RB (fun x y => W.pure (!decide (x = y))) := by
  rintro M x y v u H d rfl rfl Q P PE hm q _
  exact ⟨rfl, q _ _ H (.refl d) hm (congrArg (fun b => V.bl !b) dStr)⟩
theorem u_neg : ∀ (M : Mm) x v H, RI M x v H → ∀ Q : VK, (∀ w, RI M (-x) w H → Q w H) → (rU fun i => .int (-i)) v H Q := by
  rintro M x v H rfl Q q
  exact ⟨x, rfl, q _ rfl⟩
/-! ### built-ins -/
theorem c_abs : Cl E (fun xs H Q => ∃ i, xs = [V.int i] ∧ Q (.int (if i < 0 then -i else i)) H) (One RI) RI (fun p => W.pure (if p < 0 then -p else p)) := by
  rintro M x vs H d ⟨v, rfl, rfl⟩ Q P PE hm q _
  exact ⟨x, rfl, q _ _ H (.refl d) hm rfl⟩
theorem c_int : Cl E (fun xs H Q => (∃ i, xs = [V.int i] ∧ Q (.int i) H) ∨ ∃ k, xs = [V.bl k] ∧ Q (.int (if k then 1 else 0)) H) (One RI) RI (fun p => W.pure p) := by
  rintro M x vs H d ⟨v, rfl, rfl⟩ Q P PE hm q _
  exact .inl ⟨x, rfl, q _ _ H (.refl d) hm rfl⟩
theorem c_intB : Cl E (fun xs H Q => (∃ i, xs = [V.int i] ∧ Q (.int i) H) ∨ ∃ k, xs = [V.bl k] ∧ Q (.int (if k then 1 else 0)) H) (One RB) RI (fun p => W.pure (if p = true then 1 else 0)) := by
  rintro M x vs H d ⟨v, rfl, rfl⟩ Q P PE hm q _
  exact .inr ⟨x, rfl, q _ _ H (.refl d) hm rfl⟩
theorem c_max : Cl E (fun xs H Q => ∃ i j, xs = [V.int i, .int j] ∧ Q (.int (if j > i then j else i)) H) (Cons RI (One RI)) RI (fun p => W.pure (max p.1 p.2)) := by
  rintro M ⟨x, y⟩ vs H d ⟨v, r, rfl, rfl, w, rfl, rfl⟩ Q P PE hm q _
  refine ⟨x, y, rfl, q _ _ H (.refl d) hm ?_⟩
  show V.int _ = V.int _
  congr 1; omega
theorem c_min : Cl E (fun xs H Q => ∃ i j, xs = [V.int i, .int j] ∧ Q (.int (if j < i then j else i)) H) (Cons RI (One RI)) RI (fun p => W.pure (min p.1 p.2)) := by
  rintro M ⟨x, y⟩ vs H d ⟨v, r, rfl, rfl, w, rfl, rfl⟩ Q P PE hm q _
  refine ⟨x, y, rfl, q _ _ H (.refl d) hm ?_⟩
  show V.int _ = V.int _
  congr 1; omega
theorem paired_len {F : α → β → Prop} {l : List α} {r : List β} (h : Paired F l r) : r.length = l.length := by
  induction h with
  | nil => rfl
  | cons _ _ ih => simp [ih]
theorem c_lenT : Cl E (fun xs H Q => ∃ p ys, xs = [V.ref p] ∧ (SqL K H p ys ∨ SqT K H p ys) ∧ Q (.int (ys.length : Int)) H) (One (RT (All R))) RI (fun p => W.pure (p.length : Int)) := by
  rintro M x vs H d ⟨v, rfl, ⟨a, ws, rfl, n, h, hr⟩⟩ Q P PE hm q _
  exact ⟨a, ws, rfl, .inr (.of h), q _ _ H (.refl d) hm (by show V.int _ = V.int _; rw [all_len hr])⟩
theorem c_lenL : Cl E (fun xs H Q => ∃ p ys, xs = [V.ref p] ∧ (SqL K H p ys ∨ SqT K H p ys) ∧ Q (.int (ys.length : Int)) H) (One (RL (All R))) RI (fun p => W.pure (p.length : Int)) := by
  rintro M x vs H d ⟨v, rfl, ⟨a, ws, rfl, n, h, hr⟩⟩ Q P PE hm q _
  exact ⟨a, ws, rfl, .inl (.of h), q _ _ H (.refl d) hm (by show V.int _ = V.int _; rw [all_len hr])⟩
theorem c_lenW : Cl E (fun xs H Q => ∃ p ys, xs = [V.ref p] ∧ (SqL K H p ys ∨ SqT K H p ys) ∧ Q (.int (ys.length : Int)) H) (One (RW (All R))) RI (fun p => W.pure (p.length : Int)) := by
  rintro M x vs H d ⟨v, rfl, ⟨a, ws, rfl, n, h, hr⟩⟩ Q P PE hm q _
  exact ⟨a, ws, rfl, .inl (.of h), q _ _ H (.refl d) hm (by show V.int _ = V.int _; rw [all_len hr])⟩
/-- tuple(xs) of a list -/
theorem c_tupL {S : Rs β} [MoXs S] : Cl E (fun xs H Q => ∃ p ys, xs = [V.ref p] ∧ ((SqL K H p ys ∧ ∀ l, H l = none → Q (.ref l) (upd H l (.tup ys))) ∨ (SqT K H p ys ∧ Q (.ref p) H))) (One (RL S)) (RT S) (fun p => W.pure p) := by
  rintro M x vs H d ⟨v, rfl, ⟨a, ws, rfl, n, h, hr⟩⟩ Q P PE hm q _
  exact ⟨a, ws, rfl, .inl ⟨.of h, fun l hl => q _ _ _ (.new d hl) hm ⟨l, ws, rfl, d.fr hl, upd_same, MoXs.up (.new d hl) hr⟩⟩⟩
theorem c_tupW {S : Rs β} [MoXs S] : Cl E (fun xs H Q => ∃ p ys, xs = [V.ref p] ∧ ((SqL K H p ys ∧ ∀ l, H l = none → Q (.ref l) (upd H l (.tup ys))) ∨ (SqT K H p ys ∧ Q (.ref p) H))) (One (RW S)) (RT S) (fun p => W.pure p) := by
  rintro M x vs H d ⟨v, rfl, ⟨a, ws, rfl, n, h, hr⟩⟩ Q P PE hm q _
  exact ⟨a, ws, rfl, .inl ⟨.of h, fun l hl => q _ _ _ (.new d hl) hm ⟨l, ws, rfl, d.fr hl, upd_same, MoXs.up (.new d hl) hr⟩⟩⟩
theorem c_tupT {S : Rs β} : Cl E (fun xs H Q => ∃ p ys, xs = [V.ref p] ∧ ((SqL K H p ys ∧ ∀ l, H l = none → Q (.ref l) (upd H l (.tup ys))) ∨ (SqT K H p ys ∧ Q (.ref p) H))) (One (RT S)) (RT S) (fun p => W.pure p) := by
  rintro M x vs H d ⟨v, rfl, ⟨a, ws, rfl, n, h, hr⟩⟩ Q P PE hm q _
  exact ⟨a, ws, rfl, .inr ⟨.of h, q _ _ _ (.refl d) hm ⟨a, ws, rfl, n, h, hr⟩⟩⟩
/-- list(xs) of a list, a tuple -/
theorem c_lstL {S : Rs β} [MoXs S] : Cl E (fun xs H Q => ∃ p ys, xs = [V.ref p] ∧ (SqL K H p ys ∨ SqT K H p ys) ∧ ∀ l, H l = none → Q (.ref l) (upd H l (.lst ys))) (One (RL S)) (RL S) (fun p => W.pure p) := by
  rintro M x vs H d ⟨v, rfl, ⟨a, ws, rfl, n, h, hr⟩⟩ Q P PE hm q _
  exact ⟨a, ws, rfl, .inl (.of h), fun l hl => q _ _ _ (.new d hl) hm ⟨l, ws, rfl, d.fr hl, upd_same, MoXs.up (.new d hl) hr⟩⟩
theorem c_lstW {S : Rs β} [MoXs S] : Cl E (fun xs H Q => ∃ p ys, xs = [V.ref p] ∧ (SqL K H p ys ∨ SqT K H p ys) ∧ ∀ l, H l = none → Q (.ref l) (upd H l (.lst ys))) (One (RW S)) (RL S) (fun p => W.pure p) := by
  rintro M x vs H d ⟨v, rfl, ⟨a, ws, rfl, n, h, hr⟩⟩ Q P PE hm q _
  exact ⟨a, ws, rfl, .inl (.of h), fun l hl => q _ _ _ (.new d hl) hm ⟨l, ws, rfl, d.fr hl, upd_same, MoXs.up (.new d hl) hr⟩⟩
theorem c_lstT {S : Rs β} [MoXs S] : Cl E (fun xs H Q => ∃ p ys, xs = [V.ref p] ∧ (SqL K H p ys ∨ SqT K H p ys) ∧ ∀ l, H l = none → Q (.ref l) (upd H l (.lst ys))) (One (RT S)) (RL S) (fun p => W.pure p) := by
  rintro M x vs H d ⟨v, rfl, ⟨a, ws, rfl, n, h, hr⟩⟩ Q P PE hm q _
  exact ⟨a, ws, rfl, .inr (.of h), fun l hl => q _ _ _ (.new d hl) hm ⟨l, ws, rfl, d.fr hl, upd_same, MoXs.up (.new d hl) hr⟩⟩
/-! ### items -/
theorem paired_at {F : α → β → Prop} : ∀ {l : List α} {r : List β} {i : Nat} {x : α}, Paired F l r → l[i]? = some x → ∃ y, r[i]? = some y ∧ F x y
  | _, _, _, _, .nil, h => by simp at h
  | _, _, 0, _, .cons a b, h => by simp at h; subst h; exact ⟨_, rfl, a⟩
  | _, _, i + 1, _, .cons a b, h => by
    obtain ⟨y, h1, h2⟩ := paired_at (i := i) b (by simpa using h)
    exact ⟨y, by simpa using h1, h2⟩
theorem paired_at' {F : α → β → Prop} : ∀ {l : List α} {r : List β} {i : Nat} {y : β}, Paired F l r → r[i]? = some y → ∃ x, l[i]? = some x ∧ F x y
  | _, _, _, _, .nil, h => by simp at h
  | _, _, 0, _, .cons a b, h => by simp at h; subst h; exact ⟨_, rfl, a⟩
  | _, _, i + 1, _, .cons a b, h => by
    obtain ⟨y, h1, h2⟩ := paired_at' (i := i) b (by simpa using h)
    exact ⟨y, by simpa using h1, h2⟩
theorem atI_rep {l : List α} {vs : List V} {H : Hp} {i : Int} {x : α} (h : All R M l vs H) (e : atI l i = some x) : ∃ v, atI vs i = some v ∧ R M x v H := by
  have hl := all_len h
  unfold atI at e ⊢
  rw [hl]
  cases q : ixN l.length i with
  | none => rw [q] at e; cases e
  | some j =>
    rw [q] at e
    exact paired_at h e
theorem o_ixL : Op2 E (rIxL K) (RL (All R)) RI R (fun l i => W.get (atI l i)) := by
  rintro M l i v u H d ⟨a, ws, rfl, n, h, hr⟩ rfl Q P PE ⟨z, hz, hm⟩ q _
  obtain ⟨w, h1, h2⟩ := atI_rep hr hz
  exact ⟨a, ws, i, w, rfl, rfl, .of h, h1, q w z H (.refl d) hm h2⟩
theorem o_ixW : Op2 E (rIxL K) (RW (All R)) RI R (fun l i => W.get (atI l i)) := by
  rintro M l i v u H d ⟨a, ws, rfl, n, h, hr⟩ rfl Q P PE ⟨z, hz, hm⟩ q _
  obtain ⟨w, h1, h2⟩ := atI_rep hr hz
  exact ⟨a, ws, i, w, rfl, rfl, .of h, h1, q w z H (.refl d) hm h2⟩
theorem o_ixT : Op2 E (rIxT K) (RT (All R)) RI R (fun l i => W.get (atI l i)) := by
  rintro M l i v u H d ⟨a, ws, rfl, n, h, hr⟩ rfl Q P PE ⟨z, hz, hm⟩ q _
  obtain ⟨w, h1, h2⟩ := atI_rep hr hz
  exact ⟨a, ws, i, w, rfl, rfl, .of h, h1, q w z H (.refl d) hm h2⟩
/-- a written place of a tuple of unlike things -/
class Nth {β δ : Type} (S : Rs β) (n : Nat) (R : outParam (Rp δ)) (f : outParam (β → δ)) : Prop where
  at_ : ∀ {M x vs H}, S M x vs H → ∃ w, vs[n]? = some w ∧ R M (f x) w H
instance {R : Rp α} {S : Rs β} : Nth (Cons R S) 0 R Prod.fst := ⟨fun ⟨v, r, e, h, _⟩ => ⟨v, by subst e; rfl, h⟩⟩
instance {R : Rp α} : Nth (One R) 0 R id := ⟨fun ⟨v, e, h⟩ => ⟨v, by subst e; rfl, h⟩⟩
instance {δ : Type} {R : Rp α} {S : Rs β} {T : Rp δ} {n : Nat} {f : β → δ} [Nth S n T f] : Nth (Cons R S) (n + 1) T (fun p => f p.2) := ⟨fun ⟨v, r, e, _, h⟩ => by
  obtain ⟨w, h1, h2⟩ := Nth.at_ (n := n) (R := T) (f := f) h
  exact ⟨w, by subst e; simpa using h1, h2⟩⟩
theorem ev_ixC {δ : Type} {T : Rp δ} {f : β → δ} (n : Nat) [Nth S n T f] (ha : Ev M E ta σ H (RT S) mb) : Ev M E (tOp (rIxT K) ta (tC (.int (n : Int)))) σ H T (W.bind mb fun x => W.pure (f x)) := fun H1 e Q P PE hm q g =>
  ha H1 e _ _ PE hm (fun v x H2 e2 hx ⟨a, vs, h1, h2, h3, h4⟩ => by
    obtain ⟨w, k1, k2⟩ := Nth.at_ (n := n) (R := T) (f := f) h4
    exact ⟨a, vs, (n : Int), w, h1, rfl, .of h3, atI_nat k1, q w _ H2 e2 hx k2⟩) g
/-! ### values that are data -/
end
class Da {α : Type} (R : Rp α) where
  f : α → PyData
  n : Nat
  dp : ∀ {M K x v H}, R M x v H → L2.Dp K H v (f x)
  ok : ∀ x, (f x).canLay0 = true
  dep : ∀ x, (f x).depth ≤ n
  inj : ∀ x y, PyData.eqv (f x) (f y) = true ↔ x = y
class Das {α : Type} (R : Rs α) where
  f : α → List PyData
  n : Nat
  dp : ∀ {M K x vs H}, R M x vs H → L2.DpAll K H vs (f x)
  ok : ∀ x, PyData.canLayAll0 (f x) = true
  dep : ∀ x, PyData.depthAll (f x) ≤ n
  inj : ∀ x y, PyData.eqvAll (f x) (f y) = true ↔ x = y
section
variable {M : Mm} {E : XK} {α β γ : Type} {K : Frag} {H : Hp}
instance : Da RI := ⟨fun i => .int i, 0, fun {M K x v H} h => by cases (show v = V.int x from h); exact .int _, fun _ => rfl, fun _ => Nat.le_refl _, fun x y => by simp [PyData.eqv]⟩
instance : Da RB := ⟨fun i => .bool i, 0, fun {M K x v H} h => by cases (show v = V.bl x from h); exact .bl _, fun _ => rfl, fun _ => Nat.le_refl _, fun x y => by simp [PyData.eqv]⟩
instance : Da RN := ⟨fun _ => .none, 0, fun {M K x v H} h => by cases (show v = V.non from h); exact .non, fun _ => rfl, fun _ => Nat.le_refl _, fun x y => by simp [PyData.eqv]⟩
instance : Das Nil := ⟨fun _ => [], 0, fun {M K x vs H} h => by cases (show vs = [] from h); exact .nil, fun _ => rfl, fun _ => Nat.le_refl _, fun x y => by simp [PyData.eqvAll]⟩
instance {R : Rp α} [a : Da R] : Das (One R) := ⟨fun x => [a.f x], a.n, fun {M K x vs H} h => by obtain ⟨v, rfl, h⟩ := h; exact .cons (a.dp h) .nil, fun x => by simp [PyData.canLayAll0, a.ok], fun x => by simp only [PyData.depthAll]; have := a.dep x; omega, fun x y => by simp [PyData.eqvAll, a.inj]⟩
instance {R : Rp α} {S : Rs β} [a : Da R] [b : Das S] : Das (Cons R S) := ⟨fun p => a.f p.1 :: b.f p.2, max a.n b.n, fun {M K x vs H} h => by obtain ⟨v, r, rfl, h1, h2⟩ := h; exact .cons (a.dp h1) (b.dp h2),
  fun x => by simp [PyData.canLayAll0, a.ok, b.ok], fun x => by simp only [PyData.depthAll]; have := a.dep x.1; have := b.dep x.2; omega, fun x y => by
    simp only [PyData.eqvAll, Bool.and_eq_true, a.inj, b.inj]
    constructor
    · rintro ⟨h1, h2⟩; exact Prod.ext h1 h2
    · rintro rfl; exact ⟨rfl, rfl⟩⟩
instance {R : Rp α} [a : Da R] : Das (All R) := ⟨fun l => l.map a.f, a.n, fun {M K x vs H} h => by
    have h' : Paired (fun x v => R M x v H) x vs := h
    induction h' with
    | nil => exact .nil
    | cons h1 h2 ih => exact .cons (a.dp h1) (ih h2),
  fun x => by
    induction x with
    | nil => rfl
    | cons y l ih => simp [PyData.canLayAll0, a.ok, ih], fun x => by
    induction x with
    | nil => exact Nat.zero_le _
    | cons y l ih => simp only [List.map_cons, PyData.depthAll]; have := a.dep y; omega, fun x y => by
    induction x generalizing y with
    | nil => cases y <;> simp [PyData.eqvAll]
    | cons z l ih => cases y <;> simp [PyData.eqvAll, a.inj, ih]⟩
instance {S : Rs β} [b : Das S] : Da (RT S) := ⟨fun x => .tuple (b.f x), b.n + 1, fun {M K x v H} h => by obtain ⟨a, vs, rfl, n, h1, h2⟩ := h; exact .tup (.of h1) (b.dp h2),
  fun x => by simpa [PyData.canLay0] using b.ok x, fun x => by simp only [PyData.depth]; have := b.dep x; omega, fun x y => by simp [PyData.eqv, b.inj]⟩
instance daRL {S : Rs β} [b : Das S] : Da (RL S) := ⟨fun x => .list (b.f x), b.n + 1, fun {M K x v H} h => by obtain ⟨a, vs, rfl, n, h1, h2⟩ := h; exact .lst (.of h1) (b.dp h2),
  fun x => by simpa [PyData.canLay0] using b.ok x, fun x => by simp only [PyData.depth]; have := b.dep x; omega, fun x y => by simp [PyData.eqv, b.inj]⟩
instance daRW {S : Rs β} [b : Das S] : Da (RW S) := ⟨fun x => .list (b.f x), b.n + 1, fun {M K x v H} h => by obtain ⟨a, vs, rfl, n, h1, h2⟩ := h; exact .lst (.of h1) (b.dp h2),
  fun x => by simpa [PyData.canLay0] using b.ok x, fun x => by simp only [PyData.depth]; have := b.dep x; omega, fun x y => by simp [PyData.eqv, b.inj]⟩
/-- no None within -/
class NoN {α : Type} (R : Rp α) [a : Da R] : Prop where
  nn : ∀ x, PyData.eqv (a.f x) .none = false ∧ PyData.eqv .none (a.f x) = false
instance : NoN RI := ⟨fun x => ⟨by simp [Da.f, PyData.eqv], by simp [Da.f, PyData.eqv]⟩⟩
instance : NoN RB := ⟨fun x => ⟨by simp [Da.f, PyData.eqv], by simp [Da.f, PyData.eqv]⟩⟩
instance {S : Rs β} [b : Das S] : NoN (RT S) := ⟨fun x => ⟨by simp [Da.f, PyData.eqv], by simp [Da.f, PyData.eqv]⟩⟩
instance {S : Rs β} [b : Das S] : NoN (RL S) := ⟨fun x => ⟨by simp [Da.f, PyData.eqv], by simp [Da.f, PyData.eqv]⟩⟩
instance {R : Rp α} [a : Da R] [nn : NoN R] : Da (ROpt R) := ⟨fun o => match o with | none => .none | some x => a.f x, a.n, fun {M K o v H} h => by
    cases o with
    | none => cases (show v = V.non from h); exact .non
    | some x => exact a.dp h, fun o => by cases o <;> first | rfl | exact a.ok _, fun o => by cases o <;> first | exact Nat.zero_le _ | exact a.dep _, fun x y => by
    cases x with
    | none => cases y with
      | none => simp [PyData.eqv]
      | some y => simp [(nn.nn y).2]
    | some x => cases y with
      | none => simp [(nn.nn x).1]
      | some y => simp [a.inj]⟩
theorem sh {R : Rp α} (a : Da R) (h : a.n ≤ 64) (x : α) : SeqAt.shaped (a.f x) = true := by
  unfold SeqAt.shaped
  rw [a.ok, decide_eq_true (Nat.le_trans (a.dep x) h)] <;> rfl
theorem eqv_dec [DecidableEq α] {R : Rp α} [a : Da R] (x y : α) : PyData.eqv (a.f x) (a.f y) = decide (x = y) := by
  by_cases h : x = y
  · rw [decide_eq_true h]; exact (a.inj x y).mpr h
  · rw [decide_eq_false h]
    cases q : PyData.eqv (a.f x) (a.f y) with
    | false => rfl
    | true => exact absurd ((a.inj x y).mp q) h
/-- two representations of one type that read alike -/
class Like {α : Type} (R R' : Rp α) [a : Da R] [b : Da R'] : Prop where
  e : ∀ x, b.f x = a.f x
instance {R : Rp α} [a : Da R] : Like R R := ⟨fun _ => rfl⟩
instance {S : Rs β} [b : Das S] : Like (RW S) (RL S) := ⟨fun _ => rfl⟩
instance {S : Rs β} [b : Das S] : Like (RL S) (RW S) := ⟨fun _ => rfl⟩
theorem o_eqD [DecidableEq α] {R R' : Rp α} [a : Da R] [b : Da R'] [l : Like R R'] (hn : a.n ≤ 64 := by exact Nat.le_of_ble_eq_true rfl) (hn' : b.n ≤ 64 := by exact Nat.le_of_ble_eq_true rfl) : Op2 E (rEqD K) R R' RB (fun x y => W.pure (decide (x = y))) := by
  intro M x y v u H d rx ry Q P PE hm q _
  exact ⟨_, _, a.dp rx, b.dp ry, sh a hn x, sh b hn' y, q _ _ H (.refl d) hm (congrArg V.bl (by rw [l.e]; exact eqv_dec (R := R) x y))⟩
theorem o_neD [DecidableEq α] {R R' : Rp α} [a : Da R] [b : Da R'] [l : Like R R'] (hn : a.n ≤ 64 := by exact Nat.le_of_ble_eq_true rfl) (hn' : b.n ≤ 64 := by exact Nat.le_of_ble_eq_true rfl) : Op2 E (rNeD K) R R' RB (fun x y => W.pure (!decide (x = y))) := by
  intro M x y v u H d rx ry Q P PE hm q _
  exact ⟨_, _, a.dp rx, b.dp ry, sh a hn x, sh b hn' y, q _ _ H (.refl d) hm (congrArg (fun b => V.bl !b) (by rw [l.e]; exact eqv_dec (R := R) x y))⟩
/-! ### in -/
theorem any_dec [DecidableEq α] {R : Rp α} [a : Da R] (l : List α) (x : α) : ((l.map a.f).any fun z => PyData.eqv z (a.f x)) = decide (x ∈ l) := by
  induction l with
  | nil => simp
  | cons y l ih =>
    rw [List.map_cons, List.any_cons, ih, eqv_dec (R := R) y x]
    by_cases h : y = x
    · subst h; simp
    · have h' : ¬ x = y := fun z => h z.symm
      simp [h, h']
/-- x in l -/
def memD {α : Type} [DecidableEq α] (x : α) (l : List α) : Bool := decide (x ∈ l)
theorem o_inL [DecidableEq α] {R : Rp α} [a : Da R] (hn : a.n + 1 ≤ 64 := by exact Nat.le_of_ble_eq_true rfl) : Op2 E (rInD K) R (RL (All R)) RB (fun x l => W.pure (memD x l)) := by
  intro M x l v u H d rx ry Q P PE hm q _
  exact ⟨_, _, a.dp rx, (daRL (S := All R)).dp ry, sh a (by omega) x, sh (daRL (S := All R)) hn l, q _ _ H (.refl d) hm (congrArg V.bl (any_dec (R := R) l x))⟩
theorem o_ninL [DecidableEq α] {R : Rp α} [a : Da R] (hn : a.n + 1 ≤ 64 := by exact Nat.le_of_ble_eq_true rfl) : Op2 E (rNotInD K) R (RL (All R)) RB (fun x l => W.pure (!memD x l)) := by
  intro M x l v u H d rx ry Q P PE hm q _
  exact ⟨_, _, a.dp rx, (daRL (S := All R)).dp ry, sh a (by omega) x, sh (daRL (S := All R)) hn l, q _ _ H (.refl d) hm (congrArg (fun b => V.bl !b) (any_dec (R := R) l x))⟩
theorem o_inW [DecidableEq α] {R : Rp α} [a : Da R] (hn : a.n + 1 ≤ 64 := by exact Nat.le_of_ble_eq_true rfl) : Op2 E (rInD K) R (RW (All R)) RB (fun x l => W.pure (memD x l)) := by
  intro M x l v u H d rx ry Q P PE hm q _
  exact ⟨_, _, a.dp rx, (daRW (S := All R)).dp ry, sh a (by omega) x, sh (daRW (S := All R)) hn l, q _ _ H (.refl d) hm (congrArg V.bl (any_dec (R := R) l x))⟩
theorem o_ninW [DecidableEq α] {R : Rp α} [a : Da R] (hn : a.n + 1 ≤ 64 := by exact Nat.le_of_ble_eq_true rfl) : Op2 E (rNotInD K) R (RW (All R)) RB (fun x l => W.pure (!memD x l)) := by
  intro M x l v u H d rx ry Q P PE hm q _
  exact ⟨_, _, a.dp rx, (daRW (S := All R)).dp ry, sh a (by omega) x, sh (daRW (S := All R)) hn l, q _ _ H (.refl d) hm (congrArg (fun b => V.bl !b) (any_dec (R := R) l x))⟩
/-! ### None -/
theorem o_isN {R : Rp α} (hn : ∀ M x v H, R M x v H → v ≠ V.non) : Op2 E (fun x y H Q => y = V.non ∧ Q (.bl (decide (x = .non))) H) (ROpt R) RN RB (fun x _ => W.pure x.isNone) := by
  rintro M x y v u H d rx rfl Q P PE hm q _
  refine ⟨rfl, q _ _ H (.refl d) hm ?_⟩
  cases x with
  | none => cases (show v = V.non from rx); rfl
  | some i => have := hn M i v H rx; show V.bl _ = V.bl _; simp [this]
/-- what is never None -/
class Nn {α : Type} (R : Rp α) : Prop where
  nn : ∀ M x v H, R M x v H → v ≠ V.non
instance : Nn RI := ⟨fun M x v H h e => by rw [show v = V.int x from h] at e; cases e⟩
instance : Nn RB := ⟨fun M x v H h e => by rw [show v = V.bl x from h] at e; cases e⟩
instance : Nn RS := ⟨fun M x v H h e => by rw [show v = V.str x from h] at e; cases e⟩
instance {S : Rs β} : Nn (RT S) := ⟨fun M x v H ⟨a, vs, h, _⟩ e => by rw [h] at e; cases e⟩
instance {S : Rs β} : Nn (RL S) := ⟨fun M x v H ⟨a, vs, h, _⟩ e => by rw [h] at e; cases e⟩
end
end MW

/-! wC: instances, slots, defs, methods, constructors, isinstance. -/
namespace MW
open PySem PySem.Spec PyProof.Rows L2 GB
abbrev Fl (α : Type) := Mm → α → List (Str × V) → Hp → Prop
class MoF {α : Type} (F : Fl α) : Prop where
  lk : ∀ {M M' x v H H'}, Lk M H M' H' → F M x v H → F M' x v H'
/-- attributes, in their order -/
def FOne (f : Str) {α : Type} (R : Rp α) : Fl α := fun M x fs H => ∃ v, fs = [(f, v)] ∧ R M x v H
def FCons (f : Str) {α β : Type} (R : Rp α) (F : Fl β) : Fl (α × β) := fun M x fs H => ∃ v r, fs = (f, v) :: r ∧ R M x.1 v H ∧ F M x.2 r H
/-- an instance of the class C with attributes as told -/
def RO (C : Str) {α : Type} (F : Fl α) : Rp α := fun M x v H => ∃ a dx fs, v = .ref a ∧ M.fr a ∧ H a = some (.ins (M.ca C) dx fs) ∧ F M x fs H
/-- with slots -/
def RSl (C : Str) {α : Type} (S : Rs α) : Rp α := fun M x v H => ∃ a dx vs, v = .ref a ∧ M.fr a ∧ M.fr dx ∧ dx ≠ a ∧ H a = some (SlX.SlO a (M.ca C) dx (vs.map some)) ∧ H dx = some (.xd []) ∧ S M x vs H
section
variable {α β : Type}
instance {f : Str} {R : Rp α} [Mo R] : MoF (FOne f R) := ⟨fun e ⟨v, h, k⟩ => ⟨v, h, Mo.lk (R := R) e k⟩⟩
instance {f : Str} {R : Rp α} {F : Fl β} [Mo R] [MoF F] : MoF (FCons f R F) := ⟨fun e ⟨v, r, h, k, l⟩ => ⟨v, r, h, Mo.lk (R := R) e k, MoF.lk (F := F) e l⟩⟩
instance {C : Str} {F : Fl α} [MoF F] : Mo (RO C F) := ⟨fun e ⟨a, dx, fs, h1, h2, h3, h4⟩ => ⟨a, dx, fs, h1, (e.k _ _ h2 h3).2, e.ca ▸ (e.k _ _ h2 h3).1, MoF.lk (F := F) e h4⟩⟩
instance {C : Str} {S : Rs α} [Mos S] : Mo (RSl C S) := ⟨fun e ⟨a, dx, vs, h1, h2, h3, h4, h5, h6, h7⟩ => ⟨a, dx, vs, h1, (e.k _ _ h2 h5).2, (e.k _ _ h3 h6).2, h4, e.ca ▸ (e.k _ _ h2 h5).1, (e.k _ _ h3 h6).1, Mos.lk (R := S) e h7⟩⟩
instance {C : Str} {F : Fl α} : Nn (RO C F) := ⟨fun M x v H ⟨a, dx, fs, h, _⟩ e => by rw [h] at e; cases e⟩
/-- an attribute, found -/
def FAt (F : Fl α) (g : Str) (R : Rp β) (f : α → β) : Prop := ∀ M x fs H, F M x fs H → ∃ v, fs.lookup g = some v ∧ R M (f x) v H
/-- no attribute of this name -/
def FNo (F : Fl α) (g : Str) : Prop := ∀ M x fs H, F M x fs H → fs.lookup g = none
theorem fat_one {g : Str} {R : Rp α} : FAt (FOne g R) g R id := fun M x fs H ⟨v, h, k⟩ => ⟨v, by subst h; simp [List.lookup_cons], k⟩
theorem fat_here {g : Str} {R : Rp α} {F : Fl β} : FAt (FCons g R F) g R (fun x => x.1) := fun M x fs H ⟨v, r, h, k, _⟩ => ⟨v, by subst h; simp [List.lookup_cons], k⟩
theorem fat_next {γ : Type} {g f : Str} {R : Rp α} {F : Fl β} {T : Rp γ} {h : β → γ} (n : (g == f) = false) (k : FAt F g T h) : FAt (FCons f R F) g T (fun x => h x.2) := fun M x fs H ⟨v, r, e, _, l⟩ => by
  obtain ⟨w, h1, h2⟩ := k M x.2 r H l
  exact ⟨w, by subst e; rw [List.lookup_cons, n]; exact h1, h2⟩
theorem fno_one {g f : Str} {R : Rp α} (n : (g == f) = false) : FNo (FOne f R) g := fun M x fs H ⟨v, h, _⟩ => by subst h; rw [List.lookup_cons, n]; rfl
theorem fno_cons {g f : Str} {R : Rp α} {F : Fl β} (n : (g == f) = false) (k : FNo F g) : FNo (FCons f R F) g := fun M x fs H ⟨v, r, h, _, l⟩ => by subst h; rw [List.lookup_cons, n]; exact k M x.2 r H l
theorem putF_nil {f : Str} {v : V} : putF f v [] = [(f, v)] := rfl
theorem putF_next {f g : Str} {v w : V} {r : List (Str × V)} (n : (g == f) = false) : putF f v ((g, w) :: r) = (g, w) :: putF f v r := by
  show (if g = f then _ else _) = _
  rw [if_neg (by simpa using n)]
end
/-! ### defs -/
/-- a def's promise by its mirror -/
def FnW {α γ : Type} (N : En) (S : Rs α) (R'' : Rp γ) (m : α → W γ) : Sp := fun vs H Q E =>
  ∃ M x P PE, M.ca = N.ga ∧ DiceM M H ∧ S M x vs H ∧ m x P PE ∧ (∀ w z H2, Xt M H H2 → P z → R'' M z w H2 → Q w H2) ∧ GoE M E H PE
/-- of a constructor's __init__ -/
def InitW {α γ : Type} (N : En) (C : Str) (S : Rs α) (F : Fl γ) (m : α → W γ) : Sp := fun vs H Q E =>
  ∃ M x P PE a dx us H0, vs = V.ref a :: us ∧ M.ca = N.ga ∧ DiceM M H0 ∧ Xt M H0 H ∧ H0 a = none ∧ H0 dx = none ∧ dx ≠ a ∧ S M x us H0 ∧ H a = some (.ins (N.ga C) dx []) ∧ m x P PE ∧
    (∀ H' z fs, Xt M H0 H' → H' a = some (.ins (N.ga C) dx fs) → P z → F M z fs H' → Q .non H') ∧ GoE M E H0 PE
def InitSW {α γ : Type} (N : En) (C : Str) (S : Rs α) (S' : Rs γ) (m : α → W γ) : Sp := fun vs H Q E =>
  ∃ M x P PE a dx us H0, vs = V.ref a :: us ∧ M.ca = N.ga ∧ DiceM M H0 ∧ Xt M H0 H ∧ H0 a = none ∧ H0 dx = none ∧ dx ≠ a ∧ S M x us H0 ∧ SlX.Slt H a (N.ga C) dx [] ∧ m x P PE ∧
    (∀ H' z ws, Xt M H0 H' → H' a = some (SlX.SlO a (N.ga C) dx (ws.map some)) → H' dx = some (.xd []) → P z → S' M z ws H' → Q .non H') ∧ GoE M E H0 PE
theorem two_new {M : Mm} {H : Hp} {a dx : Addr} {o u : HO} (d : DiceM M H) (h1 : H a = none) (h2 : H dx = none) (h3 : dx ≠ a) : Xt M H (upd (upd H dx o) a u) := by
  have e1 : Xt M H (upd H dx o) := .new d h2
  exact e1.trans (.new e1.dice (by rw [upd_ne (fun z => h3 z.symm)]; exact h1))
theorem dc_mk {α β γ : Type} {N : En} {k : Nat} {C : Str} {S : Rs α} {F : Fl γ} {m : α → W γ} (hm : Mk N.K (N.ga C) (N.ma C "__init__")) (hg : N.mg C = some (.ref (N.ga C)))
    {dvs : List V} (fr : Fr N k (N.ma C "__init__") (fun vs H Q E => InitW N C S F m (vs ++ dvs) H Q E)) {S' : Rs β} (f : β → α) (hS : ∀ {M x vs H}, S' M x vs H → S M (f x) (vs ++ dvs) H) : Dc N k C (FnW N S' (RO C F) (fun x => m (f x))) := by
  refine ⟨⟨_, hm, fr, fun vs H Q E h a dx h1 h2 h3 => ?_⟩, hg⟩
  obtain ⟨M, x, P, PE, hca, d, hs, hp, q, g⟩ := h
  refine ⟨M, f x, P, PE, a, dx, vs ++ dvs, H, rfl, hca, d, two_new d h1 h2 h3, h1, h2, h3, hS hs, upd_same, hp, fun H' z fs e ha hf hF => ⟨rfl, q (.ref a) z H' e hf ⟨a, dx, fs, rfl, d.fr h1, by rw [hca]; exact ha, hF⟩⟩, g⟩
theorem dc_mkS {α γ : Type} {N : En} {k : Nat} {C : Str} {S : Rs α} {S' : Rs γ} {m : α → W γ} (hm : Mk N.K (N.ga C) (N.ma C "__init__")) (hg : N.mg C = some (.ref (N.ga C)))
    (fr : Fr N k (N.ma C "__init__") (InitSW N C S S' m)) : Dc N k C (FnW N S (RSl C S') m) := by
  refine ⟨⟨_, hm, fr, fun vs H Q E h a dx h1 h2 h3 => ?_⟩, hg⟩
  obtain ⟨M, x, P, PE, hca, d, hs, hp, q, g⟩ := h
  refine ⟨M, x, P, PE, a, dx, vs, H, rfl, hca, d, two_new d h1 h2 h3, h1, h2, h3, hs, .inl ⟨upd_same, rfl⟩, hp, fun H' z ws e ha hb hf hS => ⟨rfl, q (.ref a) z H' e hf ⟨a, dx, ws, rfl, d.fr h1, d.fr h2, h3, by rw [hca]; exact ha, hb, hS⟩⟩, g⟩
section
variable {N : En} {M : Mm} {E : XK} {σ : St} {H : Hp} {te ta tb tc tv : TE} {t u : TT} {ts : TA} {α β γ : Type} {R : Rp α} {R' : Rp β} {R'' : Rp γ} {S : Rs β} {ma : W α} {mb ms : W β} {mc : W γ} {i : Nat} {K : Frag} {C m : Str} {F : Fl α}
theorem ev_d {mm : β → W γ} (hca : M.ca = N.ga) (ha : EvA M E ts σ H S ms) : Ev M E (tD (FnW N S R'' mm) E ts) σ H R'' (W.bind ms mm) := fun H1 e Q P PE hm q g =>
  ha H1 e _ _ PE hm (fun vs x H2 e2 b rx => ⟨M, x, P, PE, hca, e2.dice, rx, b, fun w z H3 e3 hz rz => q w z H3 (e2.trans e3) hz rz, g.up e2⟩) g
theorem ev_fld {f : α → γ} {g : Str} (hca : M.ca = N.ga) (c : Cls K (N.ga C)) (n : NoAttr K (N.ga C) g) (hf : FAt F g R'' f) (ha : Ev M E ta σ H (RO C F) ma) : Ev M E (tFld K ta g) σ H R'' (W.bind ma fun x => W.pure (f x)) := fun H1 e Q P PE hm q go =>
  ha H1 e _ _ PE hm (fun v x H2 e2 hx ⟨p, dx, fs, h1, h2, h3, h4⟩ => by
    obtain ⟨w, l, r⟩ := hf M x fs H2 h4
    exact ⟨p, _, dx, fs, w, h1, by rw [hca] at h3; exact h3, c, n, l, q w _ H2 e2 hx r⟩) go
theorem ev_sl {δ : Type} {f : β → δ} {T : Rp δ} {g : Str} (hca : M.ca = N.ga) (c : SlX.SCls K (N.ga C)) (t : ∃ p, SlX.Slot1 K (N.ga C) g p i) [n : Nth S i T f] (ha : Ev M E ta σ H (RSl C S) mb) : Ev M E (SlX.tSl K ta g) σ H T (W.bind mb fun x => W.pure (f x)) := fun H1 e Q P PE hm q go => by
  obtain ⟨p, t⟩ := t
  exact ha H1 e _ _ PE hm (fun v x H2 e2 hx ⟨a, dx, vs, h1, h2, h3, h4, h5, h6, h7⟩ => by
    obtain ⟨w, k1, k2⟩ := n.at_ h7
    exact ⟨a, _, dx, p, _, i, w, h1, .inr ⟨by rw [hca] at h5; exact h5, h6⟩, c, t, by rw [List.getElem?_map, k1]; rfl, q w _ H2 e2 hx k2⟩) go
theorem ev_pr {mm : α → W γ} (hca : M.ca = N.ga) (ha : Ev M E ta σ H (RO C F) ma) : Ev M E (tPr (N.ga C) (FnW N (One (RO C F)) R'' mm) E ta) σ H R'' (W.bind ma mm) := fun H1 e Q P PE hm q g =>
  ha H1 e _ _ PE hm (fun v x H2 e2 hx r => by
    obtain ⟨p, dx, fs, h1, h2, h3, h4⟩ := id r
    subst h1
    exact ⟨p, dx, fs, rfl, by rw [hca] at h3; exact h3, M, x, P, PE, hca, e2.dice, ⟨_, rfl, r⟩, hx, fun w z H3 e3 hz rz => q w z H3 (e2.trans e3) hz rz, g.up e2⟩) g
/-- o.m(..) -/
theorem ev_me [MoF F] {mm : α × β → W γ} (hca : M.ca = N.ga) (hm : FNo F m) (ha : Ev M E ta σ H (RO C F) ma) (hb : EvA M E ts σ H S ms) :
    Ev M E (tMe (N.ga C) m (FnW N (Cons (RO C F) S) R'' mm) E ta ts) σ H R'' (W.bind ma fun x => W.bind ms fun y => mm (x, y)) := fun H1 e Q P PE hp q g =>
  ha H1 e _ _ PE hp (fun v x H2 e2 hx r => by
    obtain ⟨p, dx, fs, h1, h2, h3, h4⟩ := id r
    subst h1
    exact ⟨p, dx, fs, rfl, by rw [hca] at h3; exact h3, hm M x fs H2 h4, hb H2 (e.trans e2) _ _ PE hx (fun vs y H3 e3 hy ry =>
      ⟨M, (x, y), P, PE, hca, e3.dice, ⟨_, vs, rfl, up r e3, ry⟩, hy, fun w z H4 e4 hz rz => q w z H4 ((e2.trans e3).trans e4) hz rz, (g.up e2).up e3⟩) (g.up e2)⟩) g
theorem ev_me0 [MoF F] {mm : α → W γ} (hca : M.ca = N.ga) (hm : FNo F m) (ha : Ev M E ta σ H (RO C F) ma) :
    Ev M E (tMe (N.ga C) m (FnW N (One (RO C F)) R'' mm) E ta tNil) σ H R'' (W.bind ma mm) := fun H1 e Q P PE hp q g =>
  ha H1 e _ _ PE hp (fun v x H2 e2 hx r => by
    obtain ⟨p, dx, fs, h1, h2, h3, h4⟩ := id r
    subst h1
    exact ⟨p, dx, fs, rfl, by rw [hca] at h3; exact h3, hm M x fs H2 h4, M, x, P, PE, hca, e2.dice, ⟨_, rfl, r⟩, hx, fun w z H4 e4 hz rz => q w z H4 (e2.trans e4) hz rz, g.up e2⟩) g
/-- f(..), f an instance -/
theorem ev_ci [MoF F] {mm : α × β → W γ} (hca : M.ca = N.ga) (ha : Ev M E ta σ H (RO C F) ma) (hb : EvA M E ts σ H S ms) :
    Ev M E (tCI (N.ga C) (FnW N (Cons (RO C F) S) R'' mm) E ta ts) σ H R'' (W.bind ma fun x => W.bind ms fun y => mm (x, y)) := fun H1 e Q P PE hp q g =>
  ha H1 e _ _ PE hp (fun v x H2 e2 hx r => by
    obtain ⟨p, dx, fs, h1, h2, h3, h4⟩ := id r
    subst h1
    exact ⟨p, rfl, hb H2 (e.trans e2) _ _ PE hx (fun vs y H3 e3 hy ry => by
      have h5 := e3.keep _ _ h2.1 h3
      rw [hca] at h5
      exact ⟨⟨dx, fs, h5⟩, M, (x, y), P, PE, hca, e3.dice, ⟨_, vs, rfl, up r e3, ry⟩, hy, fun w z H4 e4 hz rz => q w z H4 ((e2.trans e3).trans e4) hz rz, (g.up e2).up e3⟩) (g.up e2)⟩) g
/-- x op y, both instances -/
theorem ev_own [MoF F] {mm : α × α → W γ} {mb : W α} (hca : M.ca = N.ga) (ha : Ev M E ta σ H (RO C F) ma) (hb : Ev M E tb σ H (RO C F) mb) :
    Ev M E (tOp (rOp (N.ga C) (FnW N (Cons (RO C F) (One (RO C F))) R'' mm) E) ta tb) σ H R'' (W.bind ma fun x => W.bind mb fun y => mm (x, y)) := fun H1 e Q P PE hp q g =>
  ha H1 e _ _ PE hp (fun v x H2 e2 hx rx => hb H2 (e.trans e2) _ _ PE hx (fun u y H3 e3 hy ry => by
    replace rx := up rx e3
    obtain ⟨p, dx, fs, h1, h2, h3, h4⟩ := id rx
    obtain ⟨p', dx', fs', h1', h2', h3', h4'⟩ := id ry
    subst h1 h1'
    rw [hca] at h3 h3'
    exact ⟨p, dx, fs, p', dx', fs', rfl, rfl, h3, h3', M, (x, y), P, PE, hca, e3.dice, ⟨_, _, rfl, rx, _, rfl, ry⟩, hy, fun w z H4 e4 hz rz => q w z H4 ((e2.trans e3).trans e4) hz rz, (g.up e2).up e3⟩) (g.up e2)) g
theorem ev_eqO [MoF F] {mm : α × α → W γ} {mb : W α} (hca : M.ca = N.ga) (ha : Ev M E ta σ H (RO C F) ma) (hb : Ev M E tb σ H (RO C F) mb) :
    Ev M E (tOp (rEqO K (N.ga C) (FnW N (Cons (RO C F) (One (RO C F))) R'' mm) E) ta tb) σ H R'' (W.bind ma fun x => W.bind mb fun y => mm (x, y)) := fun H1 e Q P PE hp q g =>
  ha H1 e _ _ PE hp (fun v x H2 e2 hx rx => hb H2 (e.trans e2) _ _ PE hx (fun u y H3 e3 hy ry => by
    replace rx := up rx e3
    obtain ⟨p, dx, fs, h1, h2, h3, h4⟩ := id rx
    obtain ⟨p', dx', fs', h1', h2', h3', h4'⟩ := id ry
    subst h1 h1'
    rw [hca] at h3 h3'
    exact ⟨p, dx, fs, p', dx', fs', rfl, rfl, h3, h3', M, (x, y), P, PE, hca, e3.dice, ⟨_, _, rfl, rx, _, rfl, ry⟩, hy, fun w z H4 e4 hz rz => q w z H4 ((e2.trans e3).trans e4) hz rz, (g.up e2).up e3⟩) (g.up e2)) g
theorem ev_neO [MoF F] {mm : α × α → W Bool} {mb : W α} (hca : M.ca = N.ga) (ha : Ev M E ta σ H (RO C F) ma) (hb : Ev M E tb σ H (RO C F) mb) :
    Ev M E (tOp (rNeO (N.ga C) (FnW N (Cons (RO C F) (One (RO C F))) RB mm) E) ta tb) σ H RB (W.bind ma fun x => W.bind mb fun y => W.bind (mm (x, y)) fun z => W.pure (!z)) := fun H1 e Q P PE hp q g =>
  ha H1 e _ _ PE hp (fun v x H2 e2 hx rx => hb H2 (e.trans e2) _ _ PE hx (fun u y H3 e3 hy ry => by
    replace rx := up rx e3
    obtain ⟨p, dx, fs, h1, h2, h3, h4⟩ := id rx
    obtain ⟨p', dx', fs', h1', h2', h3', h4'⟩ := id ry
    subst h1 h1'
    rw [hca] at h3 h3'
    exact ⟨p, dx, fs, p', dx', fs', rfl, rfl, h3, h3', M, (x, y), _, PE, hca, e3.dice, ⟨_, _, rfl, rx, _, rfl, ry⟩, hy, fun w z H4 e4 hz rz => ⟨z, rz, q _ _ H4 ((e2.trans e3).trans e4) hz rfl⟩, (g.up e2).up e3⟩) (g.up e2)) g
theorem ev_lenO {mm : α → W Int} (hca : M.ca = N.ga) (ha : Ev M E ta σ H (RO C F) ma) :
    Ev M E (tCB (rLenO (N.ga C) (FnW N (One (RO C F)) RI mm) E) (tCons ta tNil)) σ H RI (W.bind ma fun x => W.bind (mm x) fun n => W.grd (0 ≤ n ∧ n < 2 ^ 63) n) := fun H1 e Q P PE hp q g =>
  ha H1 e _ _ PE hp (fun v x H2 e2 hx r => by
    obtain ⟨p, dx, fs, h1, h2, h3, h4⟩ := id r
    subst h1
    rw [hca] at h3
    exact ⟨p, dx, fs, rfl, h3, M, x, _, PE, hca, e2.dice, ⟨_, rfl, r⟩, hx, fun w z H3 e3 hz rz => ⟨z, rz, hz.1, q _ _ H3 (e2.trans e3) hz.2 rfl⟩, g.up e2⟩) g
/-! ### isinstance -/
theorem ev_isi {t u : Value} {c : V} {b : Bool} (hc : ClsV c u) (hk : PySem.W.kitOne K t u = some b) (hty : ∀ x v H, R M x v H → TyX K H v t) (ha : Ev M E ta σ H R ma) (he : ∀ H, tc σ H = fun Q => Q c H) :
    Ev M E (tCB (rIsi K) (tCons ta (tCons tc tNil))) σ H RB (W.bind ma fun _ => W.pure b) := fun H1 e Q P PE hp q g =>
  ha H1 e _ _ PE hp (fun v x H2 e2 hx r => by
    show tc σ H2 _
    rw [he H2]
    exact ⟨v, c, t, u, b, rfl, hc, hty _ _ _ r, hk, q _ b H2 e2 hx rfl⟩) g
theorem ev_isiSl {u : Addr} {b : Bool} {S : Rs α} (hca : M.ca = N.ga) (c : SlX.SCls K (N.ga C)) (i : SlX.SIsi K (N.ga C)) (hk : PySem.W.kitOne K (.ref (N.ga C)) (.ref u) = some b) (ha : Ev M E ta σ H (RSl C S) ma) (he : ∀ H, tc σ H = fun Q => Q (.ref u) H) :
    Ev M E (tCB (SlX.rIsiSl K (.ref u)) (tCons ta (tCons tc tNil))) σ H RB (W.bind ma fun _ => W.pure b) := fun H1 e Q P PE hp q g =>
  ha H1 e _ _ PE hp (fun v x H2 e2 hx ⟨a, dx, vs, h1, h2, h3, h4, h5, h6, h7⟩ => by
    show tc σ H2 _
    rw [he H2]
    subst h1
    rw [hca] at h5
    exact ⟨a, _, dx, _, .ref u, b, rfl, rfl, fun w h => h, .inr ⟨h5, h6⟩, c, i, hk, q _ b H2 e2 hx rfl⟩) g
theorem ev_isiT {t : Value} {cs : List V} {us : List Value} {b : Bool} (hc : Paired ClsV cs us) (hk : PySem.W.kitAny K t us = some b) (hty : ∀ x v H, R M x v H → TyX K H v t) [MoX R] (ha : Ev M E ta σ H R ma) (hs : EvA M E ts σ H (All RV) (W.pure cs)) (hl : cs.length ≤ 1000 := by decide) :
    Ev M E (tCB (rIsiT K) (tCons ta (tCons (tTup ts) tNil))) σ H RB (W.bind ma fun _ => W.pure b) := fun H1 e Q P PE hp q g =>
  ha H1 e _ _ PE hp (fun v x H2 e2 hx r => hs H2 (e.trans e2) _ (fun z => z = cs) PE rfl (fun ws z H3 e3 hz rz => by
    have all_rv : ∀ {l : List V} {ws : List V} {H : Hp}, All RV M l ws H → ws = l := by
      intro l ws H h
      have h' : Paired (fun x v => RV M x v H) l ws := h
      induction h' with
      | nil => rfl
      | cons a b ih => rw [ih b, show _ = _ from a]
    have hw := all_rv rz
    subst hz
    subst hw
    refine ⟨by rw [sizeLine_eq]; omega, fun p hp => ?_⟩
    have e4 : Xt M H3 (upd H3 p (.tup ws)) := .new e3.dice hp
    exact ⟨v, p, ws, t, us, b, rfl, upd_same, hc, hty _ _ _ (MoX.up (e3.trans e4) r), hk, q _ b _ ((e2.trans e3).trans e4) hx rfl⟩) (g.up e2)) g
theorem ty_int {x v H} (h : RI M x v H) : TyX K H v (.type "int") := by cases (show v = V.int x from h); exact .base (.int x)
theorem ty_bl {x v H} (h : RB M x v H) : TyX K H v (.type "bool") := by cases (show v = V.bl x from h); exact .base (.bl x)
theorem ty_str {x v H} (h : RS M x v H) : TyX K H v (.type "str") := by cases (show v = V.str x from h); exact .base (.str x)
theorem ty_tup {S : Rs β} {x v H} (h : RT S M x v H) : TyX K H v (.type "tuple") := by obtain ⟨a, vs, rfl, _, h, _⟩ := h; exact .base (.tup h)
theorem ty_lst {S : Rs β} {x v H} (h : RL S M x v H) : TyX K H v (.type "list") := by obtain ⟨a, vs, rfl, _, h, _⟩ := h; exact .base (.lst h)
theorem ty_ins (hca : M.ca = N.ga) (c : Cls K (N.ga C)) (i : IsC K (N.ga C)) {x v H} (h : RO C F M x v H) : TyX K H v (.ref (N.ga C)) := by obtain ⟨a, dx, fs, rfl, _, h, _⟩ := h; rw [hca] at h; exact .base (.ins h c i.ha i.hn i.ht i.hm)
end
end MW

/-! wD: what is walked, comprehensions, statements, loops. -/
namespace MW
open PySem PySem.Spec PyProof.Rows L2 GB
/-- lo, lo + 1, .. below hi -/
def rng (lo hi : Int) : List Int := (List.range (hi - lo).toNat).map fun (i : Nat) => lo + (i : Int)
theorem rng_at {lo hi : Int} {i : Nat} (h : i < (hi - lo).toNat) : (rng lo hi)[i]? = some (lo + (i : Int)) := by
  unfold rng; simp [h]
theorem rng_len {lo hi : Int} : (rng lo hi).length = (hi - lo).toNat := by unfold rng; simp
theorem mem_rng {lo hi x : Int} : x ∈ rng lo hi ↔ lo ≤ x ∧ x < hi := by
  unfold rng
  simp only [List.mem_map, List.mem_range]
  constructor
  · rintro ⟨i, h, rfl⟩; omega
  · rintro ⟨h1, h2⟩; exact ⟨(x - lo).toNat, by omega, by omega⟩
/-- 0 and x, 1 and y, .. -/
def enm {α : Type} (l : List α) : List (Int × α) := l.zipIdx.map fun p => ((p.2 : Nat), p.1)
theorem enm_at {α : Type} {l : List α} {i : Nat} {x : α} (h : l[i]? = some x) : (enm l)[i]? = some (((i : Nat) : Int), x) := by
  unfold enm
  rw [List.getElem?_map, List.getElem?_zipIdx, h]; simp
theorem enm_len {α : Type} {l : List α} : (enm l).length = l.length := by unfold enm; simp
namespace W
variable {α β s ρ : Type}
/-- for x in xs: st = body st x -/
def fold (body : s → α → W s) : List α → s → W s
  | [], st => pure st
  | x :: r, st => bind (body st x) fun st' => fold body r st'
/-- how a turn ends -/
inductive Fl (ρ s : Type) where
  | nx (st : s) | br (st : s) | rt (r : ρ)
/-- .. with break and return -/
def foldF (body : s → α → W (Fl ρ s)) : List α → s → W (ρ ⊕ s)
  | [], st => pure (.inr st)
  | x :: r, st => bind (body st x) fun o => match o with
    | .nx st' => foldF body r st'
    | .br st' => pure (.inr st')
    | .rt r => pure (.inl r)
/-- [f x for x in xs if p x] -/
def mapF (p : α → W Bool) (f : α → W β) : List α → W (List β)
  | [] => pure []
  | x :: r => bind (p x) fun b => if b = true then bind (f x) fun y => bind (mapF p f r) fun l => pure (y :: l) else mapF p f r
abbrev nx (m : W α) : W α := fun P _ => m P fun _ => False
def lc (p : α → W Bool) (f : α → W β) (xs : List α) : W (List β) := fun P _ => xs.length < 1000000 ∧ mapF p f xs P fun _ => False
/-- while cond: st = body st -/
def while_ (cond : s → W Bool) (body : s → W s) (st : s) : W s := fun P PE => ∃ (I : s → Prop) (μ : s → Nat), I st ∧ ∀ s, I s → cond s (fun c => if c = true then body s (fun s' => I s' ∧ μ s' < μ s) PE else P s) PE
def whileF (cond : s → W Bool) (body : s → W (Fl ρ s)) (st : s) : W (ρ ⊕ s) := fun P PE => ∃ (I : s → Prop) (μ : s → Nat), I st ∧ ∀ s, I s → cond s (fun c => if c = true then body s (fun o => match o with
  | .nx s' => I s' ∧ μ s' < μ s
  | .br s' => P (.inr s')
  | .rt r => P (.inl r)) PE else P (.inr s)) PE
/-- two for's -/
def mapF2 {γ : Type} (xs : List α) (ys : α → W (List β)) (p : α → β → W Bool) (f : α → β → W γ) : W (List γ) := match xs with
  | [] => pure []
  | x :: r => bind (ys x) fun l => bind (mapF (p x) (f x) l) fun a => bind (mapF2 r ys p f) fun b => pure (a ++ b)
end W
/-! ### what is walked -/
abbrev Rel := Mm → Hp → Mm → Hp → Prop
def WalkK (rel : Rel) (M : Mm) (J : It) {α : Type} (xs : List α) (R : Rp α) (H : Hp) : Prop := ∀ M' H', rel M H M' H' → DiceM M' H' →
  (∀ i, i < xs.length → J.go i H') ∧ J.stop xs.length H' ∧ ∀ i v H'', i < xs.length → J.yld i H' v H'' → Xt M' H' H'' ∧ ∃ x, xs[i]? = some x ∧ R M' x v H''
def EvI (rel : Rel) (M : Mm) (E : XK) (ti : TI) (σ : St) (H : Hp) {α : Type} (R : Rp α) (m : W (List α)) : Prop :=
  ∀ H1, Xt M H H1 → ∀ (Q : It → Hp → Prop) (P : List α → Prop) (PE : Ex → Prop), m P PE → (∀ J xs H2, Xt M H1 H2 → P xs → WalkK rel M J xs R H2 → Q J H2) → GoE M E H1 PE → ti σ H1 Q
theorem EvI.x {M E ti σ H} {α : Type} {R : Rp α} {m : W (List α)} (h : EvI Lk M E ti σ H R m) : EvI LkX M E ti σ H R m := fun H1 e Q P PE hm q g => h H1 e Q P PE hm (fun J xs H2 e2 p w => q J xs H2 e2 p fun M' H' e3 d => w M' H' e3.toLk d) g
section
variable {M : Mm} {E : XK} {σ : St} {H : Hp} {te tl ta tb : TE} {t : TT} {ts : TA} {α β γ : Type} {R : Rp α} {R' : Rp β} {R'' : Rp γ} {ma : W (List α)} {mb : W (List β)} {K : Frag}
theorem yat {rel : Rel} {J : It} {n : Nat} {G : Hp → Prop} {ws : List V} {xs : List α} (w : Walk J n G (YAt ws)) (hn : n = ws.length) (hr : All R M xs ws H) (hg : ∀ M' H', rel M H M' H' → G H') (hu : ∀ M' H', rel M H M' H' → All R M' xs ws H') : WalkK rel M J xs R H := fun M' H' e d => by
  have hl := all_len hr
  refine ⟨fun i hi => w.goes i H' (by omega) (hg M' H' e), by have := w.stops H' (hg M' H' e); rw [hn, hl] at this; exact this, fun i v H'' hi y => ?_⟩
  obtain ⟨rfl, hv⟩ := w.yields i H' v H'' (by omega) (hg M' H' e) y
  obtain ⟨x, hx, rx⟩ := paired_at' (hu _ _ e) hv
  exact ⟨.refl d, x, hx, rx⟩
theorem ei_list [Mo R] (h : Ev M E tl σ H (RL (All R)) ma) : EvI Lk M E (iList K tl) σ H R ma := fun H1 e Q P PE hm q g =>
  h H1 e _ _ PE hm (fun v xs H2 e2 hx ⟨a, ws, h1, h2, h3, h4⟩ => ⟨a, h1, ⟨ws, .of h3⟩, q _ xs H2 e2 hx (yat (walk_list (K := K) (a := a) (xs := ws)) rfl h4 (fun M' H' e => .of (e.k a _ h2 h3).1) fun M' H' e => Mos.lk (R := All R) e h4)⟩) g
theorem ei_listW [MoX R] (h : Ev M E tl σ H (RW (All R)) ma) : EvI LkX M E (iList K tl) σ H R ma := fun H1 e Q P PE hm q g =>
  h H1 e _ _ PE hm (fun v xs H2 e2 hx ⟨a, ws, h1, h2, h3, h4⟩ => ⟨a, h1, ⟨ws, .of h3⟩, q _ xs H2 e2 hx (yat (walk_list (K := K) (a := a) (xs := ws)) rfl h4 (fun M' H' e => .of (e.kx a _ h2 h3)) fun M' H' e => MoXs.lk (R := All R) e h4)⟩) g
theorem ei_tup [Mo R] (h : Ev M E tl σ H (RT (All R)) ma) : EvI Lk M E (iTup K tl) σ H R ma := fun H1 e Q P PE hm q g =>
  h H1 e _ _ PE hm (fun v xs H2 e2 hx ⟨a, ws, h1, h2, h3, h4⟩ => ⟨a, h1, ⟨ws, .of h3⟩, q _ xs H2 e2 hx (yat (walk_tup (K := K) (a := a) (xs := ws)) rfl h4 (fun M' H' e => .of (e.k a _ h2 h3).1) fun M' H' e => Mos.lk (R := All R) e h4)⟩) g
theorem ei_rng1 {m : W Int} (h : EvA M E ts σ H (One RI) m) : EvI Lk M E (iRng1 ts) σ H RI (W.bind m fun n => W.grd (-1000000 < n ∧ n < 1000000) (rng 0 n)) := fun H1 e Q P PE hm q g =>
  h H1 e _ _ PE hm (fun vs n H2 e2 hx ⟨v, h1, h2⟩ => by
    cases (show v = V.int n from h2)
    refine ⟨n, h1, by have := hx.1; omega, by have := hx.1; omega, q _ _ H2 e2 hx.2 fun M' H' e' d => ?_⟩
    have hl : (rng 0 n).length = n.toNat := by rw [rng_len, Int.sub_zero]
    refine ⟨fun i hi => by rw [hl] at hi; exact hi, by rw [hl]; exact Nat.le_refl _, fun i v H'' hi y => ?_⟩
    obtain ⟨rfl, rfl⟩ := y
    exact ⟨.refl d, _, rng_at (by rw [rng_len] at hi; exact hi), rfl⟩) g
theorem ei_rng2 {m : W (Int × Int)} (h : EvA M E ts σ H (Cons RI (One RI)) m) : EvI Lk M E (iRng2 ts) σ H RI (W.bind m fun n => W.grd ((-1000000 < n.1 ∧ n.1 < 1000000) ∧ -1000000 < n.2 ∧ n.2 < 1000000) (rng n.1 n.2)) := fun H1 e Q P PE hm q g =>
  h H1 e _ _ PE hm (fun vs n H2 e2 hx ⟨v, r, h1, h2, w, h3, h4⟩ => by
    obtain ⟨n1, n2⟩ := n
    cases (show v = V.int n1 from h2)
    cases (show w = V.int n2 from h4)
    subst h3
    obtain ⟨⟨⟨_, _⟩, _, _⟩, hp⟩ := hx
    refine ⟨n1, n2, h1, ⟨by omega, by omega, by omega, by omega⟩, q _ _ H2 e2 hp fun M' H' e' d => ?_⟩
    have hl : (rng n1 n2).length = (n2 - n1).toNat := rng_len
    refine ⟨fun i hi => by rw [hl] at hi; exact hi, by rw [hl]; exact Nat.le_refl _, fun i v H'' hi y => ?_⟩
    obtain ⟨rfl, rfl⟩ := y
    exact ⟨.refl d, _, rng_at (by rw [rng_len] at hi; exact hi), rfl⟩) g
theorem ypair {rel : Rel} {J : It} {n : Nat} {G : Hp → Prop} {f g : Nat → Option V} {zs : List (α × β)} (w : Walk J n G (YPair f g)) (hn : n = zs.length) (hg : ∀ M' H', rel M H M' H' → G H')
    (hf : ∀ M' H', rel M H M' H' → ∀ i u v, f i = some u → g i = some v → ∃ x y, zs[i]? = some (x, y) ∧ R M' x u H' ∧ R' M' y v H') [MoX R] [MoX R'] : WalkK rel M J zs (RT (Cons R (One R'))) H := fun M' H' e d => by
  refine ⟨fun i hi => w.goes i H' (by omega) (hg M' H' e), by have := w.stops H' (hg M' H' e); rw [hn] at this; exact this, fun i v H'' hi y => ?_⟩
  obtain ⟨T, u, v, rfl, hT, rfl, h1, h2⟩ := w.yields i H' v H'' (by omega) (hg M' H' e) y
  obtain ⟨x, y, hz, rx, ry⟩ := hf M' H' e i u v h1 h2
  have e2 : Xt M' H' (upd H' T (.tup [u, v])) := .new d hT
  exact ⟨e2, (x, y), hz, T, _, rfl, d.fr hT, upd_same, _, _, rfl, up rx e2, _, rfl, up ry e2⟩
theorem ei_enum [Mo R] (h : EvA M E ts σ H (One (RL (All R))) ma) : EvI Lk M E (iEnum K ts) σ H (RT (Cons RI (One R))) (W.bind ma fun l => W.pure (enm l)) := fun H1 e Q P PE hm q g =>
  h H1 e _ _ PE hm (fun vs xs H2 e2 hx ⟨v, h0, a, ws, h1, h2, h3, h4⟩ => by
    subst h1
    refine ⟨a, ws, h0, .of h3, q _ _ H2 e2 hx (ypair (walk_enum (K := K) (a := a) (xs := ws)) (by rw [enm_len, all_len h4]) (fun M' H' e => .of (e.k a _ h2 h3).1) fun M' H' e i u v h5 h6 => ?_)⟩
    cases h5
    obtain ⟨x, k1, k2⟩ := paired_at' (Mos.lk (R := All R) e h4) h6
    exact ⟨_, x, enm_at k1, rfl, k2⟩) g
/-! ### comprehensions -/
theorem lc_mono {p : α → W Bool} {f : α → W β} : ∀ (xs : List α) (P P' : List β → Prop) (PE : Ex → Prop), W.mapF p f xs P PE → (∀ l, P l → P' l) → (∀ x P P', p x P PE → (∀ b, P b → P' b) → p x P' PE) → (∀ x P P', f x P PE → (∀ b, P b → P' b) → f x P' PE) → W.mapF p f xs P' PE
  | [], P, P', PE, h, k, _, _ => k [] h
  | x :: r, P, P', PE, h, k, mp, mf => by
    refine mp x _ _ h fun b hb => ?_
    cases b with
    | true => rw [if_pos rfl] at hb ⊢; exact mf x _ _ hb fun y hy => lc_mono r _ _ PE hy (fun l hl => k _ hl) mp mf
    | false => rw [if_neg (by decide)] at hb ⊢; exact lc_mono r _ _ PE hb k mp mf
/-- [te for .. in .. if t]; T tells the slots behind the target -/
theorem ev_lc [Mo R'] {wi : TI} {g : TG} {vs : List Nat} {p : α → W Bool} {f : α → W β} (T : Mm → α → St → Hp → Prop) (hi : EvI LkX M E wi σ H R ma)
    (hg : ∀ M' x v H' (Q : St → Hp → Prop), R M' x v H' → (∀ σ2, T M' x σ2 H' → Q σ2 H') → g v (wipe σ vs) H' Q) (hw : ∀ M' x σ2 H', T M' x σ2 H' → wipe σ2 vs = wipe σ vs) [MoX R]
    (ht : ∀ M' H' x σ2, LkX M H M' H' → DiceM M' H' → T M' x σ2 H' → EvT M' E0 t σ2 H' (p x)) (he : ∀ M' H' x σ2, LkX M H M' H' → DiceM M' H' → T M' x σ2 H' → Ev M' E0 te σ2 H' R' (f x)) (hT : ∀ M' x σ2 H' H'', Xt M' H' H'' → T M' x σ2 H' → T M' x σ2 H'') :
    Ev M E (tLc wi g t te vs) σ H (RL (All R')) (W.bind ma fun xs => W.lc p f xs) := fun H0 e0 Q P PE hm q go =>
  hi H0 e0 _ _ PE hm (fun J xs H1 e1 ⟨hz, hx⟩ w D hD => by
    have d1 := e1.dice
    have fr1 := d1.fr hD
    let M' := M.add D
    have key0 : ∀ {H'}, Xt M H1 H' → LkX M H1 M' H' := fun e => (LkX.add hD).trans ⟨⟨rfl, rfl, fun a o f h => ⟨e.keep a o f.1 h, f⟩⟩, fun a o n h => e.keep a o n h⟩
    have key : ∀ {H'}, Xt M H1 H' → DiceM M' H' → LkX M H M' H' := fun e d => (((e0.trans e1).x.trans (LkX.add hD)).trans ⟨⟨rfl, rfl, fun a o f h => ⟨e.keep a o f.1 h, f⟩⟩, fun a o n h => e.keep a o n h⟩ : LkX M H M' _)
    refine lc_it (J := J) (n := xs.length) (G := fun H' => Xt M H1 H' ∧ DiceM M' H') (Y := fun i H' v H'' => Xt M' H' H'' ∧ ∃ x, xs[i]? = some x ∧ R M' x v H'')
      ⟨fun i H' hi h => (w M' H' (key0 h.1) h.2).1 i hi, fun H' h => (w M' H' (key0 h.1) h.2).2.1, fun i H' v H'' hi h y => (w M' H' (key0 h.1) h.2).2.2 i v H'' hi y⟩
      (fun i H' => Xt M H1 H' ∧ DiceM M' H' ∧ ∃ ys vs, ys.length ≤ i ∧ H' D = some (.lst vs) ∧ All R' M' ys vs H' ∧ W.mapF p f (xs.drop i) (fun l => P (ys ++ l)) (fun _ => False)) ?_ (fun i H' hi h => ⟨h.1, h.2.1⟩) (fun i v H' H'' hi h y => ?_) (fun H' h => ?_)
    · refine ⟨.new d1 hD, d1.add hD upd_same (.new d1 hD), [], [], Nat.zero_le _, upd_same, .nil, ?_⟩
      simpa using hx
    · obtain ⟨eH, dH, ys, ws, hl, hD', hr, hmap⟩ := h
      obtain ⟨e2, x, hxi, rx'⟩ := y
      have d' := e2.dice
      have e1' : Xt M H1 H'' := eH.trans ⟨fun a o n h => e2.keep a o n h, d'.wk Mm.le.refl.add⟩
      have hdrop : xs.drop i = x :: xs.drop (i + 1) := by
        have hlt : i < xs.length := hi
        have hxe : xs[i]? = some xs[i] := by simp [hlt]
        rw [hxe] at hxi
        rw [← Option.some.inj hxi]
        exact List.drop_eq_getElem_cons hlt
      rw [hdrop] at hmap
      refine hg M' x v H'' _ rx' fun σ2 hσ => ⟨hw M' x σ2 H'' hσ, ?_⟩
      have l2 : LkX M H M' H'' := key e1' d'
      refine ht M' H'' x σ2 l2 d' hσ H'' (.refl d') _ _ (fun _ => False) hmap (fun b H3 e3 hb => ?_) GoE.none
      cases b with
      | true =>
        rw [if_pos rfl] at hb ⊢
        have e13 : Xt M H1 H3 := e1'.trans ⟨fun a o n h => e3.keep a o n h, e3.dice.wk Mm.le.refl.add⟩
        refine he M' H3 x σ2 (key e13 e3.dice) e3.dice (hT M' x σ2 H'' H3 e3 hσ) H3 (.refl e3.dice) _ _ (fun _ => False) hb (fun y z H4 e4 hz' rz => ?_) GoE.none
        have nD : M'.d ≠ some D := fr1.1
        have hD4 : H4 D = some (.lst ws) := e4.keep D _ nD (e3.keep D _ nD (e2.keep D _ nD hD'))
        have hr4 : All R' M' ys ws H4 := MoXs.lk (R := All R') ((e2.trans e3).trans e4).x hr
        have dm : D ∈ M'.l := List.mem_cons_self
        refine ⟨ws, hD4, by rw [all_len hr, sizeLine_eq]; omega, ?_, e4.dice.put dm, ys ++ [z], ws ++ [y], by simp; omega, upd_same, ?_, ?_⟩
        · exact (e13.trans ⟨fun a o n h => e4.keep a o n h, e4.dice.wk Mm.le.refl.add⟩).putN (M := M') Mm.le.refl.add e4.dice dm hD
        · have em : Xm M' H4 (upd H4 D (.lst (ws ++ [y]))) := .put e4.dice dm
          exact Paired.snoc (Mos.lk (R := All R') em.k hr4) (Mo.lk em.k rz)
        · have hz2 : W.mapF p f (xs.drop (i + 1)) (fun l => P (ys ++ z :: l)) (fun _ => False) := hz'
          have : (fun l => P ((ys ++ [z]) ++ l)) = (fun l => P (ys ++ z :: l)) := by funext l; simp
          rw [this]; exact hz2
      | false =>
        rw [if_neg (by decide)] at hb ⊢
        have nD : M'.d ≠ some D := fr1.1
        have e13 : Xt M H1 H3 := e1'.trans ⟨fun a o n h => e3.keep a o n h, e3.dice.wk Mm.le.refl.add⟩
        exact ⟨e13, e3.dice, ys, ws, by omega, e3.keep D _ nD (e2.keep D _ nD hD'), MoXs.lk (R := All R') (e2.trans e3).x hr, hb⟩
    · obtain ⟨eH, dH, ys, ws, hl, hD', hr, hmap⟩ := h
      rw [List.drop_length] at hmap
      have hp : P (ys ++ []) := hmap
      rw [List.append_nil] at hp
      refine q _ ys H' (e1.trans eH) hp ⟨D, ws, rfl, fr1, hD', MoXs.lk (R := All R') (Mm.le.x Mm.le.refl.add) hr⟩) go
end
end MW

/-! wE: statements, loops, lists that change. -/
namespace MW
open PySem PySem.Spec PyProof.Rows L2 GB
/-- the slots behind a target -/
def T1 {α : Type} (i : Nat) (R : Rp α) (σ : St) : Mm → α → St → Hp → Prop := fun M x σ2 H => ∃ v, σ2 = σ.set i (some v) ∧ R M x v H
def T2 {α β : Type} (i j : Nat) (R : Rp α) (R' : Rp β) (σ : St) : Mm → α × β → St → Hp → Prop := fun M x σ2 H => ∃ v u, σ2 = (σ.set i (some v)).set j (some u) ∧ R M x.1 v H ∧ R' M x.2 u H
def T3 {α β γ : Type} (i j l : Nat) (R : Rp α) (R' : Rp β) (R'' : Rp γ) (σ : St) : Mm → α × β × γ → St → Hp → Prop := fun M x σ2 H => ∃ v u w, σ2 = ((σ.set i (some v)).set j (some u)).set l (some w) ∧ R M x.1 v H ∧ R' M x.2.1 u H ∧ R'' M x.2.2 w H
section
variable {M : Mm} {E : XK} {σ : St} {H : Hp} {te tl ta tb : TE} {t : TT} {ts tr w : TS} {tz : TA} {D : Ends} {α β γ δ ρ s : Type} {R : Rp α} {R' : Rp β} {R'' : Rp γ} {K : Frag} {m : W α} {k : α → W δ} {P : δ → Prop} {PE : Ex → Prop} {i j l : Nat} {g : TG} {ti : TI}
theorem tg1 {M : Mm} {x : α} {v : V} {H : Hp} {Q : St → Hp → Prop} (r : R M x v H) (q : ∀ σ2, T1 i R σ M x σ2 H → Q σ2 H) : gName i v σ H Q := q _ ⟨v, rfl, r⟩
theorem tg2 {M : Mm} {x : α × β} {v : V} {H : Hp} {Q : St → Hp → Prop} (r : RT (Cons R (One R')) M x v H) (q : ∀ σ2, T2 i j R R' σ M x σ2 H → Q σ2 H) : gTup K 2 (gCons (gName i) (gCons (gName j) gNil)) v σ H Q := by
  obtain ⟨a, vs, rfl, n, ha, v1, r1, rfl, h1, v2, rfl, h2⟩ := r
  exact ⟨a, _, rfl, .of ha, rfl, v1, _, rfl, v2, [], rfl, rfl, q _ ⟨v1, v2, rfl, h1, h2⟩⟩
theorem tg3 {M : Mm} {x : α × β × γ} {v : V} {H : Hp} {Q : St → Hp → Prop} (r : RT (Cons R (Cons R' (One R''))) M x v H) (q : ∀ σ2, T3 i j l R R' R'' σ M x σ2 H → Q σ2 H) : gTup K 3 (gCons (gName i) (gCons (gName j) (gCons (gName l) gNil))) v σ H Q := by
  obtain ⟨a, vs, rfl, n, ha, v1, r1, rfl, h1, v2, r2, rfl, h2, v3, rfl, h3⟩ := r
  exact ⟨a, _, rfl, .of ha, rfl, v1, _, rfl, v2, _, rfl, v3, [], rfl, rfl, q _ ⟨v1, v2, v3, rfl, h1, h2, h3⟩⟩
theorem t1_up {M : Mm} {x : α} {σ2 : St} {H H' : Hp} [MoX R] (e : Xt M H H') (h : T1 i R σ M x σ2 H) : T1 i R σ M x σ2 H' := by obtain ⟨v, e1, r⟩ := h; exact ⟨v, e1, up r e⟩
theorem t2_up {M : Mm} {x : α × β} {σ2 : St} {H H' : Hp} [MoX R] [MoX R'] (e : Xt M H H') (h : T2 i j R R' σ M x σ2 H) : T2 i j R R' σ M x σ2 H' := by obtain ⟨v, u, e1, r, r'⟩ := h; exact ⟨v, u, e1, up r e, up r' e⟩
theorem t3_up {M : Mm} {x : α × β × γ} {σ2 : St} {H H' : Hp} [MoX R] [MoX R'] [MoX R''] (e : Xt M H H') (h : T3 i j l R R' R'' σ M x σ2 H) : T3 i j l R R' R'' σ M x σ2 H' := by obtain ⟨v, u, w, e1, r, r', r''⟩ := h; exact ⟨v, u, w, e1, up r e, up r' e, up r'' e⟩
/-! ### plain statements -/
theorem l_set (d : DiceM M H) (go : GoE M E H PE) (h : Ev M E te σ H R m) (hm : W.bind m k P PE) (c : ∀ v x H1, Xt M H H1 → k x P PE → R M x v H1 → D.nx (σ.set i (some v)) H1) : tAsg te (gName i) D σ H := h H (.refl d) _ _ PE hm c go
theorem q_set (d : DiceM M H) (go : GoE M E H PE) (h : Ev M E te σ H R m) (hm : W.bind m k P PE) (c : ∀ v x H1, Xt M H H1 → k x P PE → R M x v H1 → w D (σ.set i (some v)) H1) : tSeq (tAsg te (gName i)) w D σ H := h H (.refl d) _ _ PE hm c go
theorem q_ret {Pr : α → Prop} (d : DiceM M H) (go : GoE M E H PE) (h : Ev M E te σ H R m) (hm : m Pr PE) (c : ∀ v x H1, Xt M H H1 → Pr x → R M x v H1 → D.rt v H1) : tRet te D σ H := h H (.refl d) _ _ PE hm c go
theorem l_drop (d : DiceM M H) (go : GoE M E H PE) (h : Ev M E te σ H R m) (hm : W.bind m k P PE) (c : ∀ v x H1, Xt M H H1 → k x P PE → R M x v H1 → D.nx σ H1) : tDrop te D σ H := h H (.refl d) _ _ PE hm c go
theorem q_drop (d : DiceM M H) (go : GoE M E H PE) (h : Ev M E te σ H R m) (hm : W.bind m k P PE) (c : ∀ v x H1, Xt M H H1 → k x P PE → R M x v H1 → w D σ H1) : tSeq (tDrop te) w D σ H := h H (.refl d) _ _ PE hm c go
theorem l_asg {T : Mm → α → St → Hp → Prop} (d : DiceM M H) (go : GoE M E H PE) (h : Ev M E te σ H R m) (hg : ∀ x v H (Q : St → Hp → Prop), R M x v H → (∀ σ2, T M x σ2 H → Q σ2 H) → g v σ H Q) (hm : W.bind m k P PE) (c : ∀ x σ2 H1, Xt M H H1 → T M x σ2 H1 → k x P PE → D.nx σ2 H1) : tAsg te g D σ H :=
  h H (.refl d) _ _ PE hm (fun v x H1 e p r => hg x v H1 _ r fun σ2 ht => c x σ2 H1 e ht p) go
theorem q_asg {T : Mm → α → St → Hp → Prop} (d : DiceM M H) (go : GoE M E H PE) (h : Ev M E te σ H R m) (hg : ∀ x v H (Q : St → Hp → Prop), R M x v H → (∀ σ2, T M x σ2 H → Q σ2 H) → g v σ H Q) (hm : W.bind m k P PE) (c : ∀ x σ2 H1, Xt M H H1 → T M x σ2 H1 → k x P PE → w D σ2 H1) : tSeq (tAsg te g) w D σ H := l_asg (D := { D with nx := w D }) d go h hg hm c
/-- a, b = e, e2 -/
theorem l_par {mm : W (α × β)} {k : α × β → W δ} (d : DiceM M H) (go : GoE M E H PE) (h : EvA M E tz σ H (Cons R (One R')) mm) (hm : W.bind mm k P PE) (c : ∀ v u x H1, Xt M H H1 → R M x.1 v H1 → R' M x.2 u H1 → k x P PE → D.nx ((σ.set i (some v)).set j (some u)) H1) : tPar i j tz D σ H :=
  h H (.refl d) _ _ PE hm (fun vs x H1 e p ⟨v, r, h1, h2, u, h3, h4⟩ => by subst h3; exact ⟨v, u, h1, c v u x H1 e h2 h4 p⟩) go
theorem q_par {mm : W (α × β)} {k : α × β → W δ} (d : DiceM M H) (go : GoE M E H PE) (h : EvA M E tz σ H (Cons R (One R')) mm) (hm : W.bind mm k P PE) (c : ∀ v u x H1, Xt M H H1 → R M x.1 v H1 → R' M x.2 u H1 → k x P PE → w D ((σ.set i (some v)).set j (some u)) H1) : tSeq (tPar i j tz) w D σ H := l_par (D := { D with nx := w D }) d go h hm c
/-- if -/
theorem l_if {m : W Bool} {A B : W δ} (d : DiceM M H) (go : GoE M E H PE) (h : EvT M E t σ H m) (hm : W.ite m A B P PE) (k1 : ∀ H1, Xt M H H1 → A P PE → ts D σ H1) (k2 : ∀ H1, Xt M H H1 → B P PE → tr D σ H1) : tIfS t ts tr D σ H := h H (.refl d) _ _ PE hm (fun b H1 e a => by
  cases b with
  | true => rw [if_pos rfl] at a; exact k1 H1 e a
  | false => rw [if_neg (by decide)] at a; exact k2 H1 e a) go
theorem q_if {m : W Bool} {A B : W δ} (d : DiceM M H) (go : GoE M E H PE) (h : EvT M E t σ H m) (hm : W.ite m A B P PE) (k1 : ∀ H1, Xt M H H1 → A P PE → ts { D with nx := w D } σ H1) (k2 : ∀ H1, Xt M H H1 → B P PE → tr { D with nx := w D } σ H1) : tSeq (tIfS t ts tr) w D σ H := l_if (D := { D with nx := w D }) d go h hm k1 k2
theorem q_if0 {m : W Bool} {A B : W δ} (d : DiceM M H) (go : GoE M E H PE) (h : EvT M E t σ H m) (hm : W.ite m A B P PE) (k1 : ∀ H1, Xt M H H1 → A P PE → ts { D with nx := w D } σ H1) (k2 : ∀ H1, Xt M H H1 → B P PE → w D σ H1) : tSeq (tIfS t ts tNext) w D σ H := l_if (D := { D with nx := w D }) d go h hm k1 k2
theorem l_if0 {m : W Bool} {A B : W δ} (d : DiceM M H) (go : GoE M E H PE) (h : EvT M E t σ H m) (hm : W.ite m A B P PE) (k1 : ∀ H1, Xt M H H1 → A P PE → ts D σ H1) (k2 : ∀ H1, Xt M H H1 → B P PE → D.nx σ H1) : tIfS t ts tNext D σ H := l_if d go h hm k1 k2
/-- where the ways meet again: the slots by Sl, the values by S, more by Bp -/
def Jn (M : Mm) (H0 : Hp) (S : Rs s) (Sl : List V → St → Prop) (Bp : Hp → Prop) (P' : s → Prop) : St → Hp → Prop := fun σ' H' => Bp H' ∧ Xm M H0 H' ∧ ∃ st vs, S M st vs H' ∧ Sl vs σ' ∧ P' st
theorem q_ifJ {m : W Bool} {A B : W s} {k : s → W δ} (S : Rs s) (Sl : List V → St → Prop) (Bp : Hp → Prop) (d : DiceM M H) (go : GoE M E H PE) (h : EvT M E t σ H m) (hm : W.bind (W.ite m A B) k P PE)
    (k1 : (∀ σ' H', Jn M H S Sl Bp (fun st => k st P PE) σ' H' → w D σ' H') → ∀ H1, Xt M H H1 → A (fun st => k st P PE) PE → ts { D with nx := w D } σ H1) (k2 : (∀ σ' H', Jn M H S Sl Bp (fun st => k st P PE) σ' H' → w D σ' H') → ∀ H1, Xt M H H1 → B (fun st => k st P PE) PE → tr { D with nx := w D } σ H1)
    (k3 : ∀ st vs σ' H', Bp H' → Xm M H H' → S M st vs H' → Sl vs σ' → k st P PE → w D σ' H') : tSeq (tIfS t ts tr) w D σ H :=
  h H (.refl d) _ _ PE hm (fun b H1 e a => by
    have fin : ∀ σ' H', Jn M H S Sl Bp (fun st => k st P PE) σ' H' → w D σ' H' := fun σ' H' ⟨hb, hx, st, vs, h1, h2, h3⟩ => k3 st vs σ' H' hb hx h1 h2 h3
    cases b with
    | true => rw [if_pos rfl] at a; exact k1 fin H1 e a
    | false => rw [if_neg (by decide)] at a; exact k2 fin H1 e a) go
/-! ### loops -/
theorem q_for {S : Rs s} [MoXs S] {Sl : List V → St → Prop} {Bp : Hp → Prop} (T : St → Mm → α → St → Hp → Prop) {body : s → α → W s} {st0 : s} {ms : W (List α)} {k : s → W δ} (d : DiceM M H) (go : GoE M E H PE) (hi : EvI Lk M E ti σ H R ms)
    (hm : W.bind ms (fun xs => W.bind (W.fold body xs st0) k) P PE) (bt : ∀ H' H'', Bp H' → Xt M H' H'' → Bp H'') (hg : ∀ σ' x v H' (Q : St → Hp → Prop), R M x v H' → (∀ σ2, T σ' M x σ2 H' → Q σ2 H') → g v σ' H' Q)
    (h0 : ∀ H1, Xt M H H1 → Bp H1 ∧ ∃ vs, S M st0 vs H1 ∧ Sl vs σ)
    (hs : ∀ H1, Xt M H H1 → ∀ st x vs σ' σ2 H' P', Bp H' → Xm M H1 H' → S M st vs H' → Sl vs σ' → T σ' M x σ2 H' → body st x P' PE → ts { D with nx := Jn M H1 S Sl Bp P', ct := Jn M H1 S Sl Bp P', bk := w D } σ2 H')
    (he : ∀ H1, Xt M H H1 → ∀ st vs σ' H', Bp H' → Xm M H1 H' → S M st vs H' → Sl vs σ' → k st P PE → w D σ' H') : tSeq (tFor ti g ts) w D σ H :=
  hi H (.refl d) _ _ PE hm (fun J xs H1 e1 hx wk => by
    refine for_it (J := J) (n := xs.length) (G := fun H' => Xm M H1 H') (Y := fun i H' v H'' => Xt M H' H'' ∧ ∃ x, xs[i]? = some x ∧ R M x v H'')
      ⟨fun i H' hi h => (wk M H' h.k h.dice).1 i hi, fun H' h => (wk M H' h.k h.dice).2.1, fun i H' v H'' hi h y => (wk M H' h.k h.dice).2.2 i v H'' hi y⟩
      (D := { D with nx := w D }) (fun i σ' H' => Bp H' ∧ Xm M H1 H' ∧ ∃ st vs, S M st vs H' ∧ Sl vs σ' ∧ W.bind (W.fold body (xs.drop i) st) k P PE) ?_ (fun i σ' H' hi h => h.2.1) (fun i v σ' H' H'' hi h y => ?_) (fun σ' H' h => ?_)
    · obtain ⟨hb, vs, h1, h2⟩ := h0 H1 e1
      exact ⟨hb, .refl e1.dice, st0, vs, h1, h2, by simpa using hx⟩
    · obtain ⟨hb, hx1, st, vs, h1, h2, h3⟩ := h
      obtain ⟨e2, x, hxi, rx⟩ := y
      have hdrop : xs.drop i = x :: xs.drop (i + 1) := by
        have hxe : xs[i]? = some xs[i] := by simp [hi]
        rw [hxe] at hxi
        rw [← Option.some.inj hxi]
        exact List.drop_eq_getElem_cons hi
      rw [hdrop] at h3
      refine hg σ' x v H'' _ rx fun σ2 hσ => ?_
      exact hs H1 e1 st x vs σ' σ2 H'' _ (bt H' H'' hb e2) (hx1.t e2) (MoXs.up e2 h1) h2 hσ h3
    · obtain ⟨hb, hx1, st, vs, h1, h2, h3⟩ := h
      rw [List.drop_length] at h3
      exact he H1 e1 st vs σ' H' hb hx1 h1 h2 h3) go
theorem q_forF {S : Rs s} [MoXs S] {Sl : List V → St → Prop} {Bp : Hp → Prop} (T : St → Mm → α → St → Hp → Prop) {body : s → α → W (W.Fl ρ s)} {st0 : s} {ms : W (List α)} {k : ρ ⊕ s → W δ} (d : DiceM M H) (go : GoE M E H PE) (hi : EvI Lk M E ti σ H R ms)
    (hm : W.bind ms (fun xs => W.bind (W.foldF body xs st0) k) P PE) (bt : ∀ H' H'', Bp H' → Xt M H' H'' → Bp H'') (hg : ∀ σ' x v H' (Q : St → Hp → Prop), R M x v H' → (∀ σ2, T σ' M x σ2 H' → Q σ2 H') → g v σ' H' Q)
    (h0 : ∀ H1, Xt M H H1 → Bp H1 ∧ ∃ vs, S M st0 vs H1 ∧ Sl vs σ)
    (hs : ∀ H1, Xt M H H1 → ∀ st x vs σ' σ2 H' (P' : W.Fl ρ s → Prop), Bp H' → Xm M H1 H' → S M st vs H' → Sl vs σ' → T σ' M x σ2 H' → body st x P' PE → (∀ r, P' (.rt r) → k (.inl r) P PE) → (∀ st' vs' σ3 H3, Bp H3 → Xm M H1 H3 → S M st' vs' H3 → Sl vs' σ3 → P' (.br st') → w D σ3 H3) →
      ts { D with nx := Jn M H1 S Sl Bp (fun st => P' (.nx st)), ct := Jn M H1 S Sl Bp (fun st => P' (.nx st)), bk := w D } σ2 H')
    (he : ∀ H1, Xt M H H1 → ∀ st vs σ' H', Bp H' → Xm M H1 H' → S M st vs H' → Sl vs σ' → k (.inr st) P PE → w D σ' H') : tSeq (tFor ti g ts) w D σ H :=
  hi H (.refl d) _ _ PE hm (fun J xs H1 e1 hx wk => by
    refine for_it (J := J) (n := xs.length) (G := fun H' => Xm M H1 H') (Y := fun i H' v H'' => Xt M H' H'' ∧ ∃ x, xs[i]? = some x ∧ R M x v H'')
      ⟨fun i H' hi h => (wk M H' h.k h.dice).1 i hi, fun H' h => (wk M H' h.k h.dice).2.1, fun i H' v H'' hi h y => (wk M H' h.k h.dice).2.2 i v H'' hi y⟩
      (D := { D with nx := w D }) (fun i σ' H' => Bp H' ∧ Xm M H1 H' ∧ ∃ st vs, S M st vs H' ∧ Sl vs σ' ∧ W.bind (W.foldF body (xs.drop i) st) k P PE) ?_ (fun i σ' H' hi h => h.2.1) (fun i v σ' H' H'' hi h y => ?_) (fun σ' H' h => ?_)
    · obtain ⟨hb, vs, h1, h2⟩ := h0 H1 e1
      exact ⟨hb, .refl e1.dice, st0, vs, h1, h2, by simpa using hx⟩
    · obtain ⟨hb, hx1, st, vs, h1, h2, h3⟩ := h
      obtain ⟨e2, x, hxi, rx⟩ := y
      have hdrop : xs.drop i = x :: xs.drop (i + 1) := by
        have hxe : xs[i]? = some xs[i] := by simp [hi]
        rw [hxe] at hxi
        rw [← Option.some.inj hxi]
        exact List.drop_eq_getElem_cons hi
      rw [hdrop] at h3
      refine hg σ' x v H'' _ rx fun σ2 hσ => ?_
      exact hs H1 e1 st x vs σ' σ2 H'' _ (bt H' H'' hb e2) (hx1.t e2) (MoXs.up e2 h1) h2 hσ h3 (fun r h => h) fun st' vs' σ3 H3 b1 b2 b3 b4 b5 => he H1 e1 st' vs' σ3 H3 b1 b2 b3 b4 b5
    · obtain ⟨hb, hx1, st, vs, h1, h2, h3⟩ := h
      rw [List.drop_length] at h3
      exact he H1 e1 st vs σ' H' hb hx1 h1 h2 h3) go
theorem q_while {S : Rs s} [MoXs S] {Sl : List V → St → Prop} {Bp : Hp → Prop} {cond : s → W Bool} {body : s → W s} {st0 : s} {k : s → W δ} (d : DiceM M H) (hm : W.bind (W.while_ cond body st0) k P PE) (bt : ∀ H' H'', Bp H' → Xt M H' H'' → Bp H'')
    (gb : ∀ H', Bp H' → GoE M E H' PE) (h0 : Bp H ∧ ∃ vs, S M st0 vs H ∧ Sl vs σ) (hc : ∀ st vs σ' H', Bp H' → Xm M H H' → S M st vs H' → Sl vs σ' → EvT M E t σ' H' (cond st))
    (hs : ∀ st vs σ' H' P', Bp H' → Xm M H H' → S M st vs H' → Sl vs σ' → body st P' PE → ts { D with nx := Jn M H S Sl Bp P', ct := Jn M H S Sl Bp P', bk := w D } σ' H')
    (he : ∀ st vs σ' H', Bp H' → Xm M H H' → S M st vs H' → Sl vs σ' → k st P PE → w D σ' H') : tSeq (tWhile t ts) w D σ H := by
  obtain ⟨I, μ, hI, hstep⟩ := hm
  obtain ⟨hb, vs, h1, h2⟩ := h0
  refine ⟨fun n σ' H' => Bp H' ∧ Xm M H H' ∧ ∃ st vs, S M st vs H' ∧ Sl vs σ' ∧ I st ∧ n = μ st, ⟨_, hb, .refl d, st0, vs, h1, h2, hI, rfl⟩, ?_⟩
  rintro n σ' H' ⟨hb', hx', st, vs', h1', h2', hI', rfl⟩
  refine hc st vs' σ' H' hb' hx' h1' h2' H' (.refl hx'.dice) _ _ PE (hstep st hI') (fun c H2 e2 hc2 => ?_) (gb H' hb')
  have hb2 := bt H' H2 hb' e2
  have hx2 := hx'.t e2
  have h12 := MoXs.up e2 h1'
  cases c with
  | true =>
    rw [if_pos rfl] at hc2 ⊢
    exact ⟨Jn M H S Sl Bp (fun s' => I s' ∧ μ s' < μ st), fun σ3 H3 ⟨q1, q2, st', vs, q3, q4, q5, q6⟩ => ⟨μ st', q6, q1, q2, st', vs, q3, q4, q5, rfl⟩, hs st vs' σ' H2 _ hb2 hx2 h12 h2' hc2⟩
  | false =>
    rw [if_neg (by decide)] at hc2 ⊢
    exact he st vs' σ' H2 hb2 hx2 h12 h2' hc2
theorem q_whileF {S : Rs s} [MoXs S] {Sl : List V → St → Prop} {Bp : Hp → Prop} {cond : s → W Bool} {body : s → W (W.Fl ρ s)} {st0 : s} {k : ρ ⊕ s → W δ} (d : DiceM M H) (hm : W.bind (W.whileF cond body st0) k P PE) (bt : ∀ H' H'', Bp H' → Xt M H' H'' → Bp H'')
    (gb : ∀ H', Bp H' → GoE M E H' PE) (h0 : Bp H ∧ ∃ vs, S M st0 vs H ∧ Sl vs σ) (hc : ∀ st vs σ' H', Bp H' → Xm M H H' → S M st vs H' → Sl vs σ' → EvT M E t σ' H' (cond st))
    (hs : ∀ st vs σ' H' (P' : W.Fl ρ s → Prop), Bp H' → Xm M H H' → S M st vs H' → Sl vs σ' → body st P' PE → (∀ r, P' (.rt r) → k (.inl r) P PE) → (∀ st' vs' σ3 H3, Bp H3 → Xm M H H3 → S M st' vs' H3 → Sl vs' σ3 → P' (.br st') → w D σ3 H3) →
      ts { D with nx := Jn M H S Sl Bp (fun st => P' (.nx st)), ct := Jn M H S Sl Bp (fun st => P' (.nx st)), bk := w D } σ' H')
    (he : ∀ st vs σ' H', Bp H' → Xm M H H' → S M st vs H' → Sl vs σ' → k (.inr st) P PE → w D σ' H') : tSeq (tWhile t ts) w D σ H := by
  obtain ⟨I, μ, hI, hstep⟩ := hm
  obtain ⟨hb, vs, h1, h2⟩ := h0
  refine ⟨fun n σ' H' => Bp H' ∧ Xm M H H' ∧ ∃ st vs, S M st vs H' ∧ Sl vs σ' ∧ I st ∧ n = μ st, ⟨_, hb, .refl d, st0, vs, h1, h2, hI, rfl⟩, ?_⟩
  rintro n σ' H' ⟨hb', hx', st, vs', h1', h2', hI', rfl⟩
  refine hc st vs' σ' H' hb' hx' h1' h2' H' (.refl hx'.dice) _ _ PE (hstep st hI') (fun c H2 e2 hc2 => ?_) (gb H' hb')
  have hb2 := bt H' H2 hb' e2
  have hx2 := hx'.t e2
  have h12 := MoXs.up e2 h1'
  cases c with
  | true =>
    rw [if_pos rfl] at hc2 ⊢
    exact ⟨Jn M H S Sl Bp (fun s' => I s' ∧ μ s' < μ st), fun σ3 H3 ⟨q1, q2, st', vs, q3, q4, q5, q6⟩ => ⟨μ st', q6, q1, q2, st', vs, q3, q4, q5, rfl⟩,
      hs st vs' σ' H2 _ hb2 hx2 h12 h2' hc2 (fun r h => h) fun st' vs' σ3 H3 b1 b2 b3 b4 b5 => he st' vs' σ3 H3 b1 b2 b3 b4 b5⟩
  | false =>
    rw [if_neg (by decide)] at hc2 ⊢
    exact he st vs' σ' H2 hb2 hx2 h12 h2' hc2
end
/-! ### lists that change -/
/-- the list at D, which may change -/
def RAt (D : Addr) {α : Type} (S : Rs α) : Rp α := fun M x v H => v = .ref D ∧ M.d ≠ some D ∧ ∃ vs, H D = some (.lst vs) ∧ S M x vs H
instance {D : Addr} {α : Type} {S : Rs α} [MoXs S] : MoX (RAt D S) := ⟨fun e ⟨h1, h2, vs, h3, h4⟩ => ⟨h1, e.d ▸ h2, vs, e.kx _ _ h2 h3, MoXs.lk (R := S) e h4⟩⟩
theorem RAt.w {D : Addr} {α : Type} {S : Rs α} {M x v H} (h : RAt D S M x v H) : RW S M x v H := by obtain ⟨rfl, h2, vs, h3, h4⟩ := h; exact ⟨D, vs, rfl, h2, h3, h4⟩
/-- it changes no more -/
def Mm.del (M : Mm) (D : Addr) : Mm := ⟨M.d, M.l.filter (fun a => decide (a ≠ D)), M.ca⟩
theorem Mm.del_le {M : Mm} {D : Addr} : (M.del D).le M := ⟨rfl, fun a m => (List.mem_filter.mp m).1, rfl⟩
theorem Mm.del_in {M : Mm} {D a : Addr} (m : a ∈ M.l) (n : a ≠ D) : a ∈ (M.del D).l := List.mem_filter.mpr ⟨m, by simpa using n⟩
theorem RAt.ne {D D' : Addr} {α : Type} {S : Rs α} {M x v H} (h : RAt D S M x v H) (n : H D' = none) : D ≠ D' := by obtain ⟨_, _, vs, h3, _⟩ := h; exact ne_of_none h3 n
theorem RAt.rl {D : Addr} {α : Type} {S : Rs α} [MoXs S] {M M' x v H} (h : RAt D S M x v H) (l : M'.le M) (f : M'.fr D) : RL S M' x v H := by obtain ⟨rfl, h2, vs, h3, h4⟩ := h; exact ⟨D, vs, rfl, f, h3, MoXs.lk (R := S) l.x h4⟩
theorem RAt.frz {D : Addr} {α : Type} {S : Rs α} [MoXs S] {M x v H} (h : RAt D S M x v H) : RL S (M.del D) x v H := h.rl Mm.del_le ⟨h.2.1, fun m => by have := (List.mem_filter.mp m).2; simp at this⟩
/-- H2 is H but for D, the dice and what is new -/
structure Put (D : Addr) (M : Mm) (H H2 : Hp) : Prop where
  at_ : ∃ H1 o, Xt M H H1 ∧ NT o ∧ H2 = upd H1 D o
  m : D ∈ M.l
section
variable {M M0 : Mm} {E : XK} {σ : St} {H H0 H2 : Hp} {te to ti : TE} {ts w : TS} {D : Addr} {En : Ends} {α β δ : Type} {R : Rp α} {S : Rs α} {K : Frag} {P : δ → Prop} {PE : Ex → Prop} {i : Nat}
theorem Put.xm (p : Put D M H H2) : Xm M H H2 := by obtain ⟨H1, o, e, nto, rfl⟩ := p.at_; exact e.m.trans (.put e.dice p.m)
theorem Put.xt (p : Put D M H H2) (b : Xt M0 H0 H) (l : M0.le M) (n : H0 D = none) : Xt M0 H0 H2 := by obtain ⟨H1, o, e, nto, rfl⟩ := p.at_; exact (b.t l e).putN l e.dice p.m n
theorem Put.xmN (p : Put D M H H2) (b : Xm M0 H0 H) (l : M0.le M) (n : H0 D = none) : Xm M0 H0 H2 := by obtain ⟨H1, o, e, nto, rfl⟩ := p.at_; exact (b.tl l e).putN l e.dice p.m n
theorem Put.xmI (p : Put D M H H2) (b : Xm M0 H0 H) (l : M0.le M) (n : D ∈ M0.l) : Xm M0 H0 H2 := by obtain ⟨H1, o, e, nto, rfl⟩ := p.at_; exact (b.tl l e).trans (.put (e.dice.wk l) n)
theorem Put.oth {D' : Addr} {β : Type} {S' : Rs β} [Mos S'] {x v} (p : Put D M H H2) (h : RAt D' S' M x v H) (n : D' ≠ D) : RAt D' S' M x v H2 := by
  have em := p.xm
  obtain ⟨H1, o, e, nto, rfl⟩ := p.at_
  obtain ⟨h1, h2, vs, h3, h4⟩ := h
  exact ⟨h1, h2, vs, by rw [upd_ne n]; exact e.keep _ _ h2 h3, Mos.lk (R := S') em.k h4⟩
/-- a reading that gives a new thing, which may change from now on; T: what stands there -/
def EvF (M : Mm) (E : XK) (te : TE) (σ : St) (H : Hp) (T : Mm → Addr → α → Hp → Prop) (m : W α) : Prop :=
  ∀ H1, Xt M H H1 → ∀ (Q : VK) (P : α → Prop) (PE : Ex → Prop), m P PE → (∀ a x H2, Xt M H1 H2 → H1 a = none → (∃ o, H2 a = some o ∧ NT o) → P x → T (M.add a) a x H2 → Q (.ref a) H2) → GoE M E H1 PE → te σ H1 Q
/-- a list stands there -/
abbrev TL (S : Rs α) : Mm → Addr → α → Hp → Prop := fun M a x H => RAt a S M x (.ref a) H
theorem tl_new {M : Mm} {S : Rs α} [MoXs S] {H : Hp} {a : Addr} {vs : List V} {x : α} (d : DiceM M H) (hn : H a = none) (h : S M x vs H) : TL S (M.add a) a x (upd H a (.lst vs)) :=
  ⟨rfl, (d.fr hn).1, vs, upd_same, MoXs.lk ((LkX.add hn).trans ⟨⟨rfl, rfl, fun b o f h => ⟨by rw [upd_ne (ne_of_none h hn)]; exact h, f⟩⟩, fun b o n h => by rw [upd_ne (ne_of_none h hn)]; exact h⟩) h⟩
theorem ef_lst {ms : W (List α)} {ta : TA} [MoX R] (ha : EvA M E ta σ H (All R) ms) : EvF M E (tLst ta) σ H (TL (All R)) (W.bind ms fun l => W.grd (l.length ≤ 1000000) l) := fun H1 e Q P PE hm q g =>
  ha H1 e _ _ PE hm (fun vs x H2 e2 b rx => ⟨by rw [all_len rx, sizeLine_eq]; have := b.1; omega, fun p hp => q p x _ (e2.trans (.new e2.dice hp)) (e2.none hp) ⟨_, upd_same, inferInstance⟩ b.2 (tl_new e2.dice hp rx)⟩) g
theorem ef_lstT {ts : TA} {ms : W α} [MoXs S] (ha : EvA M E ts σ H (One (RT S)) ms) : EvF M E (tCB (fun xs H Q => ∃ p ys, xs = [V.ref p] ∧ (SqL K H p ys ∨ SqT K H p ys) ∧ ∀ l, H l = none → Q (.ref l) (upd H l (.lst ys))) ts) σ H (TL S) ms := fun H1 e Q P PE hm q g =>
  ha H1 e _ _ PE hm (fun vs x H2 e2 b ⟨v, h0, a, ws, h1, h2, h3, h4⟩ => by
    subst h1
    exact ⟨a, ws, h0, .inr (.of h3), fun l hl => q l x _ (e2.trans (.new e2.dice hl)) (e2.none hl) ⟨_, upd_same, inferInstance⟩ b (tl_new e2.dice hl h4)⟩) g
theorem ef_lstL {ts : TA} {ms : W α} [MoXs S] (ha : EvA M E ts σ H (One (RL S)) ms) : EvF M E (tCB (fun xs H Q => ∃ p ys, xs = [V.ref p] ∧ (SqL K H p ys ∨ SqT K H p ys) ∧ ∀ l, H l = none → Q (.ref l) (upd H l (.lst ys))) ts) σ H (TL S) ms := fun H1 e Q P PE hm q g =>
  ha H1 e _ _ PE hm (fun vs x H2 e2 b ⟨v, h0, a, ws, h1, h2, h3, h4⟩ => by
    subst h1
    exact ⟨a, ws, h0, .inl (.of h3), fun l hl => q l x _ (e2.trans (.new e2.dice hl)) (e2.none hl) ⟨_, upd_same, inferInstance⟩ b (tl_new e2.dice hl h4)⟩) g
/-- x = a new thing that will change -/
theorem q_new {T : Mm → Addr → α → Hp → Prop} {m : W α} {k : α → W δ} (d : DiceM M H) (go : GoE M E H PE) (h : EvF M E te σ H T m) (hm : W.bind m k P PE)
    (c : ∀ D x H1, Xt M H H1 → H D = none → LkX M H (M.add D) H1 → DiceM (M.add D) H1 → k x P PE → T (M.add D) D x H1 → w En (σ.set i (some (.ref D))) H1) : tSeq (tAsg te (gName i)) w En σ H :=
  h H (.refl d) _ _ PE hm (fun a x H1 e hn ho p ht => by
    obtain ⟨o, ho, nto⟩ := ho
    have l : LkX M H (M.add a) H1 := (LkX.add hn).trans ⟨⟨rfl, rfl, fun b o f h => ⟨e.keep b o f.1 h, f⟩⟩, fun b o n h => e.keep b o n h⟩
    exact c a x H1 e hn l (d.add hn ho e) p ht) go
/-- x, y = a new thing that will change, e -/
theorem q_parNew {T : Mm → Addr → α → Hp → Prop} {β : Type} {R' : Rp β} [MoX R'] {j : Nat} {tf : TE} {m : W α} {n : W β} {k : α → β → W δ} (d : DiceM M H) (go : GoE M E H PE) (h : EvF M E te σ H T m) (h2 : Ev M E tf σ H R' n) (hm : W.bind m (fun x => W.bind n fun y => k x y) P PE)
    (ht : ∀ a x H1 H2, Xt (M.add a) H1 H2 → T (M.add a) a x H1 → T (M.add a) a x H2)
    (c : ∀ D x v y H1, Xt M H H1 → H D = none → LkX M H (M.add D) H1 → DiceM (M.add D) H1 → k x y P PE → T (M.add D) D x H1 → R' M y v H1 → w En ((σ.set i (some (.ref D))).set j (some v)) H1) : tSeq (tPar i j (tCons te (tCons tf tNil))) w En σ H :=
  h H (.refl d) _ _ PE hm (fun a x H1 e hn ho p hT => h2 H1 e _ _ PE p (fun v y H2 e2 p2 rv => by
    obtain ⟨o, ho, nto⟩ := ho
    have e12 := e.trans e2
    have nd := (d.fr hn).1
    have ho2 := e2.keep a o nd ho
    have l : LkX M H (M.add a) H2 := (LkX.add hn).trans ⟨⟨rfl, rfl, fun b o f h => ⟨e12.keep b o f.1 h, f⟩⟩, fun b o n h => e12.keep b o n h⟩
    have d2 := d.add hn ho2 e12
    exact ⟨_, _, rfl, c a x v y H2 e12 hn l d2 p2 (ht a x H1 H2 ⟨e2.keep, d2⟩ hT) rv⟩) (go.up e)) go
/-- D.append(e) -/
theorem q_app {l : List α} {m : W α} {k : List α → W δ} [Mo R] (d : DiceM M H) (go : GoE M E H PE) (ho : ∀ H (Q : VK), Q (.ref D) H → to σ H Q) (a : RAt D (All R) M l (.ref D) H) (mD : D ∈ M.l) (h : Ev M E te σ H R m) (hm : W.bind (W.bind m fun y => W.grd (l.length < 1000000) (l ++ [y])) k P PE)
    (c : ∀ x H2, Put D M H H2 → RAt D (All R) M x (.ref D) H2 → k x P PE → w En σ H2) : tSeq (tDrop (tBM K "list" rAppend to (tCons te tNil))) w En σ H := by
  obtain ⟨_, n, vs, h1, h2⟩ := a
  refine ho _ _ ⟨.inl ⟨rfl, _, .inl (.inl h1)⟩, ?_⟩
  refine h H (.refl d) _ _ PE hm (fun v y H4 e4 hy ry => ?_) go
  have h4 : H4 D = some (.lst vs) := e4.keep D _ n h1
  have h2' := MoXs.up (R := All R) e4 h2
  have em : Xm M H4 (upd H4 D (.lst (vs ++ [v]))) := .put e4.dice mD
  exact ⟨D, vs, v, rfl, rfl, h4, by rw [all_len h2, sizeLine_eq]; have := hy.1; omega, c (l ++ [y]) _ ⟨⟨H4, _, e4, inferInstance, rfl⟩, mD⟩ ⟨rfl, n, _, upd_same, Paired.snoc (Mos.lk (R := All R) em.k h2') (Mo.lk em.k ry)⟩ hy.2⟩
theorem l_app {l : List α} {m : W α} {k : List α → W δ} [Mo R] (d : DiceM M H) (go : GoE M E H PE) (ho : ∀ H (Q : VK), Q (.ref D) H → to σ H Q) (a : RAt D (All R) M l (.ref D) H) (mD : D ∈ M.l) (h : Ev M E te σ H R m) (hm : W.bind (W.bind m fun y => W.grd (l.length < 1000000) (l ++ [y])) k P PE)
    (c : ∀ x H2, Put D M H H2 → RAt D (All R) M x (.ref D) H2 → k x P PE → En.nx σ H2) : tDrop (tBM K "list" rAppend to (tCons te tNil)) En σ H := q_app (w := fun D => D.nx) (En := En) d go ho a mD h hm c
/-- D[i] = e -/
theorem all_set {l : List α} {vs : List V} {H : Hp} {x : α} {v : V} (h : All R M l vs H) (r : R M x v H) (j : Nat) : All R M (l.set j x) (vs.set j v) H := by
  have h' : Paired (fun x v => R M x v H) l vs := h
  show Paired (fun x v => R M x v H) _ _
  induction h' generalizing j with
  | nil => exact .nil
  | cons a b ih => cases j with
    | zero => exact .cons r b
    | succ j => exact .cons a (ih b j)
theorem q_seti {l : List α} {m : W α} {mi : W Int} {k : List α → W δ} [Mo R] (d : DiceM M H) (go : GoE M E H PE) (ho : ∀ H (Q : VK), Q (.ref D) H → to σ H Q) (a : RAt D (All R) M l (.ref D) H) (mD : D ∈ M.l) (h : Ev M E te σ H R m) (hi : Ev M E ti σ H RI mi)
    (hm : W.bind (W.bind m fun y => W.bind mi fun i => W.bind (W.get (ixN l.length i)) fun j => W.pure (l.set j y)) k P PE)
    (c : ∀ x H2, Put D M H H2 → RAt D (All R) M x (.ref D) H2 → k x P PE → w En σ H2) : tSeq (tAsg te (gSub to ti rSetL)) w En σ H := by
  obtain ⟨_, n, vs, h1, h2⟩ := a
  refine h H (.refl d) _ _ PE hm (fun v y H4 e4 hy ry => ?_) go
  refine ho _ _ ?_
  refine hi H4 e4 _ _ PE hy (fun u z H5 e5 ⟨j, hj, hz⟩ rz => ?_) (go.up e4)
  cases (show u = V.int z from rz)
  have e45 := e4.trans e5
  have h4 : H5 D = some (.lst vs) := e45.keep D _ n h1
  have h2' := MoXs.up (R := All R) e45 h2
  have em : Xm M H5 (upd H5 D (.lst (vs.set j v))) := .put e5.dice mD
  exact ⟨D, vs, z, j, rfl, rfl, h4, by rw [all_len h2]; exact hj, c (l.set j y) _ ⟨⟨H5, _, e45, inferInstance, rfl⟩, mD⟩ ⟨rfl, n, _, upd_same, all_set (Mos.lk (R := All R) em.k h2') (Mo.lk em.k (up ry e5)) j⟩ hz⟩
theorem l_seti {l : List α} {m : W α} {mi : W Int} {k : List α → W δ} [Mo R] (d : DiceM M H) (go : GoE M E H PE) (ho : ∀ H (Q : VK), Q (.ref D) H → to σ H Q) (a : RAt D (All R) M l (.ref D) H) (mD : D ∈ M.l) (h : Ev M E te σ H R m) (hi : Ev M E ti σ H RI mi)
    (hm : W.bind (W.bind m fun y => W.bind mi fun i => W.bind (W.get (ixN l.length i)) fun j => W.pure (l.set j y)) k P PE)
    (c : ∀ x H2, Put D M H H2 → RAt D (All R) M x (.ref D) H2 → k x P PE → En.nx σ H2) : tAsg te (gSub to ti rSetL) En σ H := q_seti (w := fun D => D.nx) (En := En) d go ho a mD h hi hm c
end
end MW
namespace MW
open PySem PySem.Spec PyProof.Rows L2 GB
class Ln {β : Type} (S : Rs β) (n : outParam Nat) : Prop where
  len : ∀ {M x vs H}, S M x vs H → vs.length = n
instance : Ln Nil 0 := ⟨fun h => by cases (show _ = [] from h); rfl⟩
instance {α : Type} {R : Rp α} : Ln (One R) 1 := ⟨fun ⟨v, e, _⟩ => by subst e; rfl⟩
instance {α β : Type} {R : Rp α} {S : Rs β} {n : Nat} [Ln S n] : Ln (Cons R S) (n + 1) := ⟨fun ⟨v, r, e, _, h⟩ => by subst e; rw [List.length_cons, Ln.len h]⟩
theorem lnle {β : Type} {S : Rs β} {n : Nat} [Ln S n] (hn : n ≤ 1000) : ∀ M x vs H, S M x vs H → vs.length ≤ sizeLine := fun M x vs H h => by rw [Ln.len h, sizeLine_eq]; omega
/-- items of one kind, so many -/
def EvL (M : Mm) (E : XK) (t : TA) (σ : St) (H : Hp) {α : Type} (R : Rp α) (n : Nat) (m : W (List α)) : Prop :=
  ∀ H1, Xt M H H1 → ∀ (Q : List V → Hp → Prop) (P : List α → Prop) (PE : Ex → Prop), m P PE → (∀ vs x H2, Xt M H1 H2 → P x → x.length = n → All R M x vs H2 → Q vs H2) → GoE M E H1 PE → t σ H1 Q
section
variable {M : Mm} {E : XK} {σ : St} {H : Hp} {ta : TE} {ts : TA} {α β : Type} {R : Rp α} {ma : W α} {ms : W (List α)} {n : Nat} {t : TT} {te : TE} {R' : Rp β} {xs : W (List α)}
theorem el_nil : EvL M E tNil σ H R 0 (W.pure []) := fun H1 e Q P PE hm q _ => q [] [] H1 (.refl e.dice) hm rfl .nil
theorem el_cons [MoX R] (ha : Ev M E ta σ H R ma) (hb : EvL M E ts σ H R n ms) : EvL M E (tCons ta ts) σ H R (n + 1) (W.bind ma fun x => W.bind ms fun y => W.pure (x :: y)) := fun H1 e Q P PE hm q g =>
  ha H1 e _ _ PE hm (fun v x H2 e2 a rx => hb H2 (e.trans e2) _ _ PE a (fun vs y H3 e3 b hl ry => q (v :: vs) (x :: y) H3 (e2.trans e3) b (by rw [List.length_cons, hl]) (.cons (MoX.up e3 rx) ry)) (g.up e2)) g
theorem ev_tupN [MoX R] (h : EvL M E ts σ H R n ms) (hn : n ≤ 1000) : Ev M E (tTup ts) σ H (RT (All R)) ms := fun H1 e Q P PE hm q g =>
  h H1 e _ _ PE hm (fun vs x H2 e2 b hl rx => ⟨by rw [all_len rx, sizeLine_eq]; omega, fun p hp => q _ x _ (e2.trans (.new e2.dice hp)) b ⟨p, vs, rfl, e2.dice.fr hp, upd_same, MoXs.up (.new e2.dice hp) rx⟩⟩) g
theorem ev_lstN [MoX R] (h : EvL M E ts σ H R n ms) (hn : n ≤ 1000) : Ev M E (tLst ts) σ H (RL (All R)) ms := fun H1 e Q P PE hm q g =>
  h H1 e _ _ PE hm (fun vs x H2 e2 b hl rx => ⟨by rw [all_len rx, sizeLine_eq]; omega, fun p hp => q _ x _ (e2.trans (.new e2.dice hp)) b ⟨p, vs, rfl, e2.dice.fr hp, upd_same, MoXs.up (.new e2.dice hp) rx⟩⟩) g
theorem ef_lstN [MoX R] (h : EvL M E ts σ H R n ms) (hn : n ≤ 1000) : EvF M E (tLst ts) σ H (TL (All R)) ms := fun H1 e Q P PE hm q g =>
  h H1 e _ _ PE hm (fun vs x H2 e2 b hl rx => ⟨by rw [all_len rx, sizeLine_eq]; omega, fun p hp => q p x _ (e2.trans (.new e2.dice hp)) (e2.none hp) ⟨_, upd_same, inferInstance⟩ b (tl_new e2.dice hp rx)⟩) g
theorem ea_ofL (h : EvL M E ts σ H R n ms) : EvA M E ts σ H (All R) ms := fun H1 e Q P PE hm q g => h H1 e _ _ PE hm (fun vs x H2 e2 b _ rx => q vs x H2 e2 b rx) g
/-! comprehensions whose parts have no wish -/
theorem mapF_pure (p : α → Bool) (f : α → β) (xs : List α) (P : List β → Prop) (PE : Ex → Prop) : W.mapF (fun x => W.pure (p x)) (fun x => W.pure (f x)) xs P PE = P ((xs.filter p).map f) := by
  induction xs generalizing P with
  | nil => rfl
  | cons x r ih =>
    show (if p x = true then (W.bind (W.pure (f x)) fun y => W.bind (W.mapF (fun x => W.pure (p x)) (fun x => W.pure (f x)) r) fun l => W.pure (y :: l)) else W.mapF (fun x => W.pure (p x)) (fun x => W.pure (f x)) r : W (List β)) P PE = _
    cases hp : p x with
    | true =>
      rw [if_pos rfl, List.filter_cons_of_pos hp]
      exact ih (fun l => P (f x :: l))
    | false =>
      rw [if_neg (by decide), List.filter_cons_of_neg (by simp [hp])]
      exact ih P
theorem lc_pure (p : α → Bool) (f : α → β) : W.lc (fun x => W.pure (p x)) (fun x => W.pure (f x)) = fun xs => W.grd (xs.length < 1000000) ((xs.filter p).map f) := by
  funext xs P PE
  show (_ ∧ _) = (_ ∧ _)
  rw [mapF_pure]
theorem lc_pure1 (f : α → β) : W.lc (fun _ => W.pure true) (fun x => W.pure (f x)) = fun xs => W.grd (xs.length < 1000000) (xs.map f) := by
  rw [lc_pure (fun _ => true) f]
  funext xs
  rw [List.filter_eq_self.2 (fun _ _ => rfl)]
theorem ev_lcP [Mo R'] {wi : TI} {g : TG} {vs : List Nat} {p : α → Bool} {f : α → β} (T : Mm → α → St → Hp → Prop) (hi : EvI LkX M E wi σ H R xs)
    (hg : ∀ M' x v H' (Q : St → Hp → Prop), R M' x v H' → (∀ σ2, T M' x σ2 H' → Q σ2 H') → g v (wipe σ vs) H' Q) (hw : ∀ M' x σ2 H', T M' x σ2 H' → wipe σ2 vs = wipe σ vs) [MoX R]
    (ht : ∀ M' H' x σ2, LkX M H M' H' → DiceM M' H' → T M' x σ2 H' → EvT M' E0 t σ2 H' (W.pure (p x))) (he : ∀ M' H' x σ2, LkX M H M' H' → DiceM M' H' → T M' x σ2 H' → Ev M' E0 te σ2 H' R' (W.pure (f x))) (hT : ∀ M' x σ2 H' H'', Xt M' H' H'' → T M' x σ2 H' → T M' x σ2 H'') :
    Ev M E (tLc wi g t te vs) σ H (RL (All R')) (W.bind xs fun l => W.grd (l.length < 1000000) ((l.filter p).map f)) := lc_pure p f ▸ ev_lc T hi hg hw ht he hT
theorem ev_lcM [Mo R'] {wi : TI} {g : TG} {vs : List Nat} {f : α → β} (T : Mm → α → St → Hp → Prop) (hi : EvI LkX M E wi σ H R xs)
    (hg : ∀ M' x v H' (Q : St → Hp → Prop), R M' x v H' → (∀ σ2, T M' x σ2 H' → Q σ2 H') → g v (wipe σ vs) H' Q) (hw : ∀ M' x σ2 H', T M' x σ2 H' → wipe σ2 vs = wipe σ vs) [MoX R]
    (he : ∀ M' H' x σ2, LkX M H M' H' → DiceM M' H' → T M' x σ2 H' → Ev M' E0 te σ2 H' R' (W.pure (f x))) (hT : ∀ M' x σ2 H' H'', Xt M' H' H'' → T M' x σ2 H' → T M' x σ2 H'') :
    Ev M E (tLc wi g tYes te vs) σ H (RL (All R')) (W.bind xs fun l => W.grd (l.length < 1000000) (l.map f)) := lc_pure1 f ▸ ev_lc T hi hg hw (fun _ _ _ _ _ _ _ => et_yes) he hT
end
end MW
namespace MW
open PySem PySem.Spec PyProof.Rows L2 GB
theorem set3 {σ : St} {i : Nat} {a b : Option V} : (σ.set i a).set i b = σ.set i b := List.set_set _
theorem hw1 {α : Type} {i : Nat} {R : Rp α} {σ : St} {M : Mm} {x : α} {σ2 : St} {H : Hp} (h : T1 i R (wipe σ [i]) M x σ2 H) : wipe σ2 [i] = wipe σ [i] := by
  obtain ⟨v, rfl, _⟩ := h
  show ((((σ.set i none).set i (some v)) : St).set i none) = σ.set i none
  simp
theorem hw2 {α β : Type} {i j : Nat} {R : Rp α} {R' : Rp β} {σ : St} {M : Mm} {x : α × β} {σ2 : St} {H : Hp} (h : T2 i j R R' (wipe σ [i, j]) M x σ2 H) : wipe σ2 [i, j] = wipe σ [i, j] := by
  obtain ⟨v, u, rfl, _⟩ := h
  show ((((((σ.set j none).set i none).set i (some v)).set j (some u) : St).set j none).set i none) = (σ.set j none).set i none
  apply List.ext_getElem?
  intro n
  simp only [List.getElem?_set, List.length_set]
  by_cases h1 : i = n <;> by_cases h2 : j = n <;> simp [h1, h2]
  all_goals (try split) <;> simp_all
theorem hw3 {α β γ : Type} {i j l : Nat} {R : Rp α} {R' : Rp β} {R'' : Rp γ} {σ : St} {M : Mm} {x : α × β × γ} {σ2 : St} {H : Hp} (h : T3 i j l R R' R'' (wipe σ [i, j, l]) M x σ2 H) : wipe σ2 [i, j, l] = wipe σ [i, j, l] := by
  obtain ⟨v, u, w, rfl, _⟩ := h
  show ((((((((σ.set l none).set j none).set i none).set i (some v)).set j (some u)).set l (some w) : St).set l none).set j none).set i none = ((σ.set l none).set j none).set i none
  apply List.ext_getElem?
  intro n
  simp only [List.getElem?_set, List.length_set]
  by_cases h1 : i = n <;> by_cases h2 : j = n <;> by_cases h3 : l = n <;> simp [h1, h2, h3]
  all_goals (try split) <;> simp_all
end MW
namespace MW
open PySem PySem.Spec PyProof.Rows L2 GB
section
variable {M : Mm} {E : XK} {σ : St} {H : Hp} {ta : TE} {α β γ δ : Type} {R : Rp α} {R1 : Rp β} {R2 : Rp γ} {t : TT} {te : TE} {R' : Rp δ} {wi : TI} {i j l : Nat} {K : Frag}
theorem ev_lc1 {p : α → W Bool} {f : α → W δ} {xs : W (List α)} [Mo R'] [MoX R] (hi : EvI LkX M E wi σ H R xs) (ht : ∀ M' H' x σ2, LkX M H M' H' → DiceM M' H' → T1 i R (wipe σ [i]) M' x σ2 H' → EvT M' E0 t σ2 H' (p x)) (he : ∀ M' H' x σ2, LkX M H M' H' → DiceM M' H' → T1 i R (wipe σ [i]) M' x σ2 H' → Ev M' E0 te σ2 H' R' (f x)) :
    Ev M E (tLc wi (gName i) t te [i]) σ H (RL (All R')) (W.bind xs fun xs => W.lc p f xs) := ev_lc (T1 i R (wipe σ [i])) hi (fun _ _ _ _ _ r q => tg1 r q) (fun _ _ _ _ h => hw1 h) ht he (fun _ _ _ _ _ e h => t1_up e h)
theorem ev_lcP1 {p : α → Bool} {f : α → δ} {xs : W (List α)} [Mo R'] [MoX R] (hi : EvI LkX M E wi σ H R xs) (ht : ∀ M' H' x σ2, LkX M H M' H' → DiceM M' H' → T1 i R (wipe σ [i]) M' x σ2 H' → EvT M' E0 t σ2 H' (W.pure (p x))) (he : ∀ M' H' x σ2, LkX M H M' H' → DiceM M' H' → T1 i R (wipe σ [i]) M' x σ2 H' → Ev M' E0 te σ2 H' R' (W.pure (f x))) :
    Ev M E (tLc wi (gName i) t te [i]) σ H (RL (All R')) (W.bind xs fun l => W.grd (l.length < 1000000) ((l.filter p).map f)) := ev_lcP (T1 i R (wipe σ [i])) hi (fun _ _ _ _ _ r q => tg1 r q) (fun _ _ _ _ h => hw1 h) ht he (fun _ _ _ _ _ e h => t1_up e h)
theorem ev_lcM1 {f : α → δ} {xs : W (List α)} [Mo R'] [MoX R] (hi : EvI LkX M E wi σ H R xs) (he : ∀ M' H' x σ2, LkX M H M' H' → DiceM M' H' → T1 i R (wipe σ [i]) M' x σ2 H' → Ev M' E0 te σ2 H' R' (W.pure (f x))) :
    Ev M E (tLc wi (gName i) tYes te [i]) σ H (RL (All R')) (W.bind xs fun l => W.grd (l.length < 1000000) (l.map f)) := ev_lcM (T1 i R (wipe σ [i])) hi (fun _ _ _ _ _ r q => tg1 r q) (fun _ _ _ _ h => hw1 h) he (fun _ _ _ _ _ e h => t1_up e h)
theorem ev_lc2 {p : β × γ → W Bool} {f : β × γ → W δ} {xs : W (List (β × γ))} [Mo R'] [Mo R1] [Mo R2] (hi : EvI LkX M E wi σ H (RT (Cons R1 (One R2))) xs) (ht : ∀ M' H' x σ2, LkX M H M' H' → DiceM M' H' → T2 i j R1 R2 (wipe σ [i, j]) M' x σ2 H' → EvT M' E0 t σ2 H' (p x)) (he : ∀ M' H' x σ2, LkX M H M' H' → DiceM M' H' → T2 i j R1 R2 (wipe σ [i, j]) M' x σ2 H' → Ev M' E0 te σ2 H' R' (f x)) :
    Ev M E (tLc wi (gTup K 2 (gCons (gName i) (gCons (gName j) gNil))) t te [i, j]) σ H (RL (All R')) (W.bind xs fun xs => W.lc p f xs) := ev_lc (T2 i j R1 R2 (wipe σ [i, j])) hi (fun _ _ _ _ _ r q => tg2 r q) (fun _ _ _ _ h => hw2 h) ht he (fun _ _ _ _ _ e h => t2_up e h)
theorem ev_lcP2 {p : β × γ → Bool} {f : β × γ → δ} {xs : W (List (β × γ))} [Mo R'] [Mo R1] [Mo R2] (hi : EvI LkX M E wi σ H (RT (Cons R1 (One R2))) xs) (ht : ∀ M' H' x σ2, LkX M H M' H' → DiceM M' H' → T2 i j R1 R2 (wipe σ [i, j]) M' x σ2 H' → EvT M' E0 t σ2 H' (W.pure (p x))) (he : ∀ M' H' x σ2, LkX M H M' H' → DiceM M' H' → T2 i j R1 R2 (wipe σ [i, j]) M' x σ2 H' → Ev M' E0 te σ2 H' R' (W.pure (f x))) :
    Ev M E (tLc wi (gTup K 2 (gCons (gName i) (gCons (gName j) gNil))) t te [i, j]) σ H (RL (All R')) (W.bind xs fun l => W.grd (l.length < 1000000) ((l.filter p).map f)) := ev_lcP (T2 i j R1 R2 (wipe σ [i, j])) hi (fun _ _ _ _ _ r q => tg2 r q) (fun _ _ _ _ h => hw2 h) ht he (fun _ _ _ _ _ e h => t2_up e h)
theorem ev_lcM2 {f : β × γ → δ} {xs : W (List (β × γ))} [Mo R'] [Mo R1] [Mo R2] (hi : EvI LkX M E wi σ H (RT (Cons R1 (One R2))) xs) (he : ∀ M' H' x σ2, LkX M H M' H' → DiceM M' H' → T2 i j R1 R2 (wipe σ [i, j]) M' x σ2 H' → Ev M' E0 te σ2 H' R' (W.pure (f x))) :
    Ev M E (tLc wi (gTup K 2 (gCons (gName i) (gCons (gName j) gNil))) tYes te [i, j]) σ H (RL (All R')) (W.bind xs fun l => W.grd (l.length < 1000000) (l.map f)) := ev_lcM (T2 i j R1 R2 (wipe σ [i, j])) hi (fun _ _ _ _ _ r q => tg2 r q) (fun _ _ _ _ h => hw2 h) he (fun _ _ _ _ _ e h => t2_up e h)
end
end MW

/-! wF: more built-ins, slices, sums of tuples and lists, zip. -/
namespace MW
open PySem PySem.Spec PyProof.Rows L2 GB RZ
/-- the greatest, the least -/
def mxI : List Int → Int
  | [] => 0
  | x :: r => r.foldl max x
def mnI : List Int → Int
  | [] => 0
  | x :: r => r.foldl min x
theorem foldl_max (r : List Int) : ∀ x, (r.foldl max x ∈ x :: r) ∧ ∀ y ∈ x :: r, y ≤ r.foldl max x := by
  induction r with
  | nil => intro x; simp
  | cons a r ih =>
    intro x
    obtain ⟨h1, h2⟩ := ih (max x a)
    refine ⟨?_, fun y hy => ?_⟩
    · rcases List.mem_cons.mp h1 with e | m
      · rw [List.foldl_cons, e]; rcases Int.le_total x a with q | q
        · rw [Int.max_eq_right q]; simp
        · rw [Int.max_eq_left q]; simp
      · exact List.mem_cons_of_mem _ (List.mem_cons_of_mem _ m)
    · have h3 := h2 (max x a) List.mem_cons_self
      rw [List.foldl_cons]
      rcases List.mem_cons.mp hy with e | m
      · omega
      · rcases List.mem_cons.mp m with e | m
        · omega
        · exact h2 y (List.mem_cons_of_mem _ m)
theorem foldl_min (r : List Int) : ∀ x, (r.foldl min x ∈ x :: r) ∧ ∀ y ∈ x :: r, r.foldl min x ≤ y := by
  induction r with
  | nil => intro x; simp
  | cons a r ih =>
    intro x
    obtain ⟨h1, h2⟩ := ih (min x a)
    refine ⟨?_, fun y hy => ?_⟩
    · rcases List.mem_cons.mp h1 with e | m
      · rw [List.foldl_cons, e]; rcases Int.le_total x a with q | q
        · rw [Int.min_eq_left q]; simp
        · rw [Int.min_eq_right q]; simp
      · exact List.mem_cons_of_mem _ (List.mem_cons_of_mem _ m)
    · have h3 := h2 (min x a) List.mem_cons_self
      rw [List.foldl_cons]
      rcases List.mem_cons.mp hy with e | m
      · omega
      · rcases List.mem_cons.mp m with e | m
        · omega
        · exact h2 y (List.mem_cons_of_mem _ m)
theorem mxI_mem {l : List Int} (h : l ≠ []) : mxI l ∈ l := by
  cases l with
  | nil => exact absurd rfl h
  | cons x r => exact (foldl_max r x).1
theorem le_mxI {l : List Int} {y : Int} (h : y ∈ l) : y ≤ mxI l := by
  cases l with
  | nil => cases h
  | cons x r => exact (foldl_max r x).2 y h
theorem mnI_mem {l : List Int} (h : l ≠ []) : mnI l ∈ l := by
  cases l with
  | nil => exact absurd rfl h
  | cons x r => exact (foldl_min r x).1
theorem mnI_le {l : List Int} {y : Int} (h : y ∈ l) : mnI l ≤ y := by
  cases l with
  | nil => cases h
  | cons x r => exact (foldl_min r x).2 y h
/-- a part of a list -/
def cut {α : Type} (xs : List α) (lo hi : Option Int) : List α := (xs.drop (HT.sIx xs.length 0 lo)).take (HT.sIx xs.length xs.length hi - HT.sIx xs.length 0 lo)
section
variable {M : Mm} {E : XK} {σ : St} {H : Hp} {te ta tb tl : TE} {t : TT} {ts : TA} {α β γ : Type} {R : Rp α} {R' : Rp β} {ma : W (List α)} {mb : W (List β)} {K : Frag}
theorem all_bl {l : List Bool} {ws : List V} (h : All RB M l ws H) : ws = l.map V.bl := by
  have h' : Paired (fun x v => RB M x v H) l ws := h
  induction h' with
  | nil => rfl
  | cons a _ ih => rw [List.map_cons, ← ih ‹_›, show _ = V.bl _ from a]
theorem all_int {l : List Int} {ws : List V} (h : All RI M l ws H) : ws = l.map V.int := by
  have h' : Paired (fun x v => RI M x v H) l ws := h
  induction h' with
  | nil => rfl
  | cons a _ ih => rw [List.map_cons, ← ih ‹_›, show _ = V.int _ from a]
theorem c_all : Cl E (rAll K) (One (RL (All RB))) RB (fun p => W.pure (p.all id)) := by
  rintro M l vs H d ⟨v, rfl, ⟨a, ws, rfl, n, ha, hr⟩⟩ Q P PE hm q _
  have e := all_bl hr
  subst e
  exact ⟨a, l, rfl, .of ha, q _ _ H (.refl d) hm rfl⟩
theorem c_any : Cl E (rAny K) (One (RL (All RB))) RB (fun p => W.pure (p.any id)) := by
  rintro M l vs H d ⟨v, rfl, ⟨a, ws, rfl, n, ha, hr⟩⟩ Q P PE hm q _
  have e := all_bl hr
  subst e
  exact ⟨a, l, rfl, .of ha, q _ _ H (.refl d) hm rfl⟩
theorem c_sum : Cl E (rSum K) (One (RL (All RI))) RI (fun p => W.pure p.sum) := by
  rintro M l vs H d ⟨v, rfl, ⟨a, ws, rfl, n, ha, hr⟩⟩ Q P PE hm q _
  have e := all_int hr
  subst e
  exact ⟨a, l, rfl, .of ha, q _ _ H (.refl d) hm rfl⟩
theorem mx_one {l : List Int} {m : Int} (h1 : m ∈ l) (h2 : ∀ y, y ∈ l → y ≤ m) : m = mxI l := by
  have := le_mxI h1; have := h2 _ (mxI_mem (fun e => by rw [e] at h1; cases h1)); omega
theorem mn_one {l : List Int} {m : Int} (h1 : m ∈ l) (h2 : ∀ y, y ∈ l → m ≤ y) : m = mnI l := by
  have := mnI_le h1; have := h2 _ (mnI_mem (fun e => by rw [e] at h1; cases h1)); omega
theorem c_maxL : Cl E (rMax K) (One (RL (All RI))) RI (fun p => W.grd (0 < p.length) (mxI p)) := by
  rintro M l vs H d ⟨v, rfl, ⟨a, ws, rfl, n, ha, hr⟩⟩ Q P PE hm q _
  have e := all_int hr
  subst e
  exact ⟨a, l, rfl, .of ha, hm.1, fun m h1 h2 => q _ _ H (.refl d) hm.2 (by show _ = _; rw [mx_one h1 h2])⟩
theorem c_minL : Cl E (rMin K) (One (RL (All RI))) RI (fun p => W.grd (0 < p.length) (mnI p)) := by
  rintro M l vs H d ⟨v, rfl, ⟨a, ws, rfl, n, ha, hr⟩⟩ Q P PE hm q _
  have e := all_int hr
  subst e
  exact ⟨a, l, rfl, .of ha, hm.1, fun m h1 h2 => q _ _ H (.refl d) hm.2 (by show _ = _; rw [mn_one h1 h2])⟩
theorem c_maxW : Cl E (rMax K) (One (RW (All RI))) RI (fun p => W.grd (0 < p.length) (mxI p)) := by
  rintro M l vs H d ⟨v, rfl, ⟨a, ws, rfl, n, ha, hr⟩⟩ Q P PE hm q _
  have e := all_int hr
  subst e
  exact ⟨a, l, rfl, .of ha, hm.1, fun m h1 h2 => q _ _ H (.refl d) hm.2 (by show _ = _; rw [mx_one h1 h2])⟩
/-! ### parts -/
theorem all_take {l : List α} {ws : List V} (h : All R M l ws H) : ∀ n, All R M (l.take n) (ws.take n) H := fun n => by
  have h' : Paired (fun x v => R M x v H) l ws := h
  show Paired (fun x v => R M x v H) _ _
  induction h' generalizing n with
  | nil => simp; exact .nil
  | cons a b ih => cases n with
    | zero => exact .nil
    | succ n => exact .cons a (ih b n)
theorem all_drop {l : List α} {ws : List V} (h : All R M l ws H) : ∀ n, All R M (l.drop n) (ws.drop n) H := fun n => by
  have h' : Paired (fun x v => R M x v H) l ws := h
  show Paired (fun x v => R M x v H) _ _
  induction h' generalizing n with
  | nil => simp; exact .nil
  | cons a b ih => cases n with
    | zero => exact .cons a b
    | succ n => exact ih b n
theorem all_app {l k : List α} {ws us : List V} (h : All R M l ws H) (g : All R M k us H) : All R M (l ++ k) (ws ++ us) H := by
  have h' : Paired (fun x v => R M x v H) l ws := h
  show Paired (fun x v => R M x v H) _ _
  induction h' with
  | nil => exact g
  | cons a b ih => exact .cons a (ih b)
theorem all_cut {l : List α} {ws : List V} {lo hi : Option Int} (h : All R M l ws H) : All R M (cut l lo hi) (cutV ws lo hi) H := by
  unfold cut cutV
  rw [all_len h]
  exact all_take (all_drop h _) _
/-- a bound of a slice -/
def EvO (M : Mm) (E : XK) (t : TO) (σ : St) (H : Hp) (m : W (Option Int)) : Prop :=
  ∀ H1, Xt M H H1 → ∀ (Q : Option Int → Hp → Prop) (P : Option Int → Prop) (PE : Ex → Prop), m P PE → (∀ x H2, Xt M H1 H2 → P x → Q x H2) → GoE M E H1 PE → t σ H1 Q
theorem eo_none : EvO M E tNoPart σ H (W.pure none) := fun H1 e Q P PE hm q _ => q none H1 (.refl e.dice) hm
theorem eo_some {m : W Int} (h : Ev M E te σ H RI m) : EvO M E (tPart te) σ H (W.bind m fun x => W.pure (some x)) := fun H1 e Q P PE hm q g => h H1 e _ _ PE hm (fun v x H2 e2 hx rx => ⟨x, rx, q _ H2 e2 hx⟩) g
theorem ev_slT [Mo R] {tlo thi : TO} {ml mh : W (Option Int)} (h : Ev M E te σ H (RT (All R)) ma) (hl : EvO M E tlo σ H ml) (hh : EvO M E thi σ H mh) : Ev M E (L2.tSl (rSlA K) te tlo thi) σ H (RT (All R)) (W.bind ma fun x => W.bind ml fun l => W.bind mh fun u => W.pure (cut x l u)) := fun H1 e Q P PE hm q g =>
  h H1 e _ _ PE hm (fun v x H2 e2 hx rx => hl H2 (e.trans e2) _ _ PE hx (fun l H3 e3 hl' => hh H3 ((e.trans e2).trans e3) _ _ PE hl' (fun u H4 e4 hu => by
    obtain ⟨a, ws, rfl, n, ha, hr⟩ := up rx (e3.trans e4)
    have e24 := (e2.trans e3).trans e4
    refine ⟨a, ws, rfl, .of ha, fun hc => ?_, fun _ p hp => ?_⟩
    · refine q _ _ H4 e24 hu ⟨a, ws, rfl, n, ha, ?_⟩
      have e' : cut x l u = x := by
        unfold cut
        rw [← all_len hr, hc.1, hc.2]
        simp [all_len hr]
      rw [e']; exact hr
    · exact q _ _ _ (e24.trans (.new e4.dice hp)) hu ⟨p, _, rfl, e4.dice.fr hp, upd_same, MoXs.up (R := All R) (.new e4.dice hp) (all_cut hr)⟩) ((g.up e2).up e3)) (g.up e2)) g
theorem ev_slL [Mo R] {tlo thi : TO} {ml mh : W (Option Int)} (h : Ev M E te σ H (RL (All R)) ma) (hl : EvO M E tlo σ H ml) (hh : EvO M E thi σ H mh) : Ev M E (L2.tSl (rSlL K) te tlo thi) σ H (RL (All R)) (W.bind ma fun x => W.bind ml fun l => W.bind mh fun u => W.pure (cut x l u)) := fun H1 e Q P PE hm q g =>
  h H1 e _ _ PE hm (fun v x H2 e2 hx rx => hl H2 (e.trans e2) _ _ PE hx (fun l H3 e3 hl' => hh H3 ((e.trans e2).trans e3) _ _ PE hl' (fun u H4 e4 hu => by
    obtain ⟨a, ws, rfl, n, ha, hr⟩ := up rx (e3.trans e4)
    have e24 := (e2.trans e3).trans e4
    exact ⟨a, ws, rfl, .of ha, fun p hp => q _ _ _ (e24.trans (.new e4.dice hp)) hu ⟨p, _, rfl, e4.dice.fr hp, upd_same, MoXs.up (R := All R) (.new e4.dice hp) (all_cut hr)⟩⟩) ((g.up e2).up e3)) (g.up e2)) g
/-! ### + and * -/
theorem o_catA [Mo R] : Op2 E (rCatA K) (RT (All R)) (RT (All R)) (RT (All R)) (fun x y => W.grd (x.length + y.length ≤ 1000000) (x ++ y)) := by
  rintro M x y v u H d ⟨a, ws, rfl, n, ha, hr⟩ ⟨b, us, rfl, nb, hb, hs⟩ Q P PE ⟨hz, hm⟩ q _
  have h3 := all_app hr hs
  have l1 := all_len hr
  have l2 := all_len hs
  refine ⟨a, b, ws, us, rfl, rfl, .of ha, .of hb, by rw [l1, l2, sizeLine_eq]; omega, ?_⟩
  refine ⟨fun e => ?_, fun e1 e2 => ?_, fun e1 e2 p hp => ?_⟩
  · subst e
    have e : x = [] := List.eq_nil_of_length_eq_zero (by simpa using l1.symm)
    subst e
    exact q _ _ H (.refl d) hm ⟨b, us, rfl, nb, hb, hs⟩
  · subst e2
    have e : y = [] := List.eq_nil_of_length_eq_zero (by simpa using l2.symm)
    subst e
    exact q _ _ H (.refl d) hm (by rw [List.append_nil]; exact ⟨a, ws, rfl, n, ha, hr⟩)
  · exact q _ _ _ (.new d hp) hm ⟨p, _, rfl, d.fr hp, upd_same, MoXs.up (R := All R) (.new d hp) h3⟩
theorem o_catL [Mo R] : Op2 E rCat (RL (All R)) (RL (All R)) (RL (All R)) (fun x y => W.grd (x.length + y.length ≤ 1000000) (x ++ y)) := by
  rintro M x y v u H d ⟨a, ws, rfl, n, ha, hr⟩ ⟨b, us, rfl, nb, hb, hs⟩ Q P PE ⟨hz, hm⟩ q _
  exact ⟨a, b, ws, us, rfl, rfl, ha, hb, by rw [all_len hr, all_len hs, sizeLine_eq]; omega, fun p hp => q _ _ _ (.new d hp) hm ⟨p, _, rfl, d.fr hp, upd_same, MoXs.up (R := All R) (.new d hp) (all_app hr hs)⟩⟩
theorem all_rep {l : List α} {ws : List V} (h : All R M l ws H) : ∀ m, All R M (List.replicate m l).flatten (List.replicate m ws).flatten H
  | 0 => .nil
  | m + 1 => by
    rw [List.replicate_succ, List.replicate_succ, List.flatten_cons, List.flatten_cons]
    exact all_app h (all_rep h m)
theorem o_repT [Mo R] : Op2 E (rRepTA K) (RT (All R)) RI (RT (All R)) (fun l k => W.grd ((1 ≤ k ∧ k ≤ 1000) ∧ 1 ≤ l.length ∧ l.length ≤ 1000) (List.replicate k.toNat l).flatten) := by
  rintro M l k v u H d ⟨a, ws, rfl, n, ha, hr⟩ rfl Q P PE ⟨⟨h1, h2, h3⟩, hm⟩ q _
  have hl : ws.length = l.length := all_len hr
  refine ⟨a, k, ws, rfl, rfl, .of ha, fun e => by rw [e] at hl; simp at hl; omega, h1, by omega, fun e => ?_, fun _ p hp => ?_⟩
  · subst e
    exact q _ _ H (.refl d) hm (by show RT (All R) M (List.replicate 1 l).flatten (.ref a) H; simp; exact ⟨a, ws, rfl, n, ha, hr⟩)
  · exact q _ _ _ (.new d hp) hm ⟨p, _, rfl, d.fr hp, upd_same, MoXs.up (R := All R) (.new d hp) (all_rep hr k.toNat)⟩
theorem o_repL [Mo R] : Op2 E rRep (RL (All R)) RI (RL (All R)) (fun l k => W.grd (0 ≤ k ∧ k < 100000 ∧ l.length * k.toNat ≤ 1000000) (List.replicate k.toNat l).flatten) := by
  rintro M l k v u H d ⟨a, ws, rfl, n, ha, hr⟩ rfl Q P PE ⟨⟨h1, h2, h3⟩, hm⟩ q _
  exact ⟨a, k, ws, rfl, rfl, ha, by omega, by omega, by rw [all_len hr]; exact Nat.le_trans h3 (by decide), fun p hp => q _ _ _ (.new d hp) hm ⟨p, _, rfl, d.fr hp, upd_same, MoXs.up (R := All R) (.new d hp) (all_rep hr k.toNat)⟩⟩
theorem ea_star [MoX R] {ms mr : W (List α)} (ha : Ev M E te σ H (RT (All R)) ms) (hb : EvA M E ts σ H (All R) mr) : EvA M E (tStar K te ts) σ H (All R) (W.bind ms fun l => W.bind mr fun k => W.pure (l ++ k)) := fun H1 e Q P PE hm q g =>
  ha H1 e _ _ PE hm (fun v x H2 e2 hx ⟨a, ws, h1, n, ht, hr⟩ => ⟨a, ws, h1, .of ht, hb H2 (e.trans e2) _ _ PE hx (fun us y H3 e3 hy ry => q _ _ H3 (e2.trans e3) hy (all_app (MoXs.up (R := All R) e3 hr) ry)) (g.up e2)⟩) g
/-! ### zip -/
theorem zip_at {xs : List α} {ys : List β} {i : Nat} {x : α} {y : β} (h1 : xs[i]? = some x) (h2 : ys[i]? = some y) : (xs.zip ys)[i]? = some (x, y) := by
  rw [List.getElem?_zip_eq_some]; exact ⟨h1, h2⟩
theorem ei_zipL [Mo R] [Mo R'] {m : W (List α × List β)} (h : EvA M E ts σ H (Cons (RL (All R)) (One (RL (All R')))) m) : EvI Lk M E (iZipA K ts) σ H (RT (Cons R (One R'))) (W.bind m fun l => W.pure (l.1.zip l.2)) := fun H1 e Q P PE hm q g =>
  h H1 e _ _ PE hm (fun vs xs H2 e2 hx ⟨v, r, h0, ⟨a, ws, h1, h2, h3, h4⟩, w, h5, ⟨b, us, k1, k2, k3, k4⟩⟩ => by
    subst h1 h5 k1
    refine ⟨a, b, ws, us, h0, .inl ⟨.of h3, .of k3, q _ _ H2 e2 hx (ypair (walk_zip (K := K) (a := a) (b := b) (xs := ws) (ys := us) rfl) (by rw [List.length_zip, all_len h4, all_len k4]) (fun M' H' e => ⟨.of (e.k a _ h2 h3).1, .of (e.k b _ k2 k3).1⟩) fun M' H' e i u v h5 h6 => ?_)⟩⟩
    obtain ⟨x, z1, z2⟩ := paired_at' (Mos.lk (R := All R) e h4) h5
    obtain ⟨y, z3, z4⟩ := paired_at' (Mos.lk (R := All R') e k4) h6
    exact ⟨x, y, zip_at z1 z3, z2, z4⟩) g
theorem ei_zipT [Mo R] [Mo R'] {m : W (List α × List β)} (h : EvA M E ts σ H (Cons (RT (All R)) (One (RT (All R')))) m) : EvI Lk M E (iZipA K ts) σ H (RT (Cons R (One R'))) (W.bind m fun l => W.pure (l.1.zip l.2)) := fun H1 e Q P PE hm q g =>
  h H1 e _ _ PE hm (fun vs xs H2 e2 hx ⟨v, r, h0, ⟨a, ws, h1, h2, h3, h4⟩, w, h5, ⟨b, us, k1, k2, k3, k4⟩⟩ => by
    subst h1 h5 k1
    have wz : Walk (ItzT K a b) (min ws.length us.length) (fun H => SqT K H a ws ∧ SqT K H b us) (YPair (fun i => ws[i]?) (fun i => us[i]?)) := by
      refine ⟨fun i _ hi q => ?_, fun _ q => ⟨ws, us, q.1, q.2, by omega⟩, fun i H v H' _ q y => ?_⟩
      · have z1 : i < ws.length := by omega
        have z2 : i < us.length := by omega
        exact ⟨ws, us, ws[i], us[i], q.1, q.2, by simp [z1], by simp [z2]⟩
      · obtain ⟨T, x, z, z1, z2, z3, z4, z5⟩ := y
        exact ⟨T, x, z, z1, z2, z3, z4 ws q.1, z5 us q.2⟩
    refine ⟨a, b, ws, us, h0, .inr ⟨.of h3, .of k3, q _ _ H2 e2 hx (ypair wz (by rw [List.length_zip, all_len h4, all_len k4]) (fun M' H' e => ⟨.of (e.k a _ h2 h3).1, .of (e.k b _ k2 k3).1⟩) fun M' H' e i u v h5 h6 => ?_)⟩⟩
    obtain ⟨x, z1, z2⟩ := paired_at' (Mos.lk (R := All R) e h4) h5
    obtain ⟨y, z3, z4⟩ := paired_at' (Mos.lk (R := All R') e k4) h6
    exact ⟨x, y, zip_at z1 z3, z2, z4⟩) g
end
end MW

/-! wH: dicts with tuple keys, records, more that is walked. -/
namespace MW
open PySem PySem.Spec PyProof.Rows L2 GB
/-! ### tuples as keys -/
class Kys {α : Type} (S : Rs α) where
  im : α → List Key
  inj : ∀ x y, im x = im y → x = y
  of : ∀ {M x vs H}, S M x vs H → vs = (im x).map kV
  to : ∀ {M x H}, S M x ((im x).map kV) H
class Ky {α : Type} (R : Rp α) where
  im : α → List Key
  inj : ∀ x y, im x = im y → x = y
  of : ∀ {M x v H}, R M x v H → ∃ b, v = .ref b ∧ H b = some (.tup ((im x).map kV))
  to : ∀ {M x b H}, DiceM M H → H b = some (.tup ((im x).map kV)) → R M x (.ref b) H
section
variable {α β : Type}
instance : Kys (All RI) := ⟨fun l => l.map Sum.inl, fun x y h => (List.map_inj_right (fun a b e => Sum.inl.inj e)).mp h, fun {M x vs H} h => by
    have h' : Paired (fun (x : Int) v => RI M x v H) x vs := h
    induction h' with
    | nil => rfl
    | cons a _ ih => rw [List.map_cons, List.map_cons, ← ih ‹_›]; exact congrArg (· :: _) a,
  fun {M x H} => by
    show Paired _ _ _
    induction x with
    | nil => exact .nil
    | cons a r ih => exact .cons rfl ih⟩
instance : Kys (All RS) := ⟨fun l => l.map Sum.inr, fun x y h => (List.map_inj_right (fun a b e => Sum.inr.inj e)).mp h, fun {M x vs H} h => by
    have h' : Paired (fun (x : Str) v => RS M x v H) x vs := h
    induction h' with
    | nil => rfl
    | cons a _ ih => rw [List.map_cons, List.map_cons, ← ih ‹_›]; exact congrArg (· :: _) a,
  fun {M x H} => by
    show Paired _ _ _
    induction x with
    | nil => exact .nil
    | cons a r ih => exact .cons rfl ih⟩
instance : Kys (One RI) := ⟨fun i => [.inl i], fun x y h => by simpa using h, fun ⟨v, e, h⟩ => by rw [e, show v = .int _ from h]; rfl, fun {M x H} => ⟨_, rfl, rfl⟩⟩
instance : Kys (One RS) := ⟨fun i => [.inr i], fun x y h => by simpa using h, fun ⟨v, e, h⟩ => by rw [e, show v = .str _ from h]; rfl, fun {M x H} => ⟨_, rfl, rfl⟩⟩
instance {S : Rs β} [k : Kys S] : Kys (Cons RI S) := ⟨fun p => .inl p.1 :: k.im p.2, fun x y h => by
    obtain ⟨h1, h2⟩ := List.cons.inj h
    exact Prod.ext (Sum.inl.inj h1) (k.inj _ _ h2), fun ⟨v, r, e, h, h2⟩ => by rw [e, show v = .int _ from h, k.of h2]; rfl, fun {M x H} => ⟨_, _, rfl, rfl, k.to⟩⟩
instance {S : Rs β} [k : Kys S] : Kys (Cons RS S) := ⟨fun p => .inr p.1 :: k.im p.2, fun x y h => by
    obtain ⟨h1, h2⟩ := List.cons.inj h
    exact Prod.ext (Sum.inr.inj h1) (k.inj _ _ h2), fun ⟨v, r, e, h, h2⟩ => by rw [e, show v = .str _ from h, k.of h2]; rfl, fun {M x H} => ⟨_, _, rfl, rfl, k.to⟩⟩
instance {S : Rs α} [k : Kys S] : Ky (RT S) := ⟨k.im, k.inj, fun ⟨a, vs, h1, h2, h3, h4⟩ => ⟨a, h1, by rw [← k.of h4]; exact h3⟩, fun {M x b H} d h => ⟨b, _, rfl, d.tup h, h, k.to⟩⟩
end
/-! ### dicts -/
section
variable {κ ν : Type} [DecidableEq κ]
def dlook (l : List (κ × ν)) (k : κ) : Option ν := (l.find? fun p => decide (p.1 = k)).map (·.2)
def dput (l : List (κ × ν)) (k : κ) (v : ν) : List (κ × ν) := if (l.any fun p => decide (p.1 = k)) = true then l.map (fun p => if p.1 = k then (p.1, v) else p) else l ++ [(k, v)]
def dhas (l : List (κ × ν)) (k : κ) : Bool := l.any fun p => decide (p.1 = k)
theorem dhas_eq (l : List (κ × ν)) (k : κ) : dhas l k = (dlook l k).isSome := by
  unfold dhas dlook
  induction l with
  | nil => rfl
  | cons p r ih =>
    rw [List.any_cons, List.find?_cons]
    by_cases e : p.1 = k
    · simp [e]
    · simp only [e, decide_false, Bool.false_or]; exact ih
theorem dhas_iff {l : List (κ × ν)} {k : κ} : dhas l k = true ↔ k ∈ l.map Prod.fst := by
  unfold dhas
  simp only [List.any_eq_true, decide_eq_true_eq, List.mem_map]
end
/-- entries -/
def Ent {κ ν : Type} (Rk : Rp κ) [k : Ky Rk] (Rv : Rp ν) (M : Mm) (l : List (κ × ν)) (kvs : List (List Key × V)) (H : Hp) : Prop := Paired (fun p q => q.1 = k.im p.1 ∧ Rv M p.2 q.2 H) l kvs
/-- a dict with tuple keys that changes no more -/
def RDt {κ ν : Type} (Rk : Rp κ) [Ky Rk] (Rv : Rp ν) : Rp (List (κ × ν)) := fun M l v H => ∃ a od kvs, v = .ref a ∧ M.fr a ∧ H a = some (.frz od (.dT kvs)) ∧ Ent Rk Rv M l kvs H
/-- .. at D, that may change -/
def RDAt (D : Addr) {κ ν : Type} (Rk : Rp κ) [Ky Rk] (Rv : Rp ν) : Rp (List (κ × ν)) := fun M l v H => v = .ref D ∧ M.d ≠ some D ∧ ∃ kvs, H D = some (.dT kvs) ∧ Ent Rk Rv M l kvs H
def RDW {κ ν : Type} (Rk : Rp κ) [Ky Rk] (Rv : Rp ν) : Rp (List (κ × ν)) := fun M l v H => ∃ D, RDAt D Rk Rv M l v H
class IsDt {κ ν : Type} (R : Rp (List (κ × ν))) (Rk : outParam (Rp κ)) [Ky Rk] (Rv : outParam (Rp ν)) : Prop where
  rd : ∀ {M l v H}, R M l v H → ∃ a kvs, v = .ref a ∧ Rd H a (.dT kvs) ∧ Ent Rk Rv M l kvs H
section
variable {κ ν : Type} {Rk : Rp κ} [k : Ky Rk] {Rv : Rp ν} {M M' : Mm} {H H' : Hp} {l : List (κ × ν)} {kvs : List (List Key × V)} {D : Addr}
theorem Ent.lk [Mo Rv] (e : Lk M H M' H') (h : Ent Rk Rv M l kvs H) : Ent Rk Rv M' l kvs H' := paired_imp (fun _ _ z => ⟨z.1, Mo.lk (R := Rv) e z.2⟩) h
theorem Ent.lkx [MoX Rv] (e : LkX M H M' H') (h : Ent Rk Rv M l kvs H) : Ent Rk Rv M' l kvs H' := paired_imp (fun _ _ z => ⟨z.1, MoX.lk (R := Rv) e z.2⟩) h
instance [Mo Rv] : Mo (RDt Rk Rv) := ⟨fun e ⟨a, od, kvs, h1, h2, h3, h4⟩ => ⟨a, od, kvs, h1, (e.k _ _ h2 h3).2, (e.k _ _ h2 h3).1, h4.lk e⟩⟩
instance [MoX Rv] : MoX (RDAt D Rk Rv) := ⟨fun e ⟨h1, h2, kvs, h3, h4⟩ => ⟨h1, e.d ▸ h2, kvs, e.kx _ _ h2 h3, h4.lkx e⟩⟩
instance [MoX Rv] : MoX (RDW Rk Rv) := ⟨fun e ⟨D, h⟩ => ⟨D, MoX.lk e h⟩⟩
instance : IsDt (RDt Rk Rv) Rk Rv := ⟨fun ⟨a, od, kvs, h1, h2, h3, h4⟩ => ⟨a, kvs, h1, .inr ⟨od, h3⟩, h4⟩⟩
instance : IsDt (RDW Rk Rv) Rk Rv := ⟨fun ⟨a, h1, h2, kvs, h3, h4⟩ => ⟨a, kvs, h1, .inl h3, h4⟩⟩
theorem RDAt.w {v : V} (h : RDAt D Rk Rv M l v H) : RDW Rk Rv M l v H := ⟨D, h⟩
theorem RDAt.ne {v : V} {D' : Addr} (h : RDAt D Rk Rv M l v H) (n : H D' = none) : D ≠ D' := by obtain ⟨_, _, kvs, h3, _⟩ := h; exact ne_of_none h3 n
theorem ent_len (h : Ent Rk Rv M l kvs H) : kvs.length = l.length := paired_len h
/-- what a key finds -/
theorem ent_look [DecidableEq κ] (h : Ent Rk Rv M l kvs H) (x : κ) : (∀ y, dlook l x = some y → ∃ v, valV kvs (k.im x) = some v ∧ Rv M y v H) ∧ (dlook l x = none → valV kvs (k.im x) = none) := by
  have h' : Paired (fun (p : κ × ν) (q : List Key × V) => q.1 = k.im p.1 ∧ Rv M p.2 q.2 H) l kvs := h
  clear h
  induction h' with
  | nil => exact ⟨fun y e => (nomatch e), fun _ => rfl⟩
  | @cons p q ps qs a t ih =>
    by_cases e : p.1 = x
    · have e1 : dlook (p :: ps) x = some p.2 := by unfold dlook; rw [List.find?_cons]; simp [e]
      have e2 : valV (q :: qs) (k.im x) = some q.2 := valV_pos (by rw [a.1, e])
      refine ⟨fun y z => ?_, fun z => ?_⟩
      · rw [e1] at z; cases z; exact ⟨_, e2, a.2⟩
      · rw [e1] at z; cases z
    · have e1 : dlook (p :: ps) x = dlook ps x := by unfold dlook; rw [List.find?_cons]; simp [e]
      have e2 : valV (q :: qs) (k.im x) = valV qs (k.im x) := valV_neg (fun z => e (k.inj _ _ (a.1 ▸ z)))
      rw [e1, e2]; exact ih
theorem ent_has [DecidableEq κ] (h : Ent Rk Rv M l kvs H) (x : κ) : (valV kvs (k.im x)).isSome = dhas l x := by
  rw [dhas_eq]
  cases e : dlook l x with
  | none => rw [(ent_look h x).2 e]; rfl
  | some y => obtain ⟨v, h1, _⟩ := (ent_look h x).1 y e; rw [h1]; rfl
theorem ent_put [DecidableEq κ] (h : Ent Rk Rv M l kvs H) (x : κ) {y : ν} {v : V} (r : Rv M y v H) : Ent Rk Rv M (dput l x y) (putK kvs (k.im x) v) H := by
  unfold dput putK
  have hb : (kvs.any fun kv => decide (kv.1 = k.im x)) = (l.any fun p => decide (p.1 = x)) := by rw [valV_any]; exact ent_has h x
  rw [hb]
  have h' : Paired (fun (p : κ × ν) (q : List Key × V) => q.1 = k.im p.1 ∧ Rv M p.2 q.2 H) l kvs := h
  split
  · rename_i hy
    clear hb h hy
    show Paired _ _ _
    induction h' with
    | nil => exact .nil
    | @cons p q ps qs a t ih =>
      refine .cons ?_ ih
      show (if q.1 = k.im x then (q.1, v) else q).1 = k.im (if p.1 = x then (p.1, y) else p).1 ∧ Rv M (if p.1 = x then (p.1, y) else p).2 (if q.1 = k.im x then (q.1, v) else q).2 H
      by_cases e : p.1 = x
      · rw [if_pos e, if_pos (by rw [a.1, e])]; exact ⟨a.1, r⟩
      · rw [if_neg e, if_neg (fun z => e (k.inj _ _ (a.1 ▸ z)))]; exact a
  · exact Paired.snoc h' ⟨rfl, r⟩
theorem ent_app {l2 : List (κ × ν)} {kvs2 : List (List Key × V)} (h : Ent Rk Rv M l kvs H) (g : Ent Rk Rv M l2 kvs2 H) : Ent Rk Rv M (l ++ l2) (kvs ++ kvs2) H := by
  have h' : Paired (fun (p : κ × ν) (q : List Key × V) => q.1 = k.im p.1 ∧ Rv M p.2 q.2 H) l kvs := h
  show Paired _ _ _
  induction h' with
  | nil => exact g
  | cons a b ih => exact .cons a (ih b)
end
section
variable {κ ν α β γ δ : Type} {Rk : Rp κ} [k : Ky Rk] {Rv : Rp ν} {M M0 : Mm} {E : XK} {σ : St} {H H0 : Hp} {te td tk tv to : TE} {D : Addr} {Rd' : Rp (List (κ × ν))} {md : W (List (κ × ν))} {mk : W κ} {mv : W ν} {i j : Nat} {w : TS} {En : Ends} {P : δ → Prop} {PE : Ex → Prop}
/-! reading -/
theorem ev_din [DecidableEq κ] [MoX Rk] [MoX Rv] [IsDt Rd' Rk Rv] (hk : Ev M E tk σ H Rk mk) (hd : Ev M E td σ H Rd' md) : Ev M E (tDIn tk td) σ H RB (W.bind mk fun x => W.bind md fun l => W.pure (dhas l x)) := fun H1 e Q P PE hm q g =>
  hk H1 e _ _ PE hm (fun v x H2 e2 hx rk => hd H2 (e.trans e2) _ _ PE hx (fun u l H3 e3 hl rd => by
    obtain ⟨a, kvs, rfl, ha, he⟩ := IsDt.rd rd
    obtain ⟨b, hb, h1⟩ := k.of (up rk e3)
    subst hb
    refine ⟨a, _, rfl, .inr ⟨kvs, _, b, ha, rfl, h1, rfl⟩, q _ _ H3 (e2.trans e3) hl ?_⟩
    exact congrArg V.bl (ent_has he x)) (g.up e2)) g
theorem ev_dnin [DecidableEq κ] [MoX Rk] [MoX Rv] [IsDt Rd' Rk Rv] (hk : Ev M E tk σ H Rk mk) (hd : Ev M E td σ H Rd' md) : Ev M E (tDNotIn tk td) σ H RB (W.bind mk fun x => W.bind md fun l => W.pure (!dhas l x)) := fun H1 e Q P PE hm q g =>
  hk H1 e _ _ PE hm (fun v x H2 e2 hx rk => hd H2 (e.trans e2) _ _ PE hx (fun u l H3 e3 hl rd => by
    obtain ⟨a, kvs, rfl, ha, he⟩ := IsDt.rd rd
    obtain ⟨b, hb, h1⟩ := k.of (up rk e3)
    subst hb
    refine ⟨a, _, rfl, .inr ⟨kvs, _, b, ha, rfl, h1, rfl⟩, q _ _ H3 (e2.trans e3) hl ?_⟩
    exact congrArg (fun b => V.bl !b) (ent_has he x)) (g.up e2)) g
theorem ev_dget [DecidableEq κ] [MoX Rd'] [IsDt Rd' Rk Rv] (hd : Ev M E td σ H Rd' md) (hk : Ev M E tk σ H Rk mk) : Ev M E (tDGet td tk) σ H Rv (W.bind md fun l => W.bind mk fun x => W.get (dlook l x)) := fun H1 e Q P PE hm q g =>
  hd H1 e _ _ PE hm (fun u l H2 e2 hl rd => hk H2 (e.trans e2) _ _ PE hl (fun v x H3 e3 ⟨y, hy, hp⟩ rk => by
    obtain ⟨a, kvs, rfl, ha, he⟩ := IsDt.rd (up rd e3)
    obtain ⟨b, hb, h1⟩ := k.of rk
    subst hb
    obtain ⟨z, h2, h3⟩ := (ent_look he x).1 y hy
    exact ⟨a, z, rfl, .inr ⟨kvs, _, b, ha, rfl, h1, h2.symm⟩, q _ _ H3 (e2.trans e3) hp h3⟩) (g.up e2)) g
theorem ev_dgetN [DecidableEq κ] [MoX Rd'] [IsDt Rd' Rk Rv] (hd : Ev M E td σ H Rd' md) (hk : Ev M E tk σ H Rk mk) : Ev M E (tDGet2 td tk (tC .non)) σ H (ROpt Rv) (W.bind md fun l => W.bind mk fun x => W.pure (dlook l x)) := fun H1 e Q P PE hm q g =>
  hd H1 e _ _ PE hm (fun u l H2 e2 hl rd => by
    obtain ⟨a, kvs, rfl, ha, he⟩ := IsDt.rd rd
    refine ⟨a, rfl, .inr ⟨kvs, ha⟩, hk H2 (e.trans e2) _ _ PE hl (fun v x H3 e3 hp rk => ?_) (g.up e2)⟩
    obtain ⟨a', kvs, ea, ha, he⟩ := IsDt.rd (up rd e3)
    cases ea
    obtain ⟨b, hb, h1⟩ := k.of rk
    subst hb
    refine ⟨_, .inr ⟨kvs, _, b, ha, rfl, h1, rfl⟩, q _ _ H3 (e2.trans e3) hp ?_⟩
    cases hy : dlook l x with
    | none => rw [(ent_look he x).2 hy]; rfl
    | some y => obtain ⟨z, h2, h3⟩ := (ent_look he x).1 y hy; rw [h2]; exact h3) g
theorem ev_dgetD [DecidableEq κ] [MoX Rd'] [MoX Rk] [MoX Rv] [IsDt Rd' Rk Rv] (hd : Ev M E td σ H Rd' md) (hk : Ev M E tk σ H Rk mk) (hv : Ev M E tv σ H Rv mv) : Ev M E (tDGet2 td tk tv) σ H Rv (W.bind md fun l => W.bind mk fun x => W.bind mv fun y => W.pure ((dlook l x).getD y)) := fun H1 e Q P PE hm q g =>
  hd H1 e _ _ PE hm (fun u l H2 e2 hl rd => by
    obtain ⟨a, kvs, rfl, ha, he⟩ := IsDt.rd rd
    refine ⟨a, rfl, .inr ⟨kvs, ha⟩, hk H2 (e.trans e2) _ _ PE hl (fun v x H3 e3 hp rk => hv H3 ((e.trans e2).trans e3) _ _ PE hp (fun v2 y H4 e4 hp rv => ?_) ((g.up e2).up e3)) (g.up e2)⟩
    obtain ⟨a', kvs, ea, ha, he⟩ := IsDt.rd (up rd (e3.trans e4))
    cases ea
    obtain ⟨b, hb, h1⟩ := k.of (up rk e4)
    subst hb
    refine ⟨_, .inr ⟨kvs, _, b, ha, rfl, h1, rfl⟩, q _ _ H4 ((e2.trans e3).trans e4) hp ?_⟩
    cases hy : dlook l x with
    | none => rw [(ent_look he x).2 hy]; exact rv
    | some y => obtain ⟨z, h2, h3⟩ := (ent_look he x).1 y hy; rw [h2]; exact h3) g
/-! new ones -/
abbrev TD (Rk : Rp κ) [Ky Rk] (Rv : Rp ν) : Mm → Addr → List (κ × ν) → Hp → Prop := fun M a x H => RDAt a Rk Rv M x (.ref a) H
theorem ef_dnew : EvF M E tDNewT σ H (TD Rk Rv) (W.pure []) := fun H1 e Q P PE hm q _ p hp => q p [] _ (.new e.dice hp) hp ⟨_, upd_same, inferInstance⟩ hm ⟨rfl, (e.dice.fr hp).1, [], upd_same, .nil⟩
/-- the pairs of a display -/
def EvPT (M : Mm) (E : XK) (trs : List (TE × TE)) (σ : St) (H : Hp) {κ ν : Type} (Rk : Rp κ) [Ky Rk] (Rv : Rp ν) (n : Nat) (m : W (List (κ × ν))) : Prop :=
  ∀ H1, Xt M H H1 → ∀ (Q : List (V × V) → Hp → Prop) (P : List (κ × ν) → Prop) (PE : Ex → Prop), m P PE → (∀ ps l kvs H2, Xt M H1 H2 → P l → l.length = n → GX.PrT H2 ps kvs → Ent Rk Rv M l kvs H2 → Q ps H2) → GoE M E H1 PE → tPairs trs σ H1 Q
theorem ept_nil : EvPT M E [] σ H Rk Rv 0 (W.pure []) := fun H1 e Q P PE hm q _ => q [] [] [] H1 (.refl e.dice) hm rfl .nil .nil
theorem ept_cons [MoX Rk] [MoX Rv] {trs : List (TE × TE)} {n : Nat} {mr : W (List (κ × ν))} (hk : Ev M E tk σ H Rk mk) (hv : Ev M E tv σ H Rv mv) (hr : EvPT M E trs σ H Rk Rv n mr) : EvPT M E ((tk, tv) :: trs) σ H Rk Rv (n + 1) (W.bind mk fun x => W.bind mv fun y => W.bind mr fun l => W.pure ((x, y) :: l)) := fun H1 e Q P PE hm q g =>
  hk H1 e _ _ PE hm (fun v x H2 e2 hx rk => hv H2 (e.trans e2) _ _ PE hx (fun u y H3 e3 hy rv => hr H3 ((e.trans e2).trans e3) _ _ PE hy (fun ps l kvs H4 e4 hl hn hp he => by
    obtain ⟨b, hb, h1⟩ := k.of (up rk (e3.trans e4))
    exact q _ _ ((k.im x, u) :: kvs) H4 ((e2.trans e3).trans e4) hl (by rw [List.length_cons, hn]) (.cons ⟨b, hb, h1, rfl⟩ hp) (.cons ⟨rfl, up rv e4⟩ he)) ((g.up e2).up e3)) (g.up e2)) g
def dmerge [DecidableEq κ] (l more : List (κ × ν)) : List (κ × ν) := more.foldl (fun acc p => dput acc p.1 p.2) l
theorem ent_merge [DecidableEq κ] {more : List (κ × ν)} {kvs2 : List (List Key × V)} (g : Ent Rk Rv M more kvs2 H) : ∀ {l : List (κ × ν)} {kvs : List (List Key × V)}, Ent Rk Rv M l kvs H → Ent Rk Rv M (dmerge l more) (GX.mergeT kvs kvs2) H := by
  have g' : Paired (fun (p : κ × ν) (q : List Key × V) => q.1 = k.im p.1 ∧ Rv M p.2 q.2 H) more kvs2 := g
  clear g
  induction g' with
  | nil => intro l kvs h; exact h
  | @cons p q ps qs a t ih =>
    intro l kvs h
    show Ent Rk Rv M (dmerge (dput l p.1 p.2) ps) (GX.mergeT (putK kvs q.1 q.2) qs) H
    rw [a.1]
    exact ih (ent_put h p.1 a.2)
/-- inside a display: the new thing stands there and may change -/
theorem in_new {p : Addr} {o : HO} [NT o] (d : DiceM M H) (h : H p = none) : LkX M H (M.add p) (upd H p o) ∧ DiceM (M.add p) (upd H p o) :=
  ⟨(LkX.add h).trans ⟨⟨rfl, rfl, fun b u f e => ⟨by rw [upd_ne (ne_of_none e h)]; exact e, f⟩⟩, fun b u n e => by rw [upd_ne (ne_of_none e h)]; exact e⟩, d.add h upd_same (.new d h)⟩
theorem out_new {p : Addr} {o u : HO} [NT u] {H1 H2 : Hp} (d : DiceM M H) (h : H p = none) (e : Xt (M.add p) (upd H p o) H2) : Xt M H (upd H2 p u) :=
  ⟨fun a x n z => by rw [upd_ne (ne_of_none z h)]; exact e.keep a x n (by rw [upd_ne (ne_of_none z h)]; exact z), (e.dice.put List.mem_cons_self).wk Mm.le.refl.add⟩
theorem out_new' {p : Addr} {o : HO} {H2 : Hp} (d : DiceM M H) (h : H p = none) (e : Xt (M.add p) (upd H p o) H2) : Xt M H H2 :=
  ⟨fun a x n z => e.keep a x n (by rw [upd_ne (ne_of_none z h)]; exact z), e.dice.wk Mm.le.refl.add⟩
theorem goe_new {p : Addr} {o : HO} [NT o] (d : DiceM M H) (h : H p = none) (g : GoE M E H PE) : GoE (M.add p) E (upd H p o) PE := g.at (.new d h) Mm.le.refl.add
/-- a filled one, frozen at once -/
theorem ev_dispT [DecidableEq κ] [Mo Rv] {trs : List (TE × TE)} {n : Nat} {m : W (List (κ × ν))} (h : ∀ M' H', LkX M H M' H' → DiceM M' H' → EvPT M' E trs σ H' Rk Rv n m) (hn : n ≤ 15) : Ev M E (GX.tFrz (GX.tDispT trs)) σ H (RDt Rk Rv) (W.bind m fun l => W.pure (dmerge [] l)) := fun H1 e Q P PE hm q g => by
  show GX.tDispT trs σ H1 _
  intro p hp
  obtain ⟨lk, dp⟩ := in_new (o := .dT []) e.dice hp
  refine h _ _ (e.x.trans lk) dp _ (.refl dp) _ _ PE hm (fun ps l kvs H2 e2 hl hk hp2 he => ?_) (goe_new e.dice hp g)
  have n := (e.dice.fr hp).1
  have h2 : H2 p = some (.dT []) := e2.keep p _ n upd_same
  refine ⟨h2, kvs, hp2, by rw [ent_len he, hk]; exact hn, p, _, rfl, upd_same, trivial, fun od => ?_⟩
  rw [upd_upd]
  have e3 : Xt M H1 (upd H2 p (.frz od (.dT (GX.mergeT [] kvs)))) := out_new (H1 := H1) e.dice hp e2
  refine q _ _ _ e3 hl ⟨p, od, _, rfl, e.dice.fr hp, upd_same, ?_⟩
  have em : Xm (M.add p) H2 (upd H2 p (.frz od (.dT (GX.mergeT [] kvs)))) := .put e2.dice List.mem_cons_self
  exact ((ent_merge he .nil).lk em.k).lkx (Mm.le.x Mm.le.refl.add)
/-- a filled one that will change -/
theorem ef_dispT [DecidableEq κ] [Mo Rv] {trs : List (TE × TE)} {n : Nat} {m : W (List (κ × ν))} (h : ∀ M' H', LkX M H M' H' → DiceM M' H' → EvPT M' E trs σ H' Rk Rv n m) (hn : n ≤ 15) : EvF M E (GX.tDispT trs) σ H (TD Rk Rv) (W.bind m fun l => W.pure (dmerge [] l)) := fun H1 e Q P PE hm q g p hp => by
  obtain ⟨lk, dp⟩ := in_new (o := .dT []) e.dice hp
  refine h _ _ (e.x.trans lk) dp _ (.refl dp) _ _ PE hm (fun ps l kvs H2 e2 hl hk hp2 he => ?_) (goe_new e.dice hp g)
  have n := (e.dice.fr hp).1
  have h2 : H2 p = some (.dT []) := e2.keep p _ n upd_same
  refine ⟨h2, kvs, hp2, by rw [ent_len he, hk]; exact hn, ?_⟩
  have e3 : Xt M H1 (upd H2 p (.dT (GX.mergeT [] kvs))) := out_new (H1 := H1) e.dice hp e2
  refine q p _ _ e3 hp ⟨_, upd_same, inferInstance⟩ hl ⟨rfl, n, _, upd_same, ?_⟩
  have em : Xm (M.add p) H2 (upd H2 p (.dT (GX.mergeT [] kvs))) := .put e2.dice List.mem_cons_self
  exact (ent_merge he .nil).lk em.k
/-! D[k] = v -/
theorem q_dput [DecidableEq κ] [Mo Rk] [Mo Rv] {l : List (κ × ν)} {kk : List (κ × ν) → W δ} (d : DiceM M H) (go : GoE M E H PE) (ho : ∀ H (Q : VK), Q (.ref D) H → to σ H Q) (a : RDAt D Rk Rv M l (.ref D) H) (mD : D ∈ M.l) (hv : Ev M E tv σ H Rv mv) (hk : Ev M E tk σ H Rk mk)
    (hm : W.bind (W.bind mv fun y => W.bind mk fun x => W.grd (l.length < 1000000) (dput l x y)) kk P PE) (c : ∀ x H2, Put D M H H2 → RDAt D Rk Rv M x (.ref D) H2 → kk x P PE → w En σ H2) : tSeq (sDPut to tk tv) w En σ H := by
  obtain ⟨_, n, kvs, h1, h2⟩ := a
  refine hv H (.refl d) _ _ PE hm (fun v y H4 e4 hy ry => ho _ _ ?_) go
  refine hk H4 e4 _ _ PE hy (fun u x H5 e5 hx rk => ?_) (go.up e4)
  have e45 := e4.trans e5
  obtain ⟨b, hb, h6⟩ := k.of rk
  subst hb
  have h4 : H5 D = some (.dT kvs) := e45.keep D _ n h1
  have h2' := h2.lkx e45.x
  refine ⟨D, _, rfl, .inr ⟨kvs, _, b, h4, rfl, h6, by rw [ent_len h2, sizeLine_eq]; have := hx.1; omega, rfl⟩, ?_⟩
  have em : Xm M H5 (upd H5 D (.dT (putK kvs (k.im x) v))) := .put e5.dice mD
  exact c _ _ ⟨⟨H5, _, e45, inferInstance, rfl⟩, mD⟩ ⟨rfl, n, _, upd_same, (ent_put h2' x (up ry e5)).lk em.k⟩ hx.2
theorem l_dput [DecidableEq κ] [Mo Rk] [Mo Rv] {l : List (κ × ν)} {kk : List (κ × ν) → W δ} (d : DiceM M H) (go : GoE M E H PE) (ho : ∀ H (Q : VK), Q (.ref D) H → to σ H Q) (a : RDAt D Rk Rv M l (.ref D) H) (mD : D ∈ M.l) (hv : Ev M E tv σ H Rv mv) (hk : Ev M E tk σ H Rk mk)
    (hm : W.bind (W.bind mv fun y => W.bind mk fun x => W.grd (l.length < 1000000) (dput l x y)) kk P PE) (c : ∀ x H2, Put D M H H2 → RDAt D Rk Rv M x (.ref D) H2 → kk x P PE → En.nx σ H2) : sDPut to tk tv En σ H := q_dput (w := fun D => D.nx) (En := En) d go ho a mD hv hk hm c
theorem Put.othD [Mo Rv] {l : List (κ × ν)} {v : V} {D' : Addr} (p : Put D M H H0) (h : RDAt D' Rk Rv M l v H) (n : D' ≠ D) : RDAt D' Rk Rv M l v H0 := by
  have em := p.xm
  obtain ⟨H1, o, e, nto, rfl⟩ := p.at_
  obtain ⟨h1, h2, kvs, h3, h4⟩ := h
  exact ⟨h1, h2, kvs, by rw [upd_ne n]; exact e.keep _ _ h2 h3, h4.lk em.k⟩
/-! D changes no more -/
theorem fr_of (d : DiceM M0 H0) (n : H0 D = none) : M0.fr D := d.fr n
theorem le_del (l : M0.le M) (d : DiceM M0 H0) (n : H0 D = none) : M0.le (M.del D) := ⟨l.d, fun a m => Mm.del_in (l.l a m) (fun z => by
  obtain ⟨_, o, h, _⟩ := d.l a m
  rw [z, n] at h; cases h), l.ca⟩
theorem q_frzD [Mo Rv] {l : List (κ × ν)} {te : TE} {kk : List (κ × ν) → W δ} (d : DiceM M H) (ho : ∀ H (Q : VK), Q (.ref D) H → te σ H Q) (a : RDAt D Rk Rv M l (.ref D) H) (mD : D ∈ M.l) (hm : W.bind (W.pure l) kk P PE)
    (c : ∀ v x H2, Put D M H H2 → DiceM (M.del D) H2 → kk x P PE → RDt Rk Rv (M.del D) x v H2 → w En (σ.set i (some v)) H2) : tSeq (tAsg (GX.tFrz te) (gName i)) w En σ H := by
  obtain ⟨_, n, kvs, h1, h2⟩ := a
  refine ho _ _ ⟨D, _, rfl, h1, trivial, fun od => ?_⟩
  have em : Xm M H (upd H D (.frz od (.dT kvs))) := .put d mD
  exact c _ _ _ ⟨⟨H, _, .refl d, inferInstance, rfl⟩, mD⟩ (em.dice.wk Mm.del_le) hm ⟨D, od, kvs, rfl, ⟨n, fun m => by have := (List.mem_filter.mp m).2; simp at this⟩, upd_same, (h2.lk em.k).lkx (Mm.le.x Mm.del_le)⟩
theorem q_retD [Mo Rv] {l : List (κ × ν)} {te : TE} {Pr : List (κ × ν) → Prop} (d : DiceM M H) (d0 : DiceM M0 H0) (b0 : Xt M0 H0 H) (l0 : M0.le M) (n0 : H0 D = none) (ho : ∀ H (Q : VK), Q (.ref D) H → te σ H Q) (a : RDAt D Rk Rv M l (.ref D) H) (mD : D ∈ M.l) (hm : Pr l)
    (c : ∀ H2, Xt M0 H0 H2 → Pr l → RDt Rk Rv M0 l (.ref D) H2 → En.rt (.ref D) H2) : tRet (GX.tFrz te) En σ H := by
  obtain ⟨_, n, kvs, h1, h2⟩ := a
  refine ho _ _ ⟨D, _, rfl, h1, trivial, fun od => ?_⟩
  have em : Xm M H (upd H D (.frz od (.dT kvs))) := .put d mD
  have p : Put D M H (upd H D (.frz od (.dT kvs))) := ⟨⟨H, _, .refl d, inferInstance, rfl⟩, mD⟩
  exact c _ (p.xt b0 l0 n0) hm ⟨D, od, kvs, rfl, d0.fr n0, upd_same, (h2.lk em.k).lkx (Mm.le.x l0)⟩
theorem q_retL {α : Type} {S : Rs α} [MoXs S] {x : α} {te : TE} {Pr : α → Prop} (d0 : DiceM M0 H0) (b0 : Xt M0 H0 H) (l0 : M0.le M) (n0 : H0 D = none) (ho : ∀ H (Q : VK), Q (.ref D) H → te σ H Q) (a : RAt D S M x (.ref D) H) (hm : Pr x)
    (c : ∀ H2, Xt M0 H0 H2 → Pr x → RL S M0 x (.ref D) H2 → En.rt (.ref D) H2) : tRet te En σ H := ho _ _ (c H b0 hm (a.rl l0 (d0.fr n0)))
theorem q_frzL {α : Type} {S : Rs α} [MoXs S] {x : α} {te : TE} {kk : α → W δ} (d : DiceM M H) (ho : ∀ H (Q : VK), Q (.ref D) H → te σ H Q) (a : RAt D S M x (.ref D) H) (hm : W.bind (W.pure x) kk P PE)
    (c : ∀ v x, DiceM (M.del D) H → kk x P PE → RL S (M.del D) x v H → w En (σ.set i (some v)) H) : tSeq (tAsg te (gName i)) w En σ H := ho _ _ (c _ _ (d.wk Mm.del_le) hm a.frz)
/-! ### walks of dicts -/
theorem ei_itemsT [Mo Rk] [Mo Rv] (hd : Ev M E td σ H (RDt Rk Rv) md) : EvI Lk M E (GX.iItemsT td) σ H (RT (Cons Rk (One Rv))) md := fun H1 e Q P PE hm q g =>
  hd H1 e _ _ PE hm (fun v l H2 e2 hl ⟨a, od, kvs, h1, h2, h3, h4⟩ => ⟨a, od, kvs, h1, h3, q _ l H2 e2 hl fun M' H' e' d' => by
    have ha := (e'.k _ _ h2 h3).1
    have hE := h4.lk e'
    have hlen := ent_len h4
    refine ⟨fun i hi => ⟨ha, by omega⟩, ⟨ha, by omega⟩, fun i v H'' hi y => ?_⟩
    obtain ⟨T, q', ks, u, hk, rfl, hT, hq, rfl⟩ := y
    have e2 : Xt M' H' (upd H' T (.tup [.ref q', u])) := .new d' hT
    obtain ⟨p, hp, hp1, hp2⟩ := paired_at' hE hk
    have hp1' : ks = k.im p.1 := hp1
    subst hp1'
    exact ⟨e2, p, hp, T, _, rfl, d'.fr hT, upd_same, _, _, rfl, up (k.to d' hq) e2, _, rfl, up hp2 e2⟩⟩) g
theorem ei_keysT [Mo Rk] [Mo Rv] (hd : Ev M E td σ H (RDt Rk Rv) md) : EvI Lk M E (iKeys td) σ H Rk (W.bind md fun l => W.pure (l.map Prod.fst)) := fun H1 e Q P PE hm q g =>
  hd H1 e _ _ PE hm (fun v l H2 e2 hl ⟨a, od, kvs, h1, h2, h3, h4⟩ => ⟨a, od, h1, .inr ⟨kvs, h3, q _ _ H2 e2 hl fun M' H' e' d' => by
    have ha := (e'.k _ _ h2 h3).1
    have hE := h4.lk e'
    have hlen := ent_len h4
    rw [List.length_map]
    refine ⟨fun i hi => ⟨ha, by omega⟩, ⟨ha, by omega⟩, fun i v H'' hi y => ?_⟩
    obtain ⟨rfl, ks, u, q', hk, rfl, hq⟩ := y
    obtain ⟨p, hp, hp1, hp2⟩ := paired_at' hE hk
    have hp1' : ks = k.im p.1 := hp1
    subst hp1'
    exact ⟨.refl d', p.1, by rw [List.getElem?_map, hp]; rfl, k.to d' hq⟩⟩⟩) g
end
section
variable {κ ν : Type} {Rk : Rp κ} [k : Ky Rk] {Rv : Rp ν} {E : XK} {A : Rp (List (κ × ν))}
theorem c_lenD [IsDt A Rk Rv] : Cl E GX.rLenTR (One A) RI (fun p => W.pure (p.length : Int)) := by
  rintro M l vs H d ⟨v, rfl, r⟩ Q P PE hm q _
  obtain ⟨a, kvs, rfl, ha, he⟩ := IsDt.rd r
  exact ⟨a, kvs, rfl, ha, q _ _ H (.refl d) hm (by show V.int _ = V.int _; rw [ent_len he])⟩
end
/-! ### records -/
abbrev Rc (α : Type) := Mm → α → List (Key × V) → Hp → Prop
def KOne (f : Str) {α : Type} (R : Rp α) : Rc α := fun M x kvs H => ∃ v, kvs = [(.inr f, v)] ∧ R M x v H
def KCons (f : Str) {α β : Type} (R : Rp α) (S : Rc β) : Rc (α × β) := fun M x kvs H => ∃ v r, kvs = (.inr f, v) :: r ∧ R M x.1 v H ∧ S M x.2 r H
def RRec {α : Type} (S : Rc α) : Rp α := fun M x v H => ∃ a kvs, v = .ref a ∧ M.fr a ∧ H a = some (.dK kvs) ∧ S M x kvs H
class MoK {α : Type} (S : Rc α) : Prop where
  lk : ∀ {M M' x v H H'}, Lk M H M' H' → S M x v H → S M' x v H'
def KAt {α β : Type} (S : Rc α) (g : Str) (R : Rp β) (f : α → β) : Prop := ∀ M x kvs H, S M x kvs H → ∃ v, valV kvs (.inr g) = some v ∧ R M (f x) v H
section
variable {α β γ : Type} {R : Rp α} {S : Rc β} {M : Mm} {E : XK} {σ : St} {H : Hp} {td te : TE} {f g : Str}
instance [Mo R] : MoK (KOne f R) := ⟨fun e ⟨v, h, k⟩ => ⟨v, h, Mo.lk (R := R) e k⟩⟩
instance [Mo R] [MoK S] : MoK (KCons f R S) := ⟨fun e ⟨v, r, h, k, l⟩ => ⟨v, r, h, Mo.lk (R := R) e k, MoK.lk (S := S) e l⟩⟩
instance [MoK S] : Mo (RRec S) := ⟨fun e ⟨a, kvs, h1, h2, h3, h4⟩ => ⟨a, kvs, h1, (e.k _ _ h2 h3).2, (e.k _ _ h2 h3).1, MoK.lk (S := S) e h4⟩⟩
theorem kat_one : KAt (KOne g R) g R id := fun M x kvs H ⟨v, h, k⟩ => ⟨v, by subst h; exact valV_pos rfl, k⟩
theorem kat_here : KAt (KCons g R S) g R (fun x => x.1) := fun M x kvs H ⟨v, r, h, k, _⟩ => ⟨v, by subst h; exact valV_pos rfl, k⟩
theorem kat_next {T : Rp γ} {h : β → γ} (n : (f == g) = false) (k : KAt S g T h) : KAt (KCons f R S) g T (fun x => h x.2) := fun M x kvs H ⟨v, r, e, _, l⟩ => by
  obtain ⟨w, h1, h2⟩ := k M x.2 r H l
  exact ⟨w, by subst e; rw [valV_neg (fun z => by cases z; simp at n)]; exact h1, h2⟩
theorem ev_rec {T : Rp γ} {h : β → γ} {m : W β} (k : KAt S g T h) (hd : Ev M E td σ H (RRec S) m) : Ev M E (tDGet td (tC (.str g))) σ H T (W.bind m fun x => W.pure (h x)) := fun H1 e Q P PE hm q go =>
  hd H1 e _ _ PE hm (fun v x H2 e2 hx ⟨a, kvs, h1, h2, h3, h4⟩ => by
    obtain ⟨w, h5, h6⟩ := k M x kvs H2 h4
    exact ⟨a, w, h1, .inl ⟨kvs, .inr g, .inl h3, rfl, h5.symm⟩, q w _ H2 e2 hx h6⟩) go
/-- the pairs of a record's display -/
def EvPK (M : Mm) (E : XK) (trs : List (TE × TE)) (σ : St) (H : Hp) {α : Type} (S : Rc α) (ks : List Key) (m : W α) : Prop :=
  ∀ H1, Xt M H H1 → ∀ (Q : List (V × V) → Hp → Prop) (P : α → Prop) (PE : Ex → Prop), m P PE → (∀ kvs x H2, Xt M H1 H2 → P x → kvs.map Prod.fst = ks → S M x kvs H2 → Q (kvs.map fun kv => (kV kv.1, kv.2)) H2) → GoE M E H1 PE → tPairs trs σ H1 Q
theorem ep_one {m : W α} (h : Ev M E te σ H R m) : EvPK M E [(tC (.str f), te)] σ H (KOne f R) [.inr f] m := fun H1 e Q P PE hm q g =>
  h H1 e _ _ PE hm (fun v x H2 e2 hx r => q [(.inr f, v)] x H2 e2 hx rfl ⟨v, rfl, r⟩) g
theorem ep_cons [MoX R] {m : W α} {n : W β} {trs : List (TE × TE)} {ks : List Key} (h : Ev M E te σ H R m) (hr : EvPK M E trs σ H S ks n) : EvPK M E ((tC (.str f), te) :: trs) σ H (KCons f R S) (.inr f :: ks) (W.bind m fun x => W.bind n fun y => W.pure (x, y)) := fun H1 e Q P PE hm q g =>
  h H1 e _ _ PE hm (fun v x H2 e2 hx r => hr H2 (e.trans e2) _ _ PE hx (fun kvs y H3 e3 hy hk s => q ((.inr f, v) :: kvs) (x, y) H3 (e2.trans e3) hy (by rw [List.map_cons, hk]) ⟨v, kvs, rfl, up r e3, s⟩) (g.up e2)) g
theorem merge_nodup : ∀ (more kvs : List (Key × V)), ((kvs ++ more).map Prod.fst).Nodup → mergeK kvs more = kvs ++ more
  | [], kvs, _ => by simp [mergeK]
  | p :: r, kvs, h => by
    have hp : putK kvs p.1 p.2 = kvs ++ [p] := by
      unfold putK
      rw [if_neg]
      intro z
      obtain ⟨x, hx, hx2⟩ := List.any_eq_true.mp z
      have hx2 := of_decide_eq_true hx2
      rw [List.map_append, List.map_cons] at h
      have := (List.nodup_append.mp h).2.2 x.1 (List.mem_map_of_mem hx) p.1 List.mem_cons_self
      exact this hx2
    show mergeK (putK kvs p.1 p.2) r = _
    rw [hp, merge_nodup r (kvs ++ [p]) (by simpa using h)]
    simp
theorem ev_recD [MoK S] {trs : List (TE × TE)} {ks : List Key} {m : W β} (h : ∀ M' H', LkX M H M' H' → DiceM M' H' → EvPK M' E trs σ H' S ks m) (hk : ks.Nodup ∧ ks.length ≤ 15) : Ev M E (tDisp trs) σ H (RRec S) m := fun H1 e Q P PE hm q g => by
  intro p hp
  obtain ⟨lk, dp⟩ := in_new (o := .dK []) e.dice hp
  refine h _ _ (e.x.trans lk) dp _ (.refl dp) _ _ PE hm (fun kvs x H2 e2 hx hks s => ?_) (goe_new e.dice hp g)
  have n := (e.dice.fr hp).1
  have h2 : H2 p = some (.dK []) := e2.keep p _ n upd_same
  have hl : kvs.length = ks.length := by rw [← hks, List.length_map]
  refine ⟨h2, kvs, rfl, by omega, ?_⟩
  rw [merge_nodup kvs [] (by rw [List.nil_append, hks]; exact hk.1), List.nil_append]
  refine q _ x _ (out_new (H1 := H1) e.dice hp e2) hx ⟨p, kvs, rfl, e.dice.fr hp, upd_same, ?_⟩
  have em : Xm (M.add p) H2 (upd H2 p (.dK kvs)) := .put e2.dice List.mem_cons_self
  have s1 := MoK.lk (S := S) em.k s
  exact MoK.lk (S := S) (Mm.le.x Mm.le.refl.add).toLk s1
end
/-! ### more that is walked, more built-ins -/
/-- a list, a tuple as a walk reads it -/
class Sqn {α : Type} (R : Rp (List α)) (t : outParam Bool) (S : outParam (Rp α)) : Prop where
  sq : ∀ {M l v H}, R M l v H → ∃ a ws, v = .ref a ∧ M.fr a ∧ H a = some (if t = true then HO.tup ws else .lst ws) ∧ All S M l ws H
section
variable {α β γ : Type} {R : Rp α} {R' : Rp β} {M : Mm} {E : XK} {σ : St} {H : Hp} {ts : TA} {K : Frag} {ma : W (List α)} {A : Rp (List α)} {B : Rp (List β)} {t u : Bool}
instance : Sqn (RT (All R)) true R := ⟨fun ⟨a, ws, h1, h2, h3, h4⟩ => ⟨a, ws, h1, h2, h3, h4⟩⟩
instance : Sqn (RL (All R)) false R := ⟨fun ⟨a, ws, h1, h2, h3, h4⟩ => ⟨a, ws, h1, h2, h3, h4⟩⟩
theorem sqS {a : Addr} {ws : List V} (h : H a = some (if t = true then HO.tup ws else .lst ws)) : GX.SqS K t H a ws := by
  cases t with
  | true => exact SqT.of h
  | false => exact SqL.of h
theorem ei_zipS [Mo R] [Mo R'] [Sqn A t R] [Sqn B u R'] {m : W (List α × List β)} (h : EvA M E ts σ H (Cons A (One B)) m) : EvI Lk M E (GX.iZipS K t u ts) σ H (RT (Cons R (One R'))) (W.bind m fun l => W.pure (l.1.zip l.2)) := fun H1 e Q P PE hm q g =>
  h H1 e _ _ PE hm (fun vs xs H2 e2 hx ⟨v, r, h0, r1, w, h5, r2⟩ => by
    obtain ⟨a, ws, h1, h2, h3, h4⟩ := Sqn.sq r1
    obtain ⟨b, us, k1, k2, k3, k4⟩ := Sqn.sq r2
    subst h1 h5 k1
    have wz : Walk (GX.ItzS K t u a b) (min ws.length us.length) (fun H => GX.SqS K t H a ws ∧ GX.SqS K u H b us) (YPair (fun i => ws[i]?) (fun i => us[i]?)) := by
      refine ⟨fun i _ hi q => ?_, fun _ q => ⟨ws, us, q.1, q.2, by omega⟩, fun i H v H' _ q y => ?_⟩
      · have z1 : i < ws.length := by omega
        have z2 : i < us.length := by omega
        exact ⟨ws, us, ws[i], us[i], q.1, q.2, by simp [z1], by simp [z2]⟩
      · obtain ⟨T, x, z, z1, z2, z3, z4, z5⟩ := y
        exact ⟨T, x, z, z1, z2, z3, z4 ws q.1, z5 us q.2⟩
    refine ⟨a, b, ws, us, h0, sqS h3, sqS k3, q _ _ H2 e2 hx (ypair wz (by rw [List.length_zip, all_len h4, all_len k4]) (fun M' H' e => ⟨sqS (e.k a _ h2 h3).1, sqS (e.k b _ k2 k3).1⟩) fun M' H' e i u v h5 h6 => ?_)⟩
    obtain ⟨x, z1, z2⟩ := paired_at' (Mos.lk (R := All R) e h4) h5
    obtain ⟨y, z3, z4⟩ := paired_at' (Mos.lk (R := All R') e k4) h6
    exact ⟨x, y, zip_at z1 z3, z2, z4⟩) g
theorem ei_enumS [Mo R] [Sqn A t R] (h : EvA M E ts σ H (One A) ma) : EvI Lk M E (GX.iEnumS K t ts) σ H (RT (Cons RI (One R))) (W.bind ma fun l => W.pure (enm l)) := fun H1 e Q P PE hm q g =>
  h H1 e _ _ PE hm (fun vs xs H2 e2 hx ⟨v, h0, r1⟩ => by
    obtain ⟨a, ws, h1, h2, h3, h4⟩ := Sqn.sq r1
    subst h1
    have wz : Walk (GX.IteS K t a) ws.length (fun H => GX.SqS K t H a ws) (YPair (fun i => some (.int (i : Nat))) (fun i => ws[i]?)) := by
      refine ⟨fun i _ hi q => ⟨ws, ws[i], q, by simp [hi]⟩, fun _ q => ⟨ws, q, ?_⟩, fun i H v H' _ q y => ?_⟩
      · first | exact Nat.le_refl _ | rfl
      obtain ⟨T, x, z2, z3, z4, z5⟩ := y
      exact ⟨T, _, x, z2, z3, z4, rfl, z5 ws q⟩
    refine ⟨a, ws, h0, sqS h3, q _ _ H2 e2 hx (ypair wz (by rw [enm_len, all_len h4]) (fun M' H' e => sqS (e.k a _ h2 h3).1) fun M' H' e i u v h5 h6 => ?_)⟩
    cases h5
    obtain ⟨x, z1, z2⟩ := paired_at' (Mos.lk (R := All R) e h4) h6
    exact ⟨_, x, enm_at z1, rfl, z2⟩) g
theorem c_maxT : Cl E (GX.rMxT K) (One (RT (All RI))) RI (fun p => W.grd (0 < p.length) (mxI p)) := by
  rintro M l vs H d ⟨v, rfl, ⟨a, ws, rfl, n, ha, hr⟩⟩ Q P PE hm q _
  have e := all_int hr
  subst e
  cases l with
  | nil => exact absurd hm.1 (by simp)
  | cons x r => exact ⟨a, x, r, rfl, .of ha, q _ _ H (.refl d) hm.2 rfl⟩
theorem c_minT : Cl E (GX.rMnT K) (One (RT (All RI))) RI (fun p => W.grd (0 < p.length) (mnI p)) := by
  rintro M l vs H d ⟨v, rfl, ⟨a, ws, rfl, n, ha, hr⟩⟩ Q P PE hm q _
  have e := all_int hr
  subst e
  cases l with
  | nil => exact absurd hm.1 (by simp)
  | cons x r => exact ⟨a, x, r, rfl, .of ha, q _ _ H (.refl d) hm.2 rfl⟩
end
end MW

/-! wI: sorted, in, None, slices of lists that change, own contains, constructors. -/
namespace MW
open PySem PySem.Spec PyProof.Rows L2 GB
open GX (srtR leR)
/-- the ints, in their order -/
def srt (l : List Int) : List Int := l.mergeSort fun a b => decide (a ≤ b)
theorem srt_perm (l : List Int) : (srt l).Perm l := List.mergeSort_perm _ _
theorem srt_pw (l : List Int) : (srt l).Pairwise (· ≤ ·) := by
  have := List.pairwise_mergeSort (le := fun (a b : Int) => decide (a ≤ b)) (fun a b c h1 h2 => by simp at *; omega) (fun a b => by simp; omega) l
  exact this.imp (fun h => by simpa using h)
theorem srt_one {l m : List Int} (h : m.Perm l) (p : m.Pairwise (· ≤ ·)) : m = srt l := by
  refine List.Perm.eq_of_pairwise (le := fun a b => a ≤ b) (fun a b _ _ h1 h2 => by omega) p (srt_pw l) (h.trans (srt_perm l).symm)
section
variable {M : Mm} {E : XK} {σ : St} {H : Hp} {te ta tb tl to tv : TE} {t : TT} {ts : TA} {α β γ δ : Type} {R : Rp α} {R' : Rp β} {ma : W (List α)} {K : Frag} {D : Ends} {w : TS} {P : δ → Prop} {PE : Ex → Prop} {i : Nat}
theorem all_ints (l : List Int) : All RI M l (l.map V.int) H := by
  show Paired _ _ _
  induction l with
  | nil => exact .nil
  | cons a r ih => exact .cons rfl ih
theorem c_sortIL : Cl E (rSorted K) (One (RL (All RI))) (RL (All RI)) (fun p => W.grd (p.length < 64) (srt p)) := by
  rintro M l vs H d ⟨v, rfl, ⟨a, ws, rfl, n, ha, hr⟩⟩ Q P PE hm q _
  have e := all_int hr
  subst e
  refine ⟨a, l, rfl, .of ha, hm.1, fun m p h1 h2 hp => ?_⟩
  rw [srt_one h1 h2]
  exact q _ _ _ (.new d hp) hm.2 ⟨p, _, rfl, d.fr hp, upd_same, all_ints _⟩
theorem c_sortIW : Cl E (rSorted K) (One (RW (All RI))) (RL (All RI)) (fun p => W.grd (p.length < 64) (srt p)) := by
  rintro M l vs H d ⟨v, rfl, ⟨a, ws, rfl, n, ha, hr⟩⟩ Q P PE hm q _
  have e := all_int hr
  subst e
  refine ⟨a, l, rfl, .of ha, hm.1, fun m p h1 h2 hp => ?_⟩
  rw [srt_one h1 h2]
  exact q _ _ _ (.new d hp) hm.2 ⟨p, _, rfl, d.fr hp, upd_same, all_ints _⟩
theorem rows_of {l : List (List Int)} {ws : List V} (h : All (RT (All RI)) M l ws H) : Paired (fun (r : List Int) (w : V) => ∃ b, w = V.ref b ∧ SqT K H b (r.map V.int)) l ws := paired_imp (fun r w ⟨b, us, e, _, hb, hu⟩ => ⟨b, e, .of (by rw [← all_int hu]; exact hb)⟩) h
theorem c_sortRL : Cl E (GX.rSortR K) (One (RL (All (RT (All RI))))) (RL (All (RT (All RI)))) (fun p => W.grd (p.length ≤ 1000000 ∧ ∀ r ∈ p, r ≠ []) (srtR p)) := by
  rintro M l vs H d ⟨v, rfl, ⟨a, ws, rfl, n, ha, hr⟩⟩ Q P PE hm q _
  refine ⟨a, l, ws, rfl, .of ha, rows_of hr, hm.1.1, hm.1.2, fun p zs hp h => ?_⟩
  have hr2 : All (RT (All RI)) M (srtR l) zs H := h (fun x v => RT (All RI) M x v H) hr
  exact q _ _ _ (.new d hp) hm.2 ⟨p, zs, rfl, d.fr hp, upd_same, MoXs.up (R := All (RT (All RI))) (.new d hp) hr2⟩
theorem c_sortRW : Cl E (GX.rSortR K) (One (RW (All (RT (All RI))))) (RL (All (RT (All RI)))) (fun p => W.grd (p.length ≤ 1000000 ∧ ∀ r ∈ p, r ≠ []) (srtR p)) := by
  rintro M l vs H d ⟨v, rfl, ⟨a, ws, rfl, n, ha, hr⟩⟩ Q P PE hm q _
  refine ⟨a, l, ws, rfl, .of ha, rows_of hr, hm.1.1, hm.1.2, fun p zs hp h => ?_⟩
  have hr2 : All (RT (All RI)) M (srtR l) zs H := h (fun x v => RT (All RI) M x v H) hr
  exact q _ _ _ (.new d hp) hm.2 ⟨p, zs, rfl, d.fr hp, upd_same, MoXs.up (R := All (RT (All RI))) (.new d hp) hr2⟩
/-! tuples of ints compared -/
theorem o_ltT : Op2 E (rLtT K) (RT (All RI)) (RT (All RI)) RB (fun x y => W.pure (HT.lexLt x y)) := by
  rintro M x y v u H d ⟨a, ws, rfl, n, ha, hr⟩ ⟨b, us, rfl, nb, hb, hs⟩ Q P PE hm q _
  refine ⟨a, b, x, y, rfl, rfl, .of (by rw [← all_int hr]; exact ha), .of (by rw [← all_int hs]; exact hb), q _ _ H (.refl d) hm rfl⟩
/-! in -/
theorem inV_ints (l : List Int) (x : Int) : (l.map V.int).all flatV = true ∧ inV (.int x) (l.map V.int) = decide (x ∈ l) := by
  refine ⟨?_, ?_⟩
  · rw [List.all_eq_true]
    intro v hv
    obtain ⟨i, _, rfl⟩ := List.mem_map.mp hv
    rfl
  · unfold inV
    induction l with
    | nil => rfl
    | cons y r ih =>
      rw [List.map_cons, List.any_cons, ih]
      show (y == x || _) = _
      by_cases h : y = x
      · subst h; simp
      · have h' : ¬ x = y := fun z => h z.symm
        simp [h, h']
class Sq1 (A : Rp (List Int)) : Prop where
  sq : ∀ {M l v H}, A M l v H → ∃ a, v = .ref a ∧ (H a = some (.lst (l.map V.int)) ∨ H a = some (.tup (l.map V.int)))
instance : Sq1 (RT (All RI)) := ⟨fun ⟨a, ws, h1, h2, h3, h4⟩ => ⟨a, h1, .inr (by rw [← all_int h4]; exact h3)⟩⟩
instance : Sq1 (RL (All RI)) := ⟨fun ⟨a, ws, h1, h2, h3, h4⟩ => ⟨a, h1, .inl (by rw [← all_int h4]; exact h3)⟩⟩
instance : Sq1 (RW (All RI)) := ⟨fun ⟨a, ws, h1, h2, h3, h4⟩ => ⟨a, h1, .inl (by rw [← all_int h4]; exact h3)⟩⟩
theorem o_inI {A : Rp (List Int)} [Sq1 A] : Op2 E (rIn K false) RI A RB (fun x l => W.pure (memD x l)) := by
  intro M x l v u H d rx ry Q P PE hm q _
  obtain ⟨a, rfl, h⟩ := Sq1.sq ry
  cases (show v = V.int x from rx)
  refine ⟨a, _, rfl, h.imp SqL.of SqT.of, rfl, (inV_ints l x).1, q _ _ H (.refl d) hm ?_⟩
  exact congrArg V.bl ((inV_ints l x).2.trans (by unfold memD; congr))
theorem o_ninI {A : Rp (List Int)} [Sq1 A] : Op2 E (rIn K true) RI A RB (fun x l => W.pure (!memD x l)) := by
  intro M x l v u H d rx ry Q P PE hm q _
  obtain ⟨a, rfl, h⟩ := Sq1.sq ry
  cases (show v = V.int x from rx)
  refine ⟨a, _, rfl, h.imp SqL.of SqT.of, rfl, (inV_ints l x).1, q _ _ H (.refl d) hm ?_⟩
  exact congrArg (fun b => V.bl !b) ((inV_ints l x).2.trans (by unfold memD; congr))
/-! None -/
theorem o_notN {R : Rp α} (hn : ∀ M x v H, R M x v H → v ≠ V.non) : Op2 E (fun x y H Q => y = V.non ∧ Q (.bl (!decide (x = .non))) H) (ROpt R) RN RB (fun x _ => W.pure x.isSome) := by
  rintro M x y v u H d rx rfl Q P PE hm q _
  refine ⟨rfl, q _ _ H (.refl d) hm ?_⟩
  cases x with
  | none => cases (show v = V.non from rx); rfl
  | some i => have := hn M i v H rx; show V.bl _ = V.bl _; simp [this]
theorem o_isN1 {R : Rp α} (hn : ∀ M x v H, R M x v H → v ≠ V.non) : Op2 E (fun x y H Q => y = V.non ∧ Q (.bl (decide (x = .non))) H) R RN RB (fun x _ => W.pure false) := by
  rintro M x y v u H d rx rfl Q P PE hm q _
  refine ⟨rfl, q _ _ H (.refl d) hm ?_⟩
  have := hn M x v H rx; show V.bl _ = V.bl _; simp [this]
theorem o_notN1 {R : Rp α} (hn : ∀ M x v H, R M x v H → v ≠ V.non) : Op2 E (fun x y H Q => y = V.non ∧ Q (.bl (!decide (x = .non))) H) R RN RB (fun x _ => W.pure true) := by
  rintro M x y v u H d rx rfl Q P PE hm q _
  refine ⟨rfl, q _ _ H (.refl d) hm ?_⟩
  have := hn M x v H rx; show V.bl _ = V.bl _; simp [this]
/-! slices of a list that may change -/
theorem ev_slW [Mo R] {tlo thi : TO} {ml mh : W (Option Int)} (h : Ev M E te σ H (RW (All R)) ma) (hl : EvO M E tlo σ H ml) (hh : EvO M E thi σ H mh) : Ev M E (L2.tSl (rSlL K) te tlo thi) σ H (RL (All R)) (W.bind ma fun x => W.bind ml fun l => W.bind mh fun u => W.pure (cut x l u)) := fun H1 e Q P PE hm q g =>
  h H1 e _ _ PE hm (fun v x H2 e2 hx rx => hl H2 (e.trans e2) _ _ PE hx (fun l H3 e3 hl' => hh H3 ((e.trans e2).trans e3) _ _ PE hl' (fun u H4 e4 hu => by
    obtain ⟨a, ws, rfl, n, ha, hr⟩ := up rx (e3.trans e4)
    have e24 := (e2.trans e3).trans e4
    exact ⟨a, ws, rfl, .of ha, fun p hp => q _ _ _ (e24.trans (.new e4.dice hp)) hu ⟨p, _, rfl, e4.dice.fr hp, upd_same, MoXs.up (R := All R) (.new e4.dice hp) (all_cut hr)⟩⟩) ((g.up e2).up e3)) (g.up e2)) g
/-! x in an instance -/
theorem ev_inO {N : En} {C : Str} {F : Fl α} {mx : W β} {mo : W α} {mm : α → β → W Bool} (hca : M.ca = N.ga) [MoF F] [MoX R'] (hx : Ev M E ta σ H R' mx) (ho : Ev M E tb σ H (RO C F) mo) :
    Ev M E (tOp (GX.rInO (N.ga C) (FnW N (Cons (RO C F) (One R')) RB (fun p => mm p.1 p.2)) E false) ta tb) σ H RB (W.bind mx fun x => W.bind mo fun o => mm o x) := fun H1 e Q P PE hm q g =>
  hx H1 e _ _ PE hm (fun v x H2 e2 hp rx => ho H2 (e.trans e2) _ _ PE hp (fun u o H3 e3 hp ro => by
    have ro' := ro
    obtain ⟨a, dx, fs, h1, h2, h3, h4⟩ := ro
    refine ⟨a, dx, fs, h1, by rw [hca] at h3; exact h3, M, (o, x), P, PE, hca, e3.dice, ⟨_, _, rfl, ro', _, rfl, up rx e3⟩, hp, fun w z H4 e4 hz rz => ⟨z, rz, ?_⟩, (g.up e2).up e3⟩
    exact q _ z H4 ((e2.trans e3).trans e4) hz (by show V.bl _ = V.bl _; simp)) (g.up e2)) g
theorem ev_ninO {N : En} {C : Str} {F : Fl α} {mx : W β} {mo : W α} {mm : α → β → W Bool} (hca : M.ca = N.ga) [MoF F] [MoX R'] (hx : Ev M E ta σ H R' mx) (ho : Ev M E tb σ H (RO C F) mo) :
    Ev M E (tOp (GX.rInO (N.ga C) (FnW N (Cons (RO C F) (One R')) RB (fun p => mm p.1 p.2)) E true) ta tb) σ H RB (W.bind mx fun x => W.bind mo fun o => W.bind (mm o x) fun z => W.pure (!z)) := fun H1 e Q P PE hm q g =>
  hx H1 e _ _ PE hm (fun v x H2 e2 hp rx => ho H2 (e.trans e2) _ _ PE hp (fun u o H3 e3 hp ro => by
    have ro' := ro
    obtain ⟨a, dx, fs, h1, h2, h3, h4⟩ := ro
    refine ⟨a, dx, fs, h1, by rw [hca] at h3; exact h3, M, (o, x), _, PE, hca, e3.dice, ⟨_, _, rfl, ro', _, rfl, up rx e3⟩, hp, fun w z H4 e4 hz rz => ⟨z, rz, ?_⟩, (g.up e2).up e3⟩
    exact q _ (!z) H4 ((e2.trans e3).trans e4) hz (by show V.bl _ = V.bl _; simp)) (g.up e2)) g
/-! a test that is known -/
theorem ev_ifT {R : Rp α} {m : W α} (h : EvT M E t σ H (W.pure true)) (h1 : Ev M E ta σ H R m) : Ev M E (tIf t ta tb) σ H R m := fun H1 e Q P PE hm q g => h H1 e _ (fun b => b = true) PE rfl (fun b H2 e2 hb => by
  subst hb
  exact h1 H2 (e.trans e2) Q P PE hm (fun v x H3 e3 hp r => q v x H3 (e2.trans e3) hp r) (g.up e2)) g
theorem ev_ifF {R : Rp α} {m : W α} (h : EvT M E t σ H (W.pure false)) (h1 : Ev M E tb σ H R m) : Ev M E (tIf t ta tb) σ H R m := fun H1 e Q P PE hm q g => h H1 e _ (fun b => b = false) PE rfl (fun b H2 e2 hb => by
  subst hb
  exact h1 H2 (e.trans e2) Q P PE hm (fun v x H3 e3 hp r => q v x H3 (e2.trans e3) hp r) (g.up e2)) g
/-! self.f = e in a constructor -/
theorem q_fldP {a C dx : Addr} {fs : List (Str × V)} {f : Str} {m : W α} {k : α → W δ} (d : DiceM M H) (go : GoE M E H PE) (hi : σ[i]? = some (some (V.ref a))) (ha : H a = some (.ins C dx fs)) (mm : a ∈ M.l) (c : Cls K C) (n : NoAttr K C f) (hl : fs.length < 1000) (hv : Ev M E tv σ H R m) (hm : W.bind m k P PE)
    (cont : ∀ v x H1 H2, Put a M H H2 → Xm M H1 H2 → H2 a = some (.ins C dx (putF f v fs)) → R M x v H1 → k x P PE → w D σ H2) : tSeq (sFld K (tVar i) tv f) w D σ H :=
  hv H (.refl d) _ _ PE hm (fun v x H1 e hx r => ⟨_, hi, a, C, dx, fs, rfl, e.keep _ _ (d.l a mm).1 ha, c, n, hl, cont v x H1 _ ⟨⟨H1, _, e, inferInstance, rfl⟩, mm⟩ (.put e.dice mm) upd_same r hx⟩) go
theorem l_fldP {a C dx : Addr} {fs : List (Str × V)} {f : Str} {m : W α} {k : α → W δ} (d : DiceM M H) (go : GoE M E H PE) (hi : σ[i]? = some (some (V.ref a))) (ha : H a = some (.ins C dx fs)) (mm : a ∈ M.l) (c : Cls K C) (n : NoAttr K C f) (hl : fs.length < 1000) (hv : Ev M E tv σ H R m) (hm : W.bind m k P PE)
    (cont : ∀ v x H1 H2, Put a M H H2 → Xm M H1 H2 → H2 a = some (.ins C dx (putF f v fs)) → R M x v H1 → k x P PE → D.nx σ H2) : sFld K (tVar i) tv f D σ H := q_fldP (w := fun D => D.nx) d go hi ha mm c n hl hv hm cont
/-- self, with slots -/
theorem q_slP {a C dx p : Addr} {vs : List (Option V)} {f : Str} {m : W α} {k : α → W δ} {j : Nat} (d : DiceM M H) (go : GoE M E H PE) (hi : σ[i]? = some (some (V.ref a))) (ha : ∀ H1, Xt M H H1 → SlX.Slt H1 a C dx vs) (c : SlX.SCls K C) (t : SlX.Slot1 K C f p j) (hv : Ev M E tv σ H R m) (hm : W.bind m k P PE)
    (cont : ∀ v x H1, Xt M H H1 → R M x v H1 → k x P PE → w D σ (SlX.slH H1 a C dx (SlX.putS j v vs))) : tSeq (SlX.sSl K (tVar i) tv f) w D σ H :=
  hv H (.refl d) _ _ PE hm (fun v x H1 e hx r => ⟨_, hi, a, C, dx, p, vs, j, rfl, ha H1 e, c, t, cont v x H1 e r hx⟩) go
theorem l_slP {a C dx p : Addr} {vs : List (Option V)} {f : Str} {m : W α} {k : α → W δ} {j : Nat} (d : DiceM M H) (go : GoE M E H PE) (hi : σ[i]? = some (some (V.ref a))) (ha : ∀ H1, Xt M H H1 → SlX.Slt H1 a C dx vs) (c : SlX.SCls K C) (t : SlX.Slot1 K C f p j) (hv : Ev M E tv σ H R m) (hm : W.bind m k P PE)
    (cont : ∀ v x H1, Xt M H H1 → R M x v H1 → k x P PE → D.nx σ (SlX.slH H1 a C dx (SlX.putS j v vs))) : SlX.sSl K (tVar i) tv f D σ H := q_slP (w := fun D => D.nx) d go hi ha c t hv hm cont
/-- its object, in a heap where it was not -/
theorem xt_keepN {M : Mm} {H0 H H2 : Hp} {a : Addr} (b : Xt M H0 H) (h1 : H0 a = none) (o : HO) : ∀ x u, M.d ≠ some x → H0 x = some u → upd H a o x = some u := fun x u n h => by rw [upd_ne (ne_of_none h h1)]; exact b.keep x u n h
theorem xt_slH {M : Mm} {H0 H : Hp} {a C dx : Addr} {vs : List (Option V)} (e : Xt M H0 H) (d0 : DiceM M H0) (h1 : H0 a = none) (h2 : H0 dx = none) : Xt M H0 (SlX.slH H a C dx vs) := by
  have na := d0.fr h1
  have nd := d0.fr h2
  refine ⟨fun x u n h => ?_, ⟨fun x z => ?_, fun x m => ?_⟩⟩
  · unfold SlX.slH; rw [upd_ne (ne_of_none h h1), upd_ne (ne_of_none h h2)]; exact e.keep x u n h
  · obtain ⟨p, q, r, h⟩ := e.dice.d x z
    exact ⟨p, q, r, by unfold SlX.slH; rw [upd_ne (fun y => na.1 (by rw [← y]; exact z)), upd_ne (fun y => nd.1 (by rw [← y]; exact z))]; exact h⟩
  · obtain ⟨h3, o, h, nt⟩ := e.dice.l x m
    exact ⟨h3, o, by unfold SlX.slH; rw [upd_ne (fun y => na.2 (by rw [← y]; exact m)), upd_ne (fun y => nd.2 (by rw [← y]; exact m))]; exact h, nt⟩
/-- what was there ahead of it stays -/
theorem slH_up {M : Mm} {H0 H : Hp} {a C dx : Addr} {vs : List (Option V)} {R : Rp α} [MoX R] {x : α} {v : V} (e : Xt M H0 H) (d0 : DiceM M H0) (h1 : H0 a = none) (h2 : H0 dx = none) (r : R M x v H0) : R M x v (SlX.slH H a C dx vs) := up r (xt_slH e d0 h1 h2)
/-! list(range(..)) -/
theorem ev_listR1 {m : W Int} (h : EvA M E ts σ H (One RI) m) {r : List V → Hp → VK → Prop} (hr : ∀ n : Int, ∀ H Q, (∀ p, H p = none → Q (.ref p) (upd H p (.lst ((rng 0 n).map V.int)))) → -1000000 < n → n < 1000000 → r [.int n] H Q) : Ev M E (fun σ H Q => ts σ H fun vs H1 => r vs H1 Q) σ H (RL (All RI)) (W.bind m fun n => W.grd (-1000000 < n ∧ n < 1000000) (rng 0 n)) := fun H1 e Q P PE hm q g =>
  h H1 e _ _ PE hm (fun vs n H2 e2 hx ⟨v, h1, h2⟩ => by
    cases (show v = V.int n from h2)
    subst h1
    exact hr n H2 Q (fun p hp => q _ _ _ (e2.trans (.new e2.dice hp)) hx.2 ⟨p, _, rfl, e2.dice.fr hp, upd_same, all_ints _⟩) hx.1.1 hx.1.2) g
end
end MW
namespace MW
open PySem PySem.Spec PyProof.Rows L2 GB
theorem q_slV {K : Frag} {σ : St} {H : Hp} {D : Ends} {w : TS} {i j n : Nat} {a C dx p : Addr} {v : V} {vs : List (Option V)} {f : Str} (hi : σ[i]? = some (some (V.ref a))) (hj : σ[j]? = some (some v)) (ha : SlX.Slt H a C dx vs) (c : SlX.SCls K C) (t : SlX.Slot1 K C f p n) (cont : w D σ (SlX.slH H a C dx (SlX.putS n v vs))) :
    tSeq (SlX.sSl K (tVar i) (tVar j) f) w D σ H := ⟨v, hj, _, hi, a, C, dx, p, vs, n, rfl, ha, c, t, cont⟩
theorem l_slV {K : Frag} {σ : St} {H : Hp} {D : Ends} {i j n : Nat} {a C dx p : Addr} {v : V} {vs : List (Option V)} {f : Str} (hi : σ[i]? = some (some (V.ref a))) (hj : σ[j]? = some (some v)) (ha : SlX.Slt H a C dx vs) (c : SlX.SCls K C) (t : SlX.Slot1 K C f p n) (cont : D.nx σ (SlX.slH H a C dx (SlX.putS n v vs))) :
    SlX.sSl K (tVar i) (tVar j) f D σ H := ⟨v, hj, _, hi, a, C, dx, p, vs, n, rfl, ha, c, t, cont⟩
end MW
namespace MW
open L2
/-- the last of a block -/
theorem lastS {ts : TS} {D : Ends} {σ : St} {H : Hp} (h : tSeq ts (fun D => D.nx) D σ H) : ts D σ H := h
end MW

/-! wJ: the script, the dice, fresh results, a law's own promise. -/
namespace MW
open PySem PySem.Spec PyProof.Rows L2 GB
/-- the script, wherever it stands -/
def RSc (K : Frag) : Rp (List Int) := fun M l v H => ∃ a, v = .ref a ∧ ((∃ o, H a = some o ∧ M.fr a ∧ ∀ H' : Hp, H' a = some o → SqL K H' a (l.map V.int)) ∨ ∀ H' : Hp, SqL K H' a (l.map V.int))
instance {K : Frag} : Mo (RSc K) := ⟨fun e ⟨a, h1, h⟩ => ⟨a, h1, h.imp (fun ⟨o, h2, h3, h4⟩ => ⟨o, (e.k _ _ h3 h2).1, (e.k _ _ h3 h2).2, h4⟩) id⟩⟩
/-- no dice, nothing that changes -/
@[reducible] def Mm.nil (ca : Str → Addr) : Mm := ⟨none, [], ca⟩
/-- one dice, nothing else that changes -/
@[reducible] def Mm.one (D : Addr) (ca : Str → Addr) : Mm := ⟨some D, [], ca⟩
theorem fr_nil {ca : Str → Addr} {a : Addr} : (Mm.nil ca).fr a := ⟨fun z => (nomatch z), fun z => (nomatch z)⟩
theorem dice_nil {ca : Str → Addr} {H : Hp} : DiceM (Mm.nil ca) H := ⟨fun _ z => (nomatch z), fun _ z => (nomatch z)⟩
theorem rsc_of {K : Frag} {ca : Str → Addr} {l : List Int} {a : Addr} {H : Hp} (h : SqL K H a (l.map V.int)) : RSc K (Mm.nil ca) l (.ref a) H := by
  refine ⟨a, rfl, ?_⟩
  rcases h with (h | ⟨o, h⟩) | h
  · exact .inl ⟨_, h, fr_nil, fun H' e => .inl (.inl e)⟩
  · exact .inl ⟨_, h, fr_nil, fun H' e => .inl (.inr ⟨o, e⟩)⟩
  · exact .inr fun H' => .inr h
theorem RSc.sq {K : Frag} {M : Mm} {l : List Int} {v : V} {H : Hp} (h : RSc K M l v H) : ∃ a, v = .ref a ∧ SqL K H a (l.map V.int) := by
  obtain ⟨a, e, ⟨o, h1, _, h2⟩ | h⟩ := h
  · exact ⟨a, e, h2 H h1⟩
  · exact ⟨a, e, h H⟩
section
variable {M M0 : Mm} {E : XK} {σ : St} {H H0 H1 H3 : Hp} {te ta : TE} {ts : TA} {w : TS} {D : Addr} {Ed : Ends} {K : Frag} {α β γ δ : Type} {R : Rp α} {S : Rs α} {T : Rs γ} {P : δ → Prop} {PE : Ex → Prop} {i : Nat}
theorem c_lenQ : Cl E (fun xs H Q => ∃ p ys, xs = [V.ref p] ∧ (SqL K H p ys ∨ SqT K H p ys) ∧ Q (.int (ys.length : Int)) H) (One (RSc K)) RI (fun p => W.pure (p.length : Int)) := by
  rintro M x vs H d ⟨v, rfl, h⟩ Q P PE hm q _
  obtain ⟨a, rfl, h2⟩ := h.sq
  exact ⟨a, _, rfl, .inl h2, q _ _ H (.refl d) hm (by show V.int _ = V.int _; rw [List.length_map])⟩
theorem o_ixQ : Op2 E (rIxL K) (RSc K) RI RI (fun l i => W.get (atI l i)) := by
  rintro M l i v u H d h rfl Q P PE ⟨z, hz, hm⟩ q _
  obtain ⟨a, rfl, h0⟩ := h.sq
  obtain ⟨w, h1, h2⟩ := atI_rep (R := RI) (M := M) (H := H) (all_ints l) hz
  exact ⟨a, _, i, w, rfl, rfl, h0, h1, q w z H (.refl d) hm h2⟩
/-! ### the dice -/
theorem ev_ixD {md : W Addr} (n : Nat) (h : Ev M E ta σ H RD md) (hn : n < 3 := by decide) : Ev M E (tOp (rIxL K) ta (tC (.int (n : Int)))) σ H RI (W.bind md fun _ => W.any True fun _ => True) := fun H1 e Q P PE hm q g =>
  h H1 e _ _ PE hm (fun v x H2 e2 hx ⟨h1, h2⟩ => by
    obtain ⟨a, b, c, hd⟩ := e2.dice.d x h2
    have hw : ∃ z, [V.int a, V.int b, V.int c][n]? = some (V.int z) := by
      match n, hn with
      | 0, _ => exact ⟨a, rfl⟩
      | 1, _ => exact ⟨b, rfl⟩
      | 2, _ => exact ⟨c, rfl⟩
    obtain ⟨z, hz⟩ := hw
    exact ⟨x, _, (n : Int), _, h1, rfl, .of hd, atI_nat hz, q _ z H2 e2 (hx.2 z trivial) rfl⟩) g
theorem Xt.set {a b c : Int} (d : DiceM M H) (h : M.d = some D) : Xt M H (upd H D (.lst [.int a, .int b, .int c])) := by
  refine ⟨fun x o n e => by rw [upd_ne (fun z => n (by rw [z]; exact h))]; exact e, ⟨fun x e => ?_, fun x m => ?_⟩⟩
  · rw [h] at e; cases e; exact ⟨a, b, c, upd_same⟩
  · obtain ⟨h1, o, h2, nt⟩ := d.l x m
    exact ⟨h1, o, by rw [upd_ne (fun z => h1 (by rw [z]; exact h))]; exact h2, nt⟩
theorem q_dset {m : W Int} {k : Int → W δ} {x : Addr} {v : V} (n : Nat) (d : DiceM M H) (go : GoE M E H PE) (h : Ev M E te σ H RI m) (hi : σ[i]? = some (some v)) (r : RD M x v H) (hm : W.bind m k P PE) (c : ∀ y H2, Xt M H H2 → k y P PE → w Ed σ H2) (hn : n < 3 := by decide) : tSeq (tAsg te (gSub (tVar i) (tC (.int (n : Int))) rSetL)) w Ed σ H :=
  h H (.refl d) _ _ PE hm (fun u y H2 e2 hy ry => by
    obtain ⟨h1, h2⟩ := r
    cases (show u = V.int y from ry)
    obtain ⟨a, b, c', hd⟩ := e2.dice.d x h2
    have hj : ixN 3 (n : Int) = some n := by
      match n, hn with
      | 0, _ => rfl
      | 1, _ => rfl
      | 2, _ => rfl
    refine ⟨v, hi, x, _, (n : Int), n, h1, rfl, hd, hj, ?_⟩
    have key : ∀ a' b' c'' : Int, [V.int a, V.int b, V.int c'].set n (V.int y) = [V.int a', V.int b', V.int c''] → w Ed σ (upd H2 x (.lst ([V.int a, V.int b, V.int c'].set n (V.int y)))) := fun a' b' c'' ez => by
      rw [ez]; exact c y _ (e2.trans (.set e2.dice h2)) hy
    match n, hn with
    | 0, _ => exact key y b c' rfl
    | 1, _ => exact key a y c' rfl
    | 2, _ => exact key a b y rfl) go
/-! ### fresh results -/
/-- a def whose result is a new list -/
def FnN (N : En) (S : Rs α) (T : Rs γ) (m : α → W γ) : Sp := fun vs H Q E =>
  ∃ M x P PE, M.ca = N.ga ∧ DiceM M H ∧ S M x vs H ∧ m x P PE ∧ (∀ a z H2, Xt M H H2 → H a = none → (∃ o, H2 a = some o ∧ NT o) → P z → RAt a T (M.add a) z (.ref a) H2 → Q (.ref a) H2) ∧ GoE M E H PE
theorem ef_dn {N : En} {ms : W α} {mm : α → W γ} (hca : M.ca = N.ga) (ha : EvA M E ts σ H S ms) : EvF M E (tD (FnN N S T mm) E ts) σ H (TL T) (W.bind ms mm) := fun H1 e Q P PE hm q g =>
  ha H1 e _ _ PE hm (fun vs x H2 e2 b rx => ⟨M, x, P, PE, hca, e2.dice, rx, b, fun a z H3 e3 hn ho hz rz => q a z H3 (e2.trans e3) (e2.none hn) ho hz rz, g.up e2⟩) g
theorem q_retF {m : W γ} {Pr : γ → Prop} (d : DiceM M H) (go : GoE M E H PE) (h : EvF M E te σ H (TL T) m) (hm : m Pr PE) (c : ∀ a x H1, Xt M H H1 → H a = none → (∃ o, H1 a = some o ∧ NT o) → Pr x → RAt a T (M.add a) x (.ref a) H1 → Ed.rt (.ref a) H1) : tRet te Ed σ H := h H (.refl d) _ _ PE hm c go
/-! ### dice = _law_dice(script, at), in a law -/
theorem q_dice {m : W (List Int)} {k : Addr → W δ} (d : DiceM M H) (go : GoE M E H PE) (h : EvF M E te σ H (TL (All RI)) m) (hm : W.bind m (fun z => W.bind (W.any (z.length = 3) fun (_ : Addr) => True) k) P PE)
    (c : ∀ D v H1, Xt M H H1 → H D = none → DiceM (Mm.one D M.ca) H1 → RD (Mm.one D M.ca) D v H1 → k D P PE → w Ed (σ.set i (some v)) H1) : tSeq (tAsg te (gName i)) w Ed σ H :=
  h H (.refl d) _ _ PE hm (fun a z H1 e hn _ ⟨hl, hk⟩ ⟨_, _, ws, hw, hr⟩ => by
    have e := e
    have e2 := all_int hr
    subst e2
    match z, hl with
    | [x, y, t], _ =>
      refine c a (.ref a) H1 e hn ⟨fun b hb => ?_, fun _ z => (nomatch z)⟩ ⟨rfl, rfl⟩ (hk a trivial)
      cases hb
      exact ⟨x, y, t, hw⟩) go
theorem xt_mix {ca : Str → Addr} (e1 : Xt (Mm.nil ca) H H1) (n : H D = none) (e3 : Xt (Mm.one D ca) H1 H3) : Xt (Mm.nil ca) H H3 :=
  ⟨fun a o _ h => e3.keep a o (fun z => by cases z; rw [n] at h; cases h) (e1.keep a o (fun z => (nomatch z)) h), dice_nil⟩
/-! ### a law -/
def LawW (N : En) (m : List Int → W Bool) : Sp := fun vs H Q E => ∃ v l P, vs = [v] ∧ RSc N.K (Mm.nil N.ga) l v H ∧ m l P (fun _ => False) ∧ ∀ w z H2, P z → RB (Mm.nil N.ga) z w H2 → Q w H2
def SpLaw (K : Frag) : Sp := fun vs H Q _ => ∃ (a : Addr) (l : List Int), vs = [.ref a] ∧ SqL K H a (l.map V.int) ∧ ∀ H', Q (.bl true) H'
theorem law_true {N : En} {k : Nat} {x : Str} {ps : List Str} {fd : FuncData} {m : List Int → W Bool} (F : FnOk N.P N.w N.K N.mg N.base (L2.CX N.P N.w) k (N.ga x) fd ps (LawW N m)) (h : ∀ l, m l (fun b => b = true) (fun _ => False)) : FnOk N.P N.w N.K N.mg N.base (L2.CX N.P N.w) k (N.ga x) fd ps (SpLaw N.K) :=
  F.imp fun vs H Q E ⟨a, l, e, hs, q⟩ => ⟨_, l, fun b => b = true, e, rsc_of hs, h l, fun w z H2 hz hw => by
    subst hz
    cases (show w = V.bl true from hw)
    exact q H2⟩
end
end MW

/-! wK: x += e, sets of rows. -/
namespace MW
open PySem PySem.Spec PyProof.Rows L2 GB
open GX (srtR leR)
section
variable {M : Mm} {E : XK} {σ : St} {H : Hp} {te : TE} {w : TS} {D : Ends} {δ : Type} {P : δ → Prop} {PE : Ex → Prop} {i : Nat}
/-- x += e -/
theorem q_aug {f : Int → Int → Int} {m : W Int} {k : Int → W δ} {x : Int} {v : V} (d : DiceM M H) (go : GoE M E H PE) (hi : σ[i]? = some (some v)) (r : RI M x v H) (h : Ev M E te σ H RI m) (hm : W.bind (W.bind m fun y => W.pure (f x y)) k P PE)
    (c : ∀ v z H1, Xt M H H1 → k z P PE → RI M z v H1 → w D (σ.set i (some v)) H1) : tSeq (tAug i te (ipI f)) w D σ H := by
  refine ⟨v, hi, h H (.refl d) _ _ PE hm (fun u y H1 e p ru => ?_) go⟩
  cases (show v = V.int x from r)
  cases (show u = V.int y from ru)
  exact ⟨x, y, rfl, rfl, c _ _ H1 e p rfl⟩
end
/-! ### rows, each once -/
/-- each once -/
def ddp : List (List Int) → List (List Int)
  | [] => []
  | x :: l => if x ∈ l then ddp l else x :: ddp l
theorem mem_ddp : ∀ {l : List (List Int)} {x : List Int}, x ∈ ddp l ↔ x ∈ l
  | [], x => Iff.rfl
  | y :: l, x => by
    unfold ddp
    by_cases h : y ∈ l
    · rw [if_pos h, mem_ddp, List.mem_cons]
      exact ⟨.inr, fun z => z.elim (fun e => e ▸ h) id⟩
    · rw [if_neg h, List.mem_cons, List.mem_cons, mem_ddp]
theorem nd_ddp : ∀ {l : List (List Int)}, (ddp l).Nodup
  | [] => List.nodup_nil
  | y :: l => by
    unfold ddp
    by_cases h : y ∈ l
    · rw [if_pos h]; exact nd_ddp
    · rw [if_neg h]; exact List.nodup_cons.mpr ⟨fun z => h (mem_ddp.mp z), nd_ddp⟩
/-- sorted(set(l)) -/
def srtS (l : List (List Int)) : List (List Int) := srtR (ddp l)
/-- what can be made a set of -/
def SetOk (l : List (List Int)) : Prop := l.length ≤ 1000000 ∧ (ddp l).length ≤ 2000
/-- what of it can be sorted -/
def SrtOk (l : List (List Int)) : Prop := ∀ r ∈ l, r ≠ []
end MW
namespace GX
open PySem PySem.Spec PyProof.Rows L2
/-- an expression that is never reached -/
def tNev : TE := fun _ _ _ => False
theorem pe_nev {X : Cx} {e : Expr} : PE X e tNev := ⟨fun _ _ _ _ _ _ h => h.elim⟩
end GX
namespace MW
open PySem PySem.Spec PyProof.Rows L2 GB
theorem ev_nev {M : Mm} {E : XK} {σ : St} {H : Hp} {α : Type} {R : Rp α} : Ev M E GX.tNev σ H R W.stuck := fun _ _ _ _ _ hm _ _ => hm.elim
end MW

/-! wL: a def under another global name. -/
namespace MW
open PySem PySem.Spec PyProof.Rows L2 GB
abbrev FunQ (N : En) (x y : Str) (st : Stmt) : Prop := (∃ fd, FunD N.K y y (defArgs st) (defBody st) (defScope st) [] [] (N.ga x) fd) ∧ N.mg x = some (.ref (N.ga x))
theorem dq_mk {N : En} {k : Nat} {x y : Str} {st : Stmt} {Ns ps : List Str} {sp : Sp} (F : FunQ N x y st) (S : FnScope Ns ps (defScope st))
    (bd : ∀ (kV doc pm : Value) (an : Option Addr) (cdv ct : Value) (us : List Value), us.length = ps.length → bindArgs (PySem.W.fnOf y y (defArgs st) (defBody st) (defScope st) .none kV doc pm an cdv ct) ⟨us, []⟩ = pure (ps.zip us))
    (len : ∀ vs H Q E, sp vs H Q E → vs.length = ps.length) (body : Body N k y (N.ga x) st Ns sp) : Dn N (k + 1) x sp := by
  obtain ⟨⟨fd, F⟩, g⟩ := F
  have z := (F.ok S len body : FnOk N.P N.w N.K N.mg N.base (L2.CX N.P N.w) (k + 1) _ fd ps sp).raw (F.bindsN bd) .nil
  exact ⟨z.imp fun vs H Q E q => by rw [List.append_nil]; exact q, g, F.kp⟩
theorem paired_app {γ δ : Type} {F : γ → δ → Prop} : ∀ {l l2 : List γ} {r r2 : List δ}, Paired F l r → Paired F l2 r2 → Paired F (l ++ l2) (r ++ r2)
  | _, _, _, _, .nil, h => h
  | _, _, _, _, .cons a b, h => .cons a (paired_app b h)
section
variable {M : Mm} {E : XK} {σ : St} {H : Hp} {te to : TE} {w : TS} {En : Ends} {δ α : Type} {P : δ → Prop} {PE : Ex → Prop} {R : Rp α} {K : Frag} {D : Addr}
/-- D.extend(e) -/
theorem q_ext {l : List α} {m : W (List α)} {k : List α → W δ} [Mo R] (d : DiceM M H) (go : GoE M E H PE) (ho : ∀ H (Q : VK), Q (.ref D) H → to σ H Q) (a : RAt D (All R) M l (.ref D) H) (mD : D ∈ M.l) (h : Ev M E te σ H (RL (All R)) m) (hm : W.bind (W.bind m fun y => W.grd (l.length + y.length ≤ 1000000) (l ++ y)) k P PE)
    (c : ∀ x H2, Put D M H H2 → RAt D (All R) M x (.ref D) H2 → k x P PE → w En σ H2) : tSeq (tDrop (tBM K "list" rExtend to (tCons te tNil))) w En σ H := by
  obtain ⟨_, n, vs, h1, h2⟩ := a
  refine ho _ _ ⟨.inl ⟨rfl, _, .inl (.inl h1)⟩, ?_⟩
  refine h H (.refl d) _ _ PE hm (fun v y H4 e4 hy ry => ?_) go
  have h4 : H4 D = some (.lst vs) := e4.keep D _ n h1
  have h2' := MoXs.up (R := All R) e4 h2
  obtain ⟨b, ws, rfl, fb, hb, rb⟩ := ry
  have em : Xm M H4 (upd H4 D (.lst (vs ++ ws))) := .put e4.dice mD
  exact ⟨D, b, vs, ws, rfl, rfl, h4, hb, by rw [all_len h2, all_len rb, sizeLine_eq]; have := hy.1; omega, c (l ++ y) _ ⟨⟨H4, _, e4, inferInstance, rfl⟩, mD⟩ ⟨rfl, n, _, upd_same, paired_app (Mos.lk (R := All R) em.k h2') (Mos.lk (R := All R) em.k rb)⟩ hy.2⟩
theorem l_ext {l : List α} {m : W (List α)} {k : List α → W δ} [Mo R] (d : DiceM M H) (go : GoE M E H PE) (ho : ∀ H (Q : VK), Q (.ref D) H → to σ H Q) (a : RAt D (All R) M l (.ref D) H) (mD : D ∈ M.l) (h : Ev M E te σ H (RL (All R)) m) (hm : W.bind (W.bind m fun y => W.grd (l.length + y.length ≤ 1000000) (l ++ y)) k P PE)
    (c : ∀ x H2, Put D M H H2 → RAt D (All R) M x (.ref D) H2 → k x P PE → En.nx σ H2) : tDrop (tBM K "list" rExtend to (tCons te tNil)) En σ H := q_ext (w := fun D => D.nx) (En := En) d go ho a mD h hm c
end
/-- a property that raises nothing, read where exceptions pass -/
theorem ev_prN {α γ : Type} {N : En} {C : Str} {F : Fl α} {R'' : Rp γ} {M : Mm} {E : XK} {σ : St} {H : Hp} {ta : TE} {ma : W α} {mm : α → W γ} (hca : M.ca = N.ga) (hp : ∀ x P PE, mm x P PE → mm x P (fun _ => False)) (ha : Ev M E ta σ H (RO C F) ma) :
    Ev M E (tPr (N.ga C) (FnW N (One (RO C F)) R'' mm) E0 ta) σ H R'' (W.bind ma mm) := fun H1 e Q P PE hm q g =>
  ha H1 e _ _ PE hm (fun v x H2 e2 hx r => by
    obtain ⟨p, dx, fs, h1, h2, h3, h4⟩ := id r
    subst h1
    exact ⟨p, dx, fs, rfl, by rw [hca] at h3; exact h3, M, x, P, (fun _ => False), hca, e2.dice, ⟨_, rfl, r⟩, hp _ _ _ hx, fun w z H3 e3 hz rz => q w z H3 (e2.trans e3) hz rz, GoE.none⟩) g
end MW

/-! wS: sets of rows of any number (up to some thousand): the table's way meets each slot for each power of two. -/
namespace SX
open PySem PySem.Spec PyProof.Rows L2
/-- 1 + 5 + .. -/
def geo : Nat → Nat
  | 0 => 0
  | n + 1 => geo n * 5 + 1
theorem geo_add (a : Nat) : ∀ b, geo (a + b) = geo a * 5 ^ b + geo b
  | 0 => by simp [geo]
  | b + 1 => by
    show geo (a + b) * 5 + 1 = geo a * 5 ^ (b + 1) + (geo b * 5 + 1)
    rw [geo_add a b, Nat.add_mul, Nat.pow_succ, Nat.mul_assoc]; omega
theorem five_mod : ∀ n, 5 ^ n % 4 = 1
  | 0 => rfl
  | n + 1 => by rw [Nat.pow_succ]; have := five_mod n; omega
theorem geo_par : ∀ n, geo n % 2 = n % 2
  | 0 => rfl
  | n + 1 => by show (geo n * 5 + 1) % 2 = _; have := geo_par n; omega
theorem cop {c : Nat} (h : c % 2 = 1) (k : Nat) : Nat.Coprime (2 ^ k) c := by
  apply Nat.Coprime.pow_left
  show Nat.gcd 2 c = 1
  rw [Nat.gcd_rec, h]; rfl
theorem geo_twice (n : Nat) : geo (n + n) = geo n * (5 ^ n + 1) := by rw [geo_add, Nat.mul_add]; omega
theorem geo_dvd : ∀ k n, 2 ^ k ∣ geo n → 2 ^ k ∣ n
  | 0, n, _ => by simp
  | k + 1, n, h => by
    have e2 : geo n % 2 = 0 := Nat.mod_eq_zero_of_dvd (Nat.dvd_trans ⟨2 ^ k, by rw [Nat.pow_succ, Nat.mul_comm]⟩ h)
    rw [geo_par] at e2
    obtain ⟨m, rfl⟩ : ∃ m, n = m + m := ⟨n / 2, by omega⟩
    have h5 := five_mod m
    obtain ⟨c, hc, ho⟩ : ∃ c, 5 ^ m + 1 = 2 * c ∧ c % 2 = 1 := ⟨(5 ^ m + 1) / 2, by omega, by omega⟩
    rw [geo_twice, hc, Nat.pow_succ, Nat.mul_left_comm, Nat.mul_comm (2 ^ k)] at h
    have h1 := Nat.dvd_of_mul_dvd_mul_left (by decide : 0 < 2) h
    have h2 := geo_dvd k m ((cop ho k).dvd_of_dvd_mul_right h1)
    obtain ⟨q, hq⟩ := h2
    exact ⟨q, by rw [Nat.pow_succ, Nat.mul_assoc, Nat.mul_comm 2 q, ← Nat.mul_assoc, ← hq]; omega⟩
theorem geo_full : ∀ k, 2 ^ k ∣ geo (2 ^ k)
  | 0 => by simp
  | k + 1 => by
    obtain ⟨q, hq⟩ := geo_full k
    have h5 := five_mod (2 ^ k)
    obtain ⟨c, hc⟩ : ∃ c, 5 ^ 2 ^ k + 1 = 2 * c := ⟨(5 ^ 2 ^ k + 1) / 2, by omega⟩
    rw [Nat.pow_succ, Nat.mul_two, geo_twice, hq, hc]
    exact ⟨q * c, by rw [← Nat.mul_two, Nat.mul_assoc, Nat.mul_assoc, Nat.mul_left_comm q 2 c]⟩
theorem lcg_geo (m : Nat) : ∀ b, lcgN m b = geo b % (m + 1)
  | 0 => (Nat.zero_mod _).symm
  | b + 1 => by
    show (lcgN m b * 5 + 1) % (m + 1) = (geo b * 5 + 1) % (m + 1)
    rw [lcg_geo m b, Nat.add_mod, Nat.mod_mul_mod, ← Nat.add_mod]
/-- the masks: 7, 15, .. -/
def Mq (m : Nat) : Prop := ∃ k, 3 ≤ k ∧ k ≤ 13 ∧ m + 1 = 2 ^ k
theorem Mq.odd {m : Nat} (h : Mq m) : m % 2 = 1 := by
  obtain ⟨k, h1, _, h3⟩ := h
  obtain ⟨j, rfl⟩ : ∃ j, k = j + 1 := ⟨k - 1, by omega⟩
  rw [Nat.pow_succ] at h3; omega
theorem Mq.le {m : Nat} (h : Mq m) : m ≤ 8191 := by
  obtain ⟨k, _, h2, h3⟩ := h
  have : 2 ^ k ≤ 2 ^ 13 := Nat.pow_le_pow_right (by decide) h2
  have e : (2 : Nat) ^ 13 = 8192 := rfl
  omega
theorem lcg_inj {m : Nat} (h : Mq m) {a b : Nat} (hab : a < b) (hb : b ≤ m) : lcgN m a ≠ lcgN m b := by
  obtain ⟨k, _, _, h3⟩ := h
  intro e
  rw [lcg_geo, lcg_geo, h3] at e
  obtain ⟨d, rfl⟩ : ∃ d, b = d + a := ⟨b - a, by omega⟩
  rw [geo_add] at e
  have h1 : 2 ^ k ∣ geo d * 5 ^ a := by
    have h2 : (geo d * 5 ^ a + geo a - geo a) % 2 ^ k = 0 := Nat.sub_mod_eq_zero_of_mod_eq e.symm
    rw [Nat.add_sub_cancel] at h2
    exact Nat.dvd_of_mod_eq_zero h2
  have h2 := geo_dvd k d ((cop (by have := five_mod a; omega) k).dvd_of_dvd_mul_right h1)
  have := Nat.le_of_dvd (by omega) h2
  omega
theorem lcg_any {m : Nat} (h : Mq m) {j : Nat} (hj : j ≤ m) : ∃ b, b ≤ m ∧ lcgN m b = j := by
  apply Classical.byContradiction
  intro hn
  have hlt : ∀ b, lcgN m b < m + 1 := fun b => by rw [lcg_geo]; exact Nat.mod_lt _ (Nat.succ_pos _)
  have nd : ((List.range (m + 1)).map (lcgN m)).Nodup := by
    rw [List.Nodup, List.pairwise_map]
    refine List.Pairwise.imp_of_mem (fun {a b} ha hb hl => ?_) List.pairwise_lt_range
    exact lcg_inj h hl (by have := List.mem_range.mp hb; omega)
  have := nat_nodup_len _ ((List.range (m + 1)).erase j) nd fun x hx => by
    obtain ⟨b, hb, rfl⟩ := List.mem_map.mp hx
    refine (List.mem_erase_of_ne fun e => hn ⟨b, by have := List.mem_range.mp hb; omega, e⟩).mpr (List.mem_range.mpr (hlt b))
  rw [List.length_map, List.length_range, List.length_erase_of_mem (List.mem_range.mpr (by omega)), List.length_range] at this
  omega
theorem lcg_back {m : Nat} (h : Mq m) (k : Nat) : lcgN m (m + 1 + k) = lcgN m k := by
  rw [← lcgN_add]
  have e : lcgN m (m + 1) = 0 := by
    obtain ⟨q, _, _, h3⟩ := h
    rw [lcg_geo, h3]
    exact Nat.mod_eq_zero_of_dvd (geo_full q)
  have z := lcgN_add m 0 k
  rw [Nat.zero_add] at z
  rw [e]; exact z
theorem meets {m : Nat} (h : Mq m) (x : Int) {j : Nat} (hj : j ≤ m) : ∃ n, n ≤ m + 12 ∧ runI m (SetTable.bits x) n = j := by
  obtain ⟨a, ha, ea⟩ := lcg_any h (runI_le m (SetTable.bits x) 12)
  obtain ⟨b, hb, eb⟩ := lcg_any h hj
  have key : ∃ k, k ≤ m ∧ lcgN m (a + k) = j := by
    by_cases c : a ≤ b
    · exact ⟨b - a, by omega, by rw [Nat.add_sub_cancel' c]; exact eb⟩
    · exact ⟨m + 1 + b - a, by omega, by rw [Nat.add_sub_cancel' (by omega), lcg_back h]; exact eb⟩
  obtain ⟨k, hk, e⟩ := key
  refine ⟨12 + k, by omega, ?_⟩
  rw [runI_tail (bits_lt x), ← ea, lcgN_add]; exact e
/-! ### tables -/
theorem way_in {m : Nat} {x : Int} {k : Nat} : way m x k ≤ m := by
  have h0 : SetTable.bits x % (m + 1) < m + 1 := Nat.mod_lt _ (Nat.succ_pos _)
  have h1 := runEnd_bd (m := m) (i := SetTable.bits x % (m + 1)) (by omega)
  have h2 := nth_in (m := m) k (runAt m (SetTable.bits x % (m + 1)) (SetTable.bits x)) (by unfold runAt; dsimp only; omega)
  exact Nat.le_trans (Nat.le_add_right _ _) h2
/-- before each one's slot on its way all is taken -/
structure Tb (t : SetTable) (hs : List Int) : Prop where
  up : Ris t.place.toList
  nod : t.dummies = #[]
  cnt : t.place.size = hs.length
  mq : Mq t.mask
  way_ : ∀ (i : Nat) (x : Int) (j : Nat), hs[i]? = some x → t.place.toList[i]? = some j → ∃ k, way t.mask x k = j ∧ ∀ q, q < k → way t.mask x q ∈ t.place.toList
theorem Tb.hole {t : SetTable} {hs : List Int} (T : Tb t hs) (hl : hs.length ≤ t.mask) (x : Int) : ∃ K, K < 10 * SetTable.turns t.mask ∧ way t.mask x K ∉ t.place.toList ∧ ∀ k, k < K → way t.mask x k ∈ t.place.toList := by
  obtain ⟨j, hj, hn⟩ := st_missing t.place.toList (t.mask + 1) (by have := T.cnt; rw [Array.length_toList]; omega)
  obtain ⟨n, h1, h2⟩ := meets T.mq x (j := j) (by omega)
  obtain ⟨k, h3, h4⟩ := run_nth t.mask (SetTable.bits x) n
  have hk : way t.mask x k ∉ t.place.toList := by
    have e : way t.mask x k = j := by unfold way; rw [h4]; exact h2
    rw [e]; exact hn
  obtain ⟨K, a1, a2, a3⟩ := st_least (p := fun k => way t.mask x k ∉ t.place.toList) k hk
  exact ⟨K, by unfold SetTable.turns; omega, a2, fun q hq => Classical.byContradiction (a3 q hq)⟩
theorem Tb.ahead {t : SetTable} {hs : List Int} (T : Tb t hs) {x : Int} {K i j : Nat} (hK : way t.mask x K ∉ t.place.toList) (hi : hs[i]? = some x) (hj : t.place.toList[i]? = some j) : ∃ k, k < K ∧ way t.mask x k = j := by
  obtain ⟨k, e, hb⟩ := T.way_ i x j hi hj
  refine ⟨k, Nat.lt_of_not_le fun hle => ?_, e⟩
  rcases Nat.eq_or_lt_of_le hle with q | q
  · exact hK (by rw [q, e]; exact List.mem_of_getElem? hj)
  · exact hK (hb K q)
/-- one more -/
theorem Tb.more {t : SetTable} {hs : List Int} (T : Tb t hs) {x : Int} {K : Nat} (hK : way t.mask x K ∉ t.place.toList) (hb : ∀ k, k < K → way t.mask x k ∈ t.place.toList) :
    SetTable.below t.place (way t.mask x K) ≤ hs.length ∧ Tb (t.put (way t.mask x K)).1 (hs.take (SetTable.below t.place (way t.mask x K)) ++ x :: hs.drop (SetTable.below t.place (way t.mask x K))) ∧ (t.put (way t.mask x K)).1.fill = hs.length + 1 := by
  generalize hj : way t.mask x K = j at hK ⊢
  have cut := (below_cut T.up j).1
  generalize hp : SetTable.below t.place j = p at cut ⊢
  have hpl : p ≤ t.place.toList.length := by rw [Array.length_toList]; exact cut
  have hph : p ≤ hs.length := T.cnt ▸ cut
  have pl : (t.put j).1.place.toList = t.place.toList.take p ++ j :: t.place.toList.drop p := by rw [put_place, hp]
  have sz : (t.put j).1.place.size = hs.length + 1 := by rw [← Array.length_toList, pl, len_ins _ hpl, Array.length_toList, T.cnt]
  have old : ∀ y, y ∈ t.place.toList → y ∈ (t.put j).1.place.toList := fun y hy => by rw [pl]; exact mem_ins.2 (.inr hy)
  refine ⟨hph, ⟨?_, put_dm T.nod j, by rw [sz, len_ins _ hph], T.mq, fun i y z h1 h2 => ?_⟩, ?_⟩
  · refine ris_insert T.up fun e => hK (List.mem_of_getElem? (i := SetTable.below t.place j) ?_)
    rw [Array.getElem?_toList]; exact e
  · rw [tins_get hs hph] at h1
    rw [pl, tins_get _ hpl] at h2
    have lift : ∀ i', hs[i']? = some y → t.place.toList[i']? = some z → ∃ k, way t.mask y k = z ∧ ∀ q, q < k → way t.mask y q ∈ (t.put j).1.place.toList := fun i' a b => by
      obtain ⟨k, c1, c2⟩ := T.way_ i' y z a b
      exact ⟨k, c1, fun q hq => old _ (c2 q hq)⟩
    by_cases c : i < p
    · rw [if_pos c] at h1 h2; exact lift i h1 h2
    · rw [if_neg c] at h1 h2
      by_cases d : i = p
      · rw [if_pos d] at h1 h2
        cases h1; cases h2
        exact ⟨K, hj, fun q hq => old _ (hb q hq)⟩
      · rw [if_neg d] at h1 h2; exact lift (i - 1) h1 h2
  · unfold SetTable.fill
    rw [sz, put_dm T.nod j]; rfl
/-! ### laid anew -/
theorem seat {m : Nat} (hm : Mq m) {done : List Int} {owner : Array (Option Nat)} (O : Own m done owner) (hl : done.length ≤ m) (x : Int) :
    ∃ j, SetTable.layClean.free m owner (SetTable.turns m) (SetTable.bits x % (m + 1)) (SetTable.bits x) = some j ∧ Own m (done ++ [x]) (owner.setIfInBounds j (some done.length)) := by
  obtain ⟨ps, l1, l2⟩ := O.ps
  obtain ⟨f, f1, f2⟩ := st_missing ps (m + 1) (by omega)
  have ff : oAt owner f = none := by
    cases e : oAt owner f with
    | none => rfl
    | some q => exact absurd (l2 f (by omega) (by rw [e]; simp)) f2
  obtain ⟨n, n1, n2⟩ := meets hm x (j := f) (by omega)
  have wf : way m x (off m (SetTable.bits x % (m + 1)) (SetTable.bits x) n) = f := by
    unfold way; rw [nth_off, itL_run]; exact n2
  obtain ⟨K, k1, k2, k3⟩ := st_least (p := fun k => oAt owner (way m x k) = none) _ (by rw [wf]; exact ff)
  have wle := way_in (m := m) (x := x) (k := K)
  have wsz : way m x K < owner.size := by rw [O.sz]; omega
  refine ⟨way m x K, ?_, ?_⟩
  · refine free_spec m owner _ n _ _ K (by unfold SetTable.turns; omega) k1 (fun k hk => ?_) ?_
    · have := k3 k hk
      cases e : oAt owner (way m x k) with
      | none => exact absurd e this
      | some q => rfl
    · show (oAt owner (way m x K)).isNone = true
      rw [show oAt owner (way m x K) = none from k2]; rfl
  · have me := oAt_set_self (some done.length) wsz
    have kept : ∀ i, oAt owner i ≠ none → oAt (owner.setIfInBounds (way m x K) (some done.length)) i ≠ none := fun i hi => by
      rcases Nat.decEq i (way m x K) with c | c
      · rw [oAt_set_ne _ c]; exact hi
      · rw [c, me]; simp
    constructor
    · rw [Array.size_setIfInBounds]; exact O.sz
    · intro j k hj e
      rcases Nat.decEq j (way m x K) with c | c
      · rw [oAt_set_ne _ c] at e
        obtain ⟨y, q, a1, a2, a3⟩ := O.at_ j k hj e
        refine ⟨y, q, ?_, a2, fun r hr => kept _ (a3 r hr)⟩
        rw [List.getElem?_append_left (List.getElem?_eq_some_iff.mp a1).1]; exact a1
      · rw [c, me] at e
        cases e
        exact ⟨x, K, by simp, c.symm, fun r hr => kept _ (k3 r hr)⟩
    · intro k hk
      rw [List.length_append, List.length_singleton] at hk
      rcases Nat.lt_or_ge k done.length with c | c
      · obtain ⟨j, a1, a2⟩ := O.all k c
        refine ⟨j, a1, ?_⟩
        rw [oAt_set_ne _ (fun e => by rw [e] at a2; rw [show oAt owner (way m x K) = none from k2] at a2; cases a2)]; exact a2
      · exact ⟨_, wle, by rw [me, show done.length = k by omega]⟩
    · refine ⟨way m x K :: ps, by simp [l1], fun j hj e => ?_⟩
      rcases Nat.decEq j (way m x K) with c | c
      · rw [oAt_set_ne _ c] at e
        exact List.mem_cons_of_mem _ (l2 j hj e)
      · rw [c]; exact List.mem_cons_self
theorem seats {m : Nat} (hm : Mq m) (rest : List Int) : ∀ (done : List Int) (owner : Array (Option Nat)), Own m done owner → done.length + rest.length ≤ m →
    ∃ owner', rest.foldl (stepF m) (some (owner, done.length)) = some (owner', (done ++ rest).length) ∧ Own m (done ++ rest) owner' := by
  induction rest with
  | nil => intro done owner O _; exact ⟨owner, by simp, by simpa using O⟩
  | cons x rest ih =>
    intro done owner O hl
    simp only [List.length_cons] at hl
    obtain ⟨j, e, O'⟩ := seat hm O (by omega) x
    obtain ⟨o2, f, O2⟩ := ih (done ++ [x]) _ O' (by simp; omega)
    refine ⟨o2, ?_, by simpa using O2⟩
    rw [List.foldl_cons, stepF_some e]
    simpa using f
theorem laid {t : SetTable} {hs : Array Int} {wanted M : Nat} (hw : SetTable.sizeAbove wanted - 1 = M) (hM : Mq M) (hn : hs.size ≤ M) :
    ∃ t' order, t.relaid hs wanted = some (t', order) ∧ order.toList.Perm (List.range hs.size) ∧ Tb t' (order.toList.map fun i => hs.getD i 0) ∧ t'.mask = M ∧ t'.led = t.led ∧ t'.plain = t.plain := by
  obtain ⟨owner, e1, O⟩ := seats hM hs.toList [] _ (Own.init M) (by simp; omega)
  have e : SetTable.layClean M hs = some owner := by
    rw [layClean_eq]
    have : hs.toList.foldl (stepF M) (some (Array.replicate (M + 1) none, 0)) = some (owner, ([] ++ hs.toList).length) := e1
    rw [this]; rfl
  rw [List.nil_append] at O
  have inl := fun {j k : Nat} => mem_live (m := M) (owner := owner) O.sz (j := j) (k := k)
  have rr := ris_live (fun j => owner.getD j none) (List.range (M + 1)) List.pairwise_lt_range
  have r1 : Ris ((liveOf M owner).map (·.1)) := rr.1
  generalize hL : liveOf M owner = L at inl r1
  have ndL : (L.map (·.1)).Nodup := r1.imp Nat.ne_of_lt
  have cnt : L.length = hs.size := by
    obtain ⟨ps, p1, p2⟩ := O.ps
    have up := nat_nodup_len (L.map (·.1)) ps ndL fun y hy => by
      obtain ⟨⟨j, k⟩, hq, rfl⟩ := List.mem_map.mp hy
      obtain ⟨b1, b2⟩ := inl.1 hq
      exact p2 j b1 (by rw [b2]; simp)
    have dn := nat_nodup_len (List.range hs.size) (L.map (·.2)) List.nodup_range fun k hk => by
      obtain ⟨j, b1, b2⟩ := O.all k (by simpa using hk)
      exact List.mem_map.mpr ⟨(j, k), inl.2 ⟨b1, b2⟩, rfl⟩
    have hz : hs.toList.length = hs.size := Array.length_toList
    rw [List.length_map, p1] at up
    rw [List.length_map, List.length_range] at dn
    omega
  refine ⟨tabOf t M owner, ((liveOf M owner).map (·.2)).toArray, by rw [relaid_eq, hw, e]; rfl, ?_, ?_, rfl, rfl, rfl⟩
  · show ((liveOf M owner).map (·.2)).Perm _
    rw [hL]
    refine perm_range hs.size _ (by rw [List.length_map, cnt]) fun k hk => ?_
    obtain ⟨j, b1, b2⟩ := O.all k (by simpa using hk)
    exact List.mem_map.mpr ⟨(j, k), inl.2 ⟨b1, b2⟩, rfl⟩
  · have pl : (tabOf t M owner).place.toList = L.map (·.1) := by show (liveOf M owner).map (·.1) = _; rw [hL]
    refine ⟨by rw [pl]; exact r1, rfl, ?_, hM, fun i x j h1 h2 => ?_⟩
    · show ((liveOf M owner).map (·.1)).toArray.size = (List.map _ ((liveOf M owner).map (·.2))).length
      simp
    · have h1 : ((liveOf M owner).map (·.2) |>.map fun i => hs.getD i 0)[i]? = some x := h1
      rw [pl] at h2 ⊢
      rw [hL] at h1
      rw [List.getElem?_map, List.getElem?_map] at h1
      rw [List.getElem?_map] at h2
      cases hq : L[i]? with
      | none => rw [hq] at h2; cases h2
      | some q =>
        obtain ⟨y, k⟩ := q
        rw [hq] at h1 h2
        cases h2
        obtain ⟨b1, b2⟩ := inl.1 (List.mem_of_getElem? hq)
        obtain ⟨x0, K, a1, a2, a3⟩ := O.at_ y k b1 b2
        have ex : hs.getD k 0 = x0 := by rw [Array.getD_eq_getD_getElem?, ← Array.getElem?_toList, a1]; rfl
        have ex2 : hs.getD k 0 = x := Option.some.inj h1
        rw [← ex2, ex]
        refine ⟨K, a2, fun r hr => ?_⟩
        cases z : oAt owner (way M x0 r) with
        | none => exact absurd z (a3 r hr)
        | some k2 => exact List.mem_map.mpr ⟨(way M x0 r, k2), inl.2 ⟨way_in, z⟩, rfl⟩
end SX

/-! wT: set(rows) and sorted(set) for some thousand rows. -/
namespace SX
open PySem PySem.Spec PyProof.Rows L2
theorem size_pow {n : Nat} (hn : n < 2 ^ 13) : ∀ fuel k, k ≤ 13 → 13 ≤ fuel + k → ∃ k', k ≤ k' ∧ k' ≤ 13 ∧ SetTable.sizeAbove.go n fuel (2 ^ k) = 2 ^ k' ∧ n < 2 ^ k'
  | 0, k, h1, h2 => ⟨k, Nat.le_refl _, h1, rfl, by
    have : k = 13 := by omega
    rw [this]; exact hn⟩
  | f + 1, k, h1, h2 => by
    unfold SetTable.sizeAbove.go
    by_cases c : 2 ^ k ≤ n
    · rw [if_pos c]
      have hk : k < 13 := Nat.lt_of_not_le fun z => by
        have := Nat.pow_le_pow_right (by decide : 0 < 2) z
        omega
      obtain ⟨k', a, b, d, e⟩ := size_pow hn f (k + 1) hk (by omega)
      rw [← Nat.pow_succ]
      exact ⟨k', by omega, b, d, e⟩
    · rw [if_neg c]
      exact ⟨k, Nat.le_refl _, h1, rfl, by omega⟩
theorem size_mask {n : Nat} (hn : n < 8192) : ∃ M, SetTable.sizeAbove n = M + 1 ∧ Mq M ∧ n ≤ M := by
  obtain ⟨k, h1, h2, h3, h4⟩ := size_pow (n := n) hn 64 3 (by omega) (by omega)
  have h3 : SetTable.sizeAbove n = 2 ^ k := h3
  exact ⟨2 ^ k - 1, by omega, ⟨k, h1, h2, by omega⟩, by omega⟩
section
variable {P : Program} {w : World} {A : Around} {E : Value → Shared → Prop} {s : Shared}
/-- the set at a holds the rows L -/
structure SR (P : Program) (w : World) (h : Heap) (a : Addr) (L : List (Addr × List Int)) (es : Array (Int × Value)) (ep : Nat) (t : SetTable) : Prop where
  obj : ∃ o, h.get? a = some o ∧ o.ExactSet ∧ o.data = .set es ep t
  ents : es.toList = rowsOf P w L
  tab : Tb t (L.map fun p => thash P w p.2)
  once : (L.map (·.2)).Nodup
  rows : ∀ p ∈ L, IsT P w h p.2 p.1
  pln : t.plain = true
  ord : w.params.followText "set-order" = true ∨ t.led = true
  free : L.length * 5 < t.mask * 3
variable {a : Addr} {L : List (Addr × List Int)} {es : Array (Int × Value)} {ep : Nat} {t : SetTable}
theorem ents_size (h : es.toList = rowsOf P w L) : es.size = L.length := by
  rw [← Array.length_toList, h]; unfold rowsOf; simp
theorem SR.fit (R : SR P w s.heap a L es ep t) : t.fits es.size = true := by
  have h1 := R.tab.cnt
  have h2 := ents_size R.ents
  have h3 := R.free
  simp only [List.length_map] at h1
  unfold SetTable.fits SetTable.fill
  rw [R.tab.nod]
  simp only [Bool.and_eq_true, beq_iff_eq, decide_eq_true_eq]
  exact ⟨by omega, by show t.place.size + 0 ≤ _; omega⟩
theorem SR.at_ (R : SR P w s.heap a L es ep t) {i : Nat} {p : Addr × List Int} (h : L[i]? = some p) : es[i]? = some (thash P w p.2, Value.ref p.1) := by
  rw [← Array.getElem?_toList, R.ents]
  simp [rowsOf, h]
/-- the q-th step of the way -/
abbrev pr (m : Nat) (x : Int) (q : Nat) : SetTable.Probe := nth m (runAt m (SetTable.bits x % (m + 1)) (SetTable.bits x)) q
theorem pr_dummy (m : Nat) (x : Int) (q : Nat) : (pr m x q).dummy = none := by
  induction q with
  | zero => rfl
  | succ q ih =>
    have e : pr m x (q + 1) = adv m (pr m x q) := nth_succ m _ q
    rw [e]; unfold adv
    split <;> exact ih
theorem seek (R : SR P w s.heap a L es ep t) {x : Addr} {k : List Int} (hx : IsT P w s.heap k x) (hu : A.units < cLine) {K : Nat} (hKf : K < 10 * SetTable.turns t.mask) (hK : way t.mask (thash P w k) K ∉ t.place.toList) (hKb : ∀ c, c < K → way t.mask (thash P w k) c ∈ t.place.toList)
    {Q : SetFound → Shared → Prop} (hin : k ∈ L.map (·.2) → Q (.there none) s) (hout : k ∉ L.map (·.2) → Q (.free (way t.mask (thash P w k) K) false) s) (f : Nat) :
    ∀ (c : Nat) (stand : Option SetTable.Probe), stand.getD (t.probeStart (thash P w k)) = pr t.mask (thash P w k) c → c ≤ K → K < f + c → (∀ (i : Nat) p, L[i]? = some p → p.2 = k → ∃ r, c ≤ r ∧ r < K ∧ t.place.toList[i]? = some (way t.mask (thash P w k) r)) →
      wpAny (model P w) A (setSearchFrom a (.ref x) (thash P w k) true f stand) Q E s := by
  obtain ⟨o, ho, hex, hd⟩ := R.obj
  have odd : ¬ t.gaveWay = true := by unfold SetTable.gaveWay; rw [R.tab.mq.odd]; decide
  have live : ∀ {i : Nat}, i < t.place.toList.length → i < L.length := fun {i} h => by
    have := R.tab.cnt
    rw [List.length_map] at this
    rw [Array.length_toList] at h; omega
  induction f with
  | zero => intro c _ _ h1 h2; omega
  | succ f ih =>
    intro c stand hst hc hf hre
    rw [setSearchFrom_succ]
    refine wpAny_bind (wpAny_setState_of ho hd R.fit ?_)
    dsimp only
    refine wp_if_neg odd ?_
    try refine wpAny_bind (wpAny_pure ?_)
    have step : ∀ q, nth t.mask (pr t.mask (thash P w k) c) q = pr t.mask (thash P w k) (c + q) := fun q => (nth_add t.mask c _ q).symm
    have hash : ∀ (i : Nat) p, L[i]? = some p → ((es[i]?.map (·.1)).getD 0) = thash P w p.2 := fun i p hp => by rw [R.at_ hp]; rfl
    have look := go_spec t R.tab.up R.tab.nod (fun i => (es[i]?.map (·.1)).getD 0) (thash P w k) (10 * SetTable.turns t.mask) (K - c) (pr t.mask (thash P w k) c) (pr_dummy _ _ _) (by omega)
      (fun q hq => by rw [step]; exact hKb (c + q) (by omega)) (by rw [step, Nat.add_sub_cancel' hc]; exact hK)
    simp only [step] at look
    have ask : ∀ z, SetTable.probe.go t (fun i => (es[i]?.map (·.1)).getD 0) (thash P w k) (10 * SetTable.turns t.mask) (pr t.mask (thash P w k) c) = z → t.probe (fun i => (es[i]?.map (·.1)).getD 0) (thash P w k) (stand.getD (t.probeStart (thash P w k))) = z := fun z e => by rw [hst]; exact e
    rcases look with ⟨q, i, hq, hi, hh, hno, hgo⟩ | ⟨hno, hgo⟩
    · rw [ask _ hgo]
      dsimp only
      have hil := live (List.getElem?_eq_some_iff.mp hi).1
      obtain ⟨p, hp⟩ : ∃ p, L[i]? = some p := ⟨L[i], List.getElem?_eq_getElem hil⟩
      have hpm := List.mem_of_getElem? hp
      have more : wpAny (model P w) A (searchRest a (.ref x) (thash P w k) true f es t (pr t.mask (thash P w k) (c + q)).j i (pr t.mask (thash P w k) (c + (q + 1)))) Q E s := by
        unfold searchRest
        rw [R.at_ hp]
        dsimp only
        refine wpAny_bind (wpAny_holding (wpAny_eqBool_tuple hu (R.rows p hpm) hx ?_))
        refine wpAny_bind (wpAny_setState_of ho hd R.fit ?_)
        dsimp only
        by_cases same : p.2 = k
        · exact wp_if_pos (by simp [same]) (wpAny_pure (hin (List.mem_map.mpr ⟨p, hpm, same⟩)))
        · refine wp_if_neg (by simp [same]) ?_
          try refine wpAny_bind (wpAny_pure ?_)
          rw [sameMem]
          dsimp only
          have hsl : t.slot (pr t.mask (thash P w k) (c + q)).j = .live i := slot_live R.tab.up hi
          simp only [if_true, hsl, R.at_ hp]
          refine wpAny_bind (wpAny_isSame_ref_self (wpAny_bind (wpAny_pure ?_)))
          simp only [if_true]
          refine wp_if_neg (by simp [same]) ?_
          refine ih (c + (q + 1)) _ rfl (by omega) (by omega) fun i0 p0 h0 hk0 => ?_
          obtain ⟨r, b1, b2, b3⟩ := hre i0 p0 h0 hk0
          refine ⟨r, (Nat.lt_of_not_le fun (hle : r ≤ c + q) => ?_ : c + q < r), b2, b3⟩
          rcases Nat.eq_or_lt_of_le hle with e | e
          · rw [e] at b3
            have e2 := slot_live R.tab.up b3
            rw [hsl] at e2
            injection e2 with e2
            rw [← e2, hp] at h0
            exact same (by rw [Option.some.inj h0]; exact hk0)
          · refine hno (r - c) i0 (by omega) ?_ (by rw [hash i0 p0 h0, hk0])
            rw [Nat.add_sub_cancel' b1]; exact b3
      by_cases hl : t.led = true
      · refine wp_if_neg (by simp [hl]) ?_
        try refine wpAny_bind (wpAny_pure ?_)
        exact more
      · refine wp_if_pos (by simp [hl]) (wpAny_bind (seen_tup hx (fun y hy => ?_) ?_))
        · obtain ⟨e, he, rfl⟩ := List.mem_map.mp hy
          have he : e ∈ es.toList := by
            have := he
            simp at this
            simpa using this.1
          rw [R.ents] at he
          obtain ⟨p2, hp2, rfl⟩ := List.mem_map.mp he
          exact ⟨p2.2, p2.1, rfl, R.rows p2 hp2⟩
        · refine wp_if_neg (by decide) ?_
          try refine wpAny_bind (wpAny_pure ?_)
          exact more
    · rw [ask _ hgo]
      dsimp only
      rw [Nat.add_sub_cancel' hc]
      refine wpAny_pure (hout fun hm => ?_)
      obtain ⟨p0, h0, hk0⟩ := List.mem_map.mp hm
      obtain ⟨i0, e0⟩ := List.mem_iff_getElem?.mp h0
      obtain ⟨r, b1, b2, b3⟩ := hre i0 p0 e0 hk0
      refine hno (r - c) i0 (by omega) ?_ (by rw [hash i0 p0 e0, hk0])
      rw [Nat.add_sub_cancel' b1]; exact b3
theorem search (R : SR P w s.heap a L es ep t) {x : Addr} {k : List Int} (hx : IsT P w s.heap k x) (hu : A.units < cLine) {Q : SetFound → Shared → Prop} (hin : k ∈ L.map (·.2) → Q (.there none) s)
    (hout : ∀ K, k ∉ L.map (·.2) → way t.mask (thash P w k) K ∉ t.place.toList → (∀ c, c < K → way t.mask (thash P w k) c ∈ t.place.toList) → Q (.free (way t.mask (thash P w k) K) false) s) : wpAny (model P w) A (setSearch a (.ref x) (thash P w k) true) Q E s := by
  have hr := R.free
  obtain ⟨K, k1, k2, k3⟩ := R.tab.hole (by rw [List.length_map]; omega) (thash P w k)
  have ml := R.tab.mq.le
  unfold setSearch
  refine seek R hx hu k1 k2 k3 hin (fun hn => hout K hn k2 k3) 100000 0 none rfl (Nat.zero_le _) (by unfold SetTable.turns at k1; omega) fun i p hp hk => ?_
  have c := R.tab.cnt
  rw [List.length_map] at c
  have hil := (List.getElem?_eq_some_iff.mp hp).1
  have hj := List.getElem?_eq_getElem (l := t.place.toList) (i := i) (by rw [Array.length_toList]; omega)
  obtain ⟨r, r1, r2⟩ := R.tab.ahead k2 (i := i) (by rw [List.getElem?_map, hp, ← hk]; rfl) hj
  exact ⟨r, Nat.zero_le _, r1, by rw [hj, r2]⟩
/-- laid anew -/
theorem relay {o : Obj} (ho : s.heap.get? a = some o) (hex : o.ExactSet) (hd : o.data = .set es ep t) (he : es.toList = rowsOf P w L) (T : Tb t (L.map fun p => thash P w p.2)) (hfl : es.size ≤ t.mask) (once : (L.map (·.2)).Nodup) (rows : ∀ p ∈ L, IsT P w s.heap p.2 p.1) (pln : t.plain = true)
    (ord : w.params.followText "set-order" = true ∨ t.led = true) (h0 : 0 < L.length) (hL : L.length ≤ 2001) {Q : Unit → Shared → Prop}
    (q : ∀ h' L' es' ep' t', Heap.SameBut a s.heap h' → SR P w h' a L' es' ep' t' → L'.Perm L → Q () { s with heap := h' }) : wpAny (model P w) A (setRelay a (SetTable.grown L.length)) Q E s := by
  have hsz := ents_size he
  have c := T.cnt
  rw [List.length_map] at c
  have hg : SetTable.grown L.length = L.length * 4 := by unfold SetTable.grown; rw [if_neg (by omega)]
  obtain ⟨M, m1, m2, m3⟩ := size_mask (n := SetTable.grown L.length) (by rw [hg]; omega)
  have ml := m2.le
  have hf : t.fits es.size = true := by
    unfold SetTable.fits SetTable.fill
    rw [T.nod]
    simp only [Bool.and_eq_true, beq_iff_eq, decide_eq_true_eq]
    exact ⟨by omega, by show t.place.size + 0 ≤ _; omega⟩
  obtain ⟨t', order, e, hp, T', em, el, epl⟩ := laid (t := t) (hs := es.map (·.1)) (wanted := SetTable.grown L.length) (M := M) (by omega) m2 (by rw [Array.size_map, hsz]; omega)
  rw [Array.size_map, hsz] at hp
  obtain ⟨L2, r1, r2, r3⟩ := order_rows L es order he hp
  rw [← r3] at T'
  have s2 : (order.filterMap (es[·]?)).size = es.size := by rw [ents_size r1, r2.length_eq, hsz]
  rw [setRelay_eq]
  refine wpAny_bind (wpAny_setState_of ho hd hf ?_)
  dsimp only
  refine wp_if_neg (by rw [m1, sizeLine_eq]; omega) ?_
  try refine wpAny_bind (wpAny_pure ?_)
  rw [e]
  dsimp only
  refine wpAny_bind (wp_if_neg (by rw [s2]; simp) ?_)
  try refine wpAny_bind (wpAny_pure ?_)
  refine wpAny_pure ?_
  dsimp only
  refine wpAny_storeSet_of ho hd ?_ (by rw [s2, hsz, sizeLine_eq]; omega)
  have sb : Heap.SameBut a s.heap (s.heap.update a (Obj.putSet (order.filterMap (es[·]?)) t')) := Heap.SameBut.update ..
  exact q _ L2 _ _ t' sb ⟨⟨_, store_at ho hd, hex, rfl⟩, r1, T', (r2.map (·.2)).nodup_iff.mpr once, fun p hpm => isT_same (rows p (r2.mem_iff.mp hpm)) ho hd sb, by rw [epl]; exact pln, by rw [el]; exact ord, by rw [r2.length_eq, em]; omega⟩ r2
/-- one more row -/
theorem add_row (R : SR P w s.heap a L es ep t) {x : Addr} {k : List Int} (hx : IsT P w s.heap k x) (hu : A.units < cLine) (hL : k ∉ L.map (·.2) → L.length ≤ 2000) {Q : Bool → Shared → Prop}
    (q : ∀ b h' L' es' ep' t', Heap.SameBut a s.heap h' → SR P w h' a L' es' ep' t' → (k ∈ L.map (·.2) → L' = L) → (k ∉ L.map (·.2) → L'.Perm ((x, k) :: L)) → Q b { s with heap := h' }) : wpAny (model P w) A (setAddHashed a (.ref x) (thash P w k)) Q E s := by
  obtain ⟨o, ho, hex, hd⟩ := R.obj
  have hsz := ents_size R.ents
  unfold setAddHashed
  refine wpAny_holding ?_
  show wpAny _ _ (setAddHashedIn a (.ref x) (thash P w k) (99999 + 1)) _ _ _
  rw [setAddHashedIn_succ]
  refine wpAny_bind (wpAny_setState_of ho hd R.fit ?_)
  dsimp only
  refine wp_if_neg (by simp [byScan, Value.scannable]) ?_
  try refine wpAny_bind (wpAny_pure ?_)
  refine wpAny_bind (search R hx hu (fun hm => ?_) fun K hm hK hb => ?_)
  · exact wpAny_pure (q false s.heap L es ep t (Heap.SameBut.refl a s.heap) R (fun _ => rfl) fun z => absurd hm z)
  have hL := hL hm
  dsimp only
  refine wpAny_bind (wpAny_setState_of ho hd R.fit ?_)
  dsimp only
  obtain ⟨q2, q3, q4⟩ := R.tab.more hK hb
  have p1 : (t.put (way t.mask (thash P w k) K)).1.plain = true := R.pln
  have l1 : w.params.followText "set-order" = true ∨ (t.put (way t.mask (thash P w k) K)).1.led = true := R.ord
  have mk1 : (t.put (way t.mask (thash P w k) K)).1.mask = t.mask := rfl
  have pp : (t.put (way t.mask (thash P w k) K)).2 = SetTable.below t.place (way t.mask (thash P w k) K) := rfl
  generalize t.put (way t.mask (thash P w k) K) = pt at q3 q4 p1 l1 mk1 pp ⊢
  generalize SetTable.below t.place (way t.mask (thash P w k) K) = b at q2 q3 pp
  obtain ⟨t1, p⟩ := pt
  dsimp only at q3 q4 p1 l1 mk1 pp ⊢
  subst pp
  first
    | (refine wpAny_bind ?_; refine wp_if_pos p1 ?_; refine hashBy_tup hx ?_)
    | refine wp_if_pos p1 (wpAny_bind (hashBy_tup hx ?_))
  simp only [if_true]
  have hents : (SetTable.insertAt es p (thash P w k, Value.ref x)).toList = rowsOf P w (L.take p ++ (x, k) :: L.drop p) := by rw [SetTable.toList_insertAt, rows_put, R.ents]
  have pm := put_perm L p (x, k)
  have hh : (L.map fun p => thash P w p.2).take p ++ thash P w k :: (L.map fun p => thash P w p.2).drop p = (L.take p ++ (x, k) :: L.drop p).map fun p => thash P w p.2 := by simp
  rw [hh] at q3
  rw [List.length_map] at q4
  generalize SetTable.insertAt es p (thash P w k, Value.ref x) = es1 at hents ⊢
  generalize L.take p ++ (x, k) :: L.drop p = L1 at hents pm q3
  have hlen : L1.length = L.length + 1 := pm.length_eq
  have hsz1 : es1.size = L.length + 1 := by rw [ents_size hents, hlen]
  have once1 : (L1.map (·.2)).Nodup := (pm.map (·.2)).nodup_iff.mpr (List.nodup_cons.mpr ⟨hm, R.once⟩)
  refine wpAny_bind (wpAny_storeSet_of ho hd ?_ (by rw [hsz1, sizeLine_eq]; omega))
  have sb : Heap.SameBut a s.heap (s.heap.update a (Obj.putSet es1 t1)) := Heap.SameBut.update ..
  have ho1 := store_at (es' := es1) (t' := t1) ho hd
  generalize s.heap.update a (Obj.putSet es1 t1) = h1 at sb ho1 ⊢
  have rows1 : ∀ p ∈ L1, IsT P w h1 p.2 p.1 := fun p hp => by
    rcases List.mem_cons.mp (pm.mem_iff.mp hp) with e | hp
    · subst e; exact isT_same hx ho hd sb
    · exact isT_same (R.rows p hp) ho hd sb
  have fr := R.free
  by_cases hf : t1.tooFull = true
  · first
      | (refine wpAny_bind ?_; refine wp_if_pos (by simp [hf]) ?_)
      | (refine wp_if_pos (by simp [hf]) ?_; refine wpAny_bind ?_)
    rw [hsz, ← hlen]
    refine relay (s := { s with heap := h1 }) ho1 hex rfl hents q3 (by rw [hsz1, mk1]; omega) once1 rows1 p1 l1 (by omega) (by omega) fun h2 L2 es2 ep2 t2 sb2 R2 pm2 => ?_
    exact wpAny_pure (q true h2 L2 es2 ep2 t2 (sb.trans sb2) R2 (fun z => absurd z hm) fun _ => pm2.trans pm)
  · first
      | refine wp_if_neg (by simp [hf]) ?_
      | (refine wpAny_bind ?_; refine wp_if_neg (by simp [hf]) ?_; refine wpAny_pure ?_)
    have room : L1.length * 5 < t1.mask * 3 := by
      have : ¬ t1.fill * 5 ≥ t1.mask * 3 := fun z => hf (decide_eq_true z)
      rw [q4] at this
      rw [hlen]; omega
    exact wpAny_pure (q true h1 L1 es1 (ep + 1) t1 sb ⟨⟨_, ho1, hex, rfl⟩, hents, q3, once1, rows1, p1, l1, room⟩ (fun z => absurd z hm) fun _ => pm)
end
end SX

/-! wU: set(list of rows), sorted(set). -/
namespace SX
open PySem PySem.Spec PyProof.Rows L2
section
variable {P : Program} {w : World} {A : Around} {E : Value → Shared → Prop} {s : Shared}
/-- what a new set is -/
abbrev fresh0 (w : World) : Obj := { cls := .type "set", dict := none, data := .set #[] 0 (.fresh 0 0 (!w.params.followText "set-order")) }
theorem sr_new {h : Heap} {a : Addr} (ho : h.get? a = some (fresh0 w)) : SR P w h a [] #[] 0 (.fresh 0 0 (!w.params.followText "set-order")) := by
  refine ⟨⟨_, ho, ⟨rfl, rfl, rfl⟩, rfl⟩, rfl, ⟨List.Pairwise.nil, rfl, rfl, ⟨3, by decide, by decide, rfl⟩, fun i x j hi => by simp at hi⟩, List.nodup_nil, fun p hp => (nomatch hp), rfl, ?_, (by show 0 * 5 < 7 * 3; decide)⟩
  show w.params.followText "set-order" = true ∨ (!w.params.followText "set-order") = true
  cases w.params.followText "set-order" <;> simp
theorem SR.lift {h h' : Heap} {a : Addr} {L : List (Addr × List Int)} {es : Array (Int × Value)} {ep : Nat} {t : SetTable} (R : SR P w h a L es ep t) (ha : ∀ o, h.get? a = some o → h'.get? a = some o) (hr : ∀ p ∈ L, IsT P w h' p.2 p.1) : SR P w h' a L es ep t := by
  obtain ⟨o, ho, r⟩ := R.obj
  exact ⟨⟨o, ha o ho, r⟩, R.ents, R.tab, R.once, hr, R.pln, R.ord, R.free⟩
/-- not more than two thousand different rows -/
def Few (ks : List (Addr × List Int)) : Prop := ∀ M : List (List Int), M.Nodup → (∀ x ∈ M, x ∈ ks.map (·.2)) → M.length ≤ 2000
theorem upd_loop {I : Addr} {fp wr : List Addr} {G : Array GenState → Array GenState → Prop} {n : Nat} {Pv : Nat → Value → Prop} {St : Nat → Shared → Prop} {R : Result → Shared → Prop} (W : WalksS P w A.in1 I fp wr G n Pv St) (S : Addr) (hS : S ∉ fp) (ks : List (Addr × List Int)) (hn : n = ks.length) (few : Few ks)
    (val : ∀ i v, Pv i v → ∃ p, ks[i]? = some p ∧ v = .ref p.1) (h0 : Heap) (hk : ∀ p ∈ ks, IsT P w h0 p.2 p.1) (nS : h0.get? S = none) (nw : ∀ b ∈ wr, h0.get? b = none) (hu : A.in1.units < cLine)
    (s0 : Shared) (fin : ∀ s' L es ep t, Moved (S :: wr) G s0 s' → SR P w s'.heap S L es ep t → Got ks n L → (∀ b o, h0.get? b = some o → s'.heap.get? b = some o) → R (.ok (.ret .none)) s') :
    ∀ (k i : Nat) (s : Shared), i + k = n → St i s → (∀ b o, h0.get? b = some o → s.heap.get? b = some o) → (∃ L es ep t, SR P w s.heap S L es ep t ∧ Got ks i L) → (∀ s', Moved (S :: wr) G s s' → Moved (S :: wr) G s0 s') →
      codeAny (model P w) A (.builtin "set.update.loop" ⟨[.ref S, .ref I], []⟩) R s := by
  have big : ∀ b, b ∈ wr → b ∈ S :: wr := fun b m => List.mem_cons_of_mem _ m
  have Sw : S ∉ wr := fun m => hS (W.sub _ m)
  have stay : ∀ {u v : Shared}, Moved wr G u v → (∀ b o, h0.get? b = some o → u.heap.get? b = some o) → ∀ b o, h0.get? b = some o → v.heap.get? b = some o := fun mv ku b o e => mv.heap b o (fun m => by rw [nw b m] at e; cases e) (ku b o e)
  intro k
  induction k with
  | zero =>
    rintro i s hi st ks0 ⟨L, es, ep, t, hR, g⟩ mv0
    obtain rfl : i = n := by omega
    refine codeAny_builtin F.entry_set_update_loop ?_
    rw [Around.under_plainId F.plain_set_update_loop _]
    show wpAny (model P w) A.in1 (pyNext (.ref I) >>= _) _ _ s
    refine wpAny_bind (W.done s _ _ st fun s' mv => ?_)
    show wpAny (model P w) A.in1 (ret Value.none) _ _ s'
    have k2 := stay mv ks0
    exact wpAny_pure (fin s' L es ep t (mv0 s' (mv.mono big)) (hR.lift (fun o e => mv.heap S o Sw e) fun p hp => isT_keep (hk p (List.mem_of_mem_take (g.sub p hp))) k2) g k2)
  | succ k ih =>
    rintro i s hi st ks0 ⟨L, es, ep, t, hR, g⟩ mv0
    refine codeAny_builtin F.entry_set_update_loop ?_
    rw [Around.under_plainId F.plain_set_update_loop _]
    show wpAny (model P w) A.in1 (pyNext (.ref I) >>= _) _ _ s
    refine wpAny_bind (W.item i s _ _ (by omega) st fun v s1 pv st1 mv => ?_)
    obtain ⟨p, hp, rfl⟩ := val i v pv
    have k1 := stay mv ks0
    have hR1 : SR P w s1.heap S L es ep t := hR.lift (fun o e => mv.heap S o Sw e) fun r hr => isT_keep (hk r (List.mem_of_mem_take (g.sub r hr))) k1
    have hx : IsT P w s1.heap p.2 p.1 := isT_keep (hk p (List.mem_of_getElem? hp)) k1
    show wpAny (model P w) A.in1 (holding [Value.ref p.1] (setAdd S (.ref p.1)) >>= _) _ _ s1
    refine wpAny_bind (wpAny_holding ?_)
    unfold setAdd
    refine wpAny_holding (wpAny_bind (wpAny_pyHash_tuple hu hx ?_))
    refine add_row (s := { s1 with toks := s1.toks + (p.2.length + 1) }) hR1 hx hu (fun hnot => ?_) fun b h2 L2 es2 ep2 t2 sb hR2 c1 c2 => ?_
    · have := few (p.2 :: L.map (·.2)) (List.nodup_cons.mpr ⟨hnot, hR.once⟩) fun x hx => by
        rcases List.mem_cons.mp hx with e | hx
        · rw [e]; exact List.mem_map_of_mem (List.mem_of_getElem? hp)
        · obtain ⟨r, hr, rfl⟩ := List.mem_map.mp hx
          exact List.mem_map_of_mem (List.mem_of_mem_take (g.sub r hr))
      rw [List.length_cons, List.length_map] at this; omega
    · have g2 : Got ks (i + 1) L2 := by
        by_cases c : p.2 ∈ L.map (·.2)
        · rw [c1 c]; exact g.same hp c
        · exact g.more hp (c2 c)
      have k2 : ∀ b o, h0.get? b = some o → h2.get? b = some o := fun b o e => (sb.2 b (fun z => by rw [z, nS] at e; cases e)).trans (k1 b o e)
      refine wpAny_pure ⟨plainId_quiet F.plain_set_update_loop _, ih (i + 1) _ (by omega) (W.frame _ s1 _ _ st1 (Nat.le_add_right _ _) fun b hb o e => ?_) k2 ⟨L2, es2, ep2, t2, hR2, g2⟩ fun s3 mv3 => mv0 s3 (Moved.trans W.gtrans ((mv.mono big).then_heap (Nat.le_add_right _ _) fun b o hb e => ?_) mv3)⟩
      · rw [sb.2 b (fun (z : b = S) => hS (z ▸ hb))]; exact e
      · rw [sb.2 b (fun (z : b = S) => hb (by rw [z]; exact List.mem_cons_self))]; exact e
theorem fresh_none {h : Heap} {b : Addr} (hb : h.objs.size ≤ b) : h.get? b = none := by
  cases e : h.get? b with
  | none => rfl
  | some o => exact absurd (Heap.lt_size e) (Nat.not_lt.mpr hb)
/-- set(rows) -/
theorem call_set {l : Addr} {items : Array Value} (ks : List (Addr × List Int)) {Q : Value → Shared → Prop} (ah : A.handled = none) (il : s.heap.IsList l items) (ii : items.toList = ks.map fun p => Value.ref p.1) (ik : ∀ p ∈ ks, IsT P w s.heap p.2 p.1) (few : Few ks) (au : A.units + 3 < cLine)
    (q : ∀ (h' : Heap) (tk : Nat) L es ep t, SR P w h' s.heap.objs.size L es ep t → Got ks ks.length L → (∀ b o, s.heap.get? b = some o → h'.get? b = some o) → Q (.ref s.heap.objs.size) { s with heap := h', toks := tk }) : wpAny (model P w) A (call (.type "set") [.ref l]) Q E s := by
  have isz : items.size = ks.length := by rw [← Array.length_toList, ii, List.length_map]
  obtain ⟨c, tl, called_mro⟩ := F.called_set.mro
  have called_made := F.called_set.made
  have called_sub := F.called_set.sub
  refine wpAny_call (codeAny_of_tree ?_)
  show wpAny (model P w) _ (callAny (.type "set") _) _ _ _
  refine wpAny_pure ⟨Code.quiet_builtin _ (by decide +kernel), codeAny_builtin F.entry_type_call ?_⟩
  rw [Around.under_plain (weight_type_call_type "set" [.ref l] []) rfl]
  have called_notType := F.called_set.notType
  have called_can := F.called_set.canCreate
  have called_type := F.typeCall_set_1 (.ref l)
  repeat (any_goals (first | assumption | wp_step))
  refine codeAny_mono (code_set_led1 (.ref l) (E := E) (Q₁ := fun v s1 => v = .ref s.heap.objs.size ∧ s1 = { s with heap := s.heap.push (fresh0 w) }) ⟨rfl, rfl⟩) fun r s1 hr => ?_
  match r, hr with
  | .error e, hr => exact hr
  | .ok (.ret v), hr =>
    obtain ⟨rfl, rfl⟩ := hr
    have S0 : (s.heap.push (fresh0 w)).get? s.heap.objs.size = some (fresh0 w) := Heap.get?_push_size _ rfl
    have isSet : Shared.TypeIs { s with heap := s.heap.push (fresh0 w) } (.ref s.heap.objs.size) "set" := ⟨_, S0, rfl⟩
    have init_look := F.called_set.init.lookup
    have init_bind := F.called_set.init.bind (.ref s.heap.objs.size)
    repeat (any_goals (first | assumption | wp_step))
    refine codeAny_mono (codeAny_call_builtin (R := wants (fun v s2 => v = .none ∧ ∃ h' tk L es ep t, s2 = { s with heap := h', toks := tk } ∧ SR P w h' s.heap.objs.size L es ep t ∧ Got ks ks.length L ∧ ∀ b o, s.heap.get? b = some o → h'.get? b = some o) E)
      F.called_set.init.plain F.entry_set_init (check_set_init_1 isSet ?_)) fun r2 s2 hr2 => ?_
    · obtain ⟨⟨ocls, odict, odata, oslots⟩, lo, lc, ln, ld⟩ := il
      simp only at lc ld
      subst lc ld
      have lo1 : (s.heap.push (fresh0 w)).get? l = some { cls := .type "list", dict := odict, data := .seq items ln, slots := oslots } := Heap.get?_push_of_some _ lo
      have sub1 := F.sub_list_set
      have sub2 := F.sub_list_frozenset
      have ndict : (Value.type "list" == Value.type "dict") = false := by decide
      have il1 : (s.heap.push (fresh0 w)).IsList l items := ⟨_, lo1, rfl, ln, rfl⟩
      unfold Builtin.«set.__init__» noKeywords Builtin.Frozenset.updateFrom
      generalize gi : pyIter = gI
      wp_walk
      subst gi
      refine wpAny_pyIter_list il1 (wpAny_bind (wpAny_runValue ?_))
      have lt_l : l < s.heap.objs.size := Heap.lt_size lo
      have psz : (s.heap.push (fresh0 w)).objs.size = s.heap.objs.size + 1 := Heap.size_push ..
      have ah3 : A.in1.in1.in1.handled = none := by simp [ah]
      have l_ne : l ≠ (s.heap.push (fresh0 w)).objs.size := by rw [psz]; exact Nat.ne_of_lt (Nat.lt_succ_of_lt lt_l)
      have s_nin : s.heap.objs.size ∉ [(s.heap.push (fresh0 w)).objs.size, l] := by
        intro m
        rcases List.mem_cons.mp m with z | m
        · rw [psz] at z; exact Nat.ne_of_lt (Nat.lt_succ_self _) z
        · exact Nat.ne_of_lt lt_l (List.mem_singleton.mp m).symm
      have vals : ∀ (i : Nat) (v : Value), items[i]? = some v → ∃ p, ks[i]? = some p ∧ v = .ref p.1 := fun i v e => by
        rw [← Array.getElem?_toList, ii, List.getElem?_map] at e
        obtain ⟨p, hp, rfl⟩ := Option.map_eq_some_iff.mp e
        exact ⟨p, hp, rfl⟩
      refine upd_loop ((Walks.list ah3 _ l l_ne items).toS) s.heap.objs.size s_nin ks isz few vals s.heap ik (fresh_none (Nat.le_refl _)) (fun b m => fresh_none (by rw [List.mem_singleton.mp m, psz]; omega)) au _ (fun s3 L es ep t mv R3 g k3 => ?_) items.size 0 _ (Nat.zero_add _)
        ⟨⟨_, Heap.get?_push_size _ rfl, rfl, rfl⟩, il1.push _⟩ (fun b o e => Heap.get?_push_of_some _ (Heap.get?_push_of_some _ e)) ⟨[], #[], 0, _, sr_new (Heap.get?_push_of_some _ S0), Got.zero ks⟩ (fun _ z => z)
      obtain ⟨h3, g3, d3, tk3, o3⟩ := s3
      obtain rfl : g3 = s.gens := mv.gens
      obtain rfl : d3 = s.drawn := mv.drawn
      obtain rfl : o3 = s.os := mv.os
      show wpAny (model P w) _ _ _ _ _
      refine wpAny_pure ?_
      show wpAny (model P w) _ (ret Value.none) _ _ _
      rw [isz] at g
      exact wpAny_pure ⟨rfl, h3, tk3, L, es, ep, t, rfl, R3, g, k3⟩
    · match r2, hr2 with
      | .error e, hr2 => exact hr2
      | .ok (.ret v), hr2 =>
        obtain ⟨rfl, h', tk, L, es, ep, t, rfl, R3, g, k3⟩ := hr2
        repeat (any_goals (first | assumption | wp_step))
        exact q _ _ _ _ _ _ R3 g k3
end
end SX

/-! wV: the layer's rules for sets of rows. -/
namespace SX
open PySem PySem.Spec PyProof.Rows L2
/-- the set at a holds the rows L; the rows themselves stand elsewhere -/
structure S0 (P : Program) (w : World) (h : Heap) (a : Addr) (L : List (Addr × List Int)) : Prop where
  is : ∃ (es : Array (Int × Value)) (ep : Nat) (t : SetTable), (∃ o, h.get? a = some o ∧ o.ExactSet ∧ o.data = .set es ep t) ∧ es.toList = rowsOf P w L ∧ Tb t (L.map fun p => thash P w p.2) ∧ (L.map (·.2)).Nodup ∧ t.plain = true ∧ (w.params.followText "set-order" = true ∨ t.led = true) ∧ L.length * 5 < t.mask * 3 ∧ L.length ≤ 2000
def SO (P : Program) (w : World) (a : Addr) (L : List (Addr × List Int)) : HO := .ext fun h => S0 P w h a L
theorem SR.s0 {P : Program} {w : World} {h : Heap} {a : Addr} {L : List (Addr × List Int)} {es : Array (Int × Value)} {ep : Nat} {t : SetTable} (R : SR P w h a L es ep t) (few : L.length ≤ 2000) : S0 P w h a L := ⟨es, ep, t, R.obj, R.ents, R.tab, R.once, R.pln, R.ord, R.free, few⟩
theorem S0.sr {P : Program} {w : World} {h : Heap} {a : Addr} {L : List (Addr × List Int)} (R : S0 P w h a L) (hr : ∀ p ∈ L, IsT P w h p.2 p.1) : ∃ es ep t, SR P w h a L es ep t ∧ L.length ≤ 2000 := by
  obtain ⟨es, ep, t, a1, a2, a3, a4, a5, a6, a7, a8⟩ := R.is
  exact ⟨es, ep, t, ⟨a1, a2, a3, a4, hr, a5, a6, a7⟩, a8⟩
theorem so_ok {P : Program} {w : World} {H : Hp} {h : Heap} {a : Addr} {L : List (Addr × List Int)} (R : S0 P w h a L) : ObjOk P w H h a (SO P w a L) := by
  obtain ⟨es, ep, t, ⟨o, ho, _⟩, _⟩ := R.is
  refine ⟨R, ⟨o, ho⟩, fun h1 h2 p k => ?_⟩
  obtain ⟨es', ep', t', ⟨o', ho', r'⟩, q'⟩ := S0.is p
  exact ⟨es', ep', t', ⟨o', k o' ho', r'⟩, q'⟩
section
variable {X : Cx}
def rSetR (K : PySem.W.Frag) (P : Program) (w : World) : List V → Hp → VK → Prop := fun vs H Q => ∃ (l : Addr) (ks : List (Addr × List Int)), vs = [V.ref l] ∧ SqL K H l (ks.map fun p => V.ref p.1) ∧ (∀ p ∈ ks, SqT K H p.1 (p.2.map V.int)) ∧ Few ks ∧
  ∀ a L, H a = none → (∀ p ∈ L, p ∈ ks) → (∀ p ∈ ks, p.2 ∈ L.map (·.2)) → Q (.ref a) (upd H a (SO P w a L))
theorem cr_setR (hc : X.calm = true) (hu : X.A.units + 64 < cLine) : CallR X (.type "set") (rSetR X.K X.prog X.w) := by
  rintro pins s σ H vs us Q I r ⟨l, ks, rfl, hl, hk, few, q⟩
  rw [Vals.ref1 r]
  obtain ⟨its, rv, pl, _⟩ := I.list hl
  refine call_set (P := X.prog) (w := X.w) ks (I.ok.hd hc) pl.isList (by simpa using refs_of_vals rv) (fun p hp => I.isT (hk p hp)) few (by omega) fun h' tk L es ep t R g k => ?_
  have hL : L.length ≤ 2000 := by
    have := few (L.map (·.2)) R.once fun x hx => by
      obtain ⟨p, hp, rfl⟩ := List.mem_map.mp hx
      exact List.mem_map_of_mem (List.mem_of_mem_take (g.sub p hp))
    rw [List.length_map] at this; exact this
  exact ⟨.ref s.heap.objs.size, upd H s.heap.objs.size (SO X.prog X.w s.heap.objs.size L), I.laid (t' := tk) k (Nat.le_refl _) (so_ok (R.s0 hL)), rfl, q _ L (I.hok.fresh (Nat.le_refl _)) (fun p hp => List.mem_of_mem_take (g.sub p hp)) fun p hp => g.all p (by rw [List.take_length]; exact hp)⟩
/-- the rows with their places, in order -/
abbrev leP (p q : Addr × List Int) : Bool := GX.leR p.2 q.2
def rSortS (K : PySem.W.Frag) (P : Program) (w : World) : List V → Hp → VK → Prop := fun vs H Q => ∃ (a : Addr) (L : List (Addr × List Int)), vs = [V.ref a] ∧ H a = some (SO P w a L) ∧ (∀ p ∈ L, SqT K H p.1 (p.2.map V.int)) ∧ (∀ p ∈ L, p.2 ≠ []) ∧
  ∀ (L' : List (Addr × List Int)) (p : Addr), L'.Perm L → (L.map (·.2)).Nodup → L'.Pairwise (fun q r => q.2 ≤ r.2) → H p = none → Q (.ref p) (upd H p (.lst (L'.map fun q => V.ref q.1)))
theorem perm_lift {L : List (Addr × List Int)} (one : ∀ q ∈ L, ∀ r ∈ L, q.1 = r.1 → q = r) (nd : L.Nodup) {vs : List Value} (pm : vs.Perm (L.map fun q => Value.ref q.1)) : ∃ L1 : List (Addr × List Int), L1.Perm L ∧ vs = L1.map fun q => Value.ref q.1 := by
  have ex : ∀ us : List Value, (∀ u ∈ us, ∃ q ∈ L, u = Value.ref q.1) → ∃ M : List (Addr × List Int), us = M.map (fun q => Value.ref q.1) ∧ ∀ q ∈ M, q ∈ L := by
    intro us
    induction us with
    | nil => intro _; exact ⟨[], rfl, fun _ m => nomatch m⟩
    | cons u us ih =>
      intro h
      obtain ⟨q, hq, rfl⟩ := h u List.mem_cons_self
      obtain ⟨M, rfl, hM⟩ := ih fun v m => h v (List.mem_cons_of_mem _ m)
      exact ⟨q :: M, rfl, fun r m => (List.mem_cons.mp m).elim (fun e => e ▸ hq) (hM r)⟩
  obtain ⟨M, rfl, hM⟩ := ex vs fun u m => by
    obtain ⟨q, hq, rfl⟩ := List.mem_map.mp (pm.mem_iff.mp m)
    exact ⟨q, hq, rfl⟩
  refine ⟨M, ?_, rfl⟩
  have ndR : (L.map fun q => Value.ref q.1).Nodup := List.pairwise_map.mpr (nd.imp_of_mem fun {q r} hq hr ne e => ne (one q hq r hr (by injection e)))
  have ndM : M.Nodup := nodup_of_map (pm.nodup_iff.mpr ndR)
  refine (List.perm_ext_iff_of_nodup ndM nd).mpr fun q => ⟨hM q, fun hq => ?_⟩
  obtain ⟨r, hr, e⟩ := List.mem_map.mp (pm.mem_iff.mpr (List.mem_map_of_mem (f := fun q : Addr × List Int => Value.ref q.1) hq))
  injection e with e
  rw [← one r (hM r hr) q hq e]; exact hr
theorem reads_ints {P : Program} {w : World} {h : Heap} {k : List Int} {vs : List Value} (x : ItemsAre (intKind P w) k vs) : ReadsAll h vs (k.map PyData.int) [] := by
  induction x with
  | nil => exact .nil
  | @cons k0 v ks vs h1 _ ih =>
    obtain ⟨t, rfl⟩ := Value.isInt_shape h1
    exact .cons (as := []) (bs := []) (.int k0 t) ih
theorem each_map_self {α β : Type} {f : β → α} : ∀ (l : List β), PySem.W.EachIs (fun u p => u = f p) (l.map f) l
  | [] => .nil
  | _ :: l => .cons rfl (each_map_self l)
theorem each_of_mem {α β : Type} {R : α → β → Prop} {f : β → α} : ∀ {l : List β}, (∀ p ∈ l, R (f p) p) → PySem.W.EachIs R (l.map f) l
  | [], _ => .nil
  | p :: l, h => .cons (h p List.mem_cons_self) (each_of_mem fun q m => h q (List.mem_cons_of_mem _ m))
theorem each_eq {α β : Type} {f : β → α} : ∀ {us : List α} {l : List β}, PySem.W.EachIs (fun u p => u = f p) us l → us = l.map f
  | _, _, .nil => rfl
  | _, _, .cons h r => by rw [h, each_eq r]; rfl
theorem cr_sortS (hc : X.calm = true) (hu : X.A.units + 64 < cLine) : CallR X (.builtin "sorted") (rSortS X.K X.prog X.w) := by
  rintro pins s σ H vs us Q I r ⟨a, L, rfl, ha, hk, hne, q⟩
  have R0 : S0 X.prog X.w s.heap a L := (I.hok a _ ha).1
  obtain ⟨es, ep, t, R, few⟩ := R0.sr fun p hp => I.isT (hk p hp)
  rw [Vals.ref1 r]
  obtain ⟨o, ho, hex, hd⟩ := R.obj
  have hsz := ents_size R.ents
  refine Calls.call_function_entry kind_sorted plain_sorted entry_sorted (args_sorted1 _) ?_
  unfold Builtin.«sorted»
  refine wpAny_bind (m := checkCount "sorted" 1 1 _) (wpAny_pure ?_)
  refine wpAny_bind (collect_set (A := X.A.in1) (I.ok.hd hc) ⟨o, ho, hex.1, hd⟩ R.fit (by unfold scanBound; omega) R.tab.up R.ord fun s1 vs k1 hz g1 o1 pm => ?_)
  have ev : es.toList.map (·.2) = L.map fun q => Value.ref q.1 := by rw [R.ents]; unfold rowsOf; rw [List.map_map]; rfl
  rw [ev] at pm
  have one : ∀ q ∈ L, ∀ r ∈ L, q.1 = r.1 → q = r := fun q hq r hr e => Prod.ext e ((R.rows q hq).inj (by rw [e]; exact R.rows r hr))
  have ndL : L.Nodup := nodup_of_map R.once
  obtain ⟨L1, pL, rfl⟩ := perm_lift one ndL pm
  have hl1 : L1.length ≤ 2000 := by rw [pL.length_eq]; exact few
  refine wpAny_bind (wpAny_newList ?_ (by rw [List.length_map, sizeLine_eq]; omega))
  have hoL : (s1.heap.push (seqObj "list" (L1.map fun q => Value.ref q.1).toArray 0)).get? s1.heap.objs.size = some (seqObj "list" (L1.map fun q => Value.ref q.1).toArray 0) := Heap.get?_push_size _ rfl
  let enc : Addr × List Int → PyData := fun p => .tuple (p.2.map PyData.int)
  have hal : PySem.W.AllAlike (L1.map enc) := PySem.W.AllAlike.of fun b b' => by show PySem.W.alike (.tuple _) (.tuple _) = true; rw [PySem.W.alike]; exact PySem.W.alike_ints _ _
  have hso : PySem.W.Sortable (L1.map enc) := .inl fun d hd => by
    obtain ⟨p, hp, rfl⟩ := List.mem_map.mp hd
    cases e : p.2 with
    | nil => exact absurd e (hne p (pL.mem_iff.mp hp))
    | cons x l => exact ⟨.int x, l.map PyData.int, by show PyData.tuple (p.2.map PyData.int) = _; rw [e]; rfl⟩
  have er : PySem.W.EachIs (fun v b => ∃ as, Reads (s1.heap.push (seqObj "list" (L1.map fun q => Value.ref q.1).toArray 0)) v (enc b) as ∧ s1.heap.objs.size ∉ as) (L1.map fun q => Value.ref q.1) L1 := each_of_mem fun p hp => by
    obtain ⟨o2, items, n, h1, h2, h3, h4⟩ := isT_keep (R.rows p (pL.mem_iff.mp hp)) (h' := s1.heap.push (seqObj "list" (L1.map fun q => Value.ref q.1).toArray 0)) fun b u e => Heap.get?_push_of_some _ (k1 b u e)
    exact ⟨[], .tuple h1 h2 h3 (reads_ints h4), List.not_mem_nil⟩
  refine wpAny_bind (wpAny_holding (PySem.W.list_sort_data (s := { s1 with heap := s1.heap.push (seqObj "list" (L1.map fun q => Value.ref q.1).toArray 0) }) hoL (each_map_self L1) er hal hso (by rw [sizeLine_eq]; omega) (fun b _ => ?_) fun out hlen hout => ?_))
  · rw [PyData.depth, PySem.W.depth_ints]
    show X.A.units + 1 + 1 + 1 < cLine
    omega
  have hle : PySem.W.dataLe false enc = leP := by
    funext p q
    show (!PySem.W.dataLt (.tuple (q.2.map PyData.int)) (.tuple (p.2.map PyData.int))) = GX.leR p.2 q.2
    rw [PySem.W.dataLt_tuple]
    show (!PySem.W.rowLt _ _) = _
    rw [PySem.W.dataLt_ints]
    unfold GX.leR
    by_cases h : q.2 < p.2
    · rw [decide_eq_true h, decide_eq_false (fun r => List.not_lt.mpr r h)]; rfl
    · rw [decide_eq_false h, decide_eq_true (List.not_lt.mp h)]; rfl
  rw [hle] at hout
  have eo := each_eq hout
  subst eo
  have pw : (L1.mergeSort leP).Pairwise (fun q r => q.2 ≤ r.2) := by
    have := List.pairwise_mergeSort (le := leP) (fun a b c h1 h2 => by unfold leP GX.leR at *; simp at *; exact List.le_trans h1 h2) (fun a b => by unfold leP GX.leR; simp; exact List.le_total a.2 b.2) L1
    exact this.imp fun h => by unfold leP GX.leR at h; simpa using h
  have pm2 : (L1.mergeSort leP).Perm L := (List.mergeSort_perm L1 _).trans pL
  generalize L1.mergeSort leP = L2 at pw pm2 hlen
  obtain ⟨c, hc'⟩ := sortedHeap_at (vs := L1.map fun q => Value.ref q.1) (out := (L2.map fun q => Value.ref q.1).toArray) hoL
  have hn : H s1.heap.objs.size = none := I.hok.fresh hz
  have keep : ∀ b u, s.heap.get? b = some u → (sortedHeap (s1.heap.push (seqObj "list" (L1.map fun q => Value.ref q.1).toArray 0)) s1.heap.objs.size (L1.map fun q => Value.ref q.1) (L2.map fun q => Value.ref q.1).toArray).get? b = some u := fun b u e => by
    have q := k1 b u e
    have hlt := Heap.lt_size q
    rw [sortedHeap_old (Nat.ne_of_lt hlt) (by rw [size_push']; exact Nat.lt_succ_of_lt hlt)]
    exact Heap.get?_push_of_some _ q
  refine wpAny_pure ⟨_, rfl, ?_⟩
  have hl2 : (L2.map fun q => V.ref q.1).length ≤ sizeLine := by rw [List.length_map, pm2.length_eq, sizeLine_eq]; omega
  generalize hh : sortedHeap (s1.heap.push (seqObj "list" (L1.map fun q => Value.ref q.1).toArray 0)) s1.heap.objs.size (L1.map fun q => Value.ref q.1) (L2.map fun q => Value.ref q.1).toArray = hp at hc' keep
  have J : Inv X pins σ (upd H s1.heap.objs.size (.lst (L2.map fun q => V.ref q.1))) { s with heap := hp, gens := s1.gens, drawn := s1.drawn, toks := s1.toks } :=
    I.call (ch := []) (Un.laid keep hz hn) (I.hok.laid keep hz ⟨hl2, _, c, vals_of_refs L2, hc'⟩) (by rw [g1]; exact I.bare) (fun _ z => nomatch z)
  have e : ({ s1 with heap := hp } : Shared) = { s with heap := hp, gens := s1.gens, drawn := s1.drawn, toks := s1.toks } := by
    cases s1; cases s; cases o1; rfl
  show EP X pins σ Q (Value.ref s1.heap.objs.size) { heap := hp, gens := s1.gens, drawn := s1.drawn, toks := s1.toks, os := s1.os }
  rw [e]
  exact ⟨.ref s1.heap.objs.size, _, J, rfl, q L2 _ pm2 R.once pw hn⟩
end
end SX
namespace MW
open PySem PySem.Spec PyProof.Rows L2 GB
open GX (srtR leR)
/-- m: the rows, in no told order -/
def RSt (Pr : Program) (w : World) (K : Frag) : Rp (List (List Int)) := fun M m v H => ∃ (a : Addr) (L : List (Addr × List Int)), v = .ref a ∧ M.fr a ∧ H a = some (SX.SO Pr w a L) ∧ (∀ r, r ∈ L.map (·.2) ↔ r ∈ m) ∧ ∀ p ∈ L, M.fr p.1 ∧ H p.1 = some (.tup (p.2.map V.int))
instance {Pr : Program} {w : World} {K : Frag} : Mo (RSt Pr w K) := ⟨fun e ⟨a, L, h1, h2, h3, h4, h5⟩ => ⟨a, L, h1, (e.k _ _ h2 h3).2, (e.k _ _ h2 h3).1, h4, fun p hp => ⟨(e.k _ _ (h5 p hp).1 (h5 p hp).2).2, (e.k _ _ (h5 p hp).1 (h5 p hp).2).1⟩⟩⟩
theorem nd_len {l m : List (List Int)} (nd : l.Nodup) (h : ∀ x ∈ l, x ∈ m) : l.length ≤ m.length := by
  induction l generalizing m with
  | nil => exact Nat.zero_le _
  | cons x l ih =>
    obtain ⟨h1, h2⟩ := List.nodup_cons.mp nd
    have hx := h x List.mem_cons_self
    have := ih (m := m.erase x) h2 fun y hy => (List.mem_erase_of_ne (fun e => h1 (by rw [← e]; exact hy))).mpr (h y (List.mem_cons_of_mem _ hy))
    rw [List.length_erase_of_mem hx] at this
    have := List.length_pos_of_mem hx
    rw [List.length_cons]; omega
section
variable {E : XK} {K : Frag} {Pr : Program} {w : World}
/-- set(rows) -/
theorem c_setR : Cl E (SX.rSetR K Pr w) (One (RL (All (RT (All RI))))) (RSt Pr w K) (fun l => W.grd (SetOk l) l) := by
  rintro M l vs H d ⟨v, rfl, ⟨a, ws, rfl, n, ha, hr⟩⟩ Q P PE hm q _
  have hr' : Paired (fun (r : List Int) v => RT (All RI) M r v H) l ws := hr
  have key : ∃ ks : List (Addr × List Int), ws = ks.map (fun p => V.ref p.1) ∧ l = ks.map (·.2) ∧ ∀ p ∈ ks, M.fr p.1 ∧ H p.1 = some (.tup (p.2.map V.int)) := by
    clear hr ha hm q
    induction hr' with
    | nil => exact ⟨[], rfl, rfl, fun p hp => (nomatch hp)⟩
    | @cons r v l ws h1 _ ih =>
      obtain ⟨ks, e1, e2, e3⟩ := ih
      obtain ⟨b, us, e4, f, hb, hu⟩ := h1
      refine ⟨(b, r) :: ks, by rw [e4, e1]; rfl, by rw [e2]; rfl, fun p hp => ?_⟩
      rcases List.mem_cons.mp hp with e | hp
      · subst e; exact ⟨f, by rw [← all_int hu]; exact hb⟩
      · exact e3 p hp
  obtain ⟨ks, e1, e2, e3⟩ := key
  subst e1 e2
  refine ⟨a, ks, rfl, .of ha, fun p hp => .of (e3 p hp).2, fun N nd hN => Nat.le_trans (nd_len nd fun x hx => mem_ddp.mpr (hN x hx)) hm.1.2, fun b L hb h1 h2 => ?_⟩
  have e : Xt M H (upd H b (SX.SO Pr w b L)) := .new d hb
  refine q _ _ _ e hm.2 ⟨b, L, rfl, d.fr hb, upd_same, fun r => ⟨fun hr2 => ?_, fun hr2 => ?_⟩, fun p hp => ⟨(e3 p (h1 p hp)).1, e.keep _ _ (e3 p (h1 p hp)).1.1 (e3 p (h1 p hp)).2⟩⟩
  · obtain ⟨p, hp, rfl⟩ := List.mem_map.mp hr2
    exact List.mem_map_of_mem (h1 p hp)
  · obtain ⟨p, hp, rfl⟩ := List.mem_map.mp hr2
    exact h2 p hp
/-- sorted(a set of rows) -/
theorem c_sortSt : Cl E (SX.rSortS K Pr w) (One (RSt Pr w K)) (RL (All (RT (All RI)))) (fun m => W.grd (SrtOk m) (srtS m)) := by
  rintro M m vs H d ⟨v, rfl, ⟨a, L, rfl, n, ha, hL, ht⟩⟩ Q P PE ⟨hm, hp⟩ q _
  refine ⟨a, L, rfl, ha, fun p hp => .of (ht p hp).2, fun p hp => hm _ ((hL _).mp (List.mem_map_of_mem hp)), fun L' p h1 h2 h4 hpn => ?_⟩
  have es : L'.map (·.2) = srtS m := by
    have pw1 : (L'.map (·.2)).Pairwise (fun x y => x ≤ y) := by rw [List.pairwise_map]; exact h4
    have pw2 : (srtS m).Pairwise (fun x y => x ≤ y) := by
      have := List.pairwise_mergeSort (le := leR) (fun a b c h1 h2 => by unfold leR at *; simp at *; exact List.le_trans h1 h2) (fun a b => by unfold leR; simp; exact List.le_total a b) (ddp m)
      exact this.imp (fun h => by unfold leR at h; simpa using h)
    refine List.Perm.eq_of_pairwise (le := fun x y => x ≤ y) (fun a b _ _ h1 h2 => List.le_antisymm h1 h2) pw1 pw2 ?_
    refine List.Perm.trans ?_ (List.mergeSort_perm (ddp m) _).symm
    have nd' : (L'.map (·.2)).Nodup := (h1.map (·.2)).nodup_iff.mpr h2
    refine (List.perm_ext_iff_of_nodup nd' nd_ddp).mpr fun r => ?_
    rw [mem_ddp, ← hL r]
    exact (h1.map (·.2)).mem_iff
  have e : Xt M H (upd H p (.lst (L'.map fun q => V.ref q.1))) := .new d hpn
  refine q _ _ _ e hp ⟨p, _, rfl, d.fr hpn, upd_same, ?_⟩
  rw [← es]
  have : ∀ L'' : List (Addr × List Int), (∀ x ∈ L'', x ∈ L) → All (RT (All RI)) M (L''.map (·.2)) (L''.map fun q => V.ref q.1) (upd H p (.lst (L'.map fun q => V.ref q.1))) := by
    intro L''
    induction L'' with
    | nil => intro _; exact .nil
    | cons x r ih =>
      intro hx
      have h5 := ht x (hx x List.mem_cons_self)
      exact .cons ⟨x.1, _, rfl, h5.1, e.keep _ _ h5.1.1 h5.2, all_ints _⟩ (ih fun y hy => hx y (List.mem_cons_of_mem _ hy))
  exact this L' fun x hx => h1.mem_iff.mp hx
end
end MW

/-! wW: o[i] by an own __getitem__; list(range(..)). -/
namespace GX
open PySem PySem.Spec PyProof.Rows L2 GB
def rOpI (C : Addr) (sp : Sp) (E : XK) : R2 := fun x y H Q => ∃ a dx fs, x = V.ref a ∧ H a = some (.ins C dx fs) ∧ sp [x, y] H Q E
section
variable {X : Cx} {k : Nat} {C : Str} {sp : Sp} {E : XK} {a b : Expr} {ta tb : TE} {pos : Pos}
theorem pe_ixO (ha : PE X a ta) (hb : PE X b tb) (D : Dm (En.of X) k C "__getitem__" sp) (hfi : PySem.W.fnIn X.K (He.ma X.K (He.ga X.K C) "__getitem__") = true) (hr : Room (k + 1) X.A) (hx : Passes (L2.CX X.prog X.w) X E)
    (hs : ∀ o i, subscripted b true o i = runValue (.builtin "lifetime.subscript" ⟨[o, i], []⟩) := by intros; rfl) : PE X (.Subscript a b pos) (tOp (rOpI (He.ga X.K C) sp E) ta tb) := by
  refine ⟨fun pins s σ H Q I h => ?_⟩
  refine Subscript_ (binT ha hb I h fun v u s2 x y H2 I2 rx ry q => ?_)
  obtain ⟨p, dx, fs, rfl, hp, q⟩ := q
  cases (show v = Value.ref p from rx)
  obtain ⟨mA, J, _⟩ := ins_get I2.hok hp
  obtain ⟨od, J, _⟩ := J.look
  obtain ⟨m, hF⟩ := I2.fr
  refine PySem.W.sub_K hF I2.ok.mod.kin J D.m.at_ hfi D.m.fn ?_ (hs _ _)
  exact wpAny_call (SlX.run_at (us := [.ref p, u]) (ws := [.ref p, y]) D.fn (show Room k X.A.in1 from hr.in1) I2.env0.in1 hx I2 (.cons rfl (.cons ry .nil)) q)
end
end GX
namespace MW
open PySem PySem.Spec PyProof.Rows L2 GB
section
variable {K0 : Frag} {M : Mm} {E : XK} {σ : St} {H : Hp} {ta tb : TE} {α β γ : Type} {N : En} {C : Str} {F : Fl α} {R' : Rp β} {R'' : Rp γ} {ma : W α} {mb : W β}
theorem ev_ixO [MoF F] {mm : α × β → W γ} (hca : M.ca = N.ga) (ha : Ev M E ta σ H (RO C F) ma) (hb : Ev M E tb σ H R' mb) :
    Ev M E (tOp (GX.rOpI (N.ga C) (FnW N (Cons (RO C F) (One R')) R'' mm) E) ta tb) σ H R'' (W.bind ma fun x => W.bind mb fun y => mm (x, y)) := fun H1 e Q P PE hp q g =>
  ha H1 e _ _ PE hp (fun v x H2 e2 hx rx => hb H2 (e.trans e2) _ _ PE hx (fun u y H3 e3 hy ry => by
    replace rx := up rx e3
    obtain ⟨p, dx, fs, h1, h2, h3, h4⟩ := id rx
    subst h1
    rw [hca] at h3
    exact ⟨p, dx, fs, rfl, h3, M, (x, y), P, PE, hca, e3.dice, ⟨_, _, rfl, rx, _, rfl, ry⟩, hy, fun w z H4 e4 hz rz => q w z H4 ((e2.trans e3).trans e4) hz rz, (g.up e2).up e3⟩) (g.up e2)) g
theorem rgV_rng {a b : Int} : rgV a b = (rng a b).map V.int := by
  unfold rgV rng
  rw [List.map_map]; rfl
theorem all_rng {M : Mm} {H : Hp} : ∀ l : List Int, All RI M l (l.map V.int) H
  | [] => .nil
  | _ :: l => .cons rfl (all_rng l)
theorem ev_lstRg1 {ma : W Int} (ha : Ev M E ta σ H RI ma) : Ev M E (tLstRg (tRg1 ta)) σ H (RL (All RI)) (W.bind ma fun n => W.grd (-1000000 < n ∧ n < 1000000) (rng 0 n)) := fun H1 e Q P PE hp q g =>
  ha H1 e _ _ PE hp (fun v n H2 e2 hn rn => by
    cases (show v = V.int n from rn)
    refine ⟨n, rfl, ⟨by omega, by omega, by have := hn.1; omega, by have := hn.1; omega, by have := hn.1; omega⟩, fun p hpn => ?_⟩
    exact q _ _ _ (e2.trans (.new e2.dice hpn)) hn.2 ⟨p, _, rfl, e2.dice.fr hpn, upd_same, by rw [rgV_rng]; exact all_rng _⟩) g
theorem ev_lstRg2 {ma mb : W Int} (ha : Ev M E ta σ H RI ma) (hb : Ev M E tb σ H RI mb) : Ev M E (tLstRg (tRg2 ta tb)) σ H (RL (All RI)) (W.bind ma fun m => W.bind mb fun n => W.grd ((-1000000 < m ∧ m < 1000000) ∧ -1000000 < n ∧ n < 1000000) (rng m n)) := fun H1 e Q P PE hp q g =>
  ha H1 e _ _ PE hp (fun v m H2 e2 hm rm => hb H2 (e.trans e2) _ _ PE hm (fun u n H3 e3 hn rn => by
    cases (show v = V.int m from rm)
    cases (show u = V.int n from rn)
    have h := hn.1
    refine ⟨m, n, rfl, rfl, ⟨by omega, by omega, by omega, by omega, by omega⟩, fun p hpn => ?_⟩
    exact q _ _ _ ((e2.trans e3).trans (.new e3.dice hpn)) hn.2 ⟨p, _, rfl, e3.dice.fr hpn, upd_same, by rw [rgV_rng]; exact all_rng _⟩) (g.up e2)) g
/-- len of a tuple of parts of several kinds -/
theorem c_lenN {S : Rs β} {n : Nat} [Ln S n] : Cl E (fun xs H Q => ∃ p ys, xs = [V.ref p] ∧ (SqL K0 H p ys ∨ SqT K0 H p ys) ∧ Q (.int (ys.length : Int)) H) (One (RT S)) RI (fun _ => W.pure (n : Int)) := by
  rintro M x vs H d ⟨v, rfl, ⟨a, ws, rfl, f, h, hr⟩⟩ Q P PE hm q _
  exact ⟨a, ws, rfl, .inr (.of h), q _ _ H (.refl d) hm (by show V.int _ = V.int _; rw [Ln.len hr])⟩
end
end MW

/-! wO: own __iter__ that gives iter(self.f), f a tuple. -/
namespace GX
open PySem PySem.Spec PyProof.Rows L2 GB
open Builtin Builtin.ObjectAttr
/-- a tuple's iterator at it, fresh -/
def ItTO (l it : Addr) : HO := .ext fun h => h.IsTupleIter it l 0
theorem itTO_ok {P : Program} {w : World} {H : Hp} {h : Heap} {l it : Addr} (e : h.IsTupleIter it l 0) : ObjOk P w H h it (ItTO l it) := ⟨e, (let ⟨o, ho, _⟩ := e; ⟨o, ho⟩), fun h1 h2 q k => q.at fun o z => k o z⟩
def rIterT (n : Nat) : List V → Hp → VK → Prop := fun xs H Q => ∃ (l : Addr) (zs : List V), xs = [.ref l] ∧ H l = some (.tup zs) ∧ ∀ it, H it = Option.none → n ≤ it → Q (.ref it) (upd H it (ItTO l it))
section
variable {X : Cx}
theorem call_iterT : CallR X (.builtin "iter") (rIterT X.s_0.heap.objs.size) := by
  intro pins s σ H xs us Q I r h
  obtain ⟨l, zs, rfl, hq, q⟩ := h
  obtain ⟨u, rfl, ru⟩ := vals1 r
  cases ru
  obtain ⟨hz, its, rv, pl⟩ := I.hok l _ hq
  refine Calls.call_function_entry (by decide +kernel) (by decide +kernel) PySem.W.kdk_entry_iter (PySem.W.kdk_args_iter _) ?_
  unfold Builtin.«iter»
  refine wpAny_bind (m := someArgs "iter" 1 2 _) (wpAny_of_eq (a := [Value.ref l]) (by first | rfl | kernel_rfl!) ?_)
  show wpAny _ _ (pyIter (.ref l) >>= _) _ _ _
  refine wpAny_bind (iter_tuple pl ?_)
  refine wpAny_pure ⟨_, rfl, ?_⟩
  exact ⟨.ref s.heap.objs.size, _, I.laid (t' := s.toks) (fun b u e => Heap.get?_push_of_some _ e) (Nat.le_refl _) (itTO_ok ⟨_, Heap.get?_push_size _ rfl, rfl, rfl⟩), rfl, q _ (I.hok.fresh (Nat.le_refl _)) I.sz⟩
end
/-- a def's run at one state, by its body (as fn_of, with the state known to the promise) -/
theorem run_of {CX : CXT} {P : Program} {w : World} {K : PySem.W.Frag} {mg : Str → Option Value} {base : Heap} {k : Nat} {f : Addr} {name qual : Str} {params : Arguments} {body : List Stmt} {scope : Scope} {dV kV doc pm cdv ct oc : Value} {an od : Option Addr}
    {osl : Array (Option Value)} {N ps : List Str} (lk : K.lookup f = some ⟨oc, od, .func (PySem.W.fnOf name qual params body scope dV kV doc pm an cdv ct), osl⟩) (hcd : PySem.W.codeIn K cdv qual = true) (S : FnScope N ps scope)
    {A : Around} {outer : List Env} {s : Shared} {H : Hp} {args : Args} {us : List Value} {vs : List V} {Q : VK} {E : XK} (hr : Room (k + 1) A) (e0 : Env0 P w K mg base A outer s H)
    (hb : BindsTo s (PySem.W.fnOf name qual params body scope dV kV doc pm an cdv ct) args (ps.zip us)) (r : Vals vs us) (hl : vs.length = ps.length)
    (hbody : ∃ t, PSs (cxOf CX P w K mg base N qual scope f cdv A outer s H E) body t ∧ t { nx := fun _ H' => Q .non H', rt := Q } (start N vs) H) :
    codeAny (model P w) A (.call (.ref f) args) (CR CX outer P w H s Q E) s := by
  have KX : K.In s.heap := e0.mod.kin.keeps fun b o e => (e0.bs b o e).1
  have lim : s.heap.NoLimit := e0.mod.nolimit.keeps fun b o e => (e0.bs b o e).1
  have hkind : ∀ y ∈ ps.zip us, scope.names.lookup y.1 = some .local ∨ (scope.names.lookup y.1 = some .cell ∧ ((cellsFrom (s.heap.objs.size + 1) scope.names []).lookup y.1).isSome = true) := fun ⟨n, v⟩ hy => by
    rcases S.par n (List.of_mem_zip hy).1 with q | q
    · exact .inl q
    · exact .inr ⟨q, PySem.W.cellsFrom_some _ _ _ (.inl q)⟩
  refine codeAny_call_function hr.depth (KX _ _ lk) rfl S.co S.gen rfl (PySem.W.codeRec_of KX hcd) (hb _ _ _ _ ?_)
  refine wpAny_newFunctionEnv_cells S.kind hkind fun env he s1 x => ?_
  subst he
  refine ⟨lim.keeps x.toInCall.keep, codeAny_func ?_⟩
  obtain ⟨t, ht, hq⟩ := hbody
  have I : Inv (cxOf CX P w K mg base N qual scope f cdv A outer s H E) [] (start N vs) H s1 := inv_start S hr.hd e0 hl r x
  refine wpAny_mono (ht.run [] s1 (start N vs) H _ I hq) (fun fl s' hs => ?_) fun e s' hs => hs
  have fin : ∀ {σ' : L2.St} {H' : Hp} {v : V} {u : Value}, Inv (cxOf CX P w K mg base N qual scope f cdv A outer s H E) [] σ' H' s' → RelV v u → Q v H' → CE outer P w H s Q u s' :=
    fun {_ H' v u} J rv q => ⟨v, H', J.os, J.bare, J.base, J.hok, rv, q⟩
  cases fl with
  | ret u =>
    obtain ⟨v, σ', H', J, rv, q⟩ := hs
    exact fin J rv q
  | next =>
    obtain ⟨σ', H', J, q⟩ := hs
    exact fin (v := V.non) (u := Value.none) J rfl q
  | brk =>
    obtain ⟨_, _, _, q⟩ := hs
    exact False.elim q
  | cont =>
    obtain ⟨_, _, _, q⟩ := hs
    exact False.elim q
/-- what is asked of the instance -/
def HasT (N : En) (C fld : Str) (a l : Addr) (xs : List V) (H : Hp) : Prop := ∃ dx fs, H a = some (.ins (N.ga C) dx fs) ∧ fs.lookup fld = some (.ref l) ∧ H l = some (.tup xs)
/-- C's __iter__ gives iter(self.fld), fld a tuple -/
structure Di (N : En) (k : Nat) (C fld : Str) : Prop where
  run : ∀ (A : Around) (outer : List Env) (s : Shared) (H : Hp) (a l : Addr) (xs : List V) (Q : VK) (E : XK), Room k A → Env0 N.P N.w N.K N.mg N.base A outer s H → HasT N C fld a l xs H →
    (∀ it, H it = Option.none → s.heap.objs.size ≤ it → Q (.ref it) (upd H it (ItTO l it))) → codeAny (model N.P N.w) A (.call (.ref (N.ma C "__iter__")) ⟨[.ref a], []⟩) (CR (L2.CX N.P N.w) outer N.P N.w H s Q E) s
  m : Meth N.K (N.ga C) "__iter__" (N.ma C "__iter__")
theorem di_mk {N : En} {k : Nat} {C fld q : Str} {st : Stmt} {Ns ps : List Str} (F : FunM N C "__iter__" q st) (S : FnScope Ns ps (defScope st)) (hp : ps.length = 1)
    (bd : ∀ (kV doc pm : Value) (an : Option Addr) (cdv ct : Value) (us : List Value), us.length = ps.length → bindArgs (PySem.W.fnOf "__iter__" q (defArgs st) (defBody st) (defScope st) .none kV doc pm an cdv ct) ⟨us, []⟩ = pure (ps.zip us))
    (body : ∀ (cdv : Value) (A : Around) (outer : List Env) (s : Shared) (H : Hp) (a l : Addr) (xs : List V) (Q : VK) (E : XK), Room k (A.deeper (envOfC q (defScope st) s.heap.objs.size (N.ma C "__iter__") cdv)) → HasT N C fld a l xs H →
      (∀ it, H it = Option.none → s.heap.objs.size ≤ it → Q (.ref it) (upd H it (ItTO l it))) →
      ∃ t, PSs (cxOf (L2.CX N.P N.w) N.P N.w N.K N.mg N.base Ns q (defScope st) (N.ma C "__iter__") cdv A outer s H E) (defBody st) t ∧ t { nx := fun _ H' => Q .non H', rt := Q } (start Ns [.ref a]) H) : Di N (k + 1) C fld := by
  obtain ⟨⟨fd, F⟩, g, c⟩ := F
  refine ⟨fun A outer s H a l xs Q E hr e0 hh hq => ?_, g⟩
  have hb := F.bindsN bd
  obtain ⟨oc, od, dV, kV, doc, pm, an, cdv, ct, osl, rfl, lk, hcd, _, _⟩ := F.ex
  refine run_of (vs := [.ref a]) (us := [.ref a]) lk hcd S hr e0 ?_ (.cons rfl .nil) (by rw [hp]; rfl) (body cdv A outer s H a l xs Q E (hr.deeper _) hh hq)
  have := hb s [.ref a] (e0.mod.kin.keeps fun b o e => (e0.bs b o e).1) (by rw [List.append_nil, hp]; rfl)
  simpa using this
/-- for .. in e, e an instance -/
def iOwn (N : En) (C fld : Str) (te : TE) : TI := fun σ H R => te σ H fun v H1 => ∃ a l xs, v = V.ref a ∧ HasT N C fld a l xs H1 ∧ R (Itt N.K l) H1
theorem next_it {M : Model} {A : Around} {E : Value → Shared → Prop} {s : Shared} {it l : Addr} {i : Nat} {Q : Value → Shared → Prop} (h : s.heap.IsTupleIter it l i) (q : Q (.ref it) s) : PySem.W.OwitIt M A Q E (.ref it) s := by
  unfold PySem.W.OwitIt
  exact wpAny_specialOf (name := Str.ofString "__next__") h.typeIs slot_tupleiter_next.lookup q
section
variable {X : Cx} {k : Nat} {C fld : Str} {te : TE} {tg e : Expr}
theorem pi_own (D : Di (En.of X) k C fld) (hr : Room k X.A) (he : PE X e te) : PI X tg e (iOwn (En.of X) C fld te) := by
  refine ⟨fun pins s σ H R I h => ?_⟩
  refine thn (he.run pins s σ H _ I h) fun u s1 ⟨v, H1, I1, r1, a, l, xs, ev, hh, q⟩ => ?_
  subst ev
  cases r1
  obtain ⟨dx, fs, ha, hf, hl⟩ := id hh
  obtain ⟨mA, J, _⟩ := ins_get I1.hok ha
  obtain ⟨od, J, _⟩ := J.look
  obtain ⟨m0, hF⟩ := I1.fr
  refine PySem.W.owit_iter hF I1.ok.mod.kin J D.m.at_ D.m.fn ?_
  refine wpAny_call (codeAny_mono (D.run X.A X.stack s1 H1 a l xs (fun w H' => ∃ it, w = .ref it ∧ H' = upd H1 it (ItTO l it) ∧ H1 it = Option.none ∧ s1.heap.objs.size ≤ it) E0 hr I1.env0 hh fun it h1 h2 => ⟨it, rfl, rfl, h1, h2⟩) fun r s' hq' => ?_)
  cases r with
  | error e => exact (match hq' with | ⟨_, _, _, _, _, _, _, _, _, _, _, _, h⟩ => h.elim)
  | ok fl =>
    cases fl with
    | next => exact False.elim hq'
    | brk => exact False.elim hq'
    | cont => exact False.elim hq'
    | ret u =>
      obtain ⟨w, H', I', rv, it, ew, eH, hn, hz⟩ := I1.after hq'
      subst ew
      cases rv
      have hi : H' it = some (ItTO l it) := by rw [eH]; exact upd_same
      have st : s'.heap.IsTupleIter it l 0 := (I'.hok it _ hi).1
      have ed : ItX.dropH H' it = H1 := by rw [eH]; exact ItX.dropH_upd hn
      refine next_it st ?_
      have I2 := ItX.inv_drop I' (show H' it = some (.ext _) from hi)
      refine ⟨it, [it], _, _, ItX.dropH H' it, rfl, I2, turn_tuple (P := X.prog) (w := X.w) (K := X.K) (tg := tg) l it, st, fun b hb => ?_, by rw [ed]; exact q⟩
      have e : b = it := by simpa using hb
      rw [e]
      exact ItX.inv_fp I' hi (Nat.le_trans I1.sz hz)
end
end GX
namespace GX
open PySem PySem.Spec PyProof.Rows L2 GB
section
variable {X : Cx} {k : Nat} {C fld : Str} {te : TE} {tg e : Expr}
theorem pi_ownK (N : En) (hN : En.of X = N) (D : Di N k C fld) (hr : Room k X.A) (he : PE X e te) : PI X tg e (iOwn N C fld te) := by
  subst hN
  exact pi_own D hr he
end
end GX
namespace MW
open PySem PySem.Spec PyProof.Rows L2 GB
section
variable {M : Mm} {E : XK} {σ : St} {H : Hp} {te : TE} {α β : Type} {N : En} {C fld : Str} {F : Fl α} {R : Rp β} {ma : W α}
theorem ei_own [Mo R] {f : α → List β} (hca : M.ca = N.ga) (hf : FAt F fld (RT (All R)) f) (h : Ev M E te σ H (RO C F) ma) : EvI Lk M E (GX.iOwn N C fld te) σ H R (W.bind ma fun x => W.pure (f x)) := fun H1 e Q P PE hm q g =>
  h H1 e _ _ PE hm (fun v x H2 e2 hx ⟨p, dx, fs, h1, h2, h3, h4⟩ => by
    obtain ⟨w, lk, a, ws, k1, k2, k3, k4⟩ := hf M x fs H2 h4
    subst k1
    exact ⟨p, a, ws, h1, ⟨dx, fs, by rw [hca] at h3; exact h3, lk, k3⟩, q _ (f x) H2 e2 hx (yat (walk_tup (K := N.K) (a := a) (xs := ws)) rfl k4 (fun M' H' e => .of (e.k a _ k2 k3).1) fun M' H' e => Mos.lk (R := All R) e k4)⟩) g
end
end MW

/-! wQ: comprehensions with two for's. -/
namespace MW
open PySem PySem.Spec PyProof.Rows L2 GB
namespace W
variable {α γ δ : Type}
def mapFT (ys : α → W (List γ)) (p : α → γ → W Bool) (f : α → γ → W δ) : List α → W (List δ)
  | [] => pure []
  | x :: r => bind (ys x) fun l => fun P PE => l.length < 10000 ∧ bind (mapF (p x) (f x) l) (fun a => bind (mapFT ys p f r) fun b => pure (a ++ b)) P PE
def lcT (ys : α → W (List γ)) (p : α → γ → W Bool) (f : α → γ → W δ) (xs : List α) : W (List δ) := fun P _ => xs.length < 100 ∧ mapFT ys p f xs P fun _ => False
end W
section
variable {M : Mm} {E : XK} {σ : St} {H : Hp} {te : TE} {t : TT} {wi wi1 : TI} {g g1 : TG} {vs vs1 : List Nat} {α γ δ : Type} {R : Rp α} {R1 : Rp γ} {R' : Rp δ} {ma : W (List α)}
theorem ev_lcT [Mo R'] {ys : α → W (List γ)} {p : α → γ → W Bool} {f : α → γ → W δ} (T : Mm → α → St → Hp → Prop) (T' : St → Mm → γ → St → Hp → Prop) (hi : EvI LkX M E wi σ H R ma)
    (hg : ∀ M' x v H' (Q : St → Hp → Prop), R M' x v H' → (∀ σ2, T M' x σ2 H' → Q σ2 H') → g v (wipe σ vs) H' Q) (hw : ∀ M' x σ2 H', T M' x σ2 H' → wipe σ2 vs = wipe σ vs)
    (hg1 : ∀ σ0 M' x v H' (Q : St → Hp → Prop), R1 M' x v H' → (∀ σ2, T' σ0 M' x σ2 H' → Q σ2 H') → g1 v σ0 H' Q) (hw1 : ∀ σ2 M' x σ3 H', T' (wipe σ2 vs1) M' x σ3 H' → wipe σ3 vs1 = wipe σ2 vs1) [MoX R] [MoX R1]
    (hiI : ∀ M' H' x σ2, LkX M H M' H' → DiceM M' H' → T M' x σ2 H' → EvI Lk M' E0 wi1 σ2 H' R1 (ys x))
    (ht : ∀ M' H' x y σ2 σ3, LkX M H M' H' → DiceM M' H' → T M' x σ2 H' → T' (wipe σ2 vs1) M' y σ3 H' → EvT M' E0 t σ3 H' (p x y))
    (he : ∀ M' H' x y σ2 σ3, LkX M H M' H' → DiceM M' H' → T M' x σ2 H' → T' (wipe σ2 vs1) M' y σ3 H' → Ev M' E0 te σ3 H' R' (f x y))
    (hT : ∀ M' x σ2 H' H'', Lk M' H' M' H'' → T M' x σ2 H' → T M' x σ2 H'') (hT' : ∀ σ0 M' x σ2 H' H'', Xt M' H' H'' → T' σ0 M' x σ2 H' → T' σ0 M' x σ2 H'') :
    Ev M E (tLc2 wi g tYes wi1 g1 t te vs vs1) σ H (RL (All R')) (W.bind ma fun xs => W.lcT ys p f xs) := fun H0 e0 Q P PE hm q go =>
  hi H0 e0 _ _ PE hm (fun J xs H1 e1 ⟨hz, hx⟩ w D hD => by
    have d1 := e1.dice
    have fr1 := d1.fr hD
    let M' := M.add D
    have dm : D ∈ M'.l := List.mem_cons_self
    have nD : M'.d ≠ some D := fr1.1
    have key0 : ∀ {H'}, Xt M H1 H' → LkX M H1 M' H' := fun e => (LkX.add hD).trans ⟨⟨rfl, rfl, fun a o f h => ⟨e.keep a o f.1 h, f⟩⟩, fun a o n h => e.keep a o n h⟩
    have key : ∀ {H'}, Xt M H1 H' → LkX M H M' H' := fun e => (((e0.trans e1).x.trans (LkX.add hD)).trans ⟨⟨rfl, rfl, fun a o f h => ⟨e.keep a o f.1 h, f⟩⟩, fun a o n h => e.keep a o n h⟩ : LkX M H M' _)
    have xt : ∀ {A B : Hp}, Xt M H1 A → Xt M' A B → Xt M H1 B := fun a b => a.trans ⟨fun a o n h => b.keep a o n h, b.dice.wk Mm.le.refl.add⟩
    refine ⟨fun i m H' => m = xs.length - i ∧ i ≤ xs.length ∧ Xt M H1 H' ∧ DiceM M' H' ∧ ∃ ac ws, ac.length ≤ i * 10000 ∧ H' D = some (.lst ws) ∧ All R' M' ac ws H' ∧ W.mapFT ys p f (xs.drop i) (fun l => P (ac ++ l)) (fun _ => False), ⟨xs.length, by simp, Nat.zero_le _, .new d1 hD, d1.add hD upd_same (.new d1 hD), [], [], Nat.zero_le _, upd_same, .nil, by simpa using hx⟩, ?_⟩
    rintro i m H' ⟨rfl, hil, eH, dH, ac, ws, hl, hD', hr, hmap⟩
    have ww := w M' H' (key0 eH) dH
    by_cases hlt : i < xs.length
    · refine .inr ⟨ww.1 i hlt, fun H'' => Xt M H1 H'' ∧ DiceM M' H'' ∧ ∃ ac ws, ac.length ≤ (i + 1) * 10000 ∧ H'' D = some (.lst ws) ∧ All R' M' ac ws H'' ∧ W.mapFT ys p f (xs.drop (i + 1)) (fun l => P (ac ++ l)) (fun _ => False), fun H'' p' => ⟨xs.length - (i + 1), by omega, rfl, hlt, p'⟩, fun v H2 y => ?_⟩
      obtain ⟨e2, x, hxi, rx⟩ := ww.2.2 i v H2 hlt y
      have d2 := e2.dice
      have hdrop : xs.drop i = x :: xs.drop (i + 1) := by
        have hxe : xs[i]? = some xs[i] := by simp [hlt]
        rw [hxe] at hxi
        rw [← Option.some.inj hxi]
        exact List.drop_eq_getElem_cons hlt
      rw [hdrop] at hmap
      refine hg M' x v H2 _ rx fun σ2 hσ => ⟨hw M' x σ2 H2 hσ, ?_⟩
      unfold tYes
      dsimp only
      rw [if_pos rfl]
      refine hiI M' H2 x σ2 (key (xt eH e2)) d2 hσ H2 (.refl d2) _ _ (fun _ => False) hmap (fun J1 l H4 e4 hl1 w1 => ?_) GoE.none
      obtain ⟨hlen, hin⟩ := hl1
      have e24 : Xt M' H' H4 := e2.trans e4
      refine ⟨fun j k H5 => k = l.length - j ∧ j ≤ l.length ∧ Xt M H1 H5 ∧ Xm M' H4 H5 ∧ ∃ bs us, bs.length ≤ i * 10000 + j ∧ H5 D = some (.lst us) ∧ All R' M' bs us H5 ∧
        W.mapF (p x) (f x) (l.drop j) (fun a => W.mapFT ys p f (xs.drop (i + 1)) (fun b => P (bs ++ (a ++ b))) (fun _ => False)) (fun _ => False),
        ⟨l.length, by simp, Nat.zero_le _, xt eH e24, .refl e4.dice, ac, ws, by omega, e24.keep D _ nD hD', MoXs.lk (R := All R') e24.x hr, by simpa using hin⟩, ?_⟩
      rintro j k H5 ⟨rfl, hjl, eH5, m5, bs, us, hb, hD5, hr5, hmap5⟩
      have w5 := w1 M' H5 m5.k m5.dice
      by_cases hlt1 : j < l.length
      · refine .inr ⟨w5.1 j hlt1, fun H6 => Xt M H1 H6 ∧ Xm M' H4 H6 ∧ ∃ bs us, bs.length ≤ i * 10000 + (j + 1) ∧ H6 D = some (.lst us) ∧ All R' M' bs us H6 ∧
          W.mapF (p x) (f x) (l.drop (j + 1)) (fun a => W.mapFT ys p f (xs.drop (i + 1)) (fun b => P (bs ++ (a ++ b))) (fun _ => False)) (fun _ => False), fun H6 p' => ⟨l.length - (j + 1), by omega, rfl, hlt1, p'⟩, fun u H6 y6 => ?_⟩
        obtain ⟨e6, z, hzi, rz⟩ := w5.2.2 j u H6 hlt1 y6
        have hdrop1 : l.drop j = z :: l.drop (j + 1) := by
          have hxe : l[j]? = some l[j] := by simp [hlt1]
          rw [hxe] at hzi
          rw [← Option.some.inj hzi]
          exact List.drop_eq_getElem_cons hlt1
        rw [hdrop1] at hmap5
        have hσ6 : T M' x σ2 H6 := hT M' x σ2 _ _ (e4.m.trans (m5.trans e6.m)).k hσ
        refine hg1 (wipe σ2 vs1) M' z u H6 _ rz fun σ3 hσ3 => ⟨hw1 σ2 M' z σ3 H6 hσ3, ?_⟩
        refine ht M' H6 x z σ2 σ3 (key (xt eH5 e6)) e6.dice hσ6 hσ3 H6 (.refl e6.dice) _ _ (fun _ => False) hmap5 (fun b H7 e7 hb7 => ?_) GoE.none
        cases b with
        | true =>
          rw [if_pos rfl] at hb7 ⊢
          refine he M' H7 x z σ2 σ3 (key (xt (xt eH5 e6) e7)) e7.dice (hT M' x σ2 _ _ e7.m.k hσ6) (hT' _ M' z σ3 _ _ e7 hσ3) H7 (.refl e7.dice) _ _ (fun _ => False) hb7 (fun w8 z8 H8 e8 hz8 r8 => ?_) GoE.none
          have hD8 : H8 D = some (.lst us) := e8.keep D _ nD (e7.keep D _ nD (e6.keep D _ nD hD5))
          have hr8 : All R' M' bs us H8 := MoXs.lk (R := All R') ((e6.trans e7).trans e8).x hr5
          have em : Xm M' H8 (upd H8 D (.lst (us ++ [w8]))) := .put e8.dice dm
          refine ⟨us, hD8, by rw [all_len hr8, sizeLine_eq]; omega, ?_, ((m5.t e6).t e7 |>.t e8).trans em, bs ++ [z8], us ++ [w8], by simp; omega, upd_same, Paired.snoc (Mos.lk (R := All R') em.k hr8) (Mo.lk em.k r8), ?_⟩
          · exact (xt (xt (xt eH5 e6) e7) e8).putN (M := M') Mm.le.refl.add e8.dice dm hD
          · have : (fun a => W.mapFT ys p f (xs.drop (i + 1)) (fun b => P ((bs ++ [z8]) ++ (a ++ b))) (fun _ => False)) = (fun a => W.mapFT ys p f (xs.drop (i + 1)) (fun b => P (bs ++ ((z8 :: a) ++ b))) (fun _ => False)) := by funext a; simp
            rw [this]; exact hz8
        | false =>
          rw [if_neg (by decide)] at hb7 ⊢
          exact ⟨xt (xt eH5 e6) e7, (m5.t e6).t e7, bs, us, by omega, e7.keep D _ nD (e6.keep D _ nD hD5), MoXs.lk (R := All R') (e6.trans e7).x hr5, hb7⟩
      · have hj : j = l.length := by omega
        subst hj
        rw [List.drop_length] at hmap5
        refine .inl ⟨w5.2.1, eH5, m5.dice, bs, us, by omega, hD5, hr5, ?_⟩
        have := hmap5
        have h2 : W.mapFT ys p f (xs.drop (i + 1)) (fun b => P (bs ++ ([] ++ b))) (fun _ => False) := this
        simpa using h2
    · have hj : i = xs.length := by omega
      subst hj
      rw [List.drop_length] at hmap
      have hp : P (ac ++ []) := hmap
      rw [List.append_nil] at hp
      exact .inl ⟨ww.2.1, q _ ac H' (e1.trans eH) hp ⟨D, ws, rfl, fr1, hD', MoXs.lk (R := All R') (Mm.le.x Mm.le.refl.add) hr⟩⟩) go
end
end MW
namespace MW
open PySem PySem.Spec PyProof.Rows L2 GB
section
variable {M : Mm} {E : XK} {σ : St} {H : Hp} {te : TE} {t : TT} {wi wi1 : TI} {i j l : Nat} {α β γ δ : Type} {R : Rp α} {R0 : Rp β} {R1 : Rp γ} {R' : Rp δ} {K : Frag}
theorem hwA {i j : Nat} {σ : St} {v : V} : wipe ((wipe σ [i, j]).set i (some v)) [i, j] = wipe σ [i, j] := by
  show (((((σ.set j none).set i none).set i (some v) : St).set j none).set i none) = (σ.set j none).set i none
  apply List.ext_getElem?
  intro n
  simp only [List.getElem?_set, List.length_set]
  by_cases h1 : i = n <;> by_cases h2 : j = n <;> simp [h1, h2]
  all_goals (try split) <;> simp_all
theorem hwB {i j l : Nat} {σ : St} {v u : V} : wipe (((wipe σ [i, j, l]).set i (some v)).set j (some u)) [i, j, l] = wipe σ [i, j, l] := by
  show (((((((σ.set l none).set j none).set i none).set i (some v)).set j (some u) : St).set l none).set j none).set i none = ((σ.set l none).set j none).set i none
  apply List.ext_getElem?
  intro n
  simp only [List.getElem?_set, List.length_set]
  by_cases h1 : i = n <;> by_cases h2 : j = n <;> by_cases h3 : l = n <;> simp [h1, h2, h3]
  all_goals (try split) <;> simp_all
/-- for x in .. for y in .. -/
theorem ev_lcT1 {ys : α → W (List γ)} {p : α → γ → W Bool} {f : α → γ → W δ} {xs : W (List α)} [Mo R'] [Mo R] [Mo R1] (hi : EvI LkX M E wi σ H R xs)
    (hiI : ∀ M' H' x σ2, LkX M H M' H' → DiceM M' H' → T1 i R (wipe σ [i, j]) M' x σ2 H' → EvI Lk M' E0 wi1 σ2 H' R1 (ys x))
    (ht : ∀ M' H' x y σ2 σ3, LkX M H M' H' → DiceM M' H' → T1 i R (wipe σ [i, j]) M' x σ2 H' → T1 j R1 (wipe σ2 [j]) M' y σ3 H' → EvT M' E0 t σ3 H' (p x y))
    (he : ∀ M' H' x y σ2 σ3, LkX M H M' H' → DiceM M' H' → T1 i R (wipe σ [i, j]) M' x σ2 H' → T1 j R1 (wipe σ2 [j]) M' y σ3 H' → Ev M' E0 te σ3 H' R' (f x y)) :
    Ev M E (tLc2 wi (gName i) tYes wi1 (gName j) t te [i, j] [j]) σ H (RL (All R')) (W.bind xs fun xs => W.lcT ys p f xs) :=
  ev_lcT (T1 i R (wipe σ [i, j])) (fun σ0 => T1 j R1 σ0) hi (fun _ _ _ _ _ r q => tg1 r q) (fun _ _ _ _ h => by obtain ⟨v, rfl, _⟩ := h; exact hwA) (fun _ _ _ _ _ _ r q => tg1 r q) (fun _ _ _ _ _ h => hw1 h) hiI ht he
    (fun _ _ _ _ _ e h => by obtain ⟨v, e1, r⟩ := h; exact ⟨v, e1, Mo.lk e r⟩) (fun _ _ _ _ _ _ e h => t1_up e h)
/-- for x, z in .. for y in .. -/
theorem ev_lcT2 {ys : α × β → W (List γ)} {p : α × β → γ → W Bool} {f : α × β → γ → W δ} {xs : W (List (α × β))} [Mo R'] [Mo R] [Mo R0] [Mo R1] (hi : EvI LkX M E wi σ H (RT (Cons R (One R0))) xs)
    (hiI : ∀ M' H' x σ2, LkX M H M' H' → DiceM M' H' → T2 i j R R0 (wipe σ [i, j, l]) M' x σ2 H' → EvI Lk M' E0 wi1 σ2 H' R1 (ys x))
    (ht : ∀ M' H' x y σ2 σ3, LkX M H M' H' → DiceM M' H' → T2 i j R R0 (wipe σ [i, j, l]) M' x σ2 H' → T1 l R1 (wipe σ2 [l]) M' y σ3 H' → EvT M' E0 t σ3 H' (p x y))
    (he : ∀ M' H' x y σ2 σ3, LkX M H M' H' → DiceM M' H' → T2 i j R R0 (wipe σ [i, j, l]) M' x σ2 H' → T1 l R1 (wipe σ2 [l]) M' y σ3 H' → Ev M' E0 te σ3 H' R' (f x y)) :
    Ev M E (tLc2 wi (gTup K 2 (gCons (gName i) (gCons (gName j) gNil))) tYes wi1 (gName l) t te [i, j, l] [l]) σ H (RL (All R')) (W.bind xs fun xs => W.lcT ys p f xs) :=
  ev_lcT (T2 i j R R0 (wipe σ [i, j, l])) (fun σ0 => T1 l R1 σ0) hi (fun _ _ _ _ _ r q => tg2 r q) (fun _ _ _ _ h => by obtain ⟨v, u, rfl, _⟩ := h; exact hwB) (fun _ _ _ _ _ _ r q => tg1 r q) (fun _ _ _ _ _ h => hw1 h) hiI ht he
    (fun _ _ _ _ _ e h => by obtain ⟨v, u, e1, r, r'⟩ := h; exact ⟨v, u, e1, Mo.lk e r, Mo.lk e r'⟩) (fun _ _ _ _ _ _ e h => t1_up e h)
end
end MW

/-! wR: generator methods that end with `yield from` a list, under list(..). -/
namespace GX
open PySem PySem.Spec PyProof.Rows L2 GB
structure DgM (N : En) (k : Nat) (C m : Str) (sp : SpG) : Prop where
  fn : ∃ fd ps, GFn N.P N.w N.K N.mg N.base k (N.ma C m) fd ps sp ∧ Binds N.K fd ps []
  m : Meth N.K (N.ga C) m (N.ma C m)
  c : Cls N.K (N.ga C)
theorem dgm_mk {N : En} {k : Nat} {C m q : Str} {st : Stmt} {Ns ps : List Str} {sp : SpG} (F : FunM N C m q st) (S : GScope Ns ps (defScope st))
    (bd : ∀ (kV doc pm : Value) (an : Option Addr) (cdv ct : Value) (us : List Value), us.length = ps.length → bindArgs (PySem.W.fnOf m q (defArgs st) (defBody st) (defScope st) .none kV doc pm an cdv ct) ⟨us, []⟩ = pure (ps.zip us))
    (len : ∀ vs H Q E, sp vs H Q E → vs.length = ps.length)
    (body : ∀ (cdv : Value) (A : Around) (outer : List Env) (s : Shared) (H : Hp) (vs : List V) (Q : List V → Hp → Prop) (E : XK) (pn : List (Addr × Obj)), Room k (A.deeper (envOfC q (defScope st) s.heap.objs.size (N.ma C m) cdv)) → sp vs H Q E →
      ∃ t, GSs (gcxOf N.P N.w N.K N.mg N.base Ns q (defScope st) (N.ma C m) cdv A outer s H E pn) (defBody st) t ∧ t { nx := fun ys _ H' => Q ys H', rt := fun ys v H' => v = .non ∧ Q ys H' } [] (start Ns vs) H) : DgM N (k + 1) C m sp := by
  obtain ⟨⟨fd, F⟩, g, c⟩ := F
  have hb : Binds N.K fd ps [] := F.bindsN bd
  obtain ⟨oc, od, dV, kV, doc, pm, an, cdv, ct, osl, rfl, lk, hcd, _, _⟩ := F.ex
  exact ⟨⟨_, ps, gfn_of lk hcd S len fun A outer s H vs Q E pn hr hsp => body cdv A outer s H vs Q E pn hr hsp, hb⟩, g, c⟩
section
variable {X : Cx} {k : Nat} {C m nm : Str} {sp : SpG} {E : XK} {o e : Expr} {es : List Expr} {ta : TE} {t : TA} {p pos pos2 apos : Pos}
theorem nostop0 {K : PySem.W.Frag} : NoStop K E0 := fun _ _ _ h => h.elim
theorem pe_dgm {pl : Sem Bool} (he : PE X o ta) (D : DgM (En.of X) k C m sp) (hr : Room (k + 3) X.A) (hx : Passes (L2.CX X.prog X.w) X E0) (hgl : Gl X nm) (hmg : X.mg nm = none) (hv : bootBuiltins nm = some (.type "list")) (ha : PA X (e :: es) t)
    (hst : starEach (e :: es) X.env = (false, eval e X.env) :: starEach es X.env := by rfl) (hpl : (backTo pos2 (starEach es X.env)).any (·.1) = false := by rfl)
    (ht : eval (.Call (.Attribute o m apos) (e :: es) [] pos2) X.env = (do
      let ov ← eval o X.env
      standAt apos.atName
      let (f, first) ← holding [ov] (getMethod ov m pl)
      callWith pos2 f first (backTo pos2 (starEach (e :: es) X.env)) (backToKw pos2 (keywordEach [] X.env))) := by rfl)
    (hnm : nm ≠ "__name__" := by decide) (hdb2 : (nm == ("__debug__" : Str)) = false := by decide)
    (he2 : starEach [.Call (.Attribute o m apos) (e :: es) [] pos2] X.env = (false, eval (.Call (.Attribute o m apos) (e :: es) [] pos2) X.env) :: starEach [] X.env := by rfl) :
    PE X (.Call (.Name nm p) [.Call (.Attribute o m apos) (e :: es) [] pos2] [] pos) (tListG (tMethG (He.ga X.K C) m sp [] E0 ta t)) := by
  obtain ⟨fd, ps, F, hb⟩ := D.fn
  exact pe_listG (pgen_meth (pl := pl) he D.c D.m F (hr.mono (by omega)) hb .nil ha hst hpl ht) hx nostop0 hr hgl hmg hv hnm hdb2 he2
end
end GX
namespace MW
open PySem PySem.Spec PyProof.Rows L2 GB
/-- a generator's promise by its mirror -/
def FnGW {α γ : Type} (N : En) (S : Rs α) (R : Rp γ) (m : α → W (List γ)) : SpG := fun vs H cont E =>
  ∃ M x P PE, M.ca = N.ga ∧ DiceM M H ∧ S M x vs H ∧ m x P PE ∧ (∀ ws z H2, Xt M H H2 → P z → All R M z ws H2 → cont ws H2) ∧ GoE M E H PE
section
variable {M : Mm} {E : XK} {σ : St} {H : Hp} {te ta : TE} {ts : TA} {t : TS} {u : TGn} {D : GEnds} {ys : List V} {α β γ δ : Type} {N : En} {C mt : Str} {F : Fl α} {R : Rp γ} {S : Rs β} {ma : W α} {ms : W β} {m : W (List γ)}
theorem g_seq (h : tSeq t (fun _ σ' H' => u D ys σ' H') (D.at ys) σ H) : tGThen (tPlain t) u D ys σ H := h
theorem g_from {P : List γ → Prop} {PE : Ex → Prop} {Q : List V → Hp → Prop} {rt : List V → VK} (d : DiceM M H) (go : GoE M E H PE) (h : Ev M E te σ H (RL (All R)) m) (hm : W.bind m (fun l => W.grd (l.length < 1000000) l) P PE)
    (k : ∀ ws z H1, Xt M H H1 → P z → All R M z ws H1 → Q ws H1) : tGThen (tGFrom (tYfLst te)) tG0 { nx := fun ys _ H' => Q ys H', rt := rt } [] σ H :=
  h H (.refl d) _ _ PE hm (fun v z H1 e hp r => by
    obtain ⟨a, ws, rfl, fr, ha, hr⟩ := r
    exact ⟨a, ws, rfl, ha, by rw [List.length_nil, all_len hr, sizeLine_eq]; have := hp.1; omega, k ws z H1 e hp.2 hr⟩) go
theorem ev_dgm [MoF F] [Mo R] {mm : α × β → W (List γ)} (hca : M.ca = N.ga) (hno : FNo F mt) (ha : Ev M E ta σ H (RO C F) ma) (hb : EvA M E ts σ H S ms) :
    Ev M E (tListG (tMethG (N.ga C) mt (FnGW N (fun M p vs H => Cons (RO C F) S M p vs H) R mm) [] E0 ta ts)) σ H (RL (All R)) (W.bind ma fun x => W.bind ms fun y => W.nx (mm (x, y))) := fun H1 e Q P PE hm q g =>
  ha H1 e _ _ PE hm (fun v x H2 e2 hx rx => by
    obtain ⟨p, dx, fs, h1, h2, h3, h4⟩ := id rx
    subst h1
    refine ⟨p, dx, fs, rfl, by rw [hca] at h3; exact h3, hno _ _ _ _ h4, hb H2 (e.trans e2) _ _ PE hx (fun vs y H3 e3 hy ry => ?_) (g.up e2)⟩
    refine ⟨M, (x, y), P, (fun _ => False), hca, e3.dice, ⟨_, _, by rw [List.append_nil], up rx e3, ry⟩, hy, fun ws z H4 e4 hz rz p hp => ?_, GoE.none⟩
    exact q _ z _ (((e2.trans e3).trans e4).trans (.new e4.dice hp)) hz ⟨p, ws, rfl, e4.dice.fr hp, upd_same, MoXs.lk (R := All R) (Xt.new e4.dice hp).x rz⟩) g
end
end MW
namespace GX
open PySem PySem.Spec PyProof.Rows L2 GB
theorem px00 {X : Cx} : Passes (L2.CX X.prog X.w) X E0 := fun _ _ _ _ _ _ _ ⟨_, _, _, _, _, _, _, _, _, _, _, _, h⟩ => h.elim
end GX
namespace MW
open PySem PySem.Spec PyProof.Rows L2 GB
namespace W
variable {α : Type}
def un2 (l : List α) : W (α × α) := fun P _ => ∃ a b, l = [a, b] ∧ P (a, b)
def un3 (l : List α) : W (α × α × α) := fun P _ => ∃ a b c, l = [a, b, c] ∧ P (a, b, c)
end W
def RL2 {α : Type} (R : Rp α) : Rp (α × α) := fun M x v H => RL (All R) M [x.1, x.2] v H
def RL3 {α : Type} (R : Rp α) : Rp (α × α × α) := fun M x v H => RL (All R) M [x.1, x.2.1, x.2.2] v H
section
variable {M : Mm} {E : XK} {σ : St} {H : Hp} {te : TE} {α κ ν : Type} {R : Rp α} {m : W (List α)} {i j l : Nat} {K : Frag} {Rk : Rp κ} {Rv : Rp ν}
theorem ev_un2 (h : Ev M E te σ H (RL (All R)) m) : Ev M E te σ H (RL2 R) (W.bind m W.un2) := fun H1 e Q P PE hm q g =>
  h H1 e _ _ PE hm (fun v x H2 e2 ⟨a, b, hx, p⟩ r => q v (a, b) H2 e2 p (by subst hx; exact r)) g
theorem ev_un3 (h : Ev M E te σ H (RL (All R)) m) : Ev M E te σ H (RL3 R) (W.bind m W.un3) := fun H1 e Q P PE hm q g =>
  h H1 e _ _ PE hm (fun v x H2 e2 ⟨a, b, c, hx, p⟩ r => q v (a, b, c) H2 e2 p (by subst hx; exact r)) g
theorem tgL2 {M : Mm} {x : α × α} {v : V} {H : Hp} {Q : St → Hp → Prop} (r : RL2 R M x v H) (q : ∀ σ2, T2 i j R R σ M x σ2 H → Q σ2 H) : gLst K 2 (gCons (gName i) (gCons (gName j) gNil)) v σ H Q := by
  obtain ⟨a, ws, rfl, f, ha, hr⟩ := r
  cases hr with
  | cons h1 hr => cases hr with
    | cons h2 hr => cases hr with
      | nil => exact ⟨a, _, rfl, .of ha, rfl, _, _, rfl, _, _, rfl, rfl, q _ ⟨_, _, rfl, h1, h2⟩⟩
theorem tgL3 {M : Mm} {x : α × α × α} {v : V} {H : Hp} {Q : St → Hp → Prop} (r : RL3 R M x v H) (q : ∀ σ2, T3 i j l R R R σ M x σ2 H → Q σ2 H) : gLst K 3 (gCons (gName i) (gCons (gName j) (gCons (gName l) gNil))) v σ H Q := by
  obtain ⟨a, ws, rfl, f, ha, hr⟩ := r
  cases hr with
  | cons h1 hr => cases hr with
    | cons h2 hr => cases hr with
      | cons h3 hr => cases hr with
        | nil => exact ⟨a, _, rfl, .of ha, rfl, _, _, rfl, _, _, rfl, _, _, rfl, rfl, q _ ⟨_, _, _, rfl, h1, h2, h3⟩⟩
/-- {}, frozen at once -/
theorem ev_dnewZ [Ky Rk] : Ev M E (GX.tFrz tDNewT) σ H (RDt Rk Rv) (W.pure ([] : List (κ × ν))) := fun H1 e Q P PE hm q g p hp => by
  refine ⟨p, _, rfl, upd_same, trivial, fun od => ?_⟩
  rw [upd_upd]
  exact q _ _ _ (.new e.dice hp) hm ⟨p, od, _, rfl, e.dice.fr hp, upd_same, .nil⟩
end
end MW

/-! wN: == and != of lists and tuples of own objects that are equal, piece by piece. -/
namespace GX
open PySem PySem.SeqAt
open AutoSeq1 (wpAny_loadPart')
open MeetsSeq MeetsSeq2 MeetsSeq3 SeqRoads2
open GQ (FinOf ListI call_here)
section
variable {prog : Program} {w : World} {A : Around} {R : Result → Shared → Prop}
theorem ne_loopG (l b : Addr) (N : Nat) (I : Nat → Shared → Prop) (hl : ListI prog w A (fun e s' => R (.error e) s') l b N I)
    (fin : ∀ s, I N s → R (.ok (.ret (.bool false))) s) (k : Nat) :
    ∀ i : Nat, N - i = k → i ≤ N → ∀ s, I i s →
      wpAny (model prog w) A.in1 (Builtin.«list.__eq__.loop» ⟨[.ref l, .ref b, rawInt i, rawInt 3], []⟩) (FinOf prog w A R) (fun e s' => R (.error e) s') s := by
  induction k with
  | zero =>
    intro i hk hi s h
    obtain ⟨items, items2, n, n2, hl1, hb1, hs1, hs2, _⟩ := hl _ _ h
    have hi' : i = N := by omega
    have hR : R (.ok (.ret (.bool false))) s := fin s (hi' ▸ h)
    obtain ⟨hp, g, d, tk, os⟩ := s
    wp_walk using wpAny_loadPart' hl1, wpAny_loadPart' hb1
    have hi1 : items[((i : Nat) : Int).toNat]? = none := by simp; omega
    have hi2 : items2[((i : Nat) : Int).toNat]? = none := by simp; omega
    rw [hi1, hi2]
    wp_walk using wpAny_loadPart' hl1, wpAny_loadPart' hb1
    show R (.ok (.ret (.bool (items.size != items2.size)))) _
    rw [hs1, hs2]
    simpa using hR
  | succ k ih =>
    intro i hk hi s h
    obtain ⟨items, items2, n, n2, hl1, hb1, hs1, hs2, turn⟩ := hl _ _ h
    have hlt : i < items.size := by omega
    have hlt2 : i < items2.size := by omega
    have ht := turn hlt hlt2
    obtain ⟨hp, g, d, tk, os⟩ := s
    wp_walk using wpAny_loadPart' hl1, wpAny_loadPart' hb1
    have hi1 : items[((i : Nat) : Int).toNat]? = some items[i] := by simp [hlt]
    have hi2 : items2[((i : Nat) : Int).toNat]? = some items2[i] := by simp [hlt2]
    have hc : ((i : Int) + 1) = ((i + 1 : Nat) : Int) := by omega
    rw [hi1, hi2]
    refine wpAny_bind (wpAny_mono ht (fun r s2 h2 => ?_) fun _ _ x => x)
    obtain ⟨hr, h2⟩ := h2
    subst hr
    have hrec := ih (i + 1) (by omega) (by omega) s2 h2
    obtain ⟨hp2, g2, d2, tk2, os2⟩ := s2
    wp_walk
    rw [hc]
    exact ⟨plainId_quiet plain_eq_loop _, codeAny_builtin entry_eq_loop (by
      rw [Around.under_plainId plain_eq_loop _]
      exact hrec)⟩
theorem list_neG (l b : Addr) (N : Nat) (I : Nat → Shared → Prop) (hl : ListI prog w A (fun e s' => R (.error e) s') l b N I)
    (fin : ∀ s, I N s → R (.ok (.ret (.bool false))) s) {s : Shared} (h : I 0 s) :
    wpAny (model prog w) A.in1 (Builtin.«list.__ne__» ⟨[.ref l, .ref b], []⟩) (FinOf prog w A R) (fun e s' => R (.error e) s') s := by
  obtain ⟨items, items2, n, n2, hl1, hb1, hs1, hs2, _⟩ := hl _ _ h
  have hrec := ne_loopG (A := A) (R := R) l b N I hl fin _ 0 rfl (Nat.zero_le _) s h
  obtain ⟨hp, g, d, tk, os⟩ := s
  have f3 := AutoSeq1.sub_list_list
  have hne : ¬ (items.size != items2.size) = true := by simp [hs1, hs2]
  wp_walk using wpAny_loadPart' hl1, wpAny_loadPart' hb1
  exact ⟨plainId_quiet plain_eq_loop _, codeAny_builtin entry_eq_loop (by
    rw [Around.under_plainId plain_eq_loop _]
    exact hrec)⟩
end
section
variable {prog : Program} {w : World} {A : Around} {E : Value → Shared → Prop} {s : Shared}
theorem rc_listNG {l b : Addr} {N : Nat} {Q : Value → Shared → Prop} (hu : A.units < cLine) (I : Nat → Shared → Prop) (hl : ListI prog w A E l b N I)
    (fin : ∀ s, I N s → Q (.bool false) s) (h : I 0 s) : wpAny (model prog w) A (richCompare .NotEq (.ref l) (.ref b)) Q E s := by
  obtain ⟨items, items2, n, n2, hl1, hb1, _, _, _⟩ := hl _ _ h
  refine wpAny_richCompare_same_room (op := .NotEq) ⟨_, hl1, rfl⟩ ⟨_, hb1, rfl⟩ F.slot_list_ne (call_here F.slot_list_ne ⟨_, hl1, rfl⟩ F.entry_list_ne (F.args_list_ne_2 _ _) ?_) hu
  exact list_neG (R := wants (fun v s' => v ≠ .notImplemented ∧ Q v s') E) l b N I hl (fun s' q => ⟨(fun x => nomatch x), fin s' q⟩) h
end
end GX
namespace GX
open PySem PySem.Spec PyProof.Rows L2 GB
section
variable {X : Cx} {n k : Nat} {D : Eqv} {C : Str}
/-- != gives False for what D says to be equal -/
def RnG (X : Cx) (n : Nat) (D : Eqv) : Prop :=
  ∀ (A : Around) (pins : List (Addr × Obj)) (s : Shared) (σ : L2.St) (H : Hp) (x y : V) (u v : Value), L2.Sub X n A → Inv X pins σ H s → RelV x u → RelV y v → D x y H →
    wpAny (model X.prog X.w) A (richCompare .NotEq u v) (fun r s' => r = .bool false ∧ ∃ H', Inv X pins σ H' s' ∧ L2.Ext H H') X.xe s
theorem rnG_list (hD : Mon D) (h : EqG X n D) : RnG X (n + 1) (DList D) := by
  intro A pins s σ H x y u v sb I rx ry d
  obtain ⟨a, b, xs, ys, rfl, rfl, ha, hb, p⟩ := d
  cases rx
  cases ry
  refine rc_listNG (N := xs.length) sb.room.units0 (fun _ s' => LoopI X pins σ H s') (fun i s' q => ?_) (fun s' q => ⟨rfl, q⟩) ⟨H, I, Ext.rfl'⟩
  obtain ⟨H1, I1, e1⟩ := id q
  obtain ⟨z, its, k, r, e⟩ := I1.hok a _ (e1 _ _ ha)
  obtain ⟨z2, its2, k2, r2, e2⟩ := I1.hok b _ (e1 _ _ hb)
  refine ⟨its.toArray, its2.toArray, k, k2, e, e2, by rw [List.size_toArray, ← r.length], by rw [List.size_toArray, ← r2.length, ← p.1], fun h1 h2 => ?_⟩
  exact turnG hD h sb p r r2 i h1 h2 s' q
def rNeG (D : Eqv) : R2 := fun x y H Q => D x y H ∧ ∀ H', L2.Ext H H' → Q (.bl false) H'
theorem op_neG (h : RnG X n D) (hr : Room n X.A) : OpR X (compareOp .NotEq) (rNeG D) := by
  intro pins s σ H x y v u Q I rx ry hq
  obtain ⟨d, q⟩ := hq
  show wpAny (model X.prog X.w) X.A (richCompare .NotEq v u) (EP X pins σ Q) X.xe s
  refine wpAny_mono (h X.A pins s σ H x y v u ⟨hr, rfl⟩ I rx ry d) (fun r s' z => ?_) fun _ _ x => x
  obtain ⟨hr', H', I', e⟩ := z
  subst hr'
  exact ⟨.bl false, H', I', rfl, q H' e⟩
/-- the own == of two instances, by its promise as FnR -/
theorem rcG_insR {f : Addr} {Ca : Addr} {R : Addr → Addr → Hp → Prop} (F : FnR X.prog X.w X.K X.mg X.base (L2.CX X.prog X.w) n f (spEq R))
    (hs : PySem.W.findIn X.K (.ref Ca) "__eq__" = some (some (.ref f))) (hf : PySem.W.isFn X.K (.ref f) = true) : RcG X n (DIns Ca R) := by
  intro A pins s σ H x y u v sb I rx ry d
  obtain ⟨a, b, dx, dy, fs, gs, rfl, rfl, ha, hb', hr⟩ := d
  cases rx
  cases ry
  obtain ⟨mA, J, _⟩ := ins_get I.hok ha
  obtain ⟨mB, J', _⟩ := ins_get I.hok hb'
  obtain ⟨od, J, _⟩ := J.look
  obtain ⟨od', J', _⟩ := J'.look
  obtain ⟨m, hF⟩ := I.fr
  refine PySem.W.cmp_K (op := .Eq) (tb := .ref Ca) sb.room.units0 hF I.ok.mod.kin J J'.type (by simp [PySem.W.notFirst]) hs hf ?_
  have hsp : spEq R [.ref a, .ref b] H (fun v H' => v = .bl true ∧ L2.Ext H H') E0 := ⟨a, b, rfl, hr, fun H' e => ⟨rfl, e⟩⟩
  have e0 : Env0 X.prog X.w X.K X.mg X.base A X.stack s H := by
    have e := I.env0
    exact ⟨by rw [sb.fr]; exact e.frames, e.mod, e.bs, e.bsz, e.funs, e.frf, e.hok, e.bare⟩
  have r2 : Vals [V.ref a, V.ref b] [Value.ref a, Value.ref b] := .cons rfl (.cons rfl .nil)
  refine wpAny_call (codeAny_mono (F A X.stack s H [.ref a, .ref b] [.ref a, .ref b] _ E0 sb.room e0 r2 hsp) fun r s' hq => ?_)
  cases r with
  | error e => exact (px00 (X := X)) pins σ H s e s' I hq
  | ok fl =>
    cases fl with
    | ret w =>
      obtain ⟨z, H', I', rz, ez, ex⟩ := I.after hq
      subst ez
      cases rz
      exact ⟨rfl, H', I', ex⟩
    | next => exact False.elim hq
    | brk => exact False.elim hq
    | cont => exact False.elim hq
end
end GX
namespace MW
open PySem PySem.Spec PyProof.Rows L2 GB
/-- a representation that asks nothing of what changes -/
class Nl {α : Type} (R : Rp α) : Prop where
  nl : ∀ {M x v H}, R M x v H → R (Mm.nil M.ca) x v H
class Nls {α : Type} (S : Rs α) : Prop where
  nl : ∀ {M x v H}, S M x v H → S (Mm.nil M.ca) x v H
class NlF {α : Type} (F : Fl α) : Prop where
  nl : ∀ {M x v H}, F M x v H → F (Mm.nil M.ca) x v H
section
variable {α β : Type}
instance : Nl RI := ⟨fun h => h⟩
instance : Nl RB := ⟨fun h => h⟩
instance {R : Rp α} [Nl R] : Nls (One R) := ⟨fun ⟨v, h, r⟩ => ⟨v, h, Nl.nl r⟩⟩
instance {R : Rp α} {S : Rs β} [Nl R] [Nls S] : Nls (Cons R S) := ⟨fun ⟨v, r, h, r1, r2⟩ => ⟨v, r, h, Nl.nl r1, Nls.nl r2⟩⟩
theorem all_nl {R : Rp α} [Nl R] {M : Mm} {H : Hp} : ∀ {l : List α} {vs : List V}, All R M l vs H → All R (Mm.nil M.ca) l vs H
  | [], _, h => by cases h; exact .nil
  | _ :: _, _, h => by cases h with | cons h1 h2 => exact .cons (Nl.nl h1) (all_nl h2)
instance {R : Rp α} [Nl R] : Nls (All R) := ⟨all_nl⟩
instance {S : Rs α} [Nls S] : Nl (RT S) := ⟨fun ⟨a, vs, h, f, g, r⟩ => ⟨a, vs, h, fr_nil, g, Nls.nl r⟩⟩
instance {S : Rs α} [Nls S] : Nl (RL S) := ⟨fun ⟨a, vs, h, f, g, r⟩ => ⟨a, vs, h, fr_nil, g, Nls.nl r⟩⟩
instance {f : Str} {R : Rp α} [Nl R] : NlF (FOne f R) := ⟨fun ⟨v, h, r⟩ => ⟨v, h, Nl.nl r⟩⟩
instance {f : Str} {R : Rp α} {F : Fl β} [Nl R] [NlF F] : NlF (FCons f R F) := ⟨fun ⟨v, r, h, r1, r2⟩ => ⟨v, r, h, Nl.nl r1, NlF.nl r2⟩⟩
instance {C : Str} {F : Fl α} [NlF F] : Nl (RO C F) := ⟨fun ⟨a, dx, fs, h, f, g, r⟩ => ⟨a, dx, fs, h, fr_nil, g, NlF.nl r⟩⟩
end
def EqOwn {α : Type} (N : En) (C : Str) (F : Fl α) (mm : α × α → W Bool) (a b : Addr) (H : Hp) : Prop := ∃ z, RO C F (Mm.nil N.ga) z (.ref a) H ∧ RO C F (Mm.nil N.ga) z (.ref b) H ∧ mm (z, z) (fun b => b = true) (fun _ => False)
section
variable {X : Cx} {n k : Nat} {α : Type} {F : Fl α} [MoF F] {C : Str} {mm : α × α → W Bool}
theorem ext_lk {ca : Str → Addr} {H H' : Hp} (e : L2.Ext H H') : LkX (Mm.nil ca) H (Mm.nil ca) H' := ⟨⟨rfl, rfl, fun a o f h => ⟨e a o h, f⟩⟩, fun a o _ h => e a o h⟩
theorem xt_ext {ca : Str → Addr} {H H' : Hp} (e : Xt (Mm.nil ca) H H') : L2.Ext H H' := fun a o h => e.keep a o (fun z => (nomatch z)) h
theorem mon_own {N : En} : Mon (DIns (N.ga C) (EqOwn N C F mm)) := mon_ins fun a b H H' e ⟨z, h1, h2, h3⟩ => ⟨z, MoX.lk (R := RO C F) (ext_lk e) h1, MoX.lk (R := RO C F) (ext_lk e) h2, h3⟩
theorem eqG_own (D : Dm (En.of X) k C "__eq__" (FnW (En.of X) (Cons (RO C F) (One (RO C F))) RB mm)) : EqG X k (DIns (He.ga X.K C) (EqOwn (En.of X) C F mm)) := by
  have r : RcG X k (DIns (He.ga X.K C) (EqOwn (En.of X) C F mm)) := GX.rcG_insR (D.fn.imp fun vs H Q E h => by
    obtain ⟨a, b, rfl, ⟨z, h1, h2, h3⟩, q⟩ := h
    exact ⟨Mm.nil (En.of X).ga, (z, z), (fun b => b = true), (fun _ => False), rfl, dice_nil, ⟨_, _, rfl, h1, _, rfl, h2⟩, h3, fun w zz H2 e hz rz => by
      subst hz
      cases (show w = V.bl true from rz)
      exact q H2 (xt_ext e), GoE.none⟩) D.m.at_ D.m.fn
  exact r.eqG fun _ _ _ d => let ⟨a, b, _, _, _, _, hx, hy, _⟩ := d; ⟨a, b, hx, hy⟩
theorem op_eqL (N : En) (hN : En.of X = N) (D : Dm N k C "__eq__" (FnW N (Cons (RO C F) (One (RO C F))) RB mm)) (hr : Room (k + 1) X.A) : OpR X (compareOp .Eq) (rEqG (DList (DIns (N.ga C) (EqOwn N C F mm)))) := by
  subst hN
  exact op_eqG (rcG_list mon_own (eqG_own D)) hr
theorem op_neL (N : En) (hN : En.of X = N) (D : Dm N k C "__eq__" (FnW N (Cons (RO C F) (One (RO C F))) RB mm)) (hr : Room (k + 1) X.A) : OpR X (compareOp .NotEq) (GX.rNeG (DList (DIns (N.ga C) (EqOwn N C F mm)))) := by
  subst hN
  exact GX.op_neG (GX.rnG_list mon_own (eqG_own D)) hr
theorem op_eqTO (N : En) (hN : En.of X = N) (D : Dm N k C "__eq__" (FnW N (Cons (RO C F) (One (RO C F))) RB mm)) (hr : Room (k + 1) X.A) : OpR X (compareOp .Eq) (rEqG (DTup N.K (DIns (N.ga C) (EqOwn N C F mm)))) := by
  subst hN
  exact op_eqG (rcG_tup mon_own (eqG_own D)) hr
end
section
variable {E : XK} {α : Type} {F : Fl α} [NlF F] {C : Str} {mm : α × α → W Bool} {N : En}
/-- equal, seen so by the own == -/
def sameW (mm : α × α → W Bool) (b : Bool) (x y : List α) : W Bool := fun P _ => (x = y ∧ ∀ z ∈ x, mm (z, z) (fun b => b = true) (fun _ => False)) ∧ P b
theorem prs_own {M : Mm} {H : Hp} (hca : M.ca = N.ga) : ∀ {x : List α} {vs us : List V}, All (RO C F) M x vs H → All (RO C F) M x us H → (∀ z ∈ x, mm (z, z) (fun b => b = true) (fun _ => False)) → Prs (DIns (N.ga C) (EqOwn N C F mm)) vs us H
  | [], _, _, h1, h2, _ => by cases h1; cases h2; exact Prs.nil
  | z :: r, _, _, h1, h2, hm => by
    cases h1 with
    | cons a1 a2 => cases h2 with
      | cons b1 b2 =>
        refine Prs.cons ?_ (prs_own hca a2 b2 fun w hw => hm w (List.mem_cons_of_mem _ hw))
        have n1 := Nl.nl (R := RO C F) a1
        have n2 := Nl.nl (R := RO C F) b1
        rw [hca] at n1 n2
        obtain ⟨p, dx, fs, e1, f1, g1, k1⟩ := id a1
        obtain ⟨p', dx', fs', e2, f2, g2, k2⟩ := id b1
        subst e1 e2
        exact ⟨p, p', dx, dx', fs, fs', rfl, rfl, by rw [← hca]; exact g1, by rw [← hca]; exact g2, z, n1, n2, hm z List.mem_cons_self⟩
theorem ext_xt {M : Mm} {H H' : Hp} (d : DiceM M H) (e : L2.Ext H H') : Xt M H H' := ⟨fun a o _ h => e a o h, ⟨fun x z => let ⟨a, b, c, q⟩ := d.d x z; ⟨a, b, c, e _ _ q⟩, fun a m => let ⟨h, o, q, n⟩ := d.l a m; ⟨h, o, e _ _ q, n⟩⟩⟩
end
section
variable {E : XK} {σ : St} {H : Hp} {ta tb : TE} {M : Mm} {α : Type} {F : Fl α} [NlF F] [MoF F] {C : Str} {mm : α × α → W Bool} {N : En} {ma mb : W (List α)}
theorem ev_neL (hca : M.ca = N.ga) (ha : Ev M E ta σ H (RL (All (RO C F))) ma) (hb : Ev M E tb σ H (RL (All (RO C F))) mb) : Ev M E (tOp (GX.rNeG (DList (DIns (N.ga C) (EqOwn N C F mm)))) ta tb) σ H RB (W.bind ma fun x => W.bind mb fun y => sameW mm false x y) := fun H1 e Q P PE hp q g =>
  ha H1 e _ _ PE hp (fun v x H2 e2 hx rx => hb H2 (e.trans e2) _ _ PE hx (fun u y H3 e3 hy ry => by
    obtain ⟨⟨rfl, hm⟩, hp⟩ := hy
    obtain ⟨a, ws, rfl, f1, h1, r1⟩ := up rx e3
    obtain ⟨b, us, rfl, f2, h2, r2⟩ := ry
    exact ⟨⟨a, b, ws, us, rfl, rfl, h1, h2, prs_own hca r1 r2 hm⟩, fun H' ex => q _ _ _ ((e2.trans e3).trans (ext_xt e3.dice ex)) hp rfl⟩) (g.up e2)) g
theorem ev_eqL (hca : M.ca = N.ga) (ha : Ev M E ta σ H (RL (All (RO C F))) ma) (hb : Ev M E tb σ H (RL (All (RO C F))) mb) : Ev M E (tOp (rEqG (DList (DIns (N.ga C) (EqOwn N C F mm)))) ta tb) σ H RB (W.bind ma fun x => W.bind mb fun y => sameW mm true x y) := fun H1 e Q P PE hp q g =>
  ha H1 e _ _ PE hp (fun v x H2 e2 hx rx => hb H2 (e.trans e2) _ _ PE hx (fun u y H3 e3 hy ry => by
    obtain ⟨⟨rfl, hm⟩, hp⟩ := hy
    obtain ⟨a, ws, rfl, f1, h1, r1⟩ := up rx e3
    obtain ⟨b, us, rfl, f2, h2, r2⟩ := ry
    exact ⟨⟨a, b, ws, us, rfl, rfl, h1, h2, prs_own hca r1 r2 hm⟩, fun H' ex => q _ _ _ ((e2.trans e3).trans (ext_xt e3.dice ex)) hp rfl⟩) (g.up e2)) g
theorem ev_eqTO (hca : M.ca = N.ga) (ha : Ev M E ta σ H (RT (All (RO C F))) ma) (hb : Ev M E tb σ H (RT (All (RO C F))) mb) : Ev M E (tOp (rEqG (DTup N.K (DIns (N.ga C) (EqOwn N C F mm)))) ta tb) σ H RB (W.bind ma fun x => W.bind mb fun y => sameW mm true x y) := fun H1 e Q P PE hp q g =>
  ha H1 e _ _ PE hp (fun v x H2 e2 hx rx => hb H2 (e.trans e2) _ _ PE hx (fun u y H3 e3 hy ry => by
    obtain ⟨⟨rfl, hm⟩, hp⟩ := hy
    obtain ⟨a, ws, rfl, f1, h1, r1⟩ := up rx e3
    obtain ⟨b, us, rfl, f2, h2, r2⟩ := ry
    exact ⟨⟨a, b, ws, us, rfl, rfl, .of h1, .of h2, prs_own hca r1 r2 hm⟩, fun H' ex => q _ _ _ ((e2.trans e3).trans (ext_xt e3.dice ex)) hp rfl⟩) (g.up e2)) g
end
end MW

namespace T09
open PySem PySem.Spec PyProof.Rows L2 GB GX MW
def top (i : Nat) : Stmt := PySem.Challenge.pw_clerkblurs_k09_whole_styles_put_together.main.body.getD i (.Pass ⟨0, 0, 0, 0⟩)
abbrev zs_is_integer : Stmt := top 9
abbrev zs_is_order : Stmt := top 10
abbrev zs_is_small : Stmt := top 22
abbrev zs_Parts___init__ : Stmt := inClass (top 21) 1
abbrev zs_checked_lines : Stmt := top 23
abbrev zs_Line___init__ : Stmt := inClass (top 25) 0
abbrev zs_Lines___init__ : Stmt := inClass (top 41) 1
abbrev zs_checked_styles : Stmt := top 42
abbrev zs_Style___init__ : Stmt := inClass (top 44) 0
abbrev zs_require_style : Stmt := top 47
abbrev zs_require_like_sorts : Stmt := top 48
abbrev zs_Style___init__P : Stmt := inClass (top 44) 0
abbrev zs_style_inT : Stmt := top 46
abbrev zs_Style___or__ : Stmt := inClass (top 44) 9
abbrev zs_plus : Stmt := top 13
abbrev zs_Line___init__P : Stmt := inClass (top 25) 0
abbrev zs_line_inT : Stmt := top 26
abbrev zs_sum_of_lines : Stmt := top 37
abbrev zs_style_in : Stmt := top 46
abbrev zs_Style___add__ : Stmt := inClass (top 44) 10
abbrev zs_Style_lines : Stmt := inClass (top 44) 1
abbrev zs_Line___eq__ : Stmt := inClass (top 25) 16
abbrev zs_Style___len__ : Stmt := inClass (top 44) 14
abbrev zs_Style___iter__ : Stmt := inClass (top 44) 13
abbrev zs_Line_base : Stmt := inClass (top 25) 2
abbrev zs_Line_packs : Stmt := inClass (top 25) 3
abbrev zs_line_orders : Stmt := top 50
abbrev zs_orders_up_to : Stmt := top 51
abbrev zs_Style_orders : Stmt := inClass (top 44) 4
abbrev zs_Style___getitem__ : Stmt := inClass (top 44) 11
abbrev zs_require_line : Stmt := top 27
abbrev zs_require_equal_sorts : Stmt := top 12
abbrev zs_Line___add__ : Stmt := inClass (top 25) 12
abbrev zs_require_order : Stmt := top 11
abbrev zs_Style_shifted : Stmt := inClass (top 44) 5
abbrev zs_Line_shifted : Stmt := inClass (top 25) 8
abbrev zs_require_scale : Stmt := top 28
abbrev zs_taken : Stmt := top 14
abbrev zs_line_in : Stmt := top 26
abbrev zs_scaled_in : Stmt := top 35
abbrev zs_Style_scaled : Stmt := inClass (top 44) 6
abbrev zs_Line_scaled : Stmt := inClass (top 25) 9
abbrev zs_most_often : Stmt := top 31
abbrev zs_leftovers : Stmt := top 32
abbrev zs_lean_in : Stmt := top 34
abbrev zs_Style_lean : Stmt := inClass (top 44) 8
abbrev zs_Line_lean : Stmt := inClass (top 25) 7
abbrev zs_require_sort : Stmt := top 29
abbrev zs_forgotten_in : Stmt := top 36
abbrev zs_Style_forgetting : Stmt := inClass (top 44) 7
abbrev zs_Line_forgetting : Stmt := inClass (top 25) 10
abbrev zs__law_dice : Stmt := top 53
abbrev zs__law_roll : Stmt := top 54
abbrev zs__law_order : Stmt := top 55
abbrev zs__law_line : Stmt := top 57
abbrev zs__law_style : Stmt := top 58
abbrev zs__law_made_style : Stmt := top 59
abbrev zs__law_plus : Stmt := top 56
abbrev zs__law_line_orders : Stmt := top 61
abbrev zs__law_orders : Stmt := top 62
abbrev zs__law_plain_style : Stmt := top 60
abbrev zs__law_both_right : Stmt := top 63
abbrev zs__law_changed_right : Stmt := top 64
abbrev zs__law_right : Stmt := top 65
abbrev zs_law : Stmt := top 66
def fn : List He.DefD := [⟨("is_integer", none), "is_integer", "is_integer", defArgs zs_is_integer, defBody zs_is_integer, defScope zs_is_integer, [], []⟩, ⟨("is_order", none), "is_order", "is_order", defArgs zs_is_order, defBody zs_is_order, defScope zs_is_order, [], []⟩, ⟨("is_small", none), "is_small", "is_small", defArgs zs_is_small, defBody zs_is_small, defScope zs_is_small, [], []⟩, ⟨("Parts", some "__init__"), "__init__", "Parts.__init__", defArgs zs_Parts___init__, defBody zs_Parts___init__, defScope zs_Parts___init__, [], []⟩, ⟨("checked_lines", none), "checked", "checked", defArgs zs_checked_lines, defBody zs_checked_lines, defScope zs_checked_lines, [], []⟩, ⟨("Line", some "__init__"), "__init__", "Line.__init__", defArgs zs_Line___init__, defBody zs_Line___init__, defScope zs_Line___init__, [.adr (He.dflAt ("Line", some "__init__") 0)], []⟩, ⟨("Lines", some "__init__"), "__init__", "Lines.__init__", defArgs zs_Lines___init__, defBody zs_Lines___init__, defScope zs_Lines___init__, [], []⟩, ⟨("checked_styles", none), "checked", "checked", defArgs zs_checked_styles, defBody zs_checked_styles, defScope zs_checked_styles, [], []⟩, ⟨("Style", some "__init__"), "__init__", "Style.__init__", defArgs zs_Style___init__, defBody zs_Style___init__, defScope zs_Style___init__, [], []⟩, ⟨("require_style", none), "require_style", "require_style", defArgs zs_require_style, defBody zs_require_style, defScope zs_require_style, [], []⟩, ⟨("require_like_sorts", none), "require_like_sorts", "require_like_sorts", defArgs zs_require_like_sorts, defBody zs_require_like_sorts, defScope zs_require_like_sorts, [], []⟩, ⟨("Style", some "__init__"), "__init__", "Style.__init__", defArgs zs_Style___init__P, defBody zs_Style___init__P, defScope zs_Style___init__P, [], []⟩, ⟨("style_in", none), "style_in", "style_in", defArgs zs_style_inT, defBody zs_style_inT, defScope zs_style_inT, [], []⟩, ⟨("Style", some "__or__"), "__or__", "Style.__or__", defArgs zs_Style___or__, defBody zs_Style___or__, defScope zs_Style___or__, [], []⟩, ⟨("plus", none), "plus", "plus", defArgs zs_plus, defBody zs_plus, defScope zs_plus, [], []⟩, ⟨("Line", some "__init__"), "__init__", "Line.__init__", defArgs zs_Line___init__P, defBody zs_Line___init__P, defScope zs_Line___init__P, [.adr (He.dflAt ("Line", some "__init__") 0)], []⟩, ⟨("line_in", none), "line_in", "line_in", defArgs zs_line_inT, defBody zs_line_inT, defScope zs_line_inT, [], []⟩, ⟨("sum_of_lines", none), "sum_of_lines", "sum_of_lines", defArgs zs_sum_of_lines, defBody zs_sum_of_lines, defScope zs_sum_of_lines, [], []⟩, ⟨("style_in", none), "style_in", "style_in", defArgs zs_style_in, defBody zs_style_in, defScope zs_style_in, [], []⟩, ⟨("Style", some "__add__"), "__add__", "Style.__add__", defArgs zs_Style___add__, defBody zs_Style___add__, defScope zs_Style___add__, [], []⟩, ⟨("Line", some "__eq__"), "__eq__", "Line.__eq__", defArgs zs_Line___eq__, defBody zs_Line___eq__, defScope zs_Line___eq__, [], []⟩, ⟨("Style", some "__len__"), "__len__", "Style.__len__", defArgs zs_Style___len__, defBody zs_Style___len__, defScope zs_Style___len__, [], []⟩, ⟨("Style", some "__iter__"), "__iter__", "Style.__iter__", defArgs zs_Style___iter__, defBody zs_Style___iter__, defScope zs_Style___iter__, [], []⟩, ⟨("line_orders", none), "line_orders", "line_orders", defArgs zs_line_orders, defBody zs_line_orders, defScope zs_line_orders, [], []⟩, ⟨("orders_up_to", none), "orders_up_to", "orders_up_to", defArgs zs_orders_up_to, defBody zs_orders_up_to, defScope zs_orders_up_to, [], []⟩, ⟨("Style", some "orders"), "orders", "Style.orders", defArgs zs_Style_orders, defBody zs_Style_orders, defScope zs_Style_orders, [], []⟩, ⟨("Style", some "__getitem__"), "__getitem__", "Style.__getitem__", defArgs zs_Style___getitem__, defBody zs_Style___getitem__, defScope zs_Style___getitem__, [], []⟩, ⟨("require_line", none), "require_line", "require_line", defArgs zs_require_line, defBody zs_require_line, defScope zs_require_line, [], []⟩, ⟨("require_equal_sorts", none), "require_equal_sorts", "require_equal_sorts", defArgs zs_require_equal_sorts, defBody zs_require_equal_sorts, defScope zs_require_equal_sorts, [], []⟩, ⟨("Line", some "__add__"), "__add__", "Line.__add__", defArgs zs_Line___add__, defBody zs_Line___add__, defScope zs_Line___add__, [], []⟩, ⟨("require_order", none), "require_order", "require_order", defArgs zs_require_order, defBody zs_require_order, defScope zs_require_order, [], []⟩, ⟨("Style", some "shifted"), "shifted", "Style.shifted", defArgs zs_Style_shifted, defBody zs_Style_shifted, defScope zs_Style_shifted, [], []⟩, ⟨("Line", some "shifted"), "shifted", "Line.shifted", defArgs zs_Line_shifted, defBody zs_Line_shifted, defScope zs_Line_shifted, [], []⟩, ⟨("require_scale", none), "require_scale", "require_scale", defArgs zs_require_scale, defBody zs_require_scale, defScope zs_require_scale, [], []⟩, ⟨("taken", none), "taken", "taken", defArgs zs_taken, defBody zs_taken, defScope zs_taken, [], []⟩, ⟨("line_in", none), "line_in", "line_in", defArgs zs_line_in, defBody zs_line_in, defScope zs_line_in, [], []⟩, ⟨("scaled_in", none), "scaled_in", "scaled_in", defArgs zs_scaled_in, defBody zs_scaled_in, defScope zs_scaled_in, [], []⟩, ⟨("Style", some "scaled"), "scaled", "Style.scaled", defArgs zs_Style_scaled, defBody zs_Style_scaled, defScope zs_Style_scaled, [], []⟩, ⟨("Line", some "scaled"), "scaled", "Line.scaled", defArgs zs_Line_scaled, defBody zs_Line_scaled, defScope zs_Line_scaled, [], []⟩, ⟨("most_often", none), "most_often", "most_often", defArgs zs_most_often, defBody zs_most_often, defScope zs_most_often, [], []⟩, ⟨("leftovers", none), "leftovers", "leftovers", defArgs zs_leftovers, defBody zs_leftovers, defScope zs_leftovers, [], []⟩, ⟨("lean_in", none), "lean_in", "lean_in", defArgs zs_lean_in, defBody zs_lean_in, defScope zs_lean_in, [], []⟩, ⟨("Style", some "lean"), "lean", "Style.lean", defArgs zs_Style_lean, defBody zs_Style_lean, defScope zs_Style_lean, [], []⟩, ⟨("Line", some "lean"), "lean", "Line.lean", defArgs zs_Line_lean, defBody zs_Line_lean, defScope zs_Line_lean, [], []⟩, ⟨("require_sort", none), "require_sort", "require_sort", defArgs zs_require_sort, defBody zs_require_sort, defScope zs_require_sort, [], []⟩, ⟨("forgotten_in", none), "forgotten_in", "forgotten_in", defArgs zs_forgotten_in, defBody zs_forgotten_in, defScope zs_forgotten_in, [], []⟩, ⟨("Style", some "forgetting"), "forgetting", "Style.forgetting", defArgs zs_Style_forgetting, defBody zs_Style_forgetting, defScope zs_Style_forgetting, [], []⟩, ⟨("Line", some "forgetting"), "forgetting", "Line.forgetting", defArgs zs_Line_forgetting, defBody zs_Line_forgetting, defScope zs_Line_forgetting, [], []⟩, ⟨("_law_dice", none), "_law_dice", "_law_dice", defArgs zs__law_dice, defBody zs__law_dice, defScope zs__law_dice, [], []⟩, ⟨("_law_roll", none), "_law_roll", "_law_roll", defArgs zs__law_roll, defBody zs__law_roll, defScope zs__law_roll, [], []⟩, ⟨("_law_order", none), "_law_order", "_law_order", defArgs zs__law_order, defBody zs__law_order, defScope zs__law_order, [], []⟩, ⟨("_law_line", none), "_law_line", "_law_line", defArgs zs__law_line, defBody zs__law_line, defScope zs__law_line, [], []⟩, ⟨("_law_style", none), "_law_style", "_law_style", defArgs zs__law_style, defBody zs__law_style, defScope zs__law_style, [], []⟩, ⟨("_law_made_style", none), "_law_made_style", "_law_made_style", defArgs zs__law_made_style, defBody zs__law_made_style, defScope zs__law_made_style, [], []⟩, ⟨("_law_plus", none), "_law_plus", "_law_plus", defArgs zs__law_plus, defBody zs__law_plus, defScope zs__law_plus, [], []⟩, ⟨("_law_line_orders", none), "_law_line_orders", "_law_line_orders", defArgs zs__law_line_orders, defBody zs__law_line_orders, defScope zs__law_line_orders, [], []⟩, ⟨("_law_orders", none), "_law_orders", "_law_orders", defArgs zs__law_orders, defBody zs__law_orders, defScope zs__law_orders, [], []⟩, ⟨("_law_plain_style", none), "_law_plain_style", "_law_plain_style", defArgs zs__law_plain_style, defBody zs__law_plain_style, defScope zs__law_plain_style, [], []⟩, ⟨("_law_both_right", none), "_law_both_right", "_law_both_right", defArgs zs__law_both_right, defBody zs__law_both_right, defScope zs__law_both_right, [], []⟩, ⟨("_law_changed_right", none), "_law_changed_right", "_law_changed_right", defArgs zs__law_changed_right, defBody zs__law_changed_right, defScope zs__law_changed_right, [], []⟩, ⟨("_law_right", none), "_law_right", "_law_right", defArgs zs__law_right, defBody zs__law_right, defScope zs__law_right, [], []⟩, ⟨("law", none), "law", "law", defArgs zs_law, defBody zs_law, defScope zs_law, [], []⟩]
def fa : List He.Fa := [.cls "Line", .cls "Style", .glo "Line", .glo "Lines", .glo "Parts", .glo "Style", .int "MAX_BASE" 9, .int "MAX_LINES" 3, .int "MAX_PACKS" 3, .int "MAX_SCALE" 9, .int "MAX_SORTS" 3, .int "MOST_IN_PACK" 6, .int "MOST_LISTED" 12, .mkr "Line", .mkr "Lines", .mkr "Parts", .mkr "Style", .free "abs", .free "all", .free "bool", .free "enumerate", .free "int", .free "isinstance", .free "iter", .free "len", .free "list", .free "max", .free "min", .free "range", .free "set", .free "sorted", .free "tuple", .free "zip", .noat "Line" "own_base", .noat "Line" "own_packs", .noat "Style" "own_lines", .glo "is_integer", .glo "is_order", .glo "is_small", .glo "checked_lines", .meth "Line" "__init__", .glo "checked_styles", .glo "require_style", .glo "require_like_sorts", .glo "style_in", .meth "Style" "__or__", .glo "plus", .glo "line_in", .glo "sum_of_lines", .meth "Style" "__add__", .meth "Line" "__eq__", .meth "Style" "__len__", .meth "Style" "__iter__", .glo "line_orders", .glo "orders_up_to", .meth "Style" "orders", .meth "Style" "__getitem__", .glo "require_line", .glo "require_equal_sorts", .meth "Line" "__add__", .glo "require_order", .meth "Style" "shifted", .meth "Line" "shifted", .glo "require_scale", .glo "taken", .glo "scaled_in", .meth "Style" "scaled", .meth "Line" "scaled", .glo "most_often", .glo "leftovers", .glo "lean_in", .meth "Style" "lean", .meth "Line" "lean", .glo "require_sort", .glo "forgotten_in", .meth "Style" "forgetting", .meth "Line" "forgetting", .glo "_law_dice", .glo "_law_roll", .glo "_law_order", .glo "_law_line", .glo "_law_style", .glo "_law_made_style", .glo "_law_plus", .glo "_law_line_orders", .glo "_law_orders", .glo "_law_plain_style", .glo "_law_both_right", .glo "_law_changed_right", .glo "_law_right", .glo "law"]
def pr : List PrD := [⟨"Style", "lines", "Style.lines", zs_Style_lines⟩, ⟨"Line", "base", "Line.base", zs_Line_base⟩, ⟨"Line", "packs", "Line.packs", zs_Line_packs⟩]
def exB (i : Nat) (K : PySem.W.Frag) : Bool := match i with
  | 0 => PySem.W.fnIn K (He.ma K (He.ga K "Style") "__getitem__")
  | 1 => isiB K (He.ga K "Line")
  | 2 => isiB K (He.ga K "Lines")
  | 3 => isiB K (He.ga K "Parts")
  | 4 => isiB K (He.ga K "Style")
  | 5 => kitB K (.ref (He.ga K "Line")) (.ref (He.ga K "Line")) true
  | 6 => kitB K (.ref (He.ga K "Lines")) (.ref (He.ga K "Lines")) true
  | 7 => kitB K (.ref (He.ga K "Parts")) (.ref (He.ga K "Parts")) true
  | 8 => kitB K (.ref (He.ga K "Style")) (.ref (He.ga K "Style")) true
  | 9 => kitB K (.type "int") (.type "bool") false
  | 10 => kitB K (.type "tuple") (.ref (He.ga K "Lines")) false
  | 11 => kitB K (.type "tuple") (.ref (He.ga K "Parts")) false
  | 12 => necB K (He.ga K "Line")
  | 13 => sclsB K (He.ga K "Lines")
  | 14 => sclsB K (He.ga K "Parts")
  | 15 => PySem.W.selfFirst K (He.ga K "Line")
  | 16 => PySem.W.selfFirst K (He.ga K "Style")
  | 17 => slotB K (He.ga K "Lines") "own_lines" 0
  | 18 => slotB K (He.ga K "Parts") "own_base" 0
  | 19 => slotB K (He.ga K "Parts") "own_packs" 1
  | _ => true
def ex (K : PySem.W.Frag) : Bool := (List.range 20).all fun i => exB i K
def loose : List PySem.Str := (["_wall", "ClerkError", "InvalidOrder", "InvalidStyle", "InvalidOperation", "InvalidNumber", "MAX_SORTS", "is_integer", "is_order", "require_order", "require_equal_sorts", "plus", "taken", "MAX_PACKS", "MAX_BASE", "MAX_NUMBER", "MAX_SCALE", "MOST_IN_PACK", "Parts", "is_small"] : List PySem.Str) ++ (["checked", "checked_lines", "Line", "line_in", "require_line", "require_scale", "require_sort", "sum_in", "most_often", "leftovers", "numbers_for", "lean_in", "scaled_in", "forgotten_in", "sum_of_lines", "MAX_LINES", "MOST_LISTED", "Lines", "checked", "checked_styles"] : List PySem.Str) ++ (["Style", "is_same_line", "style_in", "require_style", "require_like_sorts", "place_of", "line_orders", "orders_up_to", "_law_dice", "_law_roll", "_law_order", "_law_plus", "_law_line", "_law_style", "_law_made_style", "_law_plain_style", "_law_line_orders", "_law_orders", "_law_both_right", "_law_changed_right"] : List PySem.Str) ++ (["_law_right"] : List PySem.Str)
abbrev R : PySem.W.OpenRow := PySem.W.OpenLaw.row PySem.Challenge.rw_clerkblurs_k09_whole_styles_put_together
abbrev hk : PySem.W.Hook := hookP 5 fa fn pr ex
def ob (s : PySem.W.SharedT) : AlP := obP 5 fa fn pr ex (HandSHeadRun.getT s)
theorem ob_eq (s : PySem.W.SharedT) : ob s = hk.obs s.abs := obP_eq (HandSHeadRun.getT_eq s)
theorem run (w : World) : HandSHeadRun.RunEq R (PySem.W.view R.prog [66]) hk ob 20000 loose w := by
  intro os
  kernel_rfl
end T09

/-! mir0: representations of the package's classes. -/
namespace MW
open PySem PySem.Spec PyProof.Rows L2 GB
abbrev ROrd : Rp (List Int) := RT (All RI)
/-- a base, packs -/
abbrev LineT := List Int × List (List Int)
abbrev FLine : Fl LineT := FCons "own_base" (RT (All RI)) (FOne "own_packs" (RT (All (RT (All RI)))))
abbrev R_Line : Rp LineT := RO "Line" FLine
abbrev SParts : Rs LineT := Cons (RT (All RI)) (One (RT (All (RT (All RI)))))
abbrev R_Parts : Rp LineT := RSl "Parts" SParts
theorem at_Line_own_base : FAt FLine "own_base" (RT (All RI)) (fun x => x.1) := fat_here
theorem at_Line_own_packs : FAt FLine "own_packs" (RT (All (RT (All RI)))) (fun x => x.2) := fat_next (by decide +kernel) fat_one
theorem no_Line {m : Str} (h1 : (m == ("own_base" : Str)) = false) (h2 : (m == ("own_packs" : Str)) = false) : FNo FLine m := fno_cons h1 (fno_one h2)
theorem no_Line_makes : FNo FLine "makes" := no_Line (by decide +kernel) (by decide +kernel)
/-- lines -/
abbrev StyleT := List LineT
abbrev FStyle : Fl StyleT := FOne "own_lines" (RT (All R_Line))
abbrev R_Style : Rp StyleT := RO "Style" FStyle
abbrev SLines : Rs StyleT := One (RT (All R_Line))
abbrev R_Lines : Rp StyleT := RSl "Lines" SLines
theorem at_Style_own_lines : FAt FStyle "own_lines" (RT (All R_Line)) (fun x => x) := fat_one
theorem no_Style {m : Str} (h1 : (m == ("own_lines" : Str)) = false) : FNo FStyle m := fno_one h1
end MW

set_option synthInstance.maxSize 100000
/-! mbA: mirrors of the package (orders, lines) and of what many laws share -/
namespace MW
open PySem PySem.Spec PyProof.Rows L2 GB
open GX (srtR leR)
def m_is_integer (x_value : Int) (x_least : Int) (x_most : (Option Int)) : W Bool :=
  W.ite (W.pure ((!true) || (false || (decide (x_value < x_least))))) ((W.pure false)) ((W.ite (W.pure (Option.isNone x_most)) (W.pure true) (W.bind (W.get x_most) fun y1 => (W.pure (decide (x_value ≤ y1))))))
def m_is_order (x_value : (List Int)) : W Bool :=
  W.ite (W.pure ((!true) || (!(decide ((1 : Int) ≤ (x_value.length : Int)) && decide ((x_value.length : Int) ≤ (3 : Int)))))) ((W.pure false)) ((W.bind (W.lc (fun (q1 : Int) => W.pure true) (fun (q1 : Int) => (m_is_integer q1 (0 : Int) none)) x_value) fun y1 => (W.pure (List.all y1 id))))
def m_require_order (x_value : (List Int)) : W Unit :=
  W.ite (W.bind (m_is_order x_value) fun y1 => (W.pure (!y1))) (W.stuck) (W.pure ())
def m_require_equal_sorts (x_one : (List Int)) (x_other : (List Int)) : W Unit :=
  W.ite (W.pure (!decide ((x_one.length : Int) = (x_other.length : Int)))) (W.stuck) (W.pure ())
def m_plus (x_one : (List Int)) (x_other : (List Int)) : W (List Int) :=
  (W.bind (W.grd (List.length (List.zip x_one x_other) < 1000000) (List.map (fun (q1 : (Int × Int)) => (q1.1 + q1.2)) (List.zip x_one x_other))) fun y1 => (W.pure y1))
def m_taken (x_order : (List Int)) (x_number : Int) : W (List Int) :=
  (W.bind (W.lc (fun (q1 : Int) => W.pure true) (fun (q1 : Int) => (W.grd (CMul q1 x_number) (q1 * x_number))) x_order) fun y1 => (W.pure y1))
def m_Parts (x_base : (List Int)) (x_packs : (List (List Int))) : W ((List Int) × (List (List Int))) :=
  W.pure (x_base, x_packs)
def m_is_small (x_value : (List Int)) (x_sorts : Int) (x_most : Int) : W Bool :=
  (W.ite (m_is_order x_value) (W.ite (W.pure (decide ((x_value.length : Int) = x_sorts))) (W.bind (W.grd (0 < x_value.length) (mxI x_value)) fun y1 => (W.pure (decide (y1 ≤ x_most)))) (W.pure false)) (W.pure false))
def m_checked (x_base : (List Int)) (x_packs : (List (List Int))) : W LineT :=
  W.ite (W.ite (W.bind (m_is_order x_base) fun y1 => (W.pure (!y1))) (W.pure true) (W.bind (W.grd (0 < x_base.length) (mxI x_base)) fun y2 => (W.pure (decide ((9 : Int) < y2))))) (W.stuck) (W.bind (W.grd (CDiv (6 : Int) (x_base.length : Int)) ((6 : Int) / (x_base.length : Int))) fun x_most => W.ite (W.pure ((!true) || (decide ((3 : Int) < (x_packs.length : Int))))) (W.stuck) (W.ite (W.bind (W.bind (W.lc (fun (q1 : (List Int)) => W.pure true) (fun (q1 : (List Int)) => (W.ite (m_is_small q1 (x_base.length : Int) x_most) (W.bind (W.grd (0 < q1.length) (mxI q1)) fun y3 => (W.pure (decide ((0 : Int) < y3)))) (W.pure false))) x_packs) fun y4 => (W.pure (List.all y4 id))) fun y5 => (W.pure (!y5))) (W.stuck) (W.ite (W.bind (W.bind (W.grd (List.length (List.zip x_packs (cut x_packs (some (1 : Int)) none)) < 1000000) (List.map (fun (q1 : ((List Int) × (List Int))) => (HT.lexLt q1.1 q1.2)) (List.zip x_packs (cut x_packs (some (1 : Int)) none)))) fun y6 => (W.pure (List.all y6 id))) fun y7 => (W.pure (!y7))) (W.stuck) ((m_Parts x_base x_packs)))))
def m_Line (x_base : (List Int)) (x_packs : (List (List Int))) : W ((List Int) × (List (List Int))) :=
  W.bind (m_checked x_base x_packs) fun x_held => W.bind (W.pure x_held.1) fun f_own_base => W.bind (W.pure x_held.2) fun f_own_packs => W.pure (f_own_base, f_own_packs)
def m_sum_in (x_line : LineT) (x_numbers : (List Int)) : W (List Int) :=
  W.bind (W.pure x_line.1) fun x_found => W.bind (W.pure (List.zip x_line.2 x_numbers)) fun l3 => W.bind (W.fold (fun (x_found : (List Int)) => fun (t2 : ((List Int) × Int)) => (fun x_pack x_number => W.bind (W.bind (m_taken x_pack x_number) fun y1 => (m_plus x_found y1)) fun x_found => W.pure x_found) t2.1 t2.2) l3 x_found) (fun (x_found : (List Int)) => (W.pure x_found))
def m_most_often (x_rest : (List Int)) (x_pack : (List Int)) : W Int :=
  (W.bind (W.lc (fun (q1 : (Int × Int)) => (W.pure (decide ((0 : Int) < q1.2)))) (fun (q1 : (Int × Int)) => (W.bind (W.get (atI x_rest q1.1)) fun y1 => (W.grd (CDiv y1 q1.2) (y1 / q1.2)))) (enm x_pack)) fun y2 => (W.grd (0 < y2.length) (mnI y2)))
def m_leftovers (x_rest : (List Int)) (x_packs : (List (List Int))) : W (List ((List Int) × (List Int))) :=
  W.bind (W.pure (dmerge [] [(x_rest, ([] : (List Int)))])) fun x_found => W.bind (W.pure x_packs) fun l8 => W.bind (W.fold (fun (x_found : (List ((List Int) × (List Int)))) => fun (x_pack : (List Int)) => W.bind (W.pure ([] : (List ((List Int) × (List Int))))) fun x_later => W.bind (W.pure x_found) fun l7 => W.bind (W.fold (fun (x_later : (List ((List Int) × (List Int)))) => fun (t6 : ((List Int) × (List Int))) => (fun x_row x_numbers => W.bind (W.bind (W.bind (m_most_often x_row x_pack) fun y1 => (W.pure (y1 + (1 : Int)))) fun y2 => (W.grd (-1000000 < y2 ∧ y2 < 1000000) (rng 0 y2))) fun l5 => W.bind (W.fold (fun (x_later : (List ((List Int) × (List Int)))) => fun (x_number : Int) => W.bind (W.bind (m_taken x_pack (-x_number)) fun y3 => (m_plus x_row y3)) fun x_left => W.ite (W.pure (!dhas x_later x_left)) (W.bind (W.bind (W.grd (List.length (x_numbers ++ (x_number :: [])) ≤ 1000000) (x_numbers ++ (x_number :: []))) fun y4 => (W.grd (x_later.length < 1000000) (dput x_later x_left y4))) fun x_later => W.pure x_later) (W.pure x_later)) l5 x_later) (fun (x_later : (List ((List Int) × (List Int)))) => W.pure x_later)) t6.1 t6.2) l7 x_later) (fun (x_later : (List ((List Int) × (List Int)))) => W.bind (W.pure x_later) fun x_found => W.pure x_found)) l8 x_found) (fun (x_found : (List ((List Int) × (List Int)))) => (W.pure x_found))
def m_numbers_for (x_line : LineT) (x_order : (List Int)) : W (Option (List Int)) :=
  W.bind (W.bind (m_taken x_line.1 (-(1 : Int))) fun y1 => (m_plus x_order y1)) fun x_rest => W.ite (W.bind (W.grd (0 < x_rest.length) (mnI x_rest)) fun y2 => (W.pure (decide (y2 < (0 : Int))))) ((W.pure none)) ((W.bind (m_leftovers x_rest x_line.2) fun y3 => (W.bind (W.grd ((1 ≤ (x_rest.length : Int) ∧ (x_rest.length : Int) ≤ 1000) ∧ 1 ≤ ([(0 : Int)] : (List Int)).length ∧ ([(0 : Int)] : (List Int)).length ≤ 1000) (List.replicate (x_rest.length : Int).toNat ([(0 : Int)] : (List Int))).flatten) fun y4 => (W.pure (dlook y3 y4)))))
def m_Line_makes (x_self : LineT) (x_order : (List Int)) : W (Option (List Int)) :=
  W.bind (m_require_order x_order) fun _ => W.bind (m_require_equal_sorts x_self.1 x_order) fun _ => (m_numbers_for x_self x_order)
def m_Line___call__ (x_self : LineT) (x_numbers : (List Int)) : W (List Int) :=
  W.ite (W.pure ((!true) || (!decide ((x_numbers.length : Int) = (x_self.2.length : Int))))) (W.stuck) (W.ite (W.bind (W.bind (W.lc (fun (q1 : Int) => W.pure true) (fun (q1 : Int) => (m_is_integer q1 (0 : Int) (some (99 : Int)))) x_numbers) fun y1 => (W.pure (List.all y1 id))) fun y2 => (W.pure (!y2))) (W.stuck) ((m_sum_in x_self x_numbers)))
def m_Line___contains__ (x_self : LineT) (x_value : (List Int)) : W Bool :=
  W.ite (W.bind (W.bind (m_is_order x_value) fun y1 => (W.pure (!y1))) fun y2 => (W.pure (y2 || (!decide ((x_value.length : Int) = (x_self.1.length : Int)))))) ((W.pure false)) ((W.bind (m_numbers_for x_self x_value) fun y3 => (W.pure (Option.isSome y3))))
def m__law_dice (x_script : (List Int)) (x_at : Int) : W (List Int) :=
  W.bind (W.bind (W.grd (CMul (67 : Int) x_at) ((67 : Int) * x_at)) fun y1 => (W.pure (y1 + (29 : Int)))) fun x_cell => W.bind (W.ite (W.pure (decide (x_at < (x_script.length : Int)))) (W.bind (W.get (atI x_script x_at)) fun x_cell => W.pure x_cell) (W.pure x_cell)) (fun (x_cell : Int) => W.bind (W.bind (W.bind (W.grd (0 ≤ (60 : Int) ∧ (Builtin.Int.intBits (10 : Int) : Int) * (60 : Int) ≤ 2 ^ 27) ((10 : Int) ^ ((60 : Int)).toNat)) fun y2 => (W.grd (0 ≤ (10 : Int) ∧ (Builtin.Int.intBits y2 : Int) * (10 : Int) ≤ 2 ^ 27) (y2 ^ ((10 : Int)).toNat))) fun y3 => (W.grd (0 < y3) ((if x_cell < 0 then -x_cell else x_cell) % y3))) fun x_great => W.bind (W.bind (W.grd (0 ≤ (18 : Int) ∧ (Builtin.Int.intBits (10 : Int) : Int) * (18 : Int) ≤ 2 ^ 27) ((10 : Int) ^ ((18 : Int)).toNat)) fun y4 => (W.grd (CDivW x_great y4) (x_great / y4))) fun x_left => W.bind (W.bind (W.bind (W.bind (W.bind (W.grd (0 < (2147483353 : Int)) (x_great % (2147483353 : Int))) fun y5 => (W.grd (CMul y5 (47237 : Int)) (y5 * (47237 : Int)))) fun y6 => (W.bind (W.grd (CMul (3571 : Int) x_at) ((3571 : Int) * x_at)) fun y7 => (W.pure (y6 + y7)))) fun y8 => (W.bind (W.grd (CMul (53 : Int) (if (decide (x_cell < (0 : Int))) = true then (1 : Int) else 0)) ((53 : Int) * (if (decide (x_cell < (0 : Int))) = true then (1 : Int) else 0))) fun y9 => (W.pure (y8 + y9)))) fun y10 => (W.pure (y10 + (71 : Int)))) fun x_mixed => (W.bind (W.grd (0 < (2147483323 : Int)) (x_mixed % (2147483323 : Int))) fun y11 => (W.pure [x_left, y11, (0 : Int)])))
def m__law_roll (x_dice : Addr) (x_total : Int) : W Int :=
  W.bind (W.pure x_total) fun x_number => W.ite (W.bind (W.any True fun (_ : Int) => True) fun y1 => (W.pure (decide ((0 : Int) < y1)))) (W.bind (W.bind (W.any True fun (_ : Int) => True) fun y2 => (W.grd (0 < x_number) (y2 % x_number))) fun x_drawn => W.bind (W.bind (W.any True fun (_ : Int) => True) fun y3 => (W.grd (CDiv y3 x_number) (y3 / x_number))) fun y4 => (W.pure x_drawn)) (W.bind (W.bind (W.any True fun (_ : Int) => True) fun y5 => (W.pure (y5 + (1 : Int)))) fun y6 => W.bind (W.bind (W.bind (W.any True fun (_ : Int) => True) fun y8 => (W.bind (W.bind (W.any True fun (_ : Int) => True) fun y7 => (W.grd (CMul (1000151 : Int) y7) ((1000151 : Int) * y7))) fun y9 => (W.pure (y8 + y9)))) fun y10 => (W.grd (0 < (2305843009213693951 : Int)) (y10 % (2305843009213693951 : Int)))) fun x_one => W.bind (W.bind (W.bind (W.bind (W.grd (CMul x_one x_one) (x_one * x_one)) fun y11 => (W.grd (0 < (2305843009213693921 : Int)) (y11 % (2305843009213693921 : Int)))) fun y12 => (W.grd (CMul y12 x_one) (y12 * x_one))) fun y14 => (W.bind (W.bind (W.any True fun (_ : Int) => True) fun y13 => (W.grd (CMul (8731 : Int) y13) ((8731 : Int) * y13))) fun y15 => (W.pure (y14 + y15)))) fun x_two => W.bind (W.grd (0 < (2305843009213693907 : Int)) (x_two % (2305843009213693907 : Int))) fun x_two => (W.bind (W.bind (W.grd (CDiv x_two (4096 : Int)) (x_two / (4096 : Int))) fun y16 => (W.grd (0 < x_number) (y16 % x_number))) fun y17 => (W.pure y17)))
def m__law_order (x_dice : Addr) (x_sorts : Int) (x_most : Int) : W (List Int) :=
  (W.bind (W.bind (W.grd (-1000000 < x_sorts ∧ x_sorts < 1000000) (rng 0 x_sorts)) fun y1 => (W.lc (fun (q1 : Int) => W.pure true) (fun (q1 : Int) => (m__law_roll x_dice (x_most + (1 : Int)))) y1)) fun y2 => (W.pure y2))
def m__law_plus (x_one : (List Int)) (x_other : (List Int)) : W (List Int) :=
  (W.bind (W.grd (List.length (List.zip x_one x_other) < 1000000) (List.map (fun (q1 : (Int × Int)) => (q1.1 + q1.2)) (List.zip x_one x_other))) fun y1 => (W.pure y1))
def m__law_often (x_row : (List Int)) (x_number : Int) : W (List Int) :=
  (W.bind (W.lc (fun (q1 : Int) => W.pure true) (fun (q1 : Int) => (W.grd (CMul x_number q1) (x_number * q1))) x_row) fun y1 => (W.pure y1))
def m__law_line (x_dice : Addr) (x_sorts : Int) (x_packs : Int) (x_most : Int) : W ((List Int) × (List (List Int))) :=
  W.bind (W.pure ([] : (List (List Int)))) fun x_found => W.bind (W.bind (m__law_roll x_dice (x_packs + (1 : Int))) fun y1 => (W.grd (-1000000 < y1 ∧ y1 < 1000000) (rng 0 y1))) fun l10 => W.bind (W.fold (fun (x_found : (List (List Int))) => fun (x_turn : Int) => W.bind (W.bind (W.grd (CDiv (6 : Int) x_sorts) ((6 : Int) / x_sorts)) fun y2 => (m__law_order x_dice x_sorts y2)) fun x_pack => W.bind (W.ite (W.bind (m__law_roll x_dice (3 : Int)) fun y3 => (W.pure (decide (y3 = (0 : Int))))) (W.bind (W.bind (m__law_roll x_dice x_sorts) fun y4 => (W.bind (W.get (ixN x_pack.length y4)) fun j => W.pure (x_pack.set j (0 : Int)))) fun x_pack => W.pure (x_found, x_pack)) (W.pure (x_found, x_pack))) (fun (s7 : ((List (List Int)) × (List Int))) => (fun x_found x_pack => W.ite (W.bind (W.bind (W.grd (0 < x_pack.length) (mxI x_pack)) fun y5 => (W.pure (decide ((0 : Int) < y5)))) fun y6 => (W.pure (y6 && (!memD x_pack x_found)))) (W.bind (W.grd (x_found.length < 1000000) (x_found ++ [x_pack])) fun x_found => W.pure x_found) (W.pure x_found)) s7.1 s7.2)) l10 x_found) (fun (x_found : (List (List Int))) => (W.bind (m__law_order x_dice x_sorts x_most) fun y8 => (W.bind (W.grd (x_found.length ≤ 1000000 ∧ ∀ r ∈ x_found, r ≠ []) (srtR x_found)) fun y9 => (W.pure (y8, y9)))))
def m__law_made_line (x_plain : ((List Int) × (List (List Int)))) : W LineT :=
  (m_Line x_plain.1 x_plain.2)
def m__law_sum (x_line : ((List Int) × (List (List Int)))) (x_numbers : (List Int)) : W (List Int) :=
  W.bind (W.pure x_line.1) fun x_found => W.bind (W.pure (List.zip x_line.2 x_numbers)) fun l3 => W.bind (W.fold (fun (x_found : (List Int)) => fun (t2 : ((List Int) × Int)) => (fun x_pack x_number => W.bind (W.bind (m__law_often x_pack x_number) fun y1 => (m__law_plus x_found y1)) fun x_found => W.pure x_found) t2.1 t2.2) l3 x_found) (fun (x_found : (List Int)) => (W.pure x_found))
def m__law_line_orders (x_line : ((List Int) × (List (List Int)))) (x_most : Int) : W (List (List Int)) :=
  W.bind (W.pure [x_line.1]) fun x_found => W.bind (W.pure (0 : Int)) fun x_at => W.bind (W.pure (dmerge [] [(x_line.1, true)])) fun x_known => W.bind (W.while_ (fun (s8 : ((List (List Int)) × Int × (List ((List Int) × Bool)))) => (fun x_found x_at x_known => (W.pure (decide (x_at < (x_found.length : Int))))) s8.1 s8.2.1 s8.2.2) (fun (s9 : ((List (List Int)) × Int × (List ((List Int) × Bool)))) => (fun x_found x_at x_known => W.bind (W.pure x_line.2) fun l3 => W.bind (W.fold (fun (s4 : ((List (List Int)) × (List ((List Int) × Bool)))) => (fun x_found x_known => fun (x_pack : (List Int)) => W.bind (W.bind (W.get (atI x_found x_at)) fun y1 => (m__law_plus y1 x_pack)) fun x_row => W.ite (W.ite (W.pure (!dhas x_known x_row)) (W.bind (W.grd (0 < x_row.length) (mxI x_row)) fun y2 => (W.pure (decide (y2 ≤ x_most)))) (W.pure false)) (W.bind (W.grd (x_known.length < 1000000) (dput x_known x_row true)) fun x_known => W.bind (W.grd (x_found.length < 1000000) (x_found ++ [x_row])) fun x_found => W.pure (x_found, x_known)) (W.pure (x_found, x_known))) s4.1 s4.2) l3 (x_found, x_known)) (fun (s5 : ((List (List Int)) × (List ((List Int) × Bool)))) => (fun x_found x_known => W.bind (W.pure (x_at + (1 : Int))) fun x_at => W.pure (x_found, x_at, x_known)) s5.1 s5.2)) s9.1 s9.2.1 s9.2.2) (x_found, x_at, x_known)) (fun (s10 : ((List (List Int)) × Int × (List ((List Int) × Bool)))) => (fun x_found x_at x_known => (W.bind (W.lc (fun (q1 : (List Int)) => (W.bind (W.grd (0 < q1.length) (mxI q1)) fun y6 => (W.pure (decide (y6 ≤ x_most))))) (fun (q1 : (List Int)) => (W.pure q1)) x_found) fun y7 => (W.grd (y7.length ≤ 1000000 ∧ ∀ r ∈ y7, r ≠ []) (srtR y7)))) s10.1 s10.2.1 s10.2.2)
end MW

set_option synthInstance.maxSize 100000
/-! mbB: mirrors -/
namespace MW
open PySem PySem.Spec PyProof.Rows L2 GB
open GX (srtR leR)
def m__law_one_of (x_dice : Addr) (x_items : (List (List Int))) : W (List Int) :=
  (W.bind (m__law_roll x_dice (x_items.length : Int)) fun y1 => (W.get (atI x_items y1)))
def m__law_line_has0 (x_packs : (List (List Int))) (x_rest : (List Int)) : W Bool :=
  W.ite (W.bind (W.grd (0 < x_rest.length) (mnI x_rest)) fun y1 => (W.pure (decide (y1 < (0 : Int))))) ((W.pure false)) (W.ite (W.bind (W.bind (W.grd (0 < x_rest.length) (mxI x_rest)) fun y2 => (W.pure (decide (y2 = (0 : Int))))) fun y3 => (W.pure (y3 || (decide (x_packs = ([] : (List (List Int)))))))) ((W.bind (W.grd (0 < x_rest.length) (mxI x_rest)) fun y4 => (W.pure (decide (y4 = (0 : Int)))))) (W.bind (W.bind (W.bind (W.bind (W.get (atI x_packs (0 : Int))) fun y5 => (W.pure (enm y5))) fun y7 => (W.lc (fun (q1 : (Int × Int)) => (W.pure (decide ((0 : Int) < q1.2)))) (fun (q1 : (Int × Int)) => (W.bind (W.get (atI x_rest q1.1)) fun y6 => (W.grd (CDiv y6 q1.2) (y6 / q1.2)))) y7)) fun y8 => (W.grd (0 < y8.length) (mnI y8))) fun x_number => W.ite (W.pure (decide ((x_packs.length : Int) = (1 : Int)))) ((W.bind (W.bind (W.get (atI x_packs (0 : Int))) fun y9 => (m__law_often y9 x_number)) fun y10 => (W.pure (decide (x_rest = y10))))) (W.bind (W.grd (-1000000 < (x_number + (1 : Int)) ∧ (x_number + (1 : Int)) < 1000000) (rng 0 (x_number + (1 : Int)))) fun l11 => W.bind (W.foldF (fun (_ : Unit) => fun (x_turn : Int) => W.ite W.stuck ((W.bind (W.pure true) fun z => W.pure (W.Fl.rt z))) (W.pure (W.Fl.nx ()))) l11 ()) (fun o12 => match o12 with | .inl r => W.pure r | .inr z => (fun (_ : Unit) => (W.pure false)) z))))
def m__law_line_has1 (x_packs : (List (List Int))) (x_rest : (List Int)) : W Bool :=
  W.ite (W.bind (W.grd (0 < x_rest.length) (mnI x_rest)) fun y1 => (W.pure (decide (y1 < (0 : Int))))) ((W.pure false)) (W.ite (W.bind (W.bind (W.grd (0 < x_rest.length) (mxI x_rest)) fun y2 => (W.pure (decide (y2 = (0 : Int))))) fun y3 => (W.pure (y3 || (decide (x_packs = ([] : (List (List Int)))))))) ((W.bind (W.grd (0 < x_rest.length) (mxI x_rest)) fun y4 => (W.pure (decide (y4 = (0 : Int)))))) (W.bind (W.bind (W.bind (W.bind (W.get (atI x_packs (0 : Int))) fun y5 => (W.pure (enm y5))) fun y7 => (W.lc (fun (q1 : (Int × Int)) => (W.pure (decide ((0 : Int) < q1.2)))) (fun (q1 : (Int × Int)) => (W.bind (W.get (atI x_rest q1.1)) fun y6 => (W.grd (CDiv y6 q1.2) (y6 / q1.2)))) y7)) fun y8 => (W.grd (0 < y8.length) (mnI y8))) fun x_number => W.ite (W.pure (decide ((x_packs.length : Int) = (1 : Int)))) ((W.bind (W.bind (W.get (atI x_packs (0 : Int))) fun y9 => (m__law_often y9 x_number)) fun y10 => (W.pure (decide (x_rest = y10))))) (W.bind (W.grd (-1000000 < (x_number + (1 : Int)) ∧ (x_number + (1 : Int)) < 1000000) (rng 0 (x_number + (1 : Int)))) fun l14 => W.bind (W.foldF (fun (_ : Unit) => fun (x_turn : Int) => W.ite (W.bind (W.bind (W.bind (W.get (atI x_packs (0 : Int))) fun y11 => (m__law_often y11 (-x_turn))) fun y12 => (m__law_plus x_rest y12)) fun y13 => (m__law_line_has0 (cut x_packs (some (1 : Int)) none) y13)) ((W.bind (W.pure true) fun z => W.pure (W.Fl.rt z))) (W.pure (W.Fl.nx ()))) l14 ()) (fun o15 => match o15 with | .inl r => W.pure r | .inr z => (fun (_ : Unit) => (W.pure false)) z))))
def m__law_line_has2 (x_packs : (List (List Int))) (x_rest : (List Int)) : W Bool :=
  W.ite (W.bind (W.grd (0 < x_rest.length) (mnI x_rest)) fun y1 => (W.pure (decide (y1 < (0 : Int))))) ((W.pure false)) (W.ite (W.bind (W.bind (W.grd (0 < x_rest.length) (mxI x_rest)) fun y2 => (W.pure (decide (y2 = (0 : Int))))) fun y3 => (W.pure (y3 || (decide (x_packs = ([] : (List (List Int)))))))) ((W.bind (W.grd (0 < x_rest.length) (mxI x_rest)) fun y4 => (W.pure (decide (y4 = (0 : Int)))))) (W.bind (W.bind (W.bind (W.bind (W.get (atI x_packs (0 : Int))) fun y5 => (W.pure (enm y5))) fun y7 => (W.lc (fun (q1 : (Int × Int)) => (W.pure (decide ((0 : Int) < q1.2)))) (fun (q1 : (Int × Int)) => (W.bind (W.get (atI x_rest q1.1)) fun y6 => (W.grd (CDiv y6 q1.2) (y6 / q1.2)))) y7)) fun y8 => (W.grd (0 < y8.length) (mnI y8))) fun x_number => W.ite (W.pure (decide ((x_packs.length : Int) = (1 : Int)))) ((W.bind (W.bind (W.get (atI x_packs (0 : Int))) fun y9 => (m__law_often y9 x_number)) fun y10 => (W.pure (decide (x_rest = y10))))) (W.bind (W.grd (-1000000 < (x_number + (1 : Int)) ∧ (x_number + (1 : Int)) < 1000000) (rng 0 (x_number + (1 : Int)))) fun l14 => W.bind (W.foldF (fun (_ : Unit) => fun (x_turn : Int) => W.ite (W.bind (W.bind (W.bind (W.get (atI x_packs (0 : Int))) fun y11 => (m__law_often y11 (-x_turn))) fun y12 => (m__law_plus x_rest y12)) fun y13 => (m__law_line_has1 (cut x_packs (some (1 : Int)) none) y13)) ((W.bind (W.pure true) fun z => W.pure (W.Fl.rt z))) (W.pure (W.Fl.nx ()))) l14 ()) (fun o15 => match o15 with | .inl r => W.pure r | .inr z => (fun (_ : Unit) => (W.pure false)) z))))
def m_LineP (x_base : LineT) : W ((List Int) × (List (List Int))) :=
  W.bind (W.pure x_base) fun x_held => W.bind (W.pure x_held.1) fun f_own_base => W.bind (W.pure x_held.2) fun f_own_packs => W.pure (f_own_base, f_own_packs)
def m_line_in (x_base : (List Int)) (x_packs : (List (List Int))) : W LineT :=
  (W.bind (W.bind (W.bind (W.bind (W.bind (W.lc (fun (q1 : (List Int)) => (W.bind (W.grd (0 < q1.length) (mxI q1)) fun y1 => (W.pure (decide ((0 : Int) < y1))))) (fun (q1 : (List Int)) => (W.pure q1)) x_packs) fun y2 => (W.grd (SetOk y2) y2)) fun y3 => (W.grd (SrtOk y3) (srtS y3))) fun y4 => (W.pure y4)) fun y5 => (m_Parts x_base y5)) fun y6 => (m_LineP y6))
def m_lean_in (x_line : LineT) : W LineT :=
  W.bind (W.pure ([] : (List (List Int)))) fun x_kept => W.bind (W.pure (enm x_line.2)) fun l4 => W.bind (W.fold (fun (x_kept : (List (List Int))) => fun (t3 : (Int × (List Int))) => (fun x_at x_pack => W.bind (W.grd ((cut x_line.2 none (some x_at)).length + (cut x_line.2 (some (x_at + (1 : Int))) none).length ≤ 1000000) ((cut x_line.2 none (some x_at)) ++ (cut x_line.2 (some (x_at + (1 : Int))) none))) fun x_others => W.ite (W.bind (W.grd ((1 ≤ (x_pack.length : Int) ∧ (x_pack.length : Int) ≤ 1000) ∧ 1 ≤ ([(0 : Int)] : (List Int)).length ∧ ([(0 : Int)] : (List Int)).length ≤ 1000) (List.replicate (x_pack.length : Int).toNat ([(0 : Int)] : (List Int))).flatten) fun y1 => (W.bind (m_leftovers x_pack x_others) fun y2 => (W.pure (!dhas y2 y1)))) (W.bind (W.grd (x_kept.length < 1000000) (x_kept ++ [x_pack])) fun x_kept => W.pure x_kept) (W.pure x_kept)) t3.1 t3.2) l4 x_kept) (fun (x_kept : (List (List Int))) => (m_line_in x_line.1 x_kept))
def m_Line_lean (x_self : LineT) : W LineT :=
  (m_lean_in x_self)
def m_Line_base (x_self : LineT) : W (List Int) :=
  (W.pure x_self.1)
def m_Line_packs (x_self : LineT) : W (List (List Int)) :=
  (W.pure x_self.2)
def m_Line___eq__ (x_self : LineT) (x_value : LineT) : W Bool :=
  (W.pure (true && ((decide (x_self.1 = x_value.1)) && (decide (x_self.2 = x_value.2)))))
end MW

set_option synthInstance.maxSize 100000
/-! mbC: mirrors -/
namespace MW
open PySem PySem.Spec PyProof.Rows L2 GB
open GX (srtR leR)
def m_require_line (x_value : LineT) : W Unit :=
  W.ite (W.pure (!true)) (W.stuck) (W.pure ())
def m_line_inT (x_base : (List Int)) (x_packs : (List (List Int))) : W LineT :=
  (W.bind (W.bind (W.bind (W.bind (W.bind (W.lc (fun (q1 : (List Int)) => (W.bind (W.grd (0 < q1.length) (mxI q1)) fun y1 => (W.pure (decide ((0 : Int) < y1))))) (fun (q1 : (List Int)) => (W.pure q1)) x_packs) fun y2 => (W.grd (SetOk y2) y2)) fun y3 => (W.grd (SrtOk y3) (srtS y3))) fun y4 => (W.pure y4)) fun y5 => (m_Parts x_base y5)) fun y6 => (m_LineP y6))
def m_sum_of_lines (x_one : LineT) (x_other : LineT) : W LineT :=
  (W.bind (m_plus x_one.1 x_other.1) fun y1 => (W.bind (W.grd (x_one.2.length + x_other.2.length ≤ 1000000) (x_one.2 ++ x_other.2)) fun y2 => (m_line_inT y1 y2)))
def m_Line___add__ (x_self : LineT) (x_other : LineT) : W LineT :=
  W.bind (m_require_line x_other) fun _ => W.bind (m_require_equal_sorts x_self.1 x_other.1) fun _ => (m_sum_of_lines x_self x_other)
def m__law_plain (x_line : LineT) : W ((List Int) × (List (List Int))) :=
  (W.bind (m_Line_base x_line) fun y2 => (W.bind (W.bind (m_Line_packs x_line) fun y1 => (W.pure y1)) fun y3 => (W.pure (y2, y3))))
def m_Line_shifted (x_self : LineT) (x_order : (List Int)) : W LineT :=
  W.bind (m_require_order x_order) fun _ => W.bind (m_require_equal_sorts x_self.1 x_order) fun _ => (W.bind (m_plus x_self.1 x_order) fun y1 => (m_line_inT y1 x_self.2))
def m_require_scale (x_number : Int) : W Unit :=
  W.ite (W.bind (m_is_integer x_number (1 : Int) (some (9 : Int))) fun y1 => (W.pure (!y1))) (W.stuck) (W.pure ())
def m_scaled_in (x_line : LineT) (x_number : Int) : W LineT :=
  (W.bind (m_taken x_line.1 x_number) fun y1 => (W.bind (W.lc (fun (q1 : (List Int)) => W.pure true) (fun (q1 : (List Int)) => (m_taken q1 x_number)) x_line.2) fun y2 => (m_line_in y1 y2)))
def m_Line_scaled (x_self : LineT) (x_number : Int) : W LineT :=
  W.bind (m_require_scale x_number) fun _ => (m_scaled_in x_self x_number)
def m_Line___len__ (x_self : LineT) : W Int :=
  (W.pure (x_self.2.length : Int))
def m_require_sort (x_sort : Int) (x_sorts : Int) : W Unit :=
  W.ite (W.bind (m_is_integer x_sort (0 : Int) (some (x_sorts - (1 : Int)))) fun y1 => (W.pure (!y1))) (W.stuck) (W.ite (W.pure (decide (x_sorts = (1 : Int)))) (W.stuck) (W.pure ()))
def m_forgotten_in (x_line : LineT) (x_sort : Int) : W LineT :=
  W.bind (W.grd ((cut x_line.1 none (some x_sort)).length + (cut x_line.1 (some (x_sort + (1 : Int))) none).length ≤ 1000000) ((cut x_line.1 none (some x_sort)) ++ (cut x_line.1 (some (x_sort + (1 : Int))) none))) fun x_base => (W.bind (W.lc (fun (q1 : (List Int)) => W.pure true) (fun (q1 : (List Int)) => (W.grd ((cut q1 none (some x_sort)).length + (cut q1 (some (x_sort + (1 : Int))) none).length ≤ 1000000) ((cut q1 none (some x_sort)) ++ (cut q1 (some (x_sort + (1 : Int))) none)))) x_line.2) fun y1 => (m_line_in x_base y1))
def m_Line_forgetting (x_self : LineT) (x_sort : Int) : W LineT :=
  W.bind (m_require_sort x_sort (x_self.1.length : Int)) fun _ => (m_forgotten_in x_self x_sort)
def m_Line_sorts (x_self : LineT) : W Int :=
  (W.pure (x_self.1.length : Int))
end MW

set_option synthInstance.maxSize 100000
/-! mbD: mirrors -/
namespace MW
open PySem PySem.Spec PyProof.Rows L2 GB
open GX (srtR leR)
def m_Lines (x_lines : (List LineT)) : W ((List LineT)) :=
  W.pure (x_lines)
def m_checked_styles (x_lines : (List LineT)) : W StyleT :=
  W.ite (W.pure ((!true) || (!(decide ((1 : Int) ≤ (x_lines.length : Int)) && decide ((x_lines.length : Int) ≤ (3 : Int)))))) (W.stuck) (W.ite (W.bind (W.bind (W.grd (List.length x_lines < 1000000) (List.map (fun (q1 : LineT) => true) x_lines)) fun y1 => (W.pure (List.all y1 id))) fun y2 => (W.pure (!y2))) (W.stuck) (W.ite (W.bind (W.bind (W.lc (fun (q1 : LineT) => W.pure true) (fun (q1 : LineT) => (W.bind (W.bind (W.bind (W.get (atI x_lines (0 : Int))) fun y3 => (W.pure y3.1)) fun y4 => (W.pure (y4.length : Int))) fun y5 => (W.pure (decide ((q1.1.length : Int) = y5))))) x_lines) fun y6 => (W.pure (List.all y6 id))) fun y7 => (W.pure (!y7))) (W.stuck) ((m_Lines x_lines))))
def m_Style (x_lines : (List LineT)) : W ((List LineT)) :=
  W.bind (m_checked_styles x_lines) fun x_held => W.bind (W.pure x_held) fun f_own_lines => W.pure (f_own_lines)
def m_place_of (x_style : StyleT) (x_order : (List Int)) : W (Option (Int × (List Int))) :=
  W.bind (W.pure (enm x_style)) fun l4 => W.bind (W.foldF (fun (_ : Unit) => fun (t3 : (Int × LineT)) => (fun x_at x_line => W.bind (m_numbers_for x_line x_order) fun x_numbers => W.ite (W.pure (Option.isSome x_numbers)) ((W.bind (W.bind (W.bind (W.get x_numbers) fun y1 => (W.pure (x_at, y1))) fun y2 => (W.pure (some y2))) fun z => W.pure (W.Fl.rt z))) (W.pure (W.Fl.nx ()))) t3.1 t3.2) l4 ()) (fun o5 => match o5 with | .inl r => W.pure r | .inr z => (fun (_ : Unit) => (W.pure none)) z)
def m_Style_makes (x_self : StyleT) (x_order : (List Int)) : W (Option (Int × (List Int))) :=
  W.bind (m_require_order x_order) fun _ => W.bind (W.bind (W.bind (W.get (atI x_self (0 : Int))) fun y1 => (W.pure y1.1)) fun y2 => (m_require_equal_sorts y2 x_order)) fun _ => (m_place_of x_self x_order)
def m_Style___getitem__ (x_self : StyleT) (x_at : Int) : W LineT :=
  W.ite (W.bind (m_is_integer x_at (0 : Int) (some ((x_self.length : Int) - (1 : Int)))) fun y1 => (W.pure (!y1))) (W.stuck) ((W.get (atI x_self x_at)))
def m_Style___contains__ (x_self : StyleT) (x_value : (List Int)) : W Bool :=
  W.ite (W.ite (W.bind (m_is_order x_value) fun y1 => (W.pure (!y1))) (W.pure true) (W.bind (W.bind (W.bind (W.get (atI x_self (0 : Int))) fun y2 => (W.pure y2.1)) fun y3 => (W.pure (y3.length : Int))) fun y4 => (W.pure (!decide ((x_value.length : Int) = y4))))) ((W.pure false)) ((W.bind (m_place_of x_self x_value) fun y5 => (W.pure (Option.isSome y5))))
def m__law_style (x_dice : Addr) (x_sorts : Int) (x_lines : Int) (x_packs : Int) (x_most : Int) : W (List ((List Int) × (List (List Int)))) :=
  (W.bind (W.bind (W.bind (m__law_roll x_dice x_lines) fun y1 => (W.pure ((1 : Int) + y1))) fun y2 => (W.grd (-1000000 < y2 ∧ y2 < 1000000) (rng 0 y2))) fun y3 => (W.lc (fun (q1 : Int) => W.pure true) (fun (q1 : Int) => (m__law_line x_dice x_sorts x_packs x_most)) y3))
def m__law_made_style (x_plain : (List ((List Int) × (List (List Int))))) : W StyleT :=
  (W.bind (W.bind (W.lc (fun (q1 : ((List Int) × (List (List Int)))) => W.pure true) (fun (q1 : ((List Int) × (List (List Int)))) => (m_Line q1.1 q1.2)) x_plain) fun y1 => (W.pure y1)) fun y2 => (m_Style y2))
def m__law_orders (x_plain : (List ((List Int) × (List (List Int))))) (x_most : Int) : W (List (List Int)) :=
  W.bind (W.pure ([] : (List (List Int)))) fun x_found => W.bind (W.pure x_plain) fun l3 => W.bind (W.fold (fun (x_found : (List (List Int))) => fun (x_line : ((List Int) × (List (List Int)))) => W.bind (W.bind (m__law_line_orders x_line x_most) fun y1 => (W.grd (x_found.length + y1.length ≤ 1000000) (x_found ++ y1))) fun x_found => W.pure x_found) l3 x_found) (fun (x_found : (List (List Int))) => (W.bind (W.grd (SetOk x_found) x_found) fun y2 => (W.grd (SrtOk y2) (srtS y2))))
def m__law_sumL (x_line : ((List Int) × (List (List Int)))) (x_numbers : (List Int)) : W (List Int) :=
  W.bind (W.pure x_line.1) fun x_found => W.bind (W.pure (List.zip x_line.2 x_numbers)) fun l3 => W.bind (W.fold (fun (x_found : (List Int)) => fun (t2 : ((List Int) × Int)) => (fun x_pack x_number => W.bind (W.bind (m__law_often x_pack x_number) fun y1 => (m__law_plus x_found y1)) fun x_found => W.pure x_found) t2.1 t2.2) l3 x_found) (fun (x_found : (List Int)) => (W.pure x_found))
end MW

set_option synthInstance.maxSize 100000
/-! m09: mirrors -/
namespace T09
open PySem PySem.Spec PyProof.Rows L2 GB MW
open GX (srtR leR)
def m_require_style (x_value : StyleT) : W Unit :=
  W.ite (W.pure (!true)) (W.stuck) (W.pure ())
def m_require_like_sorts (x_one : StyleT) (x_other : StyleT) : W Unit :=
  W.ite (W.bind (W.bind (W.bind (W.get (atI x_one (0 : Int))) fun y1 => (W.pure y1.1)) fun y2 => (W.pure (y2.length : Int))) fun y5 => (W.bind (W.bind (W.bind (W.get (atI x_other (0 : Int))) fun y3 => (W.pure y3.1)) fun y4 => (W.pure (y4.length : Int))) fun y6 => (W.pure (!decide (y5 = y6))))) (W.stuck) (W.pure ())
def m_StyleP (x_lines : StyleT) : W ((List LineT)) :=
  W.bind (W.pure x_lines) fun x_held => W.bind (W.pure x_held) fun f_own_lines => W.pure (f_own_lines)
def m_style_inT (x_lines : (List LineT)) : W StyleT :=
  (W.bind (m_Lines x_lines) fun y1 => (m_StyleP y1))
def m_Style___or__ (x_self : StyleT) (x_other : StyleT) : W StyleT :=
  W.bind (m_require_style x_other) fun _ => W.bind (m_require_like_sorts x_self x_other) fun _ => (W.bind (W.grd (x_self.length + x_other.length ≤ 1000000) (x_self ++ x_other)) fun y1 => (m_style_inT y1))
def m_style_in (x_lines : (List LineT)) : W StyleT :=
  (W.bind (m_Lines x_lines) fun y1 => (m_StyleP y1))
def m_Style___add__ (x_self : StyleT) (x_other : StyleT) : W StyleT :=
  W.bind (m_require_style x_other) fun _ => W.bind (m_require_like_sorts x_self x_other) fun _ => (W.bind (W.lcT (fun (q1 : LineT) => (W.pure x_other)) (fun (q1 : LineT) (q1i : LineT) => W.pure true) (fun (q1 : LineT) (q1i : LineT) => (m_sum_of_lines q1 q1i)) x_self) fun y1 => (m_style_in y1))
def m_Style_lines (x_self : StyleT) : W (List LineT) :=
  (W.pure x_self)
def m_Style___len__ (x_self : StyleT) : W Int :=
  (W.pure (x_self.length : Int))
def m_Style___iter__ : Unit := ()
def m__law_plain_style (x_style : StyleT) : W (List ((List Int) × (List (List Int)))) :=
  (W.lc (fun (q1 : LineT) => W.pure true) (fun (q1 : LineT) => (W.bind (m_Line_base q1) fun y2 => (W.bind (W.bind (m_Line_packs q1) fun y1 => (W.pure y1)) fun y3 => (W.pure (y2, y3))))) x_style)
def m_line_orders (x_line : LineT) (x_most : Int) : W (List ((List Int) × Bool)) :=
  W.ite (W.bind (W.grd (0 < x_line.1.length) (mxI x_line.1)) fun y1 => (W.pure (decide (x_most < y1)))) ((W.pure [])) (W.bind (W.pure [x_line.1]) fun x_found => W.bind (W.pure (dmerge [] [(x_line.1, true)])) fun x_known => W.bind (W.pure (0 : Int)) fun x_at => W.bind (W.while_ (fun (s7 : ((List (List Int)) × (List ((List Int) × Bool)) × Int)) => (fun x_found x_known x_at => (W.pure (decide (x_at < (x_found.length : Int))))) s7.1 s7.2.1 s7.2.2) (fun (s8 : ((List (List Int)) × (List ((List Int) × Bool)) × Int)) => (fun x_found x_known x_at => W.bind (W.pure x_line.2) fun l4 => W.bind (W.fold (fun (s5 : ((List (List Int)) × (List ((List Int) × Bool)))) => (fun x_found x_known => fun (x_pack : (List Int)) => W.bind (W.bind (W.get (atI x_found x_at)) fun y2 => (m_plus y2 x_pack)) fun x_order => W.ite (W.ite (W.pure (!dhas x_known x_order)) (W.bind (W.grd (0 < x_order.length) (mxI x_order)) fun y3 => (W.pure (decide (y3 ≤ x_most)))) (W.pure false)) (W.bind (W.grd (x_known.length < 1000000) (dput x_known x_order true)) fun x_known => W.bind (W.grd (x_found.length < 1000000) (x_found ++ [x_order])) fun x_found => W.pure (x_found, x_known)) (W.pure (x_found, x_known))) s5.1 s5.2) l4 (x_found, x_known)) (fun (s6 : ((List (List Int)) × (List ((List Int) × Bool)))) => (fun x_found x_known => W.bind (W.pure (x_at + (1 : Int))) fun x_at => W.pure (x_found, x_known, x_at)) s6.1 s6.2)) s8.1 s8.2.1 s8.2.2) (x_found, x_known, x_at)) (fun (s9 : ((List (List Int)) × (List ((List Int) × Bool)) × Int)) => (fun x_found x_known x_at => W.pure x_known) s9.1 s9.2.1 s9.2.2))
def m_orders_up_to (x_style : StyleT) (x_most : Int) : W (List (List Int)) :=
  (W.bind (W.bind (W.lcT (fun (q1 : LineT) => (W.bind (m_line_orders q1 x_most) fun y1 => (W.pure (List.map Prod.fst y1)))) (fun (q1 : LineT) (q1i : (List Int)) => W.pure true) (fun (q1 : LineT) (q1i : (List Int)) => (W.pure q1i)) x_style) fun y2 => (W.grd (SetOk y2) y2)) fun y3 => (W.grd (SrtOk y3) (srtS y3)))
def m_Style_orders (x_self : StyleT) (x_most : Int) : W (List (List Int)) :=
  W.ite (W.bind (m_is_integer x_most (0 : Int) (some (12 : Int))) fun y1 => (W.pure (!y1))) (W.stuck) (W.bind (m_orders_up_to x_self x_most) fun l => W.grd (l.length < 1000000) l)
def m__law_both_right (x_one : (List ((List Int) × (List (List Int))))) (x_other : (List ((List Int) × (List (List Int))))) (x_most : Int) : W Bool :=
  W.bind (W.bind (m__law_made_style x_one) fun y2 => (W.bind (m__law_made_style x_other) fun y3 => (W.pure (y2, y3)))) fun p1 => (fun x_left x_right => W.bind (W.bind (m_Style___or__ x_left x_right) fun y5 => (W.bind (m_Style___add__ x_left x_right) fun y6 => (W.pure (y5, y6)))) fun p4 => (fun x_either x_both => W.bind (W.bind (m__law_orders x_one x_most) fun y7 => (W.bind (m__law_orders x_other x_most) fun y8 => (W.pure ([y7, y8] : (List (List (List Int))))))) fun x_there => W.ite (W.ite (W.bind (W.bind (m_Style_lines x_either) fun y9 => (W.pure y9)) fun y14 => (W.bind (W.bind (W.bind (m_Style_lines x_left) fun y10 => (W.pure y10)) fun y12 => (W.bind (W.bind (m_Style_lines x_right) fun y11 => (W.pure y11)) fun y13 => (W.grd (y12.length + y13.length ≤ 1000000) (y12 ++ y13)))) fun y15 => (sameW (fun p => m_Line___eq__ p.1 p.2) false y14 y15))) (W.pure true) (W.bind (W.bind (m_Style___len__ x_both) fun n => W.grd (0 ≤ n ∧ n < 2 ^ 63) n) fun y16 => (W.bind (W.grd (CMul (x_one.length : Int) (x_other.length : Int)) ((x_one.length : Int) * (x_other.length : Int))) fun y17 => (W.pure (!decide (y16 = y17)))))) ((W.pure false)) (W.ite (W.bind (W.bind (m__law_plain_style x_either) fun y18 => (m__law_orders y18 x_most)) fun y23 => (W.bind (W.bind (W.bind (W.bind (W.get (atI x_there (0 : Int))) fun y19 => (W.bind (W.get (atI x_there (1 : Int))) fun y20 => (W.grd (y19.length + y20.length ≤ 1000000) (y19 ++ y20)))) fun y21 => (W.grd (SetOk y21) y21)) fun y22 => (W.grd (SrtOk y22) (srtS y22))) fun y24 => (W.pure (!decide (y23 = y24))))) ((W.pure false)) (W.bind (W.pure ([] : (List (List Int)))) fun x_due => W.bind (W.get (atI x_there (0 : Int))) fun l42 => W.bind (W.fold (fun (x_due : (List (List Int))) => fun (x_row : (List Int)) => W.bind (W.bind (W.bind (W.get (atI x_there (1 : Int))) fun y25 => (W.lc (fun (q1 : (List Int)) => W.pure true) (fun (q1 : (List Int)) => (m__law_plus x_row q1)) y25)) fun y26 => (W.grd (x_due.length + y26.length ≤ 1000000) (x_due ++ y26))) fun x_due => W.pure x_due) l42 x_due) (fun (x_due : (List (List Int))) => W.bind (W.bind (W.bind (W.lc (fun (q1 : (List Int)) => (W.bind (W.grd (0 < q1.length) (mxI q1)) fun y27 => (W.pure (decide (y27 ≤ x_most))))) (fun (q1 : (List Int)) => (W.pure q1)) x_due) fun y28 => (W.grd (SetOk y28) y28)) fun y29 => (W.grd (SrtOk y29) (srtS y29))) fun x_due => W.ite (W.ite (W.bind (W.bind (m__law_plain_style x_both) fun y30 => (m__law_orders y30 x_most)) fun y31 => (W.pure (!decide (y31 = x_due)))) (W.pure true) (W.bind (W.nx (m_Style_orders x_both x_most)) fun y32 => (W.pure (!decide (y32 = x_due))))) ((W.pure false)) (W.bind (W.pure (x_other.length : Int)) fun x_total => W.bind (W.bind (W.bind (m_Style___len__ x_both) fun n => W.grd (0 ≤ n ∧ n < 2 ^ 63) n) fun y33 => (W.grd (-1000000 < y33 ∧ y33 < 1000000) (rng 0 y33))) fun l40 => W.bind (W.foldF (fun (_ : Unit) => fun (x_at : Int) => W.ite (W.bind (m_Style___getitem__ x_both x_at) fun y38 => (W.bind (W.bind (W.bind (W.grd (CDiv x_at x_total) (x_at / x_total)) fun y34 => (m_Style___getitem__ x_left y34)) fun y36 => (W.bind (W.bind (W.grd (0 < x_total) (x_at % x_total)) fun y35 => (m_Style___getitem__ x_right y35)) fun y37 => (m_Line___add__ y36 y37))) fun y39 => (W.bind (m_Line___eq__ y38 y39) fun z => W.pure (!z)))) ((W.bind (W.pure false) fun z => W.pure (W.Fl.rt z))) (W.pure (W.Fl.nx ()))) l40 ()) (fun o41 => match o41 with | .inl r => W.pure r | .inr z => (fun (_ : Unit) => (W.pure true)) z)))))) p4.1 p4.2) p1.1 p1.2
def m_Style_shifted (x_self : StyleT) (x_order : (List Int)) : W StyleT :=
  W.bind (m_require_order x_order) fun _ => W.bind (W.bind (W.bind (W.get (atI x_self (0 : Int))) fun y1 => (W.pure y1.1)) fun y2 => (m_require_equal_sorts y2 x_order)) fun _ => (W.bind (W.lc (fun (q1 : LineT) => W.pure true) (fun (q1 : LineT) => (W.bind (m_plus q1.1 x_order) fun y3 => (m_line_inT y3 q1.2))) x_self) fun y4 => (m_style_in y4))
def m_Style_scaled (x_self : StyleT) (x_number : Int) : W StyleT :=
  W.bind (m_require_scale x_number) fun _ => (W.bind (W.lc (fun (q1 : LineT) => W.pure true) (fun (q1 : LineT) => (m_scaled_in q1 x_number)) x_self) fun y1 => (m_style_in y1))
def m_Style_lean (x_self : StyleT) : W StyleT :=
  (W.bind (W.lc (fun (q1 : LineT) => W.pure true) (fun (q1 : LineT) => (m_lean_in q1)) x_self) fun y1 => (m_style_in y1))
def m_Style_forgetting (x_self : StyleT) (x_sort : Int) : W StyleT :=
  W.bind (W.bind (W.bind (W.bind (W.get (atI x_self (0 : Int))) fun y1 => (W.pure y1.1)) fun y2 => (W.pure (y2.length : Int))) fun y3 => (m_require_sort x_sort y3)) fun _ => (W.bind (W.lc (fun (q1 : LineT) => W.pure true) (fun (q1 : LineT) => (m_forgotten_in q1 x_sort)) x_self) fun y4 => (m_style_in y4))
def m__law_changed_right (x_dice : Addr) (x_plain : (List ((List Int) × (List (List Int))))) : W Bool :=
  W.bind (W.bind (m__law_made_style x_plain) fun y4 => (W.bind (W.bind (W.bind (W.get (atI x_plain (0 : Int))) fun y1 => (W.pure y1.1)) fun y2 => (W.pure (y2.length : Int))) fun y5 => (W.pure (y4, y5)))) fun p3 => (fun x_made x_sorts => W.bind (W.bind (m__law_order x_dice x_sorts (6 : Int)) fun y7 => (W.bind (W.bind (m__law_roll x_dice (9 : Int)) fun y6 => (W.pure ((1 : Int) + y6))) fun y8 => (W.pure (y7, y8)))) fun p9 => (fun x_row x_number => W.ite (W.bind (W.bind (W.bind (m_Style_shifted x_made x_row) fun y10 => (m_Style_lines y10)) fun y11 => (W.pure y11)) fun y13 => (W.bind (W.bind (m_Style_lines x_made) fun y12 => (W.lc (fun (q1 : LineT) => W.pure true) (fun (q1 : LineT) => (m_Line_shifted q1 x_row)) y12)) fun y14 => (sameW (fun p => m_Line___eq__ p.1 p.2) false y13 y14))) ((W.pure false)) (W.ite (W.bind (W.bind (W.bind (m_Style_scaled x_made x_number) fun y15 => (m_Style_lines y15)) fun y16 => (W.pure y16)) fun y18 => (W.bind (W.bind (m_Style_lines x_made) fun y17 => (W.lc (fun (q1 : LineT) => W.pure true) (fun (q1 : LineT) => (m_Line_scaled q1 x_number)) y17)) fun y19 => (sameW (fun p => m_Line___eq__ p.1 p.2) false y18 y19))) ((W.pure false)) (W.ite (W.bind (W.bind (W.bind (m_Style_lean x_made) fun y20 => (m_Style_lines y20)) fun y21 => (W.pure y21)) fun y23 => (W.bind (W.bind (m_Style_lines x_made) fun y22 => (W.lc (fun (q1 : LineT) => W.pure true) (fun (q1 : LineT) => (m_Line_lean q1)) y22)) fun y24 => (sameW (fun p => m_Line___eq__ p.1 p.2) false y23 y24))) ((W.pure false)) (W.bind (m__law_roll x_dice x_sorts) fun x_sort => W.ite (W.pure (decide ((1 : Int) < x_sorts))) (W.ite (W.bind (W.bind (W.bind (m_Style_forgetting x_made x_sort) fun y25 => (m_Style_lines y25)) fun y26 => (W.pure y26)) fun y28 => (W.bind (W.bind (m_Style_lines x_made) fun y27 => (W.lc (fun (q1 : LineT) => W.pure true) (fun (q1 : LineT) => (m_Line_forgetting q1 x_sort)) y27)) fun y29 => (sameW (fun p => m_Line___eq__ p.1 p.2) false y28 y29))) ((W.pure false)) (W.bind (W.get (atI ([(12 : Int), (6 : Int), (3 : Int)] : (List Int)) (x_sorts - (1 : Int)))) fun x_most => (W.bind (W.bind (W.bind (m_Style_lean x_made) fun y30 => (m__law_plain_style y30)) fun y31 => (m__law_orders y31 x_most)) fun y32 => (W.bind (m__law_orders x_plain x_most) fun y33 => (W.pure (decide (y32 = y33))))))) (W.bind (W.get (atI ([(12 : Int), (6 : Int), (3 : Int)] : (List Int)) (x_sorts - (1 : Int)))) fun x_most => (W.bind (W.bind (W.bind (m_Style_lean x_made) fun y34 => (m__law_plain_style y34)) fun y35 => (m__law_orders y35 x_most)) fun y36 => (W.bind (m__law_orders x_plain x_most) fun y37 => (W.pure (decide (y36 = y37)))))))))) p9.1 p9.2) p3.1 p3.2
def m__law_right (x_dice : Addr) : W Bool :=
  W.bind (W.bind (m__law_roll x_dice (3 : Int)) fun y1 => (W.pure ((1 : Int) + y1))) fun x_sorts => W.bind (W.bind (W.grd (-1000000 < (3 : Int) ∧ (3 : Int) < 1000000) (rng 0 (3 : Int))) fun y2 => (W.lc (fun (q1 : Int) => W.pure true) (fun (q1 : Int) => (m__law_style x_dice x_sorts (2 : Int) (2 : Int) (3 : Int))) y2)) fun x_rows => W.bind (W.get (atI ([(10 : Int), (5 : Int), (3 : Int)] : (List Int)) (x_sorts - (1 : Int)))) fun x_most => W.ite (W.ite (W.bind (W.bind (W.get (atI x_rows (0 : Int))) fun y3 => (W.bind (W.get (atI x_rows (1 : Int))) fun y4 => (m__law_both_right y3 y4 x_most))) fun y5 => (W.pure (!y5))) (W.pure true) (W.bind (W.bind (W.get (atI x_rows (0 : Int))) fun y6 => (m__law_changed_right x_dice y6)) fun y7 => (W.pure (!y7)))) ((W.pure false)) (W.bind (W.bind (W.lc (fun (q1 : (List ((List Int) × (List (List Int))))) => W.pure true) (fun (q1 : (List ((List Int) × (List (List Int))))) => (m__law_made_style q1)) x_rows) fun y8 => (W.un3 y8)) fun p9 => (fun x_one x_two x_three => W.bind (W.bind (W.bind (W.bind (m_Style___or__ x_one x_two) fun y10 => (m_Style___add__ y10 x_three)) fun y11 => (m__law_plain_style y11)) fun y12 => (m__law_orders y12 x_most)) fun x_left => (W.bind (W.bind (W.bind (W.bind (m_Style___add__ x_one x_three) fun y13 => (W.bind (m_Style___add__ x_two x_three) fun y14 => (m_Style___or__ y13 y14))) fun y15 => (m__law_plain_style y15)) fun y16 => (m__law_orders y16 x_most)) fun y17 => (W.pure (decide (x_left = y17))))) p9.1 p9.2.1 p9.2.2)
def m_law (x_script : (List Int)) : W Bool :=
  W.bind (W.grd (-1000000 < (max (1 : Int) (min (6 : Int) (x_script.length : Int))) ∧ (max (1 : Int) (min (6 : Int) (x_script.length : Int))) < 1000000) (rng 0 (max (1 : Int) (min (6 : Int) (x_script.length : Int))))) fun l20 => W.bind (W.foldF (fun (_ : Unit) => fun (x_at : Int) => W.bind (m__law_dice x_script x_at) fun z3 => W.bind (W.any (List.length z3 = 3) fun (_ : Addr) => True) fun x_dice => W.ite (W.ite (W.bind (m__law_right x_dice) fun y1 => (W.pure (!y1))) (W.pure true) (W.bind (m__law_right x_dice) fun y2 => (W.pure (!y2)))) ((W.bind (W.pure false) fun z => W.pure (W.Fl.rt z))) (W.pure (W.Fl.nx ()))) l20 ()) (fun o21 => match o21 with | .inl r => W.pure r | .inr z => (fun (_ : Unit) => W.bind (W.bind (W.bind (W.bind (m_Line ([(0 : Int)] : (List Int)) ([([(2 : Int)] : (List Int))] : (List (List Int)))) fun y4 => (W.pure ([y4] : (List LineT)))) fun y5 => (m_Style y5)) fun y9 => (W.bind (W.bind (W.bind (m_Line ([(1 : Int)] : (List Int)) ([([(2 : Int)] : (List Int))] : (List (List Int)))) fun y6 => (W.pure ([y6] : (List LineT)))) fun y7 => (m_Style y7)) fun y10 => (W.pure (y9, y10)))) fun p8 => (fun x_even x_odd => W.bind (W.bind (W.bind (m_Style___add__ x_even x_odd) fun y11 => (W.nx (m_Style_orders y11 (5 : Int)))) fun y17 => (W.bind (W.bind (m_Style___or__ x_even x_odd) fun y12 => (W.nx (m_Style_orders y12 (3 : Int)))) fun y18 => (W.bind (W.bind (W.bind (m_Style___add__ x_odd x_odd) fun y13 => (m_Style_lines y13)) fun y15 => (W.bind (W.bind (m_Line ([(2 : Int)] : (List Int)) ([([(2 : Int)] : (List Int))] : (List (List Int)))) fun y14 => (W.pure ([y14] : (List LineT)))) fun y16 => (sameW (fun p => m_Line___eq__ p.1 p.2) true y15 y16))) fun y19 => (W.pure (y17, y18, y19))))) fun x_told => (W.pure (decide (x_told = (([([(1 : Int)] : (List Int)), ([(3 : Int)] : (List Int)), ([(5 : Int)] : (List Int))] : (List (List Int))), ([([(0 : Int)] : (List Int)), ([(1 : Int)] : (List Int)), ([(2 : Int)] : (List Int)), ([(3 : Int)] : (List Int))] : (List (List Int))), true))))) p8.1 p8.2) z)
end T09

set_option synthInstance.maxSize 100000
namespace T09
open PySem PySem.Spec PyProof.Rows L2 GB MW
open GX (srtR leR)
structure Txt (N : En) : Prop where
  c_Line : Cls N.K (N.ga "Line")
  c_Style : Cls N.K (N.ga "Style")
  fg_Style : PySem.W.fnIn N.K (He.ma N.K (N.ga "Style") "__getitem__") = true
  g_Line : N.mg "Line" = some (.ref (N.ga "Line"))
  g_Lines : N.mg "Lines" = some (.ref (N.ga "Lines"))
  g_Parts : N.mg "Parts" = some (.ref (N.ga "Parts"))
  g_Style : N.mg "Style" = some (.ref (N.ga "Style"))
  i_MAX_BASE : IntG N "MAX_BASE" 9
  i_MAX_LINES : IntG N "MAX_LINES" 3
  i_MAX_PACKS : IntG N "MAX_PACKS" 3
  i_MAX_SCALE : IntG N "MAX_SCALE" 9
  i_MAX_SORTS : IntG N "MAX_SORTS" 3
  i_MOST_IN_PACK : IntG N "MOST_IN_PACK" 6
  i_MOST_LISTED : IntG N "MOST_LISTED" 12
  is_Line : IsC N.K (N.ga "Line")
  is_Lines : IsC N.K (N.ga "Lines")
  is_Parts : IsC N.K (N.ga "Parts")
  is_Style : IsC N.K (N.ga "Style")
  kt_Line_Line : PySem.W.kitOne N.K (.ref (N.ga "Line")) (.ref (N.ga "Line")) = some true
  kt_Lines_Lines : PySem.W.kitOne N.K (.ref (N.ga "Lines")) (.ref (N.ga "Lines")) = some true
  kt_Parts_Parts : PySem.W.kitOne N.K (.ref (N.ga "Parts")) (.ref (N.ga "Parts")) = some true
  kt_Style_Style : PySem.W.kitOne N.K (.ref (N.ga "Style")) (.ref (N.ga "Style")) = some true
  kt_int_bool : PySem.W.kitOne N.K (.type "int") (.type "bool") = some false
  kt_tuple_Lines : PySem.W.kitOne N.K (.type "tuple") (.ref (N.ga "Lines")) = some false
  kt_tuple_Parts : PySem.W.kitOne N.K (.type "tuple") (.ref (N.ga "Parts")) = some false
  mk_Line : Mk N.K (N.ga "Line") (N.ma "Line" "__init__")
  mk_Lines : Mk N.K (N.ga "Lines") (N.ma "Lines" "__init__")
  mk_Parts : Mk N.K (N.ga "Parts") (N.ma "Parts" "__init__")
  mk_Style : Mk N.K (N.ga "Style") (N.ma "Style" "__init__")
  n_abs : N.mg "abs" = none
  n_all : N.mg "all" = none
  n_bool : N.mg "bool" = none
  n_enumerate : N.mg "enumerate" = none
  n_int : N.mg "int" = none
  n_isinstance : N.mg "isinstance" = none
  n_iter : N.mg "iter" = none
  n_len : N.mg "len" = none
  n_list : N.mg "list" = none
  n_max : N.mg "max" = none
  n_min : N.mg "min" = none
  n_range : N.mg "range" = none
  n_set : N.mg "set" = none
  n_sorted : N.mg "sorted" = none
  n_tuple : N.mg "tuple" = none
  n_zip : N.mg "zip" = none
  na_Line_own_base : NoAttr N.K (N.ga "Line") "own_base"
  na_Line_own_packs : NoAttr N.K (N.ga "Line") "own_packs"
  na_Style_own_lines : NoAttr N.K (N.ga "Style") "own_lines"
  ne_Line : NeC N.K (N.ga "Line")
  sc_Lines : SlX.SCls N.K (N.ga "Lines")
  sc_Parts : SlX.SCls N.K (N.ga "Parts")
  sf_Line : PySem.W.selfFirst N.K (N.ga "Line") = true
  sf_Style : PySem.W.selfFirst N.K (N.ga "Style") = true
  sl_Lines_own_lines : ∃ p, SlX.Slot1 N.K (N.ga "Lines") "own_lines" p 0
  sl_Parts_own_base : ∃ p, SlX.Slot1 N.K (N.ga "Parts") "own_base" p 0
  sl_Parts_own_packs : ∃ p, SlX.Slot1 N.K (N.ga "Parts") "own_packs" p 1
theorem no_Line_forgetting : FNo FLine "forgetting" := no_Line (by decide +kernel) (by decide +kernel)
theorem no_Line_lean : FNo FLine "lean" := no_Line (by decide +kernel) (by decide +kernel)
theorem no_Line_scaled : FNo FLine "scaled" := no_Line (by decide +kernel) (by decide +kernel)
theorem no_Line_shifted : FNo FLine "shifted" := no_Line (by decide +kernel) (by decide +kernel)
theorem no_Style_forgetting : FNo FStyle "forgetting" := no_Style (by decide +kernel)
theorem no_Style_lean : FNo FStyle "lean" := no_Style (by decide +kernel)
theorem no_Style_orders : FNo FStyle "orders" := no_Style (by decide +kernel)
theorem no_Style_scaled : FNo FStyle "scaled" := no_Style (by decide +kernel)
theorem no_Style_shifted : FNo FStyle "shifted" := no_Style (by decide +kernel)

def N_is_integer : List Str := ["value", "least", "most"]
theorem sc_is_integer : FnScope N_is_integer ["value", "least", "most"] (defScope zs_is_integer) := ⟨rfl, rfl, rfl, by decide +kernel, rfl, by decide +kernel, by decide +kernel⟩
abbrev sp_is_integer (N : En) : Sp := FnW N (Cons RI (Cons RI (One (ROpt RI)))) RB (fun p => m_is_integer p.1 p.2.1 p.2.2)
theorem ok_is_integer {N : En} (T : Txt N) (F : FunP N "is_integer" zs_is_integer)  : Dn N 1 "is_integer" (sp_is_integer N) := by
  refine dn_mk F sc_is_integer (fun _ _ _ _ _ _ us hl => match us, hl with | [_, _, _], _ => rfl) (fun vs H Q E h => by obtain ⟨_, _, _, _, _, _, hS, _⟩ := h; exact Ln.len hS) ?_
  rintro cdv A outer s H0 vs Q E hr ⟨M0, xx, P, PE, hca, d, hS, hm, kr, go0⟩
  obtain ⟨x_value, x_least, x_most⟩ := xx
  obtain ⟨v_value, _, rfl, r_value, v_least, _, rfl, r_least, v_most, rfl, r_most⟩ := hS
  replace r_value : RI M0 x_value v_value H0 := r_value
  replace r_least : RI M0 x_least v_least H0 := r_least
  replace r_most : (ROpt RI) M0 x_most v_most H0 := r_most
  replace hm : m_is_integer x_value x_least x_most P PE := hm
  unfold m_is_integer at hm
  have b0 : Xt M0 H0 H0 := .refl d; have l0 : M0.le M0 := .refl; have d0 := d
  refine ⟨_, (pss_cons (ps_if (PW.pt (pw_or (pt_not (pt_val (pe_callB call_isi (by rfl) T.n_isinstance (by decide +kernel) (pa_cons (pv 0) (pa_cons (pe_bltn (v := .ty "int") (by rfl) T.n_int (by decide +kernel) rfl) pa_nil))))) (pw_or (pt_val (pe_callB call_isi (by rfl) T.n_isinstance (by decide +kernel) (pa_cons (pv 0) (pa_cons (pe_bltn (v := .ty "bool") (by rfl) T.n_bool (by decide +kernel) rfl) pa_nil)))) (pw_or1 (pt_cmpR op_lt (pv 0) (pv 1) (nomark _))))))
      (pss_one (ps_ret pe_bl)) pss_nil)
    (pss_one (ps_ret (pe_or (pe_cmpR op_isN (pv 2) pe_non (nomark _)) (pe_one (pe_cmpR op_le (pv 0) (pv 2) (nomark _))))))), ?_⟩
  refine q_if0 d (go0.at b0 l0) (et_orP (et_not (et_val (ev_isi (b := true) (ClsV.ty _) (by rfl) (fun _ _ _ => ty_int) (ev_var rfl r_value) (fun _ => rfl)))) (et_orP (et_val (ev_isi (b := false) (ClsV.ty _) T.kt_int_bool (fun _ _ _ => ty_int) (ev_var rfl r_value) (fun _ => rfl))) (et_test (ev_op o_lt (ev_var rfl r_value) (ev_var rfl r_least))))) hm (fun H1 e hm => ?_) (fun H1 e hm => ?_)
  · skip
    have d := e.dice; have b0 := b0.t l0 e; replace r_value := up r_value e; replace r_least := up r_least e; replace r_most := up r_most e
    exact q_ret d (go0.at b0 l0) ev_bl hm fun v z H2 e p r => kr v z H2 (b0.t l0 e) p (wk r l0)
  · skip
    have d := e.dice; have b0 := b0.t l0 e; replace r_value := up r_value e; replace r_least := up r_least e; replace r_most := up r_most e
    exact q_ret d (go0.at b0 l0) (ev_or (ev_op (o_isN Nn.nn) (ev_var rfl r_most) ev_non) (ev_op o_le (ev_var rfl r_value) (ev_unopt (ev_var rfl r_most)))) hm fun v z H2 e p r => kr v z H2 (b0.t l0 e) p (wk r l0)
def N_is_order : List Str := ["value", "count"]
theorem sc_is_order : FnScope N_is_order ["value"] (defScope zs_is_order) := ⟨rfl, rfl, rfl, by decide +kernel, rfl, by decide +kernel, by decide +kernel⟩
abbrev sp_is_order (N : En) : Sp := FnW N (One (RT (All RI))) RB (fun p => m_is_order p)
theorem ok_is_order {N : En} (T : Txt N) (F : FunP N "is_order" zs_is_order) (D_is_integer : Dn N 1 "is_integer" (sp_is_integer N)) : Dn N 2 "is_order" (sp_is_order N) := by
  refine dn_mk F sc_is_order (fun _ _ _ _ _ _ us hl => match us, hl with | [_], _ => rfl) (fun vs H Q E h => by obtain ⟨_, _, _, _, _, _, hS, _⟩ := h; exact Ln.len hS) ?_
  rintro cdv A outer s H0 vs Q E hr ⟨M0, x_value, P, PE, hca, d, hS, hm, kr, go0⟩
  obtain ⟨v_value, rfl, r_value⟩ := hS
  replace r_value : (RT (All RI)) M0 x_value v_value H0 := r_value
  replace hm : m_is_order x_value P PE := hm
  unfold m_is_order at hm
  have b0 : Xt M0 H0 H0 := .refl d; have l0 : M0.le M0 := .refl; have d0 := d
  refine ⟨_, (pss_cons (ps_if (PW.pt (pw_or (pt_not (pt_val (pe_callB call_isi (by rfl) T.n_isinstance (by decide +kernel) (pa_cons (pv 0) (pa_cons (pe_bltn (v := .ty "tuple") (by rfl) T.n_tuple (by decide +kernel) rfl) pa_nil))))) (pw_or1 (pt_not (pt_chain op_le op_le pe_int (pe_callB call_len_seq (by rfl) T.n_len (by decide +kernel) (pa_cons (pv 0) pa_nil)) (pe_globI rfl T.i_MAX_SORTS))))))
      (pss_one (ps_ret pe_bl)) pss_nil)
    (pss_one (ps_ret (pe_callB (cr_all rfl) (by rfl) T.n_all (by decide +kernel) (pa_cons (pe_lc (own := [("count", 1)]) (g := gName 1) rfl sc_is_order.nd (pi_tup (pv 0)) (blkOk_by (own := [("count", 1)]) (N := N_is_order) (sc := defScope zs_is_order) (by decide +kernel)) (fun _ _ _ _ _ => (pg_name (i := 1) sc_is_order.nd rfl (by first | exact Or.inl rfl | exact Or.inr rfl))) (fun _ _ _ _ _ => pts_nil) (fun _ _ _ _ _ => (pe_d D_is_integer (hr.mono (by decide)) (by rfl) px0 (pa_cons (pv 1) (pa_cons pe_int (pa_cons pe_non pa_nil)))))) pa_nil))))), ?_⟩
  refine q_if0 d (go0.at b0 l0) (et_orP (et_not (et_val (ev_isi (b := true) (ClsV.ty _) (by rfl) (fun _ _ _ => ty_tup) (ev_var rfl r_value) (fun _ => rfl)))) (et_not (et_test (ev_chain o_le o_le ev_int (ev_cb c_lenT (ea_one (ev_var rfl r_value))) ev_int)))) hm (fun H1 e hm => ?_) (fun H1 e hm => ?_)
  · skip
    have d := e.dice; have b0 := b0.t l0 e; replace r_value := up r_value e
    exact q_ret d (go0.at b0 l0) ev_bl hm fun v z H2 e p r => kr v z H2 (b0.t l0 e) p (wk r l0)
  · skip
    have d := e.dice; have b0 := b0.t l0 e; replace r_value := up r_value e
    exact q_ret d (go0.at b0 l0) (ev_cb c_all (ea_one (ev_lc1 (R' := RB) (EvI.x (ei_tup (ev_var rfl r_value))) (fun M1 H1' q1 σ1 L1 D1 hT => by obtain ⟨v1_0, rfl, s1_0⟩ := hT; exact et_yes) (fun M1 H1' q1 σ1 L1 D1 hT => by obtain ⟨v1_0, rfl, s1_0⟩ := hT; exact (ev_d (L1.ca.trans hca) (ea_cons (ev_var rfl s1_0) (ea_cons ev_int (ea_one (ev_none (R := RI)))))))))) hm fun v z H2 e p r => kr v z H2 (b0.t l0 e) p (wk r l0)
def N_is_small : List Str := ["value", "sorts", "most"]
theorem sc_is_small : FnScope N_is_small ["value", "sorts", "most"] (defScope zs_is_small) := ⟨rfl, rfl, rfl, by decide +kernel, rfl, by decide +kernel, by decide +kernel⟩
abbrev sp_is_small (N : En) : Sp := FnW N (Cons (RT (All RI)) (Cons RI (One RI))) RB (fun p => m_is_small p.1 p.2.1 p.2.2)
theorem ok_is_small {N : En} (T : Txt N) (F : FunP N "is_small" zs_is_small) (D_is_order : Dn N 2 "is_order" (sp_is_order N)) : Dn N 3 "is_small" (sp_is_small N) := by
  refine dn_mk F sc_is_small (fun _ _ _ _ _ _ us hl => match us, hl with | [_, _, _], _ => rfl) (fun vs H Q E h => by obtain ⟨_, _, _, _, _, _, hS, _⟩ := h; exact Ln.len hS) ?_
  rintro cdv A outer s H0 vs Q E hr ⟨M0, xx, P, PE, hca, d, hS, hm, kr, go0⟩
  obtain ⟨x_value, x_sorts, x_most⟩ := xx
  obtain ⟨v_value, _, rfl, r_value, v_sorts, _, rfl, r_sorts, v_most, rfl, r_most⟩ := hS
  replace r_value : (RT (All RI)) M0 x_value v_value H0 := r_value
  replace r_sorts : RI M0 x_sorts v_sorts H0 := r_sorts
  replace r_most : RI M0 x_most v_most H0 := r_most
  replace hm : m_is_small x_value x_sorts x_most P PE := hm
  unfold m_is_small at hm
  have b0 : Xt M0 H0 H0 := .refl d; have l0 : M0.le M0 := .refl; have d0 := d
  refine ⟨_, (pss_one (ps_ret (pe_and (pe_d D_is_order (hr.mono (by decide)) (by rfl) (passes_call (takes_of rfl rfl rfl rfl) fun _ _ _ _ z => z) (pa_cons (pv 0) pa_nil)) (pe_and (pe_cmpR op_eq (pe_callB call_len_seq (by rfl) T.n_len (by decide +kernel) (pa_cons (pv 0) pa_nil)) (pv 1) (nomark _)) (pe_one (pe_cmpR op_le (pe_callB (GX.cr_maxT rfl (hu_of hr)) (by rfl) T.n_max (by decide +kernel) (pa_cons (pv 0) pa_nil)) (pv 2) (nomark _))))))), ?_⟩
  exact q_ret d (go0.at b0 l0) (ev_and (ev_d hca (ea_one (ev_var rfl r_value))) (ev_and (ev_op o_eq (ev_cb c_lenT (ea_one (ev_var rfl r_value))) (ev_var rfl r_sorts)) (ev_op o_le (ev_cb c_maxT (ea_one (ev_var rfl r_value))) (ev_var rfl r_most)))) hm fun v z H1 e p r => kr v z H1 (b0.t l0 e) p (wk r l0)
def N_Parts___init__ : List Str := ["self", "base", "packs"]
theorem sc_Parts___init__ : FnScope N_Parts___init__ ["self", "base", "packs"] (defScope zs_Parts___init__) := ⟨rfl, rfl, rfl, by decide +kernel, rfl, by decide +kernel, by decide +kernel⟩
abbrev sp_Parts___init__ (N : En) : Sp := InitSW N "Parts" (Cons (RT (All RI)) (One (RT (All (RT (All RI)))))) (Cons (RT (All RI)) (One (RT (All (RT (All RI)))))) (fun p => m_Parts p.1 p.2)
theorem ok_Parts___init__ {N : En} (T : Txt N) (F : FunS N "Parts" "__init__" "Parts.__init__" zs_Parts___init__) : Fr N 1 (N.ma "Parts" "__init__") (sp_Parts___init__ N) := by
  refine fs_mk F sc_Parts___init__ (sp := sp_Parts___init__ N) (fun _ _ _ _ _ _ us hl => match us, hl with | [_, _, _], _ => rfl) (fun vs H Q E h => by obtain ⟨_, _, _, _, _, _, _, _, rfl, _, _, _, _, _, _, hS, _⟩ := h; exact congrArg (· + 1) (Ln.len hS)) ?_
  rintro cdv A outer s H vs Q E hr ⟨M0, xx, P, PE, a_, dx, us, H0, rfl, hca, d0, b0, n0, n1, ne, hS, hs, hm, kr, go0⟩
  obtain ⟨x_base, x_packs⟩ := xx
  obtain ⟨v_base, _, rfl, r_base, v_packs, rfl, r_packs⟩ := hS
  refine ⟨_, (pss_cons (SlX.ps_sl (pv 0) (pv 1))
    (pss_one (SlX.ps_sl (pv 0) (pv 2)))), ?_⟩
  have na := (d0.fr n0).1; have nd := (d0.fr n1).1
  obtain ⟨p0, t0⟩ := T.sl_Parts_own_base
  refine q_slV (dx := dx) (vs := []) rfl rfl (hs) T.sc_Parts t0 ?_
  have b0 := xt_slH (a := a_) (dx := dx) (C := N.ga "Parts") (vs := (SlX.putS 0 v_base [])) b0 d0 n0 n1
  obtain ⟨p1, t1⟩ := T.sl_Parts_own_packs
  refine l_slV (dx := dx) (vs := (SlX.putS 0 v_base [])) rfl rfl (.inr ⟨upd_same, by unfold SlX.slH; rw [upd_ne ne, upd_same]⟩) T.sc_Parts t1 ?_
  have b0 := xt_slH (a := a_) (dx := dx) (C := N.ga "Parts") (vs := (SlX.putS 1 v_packs (SlX.putS 0 v_base []))) b0 d0 n0 n1
  refine kr _ (x_base, x_packs) [v_base, v_packs] b0 upd_same (by unfold SlX.slH; rw [upd_ne ne, upd_same]) hm ⟨_, _, rfl, up r_base b0, _, rfl, up r_packs b0⟩
abbrev sp_Parts (N : En) : Sp := FnW N (Cons (RT (All RI)) (One (RT (All (RT (All RI)))))) R_Parts (fun p => m_Parts p.1 p.2)
theorem ok_Parts {N : En} (T : Txt N) (F : FunS N "Parts" "__init__" "Parts.__init__" zs_Parts___init__) : Dc N 1 "Parts" (sp_Parts N) := dc_mkS T.mk_Parts T.g_Parts (ok_Parts___init__ T F)
def N_checked_lines : List Str := ["base", "packs", "most", "pack", "one", "other"]
theorem sc_checked_lines : FnScope N_checked_lines ["base", "packs"] (defScope zs_checked_lines) := ⟨rfl, rfl, rfl, by decide +kernel, rfl, by decide +kernel, by decide +kernel⟩
abbrev sp_checked_lines (N : En) : Sp := FnW N (Cons (RT (All RI)) (One (RT (All (RT (All RI)))))) R_Parts (fun p => m_checked p.1 p.2)
theorem ok_checked_lines {N : En} (T : Txt N) (F : FunQ N "checked_lines" "checked" zs_checked_lines) (D_is_order : Dn N 2 "is_order" (sp_is_order N)) (D_is_small : Dn N 3 "is_small" (sp_is_small N)) (D_Parts : Dc N 1 "Parts" (sp_Parts N)) : Dn N 4 "checked_lines" (sp_checked_lines N) := by
  refine dq_mk F sc_checked_lines (fun _ _ _ _ _ _ us hl => match us, hl with | [_, _], _ => rfl) (fun vs H Q E h => by obtain ⟨_, _, _, _, _, _, hS, _⟩ := h; exact Ln.len hS) ?_
  rintro cdv A outer s H0 vs Q E hr ⟨M0, xx, P, PE, hca, d, hS, hm, kr, go0⟩
  obtain ⟨x_base, x_packs⟩ := xx
  obtain ⟨v_base, _, rfl, r_base, v_packs, rfl, r_packs⟩ := hS
  replace r_base : (RT (All RI)) M0 x_base v_base H0 := r_base
  replace r_packs : (RT (All (RT (All RI)))) M0 x_packs v_packs H0 := r_packs
  replace hm : m_checked x_base x_packs P PE := hm
  unfold m_checked at hm
  have b0 : Xt M0 H0 H0 := .refl d; have l0 : M0.le M0 := .refl; have d0 := d
  refine ⟨_, (pss_cons (ps_if (PW.pt (pw_or (pt_not (pt_val (pe_d D_is_order (hr.mono (by decide)) (by rfl) (passes_call (takes_of rfl rfl rfl rfl) fun _ _ _ _ z => z) (pa_cons (pv 0) pa_nil)))) (pw_or1 (pt_cmpR op_gt (pe_callB (GX.cr_maxT rfl (hu_of hr)) (by rfl) T.n_max (by decide +kernel) (pa_cons (pv 0) pa_nil)) (pe_globI rfl T.i_MAX_BASE) (nomark _)))))
      (pss_one ps_never) pss_nil)
    (pss_cons (ps_set (i := 2) sc_checked_lines.nd rfl (by first | exact Or.inl rfl | exact Or.inr rfl) (pe_op op_fdiv (pe_globI rfl T.i_MOST_IN_PACK) (pe_callB call_len_seq (by rfl) T.n_len (by decide +kernel) (pa_cons (pv 0) pa_nil))))
    (pss_cons (ps_if (PW.pt (pw_or (pt_not (pt_val (pe_callB call_isi (by rfl) T.n_isinstance (by decide +kernel) (pa_cons (pv 1) (pa_cons (pe_bltn (v := .ty "tuple") (by rfl) T.n_tuple (by decide +kernel) rfl) pa_nil))))) (pw_or1 (pt_cmpR op_gt (pe_callB call_len_seq (by rfl) T.n_len (by decide +kernel) (pa_cons (pv 1) pa_nil)) (pe_globI rfl T.i_MAX_PACKS) (nomark _)))))
      (pss_one ps_never) pss_nil)
    (pss_cons (ps_if (pt_not (pt_val (pe_callB (cr_all rfl) (by rfl) T.n_all (by decide +kernel) (pa_cons (pe_lc (own := [("pack", 3)]) (g := gName 3) rfl sc_checked_lines.nd (pi_tup (pv 1)) (blkOk_by (own := [("pack", 3)]) (N := N_checked_lines) (sc := defScope zs_checked_lines) (by decide +kernel)) (fun _ _ _ _ _ => (pg_name (i := 3) sc_checked_lines.nd rfl (by first | exact Or.inl rfl | exact Or.inr rfl))) (fun _ _ _ _ _ => pts_nil) (fun _ _ _ _ _ => (pe_and (pe_d D_is_small (hr.mono (by decide)) (by rfl) px0 (pa_cons (pv 3) (pa_cons (pe_callB (call_len_seqK N.K (by rfl)) (by rfl) T.n_len (by decide +kernel) (pa_cons (pv 0) pa_nil)) (pa_cons (pv 2) pa_nil)))) (pe_one (pe_cmpR op_gt (pe_callB (GX.cr_maxTK N.K (by rfl) rfl (hu_of hr)) (by rfl) T.n_max (by decide +kernel) (pa_cons (pv 3) pa_nil)) pe_int (nomark _)))))) pa_nil))))
      (pss_one ps_never) pss_nil)
    (pss_cons (ps_if (pt_not (pt_val (pe_callB (cr_all rfl) (by rfl) T.n_all (by decide +kernel) (pa_cons (pe_lc (own := [("one", 4), ("other", 5)]) rfl sc_checked_lines.nd (GX.pi_zipS true true (by rfl) T.n_zip (pa_cons (pv 1) (pa_cons (pe_slice sl_tupA (pv 1) (po_some pe_int) po_none) pa_nil))) (blkOk_by (own := [("one", 4), ("other", 5)]) (N := N_checked_lines) (sc := defScope zs_checked_lines) (by decide +kernel)) (fun _ _ _ _ _ => (pg_tupK N.K (by rfl) (n := 2) rfl (pgs_cons (pg_name (i := 4) sc_checked_lines.nd rfl (by first | exact Or.inl rfl | exact Or.inr rfl)) (pgs_cons (pg_name (i := 5) sc_checked_lines.nd rfl (by first | exact Or.inl rfl | exact Or.inr rfl)) pgs_nil)))) (fun _ _ _ _ _ => pts_nil) (fun _ _ _ _ _ => (pe_cmpR (GX.op_ltTK N.K (by rfl) hr.units0) (pv 4) (pv 5) (nomark _)))) pa_nil))))
      (pss_one ps_never) pss_nil)
    (pss_one (ps_ret (pe_c D_Parts (hr.mono (by decide)) (by rfl) (passes_call (takes_of rfl rfl rfl rfl) fun _ _ _ _ z => z) (pa_cons (pv 0) (pa_cons (pv 1) pa_nil)))))))))), ?_⟩
  refine q_if0 d (go0.at b0 l0) (et_or (et_not (et_val (ev_d hca (ea_one (ev_var rfl r_base))))) (et_test (ev_op o_gt (ev_cb c_maxT (ea_one (ev_var rfl r_base))) ev_int))) hm (fun H1 e hm => ?_) (fun H1 e hm => ?_)
  · skip
    have d := e.dice; have b0 := b0.t l0 e; replace r_base := up r_base e; replace r_packs := up r_packs e
    exact hm.elim
  · skip
    have d := e.dice; have b0 := b0.t l0 e; replace r_base := up r_base e; replace r_packs := up r_packs e
    refine q_set d (go0.at b0 l0) (ev_op o_fdiv ev_int (ev_cb c_lenT (ea_one (ev_var rfl r_base)))) hm fun v_most x_most H2 e hm r_most => ?_
    have d := e.dice; have b0 := b0.t l0 e; replace r_base := up r_base e; replace r_packs := up r_packs e
    refine q_if0 d (go0.at b0 l0) (et_orP (et_not (et_val (ev_isi (b := true) (ClsV.ty _) (by rfl) (fun _ _ _ => ty_tup) (ev_var rfl r_packs) (fun _ => rfl)))) (et_test (ev_op o_gt (ev_cb c_lenT (ea_one (ev_var rfl r_packs))) ev_int))) hm (fun H3 e hm => ?_) (fun H3 e hm => ?_)
    · skip
      have d := e.dice; have b0 := b0.t l0 e; replace r_base := up r_base e; replace r_packs := up r_packs e; replace r_most := up r_most e
      exact hm.elim
    · skip
      have d := e.dice; have b0 := b0.t l0 e; replace r_base := up r_base e; replace r_packs := up r_packs e; replace r_most := up r_most e
      refine q_if0 d (go0.at b0 l0) (et_not (et_val (ev_cb c_all (ea_one (ev_lc1 (R' := RB) (EvI.x (ei_tup (ev_var rfl r_packs))) (fun M1 H1' q1 σ1 L1 D1 hT => by obtain ⟨v1_0, rfl, s1_0⟩ := hT; exact et_yes) (fun M1 H1' q1 σ1 L1 D1 hT => by obtain ⟨v1_0, rfl, s1_0⟩ := hT; exact (ev_and (ev_d (L1.ca.trans hca) (ea_cons (ev_var rfl s1_0) (ea_cons (ev_cb c_lenT (ea_one (ev_var rfl (lf r_base L1)))) (ea_one (ev_var rfl (lf r_most L1)))))) (ev_op o_gt (ev_cb c_maxT (ea_one (ev_var rfl s1_0))) ev_int)))))))) hm (fun H4 e hm => ?_) (fun H4 e hm => ?_)
      · skip
        have d := e.dice; have b0 := b0.t l0 e; replace r_base := up r_base e; replace r_packs := up r_packs e; replace r_most := up r_most e
        exact hm.elim
      · skip
        have d := e.dice; have b0 := b0.t l0 e; replace r_base := up r_base e; replace r_packs := up r_packs e; replace r_most := up r_most e
        refine q_if0 d (go0.at b0 l0) (et_not (et_val (ev_cb c_all (ea_one (ev_lcM2 (R' := RB) (EvI.x (ei_zipS (ea_cons (ev_var rfl r_packs) (ea_one (ev_slT (ev_var rfl r_packs) (eo_some ev_int) eo_none))))) (fun M1 H1' q1 σ1 L1 D1 hT => by obtain ⟨v1_0, v1_1, rfl, s1_0, s1_1⟩ := hT; exact (ev_op o_ltT (ev_var rfl s1_0) (ev_var rfl s1_1)))))))) hm (fun H5 e hm => ?_) (fun H5 e hm => ?_)
        · skip
          have d := e.dice; have b0 := b0.t l0 e; replace r_base := up r_base e; replace r_packs := up r_packs e; replace r_most := up r_most e
          exact hm.elim
        · skip
          have d := e.dice; have b0 := b0.t l0 e; replace r_base := up r_base e; replace r_packs := up r_packs e; replace r_most := up r_most e
          exact q_ret d (go0.at b0 l0) (ev_d hca (ea_cons (ev_var rfl r_base) (ea_one (ev_var rfl r_packs)))) hm fun v z H6 e p r => kr v z H6 (b0.t l0 e) p (wk r l0)
def N_Line___init__ : List Str := ["self", "base", "packs", "held"]
theorem sc_Line___init__ : FnScope N_Line___init__ ["self", "base", "packs"] (defScope zs_Line___init__) := ⟨rfl, rfl, rfl, by decide +kernel, rfl, by decide +kernel, by decide +kernel⟩
abbrev sp_Line___init__ (N : En) : Sp := InitW N "Line" (Cons (RT (All RI)) (One (RT (All (RT (All RI)))))) FLine (fun p => m_Line p.1 p.2)
theorem ok_Line___init__ {N : En} (T : Txt N) (F : FunMD N "Line" "__init__" "Line.__init__" zs_Line___init__ [.ref (He.dflAt ("Line", some "__init__") 0 N.K)]) (D_checked_lines : Dn N 4 "checked_lines" (sp_checked_lines N)) : Fr N 5 (N.ma "Line" "__init__") (fun vs H Q E => sp_Line___init__ N (vs ++ []) H Q E) := by
  refine dm_mkD 3 1 (dvs := [.ref (He.dflAt ("Line", some "__init__") 0 N.K)]) (by simp) rfl F.1 sc_Line___init__ (sp := sp_Line___init__ N) (fun _ _ _ _ _ _ _ us its h1 h2 => match us, its, h1, h2 with | [_, _, _], [_], _, _ => ⟨_, rfl, rfl⟩) (fun vs H Q E h => by obtain ⟨_, _, _, _, _, _, _, _, rfl, _, _, _, _, _, _, hS, _⟩ := h; exact congrArg (· + 1) (Ln.len hS)) ?_
  rintro cdv A outer s H vs Q E hr ⟨M0, xx, P, PE, a_, dx, us, H0, rfl, hca, d0, b0, n0_self, n1, ne, hS, a_self, hm, kr, go0⟩
  have lk : LkX M0 H0 (M0.add a_) H := (LkX.add n0_self).trans ⟨⟨rfl, rfl, fun b o f h => ⟨b0.keep b o f.1 h, f⟩⟩, fun b o n h => b0.keep b o n h⟩
  obtain ⟨x_base, x_packs⟩ := xx
  obtain ⟨v_base, _, rfl, r_base, v_packs, rfl, r_packs⟩ := hS
  replace r_base : (RT (All RI)) (M0.add a_) x_base v_base H := lf (show (RT (All RI)) M0 x_base v_base H0 from r_base) lk
  replace r_packs : (RT (All (RT (All RI)))) (M0.add a_) x_packs v_packs H := lf (show (RT (All (RT (All RI)))) M0 x_packs v_packs H0 from r_packs) lk
  have d := d0.add n0_self a_self b0; have m_self : a_ ∈ (M0.add a_).l := List.mem_cons_self; have l0 : M0.le (M0.add a_) := Mm.le.refl.add; replace hca : (M0.add a_).ca = N.ga := hca
  replace hm : m_Line x_base x_packs P PE := hm
  unfold m_Line at hm
  refine ⟨_, (pss_cons (ps_set (i := 3) sc_Line___init__.nd rfl (by first | exact Or.inl rfl | exact Or.inr rfl) (pe_ifExp (pt_val (pe_callB call_isi (by rfl) T.n_isinstance (by decide +kernel) (pa_cons (pv 1) (pa_cons (pe_globR rfl T.g_Parts) pa_nil)))) (pv 1) (pe_d D_checked_lines (hr.mono (by decide)) (by rfl) (passes_call (takes_of rfl rfl rfl rfl) fun _ _ _ _ z => z) (pa_cons (pv 1) (pa_cons (pv 2) pa_nil)))))
    (pss_cons (ps_fld (pv 0) (SlX.pe_sl (pv 3)) rfl)
    (pss_one (ps_fld (pv 0) (SlX.pe_sl (pv 3)) rfl)))), ?_⟩
  refine q_set d (go0.at b0 l0) (ev_ifF (et_val (ev_isi (b := false) (ClsV.own _) T.kt_tuple_Parts (fun _ _ _ => ty_tup) (ev_var rfl r_base) (fun _ => rfl))) (ev_d hca (ea_cons (ev_var rfl r_base) (ea_one (ev_var rfl r_packs))))) hm fun v_held x_held H1 e hm r_held => ?_
  have d := e.dice; have b0 := b0.t l0 e; replace r_base := up r_base e; replace r_packs := up r_packs e; replace a_self := e.keep _ _ (d0.fr n0_self).1 a_self
  refine q_fldP d (go0.at b0 l0) rfl a_self m_self T.c_Line T.na_Line_own_base (by simp) (ev_sl (i := 0) hca T.sc_Parts T.sl_Parts_own_base (ev_var rfl r_held)) hm fun w_own_base f_own_base _ H2 pt em a_self r_own_base hm => ?_
  have d := pt.xm.dice; have b0 := pt.xt b0 l0 n0_self; rw [putF_nil] at a_self; replace r_base := upm r_base pt.xm; replace r_packs := upm r_packs pt.xm; replace r_held := upm r_held pt.xm; replace r_own_base := upm r_own_base em
  refine l_fldP d (go0.at b0 l0) rfl a_self m_self T.c_Line T.na_Line_own_packs (by simp) (ev_sl (i := 1) hca T.sc_Parts T.sl_Parts_own_packs (ev_var rfl r_held)) hm fun w_own_packs f_own_packs _ H3 pt em a_self r_own_packs hm => ?_
  have d := pt.xm.dice; have b0 := pt.xt b0 l0 n0_self; rw [putF_next (by decide +kernel), putF_nil] at a_self; replace r_base := upm r_base pt.xm; replace r_packs := upm r_packs pt.xm; replace r_held := upm r_held pt.xm; replace r_own_base := upm r_own_base pt.xm; replace r_own_packs := upm r_own_packs em
  exact kr _ (f_own_base, f_own_packs) _ b0 a_self hm ⟨_, _, rfl, wk r_own_base l0, _, rfl, wk r_own_packs l0⟩
abbrev sp_Line (N : En) : Sp := FnW N (Cons (RT (All RI)) (One (RT (All (RT (All RI)))))) R_Line (fun p => m_Line p.1 p.2)
theorem ok_Line {N : En} (T : Txt N) (F : FunMD N "Line" "__init__" "Line.__init__" zs_Line___init__ [.ref (He.dflAt ("Line", some "__init__") 0 N.K)]) (D_checked_lines : Dn N 4 "checked_lines" (sp_checked_lines N)) : Dc N 5 "Line" (sp_Line N) := dc_mk (dvs := []) T.mk_Line T.g_Line (ok_Line___init__ T F D_checked_lines) id (fun h => by rw [List.append_nil]; exact h)
def N_Lines___init__ : List Str := ["self", "lines"]
theorem sc_Lines___init__ : FnScope N_Lines___init__ ["self", "lines"] (defScope zs_Lines___init__) := ⟨rfl, rfl, rfl, by decide +kernel, rfl, by decide +kernel, by decide +kernel⟩
abbrev sp_Lines___init__ (N : En) : Sp := InitSW N "Lines" (One (RT (All R_Line))) (One (RT (All R_Line))) (fun p => m_Lines p)
theorem ok_Lines___init__ {N : En} (T : Txt N) (F : FunS N "Lines" "__init__" "Lines.__init__" zs_Lines___init__) : Fr N 1 (N.ma "Lines" "__init__") (sp_Lines___init__ N) := by
  refine fs_mk F sc_Lines___init__ (sp := sp_Lines___init__ N) (fun _ _ _ _ _ _ us hl => match us, hl with | [_, _], _ => rfl) (fun vs H Q E h => by obtain ⟨_, _, _, _, _, _, _, _, rfl, _, _, _, _, _, _, hS, _⟩ := h; exact congrArg (· + 1) (Ln.len hS)) ?_
  rintro cdv A outer s H vs Q E hr ⟨M0, x_lines, P, PE, a_, dx, us, H0, rfl, hca, d0, b0, n0, n1, ne, hS, hs, hm, kr, go0⟩
  obtain ⟨v_lines, rfl, r_lines⟩ := hS
  refine ⟨_, (pss_one (SlX.ps_sl (pv 0) (pv 1))), ?_⟩
  have na := (d0.fr n0).1; have nd := (d0.fr n1).1
  obtain ⟨p0, t0⟩ := T.sl_Lines_own_lines
  refine l_slV (dx := dx) (vs := []) rfl rfl (hs) T.sc_Lines t0 ?_
  have b0 := xt_slH (a := a_) (dx := dx) (C := N.ga "Lines") (vs := (SlX.putS 0 v_lines [])) b0 d0 n0 n1
  refine kr _ (x_lines) [v_lines] b0 upd_same (by unfold SlX.slH; rw [upd_ne ne, upd_same]) hm ⟨_, rfl, up r_lines b0⟩
abbrev sp_Lines (N : En) : Sp := FnW N (One (RT (All R_Line))) R_Lines (fun p => m_Lines p)
theorem ok_Lines {N : En} (T : Txt N) (F : FunS N "Lines" "__init__" "Lines.__init__" zs_Lines___init__) : Dc N 1 "Lines" (sp_Lines N) := dc_mkS T.mk_Lines T.g_Lines (ok_Lines___init__ T F)
def N_checked_styles : List Str := ["lines", "line"]
theorem sc_checked_styles : FnScope N_checked_styles ["lines"] (defScope zs_checked_styles) := ⟨rfl, rfl, rfl, by decide +kernel, rfl, by decide +kernel, by decide +kernel⟩
abbrev sp_checked_styles (N : En) : Sp := FnW N (One (RT (All R_Line))) R_Lines (fun p => m_checked_styles p)
theorem ok_checked_styles {N : En} (T : Txt N) (F : FunQ N "checked_styles" "checked" zs_checked_styles) (D_Lines : Dc N 1 "Lines" (sp_Lines N)) : Dn N 3 "checked_styles" (sp_checked_styles N) := by
  refine dq_mk F sc_checked_styles (fun _ _ _ _ _ _ us hl => match us, hl with | [_], _ => rfl) (fun vs H Q E h => by obtain ⟨_, _, _, _, _, _, hS, _⟩ := h; exact Ln.len hS) ?_
  rintro cdv A outer s H0 vs Q E hr ⟨M0, x_lines, P, PE, hca, d, hS, hm, kr, go0⟩
  obtain ⟨v_lines, rfl, r_lines⟩ := hS
  replace r_lines : (RT (All R_Line)) M0 x_lines v_lines H0 := r_lines
  replace hm : m_checked_styles x_lines P PE := hm
  unfold m_checked_styles at hm
  have b0 : Xt M0 H0 H0 := .refl d; have l0 : M0.le M0 := .refl; have d0 := d
  refine ⟨_, (pss_cons (ps_if (PW.pt (pw_or (pt_not (pt_val (pe_callB call_isi (by rfl) T.n_isinstance (by decide +kernel) (pa_cons (pv 0) (pa_cons (pe_bltn (v := .ty "tuple") (by rfl) T.n_tuple (by decide +kernel) rfl) pa_nil))))) (pw_or1 (pt_not (pt_chain op_le op_le pe_int (pe_callB call_len_seq (by rfl) T.n_len (by decide +kernel) (pa_cons (pv 0) pa_nil)) (pe_globI rfl T.i_MAX_LINES))))))
      (pss_one ps_never) pss_nil)
    (pss_cons (ps_if (pt_not (pt_val (pe_callB (cr_all rfl) (by rfl) T.n_all (by decide +kernel) (pa_cons (pe_lc (own := [("line", 1)]) (g := gName 1) rfl sc_checked_styles.nd (pi_tup (pv 0)) (blkOk_by (own := [("line", 1)]) (N := N_checked_styles) (sc := defScope zs_checked_styles) (by decide +kernel)) (fun _ _ _ _ _ => (pg_name (i := 1) sc_checked_styles.nd rfl (by first | exact Or.inl rfl | exact Or.inr rfl))) (fun _ _ _ _ _ => pts_nil) (fun _ _ _ _ _ => (pe_callB (call_isiK N.K (by rfl)) (by rfl) T.n_isinstance (by decide +kernel) (pa_cons (pv 1) (pa_cons (pe_globR rfl T.g_Line) pa_nil))))) pa_nil))))
      (pss_one ps_never) pss_nil)
    (pss_cons (ps_if (pt_not (pt_val (pe_callB (cr_all rfl) (by rfl) T.n_all (by decide +kernel) (pa_cons (pe_lc (own := [("line", 1)]) (g := gName 1) rfl sc_checked_styles.nd (pi_tup (pv 0)) (blkOk_by (own := [("line", 1)]) (N := N_checked_styles) (sc := defScope zs_checked_styles) (by decide +kernel)) (fun _ _ _ _ _ => (pg_name (i := 1) sc_checked_styles.nd rfl (by first | exact Or.inl rfl | exact Or.inr rfl))) (fun _ _ _ _ _ => pts_nil) (fun _ _ _ _ _ => (pe_cmpR op_eq (pe_callB (call_len_seqK N.K (by rfl)) (by rfl) T.n_len (by decide +kernel) (pa_cons (pe_fldK N.K (by rfl) (pv 1) (by rfl)) pa_nil)) (pe_callB (call_len_seqK N.K (by rfl)) (by rfl) T.n_len (by decide +kernel) (pa_cons (pe_fldK N.K (by rfl) (pe_ix (ix_tupK N.K (by rfl)) (pv 0) pe_int (fun _ _ => rfl)) (by rfl)) pa_nil)) (nomark _)))) pa_nil))))
      (pss_one ps_never) pss_nil)
    (pss_one (ps_ret (pe_c D_Lines (hr.mono (by decide)) (by rfl) (passes_call (takes_of rfl rfl rfl rfl) fun _ _ _ _ z => z) (pa_cons (pv 0) pa_nil))))))), ?_⟩
  refine q_if0 d (go0.at b0 l0) (et_orP (et_not (et_val (ev_isi (b := true) (ClsV.ty _) (by rfl) (fun _ _ _ => ty_tup) (ev_var rfl r_lines) (fun _ => rfl)))) (et_not (et_test (ev_chain o_le o_le ev_int (ev_cb c_lenT (ea_one (ev_var rfl r_lines))) ev_int)))) hm (fun H1 e hm => ?_) (fun H1 e hm => ?_)
  · skip
    have d := e.dice; have b0 := b0.t l0 e; replace r_lines := up r_lines e
    exact hm.elim
  · skip
    have d := e.dice; have b0 := b0.t l0 e; replace r_lines := up r_lines e
    refine q_if0 d (go0.at b0 l0) (et_not (et_val (ev_cb c_all (ea_one (ev_lcM1 (R' := RB) (EvI.x (ei_tup (ev_var rfl r_lines))) (fun M1 H1' q1 σ1 L1 D1 hT => by obtain ⟨v1_0, rfl, s1_0⟩ := hT; exact (ev_isi (b := true) (ClsV.own _) T.kt_Line_Line (fun _ _ _ => ty_ins (L1.ca.trans hca) T.c_Line T.is_Line) (ev_var rfl s1_0) (fun _ => rfl)))))))) hm (fun H2 e hm => ?_) (fun H2 e hm => ?_)
    · skip
      have d := e.dice; have b0 := b0.t l0 e; replace r_lines := up r_lines e
      exact hm.elim
    · skip
      have d := e.dice; have b0 := b0.t l0 e; replace r_lines := up r_lines e
      refine q_if0 d (go0.at b0 l0) (et_not (et_val (ev_cb c_all (ea_one (ev_lc1 (R' := RB) (EvI.x (ei_tup (ev_var rfl r_lines))) (fun M1 H1' q1 σ1 L1 D1 hT => by obtain ⟨v1_0, rfl, s1_0⟩ := hT; exact et_yes) (fun M1 H1' q1 σ1 L1 D1 hT => by obtain ⟨v1_0, rfl, s1_0⟩ := hT; exact (ev_op o_eq (ev_cb c_lenT (ea_one (ev_fld (L1.ca.trans hca) T.c_Line T.na_Line_own_base at_Line_own_base (ev_var rfl s1_0)))) (ev_cb c_lenT (ea_one (ev_fld (L1.ca.trans hca) T.c_Line T.na_Line_own_base at_Line_own_base (ev_op o_ixT (ev_var rfl (lf r_lines L1)) ev_int))))))))))) hm (fun H3 e hm => ?_) (fun H3 e hm => ?_)
      · skip
        have d := e.dice; have b0 := b0.t l0 e; replace r_lines := up r_lines e
        exact hm.elim
      · skip
        have d := e.dice; have b0 := b0.t l0 e; replace r_lines := up r_lines e
        exact q_ret d (go0.at b0 l0) (ev_d hca (ea_one (ev_var rfl r_lines))) hm fun v z H4 e p r => kr v z H4 (b0.t l0 e) p (wk r l0)
def N_Style___init__ : List Str := ["self", "lines", "held"]
theorem sc_Style___init__ : FnScope N_Style___init__ ["self", "lines"] (defScope zs_Style___init__) := ⟨rfl, rfl, rfl, by decide +kernel, rfl, by decide +kernel, by decide +kernel⟩
abbrev sp_Style___init__ (N : En) : Sp := InitW N "Style" (One (RT (All R_Line))) FStyle (fun p => m_Style p)
theorem ok_Style___init__ {N : En} (T : Txt N) (F : FunS N "Style" "__init__" "Style.__init__" zs_Style___init__) (D_checked_styles : Dn N 3 "checked_styles" (sp_checked_styles N)) : Fr N 4 (N.ma "Style" "__init__") (sp_Style___init__ N) := by
  refine fs_mk F sc_Style___init__ (sp := sp_Style___init__ N) (fun _ _ _ _ _ _ us hl => match us, hl with | [_, _], _ => rfl) (fun vs H Q E h => by obtain ⟨_, _, _, _, _, _, _, _, rfl, _, _, _, _, _, _, hS, _⟩ := h; exact congrArg (· + 1) (Ln.len hS)) ?_
  rintro cdv A outer s H vs Q E hr ⟨M0, xx, P, PE, a_, dx, us, H0, rfl, hca, d0, b0, n0_self, n1, ne, hS, a_self, hm, kr, go0⟩
  have lk : LkX M0 H0 (M0.add a_) H := (LkX.add n0_self).trans ⟨⟨rfl, rfl, fun b o f h => ⟨b0.keep b o f.1 h, f⟩⟩, fun b o n h => b0.keep b o n h⟩
  obtain ⟨v_lines, rfl, r_lines⟩ := hS
  replace r_lines : (RT (All R_Line)) (M0.add a_) xx v_lines H := lf (show (RT (All R_Line)) M0 xx v_lines H0 from r_lines) lk
  have d := d0.add n0_self a_self b0; have m_self : a_ ∈ (M0.add a_).l := List.mem_cons_self; have l0 : M0.le (M0.add a_) := Mm.le.refl.add; replace hca : (M0.add a_).ca = N.ga := hca
  generalize xx = x_lines at *
  replace hm : m_Style x_lines P PE := hm
  unfold m_Style at hm
  refine ⟨_, (pss_cons (ps_set (i := 2) sc_Style___init__.nd rfl (by first | exact Or.inl rfl | exact Or.inr rfl) (pe_ifExp (pt_val (pe_callB call_isi (by rfl) T.n_isinstance (by decide +kernel) (pa_cons (pv 1) (pa_cons (pe_globR rfl T.g_Lines) pa_nil)))) (pv 1) (pe_d D_checked_styles (hr.mono (by decide)) (by rfl) (passes_call (takes_of rfl rfl rfl rfl) fun _ _ _ _ z => z) (pa_cons (pv 1) pa_nil))))
    (pss_one (ps_fld (pv 0) (SlX.pe_sl (pv 2)) rfl))), ?_⟩
  refine q_set d (go0.at b0 l0) (ev_ifF (et_val (ev_isi (b := false) (ClsV.own _) T.kt_tuple_Lines (fun _ _ _ => ty_tup) (ev_var rfl r_lines) (fun _ => rfl))) (ev_d hca (ea_one (ev_var rfl r_lines)))) hm fun v_held x_held H1 e hm r_held => ?_
  have d := e.dice; have b0 := b0.t l0 e; replace r_lines := up r_lines e; replace a_self := e.keep _ _ (d0.fr n0_self).1 a_self
  refine l_fldP d (go0.at b0 l0) rfl a_self m_self T.c_Style T.na_Style_own_lines (by simp) (ev_sl (f := fun x => x) (i := 0) hca T.sc_Lines T.sl_Lines_own_lines (ev_var rfl r_held)) hm fun w_own_lines f_own_lines _ H2 pt em a_self r_own_lines hm => ?_
  have d := pt.xm.dice; have b0 := pt.xt b0 l0 n0_self; rw [putF_nil] at a_self; replace r_lines := upm r_lines pt.xm; replace r_held := upm r_held pt.xm; replace r_own_lines := upm r_own_lines em
  exact kr _ (f_own_lines) _ b0 a_self hm ⟨_, rfl, wk r_own_lines l0⟩
abbrev sp_Style (N : En) : Sp := FnW N (One (RT (All R_Line))) R_Style (fun p => m_Style p)
theorem ok_Style {N : En} (T : Txt N) (F : FunS N "Style" "__init__" "Style.__init__" zs_Style___init__) (D_checked_styles : Dn N 3 "checked_styles" (sp_checked_styles N)) : Dc N 4 "Style" (sp_Style N) := dc_mk (dvs := []) T.mk_Style T.g_Style (by simpa only [List.append_nil] using ok_Style___init__ T F D_checked_styles) id (fun h => by rw [List.append_nil]; exact h)
def N_require_style : List Str := ["value"]
theorem sc_require_style : FnScope N_require_style ["value"] (defScope zs_require_style) := ⟨rfl, rfl, rfl, by decide +kernel, rfl, by decide +kernel, by decide +kernel⟩
abbrev sp_require_style (N : En) : Sp := FnW N (One R_Style) RN (fun p => m_require_style p)
theorem ok_require_style {N : En} (T : Txt N) (F : FunP N "require_style" zs_require_style)  : Dn N 1 "require_style" (sp_require_style N) := by
  refine dn_mk F sc_require_style (fun _ _ _ _ _ _ us hl => match us, hl with | [_], _ => rfl) (fun vs H Q E h => by obtain ⟨_, _, _, _, _, _, hS, _⟩ := h; exact Ln.len hS) ?_
  rintro cdv A outer s H0 vs Q E hr ⟨M0, x_value, P, PE, hca, d, hS, hm, kr, go0⟩
  obtain ⟨v_value, rfl, r_value⟩ := hS
  replace r_value : R_Style M0 x_value v_value H0 := r_value
  replace hm : m_require_style x_value P PE := hm
  unfold m_require_style at hm
  have b0 : Xt M0 H0 H0 := .refl d; have l0 : M0.le M0 := .refl; have d0 := d
  refine ⟨_, (pss_one (ps_if (pt_not (pt_val (pe_callB call_isi (by rfl) T.n_isinstance (by decide +kernel) (pa_cons (pv 0) (pa_cons (pe_globR rfl T.g_Style) pa_nil)))))
      (pss_one ps_never) pss_nil)), ?_⟩
  refine l_if0 d (go0.at b0 l0) (et_not (et_val (ev_isi (b := true) (ClsV.own _) T.kt_Style_Style (fun _ _ _ => ty_ins hca T.c_Style T.is_Style) (ev_var rfl r_value) (fun _ => rfl)))) hm (fun H1 e hm => ?_) (fun H1 e hm => ?_)
  · skip
    have d := e.dice; have b0 := b0.t l0 e; replace r_value := up r_value e
    exact hm.elim
  · skip
    have d := e.dice; have b0 := b0.t l0 e; replace r_value := up r_value e
    exact kr .non () _ b0 hm rfl
def N_require_like_sorts : List Str := ["one", "other"]
theorem sc_require_like_sorts : FnScope N_require_like_sorts ["one", "other"] (defScope zs_require_like_sorts) := ⟨rfl, rfl, rfl, by decide +kernel, rfl, by decide +kernel, by decide +kernel⟩
abbrev sp_require_like_sorts (N : En) : Sp := FnW N (Cons R_Style (One R_Style)) RN (fun p => m_require_like_sorts p.1 p.2)
theorem ok_require_like_sorts {N : En} (T : Txt N) (F : FunP N "require_like_sorts" zs_require_like_sorts)  : Dn N 1 "require_like_sorts" (sp_require_like_sorts N) := by
  refine dn_mk F sc_require_like_sorts (fun _ _ _ _ _ _ us hl => match us, hl with | [_, _], _ => rfl) (fun vs H Q E h => by obtain ⟨_, _, _, _, _, _, hS, _⟩ := h; exact Ln.len hS) ?_
  rintro cdv A outer s H0 vs Q E hr ⟨M0, xx, P, PE, hca, d, hS, hm, kr, go0⟩
  obtain ⟨x_one, x_other⟩ := xx
  obtain ⟨v_one, _, rfl, r_one, v_other, rfl, r_other⟩ := hS
  replace r_one : R_Style M0 x_one v_one H0 := r_one
  replace r_other : R_Style M0 x_other v_other H0 := r_other
  replace hm : m_require_like_sorts x_one x_other P PE := hm
  unfold m_require_like_sorts at hm
  have b0 : Xt M0 H0 H0 := .refl d; have l0 : M0.le M0 := .refl; have d0 := d
  refine ⟨_, (pss_one (ps_if (pt_cmpR op_ne (pe_callB call_len_seq (by rfl) T.n_len (by decide +kernel) (pa_cons (pe_fld (pe_ix ix_tup (pe_fld (pv 0) rfl) pe_int (fun _ _ => rfl)) rfl) pa_nil)) (pe_callB call_len_seq (by rfl) T.n_len (by decide +kernel) (pa_cons (pe_fld (pe_ix ix_tup (pe_fld (pv 1) rfl) pe_int (fun _ _ => rfl)) rfl) pa_nil)) (nomark _))
      (pss_one ps_never) pss_nil)), ?_⟩
  refine l_if0 d (go0.at b0 l0) (et_test (ev_op o_ne (ev_cb c_lenT (ea_one (ev_fld hca T.c_Line T.na_Line_own_base at_Line_own_base (ev_op o_ixT (ev_fld hca T.c_Style T.na_Style_own_lines at_Style_own_lines (ev_var rfl r_one)) ev_int)))) (ev_cb c_lenT (ea_one (ev_fld hca T.c_Line T.na_Line_own_base at_Line_own_base (ev_op o_ixT (ev_fld hca T.c_Style T.na_Style_own_lines at_Style_own_lines (ev_var rfl r_other)) ev_int)))))) hm (fun H1 e hm => ?_) (fun H1 e hm => ?_)
  · skip
    have d := e.dice; have b0 := b0.t l0 e; replace r_one := up r_one e; replace r_other := up r_other e
    exact hm.elim
  · skip
    have d := e.dice; have b0 := b0.t l0 e; replace r_one := up r_one e; replace r_other := up r_other e
    exact kr .non () _ b0 hm rfl
def N_Style___init__P : List Str := ["self", "lines", "held"]
theorem sc_Style___init__P : FnScope N_Style___init__P ["self", "lines"] (defScope zs_Style___init__P) := ⟨rfl, rfl, rfl, by decide +kernel, rfl, by decide +kernel, by decide +kernel⟩
abbrev sp_Style___init__P (N : En) : Sp := InitW N "Style" (One R_Lines) FStyle (fun p => m_StyleP p)
theorem ok_Style___init__P {N : En} (T : Txt N) (F : FunS N "Style" "__init__" "Style.__init__" zs_Style___init__P) (D_checked_styles : Dn N 3 "checked_styles" (sp_checked_styles N)) : Fr N 4 (N.ma "Style" "__init__") (sp_Style___init__P N) := by
  refine fs_mk F sc_Style___init__P (sp := sp_Style___init__P N) (fun _ _ _ _ _ _ us hl => match us, hl with | [_, _], _ => rfl) (fun vs H Q E h => by obtain ⟨_, _, _, _, _, _, _, _, rfl, _, _, _, _, _, _, hS, _⟩ := h; exact congrArg (· + 1) (Ln.len hS)) ?_
  rintro cdv A outer s H vs Q E hr ⟨M0, xx, P, PE, a_, dx, us, H0, rfl, hca, d0, b0, n0_self, n1, ne, hS, a_self, hm, kr, go0⟩
  have lk : LkX M0 H0 (M0.add a_) H := (LkX.add n0_self).trans ⟨⟨rfl, rfl, fun b o f h => ⟨b0.keep b o f.1 h, f⟩⟩, fun b o n h => b0.keep b o n h⟩
  obtain ⟨v_lines, rfl, r_lines⟩ := hS
  replace r_lines : R_Lines (M0.add a_) xx v_lines H := lf (show R_Lines M0 xx v_lines H0 from r_lines) lk
  have d := d0.add n0_self a_self b0; have m_self : a_ ∈ (M0.add a_).l := List.mem_cons_self; have l0 : M0.le (M0.add a_) := Mm.le.refl.add; replace hca : (M0.add a_).ca = N.ga := hca
  generalize xx = x_lines at *
  replace hm : m_StyleP x_lines P PE := hm
  unfold m_StyleP at hm
  refine ⟨_, (pss_cons (ps_set (i := 2) sc_Style___init__P.nd rfl (by first | exact Or.inl rfl | exact Or.inr rfl) (pe_ifExp (pt_val (pe_callB (SlX.call_isiSl (.ref (N.ga "Lines"))) (by rfl) T.n_isinstance (by decide +kernel) (pa_cons (pv 1) (pa_cons (pe_globR rfl T.g_Lines) pa_nil)))) (pv 1) (pe_d D_checked_styles (hr.mono (by decide)) (by rfl) (passes_call (takes_of rfl rfl rfl rfl) fun _ _ _ _ z => z) (pa_cons (pv 1) pa_nil))))
    (pss_one (ps_fld (pv 0) (SlX.pe_sl (pv 2)) rfl))), ?_⟩
  refine q_set d (go0.at b0 l0) (ev_ifT (et_val (ev_isiSl (b := true) hca T.sc_Lines T.is_Lines.s T.kt_Lines_Lines (ev_var rfl r_lines) (fun _ => rfl))) (ev_var rfl r_lines)) hm fun v_held x_held H1 e hm r_held => ?_
  have d := e.dice; have b0 := b0.t l0 e; replace r_lines := up r_lines e; replace a_self := e.keep _ _ (d0.fr n0_self).1 a_self
  refine l_fldP d (go0.at b0 l0) rfl a_self m_self T.c_Style T.na_Style_own_lines (by simp) (ev_sl (f := fun x => x) (i := 0) hca T.sc_Lines T.sl_Lines_own_lines (ev_var rfl r_held)) hm fun w_own_lines f_own_lines _ H2 pt em a_self r_own_lines hm => ?_
  have d := pt.xm.dice; have b0 := pt.xt b0 l0 n0_self; rw [putF_nil] at a_self; replace r_lines := upm r_lines pt.xm; replace r_held := upm r_held pt.xm; replace r_own_lines := upm r_own_lines em
  exact kr _ (f_own_lines) _ b0 a_self hm ⟨_, rfl, wk r_own_lines l0⟩
abbrev sp_StyleP (N : En) : Sp := FnW N (One R_Lines) R_Style (fun p => m_StyleP p)
theorem ok_StyleP {N : En} (T : Txt N) (F : FunS N "Style" "__init__" "Style.__init__" zs_Style___init__P) (D_checked_styles : Dn N 3 "checked_styles" (sp_checked_styles N)) : Dc N 4 "Style" (sp_StyleP N) := dc_mk (dvs := []) T.mk_Style T.g_Style (by simpa only [List.append_nil] using ok_Style___init__P T F D_checked_styles) id (fun h => by rw [List.append_nil]; exact h)
def N_style_inT : List Str := ["lines"]
theorem sc_style_inT : FnScope N_style_inT ["lines"] (defScope zs_style_inT) := ⟨rfl, rfl, rfl, by decide +kernel, rfl, by decide +kernel, by decide +kernel⟩
abbrev sp_style_inT (N : En) : Sp := FnW N (One (RT (All R_Line))) R_Style (fun p => m_style_inT p)
theorem ok_style_inT {N : En} (T : Txt N) (F : FunP N "style_in" zs_style_inT) (D_Lines : Dc N 1 "Lines" (sp_Lines N)) (D_StyleP : Dc N 4 "Style" (sp_StyleP N)) : Dn N 6 "style_in" (sp_style_inT N) := by
  refine dn_mk F sc_style_inT (fun _ _ _ _ _ _ us hl => match us, hl with | [_], _ => rfl) (fun vs H Q E h => by obtain ⟨_, _, _, _, _, _, hS, _⟩ := h; exact Ln.len hS) ?_
  rintro cdv A outer s H0 vs Q E hr ⟨M0, x_lines, P, PE, hca, d, hS, hm, kr, go0⟩
  obtain ⟨v_lines, rfl, r_lines⟩ := hS
  replace r_lines : (RT (All R_Line)) M0 x_lines v_lines H0 := r_lines
  replace hm : m_style_inT x_lines P PE := hm
  unfold m_style_inT at hm
  have b0 : Xt M0 H0 H0 := .refl d; have l0 : M0.le M0 := .refl; have d0 := d
  refine ⟨_, (pss_one (ps_ret (pe_c D_StyleP (hr.mono (by decide)) (by rfl) (passes_call (takes_of rfl rfl rfl rfl) fun _ _ _ _ z => z) (pa_cons (pe_c D_Lines (hr.mono (by decide)) (by rfl) (passes_call (takes_of rfl rfl rfl rfl) fun _ _ _ _ z => z) (pa_cons (pe_callTy call_tuple_of (by rfl) T.n_tuple (by decide +kernel) (pa_cons (pv 0) pa_nil)) pa_nil)) pa_nil)))), ?_⟩
  exact q_ret d (go0.at b0 l0) (ev_d hca (ea_one (ev_d hca (ea_one (ev_cb c_tupT (ea_one (ev_var rfl r_lines))))))) hm fun v z H1 e p r => kr v z H1 (b0.t l0 e) p (wk r l0)
def N_Style___or__ : List Str := ["self", "other"]
theorem sc_Style___or__ : FnScope N_Style___or__ ["self", "other"] (defScope zs_Style___or__) := ⟨rfl, rfl, rfl, by decide +kernel, rfl, by decide +kernel, by decide +kernel⟩
abbrev sp_Style___or__ (N : En) : Sp := FnW N (Cons R_Style (One R_Style)) R_Style (fun p => m_Style___or__ p.1 p.2)
theorem ok_Style___or__ {N : En} (T : Txt N) (F : FunM N "Style" "__or__" "Style.__or__" zs_Style___or__) (D_require_style : Dn N 1 "require_style" (sp_require_style N)) (D_require_like_sorts : Dn N 1 "require_like_sorts" (sp_require_like_sorts N)) (D_style_inT : Dn N 6 "style_in" (sp_style_inT N)) : Dm N 7 "Style" "__or__" (sp_Style___or__ N) := by
  refine dm_mk F sc_Style___or__ (fun _ _ _ _ _ _ us hl => match us, hl with | [_, _], _ => rfl) (fun vs H Q E h => by obtain ⟨_, _, _, _, _, _, hS, _⟩ := h; exact Ln.len hS) ?_
  rintro cdv A outer s H0 vs Q E hr ⟨M0, xx, P, PE, hca, d, hS, hm, kr, go0⟩
  obtain ⟨x_self, x_other⟩ := xx
  obtain ⟨v_self, _, rfl, r_self, v_other, rfl, r_other⟩ := hS
  replace r_self : R_Style M0 x_self v_self H0 := r_self
  replace r_other : R_Style M0 x_other v_other H0 := r_other
  replace hm : m_Style___or__ x_self x_other P PE := hm
  unfold m_Style___or__ at hm
  have b0 : Xt M0 H0 H0 := .refl d; have l0 : M0.le M0 := .refl; have d0 := d
  refine ⟨_, (pss_cons (ps_expr (pe_d D_require_style (hr.mono (by decide)) (by rfl) (passes_call (takes_of rfl rfl rfl rfl) fun _ _ _ _ z => z) (pa_cons (pv 1) pa_nil)))
    (pss_cons (ps_expr (pe_d D_require_like_sorts (hr.mono (by decide)) (by rfl) (passes_call (takes_of rfl rfl rfl rfl) fun _ _ _ _ z => z) (pa_cons (pv 0) (pa_cons (pv 1) pa_nil))))
    (pss_one (ps_ret (pe_d D_style_inT (hr.mono (by decide)) (by rfl) (passes_call (takes_of rfl rfl rfl rfl) fun _ _ _ _ z => z) (pa_cons (pe_op op_catA (pe_fld (pv 0) rfl) (pe_fld (pv 1) rfl)) pa_nil)))))), ?_⟩
  refine q_drop d (go0.at b0 l0) (ev_d hca (ea_one (ev_var rfl r_other))) hm fun _ _ H1 e hm _ => ?_
  have d := e.dice; have b0 := b0.t l0 e; replace r_self := up r_self e; replace r_other := up r_other e
  refine q_drop d (go0.at b0 l0) (ev_d hca (ea_cons (ev_var rfl r_self) (ea_one (ev_var rfl r_other)))) hm fun _ _ H2 e hm _ => ?_
  have d := e.dice; have b0 := b0.t l0 e; replace r_self := up r_self e; replace r_other := up r_other e
  exact q_ret d (go0.at b0 l0) (ev_d hca (ea_one (ev_op o_catA (ev_fld hca T.c_Style T.na_Style_own_lines at_Style_own_lines (ev_var rfl r_self)) (ev_fld hca T.c_Style T.na_Style_own_lines at_Style_own_lines (ev_var rfl r_other))))) hm fun v z H3 e p r => kr v z H3 (b0.t l0 e) p (wk r l0)
def N_plus : List Str := ["one", "other", "left", "right"]
theorem sc_plus : FnScope N_plus ["one", "other"] (defScope zs_plus) := ⟨rfl, rfl, rfl, by decide +kernel, rfl, by decide +kernel, by decide +kernel⟩
abbrev sp_plus (N : En) : Sp := FnW N (Cons (RT (All RI)) (One (RT (All RI)))) (RT (All RI)) (fun p => m_plus p.1 p.2)
theorem ok_plus {N : En} (T : Txt N) (F : FunP N "plus" zs_plus)  : Dn N 1 "plus" (sp_plus N) := by
  refine dn_mk F sc_plus (fun _ _ _ _ _ _ us hl => match us, hl with | [_, _], _ => rfl) (fun vs H Q E h => by obtain ⟨_, _, _, _, _, _, hS, _⟩ := h; exact Ln.len hS) ?_
  rintro cdv A outer s H0 vs Q E hr ⟨M0, xx, P, PE, hca, d, hS, hm, kr, go0⟩
  obtain ⟨x_one, x_other⟩ := xx
  obtain ⟨v_one, _, rfl, r_one, v_other, rfl, r_other⟩ := hS
  replace r_one : (RT (All RI)) M0 x_one v_one H0 := r_one
  replace r_other : (RT (All RI)) M0 x_other v_other H0 := r_other
  replace hm : m_plus x_one x_other P PE := hm
  unfold m_plus at hm
  have b0 : Xt M0 H0 H0 := .refl d; have l0 : M0.le M0 := .refl; have d0 := d
  refine ⟨_, (pss_one (ps_ret (pe_callTy call_tuple_of (by rfl) T.n_tuple (by decide +kernel) (pa_cons (pe_lc (own := [("left", 2), ("right", 3)]) rfl sc_plus.nd (GX.pi_zipS true true (by rfl) T.n_zip (pa_cons (pv 0) (pa_cons (pv 1) pa_nil))) (blkOk_by (own := [("left", 2), ("right", 3)]) (N := N_plus) (sc := defScope zs_plus) (by decide +kernel)) (fun _ _ _ _ _ => (pg_tupK N.K (by rfl) (n := 2) rfl (pgs_cons (pg_name (i := 2) sc_plus.nd rfl (by first | exact Or.inl rfl | exact Or.inr rfl)) (pgs_cons (pg_name (i := 3) sc_plus.nd rfl (by first | exact Or.inl rfl | exact Or.inr rfl)) pgs_nil)))) (fun _ _ _ _ _ => pts_nil) (fun _ _ _ _ _ => (pe_op op_add (pv 2) (pv 3)))) pa_nil)))), ?_⟩
  exact q_ret d (go0.at b0 l0) (ev_cb c_tupL (ea_one (ev_lcM2 (R' := RI) (EvI.x (ei_zipS (ea_cons (ev_var rfl r_one) (ea_one (ev_var rfl r_other))))) (fun M1 H1' q1 σ1 L1 D1 hT => by obtain ⟨v1_0, v1_1, rfl, s1_0, s1_1⟩ := hT; exact (ev_op o_add (ev_var rfl s1_0) (ev_var rfl s1_1)))))) hm fun v z H1 e p r => kr v z H1 (b0.t l0 e) p (wk r l0)
def N_Line___init__P : List Str := ["self", "base", "packs", "held"]
theorem sc_Line___init__P : FnScope N_Line___init__P ["self", "base", "packs"] (defScope zs_Line___init__P) := ⟨rfl, rfl, rfl, by decide +kernel, rfl, by decide +kernel, by decide +kernel⟩
abbrev sp_Line___init__P (N : En) : Sp := InitW N "Line" (Cons R_Parts (One RV)) FLine (fun p => m_LineP p.1)
theorem ok_Line___init__P {N : En} (T : Txt N) (F : FunMD N "Line" "__init__" "Line.__init__" zs_Line___init__P [.ref (He.dflAt ("Line", some "__init__") 0 N.K)]) (D_checked_lines : Dn N 4 "checked_lines" (sp_checked_lines N)) : Fr N 5 (N.ma "Line" "__init__") (fun vs H Q E => sp_Line___init__P N (vs ++ [.ref (He.dflAt ("Line", some "__init__") 0 N.K)]) H Q E) := by
  refine dm_mkD 2 0 (dvs := [.ref (He.dflAt ("Line", some "__init__") 0 N.K)]) (by simp) rfl F.1 sc_Line___init__P (sp := sp_Line___init__P N) (fun _ _ _ _ _ _ _ us its h1 h2 => match us, its, h1, h2 with | [_, _], [_], _, _ => ⟨_, rfl, rfl⟩) (fun vs H Q E h => by obtain ⟨_, _, _, _, _, _, _, _, rfl, _, _, _, _, _, _, hS, _⟩ := h; exact congrArg (· + 1) (Ln.len hS)) ?_
  rintro cdv A outer s H vs Q E hr ⟨M0, xx, P, PE, a_, dx, us, H0, rfl, hca, d0, b0, n0_self, n1, ne, hS, a_self, hm, kr, go0⟩
  have lk : LkX M0 H0 (M0.add a_) H := (LkX.add n0_self).trans ⟨⟨rfl, rfl, fun b o f h => ⟨b0.keep b o f.1 h, f⟩⟩, fun b o n h => b0.keep b o n h⟩
  obtain ⟨x_base, x_packs⟩ := xx
  obtain ⟨v_base, _, rfl, r_base, v_packs, rfl, r_packs⟩ := hS
  replace r_base : R_Parts (M0.add a_) x_base v_base H := lf (show R_Parts M0 x_base v_base H0 from r_base) lk
  replace r_packs : RV (M0.add a_) x_packs v_packs H := lf (show RV M0 x_packs v_packs H0 from r_packs) lk
  have d := d0.add n0_self a_self b0; have m_self : a_ ∈ (M0.add a_).l := List.mem_cons_self; have l0 : M0.le (M0.add a_) := Mm.le.refl.add; replace hca : (M0.add a_).ca = N.ga := hca
  replace hm : m_LineP x_base P PE := hm
  unfold m_LineP at hm
  refine ⟨_, (pss_cons (ps_set (i := 3) sc_Line___init__P.nd rfl (by first | exact Or.inl rfl | exact Or.inr rfl) (pe_ifExp (pt_val (pe_callB (SlX.call_isiSl (.ref (N.ga "Parts"))) (by rfl) T.n_isinstance (by decide +kernel) (pa_cons (pv 1) (pa_cons (pe_globR rfl T.g_Parts) pa_nil)))) (pv 1) (pe_d D_checked_lines (hr.mono (by decide)) (by rfl) (passes_call (takes_of rfl rfl rfl rfl) fun _ _ _ _ z => z) (pa_cons (pv 1) (pa_cons (pv 2) pa_nil)))))
    (pss_cons (ps_fld (pv 0) (SlX.pe_sl (pv 3)) rfl)
    (pss_one (ps_fld (pv 0) (SlX.pe_sl (pv 3)) rfl)))), ?_⟩
  refine q_set d (go0.at b0 l0) (ev_ifT (et_val (ev_isiSl (b := true) hca T.sc_Parts T.is_Parts.s T.kt_Parts_Parts (ev_var rfl r_base) (fun _ => rfl))) (ev_var rfl r_base)) hm fun v_held x_held H1 e hm r_held => ?_
  have d := e.dice; have b0 := b0.t l0 e; replace r_base := up r_base e; replace r_packs := up r_packs e; replace a_self := e.keep _ _ (d0.fr n0_self).1 a_self
  refine q_fldP d (go0.at b0 l0) rfl a_self m_self T.c_Line T.na_Line_own_base (by simp) (ev_sl (i := 0) hca T.sc_Parts T.sl_Parts_own_base (ev_var rfl r_held)) hm fun w_own_base f_own_base _ H2 pt em a_self r_own_base hm => ?_
  have d := pt.xm.dice; have b0 := pt.xt b0 l0 n0_self; rw [putF_nil] at a_self; replace r_base := upm r_base pt.xm; replace r_packs := upm r_packs pt.xm; replace r_held := upm r_held pt.xm; replace r_own_base := upm r_own_base em
  refine l_fldP d (go0.at b0 l0) rfl a_self m_self T.c_Line T.na_Line_own_packs (by simp) (ev_sl (i := 1) hca T.sc_Parts T.sl_Parts_own_packs (ev_var rfl r_held)) hm fun w_own_packs f_own_packs _ H3 pt em a_self r_own_packs hm => ?_
  have d := pt.xm.dice; have b0 := pt.xt b0 l0 n0_self; rw [putF_next (by decide +kernel), putF_nil] at a_self; replace r_base := upm r_base pt.xm; replace r_packs := upm r_packs pt.xm; replace r_held := upm r_held pt.xm; replace r_own_base := upm r_own_base pt.xm; replace r_own_packs := upm r_own_packs em
  exact kr _ (f_own_base, f_own_packs) _ b0 a_self hm ⟨_, _, rfl, wk r_own_base l0, _, rfl, wk r_own_packs l0⟩
abbrev sp_LineP (N : En) : Sp := FnW N (One R_Parts) R_Line (fun p => m_LineP p)
theorem ok_LineP {N : En} (T : Txt N) (F : FunMD N "Line" "__init__" "Line.__init__" zs_Line___init__P [.ref (He.dflAt ("Line", some "__init__") 0 N.K)]) (D_checked_lines : Dn N 4 "checked_lines" (sp_checked_lines N)) : Dc N 5 "Line" (sp_LineP N) := dc_mk (dvs := [.ref (He.dflAt ("Line", some "__init__") 0 N.K)]) T.mk_Line T.g_Line (ok_Line___init__P T F D_checked_lines) (fun p => (p, .ref (He.dflAt ("Line", some "__init__") 0 N.K))) (fun h => by obtain ⟨v0, rfl, r0⟩ := h; exact ⟨v0, _, rfl, r0, _, rfl, rfl⟩)
def N_line_inT : List Str := ["base", "packs", "pack"]
theorem sc_line_inT : FnScope N_line_inT ["base", "packs"] (defScope zs_line_inT) := ⟨rfl, rfl, rfl, by decide +kernel, rfl, by decide +kernel, by decide +kernel⟩
abbrev sp_line_inT (N : En) : Sp := FnW N (Cons (RT (All RI)) (One (RT (All (RT (All RI)))))) R_Line (fun p => m_line_inT p.1 p.2)
theorem ok_line_inT {N : En} (T : Txt N) (F : FunP N "line_in" zs_line_inT) (D_Parts : Dc N 1 "Parts" (sp_Parts N)) (D_LineP : Dc N 5 "Line" (sp_LineP N)) : Dn N 7 "line_in" (sp_line_inT N) := by
  refine dn_mk F sc_line_inT (fun _ _ _ _ _ _ us hl => match us, hl with | [_, _], _ => rfl) (fun vs H Q E h => by obtain ⟨_, _, _, _, _, _, hS, _⟩ := h; exact Ln.len hS) ?_
  rintro cdv A outer s H0 vs Q E hr ⟨M0, xx, P, PE, hca, d, hS, hm, kr, go0⟩
  obtain ⟨x_base, x_packs⟩ := xx
  obtain ⟨v_base, _, rfl, r_base, v_packs, rfl, r_packs⟩ := hS
  replace r_base : (RT (All RI)) M0 x_base v_base H0 := r_base
  replace r_packs : (RT (All (RT (All RI)))) M0 x_packs v_packs H0 := r_packs
  replace hm : m_line_inT x_base x_packs P PE := hm
  unfold m_line_inT at hm
  have b0 : Xt M0 H0 H0 := .refl d; have l0 : M0.le M0 := .refl; have d0 := d
  refine ⟨_, (pss_one (ps_ret (pe_c D_LineP (hr.mono (by decide)) (by rfl) (passes_call (takes_of rfl rfl rfl rfl) fun _ _ _ _ z => z) (pa_cons (pe_c D_Parts (hr.mono (by decide)) (by rfl) (passes_call (takes_of rfl rfl rfl rfl) fun _ _ _ _ z => z) (pa_cons (pv 0) (pa_cons (pe_callTy call_tuple_of (by rfl) T.n_tuple (by decide +kernel) (pa_cons (pe_callB (SX.cr_sortS rfl hr.units) (by rfl) T.n_sorted (by decide +kernel) (pa_cons (pe_callTy (SX.cr_setR rfl hr.units) (by rfl) T.n_set (by decide +kernel) (pa_cons (pe_lc (own := [("pack", 2)]) (g := gName 2) rfl sc_line_inT.nd (pi_tup (pv 1)) (blkOk_by (own := [("pack", 2)]) (N := N_line_inT) (sc := defScope zs_line_inT) (by decide +kernel)) (fun _ _ _ _ _ => (pg_name (i := 2) sc_line_inT.nd rfl (by first | exact Or.inl rfl | exact Or.inr rfl))) (fun _ _ _ _ _ => (pts_one (pt_cmpR op_gt (pe_callB (GX.cr_maxTK N.K (by rfl) rfl (hu_of hr)) (by rfl) T.n_max (by decide +kernel) (pa_cons (pv 2) pa_nil)) pe_int (nomark _)))) (fun _ _ _ _ _ => (pv 2))) pa_nil)) pa_nil)) pa_nil)) pa_nil))) pa_nil)))), ?_⟩
  exact q_ret d (go0.at b0 l0) (ev_d hca (ea_one (ev_d hca (ea_cons (ev_var rfl r_base) (ea_one (ev_cb c_tupL (ea_one (ev_cb c_sortSt (ea_one (ev_cb c_setR (ea_one (ev_lc1 (R' := (RT (All RI))) (EvI.x (ei_tup (ev_var rfl r_packs))) (fun M1 H1' q1 σ1 L1 D1 hT => by obtain ⟨v1_0, rfl, s1_0⟩ := hT; exact (et_test (ev_op o_gt (ev_cb c_maxT (ea_one (ev_var rfl s1_0))) ev_int))) (fun M1 H1' q1 σ1 L1 D1 hT => by obtain ⟨v1_0, rfl, s1_0⟩ := hT; exact (ev_var rfl s1_0)))))))))))))) hm fun v z H1 e p r => kr v z H1 (b0.t l0 e) p (wk r l0)
def N_sum_of_lines : List Str := ["one", "other"]
theorem sc_sum_of_lines : FnScope N_sum_of_lines ["one", "other"] (defScope zs_sum_of_lines) := ⟨rfl, rfl, rfl, by decide +kernel, rfl, by decide +kernel, by decide +kernel⟩
abbrev sp_sum_of_lines (N : En) : Sp := FnW N (Cons R_Line (One R_Line)) R_Line (fun p => m_sum_of_lines p.1 p.2)
theorem ok_sum_of_lines {N : En} (T : Txt N) (F : FunP N "sum_of_lines" zs_sum_of_lines) (D_plus : Dn N 1 "plus" (sp_plus N)) (D_line_inT : Dn N 7 "line_in" (sp_line_inT N)) : Dn N 8 "sum_of_lines" (sp_sum_of_lines N) := by
  refine dn_mk F sc_sum_of_lines (fun _ _ _ _ _ _ us hl => match us, hl with | [_, _], _ => rfl) (fun vs H Q E h => by obtain ⟨_, _, _, _, _, _, hS, _⟩ := h; exact Ln.len hS) ?_
  rintro cdv A outer s H0 vs Q E hr ⟨M0, xx, P, PE, hca, d, hS, hm, kr, go0⟩
  obtain ⟨x_one, x_other⟩ := xx
  obtain ⟨v_one, _, rfl, r_one, v_other, rfl, r_other⟩ := hS
  replace r_one : R_Line M0 x_one v_one H0 := r_one
  replace r_other : R_Line M0 x_other v_other H0 := r_other
  replace hm : m_sum_of_lines x_one x_other P PE := hm
  unfold m_sum_of_lines at hm
  have b0 : Xt M0 H0 H0 := .refl d; have l0 : M0.le M0 := .refl; have d0 := d
  refine ⟨_, (pss_one (ps_ret (pe_d D_line_inT (hr.mono (by decide)) (by rfl) (passes_call (takes_of rfl rfl rfl rfl) fun _ _ _ _ z => z) (pa_cons (pe_d D_plus (hr.mono (by decide)) (by rfl) (passes_call (takes_of rfl rfl rfl rfl) fun _ _ _ _ z => z) (pa_cons (pe_fld (pv 0) rfl) (pa_cons (pe_fld (pv 1) rfl) pa_nil))) (pa_cons (pe_op op_catA (pe_fld (pv 0) rfl) (pe_fld (pv 1) rfl)) pa_nil))))), ?_⟩
  exact q_ret d (go0.at b0 l0) (ev_d hca (ea_cons (ev_d hca (ea_cons (ev_fld hca T.c_Line T.na_Line_own_base at_Line_own_base (ev_var rfl r_one)) (ea_one (ev_fld hca T.c_Line T.na_Line_own_base at_Line_own_base (ev_var rfl r_other))))) (ea_one (ev_op o_catA (ev_fld hca T.c_Line T.na_Line_own_packs at_Line_own_packs (ev_var rfl r_one)) (ev_fld hca T.c_Line T.na_Line_own_packs at_Line_own_packs (ev_var rfl r_other)))))) hm fun v z H1 e p r => kr v z H1 (b0.t l0 e) p (wk r l0)
def N_style_in : List Str := ["lines"]
theorem sc_style_in : FnScope N_style_in ["lines"] (defScope zs_style_in) := ⟨rfl, rfl, rfl, by decide +kernel, rfl, by decide +kernel, by decide +kernel⟩
abbrev sp_style_in (N : En) : Sp := FnW N (One (RL (All R_Line))) R_Style (fun p => m_style_in p)
theorem ok_style_in {N : En} (T : Txt N) (F : FunP N "style_in" zs_style_in) (D_Lines : Dc N 1 "Lines" (sp_Lines N)) (D_StyleP : Dc N 4 "Style" (sp_StyleP N)) : Dn N 6 "style_in" (sp_style_in N) := by
  refine dn_mk F sc_style_in (fun _ _ _ _ _ _ us hl => match us, hl with | [_], _ => rfl) (fun vs H Q E h => by obtain ⟨_, _, _, _, _, _, hS, _⟩ := h; exact Ln.len hS) ?_
  rintro cdv A outer s H0 vs Q E hr ⟨M0, x_lines, P, PE, hca, d, hS, hm, kr, go0⟩
  obtain ⟨v_lines, rfl, r_lines⟩ := hS
  replace r_lines : (RL (All R_Line)) M0 x_lines v_lines H0 := r_lines
  replace hm : m_style_in x_lines P PE := hm
  unfold m_style_in at hm
  have b0 : Xt M0 H0 H0 := .refl d; have l0 : M0.le M0 := .refl; have d0 := d
  refine ⟨_, (pss_one (ps_ret (pe_c D_StyleP (hr.mono (by decide)) (by rfl) (passes_call (takes_of rfl rfl rfl rfl) fun _ _ _ _ z => z) (pa_cons (pe_c D_Lines (hr.mono (by decide)) (by rfl) (passes_call (takes_of rfl rfl rfl rfl) fun _ _ _ _ z => z) (pa_cons (pe_callTy call_tuple_of (by rfl) T.n_tuple (by decide +kernel) (pa_cons (pv 0) pa_nil)) pa_nil)) pa_nil)))), ?_⟩
  exact q_ret d (go0.at b0 l0) (ev_d hca (ea_one (ev_d hca (ea_one (ev_cb c_tupL (ea_one (ev_var rfl r_lines))))))) hm fun v z H1 e p r => kr v z H1 (b0.t l0 e) p (wk r l0)
def N_Style___add__ : List Str := ["self", "other", "one", "two"]
theorem sc_Style___add__ : FnScope N_Style___add__ ["self", "other"] (defScope zs_Style___add__) := ⟨rfl, rfl, rfl, by decide +kernel, rfl, by decide +kernel, by decide +kernel⟩
abbrev sp_Style___add__ (N : En) : Sp := FnW N (Cons R_Style (One R_Style)) R_Style (fun p => m_Style___add__ p.1 p.2)
theorem ok_Style___add__ {N : En} (T : Txt N) (F : FunM N "Style" "__add__" "Style.__add__" zs_Style___add__) (D_require_style : Dn N 1 "require_style" (sp_require_style N)) (D_require_like_sorts : Dn N 1 "require_like_sorts" (sp_require_like_sorts N)) (D_sum_of_lines : Dn N 8 "sum_of_lines" (sp_sum_of_lines N)) (D_style_in : Dn N 6 "style_in" (sp_style_in N)) : Dm N 9 "Style" "__add__" (sp_Style___add__ N) := by
  refine dm_mk F sc_Style___add__ (fun _ _ _ _ _ _ us hl => match us, hl with | [_, _], _ => rfl) (fun vs H Q E h => by obtain ⟨_, _, _, _, _, _, hS, _⟩ := h; exact Ln.len hS) ?_
  rintro cdv A outer s H0 vs Q E hr ⟨M0, xx, P, PE, hca, d, hS, hm, kr, go0⟩
  obtain ⟨x_self, x_other⟩ := xx
  obtain ⟨v_self, _, rfl, r_self, v_other, rfl, r_other⟩ := hS
  replace r_self : R_Style M0 x_self v_self H0 := r_self
  replace r_other : R_Style M0 x_other v_other H0 := r_other
  replace hm : m_Style___add__ x_self x_other P PE := hm
  unfold m_Style___add__ at hm
  have b0 : Xt M0 H0 H0 := .refl d; have l0 : M0.le M0 := .refl; have d0 := d
  refine ⟨_, (pss_cons (ps_expr (pe_d D_require_style (hr.mono (by decide)) (by rfl) (passes_call (takes_of rfl rfl rfl rfl) fun _ _ _ _ z => z) (pa_cons (pv 1) pa_nil)))
    (pss_cons (ps_expr (pe_d D_require_like_sorts (hr.mono (by decide)) (by rfl) (passes_call (takes_of rfl rfl rfl rfl) fun _ _ _ _ z => z) (pa_cons (pv 0) (pa_cons (pv 1) pa_nil))))
    (pss_one (ps_ret (pe_d D_style_in (hr.mono (by decide)) (by rfl) (passes_call (takes_of rfl rfl rfl rfl) fun _ _ _ _ z => z) (pa_cons (pe_lc2 (own := [("one", 2), ("two", 3)]) (vs1 := [3]) (g := gName 2) (g1 := gName 3) rfl sc_Style___add__.nd (pi_tup (pe_fld (pv 0) rfl)) (blkOk_by (own := [("one", 2), ("two", 3)]) (N := N_Style___add__) (sc := defScope zs_Style___add__) (by decide +kernel)) (by decide) (fun _ _ _ _ _ => (pg_name (i := 2) sc_Style___add__.nd rfl (by first | exact Or.inl rfl | exact Or.inr rfl))) (fun _ _ _ _ _ => pts_nil) (fun _ _ _ _ _ => (pi_tupK N.K (by rfl) (pe_fldK N.K (by rfl) (pv 1) (by rfl)))) (fun _ _ _ _ _ => (pg_name (i := 3) sc_Style___add__.nd rfl (by first | exact Or.inl rfl | exact Or.inr rfl))) (fun _ _ _ _ _ => pts_nil) (fun _ _ _ _ _ => (pe_d D_sum_of_lines (hr.mono (by decide)) (by rfl) px0 (pa_cons (pv 2) (pa_cons (pv 3) pa_nil))))) pa_nil)))))), ?_⟩
  refine q_drop d (go0.at b0 l0) (ev_d hca (ea_one (ev_var rfl r_other))) hm fun _ _ H1 e hm _ => ?_
  have d := e.dice; have b0 := b0.t l0 e; replace r_self := up r_self e; replace r_other := up r_other e
  refine q_drop d (go0.at b0 l0) (ev_d hca (ea_cons (ev_var rfl r_self) (ea_one (ev_var rfl r_other)))) hm fun _ _ H2 e hm _ => ?_
  have d := e.dice; have b0 := b0.t l0 e; replace r_self := up r_self e; replace r_other := up r_other e
  exact q_ret d (go0.at b0 l0) (ev_d hca (ea_one (ev_lcT1 (R' := R_Line) (EvI.x (ei_tup (ev_fld hca T.c_Style T.na_Style_own_lines at_Style_own_lines (ev_var rfl r_self)))) (fun M1 H1' q1 σ1 L1 D1 hT => by obtain ⟨v1_0, rfl, s1_0⟩ := hT; exact (ei_tup (ev_fld (L1.ca.trans hca) T.c_Style T.na_Style_own_lines at_Style_own_lines (ev_var rfl (lf r_other L1))))) (fun M1 H1' q1 q1i σ1 σ1i L1 D1 hT hT' => by obtain ⟨v1_0, rfl, s1_0⟩ := hT; obtain ⟨u1, rfl, t1⟩ := hT'; exact et_yes) (fun M1 H1' q1 q1i σ1 σ1i L1 D1 hT hT' => by obtain ⟨v1_0, rfl, s1_0⟩ := hT; obtain ⟨u1, rfl, t1⟩ := hT'; exact (ev_d (L1.ca.trans hca) (ea_cons (ev_var rfl s1_0) (ea_one (ev_var rfl t1)))))))) hm fun v z H3 e p r => kr v z H3 (b0.t l0 e) p (wk r l0)
def N_Style_lines : List Str := ["self"]
theorem sc_Style_lines : FnScope N_Style_lines ["self"] (defScope zs_Style_lines) := ⟨rfl, rfl, rfl, by decide +kernel, rfl, by decide +kernel, by decide +kernel⟩
abbrev sp_Style_lines (N : En) : Sp := FnW N (One R_Style) (RT (All R_Line)) (fun p => m_Style_lines p)
theorem ok_Style_lines {N : En} (T : Txt N) (F : FunPr N "Style" "lines" "Style.lines" zs_Style_lines)  : Dp N 1 "Style" "lines" (sp_Style_lines N) := by
  refine dp_mk F sc_Style_lines (fun _ _ _ _ _ _ us hl => match us, hl with | [_], _ => rfl) (fun vs H Q E h => by obtain ⟨_, _, _, _, _, _, hS, _⟩ := h; exact Ln.len hS) ?_
  rintro g cdv A outer s H0 vs Q E hr ⟨M0, x_self, P, PE, hca, d, hS, hm, kr, go0⟩
  obtain ⟨v_self, rfl, r_self⟩ := hS
  replace r_self : R_Style M0 x_self v_self H0 := r_self
  replace hm : m_Style_lines x_self P PE := hm
  unfold m_Style_lines at hm
  have b0 : Xt M0 H0 H0 := .refl d; have l0 : M0.le M0 := .refl; have d0 := d
  refine ⟨_, (pss_one (ps_ret (pe_fld (pv 0) rfl))), ?_⟩
  exact q_ret d (go0.at b0 l0) (ev_fld hca T.c_Style T.na_Style_own_lines at_Style_own_lines (ev_var rfl r_self)) hm fun v z H1 e p r => kr v z H1 (b0.t l0 e) p (wk r l0)
def N_Line___eq__ : List Str := ["self", "value"]
theorem sc_Line___eq__ : FnScope N_Line___eq__ ["self", "value"] (defScope zs_Line___eq__) := ⟨rfl, rfl, rfl, by decide +kernel, rfl, by decide +kernel, by decide +kernel⟩
abbrev sp_Line___eq__ (N : En) : Sp := FnW N (Cons R_Line (One R_Line)) RB (fun p => m_Line___eq__ p.1 p.2)
theorem ok_Line___eq__ {N : En} (T : Txt N) (F : FunM N "Line" "__eq__" "Line.__eq__" zs_Line___eq__)  : Dm N 1 "Line" "__eq__" (sp_Line___eq__ N) := by
  refine dm_mk F sc_Line___eq__ (fun _ _ _ _ _ _ us hl => match us, hl with | [_, _], _ => rfl) (fun vs H Q E h => by obtain ⟨_, _, _, _, _, _, hS, _⟩ := h; exact Ln.len hS) ?_
  rintro cdv A outer s H0 vs Q E hr ⟨M0, xx, P, PE, hca, d, hS, hm, kr, go0⟩
  obtain ⟨x_self, x_value⟩ := xx
  obtain ⟨v_self, _, rfl, r_self, v_value, rfl, r_value⟩ := hS
  replace r_self : R_Line M0 x_self v_self H0 := r_self
  replace r_value : R_Line M0 x_value v_value H0 := r_value
  replace hm : m_Line___eq__ x_self x_value P PE := hm
  unfold m_Line___eq__ at hm
  have b0 : Xt M0 H0 H0 := .refl d; have l0 : M0.le M0 := .refl; have d0 := d
  refine ⟨_, (pss_one (ps_ret (pe_and (pe_callB call_isi (by rfl) T.n_isinstance (by decide +kernel) (pa_cons (pv 1) (pa_cons (pe_globR rfl T.g_Line) pa_nil))) (pe_and (pe_cmpR (op_eqD hr.units) (pe_fld (pv 0) rfl) (pe_fld (pv 1) rfl) (nomark _)) (pe_one (pe_cmpR (op_eqD hr.units) (pe_fld (pv 0) rfl) (pe_fld (pv 1) rfl) (nomark _))))))), ?_⟩
  exact q_ret d (go0.at b0 l0) (ev_andP (ev_isi (b := true) (ClsV.own _) T.kt_Line_Line (fun _ _ _ => ty_ins hca T.c_Line T.is_Line) (ev_var rfl r_value) (fun _ => rfl)) (ev_andP (ev_op (o_eqD (R := (RT (All RI)))) (ev_fld hca T.c_Line T.na_Line_own_base at_Line_own_base (ev_var rfl r_self)) (ev_fld hca T.c_Line T.na_Line_own_base at_Line_own_base (ev_var rfl r_value))) (ev_op (o_eqD (R := (RT (All (RT (All RI)))))) (ev_fld hca T.c_Line T.na_Line_own_packs at_Line_own_packs (ev_var rfl r_self)) (ev_fld hca T.c_Line T.na_Line_own_packs at_Line_own_packs (ev_var rfl r_value))))) hm fun v z H1 e p r => kr v z H1 (b0.t l0 e) p (wk r l0)
def N_Style___len__ : List Str := ["self"]
theorem sc_Style___len__ : FnScope N_Style___len__ ["self"] (defScope zs_Style___len__) := ⟨rfl, rfl, rfl, by decide +kernel, rfl, by decide +kernel, by decide +kernel⟩
abbrev sp_Style___len__ (N : En) : Sp := FnW N (One R_Style) RI (fun p => m_Style___len__ p)
theorem ok_Style___len__ {N : En} (T : Txt N) (F : FunM N "Style" "__len__" "Style.__len__" zs_Style___len__)  : Dm N 1 "Style" "__len__" (sp_Style___len__ N) := by
  refine dm_mk F sc_Style___len__ (fun _ _ _ _ _ _ us hl => match us, hl with | [_], _ => rfl) (fun vs H Q E h => by obtain ⟨_, _, _, _, _, _, hS, _⟩ := h; exact Ln.len hS) ?_
  rintro cdv A outer s H0 vs Q E hr ⟨M0, x_self, P, PE, hca, d, hS, hm, kr, go0⟩
  obtain ⟨v_self, rfl, r_self⟩ := hS
  replace r_self : R_Style M0 x_self v_self H0 := r_self
  replace hm : m_Style___len__ x_self P PE := hm
  unfold m_Style___len__ at hm
  have b0 : Xt M0 H0 H0 := .refl d; have l0 : M0.le M0 := .refl; have d0 := d
  refine ⟨_, (pss_one (ps_ret (pe_callB call_len_seq (by rfl) T.n_len (by decide +kernel) (pa_cons (pe_fld (pv 0) rfl) pa_nil)))), ?_⟩
  exact q_ret d (go0.at b0 l0) (ev_cb c_lenT (ea_one (ev_fld hca T.c_Style T.na_Style_own_lines at_Style_own_lines (ev_var rfl r_self)))) hm fun v z H1 e p r => kr v z H1 (b0.t l0 e) p (wk r l0)
def N_Style___iter__ : List Str := ["self"]
theorem sc_Style___iter__ : FnScope N_Style___iter__ ["self"] (defScope zs_Style___iter__) := ⟨rfl, rfl, rfl, by decide +kernel, rfl, by decide +kernel, by decide +kernel⟩
abbrev sp_Style___iter__ (N : En) : Str := "own_lines"
theorem ok_Style___iter__ {N : En} (T : Txt N) (F : FunM N "Style" "__iter__" "Style.__iter__" zs_Style___iter__) : GX.Di N 1 "Style" (sp_Style___iter__ N) := by
  refine GX.di_mk F sc_Style___iter__ rfl (fun _ _ _ _ _ _ us hl => match us, hl with | [_], _ => rfl) ?_
  rintro cdv A outer s H0 a l xs Q E hr ⟨dx, fs, ha, hf, hl⟩ hq
  refine ⟨_, pss_one (ps_ret (pe_callB GX.call_iterT (by rfl) T.n_iter (by decide +kernel) (pa_cons (pe_fld (pv 0) rfl) pa_nil))), ?_⟩
  exact ⟨_, rfl, a, N.ga "Style", dx, fs, .ref l, rfl, ha, T.c_Style, T.na_Style_own_lines, hf, l, xs, rfl, hl, hq⟩
def N_Line_base : List Str := ["self"]
theorem sc_Line_base : FnScope N_Line_base ["self"] (defScope zs_Line_base) := ⟨rfl, rfl, rfl, by decide +kernel, rfl, by decide +kernel, by decide +kernel⟩
abbrev sp_Line_base (N : En) : Sp := FnW N (One R_Line) (RT (All RI)) (fun p => m_Line_base p)
theorem ok_Line_base {N : En} (T : Txt N) (F : FunPr N "Line" "base" "Line.base" zs_Line_base)  : Dp N 1 "Line" "base" (sp_Line_base N) := by
  refine dp_mk F sc_Line_base (fun _ _ _ _ _ _ us hl => match us, hl with | [_], _ => rfl) (fun vs H Q E h => by obtain ⟨_, _, _, _, _, _, hS, _⟩ := h; exact Ln.len hS) ?_
  rintro g cdv A outer s H0 vs Q E hr ⟨M0, x_self, P, PE, hca, d, hS, hm, kr, go0⟩
  obtain ⟨v_self, rfl, r_self⟩ := hS
  replace r_self : R_Line M0 x_self v_self H0 := r_self
  replace hm : m_Line_base x_self P PE := hm
  unfold m_Line_base at hm
  have b0 : Xt M0 H0 H0 := .refl d; have l0 : M0.le M0 := .refl; have d0 := d
  refine ⟨_, (pss_one (ps_ret (pe_fld (pv 0) rfl))), ?_⟩
  exact q_ret d (go0.at b0 l0) (ev_fld hca T.c_Line T.na_Line_own_base at_Line_own_base (ev_var rfl r_self)) hm fun v z H1 e p r => kr v z H1 (b0.t l0 e) p (wk r l0)
def N_Line_packs : List Str := ["self"]
theorem sc_Line_packs : FnScope N_Line_packs ["self"] (defScope zs_Line_packs) := ⟨rfl, rfl, rfl, by decide +kernel, rfl, by decide +kernel, by decide +kernel⟩
abbrev sp_Line_packs (N : En) : Sp := FnW N (One R_Line) (RT (All (RT (All RI)))) (fun p => m_Line_packs p)
theorem ok_Line_packs {N : En} (T : Txt N) (F : FunPr N "Line" "packs" "Line.packs" zs_Line_packs)  : Dp N 1 "Line" "packs" (sp_Line_packs N) := by
  refine dp_mk F sc_Line_packs (fun _ _ _ _ _ _ us hl => match us, hl with | [_], _ => rfl) (fun vs H Q E h => by obtain ⟨_, _, _, _, _, _, hS, _⟩ := h; exact Ln.len hS) ?_
  rintro g cdv A outer s H0 vs Q E hr ⟨M0, x_self, P, PE, hca, d, hS, hm, kr, go0⟩
  obtain ⟨v_self, rfl, r_self⟩ := hS
  replace r_self : R_Line M0 x_self v_self H0 := r_self
  replace hm : m_Line_packs x_self P PE := hm
  unfold m_Line_packs at hm
  have b0 : Xt M0 H0 H0 := .refl d; have l0 : M0.le M0 := .refl; have d0 := d
  refine ⟨_, (pss_one (ps_ret (pe_fld (pv 0) rfl))), ?_⟩
  exact q_ret d (go0.at b0 l0) (ev_fld hca T.c_Line T.na_Line_own_packs at_Line_own_packs (ev_var rfl r_self)) hm fun v z H1 e p r => kr v z H1 (b0.t l0 e) p (wk r l0)
def N_line_orders : List Str := ["line", "most", "found", "known", "at", "pack", "order"]
theorem sc_line_orders : FnScope N_line_orders ["line", "most"] (defScope zs_line_orders) := ⟨rfl, rfl, rfl, by decide +kernel, rfl, by decide +kernel, by decide +kernel⟩
abbrev sp_line_orders (N : En) : Sp := FnW N (Cons R_Line (One RI)) (RDt (RT (All RI)) RB) (fun p => m_line_orders p.1 p.2)
theorem ok_line_orders {N : En} (T : Txt N) (F : FunP N "line_orders" zs_line_orders) (D_plus : Dn N 1 "plus" (sp_plus N)) : Dn N 2 "line_orders" (sp_line_orders N) := by
  refine dn_mk F sc_line_orders (fun _ _ _ _ _ _ us hl => match us, hl with | [_, _], _ => rfl) (fun vs H Q E h => by obtain ⟨_, _, _, _, _, _, hS, _⟩ := h; exact Ln.len hS) ?_
  rintro cdv A outer s H0 vs Q E hr ⟨M0, xx, P, PE, hca, d, hS, hm, kr, go0⟩
  obtain ⟨x_line, x_most⟩ := xx
  obtain ⟨v_line, _, rfl, r_line, v_most, rfl, r_most⟩ := hS
  replace r_line : R_Line M0 x_line v_line H0 := r_line
  replace r_most : RI M0 x_most v_most H0 := r_most
  replace hm : m_line_orders x_line x_most P PE := hm
  unfold m_line_orders at hm
  have b0 : Xt M0 H0 H0 := .refl d; have l0 : M0.le M0 := .refl; have d0 := d
  refine ⟨_, (pss_cons (ps_if (pt_cmpR op_gt (pe_callB (GX.cr_maxT rfl (hu_of hr)) (by rfl) T.n_max (by decide +kernel) (pa_cons (pe_fld (pv 0) rfl) pa_nil)) (pv 1) (nomark _))
      (pss_one (ps_ret (GX.pe_frz pe_dnewT))) pss_nil)
    (pss_cons (ps_set (i := 2) sc_line_orders.nd rfl (by first | exact Or.inl rfl | exact Or.inr rfl) (pe_lst (pa_cons (pe_fld (pv 0) rfl) pa_nil)))
    (pss_cons (ps_set (i := 3) sc_line_orders.nd rfl (by first | exact Or.inl rfl | exact Or.inr rfl) (GX.pe_dispT (hu_of hr) (pps_cons (pe_fld (pv 0) rfl) pe_bl pps_nil) rfl rfl (by simp) (by decide)))
    (pss_cons (ps_set (i := 4) sc_line_orders.nd rfl (by first | exact Or.inl rfl | exact Or.inr rfl) pe_int)
    (pss_cons (ps_while (passes_of rfl) (pt_cmpR op_lt (pv 4) (pe_callB call_len_seq (by rfl) T.n_len (by decide +kernel) (pa_cons (pv 2) pa_nil)) (nomark _))
      (pss_cons (ps_for (passes_of rfl) rfl (pi_tup (pe_fld (pv 0) rfl)) (pg_name (i := 5) sc_line_orders.nd rfl (by first | exact Or.inl rfl | exact Or.inr rfl))
      (pss_cons (ps_set (i := 6) sc_line_orders.nd rfl (by first | exact Or.inl rfl | exact Or.inr rfl) (pe_d D_plus (hr.mono (by decide)) (by rfl) (passes_call (takes_of rfl rfl rfl rfl) fun _ _ _ _ z => z) (pa_cons (pe_ix ix_list (pv 2) (pv 4) (fun _ _ => rfl)) (pa_cons (pv 5) pa_nil))))
    (pss_one (ps_if (PW.pt (pw_and (pt_cmp (pc_dnotin (hu_of hr) (pv 6) (pv 3))) (pw_and1 (pt_cmpR op_le (pe_callB (GX.cr_maxT rfl (hu_of hr)) (by rfl) T.n_max (by decide +kernel) (pa_cons (pv 6) pa_nil)) (pv 1) (nomark _)))))
      (pss_cons (ps_dput (hu_of hr) (pv 3) (pv 6) pe_bl rfl)
    (pss_one (ps_expr (pe_bm PySem.F.plainAttrs_list PySem.F.slot_list_append PySem.F.type_list_append mt_append (pv 2) (pa_cons (pv 6) pa_nil))))) pss_nil))))
    (pss_one (ps_set (i := 4) sc_line_orders.nd rfl (by first | exact Or.inl rfl | exact Or.inr rfl) (pe_op op_add (pv 4) pe_int)))))
    (pss_one (ps_ret (GX.pe_frz (pv 3))))))))), ?_⟩
  refine q_if0 d (go0.at b0 l0) (et_test (ev_op o_gt (ev_cb c_maxT (ea_one (ev_fld hca T.c_Line T.na_Line_own_base at_Line_own_base (ev_var rfl r_line)))) (ev_var rfl r_most))) hm (fun H1 e hm => ?_) (fun H1 e hm => ?_)
  · skip
    have d := e.dice; have b0 := b0.t l0 e; replace r_line := up r_line e; replace r_most := up r_most e
    exact q_ret d (go0.at b0 l0) ev_dnewZ hm fun v z H2 e p r => kr v z H2 (b0.t l0 e) p (wk r l0)
  · skip
    have d := e.dice; have b0 := b0.t l0 e; replace r_line := up r_line e; replace r_most := up r_most e
    refine q_new d (go0.at b0 l0) (ef_lstN (el_cons (ev_fld hca T.c_Line T.na_Line_own_base at_Line_own_base (ev_var rfl r_line)) el_nil) (by decide)) hm fun D_found x_found H2 e n_found lk d hm a_found => ?_
    have n0_found := b0.none n_found; have b0 := b0.t l0 e; have l0 := l0.add (D := D_found); replace r_line := lf r_line lk; replace r_most := lf r_most lk; have m_found : D_found ∈ (Mm.add M0 D_found).l := List.mem_cons_self; replace hca := lk.ca.trans hca
    refine q_new d (go0.at b0 l0) (ef_dispT (fun M1 H1' L1 D1 => (ept_cons (ev_fld (L1.ca.trans hca) T.c_Line T.na_Line_own_base at_Line_own_base (ev_var rfl (lf r_line L1))) ev_bl ept_nil)) (by decide)) hm fun D_known x_known H3 e n_known lk d hm a_known => ?_
    have n0_known := b0.none n_known; have ne_found_known : D_found ≠ D_known := RAt.ne a_found n_known; have b0 := b0.t l0 e; have l0 := l0.add (D := D_known); replace r_line := lf r_line lk; replace r_most := lf r_most lk; replace a_found := lf a_found lk; replace m_found : D_found ∈ (Mm.add (Mm.add M0 D_found) D_known).l := List.mem_cons_of_mem _ m_found; have m_known : D_known ∈ (Mm.add (Mm.add M0 D_found) D_known).l := List.mem_cons_self; replace hca := lk.ca.trans hca
    refine q_set d (go0.at b0 l0) ev_int hm fun v_at x_at H4 e hm r_at => ?_
    have d := e.dice; have b0 := b0.t l0 e; replace r_line := up r_line e; replace r_most := up r_most e; replace a_found := up a_found e; replace a_known := up a_known e
    refine q_while (S := (Cons (RAt D_found (All (RT (All RI)))) (Cons (RDAt D_known (RT (All RI)) RB) (One RI)))) (Sl := (fun us σ' => ∃ (u_found : V) (u_known : V) (u_at : V) (o_pack : Option V) (o_order : Option V), us = [u_found, u_known, u_at] ∧ σ' = [some v_line, some v_most, some u_found, some u_known, some u_at, o_pack, o_order])) (Bp := (fun H' => Xt M0 H0 H')) d hm (fun _ _ h e => h.t l0 e) (fun H' hB => go0.at hB l0) ⟨b0, [V.ref D_found, V.ref D_known, v_at], ⟨_, _, rfl, a_found, _, _, rfl, a_known, _, rfl, r_at⟩, ⟨_, _, _, _, _, rfl, rfl⟩⟩ (fun st vs σ' H5' hB ex hS hSl => ?_) (fun st vs σ' H5' P' hB ex hS hSl hm => ?_) (fun st vs σ' H5' hB ex hS hSl hm => ?_)
    · skip
      have hm : True := trivial
      obtain ⟨x_found, x_known, x_at⟩ := st
      obtain ⟨v_found, v_known, v_at, o_pack, o_order, rfl, rfl⟩ := hSl
      obtain ⟨_, _, ⟨⟩, a_found, _, _, ⟨⟩, a_known, _, ⟨⟩, r_at⟩ := hS
      obtain rfl : v_found = .ref D_found := a_found.1
      obtain rfl : v_known = .ref D_known := a_known.1
      replace a_found : (RAt D_found (All (RT (All RI)))) _ x_found (.ref D_found) _ := a_found
      replace a_known : (RDAt D_known (RT (All RI)) RB) _ x_known (.ref D_known) _ := a_known
      replace r_at : RI _ x_at v_at _ := r_at
      try dsimp only at hm
      replace r_line := upm r_line ex
      replace r_most := upm r_most ex
      have d := ex.dice
      have b0 := hB
      exact (et_test (ev_op o_lt (ev_var rfl r_at) (ev_cb c_lenW (ea_one (ev_var rfl (RAt.w a_found))))))
    · skip
      have dl1 := d
      obtain ⟨x_found, x_known, x_at⟩ := st
      obtain ⟨v_found, v_known, v_at, o_pack, o_order, rfl, rfl⟩ := hSl
      obtain ⟨_, _, ⟨⟩, a_found, _, _, ⟨⟩, a_known, _, ⟨⟩, r_at⟩ := hS
      obtain rfl : v_found = .ref D_found := a_found.1
      obtain rfl : v_known = .ref D_known := a_known.1
      replace a_found : (RAt D_found (All (RT (All RI)))) _ x_found (.ref D_found) _ := a_found
      replace a_known : (RDAt D_known (RT (All RI)) RB) _ x_known (.ref D_known) _ := a_known
      replace r_at : RI _ x_at v_at _ := r_at
      try dsimp only at hm
      replace r_line := upm r_line ex
      replace r_most := upm r_most ex
      have d := ex.dice
      have b0 := hB
      have c1 := ex; have l1 : Mm.le (Mm.add (Mm.add M0 D_found) D_known) (Mm.add (Mm.add M0 D_found) D_known) := Mm.le.refl
      have m1_known := m_known
      have m1_found := m_found
      refine q_for (S := (Cons (RAt D_found (All (RT (All RI)))) (One (RDAt D_known (RT (All RI)) RB)))) (Sl := (fun us σ' => ∃ (u_found : V) (u_known : V) (o_pack : Option V) (o_order : Option V), us = [u_found, u_known] ∧ σ' = [some v_line, some v_most, some u_found, some u_known, some v_at, o_pack, o_order])) (Bp := (fun H' => Xt M0 H0 H' ∧ Xm (Mm.add (Mm.add M0 D_found) D_known) H4 H')) (fun σ' => (T1 5 (RT (All RI)) σ')) d (go0.at b0 l0) (ei_tup (ev_fld hca T.c_Line T.na_Line_own_packs at_Line_own_packs (ev_var rfl r_line))) hm (fun _ _ h e => by obtain ⟨h0, h1⟩ := h; exact ⟨h0.t l0 e, h1.tl l1 e⟩) (fun _ _ _ _ _ r q => tg1 r q) (fun H6 e => ⟨⟨b0.t l0 e, c1.tl l1 e⟩, [V.ref D_found, V.ref D_known], ⟨_, _, rfl, (up a_found e), _, rfl, (up a_known e)⟩, ⟨_, _, _, _, rfl, rfl⟩⟩) (fun H6 e st x_pack vs σ' σ2 H6' P' hB ex hS hSl hT hm => ?_) (fun H6 e st vs σ' H6' hB ex hS hSl hm => ?_)
      · skip
        have dl2 := e.dice
        unfold T1 at hT
        obtain ⟨x_found, x_known⟩ := st
        obtain ⟨v_found, v_known, o_pack, o_order, rfl, rfl⟩ := hSl
        obtain ⟨_, _, ⟨⟩, a_found, _, ⟨⟩, a_known⟩ := hS
        obtain rfl : v_found = .ref D_found := a_found.1
        obtain rfl : v_known = .ref D_known := a_known.1
        replace a_found : (RAt D_found (All (RT (All RI)))) _ x_found (.ref D_found) _ := a_found
        replace a_known : (RDAt D_known (RT (All RI)) RB) _ x_known (.ref D_known) _ := a_known
        try dsimp only at hm
        replace r_line := upm (up r_line e) ex
        replace r_most := upm (up r_most e) ex
        replace r_at := upm (up r_at e) ex
        have d := ex.dice
        obtain ⟨b0, c1⟩ := hB
        obtain ⟨v_pack, rfl, r_pack⟩ := hT
        have c2 := ex; have l2 : Mm.le (Mm.add (Mm.add M0 D_found) D_known) (Mm.add (Mm.add M0 D_found) D_known) := Mm.le.refl
        have m2_known := m_known
        have m2_found := m_found
        refine q_set d (go0.at b0 l0) (ev_d hca (ea_cons (ev_op o_ixW (ev_var rfl (RAt.w a_found)) (ev_var rfl r_at)) (ea_one (ev_var rfl r_pack)))) hm fun v_order x_order H7 e hm r_order => ?_
        have d := e.dice; have b0 := b0.t l0 e; have c1 := c1.tl l1 e; have c2 := c2.tl l2 e; replace r_line := up r_line e; replace r_most := up r_most e; replace a_found := up a_found e; replace a_known := up a_known e; replace r_at := up r_at e; replace r_pack := up r_pack e
        refine l_if0 d (go0.at b0 l0) (et_and (et_val (ev_dnin (ev_var rfl r_order) (ev_var rfl (RDAt.w a_known)))) (et_test (ev_op o_le (ev_cb c_maxT (ea_one (ev_var rfl r_order))) (ev_var rfl r_most)))) hm (fun H8 e hm => ?_) (fun H8 e hm => ?_)
        · skip
          have d := e.dice; have b0 := b0.t l0 e; have c1 := c1.tl l1 e; have c2 := c2.tl l2 e; replace r_line := up r_line e; replace r_most := up r_most e; replace a_found := up a_found e; replace a_known := up a_known e; replace r_at := up r_at e; replace r_pack := up r_pack e; replace r_order := up r_order e
          refine q_dput d (go0.at b0 l0) (fun _ _ q => ⟨_, rfl, q⟩) a_known m_known ev_bl (ev_var rfl r_order) hm fun x_known H9 pt a_known hm => ?_
          have d := pt.xm.dice; have b0 := pt.xt b0 l0 n0_known; have c1 := pt.xmI c1 l1 m1_known; have c2 := pt.xmI c2 l2 m2_known; replace r_line := upm r_line pt.xm; replace r_most := upm r_most pt.xm; replace a_found := pt.oth a_found (by first | exact ne_found_known | exact fun z => ne_known_found z.symm); replace r_at := upm r_at pt.xm; replace r_pack := upm r_pack pt.xm; replace r_order := upm r_order pt.xm
          refine l_app d (go0.at b0 l0) (fun _ _ q => ⟨_, rfl, q⟩) a_found m_found (ev_var rfl r_order) hm fun x_found H10 pt a_found hm => ?_
          have d := pt.xm.dice; have b0 := pt.xt b0 l0 n0_found; have c1 := pt.xmI c1 l1 m1_found; have c2 := pt.xmI c2 l2 m2_found; replace r_line := upm r_line pt.xm; replace r_most := upm r_most pt.xm; replace a_known := pt.othD a_known (by first | exact ne_known_found | exact fun z => ne_found_known z.symm); replace r_at := upm r_at pt.xm; replace r_pack := upm r_pack pt.xm; replace r_order := upm r_order pt.xm
          exact ⟨⟨b0, c1⟩, c2, (x_found, x_known), [V.ref D_found, V.ref D_known], ⟨_, _, rfl, (wk a_found l2), _, rfl, (wk a_known l2)⟩, ⟨_, _, _, _, rfl, rfl⟩, hm⟩
        · skip
          have d := e.dice; have b0 := b0.t l0 e; have c1 := c1.tl l1 e; have c2 := c2.tl l2 e; replace r_line := up r_line e; replace r_most := up r_most e; replace a_found := up a_found e; replace a_known := up a_known e; replace r_at := up r_at e; replace r_pack := up r_pack e; replace r_order := up r_order e
          exact ⟨⟨b0, c1⟩, c2, (x_found, x_known), [V.ref D_found, V.ref D_known], ⟨_, _, rfl, (wk a_found l2), _, rfl, (wk a_known l2)⟩, ⟨_, _, _, _, rfl, rfl⟩, hm⟩
      · skip
        obtain ⟨x_found, x_known⟩ := st
        obtain ⟨v_found, v_known, o_pack, o_order, rfl, rfl⟩ := hSl
        obtain ⟨_, _, ⟨⟩, a_found, _, ⟨⟩, a_known⟩ := hS
        obtain rfl : v_found = .ref D_found := a_found.1
        obtain rfl : v_known = .ref D_known := a_known.1
        replace a_found : (RAt D_found (All (RT (All RI)))) _ x_found (.ref D_found) _ := a_found
        replace a_known : (RDAt D_known (RT (All RI)) RB) _ x_known (.ref D_known) _ := a_known
        try dsimp only at hm
        replace r_line := upm (up r_line e) ex
        replace r_most := upm (up r_most e) ex
        replace r_at := upm (up r_at e) ex
        have d := ex.dice
        obtain ⟨b0, c1⟩ := hB
        refine l_set d (go0.at b0 l0) (ev_op o_add (ev_var rfl r_at) ev_int) hm fun v_at x_at H7 e hm r_at => ?_
        have d := e.dice; have b0 := b0.t l0 e; have c1 := c1.tl l1 e; replace r_line := up r_line e; replace r_most := up r_most e; replace a_found := up a_found e; replace a_known := up a_known e
        exact ⟨b0, c1, (x_found, x_known, x_at), [V.ref D_found, V.ref D_known, v_at], ⟨_, _, rfl, (wk a_found l1), _, _, rfl, (wk a_known l1), _, rfl, (wk r_at l1)⟩, ⟨_, _, _, _, _, rfl, rfl⟩, hm⟩
    · skip
      obtain ⟨x_found, x_known, x_at⟩ := st
      obtain ⟨v_found, v_known, v_at, o_pack, o_order, rfl, rfl⟩ := hSl
      obtain ⟨_, _, ⟨⟩, a_found, _, _, ⟨⟩, a_known, _, ⟨⟩, r_at⟩ := hS
      obtain rfl : v_found = .ref D_found := a_found.1
      obtain rfl : v_known = .ref D_known := a_known.1
      replace a_found : (RAt D_found (All (RT (All RI)))) _ x_found (.ref D_found) _ := a_found
      replace a_known : (RDAt D_known (RT (All RI)) RB) _ x_known (.ref D_known) _ := a_known
      replace r_at : RI _ x_at v_at _ := r_at
      try dsimp only at hm
      replace r_line := upm r_line ex
      replace r_most := upm r_most ex
      have d := ex.dice
      have b0 := hB
      have r_found := a_found.frz; replace d := d.wk (Mm.del_le (D := D_found)); replace r_line := wk r_line (Mm.del_le (D := D_found)); replace r_most := wk r_most (Mm.del_le (D := D_found)); replace a_known := wk a_known (Mm.del_le (D := D_found)); replace m_known := Mm.del_in (D := D_found) m_known (by first | exact ne_known_found | exact fun z => ne_found_known z.symm); replace r_at := wk r_at (Mm.del_le (D := D_found)); have l0 := le_del l0 d0 n0_found; replace hca : (Mm.del (Mm.add (Mm.add M0 D_found) D_known) D_found).ca = N.ga := hca; clear a_found m_found; revert r_found; generalize (V.ref D_found : V) = v_found; intro r_found
      exact q_retD d d0 b0 l0 n0_known (fun _ _ q => ⟨_, rfl, q⟩) a_known m_known hm fun H6 b p r => kr _ _ H6 b p r
def N_orders_up_to : List Str := ["style", "most", "line", "order"]
theorem sc_orders_up_to : FnScope N_orders_up_to ["style", "most"] (defScope zs_orders_up_to) := ⟨rfl, rfl, rfl, by decide +kernel, rfl, by decide +kernel, by decide +kernel⟩
abbrev sp_orders_up_to (N : En) : Sp := FnW N (Cons R_Style (One RI)) (RL (All (RT (All RI)))) (fun p => m_orders_up_to p.1 p.2)
theorem ok_orders_up_to {N : En} (T : Txt N) (F : FunP N "orders_up_to" zs_orders_up_to) (D_line_orders : Dn N 2 "line_orders" (sp_line_orders N)) : Dn N 3 "orders_up_to" (sp_orders_up_to N) := by
  refine dn_mk F sc_orders_up_to (fun _ _ _ _ _ _ us hl => match us, hl with | [_, _], _ => rfl) (fun vs H Q E h => by obtain ⟨_, _, _, _, _, _, hS, _⟩ := h; exact Ln.len hS) ?_
  rintro cdv A outer s H0 vs Q E hr ⟨M0, xx, P, PE, hca, d, hS, hm, kr, go0⟩
  obtain ⟨x_style, x_most⟩ := xx
  obtain ⟨v_style, _, rfl, r_style, v_most, rfl, r_most⟩ := hS
  replace r_style : R_Style M0 x_style v_style H0 := r_style
  replace r_most : RI M0 x_most v_most H0 := r_most
  replace hm : m_orders_up_to x_style x_most P PE := hm
  unfold m_orders_up_to at hm
  have b0 : Xt M0 H0 H0 := .refl d; have l0 : M0.le M0 := .refl; have d0 := d
  refine ⟨_, (pss_one (ps_ret (pe_callB (SX.cr_sortS rfl hr.units) (by rfl) T.n_sorted (by decide +kernel) (pa_cons (pe_callTy (SX.cr_setR rfl hr.units) (by rfl) T.n_set (by decide +kernel) (pa_cons (pe_lc2 (own := [("line", 2), ("order", 3)]) (vs1 := [3]) (g := gName 2) (g1 := gName 3) rfl sc_orders_up_to.nd (pi_tup (pe_fld (pv 0) rfl)) (blkOk_by (own := [("line", 2), ("order", 3)]) (N := N_orders_up_to) (sc := defScope zs_orders_up_to) (by decide +kernel)) (by decide) (fun _ _ _ _ _ => (pg_name (i := 2) sc_orders_up_to.nd rfl (by first | exact Or.inl rfl | exact Or.inr rfl))) (fun _ _ _ _ _ => pts_nil) (fun _ _ _ _ _ => (pi_keys (pe_d D_line_orders (hr.mono (by decide)) (by rfl) px0 (pa_cons (pv 2) (pa_cons (pv 1) pa_nil))))) (fun _ _ _ _ _ => (pg_name (i := 3) sc_orders_up_to.nd rfl (by first | exact Or.inl rfl | exact Or.inr rfl))) (fun _ _ _ _ _ => pts_nil) (fun _ _ _ _ _ => (pv 3))) pa_nil)) pa_nil)))), ?_⟩
  exact q_ret d (go0.at b0 l0) (ev_cb c_sortSt (ea_one (ev_cb c_setR (ea_one (ev_lcT1 (R' := (RT (All RI))) (EvI.x (ei_tup (ev_fld hca T.c_Style T.na_Style_own_lines at_Style_own_lines (ev_var rfl r_style)))) (fun M1 H1' q1 σ1 L1 D1 hT => by obtain ⟨v1_0, rfl, s1_0⟩ := hT; exact (ei_keysT (ev_d (L1.ca.trans hca) (ea_cons (ev_var rfl s1_0) (ea_one (ev_var rfl (lf r_most L1))))))) (fun M1 H1' q1 q1i σ1 σ1i L1 D1 hT hT' => by obtain ⟨v1_0, rfl, s1_0⟩ := hT; obtain ⟨u1, rfl, t1⟩ := hT'; exact et_yes) (fun M1 H1' q1 q1i σ1 σ1i L1 D1 hT hT' => by obtain ⟨v1_0, rfl, s1_0⟩ := hT; obtain ⟨u1, rfl, t1⟩ := hT'; exact (ev_var rfl t1))))))) hm fun v z H1 e p r => kr v z H1 (b0.t l0 e) p (wk r l0)
def N_Style_orders : List Str := ["self", "most"]
theorem sc_Style_orders : GScope N_Style_orders ["self", "most"] (defScope zs_Style_orders) := ⟨rfl, rfl, rfl, by decide +kernel, rfl, by decide +kernel, by decide +kernel⟩
abbrev sp_Style_orders (N : En) : SpG := FnGW N (Cons R_Style (One RI)) (RT (All RI)) (fun p => m_Style_orders p.1 p.2)
theorem ok_Style_orders {N : En} (T : Txt N) (F : FunM N "Style" "orders" "Style.orders" zs_Style_orders) (D_orders_up_to : Dn N 3 "orders_up_to" (sp_orders_up_to N)) (D_is_integer : Dn N 1 "is_integer" (sp_is_integer N)) : GX.DgM N 4 "Style" "orders" (sp_Style_orders N) := by
  refine GX.dgm_mk F sc_Style_orders (fun _ _ _ _ _ _ us hl => match us, hl with | [_, _], _ => rfl) (fun vs H Q E h => by obtain ⟨_, _, _, _, _, _, hS, _⟩ := h; exact Ln.len hS) ?_
  rintro cdv A outer s H0 vs Q E pn hr ⟨M0, xx, P, PE, hca, d, hS, hm, kr, go0⟩
  obtain ⟨x_self, x_most⟩ := xx
  obtain ⟨v_self, _, rfl, r_self, v_most, rfl, r_most⟩ := hS
  replace r_self : R_Style M0 x_self v_self H0 := r_self
  replace r_most : RI M0 x_most v_most H0 := r_most
  replace hm : m_Style_orders x_self x_most P PE := hm
  unfold m_Style_orders at hm
  have b0 : Xt M0 H0 H0 := .refl d; have l0 : M0.le M0 := .refl; have d0 := d
  refine ⟨_, (gss_cons (gs_ps (ps_if (pt_not (pt_val (pe_d D_is_integer (hr.mono (by decide)) (by rfl) (passes_call takes_gcx fun _ _ _ _ z => z) (pa_cons (pv 1) (pa_cons pe_int (pa_cons (pe_globI rfl T.i_MOST_LISTED) pa_nil))))))
      (pss_one ps_never) pss_nil))
    (gss_cons (gs_yieldFrom (yf_lst (pe_d D_orders_up_to (hr.mono (by decide)) (by rfl) (passes_call takes_gcx fun _ _ _ _ z => z) (pa_cons (pv 0) (pa_cons (pv 1) pa_nil)))) hr.hd)
    gss_nil)), ?_⟩
  refine g_seq ?_
  refine q_if0 d (go0.at b0 l0) (et_not (et_val (ev_d hca (ea_cons (ev_var rfl r_most) (ea_cons ev_int (ea_one (ev_some ev_int))))))) hm (fun H1 e hm => ?_) (fun H1 e hm => ?_)
  · skip
    have d := e.dice; have b0 := b0.t l0 e; replace r_self := up r_self e; replace r_most := up r_most e
    exact hm.elim
  · skip
    have d := e.dice; have b0 := b0.t l0 e; replace r_self := up r_self e; replace r_most := up r_most e
    exact g_from d (go0.at b0 l0) (ev_d hca (ea_cons (ev_var rfl r_self) (ea_one (ev_var rfl r_most)))) hm fun ws z H e p r => kr ws z H (b0.t l0 e) p r
def N_Style___getitem__ : List Str := ["self", "at"]
theorem sc_Style___getitem__ : FnScope N_Style___getitem__ ["self", "at"] (defScope zs_Style___getitem__) := ⟨rfl, rfl, rfl, by decide +kernel, rfl, by decide +kernel, by decide +kernel⟩
abbrev sp_Style___getitem__ (N : En) : Sp := FnW N (Cons R_Style (One RI)) R_Line (fun p => m_Style___getitem__ p.1 p.2)
theorem ok_Style___getitem__ {N : En} (T : Txt N) (F : FunM N "Style" "__getitem__" "Style.__getitem__" zs_Style___getitem__) (D_is_integer : Dn N 1 "is_integer" (sp_is_integer N)) : Dm N 2 "Style" "__getitem__" (sp_Style___getitem__ N) := by
  refine dm_mk F sc_Style___getitem__ (fun _ _ _ _ _ _ us hl => match us, hl with | [_, _], _ => rfl) (fun vs H Q E h => by obtain ⟨_, _, _, _, _, _, hS, _⟩ := h; exact Ln.len hS) ?_
  rintro cdv A outer s H0 vs Q E hr ⟨M0, xx, P, PE, hca, d, hS, hm, kr, go0⟩
  obtain ⟨x_self, x_at⟩ := xx
  obtain ⟨v_self, _, rfl, r_self, v_at, rfl, r_at⟩ := hS
  replace r_self : R_Style M0 x_self v_self H0 := r_self
  replace r_at : RI M0 x_at v_at H0 := r_at
  replace hm : m_Style___getitem__ x_self x_at P PE := hm
  unfold m_Style___getitem__ at hm
  have b0 : Xt M0 H0 H0 := .refl d; have l0 : M0.le M0 := .refl; have d0 := d
  refine ⟨_, (pss_cons (ps_if (pt_not (pt_val (pe_d D_is_integer (hr.mono (by decide)) (by rfl) (passes_call (takes_of rfl rfl rfl rfl) fun _ _ _ _ z => z) (pa_cons (pv 1) (pa_cons pe_int (pa_cons (pe_op op_sub (pe_callB call_len_seq (by rfl) T.n_len (by decide +kernel) (pa_cons (pe_fld (pv 0) rfl) pa_nil)) pe_int) pa_nil))))))
      (pss_one ps_never) pss_nil)
    (pss_one (ps_ret (pe_ix ix_tup (pe_fld (pv 0) rfl) (pv 1) (fun _ _ => rfl))))), ?_⟩
  refine q_if0 d (go0.at b0 l0) (et_not (et_val (ev_d hca (ea_cons (ev_var rfl r_at) (ea_cons ev_int (ea_one (ev_some (ev_op o_sub (ev_cb c_lenT (ea_one (ev_fld hca T.c_Style T.na_Style_own_lines at_Style_own_lines (ev_var rfl r_self)))) ev_int)))))))) hm (fun H1 e hm => ?_) (fun H1 e hm => ?_)
  · skip
    have d := e.dice; have b0 := b0.t l0 e; replace r_self := up r_self e; replace r_at := up r_at e
    exact hm.elim
  · skip
    have d := e.dice; have b0 := b0.t l0 e; replace r_self := up r_self e; replace r_at := up r_at e
    exact q_ret d (go0.at b0 l0) (ev_op o_ixT (ev_fld hca T.c_Style T.na_Style_own_lines at_Style_own_lines (ev_var rfl r_self)) (ev_var rfl r_at)) hm fun v z H2 e p r => kr v z H2 (b0.t l0 e) p (wk r l0)
def N_require_line : List Str := ["value"]
theorem sc_require_line : FnScope N_require_line ["value"] (defScope zs_require_line) := ⟨rfl, rfl, rfl, by decide +kernel, rfl, by decide +kernel, by decide +kernel⟩
abbrev sp_require_line (N : En) : Sp := FnW N (One R_Line) RN (fun p => m_require_line p)
theorem ok_require_line {N : En} (T : Txt N) (F : FunP N "require_line" zs_require_line)  : Dn N 1 "require_line" (sp_require_line N) := by
  refine dn_mk F sc_require_line (fun _ _ _ _ _ _ us hl => match us, hl with | [_], _ => rfl) (fun vs H Q E h => by obtain ⟨_, _, _, _, _, _, hS, _⟩ := h; exact Ln.len hS) ?_
  rintro cdv A outer s H0 vs Q E hr ⟨M0, x_value, P, PE, hca, d, hS, hm, kr, go0⟩
  obtain ⟨v_value, rfl, r_value⟩ := hS
  replace r_value : R_Line M0 x_value v_value H0 := r_value
  replace hm : m_require_line x_value P PE := hm
  unfold m_require_line at hm
  have b0 : Xt M0 H0 H0 := .refl d; have l0 : M0.le M0 := .refl; have d0 := d
  refine ⟨_, (pss_one (ps_if (pt_not (pt_val (pe_callB call_isi (by rfl) T.n_isinstance (by decide +kernel) (pa_cons (pv 0) (pa_cons (pe_globR rfl T.g_Line) pa_nil)))))
      (pss_one ps_never) pss_nil)), ?_⟩
  refine l_if0 d (go0.at b0 l0) (et_not (et_val (ev_isi (b := true) (ClsV.own _) T.kt_Line_Line (fun _ _ _ => ty_ins hca T.c_Line T.is_Line) (ev_var rfl r_value) (fun _ => rfl)))) hm (fun H1 e hm => ?_) (fun H1 e hm => ?_)
  · skip
    have d := e.dice; have b0 := b0.t l0 e; replace r_value := up r_value e
    exact hm.elim
  · skip
    have d := e.dice; have b0 := b0.t l0 e; replace r_value := up r_value e
    exact kr .non () _ b0 hm rfl
def N_require_equal_sorts : List Str := ["one", "other"]
theorem sc_require_equal_sorts : FnScope N_require_equal_sorts ["one", "other"] (defScope zs_require_equal_sorts) := ⟨rfl, rfl, rfl, by decide +kernel, rfl, by decide +kernel, by decide +kernel⟩
abbrev sp_require_equal_sorts (N : En) : Sp := FnW N (Cons (RT (All RI)) (One (RT (All RI)))) RN (fun p => m_require_equal_sorts p.1 p.2)
theorem ok_require_equal_sorts {N : En} (T : Txt N) (F : FunP N "require_equal_sorts" zs_require_equal_sorts)  : Dn N 1 "require_equal_sorts" (sp_require_equal_sorts N) := by
  refine dn_mk F sc_require_equal_sorts (fun _ _ _ _ _ _ us hl => match us, hl with | [_, _], _ => rfl) (fun vs H Q E h => by obtain ⟨_, _, _, _, _, _, hS, _⟩ := h; exact Ln.len hS) ?_
  rintro cdv A outer s H0 vs Q E hr ⟨M0, xx, P, PE, hca, d, hS, hm, kr, go0⟩
  obtain ⟨x_one, x_other⟩ := xx
  obtain ⟨v_one, _, rfl, r_one, v_other, rfl, r_other⟩ := hS
  replace r_one : (RT (All RI)) M0 x_one v_one H0 := r_one
  replace r_other : (RT (All RI)) M0 x_other v_other H0 := r_other
  replace hm : m_require_equal_sorts x_one x_other P PE := hm
  unfold m_require_equal_sorts at hm
  have b0 : Xt M0 H0 H0 := .refl d; have l0 : M0.le M0 := .refl; have d0 := d
  refine ⟨_, (pss_one (ps_if (pt_cmpR op_ne (pe_callB call_len_seq (by rfl) T.n_len (by decide +kernel) (pa_cons (pv 0) pa_nil)) (pe_callB call_len_seq (by rfl) T.n_len (by decide +kernel) (pa_cons (pv 1) pa_nil)) (nomark _))
      (pss_one ps_never) pss_nil)), ?_⟩
  refine l_if0 d (go0.at b0 l0) (et_test (ev_op o_ne (ev_cb c_lenT (ea_one (ev_var rfl r_one))) (ev_cb c_lenT (ea_one (ev_var rfl r_other))))) hm (fun H1 e hm => ?_) (fun H1 e hm => ?_)
  · skip
    have d := e.dice; have b0 := b0.t l0 e; replace r_one := up r_one e; replace r_other := up r_other e
    exact hm.elim
  · skip
    have d := e.dice; have b0 := b0.t l0 e; replace r_one := up r_one e; replace r_other := up r_other e
    exact kr .non () _ b0 hm rfl
def N_Line___add__ : List Str := ["self", "other"]
theorem sc_Line___add__ : FnScope N_Line___add__ ["self", "other"] (defScope zs_Line___add__) := ⟨rfl, rfl, rfl, by decide +kernel, rfl, by decide +kernel, by decide +kernel⟩
abbrev sp_Line___add__ (N : En) : Sp := FnW N (Cons R_Line (One R_Line)) R_Line (fun p => m_Line___add__ p.1 p.2)
theorem ok_Line___add__ {N : En} (T : Txt N) (F : FunM N "Line" "__add__" "Line.__add__" zs_Line___add__) (D_require_line : Dn N 1 "require_line" (sp_require_line N)) (D_require_equal_sorts : Dn N 1 "require_equal_sorts" (sp_require_equal_sorts N)) (D_sum_of_lines : Dn N 8 "sum_of_lines" (sp_sum_of_lines N)) : Dm N 9 "Line" "__add__" (sp_Line___add__ N) := by
  refine dm_mk F sc_Line___add__ (fun _ _ _ _ _ _ us hl => match us, hl with | [_, _], _ => rfl) (fun vs H Q E h => by obtain ⟨_, _, _, _, _, _, hS, _⟩ := h; exact Ln.len hS) ?_
  rintro cdv A outer s H0 vs Q E hr ⟨M0, xx, P, PE, hca, d, hS, hm, kr, go0⟩
  obtain ⟨x_self, x_other⟩ := xx
  obtain ⟨v_self, _, rfl, r_self, v_other, rfl, r_other⟩ := hS
  replace r_self : R_Line M0 x_self v_self H0 := r_self
  replace r_other : R_Line M0 x_other v_other H0 := r_other
  replace hm : m_Line___add__ x_self x_other P PE := hm
  unfold m_Line___add__ at hm
  have b0 : Xt M0 H0 H0 := .refl d; have l0 : M0.le M0 := .refl; have d0 := d
  refine ⟨_, (pss_cons (ps_expr (pe_d D_require_line (hr.mono (by decide)) (by rfl) (passes_call (takes_of rfl rfl rfl rfl) fun _ _ _ _ z => z) (pa_cons (pv 1) pa_nil)))
    (pss_cons (ps_expr (pe_d D_require_equal_sorts (hr.mono (by decide)) (by rfl) (passes_call (takes_of rfl rfl rfl rfl) fun _ _ _ _ z => z) (pa_cons (pe_fld (pv 0) rfl) (pa_cons (pe_fld (pv 1) rfl) pa_nil))))
    (pss_one (ps_ret (pe_d D_sum_of_lines (hr.mono (by decide)) (by rfl) (passes_call (takes_of rfl rfl rfl rfl) fun _ _ _ _ z => z) (pa_cons (pv 0) (pa_cons (pv 1) pa_nil))))))), ?_⟩
  refine q_drop d (go0.at b0 l0) (ev_d hca (ea_one (ev_var rfl r_other))) hm fun _ _ H1 e hm _ => ?_
  have d := e.dice; have b0 := b0.t l0 e; replace r_self := up r_self e; replace r_other := up r_other e
  refine q_drop d (go0.at b0 l0) (ev_d hca (ea_cons (ev_fld hca T.c_Line T.na_Line_own_base at_Line_own_base (ev_var rfl r_self)) (ea_one (ev_fld hca T.c_Line T.na_Line_own_base at_Line_own_base (ev_var rfl r_other))))) hm fun _ _ H2 e hm _ => ?_
  have d := e.dice; have b0 := b0.t l0 e; replace r_self := up r_self e; replace r_other := up r_other e
  exact q_ret d (go0.at b0 l0) (ev_d hca (ea_cons (ev_var rfl r_self) (ea_one (ev_var rfl r_other)))) hm fun v z H3 e p r => kr v z H3 (b0.t l0 e) p (wk r l0)
def N_require_order : List Str := ["value"]
theorem sc_require_order : FnScope N_require_order ["value"] (defScope zs_require_order) := ⟨rfl, rfl, rfl, by decide +kernel, rfl, by decide +kernel, by decide +kernel⟩
abbrev sp_require_order (N : En) : Sp := FnW N (One (RT (All RI))) RN (fun p => m_require_order p)
theorem ok_require_order {N : En} (T : Txt N) (F : FunP N "require_order" zs_require_order) (D_is_order : Dn N 2 "is_order" (sp_is_order N)) : Dn N 3 "require_order" (sp_require_order N) := by
  refine dn_mk F sc_require_order (fun _ _ _ _ _ _ us hl => match us, hl with | [_], _ => rfl) (fun vs H Q E h => by obtain ⟨_, _, _, _, _, _, hS, _⟩ := h; exact Ln.len hS) ?_
  rintro cdv A outer s H0 vs Q E hr ⟨M0, x_value, P, PE, hca, d, hS, hm, kr, go0⟩
  obtain ⟨v_value, rfl, r_value⟩ := hS
  replace r_value : (RT (All RI)) M0 x_value v_value H0 := r_value
  replace hm : m_require_order x_value P PE := hm
  unfold m_require_order at hm
  have b0 : Xt M0 H0 H0 := .refl d; have l0 : M0.le M0 := .refl; have d0 := d
  refine ⟨_, (pss_one (ps_if (pt_not (pt_val (pe_d D_is_order (hr.mono (by decide)) (by rfl) (passes_call (takes_of rfl rfl rfl rfl) fun _ _ _ _ z => z) (pa_cons (pv 0) pa_nil))))
      (pss_one ps_never) pss_nil)), ?_⟩
  refine l_if0 d (go0.at b0 l0) (et_not (et_val (ev_d hca (ea_one (ev_var rfl r_value))))) hm (fun H1 e hm => ?_) (fun H1 e hm => ?_)
  · skip
    have d := e.dice; have b0 := b0.t l0 e; replace r_value := up r_value e
    exact hm.elim
  · skip
    have d := e.dice; have b0 := b0.t l0 e; replace r_value := up r_value e
    exact kr .non () _ b0 hm rfl
def N_Style_shifted : List Str := ["self", "order", "line"]
theorem sc_Style_shifted : FnScope N_Style_shifted ["self", "order"] (defScope zs_Style_shifted) := ⟨rfl, rfl, rfl, by decide +kernel, rfl, by decide +kernel, by decide +kernel⟩
abbrev sp_Style_shifted (N : En) : Sp := FnW N (Cons R_Style (One (RT (All RI)))) R_Style (fun p => m_Style_shifted p.1 p.2)
theorem ok_Style_shifted {N : En} (T : Txt N) (F : FunM N "Style" "shifted" "Style.shifted" zs_Style_shifted) (D_require_order : Dn N 3 "require_order" (sp_require_order N)) (D_require_equal_sorts : Dn N 1 "require_equal_sorts" (sp_require_equal_sorts N)) (D_plus : Dn N 1 "plus" (sp_plus N)) (D_line_inT : Dn N 7 "line_in" (sp_line_inT N)) (D_style_in : Dn N 6 "style_in" (sp_style_in N)) : Dm N 8 "Style" "shifted" (sp_Style_shifted N) := by
  refine dm_mk F sc_Style_shifted (fun _ _ _ _ _ _ us hl => match us, hl with | [_, _], _ => rfl) (fun vs H Q E h => by obtain ⟨_, _, _, _, _, _, hS, _⟩ := h; exact Ln.len hS) ?_
  rintro cdv A outer s H0 vs Q E hr ⟨M0, xx, P, PE, hca, d, hS, hm, kr, go0⟩
  obtain ⟨x_self, x_order⟩ := xx
  obtain ⟨v_self, _, rfl, r_self, v_order, rfl, r_order⟩ := hS
  replace r_self : R_Style M0 x_self v_self H0 := r_self
  replace r_order : (RT (All RI)) M0 x_order v_order H0 := r_order
  replace hm : m_Style_shifted x_self x_order P PE := hm
  unfold m_Style_shifted at hm
  have b0 : Xt M0 H0 H0 := .refl d; have l0 : M0.le M0 := .refl; have d0 := d
  refine ⟨_, (pss_cons (ps_expr (pe_d D_require_order (hr.mono (by decide)) (by rfl) (passes_call (takes_of rfl rfl rfl rfl) fun _ _ _ _ z => z) (pa_cons (pv 1) pa_nil)))
    (pss_cons (ps_expr (pe_d D_require_equal_sorts (hr.mono (by decide)) (by rfl) (passes_call (takes_of rfl rfl rfl rfl) fun _ _ _ _ z => z) (pa_cons (pe_fld (pe_ix ix_tup (pe_fld (pv 0) rfl) pe_int (fun _ _ => rfl)) rfl) (pa_cons (pv 1) pa_nil))))
    (pss_one (ps_ret (pe_d D_style_in (hr.mono (by decide)) (by rfl) (passes_call (takes_of rfl rfl rfl rfl) fun _ _ _ _ z => z) (pa_cons (pe_lc (own := [("line", 2)]) (g := gName 2) rfl sc_Style_shifted.nd (pi_tup (pe_fld (pv 0) rfl)) (blkOk_by (own := [("line", 2)]) (N := N_Style_shifted) (sc := defScope zs_Style_shifted) (by decide +kernel)) (fun _ _ _ _ _ => (pg_name (i := 2) sc_Style_shifted.nd rfl (by first | exact Or.inl rfl | exact Or.inr rfl))) (fun _ _ _ _ _ => pts_nil) (fun _ _ _ _ _ => (pe_d D_line_inT (hr.mono (by decide)) (by rfl) px0 (pa_cons (pe_d D_plus (hr.mono (by decide)) (by rfl) px0 (pa_cons (pe_fldK N.K (by rfl) (pv 2) (by rfl)) (pa_cons (pv 1) pa_nil))) (pa_cons (pe_fldK N.K (by rfl) (pv 2) (by rfl)) pa_nil))))) pa_nil)))))), ?_⟩
  refine q_drop d (go0.at b0 l0) (ev_d hca (ea_one (ev_var rfl r_order))) hm fun _ _ H1 e hm _ => ?_
  have d := e.dice; have b0 := b0.t l0 e; replace r_self := up r_self e; replace r_order := up r_order e
  refine q_drop d (go0.at b0 l0) (ev_d hca (ea_cons (ev_fld hca T.c_Line T.na_Line_own_base at_Line_own_base (ev_op o_ixT (ev_fld hca T.c_Style T.na_Style_own_lines at_Style_own_lines (ev_var rfl r_self)) ev_int)) (ea_one (ev_var rfl r_order)))) hm fun _ _ H2 e hm _ => ?_
  have d := e.dice; have b0 := b0.t l0 e; replace r_self := up r_self e; replace r_order := up r_order e
  exact q_ret d (go0.at b0 l0) (ev_d hca (ea_one (ev_lc1 (R' := R_Line) (EvI.x (ei_tup (ev_fld hca T.c_Style T.na_Style_own_lines at_Style_own_lines (ev_var rfl r_self)))) (fun M1 H1' q1 σ1 L1 D1 hT => by obtain ⟨v1_0, rfl, s1_0⟩ := hT; exact et_yes) (fun M1 H1' q1 σ1 L1 D1 hT => by obtain ⟨v1_0, rfl, s1_0⟩ := hT; exact (ev_d (L1.ca.trans hca) (ea_cons (ev_d (L1.ca.trans hca) (ea_cons (ev_fld (L1.ca.trans hca) T.c_Line T.na_Line_own_base at_Line_own_base (ev_var rfl s1_0)) (ea_one (ev_var rfl (lf r_order L1))))) (ea_one (ev_fld (L1.ca.trans hca) T.c_Line T.na_Line_own_packs at_Line_own_packs (ev_var rfl s1_0))))))))) hm fun v z H3 e p r => kr v z H3 (b0.t l0 e) p (wk r l0)
def N_Line_shifted : List Str := ["self", "order"]
theorem sc_Line_shifted : FnScope N_Line_shifted ["self", "order"] (defScope zs_Line_shifted) := ⟨rfl, rfl, rfl, by decide +kernel, rfl, by decide +kernel, by decide +kernel⟩
abbrev sp_Line_shifted (N : En) : Sp := FnW N (Cons R_Line (One (RT (All RI)))) R_Line (fun p => m_Line_shifted p.1 p.2)
theorem ok_Line_shifted {N : En} (T : Txt N) (F : FunM N "Line" "shifted" "Line.shifted" zs_Line_shifted) (D_require_order : Dn N 3 "require_order" (sp_require_order N)) (D_require_equal_sorts : Dn N 1 "require_equal_sorts" (sp_require_equal_sorts N)) (D_plus : Dn N 1 "plus" (sp_plus N)) (D_line_inT : Dn N 7 "line_in" (sp_line_inT N)) : Dm N 8 "Line" "shifted" (sp_Line_shifted N) := by
  refine dm_mk F sc_Line_shifted (fun _ _ _ _ _ _ us hl => match us, hl with | [_, _], _ => rfl) (fun vs H Q E h => by obtain ⟨_, _, _, _, _, _, hS, _⟩ := h; exact Ln.len hS) ?_
  rintro cdv A outer s H0 vs Q E hr ⟨M0, xx, P, PE, hca, d, hS, hm, kr, go0⟩
  obtain ⟨x_self, x_order⟩ := xx
  obtain ⟨v_self, _, rfl, r_self, v_order, rfl, r_order⟩ := hS
  replace r_self : R_Line M0 x_self v_self H0 := r_self
  replace r_order : (RT (All RI)) M0 x_order v_order H0 := r_order
  replace hm : m_Line_shifted x_self x_order P PE := hm
  unfold m_Line_shifted at hm
  have b0 : Xt M0 H0 H0 := .refl d; have l0 : M0.le M0 := .refl; have d0 := d
  refine ⟨_, (pss_cons (ps_expr (pe_d D_require_order (hr.mono (by decide)) (by rfl) (passes_call (takes_of rfl rfl rfl rfl) fun _ _ _ _ z => z) (pa_cons (pv 1) pa_nil)))
    (pss_cons (ps_expr (pe_d D_require_equal_sorts (hr.mono (by decide)) (by rfl) (passes_call (takes_of rfl rfl rfl rfl) fun _ _ _ _ z => z) (pa_cons (pe_fld (pv 0) rfl) (pa_cons (pv 1) pa_nil))))
    (pss_one (ps_ret (pe_d D_line_inT (hr.mono (by decide)) (by rfl) (passes_call (takes_of rfl rfl rfl rfl) fun _ _ _ _ z => z) (pa_cons (pe_d D_plus (hr.mono (by decide)) (by rfl) (passes_call (takes_of rfl rfl rfl rfl) fun _ _ _ _ z => z) (pa_cons (pe_fld (pv 0) rfl) (pa_cons (pv 1) pa_nil))) (pa_cons (pe_fld (pv 0) rfl) pa_nil))))))), ?_⟩
  refine q_drop d (go0.at b0 l0) (ev_d hca (ea_one (ev_var rfl r_order))) hm fun _ _ H1 e hm _ => ?_
  have d := e.dice; have b0 := b0.t l0 e; replace r_self := up r_self e; replace r_order := up r_order e
  refine q_drop d (go0.at b0 l0) (ev_d hca (ea_cons (ev_fld hca T.c_Line T.na_Line_own_base at_Line_own_base (ev_var rfl r_self)) (ea_one (ev_var rfl r_order)))) hm fun _ _ H2 e hm _ => ?_
  have d := e.dice; have b0 := b0.t l0 e; replace r_self := up r_self e; replace r_order := up r_order e
  exact q_ret d (go0.at b0 l0) (ev_d hca (ea_cons (ev_d hca (ea_cons (ev_fld hca T.c_Line T.na_Line_own_base at_Line_own_base (ev_var rfl r_self)) (ea_one (ev_var rfl r_order)))) (ea_one (ev_fld hca T.c_Line T.na_Line_own_packs at_Line_own_packs (ev_var rfl r_self))))) hm fun v z H3 e p r => kr v z H3 (b0.t l0 e) p (wk r l0)
def N_require_scale : List Str := ["number"]
theorem sc_require_scale : FnScope N_require_scale ["number"] (defScope zs_require_scale) := ⟨rfl, rfl, rfl, by decide +kernel, rfl, by decide +kernel, by decide +kernel⟩
abbrev sp_require_scale (N : En) : Sp := FnW N (One RI) RN (fun p => m_require_scale p)
theorem ok_require_scale {N : En} (T : Txt N) (F : FunP N "require_scale" zs_require_scale) (D_is_integer : Dn N 1 "is_integer" (sp_is_integer N)) : Dn N 2 "require_scale" (sp_require_scale N) := by
  refine dn_mk F sc_require_scale (fun _ _ _ _ _ _ us hl => match us, hl with | [_], _ => rfl) (fun vs H Q E h => by obtain ⟨_, _, _, _, _, _, hS, _⟩ := h; exact Ln.len hS) ?_
  rintro cdv A outer s H0 vs Q E hr ⟨M0, x_number, P, PE, hca, d, hS, hm, kr, go0⟩
  obtain ⟨v_number, rfl, r_number⟩ := hS
  replace r_number : RI M0 x_number v_number H0 := r_number
  replace hm : m_require_scale x_number P PE := hm
  unfold m_require_scale at hm
  have b0 : Xt M0 H0 H0 := .refl d; have l0 : M0.le M0 := .refl; have d0 := d
  refine ⟨_, (pss_one (ps_if (pt_not (pt_val (pe_d D_is_integer (hr.mono (by decide)) (by rfl) (passes_call (takes_of rfl rfl rfl rfl) fun _ _ _ _ z => z) (pa_cons (pv 0) (pa_cons pe_int (pa_cons (pe_globI rfl T.i_MAX_SCALE) pa_nil))))))
      (pss_one ps_never) pss_nil)), ?_⟩
  refine l_if0 d (go0.at b0 l0) (et_not (et_val (ev_d hca (ea_cons (ev_var rfl r_number) (ea_cons ev_int (ea_one (ev_some ev_int))))))) hm (fun H1 e hm => ?_) (fun H1 e hm => ?_)
  · skip
    have d := e.dice; have b0 := b0.t l0 e; replace r_number := up r_number e
    exact hm.elim
  · skip
    have d := e.dice; have b0 := b0.t l0 e; replace r_number := up r_number e
    exact kr .non () _ b0 hm rfl
def N_taken : List Str := ["order", "number", "count"]
theorem sc_taken : FnScope N_taken ["order", "number"] (defScope zs_taken) := ⟨rfl, rfl, rfl, by decide +kernel, rfl, by decide +kernel, by decide +kernel⟩
abbrev sp_taken (N : En) : Sp := FnW N (Cons (RT (All RI)) (One RI)) (RT (All RI)) (fun p => m_taken p.1 p.2)
theorem ok_taken {N : En} (T : Txt N) (F : FunP N "taken" zs_taken)  : Dn N 1 "taken" (sp_taken N) := by
  refine dn_mk F sc_taken (fun _ _ _ _ _ _ us hl => match us, hl with | [_, _], _ => rfl) (fun vs H Q E h => by obtain ⟨_, _, _, _, _, _, hS, _⟩ := h; exact Ln.len hS) ?_
  rintro cdv A outer s H0 vs Q E hr ⟨M0, xx, P, PE, hca, d, hS, hm, kr, go0⟩
  obtain ⟨x_order, x_number⟩ := xx
  obtain ⟨v_order, _, rfl, r_order, v_number, rfl, r_number⟩ := hS
  replace r_order : (RT (All RI)) M0 x_order v_order H0 := r_order
  replace r_number : RI M0 x_number v_number H0 := r_number
  replace hm : m_taken x_order x_number P PE := hm
  unfold m_taken at hm
  have b0 : Xt M0 H0 H0 := .refl d; have l0 : M0.le M0 := .refl; have d0 := d
  refine ⟨_, (pss_one (ps_ret (pe_callTy call_tuple_of (by rfl) T.n_tuple (by decide +kernel) (pa_cons (pe_lc (own := [("count", 2)]) (g := gName 2) rfl sc_taken.nd (pi_tup (pv 0)) (blkOk_by (own := [("count", 2)]) (N := N_taken) (sc := defScope zs_taken) (by decide +kernel)) (fun _ _ _ _ _ => (pg_name (i := 2) sc_taken.nd rfl (by first | exact Or.inl rfl | exact Or.inr rfl))) (fun _ _ _ _ _ => pts_nil) (fun _ _ _ _ _ => (pe_op op_mul (pv 2) (pv 1)))) pa_nil)))), ?_⟩
  exact q_ret d (go0.at b0 l0) (ev_cb c_tupL (ea_one (ev_lc1 (R' := RI) (EvI.x (ei_tup (ev_var rfl r_order))) (fun M1 H1' q1 σ1 L1 D1 hT => by obtain ⟨v1_0, rfl, s1_0⟩ := hT; exact et_yes) (fun M1 H1' q1 σ1 L1 D1 hT => by obtain ⟨v1_0, rfl, s1_0⟩ := hT; exact (ev_op o_mul (ev_var rfl s1_0) (ev_var rfl (lf r_number L1))))))) hm fun v z H1 e p r => kr v z H1 (b0.t l0 e) p (wk r l0)
def N_line_in : List Str := ["base", "packs", "pack"]
theorem sc_line_in : FnScope N_line_in ["base", "packs"] (defScope zs_line_in) := ⟨rfl, rfl, rfl, by decide +kernel, rfl, by decide +kernel, by decide +kernel⟩
abbrev sp_line_in (N : En) : Sp := FnW N (Cons (RT (All RI)) (One (RL (All (RT (All RI)))))) R_Line (fun p => m_line_in p.1 p.2)
theorem ok_line_in {N : En} (T : Txt N) (F : FunP N "line_in" zs_line_in) (D_Parts : Dc N 1 "Parts" (sp_Parts N)) (D_LineP : Dc N 5 "Line" (sp_LineP N)) : Dn N 7 "line_in" (sp_line_in N) := by
  refine dn_mk F sc_line_in (fun _ _ _ _ _ _ us hl => match us, hl with | [_, _], _ => rfl) (fun vs H Q E h => by obtain ⟨_, _, _, _, _, _, hS, _⟩ := h; exact Ln.len hS) ?_
  rintro cdv A outer s H0 vs Q E hr ⟨M0, xx, P, PE, hca, d, hS, hm, kr, go0⟩
  obtain ⟨x_base, x_packs⟩ := xx
  obtain ⟨v_base, _, rfl, r_base, v_packs, rfl, r_packs⟩ := hS
  replace r_base : (RT (All RI)) M0 x_base v_base H0 := r_base
  replace r_packs : (RL (All (RT (All RI)))) M0 x_packs v_packs H0 := r_packs
  replace hm : m_line_in x_base x_packs P PE := hm
  unfold m_line_in at hm
  have b0 : Xt M0 H0 H0 := .refl d; have l0 : M0.le M0 := .refl; have d0 := d
  refine ⟨_, (pss_one (ps_ret (pe_c D_LineP (hr.mono (by decide)) (by rfl) (passes_call (takes_of rfl rfl rfl rfl) fun _ _ _ _ z => z) (pa_cons (pe_c D_Parts (hr.mono (by decide)) (by rfl) (passes_call (takes_of rfl rfl rfl rfl) fun _ _ _ _ z => z) (pa_cons (pv 0) (pa_cons (pe_callTy call_tuple_of (by rfl) T.n_tuple (by decide +kernel) (pa_cons (pe_callB (SX.cr_sortS rfl hr.units) (by rfl) T.n_sorted (by decide +kernel) (pa_cons (pe_callTy (SX.cr_setR rfl hr.units) (by rfl) T.n_set (by decide +kernel) (pa_cons (pe_lc (own := [("pack", 2)]) (g := gName 2) rfl sc_line_in.nd (pi_list (pv 1)) (blkOk_by (own := [("pack", 2)]) (N := N_line_in) (sc := defScope zs_line_in) (by decide +kernel)) (fun _ _ _ _ _ => (pg_name (i := 2) sc_line_in.nd rfl (by first | exact Or.inl rfl | exact Or.inr rfl))) (fun _ _ _ _ _ => (pts_one (pt_cmpR op_gt (pe_callB (GX.cr_maxTK N.K (by rfl) rfl (hu_of hr)) (by rfl) T.n_max (by decide +kernel) (pa_cons (pv 2) pa_nil)) pe_int (nomark _)))) (fun _ _ _ _ _ => (pv 2))) pa_nil)) pa_nil)) pa_nil)) pa_nil))) pa_nil)))), ?_⟩
  exact q_ret d (go0.at b0 l0) (ev_d hca (ea_one (ev_d hca (ea_cons (ev_var rfl r_base) (ea_one (ev_cb c_tupL (ea_one (ev_cb c_sortSt (ea_one (ev_cb c_setR (ea_one (ev_lc1 (R' := (RT (All RI))) (EvI.x (ei_list (ev_var rfl r_packs))) (fun M1 H1' q1 σ1 L1 D1 hT => by obtain ⟨v1_0, rfl, s1_0⟩ := hT; exact (et_test (ev_op o_gt (ev_cb c_maxT (ea_one (ev_var rfl s1_0))) ev_int))) (fun M1 H1' q1 σ1 L1 D1 hT => by obtain ⟨v1_0, rfl, s1_0⟩ := hT; exact (ev_var rfl s1_0)))))))))))))) hm fun v z H1 e p r => kr v z H1 (b0.t l0 e) p (wk r l0)
def N_scaled_in : List Str := ["line", "number", "pack"]
theorem sc_scaled_in : FnScope N_scaled_in ["line", "number"] (defScope zs_scaled_in) := ⟨rfl, rfl, rfl, by decide +kernel, rfl, by decide +kernel, by decide +kernel⟩
abbrev sp_scaled_in (N : En) : Sp := FnW N (Cons R_Line (One RI)) R_Line (fun p => m_scaled_in p.1 p.2)
theorem ok_scaled_in {N : En} (T : Txt N) (F : FunP N "scaled_in" zs_scaled_in) (D_taken : Dn N 1 "taken" (sp_taken N)) (D_line_in : Dn N 7 "line_in" (sp_line_in N)) : Dn N 8 "scaled_in" (sp_scaled_in N) := by
  refine dn_mk F sc_scaled_in (fun _ _ _ _ _ _ us hl => match us, hl with | [_, _], _ => rfl) (fun vs H Q E h => by obtain ⟨_, _, _, _, _, _, hS, _⟩ := h; exact Ln.len hS) ?_
  rintro cdv A outer s H0 vs Q E hr ⟨M0, xx, P, PE, hca, d, hS, hm, kr, go0⟩
  obtain ⟨x_line, x_number⟩ := xx
  obtain ⟨v_line, _, rfl, r_line, v_number, rfl, r_number⟩ := hS
  replace r_line : R_Line M0 x_line v_line H0 := r_line
  replace r_number : RI M0 x_number v_number H0 := r_number
  replace hm : m_scaled_in x_line x_number P PE := hm
  unfold m_scaled_in at hm
  have b0 : Xt M0 H0 H0 := .refl d; have l0 : M0.le M0 := .refl; have d0 := d
  refine ⟨_, (pss_one (ps_ret (pe_d D_line_in (hr.mono (by decide)) (by rfl) (passes_call (takes_of rfl rfl rfl rfl) fun _ _ _ _ z => z) (pa_cons (pe_d D_taken (hr.mono (by decide)) (by rfl) (passes_call (takes_of rfl rfl rfl rfl) fun _ _ _ _ z => z) (pa_cons (pe_fld (pv 0) rfl) (pa_cons (pv 1) pa_nil))) (pa_cons (pe_lc (own := [("pack", 2)]) (g := gName 2) rfl sc_scaled_in.nd (pi_tup (pe_fld (pv 0) rfl)) (blkOk_by (own := [("pack", 2)]) (N := N_scaled_in) (sc := defScope zs_scaled_in) (by decide +kernel)) (fun _ _ _ _ _ => (pg_name (i := 2) sc_scaled_in.nd rfl (by first | exact Or.inl rfl | exact Or.inr rfl))) (fun _ _ _ _ _ => pts_nil) (fun _ _ _ _ _ => (pe_d D_taken (hr.mono (by decide)) (by rfl) px0 (pa_cons (pv 2) (pa_cons (pv 1) pa_nil))))) pa_nil))))), ?_⟩
  exact q_ret d (go0.at b0 l0) (ev_d hca (ea_cons (ev_d hca (ea_cons (ev_fld hca T.c_Line T.na_Line_own_base at_Line_own_base (ev_var rfl r_line)) (ea_one (ev_var rfl r_number)))) (ea_one (ev_lc1 (R' := (RT (All RI))) (EvI.x (ei_tup (ev_fld hca T.c_Line T.na_Line_own_packs at_Line_own_packs (ev_var rfl r_line)))) (fun M1 H1' q1 σ1 L1 D1 hT => by obtain ⟨v1_0, rfl, s1_0⟩ := hT; exact et_yes) (fun M1 H1' q1 σ1 L1 D1 hT => by obtain ⟨v1_0, rfl, s1_0⟩ := hT; exact (ev_d (L1.ca.trans hca) (ea_cons (ev_var rfl s1_0) (ea_one (ev_var rfl (lf r_number L1)))))))))) hm fun v z H1 e p r => kr v z H1 (b0.t l0 e) p (wk r l0)
def N_Style_scaled : List Str := ["self", "number", "line"]
theorem sc_Style_scaled : FnScope N_Style_scaled ["self", "number"] (defScope zs_Style_scaled) := ⟨rfl, rfl, rfl, by decide +kernel, rfl, by decide +kernel, by decide +kernel⟩
abbrev sp_Style_scaled (N : En) : Sp := FnW N (Cons R_Style (One RI)) R_Style (fun p => m_Style_scaled p.1 p.2)
theorem ok_Style_scaled {N : En} (T : Txt N) (F : FunM N "Style" "scaled" "Style.scaled" zs_Style_scaled) (D_require_scale : Dn N 2 "require_scale" (sp_require_scale N)) (D_scaled_in : Dn N 8 "scaled_in" (sp_scaled_in N)) (D_style_in : Dn N 6 "style_in" (sp_style_in N)) : Dm N 9 "Style" "scaled" (sp_Style_scaled N) := by
  refine dm_mk F sc_Style_scaled (fun _ _ _ _ _ _ us hl => match us, hl with | [_, _], _ => rfl) (fun vs H Q E h => by obtain ⟨_, _, _, _, _, _, hS, _⟩ := h; exact Ln.len hS) ?_
  rintro cdv A outer s H0 vs Q E hr ⟨M0, xx, P, PE, hca, d, hS, hm, kr, go0⟩
  obtain ⟨x_self, x_number⟩ := xx
  obtain ⟨v_self, _, rfl, r_self, v_number, rfl, r_number⟩ := hS
  replace r_self : R_Style M0 x_self v_self H0 := r_self
  replace r_number : RI M0 x_number v_number H0 := r_number
  replace hm : m_Style_scaled x_self x_number P PE := hm
  unfold m_Style_scaled at hm
  have b0 : Xt M0 H0 H0 := .refl d; have l0 : M0.le M0 := .refl; have d0 := d
  refine ⟨_, (pss_cons (ps_expr (pe_d D_require_scale (hr.mono (by decide)) (by rfl) (passes_call (takes_of rfl rfl rfl rfl) fun _ _ _ _ z => z) (pa_cons (pv 1) pa_nil)))
    (pss_one (ps_ret (pe_d D_style_in (hr.mono (by decide)) (by rfl) (passes_call (takes_of rfl rfl rfl rfl) fun _ _ _ _ z => z) (pa_cons (pe_lc (own := [("line", 2)]) (g := gName 2) rfl sc_Style_scaled.nd (pi_tup (pe_fld (pv 0) rfl)) (blkOk_by (own := [("line", 2)]) (N := N_Style_scaled) (sc := defScope zs_Style_scaled) (by decide +kernel)) (fun _ _ _ _ _ => (pg_name (i := 2) sc_Style_scaled.nd rfl (by first | exact Or.inl rfl | exact Or.inr rfl))) (fun _ _ _ _ _ => pts_nil) (fun _ _ _ _ _ => (pe_d D_scaled_in (hr.mono (by decide)) (by rfl) px0 (pa_cons (pv 2) (pa_cons (pv 1) pa_nil))))) pa_nil))))), ?_⟩
  refine q_drop d (go0.at b0 l0) (ev_d hca (ea_one (ev_var rfl r_number))) hm fun _ _ H1 e hm _ => ?_
  have d := e.dice; have b0 := b0.t l0 e; replace r_self := up r_self e; replace r_number := up r_number e
  exact q_ret d (go0.at b0 l0) (ev_d hca (ea_one (ev_lc1 (R' := R_Line) (EvI.x (ei_tup (ev_fld hca T.c_Style T.na_Style_own_lines at_Style_own_lines (ev_var rfl r_self)))) (fun M1 H1' q1 σ1 L1 D1 hT => by obtain ⟨v1_0, rfl, s1_0⟩ := hT; exact et_yes) (fun M1 H1' q1 σ1 L1 D1 hT => by obtain ⟨v1_0, rfl, s1_0⟩ := hT; exact (ev_d (L1.ca.trans hca) (ea_cons (ev_var rfl s1_0) (ea_one (ev_var rfl (lf r_number L1))))))))) hm fun v z H2 e p r => kr v z H2 (b0.t l0 e) p (wk r l0)
def N_Line_scaled : List Str := ["self", "number"]
theorem sc_Line_scaled : FnScope N_Line_scaled ["self", "number"] (defScope zs_Line_scaled) := ⟨rfl, rfl, rfl, by decide +kernel, rfl, by decide +kernel, by decide +kernel⟩
abbrev sp_Line_scaled (N : En) : Sp := FnW N (Cons R_Line (One RI)) R_Line (fun p => m_Line_scaled p.1 p.2)
theorem ok_Line_scaled {N : En} (T : Txt N) (F : FunM N "Line" "scaled" "Line.scaled" zs_Line_scaled) (D_require_scale : Dn N 2 "require_scale" (sp_require_scale N)) (D_scaled_in : Dn N 8 "scaled_in" (sp_scaled_in N)) : Dm N 9 "Line" "scaled" (sp_Line_scaled N) := by
  refine dm_mk F sc_Line_scaled (fun _ _ _ _ _ _ us hl => match us, hl with | [_, _], _ => rfl) (fun vs H Q E h => by obtain ⟨_, _, _, _, _, _, hS, _⟩ := h; exact Ln.len hS) ?_
  rintro cdv A outer s H0 vs Q E hr ⟨M0, xx, P, PE, hca, d, hS, hm, kr, go0⟩
  obtain ⟨x_self, x_number⟩ := xx
  obtain ⟨v_self, _, rfl, r_self, v_number, rfl, r_number⟩ := hS
  replace r_self : R_Line M0 x_self v_self H0 := r_self
  replace r_number : RI M0 x_number v_number H0 := r_number
  replace hm : m_Line_scaled x_self x_number P PE := hm
  unfold m_Line_scaled at hm
  have b0 : Xt M0 H0 H0 := .refl d; have l0 : M0.le M0 := .refl; have d0 := d
  refine ⟨_, (pss_cons (ps_expr (pe_d D_require_scale (hr.mono (by decide)) (by rfl) (passes_call (takes_of rfl rfl rfl rfl) fun _ _ _ _ z => z) (pa_cons (pv 1) pa_nil)))
    (pss_one (ps_ret (pe_d D_scaled_in (hr.mono (by decide)) (by rfl) (passes_call (takes_of rfl rfl rfl rfl) fun _ _ _ _ z => z) (pa_cons (pv 0) (pa_cons (pv 1) pa_nil)))))), ?_⟩
  refine q_drop d (go0.at b0 l0) (ev_d hca (ea_one (ev_var rfl r_number))) hm fun _ _ H1 e hm _ => ?_
  have d := e.dice; have b0 := b0.t l0 e; replace r_self := up r_self e; replace r_number := up r_number e
  exact q_ret d (go0.at b0 l0) (ev_d hca (ea_cons (ev_var rfl r_self) (ea_one (ev_var rfl r_number)))) hm fun v z H2 e p r => kr v z H2 (b0.t l0 e) p (wk r l0)
def N_most_often : List Str := ["rest", "pack", "sort", "count"]
theorem sc_most_often : FnScope N_most_often ["rest", "pack"] (defScope zs_most_often) := ⟨rfl, rfl, rfl, by decide +kernel, rfl, by decide +kernel, by decide +kernel⟩
abbrev sp_most_often (N : En) : Sp := FnW N (Cons (RT (All RI)) (One (RT (All RI)))) RI (fun p => m_most_often p.1 p.2)
theorem ok_most_often {N : En} (T : Txt N) (F : FunP N "most_often" zs_most_often)  : Dn N 1 "most_often" (sp_most_often N) := by
  refine dn_mk F sc_most_often (fun _ _ _ _ _ _ us hl => match us, hl with | [_, _], _ => rfl) (fun vs H Q E h => by obtain ⟨_, _, _, _, _, _, hS, _⟩ := h; exact Ln.len hS) ?_
  rintro cdv A outer s H0 vs Q E hr ⟨M0, xx, P, PE, hca, d, hS, hm, kr, go0⟩
  obtain ⟨x_rest, x_pack⟩ := xx
  obtain ⟨v_rest, _, rfl, r_rest, v_pack, rfl, r_pack⟩ := hS
  replace r_rest : (RT (All RI)) M0 x_rest v_rest H0 := r_rest
  replace r_pack : (RT (All RI)) M0 x_pack v_pack H0 := r_pack
  replace hm : m_most_often x_rest x_pack P PE := hm
  unfold m_most_often at hm
  have b0 : Xt M0 H0 H0 := .refl d; have l0 : M0.le M0 := .refl; have d0 := d
  refine ⟨_, (pss_one (ps_ret (pe_callB (cr_min rfl) (by rfl) T.n_min (by decide +kernel) (pa_cons (pe_lc (own := [("sort", 2), ("count", 3)]) rfl sc_most_often.nd (GX.pi_enumS true (by rfl) T.n_enumerate (pa_cons (pv 1) pa_nil)) (blkOk_by (own := [("sort", 2), ("count", 3)]) (N := N_most_often) (sc := defScope zs_most_often) (by decide +kernel)) (fun _ _ _ _ _ => (pg_tupK N.K (by rfl) (n := 2) rfl (pgs_cons (pg_name (i := 2) sc_most_often.nd rfl (by first | exact Or.inl rfl | exact Or.inr rfl)) (pgs_cons (pg_name (i := 3) sc_most_often.nd rfl (by first | exact Or.inl rfl | exact Or.inr rfl)) pgs_nil)))) (fun _ _ _ _ _ => (pts_one (pt_cmpR op_gt (pv 3) pe_int (nomark _)))) (fun _ _ _ _ _ => (pe_op op_fdiv (pe_ix (ix_tupK N.K (by rfl)) (pv 0) (pv 2) (fun _ _ => rfl)) (pv 3)))) pa_nil)))), ?_⟩
  exact q_ret d (go0.at b0 l0) (ev_cb c_minL (ea_one (ev_lc2 (R' := RI) (EvI.x (ei_enumS (ea_one (ev_var rfl r_pack)))) (fun M1 H1' q1 σ1 L1 D1 hT => by obtain ⟨v1_0, v1_1, rfl, s1_0, s1_1⟩ := hT; exact (et_test (ev_op o_gt (ev_var rfl s1_1) ev_int))) (fun M1 H1' q1 σ1 L1 D1 hT => by obtain ⟨v1_0, v1_1, rfl, s1_0, s1_1⟩ := hT; exact (ev_op o_fdiv (ev_op o_ixT (ev_var rfl (lf r_rest L1)) (ev_var rfl s1_0)) (ev_var rfl s1_1)))))) hm fun v z H1 e p r => kr v z H1 (b0.t l0 e) p (wk r l0)
def N_leftovers : List Str := ["rest", "packs", "found", "pack", "later", "row", "numbers", "number", "left"]
theorem sc_leftovers : FnScope N_leftovers ["rest", "packs"] (defScope zs_leftovers) := ⟨rfl, rfl, rfl, by decide +kernel, rfl, by decide +kernel, by decide +kernel⟩
abbrev sp_leftovers (N : En) : Sp := FnW N (Cons (RT (All RI)) (One (RT (All (RT (All RI)))))) (RDt (RT (All RI)) (RT (All RI))) (fun p => m_leftovers p.1 p.2)
theorem ok_leftovers {N : En} (T : Txt N) (F : FunP N "leftovers" zs_leftovers) (D_most_often : Dn N 1 "most_often" (sp_most_often N)) (D_taken : Dn N 1 "taken" (sp_taken N)) (D_plus : Dn N 1 "plus" (sp_plus N)) : Dn N 2 "leftovers" (sp_leftovers N) := by
  refine dn_mk F sc_leftovers (fun _ _ _ _ _ _ us hl => match us, hl with | [_, _], _ => rfl) (fun vs H Q E h => by obtain ⟨_, _, _, _, _, _, hS, _⟩ := h; exact Ln.len hS) ?_
  rintro cdv A outer s H0 vs Q E hr ⟨M0, xx, P, PE, hca, d, hS, hm, kr, go0⟩
  obtain ⟨x_rest, x_packs⟩ := xx
  obtain ⟨v_rest, _, rfl, r_rest, v_packs, rfl, r_packs⟩ := hS
  replace r_rest : (RT (All RI)) M0 x_rest v_rest H0 := r_rest
  replace r_packs : (RT (All (RT (All RI)))) M0 x_packs v_packs H0 := r_packs
  replace hm : m_leftovers x_rest x_packs P PE := hm
  unfold m_leftovers at hm
  have b0 : Xt M0 H0 H0 := .refl d; have l0 : M0.le M0 := .refl; have d0 := d
  refine ⟨_, (pss_cons (ps_set (i := 2) sc_leftovers.nd rfl (by first | exact Or.inl rfl | exact Or.inr rfl) (GX.pe_frz (GX.pe_dispT (hu_of hr) (pps_cons (pv 0) (pe_tup pa_nil) pps_nil) rfl rfl (by simp) (by decide))))
    (pss_cons (ps_for (passes_of rfl) rfl (pi_tup (pv 1)) (pg_name (i := 3) sc_leftovers.nd rfl (by first | exact Or.inl rfl | exact Or.inr rfl))
      (pss_cons (ps_set (i := 4) sc_leftovers.nd rfl (by first | exact Or.inl rfl | exact Or.inr rfl) pe_dnewT)
    (pss_cons (ps_for (passes_of rfl) rfl (GX.pi_itemsT (pv 2)) (pg_tup (n := 2) rfl (pgs_cons (pg_name (i := 5) sc_leftovers.nd rfl (by first | exact Or.inl rfl | exact Or.inr rfl)) (pgs_cons (pg_name (i := 6) sc_leftovers.nd rfl (by first | exact Or.inl rfl | exact Or.inr rfl)) pgs_nil)))
      (pss_one (ps_for (passes_of rfl) rfl (pi_range1 (by rfl) T.n_range (pa_cons (pe_op op_add (pe_d D_most_often (hr.mono (by decide)) (by rfl) (passes_call (takes_of rfl rfl rfl rfl) fun _ _ _ _ z => z) (pa_cons (pv 5) (pa_cons (pv 3) pa_nil))) pe_int) pa_nil)) (pg_name (i := 7) sc_leftovers.nd rfl (by first | exact Or.inl rfl | exact Or.inr rfl))
      (pss_cons (ps_set (i := 8) sc_leftovers.nd rfl (by first | exact Or.inl rfl | exact Or.inr rfl) (pe_d D_plus (hr.mono (by decide)) (by rfl) (passes_call (takes_of rfl rfl rfl rfl) fun _ _ _ _ z => z) (pa_cons (pv 5) (pa_cons (pe_d D_taken (hr.mono (by decide)) (by rfl) (passes_call (takes_of rfl rfl rfl rfl) fun _ _ _ _ z => z) (pa_cons (pv 3) (pa_cons (pe_un un_neg (pv 7)) pa_nil))) pa_nil))))
    (pss_one (ps_if (pt_cmp (pc_dnotin (hu_of hr) (pv 8) (pv 4)))
      (pss_one (ps_dput (hu_of hr) (pv 4) (pv 8) (pe_tup (pa_star (pv 6) (pa_cons (pv 7) pa_nil))) rfl)) pss_nil))))))
    (pss_one (ps_set (i := 2) sc_leftovers.nd rfl (by first | exact Or.inl rfl | exact Or.inr rfl) (GX.pe_frz (pv 4)))))))
    (pss_one (ps_ret (pv 2))))), ?_⟩
  refine q_set d (go0.at b0 l0) (ev_dispT (fun M1 H1' L1 D1 => (ept_cons (ev_var rfl (lf r_rest L1)) (ev_tupN (el_nil (R := RI)) (by decide)) ept_nil)) (by decide)) hm fun v_found x_found H1 e hm r_found => ?_
  have d := e.dice; have b0 := b0.t l0 e; replace r_rest := up r_rest e; replace r_packs := up r_packs e
  refine q_for (S := (One (RDt (RT (All RI)) (RT (All RI))))) (Sl := (fun us σ' => ∃ (u_found : V) (o_pack : Option V) (o_later : Option V) (o_row : Option V) (o_numbers : Option V) (o_number : Option V) (o_left : Option V), us = [u_found] ∧ σ' = [some v_rest, some v_packs, some u_found, o_pack, o_later, o_row, o_numbers, o_number, o_left])) (Bp := (fun H' => Xt M0 H0 H')) (fun σ' => (T1 3 (RT (All RI)) σ')) d (go0.at b0 l0) (ei_tup (ev_var rfl r_packs)) hm (fun _ _ h e => h.t l0 e) (fun _ _ _ _ _ r q => tg1 r q) (fun H2 e => ⟨b0.t l0 e, [v_found], ⟨_, rfl, (up r_found e)⟩, ⟨_, _, _, _, _, _, _, rfl, rfl⟩⟩) (fun H2 e x_found x_pack vs σ' σ2 H2' P' hB ex hS hSl hT hm => ?_) (fun H2 e x_found vs σ' H2' hB ex hS hSl hm => ?_)
  · skip
    have dl1 := e.dice
    unfold T1 at hT
    obtain ⟨v_found, o_pack, o_later, o_row, o_numbers, o_number, o_left, rfl, rfl⟩ := hSl
    obtain ⟨_, ⟨⟩, r_found⟩ := hS
    replace r_rest := upm (up r_rest e) ex
    replace r_packs := upm (up r_packs e) ex
    have d := ex.dice
    have b0 := hB
    obtain ⟨v_pack, rfl, r_pack⟩ := hT
    have c1 := ex; have l1 : Mm.le M0 M0 := Mm.le.refl
    refine q_new d (go0.at b0 l0) (ef_dnew (Rk := (RT (All RI))) (Rv := (RT (All RI)))) hm fun D_later x_later H3 e n_later lk d hm a_later => ?_
    have n0_later := b0.none n_later; have n1_later := c1.none n_later; have b0 := b0.t l0 e; have l0 := l0.add (D := D_later); have c1 := c1.tl l1 e; have l1 := l1.add (D := D_later); replace r_rest := lf r_rest lk; replace r_packs := lf r_packs lk; replace r_found := lf r_found lk; replace r_pack := lf r_pack lk; have m_later : D_later ∈ (Mm.add M0 D_later).l := List.mem_cons_self; replace hca := lk.ca.trans hca
    refine q_for (S := (One (RDAt D_later (RT (All RI)) (RT (All RI))))) (Sl := (fun us σ' => ∃ (u_later : V) (o_row : Option V) (o_numbers : Option V) (o_number : Option V) (o_left : Option V), us = [u_later] ∧ σ' = [some v_rest, some v_packs, some v_found, some v_pack, some u_later, o_row, o_numbers, o_number, o_left])) (Bp := (fun H' => Xt M0 H0 H' ∧ Xm M0 H2 H')) (fun σ' => (T2 5 6 (RT (All RI)) (RT (All RI)) σ')) d (go0.at b0 l0) (ei_itemsT (ev_var rfl r_found)) hm (fun _ _ h e => by obtain ⟨h0, h1⟩ := h; exact ⟨h0.t l0 e, h1.tl l1 e⟩) (fun _ _ _ _ _ r q => tg2 r q) (fun H4 e => ⟨⟨b0.t l0 e, c1.tl l1 e⟩, [V.ref D_later], ⟨_, rfl, (up a_later e)⟩, ⟨_, _, _, _, _, rfl, rfl⟩⟩) (fun H4 e x_later tt vs σ' σ2 H4' P' hB ex hS hSl hT hm => ?_) (fun H4 e x_later vs σ' H4' hB ex hS hSl hm => ?_)
    · skip
      have dl2 := e.dice
      unfold T2 at hT
      obtain ⟨v_later, o_row, o_numbers, o_number, o_left, rfl, rfl⟩ := hSl
      obtain ⟨_, ⟨⟩, a_later⟩ := hS
      obtain rfl : v_later = .ref D_later := a_later.1
      replace r_rest := upm (up r_rest e) ex
      replace r_packs := upm (up r_packs e) ex
      replace r_found := upm (up r_found e) ex
      replace r_pack := upm (up r_pack e) ex
      have d := ex.dice
      obtain ⟨b0, c1⟩ := hB
      obtain ⟨v_row, v_numbers, rfl, r_row, r_numbers⟩ := hT
      obtain ⟨x_row, x_numbers⟩ := tt; dsimp only at r_row r_numbers hm
      have c2 := ex; have l2 : Mm.le (Mm.add M0 D_later) (Mm.add M0 D_later) := Mm.le.refl
      have m2_later := m_later
      refine lastS ?_
      refine q_for (S := (One (RDAt D_later (RT (All RI)) (RT (All RI))))) (Sl := (fun us σ' => ∃ (u_later : V) (o_number : Option V) (o_left : Option V), us = [u_later] ∧ σ' = [some v_rest, some v_packs, some v_found, some v_pack, some u_later, some v_row, some v_numbers, o_number, o_left])) (Bp := (fun H' => Xt M0 H0 H' ∧ Xm M0 H2 H' ∧ Xm (Mm.add M0 D_later) H4 H')) (fun σ' => (T1 7 RI σ')) d (go0.at b0 l0) (ei_rng1 (ea_one (ev_op o_add (ev_d hca (ea_cons (ev_var rfl r_row) (ea_one (ev_var rfl r_pack)))) ev_int))) hm (fun _ _ h e => by obtain ⟨h0, h1, h2⟩ := h; exact ⟨h0.t l0 e, h1.tl l1 e, h2.tl l2 e⟩) (fun _ _ _ _ _ r q => tg1 r q) (fun H5 e => ⟨⟨b0.t l0 e, c1.tl l1 e, c2.tl l2 e⟩, [V.ref D_later], ⟨_, rfl, (up a_later e)⟩, ⟨_, _, _, rfl, rfl⟩⟩) (fun H5 e x_later x_number vs σ' σ2 H5' P' hB ex hS hSl hT hm => ?_) (fun H5 e x_later vs σ' H5' hB ex hS hSl hm => ?_)
      · skip
        have dl3 := e.dice
        unfold T1 at hT
        obtain ⟨v_later, o_number, o_left, rfl, rfl⟩ := hSl
        obtain ⟨_, ⟨⟩, a_later⟩ := hS
        obtain rfl : v_later = .ref D_later := a_later.1
        replace r_rest := upm (up r_rest e) ex
        replace r_packs := upm (up r_packs e) ex
        replace r_found := upm (up r_found e) ex
        replace r_pack := upm (up r_pack e) ex
        replace r_row := upm (up r_row e) ex
        replace r_numbers := upm (up r_numbers e) ex
        have d := ex.dice
        obtain ⟨b0, c1, c2⟩ := hB
        obtain ⟨v_number, rfl, r_number⟩ := hT
        have c3 := ex; have l3 : Mm.le (Mm.add M0 D_later) (Mm.add M0 D_later) := Mm.le.refl
        have m3_later := m_later
        refine q_set d (go0.at b0 l0) (ev_d hca (ea_cons (ev_var rfl r_row) (ea_one (ev_d hca (ea_cons (ev_var rfl r_pack) (ea_one (ev_un u_neg (ev_var rfl r_number)))))))) hm fun v_left x_left H6 e hm r_left => ?_
        have d := e.dice; have b0 := b0.t l0 e; have c1 := c1.tl l1 e; have c2 := c2.tl l2 e; have c3 := c3.tl l3 e; replace r_rest := up r_rest e; replace r_packs := up r_packs e; replace r_found := up r_found e; replace r_pack := up r_pack e; replace a_later := up a_later e; replace r_row := up r_row e; replace r_numbers := up r_numbers e; replace r_number := up r_number e
        refine l_if0 d (go0.at b0 l0) (et_val (ev_dnin (ev_var rfl r_left) (ev_var rfl (RDAt.w a_later)))) hm (fun H7 e hm => ?_) (fun H7 e hm => ?_)
        · skip
          have d := e.dice; have b0 := b0.t l0 e; have c1 := c1.tl l1 e; have c2 := c2.tl l2 e; have c3 := c3.tl l3 e; replace r_rest := up r_rest e; replace r_packs := up r_packs e; replace r_found := up r_found e; replace r_pack := up r_pack e; replace a_later := up a_later e; replace r_row := up r_row e; replace r_numbers := up r_numbers e; replace r_number := up r_number e; replace r_left := up r_left e
          refine l_dput d (go0.at b0 l0) (fun _ _ q => ⟨_, rfl, q⟩) a_later m_later (ev_tupA (ea_star (ev_var rfl r_numbers) (ea_consA (ev_var rfl r_number) ea_nilA))) (ev_var rfl r_left) hm fun x_later H8 pt a_later hm => ?_
          have d := pt.xm.dice; have b0 := pt.xt b0 l0 n0_later; have c1 := pt.xmN c1 l1 n1_later; have c2 := pt.xmI c2 l2 m2_later; have c3 := pt.xmI c3 l3 m3_later; replace r_rest := upm r_rest pt.xm; replace r_packs := upm r_packs pt.xm; replace r_found := upm r_found pt.xm; replace r_pack := upm r_pack pt.xm; replace r_row := upm r_row pt.xm; replace r_numbers := upm r_numbers pt.xm; replace r_number := upm r_number pt.xm; replace r_left := upm r_left pt.xm
          exact ⟨⟨b0, c1, c2⟩, c3, x_later, [V.ref D_later], ⟨_, rfl, (wk a_later l3)⟩, ⟨_, _, _, rfl, rfl⟩, hm⟩
        · skip
          have d := e.dice; have b0 := b0.t l0 e; have c1 := c1.tl l1 e; have c2 := c2.tl l2 e; have c3 := c3.tl l3 e; replace r_rest := up r_rest e; replace r_packs := up r_packs e; replace r_found := up r_found e; replace r_pack := up r_pack e; replace a_later := up a_later e; replace r_row := up r_row e; replace r_numbers := up r_numbers e; replace r_number := up r_number e; replace r_left := up r_left e
          exact ⟨⟨b0, c1, c2⟩, c3, x_later, [V.ref D_later], ⟨_, rfl, (wk a_later l3)⟩, ⟨_, _, _, rfl, rfl⟩, hm⟩
      · skip
        obtain ⟨v_later, o_number, o_left, rfl, rfl⟩ := hSl
        obtain ⟨_, ⟨⟩, a_later⟩ := hS
        obtain rfl : v_later = .ref D_later := a_later.1
        replace r_rest := upm (up r_rest e) ex
        replace r_packs := upm (up r_packs e) ex
        replace r_found := upm (up r_found e) ex
        replace r_pack := upm (up r_pack e) ex
        replace r_row := upm (up r_row e) ex
        replace r_numbers := upm (up r_numbers e) ex
        have d := ex.dice
        obtain ⟨b0, c1, c2⟩ := hB
        exact ⟨⟨b0, c1⟩, c2, x_later, [V.ref D_later], ⟨_, rfl, (wk a_later l2)⟩, ⟨_, _, _, _, _, rfl, rfl⟩, hm⟩
    · skip
      obtain ⟨v_later, o_row, o_numbers, o_number, o_left, rfl, rfl⟩ := hSl
      obtain ⟨_, ⟨⟩, a_later⟩ := hS
      obtain rfl : v_later = .ref D_later := a_later.1
      replace r_rest := upm (up r_rest e) ex
      replace r_packs := upm (up r_packs e) ex
      replace r_found := upm (up r_found e) ex
      replace r_pack := upm (up r_pack e) ex
      have d := ex.dice
      obtain ⟨b0, c1⟩ := hB
      refine lastS ?_
      refine q_frzD d (fun _ _ q => ⟨_, rfl, q⟩) a_later m_later hm fun v_found x_found H5 pt d hm rz_found => ?_
      have b0 := pt.xt b0 l0 n0_later; have c1 := pt.xmN c1 l1 n1_later; replace r_rest := wk (upm r_rest pt.xm) (Mm.del_le (D := D_later)); replace r_packs := wk (upm r_packs pt.xm) (Mm.del_le (D := D_later)); replace r_pack := wk (upm r_pack pt.xm) (Mm.del_le (D := D_later)); have l0 := le_del l0 d0 n0_later; have l1 := le_del l1 dl1 n1_later; have r_found := rz_found; replace hca : (Mm.del (Mm.add M0 D_later) D_later).ca = N.ga := hca
      exact ⟨b0, c1, x_found, [v_found], ⟨_, rfl, (wk r_found l1)⟩, ⟨_, _, _, _, _, _, _, rfl, rfl⟩, hm⟩
  · skip
    obtain ⟨v_found, o_pack, o_later, o_row, o_numbers, o_number, o_left, rfl, rfl⟩ := hSl
    obtain ⟨_, ⟨⟩, r_found⟩ := hS
    replace r_rest := upm (up r_rest e) ex
    replace r_packs := upm (up r_packs e) ex
    have d := ex.dice
    have b0 := hB
    exact q_ret d (go0.at b0 l0) (ev_var rfl r_found) hm fun v z H3 e p r => kr v z H3 (b0.t l0 e) p (wk r l0)
def N_lean_in : List Str := ["line", "kept", "at", "pack", "others"]
theorem sc_lean_in : FnScope N_lean_in ["line"] (defScope zs_lean_in) := ⟨rfl, rfl, rfl, by decide +kernel, rfl, by decide +kernel, by decide +kernel⟩
abbrev sp_lean_in (N : En) : Sp := FnW N (One R_Line) R_Line (fun p => m_lean_in p)
theorem ok_lean_in {N : En} (T : Txt N) (F : FunP N "lean_in" zs_lean_in) (D_leftovers : Dn N 2 "leftovers" (sp_leftovers N)) (D_line_in : Dn N 7 "line_in" (sp_line_in N)) : Dn N 8 "lean_in" (sp_lean_in N) := by
  refine dn_mk F sc_lean_in (fun _ _ _ _ _ _ us hl => match us, hl with | [_], _ => rfl) (fun vs H Q E h => by obtain ⟨_, _, _, _, _, _, hS, _⟩ := h; exact Ln.len hS) ?_
  rintro cdv A outer s H0 vs Q E hr ⟨M0, x_line, P, PE, hca, d, hS, hm, kr, go0⟩
  obtain ⟨v_line, rfl, r_line⟩ := hS
  replace r_line : R_Line M0 x_line v_line H0 := r_line
  replace hm : m_lean_in x_line P PE := hm
  unfold m_lean_in at hm
  have b0 : Xt M0 H0 H0 := .refl d; have l0 : M0.le M0 := .refl; have d0 := d
  refine ⟨_, (pss_cons (ps_set (i := 1) sc_lean_in.nd rfl (by first | exact Or.inl rfl | exact Or.inr rfl) (pe_lst pa_nil))
    (pss_cons (ps_for (passes_of rfl) rfl (GX.pi_enumS true (by rfl) T.n_enumerate (pa_cons (pe_fld (pv 0) rfl) pa_nil)) (pg_tup (n := 2) rfl (pgs_cons (pg_name (i := 2) sc_lean_in.nd rfl (by first | exact Or.inl rfl | exact Or.inr rfl)) (pgs_cons (pg_name (i := 3) sc_lean_in.nd rfl (by first | exact Or.inl rfl | exact Or.inr rfl)) pgs_nil)))
      (pss_cons (ps_set (i := 4) sc_lean_in.nd rfl (by first | exact Or.inl rfl | exact Or.inr rfl) (pe_op op_catA (pe_slice sl_tupA (pe_fld (pv 0) rfl) po_none (po_some (pv 2))) (pe_slice sl_tupA (pe_fld (pv 0) rfl) (po_some (pe_op op_add (pv 2) pe_int)) po_none)))
    (pss_one (ps_if (pt_cmp (pc_dnotin (hu_of hr) (pe_op op_repTA (pe_tup (pa_cons pe_int pa_nil)) (pe_callB call_len_seq (by rfl) T.n_len (by decide +kernel) (pa_cons (pv 3) pa_nil))) (pe_d D_leftovers (hr.mono (by decide)) (by rfl) (passes_call (takes_of rfl rfl rfl rfl) fun _ _ _ _ z => z) (pa_cons (pv 3) (pa_cons (pv 4) pa_nil)))))
      (pss_one (ps_expr (pe_bm PySem.F.plainAttrs_list PySem.F.slot_list_append PySem.F.type_list_append mt_append (pv 1) (pa_cons (pv 3) pa_nil)))) pss_nil))))
    (pss_one (ps_ret (pe_d D_line_in (hr.mono (by decide)) (by rfl) (passes_call (takes_of rfl rfl rfl rfl) fun _ _ _ _ z => z) (pa_cons (pe_fld (pv 0) rfl) (pa_cons (pv 1) pa_nil))))))), ?_⟩
  refine q_new d (go0.at b0 l0) (ef_lstN (el_nil (R := (RT (All RI)))) (by decide)) hm fun D_kept x_kept H1 e n_kept lk d hm a_kept => ?_
  have n0_kept := b0.none n_kept; have b0 := b0.t l0 e; have l0 := l0.add (D := D_kept); replace r_line := lf r_line lk; have m_kept : D_kept ∈ (Mm.add M0 D_kept).l := List.mem_cons_self; replace hca := lk.ca.trans hca
  refine q_for (S := (One (RAt D_kept (All (RT (All RI)))))) (Sl := (fun us σ' => ∃ (u_kept : V) (o_at : Option V) (o_pack : Option V) (o_others : Option V), us = [u_kept] ∧ σ' = [some v_line, some u_kept, o_at, o_pack, o_others])) (Bp := (fun H' => Xt M0 H0 H')) (fun σ' => (T2 2 3 RI (RT (All RI)) σ')) d (go0.at b0 l0) (ei_enumS (ea_one (ev_fld hca T.c_Line T.na_Line_own_packs at_Line_own_packs (ev_var rfl r_line)))) hm (fun _ _ h e => h.t l0 e) (fun _ _ _ _ _ r q => tg2 r q) (fun H2 e => ⟨b0.t l0 e, [V.ref D_kept], ⟨_, rfl, (up a_kept e)⟩, ⟨_, _, _, _, rfl, rfl⟩⟩) (fun H2 e x_kept tt vs σ' σ2 H2' P' hB ex hS hSl hT hm => ?_) (fun H2 e x_kept vs σ' H2' hB ex hS hSl hm => ?_)
  · skip
    have dl1 := e.dice
    unfold T2 at hT
    obtain ⟨v_kept, o_at, o_pack, o_others, rfl, rfl⟩ := hSl
    obtain ⟨_, ⟨⟩, a_kept⟩ := hS
    obtain rfl : v_kept = .ref D_kept := a_kept.1
    replace r_line := upm (up r_line e) ex
    have d := ex.dice
    have b0 := hB
    obtain ⟨v_at, v_pack, rfl, r_at, r_pack⟩ := hT
    obtain ⟨x_at, x_pack⟩ := tt; dsimp only at r_at r_pack hm
    have c1 := ex; have l1 : Mm.le (Mm.add M0 D_kept) (Mm.add M0 D_kept) := Mm.le.refl
    have m1_kept := m_kept
    refine q_set d (go0.at b0 l0) (ev_op o_catA (ev_slT (ev_fld hca T.c_Line T.na_Line_own_packs at_Line_own_packs (ev_var rfl r_line)) eo_none (eo_some (ev_var rfl r_at))) (ev_slT (ev_fld hca T.c_Line T.na_Line_own_packs at_Line_own_packs (ev_var rfl r_line)) (eo_some (ev_op o_add (ev_var rfl r_at) ev_int)) eo_none)) hm fun v_others x_others H3 e hm r_others => ?_
    have d := e.dice; have b0 := b0.t l0 e; have c1 := c1.tl l1 e; replace r_line := up r_line e; replace a_kept := up a_kept e; replace r_at := up r_at e; replace r_pack := up r_pack e
    refine l_if0 d (go0.at b0 l0) (et_val (ev_dnin (ev_op o_repT (ev_tupN (el_cons ev_int el_nil) (by decide)) (ev_cb c_lenT (ea_one (ev_var rfl r_pack)))) (ev_d hca (ea_cons (ev_var rfl r_pack) (ea_one (ev_var rfl r_others)))))) hm (fun H4 e hm => ?_) (fun H4 e hm => ?_)
    · skip
      have d := e.dice; have b0 := b0.t l0 e; have c1 := c1.tl l1 e; replace r_line := up r_line e; replace a_kept := up a_kept e; replace r_at := up r_at e; replace r_pack := up r_pack e; replace r_others := up r_others e
      refine l_app d (go0.at b0 l0) (fun _ _ q => ⟨_, rfl, q⟩) a_kept m_kept (ev_var rfl r_pack) hm fun x_kept H5 pt a_kept hm => ?_
      have d := pt.xm.dice; have b0 := pt.xt b0 l0 n0_kept; have c1 := pt.xmI c1 l1 m1_kept; replace r_line := upm r_line pt.xm; replace r_at := upm r_at pt.xm; replace r_pack := upm r_pack pt.xm; replace r_others := upm r_others pt.xm
      exact ⟨b0, c1, x_kept, [V.ref D_kept], ⟨_, rfl, (wk a_kept l1)⟩, ⟨_, _, _, _, rfl, rfl⟩, hm⟩
    · skip
      have d := e.dice; have b0 := b0.t l0 e; have c1 := c1.tl l1 e; replace r_line := up r_line e; replace a_kept := up a_kept e; replace r_at := up r_at e; replace r_pack := up r_pack e; replace r_others := up r_others e
      exact ⟨b0, c1, x_kept, [V.ref D_kept], ⟨_, rfl, (wk a_kept l1)⟩, ⟨_, _, _, _, rfl, rfl⟩, hm⟩
  · skip
    obtain ⟨v_kept, o_at, o_pack, o_others, rfl, rfl⟩ := hSl
    obtain ⟨_, ⟨⟩, a_kept⟩ := hS
    obtain rfl : v_kept = .ref D_kept := a_kept.1
    replace r_line := upm (up r_line e) ex
    have d := ex.dice
    have b0 := hB
    have r_kept := a_kept.frz; replace d := d.wk (Mm.del_le (D := D_kept)); replace r_line := wk r_line (Mm.del_le (D := D_kept)); have l0 := le_del l0 d0 n0_kept; replace hca : (Mm.del (Mm.add M0 D_kept) D_kept).ca = N.ga := hca; clear a_kept m_kept; revert r_kept; generalize (V.ref D_kept : V) = v_kept; intro r_kept
    exact q_ret d (go0.at b0 l0) (ev_d hca (ea_cons (ev_fld hca T.c_Line T.na_Line_own_base at_Line_own_base (ev_var rfl r_line)) (ea_one (ev_var rfl r_kept)))) hm fun v z H3 e p r => kr v z H3 (b0.t l0 e) p (wk r l0)
def N_Style_lean : List Str := ["self", "line"]
theorem sc_Style_lean : FnScope N_Style_lean ["self"] (defScope zs_Style_lean) := ⟨rfl, rfl, rfl, by decide +kernel, rfl, by decide +kernel, by decide +kernel⟩
abbrev sp_Style_lean (N : En) : Sp := FnW N (One R_Style) R_Style (fun p => m_Style_lean p)
theorem ok_Style_lean {N : En} (T : Txt N) (F : FunM N "Style" "lean" "Style.lean" zs_Style_lean) (D_lean_in : Dn N 8 "lean_in" (sp_lean_in N)) (D_style_in : Dn N 6 "style_in" (sp_style_in N)) : Dm N 9 "Style" "lean" (sp_Style_lean N) := by
  refine dm_mk F sc_Style_lean (fun _ _ _ _ _ _ us hl => match us, hl with | [_], _ => rfl) (fun vs H Q E h => by obtain ⟨_, _, _, _, _, _, hS, _⟩ := h; exact Ln.len hS) ?_
  rintro cdv A outer s H0 vs Q E hr ⟨M0, x_self, P, PE, hca, d, hS, hm, kr, go0⟩
  obtain ⟨v_self, rfl, r_self⟩ := hS
  replace r_self : R_Style M0 x_self v_self H0 := r_self
  replace hm : m_Style_lean x_self P PE := hm
  unfold m_Style_lean at hm
  have b0 : Xt M0 H0 H0 := .refl d; have l0 : M0.le M0 := .refl; have d0 := d
  refine ⟨_, (pss_one (ps_ret (pe_d D_style_in (hr.mono (by decide)) (by rfl) (passes_call (takes_of rfl rfl rfl rfl) fun _ _ _ _ z => z) (pa_cons (pe_lc (own := [("line", 1)]) (g := gName 1) rfl sc_Style_lean.nd (pi_tup (pe_fld (pv 0) rfl)) (blkOk_by (own := [("line", 1)]) (N := N_Style_lean) (sc := defScope zs_Style_lean) (by decide +kernel)) (fun _ _ _ _ _ => (pg_name (i := 1) sc_Style_lean.nd rfl (by first | exact Or.inl rfl | exact Or.inr rfl))) (fun _ _ _ _ _ => pts_nil) (fun _ _ _ _ _ => (pe_d D_lean_in (hr.mono (by decide)) (by rfl) px0 (pa_cons (pv 1) pa_nil)))) pa_nil)))), ?_⟩
  exact q_ret d (go0.at b0 l0) (ev_d hca (ea_one (ev_lc1 (R' := R_Line) (EvI.x (ei_tup (ev_fld hca T.c_Style T.na_Style_own_lines at_Style_own_lines (ev_var rfl r_self)))) (fun M1 H1' q1 σ1 L1 D1 hT => by obtain ⟨v1_0, rfl, s1_0⟩ := hT; exact et_yes) (fun M1 H1' q1 σ1 L1 D1 hT => by obtain ⟨v1_0, rfl, s1_0⟩ := hT; exact (ev_d (L1.ca.trans hca) (ea_one (ev_var rfl s1_0))))))) hm fun v z H1 e p r => kr v z H1 (b0.t l0 e) p (wk r l0)
def N_Line_lean : List Str := ["self"]
theorem sc_Line_lean : FnScope N_Line_lean ["self"] (defScope zs_Line_lean) := ⟨rfl, rfl, rfl, by decide +kernel, rfl, by decide +kernel, by decide +kernel⟩
abbrev sp_Line_lean (N : En) : Sp := FnW N (One R_Line) R_Line (fun p => m_Line_lean p)
theorem ok_Line_lean {N : En} (T : Txt N) (F : FunM N "Line" "lean" "Line.lean" zs_Line_lean) (D_lean_in : Dn N 8 "lean_in" (sp_lean_in N)) : Dm N 9 "Line" "lean" (sp_Line_lean N) := by
  refine dm_mk F sc_Line_lean (fun _ _ _ _ _ _ us hl => match us, hl with | [_], _ => rfl) (fun vs H Q E h => by obtain ⟨_, _, _, _, _, _, hS, _⟩ := h; exact Ln.len hS) ?_
  rintro cdv A outer s H0 vs Q E hr ⟨M0, x_self, P, PE, hca, d, hS, hm, kr, go0⟩
  obtain ⟨v_self, rfl, r_self⟩ := hS
  replace r_self : R_Line M0 x_self v_self H0 := r_self
  replace hm : m_Line_lean x_self P PE := hm
  unfold m_Line_lean at hm
  have b0 : Xt M0 H0 H0 := .refl d; have l0 : M0.le M0 := .refl; have d0 := d
  refine ⟨_, (pss_one (ps_ret (pe_d D_lean_in (hr.mono (by decide)) (by rfl) (passes_call (takes_of rfl rfl rfl rfl) fun _ _ _ _ z => z) (pa_cons (pv 0) pa_nil)))), ?_⟩
  exact q_ret d (go0.at b0 l0) (ev_d hca (ea_one (ev_var rfl r_self))) hm fun v z H1 e p r => kr v z H1 (b0.t l0 e) p (wk r l0)
def N_require_sort : List Str := ["sort", "sorts"]
theorem sc_require_sort : FnScope N_require_sort ["sort", "sorts"] (defScope zs_require_sort) := ⟨rfl, rfl, rfl, by decide +kernel, rfl, by decide +kernel, by decide +kernel⟩
abbrev sp_require_sort (N : En) : Sp := FnW N (Cons RI (One RI)) RN (fun p => m_require_sort p.1 p.2)
theorem ok_require_sort {N : En} (T : Txt N) (F : FunP N "require_sort" zs_require_sort) (D_is_integer : Dn N 1 "is_integer" (sp_is_integer N)) : Dn N 2 "require_sort" (sp_require_sort N) := by
  refine dn_mk F sc_require_sort (fun _ _ _ _ _ _ us hl => match us, hl with | [_, _], _ => rfl) (fun vs H Q E h => by obtain ⟨_, _, _, _, _, _, hS, _⟩ := h; exact Ln.len hS) ?_
  rintro cdv A outer s H0 vs Q E hr ⟨M0, xx, P, PE, hca, d, hS, hm, kr, go0⟩
  obtain ⟨x_sort, x_sorts⟩ := xx
  obtain ⟨v_sort, _, rfl, r_sort, v_sorts, rfl, r_sorts⟩ := hS
  replace r_sort : RI M0 x_sort v_sort H0 := r_sort
  replace r_sorts : RI M0 x_sorts v_sorts H0 := r_sorts
  replace hm : m_require_sort x_sort x_sorts P PE := hm
  unfold m_require_sort at hm
  have b0 : Xt M0 H0 H0 := .refl d; have l0 : M0.le M0 := .refl; have d0 := d
  refine ⟨_, (pss_cons (ps_if (pt_not (pt_val (pe_d D_is_integer (hr.mono (by decide)) (by rfl) (passes_call (takes_of rfl rfl rfl rfl) fun _ _ _ _ z => z) (pa_cons (pv 0) (pa_cons pe_int (pa_cons (pe_op op_sub (pv 1) pe_int) pa_nil))))))
      (pss_one ps_never) pss_nil)
    (pss_one (ps_if (pt_cmpR op_eq (pv 1) pe_int (nomark _))
      (pss_one ps_never) pss_nil))), ?_⟩
  refine q_if0 d (go0.at b0 l0) (et_not (et_val (ev_d hca (ea_cons (ev_var rfl r_sort) (ea_cons ev_int (ea_one (ev_some (ev_op o_sub (ev_var rfl r_sorts) ev_int)))))))) hm (fun H1 e hm => ?_) (fun H1 e hm => ?_)
  · skip
    have d := e.dice; have b0 := b0.t l0 e; replace r_sort := up r_sort e; replace r_sorts := up r_sorts e
    exact hm.elim
  · skip
    have d := e.dice; have b0 := b0.t l0 e; replace r_sort := up r_sort e; replace r_sorts := up r_sorts e
    refine l_if0 d (go0.at b0 l0) (et_test (ev_op o_eq (ev_var rfl r_sorts) ev_int)) hm (fun H2 e hm => ?_) (fun H2 e hm => ?_)
    · skip
      have d := e.dice; have b0 := b0.t l0 e; replace r_sort := up r_sort e; replace r_sorts := up r_sorts e
      exact hm.elim
    · skip
      have d := e.dice; have b0 := b0.t l0 e; replace r_sort := up r_sort e; replace r_sorts := up r_sorts e
      exact kr .non () _ b0 hm rfl
def N_forgotten_in : List Str := ["line", "sort", "base", "pack"]
theorem sc_forgotten_in : FnScope N_forgotten_in ["line", "sort"] (defScope zs_forgotten_in) := ⟨rfl, rfl, rfl, by decide +kernel, rfl, by decide +kernel, by decide +kernel⟩
abbrev sp_forgotten_in (N : En) : Sp := FnW N (Cons R_Line (One RI)) R_Line (fun p => m_forgotten_in p.1 p.2)
theorem ok_forgotten_in {N : En} (T : Txt N) (F : FunP N "forgotten_in" zs_forgotten_in) (D_line_in : Dn N 7 "line_in" (sp_line_in N)) : Dn N 8 "forgotten_in" (sp_forgotten_in N) := by
  refine dn_mk F sc_forgotten_in (fun _ _ _ _ _ _ us hl => match us, hl with | [_, _], _ => rfl) (fun vs H Q E h => by obtain ⟨_, _, _, _, _, _, hS, _⟩ := h; exact Ln.len hS) ?_
  rintro cdv A outer s H0 vs Q E hr ⟨M0, xx, P, PE, hca, d, hS, hm, kr, go0⟩
  obtain ⟨x_line, x_sort⟩ := xx
  obtain ⟨v_line, _, rfl, r_line, v_sort, rfl, r_sort⟩ := hS
  replace r_line : R_Line M0 x_line v_line H0 := r_line
  replace r_sort : RI M0 x_sort v_sort H0 := r_sort
  replace hm : m_forgotten_in x_line x_sort P PE := hm
  unfold m_forgotten_in at hm
  have b0 : Xt M0 H0 H0 := .refl d; have l0 : M0.le M0 := .refl; have d0 := d
  refine ⟨_, (pss_cons (ps_set (i := 2) sc_forgotten_in.nd rfl (by first | exact Or.inl rfl | exact Or.inr rfl) (pe_op op_catA (pe_slice sl_tupA (pe_fld (pv 0) rfl) po_none (po_some (pv 1))) (pe_slice sl_tupA (pe_fld (pv 0) rfl) (po_some (pe_op op_add (pv 1) pe_int)) po_none)))
    (pss_one (ps_ret (pe_d D_line_in (hr.mono (by decide)) (by rfl) (passes_call (takes_of rfl rfl rfl rfl) fun _ _ _ _ z => z) (pa_cons (pv 2) (pa_cons (pe_lc (own := [("pack", 3)]) (g := gName 3) rfl sc_forgotten_in.nd (pi_tup (pe_fld (pv 0) rfl)) (blkOk_by (own := [("pack", 3)]) (N := N_forgotten_in) (sc := defScope zs_forgotten_in) (by decide +kernel)) (fun _ _ _ _ _ => (pg_name (i := 3) sc_forgotten_in.nd rfl (by first | exact Or.inl rfl | exact Or.inr rfl))) (fun _ _ _ _ _ => pts_nil) (fun _ _ _ _ _ => (pe_op (op_catAK N.K (by rfl)) (pe_slice (sl_tupAK N.K (by rfl)) (pv 3) po_none (po_some (pv 1))) (pe_slice (sl_tupAK N.K (by rfl)) (pv 3) (po_some (pe_op op_add (pv 1) pe_int)) po_none)))) pa_nil)))))), ?_⟩
  refine q_set d (go0.at b0 l0) (ev_op o_catA (ev_slT (ev_fld hca T.c_Line T.na_Line_own_base at_Line_own_base (ev_var rfl r_line)) eo_none (eo_some (ev_var rfl r_sort))) (ev_slT (ev_fld hca T.c_Line T.na_Line_own_base at_Line_own_base (ev_var rfl r_line)) (eo_some (ev_op o_add (ev_var rfl r_sort) ev_int)) eo_none)) hm fun v_base x_base H1 e hm r_base => ?_
  have d := e.dice; have b0 := b0.t l0 e; replace r_line := up r_line e; replace r_sort := up r_sort e
  exact q_ret d (go0.at b0 l0) (ev_d hca (ea_cons (ev_var rfl r_base) (ea_one (ev_lc1 (R' := (RT (All RI))) (EvI.x (ei_tup (ev_fld hca T.c_Line T.na_Line_own_packs at_Line_own_packs (ev_var rfl r_line)))) (fun M1 H1' q1 σ1 L1 D1 hT => by obtain ⟨v1_0, rfl, s1_0⟩ := hT; exact et_yes) (fun M1 H1' q1 σ1 L1 D1 hT => by obtain ⟨v1_0, rfl, s1_0⟩ := hT; exact (ev_op o_catA (ev_slT (ev_var rfl s1_0) eo_none (eo_some (ev_var rfl (lf r_sort L1)))) (ev_slT (ev_var rfl s1_0) (eo_some (ev_op o_add (ev_var rfl (lf r_sort L1)) ev_int)) eo_none))))))) hm fun v z H2 e p r => kr v z H2 (b0.t l0 e) p (wk r l0)
def N_Style_forgetting : List Str := ["self", "sort", "line"]
theorem sc_Style_forgetting : FnScope N_Style_forgetting ["self", "sort"] (defScope zs_Style_forgetting) := ⟨rfl, rfl, rfl, by decide +kernel, rfl, by decide +kernel, by decide +kernel⟩
abbrev sp_Style_forgetting (N : En) : Sp := FnW N (Cons R_Style (One RI)) R_Style (fun p => m_Style_forgetting p.1 p.2)
theorem ok_Style_forgetting {N : En} (T : Txt N) (F : FunM N "Style" "forgetting" "Style.forgetting" zs_Style_forgetting) (D_require_sort : Dn N 2 "require_sort" (sp_require_sort N)) (D_forgotten_in : Dn N 8 "forgotten_in" (sp_forgotten_in N)) (D_style_in : Dn N 6 "style_in" (sp_style_in N)) : Dm N 9 "Style" "forgetting" (sp_Style_forgetting N) := by
  refine dm_mk F sc_Style_forgetting (fun _ _ _ _ _ _ us hl => match us, hl with | [_, _], _ => rfl) (fun vs H Q E h => by obtain ⟨_, _, _, _, _, _, hS, _⟩ := h; exact Ln.len hS) ?_
  rintro cdv A outer s H0 vs Q E hr ⟨M0, xx, P, PE, hca, d, hS, hm, kr, go0⟩
  obtain ⟨x_self, x_sort⟩ := xx
  obtain ⟨v_self, _, rfl, r_self, v_sort, rfl, r_sort⟩ := hS
  replace r_self : R_Style M0 x_self v_self H0 := r_self
  replace r_sort : RI M0 x_sort v_sort H0 := r_sort
  replace hm : m_Style_forgetting x_self x_sort P PE := hm
  unfold m_Style_forgetting at hm
  have b0 : Xt M0 H0 H0 := .refl d; have l0 : M0.le M0 := .refl; have d0 := d
  refine ⟨_, (pss_cons (ps_expr (pe_d D_require_sort (hr.mono (by decide)) (by rfl) (passes_call (takes_of rfl rfl rfl rfl) fun _ _ _ _ z => z) (pa_cons (pv 1) (pa_cons (pe_callB call_len_seq (by rfl) T.n_len (by decide +kernel) (pa_cons (pe_fld (pe_ix ix_tup (pe_fld (pv 0) rfl) pe_int (fun _ _ => rfl)) rfl) pa_nil)) pa_nil))))
    (pss_one (ps_ret (pe_d D_style_in (hr.mono (by decide)) (by rfl) (passes_call (takes_of rfl rfl rfl rfl) fun _ _ _ _ z => z) (pa_cons (pe_lc (own := [("line", 2)]) (g := gName 2) rfl sc_Style_forgetting.nd (pi_tup (pe_fld (pv 0) rfl)) (blkOk_by (own := [("line", 2)]) (N := N_Style_forgetting) (sc := defScope zs_Style_forgetting) (by decide +kernel)) (fun _ _ _ _ _ => (pg_name (i := 2) sc_Style_forgetting.nd rfl (by first | exact Or.inl rfl | exact Or.inr rfl))) (fun _ _ _ _ _ => pts_nil) (fun _ _ _ _ _ => (pe_d D_forgotten_in (hr.mono (by decide)) (by rfl) px0 (pa_cons (pv 2) (pa_cons (pv 1) pa_nil))))) pa_nil))))), ?_⟩
  refine q_drop d (go0.at b0 l0) (ev_d hca (ea_cons (ev_var rfl r_sort) (ea_one (ev_cb c_lenT (ea_one (ev_fld hca T.c_Line T.na_Line_own_base at_Line_own_base (ev_op o_ixT (ev_fld hca T.c_Style T.na_Style_own_lines at_Style_own_lines (ev_var rfl r_self)) ev_int))))))) hm fun _ _ H1 e hm _ => ?_
  have d := e.dice; have b0 := b0.t l0 e; replace r_self := up r_self e; replace r_sort := up r_sort e
  exact q_ret d (go0.at b0 l0) (ev_d hca (ea_one (ev_lc1 (R' := R_Line) (EvI.x (ei_tup (ev_fld hca T.c_Style T.na_Style_own_lines at_Style_own_lines (ev_var rfl r_self)))) (fun M1 H1' q1 σ1 L1 D1 hT => by obtain ⟨v1_0, rfl, s1_0⟩ := hT; exact et_yes) (fun M1 H1' q1 σ1 L1 D1 hT => by obtain ⟨v1_0, rfl, s1_0⟩ := hT; exact (ev_d (L1.ca.trans hca) (ea_cons (ev_var rfl s1_0) (ea_one (ev_var rfl (lf r_sort L1))))))))) hm fun v z H2 e p r => kr v z H2 (b0.t l0 e) p (wk r l0)
def N_Line_forgetting : List Str := ["self", "sort"]
theorem sc_Line_forgetting : FnScope N_Line_forgetting ["self", "sort"] (defScope zs_Line_forgetting) := ⟨rfl, rfl, rfl, by decide +kernel, rfl, by decide +kernel, by decide +kernel⟩
abbrev sp_Line_forgetting (N : En) : Sp := FnW N (Cons R_Line (One RI)) R_Line (fun p => m_Line_forgetting p.1 p.2)
theorem ok_Line_forgetting {N : En} (T : Txt N) (F : FunM N "Line" "forgetting" "Line.forgetting" zs_Line_forgetting) (D_require_sort : Dn N 2 "require_sort" (sp_require_sort N)) (D_forgotten_in : Dn N 8 "forgotten_in" (sp_forgotten_in N)) : Dm N 9 "Line" "forgetting" (sp_Line_forgetting N) := by
  refine dm_mk F sc_Line_forgetting (fun _ _ _ _ _ _ us hl => match us, hl with | [_, _], _ => rfl) (fun vs H Q E h => by obtain ⟨_, _, _, _, _, _, hS, _⟩ := h; exact Ln.len hS) ?_
  rintro cdv A outer s H0 vs Q E hr ⟨M0, xx, P, PE, hca, d, hS, hm, kr, go0⟩
  obtain ⟨x_self, x_sort⟩ := xx
  obtain ⟨v_self, _, rfl, r_self, v_sort, rfl, r_sort⟩ := hS
  replace r_self : R_Line M0 x_self v_self H0 := r_self
  replace r_sort : RI M0 x_sort v_sort H0 := r_sort
  replace hm : m_Line_forgetting x_self x_sort P PE := hm
  unfold m_Line_forgetting at hm
  have b0 : Xt M0 H0 H0 := .refl d; have l0 : M0.le M0 := .refl; have d0 := d
  refine ⟨_, (pss_cons (ps_expr (pe_d D_require_sort (hr.mono (by decide)) (by rfl) (passes_call (takes_of rfl rfl rfl rfl) fun _ _ _ _ z => z) (pa_cons (pv 1) (pa_cons (pe_callB call_len_seq (by rfl) T.n_len (by decide +kernel) (pa_cons (pe_fld (pv 0) rfl) pa_nil)) pa_nil))))
    (pss_one (ps_ret (pe_d D_forgotten_in (hr.mono (by decide)) (by rfl) (passes_call (takes_of rfl rfl rfl rfl) fun _ _ _ _ z => z) (pa_cons (pv 0) (pa_cons (pv 1) pa_nil)))))), ?_⟩
  refine q_drop d (go0.at b0 l0) (ev_d hca (ea_cons (ev_var rfl r_sort) (ea_one (ev_cb c_lenT (ea_one (ev_fld hca T.c_Line T.na_Line_own_base at_Line_own_base (ev_var rfl r_self))))))) hm fun _ _ H1 e hm _ => ?_
  have d := e.dice; have b0 := b0.t l0 e; replace r_self := up r_self e; replace r_sort := up r_sort e
  exact q_ret d (go0.at b0 l0) (ev_d hca (ea_cons (ev_var rfl r_self) (ea_one (ev_var rfl r_sort)))) hm fun v z H2 e p r => kr v z H2 (b0.t l0 e) p (wk r l0)
end T09

set_option synthInstance.maxSize 100000
namespace T09
open PySem PySem.Spec PyProof.Rows L2 GB MW
open GX (srtR leR)

def N__law_dice : List Str := ["script", "at", "cell", "great", "left", "mixed"]
theorem sc__law_dice : FnScope N__law_dice ["script", "at"] (defScope zs__law_dice) := ⟨rfl, rfl, rfl, by decide +kernel, rfl, by decide +kernel, by decide +kernel⟩
abbrev sp__law_dice (N : En) : Sp := FnN N (Cons (RSc N.K) (One RI)) (All RI) (fun p => m__law_dice p.1 p.2)
theorem ok__law_dice {N : En} (T : Txt N) (F : FunP N "_law_dice" zs__law_dice)  : Dn N 1 "_law_dice" (sp__law_dice N) := by
  refine dn_mk F sc__law_dice (fun _ _ _ _ _ _ us hl => match us, hl with | [_, _], _ => rfl) (fun vs H Q E h => by obtain ⟨_, _, _, _, _, _, hS, _⟩ := h; exact Ln.len hS) ?_
  rintro cdv A outer s H0 vs Q E hr ⟨M0, xx, P, PE, hca, d, hS, hm, kr, go0⟩
  obtain ⟨x_script, x_at⟩ := xx
  obtain ⟨v_script, _, rfl, r_script, v_at, rfl, r_at⟩ := hS
  replace r_script : (RSc N.K) M0 x_script v_script H0 := r_script
  replace r_at : RI M0 x_at v_at H0 := r_at
  replace hm : m__law_dice x_script x_at P PE := hm
  unfold m__law_dice at hm
  have b0 : Xt M0 H0 H0 := .refl d; have l0 : M0.le M0 := .refl; have d0 := d
  refine ⟨_, (pss_cons (ps_set (i := 2) sc__law_dice.nd rfl (by first | exact Or.inl rfl | exact Or.inr rfl) (pe_op op_add (pe_op op_mul pe_int (pv 1)) pe_int))
    (pss_cons (ps_if (pt_cmpR op_lt (pv 1) (pe_callB call_len_seq (by rfl) T.n_len (by decide +kernel) (pa_cons (pv 0) pa_nil)) (nomark _))
      (pss_one (ps_set (i := 2) sc__law_dice.nd rfl (by first | exact Or.inl rfl | exact Or.inr rfl) (pe_ix ix_list (pv 0) (pv 1) (fun _ _ => rfl)))) pss_nil)
    (pss_cons (ps_set (i := 3) sc__law_dice.nd rfl (by first | exact Or.inl rfl | exact Or.inr rfl) (pe_op op_mod (pe_callTy call_int1 (by rfl) T.n_int (by decide +kernel) (pa_cons (pe_callB call_abs (by rfl) T.n_abs (by decide +kernel) (pa_cons (pv 2) pa_nil)) pa_nil)) (pe_op op_pow9 (pe_op op_pow9 pe_int pe_int) pe_int)))
    (pss_cons (ps_set (i := 4) sc__law_dice.nd rfl (by first | exact Or.inl rfl | exact Or.inr rfl) (pe_op op_fdivW (pv 3) (pe_op op_pow9 pe_int pe_int)))
    (pss_cons (ps_set (i := 5) sc__law_dice.nd rfl (by first | exact Or.inl rfl | exact Or.inr rfl) (pe_op op_add (pe_op op_add (pe_op op_add (pe_op op_mul (pe_op op_mod (pv 3) pe_int) pe_int) (pe_op op_mul pe_int (pv 1))) (pe_op op_mul pe_int (pe_callTy call_int1 (by rfl) T.n_int (by decide +kernel) (pa_cons (pe_cmpR op_lt (pv 2) pe_int (nomark _)) pa_nil)))) pe_int))
    (pss_one (ps_ret (pe_lst (pa_cons (pv 4) (pa_cons (pe_op op_mod (pv 5) pe_int) (pa_cons pe_int pa_nil))))))))))), ?_⟩
  refine q_set d (go0.at b0 l0) (ev_op o_add (ev_op o_mul ev_int (ev_var rfl r_at)) ev_int) hm fun v_cell x_cell H1 e hm r_cell => ?_
  have d := e.dice; have b0 := b0.t l0 e; replace r_script := up r_script e; replace r_at := up r_at e
  refine q_ifJ (One RI) (fun us σ' => ∃ (u_cell : V) (o_great : Option V) (o_left : Option V) (o_mixed : Option V), us = [u_cell] ∧ σ' = [some v_script, some v_at, some u_cell, o_great, o_left, o_mixed]) (fun H' => Xt M0 H0 H') d (go0.at b0 l0) (et_test (ev_op o_lt (ev_var rfl r_at) (ev_cb c_lenQ (ea_one (ev_var rfl r_script))))) hm (fun fin2 H2 e hm => ?_) (fun fin2 H2 e hm => ?_) (fun x_cell vs σ' H2' hB ex hS hSl hm => ?_)
  · skip
    have dl1 := d; have c1 := e.m; have l1 : Mm.le M0 M0 := Mm.le.refl
    have d := e.dice; have b0 := b0.t l0 e; replace r_script := up r_script e; replace r_at := up r_at e; replace r_cell := up r_cell e
    refine l_set d (go0.at b0 l0) (ev_op o_ixQ (ev_var rfl r_script) (ev_var rfl r_at)) hm fun v_cell x_cell H3 e hm r_cell => ?_
    have d := e.dice; have b0 := b0.t l0 e; have c1 := c1.tl l1 e; replace r_script := up r_script e; replace r_at := up r_at e
    exact fin2 _ _ ⟨b0, c1, x_cell, [v_cell], ⟨_, rfl, (wk r_cell l1)⟩, ⟨_, _, _, _, rfl, rfl⟩, hm⟩
  · skip
    have dl1 := d; have c1 := e.m; have l1 : Mm.le M0 M0 := Mm.le.refl
    have d := e.dice; have b0 := b0.t l0 e; replace r_script := up r_script e; replace r_at := up r_at e; replace r_cell := up r_cell e
    exact fin2 _ _ ⟨b0, c1, x_cell, [v_cell], ⟨_, rfl, (wk r_cell l1)⟩, ⟨_, _, _, _, rfl, rfl⟩, hm⟩
  · skip
    obtain ⟨v_cell, o_great, o_left, o_mixed, rfl, rfl⟩ := hSl
    obtain ⟨_, ⟨⟩, r_cell⟩ := hS
    replace r_script := upm r_script ex
    replace r_at := upm r_at ex
    have d := ex.dice
    have b0 := hB
    refine q_set d (go0.at b0 l0) (ev_op o_mod (ev_cb c_int (ea_one (ev_cb c_abs (ea_one (ev_var rfl r_cell))))) (ev_op o_pow9 (ev_op o_pow9 ev_int ev_int) ev_int)) hm fun v_great x_great H3 e hm r_great => ?_
    have d := e.dice; have b0 := b0.t l0 e; replace r_script := up r_script e; replace r_at := up r_at e; replace r_cell := up r_cell e
    refine q_set d (go0.at b0 l0) (ev_op o_fdivW (ev_var rfl r_great) (ev_op o_pow9 ev_int ev_int)) hm fun v_left x_left H4 e hm r_left => ?_
    have d := e.dice; have b0 := b0.t l0 e; replace r_script := up r_script e; replace r_at := up r_at e; replace r_cell := up r_cell e; replace r_great := up r_great e
    refine q_set d (go0.at b0 l0) (ev_op o_add (ev_op o_add (ev_op o_add (ev_op o_mul (ev_op o_mod (ev_var rfl r_great) ev_int) ev_int) (ev_op o_mul ev_int (ev_var rfl r_at))) (ev_op o_mul ev_int (ev_cb c_intB (ea_one (ev_op o_lt (ev_var rfl r_cell) ev_int))))) ev_int) hm fun v_mixed x_mixed H5 e hm r_mixed => ?_
    have d := e.dice; have b0 := b0.t l0 e; replace r_script := up r_script e; replace r_at := up r_at e; replace r_cell := up r_cell e; replace r_great := up r_great e; replace r_left := up r_left e
    exact q_retF d (go0.at b0 l0) (ef_lstN (el_cons (ev_var rfl r_left) (el_cons (ev_op o_mod (ev_var rfl r_mixed) ev_int) (el_cons ev_int el_nil))) (by decide)) hm fun a z H6 e n ho p r => kr a z H6 (b0.t l0 e) (b0.none n) ho p (wk r l0.adds)
def N__law_roll : List Str := ["dice", "total", "number", "drawn", "one", "two"]
theorem sc__law_roll : FnScope N__law_roll ["dice", "total"] (defScope zs__law_roll) := ⟨rfl, rfl, rfl, by decide +kernel, rfl, by decide +kernel, by decide +kernel⟩
abbrev sp__law_roll (N : En) : Sp := FnW N (Cons RD (One RI)) RI (fun p => m__law_roll p.1 p.2)
theorem ok__law_roll {N : En} (T : Txt N) (F : FunP N "_law_roll" zs__law_roll)  : Dn N 1 "_law_roll" (sp__law_roll N) := by
  refine dn_mk F sc__law_roll (fun _ _ _ _ _ _ us hl => match us, hl with | [_, _], _ => rfl) (fun vs H Q E h => by obtain ⟨_, _, _, _, _, _, hS, _⟩ := h; exact Ln.len hS) ?_
  rintro cdv A outer s H0 vs Q E hr ⟨M0, xx, P, PE, hca, d, hS, hm, kr, go0⟩
  obtain ⟨x_dice, x_total⟩ := xx
  obtain ⟨v_dice, _, rfl, r_dice, v_total, rfl, r_total⟩ := hS
  replace r_dice : RD M0 x_dice v_dice H0 := r_dice
  replace r_total : RI M0 x_total v_total H0 := r_total
  replace hm : m__law_roll x_dice x_total P PE := hm
  unfold m__law_roll at hm
  have b0 : Xt M0 H0 H0 := .refl d; have l0 : M0.le M0 := .refl; have d0 := d
  refine ⟨_, (pss_cons (ps_set (i := 2) sc__law_roll.nd rfl (by first | exact Or.inl rfl | exact Or.inr rfl) (pe_callTy call_int1 (by rfl) T.n_int (by decide +kernel) (pa_cons (pv 1) pa_nil)))
    (pss_cons (ps_if (pt_cmpR op_gt (pe_ix ix_list (pv 0) pe_int (fun _ _ => rfl)) pe_int (nomark _))
      (pss_cons (ps_set (i := 3) sc__law_roll.nd rfl (by first | exact Or.inl rfl | exact Or.inr rfl) (pe_op op_mod (pe_ix ix_list (pv 0) pe_int (fun _ _ => rfl)) (pv 2)))
    (pss_cons (ps_asg (pe_op op_fdiv (pe_ix ix_list (pv 0) pe_int (fun _ _ => rfl)) (pv 2)) (pg_sub (pv 0) pe_int set_list))
    (pss_one (ps_ret (pe_callTy call_int1 (by rfl) T.n_int (by decide +kernel) (pa_cons (pv 3) pa_nil)))))) pss_nil)
    (pss_cons (ps_asg (pe_op op_add (pe_ix ix_list (pv 0) pe_int (fun _ _ => rfl)) pe_int) (pg_sub (pv 0) pe_int set_list))
    (pss_cons (ps_set (i := 4) sc__law_roll.nd rfl (by first | exact Or.inl rfl | exact Or.inr rfl) (pe_op op_mod (pe_op op_add (pe_ix ix_list (pv 0) pe_int (fun _ _ => rfl)) (pe_op op_mul pe_int (pe_ix ix_list (pv 0) pe_int (fun _ _ => rfl)))) pe_int))
    (pss_cons (ps_set (i := 5) sc__law_roll.nd rfl (by first | exact Or.inl rfl | exact Or.inr rfl) (pe_op op_add (pe_op op_mul (pe_op op_mod (pe_op op_mul (pv 4) (pv 4)) pe_int) (pv 4)) (pe_op op_mul pe_int (pe_ix ix_list (pv 0) pe_int (fun _ _ => rfl)))))
    (pss_cons (ps_set (i := 5) sc__law_roll.nd rfl (by first | exact Or.inl rfl | exact Or.inr rfl) (pe_op op_mod (pv 5) pe_int))
    (pss_one (ps_ret (pe_callTy call_int1 (by rfl) T.n_int (by decide +kernel) (pa_cons (pe_op op_mod (pe_op op_fdiv (pv 5) pe_int) (pv 2)) pa_nil)))))))))), ?_⟩
  refine q_set d (go0.at b0 l0) (ev_cb c_int (ea_one (ev_var rfl r_total))) hm fun v_number x_number H1 e hm r_number => ?_
  have d := e.dice; have b0 := b0.t l0 e; replace r_dice := up r_dice e; replace r_total := up r_total e
  refine q_if0 d (go0.at b0 l0) (et_test (ev_op o_gt (ev_ixD 0 (ev_var rfl r_dice)) ev_int)) hm (fun H2 e hm => ?_) (fun H2 e hm => ?_)
  · skip
    have d := e.dice; have b0 := b0.t l0 e; replace r_dice := up r_dice e; replace r_total := up r_total e; replace r_number := up r_number e
    refine q_set d (go0.at b0 l0) (ev_op o_mod (ev_ixD 0 (ev_var rfl r_dice)) (ev_var rfl r_number)) hm fun v_drawn x_drawn H3 e hm r_drawn => ?_
    have d := e.dice; have b0 := b0.t l0 e; replace r_dice := up r_dice e; replace r_total := up r_total e; replace r_number := up r_number e
    refine q_dset 0 d (go0.at b0 l0) (ev_op o_fdiv (ev_ixD 0 (ev_var rfl r_dice)) (ev_var rfl r_number)) rfl r_dice hm fun y4 H4 e hm => ?_
    have d := e.dice; have b0 := b0.t l0 e; replace r_dice := up r_dice e; replace r_total := up r_total e; replace r_number := up r_number e; replace r_drawn := up r_drawn e
    exact q_ret d (go0.at b0 l0) (ev_cb c_int (ea_one (ev_var rfl r_drawn))) hm fun v z H5 e p r => kr v z H5 (b0.t l0 e) p (wk r l0)
  · skip
    have d := e.dice; have b0 := b0.t l0 e; replace r_dice := up r_dice e; replace r_total := up r_total e; replace r_number := up r_number e
    refine q_dset 2 d (go0.at b0 l0) (ev_op o_add (ev_ixD 2 (ev_var rfl r_dice)) ev_int) rfl r_dice hm fun y6 H3 e hm => ?_
    have d := e.dice; have b0 := b0.t l0 e; replace r_dice := up r_dice e; replace r_total := up r_total e; replace r_number := up r_number e
    refine q_set d (go0.at b0 l0) (ev_op o_mod (ev_op o_add (ev_ixD 1 (ev_var rfl r_dice)) (ev_op o_mul ev_int (ev_ixD 2 (ev_var rfl r_dice)))) ev_int) hm fun v_one x_one H4 e hm r_one => ?_
    have d := e.dice; have b0 := b0.t l0 e; replace r_dice := up r_dice e; replace r_total := up r_total e; replace r_number := up r_number e
    refine q_set d (go0.at b0 l0) (ev_op o_add (ev_op o_mul (ev_op o_mod (ev_op o_mul (ev_var rfl r_one) (ev_var rfl r_one)) ev_int) (ev_var rfl r_one)) (ev_op o_mul ev_int (ev_ixD 2 (ev_var rfl r_dice)))) hm fun v_two x_two H5 e hm r_two => ?_
    have d := e.dice; have b0 := b0.t l0 e; replace r_dice := up r_dice e; replace r_total := up r_total e; replace r_number := up r_number e; replace r_one := up r_one e
    refine q_set d (go0.at b0 l0) (ev_op o_mod (ev_var rfl r_two) ev_int) hm fun v_two x_two H6 e hm r_two => ?_
    have d := e.dice; have b0 := b0.t l0 e; replace r_dice := up r_dice e; replace r_total := up r_total e; replace r_number := up r_number e; replace r_one := up r_one e
    exact q_ret d (go0.at b0 l0) (ev_cb c_int (ea_one (ev_op o_mod (ev_op o_fdiv (ev_var rfl r_two) ev_int) (ev_var rfl r_number)))) hm fun v z H7 e p r => kr v z H7 (b0.t l0 e) p (wk r l0)
def N__law_order : List Str := ["dice", "sorts", "most", "sort"]
theorem sc__law_order : FnScope N__law_order ["dice", "sorts", "most"] (defScope zs__law_order) := ⟨rfl, rfl, rfl, by decide +kernel, rfl, by decide +kernel, by decide +kernel⟩
abbrev sp__law_order (N : En) : Sp := FnW N (Cons RD (Cons RI (One RI))) (RT (All RI)) (fun p => m__law_order p.1 p.2.1 p.2.2)
theorem ok__law_order {N : En} (T : Txt N) (F : FunP N "_law_order" zs__law_order) (D__law_roll : Dn N 1 "_law_roll" (sp__law_roll N)) : Dn N 2 "_law_order" (sp__law_order N) := by
  refine dn_mk F sc__law_order (fun _ _ _ _ _ _ us hl => match us, hl with | [_, _, _], _ => rfl) (fun vs H Q E h => by obtain ⟨_, _, _, _, _, _, hS, _⟩ := h; exact Ln.len hS) ?_
  rintro cdv A outer s H0 vs Q E hr ⟨M0, xx, P, PE, hca, d, hS, hm, kr, go0⟩
  obtain ⟨x_dice, x_sorts, x_most⟩ := xx
  obtain ⟨v_dice, _, rfl, r_dice, v_sorts, _, rfl, r_sorts, v_most, rfl, r_most⟩ := hS
  replace r_dice : RD M0 x_dice v_dice H0 := r_dice
  replace r_sorts : RI M0 x_sorts v_sorts H0 := r_sorts
  replace r_most : RI M0 x_most v_most H0 := r_most
  replace hm : m__law_order x_dice x_sorts x_most P PE := hm
  unfold m__law_order at hm
  have b0 : Xt M0 H0 H0 := .refl d; have l0 : M0.le M0 := .refl; have d0 := d
  refine ⟨_, (pss_one (ps_ret (pe_callTy call_tuple_of (by rfl) T.n_tuple (by decide +kernel) (pa_cons (pe_lc (own := [("sort", 3)]) (g := gName 3) rfl sc__law_order.nd (pi_range1 (by rfl) T.n_range (pa_cons (pv 1) pa_nil)) (blkOk_by (own := [("sort", 3)]) (N := N__law_order) (sc := defScope zs__law_order) (by decide +kernel)) (fun _ _ _ _ _ => (pg_name (i := 3) sc__law_order.nd rfl (by first | exact Or.inl rfl | exact Or.inr rfl))) (fun _ _ _ _ _ => pts_nil) (fun _ _ _ _ _ => (pe_d D__law_roll (hr.mono (by decide)) (by rfl) px0 (pa_cons (pv 0) (pa_cons (pe_op op_add (pv 2) pe_int) pa_nil))))) pa_nil)))), ?_⟩
  exact q_ret d (go0.at b0 l0) (ev_cb c_tupL (ea_one (ev_lc1 (R' := RI) (EvI.x (ei_rng1 (ea_one (ev_var rfl r_sorts)))) (fun M1 H1' q1 σ1 L1 D1 hT => by obtain ⟨v1_0, rfl, s1_0⟩ := hT; exact et_yes) (fun M1 H1' q1 σ1 L1 D1 hT => by obtain ⟨v1_0, rfl, s1_0⟩ := hT; exact (ev_d (L1.ca.trans hca) (ea_cons (ev_var rfl (lf r_dice L1)) (ea_one (ev_op o_add (ev_var rfl (lf r_most L1)) ev_int)))))))) hm fun v z H1 e p r => kr v z H1 (b0.t l0 e) p (wk r l0)
def N__law_line : List Str := ["dice", "sorts", "packs", "most", "found", "turn", "pack"]
theorem sc__law_line : FnScope N__law_line ["dice", "sorts", "packs", "most"] (defScope zs__law_line) := ⟨rfl, rfl, rfl, by decide +kernel, rfl, by decide +kernel, by decide +kernel⟩
abbrev sp__law_line (N : En) : Sp := FnW N (Cons RD (Cons RI (Cons RI (One RI)))) (RRec (KCons "base" (RT (All RI)) (KOne "packs" (RL (All (RT (All RI))))))) (fun p => m__law_line p.1 p.2.1 p.2.2.1 p.2.2.2)
theorem ok__law_line {N : En} (T : Txt N) (F : FunP N "_law_line" zs__law_line) (D__law_roll : Dn N 1 "_law_roll" (sp__law_roll N)) (D__law_order : Dn N 2 "_law_order" (sp__law_order N)) : Dn N 3 "_law_line" (sp__law_line N) := by
  refine dn_mk F sc__law_line (fun _ _ _ _ _ _ us hl => match us, hl with | [_, _, _, _], _ => rfl) (fun vs H Q E h => by obtain ⟨_, _, _, _, _, _, hS, _⟩ := h; exact Ln.len hS) ?_
  rintro cdv A outer s H0 vs Q E hr ⟨M0, xx, P, PE, hca, d, hS, hm, kr, go0⟩
  obtain ⟨x_dice, x_sorts, x_packs, x_most⟩ := xx
  obtain ⟨v_dice, _, rfl, r_dice, v_sorts, _, rfl, r_sorts, v_packs, _, rfl, r_packs, v_most, rfl, r_most⟩ := hS
  replace r_dice : RD M0 x_dice v_dice H0 := r_dice
  replace r_sorts : RI M0 x_sorts v_sorts H0 := r_sorts
  replace r_packs : RI M0 x_packs v_packs H0 := r_packs
  replace r_most : RI M0 x_most v_most H0 := r_most
  replace hm : m__law_line x_dice x_sorts x_packs x_most P PE := hm
  unfold m__law_line at hm
  have b0 : Xt M0 H0 H0 := .refl d; have l0 : M0.le M0 := .refl; have d0 := d
  refine ⟨_, (pss_cons (ps_set (i := 4) sc__law_line.nd rfl (by first | exact Or.inl rfl | exact Or.inr rfl) (pe_lst pa_nil))
    (pss_cons (ps_for (passes_of rfl) rfl (pi_range1 (by rfl) T.n_range (pa_cons (pe_d D__law_roll (hr.mono (by decide)) (by rfl) (passes_call (takes_of rfl rfl rfl rfl) fun _ _ _ _ z => z) (pa_cons (pv 0) (pa_cons (pe_op op_add (pv 2) pe_int) pa_nil))) pa_nil)) (pg_name (i := 5) sc__law_line.nd rfl (by first | exact Or.inl rfl | exact Or.inr rfl))
      (pss_cons (ps_set (i := 6) sc__law_line.nd rfl (by first | exact Or.inl rfl | exact Or.inr rfl) (pe_callTy call_list_of (by rfl) T.n_list (by decide +kernel) (pa_cons (pe_d D__law_order (hr.mono (by decide)) (by rfl) (passes_call (takes_of rfl rfl rfl rfl) fun _ _ _ _ z => z) (pa_cons (pv 0) (pa_cons (pv 1) (pa_cons (pe_op op_fdiv pe_int (pv 1)) pa_nil)))) pa_nil)))
    (pss_cons (ps_if (pt_cmpR op_eq (pe_d D__law_roll (hr.mono (by decide)) (by rfl) (passes_call (takes_of rfl rfl rfl rfl) fun _ _ _ _ z => z) (pa_cons (pv 0) (pa_cons pe_int pa_nil))) pe_int (nomark _))
      (pss_one (ps_asg pe_int (pg_sub (pv 6) (pe_d D__law_roll (hr.mono (by decide)) (by rfl) (passes_call (takes_of rfl rfl rfl rfl) fun _ _ _ _ z => z) (pa_cons (pv 0) (pa_cons (pv 1) pa_nil))) set_list))) pss_nil)
    (pss_one (ps_if (PW.pt (pw_and (pt_cmpR op_gt (pe_callB (cr_max rfl) (by rfl) T.n_max (by decide +kernel) (pa_cons (pv 6) pa_nil)) pe_int (nomark _)) (pw_and1 (pt_cmpR (GX.op_ninDX (GX.hu65 hr)) (pe_callTy call_tuple_of (by rfl) T.n_tuple (by decide +kernel) (pa_cons (pv 6) pa_nil)) (pv 4) rfl))))
      (pss_one (ps_expr (pe_bm PySem.F.plainAttrs_list PySem.F.slot_list_append PySem.F.type_list_append mt_append (pv 4) (pa_cons (pe_callTy call_tuple_of (by rfl) T.n_tuple (by decide +kernel) (pa_cons (pv 6) pa_nil)) pa_nil)))) pss_nil)))))
    (pss_one (ps_ret (pe_disp (pps_cons pe_str (pe_d D__law_order (hr.mono (by decide)) (by rfl) (passes_call (takes_of rfl rfl rfl rfl) fun _ _ _ _ z => z) (pa_cons (pv 0) (pa_cons (pv 1) (pa_cons (pv 3) pa_nil)))) (pps_cons pe_str (pe_callB (GX.cr_sortR (GX.hu3 hr)) (by rfl) T.n_sorted (by decide +kernel) (pa_cons (pv 4) pa_nil)) pps_nil)) rfl rfl (by simp) (by decide)))))), ?_⟩
  refine q_new d (go0.at b0 l0) (ef_lstN (el_nil (R := (RT (All RI)))) (by decide)) hm fun D_found x_found H1 e n_found lk d hm a_found => ?_
  have n0_found := b0.none n_found; have b0 := b0.t l0 e; have l0 := l0.add (D := D_found); replace r_dice := lf r_dice lk; replace r_sorts := lf r_sorts lk; replace r_packs := lf r_packs lk; replace r_most := lf r_most lk; have m_found : D_found ∈ (Mm.add M0 D_found).l := List.mem_cons_self; replace hca := lk.ca.trans hca
  refine q_for (S := (One (RAt D_found (All (RT (All RI)))))) (Sl := (fun us σ' => ∃ (u_found : V) (o_turn : Option V) (o_pack : Option V), us = [u_found] ∧ σ' = [some v_dice, some v_sorts, some v_packs, some v_most, some u_found, o_turn, o_pack])) (Bp := (fun H' => Xt M0 H0 H')) (fun σ' => (T1 5 RI σ')) d (go0.at b0 l0) (ei_rng1 (ea_one (ev_d hca (ea_cons (ev_var rfl r_dice) (ea_one (ev_op o_add (ev_var rfl r_packs) ev_int)))))) hm (fun _ _ h e => h.t l0 e) (fun _ _ _ _ _ r q => tg1 r q) (fun H2 e => ⟨b0.t l0 e, [V.ref D_found], ⟨_, rfl, (up a_found e)⟩, ⟨_, _, _, rfl, rfl⟩⟩) (fun H2 e x_found x_turn vs σ' σ2 H2' P' hB ex hS hSl hT hm => ?_) (fun H2 e x_found vs σ' H2' hB ex hS hSl hm => ?_)
  · skip
    have dl1 := e.dice
    unfold T1 at hT
    obtain ⟨v_found, o_turn, o_pack, rfl, rfl⟩ := hSl
    obtain ⟨_, ⟨⟩, a_found⟩ := hS
    obtain rfl : v_found = .ref D_found := a_found.1
    replace r_dice := upm (up r_dice e) ex
    replace r_sorts := upm (up r_sorts e) ex
    replace r_packs := upm (up r_packs e) ex
    replace r_most := upm (up r_most e) ex
    have d := ex.dice
    have b0 := hB
    obtain ⟨v_turn, rfl, r_turn⟩ := hT
    have c1 := ex; have l1 : Mm.le (Mm.add M0 D_found) (Mm.add M0 D_found) := Mm.le.refl
    have m1_found := m_found
    refine q_new d (go0.at b0 l0) (ef_lstT (ea_one (ev_d hca (ea_cons (ev_var rfl r_dice) (ea_cons (ev_var rfl r_sorts) (ea_one (ev_op o_fdiv ev_int (ev_var rfl r_sorts)))))))) hm fun D_pack x_pack H3 e n_pack lk d hm a_pack => ?_
    have n0_pack := b0.none n_pack; have n1_pack := c1.none n_pack; have ne_found_pack : D_found ≠ D_pack := RAt.ne a_found n_pack; have b0 := b0.t l0 e; have l0 := l0.add (D := D_pack); have c1 := c1.tl l1 e; have l1 := l1.add (D := D_pack); replace r_dice := lf r_dice lk; replace r_sorts := lf r_sorts lk; replace r_packs := lf r_packs lk; replace r_most := lf r_most lk; replace a_found := lf a_found lk; replace m_found : D_found ∈ (Mm.add (Mm.add M0 D_found) D_pack).l := List.mem_cons_of_mem _ m_found; replace r_turn := lf r_turn lk; have m_pack : D_pack ∈ (Mm.add (Mm.add M0 D_found) D_pack).l := List.mem_cons_self; replace hca := lk.ca.trans hca
    refine q_ifJ (Cons (RAt D_found (All (RT (All RI)))) (One (RAt D_pack (All RI)))) (fun us σ' => ∃ (u_found : V) (u_pack : V), us = [u_found, u_pack] ∧ σ' = [some v_dice, some v_sorts, some v_packs, some v_most, some u_found, some v_turn, some u_pack]) (fun H' => Xt M0 H0 H' ∧ Xm (Mm.add M0 D_found) H2 H') d (go0.at b0 l0) (et_test (ev_op o_eq (ev_d hca (ea_cons (ev_var rfl r_dice) (ea_one ev_int))) ev_int)) hm (fun fin4 H4 e hm => ?_) (fun fin4 H4 e hm => ?_) (fun st vs σ' H4' hB ex hS hSl hm => ?_)
    · skip
      have dl2 := d; have c2 := e.m; have l2 : Mm.le (Mm.add (Mm.add M0 D_found) D_pack) (Mm.add (Mm.add M0 D_found) D_pack) := Mm.le.refl
      have d := e.dice; have b0 := b0.t l0 e; have c1 := c1.tl l1 e; replace r_dice := up r_dice e; replace r_sorts := up r_sorts e; replace r_packs := up r_packs e; replace r_most := up r_most e; replace a_found := up a_found e; replace r_turn := up r_turn e; replace a_pack := up a_pack e
      have m2_pack := m_pack
      have m2_found := m_found
      refine l_seti d (go0.at b0 l0) (fun _ _ q => ⟨_, rfl, q⟩) a_pack m_pack ev_int (ev_d hca (ea_cons (ev_var rfl r_dice) (ea_one (ev_var rfl r_sorts)))) hm fun x_pack H5 pt a_pack hm => ?_
      have d := pt.xm.dice; have b0 := pt.xt b0 l0 n0_pack; have c1 := pt.xmN c1 l1 n1_pack; have c2 := pt.xmI c2 l2 m2_pack; replace r_dice := upm r_dice pt.xm; replace r_sorts := upm r_sorts pt.xm; replace r_packs := upm r_packs pt.xm; replace r_most := upm r_most pt.xm; replace a_found := pt.oth a_found (by first | exact ne_found_pack | exact fun z => ne_pack_found z.symm); replace r_turn := upm r_turn pt.xm
      exact fin4 _ _ ⟨⟨b0, c1⟩, c2, (x_found, x_pack), [V.ref D_found, V.ref D_pack], ⟨_, _, rfl, (wk a_found l2), _, rfl, (wk a_pack l2)⟩, ⟨_, _, rfl, rfl⟩, hm⟩
    · skip
      have dl2 := d; have c2 := e.m; have l2 : Mm.le (Mm.add (Mm.add M0 D_found) D_pack) (Mm.add (Mm.add M0 D_found) D_pack) := Mm.le.refl
      have d := e.dice; have b0 := b0.t l0 e; have c1 := c1.tl l1 e; replace r_dice := up r_dice e; replace r_sorts := up r_sorts e; replace r_packs := up r_packs e; replace r_most := up r_most e; replace a_found := up a_found e; replace r_turn := up r_turn e; replace a_pack := up a_pack e
      have m2_pack := m_pack
      have m2_found := m_found
      exact fin4 _ _ ⟨⟨b0, c1⟩, c2, (x_found, x_pack), [V.ref D_found, V.ref D_pack], ⟨_, _, rfl, (wk a_found l2), _, rfl, (wk a_pack l2)⟩, ⟨_, _, rfl, rfl⟩, hm⟩
    · skip
      obtain ⟨x_found, x_pack⟩ := st
      obtain ⟨v_found, v_pack, rfl, rfl⟩ := hSl
      obtain ⟨_, _, ⟨⟩, a_found, _, ⟨⟩, a_pack⟩ := hS
      obtain rfl : v_found = .ref D_found := a_found.1
      obtain rfl : v_pack = .ref D_pack := a_pack.1
      replace a_found : (RAt D_found (All (RT (All RI)))) _ x_found (.ref D_found) _ := a_found
      replace a_pack : (RAt D_pack (All RI)) _ x_pack (.ref D_pack) _ := a_pack
      try dsimp only at hm
      replace r_dice := upm r_dice ex
      replace r_sorts := upm r_sorts ex
      replace r_packs := upm r_packs ex
      replace r_most := upm r_most ex
      replace r_turn := upm r_turn ex
      have d := ex.dice
      obtain ⟨b0, c1⟩ := hB
      have r_pack := a_pack.frz; replace d := d.wk (Mm.del_le (D := D_pack)); replace r_dice := wk r_dice (Mm.del_le (D := D_pack)); replace r_sorts := wk r_sorts (Mm.del_le (D := D_pack)); replace r_packs := wk r_packs (Mm.del_le (D := D_pack)); replace r_most := wk r_most (Mm.del_le (D := D_pack)); replace a_found := wk a_found (Mm.del_le (D := D_pack)); replace m_found := Mm.del_in (D := D_pack) m_found (by first | exact ne_found_pack | exact fun z => ne_pack_found z.symm); replace r_turn := wk r_turn (Mm.del_le (D := D_pack)); have l0 := le_del l0 d0 n0_pack; have l1 := le_del l1 dl1 n1_pack; replace hca : (Mm.del (Mm.add (Mm.add M0 D_found) D_pack) D_pack).ca = N.ga := hca; clear a_pack m_pack; revert r_pack; generalize (V.ref D_pack : V) = v_pack; intro r_pack
      refine l_if0 d (go0.at b0 l0) (et_andP (et_test (ev_op o_gt (ev_cb c_maxL (ea_one (ev_var rfl r_pack))) ev_int)) (et_test (ev_op o_ninW (ev_cb c_tupL (ea_one (ev_var rfl r_pack))) (ev_var rfl (RAt.w a_found))))) hm (fun H5 e hm => ?_) (fun H5 e hm => ?_)
      · skip
        have d := e.dice; have b0 := b0.t l0 e; have c1 := c1.tl l1 e; replace r_dice := up r_dice e; replace r_sorts := up r_sorts e; replace r_packs := up r_packs e; replace r_most := up r_most e; replace a_found := up a_found e; replace r_turn := up r_turn e; replace r_pack := up r_pack e
        refine l_app d (go0.at b0 l0) (fun _ _ q => ⟨_, rfl, q⟩) a_found m_found (ev_cb c_tupL (ea_one (ev_var rfl r_pack))) hm fun x_found H6 pt a_found hm => ?_
        have d := pt.xm.dice; have b0 := pt.xt b0 l0 n0_found; have c1 := pt.xmI c1 l1 m1_found; replace r_dice := upm r_dice pt.xm; replace r_sorts := upm r_sorts pt.xm; replace r_packs := upm r_packs pt.xm; replace r_most := upm r_most pt.xm; replace r_turn := upm r_turn pt.xm; replace r_pack := upm r_pack pt.xm
        exact ⟨b0, c1, x_found, [V.ref D_found], ⟨_, rfl, (wk a_found l1)⟩, ⟨_, _, _, rfl, rfl⟩, hm⟩
      · skip
        have d := e.dice; have b0 := b0.t l0 e; have c1 := c1.tl l1 e; replace r_dice := up r_dice e; replace r_sorts := up r_sorts e; replace r_packs := up r_packs e; replace r_most := up r_most e; replace a_found := up a_found e; replace r_turn := up r_turn e; replace r_pack := up r_pack e
        exact ⟨b0, c1, x_found, [V.ref D_found], ⟨_, rfl, (wk a_found l1)⟩, ⟨_, _, _, rfl, rfl⟩, hm⟩
  · skip
    obtain ⟨v_found, o_turn, o_pack, rfl, rfl⟩ := hSl
    obtain ⟨_, ⟨⟩, a_found⟩ := hS
    obtain rfl : v_found = .ref D_found := a_found.1
    replace r_dice := upm (up r_dice e) ex
    replace r_sorts := upm (up r_sorts e) ex
    replace r_packs := upm (up r_packs e) ex
    replace r_most := upm (up r_most e) ex
    have d := ex.dice
    have b0 := hB
    have r_found := a_found.frz; replace d := d.wk (Mm.del_le (D := D_found)); replace r_dice := wk r_dice (Mm.del_le (D := D_found)); replace r_sorts := wk r_sorts (Mm.del_le (D := D_found)); replace r_packs := wk r_packs (Mm.del_le (D := D_found)); replace r_most := wk r_most (Mm.del_le (D := D_found)); have l0 := le_del l0 d0 n0_found; replace hca : (Mm.del (Mm.add M0 D_found) D_found).ca = N.ga := hca; clear a_found m_found; revert r_found; generalize (V.ref D_found : V) = v_found; intro r_found
    exact q_ret d (go0.at b0 l0) (ev_recD (fun M1 H1' L1 D1 => (ep_cons (ev_d (L1.ca.trans hca) (ea_cons (ev_var rfl (lf r_dice L1)) (ea_cons (ev_var rfl (lf r_sorts L1)) (ea_one (ev_var rfl (lf r_most L1)))))) (ep_one (ev_cb c_sortRL (ea_one (ev_var rfl (lf r_found L1))))))) (by decide +kernel)) hm fun v z H3 e p r => kr v z H3 (b0.t l0 e) p (wk r l0)
def N__law_style : List Str := ["dice", "sorts", "lines", "packs", "most", "turn"]
theorem sc__law_style : FnScope N__law_style ["dice", "sorts", "lines", "packs", "most"] (defScope zs__law_style) := ⟨rfl, rfl, rfl, by decide +kernel, rfl, by decide +kernel, by decide +kernel⟩
abbrev sp__law_style (N : En) : Sp := FnW N (Cons RD (Cons RI (Cons RI (Cons RI (One RI))))) (RL (All (RRec (KCons "base" (RT (All RI)) (KOne "packs" (RL (All (RT (All RI))))))))) (fun p => m__law_style p.1 p.2.1 p.2.2.1 p.2.2.2.1 p.2.2.2.2)
theorem ok__law_style {N : En} (T : Txt N) (F : FunP N "_law_style" zs__law_style) (D__law_roll : Dn N 1 "_law_roll" (sp__law_roll N)) (D__law_line : Dn N 3 "_law_line" (sp__law_line N)) : Dn N 4 "_law_style" (sp__law_style N) := by
  refine dn_mk F sc__law_style (fun _ _ _ _ _ _ us hl => match us, hl with | [_, _, _, _, _], _ => rfl) (fun vs H Q E h => by obtain ⟨_, _, _, _, _, _, hS, _⟩ := h; exact Ln.len hS) ?_
  rintro cdv A outer s H0 vs Q E hr ⟨M0, xx, P, PE, hca, d, hS, hm, kr, go0⟩
  obtain ⟨x_dice, x_sorts, x_lines, x_packs, x_most⟩ := xx
  obtain ⟨v_dice, _, rfl, r_dice, v_sorts, _, rfl, r_sorts, v_lines, _, rfl, r_lines, v_packs, _, rfl, r_packs, v_most, rfl, r_most⟩ := hS
  replace r_dice : RD M0 x_dice v_dice H0 := r_dice
  replace r_sorts : RI M0 x_sorts v_sorts H0 := r_sorts
  replace r_lines : RI M0 x_lines v_lines H0 := r_lines
  replace r_packs : RI M0 x_packs v_packs H0 := r_packs
  replace r_most : RI M0 x_most v_most H0 := r_most
  replace hm : m__law_style x_dice x_sorts x_lines x_packs x_most P PE := hm
  unfold m__law_style at hm
  have b0 : Xt M0 H0 H0 := .refl d; have l0 : M0.le M0 := .refl; have d0 := d
  refine ⟨_, (pss_one (ps_ret (pe_lc (own := [("turn", 5)]) (g := gName 5) rfl sc__law_style.nd (pi_range1 (by rfl) T.n_range (pa_cons (pe_op op_add pe_int (pe_d D__law_roll (hr.mono (by decide)) (by rfl) (passes_call (takes_of rfl rfl rfl rfl) fun _ _ _ _ z => z) (pa_cons (pv 0) (pa_cons (pv 2) pa_nil)))) pa_nil)) (blkOk_by (own := [("turn", 5)]) (N := N__law_style) (sc := defScope zs__law_style) (by decide +kernel)) (fun _ _ _ _ _ => (pg_name (i := 5) sc__law_style.nd rfl (by first | exact Or.inl rfl | exact Or.inr rfl))) (fun _ _ _ _ _ => pts_nil) (fun _ _ _ _ _ => (pe_d D__law_line (hr.mono (by decide)) (by rfl) px0 (pa_cons (pv 0) (pa_cons (pv 1) (pa_cons (pv 3) (pa_cons (pv 4) pa_nil))))))))), ?_⟩
  exact q_ret d (go0.at b0 l0) (ev_lc1 (R' := (RRec (KCons "base" (RT (All RI)) (KOne "packs" (RL (All (RT (All RI)))))))) (EvI.x (ei_rng1 (ea_one (ev_op o_add ev_int (ev_d hca (ea_cons (ev_var rfl r_dice) (ea_one (ev_var rfl r_lines)))))))) (fun M1 H1' q1 σ1 L1 D1 hT => by obtain ⟨v1_0, rfl, s1_0⟩ := hT; exact et_yes) (fun M1 H1' q1 σ1 L1 D1 hT => by obtain ⟨v1_0, rfl, s1_0⟩ := hT; exact (ev_d (L1.ca.trans hca) (ea_cons (ev_var rfl (lf r_dice L1)) (ea_cons (ev_var rfl (lf r_sorts L1)) (ea_cons (ev_var rfl (lf r_packs L1)) (ea_one (ev_var rfl (lf r_most L1))))))))) hm fun v z H1 e p r => kr v z H1 (b0.t l0 e) p (wk r l0)
def N__law_made_style : List Str := ["plain", "line"]
theorem sc__law_made_style : FnScope N__law_made_style ["plain"] (defScope zs__law_made_style) := ⟨rfl, rfl, rfl, by decide +kernel, rfl, by decide +kernel, by decide +kernel⟩
abbrev sp__law_made_style (N : En) : Sp := FnW N (One (RL (All (RRec (KCons "base" (RT (All RI)) (KOne "packs" (RL (All (RT (All RI)))))))))) R_Style (fun p => m__law_made_style p)
theorem ok__law_made_style {N : En} (T : Txt N) (F : FunP N "_law_made_style" zs__law_made_style) (D_Line : Dc N 5 "Line" (sp_Line N)) (D_Style : Dc N 4 "Style" (sp_Style N)) : Dn N 7 "_law_made_style" (sp__law_made_style N) := by
  refine dn_mk F sc__law_made_style (fun _ _ _ _ _ _ us hl => match us, hl with | [_], _ => rfl) (fun vs H Q E h => by obtain ⟨_, _, _, _, _, _, hS, _⟩ := h; exact Ln.len hS) ?_
  rintro cdv A outer s H0 vs Q E hr ⟨M0, x_plain, P, PE, hca, d, hS, hm, kr, go0⟩
  obtain ⟨v_plain, rfl, r_plain⟩ := hS
  replace r_plain : (RL (All (RRec (KCons "base" (RT (All RI)) (KOne "packs" (RL (All (RT (All RI))))))))) M0 x_plain v_plain H0 := r_plain
  replace hm : m__law_made_style x_plain P PE := hm
  unfold m__law_made_style at hm
  have b0 : Xt M0 H0 H0 := .refl d; have l0 : M0.le M0 := .refl; have d0 := d
  refine ⟨_, (pss_one (ps_ret (pe_c D_Style (hr.mono (by decide)) (by rfl) (passes_call (takes_of rfl rfl rfl rfl) fun _ _ _ _ z => z) (pa_cons (pe_callTy call_tuple_of (by rfl) T.n_tuple (by decide +kernel) (pa_cons (pe_lc (own := [("line", 1)]) (g := gName 1) rfl sc__law_made_style.nd (pi_list (pv 0)) (blkOk_by (own := [("line", 1)]) (N := N__law_made_style) (sc := defScope zs__law_made_style) (by decide +kernel)) (fun _ _ _ _ _ => (pg_name (i := 1) sc__law_made_style.nd rfl (by first | exact Or.inl rfl | exact Or.inr rfl))) (fun _ _ _ _ _ => pts_nil) (fun _ _ _ _ _ => (pe_c D_Line (hr.mono (by decide)) (by rfl) px0 (pa_cons (pe_dget (hu_of hr) (pv 1) pe_str (fun _ _ => rfl)) (pa_cons (pe_callTy (call_tuple_ofK N.K (by rfl)) (by rfl) T.n_tuple (by decide +kernel) (pa_cons (pe_dget (hu_of hr) (pv 1) pe_str (fun _ _ => rfl)) pa_nil)) pa_nil))))) pa_nil)) pa_nil)))), ?_⟩
  exact q_ret d (go0.at b0 l0) (ev_d hca (ea_one (ev_cb c_tupL (ea_one (ev_lc1 (R' := R_Line) (EvI.x (ei_list (ev_var rfl r_plain))) (fun M1 H1' q1 σ1 L1 D1 hT => by obtain ⟨v1_0, rfl, s1_0⟩ := hT; exact et_yes) (fun M1 H1' q1 σ1 L1 D1 hT => by obtain ⟨v1_0, rfl, s1_0⟩ := hT; exact (ev_d (L1.ca.trans hca) (ea_cons (ev_rec kat_here (ev_var rfl s1_0)) (ea_one (ev_cb c_tupL (ea_one (ev_rec (kat_next (by decide +kernel) kat_one) (ev_var rfl s1_0))))))))))))) hm fun v z H1 e p r => kr v z H1 (b0.t l0 e) p (wk r l0)
def N__law_plus : List Str := ["one", "other", "left", "right"]
theorem sc__law_plus : FnScope N__law_plus ["one", "other"] (defScope zs__law_plus) := ⟨rfl, rfl, rfl, by decide +kernel, rfl, by decide +kernel, by decide +kernel⟩
abbrev sp__law_plus (N : En) : Sp := FnW N (Cons (RT (All RI)) (One (RT (All RI)))) (RT (All RI)) (fun p => m__law_plus p.1 p.2)
theorem ok__law_plus {N : En} (T : Txt N) (F : FunP N "_law_plus" zs__law_plus)  : Dn N 1 "_law_plus" (sp__law_plus N) := by
  refine dn_mk F sc__law_plus (fun _ _ _ _ _ _ us hl => match us, hl with | [_, _], _ => rfl) (fun vs H Q E h => by obtain ⟨_, _, _, _, _, _, hS, _⟩ := h; exact Ln.len hS) ?_
  rintro cdv A outer s H0 vs Q E hr ⟨M0, xx, P, PE, hca, d, hS, hm, kr, go0⟩
  obtain ⟨x_one, x_other⟩ := xx
  obtain ⟨v_one, _, rfl, r_one, v_other, rfl, r_other⟩ := hS
  replace r_one : (RT (All RI)) M0 x_one v_one H0 := r_one
  replace r_other : (RT (All RI)) M0 x_other v_other H0 := r_other
  replace hm : m__law_plus x_one x_other P PE := hm
  unfold m__law_plus at hm
  have b0 : Xt M0 H0 H0 := .refl d; have l0 : M0.le M0 := .refl; have d0 := d
  refine ⟨_, (pss_one (ps_ret (pe_callTy call_tuple_of (by rfl) T.n_tuple (by decide +kernel) (pa_cons (pe_lc (own := [("left", 2), ("right", 3)]) rfl sc__law_plus.nd (GX.pi_zipS true true (by rfl) T.n_zip (pa_cons (pv 0) (pa_cons (pv 1) pa_nil))) (blkOk_by (own := [("left", 2), ("right", 3)]) (N := N__law_plus) (sc := defScope zs__law_plus) (by decide +kernel)) (fun _ _ _ _ _ => (pg_tupK N.K (by rfl) (n := 2) rfl (pgs_cons (pg_name (i := 2) sc__law_plus.nd rfl (by first | exact Or.inl rfl | exact Or.inr rfl)) (pgs_cons (pg_name (i := 3) sc__law_plus.nd rfl (by first | exact Or.inl rfl | exact Or.inr rfl)) pgs_nil)))) (fun _ _ _ _ _ => pts_nil) (fun _ _ _ _ _ => (pe_op op_add (pv 2) (pv 3)))) pa_nil)))), ?_⟩
  exact q_ret d (go0.at b0 l0) (ev_cb c_tupL (ea_one (ev_lcM2 (R' := RI) (EvI.x (ei_zipS (ea_cons (ev_var rfl r_one) (ea_one (ev_var rfl r_other))))) (fun M1 H1' q1 σ1 L1 D1 hT => by obtain ⟨v1_0, v1_1, rfl, s1_0, s1_1⟩ := hT; exact (ev_op o_add (ev_var rfl s1_0) (ev_var rfl s1_1)))))) hm fun v z H1 e p r => kr v z H1 (b0.t l0 e) p (wk r l0)
def N__law_line_orders : List Str := ["line", "most", "found", "at", "known", "pack", "row"]
theorem sc__law_line_orders : FnScope N__law_line_orders ["line", "most"] (defScope zs__law_line_orders) := ⟨rfl, rfl, rfl, by decide +kernel, rfl, by decide +kernel, by decide +kernel⟩
abbrev sp__law_line_orders (N : En) : Sp := FnW N (Cons (RRec (KCons "base" (RT (All RI)) (KOne "packs" (RL (All (RT (All RI))))))) (One RI)) (RL (All (RT (All RI)))) (fun p => m__law_line_orders p.1 p.2)
theorem ok__law_line_orders {N : En} (T : Txt N) (F : FunP N "_law_line_orders" zs__law_line_orders) (D__law_plus : Dn N 1 "_law_plus" (sp__law_plus N)) : Dn N 2 "_law_line_orders" (sp__law_line_orders N) := by
  refine dn_mk F sc__law_line_orders (fun _ _ _ _ _ _ us hl => match us, hl with | [_, _], _ => rfl) (fun vs H Q E h => by obtain ⟨_, _, _, _, _, _, hS, _⟩ := h; exact Ln.len hS) ?_
  rintro cdv A outer s H0 vs Q E hr ⟨M0, xx, P, PE, hca, d, hS, hm, kr, go0⟩
  obtain ⟨x_line, x_most⟩ := xx
  obtain ⟨v_line, _, rfl, r_line, v_most, rfl, r_most⟩ := hS
  replace r_line : (RRec (KCons "base" (RT (All RI)) (KOne "packs" (RL (All (RT (All RI))))))) M0 x_line v_line H0 := r_line
  replace r_most : RI M0 x_most v_most H0 := r_most
  replace hm : m__law_line_orders x_line x_most P PE := hm
  unfold m__law_line_orders at hm
  have b0 : Xt M0 H0 H0 := .refl d; have l0 : M0.le M0 := .refl; have d0 := d
  refine ⟨_, (pss_cons (ps_par rfl sc__law_line_orders.nd (i := 2) (j := 3) rfl rfl (by decide) rfl rfl (pa_cons (pe_lst (pa_cons (pe_dget (hu_of hr) (pv 0) pe_str (fun _ _ => rfl)) pa_nil)) (pa_cons pe_int pa_nil)) rfl)
    (pss_cons (ps_set (i := 4) sc__law_line_orders.nd rfl (by first | exact Or.inl rfl | exact Or.inr rfl) (GX.pe_dispT (hu_of hr) (pps_cons (pe_dget (hu_of hr) (pv 0) pe_str (fun _ _ => rfl)) pe_bl pps_nil) rfl rfl (by simp) (by decide)))
    (pss_cons (ps_while (passes_of rfl) (pt_cmpR op_lt (pv 3) (pe_callB call_len_seq (by rfl) T.n_len (by decide +kernel) (pa_cons (pv 2) pa_nil)) (nomark _))
      (pss_cons (ps_for (passes_of rfl) rfl (pi_list (pe_dget (hu_of hr) (pv 0) pe_str (fun _ _ => rfl))) (pg_name (i := 5) sc__law_line_orders.nd rfl (by first | exact Or.inl rfl | exact Or.inr rfl))
      (pss_cons (ps_set (i := 6) sc__law_line_orders.nd rfl (by first | exact Or.inl rfl | exact Or.inr rfl) (pe_d D__law_plus (hr.mono (by decide)) (by rfl) (passes_call (takes_of rfl rfl rfl rfl) fun _ _ _ _ z => z) (pa_cons (pe_ix ix_list (pv 2) (pv 3) (fun _ _ => rfl)) (pa_cons (pv 5) pa_nil))))
    (pss_one (ps_if (PW.pt (pw_and (pt_cmp (pc_dnotin (hu_of hr) (pv 6) (pv 4))) (pw_and1 (pt_cmpR op_le (pe_callB (GX.cr_maxT rfl (hu_of hr)) (by rfl) T.n_max (by decide +kernel) (pa_cons (pv 6) pa_nil)) (pv 1) (nomark _)))))
      (pss_cons (ps_dput (hu_of hr) (pv 4) (pv 6) pe_bl rfl)
    (pss_one (ps_expr (pe_bm PySem.F.plainAttrs_list PySem.F.slot_list_append PySem.F.type_list_append mt_append (pv 2) (pa_cons (pv 6) pa_nil))))) pss_nil))))
    (pss_one (ps_set (i := 3) sc__law_line_orders.nd rfl (by first | exact Or.inl rfl | exact Or.inr rfl) (pe_op op_add (pv 3) pe_int)))))
    (pss_one (ps_ret (pe_callB (GX.cr_sortR (GX.hu3 hr)) (by rfl) T.n_sorted (by decide +kernel) (pa_cons (pe_lc (own := [("row", 6)]) (g := gName 6) rfl sc__law_line_orders.nd (pi_list (pv 2)) (blkOk_by (own := [("row", 6)]) (N := N__law_line_orders) (sc := defScope zs__law_line_orders) (by decide +kernel)) (fun _ _ _ _ _ => (pg_name (i := 6) sc__law_line_orders.nd rfl (by first | exact Or.inl rfl | exact Or.inr rfl))) (fun _ _ _ _ _ => (pts_one (pt_cmpR op_le (pe_callB (GX.cr_maxTK N.K (by rfl) rfl (hu_of hr)) (by rfl) T.n_max (by decide +kernel) (pa_cons (pv 6) pa_nil)) (pv 1) (nomark _)))) (fun _ _ _ _ _ => (pv 6))) pa_nil))))))), ?_⟩
  refine q_parNew d (go0.at b0 l0) (ef_lstN (el_cons (ev_rec kat_here (ev_var rfl r_line)) el_nil) (by decide)) ev_int hm (fun _ _ _ _ e h => up h e) fun D_found x_found v_at x_at H1 e n_found lk d hm a_found r_at => ?_
  have n0_found := b0.none n_found; have b0 := b0.t l0 e; have l0 := l0.add (D := D_found); replace r_line := lf r_line lk; replace r_most := lf r_most lk; have m_found : D_found ∈ (Mm.add M0 D_found).l := List.mem_cons_self; replace hca := lk.ca.trans hca
  replace r_at : RI (Mm.add M0 D_found) x_at v_at H1 := r_at
  refine q_new d (go0.at b0 l0) (ef_dispT (fun M1 H1' L1 D1 => (ept_cons (ev_rec kat_here (ev_var rfl (lf r_line L1))) ev_bl ept_nil)) (by decide)) hm fun D_known x_known H2 e n_known lk d hm a_known => ?_
  have n0_known := b0.none n_known; have ne_found_known : D_found ≠ D_known := RAt.ne a_found n_known; have b0 := b0.t l0 e; have l0 := l0.add (D := D_known); replace r_line := lf r_line lk; replace r_most := lf r_most lk; replace a_found := lf a_found lk; replace m_found : D_found ∈ (Mm.add (Mm.add M0 D_found) D_known).l := List.mem_cons_of_mem _ m_found; replace r_at := lf r_at lk; have m_known : D_known ∈ (Mm.add (Mm.add M0 D_found) D_known).l := List.mem_cons_self; replace hca := lk.ca.trans hca
  refine q_while (S := (Cons (RAt D_found (All (RT (All RI)))) (Cons RI (One (RDAt D_known (RT (All RI)) RB))))) (Sl := (fun us σ' => ∃ (u_found : V) (u_at : V) (u_known : V) (o_pack : Option V) (o_row : Option V), us = [u_found, u_at, u_known] ∧ σ' = [some v_line, some v_most, some u_found, some u_at, some u_known, o_pack, o_row])) (Bp := (fun H' => Xt M0 H0 H')) d hm (fun _ _ h e => h.t l0 e) (fun H' hB => go0.at hB l0) ⟨b0, [V.ref D_found, v_at, V.ref D_known], ⟨_, _, rfl, a_found, _, _, rfl, r_at, _, rfl, a_known⟩, ⟨_, _, _, _, _, rfl, rfl⟩⟩ (fun st vs σ' H3' hB ex hS hSl => ?_) (fun st vs σ' H3' P' hB ex hS hSl hm => ?_) (fun st vs σ' H3' hB ex hS hSl hm => ?_)
  · skip
    have hm : True := trivial
    obtain ⟨x_found, x_at, x_known⟩ := st
    obtain ⟨v_found, v_at, v_known, o_pack, o_row, rfl, rfl⟩ := hSl
    obtain ⟨_, _, ⟨⟩, a_found, _, _, ⟨⟩, r_at, _, ⟨⟩, a_known⟩ := hS
    obtain rfl : v_found = .ref D_found := a_found.1
    obtain rfl : v_known = .ref D_known := a_known.1
    replace a_found : (RAt D_found (All (RT (All RI)))) _ x_found (.ref D_found) _ := a_found
    replace r_at : RI _ x_at v_at _ := r_at
    replace a_known : (RDAt D_known (RT (All RI)) RB) _ x_known (.ref D_known) _ := a_known
    try dsimp only at hm
    replace r_line := upm r_line ex
    replace r_most := upm r_most ex
    have d := ex.dice
    have b0 := hB
    exact (et_test (ev_op o_lt (ev_var rfl r_at) (ev_cb c_lenW (ea_one (ev_var rfl (RAt.w a_found))))))
  · skip
    have dl1 := d
    obtain ⟨x_found, x_at, x_known⟩ := st
    obtain ⟨v_found, v_at, v_known, o_pack, o_row, rfl, rfl⟩ := hSl
    obtain ⟨_, _, ⟨⟩, a_found, _, _, ⟨⟩, r_at, _, ⟨⟩, a_known⟩ := hS
    obtain rfl : v_found = .ref D_found := a_found.1
    obtain rfl : v_known = .ref D_known := a_known.1
    replace a_found : (RAt D_found (All (RT (All RI)))) _ x_found (.ref D_found) _ := a_found
    replace r_at : RI _ x_at v_at _ := r_at
    replace a_known : (RDAt D_known (RT (All RI)) RB) _ x_known (.ref D_known) _ := a_known
    try dsimp only at hm
    replace r_line := upm r_line ex
    replace r_most := upm r_most ex
    have d := ex.dice
    have b0 := hB
    have c1 := ex; have l1 : Mm.le (Mm.add (Mm.add M0 D_found) D_known) (Mm.add (Mm.add M0 D_found) D_known) := Mm.le.refl
    have m1_known := m_known
    have m1_found := m_found
    refine q_for (S := (Cons (RAt D_found (All (RT (All RI)))) (One (RDAt D_known (RT (All RI)) RB)))) (Sl := (fun us σ' => ∃ (u_found : V) (u_known : V) (o_pack : Option V) (o_row : Option V), us = [u_found, u_known] ∧ σ' = [some v_line, some v_most, some u_found, some v_at, some u_known, o_pack, o_row])) (Bp := (fun H' => Xt M0 H0 H' ∧ Xm (Mm.add (Mm.add M0 D_found) D_known) H2 H')) (fun σ' => (T1 5 (RT (All RI)) σ')) d (go0.at b0 l0) (ei_list (ev_rec (kat_next (by decide +kernel) kat_one) (ev_var rfl r_line))) hm (fun _ _ h e => by obtain ⟨h0, h1⟩ := h; exact ⟨h0.t l0 e, h1.tl l1 e⟩) (fun _ _ _ _ _ r q => tg1 r q) (fun H4 e => ⟨⟨b0.t l0 e, c1.tl l1 e⟩, [V.ref D_found, V.ref D_known], ⟨_, _, rfl, (up a_found e), _, rfl, (up a_known e)⟩, ⟨_, _, _, _, rfl, rfl⟩⟩) (fun H4 e st x_pack vs σ' σ2 H4' P' hB ex hS hSl hT hm => ?_) (fun H4 e st vs σ' H4' hB ex hS hSl hm => ?_)
    · skip
      have dl2 := e.dice
      unfold T1 at hT
      obtain ⟨x_found, x_known⟩ := st
      obtain ⟨v_found, v_known, o_pack, o_row, rfl, rfl⟩ := hSl
      obtain ⟨_, _, ⟨⟩, a_found, _, ⟨⟩, a_known⟩ := hS
      obtain rfl : v_found = .ref D_found := a_found.1
      obtain rfl : v_known = .ref D_known := a_known.1
      replace a_found : (RAt D_found (All (RT (All RI)))) _ x_found (.ref D_found) _ := a_found
      replace a_known : (RDAt D_known (RT (All RI)) RB) _ x_known (.ref D_known) _ := a_known
      try dsimp only at hm
      replace r_line := upm (up r_line e) ex
      replace r_most := upm (up r_most e) ex
      replace r_at := upm (up r_at e) ex
      have d := ex.dice
      obtain ⟨b0, c1⟩ := hB
      obtain ⟨v_pack, rfl, r_pack⟩ := hT
      have c2 := ex; have l2 : Mm.le (Mm.add (Mm.add M0 D_found) D_known) (Mm.add (Mm.add M0 D_found) D_known) := Mm.le.refl
      have m2_known := m_known
      have m2_found := m_found
      refine q_set d (go0.at b0 l0) (ev_d hca (ea_cons (ev_op o_ixW (ev_var rfl (RAt.w a_found)) (ev_var rfl r_at)) (ea_one (ev_var rfl r_pack)))) hm fun v_row x_row H5 e hm r_row => ?_
      have d := e.dice; have b0 := b0.t l0 e; have c1 := c1.tl l1 e; have c2 := c2.tl l2 e; replace r_line := up r_line e; replace r_most := up r_most e; replace a_found := up a_found e; replace r_at := up r_at e; replace a_known := up a_known e; replace r_pack := up r_pack e
      refine l_if0 d (go0.at b0 l0) (et_and (et_val (ev_dnin (ev_var rfl r_row) (ev_var rfl (RDAt.w a_known)))) (et_test (ev_op o_le (ev_cb c_maxT (ea_one (ev_var rfl r_row))) (ev_var rfl r_most)))) hm (fun H6 e hm => ?_) (fun H6 e hm => ?_)
      · skip
        have d := e.dice; have b0 := b0.t l0 e; have c1 := c1.tl l1 e; have c2 := c2.tl l2 e; replace r_line := up r_line e; replace r_most := up r_most e; replace a_found := up a_found e; replace r_at := up r_at e; replace a_known := up a_known e; replace r_pack := up r_pack e; replace r_row := up r_row e
        refine q_dput d (go0.at b0 l0) (fun _ _ q => ⟨_, rfl, q⟩) a_known m_known ev_bl (ev_var rfl r_row) hm fun x_known H7 pt a_known hm => ?_
        have d := pt.xm.dice; have b0 := pt.xt b0 l0 n0_known; have c1 := pt.xmI c1 l1 m1_known; have c2 := pt.xmI c2 l2 m2_known; replace r_line := upm r_line pt.xm; replace r_most := upm r_most pt.xm; replace a_found := pt.oth a_found (by first | exact ne_found_known | exact fun z => ne_known_found z.symm); replace r_at := upm r_at pt.xm; replace r_pack := upm r_pack pt.xm; replace r_row := upm r_row pt.xm
        refine l_app d (go0.at b0 l0) (fun _ _ q => ⟨_, rfl, q⟩) a_found m_found (ev_var rfl r_row) hm fun x_found H8 pt a_found hm => ?_
        have d := pt.xm.dice; have b0 := pt.xt b0 l0 n0_found; have c1 := pt.xmI c1 l1 m1_found; have c2 := pt.xmI c2 l2 m2_found; replace r_line := upm r_line pt.xm; replace r_most := upm r_most pt.xm; replace r_at := upm r_at pt.xm; replace a_known := pt.othD a_known (by first | exact ne_known_found | exact fun z => ne_found_known z.symm); replace r_pack := upm r_pack pt.xm; replace r_row := upm r_row pt.xm
        exact ⟨⟨b0, c1⟩, c2, (x_found, x_known), [V.ref D_found, V.ref D_known], ⟨_, _, rfl, (wk a_found l2), _, rfl, (wk a_known l2)⟩, ⟨_, _, _, _, rfl, rfl⟩, hm⟩
      · skip
        have d := e.dice; have b0 := b0.t l0 e; have c1 := c1.tl l1 e; have c2 := c2.tl l2 e; replace r_line := up r_line e; replace r_most := up r_most e; replace a_found := up a_found e; replace r_at := up r_at e; replace a_known := up a_known e; replace r_pack := up r_pack e; replace r_row := up r_row e
        exact ⟨⟨b0, c1⟩, c2, (x_found, x_known), [V.ref D_found, V.ref D_known], ⟨_, _, rfl, (wk a_found l2), _, rfl, (wk a_known l2)⟩, ⟨_, _, _, _, rfl, rfl⟩, hm⟩
    · skip
      obtain ⟨x_found, x_known⟩ := st
      obtain ⟨v_found, v_known, o_pack, o_row, rfl, rfl⟩ := hSl
      obtain ⟨_, _, ⟨⟩, a_found, _, ⟨⟩, a_known⟩ := hS
      obtain rfl : v_found = .ref D_found := a_found.1
      obtain rfl : v_known = .ref D_known := a_known.1
      replace a_found : (RAt D_found (All (RT (All RI)))) _ x_found (.ref D_found) _ := a_found
      replace a_known : (RDAt D_known (RT (All RI)) RB) _ x_known (.ref D_known) _ := a_known
      try dsimp only at hm
      replace r_line := upm (up r_line e) ex
      replace r_most := upm (up r_most e) ex
      replace r_at := upm (up r_at e) ex
      have d := ex.dice
      obtain ⟨b0, c1⟩ := hB
      refine l_set d (go0.at b0 l0) (ev_op o_add (ev_var rfl r_at) ev_int) hm fun v_at x_at H5 e hm r_at => ?_
      have d := e.dice; have b0 := b0.t l0 e; have c1 := c1.tl l1 e; replace r_line := up r_line e; replace r_most := up r_most e; replace a_found := up a_found e; replace a_known := up a_known e
      exact ⟨b0, c1, (x_found, x_at, x_known), [V.ref D_found, v_at, V.ref D_known], ⟨_, _, rfl, (wk a_found l1), _, _, rfl, (wk r_at l1), _, rfl, (wk a_known l1)⟩, ⟨_, _, _, _, _, rfl, rfl⟩, hm⟩
  · skip
    obtain ⟨x_found, x_at, x_known⟩ := st
    obtain ⟨v_found, v_at, v_known, o_pack, o_row, rfl, rfl⟩ := hSl
    obtain ⟨_, _, ⟨⟩, a_found, _, _, ⟨⟩, r_at, _, ⟨⟩, a_known⟩ := hS
    obtain rfl : v_found = .ref D_found := a_found.1
    obtain rfl : v_known = .ref D_known := a_known.1
    replace a_found : (RAt D_found (All (RT (All RI)))) _ x_found (.ref D_found) _ := a_found
    replace r_at : RI _ x_at v_at _ := r_at
    replace a_known : (RDAt D_known (RT (All RI)) RB) _ x_known (.ref D_known) _ := a_known
    try dsimp only at hm
    replace r_line := upm r_line ex
    replace r_most := upm r_most ex
    have d := ex.dice
    have b0 := hB
    have r_found := a_found.frz; replace d := d.wk (Mm.del_le (D := D_found)); replace r_line := wk r_line (Mm.del_le (D := D_found)); replace r_most := wk r_most (Mm.del_le (D := D_found)); replace r_at := wk r_at (Mm.del_le (D := D_found)); replace a_known := wk a_known (Mm.del_le (D := D_found)); replace m_known := Mm.del_in (D := D_found) m_known (by first | exact ne_known_found | exact fun z => ne_found_known z.symm); have l0 := le_del l0 d0 n0_found; replace hca : (Mm.del (Mm.add (Mm.add M0 D_found) D_known) D_found).ca = N.ga := hca; clear a_found m_found; revert r_found; generalize (V.ref D_found : V) = v_found; intro r_found
    exact q_ret d (go0.at b0 l0) (ev_cb c_sortRL (ea_one (ev_lc1 (R' := (RT (All RI))) (EvI.x (ei_list (ev_var rfl r_found))) (fun M1 H1' q1 σ1 L1 D1 hT => by obtain ⟨v1_0, rfl, s1_0⟩ := hT; exact (et_test (ev_op o_le (ev_cb c_maxT (ea_one (ev_var rfl s1_0))) (ev_var rfl (lf r_most L1))))) (fun M1 H1' q1 σ1 L1 D1 hT => by obtain ⟨v1_0, rfl, s1_0⟩ := hT; exact (ev_var rfl s1_0))))) hm fun v z H4 e p r => kr v z H4 (b0.t l0 e) p (wk r l0)
def N__law_orders : List Str := ["plain", "most", "found", "line"]
theorem sc__law_orders : FnScope N__law_orders ["plain", "most"] (defScope zs__law_orders) := ⟨rfl, rfl, rfl, by decide +kernel, rfl, by decide +kernel, by decide +kernel⟩
abbrev sp__law_orders (N : En) : Sp := FnW N (Cons (RL (All (RRec (KCons "base" (RT (All RI)) (KOne "packs" (RL (All (RT (All RI))))))))) (One RI)) (RL (All (RT (All RI)))) (fun p => m__law_orders p.1 p.2)
theorem ok__law_orders {N : En} (T : Txt N) (F : FunP N "_law_orders" zs__law_orders) (D__law_line_orders : Dn N 2 "_law_line_orders" (sp__law_line_orders N)) : Dn N 3 "_law_orders" (sp__law_orders N) := by
  refine dn_mk F sc__law_orders (fun _ _ _ _ _ _ us hl => match us, hl with | [_, _], _ => rfl) (fun vs H Q E h => by obtain ⟨_, _, _, _, _, _, hS, _⟩ := h; exact Ln.len hS) ?_
  rintro cdv A outer s H0 vs Q E hr ⟨M0, xx, P, PE, hca, d, hS, hm, kr, go0⟩
  obtain ⟨x_plain, x_most⟩ := xx
  obtain ⟨v_plain, _, rfl, r_plain, v_most, rfl, r_most⟩ := hS
  replace r_plain : (RL (All (RRec (KCons "base" (RT (All RI)) (KOne "packs" (RL (All (RT (All RI))))))))) M0 x_plain v_plain H0 := r_plain
  replace r_most : RI M0 x_most v_most H0 := r_most
  replace hm : m__law_orders x_plain x_most P PE := hm
  unfold m__law_orders at hm
  have b0 : Xt M0 H0 H0 := .refl d; have l0 : M0.le M0 := .refl; have d0 := d
  refine ⟨_, (pss_cons (ps_set (i := 2) sc__law_orders.nd rfl (by first | exact Or.inl rfl | exact Or.inr rfl) (pe_lst pa_nil))
    (pss_cons (ps_for (passes_of rfl) rfl (pi_list (pv 0)) (pg_name (i := 3) sc__law_orders.nd rfl (by first | exact Or.inl rfl | exact Or.inr rfl))
      (pss_one (ps_expr (pe_bm PySem.F.plainAttrs_list PySem.F.slot_list_extend PySem.F.type_list_extend mt_extend (pv 2) (pa_cons (pe_d D__law_line_orders (hr.mono (by decide)) (by rfl) (passes_call (takes_of rfl rfl rfl rfl) fun _ _ _ _ z => z) (pa_cons (pv 3) (pa_cons (pv 1) pa_nil))) pa_nil)))))
    (pss_one (ps_ret (pe_callB (SX.cr_sortS rfl hr.units) (by rfl) T.n_sorted (by decide +kernel) (pa_cons (pe_callTy (SX.cr_setR rfl hr.units) (by rfl) T.n_set (by decide +kernel) (pa_cons (pv 2) pa_nil)) pa_nil)))))), ?_⟩
  refine q_new d (go0.at b0 l0) (ef_lstN (el_nil (R := (RT (All RI)))) (by decide)) hm fun D_found x_found H1 e n_found lk d hm a_found => ?_
  have n0_found := b0.none n_found; have b0 := b0.t l0 e; have l0 := l0.add (D := D_found); replace r_plain := lf r_plain lk; replace r_most := lf r_most lk; have m_found : D_found ∈ (Mm.add M0 D_found).l := List.mem_cons_self; replace hca := lk.ca.trans hca
  refine q_for (S := (One (RAt D_found (All (RT (All RI)))))) (Sl := (fun us σ' => ∃ (u_found : V) (o_line : Option V), us = [u_found] ∧ σ' = [some v_plain, some v_most, some u_found, o_line])) (Bp := (fun H' => Xt M0 H0 H')) (fun σ' => (T1 3 (RRec (KCons "base" (RT (All RI)) (KOne "packs" (RL (All (RT (All RI))))))) σ')) d (go0.at b0 l0) (ei_list (ev_var rfl r_plain)) hm (fun _ _ h e => h.t l0 e) (fun _ _ _ _ _ r q => tg1 r q) (fun H2 e => ⟨b0.t l0 e, [V.ref D_found], ⟨_, rfl, (up a_found e)⟩, ⟨_, _, rfl, rfl⟩⟩) (fun H2 e x_found x_line vs σ' σ2 H2' P' hB ex hS hSl hT hm => ?_) (fun H2 e x_found vs σ' H2' hB ex hS hSl hm => ?_)
  · skip
    have dl1 := e.dice
    unfold T1 at hT
    obtain ⟨v_found, o_line, rfl, rfl⟩ := hSl
    obtain ⟨_, ⟨⟩, a_found⟩ := hS
    obtain rfl : v_found = .ref D_found := a_found.1
    replace r_plain := upm (up r_plain e) ex
    replace r_most := upm (up r_most e) ex
    have d := ex.dice
    have b0 := hB
    obtain ⟨v_line, rfl, r_line⟩ := hT
    have c1 := ex; have l1 : Mm.le (Mm.add M0 D_found) (Mm.add M0 D_found) := Mm.le.refl
    have m1_found := m_found
    refine l_ext d (go0.at b0 l0) (fun _ _ q => ⟨_, rfl, q⟩) a_found m_found (ev_d hca (ea_cons (ev_var rfl r_line) (ea_one (ev_var rfl r_most)))) hm fun x_found H3 pt a_found hm => ?_
    have d := pt.xm.dice; have b0 := pt.xt b0 l0 n0_found; have c1 := pt.xmI c1 l1 m1_found; replace r_plain := upm r_plain pt.xm; replace r_most := upm r_most pt.xm; replace r_line := upm r_line pt.xm
    exact ⟨b0, c1, x_found, [V.ref D_found], ⟨_, rfl, (wk a_found l1)⟩, ⟨_, _, rfl, rfl⟩, hm⟩
  · skip
    obtain ⟨v_found, o_line, rfl, rfl⟩ := hSl
    obtain ⟨_, ⟨⟩, a_found⟩ := hS
    obtain rfl : v_found = .ref D_found := a_found.1
    replace r_plain := upm (up r_plain e) ex
    replace r_most := upm (up r_most e) ex
    have d := ex.dice
    have b0 := hB
    have r_found := a_found.frz; replace d := d.wk (Mm.del_le (D := D_found)); replace r_plain := wk r_plain (Mm.del_le (D := D_found)); replace r_most := wk r_most (Mm.del_le (D := D_found)); have l0 := le_del l0 d0 n0_found; replace hca : (Mm.del (Mm.add M0 D_found) D_found).ca = N.ga := hca; clear a_found m_found; revert r_found; generalize (V.ref D_found : V) = v_found; intro r_found
    exact q_ret d (go0.at b0 l0) (ev_cb c_sortSt (ea_one (ev_cb c_setR (ea_one (ev_var rfl r_found))))) hm fun v z H3 e p r => kr v z H3 (b0.t l0 e) p (wk r l0)
def N__law_plain_style : List Str := ["style", "line"]
theorem sc__law_plain_style : FnScope N__law_plain_style ["style"] (defScope zs__law_plain_style) := ⟨rfl, rfl, rfl, by decide +kernel, rfl, by decide +kernel, by decide +kernel⟩
abbrev sp__law_plain_style (N : En) : Sp := FnW N (One R_Style) (RL (All (RRec (KCons "base" (RT (All RI)) (KOne "packs" (RL (All (RT (All RI))))))))) (fun p => m__law_plain_style p)
theorem ok__law_plain_style {N : En} (T : Txt N) (F : FunP N "_law_plain_style" zs__law_plain_style) (D_Style___iter__ : GX.Di N 1 "Style" (sp_Style___iter__ N)) (D_Line_base : Dp N 1 "Line" "base" (sp_Line_base N)) (D_Line_packs : Dp N 1 "Line" "packs" (sp_Line_packs N)) : Dn N 3 "_law_plain_style" (sp__law_plain_style N) := by
  refine dn_mk F sc__law_plain_style (fun _ _ _ _ _ _ us hl => match us, hl with | [_], _ => rfl) (fun vs H Q E h => by obtain ⟨_, _, _, _, _, _, hS, _⟩ := h; exact Ln.len hS) ?_
  rintro cdv A outer s H0 vs Q E hr ⟨M0, x_style, P, PE, hca, d, hS, hm, kr, go0⟩
  obtain ⟨v_style, rfl, r_style⟩ := hS
  replace r_style : R_Style M0 x_style v_style H0 := r_style
  replace hm : m__law_plain_style x_style P PE := hm
  unfold m__law_plain_style at hm
  have b0 : Xt M0 H0 H0 := .refl d; have l0 : M0.le M0 := .refl; have d0 := d
  refine ⟨_, (pss_one (ps_ret (pe_lc (own := [("line", 1)]) (g := gName 1) rfl sc__law_plain_style.nd (GX.pi_ownK N (by rfl) D_Style___iter__ (hr.mono (by decide)) (pv 0)) (blkOk_by (own := [("line", 1)]) (N := N__law_plain_style) (sc := defScope zs__law_plain_style) (by decide +kernel)) (fun _ _ _ _ _ => (pg_name (i := 1) sc__law_plain_style.nd rfl (by first | exact Or.inl rfl | exact Or.inr rfl))) (fun _ _ _ _ _ => pts_nil) (fun _ _ _ _ _ => (pe_disp (pps_cons pe_str (pe_pK N.K (by rfl) (pv 1) D_Line_base (hr.mono (by decide)) px0n) (pps_cons pe_str (pe_callTy (call_list_ofK N.K (by rfl)) (by rfl) T.n_list (by decide +kernel) (pa_cons (pe_pK N.K (by rfl) (pv 1) D_Line_packs (hr.mono (by decide)) px0n) pa_nil)) pps_nil)) rfl rfl (by simp) (by decide)))))), ?_⟩
  exact q_ret d (go0.at b0 l0) (ev_lc1 (R' := (RRec (KCons "base" (RT (All RI)) (KOne "packs" (RL (All (RT (All RI)))))))) (EvI.x (ei_own hca at_Style_own_lines (ev_var rfl r_style))) (fun M1 H1' q1 σ1 L1 D1 hT => by obtain ⟨v1_0, rfl, s1_0⟩ := hT; exact et_yes) (fun M1 H1' q1 σ1 L1 D1 hT => by obtain ⟨v1_0, rfl, s1_0⟩ := hT; exact (ev_recD (fun M2 H2' L2 D2 => (ep_cons (ev_prN (L2.ca.trans (L1.ca.trans hca)) (by exact fun _ _ _ h => h) (ev_var rfl (lf s1_0 L2))) (ep_one (ev_cb c_lstT (ea_one (ev_prN (L2.ca.trans (L1.ca.trans hca)) (by exact fun _ _ _ h => h) (ev_var rfl (lf s1_0 L2)))))))) (by decide +kernel)))) hm fun v z H1 e p r => kr v z H1 (b0.t l0 e) p (wk r l0)
def N__law_both_right : List Str := ["one", "other", "most", "left", "right", "either", "both", "there", "due", "row", "more", "total", "at"]
theorem sc__law_both_right : FnScope N__law_both_right ["one", "other", "most"] (defScope zs__law_both_right) := ⟨rfl, rfl, rfl, by decide +kernel, rfl, by decide +kernel, by decide +kernel⟩
abbrev sp__law_both_right (N : En) : Sp := FnW N (Cons (RL (All (RRec (KCons "base" (RT (All RI)) (KOne "packs" (RL (All (RT (All RI))))))))) (Cons (RL (All (RRec (KCons "base" (RT (All RI)) (KOne "packs" (RL (All (RT (All RI))))))))) (One RI))) RB (fun p => m__law_both_right p.1 p.2.1 p.2.2)
theorem ok__law_both_right {N : En} (T : Txt N) (F : FunP N "_law_both_right" zs__law_both_right) (D__law_made_style : Dn N 7 "_law_made_style" (sp__law_made_style N)) (D_Style___or__ : Dm N 7 "Style" "__or__" (sp_Style___or__ N)) (D_Style___add__ : Dm N 9 "Style" "__add__" (sp_Style___add__ N)) (D__law_orders : Dn N 3 "_law_orders" (sp__law_orders N)) (D_Style_lines : Dp N 1 "Style" "lines" (sp_Style_lines N)) (D_Line___eq__ : Dm N 1 "Line" "__eq__" (sp_Line___eq__ N)) (D_Style___len__ : Dm N 1 "Style" "__len__" (sp_Style___len__ N)) (D__law_plain_style : Dn N 3 "_law_plain_style" (sp__law_plain_style N)) (D__law_plus : Dn N 1 "_law_plus" (sp__law_plus N)) (D_Style_orders : GX.DgM N 4 "Style" "orders" (sp_Style_orders N)) (D_Style___getitem__ : Dm N 2 "Style" "__getitem__" (sp_Style___getitem__ N)) (D_Line___add__ : Dm N 9 "Line" "__add__" (sp_Line___add__ N)) : Dn N 11 "_law_both_right" (sp__law_both_right N) := by
  refine dn_mk F sc__law_both_right (fun _ _ _ _ _ _ us hl => match us, hl with | [_, _, _], _ => rfl) (fun vs H Q E h => by obtain ⟨_, _, _, _, _, _, hS, _⟩ := h; exact Ln.len hS) ?_
  rintro cdv A outer s H0 vs Q E hr ⟨M0, xx, P, PE, hca, d, hS, hm, kr, go0⟩
  obtain ⟨x_one, x_other, x_most⟩ := xx
  obtain ⟨v_one, _, rfl, r_one, v_other, _, rfl, r_other, v_most, rfl, r_most⟩ := hS
  replace r_one : (RL (All (RRec (KCons "base" (RT (All RI)) (KOne "packs" (RL (All (RT (All RI))))))))) M0 x_one v_one H0 := r_one
  replace r_other : (RL (All (RRec (KCons "base" (RT (All RI)) (KOne "packs" (RL (All (RT (All RI))))))))) M0 x_other v_other H0 := r_other
  replace r_most : RI M0 x_most v_most H0 := r_most
  replace hm : m__law_both_right x_one x_other x_most P PE := hm
  unfold m__law_both_right at hm
  have b0 : Xt M0 H0 H0 := .refl d; have l0 : M0.le M0 := .refl; have d0 := d
  refine ⟨_, (pss_cons (ps_par rfl sc__law_both_right.nd (i := 3) (j := 4) rfl rfl (by decide) rfl rfl (pa_cons (pe_d D__law_made_style (hr.mono (by decide)) (by rfl) (passes_call (takes_of rfl rfl rfl rfl) fun _ _ _ _ z => z) (pa_cons (pv 0) pa_nil)) (pa_cons (pe_d D__law_made_style (hr.mono (by decide)) (by rfl) (passes_call (takes_of rfl rfl rfl rfl) fun _ _ _ _ z => z) (pa_cons (pv 1) pa_nil)) pa_nil)) rfl)
    (pss_cons (ps_par rfl sc__law_both_right.nd (i := 5) (j := 6) rfl rfl (by decide) rfl rfl (pa_cons (pe_op (op_bin D_Style___or__ T.sf_Style (hr.mono (by decide)) (passes_call (takes_of rfl rfl rfl rfl) fun _ _ _ _ z => z)) (pv 3) (pv 4)) (pa_cons (pe_op (op_bin D_Style___add__ T.sf_Style (hr.mono (by decide)) (passes_call (takes_of rfl rfl rfl rfl) fun _ _ _ _ z => z)) (pv 3) (pv 4)) pa_nil)) rfl)
    (pss_cons (ps_set (i := 7) sc__law_both_right.nd rfl (by first | exact Or.inl rfl | exact Or.inr rfl) (pe_lst (pa_cons (pe_d D__law_orders (hr.mono (by decide)) (by rfl) (passes_call (takes_of rfl rfl rfl rfl) fun _ _ _ _ z => z) (pa_cons (pv 0) (pa_cons (pv 2) pa_nil))) (pa_cons (pe_d D__law_orders (hr.mono (by decide)) (by rfl) (passes_call (takes_of rfl rfl rfl rfl) fun _ _ _ _ z => z) (pa_cons (pv 1) (pa_cons (pv 2) pa_nil))) pa_nil))))
    (pss_cons (ps_if (PW.pt (pw_or (pt_cmpR (op_neL N (by rfl) D_Line___eq__ (hr.mono (by decide))) (pe_callTy call_list_of (by rfl) T.n_list (by decide +kernel) (pa_cons (pe_p (pv 5) D_Style_lines (hr.mono (by decide)) px0n) pa_nil)) (pe_op op_cat (pe_callTy call_list_of (by rfl) T.n_list (by decide +kernel) (pa_cons (pe_p (pv 3) D_Style_lines (hr.mono (by decide)) px0n) pa_nil)) (pe_callTy call_list_of (by rfl) T.n_list (by decide +kernel) (pa_cons (pe_p (pv 4) D_Style_lines (hr.mono (by decide)) px0n) pa_nil))) (nomark _)) (pw_or1 (pt_cmpR op_ne (pe_callB (call_lenO D_Style___len__ (hr.mono (by decide)) (passes_call (takes_of rfl rfl rfl rfl) fun _ _ _ _ z => z)) (by rfl) T.n_len (by decide +kernel) (pa_cons (pv 6) pa_nil)) (pe_op op_mul (pe_callB call_len_seq (by rfl) T.n_len (by decide +kernel) (pa_cons (pv 0) pa_nil)) (pe_callB call_len_seq (by rfl) T.n_len (by decide +kernel) (pa_cons (pv 1) pa_nil))) (nomark _)))))
      (pss_one (ps_ret pe_bl)) pss_nil)
    (pss_cons (ps_if (pt_cmpR (op_neD hr.units) (pe_d D__law_orders (hr.mono (by decide)) (by rfl) (passes_call (takes_of rfl rfl rfl rfl) fun _ _ _ _ z => z) (pa_cons (pe_d D__law_plain_style (hr.mono (by decide)) (by rfl) (passes_call (takes_of rfl rfl rfl rfl) fun _ _ _ _ z => z) (pa_cons (pv 5) pa_nil)) (pa_cons (pv 2) pa_nil))) (pe_callB (SX.cr_sortS rfl hr.units) (by rfl) T.n_sorted (by decide +kernel) (pa_cons (pe_callTy (SX.cr_setR rfl hr.units) (by rfl) T.n_set (by decide +kernel) (pa_cons (pe_op op_cat (pe_ix ix_list (pv 7) pe_int (fun _ _ => rfl)) (pe_ix ix_list (pv 7) pe_int (fun _ _ => rfl))) pa_nil)) pa_nil)) (nomark _))
      (pss_one (ps_ret pe_bl)) pss_nil)
    (pss_cons (ps_set (i := 8) sc__law_both_right.nd rfl (by first | exact Or.inl rfl | exact Or.inr rfl) (pe_lst pa_nil))
    (pss_cons (ps_for (passes_of rfl) rfl (pi_list (pe_ix ix_list (pv 7) pe_int (fun _ _ => rfl))) (pg_name (i := 9) sc__law_both_right.nd rfl (by first | exact Or.inl rfl | exact Or.inr rfl))
      (pss_one (ps_expr (pe_bm PySem.F.plainAttrs_list PySem.F.slot_list_extend PySem.F.type_list_extend mt_extend (pv 8) (pa_cons (pe_lc (own := [("more", 10)]) (g := gName 10) rfl sc__law_both_right.nd (pi_list (pe_ix ix_list (pv 7) pe_int (fun _ _ => rfl))) (blkOk_by (own := [("more", 10)]) (N := N__law_both_right) (sc := defScope zs__law_both_right) (by decide +kernel)) (fun _ _ _ _ _ => (pg_name (i := 10) sc__law_both_right.nd rfl (by first | exact Or.inl rfl | exact Or.inr rfl))) (fun _ _ _ _ _ => pts_nil) (fun _ _ _ _ _ => (pe_d D__law_plus (hr.mono (by decide)) (by rfl) px0 (pa_cons (pv 9) (pa_cons (pv 10) pa_nil))))) pa_nil)))))
    (pss_cons (ps_set (i := 8) sc__law_both_right.nd rfl (by first | exact Or.inl rfl | exact Or.inr rfl) (pe_callB (SX.cr_sortS rfl hr.units) (by rfl) T.n_sorted (by decide +kernel) (pa_cons (pe_callTy (SX.cr_setR rfl hr.units) (by rfl) T.n_set (by decide +kernel) (pa_cons (pe_lc (own := [("row", 9)]) (g := gName 9) rfl sc__law_both_right.nd (pi_list (pv 8)) (blkOk_by (own := [("row", 9)]) (N := N__law_both_right) (sc := defScope zs__law_both_right) (by decide +kernel)) (fun _ _ _ _ _ => (pg_name (i := 9) sc__law_both_right.nd rfl (by first | exact Or.inl rfl | exact Or.inr rfl))) (fun _ _ _ _ _ => (pts_one (pt_cmpR op_le (pe_callB (GX.cr_maxTK N.K (by rfl) rfl (hu_of hr)) (by rfl) T.n_max (by decide +kernel) (pa_cons (pv 9) pa_nil)) (pv 2) (nomark _)))) (fun _ _ _ _ _ => (pv 9))) pa_nil)) pa_nil)))
    (pss_cons (ps_if (PW.pt (pw_or (pt_cmpR (op_neD hr.units) (pe_d D__law_orders (hr.mono (by decide)) (by rfl) (passes_call (takes_of rfl rfl rfl rfl) fun _ _ _ _ z => z) (pa_cons (pe_d D__law_plain_style (hr.mono (by decide)) (by rfl) (passes_call (takes_of rfl rfl rfl rfl) fun _ _ _ _ z => z) (pa_cons (pv 6) pa_nil)) (pa_cons (pv 2) pa_nil))) (pv 8) (nomark _)) (pw_or1 (pt_cmpR (op_neD hr.units) (GX.pe_dgm (pv 6) D_Style_orders (hr.mono (by decide)) GX.px00 (by rfl) T.n_list (by decide +kernel) (pa_cons (pv 2) pa_nil)) (pv 8) (nomark _)))))
      (pss_one (ps_ret pe_bl)) pss_nil)
    (pss_cons (ps_set (i := 11) sc__law_both_right.nd rfl (by first | exact Or.inl rfl | exact Or.inr rfl) (pe_callB call_len_seq (by rfl) T.n_len (by decide +kernel) (pa_cons (pv 1) pa_nil)))
    (pss_cons (ps_for (passes_of rfl) rfl (pi_range1 (by rfl) T.n_range (pa_cons (pe_callB (call_lenO D_Style___len__ (hr.mono (by decide)) (passes_call (takes_of rfl rfl rfl rfl) fun _ _ _ _ z => z)) (by rfl) T.n_len (by decide +kernel) (pa_cons (pv 6) pa_nil)) pa_nil)) (pg_name (i := 12) sc__law_both_right.nd rfl (by first | exact Or.inl rfl | exact Or.inr rfl))
      (pss_one (ps_if (pt_cmpR (op_neO D_Line___eq__ T.ne_Line (hr.mono (by decide)) (passes_call (takes_of rfl rfl rfl rfl) fun _ _ _ _ z => z)) (GX.pe_ixO (pv 6) (pv 12) D_Style___getitem__ T.fg_Style (hr.mono (by decide)) (passes_call (takes_of rfl rfl rfl rfl) fun _ _ _ _ z => z)) (pe_op (op_bin D_Line___add__ T.sf_Line (hr.mono (by decide)) (passes_call (takes_of rfl rfl rfl rfl) fun _ _ _ _ z => z)) (GX.pe_ixO (pv 3) (pe_op op_fdiv (pv 12) (pv 11)) D_Style___getitem__ T.fg_Style (hr.mono (by decide)) (passes_call (takes_of rfl rfl rfl rfl) fun _ _ _ _ z => z)) (GX.pe_ixO (pv 4) (pe_op op_mod (pe_callTy call_int1 (by rfl) T.n_int (by decide +kernel) (pa_cons (pv 12) pa_nil)) (pv 11)) D_Style___getitem__ T.fg_Style (hr.mono (by decide)) (passes_call (takes_of rfl rfl rfl rfl) fun _ _ _ _ z => z))) (nomark _))
      (pss_one (ps_ret pe_bl)) pss_nil)))
    (pss_one (ps_ret pe_bl))))))))))))), ?_⟩
  refine q_par d (go0.at b0 l0) (ea_cons (ev_d hca (ea_one (ev_var rfl r_one))) (ea_one (ev_d hca (ea_one (ev_var rfl r_other))))) hm fun v_left v_right xx H1 e r_left r_right hm => ?_
  obtain ⟨x_left, x_right⟩ := xx; dsimp only at r_left r_right hm
  have d := e.dice; have b0 := b0.t l0 e; replace r_one := up r_one e; replace r_other := up r_other e; replace r_most := up r_most e
  refine q_par d (go0.at b0 l0) (ea_cons (ev_own hca (ev_var rfl r_left) (ev_var rfl r_right)) (ea_one (ev_own hca (ev_var rfl r_left) (ev_var rfl r_right)))) hm fun v_either v_both xx H2 e r_either r_both hm => ?_
  obtain ⟨x_either, x_both⟩ := xx; dsimp only at r_either r_both hm
  have d := e.dice; have b0 := b0.t l0 e; replace r_one := up r_one e; replace r_other := up r_other e; replace r_most := up r_most e; replace r_left := up r_left e; replace r_right := up r_right e
  refine q_set d (go0.at b0 l0) (ev_lstN (el_cons (ev_d hca (ea_cons (ev_var rfl r_one) (ea_one (ev_var rfl r_most)))) (el_cons (ev_d hca (ea_cons (ev_var rfl r_other) (ea_one (ev_var rfl r_most)))) el_nil)) (by decide)) hm fun v_there x_there H3 e hm r_there => ?_
  have d := e.dice; have b0 := b0.t l0 e; replace r_one := up r_one e; replace r_other := up r_other e; replace r_most := up r_most e; replace r_left := up r_left e; replace r_right := up r_right e; replace r_either := up r_either e; replace r_both := up r_both e
  refine q_if0 d (go0.at b0 l0) (et_or (et_test (ev_neL hca (ev_cb c_lstT (ea_one (ev_prN hca (by exact fun _ _ _ h => h) (ev_var rfl r_either)))) (ev_op o_catL (ev_cb c_lstT (ea_one (ev_prN hca (by exact fun _ _ _ h => h) (ev_var rfl r_left)))) (ev_cb c_lstT (ea_one (ev_prN hca (by exact fun _ _ _ h => h) (ev_var rfl r_right))))))) (et_test (ev_op o_ne (ev_lenO hca (ev_var rfl r_both)) (ev_op o_mul (ev_cb c_lenL (ea_one (ev_var rfl r_one))) (ev_cb c_lenL (ea_one (ev_var rfl r_other))))))) hm (fun H4 e hm => ?_) (fun H4 e hm => ?_)
  · skip
    have d := e.dice; have b0 := b0.t l0 e; replace r_one := up r_one e; replace r_other := up r_other e; replace r_most := up r_most e; replace r_left := up r_left e; replace r_right := up r_right e; replace r_either := up r_either e; replace r_both := up r_both e; replace r_there := up r_there e
    exact q_ret d (go0.at b0 l0) ev_bl hm fun v z H5 e p r => kr v z H5 (b0.t l0 e) p (wk r l0)
  · skip
    have d := e.dice; have b0 := b0.t l0 e; replace r_one := up r_one e; replace r_other := up r_other e; replace r_most := up r_most e; replace r_left := up r_left e; replace r_right := up r_right e; replace r_either := up r_either e; replace r_both := up r_both e; replace r_there := up r_there e
    refine q_if0 d (go0.at b0 l0) (et_test (ev_op (o_neD (R := (RL (All (RT (All RI)))))) (ev_d hca (ea_cons (ev_d hca (ea_one (ev_var rfl r_either))) (ea_one (ev_var rfl r_most)))) (ev_cb c_sortSt (ea_one (ev_cb c_setR (ea_one (ev_op o_catL (ev_op o_ixL (ev_var rfl r_there) ev_int) (ev_op o_ixL (ev_var rfl r_there) ev_int)))))))) hm (fun H5 e hm => ?_) (fun H5 e hm => ?_)
    · skip
      have d := e.dice; have b0 := b0.t l0 e; replace r_one := up r_one e; replace r_other := up r_other e; replace r_most := up r_most e; replace r_left := up r_left e; replace r_right := up r_right e; replace r_either := up r_either e; replace r_both := up r_both e; replace r_there := up r_there e
      exact q_ret d (go0.at b0 l0) ev_bl hm fun v z H6 e p r => kr v z H6 (b0.t l0 e) p (wk r l0)
    · skip
      have d := e.dice; have b0 := b0.t l0 e; replace r_one := up r_one e; replace r_other := up r_other e; replace r_most := up r_most e; replace r_left := up r_left e; replace r_right := up r_right e; replace r_either := up r_either e; replace r_both := up r_both e; replace r_there := up r_there e
      refine q_new d (go0.at b0 l0) (ef_lstN (el_nil (R := (RT (All RI)))) (by decide)) hm fun D_due x_due H6 e n_due lk d hm a_due => ?_
      have n0_due := b0.none n_due; have b0 := b0.t l0 e; have l0 := l0.add (D := D_due); replace r_one := lf r_one lk; replace r_other := lf r_other lk; replace r_most := lf r_most lk; replace r_left := lf r_left lk; replace r_right := lf r_right lk; replace r_either := lf r_either lk; replace r_both := lf r_both lk; replace r_there := lf r_there lk; have m_due : D_due ∈ (Mm.add M0 D_due).l := List.mem_cons_self; replace hca := lk.ca.trans hca
      refine q_for (S := (One (RAt D_due (All (RT (All RI)))))) (Sl := (fun us σ' => ∃ (u_due : V) (o_row : Option V) (o_more : Option V) (o_total : Option V) (o_at : Option V), us = [u_due] ∧ σ' = [some v_one, some v_other, some v_most, some v_left, some v_right, some v_either, some v_both, some v_there, some u_due, o_row, o_more, o_total, o_at])) (Bp := (fun H' => Xt M0 H0 H')) (fun σ' => (T1 9 (RT (All RI)) σ')) d (go0.at b0 l0) (ei_list (ev_op o_ixL (ev_var rfl r_there) ev_int)) hm (fun _ _ h e => h.t l0 e) (fun _ _ _ _ _ r q => tg1 r q) (fun H7 e => ⟨b0.t l0 e, [V.ref D_due], ⟨_, rfl, (up a_due e)⟩, ⟨_, _, _, _, _, rfl, rfl⟩⟩) (fun H7 e x_due x_row vs σ' σ2 H7' P' hB ex hS hSl hT hm => ?_) (fun H7 e x_due vs σ' H7' hB ex hS hSl hm => ?_)
      · skip
        have dl1 := e.dice
        unfold T1 at hT
        obtain ⟨v_due, o_row, o_more, o_total, o_at, rfl, rfl⟩ := hSl
        obtain ⟨_, ⟨⟩, a_due⟩ := hS
        obtain rfl : v_due = .ref D_due := a_due.1
        replace r_one := upm (up r_one e) ex
        replace r_other := upm (up r_other e) ex
        replace r_most := upm (up r_most e) ex
        replace r_left := upm (up r_left e) ex
        replace r_right := upm (up r_right e) ex
        replace r_either := upm (up r_either e) ex
        replace r_both := upm (up r_both e) ex
        replace r_there := upm (up r_there e) ex
        have d := ex.dice
        have b0 := hB
        obtain ⟨v_row, rfl, r_row⟩ := hT
        have c1 := ex; have l1 : Mm.le (Mm.add M0 D_due) (Mm.add M0 D_due) := Mm.le.refl
        have m1_due := m_due
        refine l_ext d (go0.at b0 l0) (fun _ _ q => ⟨_, rfl, q⟩) a_due m_due (ev_lc1 (R' := (RT (All RI))) (EvI.x (ei_list (ev_op o_ixL (ev_var rfl r_there) ev_int))) (fun M1 H1' q1 σ1 L1 D1 hT => by obtain ⟨v1_0, rfl, s1_0⟩ := hT; exact et_yes) (fun M1 H1' q1 σ1 L1 D1 hT => by obtain ⟨v1_0, rfl, s1_0⟩ := hT; exact (ev_d (L1.ca.trans hca) (ea_cons (ev_var rfl (lf r_row L1)) (ea_one (ev_var rfl s1_0)))))) hm fun x_due H8 pt a_due hm => ?_
        have d := pt.xm.dice; have b0 := pt.xt b0 l0 n0_due; have c1 := pt.xmI c1 l1 m1_due; replace r_one := upm r_one pt.xm; replace r_other := upm r_other pt.xm; replace r_most := upm r_most pt.xm; replace r_left := upm r_left pt.xm; replace r_right := upm r_right pt.xm; replace r_either := upm r_either pt.xm; replace r_both := upm r_both pt.xm; replace r_there := upm r_there pt.xm; replace r_row := upm r_row pt.xm
        exact ⟨b0, c1, x_due, [V.ref D_due], ⟨_, rfl, (wk a_due l1)⟩, ⟨_, _, _, _, _, rfl, rfl⟩, hm⟩
      · skip
        obtain ⟨v_due, o_row, o_more, o_total, o_at, rfl, rfl⟩ := hSl
        obtain ⟨_, ⟨⟩, a_due⟩ := hS
        obtain rfl : v_due = .ref D_due := a_due.1
        replace r_one := upm (up r_one e) ex
        replace r_other := upm (up r_other e) ex
        replace r_most := upm (up r_most e) ex
        replace r_left := upm (up r_left e) ex
        replace r_right := upm (up r_right e) ex
        replace r_either := upm (up r_either e) ex
        replace r_both := upm (up r_both e) ex
        replace r_there := upm (up r_there e) ex
        have d := ex.dice
        have b0 := hB
        have r_due := a_due.frz; replace d := d.wk (Mm.del_le (D := D_due)); replace r_one := wk r_one (Mm.del_le (D := D_due)); replace r_other := wk r_other (Mm.del_le (D := D_due)); replace r_most := wk r_most (Mm.del_le (D := D_due)); replace r_left := wk r_left (Mm.del_le (D := D_due)); replace r_right := wk r_right (Mm.del_le (D := D_due)); replace r_either := wk r_either (Mm.del_le (D := D_due)); replace r_both := wk r_both (Mm.del_le (D := D_due)); replace r_there := wk r_there (Mm.del_le (D := D_due)); have l0 := le_del l0 d0 n0_due; replace hca : (Mm.del (Mm.add M0 D_due) D_due).ca = N.ga := hca; clear a_due m_due; revert r_due; generalize (V.ref D_due : V) = v_due; intro r_due
        refine q_set d (go0.at b0 l0) (ev_cb c_sortSt (ea_one (ev_cb c_setR (ea_one (ev_lc1 (R' := (RT (All RI))) (EvI.x (ei_list (ev_var rfl r_due))) (fun M1 H1' q1 σ1 L1 D1 hT => by obtain ⟨v1_0, rfl, s1_0⟩ := hT; exact (et_test (ev_op o_le (ev_cb c_maxT (ea_one (ev_var rfl s1_0))) (ev_var rfl (lf r_most L1))))) (fun M1 H1' q1 σ1 L1 D1 hT => by obtain ⟨v1_0, rfl, s1_0⟩ := hT; exact (ev_var rfl s1_0))))))) hm fun v_due x_due H8 e hm r_due => ?_
        have d := e.dice; have b0 := b0.t l0 e; replace r_one := up r_one e; replace r_other := up r_other e; replace r_most := up r_most e; replace r_left := up r_left e; replace r_right := up r_right e; replace r_either := up r_either e; replace r_both := up r_both e; replace r_there := up r_there e
        refine q_if0 d (go0.at b0 l0) (et_or (et_test (ev_op (o_neD (R := (RL (All (RT (All RI)))))) (ev_d hca (ea_cons (ev_d hca (ea_one (ev_var rfl r_both))) (ea_one (ev_var rfl r_most)))) (ev_var rfl r_due))) (et_test (ev_op (o_neD (R := (RL (All (RT (All RI)))))) (ev_dgm hca no_Style_orders (ev_var rfl r_both) (ea_one (ev_var rfl r_most))) (ev_var rfl r_due)))) hm (fun H9 e hm => ?_) (fun H9 e hm => ?_)
        · skip
          have d := e.dice; have b0 := b0.t l0 e; replace r_one := up r_one e; replace r_other := up r_other e; replace r_most := up r_most e; replace r_left := up r_left e; replace r_right := up r_right e; replace r_either := up r_either e; replace r_both := up r_both e; replace r_there := up r_there e; replace r_due := up r_due e
          exact q_ret d (go0.at b0 l0) ev_bl hm fun v z H10 e p r => kr v z H10 (b0.t l0 e) p (wk r l0)
        · skip
          have d := e.dice; have b0 := b0.t l0 e; replace r_one := up r_one e; replace r_other := up r_other e; replace r_most := up r_most e; replace r_left := up r_left e; replace r_right := up r_right e; replace r_either := up r_either e; replace r_both := up r_both e; replace r_there := up r_there e; replace r_due := up r_due e
          refine q_set d (go0.at b0 l0) (ev_cb c_lenL (ea_one (ev_var rfl r_other))) hm fun v_total x_total H10 e hm r_total => ?_
          have d := e.dice; have b0 := b0.t l0 e; replace r_one := up r_one e; replace r_other := up r_other e; replace r_most := up r_most e; replace r_left := up r_left e; replace r_right := up r_right e; replace r_either := up r_either e; replace r_both := up r_both e; replace r_there := up r_there e; replace r_due := up r_due e
          refine q_forF (S := Nil) (Sl := (fun us σ' => ∃ (o_row : Option V) (o_more : Option V) (o_at : Option V), us = [] ∧ σ' = [some v_one, some v_other, some v_most, some v_left, some v_right, some v_either, some v_both, some v_there, some v_due, o_row, o_more, some v_total, o_at])) (Bp := (fun H' => Xt M0 H0 H')) (fun σ' => (T1 12 RI σ')) d (go0.at b0 l0) (ei_rng1 (ea_one (ev_lenO hca (ev_var rfl r_both)))) hm (fun _ _ h e => h.t l0 e) (fun _ _ _ _ _ r q => tg1 r q) (fun H11 e => ⟨b0.t l0 e, [], rfl, ⟨_, _, _, rfl, rfl⟩⟩) (fun H11 e _ x_at vs σ' σ2 H11' P' hB ex hS hSl hT hm hret11 hbrk11 => ?_) (fun H11 e _ vs σ' H11' hB ex hS hSl hm => ?_)
          · skip
            have dl1 := e.dice
            unfold T1 at hT
            obtain ⟨o_row, o_more, o_at, rfl, rfl⟩ := hSl
            replace r_one := upm (up r_one e) ex
            replace r_other := upm (up r_other e) ex
            replace r_most := upm (up r_most e) ex
            replace r_left := upm (up r_left e) ex
            replace r_right := upm (up r_right e) ex
            replace r_either := upm (up r_either e) ex
            replace r_both := upm (up r_both e) ex
            replace r_there := upm (up r_there e) ex
            replace r_due := upm (up r_due e) ex
            replace r_total := upm (up r_total e) ex
            have d := ex.dice
            have b0 := hB
            obtain ⟨v_at, rfl, r_at⟩ := hT
            have c1 := ex; have l1 : Mm.le (Mm.del (Mm.add M0 D_due) D_due) (Mm.del (Mm.add M0 D_due) D_due) := Mm.le.refl
            refine l_if0 d (go0.at b0 l0) (et_test (ev_neO hca (ev_ixO hca (ev_var rfl r_both) (ev_var rfl r_at)) (ev_own hca (ev_ixO hca (ev_var rfl r_left) (ev_op o_fdiv (ev_var rfl r_at) (ev_var rfl r_total))) (ev_ixO hca (ev_var rfl r_right) (ev_op o_mod (ev_cb c_int (ea_one (ev_var rfl r_at))) (ev_var rfl r_total)))))) hm (fun H12 e hm => ?_) (fun H12 e hm => ?_)
            · skip
              have d := e.dice; have b0 := b0.t l0 e; have c1 := c1.tl l1 e; replace r_one := up r_one e; replace r_other := up r_other e; replace r_most := up r_most e; replace r_left := up r_left e; replace r_right := up r_right e; replace r_either := up r_either e; replace r_both := up r_both e; replace r_there := up r_there e; replace r_due := up r_due e; replace r_total := up r_total e; replace r_at := up r_at e
              exact q_ret d (go0.at b0 l0) ev_bl hm fun v z H13 e p r => kr v z H13 (b0.t l0 e) (hret11 z p) (wk r l0)
            · skip
              have d := e.dice; have b0 := b0.t l0 e; have c1 := c1.tl l1 e; replace r_one := up r_one e; replace r_other := up r_other e; replace r_most := up r_most e; replace r_left := up r_left e; replace r_right := up r_right e; replace r_either := up r_either e; replace r_both := up r_both e; replace r_there := up r_there e; replace r_due := up r_due e; replace r_total := up r_total e; replace r_at := up r_at e
              exact ⟨b0, c1, (), [], rfl, ⟨_, _, _, rfl, rfl⟩, hm⟩
          · skip
            obtain ⟨o_row, o_more, o_at, rfl, rfl⟩ := hSl
            replace r_one := upm (up r_one e) ex
            replace r_other := upm (up r_other e) ex
            replace r_most := upm (up r_most e) ex
            replace r_left := upm (up r_left e) ex
            replace r_right := upm (up r_right e) ex
            replace r_either := upm (up r_either e) ex
            replace r_both := upm (up r_both e) ex
            replace r_there := upm (up r_there e) ex
            replace r_due := upm (up r_due e) ex
            replace r_total := upm (up r_total e) ex
            have d := ex.dice
            have b0 := hB
            exact q_ret d (go0.at b0 l0) ev_bl hm fun v z H12 e p r => kr v z H12 (b0.t l0 e) p (wk r l0)
def N__law_changed_right : List Str := ["dice", "plain", "made", "sorts", "row", "number", "line", "sort", "most"]
theorem sc__law_changed_right : FnScope N__law_changed_right ["dice", "plain"] (defScope zs__law_changed_right) := ⟨rfl, rfl, rfl, by decide +kernel, rfl, by decide +kernel, by decide +kernel⟩
abbrev sp__law_changed_right (N : En) : Sp := FnW N (Cons RD (One (RL (All (RRec (KCons "base" (RT (All RI)) (KOne "packs" (RL (All (RT (All RI))))))))))) RB (fun p => m__law_changed_right p.1 p.2)
theorem ok__law_changed_right {N : En} (T : Txt N) (F : FunP N "_law_changed_right" zs__law_changed_right) (D__law_made_style : Dn N 7 "_law_made_style" (sp__law_made_style N)) (D__law_order : Dn N 2 "_law_order" (sp__law_order N)) (D__law_roll : Dn N 1 "_law_roll" (sp__law_roll N)) (D_Style_shifted : Dm N 8 "Style" "shifted" (sp_Style_shifted N)) (D_Style_lines : Dp N 1 "Style" "lines" (sp_Style_lines N)) (D_Line_shifted : Dm N 8 "Line" "shifted" (sp_Line_shifted N)) (D_Line___eq__ : Dm N 1 "Line" "__eq__" (sp_Line___eq__ N)) (D_Style_scaled : Dm N 9 "Style" "scaled" (sp_Style_scaled N)) (D_Line_scaled : Dm N 9 "Line" "scaled" (sp_Line_scaled N)) (D_Style_lean : Dm N 9 "Style" "lean" (sp_Style_lean N)) (D_Line_lean : Dm N 9 "Line" "lean" (sp_Line_lean N)) (D_Style_forgetting : Dm N 9 "Style" "forgetting" (sp_Style_forgetting N)) (D_Line_forgetting : Dm N 9 "Line" "forgetting" (sp_Line_forgetting N)) (D__law_plain_style : Dn N 3 "_law_plain_style" (sp__law_plain_style N)) (D__law_orders : Dn N 3 "_law_orders" (sp__law_orders N)) : Dn N 10 "_law_changed_right" (sp__law_changed_right N) := by
  refine dn_mk F sc__law_changed_right (fun _ _ _ _ _ _ us hl => match us, hl with | [_, _], _ => rfl) (fun vs H Q E h => by obtain ⟨_, _, _, _, _, _, hS, _⟩ := h; exact Ln.len hS) ?_
  rintro cdv A outer s H0 vs Q E hr ⟨M0, xx, P, PE, hca, d, hS, hm, kr, go0⟩
  obtain ⟨x_dice, x_plain⟩ := xx
  obtain ⟨v_dice, _, rfl, r_dice, v_plain, rfl, r_plain⟩ := hS
  replace r_dice : RD M0 x_dice v_dice H0 := r_dice
  replace r_plain : (RL (All (RRec (KCons "base" (RT (All RI)) (KOne "packs" (RL (All (RT (All RI))))))))) M0 x_plain v_plain H0 := r_plain
  replace hm : m__law_changed_right x_dice x_plain P PE := hm
  unfold m__law_changed_right at hm
  have b0 : Xt M0 H0 H0 := .refl d; have l0 : M0.le M0 := .refl; have d0 := d
  refine ⟨_, (pss_cons (ps_par rfl sc__law_changed_right.nd (i := 2) (j := 3) rfl rfl (by decide) rfl rfl (pa_cons (pe_d D__law_made_style (hr.mono (by decide)) (by rfl) (passes_call (takes_of rfl rfl rfl rfl) fun _ _ _ _ z => z) (pa_cons (pv 1) pa_nil)) (pa_cons (pe_callB call_len_seq (by rfl) T.n_len (by decide +kernel) (pa_cons (pe_dget (hu_of hr) (pe_ix ix_list (pv 1) pe_int (fun _ _ => rfl)) pe_str (fun _ _ => rfl)) pa_nil)) pa_nil)) rfl)
    (pss_cons (ps_asg (pe_tup (pa_cons (pe_d D__law_order (hr.mono (by decide)) (by rfl) (passes_call (takes_of rfl rfl rfl rfl) fun _ _ _ _ z => z) (pa_cons (pv 0) (pa_cons (pv 3) (pa_cons pe_int pa_nil)))) (pa_cons (pe_op op_add pe_int (pe_d D__law_roll (hr.mono (by decide)) (by rfl) (passes_call (takes_of rfl rfl rfl rfl) fun _ _ _ _ z => z) (pa_cons (pv 0) (pa_cons pe_int pa_nil)))) pa_nil))) (pg_tup (n := 2) rfl (pgs_cons (pg_name (i := 4) sc__law_changed_right.nd rfl (by first | exact Or.inl rfl | exact Or.inr rfl)) (pgs_cons (pg_name (i := 5) sc__law_changed_right.nd rfl (by first | exact Or.inl rfl | exact Or.inr rfl)) pgs_nil))))
    (pss_cons (ps_if (pt_cmpR (op_neL N (by rfl) D_Line___eq__ (hr.mono (by decide))) (pe_callTy call_list_of (by rfl) T.n_list (by decide +kernel) (pa_cons (pe_p (pe_m (pv 2) D_Style_shifted (hr.mono (by decide)) (passes_call (takes_of rfl rfl rfl rfl) fun _ _ _ _ z => z) (pa_cons (pv 4) pa_nil)) D_Style_lines (hr.mono (by decide)) px0n) pa_nil)) (pe_lc (own := [("line", 6)]) (g := gName 6) rfl sc__law_changed_right.nd (pi_tup (pe_p (pv 2) D_Style_lines (hr.mono (by decide)) px0n)) (blkOk_by (own := [("line", 6)]) (N := N__law_changed_right) (sc := defScope zs__law_changed_right) (by decide +kernel)) (fun _ _ _ _ _ => (pg_name (i := 6) sc__law_changed_right.nd rfl (by first | exact Or.inl rfl | exact Or.inr rfl))) (fun _ _ _ _ _ => pts_nil) (fun _ _ _ _ _ => (pe_mK N.K (by rfl) (pv 6) D_Line_shifted (hr.mono (by decide)) px0 (pa_cons (pv 4) pa_nil)))) (nomark _))
      (pss_one (ps_ret pe_bl)) pss_nil)
    (pss_cons (ps_if (pt_cmpR (op_neL N (by rfl) D_Line___eq__ (hr.mono (by decide))) (pe_callTy call_list_of (by rfl) T.n_list (by decide +kernel) (pa_cons (pe_p (pe_m (pv 2) D_Style_scaled (hr.mono (by decide)) (passes_call (takes_of rfl rfl rfl rfl) fun _ _ _ _ z => z) (pa_cons (pv 5) pa_nil)) D_Style_lines (hr.mono (by decide)) px0n) pa_nil)) (pe_lc (own := [("line", 6)]) (g := gName 6) rfl sc__law_changed_right.nd (pi_tup (pe_p (pv 2) D_Style_lines (hr.mono (by decide)) px0n)) (blkOk_by (own := [("line", 6)]) (N := N__law_changed_right) (sc := defScope zs__law_changed_right) (by decide +kernel)) (fun _ _ _ _ _ => (pg_name (i := 6) sc__law_changed_right.nd rfl (by first | exact Or.inl rfl | exact Or.inr rfl))) (fun _ _ _ _ _ => pts_nil) (fun _ _ _ _ _ => (pe_mK N.K (by rfl) (pv 6) D_Line_scaled (hr.mono (by decide)) px0 (pa_cons (pv 5) pa_nil)))) (nomark _))
      (pss_one (ps_ret pe_bl)) pss_nil)
    (pss_cons (ps_if (pt_cmpR (op_neL N (by rfl) D_Line___eq__ (hr.mono (by decide))) (pe_callTy call_list_of (by rfl) T.n_list (by decide +kernel) (pa_cons (pe_p (pe_m0 (pv 2) D_Style_lean (hr.mono (by decide)) (passes_call (takes_of rfl rfl rfl rfl) fun _ _ _ _ z => z)) D_Style_lines (hr.mono (by decide)) px0n) pa_nil)) (pe_lc (own := [("line", 6)]) (g := gName 6) rfl sc__law_changed_right.nd (pi_tup (pe_p (pv 2) D_Style_lines (hr.mono (by decide)) px0n)) (blkOk_by (own := [("line", 6)]) (N := N__law_changed_right) (sc := defScope zs__law_changed_right) (by decide +kernel)) (fun _ _ _ _ _ => (pg_name (i := 6) sc__law_changed_right.nd rfl (by first | exact Or.inl rfl | exact Or.inr rfl))) (fun _ _ _ _ _ => pts_nil) (fun _ _ _ _ _ => (pe_m0K N.K (by rfl) (pv 6) D_Line_lean (hr.mono (by decide)) px0))) (nomark _))
      (pss_one (ps_ret pe_bl)) pss_nil)
    (pss_cons (ps_set (i := 7) sc__law_changed_right.nd rfl (by first | exact Or.inl rfl | exact Or.inr rfl) (pe_d D__law_roll (hr.mono (by decide)) (by rfl) (passes_call (takes_of rfl rfl rfl rfl) fun _ _ _ _ z => z) (pa_cons (pv 0) (pa_cons (pv 3) pa_nil))))
    (pss_cons (ps_if (pt_cmpR op_gt (pv 3) pe_int (nomark _))
      (pss_one (ps_if (pt_cmpR (op_neL N (by rfl) D_Line___eq__ (hr.mono (by decide))) (pe_callTy call_list_of (by rfl) T.n_list (by decide +kernel) (pa_cons (pe_p (pe_m (pv 2) D_Style_forgetting (hr.mono (by decide)) (passes_call (takes_of rfl rfl rfl rfl) fun _ _ _ _ z => z) (pa_cons (pv 7) pa_nil)) D_Style_lines (hr.mono (by decide)) px0n) pa_nil)) (pe_lc (own := [("line", 6)]) (g := gName 6) rfl sc__law_changed_right.nd (pi_tup (pe_p (pv 2) D_Style_lines (hr.mono (by decide)) px0n)) (blkOk_by (own := [("line", 6)]) (N := N__law_changed_right) (sc := defScope zs__law_changed_right) (by decide +kernel)) (fun _ _ _ _ _ => (pg_name (i := 6) sc__law_changed_right.nd rfl (by first | exact Or.inl rfl | exact Or.inr rfl))) (fun _ _ _ _ _ => pts_nil) (fun _ _ _ _ _ => (pe_mK N.K (by rfl) (pv 6) D_Line_forgetting (hr.mono (by decide)) px0 (pa_cons (pv 7) pa_nil)))) (nomark _))
      (pss_one (ps_ret pe_bl)) pss_nil)) pss_nil)
    (pss_cons (ps_set (i := 8) sc__law_changed_right.nd rfl (by first | exact Or.inl rfl | exact Or.inr rfl) (pe_ix ix_list (pe_lst (pa_cons pe_int (pa_cons pe_int (pa_cons pe_int pa_nil)))) (pe_op op_sub (pv 3) pe_int) (fun _ _ => rfl)))
    (pss_one (ps_ret (pe_cmpR (op_eqD hr.units) (pe_d D__law_orders (hr.mono (by decide)) (by rfl) (passes_call (takes_of rfl rfl rfl rfl) fun _ _ _ _ z => z) (pa_cons (pe_d D__law_plain_style (hr.mono (by decide)) (by rfl) (passes_call (takes_of rfl rfl rfl rfl) fun _ _ _ _ z => z) (pa_cons (pe_m0 (pv 2) D_Style_lean (hr.mono (by decide)) (passes_call (takes_of rfl rfl rfl rfl) fun _ _ _ _ z => z)) pa_nil)) (pa_cons (pv 8) pa_nil))) (pe_d D__law_orders (hr.mono (by decide)) (by rfl) (passes_call (takes_of rfl rfl rfl rfl) fun _ _ _ _ z => z) (pa_cons (pv 1) (pa_cons (pv 8) pa_nil))) (nomark _)))))))))))), ?_⟩
  refine q_par d (go0.at b0 l0) (ea_cons (ev_d hca (ea_one (ev_var rfl r_plain))) (ea_one (ev_cb c_lenT (ea_one (ev_rec kat_here (ev_op o_ixL (ev_var rfl r_plain) ev_int)))))) hm fun v_made v_sorts xx H1 e r_made r_sorts hm => ?_
  obtain ⟨x_made, x_sorts⟩ := xx; dsimp only at r_made r_sorts hm
  have d := e.dice; have b0 := b0.t l0 e; replace r_dice := up r_dice e; replace r_plain := up r_plain e
  refine q_asg (T := T2 4 5 (RT (All RI)) RI _) d (go0.at b0 l0) (ev_tup (ea_cons (ev_d hca (ea_cons (ev_var rfl r_dice) (ea_cons (ev_var rfl r_sorts) (ea_one ev_int)))) (ea_one (ev_op o_add ev_int (ev_d hca (ea_cons (ev_var rfl r_dice) (ea_one ev_int)))))) (lnle (by decide))) (fun _ _ _ _ r q => tg2 r q) hm fun xx σ2 H2 e hT hm => ?_
  obtain ⟨x_row, x_number⟩ := xx; obtain ⟨v_row, v_number, rfl, r_row, r_number⟩ := hT; dsimp only at r_row r_number hm
  have d := e.dice; have b0 := b0.t l0 e; replace r_dice := up r_dice e; replace r_plain := up r_plain e; replace r_made := up r_made e; replace r_sorts := up r_sorts e
  refine q_if0 d (go0.at b0 l0) (et_test (ev_neL hca (ev_cb c_lstT (ea_one (ev_prN hca (by exact fun _ _ _ h => h) (ev_me hca no_Style_shifted (ev_var rfl r_made) (ea_one (ev_var rfl r_row)))))) (ev_lc1 (R' := R_Line) (EvI.x (ei_tup (ev_prN hca (by exact fun _ _ _ h => h) (ev_var rfl r_made)))) (fun M1 H1' q1 σ1 L1 D1 hT => by obtain ⟨v1_0, rfl, s1_0⟩ := hT; exact et_yes) (fun M1 H1' q1 σ1 L1 D1 hT => by obtain ⟨v1_0, rfl, s1_0⟩ := hT; exact (ev_me (L1.ca.trans hca) no_Line_shifted (ev_var rfl s1_0) (ea_one (ev_var rfl (lf r_row L1)))))))) hm (fun H3 e hm => ?_) (fun H3 e hm => ?_)
  · skip
    have d := e.dice; have b0 := b0.t l0 e; replace r_dice := up r_dice e; replace r_plain := up r_plain e; replace r_made := up r_made e; replace r_sorts := up r_sorts e; replace r_row := up r_row e; replace r_number := up r_number e
    exact q_ret d (go0.at b0 l0) ev_bl hm fun v z H4 e p r => kr v z H4 (b0.t l0 e) p (wk r l0)
  · skip
    have d := e.dice; have b0 := b0.t l0 e; replace r_dice := up r_dice e; replace r_plain := up r_plain e; replace r_made := up r_made e; replace r_sorts := up r_sorts e; replace r_row := up r_row e; replace r_number := up r_number e
    refine q_if0 d (go0.at b0 l0) (et_test (ev_neL hca (ev_cb c_lstT (ea_one (ev_prN hca (by exact fun _ _ _ h => h) (ev_me hca no_Style_scaled (ev_var rfl r_made) (ea_one (ev_var rfl r_number)))))) (ev_lc1 (R' := R_Line) (EvI.x (ei_tup (ev_prN hca (by exact fun _ _ _ h => h) (ev_var rfl r_made)))) (fun M1 H1' q1 σ1 L1 D1 hT => by obtain ⟨v1_0, rfl, s1_0⟩ := hT; exact et_yes) (fun M1 H1' q1 σ1 L1 D1 hT => by obtain ⟨v1_0, rfl, s1_0⟩ := hT; exact (ev_me (L1.ca.trans hca) no_Line_scaled (ev_var rfl s1_0) (ea_one (ev_var rfl (lf r_number L1)))))))) hm (fun H4 e hm => ?_) (fun H4 e hm => ?_)
    · skip
      have d := e.dice; have b0 := b0.t l0 e; replace r_dice := up r_dice e; replace r_plain := up r_plain e; replace r_made := up r_made e; replace r_sorts := up r_sorts e; replace r_row := up r_row e; replace r_number := up r_number e
      exact q_ret d (go0.at b0 l0) ev_bl hm fun v z H5 e p r => kr v z H5 (b0.t l0 e) p (wk r l0)
    · skip
      have d := e.dice; have b0 := b0.t l0 e; replace r_dice := up r_dice e; replace r_plain := up r_plain e; replace r_made := up r_made e; replace r_sorts := up r_sorts e; replace r_row := up r_row e; replace r_number := up r_number e
      refine q_if0 d (go0.at b0 l0) (et_test (ev_neL hca (ev_cb c_lstT (ea_one (ev_prN hca (by exact fun _ _ _ h => h) (ev_me0 hca no_Style_lean (ev_var rfl r_made))))) (ev_lc1 (R' := R_Line) (EvI.x (ei_tup (ev_prN hca (by exact fun _ _ _ h => h) (ev_var rfl r_made)))) (fun M1 H1' q1 σ1 L1 D1 hT => by obtain ⟨v1_0, rfl, s1_0⟩ := hT; exact et_yes) (fun M1 H1' q1 σ1 L1 D1 hT => by obtain ⟨v1_0, rfl, s1_0⟩ := hT; exact (ev_me0 (L1.ca.trans hca) no_Line_lean (ev_var rfl s1_0)))))) hm (fun H5 e hm => ?_) (fun H5 e hm => ?_)
      · skip
        have d := e.dice; have b0 := b0.t l0 e; replace r_dice := up r_dice e; replace r_plain := up r_plain e; replace r_made := up r_made e; replace r_sorts := up r_sorts e; replace r_row := up r_row e; replace r_number := up r_number e
        exact q_ret d (go0.at b0 l0) ev_bl hm fun v z H6 e p r => kr v z H6 (b0.t l0 e) p (wk r l0)
      · skip
        have d := e.dice; have b0 := b0.t l0 e; replace r_dice := up r_dice e; replace r_plain := up r_plain e; replace r_made := up r_made e; replace r_sorts := up r_sorts e; replace r_row := up r_row e; replace r_number := up r_number e
        refine q_set d (go0.at b0 l0) (ev_d hca (ea_cons (ev_var rfl r_dice) (ea_one (ev_var rfl r_sorts)))) hm fun v_sort x_sort H6 e hm r_sort => ?_
        have d := e.dice; have b0 := b0.t l0 e; replace r_dice := up r_dice e; replace r_plain := up r_plain e; replace r_made := up r_made e; replace r_sorts := up r_sorts e; replace r_row := up r_row e; replace r_number := up r_number e
        refine q_if0 d (go0.at b0 l0) (et_test (ev_op o_gt (ev_var rfl r_sorts) ev_int)) hm (fun H7 e hm => ?_) (fun H7 e hm => ?_)
        · skip
          have d := e.dice; have b0 := b0.t l0 e; replace r_dice := up r_dice e; replace r_plain := up r_plain e; replace r_made := up r_made e; replace r_sorts := up r_sorts e; replace r_row := up r_row e; replace r_number := up r_number e; replace r_sort := up r_sort e
          refine l_if0 d (go0.at b0 l0) (et_test (ev_neL hca (ev_cb c_lstT (ea_one (ev_prN hca (by exact fun _ _ _ h => h) (ev_me hca no_Style_forgetting (ev_var rfl r_made) (ea_one (ev_var rfl r_sort)))))) (ev_lc1 (R' := R_Line) (EvI.x (ei_tup (ev_prN hca (by exact fun _ _ _ h => h) (ev_var rfl r_made)))) (fun M1 H1' q1 σ1 L1 D1 hT => by obtain ⟨v1_0, rfl, s1_0⟩ := hT; exact et_yes) (fun M1 H1' q1 σ1 L1 D1 hT => by obtain ⟨v1_0, rfl, s1_0⟩ := hT; exact (ev_me (L1.ca.trans hca) no_Line_forgetting (ev_var rfl s1_0) (ea_one (ev_var rfl (lf r_sort L1)))))))) hm (fun H8 e hm => ?_) (fun H8 e hm => ?_)
          · skip
            have d := e.dice; have b0 := b0.t l0 e; replace r_dice := up r_dice e; replace r_plain := up r_plain e; replace r_made := up r_made e; replace r_sorts := up r_sorts e; replace r_row := up r_row e; replace r_number := up r_number e; replace r_sort := up r_sort e
            exact q_ret d (go0.at b0 l0) ev_bl hm fun v z H9 e p r => kr v z H9 (b0.t l0 e) p (wk r l0)
          · skip
            have d := e.dice; have b0 := b0.t l0 e; replace r_dice := up r_dice e; replace r_plain := up r_plain e; replace r_made := up r_made e; replace r_sorts := up r_sorts e; replace r_row := up r_row e; replace r_number := up r_number e; replace r_sort := up r_sort e
            refine q_set d (go0.at b0 l0) (ev_op o_ixL (ev_lstN (el_cons ev_int (el_cons ev_int (el_cons ev_int el_nil))) (by decide)) (ev_op o_sub (ev_var rfl r_sorts) ev_int)) hm fun v_most x_most H9 e hm r_most => ?_
            have d := e.dice; have b0 := b0.t l0 e; replace r_dice := up r_dice e; replace r_plain := up r_plain e; replace r_made := up r_made e; replace r_sorts := up r_sorts e; replace r_row := up r_row e; replace r_number := up r_number e; replace r_sort := up r_sort e
            exact q_ret d (go0.at b0 l0) (ev_op (o_eqD (R := (RL (All (RT (All RI)))))) (ev_d hca (ea_cons (ev_d hca (ea_one (ev_me0 hca no_Style_lean (ev_var rfl r_made)))) (ea_one (ev_var rfl r_most)))) (ev_d hca (ea_cons (ev_var rfl r_plain) (ea_one (ev_var rfl r_most))))) hm fun v z H10 e p r => kr v z H10 (b0.t l0 e) p (wk r l0)
        · skip
          have d := e.dice; have b0 := b0.t l0 e; replace r_dice := up r_dice e; replace r_plain := up r_plain e; replace r_made := up r_made e; replace r_sorts := up r_sorts e; replace r_row := up r_row e; replace r_number := up r_number e; replace r_sort := up r_sort e
          refine q_set d (go0.at b0 l0) (ev_op o_ixL (ev_lstN (el_cons ev_int (el_cons ev_int (el_cons ev_int el_nil))) (by decide)) (ev_op o_sub (ev_var rfl r_sorts) ev_int)) hm fun v_most x_most H8 e hm r_most => ?_
          have d := e.dice; have b0 := b0.t l0 e; replace r_dice := up r_dice e; replace r_plain := up r_plain e; replace r_made := up r_made e; replace r_sorts := up r_sorts e; replace r_row := up r_row e; replace r_number := up r_number e; replace r_sort := up r_sort e
          exact q_ret d (go0.at b0 l0) (ev_op (o_eqD (R := (RL (All (RT (All RI)))))) (ev_d hca (ea_cons (ev_d hca (ea_one (ev_me0 hca no_Style_lean (ev_var rfl r_made)))) (ea_one (ev_var rfl r_most)))) (ev_d hca (ea_cons (ev_var rfl r_plain) (ea_one (ev_var rfl r_most))))) hm fun v z H9 e p r => kr v z H9 (b0.t l0 e) p (wk r l0)
def N__law_right : List Str := ["dice", "sorts", "rows", "turn", "most", "one", "two", "three", "row", "left"]
theorem sc__law_right : FnScope N__law_right ["dice"] (defScope zs__law_right) := ⟨rfl, rfl, rfl, by decide +kernel, rfl, by decide +kernel, by decide +kernel⟩
abbrev sp__law_right (N : En) : Sp := FnW N (One RD) RB (fun p => m__law_right p)
theorem ok__law_right {N : En} (T : Txt N) (F : FunP N "_law_right" zs__law_right) (D__law_roll : Dn N 1 "_law_roll" (sp__law_roll N)) (D__law_style : Dn N 4 "_law_style" (sp__law_style N)) (D__law_both_right : Dn N 11 "_law_both_right" (sp__law_both_right N)) (D__law_changed_right : Dn N 10 "_law_changed_right" (sp__law_changed_right N)) (D__law_made_style : Dn N 7 "_law_made_style" (sp__law_made_style N)) (D_Style___or__ : Dm N 7 "Style" "__or__" (sp_Style___or__ N)) (D_Style___add__ : Dm N 9 "Style" "__add__" (sp_Style___add__ N)) (D__law_plain_style : Dn N 3 "_law_plain_style" (sp__law_plain_style N)) (D__law_orders : Dn N 3 "_law_orders" (sp__law_orders N)) : Dn N 12 "_law_right" (sp__law_right N) := by
  refine dn_mk F sc__law_right (fun _ _ _ _ _ _ us hl => match us, hl with | [_], _ => rfl) (fun vs H Q E h => by obtain ⟨_, _, _, _, _, _, hS, _⟩ := h; exact Ln.len hS) ?_
  rintro cdv A outer s H0 vs Q E hr ⟨M0, x_dice, P, PE, hca, d, hS, hm, kr, go0⟩
  obtain ⟨v_dice, rfl, r_dice⟩ := hS
  replace r_dice : RD M0 x_dice v_dice H0 := r_dice
  replace hm : m__law_right x_dice P PE := hm
  unfold m__law_right at hm
  have b0 : Xt M0 H0 H0 := .refl d; have l0 : M0.le M0 := .refl; have d0 := d
  refine ⟨_, (pss_cons (ps_set (i := 1) sc__law_right.nd rfl (by first | exact Or.inl rfl | exact Or.inr rfl) (pe_op op_add pe_int (pe_d D__law_roll (hr.mono (by decide)) (by rfl) (passes_call (takes_of rfl rfl rfl rfl) fun _ _ _ _ z => z) (pa_cons (pv 0) (pa_cons pe_int pa_nil)))))
    (pss_cons (ps_setLc (i := 2) (own := [("turn", 3)]) (g := gName 3) rfl sc__law_right.nd rfl rfl (sw_true rfl rfl rfl (by decide +kernel)) (pi_range1 (by rfl) T.n_range (pa_cons pe_int pa_nil)) (blkOk_by (own := [("turn", 3)]) (N := N__law_right) (sc := defScope zs__law_right) (by decide +kernel)) (fun _ _ _ _ _ => (pg_name (i := 3) sc__law_right.nd rfl (by first | exact Or.inl rfl | exact Or.inr rfl))) (fun _ _ _ _ _ => pts_nil) (fun _ _ _ _ _ => (pe_d D__law_style (hr.mono (by decide)) (by rfl) px0 (pa_cons (pv 0) (pa_cons (pv 1) (pa_cons pe_int (pa_cons pe_int (pa_cons pe_int pa_nil))))))))
    (pss_cons (ps_set (i := 4) sc__law_right.nd rfl (by first | exact Or.inl rfl | exact Or.inr rfl) (pe_ix ix_list (pe_lst (pa_cons pe_int (pa_cons pe_int (pa_cons pe_int pa_nil)))) (pe_op op_sub (pv 1) pe_int) (fun _ _ => rfl)))
    (pss_cons (ps_if (PW.pt (pw_or (pt_not (pt_val (pe_d D__law_both_right (hr.mono (by decide)) (by rfl) (passes_call (takes_of rfl rfl rfl rfl) fun _ _ _ _ z => z) (pa_cons (pe_ix ix_list (pv 2) pe_int (fun _ _ => rfl)) (pa_cons (pe_ix ix_list (pv 2) pe_int (fun _ _ => rfl)) (pa_cons (pv 4) pa_nil)))))) (pw_or1 (pt_not (pt_val (pe_d D__law_changed_right (hr.mono (by decide)) (by rfl) (passes_call (takes_of rfl rfl rfl rfl) fun _ _ _ _ z => z) (pa_cons (pv 0) (pa_cons (pe_ix ix_list (pv 2) pe_int (fun _ _ => rfl)) pa_nil))))))))
      (pss_one (ps_ret pe_bl)) pss_nil)
    (pss_cons (ps_asg (pe_lc (own := [("row", 8)]) (g := gName 8) rfl sc__law_right.nd (pi_list (pv 2)) (blkOk_by (own := [("row", 8)]) (N := N__law_right) (sc := defScope zs__law_right) (by decide +kernel)) (fun _ _ _ _ _ => (pg_name (i := 8) sc__law_right.nd rfl (by first | exact Or.inl rfl | exact Or.inr rfl))) (fun _ _ _ _ _ => pts_nil) (fun _ _ _ _ _ => (pe_d D__law_made_style (hr.mono (by decide)) (by rfl) px0 (pa_cons (pv 8) pa_nil)))) (pg_lst (n := 3) rfl (pgs_cons (pg_name (i := 5) sc__law_right.nd rfl (by first | exact Or.inl rfl | exact Or.inr rfl)) (pgs_cons (pg_name (i := 6) sc__law_right.nd rfl (by first | exact Or.inl rfl | exact Or.inr rfl)) (pgs_cons (pg_name (i := 7) sc__law_right.nd rfl (by first | exact Or.inl rfl | exact Or.inr rfl)) pgs_nil)))))
    (pss_cons (ps_set (i := 9) sc__law_right.nd rfl (by first | exact Or.inl rfl | exact Or.inr rfl) (pe_d D__law_orders (hr.mono (by decide)) (by rfl) (passes_call (takes_of rfl rfl rfl rfl) fun _ _ _ _ z => z) (pa_cons (pe_d D__law_plain_style (hr.mono (by decide)) (by rfl) (passes_call (takes_of rfl rfl rfl rfl) fun _ _ _ _ z => z) (pa_cons (pe_op (op_bin D_Style___add__ T.sf_Style (hr.mono (by decide)) (passes_call (takes_of rfl rfl rfl rfl) fun _ _ _ _ z => z)) (pe_op (op_bin D_Style___or__ T.sf_Style (hr.mono (by decide)) (passes_call (takes_of rfl rfl rfl rfl) fun _ _ _ _ z => z)) (pv 5) (pv 6)) (pv 7)) pa_nil)) (pa_cons (pv 4) pa_nil))))
    (pss_one (ps_ret (pe_cmpR (op_eqD hr.units) (pv 9) (pe_d D__law_orders (hr.mono (by decide)) (by rfl) (passes_call (takes_of rfl rfl rfl rfl) fun _ _ _ _ z => z) (pa_cons (pe_d D__law_plain_style (hr.mono (by decide)) (by rfl) (passes_call (takes_of rfl rfl rfl rfl) fun _ _ _ _ z => z) (pa_cons (pe_op (op_bin D_Style___or__ T.sf_Style (hr.mono (by decide)) (passes_call (takes_of rfl rfl rfl rfl) fun _ _ _ _ z => z)) (pe_op (op_bin D_Style___add__ T.sf_Style (hr.mono (by decide)) (passes_call (takes_of rfl rfl rfl rfl) fun _ _ _ _ z => z)) (pv 5) (pv 7)) (pe_op (op_bin D_Style___add__ T.sf_Style (hr.mono (by decide)) (passes_call (takes_of rfl rfl rfl rfl) fun _ _ _ _ z => z)) (pv 6) (pv 7))) pa_nil)) (pa_cons (pv 4) pa_nil))) (nomark _)))))))))), ?_⟩
  refine q_set d (go0.at b0 l0) (ev_op o_add ev_int (ev_d hca (ea_cons (ev_var rfl r_dice) (ea_one ev_int)))) hm fun v_sorts x_sorts H1 e hm r_sorts => ?_
  have d := e.dice; have b0 := b0.t l0 e; replace r_dice := up r_dice e
  refine q_set d (go0.at b0 l0) (ev_lc1 (R' := (RL (All (RRec (KCons "base" (RT (All RI)) (KOne "packs" (RL (All (RT (All RI)))))))))) (EvI.x (ei_rng1 (ea_one ev_int))) (fun M1 H1' q1 σ1 L1 D1 hT => by obtain ⟨v1_0, rfl, s1_0⟩ := hT; exact et_yes) (fun M1 H1' q1 σ1 L1 D1 hT => by obtain ⟨v1_0, rfl, s1_0⟩ := hT; exact (ev_d (L1.ca.trans hca) (ea_cons (ev_var rfl (lf r_dice L1)) (ea_cons (ev_var rfl (lf r_sorts L1)) (ea_cons ev_int (ea_cons ev_int (ea_one ev_int)))))))) hm fun v_rows x_rows H2 e hm r_rows => ?_
  have d := e.dice; have b0 := b0.t l0 e; replace r_dice := up r_dice e; replace r_sorts := up r_sorts e
  refine q_set d (go0.at b0 l0) (ev_op o_ixL (ev_lstN (el_cons ev_int (el_cons ev_int (el_cons ev_int el_nil))) (by decide)) (ev_op o_sub (ev_var rfl r_sorts) ev_int)) hm fun v_most x_most H3 e hm r_most => ?_
  have d := e.dice; have b0 := b0.t l0 e; replace r_dice := up r_dice e; replace r_sorts := up r_sorts e; replace r_rows := up r_rows e
  refine q_if0 d (go0.at b0 l0) (et_or (et_not (et_val (ev_d hca (ea_cons (ev_op o_ixL (ev_var rfl r_rows) ev_int) (ea_cons (ev_op o_ixL (ev_var rfl r_rows) ev_int) (ea_one (ev_var rfl r_most))))))) (et_not (et_val (ev_d hca (ea_cons (ev_var rfl r_dice) (ea_one (ev_op o_ixL (ev_var rfl r_rows) ev_int))))))) hm (fun H4 e hm => ?_) (fun H4 e hm => ?_)
  · skip
    have d := e.dice; have b0 := b0.t l0 e; replace r_dice := up r_dice e; replace r_sorts := up r_sorts e; replace r_rows := up r_rows e; replace r_most := up r_most e
    exact q_ret d (go0.at b0 l0) ev_bl hm fun v z H5 e p r => kr v z H5 (b0.t l0 e) p (wk r l0)
  · skip
    have d := e.dice; have b0 := b0.t l0 e; replace r_dice := up r_dice e; replace r_sorts := up r_sorts e; replace r_rows := up r_rows e; replace r_most := up r_most e
    refine q_asg (T := T3 5 6 7 R_Style R_Style R_Style _) d (go0.at b0 l0) (ev_un3 (ev_lc1 (R' := R_Style) (EvI.x (ei_list (ev_var rfl r_rows))) (fun M1 H1' q1 σ1 L1 D1 hT => by obtain ⟨v1_0, rfl, s1_0⟩ := hT; exact et_yes) (fun M1 H1' q1 σ1 L1 D1 hT => by obtain ⟨v1_0, rfl, s1_0⟩ := hT; exact (ev_d (L1.ca.trans hca) (ea_one (ev_var rfl s1_0)))))) (fun _ _ _ _ r q => tgL3 r q) hm fun xx σ2 H5 e hT hm => ?_
    obtain ⟨x_one, x_two, x_three⟩ := xx; obtain ⟨v_one, v_two, v_three, rfl, r_one, r_two, r_three⟩ := hT; dsimp only at r_one r_two r_three hm
    have d := e.dice; have b0 := b0.t l0 e; replace r_dice := up r_dice e; replace r_sorts := up r_sorts e; replace r_rows := up r_rows e; replace r_most := up r_most e
    refine q_set d (go0.at b0 l0) (ev_d hca (ea_cons (ev_d hca (ea_one (ev_own hca (ev_own hca (ev_var rfl r_one) (ev_var rfl r_two)) (ev_var rfl r_three)))) (ea_one (ev_var rfl r_most)))) hm fun v_left x_left H6 e hm r_left => ?_
    have d := e.dice; have b0 := b0.t l0 e; replace r_dice := up r_dice e; replace r_sorts := up r_sorts e; replace r_rows := up r_rows e; replace r_most := up r_most e; replace r_one := up r_one e; replace r_two := up r_two e; replace r_three := up r_three e
    exact q_ret d (go0.at b0 l0) (ev_op (o_eqD (R := (RL (All (RT (All RI)))))) (ev_var rfl r_left) (ev_d hca (ea_cons (ev_d hca (ea_one (ev_own hca (ev_own hca (ev_var rfl r_one) (ev_var rfl r_three)) (ev_own hca (ev_var rfl r_two) (ev_var rfl r_three))))) (ea_one (ev_var rfl r_most))))) hm fun v z H7 e p r => kr v z H7 (b0.t l0 e) p (wk r l0)
def N_law : List Str := ["script", "at", "dice", "even", "odd", "told"]
theorem sc_law : FnScope N_law ["script"] (defScope zs_law) := ⟨rfl, rfl, rfl, by decide +kernel, rfl, by decide +kernel, by decide +kernel⟩
abbrev sp_law (N : En) : Sp := LawW N m_law
theorem ok_law {N : En} {fd : FuncData} (T : Txt N) (F : FunD N.K "law" "law" (defArgs zs_law) (defBody zs_law) (defScope zs_law) [] [] (N.ga "law") fd) (D__law_dice : Dn N 1 "_law_dice" (sp__law_dice N)) (D__law_right : Dn N 12 "_law_right" (sp__law_right N)) (D_Line : Dc N 5 "Line" (sp_Line N)) (D_Style : Dc N 4 "Style" (sp_Style N)) (D_Style___add__ : Dm N 9 "Style" "__add__" (sp_Style___add__ N)) (D_Style_orders : GX.DgM N 4 "Style" "orders" (sp_Style_orders N)) (D_Style___or__ : Dm N 7 "Style" "__or__" (sp_Style___or__ N)) (D_Style_lines : Dp N 1 "Style" "lines" (sp_Style_lines N)) (D_Line___eq__ : Dm N 1 "Line" "__eq__" (sp_Line___eq__ N)) : FnOk N.P N.w N.K N.mg N.base (L2.CX N.P N.w) 13 (N.ga "law") fd ["script"] (sp_law N) := by
  refine law_mk F sc_law (fun vs H Q E h => by obtain ⟨_, _, _, rfl, _⟩ := h; rfl) ?_
  rintro cdv A outer s H0 vs Q E hr ⟨v_script, x_script, P, rfl, r_script, hm, kr⟩
  unfold m_law at hm
  replace kr : ∀ w z H2, Xt (Mm.nil N.ga) H0 H2 → P z → RB (Mm.nil N.ga) z w H2 → Q w H2 := fun w z H2 _ p r => kr w z H2 p r
  have d : DiceM (Mm.nil N.ga) H0 := dice_nil; have d0 := d; have b0 : Xt (Mm.nil N.ga) H0 H0 := .refl d; have l0 : Mm.le (Mm.nil N.ga) (Mm.nil N.ga) := .refl; have go0 : GoE (Mm.nil N.ga) E H0 (fun _ => False) := GoE.none; have hca : Mm.ca (Mm.nil N.ga) = N.ga := rfl
  refine ⟨_, (pss_cons (ps_for (passes_of rfl) rfl (pi_range1 (by rfl) T.n_range (pa_cons (pe_callB (call_max2 rfl) (by rfl) T.n_max (by decide +kernel) (pa_cons pe_int (pa_cons (pe_callB (call_min2 rfl) (by rfl) T.n_min (by decide +kernel) (pa_cons pe_int (pa_cons (pe_callB call_len_seq (by rfl) T.n_len (by decide +kernel) (pa_cons (pv 0) pa_nil)) pa_nil))) pa_nil))) pa_nil)) (pg_name (i := 1) sc_law.nd rfl (by first | exact Or.inl rfl | exact Or.inr rfl))
      (pss_cons (ps_set (i := 2) sc_law.nd rfl (by first | exact Or.inl rfl | exact Or.inr rfl) (pe_d D__law_dice (hr.mono (by decide)) (by rfl) (passes_call (takes_of rfl rfl rfl rfl) fun _ _ _ _ z => z) (pa_cons (pv 0) (pa_cons (pv 1) pa_nil))))
    (pss_one (ps_if (PW.pt (pw_or (pt_not (pt_val (pe_d D__law_right (hr.mono (by decide)) (by rfl) (passes_call (takes_of rfl rfl rfl rfl) fun _ _ _ _ z => z) (pa_cons (pv 2) pa_nil)))) (pw_or1 (pt_not (pt_val (pe_d D__law_right (hr.mono (by decide)) (by rfl) (passes_call (takes_of rfl rfl rfl rfl) fun _ _ _ _ z => z) (pa_cons (pv 2) pa_nil)))))))
      (pss_one (ps_ret pe_bl)) pss_nil))))
    (pss_cons (ps_par rfl sc_law.nd (i := 3) (j := 4) rfl rfl (by decide) rfl rfl (pa_cons (pe_c D_Style (hr.mono (by decide)) (by rfl) (passes_call (takes_of rfl rfl rfl rfl) fun _ _ _ _ z => z) (pa_cons (pe_tup (pa_cons (pe_c D_Line (hr.mono (by decide)) (by rfl) (passes_call (takes_of rfl rfl rfl rfl) fun _ _ _ _ z => z) (pa_cons (pe_tup (pa_cons pe_int pa_nil)) (pa_cons (pe_tup (pa_cons (pe_tup (pa_cons pe_int pa_nil)) pa_nil)) pa_nil))) pa_nil)) pa_nil)) (pa_cons (pe_c D_Style (hr.mono (by decide)) (by rfl) (passes_call (takes_of rfl rfl rfl rfl) fun _ _ _ _ z => z) (pa_cons (pe_tup (pa_cons (pe_c D_Line (hr.mono (by decide)) (by rfl) (passes_call (takes_of rfl rfl rfl rfl) fun _ _ _ _ z => z) (pa_cons (pe_tup (pa_cons pe_int pa_nil)) (pa_cons (pe_tup (pa_cons (pe_tup (pa_cons pe_int pa_nil)) pa_nil)) pa_nil))) pa_nil)) pa_nil)) pa_nil)) rfl)
    (pss_cons (ps_set (i := 5) sc_law.nd rfl (by first | exact Or.inl rfl | exact Or.inr rfl) (pe_lst (pa_cons (GX.pe_dgm (pe_op (op_bin D_Style___add__ T.sf_Style (hr.mono (by decide)) (passes_call (takes_of rfl rfl rfl rfl) fun _ _ _ _ z => z)) (pv 3) (pv 4)) D_Style_orders (hr.mono (by decide)) GX.px00 (by rfl) T.n_list (by decide +kernel) (pa_cons pe_int pa_nil)) (pa_cons (GX.pe_dgm (pe_op (op_bin D_Style___or__ T.sf_Style (hr.mono (by decide)) (passes_call (takes_of rfl rfl rfl rfl) fun _ _ _ _ z => z)) (pv 3) (pv 4)) D_Style_orders (hr.mono (by decide)) GX.px00 (by rfl) T.n_list (by decide +kernel) (pa_cons pe_int pa_nil)) (pa_cons (pe_cmpR (op_eqTO N (by rfl) D_Line___eq__ (hr.mono (by decide))) (pe_p (pe_op (op_bin D_Style___add__ T.sf_Style (hr.mono (by decide)) (passes_call (takes_of rfl rfl rfl rfl) fun _ _ _ _ z => z)) (pv 4) (pv 4)) D_Style_lines (hr.mono (by decide)) px0n) (pe_tup (pa_cons (pe_c D_Line (hr.mono (by decide)) (by rfl) (passes_call (takes_of rfl rfl rfl rfl) fun _ _ _ _ z => z) (pa_cons (pe_tup (pa_cons pe_int pa_nil)) (pa_cons (pe_tup (pa_cons (pe_tup (pa_cons pe_int pa_nil)) pa_nil)) pa_nil))) pa_nil)) (nomark _)) pa_nil)))))
    (pss_one (ps_ret (pe_cmpR (op_eqD hr.units) (pv 5) (pe_lst (pa_cons (pe_lst (pa_cons (pe_tup (pa_cons pe_int pa_nil)) (pa_cons (pe_tup (pa_cons pe_int pa_nil)) (pa_cons (pe_tup (pa_cons pe_int pa_nil)) pa_nil)))) (pa_cons (pe_lst (pa_cons (pe_tup (pa_cons pe_int pa_nil)) (pa_cons (pe_tup (pa_cons pe_int pa_nil)) (pa_cons (pe_tup (pa_cons pe_int pa_nil)) (pa_cons (pe_tup (pa_cons pe_int pa_nil)) pa_nil))))) (pa_cons pe_bl pa_nil)))) (nomark _))))))), ?_⟩
  refine q_forF (S := Nil) (Sl := (fun us σ' => ∃ (o_at : Option V) (o_dice : Option V) (o_even : Option V) (o_odd : Option V) (o_told : Option V), us = [] ∧ σ' = [some v_script, o_at, o_dice, o_even, o_odd, o_told])) (Bp := (fun H' => Xt (Mm.nil N.ga) H0 H')) (fun σ' => (T1 1 RI σ')) d (go0.at b0 l0) (ei_rng1 (ea_one (ev_cb c_max (ea_cons ev_int (ea_one (ev_cb c_min (ea_cons ev_int (ea_one (ev_cb c_lenQ (ea_one (ev_var rfl r_script))))))))))) hm (fun _ _ h e => h.t l0 e) (fun _ _ _ _ _ r q => tg1 r q) (fun H1 e => ⟨b0.t l0 e, [], rfl, ⟨_, _, _, _, _, rfl, rfl⟩⟩) (fun H1 e _ x_at vs σ' σ2 H1' P' hB ex hS hSl hT hm hret1 hbrk1 => ?_) (fun H1 e _ vs σ' H1' hB ex hS hSl hm => ?_)
  · skip
    have dl1 := e.dice
    unfold T1 at hT
    obtain ⟨o_at, o_dice, o_even, o_odd, o_told, rfl, rfl⟩ := hSl
    replace r_script := upm (up r_script e) ex
    have d := ex.dice
    have b0 := hB
    obtain ⟨v_at, rfl, r_at⟩ := hT
    have c1 := ex; have l1 : Mm.le (Mm.nil N.ga) (Mm.nil N.ga) := Mm.le.refl
    refine q_dice d (go0.at b0 l0) (ef_dn hca (ea_cons (ev_var rfl r_script) (ea_one (ev_var rfl r_at)))) hm fun D_dice v_dice H2 e nD dI r_dice hm => ?_
    have bO := b0; have eO := e; have nO := nD; have krO := kr
    have cO1 := c1; have lO1 := l1
    have b0 : Xt (Mm.one D_dice N.ga) H2 H2 := .refl dI; have l0 : Mm.le (Mm.one D_dice N.ga) (Mm.one D_dice N.ga) := .refl; have d0 := dI; have d := dI; have go0 : GoE (Mm.one D_dice N.ga) E H2 (fun _ => False) := GoE.none; have hca : Mm.ca (Mm.one D_dice N.ga) = N.ga := rfl
    have kr : ∀ w z HX, Xt (Mm.one D_dice N.ga) H2 HX → P z → RB (Mm.one D_dice N.ga) z w HX → Q w HX := fun w z HX e2 p r => krO w z HX (bO.trans (xt_mix eO nO e2)) p r
    have r_script : RV (Mm.one D_dice N.ga) v_script v_script H2 := rfl
    have r_at : RI (Mm.one D_dice N.ga) x_at v_at H2 := r_at
    refine l_if0 d (go0.at b0 l0) (et_or (et_not (et_val (ev_d hca (ea_one (ev_var rfl r_dice))))) (et_not (et_val (ev_d hca (ea_one (ev_var rfl r_dice)))))) hm (fun H3 e hm => ?_) (fun H3 e hm => ?_)
    · skip
      have d := e.dice; have b0 := b0.t l0 e; replace r_script := up r_script e; replace r_at := up r_at e; replace r_dice := up r_dice e
      exact q_ret d (go0.at b0 l0) ev_bl hm fun v z H4 e p r => kr v z H4 (b0.t l0 e) (hret1 z p) (wk r l0)
    · skip
      have d := e.dice; have b0 := b0.t l0 e; replace r_script := up r_script e; replace r_at := up r_at e; replace r_dice := up r_dice e
      have eI := xt_mix eO nO b0; have b0 := bO.trans eI
      have c1 := cO1.trans eI.m; have l1 := lO1
      exact ⟨b0, c1, (), [], rfl, ⟨_, _, _, _, _, rfl, rfl⟩, hm⟩
  · skip
    obtain ⟨o_at, o_dice, o_even, o_odd, o_told, rfl, rfl⟩ := hSl
    replace r_script := upm (up r_script e) ex
    have d := ex.dice
    have b0 := hB
    refine q_par d (go0.at b0 l0) (ea_cons (ev_d hca (ea_one (ev_tupN (el_cons (ev_d hca (ea_cons (ev_tupN (el_cons ev_int el_nil) (by decide)) (ea_one (ev_tupN (el_cons (ev_tupN (el_cons ev_int el_nil) (by decide)) el_nil) (by decide))))) el_nil) (by decide)))) (ea_one (ev_d hca (ea_one (ev_tupN (el_cons (ev_d hca (ea_cons (ev_tupN (el_cons ev_int el_nil) (by decide)) (ea_one (ev_tupN (el_cons (ev_tupN (el_cons ev_int el_nil) (by decide)) el_nil) (by decide))))) el_nil) (by decide)))))) hm fun v_even v_odd xx H2 e r_even r_odd hm => ?_
    obtain ⟨x_even, x_odd⟩ := xx; dsimp only at r_even r_odd hm
    have d := e.dice; have b0 := b0.t l0 e; replace r_script := up r_script e
    refine q_set d (go0.at b0 l0) (ev_lst (ea_cons (ev_dgm hca no_Style_orders (ev_own hca (ev_var rfl r_even) (ev_var rfl r_odd)) (ea_one ev_int)) (ea_cons (ev_dgm hca no_Style_orders (ev_own hca (ev_var rfl r_even) (ev_var rfl r_odd)) (ea_one ev_int)) (ea_one (ev_eqTO hca (ev_prN hca (by exact fun _ _ _ h => h) (ev_own hca (ev_var rfl r_odd) (ev_var rfl r_odd))) (ev_tupN (el_cons (ev_d hca (ea_cons (ev_tupN (el_cons ev_int el_nil) (by decide)) (ea_one (ev_tupN (el_cons (ev_tupN (el_cons ev_int el_nil) (by decide)) el_nil) (by decide))))) el_nil) (by decide)))))) (lnle (by decide))) hm fun v_told x_told H3 e hm r_told => ?_
    have d := e.dice; have b0 := b0.t l0 e; replace r_script := up r_script e; replace r_even := up r_even e; replace r_odd := up r_odd e
    exact q_ret d (go0.at b0 l0) (ev_op (o_eqD (R := (RL (Cons (RL (All (RT (All RI)))) (Cons (RL (All (RT (All RI)))) (One RB)))))) (ev_var rfl r_told) (ev_lst (ea_cons (ev_lstN (el_cons (ev_tupN (el_cons ev_int el_nil) (by decide)) (el_cons (ev_tupN (el_cons ev_int el_nil) (by decide)) (el_cons (ev_tupN (el_cons ev_int el_nil) (by decide)) el_nil))) (by decide)) (ea_cons (ev_lstN (el_cons (ev_tupN (el_cons ev_int el_nil) (by decide)) (el_cons (ev_tupN (el_cons ev_int el_nil) (by decide)) (el_cons (ev_tupN (el_cons ev_int el_nil) (by decide)) (el_cons (ev_tupN (el_cons ev_int el_nil) (by decide)) el_nil)))) (by decide)) (ea_one ev_bl))) (lnle (by decide)))) hm fun v z H4 e p r => kr v z H4 (b0.t l0 e) p (wk r l0)
end T09

/-! wP: plain tools for mirrors: loops, comprehensions; rows of numbers. -/
namespace MW
open L2 GB
section
variable {α β s ρ : Type} {PE : Ex → Prop}
theorem fold_cps {body : s → α → W s} (I : Nat → s → Prop) (xs : List α) (step : ∀ i x st Q, xs[i]? = some x → I i st → (∀ st', I (i + 1) st' → Q st') → body st x Q PE) : ∀ (k : Nat) (st : s) (P : s → Prop), k ≤ xs.length → I k st → (∀ st, I xs.length st → P st) → W.fold body (xs.drop k) st P PE := by
  intro k
  generalize hn : xs.length - k = n
  induction n generalizing k with
  | zero =>
    intro st P hk hI h
    have e : k = xs.length := by omega
    subst e
    rw [List.drop_length]; exact h st hI
  | succ n ih =>
    intro st P hk hI h
    have hlt : k < xs.length := by omega
    rw [List.drop_eq_getElem_cons hlt]
    exact step k xs[k] st _ (by simp [hlt]) hI fun st' h' => ih (k + 1) (by omega) st' P (by omega) h' h
theorem fold_ok {body : s → α → W s} {xs : List α} {st : s} {P : s → Prop} (I : Nat → s → Prop) (h0 : I 0 st) (step : ∀ i x st Q, xs[i]? = some x → I i st → (∀ st', I (i + 1) st' → Q st') → body st x Q PE) (h : ∀ st, I xs.length st → P st) : W.fold body xs st P PE := by
  have := fold_cps I xs step 0 st P (Nat.zero_le _) h0 h
  simpa using this
theorem foldF_ok {body : s → α → W (W.Fl ρ s)} {xs : List α} {st : s} {P : ρ ⊕ s → Prop} (I : Nat → s → Prop) (h0 : I 0 st) (step : ∀ i x st Q, xs[i]? = some x → I i st → (∀ st', I (i + 1) st' → Q (.nx st')) → body st x Q PE) (h : ∀ st, I xs.length st → P (.inr st)) : W.foldF body xs st P PE := by
  have key : ∀ (n k : Nat), xs.length - k = n → ∀ (st : s), k ≤ xs.length → I k st → W.foldF body (xs.drop k) st P PE := by
    intro n
    induction n with
    | zero =>
      intro k hn st hk hI
      have e : k = xs.length := by omega
      subst e
      rw [List.drop_length]; exact h st hI
    | succ n ih =>
      intro k hn st hk hI
      have hlt : k < xs.length := by omega
      rw [List.drop_eq_getElem_cons hlt]
      exact step k xs[k] st _ (by simp [hlt]) hI fun st' h' => ih (k + 1) (by omega) st' (by omega) h'
  have := key _ 0 rfl st (Nat.zero_le _) h0
  simpa using this
/-- each part gives what it gives -/
theorem mapF_detF {p : α → W Bool} {f : α → W β} {q : α → Bool} {g : α → β} : ∀ {xs : List α} {P : List β → Prop}, (∀ x ∈ xs, ∀ Q : Bool → Prop, Q (q x) → p x Q PE) → (∀ x ∈ xs, q x = true → ∀ Q : β → Prop, Q (g x) → f x Q PE) → P ((xs.filter q).map g) → W.mapF p f xs P PE
  | [], P, _, _, h => h
  | x :: r, P, hp, hf, h => by
    refine hp x List.mem_cons_self _ ?_
    cases e : q x with
    | true =>
      rw [if_pos rfl]
      refine hf x List.mem_cons_self e _ ?_
      refine mapF_detF (fun y m => hp y (List.mem_cons_of_mem _ m)) (fun y m => hf y (List.mem_cons_of_mem _ m)) ?_
      rw [List.filter_cons_of_pos e] at h; exact h
    | false =>
      rw [if_neg (by decide)]
      rw [List.filter_cons_of_neg (by simp [e])] at h
      exact mapF_detF (fun y m => hp y (List.mem_cons_of_mem _ m)) (fun y m => hf y (List.mem_cons_of_mem _ m)) h
theorem lc_detF {p : α → W Bool} {f : α → W β} {xs : List α} {P : List β → Prop} (q : α → Bool) (g : α → β) (hl : xs.length < 1000000) (hp : ∀ x ∈ xs, ∀ Q : Bool → Prop, Q (q x) → p x Q fun _ => False) (hf : ∀ x ∈ xs, q x = true → ∀ Q : β → Prop, Q (g x) → f x Q fun _ => False) (h : P ((xs.filter q).map g)) : W.lc p f xs P PE := ⟨hl, mapF_detF hp hf h⟩
theorem lc_det {f : α → W β} {xs : List α} {P : List β → Prop} (g : α → β) (hl : xs.length < 1000000) (hf : ∀ x ∈ xs, ∀ Q : β → Prop, Q (g x) → f x Q fun _ => False) (h : P (xs.map g)) : W.lc (fun _ => W.pure true) f xs P PE := lc_detF (fun _ => true) g hl (fun _ _ _ h => h) (fun x m _ => hf x m) (by rw [List.filter_eq_self.2 (fun _ _ => rfl)]; exact h)
theorem mapF_any {f : α → W β} (G : β → Prop) : ∀ {xs : List α} {P : List β → Prop}, (∀ x ∈ xs, ∀ Q : β → Prop, (∀ y, G y → Q y) → f x Q PE) → (∀ l, l.length = xs.length → (∀ y ∈ l, G y) → P l) → W.mapF (fun _ => W.pure true) f xs P PE
  | [], P, _, h => h [] rfl (fun _ m => nomatch m)
  | x :: r, P, hf, h => by
    show (if (true : Bool) = true then (W.bind (f x) fun y => W.bind (W.mapF (fun _ => W.pure true) f r) fun l => W.pure (y :: l)) else W.mapF (fun _ => W.pure true) f r) P PE
    rw [if_pos rfl]
    refine hf x List.mem_cons_self _ fun y hy => mapF_any G (fun z m => hf z (List.mem_cons_of_mem _ m)) fun l hl hg => ?_
    exact h (y :: l) (by simp [hl]) fun z m => by
      rcases List.mem_cons.mp m with e | m
      · exact e ▸ hy
      · exact hg z m
theorem lc_any {f : α → W β} {xs : List α} {P : List β → Prop} (G : β → Prop) (hl : xs.length < 1000000) (hf : ∀ x ∈ xs, ∀ Q : β → Prop, (∀ y, G y → Q y) → f x Q fun _ => False) (h : ∀ l, l.length = xs.length → (∀ y ∈ l, G y) → P l) : W.lc (fun _ => W.pure true) f xs P PE := ⟨hl, mapF_any G hf h⟩
theorem ite_ok {m : W Bool} {a b : W α} {P : α → Prop} (c : Bool) (hm : ∀ Q : Bool → Prop, Q c → m Q PE) (ht : c = true → a P PE) (hf : c = false → b P PE) : W.ite m a b P PE := by
  refine hm _ ?_
  cases c with
  | true => rw [if_pos rfl]; exact ht rfl
  | false => rw [if_neg (by decide)]; exact hf rfl
theorem if_ok {a b : W α} {P : α → Prop} {c : Bool} (ht : c = true → a P PE) (hf : c = false → b P PE) : (if c = true then a else b : W α) P PE := by
  cases c with
  | true => exact ht rfl
  | false => exact hf rfl
theorem if_t {a b : W α} {P : α → Prop} (h : a P PE) : (if (true : Bool) = true then a else b : W α) P PE := h
theorem if_f {a b : W α} {P : α → Prop} (h : b P PE) : (if (false : Bool) = true then a else b : W α) P PE := h
end
theorem memD_iff {α : Type} [DecidableEq α] {x : α} {l : List α} : memD x l = true ↔ x ∈ l := by unfold memD; simp
/-! ### rows of numbers -/
/-- the s-th -/
def gt (v : List Int) (s : Nat) : Int := v.getD s 0
theorem gt_mem {v : List Int} {s : Nat} (h : s < v.length) : gt v s ∈ v := by
  unfold gt; rw [List.getD_eq_getElem?_getD, List.getElem?_eq_getElem h]; exact List.getElem_mem h
theorem mem_gt {v : List Int} {x : Int} (h : x ∈ v) : ∃ s, s < v.length ∧ gt v s = x := by
  obtain ⟨s, hs, e⟩ := List.mem_iff_getElem.mp h
  exact ⟨s, hs, by unfold gt; rw [List.getD_eq_getElem?_getD, List.getElem?_eq_getElem hs]; exact e⟩
theorem gt_ext {a b : List Int} (hl : a.length = b.length) (h : ∀ s, s < a.length → gt a s = gt b s) : a = b := by
  apply List.ext_getElem hl
  intro s h1 h2
  have := h s h1
  unfold gt at this
  rw [List.getD_eq_getElem?_getD, List.getD_eq_getElem?_getD, List.getElem?_eq_getElem h1, List.getElem?_eq_getElem h2] at this
  exact this
def vadd (a b : List Int) : List Int := (a.zip b).map fun q => q.1 + q.2
def vmul (p : List Int) (n : Int) : List Int := p.map fun x => x * n
theorem vadd_len {a b : List Int} (h : a.length = b.length) : (vadd a b).length = a.length := by unfold vadd; simp [h]
theorem vmul_len {p : List Int} {n : Int} : (vmul p n).length = p.length := by unfold vmul; simp
theorem gt_vadd {a b : List Int} (h : a.length = b.length) {s : Nat} (hs : s < a.length) : gt (vadd a b) s = gt a s + gt b s := by
  have hs2 : s < b.length := by omega
  have hz : (a.zip b)[s]? = some (a[s], b[s]) := by rw [List.getElem?_zip_eq_some]; simp [hs, hs2]
  unfold gt vadd
  rw [List.getD_eq_getElem?_getD, List.getElem?_map, hz]
  simp [hs, hs2]
theorem gt_vmul {p : List Int} {n : Int} {s : Nat} : gt (vmul p n) s = gt p s * n := by
  unfold gt vmul
  rw [List.getD_eq_getElem?_getD, List.getD_eq_getElem?_getD, List.getElem?_map]
  cases p[s]? <;> simp
/-- the packs so often -/
def lin (ps : List (List Int)) (ns : List Int) (s : Nat) : Int := ((ps.zip ns).map fun q => q.2 * gt q.1 s).sum
theorem lin_nil {ns : List Int} {s : Nat} : lin [] ns s = 0 := by simp [lin]
theorem lin_cons {p : List Int} {ps : List (List Int)} {n : Int} {ns : List Int} {s : Nat} : lin (p :: ps) (n :: ns) s = n * gt p s + lin ps ns s := by simp [lin]
theorem lin_snoc {ps : List (List Int)} {p : List Int} {ns : List Int} {n : Int} {s : Nat} (h : ps.length = ns.length) : lin (ps ++ [p]) (ns ++ [n]) s = lin ps ns s + n * gt p s := by
  unfold lin
  rw [List.zip_append h, List.map_append, List.sum_append]; simp
theorem lin_nonneg {ps : List (List Int)} {s : Nat} (hp : ∀ p ∈ ps, 0 ≤ gt p s) : ∀ {ns : List Int}, (∀ n ∈ ns, 0 ≤ n) → 0 ≤ lin ps ns s := by
  induction ps with
  | nil => intro ns _; rw [lin_nil]; exact Int.le_refl _
  | cons p ps ih =>
    intro ns h
    cases ns with
    | nil => simp [lin]
    | cons n ns =>
      rw [lin_cons]
      have h1 := ih (fun q m => hp q (List.mem_cons_of_mem _ m)) (ns := ns) (fun m k => h m (List.mem_cons_of_mem _ k))
      have h2 := Int.mul_nonneg (h n List.mem_cons_self) (hp p List.mem_cons_self)
      omega
/-- all rows of so many numbers from 0 to B -/
def rows : Nat → Nat → List (List Int)
  | 0, _ => [[]]
  | n + 1, B => ((List.range (B + 1)).map fun (i : Nat) => (rows n B).map fun r => (i : Int) :: r).flatten
theorem rows_len : ∀ n B, (rows n B).length = (B + 1) ^ n
  | 0, _ => rfl
  | n + 1, B => by
    show (((List.range (B + 1)).map fun (i : Nat) => (rows n B).map fun r => (i : Int) :: r).flatten).length = _
    rw [List.length_flatten, List.map_map]
    have : (List.length ∘ fun (i : Nat) => (rows n B).map fun r => (i : Int) :: r) = fun _ => (B + 1) ^ n := by
      funext i; simp [rows_len n B]
    rw [this, List.map_const', List.sum_replicate_nat, List.length_range, Nat.pow_succ, Nat.mul_comm]
theorem mem_rows {B : Nat} : ∀ {n : Nat} {v : List Int}, v.length = n → (∀ x ∈ v, 0 ≤ x ∧ x ≤ B) → v ∈ rows n B
  | 0, v, hl, _ => by rw [List.eq_nil_of_length_eq_zero hl]; simp [rows]
  | n + 1, x :: v, hl, h => by
    have hx := h x List.mem_cons_self
    have hv := mem_rows (n := n) (v := v) (by simpa using hl) fun y m => h y (List.mem_cons_of_mem _ m)
    show _ ∈ (((List.range (B + 1)).map fun (i : Nat) => (rows n B).map fun r => (i : Int) :: r).flatten)
    rw [List.mem_flatten]
    refine ⟨(rows n B).map fun r => ((x.toNat : Nat) : Int) :: r, List.mem_map.mpr ⟨x.toNat, List.mem_range.mpr (by omega), rfl⟩, List.mem_map.mpr ⟨v, hv, ?_⟩⟩
    rw [Int.toNat_of_nonneg hx.1]
theorem nd_sub {α : Type} [DecidableEq α] : ∀ {l m : List α}, l.Nodup → (∀ x ∈ l, x ∈ m) → l.length ≤ m.length
  | [], m, _, _ => Nat.zero_le _
  | x :: l, m, nd, h => by
    obtain ⟨h1, h2⟩ := List.nodup_cons.mp nd
    have hx := h x List.mem_cons_self
    have := nd_sub (l := l) (m := m.erase x) h2 fun y hy => (List.mem_erase_of_ne (fun e => h1 (by rw [← e]; exact hy))).mpr (h y (List.mem_cons_of_mem _ hy))
    rw [List.length_erase_of_mem hx] at this
    have := List.length_pos_of_mem hx
    rw [List.length_cons]; omega
/-- rows that differ are not too many -/
theorem rows_few {n B : Nat} {l : List (List Int)} (nd : l.Nodup) (h : ∀ v ∈ l, v.length = n ∧ ∀ x ∈ v, 0 ≤ x ∧ x ≤ (B : Int)) : l.length ≤ (B + 1) ^ n := by
  rw [← rows_len n B]
  exact nd_sub nd fun v m => mem_rows (h v m).1 (h v m).2
end MW

/-! pA: what orders and lines compute (for all laws). -/
namespace MW
open PySem PySem.Spec PyProof.Rows L2 GB
open GX (srtR leR)

theorem s_plus {a b : List Int} {P : List Int → Prop} {PE : Ex → Prop} (h : a.length < 1000000) (hp : P (vadd a b)) : m_plus a b P PE := by
  unfold m_plus
  exact ⟨by rw [List.length_zip]; omega, hp⟩
theorem s_lplus {a b : List Int} {P : List Int → Prop} {PE : Ex → Prop} (h : a.length < 1000000) (hp : P (vadd a b)) : m__law_plus a b P PE := by
  unfold m__law_plus
  exact ⟨by rw [List.length_zip]; omega, hp⟩
theorem s_taken {v : List Int} {n : Int} {P : List Int → Prop} {PE : Ex → Prop} (h : v.length < 1000000) (hn : -1000000 < n ∧ n < 1000000) (hp : P (vmul v n)) : m_taken v n P PE := by
  unfold m_taken
  exact lc_det (fun x => x * n) h (fun x _ Q q => ⟨.inr ⟨by omega, by omega⟩, q⟩) hp
theorem s_often {v : List Int} {n : Int} {P : List Int → Prop} {PE : Ex → Prop} (h : v.length < 1000000) (hn : -1000000 < n ∧ n < 1000000) (hp : P (vmul v n)) : m__law_often v n P PE := by
  unfold m__law_often
  exact lc_det (fun x => x * n) h (fun x _ Q q => ⟨.inl ⟨by omega, by omega⟩, by rw [Int.mul_comm]; exact q⟩) hp
/-- a pack of n sorts -/
structure Pk (n : Nat) (p : List Int) : Prop where
  len : p.length = n
  nn : ∀ x ∈ p, 0 ≤ x ∧ x < 1000000
  pos : ∃ x ∈ p, 0 < x
theorem Pk.gt {n : Nat} {p : List Int} (h : Pk n p) {s : Nat} : 0 ≤ MW.gt p s := by
  by_cases hs : s < p.length
  · exact (h.nn _ (gt_mem hs)).1
  · unfold MW.gt; rw [List.getD_eq_getElem?_getD, List.getElem?_eq_none (by omega)]; exact Int.le_refl _
theorem enm_mem {v : List Int} {q : Int × Int} (h : q ∈ enm v) : ∃ s : Nat, s < v.length ∧ q = ((s : Int), gt v s) := by
  obtain ⟨i, hi, e⟩ := List.mem_iff_getElem.mp h
  rw [enm_len] at hi
  refine ⟨i, hi, ?_⟩
  have h1 := enm_at (l := v) (i := i) (x := v[i]) (by simp [hi])
  have h2 : (enm v)[i]? = some q := by rw [List.getElem?_eq_getElem (by rw [enm_len]; exact hi), e]
  rw [h2] at h1
  rw [Option.some.inj h1]
  unfold gt
  rw [List.getD_eq_getElem?_getD, List.getElem?_eq_getElem hi]; rfl
theorem mem_enm {v : List Int} {s : Nat} (hs : s < v.length) : ((s : Int), gt v s) ∈ enm v := by
  have h1 := enm_at (l := v) (i := s) (x := v[s]) (by simp [hs])
  have : gt v s = v[s] := by unfold gt; rw [List.getD_eq_getElem?_getD, List.getElem?_eq_getElem hs]; rfl
  rw [this]
  exact List.mem_of_getElem? h1
theorem s_most_often {row p : List Int} {n : Nat} {P : Int → Prop} {PE : Ex → Prop} {B : Int} (hp : Pk n p) (hn : n < 1000) (hr : row.length = n) (h0 : ∀ s, s < n → 0 ≤ gt row s ∧ gt row s ≤ B)
    (h : ∀ t, 0 ≤ t → t ≤ B → (∀ m, m ≤ t → ∀ s, s < n → m * gt p s ≤ gt row s) → (∀ m, (∀ s, s < n → m * gt p s ≤ gt row s) → m ≤ t) → P t) : m_most_often row p P PE := by
  unfold m_most_often
  have hpl := hp.len
  refine lc_detF (fun z => decide (0 < z.2)) (fun z => gt row z.1.toNat / z.2) (by rw [enm_len]; omega) (fun _ _ _ q => q) (fun z hz hc Q q => ?_) ?_
  · obtain ⟨s, hs, rfl⟩ := enm_mem hz
    have hs' : s < row.length := by omega
    have hc' : 0 < gt p s := of_decide_eq_true hc
    refine ⟨row[s], atI_nat (by simp [hs']), ⟨⟨hc', by have := (hp.nn _ (gt_mem hs)).2; show gt p s < _; omega⟩, ?_⟩⟩
    have e : gt row s = row[s] := by unfold gt; rw [List.getD_eq_getElem?_getD, List.getElem?_eq_getElem hs']; rfl
    have q' : Q (gt row s / gt p s) := q
    rw [e] at q'
    exact q'
  · obtain ⟨x, hx, hx0⟩ := hp.pos
    obtain ⟨s0, hs0, e0⟩ := mem_gt hx
    have m0 : gt row s0 / gt p s0 ∈ (List.filter (fun z : Int × Int => decide (0 < z.2)) (enm p)).map (fun z => gt row z.1.toNat / z.2) := List.mem_map.mpr ⟨((s0 : Int), gt p s0), List.mem_filter.mpr ⟨mem_enm hs0, by simp [e0, hx0]⟩, rfl⟩
    refine ⟨List.length_pos_of_mem m0, ?_⟩
    have hmem := mnI_mem (List.ne_nil_of_mem m0)
    obtain ⟨z, hz, ez⟩ := List.mem_map.mp hmem
    obtain ⟨hz1, hz2⟩ := List.mem_filter.mp hz
    obtain ⟨s1, hs1, rfl⟩ := enm_mem hz1
    have hz2 : 0 < gt p s1 := of_decide_eq_true hz2
    have ez : gt row s1 / gt p s1 = mnI _ := ez
    have hs1' : s1 < n := by omega
    refine h _ ?_ ?_ (fun m hm s hs => ?_) (fun m hm => ?_)
    · rw [← ez]; exact Int.ediv_nonneg (h0 s1 hs1').1 (by omega)
    · rw [← ez]; exact Int.le_trans (Int.ediv_le_self _ (h0 s1 hs1').1) (h0 s1 hs1').2
    · by_cases hc : 0 < gt p s
      · have := mnI_le (l := (List.filter (fun z : Int × Int => decide (0 < z.2)) (enm p)).map (fun z => gt row z.1.toNat / z.2)) (y := gt row s / gt p s) (List.mem_map.mpr ⟨((s : Int), gt p s), List.mem_filter.mpr ⟨mem_enm (by omega), by simp [hc]⟩, rfl⟩)
        exact (Int.le_ediv_iff_mul_le hc).mp (Int.le_trans hm this)
      · have : gt p s = 0 := by have := hp.gt (s := s); omega
        rw [this, Int.mul_zero]; exact (h0 s hs).1
    · rw [← ez]; exact (Int.le_ediv_iff_mul_le hz2).mpr (hm s1 hs1')
theorem dput_new {κ ν : Type} [DecidableEq κ] {l : List (κ × ν)} {x : κ} {v : ν} (h : dhas l x = false) : dput l x v = l ++ [(x, v)] := by
  unfold dput; unfold dhas at h; rw [h]; rfl
section
variable (rest : List Int) (packs : List (List Int)) (n : Nat)
abbrev Dd := List (List Int × List Int)
structure Sound (k : Nat) (D : Dd) : Prop where
  nd : (D.map Prod.fst).Nodup
  at_ : ∀ q ∈ D, q.1.length = n ∧ q.2.length = k ∧ (∀ m ∈ q.2, 0 ≤ m) ∧ ∀ s, s < n → 0 ≤ gt q.1 s ∧ gt q.1 s = gt rest s - lin (packs.take k) q.2 s
def Compl (k : Nat) (D : Dd) : Prop := ∀ ns : List Int, ns.length = k → (∀ m ∈ ns, 0 ≤ m) → (∀ s, s < n → 0 ≤ gt rest s - lin (packs.take k) ns s) → ∃ q ∈ D, ∀ s, s < n → gt q.1 s = gt rest s - lin (packs.take k) ns s
end
theorem take_next {α : Type} {l : List α} {k : Nat} {x : α} (h : l[k]? = some x) : l.take (k + 1) = l.take k ++ [x] := by rw [List.take_succ, h]; rfl
theorem s_leftovers {rest : List Int} {packs : List (List Int)} {n : Nat} {B : Nat} {P : Dd → Prop} {PE : Ex → Prop} (hn : n < 1000) (hk : packs.length < 1000) (hp : ∀ p ∈ packs, Pk n p) (hr : rest.length = n) (h0 : ∀ s, s < n → 0 ≤ gt rest s ∧ gt rest s ≤ B) (hB : (B + 1) ^ n < 900000 ∧ B < 100000)
    (h : ∀ D, Sound rest packs n packs.length D → Compl rest packs n packs.length D → P D) : m_leftovers rest packs P PE := by
  unfold m_leftovers
  have e1 : dmerge [] [(rest, ([] : List Int))] = [(rest, [])] := by simp [dmerge, dput]
  dsimp only [W.bind, W.pure]
  rw [e1]
  refine fold_ok (fun k D => Sound rest packs n k D ∧ Compl rest packs n k D) ?_ (fun k p D Q hpk hD hQ => ?_) (fun D hD => h D hD.1 hD.2)
  · refine ⟨⟨by simp, fun q hq => ?_⟩, fun ns hl _ _ => ⟨(rest, []), List.mem_cons_self, fun s _ => ?_⟩⟩
    · rw [List.mem_singleton] at hq; subst hq
      refine ⟨hr, rfl, fun m hm => (nomatch hm), fun s hs => ⟨(h0 s hs).1, ?_⟩⟩
      show gt rest s = gt rest s - lin [] _ s
      rw [lin_nil]; omega
    · show _ = _ - lin [] _ s
      rw [lin_nil]; show gt rest s = gt rest s - 0; omega
  · obtain ⟨hS, hC⟩ := hD
    have hpm : p ∈ packs := List.mem_of_getElem? hpk
    have hP := hp p hpm
    have hkl : k < packs.length := by
      rcases Nat.lt_or_ge k packs.length with z | z
      · exact z
      · rw [List.getElem?_eq_none z] at hpk; cases hpk
    have htk := take_next hpk
    have hlt : (packs.take k).length = k := by rw [List.length_take]; omega
    -- no more rows than B allows
    have few : ∀ D', Sound rest packs n (k + 1) D' → D'.length < 1000000 := fun D' hS' => by
      have := rows_few (n := n) (B := B) hS'.nd (fun v hv => by
        obtain ⟨q, hq, rfl⟩ := List.mem_map.mp hv
        obtain ⟨a1, a2, a3, a4⟩ := hS'.at_ q hq
        refine ⟨a1, fun x hx => ?_⟩
        obtain ⟨s, hs, rfl⟩ := mem_gt hx
        have a5 := a4 s (by omega)
        have a6 := lin_nonneg (ps := packs.take (k + 1)) (s := s) (fun p' hp' => (hp p' (List.mem_of_mem_take hp')).gt) a3
        have := (h0 s (by omega)).2
        omega)
      rw [List.length_map] at this
      omega
    refine fold_ok (fun i D' => Sound rest packs n (k + 1) D' ∧ ∀ j, j < i → ∀ q, D[j]? = some q → ∀ m : Int, 0 ≤ m → (∀ s, s < n → 0 ≤ gt q.1 s - m * gt p s) → ∃ q' ∈ D', ∀ s, s < n → gt q'.1 s = gt q.1 s - m * gt p s)
      ⟨⟨List.nodup_nil, fun q hq => (nomatch hq)⟩, fun j hj => (nomatch hj)⟩ (fun i q D' Q' hq hI hQ' => ?_) (fun D' hI => hQ D' ⟨hI.1, fun ns hl hns hs0 => ?_⟩)
    · obtain ⟨hS', hC'⟩ := hI
      obtain ⟨b1, b2, b3, b4⟩ := hS.at_ q (List.mem_of_getElem? hq)
      have b5 : ∀ s, s < n → 0 ≤ gt q.1 s ∧ gt q.1 s ≤ (B : Int) := fun s hs => by
        have a5 := b4 s hs
        have a6 := lin_nonneg (ps := packs.take k) (s := s) (fun p' hp' => (hp p' (List.mem_of_mem_take hp')).gt) b3
        have := (h0 s hs).2
        omega
      refine s_most_often hP hn b1 b5 fun t ht0 htB ht1 ht2 => ?_
      refine ⟨⟨by omega, by omega⟩, ?_⟩
      refine fold_ok (fun c D2 => (Sound rest packs n (k + 1) D2 ∧ ∀ q' ∈ D', q' ∈ D2) ∧ ∀ m : Int, 0 ≤ m → m < c → ∃ q' ∈ D2, ∀ s, s < n → gt q'.1 s = gt q.1 s - m * gt p s)
        ⟨⟨hS', fun _ z => z⟩, fun m h1 h2 => by omega⟩ (fun c x D2 Q2 hx hI2 hQ2 => ?_) (fun D2 hI2 => ?_)
      · obtain ⟨⟨hS2, hsub⟩, hC2⟩ := hI2
        have hx2 : x = (c : Int) ∧ (c : Int) ≤ t := by
          have hc : c < (t + 1 - 0).toNat := by
            rw [← rng_len]
            rcases Nat.lt_or_ge c (rng 0 (t + 1)).length with z | z
            · exact z
            · rw [List.getElem?_eq_none z] at hx; cases hx
          rw [rng_at hc] at hx
          have := Option.some.inj hx
          omega
        obtain ⟨rfl, hct⟩ := hx2
        refine s_taken (by have := hP.len; omega) ⟨by omega, by omega⟩ ?_
        have l2 : q.1.length = (vmul p (-(c : Int))).length := by rw [vmul_len, hP.len, b1]
        refine s_plus (by omega) ?_
        have hleft : ∀ s, s < n → gt (vadd q.1 (vmul p (-(c : Int)))) s = gt q.1 s - (c : Int) * gt p s := fun s hs => by
          rw [gt_vadd l2 (by omega), gt_vmul, Int.mul_neg, Int.mul_comm]; omega
        have hll : (vadd q.1 (vmul p (-(c : Int)))).length = n := by rw [vadd_len l2, b1]
        have hnew : ∀ D3, (Sound rest packs n (k + 1) D3 ∧ ∀ q' ∈ D2, q' ∈ D3) → (∃ q' ∈ D3, q'.1 = vadd q.1 (vmul p (-(c : Int)))) → Q2 D3 := fun D3 h3 h4 => hQ2 D3 ⟨⟨h3.1, fun q' hq' => h3.2 q' (hsub q' hq')⟩, fun m hm0 hm => by
          by_cases e : m = (c : Int)
          · subst e
            obtain ⟨q', hq', e'⟩ := h4
            exact ⟨q', hq', fun s hs => by rw [e']; exact hleft s hs⟩
          · obtain ⟨q', hq', hs'⟩ := hC2 m hm0 (by omega)
            exact ⟨q', h3.2 q' hq', hs'⟩⟩
        refine if_ok (fun hc => ?_) (fun hc => ?_)
        · have hc' : dhas D2 (vadd q.1 (vmul p (-(c : Int)))) = false := by simpa using hc
          refine ⟨by rw [List.length_append, b2]; simp; omega, few D2 hS2, ?_⟩
          rw [dput_new hc']
          refine hnew _ ⟨⟨?_, fun z hz => ?_⟩, fun z hz => List.mem_append_left _ hz⟩ ⟨_, List.mem_append_right _ List.mem_cons_self, rfl⟩
          · rw [List.map_append]
            refine List.nodup_append.mpr ⟨hS2.nd, by simp, fun a ha b hb e => ?_⟩
            simp at hb
            subst hb
            rw [e] at ha
            rw [dhas_iff.mpr ha] at hc'; cases hc'
          · rcases List.mem_append.mp hz with hz | hz
            · exact hS2.at_ z hz
            · rw [List.mem_singleton] at hz; subst hz
              refine ⟨hll, by rw [List.length_append, b2]; rfl, fun m hm => ?_, fun s hs => ?_⟩
              · rcases List.mem_append.mp hm with hm | hm
                · exact b3 m hm
                · rw [List.mem_singleton] at hm; omega
              · have a1 := ht1 (c : Int) hct s hs
                have a2 := b4 s hs
                refine ⟨by show 0 ≤ gt (vadd _ _) s; rw [hleft s hs]; omega, ?_⟩
                show gt (vadd _ _) s = _
                rw [hleft s hs, htk, lin_snoc (by rw [hlt, b2])]; omega
        · have hc' : dhas D2 (vadd q.1 (vmul p (-(c : Int)))) = true := by simpa using hc
          refine hnew D2 ⟨hS2, fun _ z => z⟩ ?_
          obtain ⟨q', hq', e'⟩ := List.mem_map.mp (dhas_iff.mp hc')
          exact ⟨q', hq', e'⟩
      · obtain ⟨⟨hS2, hsub⟩, hC2⟩ := hI2
        refine hQ' D2 ⟨hS2, fun j hj q2 hq2 m hm0 hm => ?_⟩
        by_cases e : j = i
        · subst e
          rw [hq] at hq2; cases hq2
          refine hC2 m hm0 ?_
          have := ht2 m (fun s hs => by have := hm s hs; omega)
          rw [rng_len]; omega
        · obtain ⟨q', hq', hs'⟩ := hC' j (by omega) q2 hq2 m hm0 hm
          exact ⟨q', hsub q' hq', hs'⟩
    · have hne : ns ≠ [] := by intro e; subst e; cases hl
      have hns' : ns = ns.dropLast ++ [ns.getLast hne] := (List.dropLast_concat_getLast hne).symm
      have hdl : ns.dropLast.length = k := by rw [List.length_dropLast, hl]; rfl
      have hm0 : 0 ≤ ns.getLast hne := hns _ (List.getLast_mem hne)
      have hlin : ∀ s, lin (packs.take (k + 1)) ns s = lin (packs.take k) ns.dropLast s + ns.getLast hne * gt p s := fun s => by
        conv => lhs; rw [hns', htk]
        rw [lin_snoc (by rw [hlt, hdl])]
      have hpos : ∀ s, 0 ≤ ns.getLast hne * gt p s := fun s => Int.mul_nonneg hm0 hP.gt
      obtain ⟨q, hq, hqs⟩ := hC ns.dropLast hdl (fun m hm => hns m ((List.dropLast_sublist ns).subset hm)) (fun s hs => by
        have h1 := hs0 s hs; rw [hlin s] at h1; have := hpos s; omega)
      obtain ⟨j, hj, ej⟩ := List.mem_iff_getElem.mp hq
      obtain ⟨q', hq', hs'⟩ := hI.2 j hj q (by rw [List.getElem?_eq_getElem hj, ej]) (ns.getLast hne) hm0 (fun s hs => by
        have h1 := hs0 s hs; rw [hlin s] at h1; rw [hqs s hs]; omega)
      exact ⟨q', hq', fun s hs => by rw [hs' s hs, hqs s hs, hlin s]; omega⟩
/-- a line of n sorts -/
structure Ln' (n : Nat) (z : LineT) : Prop where
  n1 : 1 ≤ n ∧ n ≤ 3
  len : z.1.length = n
  base : ∀ x ∈ z.1, 0 ≤ x ∧ x < 1000000
  pks : ∀ p ∈ z.2, Pk n p
  few : z.2.length ≤ 900
/-- so often each pack -/
structure Of (n : Nat) (z : LineT) (order ns : List Int) : Prop where
  len : ns.length = z.2.length
  nn : ∀ m ∈ ns, 0 ≤ m
  sum : ∀ s, s < n → gt order s = gt z.1 s + lin z.2 ns s
def NumIs (n : Nat) (z : LineT) (order : List Int) (o : Option (List Int)) : Prop := match o with
  | none => ∀ ns, ¬ Of n z order ns
  | some ns => Of n z order ns
theorem zeros (n : Nat) : (List.replicate ((n : Nat) : Int).toNat [(0 : Int)]).flatten = List.replicate n 0 := by
  rw [Int.toNat_natCast]
  induction n with
  | zero => rfl
  | succ n ih => rw [List.replicate_succ, List.flatten_cons, ih]; rfl
theorem gt_zeros {n s : Nat} : gt (List.replicate n 0) s = 0 := by
  unfold gt; rw [List.getD_eq_getElem?_getD, List.getElem?_replicate]; split <;> rfl
theorem dlook_some {κ ν : Type} [DecidableEq κ] {l : List (κ × ν)} {k : κ} {v : ν} (h : dlook l k = some v) : (k, v) ∈ l := by
  unfold dlook at h
  obtain ⟨p, hp, e⟩ := Option.map_eq_some_iff.mp h
  have h1 := List.mem_of_find?_eq_some hp
  have h2 : p.1 = k := by simpa using List.find?_some hp
  subst e
  rw [← h2]; exact h1
theorem dlook_none {κ ν : Type} [DecidableEq κ] {l : List (κ × ν)} {k : κ} (h : dlook l k = none) : ∀ q ∈ l, q.1 ≠ k := fun q hq e => by
  unfold dlook at h
  have h1 := Option.map_eq_none_iff.mp h
  have h2 := List.find?_eq_none.mp h1 q hq
  simp [e] at h2
theorem s_numbers_for {z : LineT} {order : List Int} {n B : Nat} {P : Option (List Int) → Prop} {PE : Ex → Prop} (hz : Ln' n z) (ho : order.length = n) (hB : ∀ s, s < n → gt order s ≤ (B : Int)) (hs : (B + 1) ^ n < 900000 ∧ B < 100000) (h : ∀ o, NumIs n z order o → P o) : m_numbers_for z order P PE := by
  unfold m_numbers_for
  have h3 := hz.n1
  have hl := hz.len
  refine s_taken (by omega) ⟨by omega, by omega⟩ ?_
  refine s_plus (by omega) ?_
  have l2 : order.length = (vmul z.1 (-1)).length := by rw [vmul_len]; omega
  have hrl : (vadd order (vmul z.1 (-1))).length = n := by rw [vadd_len l2, ho]
  have hr : ∀ s, s < n → gt (vadd order (vmul z.1 (-1))) s = gt order s - gt z.1 s := fun s hs => by
    rw [gt_vadd l2 (by omega), gt_vmul]; omega
  generalize vadd order (vmul z.1 (-1)) = rest at hrl hr
  have hb0 : ∀ s, s < n → 0 ≤ gt z.1 s := fun s hs => (hz.base _ (gt_mem (by omega))).1
  refine ⟨by omega, ?_⟩
  have hne : rest ≠ [] := fun e => by rw [e] at hrl; simp at hrl; omega
  refine if_ok (fun hc => ?_) (fun hc => ?_)
  · have hc := of_decide_eq_true hc
    refine h none fun ns hns => ?_
    obtain ⟨s, hs1, hs2⟩ := mem_gt (mnI_mem hne)
    have h1 := hr s (by omega)
    have h2 := hns.sum s (by omega)
    have h4 := lin_nonneg (ps := z.2) (s := s) (fun p hp => (hz.pks p hp).gt) hns.nn
    omega
  · have hc : ¬ mnI rest < 0 := of_decide_eq_false hc
    have h0 : ∀ s, s < n → 0 ≤ gt rest s ∧ gt rest s ≤ (B : Int) := fun s hs => by
      have h1 := mnI_le (gt_mem (v := rest) (s := s) (by omega))
      have h2 := hr s hs
      have h4 := hb0 s hs
      have h5 := hB s hs
      omega
    refine s_leftovers (n := n) (B := B) (by omega) (by have := hz.few; omega) hz.pks hrl h0 hs fun D hS hC => ?_
    refine ⟨⟨⟨by omega, by omega⟩, by simp, by simp⟩, ?_⟩
    rw [hrl, zeros]
    apply h
    have tk : z.2.take z.2.length = z.2 := List.take_length
    cases e : dlook D (List.replicate n 0) with
    | none =>
      intro ns hns
      have hsum : ∀ s, s < n → gt rest s - lin z.2 ns s = 0 := fun s hs => by have h1 := hr s hs; have h2 := hns.sum s hs; omega
      obtain ⟨q, hq, hqs⟩ := hC ns hns.len hns.nn (fun s hs => by rw [tk, hsum s hs]; exact Int.le_refl _)
      obtain ⟨a1, _⟩ := hS.at_ q hq
      refine dlook_none e q hq (gt_ext (by rw [a1]; simp) fun s hs => ?_)
      rw [hqs s (by omega), tk, hsum s (by omega), gt_zeros]
    | some ns =>
      obtain ⟨a1, a2, a3, a4⟩ := hS.at_ _ (dlook_some e)
      refine ⟨a2, a3, fun s hs => ?_⟩
      have h1 := (a4 s hs).2
      rw [tk] at h1
      have h1 : gt (List.replicate n 0) s = gt rest s - lin z.2 ns s := h1
      rw [gt_zeros] at h1
      have h2 := hr s hs
      omega
theorem s_is_integer {x lo : Int} {P : Bool → Prop} {PE : Ex → Prop} (h : P (decide (lo ≤ x))) : m_is_integer x lo none P PE := by
  unfold m_is_integer
  refine if_ok (fun hc => ?_) (fun hc => ?_)
  · have hc : x < lo := by simpa using hc
    have : decide (lo ≤ x) = false := by simp; omega
    rw [this] at h; exact h
  · have hc : ¬ x < lo := by simpa using hc
    have : decide (lo ≤ x) = true := by simp; omega
    rw [this] at h; exact h
theorem s_is_integerM {x lo hi : Int} {P : Bool → Prop} {PE : Ex → Prop} (h : P (decide (lo ≤ x ∧ x ≤ hi))) : m_is_integer x lo (some hi) P PE := by
  unfold m_is_integer
  refine if_ok (fun hc => ?_) (fun hc => ?_)
  · have hc : x < lo := by simpa using hc
    have : decide (lo ≤ x ∧ x ≤ hi) = false := by simp; omega
    rw [this] at h; exact h
  · have hc : ¬ x < lo := by simpa using hc
    refine ⟨hi, rfl, ?_⟩
    have : decide (lo ≤ x ∧ x ≤ hi) = decide (x ≤ hi) := by simp; omega
    rw [this] at h; exact h
theorem s_is_order {v : List Int} {P : Bool → Prop} {PE : Ex → Prop} (h1 : 1 ≤ v.length ∧ v.length ≤ 3) (h0 : ∀ x ∈ v, 0 ≤ x) (h : P true) : m_is_order v P PE := by
  unfold m_is_order
  refine if_ok (fun hc => ?_) (fun hc => ?_)
  · simp at hc; omega
  · refine lc_det (fun x => decide (0 ≤ x)) (by omega) (fun x _ Q q => s_is_integer q) ?_
    have : (List.map (fun x : Int => decide (0 ≤ x)) v).all id = true := by
      rw [List.all_eq_true]
      intro b hb
      obtain ⟨x, hx, rfl⟩ := List.mem_map.mp hb
      simpa using h0 x hx
    show P ((List.map (fun x : Int => decide (0 ≤ x)) v).all id)
    rw [this]; exact h
theorem s_makes {z : LineT} {order : List Int} {n B : Nat} {P : Option (List Int) → Prop} {PE : Ex → Prop} (hz : Ln' n z) (ho : order.length = n) (h0 : ∀ x ∈ order, 0 ≤ x) (hB : ∀ s, s < n → gt order s ≤ (B : Int)) (hs : (B + 1) ^ n < 900000 ∧ B < 100000) (h : ∀ o, NumIs n z order o → P o) : m_Line_makes z order P PE := by
  unfold m_Line_makes m_require_order m_require_equal_sorts
  have h3 := hz.n1
  refine s_is_order (by omega) h0 ?_
  have hl : (z.1.length : Int) = (order.length : Int) := by rw [hz.len, ho]
  simp only [hl]
  exact s_numbers_for hz ho hB hs h
theorem s_contains {z : LineT} {order : List Int} {n B : Nat} {P : Bool → Prop} {PE : Ex → Prop} (hz : Ln' n z) (ho : order.length = n) (h0 : ∀ x ∈ order, 0 ≤ x) (hB : ∀ s, s < n → gt order s ≤ (B : Int)) (hs : (B + 1) ^ n < 900000 ∧ B < 100000) (h : ∀ o, NumIs n z order o → P o.isSome) : m_Line___contains__ z order P PE := by
  unfold m_Line___contains__
  have h3 := hz.n1
  refine s_is_order (by omega) h0 ?_
  have hl : (order.length : Int) = (z.1.length : Int) := by rw [hz.len, ho]
  simp only [hl]
  exact s_numbers_for hz ho hB hs h

theorem lexLt_iff : ∀ a b : List Int, HT.lexLt a b = true ↔ a < b
  | [], [] => by simp [HT.lexLt_nil_nil]
  | [], y :: b => by simp [HT.lexLt_nil_cons]
  | x :: a, [] => by simp [HT.lexLt_cons_nil]
  | x :: a, y :: b => by
    rw [HT.lexLt_cons, List.cons_lt_cons_iff]
    by_cases e : x = y
    · subst e; simp [lexLt_iff a b]
    · rw [if_neg e]; simp [e]
theorem srtR_mem {l : List (List Int)} {x : List Int} : x ∈ srtR l ↔ x ∈ l := List.mem_mergeSort
theorem srtR_nd {l : List (List Int)} (h : l.Nodup) : (srtR l).Nodup := (List.mergeSort_perm l _).nodup_iff.mpr h
theorem srtR_len {l : List (List Int)} : (srtR l).length = l.length := (List.mergeSort_perm l _).length_eq
theorem srtR_pw (l : List (List Int)) : (srtR l).Pairwise (fun a b => a ≤ b) := by
  have := List.pairwise_mergeSort (le := leR) (fun a b c h1 h2 => by unfold leR at *; simp at *; exact List.le_trans h1 h2) (fun a b => by unfold leR; simp; exact List.le_total a b) l
  exact this.imp (fun h => by unfold leR at h; simpa using h)
def Asc (packs : List (List Int)) : Prop := ((packs.zip (cut packs (some 1) none)).map fun q => HT.lexLt q.1 q.2).all id = true
theorem lt_of_le {a b : List Int} (h : a ≤ b) (n : a ≠ b) : HT.lexLt a b = true := by
  rw [lexLt_iff]
  rcases List.le_iff_lt_or_eq.mp h with z | z
  · exact z
  · exact absurd z n
theorem asc_srtR {l : List (List Int)} (h : l.Nodup) (hl : l.length ≤ 3) : Asc (srtR l) := by
  have h1 := srtR_pw l
  have h2 := srtR_nd h
  have h3 := srtR_len (l := l)
  generalize srtR l = m at h1 h2 h3
  match m, h1, h2, h3 with
  | [], _, _, _ => rfl
  | [a], _, _, _ => rfl
  | [a, b], h1, h2, _ =>
    have e : HT.lexLt a b = true := lt_of_le (by simp at h1; exact h1) (by simp at h2; exact h2)
    show ([HT.lexLt a b] : List Bool).all id = true
    rw [e]; rfl
  | [a, b, c], h1, h2, _ =>
    have e : HT.lexLt a b = true := lt_of_le (by simp at h1; exact h1.1.1) (by simp at h2; exact h2.1.1)
    have e2 : HT.lexLt b c = true := lt_of_le (by simp at h1; exact h1.2) (by simp at h2; exact h2.2)
    show ([HT.lexLt a b, HT.lexLt b c] : List Bool).all id = true
    rw [e, e2]; rfl
  | a :: b :: c :: d :: r, _, _, h3 => simp at h3; omega
/-- a plain line as the law draws it -/
structure Pl (n : Nat) (z : LineT) : Prop extends Ln' n z where
  b9 : ∀ x ∈ z.1, x ≤ 9
  few3 : z.2.length ≤ 3
  p6 : ∀ p ∈ z.2, ∀ x ∈ p, x ≤ 6 / (n : Int)
  asc : Asc z.2
  nd : z.2.Nodup
theorem s_is_small {v : List Int} {n : Nat} {most : Int} {P : Bool → Prop} {PE : Ex → Prop} (hn : 1 ≤ n ∧ n ≤ 3) (h : Pk n v) (hm : ∀ x ∈ v, x ≤ most) (hp : P true) : m_is_small v n most P PE := by
  unfold m_is_small
  refine s_is_order (by have := h.len; omega) (fun x hx => (h.nn x hx).1) ?_
  refine if_t ?_
  have hne : v ≠ [] := fun e => by have := h.len; rw [e] at this; simp at this; omega
  refine if_ok (fun _ => ?_) (fun hc => ?_)
  · refine ⟨by have := h.len; omega, ?_⟩
    show P (decide (mxI v ≤ most))
    rw [decide_eq_true (hm _ (mxI_mem hne))]; exact hp
  · have := h.len; simp at hc; omega
theorem s_line {z : LineT} {n : Nat} {P : LineT → Prop} {PE : Ex → Prop} (h : Pl n z) (hp : P z) : m_Line z.1 z.2 P PE := by
  have h3 := h.n1
  have hl := h.len
  unfold m_Line m_checked
  have hne : z.1 ≠ [] := fun e => by rw [e] at hl; simp at hl; omega
  refine s_is_order (by omega) (fun x hx => (h.base x hx).1) ?_
  refine if_f ?_
  refine ⟨by omega, ?_⟩
  have hmx := h.b9 _ (mxI_mem hne)
  refine if_ok (fun hc => ?_) (fun _ => ?_)
  · simp at hc; omega
  refine ⟨⟨by omega, by omega⟩, ?_⟩
  refine if_ok (fun hc => ?_) (fun _ => ?_)
  · have := h.few3; simp at hc; omega
  refine lc_det (fun _ => true) (by have := h.few; omega) (fun p hp Q q => ?_) ?_
  · rw [hl]
    refine s_is_small h3 (h.pks p hp) (h.p6 p hp) ?_
    refine if_t ?_
    have hpl := (h.pks p hp).len
    have hpne : p ≠ [] := fun e => by rw [e] at hpl; simp at hpl; omega
    refine ⟨by omega, ?_⟩
    obtain ⟨x, hx, hx0⟩ := (h.pks p hp).pos
    have := le_mxI hx
    show Q (decide (0 < mxI p))
    rw [decide_eq_true (by omega)]; exact q
  have e1 : (List.map (fun _ => true) z.2).all id = true := by simp
  show (if (!(List.map (fun _ => true) z.2).all id) = true then _ else _ : W LineT) _ PE
  rw [e1]
  refine if_f ?_
  refine ⟨by rw [List.length_zip]; have := h.few; omega, ?_⟩
  have e2 := h.asc
  unfold Asc at e2
  show (if (!(((z.2.zip (cut z.2 (some 1) none)).map fun q => HT.lexLt q.1 q.2).all id)) = true then _ else _ : W LineT) _ PE
  rw [e2]
  refine if_f ?_
  exact hp
/-! draws -/
theorem s_roll {d : Addr} {n : Int} {P : Int → Prop} {PE : Ex → Prop} (hn : 0 < n ∧ n < 1000000) (h : ∀ z, 0 ≤ z → z < n → P z) : m__law_roll d n P PE := by
  unfold m__law_roll
  refine ⟨trivial, fun y _ => ?_⟩
  refine if_ok (fun _ => ?_) (fun _ => ?_)
  · refine ⟨trivial, fun y2 _ => ⟨hn.1, trivial, fun y3 _ => ⟨⟨hn.1, by omega⟩, ?_⟩⟩⟩
    exact h _ (Int.emod_nonneg _ (by omega)) (Int.emod_lt_of_pos _ hn.1)
  · refine ⟨trivial, fun y5 _ => ⟨trivial, fun y8 _ => ⟨trivial, fun y7 _ => ⟨.inl ⟨by decide, by decide⟩, by decide, ?_⟩⟩⟩⟩
    have b1 := Int.emod_lt_of_pos (y8 + 1000151 * y7) (by decide : (0 : Int) < 2305843009213693951)
    have b0 := Int.emod_nonneg (y8 + 1000151 * y7) (by decide : (2305843009213693951 : Int) ≠ 0)
    refine ⟨.inl ⟨by omega, by omega⟩, by decide, .inr ⟨by omega, by omega⟩, trivial, fun y13 _ => ⟨.inl ⟨by decide, by decide⟩, by decide, ⟨by decide, by decide⟩, hn.1, ?_⟩⟩
    exact h _ (Int.emod_nonneg _ (by omega)) (Int.emod_lt_of_pos _ hn.1)
theorem s_order {d : Addr} {n : Nat} {most : Int} {P : List Int → Prop} {PE : Ex → Prop} (hn : n < 1000) (hm : 0 ≤ most ∧ most < 100000) (h : ∀ v : List Int, v.length = n → (∀ x ∈ v, 0 ≤ x ∧ x ≤ most) → P v) : m__law_order d n most P PE := by
  unfold m__law_order
  refine ⟨⟨by omega, by omega⟩, ?_⟩
  refine lc_any (fun x => 0 ≤ x ∧ x ≤ most) (by rw [rng_len]; omega) (fun _ _ Q q => s_roll ⟨by omega, by omega⟩ fun z h1 h2 => q z ⟨h1, by omega⟩) fun l hl hg => h l (by rw [hl, rng_len]; omega) hg
theorem s_drawn {d : Addr} {n k most : Nat} {P : LineT → Prop} {PE : Ex → Prop} (hn : 1 ≤ n ∧ n ≤ 3) (hk : k ≤ 3 ∧ most ≤ 9) (h : ∀ z, Pl n z → (∀ x ∈ z.1, x ≤ (most : Int)) → z.2.length ≤ k → P z) : m__law_line d n k most P PE := by
  unfold m__law_line
  refine s_roll ⟨by omega, by omega⟩ fun turns ht0 ht1 => ?_
  refine ⟨⟨by omega, by omega⟩, ?_⟩
  have hq : 0 ≤ 6 / (n : Int) ∧ 6 / (n : Int) ≤ 6 := by
    refine ⟨Int.ediv_nonneg (by omega) (by omega), Int.ediv_le_self _ (by omega)⟩
  refine fold_ok (fun i (f : List (List Int)) => f.length ≤ i ∧ f.Nodup ∧ ∀ p ∈ f, Pk n p ∧ ∀ x ∈ p, x ≤ 6 / (n : Int)) ⟨Nat.le_refl _, List.nodup_nil, fun p hp => (nomatch hp)⟩ (fun i x f Q hx hI hQ => ?_) (fun f hI => ?_)
  · obtain ⟨hI1, hI2, hI3⟩ := hI
    have hi : i < 3 := by
      have : i < (rng 0 turns).length := by
        rcases Nat.lt_or_ge i (rng 0 turns).length with z | z
        · exact z
        · rw [List.getElem?_eq_none z] at hx; cases hx
      rw [rng_len] at this; omega
    refine ⟨⟨by omega, by omega⟩, ?_⟩
    refine s_order (by omega) ⟨hq.1, by omega⟩ fun v hv hv2 => ?_
    have key : ∀ v : List Int, v.length = n → (∀ x ∈ v, 0 ≤ x ∧ x ≤ 6 / (n : Int)) → (W.ite (W.bind (W.bind (W.grd (0 < v.length) (mxI v)) fun y5 => (W.pure (decide ((0 : Int) < y5)))) fun y6 => (W.pure (y6 && (!memD v f)))) (W.bind (W.grd (f.length < 1000000) (f ++ [v])) fun x_found => W.pure x_found) (W.pure f)) Q PE := fun v hv hv2 => by
      have hne : v ≠ [] := fun e => by rw [e] at hv; simp at hv; omega
      refine ⟨by omega, ?_⟩
      refine if_ok (fun hc => ?_) (fun _ => hQ f ⟨by omega, hI2, hI3⟩)
      simp only [Bool.and_eq_true, Bool.not_eq_true', decide_eq_true_eq] at hc
      refine ⟨by omega, hQ (f ++ [v]) ⟨by simp; omega, ?_, fun p hp => ?_⟩⟩
      · refine List.nodup_append.mpr ⟨hI2, by simp, fun a ha b hb e => ?_⟩
        simp at hb; subst hb; subst e
        have := hc.2
        unfold memD at this
        simp [ha] at this
      · rcases List.mem_append.mp hp with hp | hp
        · exact hI3 p hp
        · rw [List.mem_singleton] at hp; subst hp
          exact ⟨⟨hv, fun x hx => by have := hv2 x hx; omega, ⟨_, mxI_mem hne, hc.1⟩⟩, fun x hx => (hv2 x hx).2⟩
    refine s_roll ⟨by omega, by omega⟩ fun y3 _ _ => ?_
    refine if_ok (fun _ => ?_) (fun _ => key v hv hv2)
    refine s_roll ⟨by omega, by omega⟩ fun y4 h4 h5 => ?_
    refine ⟨y4.toNat, by unfold ixN; rw [if_pos h4, if_pos (by omega)], ?_⟩
    refine key _ (by simp [hv]) fun x hx => ?_
    rcases List.mem_or_eq_of_mem_set hx with z | z
    · exact hv2 x z
    · subst z; exact ⟨Int.le_refl _, hq.1⟩
  · obtain ⟨hI1, hI2, hI3⟩ := hI
    rw [rng_len] at hI1
    refine s_order (by omega) ⟨by omega, by omega⟩ fun b hb hb2 => ?_
    refine ⟨⟨by omega, fun r hr e => by have := (hI3 r hr).1.len; rw [e] at this; simp at this; omega⟩, ?_⟩
    refine h (b, srtR f) { n1 := hn, len := hb, base := fun x hx => by have := hb2 x hx; omega, pks := fun p hp => (hI3 p (srtR_mem.mp hp)).1, few := by rw [srtR_len]; omega, few3 := by rw [srtR_len]; omega, b9 := fun x hx => by have := (hb2 x hx).2; omega, p6 := fun p hp => (hI3 p (srtR_mem.mp hp)).2, asc := asc_srtR hI2 (by omega), nd := srtR_nd hI2 } (fun x hx => (hb2 x hx).2) (by show (srtR f).length ≤ k; rw [srtR_len]; omega)
theorem sIx_nn {n k d : Nat} : HT.sIx n d (some (k : Int)) = min k n := by
  show (if (k : Int) < 0 then ((k : Int) + n).toNat else min (k : Int).toNat n) = _
  rw [if_neg (by omega), Int.toNat_natCast]
theorem cut_drop {α : Type} {l : List α} {k : Nat} : cut l (some (k : Int)) none = l.drop k := by
  unfold cut
  rw [sIx_nn]
  show List.take (l.length - min k l.length) (List.drop (min k l.length) l) = _
  rcases Nat.le_total k l.length with h | h
  · rw [Nat.min_eq_left h, List.take_of_length_le (by rw [List.length_drop]; omega)]
  · rw [Nat.min_eq_right h, List.drop_length, List.drop_of_length_le h]; simp
theorem cut_take {α : Type} {l : List α} {k : Nat} : cut l none (some (k : Int)) = l.take k := by
  unfold cut
  rw [sIx_nn]
  show List.take (min k l.length - 0) (List.drop 0 l) = _
  rw [List.drop_zero, Nat.sub_zero]
  rcases Nat.le_total k l.length with h | h
  · rw [Nat.min_eq_left h]
  · rw [Nat.min_eq_right h, List.take_length, List.take_of_length_le h]
/-! sorted rows -/
def Srt (l : List (List Int)) : Prop := l.Pairwise (fun a b => a < b)
theorem srt_of {l : List (List Int)} (h : l.Pairwise (fun a b => a ≤ b)) (nd : l.Nodup) : Srt l := by
  have := h.and nd
  exact this.imp fun {a b} ⟨h1, h2⟩ => by
    rcases List.le_iff_lt_or_eq.mp h1 with z | z
    · exact z
    · exact absurd z h2
theorem Srt.nd {l : List (List Int)} (h : Srt l) : l.Nodup := h.imp fun {a b} h1 e => by subst e; exact List.lt_irrefl _ h1
theorem Srt.ext {a b : List (List Int)} (ha : Srt a) (hb : Srt b) (h : ∀ x, x ∈ a ↔ x ∈ b) : a = b :=
  List.Perm.eq_of_pairwise (le := fun x y => x < y) (fun _ _ _ _ h1 h2 => absurd h2 (List.lt_asymm h1)) ha hb ((List.perm_ext_iff_of_nodup ha.nd hb.nd).mpr h)
theorem srt_srtR {l : List (List Int)} (h : l.Nodup) : Srt (srtR l) := srt_of (srtR_pw l) (srtR_nd h)
theorem srt_srtS {l : List (List Int)} : Srt (srtS l) := srt_srtR nd_ddp
theorem mem_srtS {l : List (List Int)} {x : List Int} : x ∈ srtS l ↔ x ∈ l := by unfold srtS; rw [srtR_mem, mem_ddp]
theorem Srt.filter {l : List (List Int)} (h : Srt l) (p : List Int → Bool) : Srt (l.filter p) := List.Pairwise.filter p h
theorem srt_id {l : List (List Int)} (h : Srt l) : srtS l = l := srt_srtS.ext h fun _ => mem_srtS
theorem srt_asc {l : List (List Int)} : Asc l ↔ Srt l := by
  induction l with
  | nil => exact ⟨fun _ => List.Pairwise.nil, fun _ => rfl⟩
  | cons a l ih =>
    cases l with
    | nil => exact ⟨fun _ => List.pairwise_singleton _ _, fun _ => rfl⟩
    | cons b l =>
      have e : ∀ m : List (List Int), ∀ x, cut (x :: m) (some 1) none = m := fun m x => cut_drop (k := 1)
      have e2 : Asc (a :: b :: l) ↔ HT.lexLt a b = true ∧ Asc (b :: l) := by
        unfold Asc
        rw [e, e]
        simp
      rw [e2, ih, lexLt_iff]
      refine ⟨fun ⟨h1, h2⟩ => List.pairwise_cons.mpr ⟨fun x hx => ?_, h2⟩, fun h => ⟨(List.pairwise_cons.mp h).1 b List.mem_cons_self, (List.pairwise_cons.mp h).2⟩⟩
      rcases List.mem_cons.mp hx with w | w
      · exact w ▸ h1
      · exact List.lt_trans h1 ((List.pairwise_cons.mp h2).1 x w)

theorem fold_lin {body : List Int → List Int × Int → W (List Int)} {n : Nat} {z : LineT} {ns : List Int} {P : List Int → Prop} {PE : Ex → Prop} (hz : Ln' n z) (hb : ∀ st p m Q, st.length = n → p.length = n → (-1000000 < m ∧ m < 1000000) → Q (vadd st (vmul p m)) → body st (p, m) Q PE)
    (hl : ns.length = z.2.length) (hm : ∀ m ∈ ns, 0 ≤ m ∧ m < 1000000) (h : ∀ row : List Int, row.length = n → (∀ s, s < n → gt row s = gt z.1 s + lin z.2 ns s) → P row) : W.fold body (z.2.zip ns) z.1 P PE := by
  refine fold_ok (fun i (st : List Int) => st.length = n ∧ ∀ s, s < n → gt st s = gt z.1 s + lin (z.2.take i) (ns.take i) s) ⟨hz.len, fun s _ => by simp [lin]⟩ (fun i q st Q hq hI hQ => ?_) (fun st hI => ?_)
  · obtain ⟨p, m⟩ := q
    obtain ⟨h1, h2⟩ := List.getElem?_zip_eq_some.mp hq
    replace h1 : z.2[i]? = some p := h1
    replace h2 : ns[i]? = some m := h2
    have hpl := (hz.pks p (List.mem_of_getElem? h1)).len
    refine hb st p m Q hI.1 hpl (by have := hm m (List.mem_of_getElem? h2); omega) (hQ _ ⟨?_, fun s hs => ?_⟩)
    · rw [vadd_len (by rw [vmul_len, hpl, hI.1]), hI.1]
    · have hi : i < z.2.length := by
        rcases Nat.lt_or_ge i z.2.length with w | w
        · exact w
        · rw [List.getElem?_eq_none w] at h1; cases h1
      rw [gt_vadd (by rw [vmul_len, hpl, hI.1]) (by rw [hI.1]; exact hs), gt_vmul, hI.2 s hs, take_next h1, take_next h2, lin_snoc (by rw [List.length_take, List.length_take]; omega), Int.mul_comm]; omega
  · have e : (z.2.zip ns).length = z.2.length := by rw [List.length_zip]; omega
    rw [e] at hI
    refine h st hI.1 fun s hs => ?_
    have := hI.2 s hs
    rw [List.take_length, List.take_of_length_le (by omega)] at this
    exact this
theorem s_lsum {n : Nat} {z : LineT} {ns : List Int} {P : List Int → Prop} {PE : Ex → Prop} (hz : Ln' n z) (hl : ns.length = z.2.length) (hm : ∀ m ∈ ns, 0 ≤ m ∧ m < 1000000) (h : ∀ row : List Int, row.length = n → (∀ s, s < n → gt row s = gt z.1 s + lin z.2 ns s) → P row) : m__law_sum z ns P PE := by
  unfold m__law_sum
  have h3 := hz.n1
  exact fold_lin hz (fun st p m Q h1 h2 h4 q => s_often (by show p.length < _; omega) h4 (s_lplus (by omega) q)) hl hm h
theorem s_sum_in {n : Nat} {z : LineT} {ns : List Int} {P : List Int → Prop} {PE : Ex → Prop} (hz : Ln' n z) (hl : ns.length = z.2.length) (hm : ∀ m ∈ ns, 0 ≤ m ∧ m < 1000000) (h : ∀ row : List Int, row.length = n → (∀ s, s < n → gt row s = gt z.1 s + lin z.2 ns s) → P row) : m_sum_in z ns P PE := by
  unfold m_sum_in
  have h3 := hz.n1
  exact fold_lin hz (fun st p m Q h1 h2 h4 q => s_taken (by show p.length < _; omega) h4 (s_plus (by omega) q)) hl hm h
theorem s_call {n : Nat} {z : LineT} {ns : List Int} {P : List Int → Prop} {PE : Ex → Prop} (hz : Ln' n z) (hl : ns.length = z.2.length) (hm : ∀ m ∈ ns, 0 ≤ m ∧ m ≤ 99) (h : ∀ row : List Int, row.length = n → (∀ s, s < n → gt row s = gt z.1 s + lin z.2 ns s) → P row) : m_Line___call__ z ns P PE := by
  unfold m_Line___call__
  have h3 := hz.few
  refine if_ok (fun hc => ?_) (fun _ => ?_)
  · simp at hc; omega
  refine lc_det (fun x => decide (0 ≤ x ∧ x ≤ 99)) (by omega) (fun x _ Q q => s_is_integerM q) ?_
  have e : (List.map (fun x : Int => decide (0 ≤ x ∧ x ≤ 99)) ns).all id = true := by
    rw [List.all_eq_true]
    intro b hb
    obtain ⟨x, hx, rfl⟩ := List.mem_map.mp hb
    simpa using hm x hx
  show (if (!(List.map (fun x : Int => decide (0 ≤ x ∧ x ≤ 99)) ns).all id) = true then _ else _ : W (List Int)) _ PE
  rw [e]
  refine if_f ?_
  exact s_sum_in hz hl (fun m k => by have := hm m k; omega) h
/-! one pack more, one less -/
theorem lin_set {s : Nat} {d : Int} : ∀ {ps : List (List Int)} {ns : List Int} {j : Nat} {p : List Int} {m : Int}, ps[j]? = some p → ns[j]? = some m → lin ps (ns.set j (m + d)) s = lin ps ns s + d * gt p s
  | p' :: ps, m' :: ns, 0, p, m, h1, h2 => by
    simp at h1 h2
    subst h1 h2
    rw [List.set_cons_zero, lin_cons, lin_cons, Int.add_mul]; omega
  | p' :: ps, m' :: ns, j + 1, p, m, h1, h2 => by
    rw [List.set_cons_succ, lin_cons, lin_cons, lin_set (j := j) (by simpa using h1) (by simpa using h2)]; omega
  | [], _, _, _, _, h1, _ => by simp at h1
  | _ :: _, [], _, _, _, _, h2 => by simp at h2
theorem sum_set {d : Int} : ∀ {ns : List Int} {j : Nat} {m : Int}, ns[j]? = some m → (ns.set j (m + d)).sum = ns.sum + d
  | m' :: ns, 0, m, h => by simp at h; subst h; rw [List.set_cons_zero, List.sum_cons, List.sum_cons]; omega
  | m' :: ns, j + 1, m, h => by rw [List.set_cons_succ, List.sum_cons, List.sum_cons, sum_set (j := j) (by simpa using h)]; omega
  | [], _, _, h => by simp at h
theorem sum_pos : ∀ {ns : List Int}, (∀ m ∈ ns, 0 ≤ m) → (∀ m ∈ ns, m = 0) ∨ ∃ (j : Nat) (m : Int), ns[j]? = some m ∧ 0 < m
  | [], _ => .inl fun m h => (nomatch h)
  | m :: ns, h => by
    by_cases e : 0 < m
    · exact .inr ⟨0, m, rfl, e⟩
    · have e0 : m = 0 := by have := h m List.mem_cons_self; omega
      rcases sum_pos (ns := ns) (fun x hx => h x (List.mem_cons_of_mem _ hx)) with z | ⟨j, m', h1, h2⟩
      · exact .inl fun x hx => by
          rcases List.mem_cons.mp hx with w | w
          · omega
          · exact z x w
      · exact .inr ⟨j + 1, m', by simpa using h1, h2⟩
theorem lin_zero {ps : List (List Int)} {s : Nat} : ∀ {ns : List Int}, (∀ m ∈ ns, m = 0) → lin ps ns s = 0 := by
  induction ps with
  | nil => intro ns _; exact lin_nil
  | cons p ps ih =>
    intro ns h
    cases ns with
    | nil => simp [lin]
    | cons m ns => rw [lin_cons, h m List.mem_cons_self, ih (fun x hx => h x (List.mem_cons_of_mem _ hx))]; omega
theorem sum_nonneg : ∀ {ns : List Int}, (∀ m ∈ ns, 0 ≤ m) → 0 ≤ ns.sum
  | [], _ => Int.le_refl _
  | m :: ns, h => by
    rw [List.sum_cons]
    have := sum_nonneg (ns := ns) (fun x hx => h x (List.mem_cons_of_mem _ hx))
    have := h m List.mem_cons_self
    omega
structure Reach (n : Nat) (z : LineT) (most : Int) (row : List Int) : Prop where
  len : row.length = n
  le : ∀ s, s < n → gt row s ≤ most
  of : ∃ ns, Of n z row ns
theorem Reach.nn {n : Nat} {z : LineT} {most : Int} {row : List Int} (hz : Ln' n z) (h : Reach n z most row) : ∀ s, s < n → 0 ≤ gt row s := fun s hs => by
  obtain ⟨ns, hn⟩ := h.of
  have h1 := hn.sum s hs
  have h2 := lin_nonneg (ps := z.2) (s := s) (fun p hp => (hz.pks p hp).gt) hn.nn
  have h3 := (hz.base _ (gt_mem (v := z.1) (s := s) (by rw [hz.len]; exact hs))).1
  omega
/-- the base or in reach -/
structure Rb (n : Nat) (z : LineT) (most : Int) (row : List Int) : Prop where
  len : row.length = n
  le : row = z.1 ∨ ∀ s, s < n → gt row s ≤ most
  of : ∃ ns, Of n z row ns
/-- what is closed under the packs holds all -/
theorem reach_all {n : Nat} {z : LineT} {most : Int} {found : List (List Int)} (hz : Ln' n z) (hb : z.1 ∈ found) (hr : ∀ r ∈ found, r.length = n) (hc : ∀ r ∈ found, ∀ p ∈ z.2, (∀ s, s < n → gt r s + gt p s ≤ most) → ∃ r' ∈ found, ∀ s, s < n → gt r' s = gt r s + gt p s) :
    ∀ (N : Nat) (row : List Int) (ns : List Int), ns.sum.toNat = N → row.length = n → (∀ s, s < n → gt row s ≤ most) → Of n z row ns → row ∈ found := by
  intro N
  induction N with
  | zero =>
    intro row ns hN hl hle ho
    rcases sum_pos ho.nn with h0 | ⟨j, m, h1, h2⟩
    · have : row = z.1 := gt_ext (by rw [hl, hz.len]) fun s hs => by rw [ho.sum s (by omega), lin_zero h0]; omega
      rw [this]; exact hb
    · exfalso
      have e := sum_set (d := -m) h1
      have := sum_nonneg (ns := ns.set j (m + -m)) (fun x hx => by
        rcases List.mem_or_eq_of_mem_set hx with w | w
        · exact ho.nn x w
        · omega)
      omega
  | succ N ih =>
    intro row ns hN hl hle ho
    rcases sum_pos ho.nn with h0 | ⟨j, m, h1, h2⟩
    · have : row = z.1 := gt_ext (by rw [hl, hz.len]) fun s hs => by rw [ho.sum s (by omega), lin_zero h0]; omega
      rw [this]; exact hb
    · have hj : j < z.2.length := by
        rw [← ho.len]
        rcases Nat.lt_or_ge j ns.length with w | w
        · exact w
        · rw [List.getElem?_eq_none w] at h1; cases h1
      have hp : z.2[j]? = some z.2[j] := List.getElem?_eq_getElem hj
      have hpm := hz.pks _ (List.mem_of_getElem? hp)
      have hvl : row.length = (vmul z.2[j] (-1)).length := by rw [vmul_len, hpm.len, hl]
      have hv : ∀ s, s < n → gt (vadd row (vmul z.2[j] (-1))) s = gt row s - gt z.2[j] s := fun s hs => by rw [gt_vadd hvl (by omega), gt_vmul]; omega
      have e := sum_set (d := -1) h1
      have hin := ih (vadd row (vmul z.2[j] (-1))) (ns.set j (m + -1)) (by omega) (by rw [vadd_len hvl, hl]) (fun s hs => by rw [hv s hs]; have := hle s hs; have := hpm.gt (s := s); omega)
        ⟨by rw [List.length_set]; exact ho.len, fun x hx => by
          rcases List.mem_or_eq_of_mem_set hx with w | w
          · exact ho.nn x w
          · omega, fun s hs => by rw [hv s hs, lin_set hp h1, ho.sum s hs]; omega⟩
      obtain ⟨r', hr', hs'⟩ := hc _ hin _ (List.mem_of_getElem? hp) (fun s hs => by rw [hv s hs]; have := hle s hs; omega)
      have : r' = row := gt_ext (by rw [hr r' hr', hl]) fun s hs => by rw [hs' s (by rw [hr r' hr'] at hs; exact hs), hv s (by rw [hr r' hr'] at hs; exact hs)]; omega
      rw [← this]; exact hr'
theorem s_line_orders {n : Nat} {z : LineT} {most : Nat} {P : List (List Int) → Prop} {PE : Ex → Prop} (hz : Ln' n z) (hm : most < 1000) (hs : (most + 1) ^ n < 10000) (h : ∀ l : List (List Int), l.length ≤ 10000 → Srt l → (∀ r, r ∈ l ↔ Reach n z most r) → P l) : m__law_line_orders z most P PE := by
  unfold m__law_line_orders
  have h3 := hz.n1
  have e1 : dmerge [] [(z.1, true)] = [(z.1, true)] := by simp [dmerge, dput]
  dsimp only [W.bind, W.pure]
  rw [e1]
  have hbase : Rb n z most z.1 := ⟨hz.len, .inl rfl, List.replicate z.2.length 0, by simp, fun m hm => by rw [(List.mem_replicate.mp hm).2]; exact Int.le_refl _, fun s _ => by rw [lin_zero (fun m hm => (List.mem_replicate.mp hm).2)]; omega⟩
  have few : ∀ f : List (List Int), f.Nodup → (∀ r ∈ f, Rb n z most r) → f.length ≤ (most + 1) ^ n + 1 := fun f nd hr => by
    have h1 := rows_few (n := n) (B := most) (l := f.erase z.1) (List.Nodup.sublist List.erase_sublist nd) fun v hv => by
      obtain ⟨h1, h2⟩ := (List.Nodup.mem_erase_iff nd).mp hv
      have hv' := hr v h2
      have hle := hv'.le.resolve_left h1
      refine ⟨hv'.len, fun x hx => ?_⟩
      obtain ⟨s, hs, rfl⟩ := mem_gt hx
      have hs' : s < n := by rw [hv'.len] at hs; exact hs
      exact ⟨(show Reach n z most v from ⟨hv'.len, hle, hv'.of⟩).nn hz s hs', hle s hs'⟩
    by_cases hb : z.1 ∈ f
    · rw [List.length_erase_of_mem hb] at h1; omega
    · rw [List.erase_of_not_mem hb] at h1; omega
  refine ⟨fun st => st.1.Nodup ∧ (∀ r ∈ st.1, Rb n z most r) ∧ st.2.2.map Prod.fst = st.1 ∧ z.1 ∈ st.1 ∧ (0 ≤ st.2.1 ∧ st.2.1 ≤ st.1.length) ∧
      ∀ (i : Nat) r, (i : Int) < st.2.1 → st.1[i]? = some r → ∀ p ∈ z.2, (∀ s, s < n → gt r s + gt p s ≤ most) → ∃ r' ∈ st.1, ∀ s, s < n → gt r' s = gt r s + gt p s,
    fun st => (most + 1) ^ n + 1 - st.2.1.toNat, ⟨by simp, fun r hr => by rw [List.mem_singleton.mp hr]; exact hbase, rfl, List.mem_cons_self, ⟨Int.le_refl _, by simp⟩, fun i r hi => absurd (show (i : Int) < 0 from hi) (by omega)⟩, ?_⟩
  rintro ⟨found, at_, known⟩ ⟨nd, hr, hk, hb, ⟨ha0, ha1⟩, hc⟩
  dsimp only at nd hr hk hb ha0 ha1 hc
  have hf := few found nd hr
  by_cases hat : at_ < (found.length : Int)
  · show (if decide (at_ < (found.length : Int)) = true then _ else _ : Prop)
    rw [decide_eq_true hat]
    rw [if_pos rfl]
    have hlt : at_.toNat < found.length := by omega
    have hat2 : ((at_.toNat : Nat) : Int) = at_ := Int.toNat_of_nonneg ha0
    have hrow : found[at_.toNat]? = some found[at_.toNat] := List.getElem?_eq_getElem hlt
    have hrr := hr _ (List.mem_of_getElem? hrow)
    generalize found[at_.toNat] = r at hrow hrr
    refine fold_ok (fun i (s4 : List (List Int) × List (List Int × Bool)) => s4.1.Nodup ∧ (∀ r ∈ s4.1, Rb n z most r) ∧ s4.2.map Prod.fst = s4.1 ∧ (∃ ext, s4.1 = found ++ ext) ∧ ∀ j p, j < i → z.2[j]? = some p → (∀ s, s < n → gt r s + gt p s ≤ most) → ∃ r' ∈ s4.1, ∀ s, s < n → gt r' s = gt r s + gt p s)
      ⟨nd, hr, hk, ⟨[], by simp⟩, fun j p hj => (nomatch hj)⟩ (fun i p s4 Q hp hI hQ => ?_) (fun s4 hI => ?_)
    · obtain ⟨f2, k2⟩ := s4
      obtain ⟨nd2, hr2, hk2, ⟨ext, hx⟩, hc2⟩ := hI
      dsimp only at nd2 hr2 hk2 hx hc2
      have hpk := hz.pks p (List.mem_of_getElem? hp)
      have hf2 := few f2 nd2 hr2
      refine ⟨r, by rw [← hat2]; exact atI_nat (by rw [hx, List.getElem?_append_left hlt]; exact hrow), ?_⟩
      have hvl : r.length = p.length := by rw [hrr.len, hpk.len]
      refine s_lplus (by rw [hrr.len]; omega) ?_
      have hv : ∀ s, s < n → gt (vadd r p) s = gt r s + gt p s := fun s hs => gt_vadd hvl (by rw [hrr.len]; exact hs)
      have hvn : (vadd r p).length = n := by rw [vadd_len hvl, hrr.len]
      have hne : vadd r p ≠ [] := fun e => by rw [e] at hvn; simp at hvn; omega
      have skip : (¬ (∀ s, s < n → gt r s + gt p s ≤ most) ∨ vadd r p ∈ f2) → Q (f2, k2) := fun hh => hQ _ ⟨nd2, hr2, hk2, ⟨ext, hx⟩, fun j p' hj hp' hle => by
        by_cases e : j = i
        · subst e
          rw [hp] at hp'; cases hp'
          rcases hh with hh | hh
          · exact absurd hle hh
          · exact ⟨_, hh, hv⟩
        · exact hc2 j p' (by omega) hp' hle⟩
      refine if_ok (fun hh => ?_) (fun hh => ?_)
      · refine ⟨by omega, ?_⟩
        refine if_ok (fun hmx => ?_) (fun hmx => ?_)
        · have hmx := of_decide_eq_true hmx
          have hnot : vadd r p ∉ f2 := fun hin => by
            have : dhas k2 (vadd r p) = true := dhas_iff.mpr (by rw [hk2]; exact hin)
            rw [this] at hh; cases hh
          have hle : ∀ s, s < n → gt (vadd r p) s ≤ most := fun s hs => Int.le_trans (le_mxI (gt_mem (by omega))) hmx
          have hkl : k2.length = f2.length := by rw [← hk2, List.length_map]
          have hd : dhas k2 (vadd r p) = false := by simpa using hh
          refine ⟨by show k2.length < 1000000; omega, ?_⟩
          refine ⟨by show f2.length < 1000000; omega, ?_⟩
          show Q (f2 ++ [vadd r p], dput k2 (vadd r p) true)
          rw [dput_new hd]
          refine hQ _ ⟨List.nodup_append.mpr ⟨nd2, by simp, fun a ha b hb e => by simp at hb; subst hb; subst e; exact hnot ha⟩, fun r2 hr2' => ?_, by rw [List.map_append, hk2]; rfl, ⟨ext ++ [vadd r p], by rw [← List.append_assoc, ← hx]⟩, fun j p' hj hp' hle' => ?_⟩
          · rcases List.mem_append.mp hr2' with w | w
            · exact hr2 r2 w
            · rw [List.mem_singleton.mp w]
              obtain ⟨ns, ho⟩ := hrr.of
              have hil : i < z.2.length := by
                rcases Nat.lt_or_ge i z.2.length with w | w
                · exact w
                · rw [List.getElem?_eq_none w] at hp; cases hp
              have hin : i < ns.length := by rw [ho.len]; exact hil
              have hni : ns[i]? = some ns[i] := List.getElem?_eq_getElem hin
              refine ⟨hvn, .inr hle, ns.set i (ns[i] + 1), by rw [List.length_set]; exact ho.len, fun m hm' => ?_, fun s hs => ?_⟩
              · rcases List.mem_or_eq_of_mem_set hm' with w | w
                · exact ho.nn m w
                · have := ho.nn _ (List.mem_of_getElem? hni); omega
              · rw [hv s hs, lin_set hp hni, ho.sum s hs]; omega
          · by_cases e : j = i
            · subst e
              rw [hp] at hp'; cases hp'
              exact ⟨_, List.mem_append_right _ List.mem_cons_self, hv⟩
            · obtain ⟨r', hr', hs'⟩ := hc2 j p' (by omega) hp' hle'
              exact ⟨r', List.mem_append_left _ hr', hs'⟩
        · have hmx : ¬ mxI (vadd r p) ≤ most := of_decide_eq_false hmx
          refine skip (.inl fun hle => hmx ?_)
          obtain ⟨s, hs, e⟩ := mem_gt (mxI_mem hne)
          rw [← e, hv s (by omega)]
          exact hle s (by omega)
      · have hd : dhas k2 (vadd r p) = true := by simpa using hh
        have hd' := dhas_iff.mp hd
        rw [hk2] at hd'
        exact skip (.inr hd')
    · obtain ⟨f2, k2⟩ := s4
      obtain ⟨nd2, hr2, hk2, ⟨ext, hx⟩, hc2⟩ := hI
      dsimp only at nd2 hr2 hk2 hx hc2
      have hf2 := few f2 nd2 hr2
      have hll : f2.length = found.length + ext.length := by rw [hx, List.length_append]
      refine ⟨⟨nd2, hr2, hk2, by show z.1 ∈ f2; rw [hx]; exact List.mem_append_left _ hb, ⟨by show 0 ≤ at_ + 1; omega, by show at_ + 1 ≤ (f2.length : Int); omega⟩, fun i r2 hi h2 p hp hle => ?_⟩, ?_⟩
      · have hi : (i : Int) < at_ + 1 := hi
        have h2 : f2[i]? = some r2 := h2
        by_cases e : i = at_.toNat
        · subst e
          rw [hx, List.getElem?_append_left hlt, hrow] at h2
          cases h2
          obtain ⟨j, hj⟩ := List.mem_iff_getElem?.mp hp
          have hjl : j < z.2.length := by
            rcases Nat.lt_or_ge j z.2.length with w | w
            · exact w
            · rw [List.getElem?_eq_none w] at hj; cases hj
          exact hc2 j p hjl hj hle
        · rw [hx, List.getElem?_append_left (by omega)] at h2
          obtain ⟨r', hr', hs'⟩ := hc i r2 (by omega) h2 p hp hle
          exact ⟨r', by show r' ∈ f2; rw [hx]; exact List.mem_append_left _ hr', hs'⟩
      · show (most + 1) ^ n + 1 - (at_ + 1).toNat < (most + 1) ^ n + 1 - at_.toNat
        omega
  · show (if decide (at_ < (found.length : Int)) = true then _ else _ : Prop)
    rw [decide_eq_false hat]
    rw [if_neg (by decide)]
    have hmem : ∀ row, Reach n z most row → row ∈ found := fun row hrow => by
      obtain ⟨ns, ho⟩ := hrow.of
      refine reach_all (most := most) hz hb (fun r hr' => (hr r hr').len) (fun r hr' p hp hle => ?_) _ row ns rfl hrow.len hrow.le ho
      obtain ⟨i, hi⟩ := List.mem_iff_getElem?.mp hr'
      have hil : i < found.length := by
        rcases Nat.lt_or_ge i found.length with w | w
        · exact w
        · rw [List.getElem?_eq_none w] at hi; cases hi
      exact hc i r (by omega) hi p hp hle
    refine lc_detF (fun x => decide (mxI x ≤ most)) (fun x => x) (by show found.length < 1000000; omega) (fun x hx Q q => ?_) (fun x _ _ Q q => q) ?_
    · have hxl := (hr x hx).len
      exact ⟨by omega, q⟩
    · have ef : (found.filter fun x => decide (mxI x ≤ most)).map (fun x => x) = found.filter fun x => decide (mxI x ≤ most) := List.map_id' _
      rw [ef]
      have fl : (found.filter fun x => decide (mxI x ≤ most)).length ≤ found.length := List.length_filter_le _ _
      refine ⟨⟨by omega, fun x hx e => by have := (hr x (List.mem_filter.mp hx).1).len; rw [e] at this; simp at this; omega⟩, ?_⟩
      refine h _ (by rw [srtR_len]; omega) (srt_srtR (nd.filter _)) fun row => ?_
      rw [srtR_mem, List.mem_filter, decide_eq_true_iff]
      refine ⟨fun ⟨h1, h2⟩ => ⟨(hr row h1).len, fun s hs => Int.le_trans (le_mxI (gt_mem (by rw [(hr row h1).len]; exact hs))) h2, (hr row h1).of⟩, fun h1 => ⟨hmem row h1, ?_⟩⟩
      have hne : row ≠ [] := fun e => by have := h1.len; rw [e] at this; simp at this; omega
      obtain ⟨s, hs, e⟩ := mem_gt (mxI_mem hne)
      rw [← e]; exact h1.le s (by rw [h1.len] at hs; exact hs)
end MW

/-! pB: what packs make (spans), the packs that are no sums of others (atoms). -/
namespace MW
open PySem PySem.Spec PyProof.Rows L2 GB
open GX (srtR leR)
def zr (n : Nat) : List Int := List.replicate n 0
theorem zr_len {n : Nat} : (zr n).length = n := by simp [zr]
theorem gt_zr {n s : Nat} : gt (zr n) s = 0 := gt_zeros
theorem vadd_zr {n : Nat} {v : List Int} (h : v.length = n) : vadd v (zr n) = v := gt_ext (vadd_len (by rw [h, zr_len])) fun s hs => by
  have hs' : s < v.length := by rw [vadd_len (by rw [h, zr_len])] at hs; exact hs
  rw [gt_vadd (by rw [h, zr_len]) hs', gt_zr]; omega
theorem vadd_comm {a b : List Int} (h : a.length = b.length) : vadd a b = vadd b a := gt_ext (by rw [vadd_len h, vadd_len h.symm, h]) fun s hs => by
  have hs' : s < a.length := by rw [vadd_len h] at hs; exact hs
  rw [gt_vadd h hs', gt_vadd h.symm (by omega)]; omega
theorem vadd_assoc {a b c : List Int} (h : a.length = b.length) (k : b.length = c.length) : vadd (vadd a b) c = vadd a (vadd b c) := by
  have e1 := vadd_len h; have e2 := vadd_len k
  refine gt_ext (by rw [vadd_len (by omega), e1, vadd_len (by omega)]) fun s hs => ?_
  have hs' : s < a.length := by rw [vadd_len (by omega), e1] at hs; exact hs
  rw [gt_vadd (by omega) (by omega), gt_vadd h hs', gt_vadd (by omega) hs', gt_vadd k (by omega)]; omega
theorem vadd_cancel {a b c : List Int} (h1 : a.length = b.length) (h2 : a.length = c.length) (h : vadd a b = vadd a c) : b = c := gt_ext (by omega) fun s hs => by
  have := congrArg (fun v => gt v s) h
  have this : gt (vadd a b) s = gt (vadd a c) s := this
  rw [gt_vadd h1 (by omega), gt_vadd h2 (by omega)] at this; omega
/-- what the packs S make -/
inductive Span (n : Nat) (S : List (List Int)) : List Int → Prop
  | zero : Span n S (zr n)
  | add {p v : List Int} : p ∈ S → Span n S v → Span n S (vadd p v)
section
variable {n : Nat} {S T : List (List Int)} {u v p : List Int}
theorem Span.len (hS : ∀ p ∈ S, p.length = n) (h : Span n S v) : v.length = n := by
  induction h with
  | zero => exact zr_len
  | add hp _ ih => rw [vadd_len (by rw [hS _ hp, ih]), hS _ hp]
theorem Span.nn (hS : ∀ p ∈ S, Pk n p) (h : Span n S v) : ∀ s, s < n → 0 ≤ gt v s := by
  induction h with
  | zero => intro s _; rw [gt_zr]; exact Int.le_refl _
  | @add p w hp hw ih =>
    intro s hs
    have hl := hw.len (fun p hp => (hS p hp).len)
    rw [gt_vadd (by rw [(hS p hp).len, hl]) (by rw [(hS p hp).len]; exact hs)]
    have := (hS p hp).gt (s := s); have := ih s hs; omega
theorem Span.mono (hs : ∀ p ∈ S, Span n T p) (hT : ∀ p ∈ T, p.length = n) (h : Span n S v) : Span n T v ∧ True := by
  suffices key : ∀ {u w}, Span n T u → Span n T w → Span n T (vadd u w) by
    refine ⟨?_, trivial⟩
    induction h with
    | zero => exact .zero
    | add hp _ ih => exact key (hs _ hp) ih
  intro u w hu hw
  induction hu with
  | zero =>
    have hl := hw.len hT
    rw [vadd_comm (by rw [zr_len, hl]), vadd_zr hl]; exact hw
  | @add p x hp hx ih =>
    have hl := hw.len hT; have hl2 := hx.len hT
    rw [vadd_assoc (by rw [hT p hp, hl2]) (by rw [hl, hl2])]
    exact .add hp ih
theorem Span.one (hT : ∀ p ∈ T, p.length = n) (h : p ∈ T) : Span n T p := by
  have := Span.add (n := n) h .zero
  rw [vadd_zr (hT p h)] at this; exact this
theorem Span.sub (hT : ∀ p ∈ T, p.length = n) (hs : ∀ p ∈ S, p ∈ T) (h : Span n S v) : Span n T v := (h.mono (fun p hp => Span.one hT (hs p hp)) hT).1
theorem Span.plus (hS : ∀ p ∈ S, p.length = n) (hu : Span n S u) (hv : Span n S v) : Span n S (vadd u v) := by
  induction hu with
  | zero =>
    have hl := hv.len hS
    rw [vadd_comm (by rw [zr_len, hl]), vadd_zr hl]; exact hv
  | @add p x hp hx ih =>
    have hl := hv.len hS; have hl2 := hx.len hS
    rw [vadd_assoc (by rw [hS p hp, hl2]) (by rw [hl, hl2])]
    exact .add hp ih
/-! by numbers -/
theorem span_of_ns (hS : ∀ p ∈ S, p.length = n) : ∀ {ns : List Int}, ns.length = S.length → (∀ m ∈ ns, 0 ≤ m) → ∀ v : List Int, v.length = n → (∀ s, s < n → gt v s = lin S ns s) → Span n S v := by
  suffices key : ∀ (N : Nat) (ns : List Int), ns.sum.toNat = N → ns.length = S.length → (∀ m ∈ ns, 0 ≤ m) → ∀ v : List Int, v.length = n → (∀ s, s < n → gt v s = lin S ns s) → Span n S v from fun {ns} => key _ ns rfl
  intro N
  induction N with
  | zero =>
    intro ns hN hl hn v hv h
    rcases sum_pos hn with h0 | ⟨j, m, h1, h2⟩
    · have : v = zr n := gt_ext (by rw [hv, zr_len]) fun s hs => by rw [h s (by omega), lin_zero h0, gt_zr]
      rw [this]; exact .zero
    · exfalso
      have e := sum_set (d := -m) h1
      have := sum_nonneg (ns := ns.set j (m + -m)) (fun x hx => by
        rcases List.mem_or_eq_of_mem_set hx with w | w
        · exact hn x w
        · omega)
      omega
  | succ N ih =>
    intro ns hN hl hn v hv h
    rcases sum_pos hn with h0 | ⟨j, m, h1, h2⟩
    · have : v = zr n := gt_ext (by rw [hv, zr_len]) fun s hs => by rw [h s (by omega), lin_zero h0, gt_zr]
      rw [this]; exact .zero
    · have hj : j < S.length := by
        rw [← hl]
        rcases Nat.lt_or_ge j ns.length with w | w
        · exact w
        · rw [List.getElem?_eq_none w] at h1; cases h1
      have hp : S[j]? = some S[j] := List.getElem?_eq_getElem hj
      have hpl := hS _ (List.mem_of_getElem? hp)
      have hvl : v.length = (vmul S[j] (-1)).length := by rw [vmul_len, hpl, hv]
      have hw : ∀ s, s < n → gt (vadd v (vmul S[j] (-1))) s = gt v s - gt S[j] s := fun s hs => by rw [gt_vadd hvl (by omega), gt_vmul]; omega
      have hwl : (vadd v (vmul S[j] (-1))).length = n := by rw [vadd_len hvl, hv]
      have e := sum_set (d := -1) h1
      have := ih (ns.set j (m + -1)) (by omega) (by rw [List.length_set]; exact hl) (fun x hx => by
          rcases List.mem_or_eq_of_mem_set hx with w | w
          · exact hn x w
          · omega) _ hwl fun s hs => by rw [hw s hs, lin_set hp h1, h s hs]; omega
      have e2 : v = vadd S[j] (vadd v (vmul S[j] (-1))) := gt_ext (by rw [vadd_len (by rw [hpl, hwl]), hpl, hv]) fun s hs => by
        rw [gt_vadd (by rw [hpl, hwl]) (by omega), hw s (by omega)]; omega
      rw [e2]; exact .add (List.mem_of_getElem? hp) this
theorem Span.ns (hS : ∀ p ∈ S, p.length = n) (h : Span n S v) : ∃ ns : List Int, ns.length = S.length ∧ (∀ m ∈ ns, 0 ≤ m) ∧ ∀ s, s < n → gt v s = lin S ns s := by
  induction h with
  | zero => exact ⟨List.replicate S.length 0, by simp, fun m hm => by rw [(List.mem_replicate.mp hm).2]; exact Int.le_refl _, fun s _ => by rw [gt_zr, lin_zero (fun m hm => (List.mem_replicate.mp hm).2)]⟩
  | @add p w hp hw ih =>
    obtain ⟨ns, h1, h2, h3⟩ := ih
    obtain ⟨j, hj, ej⟩ := List.mem_iff_getElem.mp hp
    have hj' : j < ns.length := by omega
    have a1 : S[j]? = some p := by rw [List.getElem?_eq_getElem hj, ej]
    have a2 : ns[j]? = some ns[j] := List.getElem?_eq_getElem hj'
    refine ⟨ns.set j (ns[j] + 1), by rw [List.length_set]; exact h1, fun x hx => ?_, fun s hs => ?_⟩
    · rcases List.mem_or_eq_of_mem_set hx with w | w
      · exact h2 x w
      · have := h2 _ (List.getElem_mem hj'); omega
    · have hl := hw.len hS
      rw [gt_vadd (by rw [hS p hp, hl]) (by rw [hS p hp]; exact hs), lin_set a1 a2, h3 s hs]; omega
theorem span_iff (hS : ∀ p ∈ S, p.length = n) : Span n S v ↔ v.length = n ∧ ∃ ns : List Int, ns.length = S.length ∧ (∀ m ∈ ns, 0 ≤ m) ∧ ∀ s, s < n → gt v s = lin S ns s :=
  ⟨fun h => ⟨h.len hS, h.ns hS⟩, fun ⟨h1, ns, h2, h3, h4⟩ => span_of_ns hS h2 h3 v h1 h4⟩
/-! sums of all counts -/
theorem sum_vadd : ∀ {a b : List Int}, a.length = b.length → (vadd a b).sum = a.sum + b.sum
  | [], [], _ => rfl
  | x :: a, y :: b, h => by
    have := sum_vadd (a := a) (b := b) (by simpa using h)
    unfold vadd at *
    rw [List.zip_cons_cons, List.map_cons, List.sum_cons, this, List.sum_cons, List.sum_cons]
    show x + y + _ = _
    omega
  | [], _ :: _, h => by simp at h
  | _ :: _, [], h => by simp at h
theorem sum_nn {a : List Int} (h : ∀ s, s < a.length → 0 ≤ gt a s) : 0 ≤ a.sum := sum_nonneg fun m hm => by
  obtain ⟨s, hs, e⟩ := mem_gt hm
  rw [← e]; exact h s hs
theorem sum_zero {a : List Int} (h : ∀ s, s < a.length → 0 ≤ gt a s) (h0 : a.sum ≤ 0) : a = zr a.length := by
  rcases sum_pos (ns := a) (fun m hm => by
      obtain ⟨s, hs, e⟩ := mem_gt hm
      rw [← e]; exact h s hs) with z | ⟨j, m, h1, h2⟩
  · refine gt_ext zr_len.symm fun s hs => ?_
    rw [gt_zr]; exact z _ (gt_mem hs)
  · exfalso
    have e := sum_set (d := -m) h1
    have := sum_nonneg (ns := a.set j (m + -m)) (fun x hx => by
      rcases List.mem_or_eq_of_mem_set hx with w | w
      · obtain ⟨s, hs, e⟩ := mem_gt w
        rw [← e]; exact h s hs
      · omega)
    omega
theorem Pk.sum {p : List Int} (h : Pk n p) : 0 < p.sum := by
  rcases Int.lt_or_le 0 p.sum with z | z
  · exact z
  · have e := sum_zero (fun s _ => h.gt) z
    obtain ⟨x, hx, hx0⟩ := h.pos
    rw [e] at hx
    have := (List.mem_replicate.mp hx).2
    omega
theorem Pk.nz {p : List Int} (h : Pk n p) : p ≠ zr n := fun e => by
  obtain ⟨x, hx, hx0⟩ := h.pos
  rw [e] at hx
  have := (List.mem_replicate.mp hx).2
  omega
/-! atoms -/
def Atom (n : Nat) (S : List (List Int)) (p : List Int) : Prop := ∀ u v, Span n S u → Span n S v → p = vadd u v → u = zr n ∨ v = zr n
theorem Atom.congr (h : ∀ v, Span n S v ↔ Span n T v) : Atom n S p ↔ Atom n T p :=
  ⟨fun a u v hu hv => a u v ((h u).mpr hu) ((h v).mpr hv), fun a u v hu hv => a u v ((h u).mp hu) ((h v).mp hv)⟩
/-- an atom that is made is a pack -/
theorem Atom.mem (hS : ∀ p ∈ S, Pk n p) (a : Atom n S p) (h : Span n S p) (nz : p ≠ zr n) : p ∈ S := by
  cases h with
  | zero => exact absurd rfl nz
  | @add q v hq hv =>
    have hl : ∀ p ∈ S, p.length = n := fun p hp => (hS p hp).len
    rcases a q v (Span.one hl hq) hv rfl with e | e
    · exact absurd e (hS q hq).nz
    · rw [e, vadd_zr (hl q hq)]; exact hq
/-- without a pack, or with it once at least -/
theorem span_split (hS : ∀ p ∈ S, p.length = n) {p : List Int} (hp : p.length = n) (h : Span n S v) : Span n (S.filter fun q => !decide (q = p)) v ∨ ∃ w, Span n S w ∧ v = vadd p w := by
  induction h with
  | zero => exact .inl .zero
  | @add q w hq hw ih =>
    by_cases e : q = p
    · exact .inr ⟨w, hw, by rw [e]⟩
    · rcases ih with ih | ⟨x, hx, ex⟩
      · exact .inl (.add (List.mem_filter.mpr ⟨hq, by simp [e]⟩) ih)
      · refine .inr ⟨vadd q x, .add hq hx, ?_⟩
        have l1 := hS q hq; have l2 := hx.len hS
        rw [ex, ← vadd_assoc (by omega) (by omega), vadd_comm (a := q) (by omega), vadd_assoc (by omega) (by omega)]
theorem vadd_zero_right {a b : List Int} (h : a.length = n) (k : b.length = n) (ha : ∀ s, s < n → 0 ≤ gt a s) (hb : ∀ s, s < n → 0 ≤ gt b s) (e : vadd a b = zr n) : a = zr n ∧ b = zr n := by
  have key : ∀ s, s < n → gt a s + gt b s = 0 := fun s hs => by
    have : gt (vadd a b) s = gt (zr n) s := by rw [e]
    rw [gt_vadd (by omega) (by omega), gt_zr] at this; exact this
  exact ⟨gt_ext (by rw [h, zr_len]) fun s hs => by have := key s (by omega); have := ha s (by omega); have := hb s (by omega); rw [gt_zr]; omega,
    gt_ext (by rw [k, zr_len]) fun s hs => by have := key s (by omega); have := ha s (by omega); have := hb s (by omega); rw [gt_zr]; omega⟩
/-- a pack is a sum of the others exactly if it is no atom -/
theorem atom_iff (hS : ∀ p ∈ S, Pk n p) (hp : p ∈ S) : Span n (S.filter fun q => !decide (q = p)) p ↔ ¬ Atom n S p := by
  have hl : ∀ p ∈ S, p.length = n := fun p hp => (hS p hp).len
  have hpl := hl p hp
  have sub : ∀ v, Span n (S.filter fun q => !decide (q = p)) v → Span n S v := fun v h => h.sub hl fun q hq => (List.mem_filter.mp hq).1
  refine ⟨fun h a => ?_, fun h => ?_⟩
  · have nz := (hS p hp).nz
    have key : ∀ (F : List (List Int)), (∀ q ∈ F, q ∈ S ∧ q ≠ p) → ∀ p', Span n F p' → p = p' → False := fun F hF p' h e => by
      cases h with
      | zero => exact nz e
      | @add q v hq hv =>
        obtain ⟨h1, h2⟩ := hF q hq
        rcases a q v (Span.one hl h1) (hv.sub hl fun q hq => (hF q hq).1) e with z | z
        · exact (hS q h1).nz z
        · rw [z, vadd_zr (hl q h1)] at e
          exact h2 e.symm
    exact key _ (fun q hq => ⟨(List.mem_filter.mp hq).1, by simpa using (List.mem_filter.mp hq).2⟩) p h rfl
  · have : ∃ u v, Span n S u ∧ Span n S v ∧ p = vadd u v ∧ u ≠ zr n ∧ v ≠ zr n := by
      apply Classical.byContradiction
      intro hc
      refine h fun u v hu hv e => ?_
      by_cases h1 : u = zr n
      · exact .inl h1
      · by_cases h2 : v = zr n
        · exact .inr h2
        · exact absurd ⟨u, v, hu, hv, e, h1, h2⟩ hc
    obtain ⟨u, v, hu, hv, e, nu, nv⟩ := this
    have lu := hu.len hl; have lv := hv.len hl
    have side : ∀ u v, Span n S u → Span n S v → p = vadd u v → v ≠ zr n → Span n (S.filter fun q => !decide (q = p)) u := fun u v hu hv e nv => by
      rcases span_split hl hpl hu with z | ⟨w, hw, ew⟩
      · exact z
      · exfalso
        have lw := hw.len hl; have lv := hv.len hl
        have e2 : vadd p (zr n) = vadd p (vadd w v) := by
          rw [vadd_zr hpl, ← vadd_assoc (by omega) (by omega), ← ew]; exact e
        have e3 := vadd_cancel (by rw [hpl, zr_len]) (by rw [vadd_len (by omega)]; omega) e2
        exact nv (vadd_zero_right lw lv (hw.nn hS) (hv.nn hS) e3.symm).2
    have s1 := side u v hu hv e nv
    have s2 := side v u hv hu (by rw [e, vadd_comm (by omega)]) nu
    have := Span.plus (fun q hq => hl q (List.mem_filter.mp hq).1) s1 s2
    rw [← e] at this; exact this
/-- the atoms make all -/
theorem span_atoms (hS : ∀ p ∈ S, Pk n p) (hT : ∀ p ∈ T, p.length = n) (hA : ∀ p ∈ S, Atom n S p → p ∈ T) : ∀ v, Span n S v → Span n T v := by
  have hl : ∀ p ∈ S, p.length = n := fun p hp => (hS p hp).len
  have key : ∀ (N : Nat) v, Span n S v → v.sum.toNat ≤ N → Span n T v := by
    intro N
    induction N with
    | zero =>
      intro v h hs
      have hv := h.len hl
      have := sum_zero (a := v) (fun s hs => h.nn hS s (by omega)) (by omega)
      rw [this, hv]; exact .zero
    | succ N ih =>
      intro v h hs
      cases h with
      | zero => exact .zero
      | @add p w hp hw =>
        have hpl := hl p hp; have hwl := hw.len hl
        have sv := sum_vadd (a := p) (b := w) (by omega)
        have ps := (hS p hp).sum
        have ws := sum_nn (a := w) (fun s hs => hw.nn hS s (by omega))
        by_cases a : Atom n S p
        · exact .add (hA p hp a) (ih w hw (by omega))
        · have := (atom_iff hS hp).mpr a
          have : ∃ u v, Span n S u ∧ Span n S v ∧ p = vadd u v ∧ u ≠ zr n ∧ v ≠ zr n := by
            apply Classical.byContradiction
            intro hc
            refine a fun u v hu hv e => ?_
            by_cases h1 : u = zr n
            · exact .inl h1
            · by_cases h2 : v = zr n
              · exact .inr h2
              · exact absurd ⟨u, v, hu, hv, e, h1, h2⟩ hc
          obtain ⟨x, y, hx, hy, e, nx, ny⟩ := this
          have lx := hx.len hl; have ly := hy.len hl
          have pos : ∀ z, Span n S z → z ≠ zr n → 0 < z.sum := fun z hz nz => by
            rcases Int.lt_or_le 0 z.sum with q | q
            · exact q
            · have lz := hz.len hl
              have := sum_zero (a := z) (fun s hs => hz.nn hS s (by omega)) q
              rw [lz] at this; exact absurd this nz
          have px := pos x hx nx; have py := pos y hy ny
          have sp := sum_vadd (a := x) (b := y) (by omega)
          rw [← e] at sp
          have hyw := hy.plus hl hw
          have syw := sum_vadd (a := y) (b := w) (by omega)
          have t1 := ih x hx (by omega)
          have t2 := ih (vadd y w) hyw (by omega)
          have := t1.plus hT t2
          rw [← vadd_assoc (by omega) (by omega), ← e] at this; exact this
  exact fun v h => key _ v h (Nat.le_refl _)
/-- the packs that are atoms -/
structure LeanOf (n : Nat) (S T : List (List Int)) : Prop where
  srt : Srt T
  mem : ∀ p, p ∈ T ↔ p ∈ S ∧ Atom n S p
theorem LeanOf.pk (h : LeanOf n S T) (hS : ∀ p ∈ S, Pk n p) : ∀ p ∈ T, Pk n p := fun p hp => hS p ((h.mem p).mp hp).1
theorem LeanOf.span (h : LeanOf n S T) (hS : ∀ p ∈ S, Pk n p) : ∀ v, Span n T v ↔ Span n S v := fun v =>
  ⟨fun z => z.sub (fun p hp => (hS p hp).len) fun p hp => ((h.mem p).mp hp).1, span_atoms hS (fun p hp => (h.pk hS p hp).len) (fun p hp a => (h.mem p).mpr ⟨hp, a⟩) v⟩
/-- lines with the same sums have the same atoms -/
theorem LeanOf.same {S' T' : List (List Int)} (h : LeanOf n S T) (h' : LeanOf n S' T') (hS : ∀ p ∈ S, Pk n p) (hS' : ∀ p ∈ S', Pk n p) (e : ∀ v, Span n S v ↔ Span n S' v) : T = T' := by
  refine h.srt.ext h'.srt fun p => ?_
  rw [h.mem, h'.mem]
  have sub : ∀ {A B : List (List Int)}, (∀ p ∈ A, Pk n p) → (∀ p ∈ B, Pk n p) → (∀ v, Span n A v ↔ Span n B v) → p ∈ A ∧ Atom n A p → p ∈ B ∧ Atom n B p := fun {A B} hA hB e ⟨h1, h2⟩ => by
    have a := (Atom.congr e).mp h2
    exact ⟨a.mem hB ((e p).mp (Span.one (fun p hp => (hA p hp).len) h1)) (hA p h1).nz, a⟩
  exact ⟨sub hS hS' e, sub hS' hS fun v => (e v).symm⟩
theorem LeanOf.again (h : LeanOf n S T) (hS : ∀ p ∈ S, Pk n p) : LeanOf n T T := ⟨h.srt, fun p => ⟨fun hp => ⟨hp, (Atom.congr (h.span hS)).mpr ((h.mem p).mp hp).2⟩, fun hp => hp.1⟩⟩
/-! orders of a line -/
def Ord (n : Nat) (z : LineT) (row : List Int) : Prop := ∃ v, Span n z.2 v ∧ row = vadd z.1 v
theorem ord_iff {z : LineT} (hb : z.1.length = n) (hS : ∀ p ∈ z.2, p.length = n) {row : List Int} : Ord n z row ↔ row.length = n ∧ ∃ ns, Of n z row ns := by
  refine ⟨fun ⟨v, hv, e⟩ => ?_, fun ⟨hl, ns, h⟩ => ?_⟩
  · have lv := hv.len hS
    obtain ⟨ns, h1, h2, h3⟩ := hv.ns hS
    refine ⟨by rw [e, vadd_len (by omega), hb], ns, h1, h2, fun s hs => ?_⟩
    rw [e, gt_vadd (by omega) (by omega), h3 s hs]
  · have hvl : row.length = (vmul z.1 (-1)).length := by rw [vmul_len]; omega
    have hw : ∀ s, s < n → gt (vadd row (vmul z.1 (-1))) s = gt row s - gt z.1 s := fun s hs => by rw [gt_vadd hvl (by omega), gt_vmul]; omega
    have hwl : (vadd row (vmul z.1 (-1))).length = n := by rw [vadd_len hvl, hl]
    refine ⟨_, span_of_ns hS h.len h.nn _ hwl fun s hs => by rw [hw s hs, h.sum s hs]; omega, gt_ext (by rw [vadd_len (by omega)]; omega) fun s hs => ?_⟩
    rw [gt_vadd (by omega) (by omega), hw s (by omega)]; omega
end
end MW

/-! pC: lean lines; the law's own look at sums of packs. -/
namespace MW
open PySem PySem.Spec PyProof.Rows L2 GB
open GX (srtR leR)
instance {l : List (List Int)} : Decidable (Asc l) := by unfold Asc; infer_instance
theorem s_dice {l : List Int} {at_ : Int} {P : List Int → Prop} {PE : Ex → Prop} (ha : 0 ≤ at_ ∧ at_ < 1000) (h : ∀ x y, P [x, y, 0]) : m__law_dice l at_ P PE := by
  unfold m__law_dice
  refine ⟨.inl ⟨by decide, by decide⟩, ?_⟩
  have rest : ∀ (c : Int) (X : Int → W (List Int)), (∀ c, X c P PE) → X c P PE := fun c X hX => hX c
  have fin : ∀ c : Int, (W.bind (W.bind (W.bind (W.grd (0 ≤ (60 : Int) ∧ (Builtin.Int.intBits (10 : Int) : Int) * (60 : Int) ≤ 2 ^ 27) ((10 : Int) ^ ((60 : Int)).toNat)) fun y2 => (W.grd (0 ≤ (10 : Int) ∧ (Builtin.Int.intBits y2 : Int) * (10 : Int) ≤ 2 ^ 27) (y2 ^ ((10 : Int)).toNat))) fun y3 => (W.grd (0 < y3) ((if c < 0 then -c else c) % y3))) fun x_great => W.bind (W.bind (W.grd (0 ≤ (18 : Int) ∧ (Builtin.Int.intBits (10 : Int) : Int) * (18 : Int) ≤ 2 ^ 27) ((10 : Int) ^ ((18 : Int)).toNat)) fun y4 => (W.grd (CDivW x_great y4) (x_great / y4))) fun x_left => W.bind (W.bind (W.bind (W.bind (W.bind (W.grd (0 < (2147483353 : Int)) (x_great % (2147483353 : Int))) fun y5 => (W.grd (CMul y5 (47237 : Int)) (y5 * (47237 : Int)))) fun y6 => (W.bind (W.grd (CMul (3571 : Int) at_) ((3571 : Int) * at_)) fun y7 => (W.pure (y6 + y7)))) fun y8 => (W.bind (W.grd (CMul (53 : Int) (if (decide (c < (0 : Int))) = true then (1 : Int) else 0)) ((53 : Int) * (if (decide (c < (0 : Int))) = true then (1 : Int) else 0))) fun y9 => (W.pure (y8 + y9)))) fun y10 => (W.pure (y10 + (71 : Int)))) fun x_mixed => (W.bind (W.grd (0 < (2147483323 : Int)) (x_mixed % (2147483323 : Int))) fun y11 => (W.pure [x_left, y11, (0 : Int)])) : W (List Int)) P PE := fun c => by
    refine ⟨⟨by decide, by decide +kernel⟩, ⟨by decide, by decide +kernel⟩, by decide +kernel, ⟨by decide, by decide +kernel⟩, ?_⟩
    refine ⟨⟨by decide +kernel, by decide +kernel⟩, by decide, .inr ⟨by decide, by decide⟩, .inl ⟨by decide, by decide⟩, .inl ⟨by decide, by decide⟩, by decide, ?_⟩
    exact h _ _
  refine if_ok (fun hc => ?_) (fun _ => fin _)
  have hc : at_ < (l.length : Int) := of_decide_eq_true hc
  have hlt : at_.toNat < l.length := by omega
  refine ⟨l[at_.toNat], ?_, fin _⟩
  have e : ((at_.toNat : Nat) : Int) = at_ := Int.toNat_of_nonneg ha.1
  have h5 : atI l ((at_.toNat : Nat) : Int) = some l[at_.toNat] := atI_nat (by simp [hlt])
  rw [e] at h5
  exact h5
theorem ddp_len : ∀ l : List (List Int), (ddp l).length ≤ l.length
  | [] => Nat.le_refl _
  | x :: l => by
    unfold ddp
    have := ddp_len l
    by_cases h : x ∈ l
    · rw [if_pos h, List.length_cons]; omega
    · rw [if_neg h, List.length_cons, List.length_cons]; omega
theorem setOk_of {l : List (List Int)} (h : l.length < 64) : SetOk l := ⟨by omega, by have := ddp_len l; omega⟩
/-- rows of n numbers up to B -/
theorem setOk_rows {l : List (List Int)} {n B : Nat} (hl : l.length ≤ 1000000) (h : ∀ r ∈ l, r.length = n ∧ ∀ x ∈ r, 0 ≤ x ∧ x ≤ (B : Int)) (hB : (B + 1) ^ n ≤ 2000) : SetOk l := ⟨hl, Nat.le_trans (rows_few nd_ddp fun v hv => h v (mem_ddp.mp hv)) hB⟩
theorem srtOk_of {l : List (List Int)} {n : Nat} {B : Int} (hn : 1 ≤ n) (hB : 0 ≤ B) (h : ∀ r ∈ l, r.length = n ∧ ∀ x ∈ r, 0 ≤ x ∧ x < B) : SrtOk l := fun r hr e => by have := (h r hr).1; rw [e] at this; simp at this; omega
theorem srtOk_len {l : List (List Int)} {n : Nat} (hn : 1 ≤ n) (h : ∀ r ∈ l, r.length = n) : SrtOk l := fun r hr e => by have := h r hr; rw [e] at this; simp at this; omega
theorem s_line_in {n : Nat} {base : List Int} {packs : List (List Int)} {P : LineT → Prop} {PE : Ex → Prop} (hn : 1 ≤ n) (hp : ∀ p ∈ packs, p.length = n ∧ ∀ x ∈ p, 0 ≤ x ∧ x < 1000000) (hl : packs.length < 64) (h : P (base, srtS (packs.filter fun p => decide (0 < mxI p)))) : m_line_in base packs P PE := by
  unfold m_line_in
  refine lc_detF (fun p => decide (0 < mxI p)) (fun p => p) (by omega) (fun p hx Q q => ⟨by rw [(hp p hx).1]; omega, q⟩) (fun _ _ _ _ q => q) ?_
  rw [List.map_id']
  have hf := List.length_filter_le (fun p => decide (0 < mxI p)) packs
  exact ⟨setOk_of (by omega), srtOk_of (n := n) (B := 1000000) hn (by decide) fun r hr => hp r (List.mem_filter.mp hr).1, h⟩

theorem foldF_ok2 {α s ρ : Type} {PE : Ex → Prop} {body : s → α → W (W.Fl ρ s)} {xs : List α} {st : s} {P : ρ ⊕ s → Prop} (I : Nat → s → Prop) (Rr : ρ → Prop) (h0 : I 0 st) (step : ∀ i x st Q, xs[i]? = some x → I i st → (∀ st', I (i + 1) st' → Q (.nx st')) → (∀ r, Rr r → Q (.rt r)) → body st x Q PE) (hr : ∀ r, Rr r → P (.inl r)) (h : ∀ st, I xs.length st → P (.inr st)) : W.foldF body xs st P PE := by
  have key : ∀ (n k : Nat), xs.length - k = n → ∀ (st : s), k ≤ xs.length → I k st → W.foldF body (xs.drop k) st P PE := by
    intro n
    induction n with
    | zero =>
      intro k hn st hk hI
      have e : k = xs.length := by omega
      subst e
      rw [List.drop_length]; exact h st hI
    | succ n ih =>
      intro k hn st hk hI
      have hlt : k < xs.length := by omega
      rw [List.drop_eq_getElem_cons hlt]
      exact step k xs[k] st _ (by simp [hlt]) hI (fun st' h' => ih (k + 1) (by omega) st' (by omega) h') fun r hr' => hr r hr'
  have := key _ 0 rfl st (Nat.zero_le _) h0
  simpa using this
theorem lt_of_get {α : Type} {l : List α} {i : Nat} {x : α} (h : l[i]? = some x) : i < l.length := by
  rcases Nat.lt_or_ge i l.length with z | z
  · exact z
  · rw [List.getElem?_eq_none z] at h; cases h
theorem enm_get {α : Type} {l : List α} {i : Nat} {q : Int × α} (h : (enm l)[i]? = some q) : ∃ x, l[i]? = some x ∧ q = ((i : Int), x) := by
  have hi := lt_of_get h
  rw [enm_len] at hi
  have h1 := enm_at (l := l) (i := i) (x := l[i]) (by simp [hi])
  rw [h1] at h
  exact ⟨l[i], by simp [hi], (Option.some.inj h).symm⟩
theorem others_mem {l : List (List Int)} (nd : l.Nodup) {i : Nat} {p q : List Int} (h : l[i]? = some p) : q ∈ l.take i ++ l.drop (i + 1) ↔ q ∈ l ∧ q ≠ p := by
  have hi := lt_of_get h
  have e : l = l.take i ++ p :: l.drop (i + 1) := by
    have : l[i] = p := by rw [List.getElem?_eq_getElem hi] at h; exact Option.some.inj h
    rw [← this, ← List.drop_eq_getElem_cons hi, List.take_append_drop]
  generalize l.take i = a at e
  generalize l.drop (i + 1) = b at e
  subst e
  obtain ⟨_, h2, h3⟩ := List.nodup_append.mp nd
  have h4 := (List.nodup_cons.mp h2).1
  simp only [List.mem_append, List.mem_cons]
  constructor
  · rintro (z | z)
    · exact ⟨.inl z, fun e => h3 q z p List.mem_cons_self e⟩
    · exact ⟨.inr (.inr z), fun e => h4 (e ▸ z)⟩
  · rintro ⟨z | z | z, hne⟩
    · exact .inl z
    · exact absurd z hne
    · exact .inr z
open Classical in
noncomputable def atoms (n : Nat) (S : List (List Int)) : List (List Int) := S.filter fun p => decide (Atom n S p)
open Classical in
theorem mem_atoms {n : Nat} {S : List (List Int)} {p : List Int} : p ∈ atoms n S ↔ p ∈ S ∧ Atom n S p := by unfold atoms; rw [List.mem_filter, decide_eq_true_iff]
open Classical in
theorem srt_atoms {n : Nat} {S : List (List Int)} (h : Srt S) : Srt (atoms n S) := h.filter _
theorem leanOf_atoms {n : Nat} {S : List (List Int)} (h : Srt S) : LeanOf n S (atoms n S) := ⟨srt_atoms h, fun _ => mem_atoms⟩
theorem Pk.mx {n : Nat} {p : List Int} (h : Pk n p) : 0 < mxI p := by
  obtain ⟨x, hx, hx0⟩ := h.pos
  have := le_mxI hx; omega
open Classical in
theorem s_lean {n B : Nat} {z : LineT} {P : LineT → Prop} {PE : Ex → Prop} (hz : Ln' n z) (hs : Srt z.2) (hl : z.2.length < 64) (hB : (B + 1) ^ n < 900000 ∧ B < 100000) (hp : ∀ p ∈ z.2, ∀ x ∈ p, x ≤ (B : Int)) (h : P (z.1, atoms n z.2)) : m_Line_lean z P PE := by
  unfold m_Line_lean m_lean_in
  have h3 := hz.n1
  refine fold_ok (fun i (kept : List (List Int)) => kept = (z.2.take i).filter fun p => decide (Atom n z.2 p)) (by simp) (fun i q kept Q hq hI hQ => ?_) (fun kept hI => ?_)
  · obtain ⟨p, hp1, rfl⟩ := enm_get hq
    have hi := lt_of_get hp1
    have hpm := List.mem_of_getElem? hp1
    have hpk := hz.pks p hpm
    have e1 : cut z.2 none (some (i : Int)) = z.2.take i := cut_take
    have e2 : cut z.2 (some ((i : Int) + 1)) none = z.2.drop (i + 1) := cut_drop (k := i + 1)
    dsimp only [W.bind, W.pure]
    rw [e1, e2]
    have hlen : (z.2.take i ++ z.2.drop (i + 1)).length ≤ z.2.length := by rw [List.length_append, List.length_take, List.length_drop]; omega
    refine ⟨by rw [← List.length_append]; omega, ?_⟩
    have hoth : ∀ q, q ∈ z.2.take i ++ z.2.drop (i + 1) ↔ q ∈ z.2 ∧ q ≠ p := fun q => others_mem hs.nd hp1
    generalize z.2.take i ++ z.2.drop (i + 1) = oth at hlen hoth
    have hok : ∀ q ∈ oth, Pk n q := fun q hq => hz.pks q ((hoth q).mp hq).1
    refine ⟨⟨⟨by show 1 ≤ (p.length : Int); rw [hpk.len]; omega, by show (p.length : Int) ≤ 1000; rw [hpk.len]; omega⟩, by simp, by simp⟩, ?_⟩
    refine s_leftovers (n := n) (B := B) (by omega) (by omega) hok hpk.len (fun s hs' => ⟨hpk.gt, hp p hpm _ (gt_mem (by rw [hpk.len]; exact hs'))⟩) hB fun D hS hC => ?_
    have ez : (List.replicate ((p.length : Int)).toNat [(0 : Int)]).flatten = zr n := by rw [hpk.len, zeros]; rfl
    rw [ez]
    have hsp : dhas D (zr n) = true ↔ ¬ Atom n z.2 p := by
      rw [← atom_iff hz.pks hpm, dhas_iff]
      have hl2 : ∀ q ∈ oth, q.length = n := fun q hq => (hok q hq).len
      have e3 : Span n (z.2.filter fun q => !decide (q = p)) p ↔ Span n oth p := by
        have m : ∀ q, q ∈ (z.2.filter fun q => !decide (q = p)) ↔ q ∈ oth := fun q => by rw [hoth, List.mem_filter]; simp
        exact ⟨fun x => x.sub hl2 fun q hq => (m q).mp hq, fun x => x.sub (fun q hq => hl2 q ((m q).mp hq)) fun q hq => (m q).mpr hq⟩
      rw [e3, span_iff hl2]
      have tk : oth.take oth.length = oth := List.take_length
      constructor
      · intro hm
        obtain ⟨q, hq, e⟩ := List.mem_map.mp hm
        obtain ⟨a1, a2, a3, a4⟩ := hS.at_ q hq
        refine ⟨hpk.len, q.2, a2, a3, fun s hs' => ?_⟩
        have := (a4 s hs').2
        rw [e, gt_zr, tk] at this; omega
      · rintro ⟨_, ns, b1, b2, b3⟩
        obtain ⟨q, hq, hqs⟩ := hC ns b1 b2 (fun s hs' => by rw [tk, b3 s hs']; omega)
        obtain ⟨a1, _⟩ := hS.at_ q hq
        refine List.mem_map.mpr ⟨q, hq, gt_ext (by rw [a1, zr_len]) fun s hs' => ?_⟩
        rw [hqs s (by omega), tk, b3 s (by omega), gt_zr]; omega
    have htk := take_next hp1
    have hkl : kept.length ≤ 64 := by
      rw [hI]
      refine Nat.le_trans (List.length_filter_le _ _) ?_
      rw [List.length_take]; omega
    by_cases ha : Atom n z.2 p
    · have e4 : dhas D (zr n) = false := by
        cases e : dhas D (zr n) with
        | false => rfl
        | true => exact absurd ha (hsp.mp e)
      refine if_ok (fun _ => ⟨by omega, hQ _ ?_⟩) (fun hc => by rw [e4] at hc; cases hc)
      rw [htk, List.filter_append, hI]; simp [ha]
    · have e4 := hsp.mpr ha
      refine if_ok (fun hc => by rw [e4] at hc; cases hc) (fun _ => hQ _ ?_)
      rw [htk, List.filter_append, hI]; simp [ha]
  · rw [enm_len, List.take_length] at hI
    have hI : kept = atoms n z.2 := hI
    subst hI
    have hk : ∀ p ∈ atoms n z.2, Pk n p := fun p hp => hz.pks p (mem_atoms.mp hp).1
    refine s_line_in (n := n) (by omega) (fun p hp => ⟨(hk p hp).len, (hk p hp).nn⟩) (Nat.lt_of_le_of_lt (List.length_filter_le _ _) hl) ?_
    have : (atoms n z.2).filter (fun p => decide (0 < mxI p)) = atoms n z.2 := List.filter_eq_self.2 fun p hp => decide_eq_true (hk p hp).mx
    rw [this, srt_id (srt_atoms hs)]; exact h
/-! the law's look at sums -/
theorem span_nil {n : Nat} {v : List Int} : Span n [] v ↔ v = zr n := by
  constructor
  · intro h
    cases h with
    | zero => rfl
    | add hp _ => cases hp
  · intro h
    rw [h]; exact .zero
theorem vmul_zero {n : Nat} {p : List Int} (h : p.length = n) : vmul p 0 = zr n := gt_ext (by rw [vmul_len, h, zr_len]) fun s _ => by rw [gt_vmul, gt_zr]; omega
/-- the first pack so often, the others the rest -/
theorem span_cons {n : Nat} {p : List Int} {S : List (List Int)} {v : List Int} (hS : ∀ q ∈ p :: S, q.length = n) (hv : v.length = n) : Span n (p :: S) v ↔ ∃ m : Nat, Span n S (vadd v (vmul p (-(m : Int)))) := by
  have hpl := hS p List.mem_cons_self
  have hS' : ∀ q ∈ S, q.length = n := fun q hq => hS q (List.mem_cons_of_mem _ hq)
  rw [span_iff hS]
  have len : ∀ m : Int, (vadd v (vmul p m)).length = n := fun m => by rw [vadd_len (by rw [vmul_len]; omega), hv]
  have val : ∀ (m : Int) s, s < n → gt (vadd v (vmul p m)) s = gt v s + gt p s * m := fun m s hs => by rw [gt_vadd (by rw [vmul_len]; omega) (by omega), gt_vmul]
  constructor
  · rintro ⟨_, ns, h1, h2, h3⟩
    match ns, h1, h2, h3 with
    | m :: ns, h1, h2, h3 =>
      have hm := h2 m List.mem_cons_self
      refine ⟨m.toNat, span_of_ns hS' (ns := ns) (by simpa using h1) (fun x hx => h2 x (List.mem_cons_of_mem _ hx)) _ (len _) fun s hs => ?_⟩
      rw [val _ s hs, Int.toNat_of_nonneg hm, h3 s hs, lin_cons, Int.mul_neg, Int.mul_comm]; omega
  · rintro ⟨m, h⟩
    obtain ⟨ns, h1, h2, h3⟩ := h.ns hS'
    refine ⟨hv, (m : Int) :: ns, by simp [h1], fun x hx => ?_, fun s hs => ?_⟩
    · rcases List.mem_cons.mp hx with e | hx
      · omega
      · exact h2 x hx
    · have := h3 s hs
      rw [val _ s hs, Int.mul_neg, Int.mul_comm] at this
      rw [lin_cons]; omega
/-- what the k-th level of _law_line_has tells -/
def LH (n k : Nat) (f : List (List Int) → List Int → W Bool) : Prop := ∀ (packs : List (List Int)) (rest : List Int) (P : Bool → Prop) (PE : Ex → Prop), packs.length ≤ k + 1 → (∀ p ∈ packs, Pk n p) → rest.length = n → (∀ s, s < n → gt rest s < 100000) → (∀ b, (b = true ↔ Span n packs rest) → P b) → f packs rest P PE
theorem lh_step {n k : Nat} {f F : List (List Int) → List Int → W Bool} {X : List (List Int) → List Int → Int → W Bool} (h3 : 1 ≤ n ∧ n ≤ 3) (hf : ∀ k', k' < k → LH n k' f) (hX : 1 ≤ k → X = fun x_packs x_rest x_turn => (W.bind (W.bind (W.bind (W.get (atI x_packs (0 : Int))) fun y11 => (m__law_often y11 (-x_turn))) fun y12 => (m__law_plus x_rest y12)) fun y13 => (f (cut x_packs (some (1 : Int)) none) y13))) (hF : ∀ x_packs x_rest, F x_packs x_rest = (W.ite (W.bind (W.grd (0 < x_rest.length) (mnI x_rest)) fun y1 => (W.pure (decide (y1 < (0 : Int))))) ((W.pure false)) (W.ite (W.bind (W.bind (W.grd (0 < x_rest.length) (mxI x_rest)) fun y2 => (W.pure (decide (y2 = (0 : Int))))) fun y3 => (W.pure (y3 || (decide (x_packs = ([] : (List (List Int)))))))) ((W.bind (W.grd (0 < x_rest.length) (mxI x_rest)) fun y4 => (W.pure (decide (y4 = (0 : Int)))))) (W.bind (W.bind (W.bind (W.bind (W.get (atI x_packs (0 : Int))) fun y5 => (W.pure (enm y5))) fun y7 => (W.lc (fun (q1 : (Int × Int)) => (W.pure (decide ((0 : Int) < q1.2)))) (fun (q1 : (Int × Int)) => (W.bind (W.get (atI x_rest q1.1)) fun y6 => (W.grd (CDiv y6 q1.2) (y6 / q1.2)))) y7)) fun y8 => (W.grd (0 < y8.length) (mnI y8))) fun x_number => W.ite (W.pure (decide ((x_packs.length : Int) = (1 : Int)))) ((W.bind (W.bind (W.get (atI x_packs (0 : Int))) fun y9 => (m__law_often y9 x_number)) fun y10 => (W.pure (decide (x_rest = y10))))) (W.bind (W.grd (-1000000 < (x_number + (1 : Int)) ∧ (x_number + (1 : Int)) < 1000000) (rng 0 (x_number + (1 : Int)))) fun l14 => W.bind (W.foldF (fun (_ : Unit) => fun (x_turn : Int) => W.ite (X x_packs x_rest x_turn) ((W.bind (W.pure true) fun z => W.pure (W.Fl.rt z))) (W.pure (W.Fl.nx ()))) l14 ()) (fun o15 => match o15 with | .inl r => W.pure r | .inr z => (fun (_ : Unit) => (W.pure false)) z)))))) : LH n k F := by
  intro packs rest P PE hk hp hl hB h
  rw [hF packs rest]
  have hne : rest ≠ [] := fun e => by rw [e] at hl; simp at hl; omega
  have hpl : ∀ p ∈ packs, p.length = n := fun p hq => (hp p hq).len
  refine ⟨by omega, ?_⟩
  refine if_ok (fun hc => ?_) (fun hc => ?_)
  · have hc := of_decide_eq_true hc
    refine h false ⟨fun e => (nomatch e), fun hsp => ?_⟩
    obtain ⟨s, hs, e⟩ := mem_gt (mnI_mem hne)
    have := hsp.nn hp s (by omega)
    omega
  · have hc : ¬ mnI rest < 0 := of_decide_eq_false hc
    have h0 : ∀ s, s < n → 0 ≤ gt rest s := fun s hs => by have := mnI_le (gt_mem (v := rest) (s := s) (by omega)); omega
    refine ⟨by omega, ?_⟩
    have hz : mxI rest = 0 ↔ rest = zr n := by
      constructor
      · intro e
        refine gt_ext (by rw [hl, zr_len]) fun s hs => ?_
        have := le_mxI (gt_mem hs); have := h0 s (by omega); rw [gt_zr]; omega
      · intro e
        obtain ⟨s, hs, e2⟩ := mem_gt (mxI_mem hne)
        rw [e] at e2
        rw [e, ← e2, gt_zr]
    refine if_ok (fun hc => ?_) (fun hc => ?_)
    · refine ⟨by omega, h _ ?_⟩
      rw [decide_eq_true_iff, hz]
      simp only [Bool.or_eq_true, decide_eq_true_eq] at hc
      rcases hc with e | e
      · have e := hz.mp e
        exact ⟨fun _ => e ▸ .zero, fun _ => e⟩
      · rw [e, span_nil]
    · simp only [Bool.or_eq_false_iff, decide_eq_false_iff_not] at hc
      obtain ⟨c1, c2⟩ := hc
      match packs, hk, hp, hpl, h, c2 with
      | p :: ps, hk, hp, hpl, h, _ =>
        have hpk := hp p List.mem_cons_self
        have a0 : atI (p :: ps) (0 : Int) = some p := atI_nat (j := 0) rfl
        refine ⟨p, a0, ?_⟩
        show m_most_often rest p _ PE
        refine s_most_often (B := 100000) hpk (by omega) hl (fun s hs => ⟨h0 s hs, by have := hB s hs; omega⟩) fun t ht0 htB ht1 ht2 => ?_
        have vlen : ∀ m : Int, (vadd rest (vmul p m)).length = n := fun m => by rw [vadd_len (by rw [vmul_len, hpk.len]; omega), hl]
        have vval : ∀ (m : Int) s, s < n → gt (vadd rest (vmul p m)) s = gt rest s + gt p s * m := fun m s hs => by rw [gt_vadd (by rw [vmul_len, hpk.len]; omega) (by omega), gt_vmul]
        refine if_ok (fun hc => ?_) (fun hc => ?_)
        · have hc := of_decide_eq_true hc
          have : ps = [] := by
            rw [List.length_cons] at hc
            exact List.eq_nil_of_length_eq_zero (by omega)
          subst this
          refine ⟨p, a0, ?_⟩
          refine s_often (by rw [hpk.len]; omega) ⟨by omega, by omega⟩ (h _ ?_)
          rw [decide_eq_true_iff, span_cons hpl hl]
          constructor
          · intro e
            refine ⟨t.toNat, span_nil.mpr (gt_ext (by rw [vlen, zr_len]) fun s hs => ?_)⟩
            rw [vval _ s (by rw [vlen] at hs; exact hs), e, gt_vmul, Int.toNat_of_nonneg ht0, gt_zr, Int.mul_neg]; omega
          · rintro ⟨m, hm⟩
            have hm := span_nil.mp hm
            have e1 : ∀ s, s < n → gt rest s = gt p s * (m : Int) := fun s hs => by
              have := vval (-(m : Int)) s hs
              rw [hm, gt_zr, Int.mul_neg] at this; omega
            have m1 := ht2 (m : Int) (fun s hs => by rw [e1 s hs, Int.mul_comm]; exact Int.le_refl _)
            obtain ⟨x, hx, hx0⟩ := hpk.pos
            obtain ⟨s, hs, ex⟩ := mem_gt hx
            have m2 := ht1 t (Int.le_refl _) s (by rw [hpk.len] at hs; exact hs)
            rw [e1 s (by rw [hpk.len] at hs; exact hs), Int.mul_comm (gt p s)] at m2
            have m3 : t ≤ m := by
              rcases Int.lt_or_le (m : Int) t with w | w
              · exfalso
                have : (m : Int) * gt p s < t * gt p s := Int.mul_lt_mul_of_pos_right w (by omega)
                omega
              · exact w
            refine gt_ext (by rw [vmul_len, hpk.len, hl]) fun s hs => ?_
            have : t = (m : Int) := by omega
            rw [gt_vmul, e1 s (by omega), this]
        · have hc : ¬ (((p :: ps).length : Nat) : Int) = 1 := of_decide_eq_false hc
          rw [List.length_cons] at hc hk
          refine ⟨⟨by omega, by omega⟩, ?_⟩
          have hps : ∀ q ∈ ps, Pk n q := fun q hq => hp q (List.mem_cons_of_mem _ hq)
          refine foldF_ok2 (fun i _ => ∀ m : Nat, m < i → ¬ Span n ps (vadd rest (vmul p (-(m : Int))))) (fun r => r = true ∧ Span n (p :: ps) rest) (fun m hm => (nomatch hm)) (fun i x st Q hx hI hQ hR => ?_) (fun r hr => h r ⟨fun _ => hr.2, fun _ => hr.1⟩) (fun st hI => ?_)
          · have hx2 := mem_rng.mp (List.mem_of_getElem? hx)
            have hxi : x = (i : Int) := by
              have hi := lt_of_get hx
              rw [rng_len] at hi
              rw [rng_at hi] at hx
              have := Option.some.inj hx; omega
            subst hxi
            rw [hX (by omega)]
            refine ⟨p, a0, ?_⟩
            refine s_often (by rw [hpk.len]; omega) ⟨by omega, by omega⟩ ?_
            refine s_lplus (by omega) ?_
            have ec : cut (p :: ps) (some (1 : Int)) none = ps := cut_drop (k := 1)
            rw [ec]
            have hpk0 : ∀ s, 0 ≤ gt p s := fun s => hpk.gt
            refine hf (k - 1) (by omega) ps _ _ PE (by omega) hps (vlen _) (fun s hs => ?_) fun b hb => ?_
            · rw [vval _ s hs, Int.mul_neg]
              have := Int.mul_nonneg (hpk0 s) (by omega : (0 : Int) ≤ (i : Int))
              have := hB s hs; omega
            · refine if_ok (fun e => hR true ⟨rfl, ?_⟩) (fun e => hQ () fun m hm => ?_)
              · exact (span_cons hpl hl).mpr ⟨i, hb.mp e⟩
              · by_cases e2 : m = i
                · subst e2
                  exact fun z => by rw [hb.mpr z] at e; cases e
                · exact hI m (by omega)
          · refine h false ⟨fun e => (nomatch e), fun hsp => ?_⟩
            obtain ⟨m, hm⟩ := (span_cons hpl hl).mp hsp
            refine absurd hm (hI m ?_)
            rw [rng_len]
            have := ht2 (m : Int) fun s hs => by
              have := hm.nn hps s hs
              rw [vval _ s hs, Int.mul_neg, Int.mul_comm] at this; omega
            omega
      | [], _, _, _, _, c2 => exact absurd rfl c2
theorem s_lh0 {n : Nat} (h3 : 1 ≤ n ∧ n ≤ 3) : LH n 0 m__law_line_has0 := lh_step (f := fun _ _ => W.stuck) (X := fun _ _ _ => W.stuck) h3 (fun _ h => (nomatch h)) (fun h => (nomatch h)) (fun _ _ => rfl)
theorem s_lh1 {n : Nat} (h3 : 1 ≤ n ∧ n ≤ 3) : LH n 1 m__law_line_has1 := lh_step (f := m__law_line_has0) h3 (fun k' h => by
  obtain rfl : k' = 0 := by omega
  exact s_lh0 h3) (fun _ => rfl) (fun _ _ => rfl)
theorem LH.le {n k k' : Nat} {f : List (List Int) → List Int → W Bool} (h : LH n k f) (l : k' ≤ k) : LH n k' f := fun a b P PE c => h a b P PE (by omega)
theorem s_lh2 {n : Nat} (h3 : 1 ≤ n ∧ n ≤ 3) : LH n 2 m__law_line_has2 := lh_step (f := m__law_line_has1) h3 (fun k' h => (s_lh1 h3).le (by omega)) (fun _ => rfl) (fun _ _ => rfl)
end MW

/-! pD: lines put together and changed. -/
namespace MW
open PySem PySem.Spec PyProof.Rows L2 GB
open GX (srtR leR)
theorem srtS_eq {l t : List (List Int)} (h : Srt t) (h1 : ∀ x ∈ t, x ∈ l) (h2 : ∀ x ∈ l, x ∈ t) : srtS l = t := srt_srtS.ext h fun x => by rw [mem_srtS]; exact ⟨h2 x, h1 x⟩
theorem srtS_len {l : List (List Int)} : (srtS l).length ≤ l.length := nd_sub srt_srtS.nd fun x hx => mem_srtS.mp hx
theorem s_has {n B : Nat} {z : LineT} {row : List Int} {P : Bool → Prop} {PE : Ex → Prop} (hz : Ln' n z) (hl : row.length = n) (h0 : ∀ x ∈ row, 0 ≤ x) (hB : ∀ s, s < n → gt row s ≤ (B : Int)) (hs : (B + 1) ^ n < 900000 ∧ B < 100000) (h : ∀ b, (b = true ↔ Ord n z row) → P b) : m_Line___contains__ z row P PE := by
  refine s_contains hz hl h0 hB hs fun o ho => h _ ?_
  rw [ord_iff hz.len (fun p hp => (hz.pks p hp).len)]
  cases o with
  | none => exact ⟨fun e => (nomatch e), fun ⟨_, ns, e⟩ => absurd e (ho ns)⟩
  | some ns => exact ⟨fun _ => ⟨hl, ns, ho⟩, fun _ => rfl⟩
theorem six {n : Nat} (hn : 1 ≤ n ∧ n ≤ 3) : (6 : Int) / (n : Int) ≤ 6 ∧ 0 ≤ (6 : Int) / (n : Int) := ⟨Int.ediv_le_self _ (by omega), Int.ediv_nonneg (by omega) (by omega)⟩
theorem pow_le_of {n B : Nat} (hn : n ≤ 3) (h : (B + 1) ^ 3 < 900000) : (B + 1) ^ n < 900000 := Nat.lt_of_le_of_lt (Nat.pow_le_pow_right (by omega) hn) h
theorem Pl.srt {n : Nat} {z : LineT} (h : Pl n z) : Srt z.2 := srt_asc.mp h.asc
/-- a line as it is kept, with counts of at most C -/
structure Wl (n C : Nat) (z : LineT) : Prop extends Ln' n z where
  srt : Srt z.2
  few60 : z.2.length ≤ 60
  topb : ∀ x ∈ z.1, x ≤ (C : Int)
  topp : ∀ p ∈ z.2, ∀ x ∈ p, x ≤ (C : Int)
theorem Pl.wl {n : Nat} {z : LineT} (h : Pl n z) : Wl n 9 z := { toLn' := h.toLn', srt := h.srt, few60 := by have := h.few3; omega, topb := h.b9, topp := fun p hp x hx => by have := h.p6 p hp x hx; have := (six h.n1).1; omega }
theorem Wl.mono {n C D : Nat} {z : LineT} (h : Wl n C z) (l : C ≤ D) : Wl n D z := { h with topb := fun x hx => by have := h.topb x hx; omega, topp := fun p hp x hx => by have := h.topp p hp x hx; omega }
theorem filter_pos {n : Nat} {S : List (List Int)} (h : ∀ p ∈ S, Pk n p) : S.filter (fun p => decide (0 < mxI p)) = S := List.filter_eq_self.2 fun p hp => decide_eq_true (h p hp).mx
theorem s_line_inT {n : Nat} {base : List Int} {packs : List (List Int)} {P : LineT → Prop} {PE : Ex → Prop} (hn : 1 ≤ n) (hp : ∀ p ∈ packs, p.length = n ∧ ∀ x ∈ p, 0 ≤ x ∧ x < 1000000) (hl : packs.length ≤ 2000) (h : P (base, srtS (packs.filter fun p => decide (0 < mxI p)))) : m_line_inT base packs P PE := by
  unfold m_line_inT
  refine lc_detF (fun p => decide (0 < mxI p)) (fun p => p) (by omega) (fun p hx Q q => ⟨by rw [(hp p hx).1]; omega, q⟩) (fun _ _ _ _ q => q) ?_
  rw [List.map_id']
  have hf := List.length_filter_le (fun p => decide (0 < mxI p)) packs
  exact ⟨⟨by omega, by have := ddp_len (packs.filter fun p => decide (0 < mxI p)); omega⟩, srtOk_len (n := n) hn fun r hr => (hp r (List.mem_filter.mp hr).1).1, h⟩
theorem s_line_in' {n : Nat} {base : List Int} {packs : List (List Int)} {P : LineT → Prop} {PE : Ex → Prop} (hn : 1 ≤ n) (hp : ∀ p ∈ packs, p.length = n ∧ ∀ x ∈ p, 0 ≤ x ∧ x < 1000000) (hl : packs.length ≤ 2000) (h : P (base, srtS (packs.filter fun p => decide (0 < mxI p)))) : m_line_in base packs P PE := s_line_inT hn hp hl h
/-! sums -/
def sumL (z w : LineT) : LineT := (vadd z.1 w.1, srtS (z.2 ++ w.2))
theorem Wl.sum {n C D : Nat} {z w : LineT} (hz : Wl n C z) (hw : Wl n D w) (few : z.2.length + w.2.length ≤ 60) (hC : C + D < 1000000) : Wl n (C + D) (sumL z w) := by
  have hl : z.1.length = w.1.length := by rw [hz.len, hw.len]
  have hb : ∀ x ∈ vadd z.1 w.1, 0 ≤ x ∧ x ≤ ((C + D : Nat) : Int) := fun x hx => by
    obtain ⟨s, hs, e⟩ := mem_gt hx
    rw [vadd_len hl] at hs
    rw [← e, gt_vadd hl hs]
    have a1 := hz.base _ (gt_mem (v := z.1) (s := s) hs); have a2 := hz.topb _ (gt_mem (v := z.1) (s := s) hs)
    have b1 := hw.base _ (gt_mem (v := w.1) (s := s) (by omega)); have b2 := hw.topb _ (gt_mem (v := w.1) (s := s) (by omega))
    omega
  have hm : ∀ p ∈ srtS (z.2 ++ w.2), Pk n p ∧ ∀ x ∈ p, x ≤ ((C + D : Nat) : Int) := fun p hp => by
    rcases List.mem_append.mp (mem_srtS.mp hp) with m | m
    · exact ⟨hz.pks p m, fun x hx => by have := hz.topp p m x hx; omega⟩
    · exact ⟨hw.pks p m, fun x hx => by have := hw.topp p m x hx; omega⟩
  have hll : (srtS (z.2 ++ w.2)).length ≤ 60 := by have := srtS_len (l := z.2 ++ w.2); rw [List.length_append] at this; omega
  exact { n1 := hz.n1, len := by show (vadd z.1 w.1).length = n; rw [vadd_len hl, hz.len], base := fun x hx => by have := hb x hx; omega, pks := fun p hp => (hm p hp).1, few := by show (srtS _).length ≤ 900; omega, srt := srt_srtS, few60 := hll, topb := fun x hx => (hb x hx).2, topp := fun p hp => (hm p hp).2 }
theorem s_add {n C D : Nat} {z w : LineT} {P : LineT → Prop} {PE : Ex → Prop} (hz : Wl n C z) (hw : Wl n D w) (h : P (sumL z w)) : m_Line___add__ z w P PE := by
  unfold m_Line___add__ m_require_line m_require_equal_sorts m_sum_of_lines
  have h3 := hz.n1
  have f1 := hz.few60; have f2 := hw.few60
  have hl : z.1.length = w.1.length := by rw [hz.len, hw.len]
  refine if_ok (fun hc => by cases hc) (fun _ => ?_)
  refine if_ok (fun hc => by simp [hl] at hc) (fun _ => ?_)
  refine s_plus (by rw [hz.len]; omega) ?_
  refine ⟨by omega, ?_⟩
  have hp : ∀ p ∈ z.2 ++ w.2, Pk n p := fun p hp => (List.mem_append.mp hp).elim (hz.pks p) (hw.pks p)
  refine s_line_inT (n := n) (by omega) (fun p m => ⟨(hp p m).len, (hp p m).nn⟩) (by rw [List.length_append]; omega) ?_
  rw [filter_pos hp]; exact h
theorem span_append {n : Nat} {S T : List (List Int)} (hS : ∀ p ∈ S, p.length = n) (hT : ∀ p ∈ T, p.length = n) {v : List Int} : Span n (srtS (S ++ T)) v ↔ ∃ u t, Span n S u ∧ Span n T t ∧ v = vadd u t := by
  have hst : ∀ p ∈ srtS (S ++ T), p.length = n := fun p hp => (List.mem_append.mp (mem_srtS.mp hp)).elim (hS p) (hT p)
  constructor
  · intro h
    induction h with
    | zero => exact ⟨zr n, zr n, .zero, .zero, (vadd_zr zr_len).symm⟩
    | @add p w hp hw ih =>
      obtain ⟨u, t, hu, ht, rfl⟩ := ih
      have lu := hu.len hS; have lt := ht.len hT; have lp := hst p hp
      rcases List.mem_append.mp (mem_srtS.mp hp) with m | m
      · exact ⟨vadd p u, t, .add m hu, ht, by rw [vadd_assoc (by omega) (by omega)]⟩
      · exact ⟨u, vadd p t, hu, .add m ht, by rw [← vadd_assoc (by omega) (by omega), vadd_comm (a := p) (by omega), vadd_assoc (by omega) (by omega)]⟩
  · rintro ⟨u, t, hu, ht, rfl⟩
    exact (hu.sub hst fun q hq => mem_srtS.mpr (List.mem_append_left _ hq)).plus hst (ht.sub hst fun q hq => mem_srtS.mpr (List.mem_append_right _ hq))
theorem ord_len {n : Nat} {z : LineT} (hz : Ln' n z) {r : List Int} (h : Ord n z r) : r.length = n := ((ord_iff hz.len (fun p hp => (hz.pks p hp).len)).mp h).1
theorem ord_nn {n : Nat} {z : LineT} (hz : Ln' n z) {r : List Int} (h : Ord n z r) : ∀ s, s < n → 0 ≤ gt r s := fun s hs => by
  obtain ⟨v, hv, e⟩ := h
  have lv := hv.len (fun p hp => (hz.pks p hp).len)
  rw [e, gt_vadd (by rw [hz.len, lv]) (by rw [hz.len]; exact hs)]
  have := hv.nn hz.pks s hs
  have := (hz.base _ (gt_mem (v := z.1) (s := s) (by rw [hz.len]; exact hs))).1
  omega
theorem ord_sum {n : Nat} {z w : LineT} (hz : Ln' n z) (hw : Ln' n w) {r : List Int} : Ord n (sumL z w) r ↔ ∃ a b, Ord n z a ∧ Ord n w b ∧ r = vadd a b := by
  have l1 := hz.len; have l2 := hw.len
  have hS : ∀ p ∈ z.2, p.length = n := fun p hp => (hz.pks p hp).len
  have hT : ∀ p ∈ w.2, p.length = n := fun p hp => (hw.pks p hp).len
  have mix : ∀ u t : List Int, u.length = n → t.length = n → vadd (vadd z.1 w.1) (vadd u t) = vadd (vadd z.1 u) (vadd w.1 t) := fun u t lu lt => by
    rw [vadd_assoc (by omega) (by rw [vadd_len (by omega)]; omega), ← vadd_assoc (a := w.1) (by omega) (by omega), vadd_comm (a := w.1) (b := u) (by omega), vadd_assoc (a := u) (by omega) (by omega), ← vadd_assoc (a := z.1) (by omega) (by rw [vadd_len (by omega)]; omega)]
  constructor
  · rintro ⟨v, hv, e⟩
    obtain ⟨u, t, hu, ht, rfl⟩ := (span_append hS hT).mp hv
    exact ⟨_, _, ⟨u, hu, rfl⟩, ⟨t, ht, rfl⟩, by rw [e]; exact mix u t (hu.len hS) (ht.len hT)⟩
  · rintro ⟨a, b, ⟨u, hu, rfl⟩, ⟨t, ht, rfl⟩, rfl⟩
    exact ⟨_, (span_append hS hT).mpr ⟨u, t, hu, ht, rfl⟩, (mix u t (hu.len hS) (ht.len hT)).symm⟩
theorem sum_comm {n : Nat} {z w : LineT} (hz : Ln' n z) (hw : Ln' n w) : sumL z w = sumL w z := by
  unfold sumL
  rw [vadd_comm (by rw [hz.len, hw.len])]
  congr 1
  exact srt_srtS.ext srt_srtS fun x => by rw [mem_srtS, mem_srtS]; simp [or_comm]
/-! orders up to a bound -/
theorem reach_iff {n : Nat} {z : LineT} (hz : Ln' n z) {most : Int} {r : List Int} : Reach n z most r ↔ Ord n z r ∧ ∀ s, s < n → gt r s ≤ most := by
  have key := ord_iff hz.len (fun p hp => (hz.pks p hp).len) (row := r)
  exact ⟨fun h => ⟨key.mpr ⟨h.len, h.of⟩, h.le⟩, fun ⟨h1, h2⟩ => ⟨(key.mp h1).1, h2, (key.mp h1).2⟩⟩
/-- the list that the law makes -/
structure OrdsUp (n : Nat) (z : LineT) (most : Nat) (l : List (List Int)) : Prop where
  srt : Srt l
  mem : ∀ r, r ∈ l ↔ Ord n z r ∧ ∀ s, s < n → gt r s ≤ (most : Int)
  few : l.length ≤ (most + 1) ^ n
theorem rows_nn {n B : Nat} {r : List Int} (h1 : r.length = n) (h0 : ∀ s, s < n → 0 ≤ gt r s) (h2 : ∀ s, s < n → gt r s ≤ (B : Int)) : r.length = n ∧ ∀ x ∈ r, 0 ≤ x ∧ x ≤ (B : Int) := ⟨h1, fun x hx => by
  obtain ⟨s, hs, e⟩ := mem_gt hx
  rw [← e]; exact ⟨h0 s (by omega), h2 s (by omega)⟩⟩
theorem s_ords {n : Nat} {z : LineT} {most : Nat} {P : List (List Int) → Prop} {PE : Ex → Prop} (hz : Ln' n z) (hm : most < 1000) (hs : (most + 1) ^ n < 10000) (h : ∀ l, OrdsUp n z most l → P l) : m__law_line_orders z most P PE :=
  s_line_orders hz hm hs fun l _ h1 h2 => h l (by
    have mem : ∀ r, r ∈ l ↔ Ord n z r ∧ ∀ s, s < n → gt r s ≤ (most : Int) := fun r => by rw [h2, reach_iff hz]
    exact ⟨h1, mem, rows_few h1.nd fun r hr => rows_nn (ord_len hz ((mem r).mp hr).1) (ord_nn hz ((mem r).mp hr).1) ((mem r).mp hr).2⟩)
theorem OrdsUp.row {n most : Nat} {z : LineT} {l : List (List Int)} (hz : Ln' n z) (h : OrdsUp n z most l) {r : List Int} (hr : r ∈ l) : r.length = n ∧ ∀ x ∈ r, 0 ≤ x ∧ x ≤ (most : Int) := rows_nn (ord_len hz ((h.mem r).mp hr).1) (ord_nn hz ((h.mem r).mp hr).1) ((h.mem r).mp hr).2
/-! shifted, scaled, without a sort -/
theorem s_shifted {n C : Nat} {z : LineT} {row : List Int} {P : LineT → Prop} {PE : Ex → Prop} (hz : Wl n C z) (hr : row.length = n) (h0 : ∀ x ∈ row, 0 ≤ x) (h : P (vadd z.1 row, z.2)) : m_Line_shifted z row P PE := by
  unfold m_Line_shifted m_require_order m_require_equal_sorts
  have h3 := hz.n1
  refine s_is_order (by omega) h0 ?_
  refine if_ok (fun hc => by cases hc) (fun _ => ?_)
  refine if_ok (fun hc => by simp [hz.len, hr] at hc) (fun _ => ?_)
  refine s_plus (by rw [hz.len]; omega) ?_
  refine s_line_inT (n := n) (by omega) (fun p m => ⟨(hz.pks p m).len, (hz.pks p m).nn⟩) (by have := hz.few60; omega) ?_
  rw [filter_pos hz.pks, srt_id hz.srt]; exact h
theorem Wl.shift {n C D : Nat} {z : LineT} {row : List Int} (hz : Wl n C z) (hr : row.length = n) (h0 : ∀ x ∈ row, 0 ≤ x ∧ x ≤ (D : Int)) (hC : C + D < 1000000) : Wl n (C + D) (vadd z.1 row, z.2) := by
  have hl : z.1.length = row.length := by rw [hz.len, hr]
  have hb : ∀ x ∈ vadd z.1 row, 0 ≤ x ∧ x ≤ ((C + D : Nat) : Int) := fun x hx => by
    obtain ⟨s, hs, e⟩ := mem_gt hx
    rw [vadd_len hl] at hs
    rw [← e, gt_vadd hl hs]
    have a1 := hz.base _ (gt_mem (v := z.1) (s := s) hs); have a2 := hz.topb _ (gt_mem (v := z.1) (s := s) hs)
    have b1 := h0 _ (gt_mem (v := row) (s := s) (by omega))
    omega
  exact { n1 := hz.n1, len := by show (vadd z.1 row).length = n; rw [vadd_len hl, hz.len], base := fun x hx => by have := hb x hx; omega, pks := hz.pks, few := hz.few, srt := hz.srt, few60 := hz.few60, topb := fun x hx => (hb x hx).2, topp := fun p hp x hx => by have := hz.topp p hp x hx; omega }
theorem ord_shift {n C : Nat} {z : LineT} {row r : List Int} (hz : Wl n C z) (hr : row.length = n) (h : Ord n z r) : Ord n (vadd z.1 row, z.2) (vadd r row) := by
  obtain ⟨v, hv, rfl⟩ := h
  have lv := hv.len (fun p hp => (hz.pks p hp).len)
  have lz := hz.len
  exact ⟨v, hv, by rw [vadd_assoc (by omega) (by omega), vadd_comm (a := v) (by omega), ← vadd_assoc (by omega) (by omega)]⟩
theorem lex_scale {k : Int} (hk : 0 < k) : ∀ {a b : List Int}, a < b → vmul a k < vmul b k
  | [], [], h => absurd h (List.lt_irrefl _)
  | [], y :: b, _ => List.nil_lt_cons _ _
  | x :: a, [], h => absurd h (List.not_lt_nil _)
  | x :: a, y :: b, h => by
    rcases List.cons_lt_cons_iff.mp h with e | ⟨e, h2⟩
    · exact List.cons_lt_cons_iff.mpr (.inl (Int.mul_lt_mul_of_pos_right e hk))
    · exact List.cons_lt_cons_iff.mpr (.inr ⟨by rw [e], lex_scale hk h2⟩)
theorem srt_scale {S : List (List Int)} {k : Int} (hk : 0 < k) (h : Srt S) : Srt (S.map fun p => vmul p k) := by
  unfold Srt
  rw [List.pairwise_map]
  exact h.imp fun h => lex_scale hk h
def scaleL (z : LineT) (k : Int) : LineT := (vmul z.1 k, z.2.map fun p => vmul p k)
theorem mem_vmul {p : List Int} {k x : Int} (h : x ∈ vmul p k) : ∃ y ∈ p, x = y * k := by
  obtain ⟨y, hy, e⟩ := List.mem_map.mp h
  exact ⟨y, hy, e.symm⟩
theorem Wl.scale {n C : Nat} {z : LineT} {k : Nat} (hz : Wl n C z) (hk : 1 ≤ k ∧ k ≤ 9) (hC : C < 100000) : Wl n (C * k) (scaleL z k) := by
  have hm : ∀ x : Int, 0 ≤ x → x ≤ (C : Int) → 0 ≤ x * (k : Int) ∧ x * (k : Int) ≤ ((C * k : Nat) : Int) := fun x h0 h1 => ⟨Int.mul_nonneg h0 (by omega), by rw [Int.natCast_mul]; exact Int.mul_le_mul_of_nonneg_right h1 (by omega)⟩
  have hlt : ((C * k : Nat) : Int) < 1000000 := by
    have : C * k ≤ C * 9 := Nat.mul_le_mul_left _ hk.2
    omega
  have hp : ∀ p ∈ z.2, ∀ x ∈ vmul p k, 0 ≤ x ∧ x ≤ ((C * k : Nat) : Int) := fun p hp x hx => by
    obtain ⟨y, hy, rfl⟩ := mem_vmul hx
    exact hm y ((hz.pks p hp).nn y hy).1 (hz.topp p hp y hy)
  refine { n1 := hz.n1, len := by show (vmul z.1 _).length = n; rw [vmul_len, hz.len], base := fun x hx => ?_, pks := fun q hq => ?_, few := by show (z.2.map _).length ≤ 900; rw [List.length_map]; exact hz.few, srt := srt_scale (by omega) hz.srt, few60 := by show (z.2.map _).length ≤ 60; rw [List.length_map]; exact hz.few60, topb := fun x hx => ?_, topp := fun q hq => ?_ }
  · obtain ⟨y, hy, rfl⟩ := mem_vmul hx
    have := hm y (hz.base y hy).1 (hz.topb y hy); omega
  · obtain ⟨p, hp', rfl⟩ := List.mem_map.mp hq
    have pk := hz.pks p hp'
    refine ⟨by rw [vmul_len, pk.len], fun x hx => by have := hp p hp' x hx; omega, ?_⟩
    obtain ⟨x, hx, hx0⟩ := pk.pos
    exact ⟨x * (k : Int), List.mem_map_of_mem hx, Int.mul_pos hx0 (by omega)⟩
  · obtain ⟨y, hy, rfl⟩ := mem_vmul hx
    exact (hm y (hz.base y hy).1 (hz.topb y hy)).2
  · obtain ⟨p, hp', rfl⟩ := List.mem_map.mp hq
    exact fun x hx => (hp p hp' x hx).2
theorem s_scaled {n C : Nat} {z : LineT} {k : Nat} {P : LineT → Prop} {PE : Ex → Prop} (hz : Wl n C z) (hk : 1 ≤ k ∧ k ≤ 9) (hC : C < 100000) (h : P (scaleL z k)) : m_Line_scaled z k P PE := by
  unfold m_Line_scaled m_require_scale m_scaled_in
  have h3 := hz.n1
  have hw := hz.scale hk hC
  refine s_is_integerM ?_
  refine if_ok (fun hc => by simp at hc; omega) (fun _ => ?_)
  refine s_taken (by rw [hz.len]; omega) ⟨by omega, by omega⟩ ?_
  refine lc_det (fun p => vmul p k) (by have := hz.few60; omega) (fun p hp Q q => s_taken (by rw [(hz.pks p hp).len]; omega) ⟨by omega, by omega⟩ q) ?_
  refine s_line_in' (n := n) (by omega) (fun p m => ⟨(hw.pks p m).len, (hw.pks p m).nn⟩) (by rw [List.length_map]; have := hz.few60; omega) ?_
  have e : srtS (List.filter (fun p => decide (0 < mxI p)) (List.map (fun p => vmul p (k : Int)) z.2)) = z.2.map fun p => vmul p (k : Int) := by
    have := filter_pos hw.pks
    have h2 := srt_id hw.srt
    unfold scaleL at this h2
    dsimp only at this h2
    rw [this, h2]
  rw [e]; exact h
theorem vmul_vadd {a b : List Int} {k : Int} (h : a.length = b.length) : vmul (vadd a b) k = vadd (vmul a k) (vmul b k) := gt_ext (by rw [vmul_len, vadd_len h, vadd_len (by rw [vmul_len, vmul_len, h]), vmul_len]) fun s hs => by
  rw [vmul_len, vadd_len h] at hs
  rw [gt_vmul, gt_vadd h hs, gt_vadd (by rw [vmul_len, vmul_len, h]) (by rw [vmul_len]; exact hs), gt_vmul, gt_vmul, Int.add_mul]
theorem ord_scale {n C : Nat} {z : LineT} {k : Int} {r : List Int} (hz : Wl n C z) (h : Ord n z r) : Ord n (scaleL z k) (vmul r k) := by
  obtain ⟨v, hv, rfl⟩ := h
  have hS : ∀ p ∈ z.2, p.length = n := fun p hp => (hz.pks p hp).len
  refine ⟨vmul v k, ?_, by rw [vmul_vadd (by rw [hz.len, hv.len hS])]; rfl⟩
  show Span n (z.2.map fun p => vmul p k) (vmul v k)
  induction hv with
  | zero => rw [show vmul (zr n) k = zr n from gt_ext (by rw [vmul_len]) fun s _ => by rw [gt_vmul, gt_zr]; omega]; exact .zero
  | @add p w hp hw ih =>
    rw [vmul_vadd (by rw [hS p hp, hw.len hS])]
    exact .add (List.mem_map_of_mem hp) ih
/-- without the s-th -/
def ers (v : List Int) (s : Nat) : List Int := v.take s ++ v.drop (s + 1)
theorem ers_len {v : List Int} {s n : Nat} (h : v.length = n) (hs : s < n) : (ers v s).length = n - 1 := by unfold ers; rw [List.length_append, List.length_take, List.length_drop]; omega
theorem ers_mem {v : List Int} {s : Nat} {x : Int} (h : x ∈ ers v s) : x ∈ v := (List.mem_append.mp h).elim List.mem_of_mem_take List.mem_of_mem_drop
theorem gt_ers {v : List Int} {s i : Nat} (hs : s < v.length) : gt (ers v s) i = if i < s then gt v i else gt v (i + 1) := by
  unfold gt ers
  rw [List.getD_eq_getElem?_getD, List.getD_eq_getElem?_getD, List.getD_eq_getElem?_getD, List.getElem?_append, List.length_take, Nat.min_eq_left (Nat.le_of_lt hs)]
  by_cases c : i < s
  · rw [if_pos c, if_pos c, List.getElem?_take, if_pos c]
  · rw [if_neg c, if_neg c, List.getElem?_drop]
    congr 2; omega
theorem ers_vadd {a b : List Int} {s n : Nat} (ha : a.length = n) (hb : b.length = n) (hs : s < n) : ers (vadd a b) s = vadd (ers a s) (ers b s) := by
  have l1 := ers_len ha hs; have l2 := ers_len hb hs
  have lv : (vadd a b).length = n := by rw [vadd_len (by omega), ha]
  refine gt_ext (by rw [ers_len lv hs, vadd_len (by omega), l1]) fun i hi => ?_
  rw [ers_len lv hs] at hi
  rw [gt_ers (v := vadd a b) (by omega), gt_vadd (a := ers a s) (by omega) (by omega), gt_ers (v := a) (by omega), gt_ers (v := b) (by omega)]
  by_cases c : i < s
  · rw [if_pos c, if_pos c, if_pos c, gt_vadd (by omega) (by omega)]
  · rw [if_neg c, if_neg c, if_neg c, gt_vadd (by omega) (by omega)]
def lessL (z : LineT) (s : Nat) : LineT := (ers z.1 s, srtS ((z.2.map fun p => ers p s).filter fun p => decide (0 < mxI p)))
theorem cut_ers {v : List Int} {s : Nat} : cut v none (some (s : Int)) ++ cut v (some ((s : Int) + 1)) none = ers v s := by
  rw [cut_take, show (s : Int) + 1 = ((s + 1 : Nat) : Int) by omega, cut_drop]; rfl
theorem s_cut_ers {v : List Int} {s : Nat} {P : List Int → Prop} {PE : Ex → Prop} (hl : v.length < 100000) (h : P (ers v s)) : W.grd ((cut v none (some (s : Int))).length + (cut v (some ((s : Int) + 1)) none).length ≤ 1000000) (cut v none (some (s : Int)) ++ cut v (some ((s : Int) + 1)) none) P PE := by
  refine ⟨?_, by rw [cut_ers]; exact h⟩
  rw [← List.length_append, cut_ers]
  unfold ers
  rw [List.length_append, List.length_take, List.length_drop]; omega
theorem Wl.less {n C : Nat} {z : LineT} {s : Nat} (hz : Wl n C z) (hs : s < n) (hn : 2 ≤ n) : Wl (n - 1) C (lessL z s) := by
  have h3 := hz.n1
  have hm : ∀ q, q ∈ srtS ((z.2.map fun p => ers p s).filter fun p => decide (0 < mxI p)) → Pk (n - 1) q ∧ ∀ x ∈ q, x ≤ (C : Int) := fun q hq => by
    obtain ⟨h1, h2⟩ := List.mem_filter.mp (mem_srtS.mp hq)
    obtain ⟨p, hp, rfl⟩ := List.mem_map.mp h1
    have pk := hz.pks p hp
    have ll := ers_len pk.len hs
    exact ⟨⟨ll, fun x hx => pk.nn x (ers_mem hx), ⟨mxI (ers p s), mxI_mem (fun e => by rw [e] at ll; simp at ll; omega), of_decide_eq_true h2⟩⟩, fun x hx => hz.topp p hp x (ers_mem hx)⟩
  have hl : (srtS ((z.2.map fun p => ers p s).filter fun p => decide (0 < mxI p))).length ≤ 60 := by
    have a := srtS_len (l := (z.2.map fun p => ers p s).filter fun p => decide (0 < mxI p))
    have b := List.length_filter_le (fun p => decide (0 < mxI p)) (z.2.map fun p => ers p s)
    rw [List.length_map] at b
    have := hz.few60; omega
  exact { n1 := by omega, len := ers_len hz.len hs, base := fun x hx => hz.base x (ers_mem hx), pks := fun q hq => (hm q hq).1, few := by show (srtS _).length ≤ 900; omega, srt := srt_srtS, few60 := hl, topb := fun x hx => hz.topb x (ers_mem hx), topp := fun q hq => (hm q hq).2 }
theorem s_forgetting {n C : Nat} {z : LineT} {s : Nat} {P : LineT → Prop} {PE : Ex → Prop} (hz : Wl n C z) (hs : s < n) (hn : 2 ≤ n) (h : P (lessL z s)) : m_Line_forgetting z s P PE := by
  unfold m_Line_forgetting m_require_sort m_forgotten_in
  have h3 := hz.n1
  have hl := hz.len
  refine s_is_integerM ?_
  refine if_ok (fun hc => by simp at hc; omega) (fun _ => ?_)
  refine if_ok (fun hc => by have := of_decide_eq_true hc; omega) (fun _ => ?_)
  dsimp only [W.bind, W.pure]
  refine s_cut_ers (v := z.1) (by omega) ?_
  refine lc_det (fun p => ers p s) (by have := hz.few60; omega) (fun p hp Q q => s_cut_ers (by rw [(hz.pks p hp).len]; omega) q) ?_
  refine s_line_in' (n := n - 1) (by omega) (fun q hq => ?_) (by rw [List.length_map]; have := hz.few60; omega) h
  obtain ⟨p, hp, rfl⟩ := List.mem_map.mp hq
  exact ⟨ers_len (hz.pks p hp).len hs, fun x hx => (hz.pks p hp).nn x (ers_mem hx)⟩
theorem ord_less {n C : Nat} {z : LineT} {s : Nat} {r : List Int} (hz : Wl n C z) (hs : s < n) (hn : 2 ≤ n) (h : Ord n z r) : Ord (n - 1) (lessL z s) (ers r s) := by
  obtain ⟨v, hv, rfl⟩ := h
  have hS : ∀ p ∈ z.2, p.length = n := fun p hp => (hz.pks p hp).len
  have hw := hz.less hs hn
  refine ⟨ers v s, ?_, by rw [ers_vadd hz.len (hv.len hS) hs]; rfl⟩
  induction hv with
  | zero =>
    have : ers (zr n) s = zr (n - 1) := gt_ext (by rw [ers_len zr_len hs, zr_len]) fun i _ => by
      rw [gt_ers (by rw [zr_len]; exact hs), gt_zr, gt_zr, gt_zr]; split <;> rfl
    rw [this]; exact .zero
  | @add p w hp hw' ih =>
    have lw := hw'.len hS
    rw [ers_vadd (hS p hp) lw hs]
    have lp := ers_len (hS p hp) hs
    by_cases c : 0 < mxI (ers p s)
    · exact .add (mem_srtS.mpr (List.mem_filter.mpr ⟨List.mem_map_of_mem hp, decide_eq_true c⟩)) ih
    · have e : ers p s = zr (n - 1) := gt_ext (by rw [lp, zr_len]) fun i hi => by
        have a1 := le_mxI (gt_mem hi)
        have a2 := ((hz.pks p hp).nn _ (ers_mem (gt_mem hi))).1
        rw [gt_zr]; omega
      have lw2 := ers_len lw hs
      rw [e, vadd_comm (by rw [zr_len, lw2]), vadd_zr lw2]; exact ih
end MW

/-! pE: styles. -/
namespace MW
open PySem PySem.Spec PyProof.Rows L2 GB
open GX (srtR leR)
theorem atI_of {α : Type} {l : List α} {i : Nat} {x : α} (h : l[i]? = some x) : atI l (i : Int) = some x := atI_nat h
/-- a style's lines, counts of at most C -/
structure Sw (n C : Nat) (ps : StyleT) : Prop where
  n1 : 1 ≤ n ∧ n ≤ 3
  ne : ps ≠ []
  few : ps.length ≤ 900
  ln : ∀ z ∈ ps, Wl n C z
def OrdS (n : Nat) (ps : StyleT) (r : List Int) : Prop := ∃ z ∈ ps, Ord n z r
theorem Sw.first {n C : Nat} {ps : StyleT} (h : Sw n C ps) : ∃ z, ps[0]? = some z ∧ Wl n C z := by
  cases e : ps with
  | nil => exact absurd e h.ne
  | cons z r => exact ⟨z, rfl, h.ln z (by rw [e]; exact List.mem_cons_self)⟩
theorem s_style {d : PySem.Addr} {n k most lines : Nat} {P : StyleT → Prop} {PE : Ex → Prop} (hn : 1 ≤ n ∧ n ≤ 3) (hk : k ≤ 3 ∧ most ≤ 9) (hl : 1 ≤ lines ∧ lines ≤ 3) (h : ∀ ps : StyleT, ps.length ≤ lines → ps ≠ [] → (∀ z ∈ ps, Pl n z ∧ (∀ x ∈ z.1, x ≤ (most : Int)) ∧ z.2.length ≤ k) → P ps) : m__law_style d n lines k most P PE := by
  unfold m__law_style
  refine s_roll ⟨by omega, by omega⟩ fun y h0 h1 => ?_
  refine ⟨⟨by omega, by omega⟩, ?_⟩
  refine lc_any (fun z : LineT => Pl n z ∧ (∀ x ∈ z.1, x ≤ (most : Int)) ∧ z.2.length ≤ k) (by rw [rng_len]; omega) (fun _ _ Q q => s_drawn hn hk fun z a b c => q z ⟨a, b, c⟩) fun ps hl2 hg => ?_
  rw [rng_len] at hl2
  exact h ps (by omega) (fun e => by rw [e] at hl2; simp at hl2; omega) hg
theorem sw_of {n : Nat} {ps : StyleT} (hn : 1 ≤ n ∧ n ≤ 3) (h1 : ps.length ≤ 3) (h2 : ps ≠ []) (h3 : ∀ z ∈ ps, Pl n z) : Sw n 9 ps := ⟨hn, h2, by omega, fun z hz => (h3 z hz).wl⟩
theorem s_styleC {n : Nat} {ps : StyleT} {P : StyleT → Prop} {PE : Ex → Prop} (h1 : ps.length ≤ 3) (h2 : ps ≠ []) (h3 : ∀ z ∈ ps, z.1.length = n) (h : P ps) : m_Style ps P PE := by
  unfold m_Style m_checked_styles
  have hp : 0 < ps.length := List.length_pos_iff.mpr h2
  refine if_ok (fun hc => by simp at hc; omega) (fun _ => ?_)
  refine ⟨by omega, ?_⟩
  have e1 : (List.map (fun _ : LineT => true) ps).all id = true := by simp
  refine if_ok (fun hc => by rw [e1] at hc; cases hc) (fun _ => ?_)
  obtain ⟨z, hz⟩ : ∃ z, ps[0]? = some z := ⟨ps[0], List.getElem?_eq_getElem hp⟩
  have hzl := h3 z (List.mem_of_getElem? hz)
  refine lc_det (fun _ => true) (by omega) (fun w hw Q q => ⟨z, atI_of hz, ?_⟩) ?_
  · have : (w.1.length : Int) = (z.1.length : Int) := by rw [h3 w hw, hzl]
    show Q (decide ((w.1.length : Int) = (z.1.length : Int)))
    rw [decide_eq_true this]; exact q
  · refine if_ok (fun hc => by rw [e1] at hc; cases hc) (fun _ => h)
theorem s_made {n : Nat} {ps : StyleT} {P : StyleT → Prop} {PE : Ex → Prop} (h1 : ps.length ≤ 3) (h2 : ps ≠ []) (h3 : ∀ z ∈ ps, Pl n z) (h : P ps) : m__law_made_style ps P PE := by
  unfold m__law_made_style
  refine lc_det (fun z => z) (by omega) (fun z hz Q q => s_line (h3 z hz) q) ?_
  rw [List.map_id']
  exact s_styleC (n := n) h1 h2 (fun z hz => (h3 z hz).len) h
/-- all orders up to a bound -/
structure OrdsS (n : Nat) (ps : StyleT) (most : Nat) (l : List (List Int)) : Prop where
  srt : Srt l
  mem : ∀ r, r ∈ l ↔ OrdS n ps r ∧ ∀ s, s < n → gt r s ≤ (most : Int)
  row : ∀ r ∈ l, r.length = n ∧ ∀ x ∈ r, 0 ≤ x ∧ x ≤ (most : Int)
  few : l.length ≤ (most + 1) ^ n
theorem ords_row {n C most : Nat} {ps : StyleT} (hs : Sw n C ps) {r : List Int} (h : OrdS n ps r) (hb : ∀ s, s < n → gt r s ≤ (most : Int)) : r.length = n ∧ ∀ x ∈ r, 0 ≤ x ∧ x ≤ (most : Int) := by
  obtain ⟨z, hz, ho⟩ := h
  have w := hs.ln z hz
  exact rows_nn (ord_len w.toLn' ho) (ord_nn w.toLn' ho) hb
theorem s_orders {n C most : Nat} {ps : StyleT} {P : List (List Int) → Prop} {PE : Ex → Prop} (hs : Sw n C ps) (hm : most < 1000) (hp : (most + 1) ^ n ≤ 1000) (h : ∀ l, OrdsS n ps most l → P l) : m__law_orders ps most P PE := by
  unfold m__law_orders
  have h3 := hs.n1
  have few := hs.few
  refine fold_ok (fun i (f : List (List Int)) => f.length ≤ i * 1000 ∧ ∀ r, r ∈ f ↔ (∃ j z, j < i ∧ ps[j]? = some z ∧ Ord n z r) ∧ ∀ s, s < n → gt r s ≤ (most : Int)) ⟨by simp, fun r => by simp⟩ (fun i z f Q hz hI hQ => ?_) (fun f hI => ?_)
  · have hi := lt_of_get hz
    have w := hs.ln z (List.mem_of_getElem? hz)
    refine s_ords w.toLn' hm (by omega) fun l o => ?_
    have := o.few
    refine ⟨by have := hI.1; omega, hQ _ ⟨by rw [List.length_append]; have := hI.1; omega, fun r => ?_⟩⟩
    rw [List.mem_append, hI.2, o.mem]
    constructor
    · rintro (⟨⟨j, z', hj, e, a⟩, b⟩ | ⟨a, b⟩)
      · exact ⟨⟨j, z', by omega, e, a⟩, b⟩
      · exact ⟨⟨i, z, by omega, hz, a⟩, b⟩
    · rintro ⟨⟨j, z', hj, e, a⟩, b⟩
      by_cases c : j = i
      · subst c; rw [hz] at e; cases e; exact .inr ⟨a, b⟩
      · exact .inl ⟨⟨j, z', by omega, e, a⟩, b⟩
  · have mem : ∀ r, r ∈ f ↔ OrdS n ps r ∧ ∀ s, s < n → gt r s ≤ (most : Int) := fun r => by
      rw [hI.2]
      refine ⟨fun ⟨⟨j, z, hj, e, a⟩, b⟩ => ⟨⟨z, List.mem_of_getElem? e, a⟩, b⟩, fun ⟨⟨z, hz, a⟩, b⟩ => ?_⟩
      obtain ⟨j, e⟩ := List.mem_iff_getElem?.mp hz
      exact ⟨⟨j, z, lt_of_get e, e, a⟩, b⟩
    have row : ∀ r ∈ f, r.length = n ∧ ∀ x ∈ r, 0 ≤ x ∧ x ≤ (most : Int) := fun r hr => ords_row hs ((mem r).mp hr).1 ((mem r).mp hr).2
    refine ⟨setOk_rows (n := n) (B := most) (by have := hI.1; omega) row (by omega), srtOk_len (n := n) (by omega) (fun r hr => (row r hr).1), h _ ?_⟩
    exact ⟨srt_srtS, fun r => by rw [mem_srtS, mem], fun r hr => row r (mem_srtS.mp hr), rows_few srt_srtS.nd fun r hr => row r (mem_srtS.mp hr)⟩
/-- the first line that has it, and numbers -/
def PlaceIs (n : Nat) (ps : StyleT) (order : List Int) : Option (Int × List Int) → Prop
  | none => ∀ z ∈ ps, ∀ ns, ¬ Of n z order ns
  | some q => ∃ i z, q.1 = ((i : Nat) : Int) ∧ ps[i]? = some z ∧ Of n z order q.2 ∧ ∀ j z', j < i → ps[j]? = some z' → ∀ ns, ¬ Of n z' order ns
theorem s_place_of {n C B : Nat} {ps : StyleT} {order : List Int} {P : Option (Int × List Int) → Prop} {PE : Ex → Prop} (hs : Sw n C ps) (ho : order.length = n) (hB : ∀ s, s < n → gt order s ≤ (B : Int)) (hb : (B + 1) ^ n < 900000 ∧ B < 100000) (h : ∀ o, PlaceIs n ps order o → P o) : m_place_of ps order P PE := by
  unfold m_place_of
  refine foldF_ok2 (fun i _ => ∀ j z, j < i → ps[j]? = some z → ∀ ns, ¬ Of n z order ns) (fun r => PlaceIs n ps order r) (fun j z hj => (nomatch hj)) (fun i q st Q hq hI hQ hR => ?_) (fun r hr => h r hr) (fun st hI => ?_)
  · obtain ⟨z, hz, rfl⟩ := enm_get hq
    have w := hs.ln z (List.mem_of_getElem? hz)
    refine s_numbers_for w.toLn' ho hB hb fun o hno => ?_
    cases o with
    | none =>
      refine if_f (hQ () fun j z' hj e ns => ?_)
      by_cases c : j = i
      · subst c; rw [hz] at e; cases e; exact hno ns
      · exact hI j z' (by omega) e ns
    | some ns =>
      refine if_t ⟨ns, rfl, ?_⟩
      exact hR (some ((i : Int), ns)) ⟨i, z, rfl, hz, hno, hI⟩
  · refine h none fun z hz ns => ?_
    obtain ⟨j, e⟩ := List.mem_iff_getElem?.mp hz
    rw [enm_len] at hI
    exact hI j z (lt_of_get e) e ns
theorem ord_of {n : Nat} {z : LineT} (hz : Ln' n z) {r : List Int} (hr : r.length = n) : Ord n z r ↔ ∃ ns, Of n z r ns := by
  rw [ord_iff hz.len (fun p hp => (hz.pks p hp).len)]
  exact ⟨fun h => h.2, fun h => ⟨hr, h⟩⟩
theorem place_some {n C : Nat} {ps : StyleT} {order : List Int} (hs : Sw n C ps) (ho : order.length = n) {o : Option (Int × List Int)} (h : PlaceIs n ps order o) : o.isSome = true ↔ OrdS n ps order := by
  cases o with
  | none =>
    refine ⟨fun e => (nomatch e), fun ⟨z, hz, a⟩ => ?_⟩
    obtain ⟨ns, hn⟩ := (ord_of (hs.ln z hz).toLn' ho).mp a
    exact absurd hn (h z hz ns)
  | some q =>
    obtain ⟨i, z, _, e, a, _⟩ := h
    have hz := List.mem_of_getElem? e
    exact ⟨fun _ => ⟨z, hz, (ord_of (hs.ln z hz).toLn' ho).mpr ⟨_, a⟩⟩, fun _ => rfl⟩
theorem s_smakes {n C B : Nat} {ps : StyleT} {order : List Int} {P : Option (Int × List Int) → Prop} {PE : Ex → Prop} (hs : Sw n C ps) (ho : order.length = n) (h0 : ∀ x ∈ order, 0 ≤ x) (hB : ∀ s, s < n → gt order s ≤ (B : Int)) (hb : (B + 1) ^ n < 900000 ∧ B < 100000) (h : ∀ o, PlaceIs n ps order o → P o) : m_Style_makes ps order P PE := by
  unfold m_Style_makes m_require_order m_require_equal_sorts
  have h3 := hs.n1
  obtain ⟨z, hz, w⟩ := hs.first
  refine s_is_order (by omega) h0 ?_
  refine if_ok (fun hc => by cases hc) (fun _ => ?_)
  refine ⟨z, atI_of hz, ?_⟩
  refine if_ok (fun hc => by simp [w.len, ho] at hc) (fun _ => ?_)
  exact s_place_of hs ho hB hb h
theorem s_shas {n C B : Nat} {ps : StyleT} {order : List Int} {P : Bool → Prop} {PE : Ex → Prop} (hs : Sw n C ps) (ho : order.length = n) (h0 : ∀ x ∈ order, 0 ≤ x) (hB : ∀ s, s < n → gt order s ≤ (B : Int)) (hb : (B + 1) ^ n < 900000 ∧ B < 100000) (h : ∀ b, (b = true ↔ OrdS n ps order) → P b) : m_Style___contains__ ps order P PE := by
  unfold m_Style___contains__
  have h3 := hs.n1
  obtain ⟨z, hz, w⟩ := hs.first
  refine s_is_order (by omega) h0 ?_
  refine if_f ?_
  refine ⟨z, atI_of hz, ?_⟩
  refine if_ok (fun hc => by simp [w.len, ho] at hc) (fun _ => ?_)
  exact s_place_of hs ho hB hb fun o hp => h _ (place_some hs ho hp)
theorem s_sitem {ps : StyleT} {i : Nat} {z : LineT} {P : LineT → Prop} {PE : Ex → Prop} (hz : ps[i]? = some z) (h : P z) : m_Style___getitem__ ps (i : Int) P PE := by
  unfold m_Style___getitem__
  have hi := lt_of_get hz
  refine s_is_integerM ?_
  refine if_ok (fun hc => by simp at hc; omega) (fun _ => ?_)
  exact ⟨z, atI_of hz, h⟩
/-! how great sums can be -/
theorem lin_le {s : Nat} {c k : Int} (hc : 0 ≤ c) (hk : 0 ≤ k) : ∀ {ps : List (List Int)} {ns : List Int}, (∀ p ∈ ps, 0 ≤ gt p s ∧ gt p s ≤ c) → (∀ m ∈ ns, 0 ≤ m ∧ m ≤ k) → lin ps ns s ≤ (ps.length : Int) * (k * c)
  | [], ns, _, _ => by rw [lin_nil]; simp
  | p :: ps, [], hp, _ => by
    have : (0 : Int) ≤ k * c := Int.mul_nonneg hk hc
    have : (0 : Int) ≤ ((p :: ps).length : Int) * (k * c) := Int.mul_nonneg (by omega) this
    simpa [lin] using this
  | p :: ps, m :: ns, hp, hm => by
    rw [lin_cons]
    have h1 := lin_le hc hk (ps := ps) (ns := ns) (fun q hq => hp q (List.mem_cons_of_mem _ hq)) (fun x hx => hm x (List.mem_cons_of_mem _ hx))
    have h2 := hp p List.mem_cons_self
    have h3 := hm m List.mem_cons_self
    have h4 : m * gt p s ≤ k * c := Int.mul_le_mul h3.2 h2.2 h2.1 hk
    rw [List.length_cons]
    have : (((ps.length + 1 : Nat) : Int)) * (k * c) = (ps.length : Int) * (k * c) + k * c := by rw [Int.natCast_add, Int.add_mul]; simp
    rw [this]; omega
theorem lin_one {ps : List (List Int)} {ns : List Int} {s j : Nat} {p : List Int} {m : Int} (hp : ∀ p ∈ ps, 0 ≤ gt p s) (hn : ∀ m ∈ ns, 0 ≤ m) (h1 : ps[j]? = some p) (h2 : ns[j]? = some m) : m * gt p s ≤ lin ps ns s := by
  have e1 := lin_set (s := s) (d := -m) h1 h2
  have e2 := lin_nonneg (ps := ps) (s := s) hp (ns := ns.set j (m + -m)) (fun y hy => by
    rcases List.mem_or_eq_of_mem_set hy with w | w
    · exact hn y w
    · omega)
  rw [Int.neg_mul] at e1
  omega
/-- numbers are no greater than the counts of what they make -/
theorem of_small {n : Nat} {z : LineT} {order ns : List Int} {B : Int} (hz : Ln' n z) (h : Of n z order ns) (hB : ∀ s, s < n → gt order s ≤ B) : ∀ m ∈ ns, 0 ≤ m ∧ m ≤ B := fun m hm => by
  have m0 := h.nn m hm
  refine ⟨m0, ?_⟩
  obtain ⟨j, hj⟩ := List.mem_iff_getElem?.mp hm
  have hjl := lt_of_get hj
  have hjz : j < z.2.length := by rw [← h.len]; exact hjl
  have hp : z.2[j]? = some z.2[j] := List.getElem?_eq_getElem hjz
  have pk := hz.pks _ (List.mem_of_getElem? hp)
  obtain ⟨x, hx, hx0⟩ := pk.pos
  obtain ⟨s, hs, ex⟩ := mem_gt hx
  rw [pk.len] at hs
  have a1 := lin_one (s := s) (fun p hp => (hz.pks p hp).gt) h.nn hp hj
  have a2 := h.sum s hs
  have a3 := hB s hs
  have a4 := (hz.base _ (gt_mem (v := z.1) (s := s) (by rw [hz.len]; exact hs))).1
  have a5 : m * 1 ≤ m * gt z.2[j] s := Int.mul_le_mul_of_nonneg_left (by omega) m0
  omega
/-- the law's own sum of a list of numbers -/
theorem s_lsumL {n : Nat} {z : LineT} {ns : List Int} {P : List Int → Prop} {PE : Ex → Prop} (hz : Ln' n z) (hl : ns.length = z.2.length) (hm : ∀ m ∈ ns, 0 ≤ m ∧ m < 1000000) (h : ∀ row : List Int, row.length = n → (∀ s, s < n → gt row s = gt z.1 s + lin z.2 ns s) → P row) : m__law_sumL z ns P PE := by
  unfold m__law_sumL
  have h3 := hz.n1
  exact fold_lin hz (fun st p m Q h1 h2 h4 q => s_often (by show p.length < _; omega) h4 (s_lplus (by omega) q)) hl hm h
end MW

/-! pK09: the law of styles put together. -/
namespace T09
open PySem PySem.Spec PyProof.Rows L2 GB MW
open GX (srtR leR)
theorem s_line_ordersP {n : Nat} {z : LineT} {most : Nat} {P : List (List Int × Bool) → Prop} {PE : Ex → Prop} (hz : Ln' n z) (hm : most < 1000) (hs : (most + 1) ^ n < 9000) (h : ∀ K : List (List Int × Bool), K.length ≤ (most + 1) ^ n + 1 → (K.map Prod.fst).Nodup → (∀ r, r ∈ K.map Prod.fst ↔ Reach n z most r) → P K) : m_line_orders z most P PE := by
  unfold m_line_orders
  have h3 := hz.n1
  have hzne : z.1 ≠ [] := fun e => by have := hz.len; rw [e] at this; simp at this; omega
  refine ⟨by have := hz.len; omega, ?_⟩
  refine if_ok (fun hc => ?_) (fun hc => ?_)
  · have hc := of_decide_eq_true hc
    refine h [] (by simp) List.nodup_nil fun r => ⟨fun hr => (nomatch hr), fun hr => ?_⟩
    obtain ⟨ns, ho⟩ := hr.of
    obtain ⟨s, hs', e⟩ := mem_gt (mxI_mem hzne)
    rw [hz.len] at hs'
    have a1 := ho.sum s hs'
    have a2 := hr.le s hs'
    have a3 := lin_nonneg (ps := z.2) (s := s) (fun p hp => (hz.pks p hp).gt) ho.nn
    omega
  have hcb : mxI z.1 ≤ (most : Int) := by have := of_decide_eq_false hc; omega
  have e1 : dmerge [] [(z.1, true)] = [(z.1, true)] := by simp [dmerge, dput]
  dsimp only [W.bind, W.pure]
  rw [e1]
  have hbase : Rb n z most z.1 := ⟨hz.len, .inl rfl, List.replicate z.2.length 0, by simp, fun m hm => by rw [(List.mem_replicate.mp hm).2]; exact Int.le_refl _, fun s _ => by rw [lin_zero (fun m hm => (List.mem_replicate.mp hm).2)]; omega⟩
  have few : ∀ f : List (List Int), f.Nodup → (∀ r ∈ f, Rb n z most r) → f.length ≤ (most + 1) ^ n + 1 := fun f nd hr => by
    have h1 := rows_few (n := n) (B := most) (l := f.erase z.1) (List.Nodup.sublist List.erase_sublist nd) fun v hv => by
      obtain ⟨h1, h2⟩ := (List.Nodup.mem_erase_iff nd).mp hv
      have hv' := hr v h2
      have hle := hv'.le.resolve_left h1
      refine ⟨hv'.len, fun x hx => ?_⟩
      obtain ⟨s, hs, rfl⟩ := mem_gt hx
      have hs' : s < n := by rw [hv'.len] at hs; exact hs
      exact ⟨(show Reach n z most v from ⟨hv'.len, hle, hv'.of⟩).nn hz s hs', hle s hs'⟩
    by_cases hb : z.1 ∈ f
    · rw [List.length_erase_of_mem hb] at h1; omega
    · rw [List.erase_of_not_mem hb] at h1; omega
  refine ⟨fun st => st.1.Nodup ∧ (∀ r ∈ st.1, Rb n z most r) ∧ st.2.1.map Prod.fst = st.1 ∧ z.1 ∈ st.1 ∧ (0 ≤ st.2.2 ∧ st.2.2 ≤ st.1.length) ∧
      ∀ (i : Nat) r, (i : Int) < st.2.2 → st.1[i]? = some r → ∀ p ∈ z.2, (∀ s, s < n → gt r s + gt p s ≤ most) → ∃ r' ∈ st.1, ∀ s, s < n → gt r' s = gt r s + gt p s,
    fun st => (most + 1) ^ n + 1 - st.2.2.toNat, ⟨by simp, fun r hr => by rw [List.mem_singleton.mp hr]; exact hbase, rfl, List.mem_cons_self, ⟨Int.le_refl _, by simp⟩, fun i r hi => absurd (show (i : Int) < 0 from hi) (by omega)⟩, ?_⟩
  rintro ⟨found, known, at_⟩ ⟨nd, hr, hk, hb, ⟨ha0, ha1⟩, hc⟩
  dsimp only at nd hr hk hb ha0 ha1 hc
  have hf := few found nd hr
  by_cases hat : at_ < (found.length : Int)
  · show (if decide (at_ < (found.length : Int)) = true then _ else _ : Prop)
    rw [decide_eq_true hat]
    rw [if_pos rfl]
    have hlt : at_.toNat < found.length := by omega
    have hat2 : ((at_.toNat : Nat) : Int) = at_ := Int.toNat_of_nonneg ha0
    have hrow : found[at_.toNat]? = some found[at_.toNat] := List.getElem?_eq_getElem hlt
    have hrr := hr _ (List.mem_of_getElem? hrow)
    generalize found[at_.toNat] = r at hrow hrr
    refine fold_ok (fun i (s4 : List (List Int) × List (List Int × Bool)) => s4.1.Nodup ∧ (∀ r ∈ s4.1, Rb n z most r) ∧ s4.2.map Prod.fst = s4.1 ∧ (∃ ext, s4.1 = found ++ ext) ∧ ∀ j p, j < i → z.2[j]? = some p → (∀ s, s < n → gt r s + gt p s ≤ most) → ∃ r' ∈ s4.1, ∀ s, s < n → gt r' s = gt r s + gt p s)
      ⟨nd, hr, hk, ⟨[], by simp⟩, fun j p hj => (nomatch hj)⟩ (fun i p s4 Q hp hI hQ => ?_) (fun s4 hI => ?_)
    · obtain ⟨f2, k2⟩ := s4
      obtain ⟨nd2, hr2, hk2, ⟨ext, hx⟩, hc2⟩ := hI
      dsimp only at nd2 hr2 hk2 hx hc2
      have hpk := hz.pks p (List.mem_of_getElem? hp)
      have hf2 := few f2 nd2 hr2
      refine ⟨r, by rw [← hat2]; exact atI_nat (by rw [hx, List.getElem?_append_left hlt]; exact hrow), ?_⟩
      have hvl : r.length = p.length := by rw [hrr.len, hpk.len]
      refine s_plus (by rw [hrr.len]; omega) ?_
      have hv : ∀ s, s < n → gt (vadd r p) s = gt r s + gt p s := fun s hs => gt_vadd hvl (by rw [hrr.len]; exact hs)
      have hvn : (vadd r p).length = n := by rw [vadd_len hvl, hrr.len]
      have hne : vadd r p ≠ [] := fun e => by rw [e] at hvn; simp at hvn; omega
      have skip : (¬ (∀ s, s < n → gt r s + gt p s ≤ most) ∨ vadd r p ∈ f2) → Q (f2, k2) := fun hh => hQ _ ⟨nd2, hr2, hk2, ⟨ext, hx⟩, fun j p' hj hp' hle => by
        by_cases e : j = i
        · subst e
          rw [hp] at hp'; cases hp'
          rcases hh with hh | hh
          · exact absurd hle hh
          · exact ⟨_, hh, hv⟩
        · exact hc2 j p' (by omega) hp' hle⟩
      refine if_ok (fun hh => ?_) (fun hh => ?_)
      · refine ⟨by omega, ?_⟩
        refine if_ok (fun hmx => ?_) (fun hmx => ?_)
        · have hmx := of_decide_eq_true hmx
          have hnot : vadd r p ∉ f2 := fun hin => by
            have : dhas k2 (vadd r p) = true := dhas_iff.mpr (by rw [hk2]; exact hin)
            rw [this] at hh; cases hh
          have hle : ∀ s, s < n → gt (vadd r p) s ≤ most := fun s hs => Int.le_trans (le_mxI (gt_mem (by omega))) hmx
          have hkl : k2.length = f2.length := by rw [← hk2, List.length_map]
          have hd : dhas k2 (vadd r p) = false := by simpa using hh
          refine ⟨by show k2.length < 1000000; omega, ?_⟩
          refine ⟨by show f2.length < 1000000; omega, ?_⟩
          show Q (f2 ++ [vadd r p], dput k2 (vadd r p) true)
          rw [dput_new hd]
          refine hQ _ ⟨List.nodup_append.mpr ⟨nd2, by simp, fun a ha b hb e => by simp at hb; subst hb; subst e; exact hnot ha⟩, fun r2 hr2' => ?_, by rw [List.map_append, hk2]; rfl, ⟨ext ++ [vadd r p], by rw [← List.append_assoc, ← hx]⟩, fun j p' hj hp' hle' => ?_⟩
          · rcases List.mem_append.mp hr2' with w | w
            · exact hr2 r2 w
            · rw [List.mem_singleton.mp w]
              obtain ⟨ns, ho⟩ := hrr.of
              have hil : i < z.2.length := by
                rcases Nat.lt_or_ge i z.2.length with w | w
                · exact w
                · rw [List.getElem?_eq_none w] at hp; cases hp
              have hin : i < ns.length := by rw [ho.len]; exact hil
              have hni : ns[i]? = some ns[i] := List.getElem?_eq_getElem hin
              refine ⟨hvn, .inr hle, ns.set i (ns[i] + 1), by rw [List.length_set]; exact ho.len, fun m hm' => ?_, fun s hs => ?_⟩
              · rcases List.mem_or_eq_of_mem_set hm' with w | w
                · exact ho.nn m w
                · have := ho.nn _ (List.mem_of_getElem? hni); omega
              · rw [hv s hs, lin_set hp hni, ho.sum s hs]; omega
          · by_cases e : j = i
            · subst e
              rw [hp] at hp'; cases hp'
              exact ⟨_, List.mem_append_right _ List.mem_cons_self, hv⟩
            · obtain ⟨r', hr', hs'⟩ := hc2 j p' (by omega) hp' hle'
              exact ⟨r', List.mem_append_left _ hr', hs'⟩
        · have hmx : ¬ mxI (vadd r p) ≤ most := of_decide_eq_false hmx
          refine skip (.inl fun hle => hmx ?_)
          obtain ⟨s, hs, e⟩ := mem_gt (mxI_mem hne)
          rw [← e, hv s (by omega)]
          exact hle s (by omega)
      · have hd : dhas k2 (vadd r p) = true := by simpa using hh
        have hd' := dhas_iff.mp hd
        rw [hk2] at hd'
        exact skip (.inr hd')
    · obtain ⟨f2, k2⟩ := s4
      obtain ⟨nd2, hr2, hk2, ⟨ext, hx⟩, hc2⟩ := hI
      dsimp only at nd2 hr2 hk2 hx hc2
      have hf2 := few f2 nd2 hr2
      have hll : f2.length = found.length + ext.length := by rw [hx, List.length_append]
      refine ⟨⟨nd2, hr2, hk2, by show z.1 ∈ f2; rw [hx]; exact List.mem_append_left _ hb, ⟨by show 0 ≤ at_ + 1; omega, by show at_ + 1 ≤ (f2.length : Int); omega⟩, fun i r2 hi h2 p hp hle => ?_⟩, ?_⟩
      · have hi : (i : Int) < at_ + 1 := hi
        have h2 : f2[i]? = some r2 := h2
        by_cases e : i = at_.toNat
        · subst e
          rw [hx, List.getElem?_append_left hlt, hrow] at h2
          cases h2
          obtain ⟨j, hj⟩ := List.mem_iff_getElem?.mp hp
          have hjl : j < z.2.length := by
            rcases Nat.lt_or_ge j z.2.length with w | w
            · exact w
            · rw [List.getElem?_eq_none w] at hj; cases hj
          exact hc2 j p hjl hj hle
        · rw [hx, List.getElem?_append_left (by omega)] at h2
          obtain ⟨r', hr', hs'⟩ := hc i r2 (by omega) h2 p hp hle
          exact ⟨r', by show r' ∈ f2; rw [hx]; exact List.mem_append_left _ hr', hs'⟩
      · show (most + 1) ^ n + 1 - (at_ + 1).toNat < (most + 1) ^ n + 1 - at_.toNat
        omega
  · show (if decide (at_ < (found.length : Int)) = true then _ else _ : Prop)
    rw [decide_eq_false hat]
    rw [if_neg (by decide)]
    have hmem : ∀ row, Reach n z most row → row ∈ found := fun row hrow => by
      obtain ⟨ns, ho⟩ := hrow.of
      refine reach_all (most := most) hz hb (fun r hr' => (hr r hr').len) (fun r hr' p hp hle => ?_) _ row ns rfl hrow.len hrow.le ho
      obtain ⟨i, hi⟩ := List.mem_iff_getElem?.mp hr'
      have hil : i < found.length := by
        rcases Nat.lt_or_ge i found.length with w | w
        · exact w
        · rw [List.getElem?_eq_none w] at hi; cases hi
      exact hc i r (by omega) hi p hp hle
    have hkl : known.length = found.length := by rw [← hk, List.length_map]
    refine h known (by omega) (by rw [hk]; exact nd) fun row => ?_
    rw [hk]
    refine ⟨fun h1 => ?_, hmem row⟩
    have hrow := hr row h1
    refine ⟨hrow.len, ?_, hrow.of⟩
    rcases hrow.le with e | e
    · exact fun s hs => Int.le_trans (by rw [e]; exact le_mxI (gt_mem (by rw [hz.len]; exact hs))) hcb
    · exact e

/-! two for's -/
section
variable {α γ δ : Type} {PE : Ex → Prop}
theorem mapFT_det {ys : α → W (List γ)} {f : α → γ → W δ} (Y : α → List γ) (g : α → γ → δ) : ∀ {xs : List α} {P : List δ → Prop}, (∀ x ∈ xs, ∀ Q : List γ → Prop, Q (Y x) → ys x Q PE) → (∀ x ∈ xs, (Y x).length < 10000) → (∀ x ∈ xs, ∀ y ∈ Y x, ∀ Q : δ → Prop, Q (g x y) → f x y Q PE) → P (xs.flatMap fun x => (Y x).map (g x)) → W.mapFT ys (fun _ _ => W.pure true) f xs P PE
  | [], P, _, _, _, h => h
  | x :: r, P, h1, h2, h3, h => by
    refine h1 x List.mem_cons_self _ ⟨h2 x List.mem_cons_self, ?_⟩
    refine mapF_detF (q := fun _ => true) (g := g x) (fun _ _ _ q => q) (fun y hy _ => h3 x List.mem_cons_self y hy) ?_
    rw [List.filter_eq_self.2 (fun _ _ => rfl)]
    refine mapFT_det Y g (fun y m => h1 y (List.mem_cons_of_mem _ m)) (fun y m => h2 y (List.mem_cons_of_mem _ m)) (fun y m => h3 y (List.mem_cons_of_mem _ m)) ?_
    rw [List.flatMap_cons] at h; exact h
theorem lcT_det {ys : α → W (List γ)} {f : α → γ → W δ} {xs : List α} {P : List δ → Prop} (Y : α → List γ) (g : α → γ → δ) (hl : xs.length < 100) (h1 : ∀ x ∈ xs, ∀ Q : List γ → Prop, Q (Y x) → ys x Q fun _ => False) (h2 : ∀ x ∈ xs, (Y x).length < 10000) (h3 : ∀ x ∈ xs, ∀ y ∈ Y x, ∀ Q : δ → Prop, Q (g x y) → f x y Q fun _ => False) (h : P (xs.flatMap fun x => (Y x).map (g x))) : W.lcT ys (fun _ _ => W.pure true) f xs P PE := ⟨hl, mapFT_det Y g h1 h2 h3 h⟩
theorem mapFT_mem {ys : α → W (List γ)} (M : α → γ → Prop) {B : Nat} (hB : B < 10000) : ∀ {xs : List α} {P : List γ → Prop}, (∀ x ∈ xs, ∀ Q : List γ → Prop, (∀ l : List γ, l.length ≤ B → (∀ y, y ∈ l ↔ M x y) → Q l) → ys x Q PE) → (∀ R : List γ, R.length ≤ xs.length * B → (∀ y, y ∈ R ↔ ∃ x ∈ xs, M x y) → P R) → W.mapFT ys (fun _ _ => W.pure true) (fun _ y => W.pure y) xs P PE
  | [], P, _, h => h [] (by simp) fun y => ⟨fun m => (nomatch m), fun ⟨_, m, _⟩ => (nomatch m)⟩
  | x :: r, P, h1, h => by
    refine h1 x List.mem_cons_self _ fun l hl hm => ⟨by omega, ?_⟩
    refine mapF_detF (q := fun _ => true) (g := fun y => y) (fun _ _ _ q => q) (fun y hy _ _ q => q) ?_
    rw [List.filter_eq_self.2 (fun _ _ => rfl), List.map_id']
    refine mapFT_mem M hB (fun y m => h1 y (List.mem_cons_of_mem _ m)) fun R hR hM => ?_
    refine h (l ++ R) (by rw [List.length_append, List.length_cons, Nat.add_mul]; omega) fun y => ?_
    rw [List.mem_append, hm, hM]
    constructor
    · rintro (a | ⟨z, hz, a⟩)
      · exact ⟨x, List.mem_cons_self, a⟩
      · exact ⟨z, List.mem_cons_of_mem _ hz, a⟩
    · rintro ⟨z, hz, a⟩
      rcases List.mem_cons.mp hz with e | m
      · exact .inl (e ▸ a)
      · exact .inr ⟨z, m, a⟩
end
/-! the package's styles -/
theorem s_orders_up_to {n C most : Nat} {ps : StyleT} {P : List (List Int) → Prop} {PE : Ex → Prop} (hs : Sw n C ps) (hl : ps.length < 100) (hm : most < 1000) (hp : (most + 1) ^ n ≤ 1000) (h : ∀ l, OrdsS n ps most l → P l) : m_orders_up_to ps most P PE := by
  unfold m_orders_up_to
  have h3 := hs.n1
  refine ⟨hl, mapFT_mem (fun z r => Reach n z most r) (B := (most + 1) ^ n + 1) (by omega) (fun z hz Q hQ => ?_) fun R hR hM => ?_⟩
  · exact s_line_ordersP (hs.ln z hz).toLn' hm (by omega) fun K k1 k2 k3 => hQ _ (by rw [List.length_map]; exact k1) k3
  · have mem : ∀ r, r ∈ R ↔ OrdS n ps r ∧ ∀ s, s < n → gt r s ≤ (most : Int) := fun r => by
      rw [hM]
      constructor
      · rintro ⟨z, hz, a⟩
        have := (reach_iff (hs.ln z hz).toLn').mp a
        exact ⟨⟨z, hz, this.1⟩, this.2⟩
      · rintro ⟨⟨z, hz, a⟩, b⟩
        exact ⟨z, hz, (reach_iff (hs.ln z hz).toLn').mpr ⟨a, b⟩⟩
    have row : ∀ r ∈ R, r.length = n ∧ ∀ x ∈ r, 0 ≤ x ∧ x ≤ (most : Int) := fun r hr => ords_row hs ((mem r).mp hr).1 ((mem r).mp hr).2
    have hR2 : R.length ≤ 1000000 := by
      have : ps.length * ((most + 1) ^ n + 1) ≤ 100 * 1001 := Nat.mul_le_mul (by omega) (by omega)
      omega
    refine ⟨setOk_rows (n := n) (B := most) hR2 row (by omega), srtOk_len (n := n) (by omega) (fun r hr => (row r hr).1), h _ ?_⟩
    exact ⟨srt_srtS, fun r => by rw [mem_srtS, mem], fun r hr => row r (mem_srtS.mp hr), rows_few srt_srtS.nd fun r hr => row r (mem_srtS.mp hr)⟩
theorem s_sorders {n C most : Nat} {ps : StyleT} {P : List (List Int) → Prop} {PE : Ex → Prop} (hs : Sw n C ps) (hl : ps.length < 100) (hm : most ≤ 12) (hp : (most + 1) ^ n ≤ 1000) (h : ∀ l, OrdsS n ps most l → P l) : m_Style_orders ps most P PE := by
  unfold m_Style_orders
  refine s_is_integerM ?_
  refine if_ok (fun hc => by simp at hc; omega) (fun _ => ?_)
  exact s_orders_up_to hs hl (by omega) hp fun l o => ⟨by have := o.few; omega, h l o⟩
theorem _root_.MW.OrdsS.same {n most : Nat} {a b : StyleT} {l k : List (List Int)} (h : OrdsS n a most l) (h' : OrdsS n b most k) (e : ∀ r, OrdS n a r ↔ OrdS n b r) : l = k := h.srt.ext h'.srt fun r => by rw [h.mem, h'.mem, e]
theorem s_like {n : Nat} {a b : StyleT} {P : Unit → Prop} {PE : Ex → Prop} (ha : ∃ z, a[0]? = some z ∧ z.1.length = n) (hb : ∃ z, b[0]? = some z ∧ z.1.length = n) (h : P ()) : m_require_like_sorts a b P PE := by
  unfold m_require_like_sorts
  obtain ⟨z, hz, lz⟩ := ha
  obtain ⟨w, hw, lw⟩ := hb
  refine ⟨z, atI_of hz, w, atI_of hw, ?_⟩
  exact if_ok (fun hc => by simp [lz, lw] at hc) (fun _ => h)
theorem _root_.MW.Sw.hd {n C : Nat} {ps : StyleT} (h : Sw n C ps) : ∃ z, ps[0]? = some z ∧ z.1.length = n := by
  obtain ⟨z, hz, w⟩ := h.first
  exact ⟨z, hz, w.len⟩
theorem s_or {n C D : Nat} {a b : StyleT} {P : StyleT → Prop} {PE : Ex → Prop} (ha : Sw n C a) (hb : Sw n D b) (h : P (a ++ b)) : m_Style___or__ a b P PE := by
  unfold m_Style___or__ m_require_style m_style_inT m_Lines m_StyleP
  refine if_ok (fun hc => by cases hc) (fun _ => ?_)
  refine s_like ha.hd hb.hd ?_
  have := ha.few; have := hb.few
  exact ⟨by omega, h⟩
def sumS (a b : StyleT) : StyleT := a.flatMap fun z => b.map fun w => sumL z w
theorem sumS_app {a b c : StyleT} : sumS (a ++ b) c = sumS a c ++ sumS b c := by unfold sumS; rw [List.flatMap_append]
theorem sumS_len {a b : StyleT} : (sumS a b).length = a.length * b.length := by
  unfold sumS
  induction a with
  | nil => simp
  | cons z r ih => rw [List.flatMap_cons, List.length_append, List.length_map, ih, List.length_cons, Nat.add_mul]; omega
theorem mem_sumS {a b : StyleT} {q : LineT} : q ∈ sumS a b ↔ ∃ z ∈ a, ∃ w ∈ b, q = sumL z w := by
  unfold sumS
  rw [List.mem_flatMap]
  constructor
  · rintro ⟨z, hz, m⟩
    obtain ⟨w, hw, e⟩ := List.mem_map.mp m
    exact ⟨z, hz, w, hw, e.symm⟩
  · rintro ⟨z, hz, w, hw, e⟩
    exact ⟨z, hz, List.mem_map.mpr ⟨w, hw, e.symm⟩⟩
/-- few packs -/
def Fp (k : Nat) (ps : StyleT) : Prop := ∀ z ∈ ps, z.2.length ≤ k
theorem _root_.MW.Sw.sum {n C D j k : Nat} {a b : StyleT} (ha : Sw n C a) (hb : Sw n D b) (fa : Fp j a) (fb : Fp k b) (hjk : j + k ≤ 60) (hC : C + D < 1000000) (hl : a.length * b.length ≤ 900) : Sw n (C + D) (sumS a b) ∧ Fp (j + k) (sumS a b) := by
  refine ⟨⟨ha.n1, fun e => ?_, by rw [sumS_len]; exact hl, fun q hq => ?_⟩, fun q hq => ?_⟩
  · have h1 := sumS_len (a := a) (b := b)
    rw [e] at h1
    have h2 := List.length_pos_iff.mpr ha.ne
    have h3 := List.length_pos_iff.mpr hb.ne
    have := Nat.mul_pos h2 h3
    rw [← h1] at this; simp at this
  · obtain ⟨z, hz, w, hw, rfl⟩ := mem_sumS.mp hq
    exact (ha.ln z hz).sum (hb.ln w hw) (by have := fa z hz; have := fb w hw; omega) hC
  · obtain ⟨z, hz, w, hw, rfl⟩ := mem_sumS.mp hq
    have := srtS_len (l := z.2 ++ w.2)
    rw [List.length_append] at this
    have := fa z hz; have := fb w hw
    show (srtS (z.2 ++ w.2)).length ≤ _
    omega
theorem _root_.MW.Sw.app {n C D : Nat} {a b : StyleT} (ha : Sw n C a) (hb : Sw n D b) (hl : a.length + b.length ≤ 900) : Sw n (C + D) (a ++ b) := ⟨ha.n1, fun e => ha.ne (List.append_eq_nil_iff.mp e).1, by rw [List.length_append]; exact hl, fun z hz => (List.mem_append.mp hz).elim (fun m => (ha.ln z m).mono (by omega)) fun m => (hb.ln z m).mono (by omega)⟩
theorem ordS_app {n : Nat} {a b : StyleT} {r : List Int} : OrdS n (a ++ b) r ↔ OrdS n a r ∨ OrdS n b r := by
  constructor
  · rintro ⟨z, hz, h⟩
    exact (List.mem_append.mp hz).elim (fun m => .inl ⟨z, m, h⟩) fun m => .inr ⟨z, m, h⟩
  · rintro (⟨z, hz, h⟩ | ⟨z, hz, h⟩)
    · exact ⟨z, List.mem_append_left _ hz, h⟩
    · exact ⟨z, List.mem_append_right _ hz, h⟩
theorem ordS_sum {n C D : Nat} {a b : StyleT} (ha : Sw n C a) (hb : Sw n D b) {r : List Int} : OrdS n (sumS a b) r ↔ ∃ u v, OrdS n a u ∧ OrdS n b v ∧ r = vadd u v := by
  constructor
  · rintro ⟨q, hq, h⟩
    obtain ⟨z, hz, w, hw, rfl⟩ := mem_sumS.mp hq
    obtain ⟨u, v, h1, h2, e⟩ := (ord_sum (ha.ln z hz).toLn' (hb.ln w hw).toLn').mp h
    exact ⟨u, v, ⟨z, hz, h1⟩, ⟨w, hw, h2⟩, e⟩
  · rintro ⟨u, v, ⟨z, hz, h1⟩, ⟨w, hw, h2⟩, e⟩
    exact ⟨sumL z w, mem_sumS.mpr ⟨z, hz, w, hw, rfl⟩, (ord_sum (ha.ln z hz).toLn' (hb.ln w hw).toLn').mpr ⟨u, v, h1, h2, e⟩⟩
theorem s_sumLines {n C D : Nat} {z w : LineT} {P : LineT → Prop} {PE : Ex → Prop} (hz : Wl n C z) (hw : Wl n D w) (h : P (sumL z w)) : m_sum_of_lines z w P PE := by
  unfold m_sum_of_lines
  have h3 := hz.n1
  have f1 := hz.few60; have f2 := hw.few60
  refine s_plus (by rw [hz.len]; omega) ?_
  refine ⟨by omega, ?_⟩
  have hp : ∀ p ∈ z.2 ++ w.2, Pk n p := fun p hp => (List.mem_append.mp hp).elim (hz.pks p) (hw.pks p)
  refine s_line_inT (n := n) (by omega) (fun p m => ⟨(hp p m).len, (hp p m).nn⟩) (by rw [List.length_append]; omega) ?_
  rw [filter_pos hp]; exact h
theorem s_addS {n C D : Nat} {a b : StyleT} {P : StyleT → Prop} {PE : Ex → Prop} (ha : Sw n C a) (hb : Sw n D b) (hl : a.length < 100) (h : P (sumS a b)) : m_Style___add__ a b P PE := by
  unfold m_Style___add__ m_require_style m_style_in m_Lines m_StyleP
  refine if_ok (fun hc => by cases hc) (fun _ => ?_)
  refine s_like ha.hd hb.hd ?_
  have := hb.few
  exact lcT_det (fun _ => b) (fun z w => sumL z w) hl (fun _ _ _ q => q) (fun _ _ => by omega) (fun z hz w hw Q q => s_sumLines (ha.ln z hz) (hb.ln w hw) q) h
theorem s_plain {ps : StyleT} {P : StyleT → Prop} {PE : Ex → Prop} (hl : ps.length < 1000000) (h : P ps) : m__law_plain_style ps P PE := by
  unfold m__law_plain_style m_Line_base m_Line_packs
  refine lc_det (fun z => z) hl (fun z hz Q q => q) ?_
  rw [List.map_id']; exact h
theorem eq_self (z : LineT) : m_Line___eq__ z z (fun b => b = true) (fun _ => False) := by
  unfold m_Line___eq__
  show (true && (decide _ && decide _)) = true
  rw [decide_eq_true rfl, decide_eq_true rfl]; rfl
theorem s_eqL {z w : LineT} {P : Bool → Prop} {PE : Ex → Prop} (e : z = w) (h : P true) : m_Line___eq__ z w P PE := by
  subst e
  unfold m_Line___eq__
  show P (true && (decide _ && decide _))
  rw [decide_eq_true rfl, decide_eq_true rfl]; exact h
theorem s_same {b : Bool} {x y : List LineT} {P : Bool → Prop} {PE : Ex → Prop} (e : x = y) (h : P b) : sameW (fun p => m_Line___eq__ p.1 p.2) b x y P PE := ⟨⟨e, fun z _ => eq_self z⟩, h⟩

theorem sumS_get {b : StyleT} (hb : 0 < b.length) : ∀ {a : StyleT} {i : Nat}, i < a.length * b.length → ∃ z w, a[i / b.length]? = some z ∧ b[i % b.length]? = some w ∧ (sumS a b)[i]? = some (sumL z w)
  | [], i, h => by simp at h
  | z :: a, i, h => by
    unfold sumS
    rw [List.flatMap_cons]
    by_cases c : i < b.length
    · have hw : b[i]? = some b[i] := List.getElem?_eq_getElem c
      refine ⟨z, b[i], by rw [Nat.div_eq_of_lt c]; rfl, by rw [Nat.mod_eq_of_lt c]; exact hw, ?_⟩
      rw [List.getElem?_append_left (by rw [List.length_map]; exact c), List.getElem?_map, hw]; rfl
    · have hc : b.length ≤ i := by omega
      have h' : i - b.length < a.length * b.length := by rw [List.length_cons, Nat.add_mul] at h; omega
      obtain ⟨z', w', h1, h2, h3⟩ := sumS_get hb h'
      have e1 : i / b.length = (i - b.length) / b.length + 1 := Nat.div_eq_sub_div hb hc
      have e2 : i % b.length = (i - b.length) % b.length := Nat.mod_eq_sub_mod hc
      refine ⟨z', w', by rw [e1]; exact h1, by rw [e2]; exact h2, ?_⟩
      rw [List.getElem?_append_right (by rw [List.length_map]; exact hc), List.length_map]
      exact h3
/-- a drawn style -/
structure Dr (n : Nat) (ps : StyleT) : Prop where
  n1 : 1 ≤ n ∧ n ≤ 3
  few : ps.length ≤ 2
  ne : ps ≠ []
  pl : ∀ z ∈ ps, Pl n z
  pk : ∀ z ∈ ps, z.2.length ≤ 2
theorem Dr.sw {n : Nat} {ps : StyleT} (h : Dr n ps) : Sw n 9 ps := sw_of h.n1 (by have := h.few; omega) h.ne h.pl
theorem Dr.made {n : Nat} {ps : StyleT} {P : StyleT → Prop} {PE : Ex → Prop} (h : Dr n ps) (k : P ps) : m__law_made_style ps P PE := s_made (n := n) (by have := h.few; omega) h.ne h.pl k
theorem rng_is {m : Int} {i : Nat} {x : Int} (h : (rng 0 m)[i]? = some x) : x = (i : Int) ∧ (i : Int) < m := by
  have h1 := lt_of_get h
  rw [rng_len] at h1
  rw [rng_at h1] at h
  have := Option.some.inj h
  omega
theorem s_both {n most : Nat} {one other : StyleT} {P : Bool → Prop} {PE : Ex → Prop} (h1 : Dr n one) (h2 : Dr n other) (hm : most ≤ 12) (hp : (most + 1) ^ n ≤ 64) (h : P true) : m__law_both_right one other most P PE := by
  unfold m__law_both_right
  have h3 := h1.n1
  have sa := h1.sw; have sb := h2.sw
  have fa := h1.few; have fb := h2.few
  have hll : one.length * other.length ≤ 4 := Nat.mul_le_mul fa fb
  obtain ⟨sm, fm⟩ := Sw.sum sa sb h1.pk h2.pk (by omega) (by omega) (by omega)
  have sp := Sw.app sa sb (by omega)
  refine h1.made (h2.made ?_)
  dsimp only [W.pure]
  refine s_or sa sb (s_addS sa sb (by omega) ?_)
  dsimp only [W.pure]
  refine s_orders sa (by omega) (by omega) fun L1 o1 => s_orders sb (by omega) (by omega) fun L2 o2 => ?_
  have k1 := o1.few; have k2 := o2.few
  dsimp only [W.pure]
  unfold m_Style_lines m_Style___len__
  refine ⟨by omega, s_same rfl ?_⟩
  refine if_f ?_
  refine ⟨⟨by omega, by rw [sumS_len]; omega⟩, .inl ⟨by omega, by omega⟩, ?_⟩
  refine if_ok (fun hc => by rw [sumS_len] at hc; simp at hc) (fun _ => ?_)
  refine s_plain (by rw [List.length_append]; omega) (s_orders sp (by omega) (by omega) fun L3 o3 => ?_)
  have rows : ∀ r ∈ L1 ++ L2, r.length = n ∧ ∀ x ∈ r, 0 ≤ x ∧ x ≤ (most : Int) := fun r hr => (List.mem_append.mp hr).elim (o1.row r) (o2.row r)
  refine ⟨L1, rfl, L2, rfl, by omega, setOk_rows (n := n) (B := most) (by rw [List.length_append]; omega) rows (by omega), srtOk_len (n := n) (by omega) (fun r hr => (rows r hr).1), ?_⟩
  have e3 : L3 = srtS (L1 ++ L2) := o3.srt.ext srt_srtS fun r => by
    rw [mem_srtS, List.mem_append, o3.mem, o1.mem, o2.mem, ordS_app]
    exact ⟨fun ⟨a, b⟩ => a.elim (fun a => .inl ⟨a, b⟩) fun a => .inr ⟨a, b⟩, fun a => a.elim (fun ⟨a, b⟩ => ⟨.inl a, b⟩) fun ⟨a, b⟩ => ⟨.inr a, b⟩⟩
  refine if_ok (fun hc => by rw [decide_eq_true e3] at hc; cases hc) (fun _ => ?_)
  refine ⟨L1, rfl, ?_⟩
  refine fold_ok (fun i (due : List (List Int)) => due.length ≤ i * 64 ∧ ∀ r, r ∈ due ↔ ∃ (j : Nat) (a : List Int), j < i ∧ L1[j]? = some a ∧ ∃ b ∈ L2, r = vadd a b) ⟨by simp, fun r => by simp⟩ (fun i a due Q ha hI hQ => ?_) (fun due hI => ?_)
  · obtain ⟨hI1, hI2⟩ := hI
    have hi := lt_of_get ha
    have ra := o1.row a (List.mem_of_getElem? ha)
    refine ⟨L2, rfl, lc_det (fun b => vadd a b) (by omega) (fun b hb Q q => s_lplus (by rw [ra.1]; omega) q) ?_⟩
    refine ⟨by rw [List.length_map]; omega, hQ _ ⟨by rw [List.length_append, List.length_map]; omega, fun r => ?_⟩⟩
    rw [List.mem_append, hI2, List.mem_map]
    constructor
    · rintro (⟨j, a', hj, ea, b, hb, e⟩ | ⟨b, hb, e⟩)
      · exact ⟨j, a', by omega, ea, b, hb, e⟩
      · exact ⟨i, a, by omega, ha, b, hb, e.symm⟩
    · rintro ⟨j, a', hj, ea, b, hb, e⟩
      by_cases c : j = i
      · subst c
        rw [ha] at ea; cases ea
        exact .inr ⟨b, hb, e.symm⟩
      · exact .inl ⟨j, a', by omega, ea, b, hb, e⟩
  · obtain ⟨hI1, hI2⟩ := hI
    have rows : ∀ r ∈ due, r.length = n := fun r hr => by
      obtain ⟨j, a, hj, ea, b, hb, e⟩ := (hI2 r).mp hr
      have ra := (o1.row a (List.mem_of_getElem? ea)).1
      have rb := (o2.row b hb).1
      rw [e, vadd_len (by omega)]; exact ra
    refine lc_detF (fun r => decide (mxI r ≤ most)) (fun r => r) (by omega) (fun r hr Q q => ⟨by rw [rows r hr]; omega, q⟩) (fun _ _ _ _ q => q) ?_
    rw [List.map_id']
    have mx : ∀ r : List Int, r.length = n → (mxI r ≤ (most : Int) ↔ ∀ s, s < n → gt r s ≤ (most : Int)) := fun r hr => by
      have hne : r ≠ [] := fun e => by rw [e] at hr; simp at hr; omega
      refine ⟨fun hle s hs => Int.le_trans (le_mxI (gt_mem (by omega))) hle, fun hle => ?_⟩
      obtain ⟨s, hs, e⟩ := mem_gt (mxI_mem hne)
      rw [← e]; exact hle s (by omega)
    have oL : ∀ {c : StyleT} {C : Nat} {r : List Int}, Sw n C c → OrdS n c r → r.length = n ∧ ∀ s, s < n → 0 ≤ gt r s := fun hc ⟨z, hz, ho⟩ => ⟨ord_len (hc.ln z hz).toLn' ho, ord_nn (hc.ln z hz).toLn' ho⟩
    have hmem : ∀ r, r ∈ due.filter (fun r => decide (mxI r ≤ (most : Int))) ↔ OrdS n (sumS one other) r ∧ ∀ s, s < n → gt r s ≤ (most : Int) := fun r => by
      rw [List.mem_filter, decide_eq_true_iff, hI2, ordS_sum sa sb]
      constructor
      · rintro ⟨⟨j, a, hj, ea, b, hb, e⟩, hle⟩
        have ma := (o1.mem a).mp (List.mem_of_getElem? ea)
        have mb := (o2.mem b).mp hb
        have la := (oL sa ma.1).1; have lb := (oL sb mb.1).1
        exact ⟨⟨a, b, ma.1, mb.1, e⟩, (mx r (by rw [e, vadd_len (by omega), la])).mp hle⟩
      · rintro ⟨⟨a, b, ha, hb, e⟩, hle⟩
        have la := oL sa ha; have lb := oL sb hb
        have each : ∀ s, s < n → gt a s ≤ (most : Int) ∧ gt b s ≤ (most : Int) := fun s hs => by
          have := hle s hs
          rw [e, gt_vadd (by omega) (by omega)] at this
          have := la.2 s hs; have := lb.2 s hs
          omega
        obtain ⟨j, hj⟩ := List.mem_iff_getElem?.mp ((o1.mem a).mpr ⟨ha, fun s hs => (each s hs).1⟩)
        exact ⟨⟨j, a, lt_of_get hj, hj, b, (o2.mem b).mpr ⟨hb, fun s hs => (each s hs).2⟩, e⟩, (mx r (by rw [e, vadd_len (by omega), la.1])).mpr hle⟩
    have fl := List.length_filter_le (fun r => decide (mxI r ≤ (most : Int))) due
    refine ⟨setOk_rows (n := n) (B := most) (by omega) (fun r hr => ords_row sm ((hmem r).mp hr).1 ((hmem r).mp hr).2) (by omega), srtOk_len (n := n) (by omega) fun r hr => (oL sm ((hmem r).mp hr).1).1, ?_⟩
    refine s_plain (by rw [sumS_len]; omega) (s_orders sm (by omega) (by omega) fun L4 o4 => ?_)
    have e4 : L4 = srtS (due.filter fun r => decide (mxI r ≤ (most : Int))) := o4.srt.ext srt_srtS fun r => by rw [mem_srtS, o4.mem, hmem]
    refine if_ok (fun hc => by rw [decide_eq_true e4] at hc; cases hc) (fun _ => ?_)
    refine s_sorders sm (by rw [sumS_len]; omega) hm (by omega) fun L5 o5 => ?_
    have e5 : L5 = srtS (due.filter fun r => decide (mxI r ≤ (most : Int))) := o5.srt.ext srt_srtS fun r => by rw [mem_srtS, o5.mem, hmem]
    refine if_ok (fun hc => by rw [decide_eq_true e5] at hc; cases hc) (fun _ => ?_)
    refine ⟨⟨by omega, by rw [sumS_len]; omega⟩, ⟨by omega, by rw [sumS_len]; omega⟩, ?_⟩
    refine foldF_ok (fun _ _ => True) trivial (fun i x st Q hx _ hQ => ?_) (fun st _ => h)
    obtain ⟨rfl, hx2⟩ := rng_is hx
    rw [sumS_len] at hx2
    have hbp : 0 < other.length := List.length_pos_iff.mpr h2.ne
    obtain ⟨z, w, ez, ew, eq⟩ := sumS_get (a := one) hbp (i := i) (by omega)
    refine s_sitem eq ?_
    have d1 : ((i : Nat) : Int) / (other.length : Int) = ((i / other.length : Nat) : Int) := by simp
    have d2 : ((i : Nat) : Int) % (other.length : Int) = ((i % other.length : Nat) : Int) := by simp
    refine ⟨⟨by omega, by omega⟩, ?_⟩
    rw [d1]
    refine s_sitem ez ?_
    refine ⟨by omega, ?_⟩
    rw [d2]
    refine s_sitem ew ?_
    refine s_add (sa.ln z (List.mem_of_getElem? ez)) (sb.ln w (List.mem_of_getElem? ew)) (s_eqL rfl ?_)
    exact if_f (hQ () trivial)

/-! changed line by line -/
theorem s_style_in {ps : StyleT} {P : StyleT → Prop} {PE : Ex → Prop} (h : P ps) : m_style_in ps P PE := h
theorem s_Sshifted {n C : Nat} {ps : StyleT} {row : List Int} {P : StyleT → Prop} {PE : Ex → Prop} (hs : Sw n C ps) (hr : row.length = n) (h0 : ∀ x ∈ row, 0 ≤ x) (h : P (ps.map fun z => (vadd z.1 row, z.2))) : m_Style_shifted ps row P PE := by
  unfold m_Style_shifted m_require_order m_require_equal_sorts
  have h3 := hs.n1
  obtain ⟨z, hz, w⟩ := hs.first
  refine s_is_order (by omega) h0 ?_
  refine if_ok (fun hc => by cases hc) (fun _ => ?_)
  refine ⟨z, atI_of hz, ?_⟩
  refine if_ok (fun hc => by simp [w.len, hr] at hc) (fun _ => ?_)
  refine lc_det (fun z => (vadd z.1 row, z.2)) (by have := hs.few; omega) (fun z hz Q q => ?_) (s_style_in h)
  have w := hs.ln z hz
  refine s_plus (by rw [w.len]; omega) ?_
  refine s_line_inT (n := n) (by omega) (fun p m => ⟨(w.pks p m).len, (w.pks p m).nn⟩) (by have := w.few60; omega) ?_
  rw [filter_pos w.pks, srt_id w.srt]; exact q
theorem s_scaled_in {n C : Nat} {z : LineT} {k : Nat} {P : LineT → Prop} {PE : Ex → Prop} (hz : Wl n C z) (hk : 1 ≤ k ∧ k ≤ 9) (hC : C < 100000) (h : P (scaleL z k)) : m_scaled_in z k P PE := by
  have := s_scaled (P := P) (PE := PE) hz hk hC h
  unfold m_scaled_in
  have h3 := hz.n1
  have hw := hz.scale hk hC
  refine s_taken (by rw [hz.len]; omega) ⟨by omega, by omega⟩ ?_
  refine lc_det (fun p => vmul p k) (by have := hz.few60; omega) (fun p hp Q q => s_taken (by rw [(hz.pks p hp).len]; omega) ⟨by omega, by omega⟩ q) ?_
  refine s_line_in' (n := n) (by omega) (fun p m => ⟨(hw.pks p m).len, (hw.pks p m).nn⟩) (by rw [List.length_map]; have := hz.few60; omega) ?_
  have e : srtS (List.filter (fun p => decide (0 < mxI p)) (List.map (fun p => vmul p (k : Int)) z.2)) = z.2.map fun p => vmul p (k : Int) := by
    have := filter_pos hw.pks
    have h2 := srt_id hw.srt
    unfold scaleL at this h2
    dsimp only at this h2
    rw [this, h2]
  rw [e]; exact h
theorem s_Sscaled {n C : Nat} {ps : StyleT} {k : Nat} {P : StyleT → Prop} {PE : Ex → Prop} (hs : Sw n C ps) (hk : 1 ≤ k ∧ k ≤ 9) (hC : C < 100000) (h : P (ps.map fun z => scaleL z k)) : m_Style_scaled ps k P PE := by
  unfold m_Style_scaled m_require_scale
  refine s_is_integerM ?_
  refine if_ok (fun hc => by simp at hc; omega) (fun _ => ?_)
  exact lc_det (fun z => scaleL z k) (by have := hs.few; omega) (fun z hz Q q => s_scaled_in (hs.ln z hz) hk hC q) (s_style_in h)
theorem s_leanP {n : Nat} {z : LineT} {P : LineT → Prop} {PE : Ex → Prop} (h : Pl n z) (k : P (z.1, atoms n z.2)) : m_Line_lean z P PE :=
  s_lean (B := 6) h.toLn' h.srt (by have := h.few3; omega) ⟨pow_le_of h.n1.2 (by decide), by omega⟩ (fun p hp x hx => by have := h.p6 p hp x hx; have := (six h.n1).1; omega) k
noncomputable def leanS (n : Nat) (ps : StyleT) : StyleT := ps.map fun z => (z.1, atoms n z.2)
theorem s_Slean {n : Nat} {ps : StyleT} {P : StyleT → Prop} {PE : Ex → Prop} (h : Dr n ps) (k : P (leanS n ps)) : m_Style_lean ps P PE := by
  unfold m_Style_lean
  exact lc_det (fun z => (z.1, atoms n z.2)) (by have := h.few; omega) (fun z hz Q q => s_leanP (h.pl z hz) q) (s_style_in k)
theorem s_Sforgetting {n C : Nat} {ps : StyleT} {s : Nat} {P : StyleT → Prop} {PE : Ex → Prop} (hs : Sw n C ps) (hsn : s < n) (hn : 2 ≤ n) (h : P (ps.map fun z => lessL z s)) : m_Style_forgetting ps s P PE := by
  unfold m_Style_forgetting m_require_sort
  obtain ⟨z, hz, w⟩ := hs.first
  refine ⟨z, atI_of hz, ?_⟩
  have hl := w.len
  refine s_is_integerM ?_
  refine if_ok (fun hc => by simp at hc; omega) (fun _ => ?_)
  refine if_ok (fun hc => by have := of_decide_eq_true hc; omega) (fun _ => ?_)
  refine lc_det (fun z => lessL z s) (by have := hs.few; omega) (fun z hz Q q => ?_) (s_style_in h)
  have hz := hs.ln z hz
  unfold m_forgotten_in
  have h3 := hz.n1
  have hl := hz.len
  dsimp only [W.bind, W.pure]
  refine s_cut_ers (v := z.1) (by omega) ?_
  refine lc_det (fun p => ers p s) (by have := hz.few60; omega) (fun p hp Q q => s_cut_ers (by rw [(hz.pks p hp).len]; omega) q) ?_
  refine s_line_in' (n := n - 1) (by omega) (fun q hq => ?_) (by rw [List.length_map]; have := hz.few60; omega) q
  obtain ⟨p, hp, rfl⟩ := List.mem_map.mp hq
  exact ⟨ers_len (hz.pks p hp).len hsn, fun x hx => (hz.pks p hp).nn x (ers_mem hx)⟩
theorem lean_sw {n : Nat} {ps : StyleT} (h : Dr n ps) : Sw n 9 (leanS n ps) := by
  refine ⟨h.n1, fun e => h.ne (List.map_eq_nil_iff.mp e), by unfold leanS; rw [List.length_map]; have := h.few; omega, fun q hq => ?_⟩
  obtain ⟨z, hz, rfl⟩ := List.mem_map.mp hq
  have p := h.pl z hz
  have w := p.wl
  have la : (atoms n z.2).length ≤ z.2.length := List.length_filter_le _ _
  exact { n1 := h.n1, len := p.len, base := p.base, pks := fun q hq => p.pks q (mem_atoms.mp hq).1, few := by show (atoms n z.2).length ≤ 900; have := p.few3; omega, srt := (leanOf_atoms (n := n) p.srt).srt, few60 := by show (atoms n z.2).length ≤ 60; have := p.few3; omega, topb := w.topb, topp := fun q hq => w.topp q (mem_atoms.mp hq).1 }
theorem lean_ord {n : Nat} {ps : StyleT} (h : Dr n ps) {r : List Int} : OrdS n (leanS n ps) r ↔ OrdS n ps r := by
  have key : ∀ z ∈ ps, Ord n (z.1, atoms n z.2) r ↔ Ord n z r := fun z hz => by
    have p := h.pl z hz
    have sp := (leanOf_atoms (n := n) p.srt).span p.pks
    exact ⟨fun ⟨v, hv, e⟩ => ⟨v, (sp v).mp hv, e⟩, fun ⟨v, hv, e⟩ => ⟨v, (sp v).mpr hv, e⟩⟩
  constructor
  · rintro ⟨q, hq, a⟩
    obtain ⟨z, hz, rfl⟩ := List.mem_map.mp hq
    exact ⟨z, hz, (key z hz).mp a⟩
  · rintro ⟨z, hz, a⟩
    exact ⟨_, List.mem_map_of_mem hz, (key z hz).mpr a⟩
theorem s_Lshifted {n C : Nat} {z : LineT} {row : List Int} {P : LineT → Prop} {PE : Ex → Prop} (hz : Wl n C z) (hr : row.length = n) (h0 : ∀ x ∈ row, 0 ≤ x) (h : P (vadd z.1 row, z.2)) : m_Line_shifted z row P PE := s_shifted hz hr h0 h
theorem most2 {n : Nat} (hn : 1 ≤ n ∧ n ≤ 3) : ∃ most : Nat, atI ([12, 6, 3] : List Int) ((n : Int) - 1) = some (most : Int) ∧ most < 1000 ∧ (most + 1) ^ n ≤ 64 := by
  have : n = 1 ∨ n = 2 ∨ n = 3 := by omega
  rcases this with e | e | e
  · subst e; exact ⟨12, rfl, by omega, by decide⟩
  · subst e; exact ⟨6, rfl, by omega, by decide⟩
  · subst e; exact ⟨3, rfl, by omega, by decide⟩
theorem most1 {n : Nat} (hn : 1 ≤ n ∧ n ≤ 3) : ∃ most : Nat, atI ([10, 5, 3] : List Int) ((n : Int) - 1) = some (most : Int) ∧ most ≤ 12 ∧ (most + 1) ^ n ≤ 64 := by
  have : n = 1 ∨ n = 2 ∨ n = 3 := by omega
  rcases this with e | e | e
  · subst e; exact ⟨10, rfl, by omega, by decide⟩
  · subst e; exact ⟨5, rfl, by omega, by decide⟩
  · subst e; exact ⟨3, rfl, by omega, by decide⟩
theorem s_changed {n : Nat} {d : PySem.Addr} {ps : StyleT} {P : Bool → Prop} {PE : Ex → Prop} (hd : Dr n ps) (h : P true) : m__law_changed_right d ps P PE := by
  unfold m__law_changed_right
  have h3 := hd.n1
  have hs := hd.sw
  have few := hd.few
  obtain ⟨z0, hz0, w0⟩ := hs.first
  refine hd.made ?_
  refine ⟨z0, atI_of hz0, ?_⟩
  dsimp only [W.pure]
  rw [show (z0.1.length : Int) = (n : Int) by rw [w0.len]]
  refine s_order (by omega) ⟨by omega, by omega⟩ fun row hr hr2 => ?_
  refine s_roll ⟨by omega, by omega⟩ fun y h0 h1 => ?_
  obtain ⟨k, hk, hk2⟩ : ∃ k : Nat, (1 + y) = (k : Int) ∧ 1 ≤ k ∧ k ≤ 9 := ⟨(1 + y).toNat, by omega, by omega, by omega⟩
  dsimp only [W.pure]
  rw [hk]
  unfold m_Style_lines
  refine s_Sshifted hs hr (fun x hx => (hr2 x hx).1) ?_
  refine lc_det (fun z => (vadd z.1 row, z.2)) (by omega) (fun z hz Q q => s_shifted (hs.ln z hz) hr (fun x hx => (hr2 x hx).1) q) (s_same rfl ?_)
  refine if_f ?_
  refine s_Sscaled hs hk2 (by omega) ?_
  refine lc_det (fun z => scaleL z k) (by omega) (fun z hz Q q => s_scaled (hs.ln z hz) hk2 (by omega) q) (s_same rfl ?_)
  refine if_f ?_
  refine s_Slean hd ?_
  refine lc_det (fun z => (z.1, atoms n z.2)) (by omega) (fun z hz Q q => s_leanP (hd.pl z hz) q) (s_same rfl ?_)
  refine if_f ?_
  refine s_roll ⟨by omega, by omega⟩ fun y2 g0 g1 => ?_
  obtain ⟨s, rfl⟩ : ∃ s : Nat, y2 = (s : Int) := ⟨y2.toNat, by omega⟩
  have hsn : s < n := by omega
  obtain ⟨most, e1, e2, e3⟩ := most2 h3
  have rest : (W.bind (W.get (atI ([(12 : Int), (6 : Int), (3 : Int)] : (List Int)) ((n : Int) - (1 : Int)))) fun x_most => (W.bind (W.bind (W.bind (m_Style_lean ps) fun y30 => (m__law_plain_style y30)) fun y31 => (m__law_orders y31 x_most)) fun y32 => (W.bind (m__law_orders ps x_most) fun y33 => (W.pure (decide (y32 = y33)))))) P PE := by
    refine ⟨most, e1, ?_⟩
    refine s_Slean hd (s_plain (by unfold leanS; rw [List.length_map]; omega) ?_)
    refine s_orders (lean_sw hd) e2 (by omega) fun l1 o1 => s_orders hs e2 (by omega) fun l2 o2 => ?_
    have e : l1 = l2 := o1.same o2 fun r => lean_ord hd
    show P (decide (l1 = l2))
    rw [decide_eq_true e]; exact h
  refine if_ok (fun hc => ?_) (fun _ => rest)
  have hn2 : 2 ≤ n := by have := of_decide_eq_true hc; omega
  refine s_Sforgetting hs hsn hn2 ?_
  refine lc_det (fun z => lessL z s) (by omega) (fun z hz Q q => s_forgetting (hs.ln z hz) hsn hn2 q) (s_same rfl ?_)
  exact if_f rest

theorem three {α : Type} {l : List α} (h : l.length = 3) : ∃ a b c, l = [a, b, c] := by
  match l, h with
  | [a, b, c], _ => exact ⟨a, b, c, rfl⟩
theorem s_right {d : PySem.Addr} {P : Bool → Prop} {PE : Ex → Prop} (h : P true) : m__law_right d P PE := by
  unfold m__law_right
  refine s_roll ⟨by omega, by omega⟩ fun y h0 h1 => ?_
  obtain ⟨n, hn, hn3⟩ : ∃ n : Nat, (1 + y) = (n : Int) ∧ 1 ≤ n ∧ n ≤ 3 := ⟨(1 + y).toNat, by omega, by omega, by omega⟩
  dsimp only [W.pure]
  rw [hn]
  refine ⟨⟨by omega, by omega⟩, ?_⟩
  refine lc_any (fun ps : StyleT => Dr n ps) (by rw [rng_len]; decide) (fun _ _ Q q => s_style (k := 2) (most := 3) (lines := 2) hn3 ⟨by omega, by omega⟩ ⟨by omega, by omega⟩ fun ps l1 l2 l3 => q ps ⟨hn3, l1, l2, fun z hz => (l3 z hz).1, fun z hz => (l3 z hz).2.2⟩) fun rows hl hg => ?_
  rw [rng_len] at hl
  obtain ⟨a, b, c, rfl⟩ := three hl
  have ha := hg a (by simp); have hb := hg b (by simp); have hc := hg c (by simp)
  obtain ⟨most, e1, e2, e3⟩ := most1 hn3
  refine ⟨most, e1, ?_⟩
  refine ⟨a, rfl, b, rfl, ?_⟩
  refine s_both ha hb e2 e3 ?_
  refine if_f ?_
  refine ⟨a, rfl, s_changed ha ?_⟩
  refine if_f ?_
  refine lc_det (fun z => z) (by simp) (fun z hz Q q => (hg z hz).made q) ?_
  refine ⟨a, b, c, rfl, ?_⟩
  have sa := ha.sw; have sb := hb.sw; have sc := hc.sw
  have fa := ha.few; have fb := hb.few; have fc := hc.few
  have sab := Sw.app sa sb (by omega)
  have fab : Fp 2 (a ++ b) := fun z hz => (List.mem_append.mp hz).elim (ha.pk z) (hb.pk z)
  have lab : (a ++ b).length ≤ 4 := by rw [List.length_append]; omega
  have labc : (a ++ b).length * c.length ≤ 4 * 2 := Nat.mul_le_mul lab fc
  have lac : a.length * c.length ≤ 2 * 2 := Nat.mul_le_mul fa fc
  have lbc : b.length * c.length ≤ 2 * 2 := Nat.mul_le_mul fb fc
  obtain ⟨s1, f1⟩ := Sw.sum sab sc fab hc.pk (by omega) (by omega) (by omega)
  obtain ⟨s2, f2⟩ := Sw.sum sa sc ha.pk hc.pk (by omega) (by omega) (by omega)
  obtain ⟨s3, f3⟩ := Sw.sum sb sc hb.pk hc.pk (by omega) (by omega) (by omega)
  have s4 := Sw.app s2 s3 (by rw [sumS_len, sumS_len]; omega)
  dsimp only
  refine s_or sa sb (s_addS sab sc (by omega) ?_)
  refine s_plain (by rw [sumS_len]; omega) (s_orders s1 (by omega) (by omega) fun L o => ?_)
  refine s_addS sa sc (by omega) (s_addS sb sc (by omega) (s_or s2 s3 ?_))
  refine s_plain (by rw [List.length_append, sumS_len, sumS_len]; omega) (s_orders s4 (by omega) (by omega) fun K p => ?_)
  have e : L = K := o.same p fun r => by rw [sumS_app]
  show P (decide (L = K))
  rw [decide_eq_true e]; exact h
/-! the end -/
theorem pl_of {n : Nat} {z : LineT} (hn : 1 ≤ n ∧ n ≤ 3) (h1 : z.1.length = n) (h2 : ∀ x ∈ z.1, 0 ≤ x ∧ x ≤ 9) (h3 : z.2.length ≤ 3) (h4 : ∀ p ∈ z.2, p.length = n ∧ (∀ x ∈ p, 0 ≤ x ∧ x ≤ 6 / (n : Int)) ∧ 0 < mxI p) (h5 : Asc z.2) : Pl n z :=
  { n1 := hn, len := h1, base := fun x hx => by have := h2 x hx; omega, few := by omega, few3 := h3, b9 := fun x hx => (h2 x hx).2, asc := h5, nd := (srt_asc.mp h5).nd, p6 := fun p hp x hx => ((h4 p hp).2.1 x hx).2
    pks := fun p hp => ⟨(h4 p hp).1, fun x hx => by have := (h4 p hp).2.1 x hx; have := (six hn).1; omega, ⟨mxI p, mxI_mem (fun e => by have := (h4 p hp).1; rw [e] at this; simp at this; omega), (h4 p hp).2.2⟩⟩ }
theorem plk {b : Int} (hb : 0 ≤ b ∧ b ≤ 9) : Pl 1 ([b], [[2]]) := pl_of ⟨by omega, by omega⟩ rfl (by simpa using hb) (by simp) (by simp; decide) (by show Asc ([[2]] : List (List Int)); decide +kernel)
theorem ord1 {b : Int} (hb : 0 ≤ b ∧ b ≤ 9) {r : List Int} : Ord 1 ([b], [[2]]) r ↔ ∃ m : Int, 0 ≤ m ∧ r = [b + m * 2] := by
  have hz := (plk hb).toLn'
  have g1 : ∀ x : Int, gt [x] 0 = x := fun x => rfl
  constructor
  · intro h
    have hl := ord_len hz h
    obtain ⟨ns, o⟩ := (ord_of hz hl).mp h
    obtain ⟨m, rfl⟩ : ∃ m, ns = [m] := by
      have := o.len
      match ns, this with
      | [m], _ => exact ⟨m, rfl⟩
    obtain ⟨x, rfl⟩ : ∃ x, r = [x] := by
      match r, hl with
      | [x], _ => exact ⟨x, rfl⟩
    have := o.sum 0 (by omega)
    rw [g1, g1, lin_cons, lin_nil, g1] at this
    exact ⟨m, o.nn m List.mem_cons_self, by rw [this]; simp⟩
  · rintro ⟨m, hm, rfl⟩
    refine (ord_of hz rfl).mpr ⟨[m], rfl, fun q hq => by rw [List.mem_singleton.mp hq]; exact hm, fun s hs => ?_⟩
    obtain rfl : s = 0 := by omega
    rw [g1, g1, lin_cons, lin_nil, g1]; omega
theorem sumk {a b : Int} : sumL ([a], [[2]]) ([b], [[2]]) = ([a + b], [[2]]) := by
  refine Prod.ext rfl ?_
  exact srtS_eq (srt_asc.mp (by show Asc ([[2]] : List (List Int)); decide +kernel)) (fun x hx => List.mem_append_left _ hx) fun x hx => (List.mem_append.mp hx).elim id id
theorem b1 {r : List Int} {x : Int} (h : r = [x]) (most : Int) : (∀ s, s < 1 → gt r s ≤ most) ↔ x ≤ most := by
  subst h
  exact ⟨fun h => h 0 (by omega), fun h s hs => by obtain rfl : s = 0 := by omega
                                                   exact h⟩
theorem law_ok (l : List Int) : m_law l (fun b => b = true) (fun _ => False) := by
  unfold m_law
  refine ⟨⟨by omega, by omega⟩, ?_⟩
  refine foldF_ok (fun _ _ => True) trivial (fun i x st Q hx _ hQ => ?_) (fun st _ => ?_)
  · have hx' := mem_rng.mp (List.mem_of_getElem? hx)
    refine s_dice ⟨hx'.1, by omega⟩ fun a b => ⟨rfl, fun D _ => ?_⟩
    refine s_right (if_f (s_right ?_))
    exact if_f (hQ () trivial)
  · have p0 : Pl 1 ([0], [[2]]) := plk ⟨by omega, by omega⟩
    have p1 : Pl 1 ([1], [[2]]) := plk ⟨by omega, by omega⟩
    have p2 : Pl 1 ([2], [[2]]) := plk ⟨by omega, by omega⟩
    have sw1 : ∀ {z : LineT}, Pl 1 z → Sw 1 9 [z] := fun h => ⟨⟨by omega, by omega⟩, by simp, by simp, fun w hw => by rw [List.mem_singleton.mp hw]; exact h.wl⟩
    have s0 := sw1 p0; have s1 := sw1 p1
    refine s_line p0 ?_
    refine s_styleC (n := 1) (by simp) (by simp) (by simp) ?_
    refine s_line p1 ?_
    refine s_styleC (n := 1) (by simp) (by simp) (by simp) ?_
    dsimp only [W.pure]
    refine s_addS s0 s1 (by simp) ?_
    have e01 : sumS [([0], [[2]])] [([1], [[2]])] = [([1], [[2]])] := by unfold sumS; simp [sumk]
    rw [e01]
    refine s_sorders (most := 5) s1 (by simp) (by omega) (by decide) fun l1 o1 => ?_
    refine s_or s0 s1 ?_
    have s01 : Sw 1 (9 + 9) [([0], [[2]]), ([1], [[2]])] := Sw.app s0 s1 (by simp)
    refine s_sorders (most := 3) s01 (by simp) (by omega) (by decide) fun l2 o2 => ?_
    refine s_addS s1 s1 (by simp) ?_
    have e11 : sumS [([1], [[2]])] [([1], [[2]])] = [([2], [[2]])] := by unfold sumS; simp [sumk]
    rw [e11]
    refine s_line p2 ?_
    refine s_same rfl ?_
    have d1 : l1 = [[1], [3], [5]] := o1.srt.ext (srt_asc.mp (by decide +kernel)) fun r => by
      rw [o1.mem]
      constructor
      · rintro ⟨⟨z, hz, ho⟩, hb⟩
        rw [List.mem_singleton.mp hz, ord1 ⟨by omega, by omega⟩] at ho
        obtain ⟨m, hm, e⟩ := ho
        have := (b1 e _).mp hb
        have : m = 0 ∨ m = 1 ∨ m = 2 := by omega
        rcases this with c | c | c <;> subst c <;> rw [e] <;> decide
      · intro hr
        have : ∃ m : Int, (0 ≤ m ∧ m ≤ 2) ∧ r = [1 + m * 2] := by
          simp at hr
          rcases hr with c | c | c
          · exact ⟨0, ⟨by omega, by omega⟩, c⟩
          · exact ⟨1, ⟨by omega, by omega⟩, c⟩
          · exact ⟨2, ⟨by omega, by omega⟩, c⟩
        obtain ⟨m, hm, e⟩ := this
        exact ⟨⟨_, List.mem_singleton.mpr rfl, (ord1 ⟨by omega, by omega⟩).mpr ⟨m, hm.1, e⟩⟩, (b1 e _).mpr (by omega)⟩
    have d2 : l2 = [[0], [1], [2], [3]] := o2.srt.ext (srt_asc.mp (by decide +kernel)) fun r => by
      rw [o2.mem]
      constructor
      · rintro ⟨⟨z, hz, ho⟩, hb⟩
        have : ∃ b : Int, (b = 0 ∨ b = 1) ∧ z = ([b], [[2]]) := by
          simp at hz
          rcases hz with c | c
          · exact ⟨0, .inl rfl, c⟩
          · exact ⟨1, .inr rfl, c⟩
        obtain ⟨b, hb2, rfl⟩ := this
        rw [ord1 ⟨by omega, by omega⟩] at ho
        obtain ⟨m, hm, e⟩ := ho
        have := (b1 e _).mp hb
        have : b + m * 2 = 0 ∨ b + m * 2 = 1 ∨ b + m * 2 = 2 ∨ b + m * 2 = 3 := by omega
        rcases this with c | c | c | c <;> rw [e, c] <;> decide
      · intro hr
        have : ∃ b m : Int, (b = 0 ∨ b = 1) ∧ (0 ≤ m ∧ m ≤ 1) ∧ r = [b + m * 2] := by
          simp at hr
          rcases hr with c | c | c | c
          · exact ⟨0, 0, by omega, by omega, c⟩
          · exact ⟨1, 0, by omega, by omega, c⟩
          · exact ⟨0, 1, by omega, by omega, c⟩
          · exact ⟨1, 1, by omega, by omega, c⟩
        obtain ⟨b, m, hb, hm, e⟩ := this
        exact ⟨⟨([b], [[2]]), by rcases hb with c | c <;> subst c <;> simp, (ord1 ⟨by omega, by omega⟩).mpr ⟨m, hm.1, e⟩⟩, (b1 e _).mpr (by omega)⟩
    refine decide_eq_true ?_
    rw [d1, d2]
end T09

namespace T09
open PySem PySem.Spec PyProof.Rows L2 GB GX MW
theorem txt {N : En} {h : Heap} (X : N.K.In h) (G : h.Ns mainGlobals N.mg) (c : SaysP fa fn pr ex N.K) : Txt N := by
  have e : ∀ i, i < 20 → exB i N.K = true := fun i hi => List.all_eq_true.mp c.more i (List.mem_range.mpr hi)
  exact {
    c_Line := He.cls_ok (c.d.fact 0 (f := .cls "Line") rfl)
    c_Style := He.cls_ok (c.d.fact 1 (f := .cls "Style") rfl)
    fg_Style := id (e 0 (by decide))
    g_Line := He.glo_ok X G (c.d.fact 2 (f := .glo "Line") rfl)
    g_Lines := He.glo_ok X G (c.d.fact 3 (f := .glo "Lines") rfl)
    g_Parts := He.glo_ok X G (c.d.fact 4 (f := .glo "Parts") rfl)
    g_Style := He.glo_ok X G (c.d.fact 5 (f := .glo "Style") rfl)
    i_MAX_BASE := He.int_ok X G (c.d.fact 6 (f := .int "MAX_BASE" 9) rfl)
    i_MAX_LINES := He.int_ok X G (c.d.fact 7 (f := .int "MAX_LINES" 3) rfl)
    i_MAX_PACKS := He.int_ok X G (c.d.fact 8 (f := .int "MAX_PACKS" 3) rfl)
    i_MAX_SCALE := He.int_ok X G (c.d.fact 9 (f := .int "MAX_SCALE" 9) rfl)
    i_MAX_SORTS := He.int_ok X G (c.d.fact 10 (f := .int "MAX_SORTS" 3) rfl)
    i_MOST_IN_PACK := He.int_ok X G (c.d.fact 11 (f := .int "MOST_IN_PACK" 6) rfl)
    i_MOST_LISTED := He.int_ok X G (c.d.fact 12 (f := .int "MOST_LISTED" 12) rfl)
    is_Line := isiB_ok (e 1 (by decide))
    is_Lines := isiB_ok (e 2 (by decide))
    is_Parts := isiB_ok (e 3 (by decide))
    is_Style := isiB_ok (e 4 (by decide))
    kt_Line_Line := kitB_ok (e 5 (by decide))
    kt_Lines_Lines := kitB_ok (e 6 (by decide))
    kt_Parts_Parts := kitB_ok (e 7 (by decide))
    kt_Style_Style := kitB_ok (e 8 (by decide))
    kt_int_bool := kitB_ok (e 9 (by decide))
    kt_tuple_Lines := kitB_ok (e 10 (by decide))
    kt_tuple_Parts := kitB_ok (e 11 (by decide))
    mk_Line := He.mkr_ok (c.d.fact 13 (f := .mkr "Line") rfl)
    mk_Lines := He.mkr_ok (c.d.fact 14 (f := .mkr "Lines") rfl)
    mk_Parts := He.mkr_ok (c.d.fact 15 (f := .mkr "Parts") rfl)
    mk_Style := He.mkr_ok (c.d.fact 16 (f := .mkr "Style") rfl)
    n_abs := He.free_ok X G (c.d.fact 17 (f := .free "abs") rfl)
    n_all := He.free_ok X G (c.d.fact 18 (f := .free "all") rfl)
    n_bool := He.free_ok X G (c.d.fact 19 (f := .free "bool") rfl)
    n_enumerate := He.free_ok X G (c.d.fact 20 (f := .free "enumerate") rfl)
    n_int := He.free_ok X G (c.d.fact 21 (f := .free "int") rfl)
    n_isinstance := He.free_ok X G (c.d.fact 22 (f := .free "isinstance") rfl)
    n_iter := He.free_ok X G (c.d.fact 23 (f := .free "iter") rfl)
    n_len := He.free_ok X G (c.d.fact 24 (f := .free "len") rfl)
    n_list := He.free_ok X G (c.d.fact 25 (f := .free "list") rfl)
    n_max := He.free_ok X G (c.d.fact 26 (f := .free "max") rfl)
    n_min := He.free_ok X G (c.d.fact 27 (f := .free "min") rfl)
    n_range := He.free_ok X G (c.d.fact 28 (f := .free "range") rfl)
    n_set := He.free_ok X G (c.d.fact 29 (f := .free "set") rfl)
    n_sorted := He.free_ok X G (c.d.fact 30 (f := .free "sorted") rfl)
    n_tuple := He.free_ok X G (c.d.fact 31 (f := .free "tuple") rfl)
    n_zip := He.free_ok X G (c.d.fact 32 (f := .free "zip") rfl)
    na_Line_own_base := He.noat_ok (c.d.fact 33 (f := .noat "Line" "own_base") rfl)
    na_Line_own_packs := He.noat_ok (c.d.fact 34 (f := .noat "Line" "own_packs") rfl)
    na_Style_own_lines := He.noat_ok (c.d.fact 35 (f := .noat "Style" "own_lines") rfl)
    ne_Line := necB_ok (e 12 (by decide))
    sc_Lines := sclsB_ok (e 13 (by decide))
    sc_Parts := sclsB_ok (e 14 (by decide))
    sf_Line := id (e 15 (by decide))
    sf_Style := id (e 16 (by decide))
    sl_Lines_own_lines := slotB_ok (e 17 (by decide))
    sl_Parts_own_base := slotB_ok (e 18 (by decide))
    sl_Parts_own_packs := slotB_ok (e 19 (by decide))
  }
theorem facts {P : Program} {w : World} {K : PySem.W.Frag} {h : Heap} {mg : Str → Option Value} {f : Addr} (X : K.In h) (G : h.Ns mainGlobals mg) (hfa : mg ("law" : Str) = some (.ref f)) (c : SaysP fa fn pr ex K) :
    ∃ fd : FuncData, (∀ (s : Shared) (v : Value), BindsTo s fd ⟨[v], []⟩ [("script", v)]) ∧ ∀ base : Heap, K.In base → base.Ns mainGlobals mg → FnOk P w K mg base (L2.CX P w) 13 f fd ["script"] (MW.SpLaw K) := by
  obtain ⟨fd, F0⟩ := c.d.def_ 61 rfl
  have e := hfa.symm.trans (He.glo_ok X G (c.d.fact 90 (f := .glo "law") rfl))
  cases e
  have b := FunD.bindsA (ps := ["script"]) F0 fun _ _ _ _ _ _ us hl => match us, hl with | [_], _ => rfl
  refine ⟨fd, fun s v => b s [v] rfl, fun base _ _ => ?_⟩
  let N : En := ⟨P, w, K, mg, base⟩
  have T : Txt N := txt X G c
  have ok_is_integer_ := ok_is_integer T (⟨c.d.def_ 0 rfl, He.glo_ok X G (c.d.fact 36 (f := .glo "is_integer") rfl)⟩) 
  have ok_is_order_ := ok_is_order T (⟨c.d.def_ 1 rfl, He.glo_ok X G (c.d.fact 37 (f := .glo "is_order") rfl)⟩) ok_is_integer_
  have ok_is_small_ := ok_is_small T (⟨c.d.def_ 2 rfl, He.glo_ok X G (c.d.fact 38 (f := .glo "is_small") rfl)⟩) ok_is_order_
  have ok_Parts_ := ok_Parts T (c.d.def_ 3 rfl) 
  have ok_checked_lines_ := ok_checked_lines T (⟨c.d.def_ 4 rfl, He.glo_ok X G (c.d.fact 39 (f := .glo "checked_lines") rfl)⟩) ok_is_order_ ok_is_small_ ok_Parts_
  have ok_Line_ := ok_Line T (⟨c.d.def_ 5 rfl, He.meth_ok (c.d.fact 40 (f := .meth "Line" "__init__") rfl), He.cls_ok (c.d.fact 0 (f := .cls "Line") rfl)⟩) ok_checked_lines_
  have ok_Lines_ := ok_Lines T (c.d.def_ 6 rfl) 
  have ok_checked_styles_ := ok_checked_styles T (⟨c.d.def_ 7 rfl, He.glo_ok X G (c.d.fact 41 (f := .glo "checked_styles") rfl)⟩) ok_Lines_
  have ok_Style_ := ok_Style T (c.d.def_ 8 rfl) ok_checked_styles_
  have ok_require_style_ := ok_require_style T (⟨c.d.def_ 9 rfl, He.glo_ok X G (c.d.fact 42 (f := .glo "require_style") rfl)⟩) 
  have ok_require_like_sorts_ := ok_require_like_sorts T (⟨c.d.def_ 10 rfl, He.glo_ok X G (c.d.fact 43 (f := .glo "require_like_sorts") rfl)⟩) 
  have ok_StyleP_ := ok_StyleP T (c.d.def_ 11 rfl) ok_checked_styles_
  have ok_style_inT_ := ok_style_inT T (⟨c.d.def_ 12 rfl, He.glo_ok X G (c.d.fact 44 (f := .glo "style_in") rfl)⟩) ok_Lines_ ok_StyleP_
  have ok_Style___or___ := ok_Style___or__ T (⟨c.d.def_ 13 rfl, He.meth_ok (c.d.fact 45 (f := .meth "Style" "__or__") rfl), He.cls_ok (c.d.fact 1 (f := .cls "Style") rfl)⟩) ok_require_style_ ok_require_like_sorts_ ok_style_inT_
  have ok_plus_ := ok_plus T (⟨c.d.def_ 14 rfl, He.glo_ok X G (c.d.fact 46 (f := .glo "plus") rfl)⟩) 
  have ok_LineP_ := ok_LineP T (⟨c.d.def_ 15 rfl, He.meth_ok (c.d.fact 40 (f := .meth "Line" "__init__") rfl), He.cls_ok (c.d.fact 0 (f := .cls "Line") rfl)⟩) ok_checked_lines_
  have ok_line_inT_ := ok_line_inT T (⟨c.d.def_ 16 rfl, He.glo_ok X G (c.d.fact 47 (f := .glo "line_in") rfl)⟩) ok_Parts_ ok_LineP_
  have ok_sum_of_lines_ := ok_sum_of_lines T (⟨c.d.def_ 17 rfl, He.glo_ok X G (c.d.fact 48 (f := .glo "sum_of_lines") rfl)⟩) ok_plus_ ok_line_inT_
  have ok_style_in_ := ok_style_in T (⟨c.d.def_ 18 rfl, He.glo_ok X G (c.d.fact 44 (f := .glo "style_in") rfl)⟩) ok_Lines_ ok_StyleP_
  have ok_Style___add___ := ok_Style___add__ T (⟨c.d.def_ 19 rfl, He.meth_ok (c.d.fact 49 (f := .meth "Style" "__add__") rfl), He.cls_ok (c.d.fact 1 (f := .cls "Style") rfl)⟩) ok_require_style_ ok_require_like_sorts_ ok_sum_of_lines_ ok_style_in_
  have ok_Style_lines_ := ok_Style_lines T (c.prop (N := N) 0 rfl (He.cls_ok (c.d.fact 1 (f := .cls "Style") rfl))) 
  have ok_Line___eq___ := ok_Line___eq__ T (⟨c.d.def_ 20 rfl, He.meth_ok (c.d.fact 50 (f := .meth "Line" "__eq__") rfl), He.cls_ok (c.d.fact 0 (f := .cls "Line") rfl)⟩) 
  have ok_Style___len___ := ok_Style___len__ T (⟨c.d.def_ 21 rfl, He.meth_ok (c.d.fact 51 (f := .meth "Style" "__len__") rfl), He.cls_ok (c.d.fact 1 (f := .cls "Style") rfl)⟩) 
  have ok_Style___iter___ := ok_Style___iter__ T (⟨c.d.def_ 22 rfl, He.meth_ok (c.d.fact 52 (f := .meth "Style" "__iter__") rfl), He.cls_ok (c.d.fact 1 (f := .cls "Style") rfl)⟩) 
  have ok_Line_base_ := ok_Line_base T (c.prop (N := N) 1 rfl (He.cls_ok (c.d.fact 0 (f := .cls "Line") rfl))) 
  have ok_Line_packs_ := ok_Line_packs T (c.prop (N := N) 2 rfl (He.cls_ok (c.d.fact 0 (f := .cls "Line") rfl))) 
  have ok_line_orders_ := ok_line_orders T (⟨c.d.def_ 23 rfl, He.glo_ok X G (c.d.fact 53 (f := .glo "line_orders") rfl)⟩) ok_plus_
  have ok_orders_up_to_ := ok_orders_up_to T (⟨c.d.def_ 24 rfl, He.glo_ok X G (c.d.fact 54 (f := .glo "orders_up_to") rfl)⟩) ok_line_orders_
  have ok_Style_orders_ := ok_Style_orders T (⟨c.d.def_ 25 rfl, He.meth_ok (c.d.fact 55 (f := .meth "Style" "orders") rfl), He.cls_ok (c.d.fact 1 (f := .cls "Style") rfl)⟩) ok_orders_up_to_ ok_is_integer_
  have ok_Style___getitem___ := ok_Style___getitem__ T (⟨c.d.def_ 26 rfl, He.meth_ok (c.d.fact 56 (f := .meth "Style" "__getitem__") rfl), He.cls_ok (c.d.fact 1 (f := .cls "Style") rfl)⟩) ok_is_integer_
  have ok_require_line_ := ok_require_line T (⟨c.d.def_ 27 rfl, He.glo_ok X G (c.d.fact 57 (f := .glo "require_line") rfl)⟩) 
  have ok_require_equal_sorts_ := ok_require_equal_sorts T (⟨c.d.def_ 28 rfl, He.glo_ok X G (c.d.fact 58 (f := .glo "require_equal_sorts") rfl)⟩) 
  have ok_Line___add___ := ok_Line___add__ T (⟨c.d.def_ 29 rfl, He.meth_ok (c.d.fact 59 (f := .meth "Line" "__add__") rfl), He.cls_ok (c.d.fact 0 (f := .cls "Line") rfl)⟩) ok_require_line_ ok_require_equal_sorts_ ok_sum_of_lines_
  have ok_require_order_ := ok_require_order T (⟨c.d.def_ 30 rfl, He.glo_ok X G (c.d.fact 60 (f := .glo "require_order") rfl)⟩) ok_is_order_
  have ok_Style_shifted_ := ok_Style_shifted T (⟨c.d.def_ 31 rfl, He.meth_ok (c.d.fact 61 (f := .meth "Style" "shifted") rfl), He.cls_ok (c.d.fact 1 (f := .cls "Style") rfl)⟩) ok_require_order_ ok_require_equal_sorts_ ok_plus_ ok_line_inT_ ok_style_in_
  have ok_Line_shifted_ := ok_Line_shifted T (⟨c.d.def_ 32 rfl, He.meth_ok (c.d.fact 62 (f := .meth "Line" "shifted") rfl), He.cls_ok (c.d.fact 0 (f := .cls "Line") rfl)⟩) ok_require_order_ ok_require_equal_sorts_ ok_plus_ ok_line_inT_
  have ok_require_scale_ := ok_require_scale T (⟨c.d.def_ 33 rfl, He.glo_ok X G (c.d.fact 63 (f := .glo "require_scale") rfl)⟩) ok_is_integer_
  have ok_taken_ := ok_taken T (⟨c.d.def_ 34 rfl, He.glo_ok X G (c.d.fact 64 (f := .glo "taken") rfl)⟩) 
  have ok_line_in_ := ok_line_in T (⟨c.d.def_ 35 rfl, He.glo_ok X G (c.d.fact 47 (f := .glo "line_in") rfl)⟩) ok_Parts_ ok_LineP_
  have ok_scaled_in_ := ok_scaled_in T (⟨c.d.def_ 36 rfl, He.glo_ok X G (c.d.fact 65 (f := .glo "scaled_in") rfl)⟩) ok_taken_ ok_line_in_
  have ok_Style_scaled_ := ok_Style_scaled T (⟨c.d.def_ 37 rfl, He.meth_ok (c.d.fact 66 (f := .meth "Style" "scaled") rfl), He.cls_ok (c.d.fact 1 (f := .cls "Style") rfl)⟩) ok_require_scale_ ok_scaled_in_ ok_style_in_
  have ok_Line_scaled_ := ok_Line_scaled T (⟨c.d.def_ 38 rfl, He.meth_ok (c.d.fact 67 (f := .meth "Line" "scaled") rfl), He.cls_ok (c.d.fact 0 (f := .cls "Line") rfl)⟩) ok_require_scale_ ok_scaled_in_
  have ok_most_often_ := ok_most_often T (⟨c.d.def_ 39 rfl, He.glo_ok X G (c.d.fact 68 (f := .glo "most_often") rfl)⟩) 
  have ok_leftovers_ := ok_leftovers T (⟨c.d.def_ 40 rfl, He.glo_ok X G (c.d.fact 69 (f := .glo "leftovers") rfl)⟩) ok_most_often_ ok_taken_ ok_plus_
  have ok_lean_in_ := ok_lean_in T (⟨c.d.def_ 41 rfl, He.glo_ok X G (c.d.fact 70 (f := .glo "lean_in") rfl)⟩) ok_leftovers_ ok_line_in_
  have ok_Style_lean_ := ok_Style_lean T (⟨c.d.def_ 42 rfl, He.meth_ok (c.d.fact 71 (f := .meth "Style" "lean") rfl), He.cls_ok (c.d.fact 1 (f := .cls "Style") rfl)⟩) ok_lean_in_ ok_style_in_
  have ok_Line_lean_ := ok_Line_lean T (⟨c.d.def_ 43 rfl, He.meth_ok (c.d.fact 72 (f := .meth "Line" "lean") rfl), He.cls_ok (c.d.fact 0 (f := .cls "Line") rfl)⟩) ok_lean_in_
  have ok_require_sort_ := ok_require_sort T (⟨c.d.def_ 44 rfl, He.glo_ok X G (c.d.fact 73 (f := .glo "require_sort") rfl)⟩) ok_is_integer_
  have ok_forgotten_in_ := ok_forgotten_in T (⟨c.d.def_ 45 rfl, He.glo_ok X G (c.d.fact 74 (f := .glo "forgotten_in") rfl)⟩) ok_line_in_
  have ok_Style_forgetting_ := ok_Style_forgetting T (⟨c.d.def_ 46 rfl, He.meth_ok (c.d.fact 75 (f := .meth "Style" "forgetting") rfl), He.cls_ok (c.d.fact 1 (f := .cls "Style") rfl)⟩) ok_require_sort_ ok_forgotten_in_ ok_style_in_
  have ok_Line_forgetting_ := ok_Line_forgetting T (⟨c.d.def_ 47 rfl, He.meth_ok (c.d.fact 76 (f := .meth "Line" "forgetting") rfl), He.cls_ok (c.d.fact 0 (f := .cls "Line") rfl)⟩) ok_require_sort_ ok_forgotten_in_
  have ok__law_dice_ := ok__law_dice T (⟨c.d.def_ 48 rfl, He.glo_ok X G (c.d.fact 77 (f := .glo "_law_dice") rfl)⟩) 
  have ok__law_roll_ := ok__law_roll T (⟨c.d.def_ 49 rfl, He.glo_ok X G (c.d.fact 78 (f := .glo "_law_roll") rfl)⟩) 
  have ok__law_order_ := ok__law_order T (⟨c.d.def_ 50 rfl, He.glo_ok X G (c.d.fact 79 (f := .glo "_law_order") rfl)⟩) ok__law_roll_
  have ok__law_line_ := ok__law_line T (⟨c.d.def_ 51 rfl, He.glo_ok X G (c.d.fact 80 (f := .glo "_law_line") rfl)⟩) ok__law_roll_ ok__law_order_
  have ok__law_style_ := ok__law_style T (⟨c.d.def_ 52 rfl, He.glo_ok X G (c.d.fact 81 (f := .glo "_law_style") rfl)⟩) ok__law_roll_ ok__law_line_
  have ok__law_made_style_ := ok__law_made_style T (⟨c.d.def_ 53 rfl, He.glo_ok X G (c.d.fact 82 (f := .glo "_law_made_style") rfl)⟩) ok_Line_ ok_Style_
  have ok__law_plus_ := ok__law_plus T (⟨c.d.def_ 54 rfl, He.glo_ok X G (c.d.fact 83 (f := .glo "_law_plus") rfl)⟩) 
  have ok__law_line_orders_ := ok__law_line_orders T (⟨c.d.def_ 55 rfl, He.glo_ok X G (c.d.fact 84 (f := .glo "_law_line_orders") rfl)⟩) ok__law_plus_
  have ok__law_orders_ := ok__law_orders T (⟨c.d.def_ 56 rfl, He.glo_ok X G (c.d.fact 85 (f := .glo "_law_orders") rfl)⟩) ok__law_line_orders_
  have ok__law_plain_style_ := ok__law_plain_style T (⟨c.d.def_ 57 rfl, He.glo_ok X G (c.d.fact 86 (f := .glo "_law_plain_style") rfl)⟩) ok_Style___iter___ ok_Line_base_ ok_Line_packs_
  have ok__law_both_right_ := ok__law_both_right T (⟨c.d.def_ 58 rfl, He.glo_ok X G (c.d.fact 87 (f := .glo "_law_both_right") rfl)⟩) ok__law_made_style_ ok_Style___or___ ok_Style___add___ ok__law_orders_ ok_Style_lines_ ok_Line___eq___ ok_Style___len___ ok__law_plain_style_ ok__law_plus_ ok_Style_orders_ ok_Style___getitem___ ok_Line___add___
  have ok__law_changed_right_ := ok__law_changed_right T (⟨c.d.def_ 59 rfl, He.glo_ok X G (c.d.fact 88 (f := .glo "_law_changed_right") rfl)⟩) ok__law_made_style_ ok__law_order_ ok__law_roll_ ok_Style_shifted_ ok_Style_lines_ ok_Line_shifted_ ok_Line___eq___ ok_Style_scaled_ ok_Line_scaled_ ok_Style_lean_ ok_Line_lean_ ok_Style_forgetting_ ok_Line_forgetting_ ok__law_plain_style_ ok__law_orders_
  have ok__law_right_ := ok__law_right T (⟨c.d.def_ 60 rfl, He.glo_ok X G (c.d.fact 89 (f := .glo "_law_right") rfl)⟩) ok__law_roll_ ok__law_style_ ok__law_both_right_ ok__law_changed_right_ ok__law_made_style_ ok_Style___or___ ok_Style___add___ ok__law_plain_style_ ok__law_orders_
  have ok_law_ := ok_law T (F0) ok__law_dice_ ok__law_right_ ok_Line_ ok_Style_ ok_Style___add___ ok_Style_orders_ ok_Style___or___ ok_Style_lines_ ok_Line___eq___
  exact MW.law_true ok_law_ law_ok
end T09
open PySem PySem.W PySem.Calls PyProof.Rows
theorem PySem.Challenge.cw_clerkblurs_k09_whole_styles_put_together_holds : PySem.Challenge.rw_clerkblurs_k09_whole_styles_put_together.Holds := by
  w_on; o_law
  refine HandSHeadRun.head_any (r := OpenLaw.row PySem.Challenge.rw_clerkblurs_k09_whole_styles_put_together) (q := view (OpenLaw.row PySem.Challenge.rw_clerkblurs_k09_whole_styles_put_together).prog [66]) (H := T09.hk) (ob := T09.ob) (M := 20000) (loose := T09.loose) (d := HandSHeadRun.topDef (OpenLaw.row PySem.Challenge.rw_clerkblurs_k09_whole_styles_put_together).prog 66) (kwd := []) T09.ob_eq
    (by kernel_rfl) (fun s => by kernel_rfl) T09.run (by kernel_rfl) (by kernel_rfl) (by kernel_rfl) (by rfl) (by first | assumption | decide +kernel) (by decide +kernel) ⟨rfl, rfl, rfl, rfl, rfl, by decide +kernel⟩ ?hw ?hc
  case hw => w_witness2
  case hc =>
    refine LamX.walk_ofTsE (l := PySem.Challenge.rw_clerkblurs_k09_whole_styles_put_together) (n := 63) (k := 13) (x := "script") (CX := fun w => L2.CX (PySem.Challenge.rw_clerkblurs_k09_whole_styles_put_together).prog w) rfl (by decide) (by kernel_rfl) ⟨rfl, by decide, by decide⟩ ?F (fun _ _ _ _ _ ⟨_, _, _, _, _, _, _, _, _, _, _, _, z⟩ => z.elim)
    intro w mg fa h Y G hmg0
    obtain ⟨K, KX, c⟩ := Y
    have hmg : mg ("law" : PySem.Str) = some (.ref fa) := by
      have e : (HandSHeadRun.topDef (OpenLaw.row PySem.Challenge.rw_clerkblurs_k09_whole_styles_put_together).prog 66).name = ("law" : PySem.Str) := by kernel_rfl
      rw [← e]
      exact hmg0
    obtain ⟨fd, hb, hF⟩ := T09.facts (P := (PySem.Challenge.rw_clerkblurs_k09_whole_styles_put_together).prog) (w := w) KX G hmg c
    refine ⟨K, KX, ?_⟩
    unfold LamX.LawAtS
    exact ⟨fd, [], MW.SpLaw K, fun _ hp => absurd hp List.not_mem_nil, fun _ hp => absurd hp List.not_mem_nil, fun _ hp => absurd hp List.not_mem_nil, hb, fun H a ns _ _ _ hS => ⟨_, ns, rfl, hS, fun _ => rfl⟩, fun base h1 h2 _ => hF base h1 h2⟩

