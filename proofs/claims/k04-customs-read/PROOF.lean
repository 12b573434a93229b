import PyProof.Rows.All
import Wide.All
import OpenK.AllK
import Wide.FinOn
import PyProof.StrBlock2
import PyProof.EqAt
import PyProof.EqKinds
import PyProof.TupleCall
import KE.KStateDown
import HandS.ForMost
import HandS.Exc
import HandS.ExcOwn
import HandS.ExcInit
import HandS.WordsExc
import HandS.Wide
import HandS.Defaults
import HandS.Head0
import HandS.Head1
import HandS.Head2
import HandS.HeadEnd
import HandS.HeadHook1
import HandS.HeadHook2
import HandS.IsInst
import HandS.Style
import HandS.Walk
import HandS.RaiseMore
import HandS.Deep
import PySem.Challenge.RW_heirwood_k04_customs_read
import HandS.HeadHook4
set_option Elab.async false
set_option linter.all false
set_option maxRecDepth 100000
set_option maxHeartbeats 4000000
/-! The layer over HandS: promises by arity, defs by name, rules that choose by the values. -/
namespace My
open PySem PySem.Spec PyProof.Rows L2

/-! ### promises by arity -/
def Sp0 (p : Hp → VK → XK → Prop) : Sp := fun vs H Q E => vs = [] ∧ p H Q E
def Sp1 (p : V → Hp → VK → XK → Prop) : Sp := fun vs H Q E => ∃ a, vs = [a] ∧ p a H Q E
def Sp2 (p : V → V → Hp → VK → XK → Prop) : Sp := fun vs H Q E => ∃ a b, vs = [a, b] ∧ p a b H Q E
def Sp3 (p : V → V → V → Hp → VK → XK → Prop) : Sp := fun vs H Q E => ∃ a b c, vs = [a, b, c] ∧ p a b c H Q E
def Sp4 (p : V → V → V → V → Hp → VK → XK → Prop) : Sp := fun vs H Q E => ∃ a b c d, vs = [a, b, c, d] ∧ p a b c d H Q E
def Sp5 (p : V → V → V → V → V → Hp → VK → XK → Prop) : Sp := fun vs H Q E => ∃ a b c d e, vs = [a, b, c, d, e] ∧ p a b c d e H Q E
theorem Sp0.len {p} : ∀ vs H Q E, Sp0 p vs H Q E → vs.length = 0 := fun _ _ _ _ ⟨e, _⟩ => by rw [e]; rfl
theorem Sp1.len {p} : ∀ vs H Q E, Sp1 p vs H Q E → vs.length = 1 := fun _ _ _ _ ⟨_, e, _⟩ => by rw [e]; rfl
theorem Sp2.len {p} : ∀ vs H Q E, Sp2 p vs H Q E → vs.length = 2 := fun _ _ _ _ ⟨_, _, e, _⟩ => by rw [e]; rfl
theorem Sp3.len {p} : ∀ vs H Q E, Sp3 p vs H Q E → vs.length = 3 := fun _ _ _ _ ⟨_, _, _, e, _⟩ => by rw [e]; rfl
theorem Sp4.len {p} : ∀ vs H Q E, Sp4 p vs H Q E → vs.length = 4 := fun _ _ _ _ ⟨_, _, _, _, e, _⟩ => by rw [e]; rfl
theorem Sp5.len {p} : ∀ vs H Q E, Sp5 p vs H Q E → vs.length = 5 := fun _ _ _ _ ⟨_, _, _, _, _, e, _⟩ => by rw [e]; rfl

/-! ### a def by its name -/
structure Kp (P : Program) (w : World) (K : PySem.W.Frag) (mg : Str → Option Value) (base : Heap) (CX : CXT) (k : Nat) (x : Str) (ps : List Str) (sp : Sp) : Prop where
  ex : ∃ f fd, mg x = some (.ref f) ∧ PySem.W.keepIn K (.ref f) = true ∧ Binds K fd ps [] ∧ FnOk P w K mg base CX k f fd ps sp
/-- a def at its place -/
structure Kf (P : Program) (w : World) (K : PySem.W.Frag) (mg : Str → Option Value) (base : Heap) (CX : CXT) (k : Nat) (f : Addr) (ps : List Str) (sp : Sp) : Prop where
  ex : ∃ fd, PySem.W.keepIn K (.ref f) = true ∧ Binds K fd ps [] ∧ FnOk P w K mg base CX k f fd ps sp

section
variable {X : Cx} {j k : Nat} {x : Str} {ps : List Str} {sp : Sp} {e : Expr} {es : List Expr} {t : TA} {p pos : Pos}
theorem pe_cK (c : Kp X.prog X.w X.K X.mg X.base CX0 j x ps sp) (hr : Room j X.A) (hg : Gl X x) (ha : PA X (e :: es) t)
    (hdb : (x == ("__debug__" : Str)) = false := by decide) (he : starEach (e :: es) X.env = (false, eval e X.env) :: starEach es X.env := by rfl) (hpl : (backTo pos (starEach es X.env)).any (·.1) = false := by rfl) :
    PE X (.Call (.Name x p) (e :: es) [] pos) (tCall sp [] E0 t) := by
  obtain ⟨f, fd, h1, h2, h3, h4⟩ := c.ex
  exact pe_call h4 hr hg h1 h2 h3 .nil pass0 ha hdb he hpl
theorem pe_cK0 (c : Kp X.prog X.w X.K X.mg X.base CX0 j x ps sp) (hr : Room j X.A) (hg : Gl X x) (hdb : (x == ("__debug__" : Str)) = false := by decide) :
    PE X (.Call (.Name x p) [] [] pos) (tCall sp [] E0 tNil) := by
  obtain ⟨f, fd, h1, h2, h3, h4⟩ := c.ex
  exact pe_call0 h4 hr hg h1 h2 h3 .nil pass0 hdb
theorem pe_cKX {W : WX} (c : Kp X.prog X.w X.K X.mg X.base (L2.CX X.prog X.w) j x ps sp) (hr : Room j X.A) (hg : Gl X x) (tk : Takes X W) (ha : PA X (e :: es) t)
    (hdb : (x == ("__debug__" : Str)) = false := by decide) (he : starEach (e :: es) X.env = (false, eval e X.env) :: starEach es X.env := by rfl) (hpl : (backTo pos (starEach es X.env)).any (·.1) = false := by rfl) :
    PE X (.Call (.Name x p) (e :: es) [] pos) (tCallS sp (WE W) t) := by
  obtain ⟨f, fd, h1, h2, h3, h4⟩ := c.ex
  exact pe_callS h4 hr hg h1 h2 h3 (fun σ => passAt tk σ) ha hdb he hpl
end

/-! ### names of the module -/
section
variable {X : Cx} {x : Str} {pos : Pos}
theorem pe_gi {i : Int} (hg : Gl X x) (h : ∃ t, X.mg x = some (.int i t)) (hd : (x == ("__debug__" : Str)) = false := by decide) : PE X (.Name x pos) (tC (.int i)) := by
  obtain ⟨t, h⟩ := h
  exact pe_glob hg h ⟨_, rfl⟩ hd
theorem pe_gs {z : Str} (hg : Gl X x) (h : ∃ t, X.mg x = some (.str z t)) (hd : (x == ("__debug__" : Str)) = false := by decide) : PE X (.Name x pos) (tC (.str z)) := by
  obtain ⟨t, h⟩ := h
  exact pe_glob hg h ⟨_, rfl⟩ hd
theorem pe_gr {a : Addr} (hg : Gl X x) (h : X.mg x = some (.ref a)) (hd : (x == ("__debug__" : Str)) = false := by decide) : PE X (.Name x pos) (tC (.ref a)) :=
  pe_glob hg h rfl hd
end

/-! ### operators that choose by the values -/
def rSubI : R2 := rI0 fun i j => .int (i - j)
def rPowI : R2 := rI CPow fun i j => .int (i ^ j.toNat)
def rDivA : R2 := rI CDivW fun i j => .int (i / j)
def rModA : R2 := rI (fun _ j => 0 < j) fun i j => .int (i % j)
def rNegI : V → Hp → VK → Prop := rU fun i => .int (-i)
def rAddI : R2 := rI0 fun i j => .int (i + j)
def rAddS : R2 := fun x y H Q => ∃ i j, x = .str i ∧ y = .str j ∧ i.length + j.length ≤ sizeLine ∧ Q (.str (i ++ j)) H
def rAddA (K : PySem.W.Frag) : R2 := fun x y H Q => rAddI x y H Q ∨ rAddS x y H Q ∨ rCat x y H Q ∨ rCatT K x y H Q
def rMulI : R2 := rI CMulW fun i j => .int (i * j)
def rMulS : R2 := fun x y H Q => ∃ z n, x = .str z ∧ y = .int n ∧ MulOk z n ∧ Q (.str (Txt.mul z n)) H
def rMulA : R2 := fun x y H Q => rMulI x y H Q ∨ rMulS x y H Q ∨ rRep x y H Q
def rEqA (K : PySem.W.Frag) : R2 := fun x y H Q => rEq x y H Q ∨ rEqD K x y H Q
def rNeA (K : PySem.W.Frag) : R2 := fun x y H Q => rNe x y H Q ∨ rNeD K x y H Q
def rCmpS (p : Str → Str → Bool) : R2 := fun x y H Q => ∃ i j, x = .str i ∧ y = .str j ∧ Q (.bl (p i j)) H
def rLtA : R2 := fun x y H Q => rI0 (fun i j => .bl (decide (i < j))) x y H Q ∨ rCmpS (fun i j => decide (i.cps.toList < j.cps.toList)) x y H Q
def rLeA : R2 := fun x y H Q => rI0 (fun i j => .bl (decide (i ≤ j))) x y H Q ∨ rCmpS (fun i j => !decide (j.cps.toList < i.cps.toList)) x y H Q
def rGtA : R2 := fun x y H Q => rI0 (fun i j => .bl (decide (j < i))) x y H Q ∨ rCmpS (fun i j => decide (j.cps.toList < i.cps.toList)) x y H Q
def rGeA : R2 := fun x y H Q => rI0 (fun i j => .bl (decide (j ≤ i))) x y H Q ∨ rCmpS (fun i j => !decide (i.cps.toList < j.cps.toList)) x y H Q
def rInS (neg : Bool) : R2 := fun x y H Q => ∃ (c : Nat) (z : Str), x = .str ⟨#[c]⟩ ∧ y = .str z ∧ Q (.bl (if neg then !decide (c ∈ z.cps.toList) else decide (c ∈ z.cps.toList))) H
def rInD (neg : Bool) : R2 := fun x y H Q => ∃ a o, y = .ref a ∧ DGet H a x o ∧ Q (.bl (if neg then !o.isSome else o.isSome)) H
def rInA (K : PySem.W.Frag) (neg : Bool) : R2 := fun x y H Q => rInS neg x y H Q ∨ rIn K neg x y H Q ∨ rInD neg x y H Q
def rIxD : R2 := fun x y H Q => ∃ a v, x = .ref a ∧ DGet H a y (some v) ∧ Q v H
def rIxA (K : PySem.W.Frag) : R2 := fun x y H Q => rIx K x y H Q ∨ rIxD x y H Q
def tIxA (K : PySem.W.Frag) (ta tb : TE) : TE := tOp (rIxA K) ta tb
def tInA (K : PySem.W.Frag) (ta tb : TE) : TE := tOp (rInA K false) ta tb
def tNinA (K : PySem.W.Frag) (ta tb : TE) : TE := tOp (rInA K true) ta tb
def rSlA (K : PySem.W.Frag) : V → Option Int → Option Int → Hp → VK → Prop := fun x lo hi H Q => rSlL K x lo hi H Q ∨ rSlS x lo hi H Q ∨ rSlT K x lo hi H Q
def rLenA (K : PySem.W.Frag) : List V → Hp → VK → Prop := fun xs H Q => ∃ x n, xs = [x] ∧ LenV K x H n ∧ Q (.int n) H
def rMin2I : List V → Hp → VK → Prop := fun xs H Q => ∃ i j, xs = [.int i, .int j] ∧ Q (.int (if j < i then j else i)) H
def rMax2I : List V → Hp → VK → Prop := fun xs H Q => ∃ i j, xs = [.int i, .int j] ∧ Q (.int (if j > i then j else i)) H
def rAbsI : List V → Hp → VK → Prop := fun xs H Q => ∃ i, xs = [.int i] ∧ Q (.int (if i < 0 then -i else i)) H
def rIntA : List V → Hp → VK → Prop := fun xs H Q => ((∃ i, xs = [.int i] ∧ Q (.int i) H) ∨ ∃ k, xs = [.bl k] ∧ Q (.int (if k then 1 else 0)) H) ∨ ∃ a n, xs = [.str a] ∧ PySem.intText? a = some n ∧ a.length ≤ 640 ∧ Q (.int n) H
def rStrA : List V → Hp → VK → Prop := fun xs H Q => ∃ i, xs = [.int i] ∧ i.natAbs.log2 < 1920 ∧ Q (.str (toString i)) H
def rListOf (K : PySem.W.Frag) : List V → Hp → VK → Prop := fun xs H Q => ∃ p ys, xs = [.ref p] ∧ (SqL K H p ys ∨ SqT K H p ys) ∧ ∀ l, H l = none → Q (.ref l) (upd H l (.lst ys))
def rTupleOf (K : PySem.W.Frag) : List V → Hp → VK → Prop := fun xs H Q => ∃ p ys, xs = [.ref p] ∧ ((SqL K H p ys ∧ ∀ l, H l = none → Q (.ref l) (upd H l (.tup ys))) ∨ (SqT K H p ys ∧ Q (.ref p) H))
def rSplitA : V → List V → Hp → VK → Prop := fun x xs H Q => ∃ a b, x = .str a ∧ xs = [.str b] ∧ (b.length == 0) = false ∧ a.length + 2 ≤ sizeLine ∧ rNewStrs (Txt.split a b) H Q
def rJoinA (K : PySem.W.Frag) : V → List V → Hp → VK → Prop := fun x xs H Q => ∃ a p, ∃ ys : List Str, x = .str a ∧ xs = [.ref p] ∧ (SqL K H p (ys.map V.str) ∨ SqT K H p (ys.map V.str)) ∧
  (ys.map (·.length)).sum + ys.length * a.length ≤ 16777216 ∧ Q (.str (Txt.join a ys)) H
section
variable {X : Cx} {a b : Expr} {ta tb : TE} {pos : Pos} {k : Nat}
theorem op_addA : OpR X (binaryOp .Add) (rAddA X.K) := op_add.or (op_add_str.or (op_cat.or op_catT))
theorem op_mulS : OpR X (binaryOp .Mult) rMulS := by
  intro pins s σ H x y v u Q I rx ry h
  obtain ⟨z, n, rfl, rfl, hm, q⟩ := h
  obtain ⟨t, rfl⟩ := rx
  obtain ⟨t', rfl⟩ := ry
  exact PySem.SB.mul hm fun t' k => ⟨.str _, H, I.tok _, ⟨_, rfl⟩, q⟩
theorem op_mulA : OpR X (binaryOp .Mult) rMulA := op_mulW.or (op_mulS.or op_rep)
theorem op_fdivA : OpR X (binaryOp .FloorDiv) rDivA := op_fdivW
theorem op_modA : OpR X (binaryOp .Mod) rModA := op_mod
theorem op_eqA (hr : Room k X.A) : OpR X (compareOp .Eq) (rEqA X.K) := op_eq.or (op_eqD (by have := hr.units; omega))
theorem op_neA (hr : Room k X.A) : OpR X (compareOp .NotEq) (rNeA X.K) := op_ne.or (op_neD (by have := hr.units; omega))
theorem op_ltA : OpR X (compareOp .Lt) rLtA := op_lt.or op_lt_str
theorem op_leA : OpR X (compareOp .LtE) rLeA := op_le.or op_le_str
theorem op_gtA : OpR X (compareOp .Gt) rGtA := op_gt.or op_gt_str
theorem op_geA : OpR X (compareOp .GtE) rGeA := op_ge.or op_ge_str
theorem op_inD (hu : X.A.units + 1 < cLine) : OpR X (compareOp .In) (rInD false) := by
  intro pins s σ H x y v u Q I rx ry h
  obtain ⟨d, o, rfl, g, q⟩ := h
  obtain rfl : u = Value.ref d := ry
  exact d_in hu I g rx fun s3 I3 => ⟨.bl o.isSome, H, I3, rfl, q⟩
theorem op_ninD (hu : X.A.units + 1 < cLine) : OpR X (compareOp .NotIn) (rInD true) := by
  intro pins s σ H x y v u Q I rx ry h
  obtain ⟨d, o, rfl, g, q⟩ := h
  obtain rfl : u = Value.ref d := ry
  exact d_notIn hu I g rx fun s3 I3 => ⟨.bl (!o.isSome), H, I3, rfl, q⟩
theorem op_inA (hr : Room k X.A) : OpR X (compareOp .In) (rInA X.K false) := OpR.or (r := rInS false) op_in_sign (op_in_seq.or (op_inD (hu_of hr)))
theorem op_ninA (hr : Room k X.A) : OpR X (compareOp .NotIn) (rInA X.K true) := OpR.or (r := rInS true) op_notIn_sign (op_notIn_seq.or (op_ninD (hu_of hr)))
theorem pe_inA (hr : Room k X.A) (ha : PE X a ta) (hb : PE X b tb) (hm : behindInMarks .In b = false) : PE X (.Compare a [.In] [b] pos) (tInA X.K ta tb) := pe_cmpR (op_inA hr) ha hb hm
theorem pe_ninA (hr : Room k X.A) (ha : PE X a ta) (hb : PE X b tb) (hm : behindInMarks .NotIn b = false) : PE X (.Compare a [.NotIn] [b] pos) (tNinA X.K ta tb) := pe_cmpR (op_ninA hr) ha hb hm
theorem ix_dict (hu : X.A.units + 1 < cLine) : IxR X rIxD := by
  intro value slice pins s σ H x y v u Q I rx ry h hs
  obtain ⟨d, z, rfl, g, q⟩ := h
  obtain rfl : v = Value.ref d := rx
  have hT := dict_typeIs I g
  have hl := PySem.F.slot_dict_getitem.lookup
  unfold subscriptTail
  refine wpAny_bind ?_
  rw [getitemInPython_of_ne hT.not_modules]
  refine wpAny_bind (wpAny_specialOf hT hl ?_)
  have fin : wpAny (model X.prog X.w) X.A (subscripted slice false (.ref d) u) (fun r s₃ => wpAny (model X.prog X.w) X.A (letTemporaryGo value (.ref d) r >>= fun _ => pure r) (EP X pins σ Q) X.xe s₃) X.xe s := by
    rw [hs]
    exact wpAny_operating (wpAny_mono (d_getItem hu I g ry fun w' s3 I3 rw' => (show EP X pins σ Q w' s3 from ⟨z, H, I3, rw', q⟩)) (fun r s₃ h₃ => wpAny_bind (wpAny_letTemporaryGo (wpAny_pure h₃))) fun _ _ x => x)
  first
    | exact wpAny_pure (wpAny_bind fin)
    | exact wpAny_bind (wpAny_pure (wpAny_bind fin))
    | exact wpAny_bind fin
theorem ix_A (hr : Room k X.A) : IxR X (rIxA X.K) := ix_seq.or (ix_dict (hu_of hr))
theorem pe_ixA (hr : Room k X.A) (ha : PE X a ta) (hb : PE X b tb) (hs : PlainIx b) : PE X (.Subscript a b pos) (tIxA X.K ta tb) := pe_ix (ix_A hr) ha hb hs
theorem sl_A : SlR X (rSlA X.K) := sl_list.or (sl_str.or sl_tup)
theorem call_intA : CallR X (.type "int") rIntA := call_int1.or call_int_str
theorem call_strA : CallR X (.type "str") rStrA := call_str_int
end

/-! ### what is walked -/
section
variable {X : Cx} {tg e : Expr} {te : TE}
/-- a list, a tuple, a text -/
def iA (K : PySem.W.Frag) (te : TE) : TI := fun σ H R => te σ H fun x H1 => (∃ a, x = .ref a ∧ (∃ xs, SqL K H1 a xs) ∧ R (Itl K a) H1) ∨ (∃ a, x = .ref a ∧ (∃ xs, SqT K H1 a xs) ∧ R (Itt K a) H1) ∨ (∃ z, x = .str z ∧ R (Its z) H1)
theorem pi_A (he : PE X e te) : PI X tg e (iA X.K te) := by
  refine ⟨fun pins s σ H R I h => ?_⟩
  refine thn (he.run pins s σ H _ I h) fun v s1 ⟨x, H1, I1, r1, q1⟩ => ?_
  rcases q1 with ⟨a, e, ⟨xs, hq⟩, q⟩ | ⟨a, e, ⟨xs, hq⟩, q⟩ | ⟨z, ex, q⟩
  · subst e
    cases r1
    obtain ⟨its, rv, p, hz⟩ := I1.list hq
    refine wpAny_pyIter_list p.isList ?_
    refine ⟨s1.heap.objs.size, [s1.heap.objs.size], _, _, H1, rfl, I1.kept (t' := s1.toks) fun b o e => Heap.get?_push_of_some _ e, turn_list a _, ⟨_, Heap.get?_push_size _ rfl, rfl, rfl⟩, fun b hb => ?_, q⟩
    have e : b = s1.heap.objs.size := by simpa using hb
    subst e
    exact I1.fpOk (Nat.le_refl _) (I1.hok.fresh (Nat.le_refl _))
  · subst e
    cases r1
    obtain ⟨its, rv, p, hz⟩ := I1.tuple hq
    refine wpAny_pyIter_tuple (show s1.heap.IsTuple a its.toArray from p) ?_
    refine ⟨s1.heap.objs.size, [s1.heap.objs.size], _, _, H1, rfl, I1.kept (t' := s1.toks) fun b o e => Heap.get?_push_of_some _ e, turn_tuple a _, ⟨_, Heap.get?_push_size _ rfl, rfl, rfl⟩, fun b hb => ?_, q⟩
    have e : b = s1.heap.objs.size := by simpa using hb
    subst e
    exact I1.fpOk (Nat.le_refl _) (I1.hok.fresh (Nat.le_refl _))
  · subst ex
    obtain ⟨t, rfl⟩ := r1
    cases ha : z.cps.all (· < 128)
    · exact wpAny_pyIter_wide ha (pi_one (tk := s1.toks) I1 _ (turn_str _ z t "str_iterator" (.inr rfl)) ⟨_, Heap.get?_push_size _ rfl, rfl, rfl⟩ q)
    · exact wpAny_pyIter_ascii ha (pi_one (tk := s1.toks) I1 _ (turn_str _ z t "str_ascii_iterator" (.inl rfl)) ⟨_, Heap.get?_push_size _ rfl, rfl, rfl⟩ q)
end

/-! ### list.count of flat items -/
section
variable {X : Cx}
def rCountA (K : PySem.W.Frag) : V → List V → Hp → VK → Prop := fun x xs H Q => ∃ (p : Addr) (ys : List V) (y : V), x = .ref p ∧ xs = [y] ∧ SqL K H p ys ∧ flatV y = true ∧ ys.all flatV = true ∧ Q (.int (ys.countP (fun z => eqV z y) : Nat)) H
theorem countP_eqU {y : V} : ∀ {ys : List V} {its : List Value}, Vals ys its → ys.all flatV = true → its.countP (eqU y) = ys.countP (fun z => eqV z y)
  | _, _, .nil, _ => rfl
  | _, _, @Paired.cons _ _ _ z u zs us r t, f => by
    have f1 : flatV z = true := List.all_eq_true.mp f z List.mem_cons_self
    have f2 : zs.all flatV = true := List.all_eq_true.mpr fun w hw => List.all_eq_true.mp f w (List.mem_cons_of_mem _ hw)
    rw [List.countP_cons, List.countP_cons, countP_eqU t f2, eqU_of r f1]
theorem mt_countA : MtR X "list.count" (rCountA X.K) := by
  intro pins s σ H x xs v us Q I rx rxs h
  obtain ⟨p, ys, y, rfl, rfl, hs, fy, fys, q⟩ := h
  cases rx
  cases rxs with
  | cons ry rt =>
    rename_i uy ut
    cases rt
    obtain ⟨its, rv, ⟨⟨cls, dd, data, sl⟩, n, ho, hc, hdn, hd⟩, hlen⟩ := I.list hs
    simp only at hc hd
    subst hc hd
    refine call_meets PySem.F.slot_list_count ⟨_, ho, rfl⟩ PySem.F.entry_list_count (PySem.F.args_list_count_2 _ _)
      (SeqAt.list_countAt p its.toArray n dd sl uy (eqU y)) ⟨ho, fun u' hu' => mem_eqAt ry fy rv fys u' (by simpa using hu'), ?_⟩
    have ec : its.toArray.toList.countP (eqU y) = ys.countP (fun z => eqV z y) := countP_eqU rv fys
    refine ⟨.int (ys.countP (fun z => eqV z y) : Nat), H, I.tok _, ⟨s.toks, ?_⟩, q⟩
    show Value.int ((its.toArray.toList.countP (eqU y) : Nat) : Int) s.toks = Value.int ((ys.countP (fun z => eqV z y) : Nat) : Int) s.toks
    rw [ec]
end

/-! ### a Boolean list of facts -/
def exAll (l : List Bool) : Bool := l.all id
theorem exAll_at {l : List Bool} (h : exAll l = true) (i : Nat) {b : Bool} (e : l[i]? = some b) : b = true := List.all_eq_true.mp h b (List.mem_of_getElem? e)

/-! ### an exception class with an __init__ that stores its fields -/
def oexB (K : PySem.W.Frag) (x : Str) : Bool :=
  (match K.lookup (He.ga K x) with
    | some ⟨.type "type", _, .cls cd, sl⟩ => (match cd.mro, sl.toList with
      | .ref C' :: bm, [_, _, _, _, some (.builtin n), _] => decide (C' = He.ga K x) && (decide (n = "ValueError.__new__") && (!cd.hasDel && (cd.hasDict && HandSPX.refsVE bm)))
      | _, _ => false)
    | _ => false) &&
  (He.eqO (PySem.W.findIn K (.ref (He.ga K x)) "__setattr__") (some (some (.builtin "object.__setattr__"))) && (decide (PySem.W.subIn K (.ref (He.ga K x)) (.type "BaseException") = some true) && (decide (PySem.W.typeIn K (.ref (He.ga K x)) = some (.type "type")) && (PySem.W.keepIn K (.ref (He.ga K x)) &&
  (He.eqO (PySem.W.findIn K (.ref (He.ga K x)) "__init__") (some (some (.ref (He.ma K (He.ga K x) "__init__")))) && (decide (PySem.W.typeIn K (.ref (He.ma K (He.ga K x) "__init__")) = some (.type "function")) &&
  (He.eqO (PySem.W.findIn K (.ref (He.ga K x)) "__getattribute__") (some (some (.builtin "BaseException.__getattribute__"))) && (He.eqO (PySem.W.findIn K (.ref (He.ga K x)) "__getattr__") (some none) && (PySem.W.hasDictIn K (He.ga K x) &&
  (He.eqO (PySem.W.findIn K (.ref (He.ga K x)) "__class__") (some (some (.builtin "object.__class__"))) && (decide (PySem.W.specialIn K (.builtin "object.__class__") "__get__" = some (some (.builtin "getset_descriptor.__get__"))) && (decide (PySem.W.takesIn K (.builtin "object.__class__") = some true) &&
  decide (PySem.W.mroIn K (He.ga K x) (.type "object") = some true)))))))))))))
/-- all that the written part says of such a class -/
structure OexA (K : PySem.W.Frag) (x : Str) : Prop where
  o : OexC K (He.ga K x)
  i : PySem.W.findIn K (.ref (He.ga K x)) "__init__" = some (some (.ref (He.ma K (He.ga K x) "__init__")))
  t : PySem.W.typeIn K (.ref (He.ma K (He.ga K x) "__init__")) = some (.type "function")
  ga : PySem.W.findIn K (.ref (He.ga K x)) "__getattribute__" = some (some (.builtin "BaseException.__getattribute__"))
  gg : PySem.W.findIn K (.ref (He.ga K x)) "__getattr__" = some none
  hd : PySem.W.hasDictIn K (He.ga K x) = true
  ca : PySem.W.findIn K (.ref (He.ga K x)) "__class__" = some (some (.builtin "object.__class__"))
  cg : PySem.W.specialIn K (.builtin "object.__class__") "__get__" = some (some (.builtin "getset_descriptor.__get__"))
  ct : PySem.W.takesIn K (.builtin "object.__class__") = some true
  cm : PySem.W.mroIn K (He.ga K x) (.type "object") = some true
theorem oexA_of {K : PySem.W.Frag} {x : Str} (h : oexB K x = true) : OexA K x := by
  obtain ⟨h0, h⟩ := Bool.and_eq_true_iff.mp h
  obtain ⟨h1, h⟩ := Bool.and_eq_true_iff.mp h
  obtain ⟨h2, h⟩ := Bool.and_eq_true_iff.mp h
  obtain ⟨h3, h⟩ := Bool.and_eq_true_iff.mp h
  obtain ⟨h4, h⟩ := Bool.and_eq_true_iff.mp h
  obtain ⟨h5, h⟩ := Bool.and_eq_true_iff.mp h
  obtain ⟨h6, h⟩ := Bool.and_eq_true_iff.mp h
  obtain ⟨h7, h⟩ := Bool.and_eq_true_iff.mp h
  obtain ⟨h8, h⟩ := Bool.and_eq_true_iff.mp h
  obtain ⟨h9, h⟩ := Bool.and_eq_true_iff.mp h
  obtain ⟨h10, h⟩ := Bool.and_eq_true_iff.mp h
  obtain ⟨h11, h⟩ := Bool.and_eq_true_iff.mp h
  obtain ⟨h12, h13⟩ := Bool.and_eq_true_iff.mp h
  refine ⟨⟨?_, He.eqO_ok h1, of_decide_eq_true h2, of_decide_eq_true h3, h4⟩, He.eqO_ok h5, of_decide_eq_true h6, He.eqO_ok h7, He.eqO_ok h8, h9, He.eqO_ok h10, of_decide_eq_true h11, of_decide_eq_true h12, of_decide_eq_true h13⟩
  split at h0
  · rename_i dd cd sl ho
    split at h0
    · rename_i C' bm k0 k1 k2 k3 n k5 hm hs
      simp only [Bool.and_eq_true, decide_eq_true_eq, Bool.not_eq_true'] at h0
      obtain ⟨rfl, rfl, hdel, hdi, hr⟩ := h0
      obtain ⟨nm, bs, mro, ns, qn, hd, sn, sub, ab, col, del⟩ := cd
      dsimp only at hm hdel hdi
      subst hm hdel hdi
      have hsl : sl = #[k0, k1, k2, k3, some (.builtin "ValueError.__new__"), k5] := by
        obtain ⟨l⟩ := sl
        simp only at hs
        rw [hs]
      subst hsl
      exact ⟨nm, qn, ns, bs, bm, sn, sub, ab, col, dd, k0, k1, k2, k3, k5, ho, hr⟩
    · cases h0
  · cases h0

structure Kx (P : Program) (w : World) (K : PySem.W.Frag) (mg : Str → Option Value) (base : Heap) (k : Nat) (x : Str) (ps : List Str) (sp : Sp) : Prop where
  g : mg x = some (.ref (He.ga K x))
  o : OexA K x
  f : Kf P w K mg base CX0 k (He.ma K (He.ga K x) "__init__") ps sp
theorem kx_of {P : Program} {w : World} {K : PySem.W.Frag} {mg : Str → Option Value} {base : Heap} {k : Nat} {x : Str} {ps : List Str} {sp : Sp} (g : mg x = some (.ref (He.ga K x))) (o : oexB K x = true) (f : Kf P w K mg base CX0 k (He.ma K (He.ga K x) "__init__") ps sp) :
    Kx P w K mg base k x ps sp := ⟨g, oexA_of o, f⟩
def tRaiseX (C : Addr) (sp : Sp) (W : WX) (ta : TA) : TS := fun _ σ H => tMkO C sp [] ta σ H fun cls d H' => W cls d σ H'
section
variable {X : Cx} {k : Nat} {x : Str} {ps : List Str} {sp : Sp} {e : Expr} {es : List Expr} {ta : TA} {p pos : Pos}
theorem pmk_X (c : Kx X.prog X.w X.K X.mg X.base k x ps sp) (hr : Room (k + 1) X.A) (hg : Gl X x) (ha : PA X (e :: es) ta)
    (hdb : (x == ("__debug__" : Str)) = false := by decide) (he : starEach (e :: es) X.env = (false, eval e X.env) :: starEach es X.env := by rfl) (hpl : (backTo pos (starEach es X.env)).any (·.1) = false := by rfl) :
    PMk X (.Call (.Name x p) (e :: es) [] pos) (tMkO (He.ga X.K x) sp [] ta) := by
  obtain ⟨fd, h2, h3, h4⟩ := c.f.ex
  exact pmk_oex c.o.o c.o.i c.o.t h4 hr h3 .nil pass0 hg c.g ha hdb he hpl
/-- C(e, ..) as a value -/
def tMkX (C : Addr) (sp : Sp) (ta : TA) : TE := fun σ H Q => ta σ H fun vs H1 => vs.length ≤ 1000 ∧ ∀ a, H1 a = none → sp (.ref a :: vs) (upd H1 a (exo a C none)) (fun v H2 => v = .non ∧ Q (.ref a) H2) E0
theorem pe_mkX (c : Kx X.prog X.w X.K X.mg X.base k x ps sp) (hr : Room (k + 1) X.A) (hg : Gl X x) (ha : PA X (e :: es) ta)
    (hdb : (x == ("__debug__" : Str)) = false := by decide) (he : starEach (e :: es) X.env = (false, eval e X.env) :: starEach es X.env := by rfl) (hpl : (backTo pos (starEach es X.env)).any (·.1) = false := by rfl) :
    PE X (.Call (.Name x p) (e :: es) [] pos) (tMkX (He.ga X.K x) sp ta) := by
  obtain ⟨fd, h2, hb, F1⟩ := c.f.ex
  refine ⟨fun pins s σ H Q I h => ?_⟩
  have T := c.o.o
  obtain ⟨nm, q, N, bs, bm, sn, sub, ab, col, dd, k0, k1, k2, k3, k5, hC, hbm⟩ := T.cls
  refine wpAny_Call_Name_kw (ld_glob I hg c.g ?_ hdb)
  refine PySem.W.callWith_K (h₀ := X.base) I.ok.mod.kin T.kC (thn (ha.run pos pins s σ H _ I h) fun us s1 ⟨vs, H1, I1, r1, hz, q1⟩ => ⟨I1.kIn, ?_⟩) he hpl
  show wpAny _ _ (call (.ref (He.ga X.K x)) us) _ _ _
  obtain ⟨hp, g, dr, tk, os⟩ := s1
  have hsz : hp.objs.size ≤ hp.objs.size + 1 := Nat.le_succ _
  have hn : H1 (hp.objs.size + 1) = none := I1.hok.fresh hsz
  have hq := q1 (hp.objs.size + 1) hn
  have kk : ∀ b o, hp.get? b = some o → ((hp.push (PySem.W.kdv_tup us)).push (PySem.HandSPX.excO (He.ga X.K x) hp.objs.size)).get? b = some o := fun b o e => Heap.get?_push_of_some _ (Heap.get?_push_of_some _ e)
  have hget : ((hp.push (PySem.W.kdv_tup us)).push (PySem.HandSPX.excO (He.ga X.K x) hp.objs.size)).get? (hp.objs.size + 1) = some (PySem.HandSPX.excO (He.ga X.K x) hp.objs.size) := by heap_get
  have I2 : Inv X pins σ (upd H1 (hp.objs.size + 1) (exo (hp.objs.size + 1) (He.ga X.K x) none)) ⟨(hp.push (PySem.W.kdv_tup us)).push (PySem.HandSPX.excO (He.ga X.K x) hp.objs.size), g, dr, tk, os⟩ :=
    I1.laid (t' := tk) (a := hp.objs.size + 1) (o := exo (hp.objs.size + 1) (He.ga X.K x) none) (h' := (hp.push (PySem.W.kdv_tup us)).push (PySem.HandSPX.excO (He.ga X.K x) hp.objs.size)) kk hsz (exo_ok hget)
  have r2 : Vals (V.ref (hp.objs.size + 1) :: vs) (Value.ref (hp.objs.size + 1) :: us) := .cons rfl r1
  have hl : (Value.ref (hp.objs.size + 1) :: (us ++ [])).length = ps.length := by
    rw [List.append_nil]
    have e := r2.length
    rw [F1.len _ _ _ _ hq] at e
    exact e.symm
  have hus : us.length ≤ sizeLine := by
    rw [← Paired.length r1, sizeLine_eq]
    omega
  have hb2 := hb _ (Value.ref (hp.objs.size + 1) :: us) I2.kIn hl
  rw [List.append_nil] at hb2
  refine wpAny_call (PySem.HandSPX.call_own F.excBase_ValueError (fun Y => PySem.HandSPX.refsVE_contains Y bm hbm) (I1.kIn _ _ hC) (PySem.W.looks_findIn I1.kIn c.o.i) (fun self => PySem.W.bind_fn I1.kIn self c.o.t) hus
    (codeAny_mono (F1.run _ X.stack _ _ ⟨Value.ref (hp.objs.size + 1) :: us, []⟩ (Value.ref (hp.objs.size + 1) :: us) _ _ E0 (hr.make (He.ga X.K x) us []) (I2.env0.make (He.ga X.K x) us []) hb2 r2 hq) fun r s' hq' => ?_))
  cases r with
  | error er => exact hq'.elim
  | ok fl =>
    cases fl with
    | ret u =>
      obtain ⟨v, H', I3, rv, ev, q3⟩ := I2.after hq'
      subst ev
      exact ⟨rv, ⟨V.ref (hp.objs.size + 1), H', I3, rfl, q3⟩⟩
    | next => exact False.elim hq'
    | brk => exact False.elim hq'
    | cont => exact False.elim hq'
end

/-! ### an exception that is held as a value -/
def XO (a : Addr) (cls : Value) (d : Option Addr) : HO := .ext fun h => ∃ (oe : Obj) (vs : Array Value), h.get? a = some oe ∧ Zc cls d oe ∧ oe.data = .fields vs
theorem xo_ok {P : Program} {w : World} {H : Hp} {h : Heap} {a : Addr} {cls : Value} {d : Option Addr} {oe : Obj} {vs : Array Value} (e : h.get? a = some oe) (z : Zc cls d oe) (f : oe.data = .fields vs) : ObjOk P w H h a (XO a cls d) :=
  ⟨⟨oe, vs, e, z, f⟩, ⟨oe, e⟩, fun _ _ ⟨o, v, q, r⟩ k => ⟨o, v, k o q, r⟩⟩
theorem xo_at {P : Program} {w : World} {H : Hp} {h : Heap} {a : Addr} {cls : Value} {d : Option Addr} (hok : HOk P w H h) (e : H a = some (XO a cls d)) : ∃ (oe : Obj) (vs : Array Value), h.get? a = some oe ∧ Zc cls d oe ∧ oe.data = .fields vs := by
  have x : ObjOk P w H h a (.ext fun h => ∃ (oe : Obj) (vs : Array Value), h.get? a = some oe ∧ Zc cls d oe ∧ oe.data = .fields vs) := hok a _ e
  exact x.1
/-- at a an exception of the class at C with the fields fs (its dict at d) -/
def XV (H : Hp) (a C d : Addr) (fs : List (Str × V)) : Prop := (H a = some (XO a (.ref C) (some d)) ∧ H d = some (.xd fs)) ∨ (H a = some (exo a C (some d)) ∧ H d = some (exd d fs))
theorem xv_at {P : Program} {w : World} {H : Hp} {h : Heap} {a C d : Addr} {fs : List (Str × V)} (hok : HOk P w H h) (x : XV H a C d fs) :
    ∃ (oe : Obj) (vs : Array Value) (mA : Str → Option Value), h.get? a = some oe ∧ Zc (.ref C) (some d) oe ∧ oe.data = .fields vs ∧ h.Ns1 d mA ∧ ∀ f, RelO (fs.lookup f) (mA f) := by
  rcases x with ⟨h1, h2⟩ | ⟨h1, h2⟩
  · obtain ⟨oe, vs, e1, e2, e3⟩ := xo_at hok h1
    have hx : ObjOk P w H h d (.xd fs) := hok d _ h2
    obtain ⟨mA, hns, hr⟩ := hx
    exact ⟨oe, vs, mA, e1, e2, e3, hns, hr⟩
  · obtain ⟨t1, e1⟩ := exo_at hok h1
    obtain ⟨mA, hns, hr⟩ := exd_at hok h2
    exact ⟨_, _, mA, e1, ⟨rfl, rfl⟩, rfl, hns, hr⟩
theorem Inv.track {X : Cx} {pins : List (Addr × Obj)} {σ : L2.St} {H : Hp} {s : Shared} {a : Addr} {o : HO} (I : Inv X pins σ H s) (n0 : X.s_0.heap.get? a = none) (na : H a = none) (nL : a ≠ X.env.locals)
    (nc : ∀ x c, X.env.cells.lookup x = some c → c ≠ a) (np : ∀ p ∈ X.pn ++ pins, p.1 ≠ a) (new : ObjOk X.prog X.w (upd H a o) s.heap a o) : Inv X pins σ (upd H a o) s := by
  have n1 : ∀ b ob, X.s_0.heap.get? b = some ob → b ≠ a := fun b ob e z => by rw [z, n0] at e; cases e
  refine ⟨I.ok, I.os, I.bare, ⟨I.base.keep, I.base.slot, fun b ob e n hx => ?_, I.base.there, fun b xs e => ?_, fun b ob u e => ?_, fun b ps e => ?_⟩, I.loc, I.cell, ?_, fun x c e => ?_, fun p hp => ?_, fun b ob e => ?_, I.len⟩
  · rw [upd_ne (n1 b ob e)]
    exact I.base.free b ob e n hx
  · have z := I.base.tups b xs e
    rw [upd_ne (ne_of_none z na)]
    exact z
  · have z := I.base.frzs b ob u e
    rw [upd_ne (ne_of_none z na)]
    exact z
  · obtain ⟨m, z⟩ := I.base.tbls b ps e
    refine ⟨m, ?_⟩
    rw [upd_ne (ne_of_none z na)]
    exact z
  · rw [upd_ne (Ne.symm nL)]
    exact I.free
  · rw [upd_ne (nc x c e)]
    exact I.freeC x c e
  · obtain ⟨e, n, ne, nf, d⟩ := I.pin p hp
    refine ⟨e, ?_, ne, nf, d⟩
    rw [upd_ne (np p hp)]
    exact n
  · by_cases hb : b = a
    · subst hb
      rw [upd_same] at e
      cases e
      exact new
    · rw [upd_ne hb] at e
      exact (I.hok b ob e).stay (fun c v _ q => q) (fun c q => by rw [upd_ne (ne_of_none q na)]; exact q) fun c xs q => by rw [upd_ne (ne_of_none q na)]; exact q

/-- what «except C as n: y = n» wishes: behind it y (slot j) is the exception, n (slot i) is empty -/
def wHold (K : PySem.W.Frag) (C : Addr) (i j : Nat) (D : Ends) : WX := fun cls d σ H =>
  PySem.W.exmOne K cls (.ref C) = some true ∧ ∀ a, H a = none → D.nx (((σ.set i (some (.ref a))).set j (some (.ref a))).set i none) (upd H a (XO a cls d))
def tTryHold (K : PySem.W.Frag) (C : Addr) (i j : Nat) (tb : WX → TS) : TS := fun D σ H => tb (wHold K C i j D) D σ H
section
variable {X : Cx} {x n y : Str} {C : Addr} {i j : Nat} {body : List Stmt} {np pos pos' p1 p2 p3 : Pos} {tb : WX → TS}
theorem ps_try_hold (hs : X.stack = X.env :: X.outer) (hf : X.env.frame = some X.env.locals) (hN : X.N.Nodup) (hi : X.N[i]? = some n) (hj : X.N[j]? = some y) (hex : X.ex = []) (hln : X.env.kindOf n = some .local) (hly : X.env.kindOf y = some .local) (hij : i ≠ j) (hil : i < X.N.length)
    (hdn : (n == ("__debug__" : Str)) = false) (hcd : (n == ("__classdict__" : Str)) = false) (hsw : swapsWith (.Name n p2) (some (.Name y p1)) p3.line X.env = pure false)
    (hc : Names X x (.ref C))
    (hb : ∀ (W : WX) (pn : List (Addr × Obj)) (xe : Value → Shared → Prop), Takes (X.tr pn xe) W → PassesOwn (model X.prog X.w) X.A X.env xe → PSs (X.tr pn xe) body (tb W)) :
    PS X (.Try body [.ExceptHandler (some (.Name x np)) (some n) [.Assign [.Name y p1] (.Name n p2) p3] pos'] [] [] pos) (tTryHold X.K C i j tb) := by
  refine ⟨fun pins s σ H D I h => ?_⟩
  have ok := I.ok
  have hfr : X.A.frames = some (X.env :: X.outer) := by rw [ok.frames, hs]
  have hloc : Loc X.env.scope n := .inl hln
  have hlocy : Loc X.env.scope y := .inl hly
  refine wpAny_Try_except ?_
  refine wpAny_mono ((hb (wHold X.K C i j D) (X.pn ++ pins) (fun e s₁ => wpAny (model X.prog X.w) X.A (noteFrame e X.env) (fun _ s₂ => wpAny (model X.prog X.w) X.A (setFlight e none) (fun _ s₃ =>
    wpAny (model X.prog X.w) X.A (handleBy e X.env [.ExceptHandler (some (.Name x np)) (some n) [.Assign [.Name y p1] (.Name n p2) p3] pos']) (SP X pins D) X.xe s₃) X.xe s₂) X.xe s₁) (fun u s' xx => ?_) PassesOwn.looking).run [] s σ H D (I.toTry _) h) (fun f s1 hsp => ?_) (fun e s1 he => he)
  · obtain ⟨a, B, sI, pins', σ', H', cls, d, rfl, J', nb, up, sky, na, os, ag, hb1, hyes⟩ := xx
    have J : Inv X pins σ' H' sI := J'.ofTry ok
    have sky' : Sky B (X.env :: X.outer) a (Zc cls d) X.env.locals s'.heap := by rw [← hs]; exact sky
    show wpAny (model X.prog X.w) X.A (noteFrame (.ref a) X.env) _ _ _
    refine Sky.land Zc.steady hfr hf sky' fun h3 fl3 up3 => ?_
    have J3 : Inv X pins σ' H' { s' with heap := h3 } := J.landed nb fl3.1 (up.trans up3) os ag
    obtain ⟨oe3, vs3, he3, hz3, hd3⟩ := fl3.there
    have notFr : ∀ {h : Heap} {o : Obj} {vs : Array Value}, h.FunFrames B (X.env :: X.outer) → h.get? a = some o → o.data = .fields vs → a ∉ frs (X.env :: X.outer) := fun {h o vs} ff e dd hm => by
      obtain ⟨_, o', e', hnf⟩ := ff.mem hm
      rw [e] at e'; cases e'
      exact hnf _ dd
    have nfr := notFr fl3.2.2.1 he3 hd3
    have nL : a ≠ X.env.locals := fun z => nfr (List.mem_filterMap.mpr ⟨X.env, List.mem_cons_self, by rw [hf, z]⟩)
    have nF : a ∉ X.fs := fun hm => by
      obtain ⟨e, he, q⟩ := List.mem_filterMap.mp hm
      exact nfr (List.mem_filterMap.mpr ⟨e, List.mem_cons_of_mem _ he, q⟩)
    have nI : sI.heap.get? a = none := by
      cases q : sI.heap.get? a with
      | none => rfl
      | some o =>
        have z := nb a o q (by rw [hs]; exact nfr)
        rw [fl3.2.1] at z; cases z
    have n0 : X.s_0.heap.get? a = none := by
      cases q : X.s_0.heap.get? a with
      | none => rfl
      | some o =>
        obtain ⟨o', z⟩ := J.base.there a o q (by rw [hex]; exact fun z => nomatch z)
        rw [nI] at z; cases z
    have npin : ∀ p ∈ X.pn ++ pins, p.1 ≠ a := fun p hp z => by
      have q := (J.pin p hp).1
      rw [z, nI] at q; cases q
    have S3 := J3.suite he3 hd3 na nL nF
    refine wpAny_handleBy_cons (codeAny_handlers_test ?_) (by intro q; cases q)
    have LT : PySem.W.Looks (model X.prog X.w) h3 (typeOf (.ref a)) cls := fun A Q E s k q => wpAny_typeOf_ref (k _ _ he3) (by rw [hz3.1]; exact q)
    have LM := PySem.W.exm_one (M := model X.prog X.w) (J3.kIn) LT hb1
    have test : ∀ {Q : Value → Shared → Prop} {E : Value → Shared → Prop}, Q (.ref C) { s' with heap := h3 } → wpAny (model X.prog X.w) (X.A.mark (some (.ref a))) (eval (.Name x np) X.env) Q E { s' with heap := h3 } := fun {Q E} q => by
      obtain ⟨hg, hdbg, hm | ⟨hm, hv, hnn⟩⟩ := hc
      · exact ld_glob (X := X.suite a ((a, oe3) :: (X.pn ++ pins))) S3 hg hm q hdbg
      · exact ld_blt (X := X.suite a ((a, oe3) :: (X.pn ++ pins))) S3 hg hm hv q hnn hdbg
    refine test (LM.here ?_)
    refine codeAny_handlers_suite_as ?_
    refine HandSPX.lands_againZ fl3 fun h4 fl4 up4 => ?_
    have J4 : Inv X pins σ' H' { s' with heap := h4 } := J.landed nb fl4.1 ((up.trans up3).trans up4) os ag
    obtain ⟨oe4, vs4, he4, hz4, hd4⟩ := fl4.there
    have S4 := J4.suite he4 hd4 na nL nF
    refine store_ok (X := X.suite a ((a, oe4) :: (X.pn ++ pins))) (v := .ref a) S4 hN hi hloc rfl (fun s5 S5 => ?_) (.inr hln)
    have hsl : i < σ'.length := by rw [J4.len]; exact hil
    have hpe : PE (X.suite a ((a, oe4) :: (X.pn ++ pins))) (.Name n p2) (tVar i) := pe_var hi (.inl hln) hdn hcd
    have hpb : PSs (X.suite a ((a, oe4) :: (X.pn ++ pins))) [.Assign [.Name y p1] (.Name n p2) p3] (tAsg (tVar i) (gName j)) := pss_one (ps_set (i := j) hN hj hlocy hpe hsw (.inr hly))
    refine wpAny_mono (hpb.run [] s5 _ H' { nx := fun σ6 H6 => σ6 = (σ'.set i (some (.ref a))).set j (some (.ref a)) ∧ H6 = H', rt := fun _ _ => False, bk := fun _ _ => False, ct := fun _ _ => False } S5 ?_) (fun f s6 hsp => ?_) (fun _ _ z => False.elim z)
    · exact ⟨.ref a, List.getElem?_set_self hsl, rfl, rfl⟩
    · cases f with
      | next =>
        obtain ⟨σ6, H6, S6, rfl, rfl⟩ := hsp
        have S7 : Inv X ((a, oe4) :: pins) ((σ'.set i (some (.ref a))).set j (some (.ref a))) H6 s6 :=
          ⟨ok, S6.os, S6.bare, S6.base, S6.loc, S6.cell, S6.free, S6.freeC, fun p hp => S6.pin p (by
            rw [List.append_nil]
            rcases List.mem_append.mp hp with h1 | h1
            · exact List.mem_cons_of_mem _ (List.mem_append_left _ h1)
            · rcases List.mem_cons.mp h1 with e | h2
              · rw [e]; exact List.mem_cons_self
              · exact List.mem_cons_of_mem _ (List.mem_append_right _ h2)), S6.hok, S6.len⟩
        refine gone_ok S7 hN hi hln fun s7 J7 => ?_
        obtain ⟨he7, na7, _, _, hc7⟩ := J7.pin (a, oe4) (List.mem_append_right _ List.mem_cons_self)
        have J8 : Inv X pins (((σ'.set i (some (.ref a))).set j (some (.ref a))).set i none) H6 s7 :=
          ⟨ok, J7.os, J7.bare, J7.base, J7.loc, J7.cell, J7.free, J7.freeC, fun p hp => J7.pin p (by
            rcases List.mem_append.mp hp with h1 | h1
            · exact List.mem_append_left _ h1
            · exact List.mem_append_right _ (List.mem_cons_of_mem _ h1)), J7.hok, J7.len⟩
        refine ⟨_, _, Inv.track J8 n0 na7 nL (fun z c e q => ?_) npin (xo_ok (cls := cls) (d := d) he7 hz4 hd4), hyes a na⟩
        obtain ⟨v, o, ho, hd⟩ := J8.cell z c e
        rw [q] at ho
        have he7' : s7.heap.get? a = some oe4 := he7
        rw [he7'] at ho
        cases ho
        exact hc7 _ hd
      | brk =>
        obtain ⟨_, _, _, z⟩ := hsp
        exact z.elim
      | cont =>
        obtain ⟨_, _, _, z⟩ := hsp
        exact z.elim
      | ret u =>
        obtain ⟨_, _, _, _, _, z⟩ := hsp
        exact z.elim
  · cases f with
    | next =>
      obtain ⟨σ', H', J', q⟩ := hsp
      exact wpAny_execs_nil ⟨σ', H', J'.ofTry ok, q⟩
    | brk =>
      obtain ⟨σ', H', J', q⟩ := hsp
      exact ⟨σ', H', J'.ofTry ok, q⟩
    | cont =>
      obtain ⟨σ', H', J', q⟩ := hsp
      exact ⟨σ', H', J'.ofTry ok, q⟩
    | ret u =>
      obtain ⟨v, σ', H', J', r, q⟩ := hsp
      exact ⟨v, σ', H', J'.ofTry ok, r, q⟩
end
/-- e.f of such an exception -/
def tXfA (K : PySem.W.Frag) (te : TE) (f : Str) : TE := fun σ H Q => te σ H fun x H1 => ∃ (a d : Addr) (c : Str) (fs : List (Str × V)) (v : V), x = .ref a ∧ XV H1 a (He.ga K c) d fs ∧ OexA K c ∧ PySem.W.findIn K (.ref (He.ga K c)) f = some none ∧ fs.lookup f = some v ∧ Q v H1
theorem pe_xfA {X : Cx} {e : Expr} {te : TE} {pos : Pos} {n : Str} (he : PE X e te) (hb : attributeBase e n X.env (eval e X.env) = eval e X.env := by rfl) : PE X (.Attribute e n pos) (tXfA X.K te n) := by
  refine ⟨fun pins s σ H Q I h => ?_⟩
  refine attr_of hb (thn (he.run pins s σ H _ I h) fun u s1 hh => ?_)
  obtain ⟨x, H1, I1, rx, a, dd, c, fs, v, ex, xv, T, hno, l, q⟩ := hh
  subst ex
  obtain rfl : u = Value.ref a := rx
  obtain ⟨oe, vs, mA, ha, hz, hd, hns, hr⟩ := xv_at I1.hok xv
  obtain ⟨od, ho, hl⟩ := lookIn_ns hns
  obtain ⟨u, hu, ru⟩ := RelO.some_of (v := v) (o := mA n) (by rw [← l]; exact hr n)
  have J : PySem.W.InstAt s1.heap a oe (He.ga X.K c) (some od) := ⟨ha, hz.1, by unfold PySem.W.notCls; rw [hd] <;> rfl, by rw [hz.2]; exact ho⟩
  exact HandSPX.exc_get I1.kIn J T.ga T.gg T.o.exC (PySem.W.findObj_own T.hd hno rfl (by rw [hl, hu])) (handed_of ru) ⟨v, H1, I1.tok _, ru, q⟩

end My
namespace PySem.W
open PySem PySem.Spec PySem.Calls PyProof.Rows
section
variable {prog : Program} {w : World} {A : Around} {E : Value → Shared → Prop} {s : Shared} {K : Frag} {x D : Addr} {ox : Obj} {od : Option Obj}
theorem my_findObj_data {C : Addr} {name : Str} {a g : Value} (hc : (clsIn K C).isSome = true) (ha : findIn K (.ref C) name = some (some a)) (hg : specialIn K a "__get__" = some (some g)) (ht : takesIn K a = some true) : findObj K C od name = some (.bind g a) := by
  obtain ⟨cd, hc⟩ := Option.isSome_iff_exists.mp hc
  unfold findObj
  rw [hc, Option.bind_some, ha, Option.bind_some]
  simp [hg, ht]
theorem my_classE {Q : Option Value → Shared → Prop} (hga : findIn K (.ref D) "__getattribute__" = some (some (.builtin "BaseException.__getattribute__"))) (hgt : findIn K (.ref D) "__getattr__" = some none) (hsub : subIn K (.ref D) (.type "BaseException") = some true)
    (hdct : hasDictIn K D = true) (ha : findIn K (.ref D) "__class__" = some (some (.builtin "object.__class__")))
    (hn : specialIn K (.builtin "object.__class__") "__get__" = some (some (.builtin "getset_descriptor.__get__"))) (htk : takesIn K (.builtin "object.__class__") = some true) (hm : mroIn K D (.type "object") = some true)
    (X : K.In s.heap) (I : InstAt s.heap x ox D od) (h : Q (some (.ref D)) { s with toks := s.toks + 1 }) : wpAny (model prog w) A (getAttr? (.ref x) "__class__") Q E s := by
  have hf : findObj K D od "__class__" = some (.bind (.builtin "getset_descriptor.__get__") (.builtin "object.__class__")) := my_findObj_data (by obtain ⟨cd, hc, _⟩ := any_some hdct; rw [hc]; rfl) ha hn htk
  obtain ⟨hp, g, d, t, os⟩ := s
  have L0 := I.type (M := model prog w)
  have L1 := looks_findIn (M := model prog w) X hga
  have L2 := looks_findIn (M := model prog w) X hgt
  have L3 := looks_find (M := model prog w) X I hf
  have sub : Looks (model prog w) hp (isInstance (.ref x) (.type "BaseException")) true := L0.andThen (looks_subIn X hsub)
  have hx0 : (false && onTheHeap (Value.builtin "BaseException.__getattribute__")) = false := rfl
  have hx2 : (Value.builtin "BaseException.__getattribute__" == Value.builtin "object.__getattribute__") = false := by decide +kernel
  have hx1 : (onTheHeap (Value.ref D) && Value.builtin "BaseException.__getattribute__" == Value.builtin "object.__getattribute__") = false := by rw [hx2]; rfl
  unfold getAttr? getAttrBy? getAttrBy
  refine wpAny_bind (wpAny_mkText (wpAny_bind (wpAny_attempt (wpAny_holding (wpAny_bind (L0.at (wpAny_bind (L1.at ?_))))))))
  show wpAny _ _ (if (onTheHeap (Value.ref D) && Value.builtin "BaseException.__getattribute__" == Value.builtin "object.__getattribute__") = true then _ else _) _ _ _
  rw [hx1, if_neg Bool.false_ne_true]
  unfold getAttrByItsOwn hookBefore
  refine wpAny_bind ?_
  rw [if_pos (show onTheHeap (Value.ref D) = true from rfl)]
  refine L2.at ?_
  refine wpAny_bind (wpAny_attempt (wpAny_holding ?_))
  unfold callGetattribute
  rw [hx0, if_neg Bool.false_ne_true]
  unfold boundAndCalled
  rw [PySem.F.excAttr_ValueError.ga.bind (.ref x)]
  refine wpAny_bind (wpAny_pure ?_)
  show wpAny _ _ (call (.builtin "BaseException.__getattribute__") [.ref x, .str "__class__" t]) _ _ _
  refine wpAny_call (codeAny_call_builtin PySem.F.excAttr_ValueError.ga.plain PySem.F.entry_bexc_ga ?_)
  refine @check_slot (model prog w) _ _ ⟨hp, g, d, t + 1, os⟩ "BaseException.__getattribute__" "BaseException" "__getattribute__" (.ref x) [.str "__class__" t] [] _ (by decide +kernel) (by decide +kernel) sub (PySem.F.args_bexc_ga (.ref x) (.str "__class__" t)) ?_
  unfold Builtin.«object.__getattribute__»
  refine wpAny_bind (wpAny_of_eq (a := ((Value.ref x : Value), [Value.str "__class__" t])) (by first | rfl | (simp only [slotArgs]; rfl)) ?_)
  refine wpAny_bind (wpAny_pure (wpAny_bind (L0.at (wpAny_bind (L3.at ?_)))))
  show wpAny _ _ (holding [Value.builtin "object.__class__"] (call (.builtin "getset_descriptor.__get__") [.builtin "object.__class__", .ref x, .ref D]) >>= ret) _ _ _
  refine wpAny_bind (wpAny_holding (wpAny_call (class_get (s := ⟨hp, g, d, t + 1, os⟩) (ox := ox) (od := od) X I hm ?_)))
  refine wpAny_pure ?_
  show wpAny _ _ (handedOut (.ref D)) _ _ _
  rw [handedOut_of (v := .ref D) rfl]
  first
    | exact wpAny_pure (wpAny_pure h)
    | exact wpAny_pure h
    | exact wpAny_pure (wpAny_bind (wpAny_pure (wpAny_pure h)))
theorem my_kitx_exc (hga : findIn K (.ref D) "__getattribute__" = some (some (.builtin "BaseException.__getattribute__"))) (hgt : findIn K (.ref D) "__getattr__" = some none) (hsub : subIn K (.ref D) (.type "BaseException") = some true) (hdct : hasDictIn K D = true) (ha : findIn K (.ref D) "__class__" = some (some (.builtin "object.__class__")))
    (hn : specialIn K (.builtin "object.__class__") "__get__" = some (some (.builtin "getset_descriptor.__get__"))) (htk : takesIn K (.builtin "object.__class__") = some true) (hm : mroIn K D (.type "object") = some true) :
    KitX K (.ref x) (.ref D) (fun h => InstAt h x ox D od) where
  ty := fun _ _ _ I => I.type
  it := fun _ _ X _ => by
    obtain ⟨cdD, hcD, _⟩ := any_some hdct
    unfold clsIn at hcD
    split at hcD
    · rename_i c' d' cd' sl' ho
      intro A' Q' E' s' k q
      unfold isType loadHead
      exact wpAny_bind (wpAny_loadPart (k _ _ (X _ _ ho)) (wpAny_pure q))
    · cases hcD
  ne := fun h tp dd its n sl X htp => by
    obtain ⟨cdD, hcD, _⟩ := any_some hdct
    refine Bool.eq_false_iff.mpr fun q => ?_
    have e : D = tp := Value.ref.inj (beq_iff_eq.mp q)
    subst e
    unfold clsIn at hcD
    split at hcD
    · rename_i c' d' cd' sl' ho
      have z := (X _ _ ho).symm.trans htp
      cases z
    · cases hcD
  ca := fun X I k => my_classE hga hgt hsub hdct ha hn htk hm X I k
end
end PySem.W
namespace My
open PySem PySem.Spec PyProof.Rows L2
/-- isinstance(e, c), e such an exception -/
def rIsX (K : PySem.W.Frag) : List V → Hp → VK → Prop := fun xs H Q => ∃ (a d : Addr) (x : Str) (fs : List (Str × V)) (c : V) (cv : Value) (b : Bool), xs = [.ref a, c] ∧ XV H a (He.ga K x) d fs ∧ OexA K x ∧ ClsV c cv ∧ PySem.W.kitOne K (.ref (He.ga K x)) cv = some b ∧ Q (.bl b) H
theorem call_isX {X : Cx} : CallR X (.builtin "isinstance") (rIsX X.K) := by
  intro pins s σ H xs us Q I r h
  obtain ⟨a, d, x, fs, c, cv, b, rfl, xv, T, hcv, e, q⟩ := h
  cases r with
  | cons rx rr =>
    cases rr with
    | cons rt rr =>
      cases rr
      cases rx
      have ec := hcv.eq rt
      subst ec
      obtain ⟨oe, vs, mA, ha, hz, hd, hns, hr⟩ := xv_at I.hok xv
      obtain ⟨od, es, ep, ho, _⟩ := id hns
      have J : PySem.W.InstAt s.heap a oe (He.ga X.K x) (some od) := ⟨ha, hz.1, by unfold PySem.W.notCls; rw [hd] <;> rfl, by rw [hz.2]; exact ho⟩
      exact PySem.W.kia_one (PySem.W.my_kitx_exc T.ga T.gg T.o.exC T.hd T.ca T.cg T.ct T.cm) I.kIn J e (fun z => nomatch z) fun tk => ⟨.bl b, H, I.kept (t' := tk) fun _ _ z => z, rfl, q⟩
def rIsA (K : PySem.W.Frag) : List V → Hp → VK → Prop := fun xs H Q => rIsi K xs H Q ∨ rIsiT K xs H Q ∨ rIsX K xs H Q
theorem call_isA {X : Cx} : CallR X (.builtin "isinstance") (rIsA X.K) := call_isi.or (call_isiT.or call_isX)
end My
set_option Elab.async false
set_option linter.all false
set_option maxRecDepth 100000
set_option maxHeartbeats 4000000
/-! Steps: one lemma a reading, by the values. -/
namespace My
open PySem PySem.Spec PyProof.Rows L2
section
variable {K : PySem.W.Frag} {H H' : Hp} {Q : VK} {i j : Int} {x y v : V} {z u : Str}
abbrev S (l : List Nat) : Str := ⟨l.toArray⟩
abbrev txt (l : List Nat) : V := .str (S l)
theorem S_tl (z : Str) : S z.cps.toList = z := by cases z; rfl
theorem small (n : Nat) (h : n ≤ 1000000) : n ≤ sizeLine := Nat.le_trans h (by decide)
theorem small_lt (n : Nat) (h : n ≤ 1000000) : n < sizeLine := Nat.lt_of_le_of_lt h (by decide)
theorem st_ix_str {row : Str} {a c : Nat} (hl : row.length ≤ 1000000) (h : row.cps.toList[a]? = some c) (q : Q (.str ⟨#[c]⟩) H) : rIxA K (.str row) (.int (a : Int)) H Q := .inl (.inr (.inr ⟨row, a, c, rfl, rfl, small _ hl, atI_nat h, q⟩))
theorem st_ix_str0 {row : Str} {c : Nat} (hl : row.length ≤ 1000000) (h : row.cps.toList[0]? = some c) (q : Q (.str ⟨#[c]⟩) H) : rIxA K (.str row) (.int 0) H Q := .inl (.inr (.inr ⟨row, 0, c, rfl, rfl, small _ hl, atI_nat h, q⟩))
theorem st_ix_list {p : Addr} {xs : List V} (h : SqL K H p xs) (ha : atI xs i = some v) (q : Q v H) : rIxA K (.ref p) (.int i) H Q := .inl (.inl ⟨p, xs, i, v, rfl, rfl, h, ha, q⟩)
theorem st_ix_tup {p : Addr} {xs : List V} (h : SqT K H p xs) (ha : atI xs i = some v) (q : Q v H) : rIxA K (.ref p) (.int i) H Q := .inl (.inr (.inl ⟨p, xs, i, v, rfl, rfl, h, ha, q⟩))
theorem st_ix_dict {a : Addr} (g : DGet H a y (some v)) (q : Q v H) : rIxA K (.ref a) y H Q := .inr ⟨a, v, rfl, g, q⟩
theorem st_len_str (hl : z.length ≤ 1000000) (q : Q (.int (z.length : Int)) H) : rLenA K [.str z] H Q := ⟨_, _, rfl, ⟨small _ hl, rfl⟩, q⟩
theorem st_len_list {p : Addr} {xs : List V} (h : SqL K H p xs) (q : Q (.int (xs.length : Int)) H) : rLenA K [.ref p] H Q := ⟨_, _, rfl, .inl ⟨xs, h, rfl⟩, q⟩
theorem st_len_tup {p : Addr} {xs : List V} (h : SqT K H p xs) (q : Q (.int (xs.length : Int)) H) : rLenA K [.ref p] H Q := ⟨_, _, rfl, .inr ⟨xs, h, rfl⟩, q⟩
theorem st_lt (q : Q (.bl (decide (i < j))) H) : rLtA (.int i) (.int j) H Q := .inl ⟨i, j, rfl, rfl, q⟩
theorem st_le (q : Q (.bl (decide (i ≤ j))) H) : rLeA (.int i) (.int j) H Q := .inl ⟨i, j, rfl, rfl, q⟩
theorem st_gt (q : Q (.bl (decide (j < i))) H) : rGtA (.int i) (.int j) H Q := .inl ⟨i, j, rfl, rfl, q⟩
theorem st_ge (q : Q (.bl (decide (j ≤ i))) H) : rGeA (.int i) (.int j) H Q := .inl ⟨i, j, rfl, rfl, q⟩
theorem st_lt_str (q : Q (.bl (decide (z.cps.toList < u.cps.toList))) H) : rLtA (.str z) (.str u) H Q := .inr ⟨z, u, rfl, rfl, q⟩
theorem st_eq (h : scal x y = true) (q : Q (.bl (decide (x = y))) H) : rEqA K x y H Q := .inl ⟨h, q⟩
theorem st_ne (h : scal x y = true) (q : Q (.bl (!decide (x = y))) H) : rNeA K x y H Q := .inl ⟨h, q⟩
theorem st_eqD {d e : PyData} (hd : Dp K H x d) (he : Dp K H y e) (sd : SeqAt.shaped d = true) (se : SeqAt.shaped e = true) (q : Q (.bl (PyData.eqv d e)) H) : rEqA K x y H Q := .inr ⟨d, e, hd, he, sd, se, q⟩
theorem st_neD {d e : PyData} (hd : Dp K H x d) (he : Dp K H y e) (sd : SeqAt.shaped d = true) (se : SeqAt.shaped e = true) (q : Q (.bl (!PyData.eqv d e)) H) : rNeA K x y H Q := .inr ⟨d, e, hd, he, sd, se, q⟩
theorem st_in_sign {c : Nat} (q : Q (.bl (decide (c ∈ z.cps.toList))) H) : rInA K false (.str ⟨#[c]⟩) (.str z) H Q := .inl ⟨c, z, rfl, rfl, q⟩
theorem st_nin_sign {c : Nat} (q : Q (.bl (!decide (c ∈ z.cps.toList))) H) : rInA K true (.str ⟨#[c]⟩) (.str z) H Q := .inl ⟨c, z, rfl, rfl, q⟩
theorem st_in_list {p : Addr} {xs : List V} (h : SqL K H p xs) (fx : flatV x = true) (fs : xs.all flatV = true) (q : Q (.bl (inV x xs)) H) : rInA K false x (.ref p) H Q := .inr (.inl ⟨p, xs, rfl, .inl h, fx, fs, q⟩)
theorem st_nin_list {p : Addr} {xs : List V} (h : SqL K H p xs) (fx : flatV x = true) (fs : xs.all flatV = true) (q : Q (.bl (!inV x xs)) H) : rInA K true x (.ref p) H Q := .inr (.inl ⟨p, xs, rfl, .inl h, fx, fs, q⟩)
theorem st_in_tup {p : Addr} {xs : List V} (h : SqT K H p xs) (fx : flatV x = true) (fs : xs.all flatV = true) (q : Q (.bl (inV x xs)) H) : rInA K false x (.ref p) H Q := .inr (.inl ⟨p, xs, rfl, .inr h, fx, fs, q⟩)
theorem st_nin_tup {p : Addr} {xs : List V} (h : SqT K H p xs) (fx : flatV x = true) (fs : xs.all flatV = true) (q : Q (.bl (!inV x xs)) H) : rInA K true x (.ref p) H Q := .inr (.inl ⟨p, xs, rfl, .inr h, fx, fs, q⟩)
theorem st_in_dict {a : Addr} {o : Option V} (g : DGet H a x o) (q : Q (.bl o.isSome) H) : rInA K false x (.ref a) H Q := .inr (.inr ⟨a, o, rfl, g, q⟩)
theorem st_nin_dict {a : Addr} {o : Option V} (g : DGet H a x o) (q : Q (.bl (!o.isSome)) H) : rInA K true x (.ref a) H Q := .inr (.inr ⟨a, o, rfl, g, q⟩)
theorem st_add (q : Q (.int (i + j)) H) : rAddA K (.int i) (.int j) H Q := .inl ⟨i, j, rfl, rfl, q⟩
theorem st_add_str (h : z.length + u.length ≤ 1000000) (q : Q (.str (z ++ u)) H) : rAddA K (.str z) (.str u) H Q := .inr (.inl ⟨z, u, rfl, rfl, small _ h, q⟩)
theorem st_add_list {l b : Addr} {xs zs : List V} (h : H l = some (.lst xs)) (h' : H b = some (.lst zs)) (hz : xs.length + zs.length ≤ 1000000) (q : ∀ p, H p = none → Q (.ref p) (upd H p (.lst (xs ++ zs)))) : rAddA K (.ref l) (.ref b) H Q :=
  .inr (.inr (.inl ⟨l, b, xs, zs, rfl, rfl, h, h', small _ hz, q⟩))
theorem st_sub (q : Q (.int (i - j)) H) : rSubI (.int i) (.int j) H Q := ⟨i, j, rfl, rfl, q⟩
theorem st_mul {a b : Nat} (ha : i.natAbs < 2 ^ a) (hb : j.natAbs < 2 ^ b) (h0 : 0 < a) (h1 : 0 < b) (h : a + b ≤ 1000000) (q : Q (.int (i * j)) H) : rMulA (.int i) (.int j) H Q := .inl ⟨i, j, rfl, rfl, wide_mul ha hb h0 h1 h, q⟩
theorem st_mod (h : 0 < j) (q : Q (.int (i % j)) H) : rModA (.int i) (.int j) H Q := ⟨i, j, rfl, rfl, h, q⟩
theorem st_div {b : Nat} (h : 0 < j) (hb : j.natAbs < 2 ^ b) (h0 : 0 < b) (h9 : b ≤ 9000) (q : Q (.int (i / j)) H) : rDivA (.int i) (.int j) H Q := ⟨i, j, rfl, rfl, wide_div h hb h0 h9, q⟩
theorem st_pow (h : 0 ≤ j) (h2 : j ≤ 1000000) (h3 : i.natAbs < 2 ^ 64) (q : Q (.int (i ^ j.toNat)) H) : rPowI (.int i) (.int j) H Q := ⟨i, j, rfl, rfl, ⟨h, h2, h3⟩, q⟩
theorem st_rep {l : Addr} {xs : List V} (h : H l = some (.lst xs)) (h1 : -(2 ^ 63) ≤ j) (h2 : j < 2 ^ 63) (h3 : xs.length * j.toNat ≤ 1000000) (q : ∀ p, H p = none → Q (.ref p) (upd H p (.lst ((List.replicate j.toNat xs).flatten)))) : rMulA (.ref l) (.int j) H Q := by
  refine .inr (.inr ⟨l, j, xs, rfl, rfl, h, h1, h2, small _ h3, ?_⟩)
  exact q
theorem st_slice_str {lo hi : Option Int} (h : z.length ≤ 1000000) (q : Q (.str (cutS z lo hi)) H) : rSlA K (.str z) lo hi H Q := .inr (.inl ⟨z, rfl, small _ h, q⟩)
theorem st_slice_list {p : Addr} {xs : List V} {lo hi : Option Int} (h : SqL K H p xs) (q : ∀ l, H l = none → Q (.ref l) (upd H l (.lst (cutV xs lo hi)))) : rSlA K (.ref p) lo hi H Q := .inl ⟨p, xs, rfl, h, q⟩
theorem st_int_int (q : Q (.int i) H) : rIntA [.int i] H Q := .inl (.inl ⟨i, rfl, q⟩)
theorem st_int_bl {k : Bool} (q : Q (.int (if k then 1 else 0)) H) : rIntA [.bl k] H Q := .inl (.inr ⟨k, rfl, q⟩)
theorem st_int_str (h : PySem.intText? z = some i) (hl : z.length ≤ 640) (q : Q (.int i) H) : rIntA [.str z] H Q := .inr ⟨z, i, rfl, h, hl, q⟩
theorem st_isi {c : V} {t w : Value} {b : Bool} (k : ClsV c w) (h : TyX K H x t) (e : PySem.W.kitOne K t w = some b) (q : Q (.bl b) H) : rIsA K [x, c] H Q := .inl ⟨x, c, t, w, b, rfl, k, h, e, q⟩
theorem tx_str : TyX K H (.str z) (.type "str") := .base (.str z)
theorem tx_int : TyX K H (.int i) (.type "int") := .base (.int i)
theorem tx_bl {b : Bool} : TyX K H (.bl b) (.type "bool") := .base (.bl b)
theorem tx_non : TyX K H .non (.type "NoneType") := .base .non
/-- a new object is tracked: what was tracked stays -/
theorem same_new {p : Addr} {o : HO} (h : H p = none) : Same H (upd H p o) := fun b u e => by rw [upd_ne (ne_of_none e h)]; exact e
/-- an object that H does not track changes -/
theorem Same.mut {p : Addr} {o : HO} (s : Same H H') (h : H p = none) : Same H (upd H' p o) := fun b u e => by rw [upd_ne (ne_of_none e h)]; exact s b u e
theorem same_sqT {a : Addr} {xs : List V} (e : Same H H') (h : SqT K H a xs) : SqT K H' a xs := by
  rcases h with (h | ⟨o, h⟩) | h
  · exact .inl (.inl (e _ _ h))
  · exact .inl (.inr ⟨o, e _ _ h⟩)
  · exact .inr h
theorem sign_eq (c k : Nat) : (V.str ⟨#[c]⟩ = V.str ⟨#[k]⟩) = (c = k) := by
  apply propext
  constructor
  · intro h
    injection h with h
    injection h with h
    have := congrArg (fun a : Array Nat => a.toList) h
    simpa using this
  · intro h; rw [h]
theorem st_eq_int (q : Q (.bl (decide (i = j))) H) : rEqA K (.int i) (.int j) H Q := .inl ⟨rfl, by
  have e : decide (V.int i = V.int j) = decide (i = j) := decide_eq_decide.mpr ⟨fun h => V.int.inj h, fun h => by rw [h]⟩
  rw [e]; exact q⟩
theorem st_ne_int (q : Q (.bl (!decide (i = j))) H) : rNeA K (.int i) (.int j) H Q := .inl ⟨rfl, by
  have e : decide (V.int i = V.int j) = decide (i = j) := decide_eq_decide.mpr ⟨fun h => V.int.inj h, fun h => by rw [h]⟩
  rw [e]; exact q⟩
theorem st_eq_str (q : Q (.bl (decide (z = u))) H) : rEqA K (.str z) (.str u) H Q := .inl ⟨rfl, by
  have e : decide (V.str z = V.str u) = decide (z = u) := decide_eq_decide.mpr ⟨fun h => V.str.inj h, fun h => by rw [h]⟩
  rw [e]; exact q⟩
theorem st_ne_str (q : Q (.bl (!decide (z = u))) H) : rNeA K (.str z) (.str u) H Q := .inl ⟨rfl, by
  have e : decide (V.str z = V.str u) = decide (z = u) := decide_eq_decide.mpr ⟨fun h => V.str.inj h, fun h => by rw [h]⟩
  rw [e]; exact q⟩
theorem sign_dec {c k : Nat} (hz : z = ⟨#[k]⟩) : decide ((⟨#[c]⟩ : Str) = z) = decide (c = k) := by
  subst hz
  refine decide_eq_decide.mpr ⟨fun h => ?_, fun h => by rw [h]⟩
  have := sign_eq c k
  exact this.mp (by rw [h])
theorem S_inj {l m : List Nat} : S l = S m ↔ l = m := by
  constructor
  · intro h
    have := congrArg (fun z : Str => z.cps.toList) h
    simpa using this
  · intro h; rw [h]
theorem S_len (l : List Nat) : (S l).length = l.length := by simp [S, Str.length]
theorem S_app (l m : List Nat) : S l ++ S m = S (l ++ m) := TL.ext_tl (by rw [TL.tl_append])
theorem S_nil : ("" : Str) = S [] := by decide +kernel
theorem sign_lt (c k : Nat) : decide (([c] : List Nat) < [k]) = decide (c < k) := by
  refine decide_eq_decide.mpr ⟨fun h => ?_, fun h => ?_⟩
  · cases h with
    | rel h => exact h
    | cons h => cases h
  · exact .rel h
theorem sIx_nat {n d a : Nat} (h : a ≤ n) : HT.sIx n d (some (a : Int)) = a := by
  show (if (a : Int) < 0 then ((a : Int) + (n : Int)).toNat else min (a : Int).toNat n) = a
  rw [if_neg (by omega)]; omega
theorem sIx_none {n d : Nat} : HT.sIx n d none = d := rfl
theorem cutS_nat {z : Str} {a b : Nat} (ha : a ≤ z.length) (hb : b ≤ z.length) : cutS z (some (a : Int)) (some (b : Int)) = S ((z.cps.toList.drop a).take (b - a)) := by
  unfold cutS
  rw [sIx_nat ha, sIx_nat hb]
theorem cutS_from {z : Str} {a : Nat} (ha : a ≤ z.length) : cutS z (some (a : Int)) none = S (z.cps.toList.drop a) := by
  unfold cutS
  rw [sIx_nat ha, sIx_none, List.take_of_length_le (by simp [Str.length])]
theorem cutS_to {z : Str} {b : Nat} (hb : b ≤ z.length) : cutS z none (some (b : Int)) = S (z.cps.toList.take b) := by
  unfold cutS
  rw [sIx_nat hb, sIx_none]
  rfl
theorem cutS_all {z : Str} : cutS z none none = z := by
  unfold cutS
  rw [sIx_none, sIx_none, List.take_of_length_le (by simp [Str.length])]
  cases z; rfl
end
/-- an error with one field is raised over H -/
def RaisedI (K : PySem.W.Frag) (C f : Str) (v : V) (H : Hp) (E : XK) : Prop := ∀ (d : Addr) (H' : Hp), Same H H' → H d = none → H' d = some (.xd [(f, v)]) → E (.ref (He.ga K C)) (some d) H'
/-- __init__ of a class of errors that stores one field -/
def pr_init (K : PySem.W.Frag) (C f : Str) : V → V → Hp → VK → XK → Prop := fun x y H Q _ => ∃ a, x = .ref a ∧ H a = some (exo a (He.ga K C) none) ∧ ∀ d, H d = none → d ≠ a → Q .non (upd (upd H d (exd d [(f, y)])) a (exo a (He.ga K C) (some d)))
theorem raise_ok {K : PySem.W.Frag} {C f : Str} {v : V} {H H1 : Hp} {E : XK} (h : RaisedI K C f v H E) (s : Same H H1) :
    ([v] : List V).length ≤ 1000 ∧ ∀ a, H1 a = none → Sp2 (pr_init K C f) (.ref a :: ([v] ++ [])) (upd H1 a (exo a (He.ga K C) none))
      (fun r H2 => r = .non ∧ ∃ (d : Addr) (fs : List (Str × V)), H2 a = some (exo a (He.ga K C) (some d)) ∧ H2 d = some (exd d fs) ∧ H1 d = none ∧ E (.ref (He.ga K C)) (some d) (upd (del H2 a) d (.xd fs))) (fun _ _ _ => False) := by
  refine ⟨(show 1 ≤ 1000 by decide), fun a ha => ⟨_, _, rfl, a, rfl, upd_same, fun d hd da => ⟨rfl, d, [(f, v)], upd_same, ?_, ?_, ?_⟩⟩⟩
  · rw [upd_ne da, upd_same]
  · rw [upd_ne da] at hd; exact hd
  · rw [upd_ne da] at hd
    refine h d _ (fun b o e => ?_) (s.free hd) upd_same
    have e1 := s b o e
    rw [upd_ne (ne_of_none e1 hd), del_ne (ne_of_none e1 ha), upd_ne (ne_of_none e1 ha), upd_ne (ne_of_none e1 hd), upd_ne (ne_of_none e1 ha)]
    exact e1
theorem XV.same {H H' : Hp} {a C d : Addr} {fs : List (Str × V)} (x : XV H a C d fs) (s : Same H H') : XV H' a C d fs := by
  rcases x with ⟨h1, h2⟩ | ⟨h1, h2⟩
  · exact .inl ⟨s _ _ h1, s _ _ h2⟩
  · exact .inr ⟨s _ _ h1, s _ _ h2⟩
theorem st_isX {K : PySem.W.Frag} {a d : Addr} {x : Str} {fs : List (Str × V)} {c : V} {cv : Value} {b : Bool} {H : Hp} {Q : VK} (xv : XV H a (He.ga K x) d fs) (o : oexB K x = true) (hc : ClsV c cv) (hk : PySem.W.kitOne K (.ref (He.ga K x)) cv = some b) (q : Q (.bl b) H) : rIsA K [.ref a, c] H Q :=
  .inr (.inr ⟨a, d, x, fs, c, cv, b, rfl, xv, oexA_of o, hc, hk, q⟩)
end My
set_option Elab.async false
set_option linter.all false
set_option maxRecDepth 100000
set_option maxHeartbeats 4000000
/-! The reading's own words, one lemma each; «walk_at "w"» goes on by them. -/
namespace My
open PySem PySem.Spec PyProof.Rows L2
section
variable {K : PySem.W.Frag} {H : Hp} {σ : L2.St} {Q : VK} {QT : Bool → Hp → Prop} {QA : List V → Hp → Prop} {v : V} {i : Nat} {r : R2} {ta tb te to : TE} {t u : TT} {tr : TA} {D : Ends} {s1 s2 : TS} {g : TG} {p q c : L2.St → Hp → Prop} {R : VK} {E : XK} {sp : Sp}
theorem w_var (h : σ[i]? = some (some v)) (q : Q v H) : tVar i σ H Q := ⟨v, h, q⟩
theorem w_c (q : Q v H) : tC v σ H Q := q
theorem w_op (h : ta σ H fun x H1 => tb σ H1 fun y H2 => r x y H2 Q) : tOp r ta tb σ H Q := h
theorem w_ix (h : ta σ H fun x H1 => tb σ H1 fun y H2 => rIxA K x y H2 Q) : tIxA K ta tb σ H Q := h
theorem w_in (h : ta σ H fun x H1 => tb σ H1 fun y H2 => rInA K false x y H2 Q) : tInA K ta tb σ H Q := h
theorem w_nin (h : ta σ H fun x H1 => tb σ H1 fun y H2 => rInA K true x y H2 Q) : tNinA K ta tb σ H Q := h
theorem w_un {f : V → Hp → VK → Prop} (h : ta σ H fun x H1 => f x H1 Q) : tUn f ta σ H Q := h
theorem w_nil (h : QA [] H) : tNil σ H QA := h
theorem w_cons (h : ta σ H fun x H1 => tr σ H1 fun xs H2 => QA (x :: xs) H2) : tCons ta tr σ H QA := h
theorem w_cb {f : List V → Hp → VK → Prop} (h : tr σ H fun vs H1 => f vs H1 Q) : tCB f tr σ H Q := h
theorem w_call (h : tr σ H fun vs H1 => sp vs H1 Q E) : tCall sp [] E tr σ H Q := by
  show tr σ H fun vs H1 => sp (vs ++ []) H1 Q E
  simp only [List.append_nil]
  exact h
theorem w_callS {W : L2.St → XK} (h : tr σ H fun vs H1 => sp vs H1 Q (W σ)) : tCallS sp W tr σ H Q := h
theorem w_seq (h : s1 ⟨s2 D, D.rt, D.bk, D.ct⟩ σ H) : tSeq s1 s2 D σ H := h
theorem w_set (h : te σ H fun x H1 => D.nx (σ.set i (some x)) H1) : tAsg te (gName i) D σ H := h
theorem w_asg (h : te σ H fun x H1 => g x σ H1 D.nx) : tAsg te g D σ H := h
theorem w_gn (h : p (σ.set i (some v)) H) : gName i v σ H p := h
theorem w_ret (h : te σ H D.rt) : tRet te D σ H := h
theorem w_retN (h : D.rt .non H) : tRetN D σ H := h
theorem w_next (h : D.nx σ H) : tNext D σ H := h
theorem w_cont (h : D.ct σ H) : tCont D σ H := h
theorem w_break (h : D.bk σ H) : tBreak D σ H := h
theorem w_drop (h : te σ H fun _ H1 => D.nx σ H1) : tDrop te D σ H := h
theorem w_if (h : t σ H fun b H1 => if b = true then s1 D σ H1 else s2 D σ H1) : tIfS t s1 s2 D σ H := h
theorem w_ife (h : t σ H fun b H1 => if b = true then ta σ H1 Q else tb σ H1 Q) : tIf t ta tb σ H Q := h
theorem w_test (h : te σ H fun x H1 => ∃ k, x = .bl k ∧ QT k H1) : tTest te σ H QT := h
theorem w_B (h : te σ H fun x H1 => ∃ k, x = .bl k ∧ QT k H1) : tB te σ H QT := h
theorem w_and (h : t σ H fun c H1 => if c = true then u σ H1 QT else QT false H1) : tAnd t u σ H QT := h
theorem w_or (h : t σ H fun c H1 => if c = true then QT true H1 else u σ H1 QT) : tOr t u σ H QT := h
theorem w_not (h : t σ H fun c H1 => QT (!c) H1) : tNot t σ H QT := h
theorem w_andV (h : ta σ H fun x H1 => ∃ c, x = .bl c ∧ if c = true then tb σ H1 Q else Q (.bl false) H1) : tAndV ta tb σ H Q := h
theorem w_orV (h : ta σ H fun x H1 => ∃ c, x = .bl c ∧ if c = true then Q (.bl true) H1 else tb σ H1 Q) : tOrV ta tb σ H Q := h
theorem w_notV (h : ta σ H fun x H1 => ∃ c, x = .bl c ∧ Q (.bl (!c)) H1) : tNotV ta σ H Q := h
theorem w_isN (h : ta σ H fun x H1 => Q (.bl (decide (x = .non))) H1) : tIsN ta σ H Q := h
theorem w_notN (h : ta σ H fun x H1 => Q (.bl (!decide (x = .non))) H1) : tNotN ta σ H Q := h
theorem w_tup (h : tr σ H fun xs H1 => xs.length ≤ sizeLine ∧ ∀ p, H1 p = none → Q (.ref p) (upd H1 p (.tup xs))) : tTup tr σ H Q := h
theorem w_lst (h : tr σ H fun xs H1 => xs.length ≤ sizeLine ∧ ∀ p, H1 p = none → Q (.ref p) (upd H1 p (.lst xs))) : tLst tr σ H Q := h
theorem w_sl {f : V → Option Int → Option Int → Hp → VK → Prop} {tl th : TO} (h : te σ H fun x H1 => tl σ H1 fun l H2 => th σ H2 fun u H3 => f x l u H3 Q) : tSl f te tl th σ H Q := h
theorem w_part {QO : Option Int → Hp → Prop} (h : te σ H fun x H1 => ∃ i, x = .int i ∧ QO (some i) H1) : tPart te σ H QO := h
theorem w_nopart {QO : Option Int → Hp → Prop} (h : QO none H) : tNoPart σ H QO := h
theorem w_bm {T : String} {f : V → List V → Hp → VK → Prop} (h : to σ H fun x H1 => tyV K T x H1 ∧ tr σ H1 fun xs H2 => f x xs H2 Q) : tBM K T f to tr σ H Q := h
theorem w_bm0 {T : String} {f : V → List V → Hp → VK → Prop} (h : to σ H fun x H1 => tyV K T x H1 ∧ f x [] H1 Q) : tBM0 K T f to σ H Q := h
theorem w_m1 {f : V → List V → Hp → VK → Prop} (h : to σ H fun x H1 => (∃ a, x = .str a) ∧ te σ H1 fun y H2 => f x [y] H2 Q) : tM1 f to te σ H Q := h
theorem w_yes (h : QT true H) : tYes σ H QT := h
theorem w_ebl {b : Bool} (h : QT b H) : ∃ k, V.bl b = .bl k ∧ QT k H := ⟨b, rfl, h⟩
theorem w_eint {b : Int} {QI : Int → Hp → Prop} (h : QI b H) : ∃ k, V.int b = .int k ∧ QI k H := ⟨b, rfl, h⟩
theorem w_eintO {b : Int} {QO : Option Int → Hp → Prop} (h : QO (some b) H) : ∃ k, V.int b = .int k ∧ QO (some k) H := ⟨b, rfl, h⟩
theorem w_eintV {b : Int} {A : Int → Prop} (h : A b) : ∃ k, V.int b = .int k ∧ A k := ⟨b, rfl, h⟩
theorem w_iteNT {A B : Prop} (h : B) : if (!true) = true then A else B := L2.iteF h
theorem w_iteNF {A B : Prop} (h : A) : if (!false) = true then A else B := L2.iteT h
theorem w_estr {z : Str} {A : Prop} (h : A) : (∃ a, V.str z = .str a) ∧ A := ⟨⟨z, rfl⟩, h⟩
theorem w_eblV {b : Bool} {A : Bool → Prop} (h : A b) : ∃ c, V.bl b = .bl c ∧ A c := ⟨b, rfl, h⟩
theorem w_nx (h : p σ H) : Ends.nx ⟨p, R, q, c⟩ σ H := h
theorem w_rt (h : R v H) : Ends.rt ⟨p, R, q, c⟩ v H := h
theorem w_bk (h : q σ H) : Ends.bk ⟨p, R, q, c⟩ σ H := h
theorem w_ct (h : c σ H) : Ends.ct ⟨p, R, q, c⟩ σ H := h
theorem w_par {i j : Nat} (h : tr σ H fun vs H1 => ∃ v w, vs = [v, w] ∧ D.nx ((σ.set i (some v)).set j (some w)) H1) : tPar i j tr D σ H := h
theorem w_epar {a b : V} {A : V → V → Prop} (h : A a b) : ∃ v w, [a, b] = [v, w] ∧ A v w := ⟨a, b, rfl, h⟩
theorem w_aug {ti : TIp} {x : V} (hx : σ[i]? = some (some x)) (h : te σ H fun y H1 => ti x y H1 fun z H2 => D.nx (σ.set i (some z)) H2) : tAug i te ti D σ H := ⟨x, hx, h⟩
theorem w_ip {f : Int → Int → Int} {a b : Int} (h : Q (.int (f a b)) H) : ipI f (.int a) (.int b) H Q := ⟨a, b, rfl, rfl, h⟩
theorem w_chain {r' : R2} {tc : TE} (h : ta σ H fun x H1 => tb σ H1 fun y H2 => r x y H2 fun z H3 => ∃ k, z = .bl k ∧ (if k = true then tc σ H3 fun w' H4 => r' y w' H4 Q else Q (.bl false) H3)) : tChain r r' ta tb tc σ H Q := h
theorem w_raise {C : Addr} {W : WX} (h : tr σ H fun vs H1 => (vs.length ≤ 1000 ∧ ∀ a, H1 a = none → sp (.ref a :: (vs ++ [])) (upd H1 a (exo a C none)) (fun v H2 => v = .non ∧ ∃ (d : Addr) (fs : List (Str × V)), H2 a = some (exo a C (some d)) ∧ H2 d = some (exd d fs) ∧ H1 d = none ∧ W (.ref C) (some d) σ (upd (del H2 a) d (.xd fs))) (fun _ _ _ => False))) : tRaiseX C sp W tr D σ H := h
theorem w_for {wi : TI} {tb : TS} (h : wi σ H fun J H1 => ∃ W : Nat → Nat → L2.St → Hp → Prop, (∃ m, W 0 m σ H1) ∧ ∀ i m σ H, W i m σ H →
  (J.stop i H ∧ D.nx σ H) ∨ (J.go i H ∧ ∃ N : L2.St → Hp → Prop, (∀ σ' H', N σ' H' → ∃ m', m' < m ∧ W (i + 1) m' σ' H') ∧ ∀ x H', J.yld i H x H' → g x σ H' fun σ2 H2 => tb { D with nx := N, ct := N, bk := D.nx } σ2 H2)) : tFor wi g tb D σ H := h
theorem w_lc {wi : TI} {vs : List Nat} (h : wi σ H fun J H1 => ∀ D, H1 D = none → ∃ W : Nat → Nat → Hp → Prop, (∃ m, W 0 m (upd H1 D (.lst []))) ∧ ∀ i m H, W i m H →
  (J.stop i H ∧ Q (.ref D) H) ∨ (J.go i H ∧ ∃ Nx : Hp → Prop, (∀ H', Nx H' → ∃ m', m' < m ∧ W (i + 1) m' H') ∧ ∀ x H', J.yld i H x H' → g x (wipe σ vs) H' fun σ2 H2 => wipe σ2 vs = wipe σ vs ∧ t σ2 H2 fun b H3 =>
    if b = true then te σ2 H3 fun y H4 => ∃ acc, H4 D = some (.lst acc) ∧ acc.length < sizeLine ∧ Nx (upd H4 D (.lst (acc ++ [y]))) else Nx H3)) : tLc wi g t te vs σ H Q := h
theorem w_iA {RI : It → Hp → Prop} (h : te σ H fun x H1 => (∃ a, x = .ref a ∧ (∃ xs, SqL K H1 a xs) ∧ RI (Itl K a) H1) ∨ (∃ a, x = .ref a ∧ (∃ xs, SqT K H1 a xs) ∧ RI (Itt K a) H1) ∨ (∃ z, x = .str z ∧ RI (Its z) H1)) : iA K te σ H RI := h
theorem w_rng1 {RI : It → Hp → Prop} (h : tr σ H fun vs H1 => ∃ j : Int, vs = [.int j] ∧ -(2 ^ 62) ≤ j ∧ j < 2 ^ 62 ∧ RI (Itr 0 j.toNat) H1) : iRng1 tr σ H RI := h
theorem w_rng2 {RI : It → Hp → Prop} (h : tr σ H fun vs H1 => ∃ i j : Int, vs = [.int i, .int j] ∧ (-(2 ^ 62) ≤ i ∧ i < 2 ^ 62 ∧ -(2 ^ 62) ≤ j ∧ j < 2 ^ 62) ∧ RI (Itr i (j - i).toNat) H1) : iRng2 tr σ H RI := h
theorem w_gtup2 {a : Addr} {x y : V} {i j : Nat} (h : SqT K H a [x, y]) (q : p ((σ.set i (some x)).set j (some y)) H) : gTup K 2 (gCons (gName i) (gCons (gName j) gNil)) (.ref a) σ H p := ⟨a, _, rfl, h, rfl, _, _, rfl, _, _, rfl, rfl, q⟩
theorem w_gtup3 {a : Addr} {x y z : V} {i j k : Nat} (h : SqT K H a [x, y, z]) (q : p (((σ.set i (some x)).set j (some y)).set k (some z)) H) : gTup K 3 (gCons (gName i) (gCons (gName j) (gCons (gName k) gNil))) (.ref a) σ H p := ⟨a, _, rfl, h, rfl, _, _, rfl, _, _, rfl, _, _, rfl, rfl, q⟩
theorem w_par3 {i j l : Nat} (h : tr σ H fun vs H1 => ∃ u v w, vs = [u, v, w] ∧ D.nx (((σ.set i (some u)).set j (some v)).set l (some w)) H1) : tPar3 i j l tr D σ H := h
theorem w_epar3 {a b d : V} {A : V → V → V → Prop} (h : A a b d) : ∃ u v w, [a, b, d] = [u, v, w] ∧ A u v w := ⟨a, b, d, rfl, h⟩
theorem w_xfA {f : Str} (h : te σ H fun x H1 => ∃ (a d : Addr) (c : Str) (fs : List (Str × V)) (v : V), x = .ref a ∧ XV H1 a (He.ga K c) d fs ∧ OexA K c ∧ PySem.W.findIn K (.ref (He.ga K c)) f = some none ∧ fs.lookup f = some v ∧ Q v H1) : tXfA K te f σ H Q := h
theorem w_mkX {C : Addr} (h : tr σ H fun vs H1 => vs.length ≤ 1000 ∧ ∀ a, H1 a = none → sp (.ref a :: vs) (upd H1 a (exo a C none)) (fun v H2 => v = .non ∧ Q (.ref a) H2) E0) : tMkX C sp tr σ H Q := h
theorem w_fld {f : Str} (h : te σ H fun x H1 => ∃ a C dx fs v, x = .ref a ∧ H1 a = some (.ins C dx fs) ∧ Cls K C ∧ NoAttr K C f ∧ fs.lookup f = some v ∧ Q v H1) : tFld K te f σ H Q := h
theorem w_try {C : Addr} {i j : Nat} {tb : WX → TS} (h : tb (wHold K C i j D) D σ H) : tTryHold K C i j tb D σ H := h
theorem w_disp {trs : List (TE × TE)} (h : ∀ p, H p = none → tPairs trs σ (upd H p (.dK [])) fun ps H2 => H2 p = some (.dK []) ∧ ∃ kvs : List (Key × V), ps = kvs.map (fun kv => (kV kv.1, kv.2)) ∧ kvs.length ≤ 15 ∧ Q (.ref p) (upd H2 p (.dK (mergeK [] kvs)))) : tDisp trs σ H Q := h
theorem w_dnew (h : ∀ p, H p = none → Q (.ref p) (upd H p (.dK []))) : tDNewK σ H Q := h
theorem w_pnil {QP : List (V × V) → Hp → Prop} (h : QP [] H) : tPairs [] σ H QP := h
theorem w_pcons {QP : List (V × V) → Hp → Prop} {trs : List (TE × TE)} (h : ta σ H fun x H1 => tb σ H1 fun y H2 => tPairs trs σ H2 fun ps H3 => QP ((x, y) :: ps) H3) : tPairs ((ta, tb) :: trs) σ H QP := h
theorem w_put {td ty tv : TE} (h : tv σ H fun v H1 => td σ H1 fun x H2 => ty σ H2 fun y H3 => ∃ a H4, x = .ref a ∧ DPut H3 a y v H4 ∧ D.nx σ H4) : sDPut td ty tv D σ H := h
end
end My
set_option Elab.async false
set_option linter.all false
set_option maxRecDepth 100000
set_option maxHeartbeats 4000000
/-! Comprehensions over data. -/
namespace My
open PySem PySem.Spec PyProof.Rows L2
theorem paired_snoc {α β : Type} {F : α → β → Prop} : ∀ {l : List α} {m : List β} {a : α} {b : β}, Paired F l m → F a b → Paired F (l ++ [a]) (m ++ [b])
  | _, _, _, _, .nil, h => .cons h .nil
  | _, _, _, _, .cons r t, h => .cons r (paired_snoc t h)
theorem paired_mem {α β : Type} {F G : α → β → Prop} : ∀ {l : List α} {m : List β}, Paired F l m → (∀ a b, a ∈ l → F a b → G a b) → Paired G l m
  | _, _, .nil, _ => .nil
  | _, _, .cons r t, f => .cons (f _ _ List.mem_cons_self r) (paired_mem t fun a b h => f a b (List.mem_cons_of_mem _ h))
theorem pget {α β : Type} {F : α → β → Prop} : ∀ {l : List α} {m : List β} {i : Nat} {a : α}, Paired F l m → l[i]? = some a → ∃ b, m[i]? = some b ∧ F a b
  | _, _, _, _, .nil, e => by simp at e
  | _, _, 0, _, .cons r _, e => by simp at e; subst e; exact ⟨_, rfl, r⟩
  | _, _, i + 1, a, .cons _ t, e => by
    obtain ⟨u, h1, h2⟩ := pget (i := i) (a := a) t (by simpa using e)
    exact ⟨u, by simpa using h1, h2⟩
theorem pgetR {α β : Type} {F : α → β → Prop} : ∀ {l : List α} {m : List β} {i : Nat} {b : β}, Paired F l m → m[i]? = some b → ∃ a, l[i]? = some a ∧ F a b
  | _, _, _, _, .nil, e => by simp at e
  | _, _, 0, _, .cons r _, e => by simp at e; subst e; exact ⟨_, rfl, r⟩
  | _, _, i + 1, a, .cons _ t, e => by
    obtain ⟨u, h1, h2⟩ := pgetR (i := i) (b := a) t (by simpa using e)
    exact ⟨u, by simpa using h1, h2⟩
theorem take_succ_some {α : Type} {l : List α} {i : Nat} {a : α} (h : l[i]? = some a) : l.take (i + 1) = l.take i ++ [a] := by
  rw [List.take_succ, h]; rfl
theorem lcp {α : Type} {J : It} {n : Nat} {G : Hp → Prop} {Y : Nat → Hp → V → Hp → Prop} (w : Walk J n G Y) {g : TG} {tt : TT} {te : TE} {vs : List Nat} {σ : L2.St} {H1 : Hp} {D : Addr} {Qd : Hp → Prop} (hD : H1 D = none)
    (ds : List α) (hn : n = ds.length) (hz : ds.length ≤ 1000000) (hG : ∀ H', Same H1 H' → G H') (f : α → Bool) (R : α → V → Hp → Prop) (Rm : ∀ a y H H' zs, H D = some (.lst zs) → (∀ b o, b ≠ D → H b = some o → H' b = some o) → R a y H → R a y H')
    (turn : ∀ (i : Nat) (d : α) (x : V) (H H' : Hp), ds[i]? = some d → Same H1 H → Y i H x H' → ∀ (k1 : V → Hp → Prop) (k2 : Hp → Prop), (f d = true → ∀ y H4, Same H H4 → R d y H4 → k1 y H4) → (f d = false → ∀ H3, Same H H3 → k2 H3) →
      g x (wipe σ vs) H' fun σ2 H2 => wipe σ2 vs = wipe σ vs ∧ tt σ2 H2 fun b H3 => if b = true then te σ2 H3 k1 else k2 H3)
    (hd : ∀ ys H', Same H1 H' → H' D = some (.lst ys) → Paired (fun a y => R a y H') (ds.filter f) ys → Qd H') :
    ∃ W : Nat → Nat → Hp → Prop, (∃ m, W 0 m (upd H1 D (.lst []))) ∧ ∀ i m H, W i m H →
      (J.stop i H ∧ Qd H) ∨ (J.go i H ∧ ∃ Nx : Hp → Prop, (∀ H', Nx H' → ∃ m', m' < m ∧ W (i + 1) m' H') ∧ ∀ x H', J.yld i H x H' → g x (wipe σ vs) H' fun σ2 H2 => wipe σ2 vs = wipe σ vs ∧ tt σ2 H2 fun b H3 =>
        if b = true then te σ2 H3 fun y H4 => ∃ acc, H4 D = some (.lst acc) ∧ acc.length < sizeLine ∧ Nx (upd H4 D (.lst (acc ++ [y]))) else Nx H3) := by
  subst hn
  refine lc_it w (fun i H => ∃ ys, Same H1 H ∧ H D = some (.lst ys) ∧ Paired (fun a y => R a y H) ((ds.take i).filter f) ys) ⟨[], same_new hD, upd_same, by rw [List.take_zero]; exact .nil⟩ (fun i H _ ⟨ys, s, _⟩ => hG H s) ?_ ?_
  · rintro i x H H' hi ⟨ys, s, hL, pr⟩ hy
    have hdi : ds[i]? = some ds[i] := List.getElem?_eq_getElem hi
    have lz : ys.length ≤ 1000000 := by
      have e := pr.length
      have h2 := List.length_filter_le f (ds.take i)
      rw [List.length_take] at h2
      omega
    refine turn i ds[i] x H H' hdi s hy _ _ (fun hf y H4 s4 r => ?_) (fun hf H3 s3 => ?_)
    · refine ⟨ys, s4 _ _ hL, small_lt _ lz, ys ++ [y], Same.mut (s.trans s4) hD, upd_same, ?_⟩
      rw [take_succ_some hdi, List.filter_append, List.filter_cons, if_pos hf]
      have nd : ∀ b o, b ≠ D → H4 b = some o → upd H4 D (.lst (ys ++ [y])) b = some o := fun b o ne e => by rw [upd_ne ne]; exact e
      exact paired_snoc (L2.Paired.mapP pr fun a z r => Rm a z H _ ys hL (fun b o ne e => nd b o ne (s4 b o e)) r) (Rm _ y H4 _ ys (s4 _ _ hL) nd r)
    · refine ⟨ys, s.trans s3, s3 _ _ hL, ?_⟩
      rw [take_succ_some hdi, List.filter_append, List.filter_cons, if_neg (by rw [hf]; exact Bool.false_ne_true)]
      show Paired _ (_ ++ []) ys
      rw [List.append_nil]
      exact L2.Paired.mapP pr fun a z r => Rm a z H H3 ys hL (fun b o _ e => s3 b o e) r
  · rintro H ⟨ys, s, hL, pr⟩
    rw [List.take_length] at pr
    exact hd ys H s hL pr
/-- a comprehension whose elements are plain values -/
theorem lcv {α : Type} {J : It} {n : Nat} {G : Hp → Prop} {Y : Nat → Hp → V → Hp → Prop} (w : Walk J n G Y) {g : TG} {tt : TT} {te : TE} {vs : List Nat} {σ : L2.St} {H1 : Hp} {D : Addr} {Qd : Hp → Prop} (hD : H1 D = none)
    (ds : List α) (hn : n = ds.length) (hz : ds.length ≤ 1000000) (hG : ∀ H', Same H1 H' → G H') (f : α → Bool) (v : α → V)
    (turn : ∀ (i : Nat) (d : α) (x : V) (H H' : Hp), ds[i]? = some d → Same H1 H → Y i H x H' → ∀ (k1 : V → Hp → Prop) (k2 : Hp → Prop), (f d = true → ∀ H4, Same H H4 → k1 (v d) H4) → (f d = false → ∀ H3, Same H H3 → k2 H3) →
      g x (wipe σ vs) H' fun σ2 H2 => wipe σ2 vs = wipe σ vs ∧ tt σ2 H2 fun b H3 => if b = true then te σ2 H3 k1 else k2 H3)
    (hd : ∀ H', Same H1 H' → H' D = some (.lst ((ds.filter f).map v)) → Qd H') :
    ∃ W : Nat → Nat → Hp → Prop, (∃ m, W 0 m (upd H1 D (.lst []))) ∧ ∀ i m H, W i m H →
      (J.stop i H ∧ Qd H) ∨ (J.go i H ∧ ∃ Nx : Hp → Prop, (∀ H', Nx H' → ∃ m', m' < m ∧ W (i + 1) m' H') ∧ ∀ x H', J.yld i H x H' → g x (wipe σ vs) H' fun σ2 H2 => wipe σ2 vs = wipe σ vs ∧ tt σ2 H2 fun b H3 =>
        if b = true then te σ2 H3 fun y H4 => ∃ acc, H4 D = some (.lst acc) ∧ acc.length < sizeLine ∧ Nx (upd H4 D (.lst (acc ++ [y]))) else Nx H3) := by
  refine lcp w hD ds hn hz hG f (fun a y _ => y = v a) (fun _ _ _ _ _ _ _ e => e) (fun i d x H H' h1 h2 h3 k1 k2 h4 h5 => turn i d x H H' h1 h2 h3 k1 k2 (fun hf H4 s => h4 hf _ H4 s rfl) h5) (fun ys H' s e pr => hd H' s ?_)
  rw [e]
  have : ys = (ds.filter f).map v := by
    clear e
    generalize ds.filter f = l at pr
    induction pr with
    | nil => rfl
    | cons h _ ih => rw [List.map_cons, ← ih, h]
  rw [this]
/-- no test -/
theorem filter_yes {α : Type} (l : List α) : l.filter (fun _ => true) = l := by simp
/-! ### signs that stand in a text -/
theorem strOk_iff {z : Str} : PyData.strOk z = true ↔ ∀ c ∈ z.cps.toList, c < 1114112 := by
  unfold PyData.strOk
  rw [Array.all_eq_true]
  constructor
  · intro h c hc
    obtain ⟨i, hi, e⟩ := List.getElem_of_mem hc
    have := h i (by simpa using hi)
    rw [← e]
    simpa using this
  · intro h i hi
    have := h z.cps[i] (by simp)
    simpa using this
theorem strOk_append {a b : Str} (ha : PyData.strOk a = true) (hb : PyData.strOk b = true) : PyData.strOk (a ++ b) = true := by
  rw [strOk_iff] at *
  have e : (a ++ b).cps.toList = a.cps.toList ++ b.cps.toList := TL.tl_append a b
  rw [e]
  intro c hc
  rcases List.mem_append.mp hc with h | h
  · exact ha c h
  · exact hb c h
theorem strOk_cut {z : Str} {lo hi : Option Int} (h : PyData.strOk z = true) : PyData.strOk (cutS z lo hi) = true := by
  rw [strOk_iff] at *
  intro c hc
  exact h c (List.mem_of_mem_drop (List.mem_of_mem_take (show c ∈ ((z.cps.toList.drop _).take _) from hc)))
theorem strOk_join {sep : Str} (hs : PyData.strOk sep = true) : ∀ {zs : List Str}, (∀ z ∈ zs, PyData.strOk z = true) → PyData.strOk (Str.join sep zs) = true
  | [], _ => (by decide +kernel : PyData.strOk (Str.empty) = true)
  | [z], h => h z List.mem_cons_self
  | x :: z :: r, h => by
    show PyData.strOk (x ++ sep ++ Str.join sep (z :: r)) = true
    exact strOk_append (strOk_append (h x List.mem_cons_self) hs) (strOk_join hs fun y hy => h y (List.mem_cons_of_mem _ hy))
/-- C(v) as a value, C's __init__ storing the one field f -/
theorem mk_ok {K : PySem.W.Frag} {C f : Str} {v : V} {H : Hp} {Q : Addr → Hp → Prop} (k : ∀ a d H2, Same H H2 → XV H2 a (He.ga K C) d [(f, v)] → Q a H2) :
    ([v] : List V).length ≤ 1000 ∧ ∀ a, H a = none → Sp2 (pr_init K C f) (.ref a :: [v]) (upd H a (exo a (He.ga K C) none)) (fun r H2 => r = .non ∧ Q a H2) E0 := by
  refine ⟨(show 1 ≤ 1000 by decide), fun a ha => ⟨_, _, rfl, a, rfl, upd_same, fun d hd da => ⟨rfl, ?_⟩⟩⟩
  have hd0 : H d = none := by rw [upd_ne da] at hd; exact hd
  refine k a d _ (fun b o e => ?_) (.inr ⟨upd_same, by rw [upd_ne da, upd_same]⟩)
  rw [upd_ne (ne_of_none e ha), upd_ne (ne_of_none e hd0), upd_ne (ne_of_none e ha)]
  exact e
theorem eqv_same {d : PyData} (h : SeqAt.shaped d = true) : PyData.eqv d d = true := SeqAt.eqv_refl d (SeqAt.canLay_of_shaped h)
end My
set_option Elab.async false
set_option linter.all false
set_option maxRecDepth 100000
set_option maxHeartbeats 4000000
/-! Own classes' objects and their methods; sorted of a tuple of texts. -/
namespace My
open PySem PySem.Spec PyProof.Rows L2
/-- a method of the class at C -/
structure Km (P : Program) (w : World) (K : PySem.W.Frag) (mg : Str → Option Value) (base : Heap) (CX : CXT) (k : Nat) (C : Addr) (m : Str) (ps : List Str) (sp : Sp) : Prop where
  c : Cls K C
  ex : ∃ f fd, Meth K C m f ∧ Binds K fd ps [] ∧ FnOk P w K mg base CX k f fd ps sp
/-- a class that makes objects -/
structure Ki (P : Program) (w : World) (K : PySem.W.Frag) (mg : Str → Option Value) (base : Heap) (k : Nat) (x : Str) (ps : List Str) (sp : Sp) : Prop where
  g : mg x = some (.ref (He.ga K x))
  ex : ∃ f fd, Mk K (He.ga K x) f ∧ Binds K fd ps [] ∧ FnOk P w K mg base CX0 k f fd ps sp
section
variable {X : Cx} {j k : Nat} {x m : Str} {C : Addr} {ps : List Str} {sp : Sp} {e o : Expr} {es : List Expr} {ta : TE} {t : TA} {p pos apos : Pos}
theorem pe_mK {pl : Sem Bool} (c : Km X.prog X.w X.K X.mg X.base CX0 j C m ps sp) (hr : Room j X.A) (he : PE X o ta) (ha : PA X (e :: es) t)
    (hst : starEach (e :: es) X.env = (false, eval e X.env) :: starEach es X.env := by rfl) (hpl : (backTo pos (starEach es X.env)).any (·.1) = false := by rfl)
    (ht : eval (.Call (.Attribute o m apos) (e :: es) [] pos) X.env = (do
      let ov ← eval o X.env; standAt apos.atName
      let (f, first) ← holding [ov] (getMethod ov m pl); callWith pos f first (backTo pos (starEach (e :: es) X.env)) (backToKw pos (keywordEach [] X.env))) := by rfl) :
    PE X (.Call (.Attribute o m apos) (e :: es) [] pos) (tMeth C m sp [] E0 ta t) := by
  obtain ⟨f, fd, h1, h2, h3⟩ := c.ex
  exact pe_meth (pl := pl) he c.c h1 h3 hr h2 .nil pass0 ha hst hpl ht
theorem pe_mK0 {pl : Sem Bool} (c : Km X.prog X.w X.K X.mg X.base CX0 j C m ps sp) (hr : Room j X.A) (he : PE X o ta)
    (ht : eval (.Call (.Attribute o m apos) [] [] pos) X.env = (do
      let ov ← eval o X.env; standAt apos.atName
      let (f, first) ← holding [ov] (getMethod ov m pl); callWith pos f first (backTo pos (starEach [] X.env)) (backToKw pos (keywordEach [] X.env))) := by rfl) :
    PE X (.Call (.Attribute o m apos) [] [] pos) (tMeth C m sp [] E0 ta tNil) := by
  obtain ⟨f, fd, h1, h2, h3⟩ := c.ex
  exact pe_meth0 (pl := pl) he c.c h1 h3 hr h2 .nil pass0 ht
theorem pe_mI (c : Ki X.prog X.w X.K X.mg X.base k x ps sp) (hr : Room (k + 1) X.A) (hg : Gl X x) (ha : PA X (e :: es) t)
    (hdb : (x == ("__debug__" : Str)) = false := by decide) (he : starEach (e :: es) X.env = (false, eval e X.env) :: starEach es X.env := by rfl) (hpl : (backTo pos (starEach es X.env)).any (·.1) = false := by rfl) :
    PE X (.Call (.Name x p) (e :: es) [] pos) (tMake (He.ga X.K x) sp [] E0 t) := by
  obtain ⟨f, fd, h1, h2, h3⟩ := c.ex
  exact pe_make h1 h3 hr hg c.g h2 .nil pass0 ha hdb he hpl
end
section
variable {X : Cx} {j : Nat} {x : Str} {ps : List Str} {sp : Sp} {e : Expr} {es : List Expr} {t : TA} {p pos : Pos}
/-- a def that may raise, called where it does not -/
theorem pe_cKN (c : Kp X.prog X.w X.K X.mg X.base (L2.CX X.prog X.w) j x ps sp) (hr : Room j X.A) (hg : Gl X x) (ha : PA X (e :: es) t)
    (hdb : (x == ("__debug__" : Str)) = false := by decide) (he : starEach (e :: es) X.env = (false, eval e X.env) :: starEach es X.env := by rfl) (hpl : (backTo pos (starEach es X.env)).any (·.1) = false := by rfl) :
    PE X (.Call (.Name x p) (e :: es) [] pos) (tCall sp [] E0 t) := by
  obtain ⟨f, fd, h1, h2, h3, h4⟩ := c.ex
  exact pe_call h4 hr hg h1 h2 h3 .nil (fun _ _ _ _ _ _ _ z => by
    obtain ⟨_, _, _, _, _, _, _, _, _, _, _, _, h⟩ := z
    exact h.elim) ha hdb he hpl
end
/-! ### str of a text too -/
def rStrB : List V → Hp → VK → Prop := fun xs H Q => rStrA xs H Q ∨ ∃ a, xs = [.str a] ∧ Q (.str a) H
theorem call_strB {X : Cx} : CallR X (.type "str") rStrB := call_strA.or SkE.call_str_str
/-! ### sorted -/
section
variable {prog : Program} {w : World} {A : Around} {E : Value → Shared → Prop} {s : Shared}
theorem gather_tuple {l : Addr} {vs : List Value} {Q : List Value → Shared → Prop} (hl : s.heap.IsTuple l vs.toArray) (hz : vs.length ≤ sizeLine)
    (h : Q vs { s with heap := (s.heap.push (seqObj "list" #[] 0)).update s.heap.objs.size (Obj.mapSeq (· ++ vs.toArray)) }) : wpAny (model prog w) A (collect (.ref l)) Q E s := by
  obtain ⟨o, ho, hc, n, hd⟩ := id hl
  unfold collect; refine wpAny_bind (wpAny_runValue (codeAny_builtin entry_proto_collect' ?_))
  show wpAny _ _ (do again (.builtin "list.__iadd__" ⟨[← newList [], .ref l], []⟩)) _ _ s; refine wpAny_bind (wpAny_newList (wpAny_pure ⟨Code.quiet_builtin _ (by decide +kernel), codeAny_builtin entry_list_iadd' ?_⟩))
  show wpAny _ _ (Builtin.List.listExtendWith (.ref s.heap.objs.size) (.ref l) (.ref s.heap.objs.size)) _ _ { s with heap := s.heap.push (seqObj "list" #[] 0) }; unfold Builtin.List.listExtendWith
  have hold : (s.heap.push (seqObj "list" #[] 0)).get? l = some o := Heap.get?_push_of_some _ ho
  refine wpAny_bind (wpAny_typeOf (T := "tuple") ⟨o, hold, hc⟩ ?_)
  have htt : (Value.type "tuple" == Value.type "tuple") = true := by rfl
  rw [if_pos (by rw [htt]; simp)]; refine wpAny_bind (listItems_at hold hd ?_)
  have hnew : (s.heap.push (seqObj "list" #[] 0)).get? s.heap.objs.size = some (seqObj "list" #[] 0) := Heap.get?_push_size _ rfl
  refine wpAny_bind (listItems_at (xs := #[]) (n := 0) hnew rfl ?_); rw [if_neg (by simp)]
  refine wpAny_bind (listUpdate_at (xs := #[]) (n := 0) hnew rfl ?_ (Nat.zero_le _) (by simp only [List.size_toArray, Array.empty_append]; omega)); refine wpAny_pure ?_
  refine wpAny_bind (wpAny_load (get?_update_seq hnew _) ?_)
  show wpAny _ _ (pure ((#[] : Array Value) ++ vs.toArray).toList) Q E _; rw [show ((#[] : Array Value) ++ vs.toArray).toList = vs by simp]; exact wpAny_pure h
end
section
variable {prog : Program} {w : World} {A : Around} {E : Value → Shared → Prop} {s : Shared}
theorem sorted_tup {l : Addr} {vs : List Value} {ss : List Str} {Q : Value → Shared → Prop} (hl : s.heap.IsTuple l vs.toArray) (hS : StrsAre vs ss) (h64 : vs.length < 64)
    (h : ∀ (out : Array Value) (ss' : List Str), StrsAre out.toList ss' → ss'.Perm ss → sortedS ss' = true → Q (.ref (s.heap.objs.size + 1)) { s with heap := sortedAll s.heap vs out }) : wpAny (model prog w) A (call (.builtin "sorted") [.ref l]) Q E s := by
  refine Calls.call_function_entry kind_sorted plain_sorted entry_sorted (args_sorted1 _) ?_; unfold Builtin.«sorted»
  refine wpAny_bind (m := checkCount "sorted" 1 1 _) (wpAny_pure ?_); refine wpAny_bind (gather_tuple hl (small64 h64) ?_); refine wpAny_bind (wpAny_newList ?_ (small64 h64))
  have hsz : ((s.heap.push (seqObj "list" #[] 0)).update s.heap.objs.size (Obj.mapSeq (· ++ vs.toArray))).objs.size = s.heap.objs.size + 1 := (Heap.size_update ..).trans (size_push' ..)
  have hat : (((s.heap.push (seqObj "list" #[] 0)).update s.heap.objs.size (Obj.mapSeq (· ++ vs.toArray))).push (seqObj "list" vs.toArray 0)).get? (s.heap.objs.size + 1) = some (seqObj "list" vs.toArray 0) := by rw [← hsz]; exact Heap.get?_push_size _ rfl
  show wpAny _ _ _ _ _ { s with heap := ((s.heap.push (seqObj "list" #[] 0)).update s.heap.objs.size (Obj.mapSeq (· ++ vs.toArray))).push (seqObj "list" vs.toArray 0) }; rw [hsz]
  refine wpAny_bind (wpAny_holding (wpAny_call_entry slot_list_sort ⟨_, hat, rfl⟩ entry_list_sort (list_sort_treeK strKind_oneLt hat hS.keysOf (fun v₁ v₂ rest e => keyKind_strs (by rw [← e]; exact hS)) h64 fun st' hp hs => ⟨_, rfl, ?_⟩) (args_list_sort _)))
  obtain ⟨ss', h1, h2, h3⟩ := sorted_out_str hS hp hs; exact wpAny_pure ⟨_, rfl, h _ ss' h1 h2 h3⟩
end
def rSortedTup (K : PySem.W.Frag) : List V → Hp → VK → Prop := fun vs H Q => ∃ (a : Addr) (xs : List Str), vs = [V.ref a] ∧ SqT K H a (xs.map V.str) ∧ xs.length < 64 ∧ ∀ (ys : List Str) (p : Addr), ys.Perm xs → sortedS ys = true → H p = none → Q (.ref p) (upd H p (.lst (ys.map V.str)))
theorem call_sortedTup {X : Cx} : CallR X (.builtin "sorted") (rSortedTup X.K) := by
  intro pins s σ H vs us Q I r h
  obtain ⟨a, xs, rfl, hs, h64, q⟩ := h
  obtain ⟨its, rv, hl, _⟩ := I.tuple hs
  rw [Vals.ref1 r]
  have hlen0 := rv.length
  rw [List.length_map] at hlen0
  refine sorted_tup hl rv.strs (by omega) fun out ys h1 h2 h3 => ?_
  obtain ⟨ep, hat⟩ := sortedAll_at s.heap its out
  have hlen : (ys.map V.str).length ≤ sizeLine := by rw [List.length_map, h2.length_eq]; exact small64 h64
  exact ⟨.ref _, upd H (s.heap.objs.size + 1) (.lst (ys.map V.str)), I.laid (t' := s.toks) (fun _ _ z => sortedAll_old z) (Nat.le_succ _) ⟨hlen, out.toList, ep, vals_of_strs h1, hat⟩, rfl, q ys _ h2 h3 (I.hok.fresh (Nat.le_succ _))⟩
def rSortedA (K : PySem.W.Frag) : List V → Hp → VK → Prop := fun vs H Q => rSorted K vs H Q ∨ rSortedS K vs H Q ∨ rSortedTup K vs H Q
theorem call_sortedA {X : Cx} : CallR X (.builtin "sorted") (rSortedA X.K) := cr_sorted.or (cr_sortedS.or call_sortedTup)
/-! ### the words of the readings -/
section
variable {K : PySem.W.Frag} {H : Hp} {σ : L2.St} {Q : VK} {ta tb te tv : TE} {tr : TA} {D : Ends} {C : Addr} {m f : Str} {sp : Sp} {E : XK}
theorem w_meth (h : ta σ H fun x H1 => ∃ a dx fs, x = .ref a ∧ H1 a = some (.ins C dx fs) ∧ fs.lookup m = none ∧ tr σ H1 fun vs H2 => sp (x :: vs) H2 Q E) : tMeth C m sp [] E ta tr σ H Q := by
  show ta σ H fun x H1 => ∃ a dx fs, x = .ref a ∧ H1 a = some (.ins C dx fs) ∧ fs.lookup m = none ∧ tr σ H1 fun vs H2 => sp (x :: (vs ++ [])) H2 Q E
  simp only [List.append_nil]
  exact h
theorem w_make (h : tr σ H fun vs H1 => ∀ x dx, H1 x = none → H1 dx = none → dx ≠ x → sp (.ref x :: vs) (upd (upd H1 dx (.own x)) x (.ins C dx [])) (fun v H2 => v = .non ∧ Q (.ref x) H2) E) : tMake C sp [] E tr σ H Q := by
  show tr σ H fun vs H1 => ∀ x dx, H1 x = none → H1 dx = none → dx ≠ x → sp (.ref x :: (vs ++ [])) (upd (upd H1 dx (.own x)) x (.ins C dx [])) (fun v H2 => v = .non ∧ Q (.ref x) H2) E
  simp only [List.append_nil]
  exact h
theorem w_sfld (h : tv σ H fun y H1 => ta σ H1 fun x H2 => ∃ a C dx fs, x = .ref a ∧ H2 a = some (.ins C dx fs) ∧ Cls K C ∧ NoAttr K C f ∧ fs.length < 1000 ∧ D.nx σ (upd H2 a (.ins C dx (putF f y fs)))) : sFld K ta tv f D σ H := h
theorem w_faug {rd : V → V → Hp → VK → Prop} (h : ta σ H fun x H1 => ∃ a C dx fs v, x = .ref a ∧ H1 a = some (.ins C dx fs) ∧ Cls K C ∧ NoAttr K C f ∧ fs.lookup f = some v ∧
  tv σ H1 fun y H2 => rd v y H2 fun z H3 => ∃ dx' fs', H3 a = some (.ins C dx' fs') ∧ fs'.length < 1000 ∧ D.nx σ (upd H3 a (.ins C dx' (putF f z fs')))) : sFldAug K ta tv rd f D σ H := h
theorem w_revL (h : te σ H fun x H1 => ∃ a xs, x = .ref a ∧ SqL K H1 a xs ∧ ∀ p, H1 p = none → Q (.ref p) (upd H1 p (.lst xs.reverse))) : tRevL K te σ H Q := h
theorem w_enum {RI : It → Hp → Prop} (h : tr σ H fun vs H1 => ∃ a xs, vs = [.ref a] ∧ SqL K H1 a xs ∧ RI (Ite K a) H1) : iEnum K tr σ H RI := h
end
end My
set_option Elab.async false
set_option linter.all false
set_option maxRecDepth 100000
set_option maxHeartbeats 4000000
/-! Methods that may raise. -/
namespace My
open PySem PySem.Spec PyProof.Rows L2
def tMethX (C : Addr) (m : Str) (sp : Sp) (E : L2.St → XK) (ta : TE) (t : TA) : TE := fun σ H Q => ta σ H fun x H1 => ∃ a dx fs, x = .ref a ∧ H1 a = some (.ins C dx fs) ∧ fs.lookup m = none ∧ t σ H1 fun vs H2 => sp (x :: vs) H2 Q (E σ)
section
variable {X : Cx} {j k : Nat} {x m : Str} {C : Addr} {ps : List Str} {sp : Sp} {e o : Expr} {es : List Expr} {ta : TE} {t : TA} {p pos apos : Pos} {W : WX}
theorem pe_mKX {pl : Sem Bool} (c : Km X.prog X.w X.K X.mg X.base (L2.CX X.prog X.w) j C m ps sp) (hr : Room j X.A) (tk : Takes X W) (he : PE X o ta) (ha : PA X (e :: es) t)
    (hst : starEach (e :: es) X.env = (false, eval e X.env) :: starEach es X.env := by rfl) (hpl : (backTo pos (starEach es X.env)).any (·.1) = false := by rfl)
    (ht : eval (.Call (.Attribute o m apos) (e :: es) [] pos) X.env = (do
      let ov ← eval o X.env; standAt apos.atName
      let (f, first) ← holding [ov] (getMethod ov m pl); callWith pos f first (backTo pos (starEach (e :: es) X.env)) (backToKw pos (keywordEach [] X.env))) := by rfl) :
    PE X (.Call (.Attribute o m apos) (e :: es) [] pos) (tMethX C m sp (WE W) ta t) := by
  obtain ⟨f, fd, h1, h2, h3⟩ := c.ex
  refine ⟨fun pins s σ H Q I h => ?_⟩
  refine PySem.W.methodCall_KW (pl := pl) (thn (he.run pins s σ H _ I h) fun u s1 ⟨x, H1, I1, rx, a, dx, fs, ex, ea, l, q⟩ => ?_) ht
  subst ex
  obtain rfl : u = Value.ref a := rx
  refine getmeth_ok I1 ea c.c h1 l ?_
  refine PySem.W.callWith_K (first := [.ref a]) (h₀ := X.base) I.ok.mod.kin h1.kp (thn (ha.run pos pins s1 σ H1 _ I1 q) fun us s2 ⟨vs, H2, I2, r, q2⟩ => ⟨I2.kIn, ?_⟩) hst hpl
  exact run_fnS (us := .ref a :: us) (vs := .ref a :: vs) (E := WE W) h3 hr h2 (passAt tk σ) I2 (.cons rfl r) q2
theorem pe_mKX0 {pl : Sem Bool} (c : Km X.prog X.w X.K X.mg X.base (L2.CX X.prog X.w) j C m ps sp) (hr : Room j X.A) (tk : Takes X W) (he : PE X o ta)
    (ht : eval (.Call (.Attribute o m apos) [] [] pos) X.env = (do
      let ov ← eval o X.env; standAt apos.atName
      let (f, first) ← holding [ov] (getMethod ov m pl); callWith pos f first (backTo pos (starEach [] X.env)) (backToKw pos (keywordEach [] X.env))) := by rfl) :
    PE X (.Call (.Attribute o m apos) [] [] pos) (tMethX C m sp (WE W) ta tNil) := by
  obtain ⟨f, fd, h1, h2, h3⟩ := c.ex
  refine ⟨fun pins s σ H Q I h => ?_⟩
  refine PySem.W.methodCall_KW (pl := pl) (thn (he.run pins s σ H _ I h) fun u s1 ⟨x, H1, I1, rx, a, dx, fs, ex, ea, l, q⟩ => ?_) ht
  subst ex
  obtain rfl : u = Value.ref a := rx
  refine getmeth_ok I1 ea c.c h1 l ?_
  exact PySem.W.callWith_K0 (first := [.ref a]) I1.kIn h1.kp (run_fnS (us := [.ref a]) (vs := [.ref a]) (E := WE W) h3 hr h2 (passAt tk σ) I1 (.cons rfl .nil) q)
end
section
variable {K : PySem.W.Frag} {H : Hp} {σ : L2.St} {Q : VK} {ta : TE} {tr : TA} {C : Addr} {m : Str} {sp : Sp} {E : L2.St → XK}
theorem w_methX (h : ta σ H fun x H1 => ∃ a dx fs, x = .ref a ∧ H1 a = some (.ins C dx fs) ∧ fs.lookup m = none ∧ tr σ H1 fun vs H2 => sp (x :: vs) H2 Q (E σ)) : tMethX C m sp E ta tr σ H Q := h
end
theorem pe_mI0 {X : Cx} {k : Nat} {x : Str} {ps : List Str} {sp : Sp} {p pos : Pos} (c : Ki X.prog X.w X.K X.mg X.base k x ps sp) (hr : Room (k + 1) X.A) (hg : Gl X x) (hdb : (x == ("__debug__" : Str)) = false := by decide) :
    PE X (.Call (.Name x p) [] [] pos) (tMake (He.ga X.K x) sp [] E0 tNil) := by
  obtain ⟨f, fd, h1, h2, h3⟩ := c.ex
  exact pe_make0 h1 h3 hr hg c.g h2 .nil pass0 hdb
theorem op_inDp {X : Cx} {k : Nat} (hr : Room k X.A) : OpR X (compareOp .In) (L2.rInD X.K) := L2.op_inD (by have := hr.un; omega)
theorem op_notInDp {X : Cx} {k : Nat} (hr : Room k X.A) : OpR X (compareOp .NotIn) (L2.rNotInD X.K) := L2.op_notInD (by have := hr.un; omega)
theorem w_dget2 {H : Hp} {σ : L2.St} {Q : VK} {td ty tx : TE} (h : td σ H fun x H1 => ∃ a, x = .ref a ∧ IsD H1 a ∧ ty σ H1 fun y H2 => tx σ H2 fun z H3 => ∃ o, DGet H3 a y o ∧ Q (o.getD z) H3) : tDGet2 td ty tx σ H Q := h
theorem w_gtup4 {K : PySem.W.Frag} {H : Hp} {σ : L2.St} {p : L2.St → Hp → Prop} {a : Addr} {x y z u : V} {i j k l : Nat} (h : SqT K H a [x, y, z, u]) (q : p ((((σ.set i (some x)).set j (some y)).set k (some z)).set l (some u)) H) :
    gTup K 4 (gCons (gName i) (gCons (gName j) (gCons (gName k) (gCons (gName l) gNil)))) (.ref a) σ H p := ⟨a, _, rfl, h, rfl, _, _, rfl, _, _, rfl, _, _, rfl, _, _, rfl, rfl, q⟩
/-! ### d.update(d2) -/
def rUpdD : V → List V → Hp → VK → Prop := fun x xs H Q => ∃ (a b : Addr) (kvs more : List (Key × V)), x = .ref a ∧ xs = [.ref b] ∧ a ≠ b ∧ H a = some (.dK kvs) ∧ H b = some (.dK more) ∧ kvs.length + more.length ≤ 1000 ∧ Q .non (upd H a (.dK (mergeK kvs more)))
theorem mt_update {X : Cx} : MtR X "dict.update" rUpdD := by
  intro pins s σ H x xs v us Q I rx rxs h
  obtain ⟨a, b, kvs, more, rfl, rfl, hab, ha, hb, hz, q⟩ := h
  cases rx
  obtain ⟨u, rfl, ru⟩ := rxs.one
  cases ru
  obtain ⟨z1, hd1, vs, rel1, dd1⟩ := dk_of I.hok ha
  obtain ⟨z2, hd2, rs, rel2, dd2⟩ := dk_of I.hok hb
  have hl : (mergeK kvs more).length ≤ sizeLine := by
    have h1 := length_mergeK more kvs
    have h2 : 1000 ≤ sizeLine := by decide
    omega
  refine call_meetsIn PySem.F.slot_dict_update dd1.typeIs PySem.F.entry_dict_update (PySem.F.args_dict_update_2 _ _) (meets_dict_update (mixKind X.prog X.w) a b hab hd2)
    ⟨vs, rs, dd1, dd2, by
      have h2 : 1000 ≤ sizeLine := by decide
      rw [← rel1.length, ← rel2.length]; omega, fun h' hd' ho' hs => ?_⟩
  have he : ∃ q, h'.get? a = some q := let ⟨q, _, _, hq, _⟩ := hd'; ⟨q, hq⟩
  exact ⟨.non, upd H a (.dK (mergeK kvs more)), d_write I (by rw [ha]; exact True.intro) hs he (dk_new hl hd1 (KV.merge rel2 rel1) hd'), rfl, q⟩
end My
set_option Elab.async false
set_option linter.all false
set_option maxRecDepth 100000
set_option maxHeartbeats 4000000
/-! The mathematics of words: texts as lists of signs. -/
namespace My
open PySem PySem.Spec PyProof.Rows L2

def LETs : Str := "abcdefghijklmnopqrstuvwxyz"
def FIGs : Str := "0123456789"
abbrev LET : List Nat := LETs.cps.toList
abbrev FIG : List Nat := FIGs.cps.toList
theorem mem_LET (c : Nat) : c ∈ LET ↔ 97 ≤ c ∧ c ≤ 122 := by
  have e : LET = [97, 98, 99, 100, 101, 102, 103, 104, 105, 106, 107, 108, 109, 110, 111, 112, 113, 114, 115, 116, 117, 118, 119, 120, 121, 122] := by decide +kernel
  rw [e]
  simp only [List.mem_cons, List.not_mem_nil, or_false]
  omega
theorem mem_FIG (c : Nat) : c ∈ FIG ↔ 48 ≤ c ∧ c ≤ 57 := by
  have e : FIG = [48, 49, 50, 51, 52, 53, 54, 55, 56, 57] := by decide +kernel
  rw [e]
  simp only [List.mem_cons, List.not_mem_nil, or_false]
  omega

/-- how many signs of S stand ahead -/
def runLen (S l : List Nat) : Nat := (l.takeWhile (fun c => decide (c ∈ S))).length
theorem runLen_le (S l : List Nat) : runLen S l ≤ l.length := by
  unfold runLen
  induction l with
  | nil => simp
  | cons c t ih =>
    rw [List.takeWhile_cons]
    split
    · simp only [List.length_cons]; omega
    · simp
theorem runLen_nil (S : List Nat) : runLen S [] = 0 := rfl
theorem runLen_in {S t : List Nat} {c : Nat} (h : c ∈ S) : runLen S (c :: t) = runLen S t + 1 := by
  unfold runLen
  rw [List.takeWhile_cons, if_pos (decide_eq_true h), List.length_cons]
theorem runLen_out {S t : List Nat} {c : Nat} (h : c ∉ S) : runLen S (c :: t) = 0 := by
  unfold runLen
  rw [List.takeWhile_cons, if_neg (by simpa using h)]
  rfl
theorem runLen_append {S : List Nat} {c : Nat} (h : c ∉ S) (r : List Nat) : ∀ l : List Nat, runLen S (l ++ c :: r) = runLen S l
  | [] => runLen_out h
  | x :: l => by
    by_cases hx : x ∈ S
    · rw [List.cons_append, runLen_in hx, runLen_in hx, runLen_append h r l]
    · rw [List.cons_append, runLen_out hx, runLen_out hx]
/-- the length of the word that begins here -/
def wordLen : List Nat → Option Nat
  | [] => none
  | c :: t => if c = 47 then some 1 else if c ∈ LET then (if runLen LET (c :: t) ≤ 8 then some (runLen LET (c :: t)) else none)
    else if 0 < runLen FIG (c :: t) ∧ runLen FIG (c :: t) ≤ 12 ∧ (c ≠ 48 ∨ runLen FIG (c :: t) = 1) then some (runLen FIG (c :: t)) else none
theorem wordLen_le {l : List Nat} {n : Nat} (h : wordLen l = some n) : 0 < n ∧ n ≤ l.length := by
  cases l with
  | nil => cases h
  | cons c t =>
    unfold wordLen at h
    have h1 := runLen_le LET (c :: t)
    have h2 := runLen_le FIG (c :: t)
    simp only [List.length_cons] at *
    split at h
    · cases h; omega
    · split at h
      · rename_i hc
        rw [runLen_in hc] at *
        split at h
        · cases h; omega
        · cases h
      · split at h
        · cases h; omega
        · cases h
theorem wordLen_append {c : Nat} (h1 : c ∉ LET) (h2 : c ∉ FIG) (r : List Nat) {x : Nat} {l : List Nat} : wordLen (x :: l ++ c :: r) = wordLen (x :: l) := by
  show wordLen (x :: (l ++ c :: r)) = _
  unfold wordLen
  have e1 := runLen_append h1 r (x :: l)
  have e2 := runLen_append h2 r (x :: l)
  rw [List.cons_append] at e1 e2
  dsimp only
  rw [e1, e2]

/-- the words of a row, the row's first sign at the place b; or the place of a sign that is in none -/
def rowScan (b : Nat) (cur : List (List Nat)) : List Nat → Except Nat (List (List Nat))
  | [] => .ok cur
  | c :: t => if c = 32 then rowScan (b + 1) cur t else match h : wordLen (c :: t) with
    | none => .error b
    | some n => rowScan (b + n) (cur ++ [(c :: t).take n]) ((c :: t).drop n)
termination_by l => l.length
decreasing_by
  · simp
  · have := wordLen_le h
    simp only [List.length_drop, List.length_cons]
    omega
/-- the same of a whole text, rows told apart by the line end -/
def scan (b : Nat) (rows : List (List (List Nat))) (cur : List (List Nat)) : List Nat → Except Nat (List (List (List Nat)))
  | [] => .ok (rows ++ [cur])
  | c :: t => if c = 10 then scan (b + 1) (rows ++ [cur]) [] t else if c = 32 then scan (b + 1) rows cur t else match h : wordLen (c :: t) with
    | none => .error b
    | some n => scan (b + n) rows (cur ++ [(c :: t).take n]) ((c :: t).drop n)
termination_by l => l.length
decreasing_by
  · simp
  · simp
  · have := wordLen_le h
    simp only [List.length_drop, List.length_cons]
    omega
theorem rowScan_nil (b cur) : rowScan b cur [] = .ok cur := by rw [rowScan]
theorem rowScan_blank (b cur t) : rowScan b cur (32 :: t) = rowScan (b + 1) cur t := by rw [rowScan, if_pos rfl]
theorem rowScan_bad {b cur c t} (hc : c ≠ 32) (h : wordLen (c :: t) = none) : rowScan b cur (c :: t) = .error b := by
  rw [rowScan, if_neg hc]
  split
  · rfl
  · rename_i n h2; rw [h] at h2; cases h2
theorem rowScan_word {b cur c t n} (hc : c ≠ 32) (h : wordLen (c :: t) = some n) : rowScan b cur (c :: t) = rowScan (b + n) (cur ++ [(c :: t).take n]) ((c :: t).drop n) := by
  rw [rowScan, if_neg hc]
  split
  · rename_i h2; rw [h] at h2; cases h2
  · rename_i m h2
    rw [h] at h2
    cases h2
    rfl
theorem scan_nil (b rows cur) : scan b rows cur [] = .ok (rows ++ [cur]) := by rw [scan]
theorem scan_eol (b rows cur t) : scan b rows cur (10 :: t) = scan (b + 1) (rows ++ [cur]) [] t := by rw [scan, if_pos rfl]
theorem scan_blank (b rows cur t) : scan b rows cur (32 :: t) = scan (b + 1) rows cur t := by rw [scan, if_neg (by decide), if_pos rfl]
theorem scan_bad {b rows cur c t} (hl : c ≠ 10) (hc : c ≠ 32) (h : wordLen (c :: t) = none) : scan b rows cur (c :: t) = .error b := by
  rw [scan, if_neg hl, if_neg hc]
  split
  · rfl
  · rename_i n h2; rw [h] at h2; cases h2
theorem scan_word {b rows cur c t n} (hl : c ≠ 10) (hc : c ≠ 32) (h : wordLen (c :: t) = some n) : scan b rows cur (c :: t) = scan (b + n) rows (cur ++ [(c :: t).take n]) ((c :: t).drop n) := by
  rw [scan, if_neg hl, if_neg hc]
  split
  · rename_i h2; rw [h] at h2; cases h2
  · rename_i m h2
    rw [h] at h2
    cases h2
    rfl
theorem nl_let : (10 : Nat) ∉ LET := by rw [mem_LET]; omega
theorem nl_fig : (10 : Nat) ∉ FIG := by rw [mem_FIG]; omega
/-- a row at the end of a text -/
theorem scan_last : ∀ (n : Nat) (l : List Nat), l.length ≤ n → 10 ∉ l → ∀ b rows cur, scan b rows cur l = (rowScan b cur l).map (fun ws => rows ++ [ws]) := by
  intro n
  induction n with
  | zero =>
    intro l hl _ b rows cur
    cases l with
    | nil => rw [scan_nil, rowScan_nil]; rfl
    | cons => simp at hl
  | succ n ih =>
    intro l hl h10 b rows cur
    cases l with
    | nil => rw [scan_nil, rowScan_nil]; rfl
    | cons c t =>
      have hc10 : c ≠ 10 := fun e => h10 (by rw [e]; exact List.mem_cons_self)
      have ht10 : 10 ∉ t := fun e => h10 (List.mem_cons_of_mem _ e)
      simp only [List.length_cons] at hl
      by_cases hc : c = 32
      · subst hc
        rw [scan_blank, rowScan_blank]
        exact ih t (by omega) ht10 _ _ _
      · cases hw : wordLen (c :: t) with
        | none => rw [scan_bad hc10 hc hw, rowScan_bad hc hw]; rfl
        | some m =>
          have hm := wordLen_le hw
          rw [scan_word hc10 hc hw, rowScan_word hc hw]
          exact ih _ (by simp only [List.length_drop, List.length_cons]; omega) (fun e => h10 (List.mem_of_mem_drop e)) _ _ _
/-- a row, then the rest -/
theorem scan_row : ∀ (n : Nat) (l r : List Nat), l.length ≤ n → 10 ∉ l → ∀ b rows cur, scan b rows cur (l ++ 10 :: r) = (rowScan b cur l).bind (fun ws => scan (b + l.length + 1) (rows ++ [ws]) [] r) := by
  intro n
  induction n with
  | zero =>
    intro l r hl _ b rows cur
    cases l with
    | nil =>
      rw [List.nil_append, scan_eol, rowScan_nil]
      show _ = scan (b + 0 + 1) (rows ++ [cur]) [] r
      rfl
    | cons => simp at hl
  | succ n ih =>
    intro l r hl h10 b rows cur
    cases l with
    | nil =>
      rw [List.nil_append, scan_eol, rowScan_nil]
      show _ = scan (b + 0 + 1) (rows ++ [cur]) [] r
      rfl
    | cons c t =>
      have hc10 : c ≠ 10 := fun e => h10 (by rw [e]; exact List.mem_cons_self)
      have ht10 : 10 ∉ t := fun e => h10 (List.mem_cons_of_mem _ e)
      simp only [List.length_cons] at hl
      by_cases hc : c = 32
      · subst hc
        rw [List.cons_append, scan_blank, rowScan_blank, ih t r (by omega) ht10]
        have e : b + 1 + t.length + 1 = b + (32 :: t).length + 1 := by simp only [List.length_cons]; omega
        rw [e]
      · have hwa := wordLen_append nl_let nl_fig r (x := c) (l := t)
        cases hw : wordLen (c :: t) with
        | none =>
          rw [rowScan_bad hc hw]
          rw [List.cons_append, scan_bad hc10 hc (by rw [← List.cons_append, hwa, hw])]
          rfl
        | some m =>
          have hm := wordLen_le hw
          simp only [List.length_cons] at hm
          rw [rowScan_word hc hw]
          rw [List.cons_append, scan_word hc10 hc (by rw [← List.cons_append, hwa, hw])]
          have ed : (c :: (t ++ 10 :: r)).drop m = (c :: t).drop m ++ 10 :: r := by
            rw [← List.cons_append, List.drop_append_of_le_length (by simp only [List.length_cons]; omega)]
          have et : (c :: (t ++ 10 :: r)).take m = (c :: t).take m := by
            rw [← List.cons_append, List.take_append_of_le_length (by simp only [List.length_cons]; omega)]
          rw [ed, et, ih _ r (by simp only [List.length_drop, List.length_cons]; omega) (fun e => h10 (List.mem_of_mem_drop e))]
          have e : b + m + ((c :: t).drop m).length + 1 = b + (c :: t).length + 1 := by simp only [List.length_drop, List.length_cons]; omega
          rw [e]

theorem takeWhile_no (l : List Nat) : (10 : Nat) ∉ l.takeWhile (fun c => c != 10) := by
  induction l with
  | nil => simp
  | cons c t ih =>
    rw [List.takeWhile_cons]
    split
    · rename_i h
      have hc : c ≠ 10 := by simpa using h
      intro e
      rcases List.mem_cons.mp e with e | e
      · exact hc e.symm
      · exact ih e
    · simp
/-- rows told by their signs, the first of them at the place b -/
def rowsScan (b : Nat) (rows : List (List (List Nat))) : List (List Nat) → Except Nat (List (List (List Nat)))
  | [] => .ok rows
  | l :: r => (rowScan b [] l).bind fun ws => rowsScan (b + l.length + 1) (rows ++ [ws]) r
/-- a text cut at its line ends -/
def lines : List Nat → List (List Nat) := TL.spl [10] 0 []
theorem spl_step (acc : List Nat) : ∀ l : List Nat, TL.spl [10] 0 acc l = (acc ++ l.takeWhile (fun c => c != 10)) :: (match l.dropWhile (fun c => c != 10) with | [] => [] | _ :: r => lines r) := by
  intro l
  induction l generalizing acc with
  | nil => rw [TL.spl_nil]; simp
  | cons c t ih =>
    by_cases hc : c = 10
    · subst hc
      rw [TL.spl_hit (by rfl)]
      simp [lines]
    · have e : TL.pre [10] (c :: t) = false := by
        show ([c] == [10]) = false
        simpa using hc
      rw [TL.spl_miss e, ih]
      have e2 : (c != 10) = true := by simpa using hc
      rw [List.takeWhile_cons, List.dropWhile_cons, if_pos e2, if_pos e2]
      simp
theorem lines_eq (l : List Nat) : lines l = l.takeWhile (fun c => c != 10) :: (match l.dropWhile (fun c => c != 10) with | [] => [] | _ :: r => lines r) := by
  have h := spl_step [] l
  rw [List.nil_append] at h
  exact h
theorem scan_lines : ∀ (n : Nat) (l : List Nat), l.length ≤ n → ∀ b rows, scan b rows [] l = rowsScan b rows (lines l) := by
  intro n
  induction n with
  | zero =>
    intro l hl b rows
    cases l with
    | nil =>
      rw [scan_nil]
      show _ = rowsScan b rows (TL.spl [10] 0 [] [])
      rw [TL.spl_nil]
      show _ = (rowScan b [] []).bind _
      rw [rowScan_nil]
      rfl
    | cons => simp at hl
  | succ n ih =>
    intro l hl b rows
    rw [lines_eq]
    have h0 : l = l.takeWhile (fun c => c != 10) ++ l.dropWhile (fun c => c != 10) := (List.takeWhile_append_dropWhile).symm
    have hn := takeWhile_no l
    generalize ht : l.takeWhile (fun c => c != 10) = t at *
    cases hd : l.dropWhile (fun c => c != 10) with
    | nil =>
      rw [hd, List.append_nil] at h0
      rw [h0, scan_last _ _ (Nat.le_refl _) hn]
      show _ = (rowScan b [] t).bind _
      cases rowScan b [] t <;> rfl
    | cons c r =>
      have hc : c = 10 := by
        have := List.head?_dropWhile_not (fun c => c != 10) l
        rw [hd] at this
        simpa using this
      subst hc
      rw [hd] at h0
      have hlen : r.length ≤ n := by
        have := congrArg List.length h0
        simp only [List.length_append, List.length_cons] at this
        omega
      rw [h0, scan_row _ _ _ (Nat.le_refl _) hn]
      show _ = (rowScan b [] t).bind _
      congr 1
      funext ws
      exact ih r hlen _ _
theorem runLen_pos {S t : List Nat} {c : Nat} : 0 < runLen S (c :: t) ↔ c ∈ S := by
  by_cases h : c ∈ S
  · rw [runLen_in h]; simp [h]
  · rw [runLen_out h]; simp [h]
/-- the law's word at a place: letters, then figures that begin there -/
def dueWord (l : List Nat) : List Nat := l.take (runLen LET l) ++ l.take (runLen FIG l)
theorem due_cases (c : Nat) (t : List Nat) : (dueWord (c :: t) = [] ∧ c ∉ LET ∧ c ∉ FIG ∧ wordLen (c :: t) = if c = 47 then some 1 else none) ∨
    (∃ n, 0 < n ∧ n ≤ t.length + 1 ∧ dueWord (c :: t) = (c :: t).take n ∧ c ∈ LET ∧ wordLen (c :: t) = if n ≤ 8 then some n else none) ∨
    (∃ n, 0 < n ∧ n ≤ t.length + 1 ∧ dueWord (c :: t) = (c :: t).take n ∧ c ∈ FIG ∧ c ∉ LET ∧ wordLen (c :: t) = if n ≤ 12 ∧ (c ≠ 48 ∨ n = 1) then some n else none) := by
  have l1 := runLen_le LET (c :: t)
  have l2 := runLen_le FIG (c :: t)
  simp only [List.length_cons] at l1 l2
  unfold dueWord
  by_cases h1 : c ∈ LET
  · have h2 : c ∉ FIG := fun e => by rw [mem_LET] at h1; rw [mem_FIG] at e; omega
    have h47 : c ≠ 47 := fun e => by rw [mem_LET] at h1; omega
    refine .inr (.inl ⟨runLen LET (c :: t), runLen_pos.mpr h1, l1, ?_, h1, ?_⟩)
    · rw [runLen_out h2]; simp
    · unfold wordLen
      dsimp only
      rw [if_neg h47, if_pos h1]
  · by_cases h2 : c ∈ FIG
    · have h47 : c ≠ 47 := fun e => by rw [mem_FIG] at h2; omega
      refine .inr (.inr ⟨runLen FIG (c :: t), runLen_pos.mpr h2, l2, ?_, h2, h1, ?_⟩)
      · rw [runLen_out h1]; simp
      · unfold wordLen
        dsimp only
        rw [if_neg h47, if_neg h1]
        have hp := runLen_pos (t := t).mpr h2
        by_cases h3 : runLen FIG (c :: t) ≤ 12 ∧ (c ≠ 48 ∨ runLen FIG (c :: t) = 1)
        · rw [if_pos h3, if_pos ⟨hp, h3⟩]
        · rw [if_neg h3, if_neg (fun z => h3 z.2)]
    · refine .inl ⟨?_, h1, h2, ?_⟩
      · rw [runLen_out h1, runLen_out h2]; simp
      · unfold wordLen
        dsimp only
        by_cases h47 : c = 47
        · rw [if_pos h47, if_pos h47]
        · rw [if_neg h47, if_neg h1, if_neg h47, runLen_out h2, if_neg (by omega)]
end My
set_option Elab.async false
set_option linter.all false
set_option maxRecDepth 100000
set_option maxHeartbeats 4000000
/-! What the laws' own helpers share: the state of the draws. -/
namespace My
open PySem PySem.Spec PyProof.Rows L2
/-- all but st stays -/
def SB (st : Addr) (H H' : Hp) : Prop := ∀ b o, b ≠ st → H b = some o → H' b = some o
theorem SB.refl (st : Addr) (H : Hp) : SB st H H := fun _ _ _ h => h
theorem SB.trans {st : Addr} {H H1 H2 : Hp} (a : SB st H H1) (b : SB st H1 H2) : SB st H H2 := fun c o n h => b c o n (a c o n h)
theorem Same.sb {st : Addr} {H H' : Hp} (s : Same H H') : SB st H H' := fun b o _ h => s b o h
theorem SB.mut {st p : Addr} {H H' : Hp} {o : HO} (s : SB st H H') (h : H p = none) : SB st H (upd H' p o) := fun b u n e => by rw [upd_ne (ne_of_none e h)]; exact s b u n e
theorem SB.free {st : Addr} {H H' : Hp} (s : SB st H H') {l : Addr} (n : l ≠ st) (h : H' l = none) : H l = none := by
  cases q : H l with
  | none => rfl
  | some o =>
    rw [s l o n q] at h
    cases h
theorem SB.sqL {K : PySem.W.Frag} {st : Addr} {H H' : Hp} {a : Addr} {xs : List V} (s : SB st H H') (n : a ≠ st ∨ ∀ H', SqL K H' a xs) (h : SqL K H a xs) : SqL K H' a xs := by
  rcases n with n | n
  rotate_left
  · exact n H'
  rcases h with (h | ⟨o, h⟩) | h
  · exact .inl (.inl (s _ _ n h))
  · exact .inl (.inr ⟨o, s _ _ n h⟩)
  · exact .inr h
def stK (a : Addr) (k : Int) : List (Key × V) := [(Sum.inr "cells", .ref a), (Sum.inr "at", .int k)]
/-- at st the state of the draws: the cells ns (at a), k drawn so far, k at most m -/
structure LS (K : PySem.W.Frag) (H : Hp) (st : Addr) (ns : List Int) (m : Int) : Prop where
  ex : ∃ (a : Addr) (k : Int), H st = some (.dK (stK a k)) ∧ SqL K H a (ns.map V.int) ∧ (a ≠ st ∨ ∀ H', SqL K H' a (ns.map V.int)) ∧ 0 ≤ k ∧ k ≤ m
theorem LS.le {K : PySem.W.Frag} {H : Hp} {st : Addr} {ns : List Int} {m m' : Int} (h : LS K H st ns m) (e : m ≤ m') : LS K H st ns m' := by
  obtain ⟨a, k, h1, h2, h3, h4, h5⟩ := h.ex
  exact ⟨a, k, h1, h2, h3, h4, by omega⟩
theorem LS.same {K : PySem.W.Frag} {H H' : Hp} {st : Addr} {ns : List Int} {m : Int} (h : LS K H st ns m) (s : Same H H') : LS K H' st ns m := by
  obtain ⟨a, k, h1, h2, h3, h4, h5⟩ := h.ex
  exact ⟨a, k, s _ _ h1, s.seq h2, h3, h4, h5⟩
theorem LS.mut {K : PySem.W.Frag} {H : Hp} {st p : Addr} {o : HO} {ns : List Int} {m : Int} (h : LS K H st ns m) (n : p ≠ st) (hp : ∀ xs, ¬ SqL K H p xs) : LS K (upd H p o) st ns m := by
  obtain ⟨a, k, h1, h2, h3, h4, h5⟩ := h.ex
  have na : a ≠ p := fun e => hp _ (by rw [← e]; exact h2)
  refine ⟨a, k, by rw [upd_ne n.symm]; exact h1, ?_, h3, h4, h5⟩
  rcases h2 with (h2 | ⟨o, h2⟩) | h2
  · exact .inl (.inl (by rw [upd_ne na]; exact h2))
  · exact .inl (.inr ⟨o, by rw [upd_ne na]; exact h2⟩)
  · exact .inr h2
theorem LS.at {K : PySem.W.Frag} {H : Hp} {st : Addr} {ns : List Int} {m : Int} (h : LS K H st ns m) : ∃ kvs, H st = some (.dK kvs) := by
  obtain ⟨a, k, h1, _⟩ := h.ex
  exact ⟨_, h1⟩
theorem LS.ne_lst {K : PySem.W.Frag} {H : Hp} {st p : Addr} {xs : List V} {ns : List Int} {m : Int} (h : LS K H st ns m) (hp : H p = some (.lst xs)) : p ≠ st := fun e => by
  obtain ⟨kvs, h1⟩ := h.at
  rw [e, h1] at hp; cases hp
theorem LS.ne_none {K : PySem.W.Frag} {H : Hp} {st p : Addr} {ns : List Int} {m : Int} (h : LS K H st ns m) (hp : H p = none) : p ≠ st := fun e => by
  obtain ⟨kvs, h1⟩ := h.at
  rw [e, h1] at hp; cases hp
/-- behind a call that draws: all but the state stays, the state goes on by at most c -/
structure Adv (K : PySem.W.Frag) (st : Addr) (ns : List Int) (m : Int) (H H' : Hp) : Prop where
  sb : SB st H H'
  ls : LS K H' st ns m
  ce : ∀ a k, H st = some (.dK (stK a k)) → ∃ k', H' st = some (.dK (stK a k'))
theorem Adv.trans {K : PySem.W.Frag} {st : Addr} {ns : List Int} {m m' : Int} {H H1 H2 : Hp} (a : Adv K st ns m H H1) (b : Adv K st ns m' H1 H2) : Adv K st ns m' H H2 := ⟨a.sb.trans b.sb, b.ls, fun c k e => (a.ce c k e).elim fun k' e' => b.ce c k' e'⟩
theorem Adv.same {K : PySem.W.Frag} {st : Addr} {ns : List Int} {m : Int} {H H1 H2 : Hp} (a : Adv K st ns m H H1) (b : Same H1 H2) : Adv K st ns m H H2 := ⟨a.sb.trans (Same.sb b), a.ls.same b, fun c k e => (a.ce c k e).elim fun k' e' => ⟨k', b _ _ e'⟩⟩
theorem LS.adv {K : PySem.W.Frag} {H H' : Hp} {st : Addr} {ns : List Int} {m : Int} (h : LS K H st ns m) (s : Same H H') : Adv K st ns m H H' := ⟨Same.sb s, h.same s, fun _ k e => ⟨k, s _ _ e⟩⟩
theorem Adv.le {K : PySem.W.Frag} {st : Addr} {ns : List Int} {m m' : Int} {H H1 : Hp} (a : Adv K st ns m H H1) (h : m ≤ m') : Adv K st ns m' H H1 := ⟨a.sb, a.ls.le h, a.ce⟩

theorem stK_inj {a b : Addr} {k j : Int} (h : stK a k = stK b j) : a = b := by
  unfold stK at h
  injection h with h1 _
  injection h1 with _ h2
  injection h2
/-- an object that H did not track changes -/
theorem Adv.mut {K : PySem.W.Frag} {st D : Addr} {o : HO} {ns : List Int} {m m0 : Int} {H H1 : Hp} (a : Adv K st ns m H H1) (h : LS K H st ns m0) (hD : H D = none) : Adv K st ns m H (upd H1 D o) := by
  have nD : D ≠ st := h.ne_none hD
  obtain ⟨a0, k0, e1, e2, e3, _, _⟩ := h.ex
  refine ⟨a.sb.mut hD, ?_, fun c k e => (a.ce c k e).elim fun k' e' => ⟨k', by rw [upd_ne nD.symm]; exact e'⟩⟩
  obtain ⟨k1, f1⟩ := a.ce a0 k0 e1
  obtain ⟨a', k', g1, g2, g3, g4, g5⟩ := a.ls.ex
  have ea : a0 = a' := by
    rw [f1] at g1
    injection g1 with g1
    injection g1 with g1
    exact stK_inj g1
  subst ea
  refine ⟨a0, k', by rw [upd_ne nD.symm]; exact g1, ?_, g3, g4, g5⟩
  rcases e2 with (h2 | ⟨o, h2⟩) | h2
  · rcases g2 with (g2 | ⟨o, g2⟩) | g2
    · exact .inl (.inl (by rw [upd_ne (ne_of_none h2 hD)]; exact g2))
    · exact .inl (.inr ⟨o, by rw [upd_ne (ne_of_none h2 hD)]; exact g2⟩)
    · exact .inr g2
  · rcases g2 with (g2 | ⟨o, g2⟩) | g2
    · exact .inl (.inl (by rw [upd_ne (ne_of_none h2 hD)]; exact g2))
    · exact .inl (.inr ⟨o, by rw [upd_ne (ne_of_none h2 hD)]; exact g2⟩)
    · exact .inr g2
  · exact .inr h2

/-! ### steps that hand on a letter -/
section
variable {K : PySem.W.Frag} {H H' : Hp} {Q : VK} {i j : Int}
theorem st_modG (h : 0 < j) (q : ∀ r, 0 ≤ r → r < j → Q (.int r) H) : rModA (.int i) (.int j) H Q := st_mod h (q _ (Int.emod_nonneg _ (by omega)) (Int.emod_lt_of_pos _ h))
theorem st_divG {b : Nat} (h0 : 0 ≤ i) (h : 0 < j) (hb : j.natAbs < 2 ^ b) (hb0 : 0 < b) (h9 : b ≤ 9000) (q : ∀ r, 0 ≤ r → r ≤ i → Q (.int r) H) : rDivA (.int i) (.int j) H Q :=
  st_div h hb hb0 h9 (q _ (Int.ediv_nonneg h0 (by omega)) (Int.ediv_le_self _ h0))
theorem st_mulG {a b : Nat} (ha : i.natAbs < 2 ^ a) (hb : j.natAbs < 2 ^ b) (h0 : 0 < a) (h1 : 0 < b) (h : a + b ≤ 1000000) (q : ∀ r : Int, (0 ≤ i → 0 ≤ j → 0 ≤ r) → r.natAbs < 2 ^ (a + b) → Q (.int r) H) : rMulA (.int i) (.int j) H Q :=
  st_mul ha hb h0 h1 h (q _ (fun x y => Int.mul_nonneg x y) (wide_lt ha hb))
end

theorem atI_in {α : Type} {xs : List α} {i : Int} (h0 : 0 ≤ i) (h1 : i < xs.length) : ∃ v, atI xs i = some v ∧ v ∈ xs := by
  obtain ⟨n, rfl⟩ := Int.eq_ofNat_of_zero_le h0
  have hn : n < xs.length := by omega
  exact ⟨xs[n], atI_nat (List.getElem?_eq_getElem hn), List.getElem_mem hn⟩
section
variable {K : PySem.W.Frag} {H H' : Hp} {Q : VK} {i j : Int}
theorem st_ixG {p : Addr} {xs : List V} (h : SqL K H p xs) (h0 : 0 ≤ i) (h1 : i < xs.length) (q : ∀ v, v ∈ xs → Q v H) : rIxA K (.ref p) (.int i) H Q := by
  obtain ⟨v, e, hv⟩ := atI_in h0 h1
  exact st_ix_list h e (q v hv)
theorem st_ixI {p : Addr} {ns : List Int} (h : SqL K H p (ns.map V.int)) (h0 : 0 ≤ i) (h1 : i < ns.length) (q : ∀ c, Q (.int c) H) : rIxA K (.ref p) (.int i) H Q :=
  st_ixG h h0 (by rw [List.length_map]; exact h1) fun v hv => by
    obtain ⟨c, _, rfl⟩ := List.mem_map.mp hv
    exact q c
end
theorem nb {i : Int} {b : Nat} (h : -(2 ^ b : Int) < i) (h2 : i < 2 ^ b) : i.natAbs < 2 ^ b := by
  have e : ((2 ^ b : Nat) : Int) = (2 : Int) ^ b := by push_cast; rfl
  omega

/-! ### data -/
section
variable {K : PySem.W.Frag} {H H' : Hp}
theorem Dp.ints {p : Addr} {ns : List Int} (h : SqL K H p (ns.map V.int)) : Dp K H (.ref p) (.list (ns.map PyData.int)) := by
  refine .lst h ?_
  clear h
  induction ns with
  | nil => exact .nil
  | cons n r ih => exact .cons (.int n) ih
theorem DpAll.strs (ws : List (List Nat)) : DpAll K H (ws.map txt) (ws.map fun l => PyData.str (S l)) := by
  induction ws with
  | nil => exact .nil
  | cons n r ih => exact .cons (.str _) ih
theorem lay_ints (ns : List Int) : PyData.canLayAll0 (ns.map PyData.int) = true := by
  induction ns with
  | nil => rfl
  | cons n r ih =>
    show (PyData.canLay0 (.int n) && PyData.canLayAll0 (r.map PyData.int)) = true
    rw [ih]; rfl
theorem depth_ints (ns : List Int) : PyData.depthAll (ns.map PyData.int) = 0 := by
  induction ns with
  | nil => rfl
  | cons n r ih =>
    show max (PyData.depth (.int n)) (PyData.depthAll (r.map PyData.int)) = 0
    rw [ih]; rfl
theorem shaped_ints (ns : List Int) : SeqAt.shaped (.list (ns.map PyData.int)) = true := by
  unfold SeqAt.shaped
  have h1 : (PyData.list (ns.map PyData.int)).canLay0 = true := lay_ints ns
  have h2 : (PyData.list (ns.map PyData.int)).depth = 0 + 1 := by
    show PyData.depthAll _ + 1 = _
    rw [depth_ints]
  rw [h1, h2]; rfl
end
/-! ### _law_next -/
def pr_next (K : PySem.W.Frag) : V → V → Hp → VK → XK → Prop := fun x y H Q _ => ∃ (st : Addr) (ns : List Int) (m many : Int), x = .ref st ∧ y = .int many ∧ 0 < many ∧ ns.length ≤ 63 ∧ LS K H st ns m ∧ m ≤ 1000000000 ∧
  ∀ r H', 0 ≤ r → r < many → Adv K st ns (m + 1) H H' → Q (.int r) H'
theorem str_ne1 : ¬ (("cells" : Str) = "at") := by decide +kernel
theorem str_ne2 : ¬ (("at" : Str) = "cells") := by decide +kernel
theorem stK_cells (a : Addr) (k : Int) : valV (stK a k) (Sum.inr "cells") = some (.ref a) := by
  unfold valV stK
  rw [List.find?_cons, decide_eq_true rfl]
  rfl
theorem stK_at (a : Addr) (k : Int) : valV (stK a k) (Sum.inr "at") = some (.int k) := by
  unfold valV stK
  rw [List.find?_cons, decide_eq_false (fun e => str_ne1 (Sum.inr.inj e)), List.find?_cons, decide_eq_true rfl]
  rfl
theorem stK_put (a : Addr) (k j : Int) : putK (stK a k) (Sum.inr "at") (.int j) = stK a j := by
  unfold putK
  simp [stK, str_ne1]
section
variable {K : PySem.W.Frag} {H : Hp} {Q : VK} {E : XK} {st : Addr} {ns : List Int} {m many : Int}
theorem use_next (hls : LS K H st ns m) (hn : ns.length ≤ 63) (hm : 0 < many) (hb : m ≤ 1000000000) (q : ∀ r H', 0 ≤ r → r < many → Adv K st ns (m + 1) H H' → Q (.int r) H') : Sp2 (pr_next K) [.ref st, .int many] H Q E :=
  ⟨_, _, rfl, st, ns, m, many, rfl, rfl, hm, hn, hls, hb, q⟩
end
end My
set_option Elab.async false
set_option linter.all false
set_option maxRecDepth 100000
set_option maxHeartbeats 4000000
namespace My
open PySem PySem.Spec PyProof.Rows L2
theorem run_take (S : List Nat) : ∀ (l : List Nat) (x : Nat), x ∈ l.take (runLen S l) → x ∈ S
  | [], x, h => by simp at h
  | c :: t, x, h => by
    by_cases hc : c ∈ S
    · rw [runLen_in hc, List.take_succ_cons] at h
      rcases List.mem_cons.mp h with e | h
      · rw [e]; exact hc
      · exact run_take S t x h
    · rw [runLen_out hc] at h
      simp at h
theorem word_ok {l : List Nat} {n : Nat} (h : wordLen l = some n) : ∀ x ∈ l.take n, x < 1114112 := by
  intro x hx
  cases l with
  | nil => simp at hx
  | cons c t =>
    unfold wordLen at h
    dsimp only at h
    split at h
    · cases h
      rename_i hc
      simp at hx
      omega
    · split at h
      · split at h
        · cases h
          have := (mem_LET x).mp (run_take _ _ _ hx)
          omega
        · cases h
      · split at h
        · cases h
          have := (mem_FIG x).mp (run_take _ _ _ hx)
          omega
        · cases h
def RowOk (N : Nat) (ws : List (List Nat)) : Prop := ws.length ≤ N ∧ ∀ w ∈ ws, ∀ x ∈ w, x < 1114112
theorem scan_ok (N : Nat) : ∀ (n : Nat) (l : List Nat), l.length ≤ n → ∀ b rows cur out, scan b rows cur l = .ok out → rows.length + l.length < N → cur.length + l.length ≤ N → l.length ≤ N → (∀ r ∈ rows, RowOk N r) → (∀ w ∈ cur, ∀ x ∈ w, x < 1114112) → out.length ≤ N ∧ ∀ r ∈ out, RowOk N r := by
  intro n
  induction n with
  | zero =>
    intro l hl b rows cur out h h1 h2 h3 h4 h5
    cases l with
    | cons => simp at hl
    | nil =>
      rw [scan_nil] at h
      cases h
      simp only [List.length_nil] at h1 h2
      refine ⟨by rw [List.length_append]; show rows.length + 1 ≤ N; omega, fun r hr => ?_⟩
      rcases List.mem_append.mp hr with hr | hr
      · exact h4 r hr
      · rw [List.mem_singleton.mp hr]; exact ⟨by omega, h5⟩
  | succ n ih =>
    intro l hl b rows cur out h h1 h2 h3 h4 h5
    have h4' : ∀ r ∈ rows ++ [cur], RowOk N r := fun r hr => by
      rcases List.mem_append.mp hr with hr | hr
      · exact h4 r hr
      · rw [List.mem_singleton.mp hr]; exact ⟨by omega, h5⟩
    cases l with
    | nil =>
      rw [scan_nil] at h
      cases h
      simp only [List.length_nil] at h1
      exact ⟨by rw [List.length_append]; show rows.length + 1 ≤ N; omega, h4'⟩
    | cons c t =>
      simp only [List.length_cons] at hl h1 h2 h3
      by_cases h10 : c = 10
      · subst h10
        rw [scan_eol] at h
        exact ih t (by omega) _ _ _ _ h (by rw [List.length_append]; show rows.length + 1 + t.length < N; omega) (by simp; omega) (by omega) h4' (fun w hw => by cases hw)
      · by_cases h32 : c = 32
        · subst h32
          rw [scan_blank] at h
          exact ih t (by omega) _ _ _ _ h (by omega) (by omega) (by omega) h4 h5
        · cases hw : wordLen (c :: t) with
          | none => rw [scan_bad h10 h32 hw] at h; cases h
          | some m =>
            rw [scan_word h10 h32 hw] at h
            have hm := wordLen_le hw
            simp only [List.length_cons] at hm
            have hd : ((c :: t).drop m).length = t.length + 1 - m := by rw [List.length_drop]; rfl
            refine ih _ (by omega) _ _ _ _ h (by omega) (by rw [List.length_append]; show cur.length + 1 + _ ≤ N; omega) (by omega) h4 (fun w hw' => ?_)
            rcases List.mem_append.mp hw' with hw' | hw'
            · exact h5 w hw'
            · rw [List.mem_singleton.mp hw']; exact word_ok hw
def rowD (ws : List (List Nat)) : PyData := .list (ws.map fun l => .str (S l))
theorem lay_strs {N : Nat} : ∀ {ws : List (List Nat)}, (∀ w ∈ ws, ∀ x ∈ w, x < 1114112) → PyData.canLayAll0 (ws.map fun l => PyData.str (S l)) = true
  | [], _ => rfl
  | l :: r, h => by
    show (PyData.strOk (S l) && PyData.canLayAll0 (r.map fun l => PyData.str (S l))) = true
    rw [lay_strs (N := N) fun w hw => h w (List.mem_cons_of_mem _ hw), strOk_iff.mpr (by simpa using h l List.mem_cons_self)]
    rfl
theorem depth_strs : ∀ (ws : List (List Nat)), PyData.depthAll (ws.map fun l => PyData.str (S l)) = 0
  | [] => rfl
  | l :: r => by
    show max (PyData.depth (.str (S l))) (PyData.depthAll (r.map fun l => PyData.str (S l))) = 0
    rw [depth_strs r]; rfl
theorem lay_rows {N : Nat} : ∀ {rows : List (List (List Nat))}, (∀ r ∈ rows, RowOk N r) → PyData.canLayAll0 (rows.map rowD) = true
  | [], _ => rfl
  | ws :: r, h => by
    show (PyData.canLayAll0 (ws.map fun l => PyData.str (S l)) && PyData.canLayAll0 (r.map rowD)) = true
    rw [lay_rows (N := N) fun w hw => h w (List.mem_cons_of_mem _ hw), lay_strs (N := N) (h ws List.mem_cons_self).2]
    rfl
theorem depth_rows : ∀ (rows : List (List (List Nat))), PyData.depthAll (rows.map rowD) ≤ 1
  | [] => Nat.zero_le _
  | ws :: r => by
    show max (PyData.depthAll (ws.map fun l => PyData.str (S l)) + 1) (PyData.depthAll (r.map rowD)) ≤ 1
    have := depth_rows r
    rw [depth_strs]; omega
theorem shaped_rows {N : Nat} {rows : List (List (List Nat))} (h : ∀ r ∈ rows, RowOk N r) : SeqAt.shaped (.list (rows.map rowD)) = true := by
  unfold SeqAt.shaped
  have h1 : (PyData.list (rows.map rowD)).canLay0 = true := lay_rows h
  have h2 : (PyData.list (rows.map rowD)).depth ≤ 64 := by
    show PyData.depthAll _ + 1 ≤ 64
    have := depth_rows rows
    omega
  rw [h1, decide_eq_true h2]; rfl
theorem dp_rows {K : PySem.W.Frag} {H : Hp} {p : Addr} {ps : List Addr} {rows : List (List (List Nat))} (hp : H p = some (.lst (ps.map V.ref))) (h : Paired (fun q ws => H q = some (.lst ((ws : List (List Nat)).map txt))) ps rows) : Dp K H (.ref p) (.list (rows.map rowD)) := by
  refine .lst (SqL.of hp) ?_
  clear hp
  induction h with
  | nil => exact .nil
  | cons e _ ih => exact .cons (.lst (SqL.of e) (DpAll.strs _)) ih
/-- texts that stand in a list -/
theorem dp_strs {K : PySem.W.Frag} {H : Hp} : ∀ (zs : List Str), DpAll K H (zs.map V.str) (zs.map PyData.str)
  | [] => .nil
  | z :: r => .cons (.str z) (dp_strs r)
theorem shaped_strs {zs : List Str} (h : ∀ z ∈ zs, PyData.strOk z = true) : SeqAt.shaped (.list (zs.map PyData.str)) = true := by
  have h1 : PyData.canLayAll0 (zs.map PyData.str) = true := by
    induction zs with
    | nil => rfl
    | cons z r ih =>
      show (PyData.strOk z && PyData.canLayAll0 (r.map PyData.str)) = true
      rw [ih fun y hy => h y (List.mem_cons_of_mem _ hy), h z List.mem_cons_self]; rfl
  have h2 : PyData.depthAll (zs.map PyData.str) = 0 := by
    clear h h1
    induction zs with
    | nil => rfl
    | cons z r ih =>
      show max (PyData.depth (.str z)) (PyData.depthAll (r.map PyData.str)) = 0
      rw [ih]; rfl
  unfold SeqAt.shaped
  have h3 : (PyData.list (zs.map PyData.str)).canLay0 = true := h1
  have h4 : (PyData.list (zs.map PyData.str)).depth ≤ 64 := by
    show PyData.depthAll _ + 1 ≤ 64
    omega
  rw [h3, decide_eq_true h4]; rfl
theorem eqv_nil (zs : List PyData) : PyData.eqv (.list zs) (.list []) = zs.isEmpty := by
  cases zs <;> rfl
end My
set_option Elab.async false
set_option linter.all false
set_option maxRecDepth 100000
set_option maxHeartbeats 4000000
/-! Data in the heap: what stays, what is read off. -/
namespace My
open PySem PySem.Spec PyProof.Rows L2
section
variable {K : PySem.W.Frag} {H H' : Hp}
mutual
theorem _root_.L2.Dp.mono (hL : ∀ a xs, SqL K H a xs → SqL K H' a xs) (hT : ∀ a xs, SqT K H a xs → SqT K H' a xs) : ∀ {v : V} {d : PyData}, Dp K H v d → Dp K H' v d
  | _, _, .non => .non
  | _, _, .bl b => .bl b
  | _, _, .int i => .int i
  | _, _, .str x => .str x
  | _, _, .lst h hs => .lst (hL _ _ h) (L2.DpAll.mono hL hT hs)
  | _, _, .tup h hs => .tup (hT _ _ h) (L2.DpAll.mono hL hT hs)
theorem _root_.L2.DpAll.mono (hL : ∀ a xs, SqL K H a xs → SqL K H' a xs) (hT : ∀ a xs, SqT K H a xs → SqT K H' a xs) : ∀ {vs : List V} {ds : List PyData}, DpAll K H vs ds → DpAll K H' vs ds
  | _, _, .nil => .nil
  | _, _, .cons h hs => .cons (L2.Dp.mono hL hT h) (L2.DpAll.mono hL hT hs)
end
theorem _root_.L2.Dp.same {v : V} {d : PyData} (s : Same H H') (h : Dp K H v d) : Dp K H' v d := h.mono (fun _ _ z => s.seq z) (fun _ _ z => same_sqT s z)
theorem _root_.L2.DpAll.same {vs : List V} {ds : List PyData} (s : Same H H') (h : DpAll K H vs ds) : DpAll K H' vs ds := h.mono (fun _ _ z => s.seq z) (fun _ _ z => same_sqT s z)
/-- no list, no tuple -/
def NotSeq (o : Option HO) : Prop := (∀ xs, o ≠ some (.lst xs)) ∧ (∀ xs, o ≠ some (.tup xs)) ∧ ∀ b u, o ≠ some (.frz b u)
theorem SB.seqL {r a : Addr} {xs : List V} (s : SB r H H') (n : NotSeq (H r)) (h : SqL K H a xs) : SqL K H' a xs := by
  rcases h with (h | ⟨o, h⟩) | h
  · exact .inl (.inl (s _ _ (fun e => n.1 xs (by rw [← e]; exact h)) h))
  · exact .inl (.inr ⟨o, s _ _ (fun e => n.2.2 o _ (by rw [← e]; exact h)) h⟩)
  · exact .inr h
theorem SB.seqT {r a : Addr} {xs : List V} (s : SB r H H') (n : NotSeq (H r)) (h : SqT K H a xs) : SqT K H' a xs := by
  rcases h with (h | ⟨o, h⟩) | h
  · exact .inl (.inl (s _ _ (fun e => n.2.1 xs (by rw [← e]; exact h)) h))
  · exact .inl (.inr ⟨o, s _ _ (fun e => n.2.2 o _ (by rw [← e]; exact h)) h⟩)
  · exact .inr h
theorem SB.dp {r : Addr} {v : V} {d : PyData} (s : SB r H H') (n : NotSeq (H r)) (h : Dp K H v d) : Dp K H' v d := h.mono (fun _ _ z => s.seqL n z) (fun _ _ z => s.seqT n z)
theorem SB.dps {r : Addr} {vs : List V} {ds : List PyData} (s : SB r H H') (n : NotSeq (H r)) (h : DpAll K H vs ds) : DpAll K H' vs ds := h.mono (fun _ _ z => s.seqL n z) (fun _ _ z => s.seqT n z)
theorem notSeq_ins {C dx : Addr} {fs : List (Str × V)} {o : Option HO} (h : o = some (.ins C dx fs)) : NotSeq o := by
  subst h
  exact ⟨fun _ z => (by cases z), fun _ z => (by cases z), fun _ _ z => (by cases z)⟩
theorem notSeq_dK {kvs : List (Key × V)} {o : Option HO} (h : o = some (.dK kvs)) : NotSeq o := by
  subst h
  exact ⟨fun _ z => (by cases z), fun _ z => (by cases z), fun _ _ z => (by cases z)⟩
theorem LS.notSeq {st : Addr} {ns : List Int} {m : Int} (h : LS K H st ns m) : NotSeq (H st) := by
  obtain ⟨kvs, h1⟩ := h.at
  exact notSeq_dK h1
theorem Adv.dp {st : Addr} {ns : List Int} {m m' : Int} {v : V} {d : PyData} (a : Adv K st ns m H H') (l : LS K H st ns m') (h : Dp K H v d) : Dp K H' v d := a.sb.dp l.notSeq h
/-- read off -/
theorem _root_.L2.Dp.str_inv {v : V} {z : Str} (h : Dp K H v (.str z)) : v = .str z := by cases h; rfl
theorem _root_.L2.Dp.int_inv {v : V} {i : Int} (h : Dp K H v (.int i)) : v = .int i := by cases h; rfl
theorem _root_.L2.Dp.non_inv {v : V} (h : Dp K H v .none) : v = .non := by cases h; rfl
theorem _root_.L2.Dp.tup_inv {v : V} {ds : List PyData} (h : Dp K H v (.tuple ds)) : ∃ p xs, v = .ref p ∧ SqT K H p xs ∧ DpAll K H xs ds := by
  cases h with | tup a b => exact ⟨_, _, rfl, a, b⟩
theorem _root_.L2.Dp.lst_inv {v : V} {ds : List PyData} (h : Dp K H v (.list ds)) : ∃ p xs, v = .ref p ∧ SqL K H p xs ∧ DpAll K H xs ds := by
  cases h with | lst a b => exact ⟨_, _, rfl, a, b⟩
theorem _root_.L2.DpAll.nil_inv {vs : List V} (h : DpAll K H vs []) : vs = [] := by cases h; rfl
theorem _root_.L2.DpAll.cons_inv {vs : List V} {d : PyData} {ds : List PyData} (h : DpAll K H vs (d :: ds)) : ∃ v r, vs = v :: r ∧ Dp K H v d ∧ DpAll K H r ds := by
  cases h with | cons a b => exact ⟨_, _, rfl, a, b⟩
theorem _root_.L2.DpAll.len {vs : List V} {ds : List PyData} : DpAll K H vs ds → vs.length = ds.length := by
  intro h
  induction ds generalizing vs with
  | nil => rw [h.nil_inv]; rfl
  | cons d r ih =>
    obtain ⟨v, q, rfl, _, h2⟩ := h.cons_inv
    rw [List.length_cons, List.length_cons, ih h2]
theorem _root_.L2.DpAll.at {vs : List V} {ds : List PyData} {i : Nat} {d : PyData} (h : DpAll K H vs ds) (e : ds[i]? = some d) : ∃ v, vs[i]? = some v ∧ Dp K H v d := by
  induction ds generalizing vs i with
  | nil => simp at e
  | cons c r ih =>
    obtain ⟨v, q, rfl, h1, h2⟩ := h.cons_inv
    cases i with
    | zero => simp at e; subst e; exact ⟨v, rfl, h1⟩
    | succ i =>
      obtain ⟨u, h3, h4⟩ := ih h2 (by simpa using e)
      exact ⟨u, by simpa using h3, h4⟩
theorem _root_.L2.DpAll.strs_inv {vs : List V} : ∀ {zs : List Str}, DpAll K H vs (zs.map PyData.str) → vs = zs.map V.str
  | [], h => h.nil_inv
  | z :: r, h => by
    obtain ⟨v, q, rfl, h1, h2⟩ := h.cons_inv
    rw [h1.str_inv, L2.DpAll.strs_inv h2]; rfl
theorem _root_.L2.DpAll.app {vs us : List V} {ds es : List PyData} (h : DpAll K H vs ds) (g : DpAll K H us es) : DpAll K H (vs ++ us) (ds ++ es) := by
  induction ds generalizing vs with
  | nil => rw [h.nil_inv]; exact g
  | cons d r ih =>
    obtain ⟨v, q, rfl, h1, h2⟩ := h.cons_inv
    exact .cons h1 (ih h2)
theorem tyx_list {a : Addr} {xs : List V} (h : SqL K H a xs) : TyX K H (.ref a) (.type "list") := by
  rcases h with (h | ⟨o, h⟩) | ⟨o, its, n, h1, h2, _⟩
  · exact .base (.lst h)
  · exact .base (.frz h)
  · exact .kList h1 h2
theorem tyx_tup {a : Addr} {xs : List V} (h : SqT K H a xs) : TyX K H (.ref a) (.type "tuple") := by
  rcases h with (h | ⟨o, h⟩) | ⟨o, its, n, h1, h2, _⟩
  · exact .base (.tup h)
  · exact .fTuple h
  · exact .kTuple h1 h2
end
/-- the name of the builtin type of a piece of data -/
def tyD : PyData → String
  | .none => "NoneType"
  | .bool _ => "bool"
  | .int _ => "int"
  | .str _ => "str"
  | .list _ => "list"
  | .tuple _ => "tuple"
  | _ => ""
theorem _root_.L2.Dp.ty {K : PySem.W.Frag} {H : Hp} {v : V} {d : PyData} (h : Dp K H v d) : TyX K H v (.type (tyD d)) := by
  cases h with
  | non => exact tx_non
  | bl b => exact tx_bl
  | int i => exact tx_int
  | str x => exact tx_str
  | lst a b => exact tyx_list a
  | tup a b => exact tyx_tup a
end My
set_option Elab.async false
set_option linter.all false
set_option maxRecDepth 100000
set_option maxHeartbeats 4000000
/-! Names, numbers, facts: what a row of words tells. -/
namespace My
open PySem PySem.Spec PyProof.Rows L2
open TL (numL tl_num numL_len numL_digits numL_ne int_num numL_val numL_inj)
def toldL : List Str := ["born", "taken", "joined", "parted", "died", "owns", "gave", "owes", "unfit", "word", "sum", "part", "out", "else", "of", "line", "degree", "beside", "halves", "kept", "back"]
def isName (z : Str) : Bool := decide (1 ≤ z.length ∧ z.length ≤ 8) && (!decide (z ∈ toldL) && z.cps.toList.all fun c => decide (c ∈ LETs.cps.toList))
theorem inV_strs (z : Str) (l : List Str) : inV (.str z) (l.map V.str) = decide (z ∈ l) := by
  unfold inV
  induction l with
  | nil => rfl
  | cons y r ih =>
    rw [List.map_cons, List.any_cons, ih]
    show ((y == z) || decide (z ∈ r)) = decide (z ∈ y :: r)
    by_cases h : y = z
    · subst h; simp
    · have h2 : z ≠ y := fun e => h e.symm
      have e1 : (y == z) = false := by simpa using h
      rw [e1, Bool.false_or]
      exact decide_eq_decide.mpr ⟨fun h3 => List.mem_cons_of_mem _ h3, fun h3 => (List.mem_cons.mp h3).resolve_left h2⟩
theorem flat_strs (l : List Str) : (l.map V.str).all flatV = true := by
  rw [List.all_eq_true]
  intro v hv
  obtain ⟨z, _, rfl⟩ := List.mem_map.mp hv
  rfl
theorem tl_len (z : Str) : z.cps.toList.length = z.length := by simp [Str.length]
def numS (n : Nat) : Str := Str.ofString (toString ((n : Nat) : Int))
theorem numS_tl (n : Nat) : (numS n).cps.toList = numL n := tl_num n
theorem numS_len {n k : Nat} (hk : 0 < k) (h : n < 10 ^ k) : (numS n).length ≤ k := by
  have := numL_len hk h
  rw [← numS_tl, tl_len] at this
  exact this
theorem numS_int {n : Nat} (h : n < 10 ^ 20) : intText? (numS n) = some (n : Int) := int_num (Nat.le_trans (numL_len (by decide) h) (by decide))
theorem numS_fig {n c : Nat} (h : c ∈ numL n) : 48 ≤ c ∧ c ≤ 57 := numL_digits n c h
theorem numS_ok (n : Nat) : PyData.strOk (numS n) = true := strOk_iff.mpr fun c hc => by
  rw [numS_tl] at hc
  have := numS_fig hc
  omega
theorem isName_len {z : Str} (h : isName z = true) : 1 ≤ z.length ∧ z.length ≤ 8 := of_decide_eq_true (Bool.and_eq_true_iff.mp h).1
theorem isName_let {z : Str} (h : isName z = true) : ∀ c ∈ z.cps.toList, c ∈ LET := by
  have h2 := (Bool.and_eq_true_iff.mp (Bool.and_eq_true_iff.mp h).2).2
  intro c hc
  exact of_decide_eq_true (List.all_eq_true.mp h2 c hc)
theorem isName_told {z : Str} (h : isName z = true) : z ∉ toldL := by
  have h2 := (Bool.and_eq_true_iff.mp (Bool.and_eq_true_iff.mp h).2).1
  intro hz
  rw [decide_eq_true hz] at h2
  cases h2
theorem isName_ok {z : Str} (h : isName z = true) : PyData.strOk z = true := strOk_iff.mpr fun c hc => by
  have := (mem_LET c).mp (isName_let h c hc)
  omega
theorem num_head {n : Nat} : ∃ c t, numL n = c :: t ∧ 48 ≤ c ∧ c ≤ 57 := by
  cases e : numL n with
  | nil => exact absurd e (numL_ne n)
  | cons c t => exact ⟨c, t, rfl, numS_fig (by rw [e]; exact List.mem_cons_self)⟩
/-- a number is no name -/
theorem name_num {z : Str} {n : Nat} (h : isName z = true) : z ≠ numS n := fun e => by
  obtain ⟨c, t, e1, h1, h2⟩ := num_head (n := n)
  have h3 := isName_let h c (by rw [e, numS_tl, e1]; exact List.mem_cons_self)
  have := (mem_LET c).mp h3
  omega
/-! ### facts -/
inductive What where
  | sum (o : Str) (s : Nat) (e : Option Str)
  | part (o : Str) (t b : Nat) (e : Option Str)
  | out (o : Str)
inductive Fact where
  | life (t : Bool) (n : Str) (d : Nat) (ps : List Str)
  | two (t : Bool) (a b : Str) (d : Nat)
  | died (n : Str) (d : Nat)
  | owns (n : Str) (s : Nat)
  | gave (a b : Str) (s d : Nat)
  | owes (a b : Str) (s r : Nat)
  | unfit (a b : Str)
  | word (n : Str) (k : Nat) (w : What)
def optD : Option Str → PyData
  | none => .none
  | some e => .str e
def What.data : What → PyData
  | .sum o s e => .tuple [.str "sum", .str o, .int (s : Nat), optD e]
  | .part o t b e => .tuple [.str "part", .str o, .tuple [.int (t : Nat), .int (b : Nat)], optD e]
  | .out o => .tuple [.str "out", .str o]
def Fact.data : Fact → PyData
  | .life t n d ps => .tuple [.str (if t then "taken" else "born"), .str n, .int (d : Nat), .tuple (ps.map PyData.str)]
  | .two t a b d => .tuple [.str (if t then "parted" else "joined"), .str a, .str b, .int (d : Nat)]
  | .died n d => .tuple [.str "died", .str n, .int (d : Nat)]
  | .owns n s => .tuple [.str "owns", .str n, .int (s : Nat)]
  | .gave a b s d => .tuple [.str "gave", .str a, .str b, .int (s : Nat), .int (d : Nat)]
  | .owes a b s r => .tuple [.str "owes", .str a, .str b, .int (s : Nat), .int (r : Nat)]
  | .unfit a b => .tuple [.str "unfit", .str a, .str b]
  | .word n k w => .tuple [.str "word", .str n, .int (k : Nat), w.data]
def elseW : Option Str → List Str
  | none => []
  | some e => ["else", e]
def What.words (m : Nat) : What → List Str
  | .sum o s e => [("sum" : Str), o, numS s] ++ elseW e
  | .part o t b e => [("part" : Str), o, numS (m * t), "/", numS (m * b)] ++ elseW e
  | .out o => [("out" : Str), o]
/-- the row of words: sw, two names the other way round; m, a fraction not made lesser -/
def Fact.words (sw : Bool) (m : Nat) : Fact → List Str
  | .life t n d ps => [if t then ("taken" : Str) else "born", n, numS d] ++ (if ps = [] then [] else ("of" : Str) :: (if sw then ps.reverse else ps))
  | .two t a b d => [if t then ("parted" : Str) else "joined"] ++ (if sw then [b, a] else [a, b]) ++ [numS d]
  | .died n d => [("died" : Str), n, numS d]
  | .owns n s => [("owns" : Str), n, numS s]
  | .gave a b s d => [("gave" : Str), a, b, numS s, numS d]
  | .owes a b s r => [("owes" : Str), a, b, numS s, numS r]
  | .unfit a b => [("unfit" : Str), a, b]
  | .word n k w => [("word" : Str), n, numS k] ++ w.words m
def optOk : Option Str → Prop
  | none => True
  | some e => isName e = true
def What.Ok : What → Prop
  | .sum o s e => isName o = true ∧ s ≤ 100000000000 ∧ optOk e
  | .part o t b e => isName o = true ∧ 1 ≤ t ∧ t ≤ b ∧ b ≤ 1000 ∧ Nat.gcd t b = 1 ∧ optOk e
  | .out o => isName o = true
def Fact.Ok : Fact → Prop
  | .life t n d ps => isName n = true ∧ d ≤ 99999 ∧ (∀ p ∈ ps, isName p = true) ∧ ps.length ≤ 2 ∧ ps.Nodup ∧ sortedS ps = true ∧ (t = true → ps ≠ [])
  | .two _ a b d => isName a = true ∧ isName b = true ∧ a ≠ b ∧ sortedS [a, b] = true ∧ d ≤ 99999
  | .died n d => isName n = true ∧ d ≤ 99999
  | .owns n s => isName n = true ∧ s ≤ 100000000000
  | .gave a b s d => isName a = true ∧ isName b = true ∧ a ≠ b ∧ s ≤ 100000000000 ∧ d ≤ 99999
  | .owes a b s r => isName a = true ∧ isName b = true ∧ s ≤ 100000000000 ∧ 1 ≤ r ∧ r ≤ 9
  | .unfit a b => isName a = true ∧ isName b = true ∧ a ≠ b
  | .word n k w => isName n = true ∧ 1 ≤ k ∧ k ≤ 20 ∧ w.Ok
/-- the fraction made m times as great still stands in its bounds -/
def Fact.Fits (m : Nat) : Fact → Prop
  | .word _ _ (.part _ _ b _) => 1 ≤ m ∧ m * b ≤ 1000
  | _ => True
/-! ### sorted -/
theorem sorted_two {a b : Str} (h1 : sortedS [a, b] = true) {ys : List Str} (hp : ys.Perm [b, a]) (h2 : sortedS ys = true) : ys = [a, b] := by
  have h3 : ys = [b, a] ∨ ys = [a, b] := by
    have hl := hp.length_eq
    match ys, hl with
    | [x, y], _ =>
      have hx : x ∈ [b, a] := hp.subset List.mem_cons_self
      simp only [List.mem_cons, List.not_mem_nil, or_false] at hx
      rcases hx with rfl | rfl
      · left
        have := (List.Perm.cons_inv hp)
        rw [List.perm_singleton.mp this]
      · have h4 : [x, y].Perm [x, b] := hp.trans (List.Perm.swap ..)
        have := (List.Perm.cons_inv h4)
        right
        rw [List.perm_singleton.mp this]
  rcases h3 with rfl | rfl
  · have e : a = b := by
      have g1 : (!ltCps b.cps.toList a.cps.toList && true) = true := h1
      have g2 : (!ltCps a.cps.toList b.cps.toList && true) = true := h2
      rw [Bool.and_true, Bool.not_eq_true', ltCps_eq, decide_eq_false_iff_not] at g1 g2
      have := List.le_antisymm (List.not_lt.mp g1) (List.not_lt.mp g2)
      rw [← S_tl a, ← S_tl b, this]
    subst e; rfl
  · rfl
end My
set_option Elab.async false
set_option linter.all false
set_option maxRecDepth 100000
set_option maxHeartbeats 4000000
/-! Data without lists; how long a fact's row is. -/
namespace My
open PySem PySem.Spec PyProof.Rows L2
mutual
def noL : PyData → Bool
  | .list _ => false
  | .tuple ds => noLs ds
  | _ => true
def noLs : List PyData → Bool
  | [] => true
  | d :: r => noL d && noLs r
end
section
variable {K : PySem.W.Frag} {H H' : Hp}
mutual
theorem dp_monoT (hT : ∀ a xs, SqT K H a xs → SqT K H' a xs) : ∀ {v : V} {d : PyData}, noL d = true → Dp K H v d → Dp K H' v d
  | _, _, _, .non => .non
  | _, _, _, .bl b => .bl b
  | _, _, _, .int i => .int i
  | _, _, _, .str x => .str x
  | _, _, n, .lst h hs => by cases n
  | _, _, n, .tup h hs => .tup (hT _ _ h) (dps_monoT hT n hs)
theorem dps_monoT (hT : ∀ a xs, SqT K H a xs → SqT K H' a xs) : ∀ {vs : List V} {ds : List PyData}, noLs ds = true → DpAll K H vs ds → DpAll K H' vs ds
  | _, _, _, .nil => .nil
  | _, _, n, .cons h hs => .cons (dp_monoT hT (Bool.and_eq_true_iff.mp n).1 h) (dps_monoT hT (Bool.and_eq_true_iff.mp n).2 hs)
end
/-- a list changes: tuples stay -/
theorem mut_sqT {f a : Addr} {o : HO} {xs ys : List V} (hf : H f = some (.lst ys)) (h : SqT K H a xs) : SqT K (upd H f o) a xs := by
  rcases h with (h | ⟨b, h⟩) | h
  · exact .inl (.inl (by rw [upd_ne (fun e => by rw [e, hf] at h; cases h)]; exact h))
  · exact .inl (.inr ⟨b, by rw [upd_ne (fun e => by rw [e, hf] at h; cases h)]; exact h⟩)
  · exact .inr h
end
theorem noLs_strs : ∀ (zs : List Str), noLs (zs.map PyData.str) = true
  | [] => rfl
  | z :: r => by
    show (true && noLs (r.map PyData.str)) = true
    rw [noLs_strs r]; rfl
theorem noL_opt (e : Option Str) : noL (optD e) = true := by cases e <;> rfl
theorem noL_what (w : What) : noL w.data = true := by
  cases w with
  | sum o s e =>
    show (true && (true && (true && (noL (optD e) && true)))) = true
    rw [noL_opt]; rfl
  | part o t b e =>
    show (true && (true && ((true && (true && true)) && (noL (optD e) && true)))) = true
    rw [noL_opt]; rfl
  | out o => rfl
theorem noL_fact (f : Fact) : noL f.data = true := by
  cases f with
  | life t n d ps =>
    show (true && (true && (true && (noLs (ps.map PyData.str) && true)))) = true
    rw [noLs_strs]; rfl
  | word n k w =>
    show (true && (true && (true && (noL w.data && true)))) = true
    rw [noL_what]; rfl
  | _ => rfl
theorem noLs_facts : ∀ (fs : List Fact), noLs (fs.map Fact.data) = true
  | [] => rfl
  | f :: r => by
    show (noL f.data && noLs (r.map Fact.data)) = true
    rw [noL_fact, noLs_facts r]; rfl
theorem elseW_len (e : Option Str) : (elseW e).length ≤ 2 := by cases e <;> simp [elseW]
theorem words_len {f : Fact} (h : f.Ok) (sw : Bool) (m : Nat) : (f.words sw m).length ≤ 20 ∧ f.words sw m ≠ [] := by
  cases f with
  | life t n d ps =>
    have := h.2.2.2.1
    refine ⟨?_, by simp [Fact.words]⟩
    by_cases hp : ps = []
    · simp [Fact.words, hp]
    · cases sw <;> simp [Fact.words, hp] <;> omega
  | two t a b d => cases sw <;> simp [Fact.words]
  | word n k w =>
    refine ⟨?_, by simp [Fact.words]⟩
    cases w with
    | sum o s e => have := elseW_len e; simp [Fact.words, What.words]; omega
    | part o t b e => have := elseW_len e; simp [Fact.words, What.words]; omega
    | out o => simp [Fact.words, What.words]
  | _ => simp [Fact.words]
end My
set_option Elab.async false
set_option linter.all false
set_option maxRecDepth 100000
set_option maxHeartbeats 4000000
/-! Comprehensions whose elements draw. -/
namespace My
open PySem PySem.Spec PyProof.Rows L2
theorem lcpG {α : Type} {J : It} {n : Nat} {G : Hp → Prop} {Y : Nat → Hp → V → Hp → Prop} (w : Walk J n G Y) {g : TG} {tt : TT} {te : TE} {vs : List Nat} {σ : L2.St} {H1 : Hp} {D : Addr} {Qd : Hp → Prop}
    (ds : List α) (hn : n = ds.length) (hz : ds.length ≤ 1000000) (I : Nat → Hp → Prop) (I0 : I 0 (upd H1 D (.lst []))) (Id : ∀ i H ys, I i H → I i (upd H D (.lst ys)))
    (hG : ∀ i H', i ≤ n → I i H' → G H') (f : α → Bool) (R : α → V → Hp → Prop) (Rm : ∀ a y H H' zs, H D = some (.lst zs) → (∀ b o, b ≠ D → H b = some o → H' b = some o) → R a y H → R a y H')
    (turn : ∀ (i : Nat) (d : α) (x : V) (H H' : Hp) (zs : List V), ds[i]? = some d → I i H → H D = some (.lst zs) → Y i H x H' → ∀ (k1 : V → Hp → Prop) (k2 : Hp → Prop),
      (f d = true → ∀ y H4, I (i + 1) H4 → H4 D = some (.lst zs) → (∀ a z, R a z H → R a z H4) → R d y H4 → k1 y H4) → (f d = false → ∀ H3, I (i + 1) H3 → H3 D = some (.lst zs) → (∀ a z, R a z H → R a z H3) → k2 H3) →
      g x (wipe σ vs) H' fun σ2 H2 => wipe σ2 vs = wipe σ vs ∧ tt σ2 H2 fun b H3 => if b = true then te σ2 H3 k1 else k2 H3)
    (hd : ∀ ys H', I n H' → H' D = some (.lst ys) → Paired (fun a y => R a y H') (ds.filter f) ys → Qd H') :
    ∃ W : Nat → Nat → Hp → Prop, (∃ m, W 0 m (upd H1 D (.lst []))) ∧ ∀ i m H, W i m H →
      (J.stop i H ∧ Qd H) ∨ (J.go i H ∧ ∃ Nx : Hp → Prop, (∀ H', Nx H' → ∃ m', m' < m ∧ W (i + 1) m' H') ∧ ∀ x H', J.yld i H x H' → g x (wipe σ vs) H' fun σ2 H2 => wipe σ2 vs = wipe σ vs ∧ tt σ2 H2 fun b H3 =>
        if b = true then te σ2 H3 fun y H4 => ∃ acc, H4 D = some (.lst acc) ∧ acc.length < sizeLine ∧ Nx (upd H4 D (.lst (acc ++ [y]))) else Nx H3) := by
  subst hn
  refine lc_it w (fun i H => ∃ ys, I i H ∧ H D = some (.lst ys) ∧ Paired (fun a y => R a y H) ((ds.take i).filter f) ys) ⟨[], I0, upd_same, by rw [List.take_zero]; exact .nil⟩ (fun i H hi ⟨ys, s, _⟩ => hG i H hi s) ?_ ?_
  · rintro i x H H' hi ⟨ys, s, hL, pr⟩ hy
    have hdi : ds[i]? = some ds[i] := List.getElem?_eq_getElem hi
    have lz : ys.length ≤ 1000000 := by
      have e := pr.length
      have h2 := List.length_filter_le f (ds.take i)
      rw [List.length_take] at h2
      omega
    refine turn i ds[i] x H H' ys hdi s hL hy _ _ (fun hf y H4 s4 l4 rm r => ?_) (fun hf H3 s3 l3 rm => ?_)
    · refine ⟨ys, l4, small_lt _ lz, ys ++ [y], Id _ _ _ s4, upd_same, ?_⟩
      rw [take_succ_some hdi, List.filter_append, List.filter_cons, if_pos hf]
      have nd : ∀ b o, b ≠ D → H4 b = some o → upd H4 D (.lst (ys ++ [y])) b = some o := fun b o ne e => by rw [upd_ne ne]; exact e
      exact paired_snoc (L2.Paired.mapP pr fun a z r => Rm a z H4 _ ys l4 nd (rm a z r)) (Rm _ y H4 _ ys l4 nd r)
    · refine ⟨ys, s3, l3, ?_⟩
      rw [take_succ_some hdi, List.filter_append, List.filter_cons, if_neg (by rw [hf]; exact Bool.false_ne_true)]
      show Paired _ (_ ++ []) ys
      rw [List.append_nil]
      exact L2.Paired.mapP pr fun a z r => rm a z r
  · rintro H ⟨ys, s, hL, pr⟩
    rw [List.take_length] at pr
    exact hd ys H s hL pr
/-- the elements draw, each at most c times -/
theorem lcpA {α : Type} {J : It} {n : Nat} {G : Hp → Prop} {Y : Nat → Hp → V → Hp → Prop} (w : Walk J n G Y) {K : PySem.W.Frag} {st : Addr} {ns : List Int} {m c : Int} {g : TG} {tt : TT} {te : TE} {vs : List Nat} {σ : L2.St} {H1 : Hp} {D : Addr} {Qd : Hp → Prop} (hD : H1 D = none) (ls : LS K H1 st ns m)
    (ds : List α) (hn : n = ds.length) (hz : ds.length ≤ 1000000) (hG : ∀ i H', Adv K st ns (m + c * (i : Nat)) H1 H' → G H') (R : α → V → Hp → Prop) (Rm : ∀ a y H H' zs, H D = some (.lst zs) → (∀ b o, b ≠ D → H b = some o → H' b = some o) → R a y H → R a y H')
    (Ra : ∀ a y H H' m m', LS K H st ns m → Adv K st ns m' H H' → R a y H → R a y H')
    (turn : ∀ (i : Nat) (d : α) (x : V) (H H' : Hp) (zs : List V), ds[i]? = some d → Adv K st ns (m + c * (i : Nat)) H1 H → H D = some (.lst zs) → Y i H x H' → ∀ (k1 : V → Hp → Prop) (k2 : Hp → Prop), (∀ y H4, Adv K st ns (m + c * (i : Nat) + c) H H4 → R d y H4 → k1 y H4) →
      g x (wipe σ vs) H' fun σ2 H2 => wipe σ2 vs = wipe σ vs ∧ tt σ2 H2 fun b H3 => if b = true then te σ2 H3 k1 else k2 H3)
    (hd : ∀ ys H', Adv K st ns (m + c * (ds.length : Nat)) H1 H' → H' D = some (.lst ys) → Paired (fun a y => R a y H') ds ys → Qd H') :
    ∃ W : Nat → Nat → Hp → Prop, (∃ m, W 0 m (upd H1 D (.lst []))) ∧ ∀ i m H, W i m H →
      (J.stop i H ∧ Qd H) ∨ (J.go i H ∧ ∃ Nx : Hp → Prop, (∀ H', Nx H' → ∃ m', m' < m ∧ W (i + 1) m' H') ∧ ∀ x H', J.yld i H x H' → g x (wipe σ vs) H' fun σ2 H2 => wipe σ2 vs = wipe σ vs ∧ tt σ2 H2 fun b H3 =>
        if b = true then te σ2 H3 fun y H4 => ∃ acc, H4 D = some (.lst acc) ∧ acc.length < sizeLine ∧ Nx (upd H4 D (.lst (acc ++ [y]))) else Nx H3) := by
  have nD : D ≠ st := ls.ne_none hD
  refine lcpG w ds hn hz (fun i H => Adv K st ns (m + c * (i : Nat)) H1 H) ?_ (fun i H ys a => a.mut ls hD) (fun i H' _ a => hG i H' a) (fun _ => true) R Rm ?_ ?_
  · have e : m + c * ((0 : Nat) : Int) = m := by omega
    rw [e]
    exact (ls.adv (Same.refl _)).mut ls hD
  · intro i d x H H' zs hi a hL hy k1 k2 h1 h2
    refine turn i d x H H' zs hi a hL hy k1 k2 fun y H4 a4 r => h1 rfl y H4 ?_ (a4.sb _ _ nD hL) (fun b z rz => Ra b z H H4 _ _ a.ls a4 rz) r
    have e : m + c * ((i + 1 : Nat) : Int) = m + c * (i : Nat) + c := by
      rw [Int.natCast_add, Int.mul_add]; omega
    rw [e]
    exact a.trans a4
  · intro ys H' a hL pr
    rw [filter_yes] at pr
    subst hn
    exact hd ys H' a hL pr
/-- a list changes: what holds no list stays -/
theorem dp_listed {K : PySem.W.Frag} {H H' : Hp} {D : Addr} {zs : List V} {v : V} {d : PyData} (n : noL d = true) (h : H D = some (.lst zs)) (k : ∀ b o, b ≠ D → H b = some o → H' b = some o) (q : Dp K H v d) : Dp K H' v d :=
  dp_monoT (fun a xs hq => by
    rcases hq with (hq | ⟨b, hq⟩) | hq
    · exact .inl (.inl (k _ _ (fun e => by rw [e, h] at hq; cases hq) hq))
    · exact .inl (.inr ⟨b, k _ _ (fun e => by rw [e, h] at hq; cases hq) hq⟩)
    · exact .inr hq) n q
theorem merge_st (a : Addr) : mergeK [] [(Sum.inr "cells", V.ref a), (Sum.inr "at", V.int 0)] = stK a 0 := by
  unfold mergeK
  simp [putK, str_ne1, str_ne2]
  rfl
theorem st_addT {K : PySem.W.Frag} {a b : Addr} {xs ys : List V} {H : Hp} {Q : VK} (ha : SqT K H a xs) (hb : SqT K H b ys) (nx : xs ≠ []) (ny : ys ≠ []) (hz : xs.length + ys.length ≤ 1000000) (q : ∀ p, H p = none → Q (.ref p) (upd H p (.tup (xs ++ ys)))) : rAddA K (.ref a) (.ref b) H Q :=
  .inr (.inr (.inr ⟨a, b, xs, ys, rfl, rfl, ha, hb, nx, small _ hz, fun e => absurd e ny, fun _ => q⟩))
theorem st_lenL {K : PySem.W.Frag} {p : Addr} {xs : List V} {H : Hp} {Q : VK} (h : SqL K H p xs) (q : Q (.int (xs.length : Int)) H) : rLenA K [.ref p] H Q := st_len_list h q
end My
set_option Elab.async false
set_option linter.all false
set_option maxRecDepth 100000
set_option maxHeartbeats 4000000
/-! The texts of facts' words: how long, how joined. -/
namespace My
open PySem PySem.Spec PyProof.Rows L2
theorem join_cons (s x : Str) {r : List Str} (h : r ≠ []) : Str.join s (x :: r) = x ++ s ++ Str.join s r := by
  cases r with
  | nil => exact absurd rfl h
  | cons y t => rfl
theorem str_assoc (a b c : Str) : a ++ b ++ c = a ++ (b ++ c) := by
  refine TL.ext_tl ?_
  rw [TL.tl_append, TL.tl_append, TL.tl_append, TL.tl_append, List.append_assoc]
theorem sp_slash : (" / " : Str) = " " ++ ("/" : Str) ++ " " := by decide +kernel
/-- the texts that are joined: a fraction is one -/
def What.texts : What → List Str
  | .sum o s e => [("sum" : Str), o, numS s] ++ elseW e
  | .part o t b e => [("part" : Str), o, numS t ++ " / " ++ numS b] ++ elseW e
  | .out o => [("out" : Str), o]
theorem join_frac (a b : Str) (r : List Str) : Str.join " " ((a ++ " / " ++ b) :: r) = Str.join " " (a :: "/" :: b :: r) := by
  cases r with
  | nil =>
    show a ++ " / " ++ b = a ++ " " ++ (("/" : Str) ++ " " ++ b)
    rw [sp_slash]
    simp only [str_assoc]
  | cons y t =>
    show a ++ " / " ++ b ++ " " ++ Str.join " " (y :: t) = a ++ " " ++ (("/" : Str) ++ " " ++ (b ++ " " ++ Str.join " " (y :: t)))
    rw [sp_slash]
    simp only [str_assoc]
theorem texts_join (n : Str) (k : Nat) (w : What) : Str.join " " ([("word" : Str), n, numS k] ++ w.texts) = Str.join " " ((Fact.word n k w).words false 1) := by
  cases w with
  | sum o s e => rfl
  | out o => rfl
  | part o t b e =>
    have e1 : (Fact.word n k (.part o t b e)).words false 1 = ("word" : Str) :: n :: numS k :: "part" :: o :: numS t :: "/" :: numS b :: elseW e := by
      show ("word" : Str) :: n :: numS k :: "part" :: o :: numS (1 * t) :: "/" :: numS (1 * b) :: elseW e = _
      rw [Nat.one_mul, Nat.one_mul]
    rw [e1]
    show Str.join " " (("word" : Str) :: n :: numS k :: "part" :: o :: (numS t ++ " / " ++ numS b) :: elseW e) = _
    rw [join_cons _ _ (by simp), join_cons _ n (by simp), join_cons _ (numS k) (by simp), join_cons _ ("part" : Str) (by simp), join_cons _ o (by simp), join_frac]
    rw [join_cons _ ("word" : Str) (by simp), join_cons _ n (by simp), join_cons _ (numS k) (by simp), join_cons _ ("part" : Str) (by simp), join_cons _ o (r := numS t :: "/" :: numS b :: elseW e) (by simp)]
theorem sum_len {B : Nat} : ∀ {ys : List Str}, (∀ y ∈ ys, y.length ≤ B) → (ys.map (·.length)).sum ≤ B * ys.length
  | [], _ => by simp
  | y :: r, h => by
    have h1 := h y List.mem_cons_self
    have h2 := sum_len fun z hz => h z (List.mem_cons_of_mem _ hz)
    rw [List.map_cons, List.sum_cons, List.length_cons, Nat.mul_add, Nat.mul_one]
    have h3 : (y :: r).length = r.length + 1 := rfl
    omega
/-- a text of a leaf -/
def leafS : PyData → Str
  | .str z => z
  | .int i => Str.ofString (toString i)
  | _ => ""
def Leaf (d : PyData) : Prop := (∃ z : Str, d = .str z ∧ z.length ≤ 8) ∨ ∃ n : Nat, d = .int (n : Nat) ∧ n < 10 ^ 12
theorem leaf_str {z : Str} (h : z.length ≤ 8) : Leaf (.str z) := .inl ⟨z, rfl, h⟩
theorem leaf_int {n : Nat} (h : n < 10 ^ 12) : Leaf (.int (n : Nat)) := .inr ⟨n, rfl, h⟩
theorem leaf_len {d : PyData} (h : Leaf d) : (leafS d).length ≤ 12 := by
  rcases h with ⟨z, rfl, h⟩ | ⟨n, rfl, h⟩
  · show z.length ≤ 12
    omega
  · exact numS_len (by decide) h
theorem all_cons {P : PyData → Prop} {d : PyData} {r : List PyData} (h : P d) (g : ∀ x ∈ r, P x) : ∀ x ∈ d :: r, P x := fun x hx => by
  rcases List.mem_cons.mp hx with rfl | hx
  · exact h
  · exact g x hx
theorem all_nil {P : PyData → Prop} : ∀ x ∈ ([] : List PyData), P x := fun _ h => by cases h
end My
set_option Elab.async false
set_option linter.all false
set_option maxRecDepth 100000
set_option maxHeartbeats 4000000
/-! Words, going sign by sign. -/
namespace My
open PySem PySem.Spec PyProof.Rows L2
open TL (numL numL_lt numL_step numL_len)
/-- a word that the going tells whole -/
def WdOk (l : List Nat) : Prop := (l ≠ [] ∧ l.length ≤ 8 ∧ ∀ c ∈ l, c ∈ LET) ∨ (∃ n, n < 10 ^ 12 ∧ l = numL n) ∨ l = [47]
theorem WdOk.ne {l : List Nat} (h : WdOk l) : l ≠ [] ∧ l.length ≤ 12 := by
  rcases h with ⟨h1, h2, _⟩ | ⟨n, h1, rfl⟩ | rfl
  · exact ⟨h1, by omega⟩
  · exact ⟨TL.numL_ne n, numL_len (by decide) h1⟩
  · exact ⟨by simp, by decide⟩
/-- what may follow a word -/
def Closed (rest : List Nat) : Prop := ∀ c ∈ rest.head?, c ∉ LET ∧ c ∉ FIG
theorem run_all {S : List Nat} {rest : List Nat} (hr : ∀ c ∈ rest.head?, c ∉ S) : ∀ {l : List Nat}, (∀ c ∈ l, c ∈ S) → runLen S (l ++ rest) = l.length
  | [], _ => by
    cases rest with
    | nil => rfl
    | cons c t => exact runLen_out (hr c (by simp))
  | x :: r, h => by
    rw [List.cons_append, runLen_in (h x List.mem_cons_self), run_all hr fun c hc => h c (List.mem_cons_of_mem _ hc), List.length_cons]
theorem num_first : ∀ (n : Nat), 0 < n → ∃ c t, numL n = c :: t ∧ c ≠ 48 := by
  intro n
  induction n using Nat.strongRecOn with
  | ind n ih =>
    intro h0
    by_cases h : n < 10
    · exact ⟨48 + n, [], numL_lt h, by omega⟩
    · obtain ⟨c, t, e, hc⟩ := ih (n / 10) (by omega) (by omega)
      exact ⟨c, t ++ [48 + n % 10], by rw [numL_step (by omega), e]; rfl, hc⟩
theorem wd_len {l rest : List Nat} (h : WdOk l) (hr : l = [47] ∨ Closed rest) : wordLen (l ++ rest) = some l.length := by
  rcases h with ⟨h1, h2, h3⟩ | ⟨n, h1, rfl⟩ | rfl
  · obtain ⟨c, t, rfl⟩ := List.exists_cons_of_ne_nil h1
    have hc := h3 c List.mem_cons_self
    have hc2 := (mem_LET c).mp hc
    have hcl : Closed rest := by
      rcases hr with e | h
      · have : c = 47 := by injection e
        omega
      · exact h
    have e := run_all (S := LET) (rest := rest) (fun x hx => (hcl x hx).1) h3
    rw [List.cons_append] at e ⊢
    simp only [wordLen]
    rw [if_neg (by omega), if_pos hc, e, if_pos h2]
  · obtain ⟨c, t, e0, g1, g2⟩ := num_head (n := n)
    have hcl : Closed rest := by
      rcases hr with e | h
      · rw [e0] at e
        have : c = 47 := by injection e
        omega
      · exact h
    have hall : ∀ x ∈ numL n, x ∈ FIG := fun x hx => (mem_FIG x).mpr (numS_fig hx)
    have e := run_all (S := FIG) (rest := rest) (fun x hx => (hcl x hx).2) hall
    have hl := numL_len (k := 12) (by decide) h1
    have h0 : c ≠ 48 ∨ (numL n).length = 1 := by
      by_cases hn : n = 0
      · right; rw [hn, numL_lt (by decide)]; rfl
      · obtain ⟨c', t', e', hc'⟩ := num_first n (by omega)
        rw [e0] at e'
        left
        injection e' with e1 _
        rw [e1]; exact hc'
    have hcL : c ∉ LET := fun z => by have := (mem_LET c).mp z; omega
    rw [e0] at e hl h0 ⊢
    rw [List.cons_append] at e ⊢
    simp only [wordLen]
    rw [if_neg (by omega), if_neg hcL, e, if_pos ⟨by simp, hl, h0⟩]
  · rfl
theorem wd_step {l rest : List Nat} {b : Nat} {rows : List (List (List Nat))} {cur : List (List Nat)} (h : WdOk l) (hr : l = [47] ∨ Closed rest) : scan b rows cur (l ++ rest) = scan (b + l.length) rows (cur ++ [l]) rest := by
  have hw := wd_len h hr
  obtain ⟨c, t, rfl⟩ := List.exists_cons_of_ne_nil h.ne.1
  have hc : c ≠ 10 ∧ c ≠ 32 := by
    rcases h with ⟨_, _, h3⟩ | ⟨n, _, e⟩ | e
    · have := (mem_LET c).mp (h3 c List.mem_cons_self); omega
    · have := numS_fig (n := n) (c := c) (by rw [← e]; exact List.mem_cons_self); omega
    · injection e with e _; omega
  rw [List.cons_append] at hw ⊢
  rw [scan_word hc.1 hc.2 hw, ← List.cons_append, List.take_left, List.drop_left]
/-- t is gone through: rows told, cur the row so far; op: a word stands open at its end -/
structure Gone (t : List Nat) (rows : List (List (List Nat))) (cur : List (List Nat)) (op : Bool) : Prop where
  go : ∀ rest, (op = true → Closed rest) → scan 0 [] [] (t ++ rest) = scan t.length rows cur rest
theorem Gone.nil : Gone [] [] [] false := ⟨fun rest _ => rfl⟩
theorem Gone.blank {t : List Nat} {rows : List (List (List Nat))} {cur : List (List Nat)} {op : Bool} (h : Gone t rows cur op) : Gone (t ++ [32]) rows cur false := ⟨fun rest _ => by
  rw [List.append_assoc, h.go _ (fun _ c hc => by
    simp at hc; subst hc; exact ⟨fun z => by have := (mem_LET _).mp z; omega, fun z => by have := (mem_FIG _).mp z; omega⟩)]
  show scan _ _ _ (32 :: rest) = _
  rw [scan_blank, List.length_append]; rfl⟩
theorem Gone.eol {t : List Nat} {rows : List (List (List Nat))} {cur : List (List Nat)} {op : Bool} (h : Gone t rows cur op) : Gone (t ++ [10]) (rows ++ [cur]) [] false := ⟨fun rest _ => by
  rw [List.append_assoc, h.go _ (fun _ c hc => by
    simp at hc; subst hc; exact ⟨fun z => by have := (mem_LET _).mp z; omega, fun z => by have := (mem_FIG _).mp z; omega⟩)]
  show scan _ _ _ (10 :: rest) = _
  rw [scan_eol, List.length_append]; rfl⟩
theorem Gone.word {t l : List Nat} {rows : List (List (List Nat))} {cur : List (List Nat)} {op : Bool} (h : Gone t rows cur op) (hl : WdOk l) (ho : op = false ∨ l = [47]) : Gone (t ++ l) rows (cur ++ [l]) (decide (l ≠ [47])) := ⟨fun rest hr => by
  rw [List.append_assoc, h.go _ (fun hop => by
    rcases ho with e | e
    · rw [e] at hop; cases hop
    · subst e
      intro c hc
      simp at hc; subst hc
      exact ⟨fun z => by have := (mem_LET _).mp z; omega, fun z => by have := (mem_FIG _).mp z; omega⟩)]
  rw [wd_step hl (by
    by_cases e : l = [47]
    · exact .inl e
    · exact .inr (hr (decide_eq_true e))), List.length_append]⟩
theorem Gone.all {t : List Nat} {rows : List (List (List Nat))} {cur : List (List Nat)} {op : Bool} (h : Gone t rows cur op) : scan 0 [] [] t = .ok (rows ++ [cur]) := by
  have := h.go [] (fun _ c hc => by cases hc)
  rw [List.append_nil, scan_nil] at this
  exact this
end My
set_option Elab.async false
set_option linter.all false
set_option maxRecDepth 100000
set_option maxHeartbeats 4000000
/-! The law's own text, gone through. -/
namespace My
open PySem PySem.Spec PyProof.Rows L2
theorem wd_lit {z : Str} (h : decide (z.cps.toList ≠ [] ∧ z.cps.toList.length ≤ 8 ∧ ∀ c ∈ z.cps.toList, c ∈ LET) = true) : WdOk z.cps.toList := .inl (of_decide_eq_true h)
theorem wd_name {z : Str} (h : isName z = true) : WdOk z.cps.toList := by
  have l := isName_len h
  refine .inl ⟨fun e => ?_, by rw [tl_len]; omega, isName_let h⟩
  have := tl_len z
  rw [e] at this
  simp at this
  omega
theorem wd_num {n : Nat} (h : n < 10 ^ 12) : WdOk (numS n).cps.toList := .inr (.inl ⟨n, h, numS_tl n⟩)
theorem wd_slash : WdOk ("/" : Str).cps.toList := .inr (.inr (by decide +kernel))
theorem mem_cons_all {P : Str → Prop} {d : Str} {r : List Str} (h : P d) (g : ∀ x ∈ r, P x) : ∀ x ∈ d :: r, P x := fun x hx => by
  rcases List.mem_cons.mp hx with rfl | hx
  · exact h
  · exact g x hx
theorem mem_nil_all {P : Str → Prop} : ∀ x ∈ ([] : List Str), P x := fun _ h => by cases h
theorem wd_else {e : Option Str} (h : optOk e) : ∀ y ∈ elseW e, WdOk y.cps.toList := by
  cases e with
  | none => exact mem_nil_all
  | some z => exact mem_cons_all (wd_lit (by decide +kernel)) (mem_cons_all (wd_name h) mem_nil_all)
theorem words_wd {f : Fact} {sw : Bool} {m : Nat} (ok : f.Ok) (fit : f.Fits m) : ∀ y ∈ f.words sw m, WdOk y.cps.toList := by
  cases f with
  | life t n d ps =>
    obtain ⟨hn, hd, hps, _⟩ := ok
    have h1 : WdOk (if t then ("taken" : Str) else "born").cps.toList := by cases t <;> exact wd_lit (by decide +kernel)
    refine mem_cons_all h1 (mem_cons_all (wd_name hn) (mem_cons_all (wd_num (by omega)) ?_))
    show ∀ y ∈ (if ps = [] then [] else ("of" : Str) :: (if sw then ps.reverse else ps)), WdOk y.cps.toList
    by_cases hp : ps = []
    · rw [if_pos hp]; exact mem_nil_all
    · rw [if_neg hp]
      refine mem_cons_all (wd_lit (by decide +kernel)) fun y hy => wd_name (hps y ?_)
      cases sw
      · exact hy
      · exact List.mem_reverse.mp hy
  | two t a b d =>
    obtain ⟨ha, hb, _, _, hd⟩ := ok
    have h1 : WdOk (if t then ("parted" : Str) else "joined").cps.toList := by cases t <;> exact wd_lit (by decide +kernel)
    cases sw
    · exact mem_cons_all h1 (mem_cons_all (wd_name ha) (mem_cons_all (wd_name hb) (mem_cons_all (wd_num (by omega)) mem_nil_all)))
    · exact mem_cons_all h1 (mem_cons_all (wd_name hb) (mem_cons_all (wd_name ha) (mem_cons_all (wd_num (by omega)) mem_nil_all)))
  | died n d =>
    obtain ⟨hn, hd⟩ := ok
    exact mem_cons_all (wd_lit (by decide +kernel)) (mem_cons_all (wd_name hn) (mem_cons_all (wd_num (by omega)) mem_nil_all))
  | owns n d =>
    obtain ⟨hn, hd⟩ := ok
    exact mem_cons_all (wd_lit (by decide +kernel)) (mem_cons_all (wd_name hn) (mem_cons_all (wd_num (by omega)) mem_nil_all))
  | gave a b s d =>
    obtain ⟨ha, hb, _, hs, hd⟩ := ok
    exact mem_cons_all (wd_lit (by decide +kernel)) (mem_cons_all (wd_name ha) (mem_cons_all (wd_name hb) (mem_cons_all (wd_num (by omega)) (mem_cons_all (wd_num (by omega)) mem_nil_all))))
  | owes a b s d =>
    obtain ⟨ha, hb, hs, _, hd⟩ := ok
    exact mem_cons_all (wd_lit (by decide +kernel)) (mem_cons_all (wd_name ha) (mem_cons_all (wd_name hb) (mem_cons_all (wd_num (by omega)) (mem_cons_all (wd_num (by omega)) mem_nil_all))))
  | unfit a b =>
    obtain ⟨ha, hb, _⟩ := ok
    exact mem_cons_all (wd_lit (by decide +kernel)) (mem_cons_all (wd_name ha) (mem_cons_all (wd_name hb) mem_nil_all))
  | word n k w =>
    obtain ⟨hn, _, hk, ok⟩ := ok
    refine mem_cons_all (wd_lit (by decide +kernel)) (mem_cons_all (wd_name hn) (mem_cons_all (wd_num (by omega)) ?_))
    cases w with
    | sum o s e =>
      obtain ⟨ho, hs, he⟩ := ok
      exact mem_cons_all (wd_lit (by decide +kernel)) (mem_cons_all (wd_name ho) (mem_cons_all (wd_num (by omega)) (wd_else he)))
    | part o t b e =>
      obtain ⟨ho, h1, h2, h3, _, he⟩ := ok
      obtain ⟨m1, m2⟩ := fit
      have h5 : m * t ≤ m * b := Nat.mul_le_mul_left _ h2
      exact mem_cons_all (wd_lit (by decide +kernel)) (mem_cons_all (wd_name ho) (mem_cons_all (wd_num (by omega)) (mem_cons_all wd_slash (mem_cons_all (wd_num (by omega)) (wd_else he)))))
    | out o =>
      exact mem_cons_all (wd_lit (by decide +kernel)) (mem_cons_all (wd_name ok) mem_nil_all)
theorem fits_one {f : Fact} (ok : f.Ok) : f.Fits 1 := by
  cases f with
  | word n k w =>
    cases w with
    | part o t b e => exact ⟨by decide, by have := ok.2.2.2.2.2.2.1; omega⟩
    | _ => trivial
  | _ => trivial
abbrev tls (ws : List Str) : List (List Nat) := ws.map fun y => y.cps.toList
theorem tls_S (ws : List Str) : (tls ws).map S = ws := by
  rw [tls, List.map_map]
  have : (S ∘ fun y : Str => y.cps.toList) = id := funext fun y => S_tl y
  rw [this, List.map_id]
theorem gone_join {rows : List (List (List Nat))} : ∀ (ws : List Str) {t : List Nat} {cur : List (List Nat)}, ws ≠ [] → (∀ y ∈ ws, WdOk y.cps.toList) → Gone t rows cur false → ∃ op, Gone (t ++ (Str.join " " ws).cps.toList) rows (cur ++ tls ws) op
  | [], _, _, h, _, _ => absurd rfl h
  | [x], t, cur, _, h, g => ⟨_, g.word (h x List.mem_cons_self) (.inl rfl)⟩
  | x :: y :: r, t, cur, _, h, g => by
    have g1 := (g.word (h x List.mem_cons_self) (.inl rfl)).blank
    obtain ⟨op, g2⟩ := gone_join (y :: r) (by simp) (fun z hz => h z (List.mem_cons_of_mem _ hz)) g1
    refine ⟨op, ?_⟩
    have e : (Str.join " " (x :: y :: r)).cps.toList = x.cps.toList ++ [32] ++ (Str.join " " (y :: r)).cps.toList := by
      have e1 : (Str.join " " (x :: y :: r)) = x ++ " " ++ Str.join " " (y :: r) := rfl
      rw [e1]
      exact (TL.tl_append _ _).trans (by rw [show TL.tl (x ++ (" " : Str)) = TL.tl x ++ TL.tl (" " : Str) from TL.tl_append _ _, show TL.tl (" " : Str) = [32] by decide +kernel])
    rw [e]
    have e2 : t ++ (x.cps.toList ++ [32] ++ (Str.join " " (y :: r)).cps.toList) = t ++ x.cps.toList ++ [32] ++ (Str.join " " (y :: r)).cps.toList := by simp only [List.append_assoc]
    rw [e2]
    have e3 : cur ++ tls (x :: y :: r) = cur ++ [x.cps.toList] ++ tls (y :: r) := by simp [tls]
    rw [e3]
    exact g2
/-- rows of words, a line end between -/
theorem gone_rows : ∀ (Rs : List (List Str)) {t : List Nat} {rows : List (List (List Nat))}, Rs ≠ [] → (∀ ws ∈ Rs, ws ≠ [] ∧ ∀ y ∈ ws, WdOk y.cps.toList) → Gone t rows [] false →
    scan 0 [] [] (t ++ (Str.join "\n" (Rs.map (Str.join " "))).cps.toList) = .ok (rows ++ Rs.map tls)
  | [], _, _, h, _, _ => absurd rfl h
  | [ws], t, rows, _, h, g => by
    have h1 := h ws List.mem_cons_self
    obtain ⟨op, g1⟩ := gone_join ws h1.1 h1.2 g
    exact g1.all
  | ws :: us :: r, t, rows, _, h, g => by
    have h1 := h ws List.mem_cons_self
    obtain ⟨op, g1⟩ := gone_join ws h1.1 h1.2 g
    have g2 := gone_rows (us :: r) (by simp) (fun z hz => h z (List.mem_cons_of_mem _ hz)) g1.eol
    have e : (Str.join "\n" ((ws :: us :: r).map (Str.join " "))).cps.toList = (Str.join " " ws).cps.toList ++ [10] ++ (Str.join "\n" ((us :: r).map (Str.join " "))).cps.toList := by
      have e1 : (Str.join "\n" ((ws :: us :: r).map (Str.join " "))) = Str.join " " ws ++ "\n" ++ Str.join "\n" ((us :: r).map (Str.join " ")) := rfl
      rw [e1]
      exact (TL.tl_append _ _).trans (by rw [show TL.tl (Str.join " " ws ++ ("\n" : Str)) = TL.tl (Str.join " " ws) ++ TL.tl ("\n" : Str) from TL.tl_append _ _, show TL.tl ("\n" : Str) = [10] by decide +kernel])
    rw [e]
    have e2 : t ++ ((Str.join " " ws).cps.toList ++ [10] ++ (Str.join "\n" ((us :: r).map (Str.join " "))).cps.toList) = t ++ (Str.join " " ws).cps.toList ++ [10] ++ (Str.join "\n" ((us :: r).map (Str.join " "))).cps.toList := by simp only [List.append_assoc]
    rw [e2, g2]
    simp
theorem join_len (s : Str) : ∀ {ys : List Str} {B : Nat}, (∀ y ∈ ys, y.length ≤ B) → (Str.join s ys).length ≤ (B + s.length) * ys.length
  | [], _, _ => by
    show (Str.empty).length ≤ _
    have : (Str.empty).length = 0 := by decide +kernel
    omega
  | [y], B, h => by
    have := h y List.mem_cons_self
    show y.length ≤ (B + s.length) * 1
    omega
  | x :: y :: r, B, h => by
    have h1 := h x List.mem_cons_self
    have h2 := join_len s (ys := y :: r) fun z hz => h z (List.mem_cons_of_mem _ hz)
    show (x ++ s ++ Str.join s (y :: r)).length ≤ (B + s.length) * ((y :: r).length + 1)
    have e1 : (x ++ s ++ Str.join s (y :: r)).length = (x ++ s).length + (Str.join s (y :: r)).length := size_cat _ _
    have e2 : (x ++ s).length = x.length + s.length := size_cat _ _
    rw [e1, e2, Nat.mul_add, Nat.mul_one]
    omega
end My
set_option Elab.async false
set_option linter.all false
set_option maxRecDepth 100000
set_option maxHeartbeats 4000000
/-! The names of the law k02. -/
namespace My
open PySem PySem.Spec PyProof.Rows L2
/-- the name of size n, the sign c at place a -/
def nmL (n a c : Nat) : List Nat := (([113, 122, 106, 118, 113, 122, 106, 118] : List Nat).take n).take a ++ [c] ++ (([113, 122, 106, 118, 113, 122, 106, 118] : List Nat).take n).drop (a + 1)
def nmB : Bool := (List.range 7).all fun n => (List.range (n + 2)).all fun a => (List.range 26).all fun c => isName (S (nmL (n + 2) a (97 + c)))
theorem nm_all : nmB = true := by decide +kernel
theorem nm_ok {n a c : Nat} (h1 : 2 ≤ n) (h2 : n ≤ 8) (h3 : a < n) (h4 : c < 26) : isName (S (nmL n a (97 + c))) = true := by
  have h := List.all_eq_true.mp nm_all (n - 2) (List.mem_range.mpr (by omega))
  have e : n - 2 + 2 = n := by omega
  rw [e] at h
  exact List.all_eq_true.mp (List.all_eq_true.mp h a (List.mem_range.mpr h3)) c (List.mem_range.mpr h4)
theorem nm_inj {n a c d : Nat} (h3 : a < n) (h2 : n ≤ 8) (h : nmL n a c = nmL n a d) : c = d := by
  unfold nmL at h
  rw [List.append_assoc, List.append_assoc] at h
  have h := List.append_cancel_left h
  injection h
/-- unlike numbers below 26 give unlike signs -/
theorem sign_inj {f j k : Nat} (hj : j < 26) (hk : k < 26) (h : (f + 7 * j) % 26 = (f + 7 * k) % 26) : j = k := by omega
end My
set_option Elab.async false
set_option linter.all false
set_option maxRecDepth 100000
set_option maxHeartbeats 4000000
/-! A text of words with other blanks, gone through. -/
namespace My
open PySem PySem.Spec PyProof.Rows L2
def last1 (t : List Nat) : List Nat := t.drop (t.length - 1)
theorem cutS_last (t : List Nat) : cutS (S t) (some (-1)) none = S (last1 t) := by
  unfold cutS
  rw [sIx_none]
  have e : HT.sIx (S t).length 0 (some (-1)) = t.length - 1 := by
    show (if (-1 : Int) < 0 then ((-1 : Int) + ((S t).length : Int)).toNat else min ((-1 : Int)).toNat (S t).length) = _
    rw [if_pos (by decide), S_len]
    omega
  rw [e, S_len]
  have e2 : (S t).cps.toList = t := rfl
  rw [e2, List.take_of_length_le (by rw [List.length_drop]; omega)]
  rfl
theorem last1_snoc (t : List Nat) (c : Nat) : last1 (t ++ [c]) = [c] := by
  unfold last1
  rw [List.length_append]
  show (t ++ [c]).drop (t.length + 1 - 1) = [c]
  rw [Nat.add_sub_cancel, List.drop_left]
/-- where a word stands open its last sign is no stroke and no line end -/
def LO (t : List Nat) (op : Bool) : Prop := op = true → ∃ c, last1 t = [c] ∧ c ≠ 47 ∧ c ≠ 10
theorem wd_last {l : List Nat} (h : WdOk l) (n : l ≠ [47]) : ∃ r c, l = r ++ [c] ∧ c ≠ 47 ∧ c ≠ 10 := by
  have ne := h.ne.1
  obtain ⟨r, c, e⟩ : ∃ r c, l = r ++ [c] := ⟨_, _, (List.dropLast_concat_getLast ne).symm⟩
  refine ⟨r, c, e, ?_⟩
  have hc : c ∈ l := by rw [e]; simp
  rcases h with ⟨_, _, h3⟩ | ⟨k, _, e1⟩ | e1
  · have := (mem_LET c).mp (h3 c hc); omega
  · have := numS_fig (n := k) (c := c) (by rw [← e1]; exact hc); omega
  · exact absurd e1 n
theorem gone_blanks {rows : List (List (List Nat))} {cur : List (List Nat)} : ∀ (k : Nat) {t : List Nat} {op : Bool}, Gone t rows cur op → Gone (t ++ List.replicate k 32) rows cur (if k = 0 then op else false)
  | 0, t, op, g => by
    rw [List.replicate_zero, List.append_nil]
    exact g
  | k + 1, t, op, g => by
    have h := gone_blanks k g.blank
    have e : t ++ List.replicate (k + 1) 32 = t ++ [32] ++ List.replicate k 32 := by
      rw [List.replicate_succ, List.append_assoc]; rfl
    rw [e, if_neg (by omega)]
    have e2 : (if k = 0 then false else false) = false := by split <;> rfl
    rw [e2] at h
    exact h
theorem loose_step {t : List Nat} {rows : List (List (List Nat))} {cur : List (List Nat)} {op : Bool} (g : Gone t rows cur op) (lo : LO t op) {l : List Nat} (wl : WdOk l) (k : Nat) (hk : k = 0 → l = [47] ∨ last1 t ∈ [[47], [10], []]) :
    ∃ op', Gone (t ++ List.replicate k 32 ++ l) rows (cur ++ [l]) op' ∧ LO (t ++ List.replicate k 32 ++ l) op' := by
  refine ⟨decide (l ≠ [47]), (gone_blanks k g).word wl ?_, fun h => ?_⟩
  · by_cases h0 : k = 0
    · rw [if_pos h0]
      rcases hk h0 with h | h
      · exact .inr h
      · left
        cases op with
        | false => rfl
        | true =>
          obtain ⟨c, e, h1, h2⟩ := lo rfl
          rw [e] at h
          simp only [List.mem_cons, List.cons.injEq, and_true, List.not_mem_nil, or_false] at h
          rcases h with h | h | h
          · exact absurd h h1
          · exact absurd h h2
          · cases h
    · rw [if_neg h0]; exact .inl rfl
  · obtain ⟨r, c, e, h1, h2⟩ := wd_last wl (of_decide_eq_true h)
    refine ⟨c, ?_, h1, h2⟩
    rw [e, ← List.append_assoc, last1_snoc]
theorem app_S (l : List Nat) (w : Str) : S l ++ w = S (l ++ w.cps.toList) := (congrArg (S l ++ ·) (S_tl w).symm).trans (S_app l w.cps.toList)
theorem lo_false (t : List Nat) : LO t false := fun h => by cases h
end My
set_option Elab.async false
set_option linter.all false
set_option maxRecDepth 100000
set_option maxHeartbeats 4000000
/-! What the law k02 draws, read off its lists. -/
namespace My
open PySem PySem.Spec PyProof.Rows L2
theorem words_len10 {f : Fact} (h : f.Ok) (sw : Bool) (m : Nat) : (f.words sw m).length ≤ 10 := by
  cases f with
  | life t n d ps =>
    have := h.2.2.2.1
    by_cases hp : ps = []
    · simp [Fact.words, hp]
    · cases sw <;> simp [Fact.words, hp] <;> omega
  | two t a b d => cases sw <;> simp [Fact.words]
  | word n k w =>
    cases w with
    | sum o s e => have := elseW_len e; simp [Fact.words, What.words]; omega
    | part o t b e => have := elseW_len e; simp [Fact.words, What.words]; omega
    | out o => simp [Fact.words, What.words]
  | _ => simp [Fact.words]
section
variable {K : PySem.W.Frag} {H : Hp}
/-- a value that tells some fact -/
def factV (K : PySem.W.Frag) : V → Hp → Prop := fun v H => ∃ f : Fact, Dp K H v f.data ∧ f.Ok
theorem facts_of {α : Type} : ∀ {ds : List α} {ys : List V}, Paired (fun _ y => factV K y H) ds ys → ∃ fs : List Fact, DpAll K H ys (fs.map Fact.data) ∧ (∀ f ∈ fs, f.Ok) ∧ fs.length = ds.length
  | _, _, .nil => ⟨[], .nil, fun _ h => (by cases h), rfl⟩
  | _, _, .cons h t => by
    obtain ⟨f, d, ok⟩ := h
    obtain ⟨fs, ds, oks, e⟩ := facts_of t
    exact ⟨f :: fs, .cons d ds, fun g hg => (by
      rcases List.mem_cons.mp hg with rfl | hg
      · exact ok
      · exact oks g hg), by rw [List.length_cons, List.length_cons, e]⟩
theorem rows_of {D : Addr} : ∀ {fs : List Fact} {ys : List V}, Paired (fun f y => ∃ q, y = V.ref q ∧ q ≠ D ∧ H q = some (.lst ((Fact.words false 1 f).map V.str))) fs ys → ∃ qs : List Addr, ys = qs.map V.ref ∧ Paired (fun q f => H q = some (.lst ((Fact.words false 1 f).map V.str))) qs fs
  | _, _, .nil => ⟨[], rfl, .nil⟩
  | _, _, .cons h t => by
    obtain ⟨q, rfl, _, e⟩ := h
    obtain ⟨qs, rfl, p⟩ := rows_of t
    exact ⟨q :: qs, rfl, .cons e p⟩
theorem turned_of {D : Addr} {R : List Str → Fact → Prop} : ∀ {fs : List Fact} {ys : List V}, Paired (fun f y => ∃ q ws, y = V.ref q ∧ q ≠ D ∧ H q = some (.lst ((ws : List Str).map V.str)) ∧ R ws f) fs ys →
    ∃ (qs : List Addr) (Rs : List (List Str)), ys = qs.map V.ref ∧ Paired (fun q ws => SqL K H q ((ws : List Str).map V.str)) qs Rs ∧ Paired R Rs fs
  | _, _, .nil => ⟨[], [], rfl, .nil, .nil⟩
  | _, _, .cons h t => by
    obtain ⟨q, ws, rfl, _, e, r⟩ := h
    obtain ⟨qs, Rs, rfl, p, p2⟩ := turned_of t
    exact ⟨q :: qs, ws :: Rs, rfl, .cons (SqL.of e) p, .cons r p2⟩
end
theorem str_join3 (n : Str) : ("died " : Str) ++ n ++ (" 7" : Str) = Str.join " " (Fact.words false 1 (.died n 7)) := by
  have e : Str.join " " (Fact.words false 1 (.died n 7)) = ("died" : Str) ++ (" " : Str) ++ (n ++ (" " : Str) ++ numS 7) := rfl
  rw [e]
  refine TL.ext_tl ?_
  rw [TL.tl_append, TL.tl_append, TL.tl_append, TL.tl_append, TL.tl_append, TL.tl_append]
  rw [show TL.tl (numS 7) = [55] by decide +kernel, show TL.tl ("died " : Str) = [100, 105, 101, 100, 32] by decide +kernel, show TL.tl ("died" : Str) = [100, 105, 101, 100] by decide +kernel, show TL.tl (" " : Str) = [32] by decide +kernel, show TL.tl (" 7" : Str) = [32, 55] by decide +kernel]
  simp
theorem all_rep {P : PyData → Bool} {d : PyData} (h : P d = true) (n : Nat) : ∀ x ∈ List.replicate n d, P x = true := fun x hx => by rw [(List.mem_replicate.mp hx).2]; exact h
theorem lay_all : ∀ {ds : List PyData}, (∀ d ∈ ds, d.canLay0 = true) → PyData.canLayAll0 ds = true
  | [], _ => rfl
  | d :: r, h => by
    show (d.canLay0 && PyData.canLayAll0 r) = true
    rw [lay_all fun x hx => h x (List.mem_cons_of_mem _ hx), h d List.mem_cons_self]; rfl
theorem depth_all {B : Nat} : ∀ {ds : List PyData}, (∀ d ∈ ds, d.depth ≤ B) → PyData.depthAll ds ≤ B
  | [], _ => Nat.zero_le _
  | d :: r, h => by
    show max d.depth (PyData.depthAll r) ≤ B
    have h1 := h d List.mem_cons_self
    have h2 := depth_all fun x hx => h x (List.mem_cons_of_mem _ hx)
    omega
theorem shaped_of {ds : List PyData} (h1 : ∀ d ∈ ds, d.canLay0 = true) (h2 : ∀ d ∈ ds, d.depth ≤ 60) : SeqAt.shaped (.list ds) = true := by
  unfold SeqAt.shaped
  have h3 : (PyData.list ds).canLay0 = true := lay_all h1
  have h4 : (PyData.list ds).depth ≤ 64 := by
    show PyData.depthAll _ + 1 ≤ 64
    have := depth_all h2
    omega
  rw [h3, decide_eq_true h4]; rfl
theorem rep_flat {α : Type} (x : α) : ∀ n : Nat, (List.replicate n [x]).flatten = List.replicate n x
  | 0 => rfl
  | n + 1 => by rw [List.replicate_succ, List.flatten_cons, rep_flat x n]; rfl
theorem paired_rep {α β : Type} {R : α → β → Prop} {a : α} {b : β} (h : R a b) : ∀ n, Paired R (List.replicate n a) (List.replicate n b)
  | 0 => .nil
  | n + 1 => .cons h (paired_rep h n)
theorem dps_rep {K : PySem.W.Frag} {H : Hp} {v : V} {d : PyData} (h : Dp K H v d) : ∀ n, DpAll K H (List.replicate n v) (List.replicate n d)
  | 0 => .nil
  | n + 1 => .cons h (dps_rep h n)
end My
set_option Elab.async false
set_option linter.all false
set_option maxRecDepth 100000
set_option maxHeartbeats 4000000
/-! Rows of words, empty ones too, gone through. -/
namespace My
open PySem PySem.Spec PyProof.Rows L2
theorem join_nil_tl : (Str.join " " ([] : List Str)).cps.toList = [] := by decide +kernel
theorem gone_join0 {rows : List (List (List Nat))} (ws : List Str) {t : List Nat} {cur : List (List Nat)} (h : ∀ y ∈ ws, WdOk y.cps.toList) (g : Gone t rows cur false) : ∃ op, Gone (t ++ (Str.join " " ws).cps.toList) rows (cur ++ tls ws) op := by
  cases ws with
  | nil =>
    refine ⟨false, ?_⟩
    rw [join_nil_tl, List.append_nil]
    show Gone t rows (cur ++ []) false
    rw [List.append_nil]
    exact g
  | cons x r => exact gone_join (x :: r) (by simp) h g
theorem gone_rowsE : ∀ (Rs : List (List Str)) {t : List Nat} {rows : List (List (List Nat))}, Rs ≠ [] → (∀ ws ∈ Rs, ∀ y ∈ ws, WdOk y.cps.toList) → Gone t rows [] false →
    ∃ rows' cur op, Gone (t ++ (Str.join "\n" (Rs.map (Str.join " "))).cps.toList) rows' cur op ∧ rows' ++ [cur] = rows ++ Rs.map tls
  | [], _, _, h, _, _ => absurd rfl h
  | [ws], t, rows, _, h, g => by
    obtain ⟨op, g1⟩ := gone_join0 ws (h ws List.mem_cons_self) g
    exact ⟨rows, _, op, g1, rfl⟩
  | ws :: us :: r, t, rows, _, h, g => by
    obtain ⟨op, g1⟩ := gone_join0 ws (h ws List.mem_cons_self) g
    obtain ⟨rows', cur, op', g2, e2⟩ := gone_rowsE (us :: r) (by simp) (fun z hz => h z (List.mem_cons_of_mem _ hz)) g1.eol
    refine ⟨rows', cur, op', ?_, ?_⟩
    · have e : (Str.join "\n" ((ws :: us :: r).map (Str.join " "))).cps.toList = (Str.join " " ws).cps.toList ++ [10] ++ (Str.join "\n" ((us :: r).map (Str.join " "))).cps.toList := by
        have e1 : (Str.join "\n" ((ws :: us :: r).map (Str.join " "))) = Str.join " " ws ++ "\n" ++ Str.join "\n" ((us :: r).map (Str.join " ")) := rfl
        rw [e1]
        exact (TL.tl_append _ _).trans (by rw [show TL.tl (Str.join " " ws ++ ("\n" : Str)) = TL.tl (Str.join " " ws) ++ TL.tl ("\n" : Str) from TL.tl_append _ _, show TL.tl ("\n" : Str) = [10] by decide +kernel])
      rw [e]
      have e3 : t ++ ((Str.join " " ws).cps.toList ++ [10] ++ (Str.join "\n" ((us :: r).map (Str.join " "))).cps.toList) = t ++ (Str.join " " ws).cps.toList ++ [10] ++ (Str.join "\n" ((us :: r).map (Str.join " "))).cps.toList := by simp only [List.append_assoc]
      rw [e3]
      exact g2
    · rw [e2]
      simp
/-- a sign that is none, in a row behind -/
theorem gone_bad {t : List Nat} {rows : List (List (List Nat))} {cur : List (List Nat)} {op : Bool} (g : Gone t rows cur op) : scan 0 [] [] (t ++ [10, 32, 33]) = .error (t.length + 2) := by
  have g2 := g.eol.blank
  have e : t ++ [10, 32, 33] = t ++ [10] ++ [32] ++ [33] := by simp
  rw [e, g2.go [33] (fun h => by cases h)]
  have hb : wordLen [33] = none := by decide +kernel
  rw [scan_bad (by decide) (by decide) hb]
  simp
end My
set_option Elab.async false
set_option linter.all false
set_option maxRecDepth 100000
set_option maxHeartbeats 4000000
/-! Customs: how rows of words are read, as plain functions. -/
namespace My
open PySem PySem.Spec PyProof.Rows L2
/-- whether a word begins with a figure -/
def figB (z : Str) : Bool := match z.cps.toList with
  | [] => false
  | c :: _ => decide (c ∈ FIG)
/-- the number that a word tells -/
def numOf (z : Str) : Option Nat := if figB z then (intText? z).map Int.toNat else none
theorem figB_num (n : Nat) : figB (numS n) = true := by
  obtain ⟨c, t, e, h1, h2⟩ := num_head (n := n)
  unfold figB
  rw [numS_tl, e]
  exact decide_eq_true ((mem_FIG c).mpr ⟨h1, h2⟩)
theorem numOf_num {n : Nat} (h : n < 10 ^ 20) : numOf (numS n) = some n := by
  unfold numOf
  rw [figB_num, if_pos rfl, numS_int h]; rfl
theorem numOf_nil : numOf "" = none := by
  unfold numOf figB
  rw [S_nil]; rfl
theorem numOf_some {z : Str} (w : WdOk z.cps.toList) {n : Nat} (h : numOf z = some n) : z = numS n ∧ n < 10 ^ 12 := by
  have hf : figB z = true := by
    cases q : figB z with
    | true => rfl
    | false => unfold numOf at h; rw [q, if_neg Bool.false_ne_true] at h; cases h
  rcases w with ⟨h1, h2, h3⟩ | ⟨k, h1, e⟩ | e
  · obtain ⟨c, t, e⟩ := List.exists_cons_of_ne_nil h1
    unfold figB at hf
    rw [e] at hf
    have a := (mem_FIG c).mp (of_decide_eq_true hf)
    have b := (mem_LET c).mp (h3 c (by rw [e]; exact List.mem_cons_self))
    omega
  · have ez : z = numS k := TL.ext_tl (by rw [show TL.tl z = z.cps.toList from rfl, e, show TL.tl (numS k) = (numS k).cps.toList from rfl, numS_tl])
    rw [ez, numOf_num (by omega)] at h
    cases h
    exact ⟨ez, h1⟩
  · unfold figB at hf
    rw [e] at hf
    have a := (mem_FIG 47).mp (of_decide_eq_true hf)
    omega
theorem numOf_isSome {z : Str} (w : WdOk z.cps.toList) : (numOf z).isSome = figB z := by
  cases q : figB z with
  | false => unfold numOf; rw [q, if_neg Bool.false_ne_true]; rfl
  | true =>
    rcases w with ⟨h1, h2, h3⟩ | ⟨k, h1, e⟩ | e
    · obtain ⟨c, t, e⟩ := List.exists_cons_of_ne_nil h1
      unfold figB at q
      rw [e] at q
      have a := (mem_FIG c).mp (of_decide_eq_true q)
      have b := (mem_LET c).mp (h3 c (by rw [e]; exact List.mem_cons_self))
      omega
    · have ez : z = numS k := TL.ext_tl (by rw [show TL.tl z = z.cps.toList from rfl, e, show TL.tl (numS k) = (numS k).cps.toList from rfl, numS_tl])
      rw [ez, numOf_num (by omega)]; rfl
    · unfold figB at q
      rw [e] at q
      have a := (mem_FIG 47).mp (of_decide_eq_true q)
      omega
/-- a number in bounds -/
def numZ (lo hi : Nat) (z : Str) : Option Nat := match numOf z with
  | some n => if lo ≤ n ∧ n ≤ hi then some n else none
  | none => none
theorem numZ_some {lo hi : Nat} {z : Str} {n : Nat} (h : numZ lo hi z = some n) : numOf z = some n ∧ lo ≤ n ∧ n ≤ hi := by
  unfold numZ at h
  cases q : numOf z with
  | none => rw [q] at h; cases h
  | some m =>
    rw [q] at h
    dsimp only at h
    split at h
    · rename_i h1
      cases h
      exact ⟨rfl, h1⟩
    · cases h
theorem numZ_num {lo hi n : Nat} (h : n < 10 ^ 20) (h1 : lo ≤ n) (h2 : n ≤ hi) : numZ lo hi (numS n) = some n := by
  unfold numZ
  rw [numOf_num h]
  exact if_pos ⟨h1, h2⟩
/-- a fraction from the word k on -/
def fracP (k : Nat) (ws : List Str) : Except Nat (Nat × Nat) := match numZ 1 1000 (ws.getD k "") with
  | none => .error k
  | some t => if ws.getD (k + 1) "" = "/" then match numZ t 1000 (ws.getD (k + 2) "") with
      | none => .error (k + 2)
      | some b => .ok (t / Nat.gcd t b, b / Nat.gcd t b)
    else .error (k + 1)
structure Ord where
  line : Bool
  k : Nat
  t : Nat
  b : Nat
def Ord.is (line : Bool) (n : Nat) (o : Ord) : Bool := decide (o.line = line ∧ o.k = n)
structure CSt where
  os : List Ord
  halves : Bool
  kt : Nat
  kb : Nat
  back : Nat
  stage : Nat
def cst0 : CSt := ⟨[], false, 0, 1, 0, 0⟩
def orderP (known : List Ord) (ws : List Str) : Except Nat Ord :=
  match numZ (if ws.getD 0 "" = "line" then 0 else 1) (if ws.getD 0 "" = "line" then 3 else 6) (ws.getD 1 "") with
  | none => .error 1
  | some n => if known.any (Ord.is (decide (ws.getD 0 "" = "line")) n) = true then .error 1
    else if ws.length ≤ 2 then .ok ⟨decide (ws.getD 0 "" = "line"), n, 0, 1⟩
    else if ws.getD 2 "" = "beside" then match fracP 3 ws with
      | .error j => .error j
      | .ok f => .ok ⟨decide (ws.getD 0 "" = "line"), n, f.1, f.2⟩
    else .error 2
def orderEnd (ws : List Str) : Nat := if ws.length ≤ 2 then 2 else 6
def stageOf (z : Str) : Nat := if z = "halves" then 1 else if z = "kept" then 2 else if z = "back" then 3 else 0
def rowP (st : CSt) (ws : List Str) : Except Nat CSt :=
  if ws.getD 0 "" = "line" ∨ ws.getD 0 "" = "degree" then
    if st.stage = 0 ∧ st.os.length < 6 then match orderP st.os ws with
      | .error j => .error j
      | .ok o => if ws.length = orderEnd ws then .ok { st with os := st.os ++ [o] } else .error (orderEnd ws)
    else .error 0
  else if st.os ≠ [] ∧ st.stage < stageOf (ws.getD 0 "") then
    if ws.getD 0 "" = "halves" then (if ws.length = 1 then .ok { st with halves := true, stage := 1 } else .error 1)
    else if ws.getD 0 "" = "kept" then match fracP 1 ws with
      | .error j => .error j
      | .ok f => if ws.length = 4 then .ok { st with kt := f.1, kb := f.2, stage := 2 } else .error 4
    else match numZ 0 99999 (ws.getD 1 "") with
      | none => .error 1
      | some n => if ws.length = 2 then .ok { st with back := n, stage := 3 } else .error 2
  else .error 0
def rowsP : Nat → CSt → List (List Str) → Except (Nat × Nat) CSt
  | _, st, [] => .ok st
  | i, st, ws :: r => if ws = [] then rowsP (i + 1) st r else match rowP st ws with
    | .error j => .error (i, j)
    | .ok st' => rowsP (i + 1) st' r
def custP (rows : List (List Str)) : Except (Nat × Nat) CSt := match rowsP 0 cst0 rows with
  | .error e => .error e
  | .ok st => if st.os = [] then .error (rows.length, 0) else .ok st
/-! ### as data -/
def sortS (line : Bool) : Str := if line then "line" else "degree"
def fracD (t b : Nat) : PyData := .tuple [.int (t : Nat), .int (b : Nat)]
def Ord.data (o : Ord) : PyData := .tuple [.str (sortS o.line), .int (o.k : Nat), fracD o.t o.b]
def CSt.data (st : CSt) : PyData := .tuple [.tuple (st.os.map Ord.data), .bool st.halves, fracD st.kt st.kb, .int (st.back : Nat)]
/-! ### as words -/
def fracW (m t b : Nat) : List Str := [numS (m * t), "/", numS (m * b)]
def Ord.words (m : Nat) (o : Ord) : List Str := [sortS o.line, numS o.k] ++ (if 0 < o.t then ("beside" : Str) :: fracW m o.t o.b else [])
def CSt.more (m : Nat) (st : CSt) : List (List Str) := (if st.halves then [[("halves" : Str)]] else []) ++ (if 0 < st.kt then [("kept" : Str) :: fracW m st.kt st.kb] else []) ++ (if 0 < st.back then [[("back" : Str), numS st.back]] else [])
def FracOk (t b : Nat) : Prop := (t = 0 ∧ b = 1) ∨ (1 ≤ t ∧ t ≤ b ∧ b ≤ 1000 ∧ Nat.gcd t b = 1)
def Ord.Ok (o : Ord) : Prop := (if o.line then o.k ≤ 3 else 1 ≤ o.k ∧ o.k ≤ 6) ∧ FracOk o.t o.b
structure CSt.Ok (st : CSt) : Prop where
  os : ∀ o ∈ st.os, o.Ok
  nd : (st.os.map fun o => (o.line, o.k)).Nodup
  len : st.os.length ≤ 6
  kept : FracOk st.kt st.kb
  back : st.back ≤ 99999
end My
set_option Elab.async false
set_option linter.all false
set_option maxRecDepth 100000
set_option maxHeartbeats 4000000
/-! Customs: the rows that tell one. -/
namespace My
open PySem PySem.Spec PyProof.Rows L2
def FracW (t b : Nat) : Prop := 1 ≤ t ∧ t ≤ b ∧ b ≤ 1000 ∧ Nat.gcd t b = 1
def fitsM (m b : Nat) : Prop := 1 ≤ m ∧ m * b ≤ 1000
theorem numS_lt {n : Nat} (h : n ≤ 100000) : n < 10 ^ 20 := by omega
theorem fracP_ok {k m t b : Nat} {ws : List Str} (f : FracW t b) (h : fitsM m b) (h0 : ws.getD k "" = numS (m * t)) (h1 : ws.getD (k + 1) "" = "/") (h2 : ws.getD (k + 2) "" = numS (m * b)) : fracP k ws = .ok (t, b) := by
  obtain ⟨t1, tb, b2, g⟩ := f
  obtain ⟨m1, mb⟩ := h
  have e1 : 1 ≤ m * t := Nat.mul_pos m1 t1
  have e2 : m * t ≤ m * b := Nat.mul_le_mul_left _ tb
  unfold fracP
  rw [h0, numZ_num (numS_lt (by omega)) e1 (by omega)]
  dsimp only
  rw [if_pos h1, h2, numZ_num (numS_lt (by omega)) e2 mb]
  dsimp only
  rw [Nat.gcd_mul_left, g, Nat.mul_one, Nat.mul_div_cancel_left _ (by omega), Nat.mul_div_cancel_left _ (by omega)]
inductive Ent where
  | ord (o : Ord)
  | halves
  | kept (t b : Nat)
  | back (n : Nat)
def Ent.words (m : Nat) : Ent → List Str
  | .ord o => o.words m
  | .halves => [("halves" : Str)]
  | .kept t b => ("kept" : Str) :: fracW m t b
  | .back n => [("back" : Str), numS n]
def Ent.fits (m : Nat) : Ent → Prop
  | .ord o => 0 < o.t → fitsM m o.b
  | .kept _ b => fitsM m b
  | _ => True
def CSt.ents (st : CSt) : List Ent := st.os.map .ord ++ ((if st.halves then [.halves] else []) ++ ((if 0 < st.kt then [.kept st.kt st.kb] else []) ++ (if 0 < st.back then [.back st.back] else [])))
def CSt.app (st : CSt) : Ent → CSt
  | .ord o => { st with os := st.os ++ [o] }
  | .halves => { st with halves := true, stage := 1 }
  | .kept t b => { st with kt := t, kb := b, stage := 2 }
  | .back n => { st with back := n, stage := 3 }
def CSt.can (st : CSt) : Ent → Prop
  | .ord o => st.stage = 0 ∧ st.os.length < 6 ∧ o.Ok ∧ st.os.any (Ord.is o.line o.k) = false
  | .halves => st.os ≠ [] ∧ st.stage < 1
  | .kept t b => st.os ≠ [] ∧ st.stage < 2 ∧ FracW t b
  | .back n => st.os ≠ [] ∧ st.stage < 3 ∧ n ≤ 99999
theorem sort_line (b : Bool) : decide (sortS b = "line") = b := by cases b <;> decide +kernel
theorem sort_or (b : Bool) : sortS b = "line" ∨ sortS b = "degree" := by
  cases b
  · exact .inr rfl
  · exact .inl rfl
theorem h_ne : ¬ (("halves" : Str) = "line" ∨ ("halves" : Str) = "degree") := by decide +kernel
theorem k_ne : ¬ (("kept" : Str) = "line" ∨ ("kept" : Str) = "degree") := by decide +kernel
theorem b_ne : ¬ (("back" : Str) = "line" ∨ ("back" : Str) = "degree") := by decide +kernel
theorem k_h : ¬ (("kept" : Str) = "halves") := by decide +kernel
theorem b_h : ¬ (("back" : Str) = "halves") := by decide +kernel
theorem b_k : ¬ (("back" : Str) = "kept") := by decide +kernel
theorem stage_h : stageOf "halves" = 1 := by unfold stageOf; rw [if_pos rfl]
theorem stage_k : stageOf "kept" = 2 := by unfold stageOf; rw [if_neg k_h, if_pos rfl]
theorem stage_b : stageOf "back" = 3 := by unfold stageOf; rw [if_neg b_h, if_neg b_k, if_pos rfl]
theorem orderP_ok {known : List Ord} {o : Ord} {m : Nat} (ok : o.Ok) (nk : known.any (Ord.is o.line o.k) = false) (f : 0 < o.t → fitsM m o.b) : orderP known (o.words m) = .ok o ∧ (o.words m).length = orderEnd (o.words m) := by
  obtain ⟨line, k, t, b⟩ := o
  obtain ⟨hk, hf⟩ := ok
  dsimp only at *
  have hn : numZ (if sortS line = "line" then 0 else 1) (if sortS line = "line" then 3 else 6) (numS k) = some k := by
    have e := sort_line line
    cases line with
    | true =>
      have e := of_decide_eq_true e
      rw [if_pos e, if_pos e]
      rw [if_pos rfl] at hk
      exact numZ_num (numS_lt (by omega)) (by omega) hk
    | false =>
      have e := of_decide_eq_false e
      rw [if_neg e, if_neg e]
      rw [if_neg Bool.false_ne_true] at hk
      exact numZ_num (numS_lt (by omega)) hk.1 hk.2
  rcases hf with ⟨rfl, rfl⟩ | ⟨f1, f2, f3, f4⟩
  · have ew : (Ord.mk line k 0 1).words m = [sortS line, numS k] := rfl
    rw [ew]
    refine ⟨?_, rfl⟩
    unfold orderP
    rw [show ([sortS line, numS k] : List Str).getD 0 "" = sortS line from rfl, show ([sortS line, numS k] : List Str).getD 1 "" = numS k from rfl, hn]
    dsimp only
    rw [sort_line, nk, if_neg Bool.false_ne_true, if_pos (show ([sortS line, numS k] : List Str).length ≤ 2 from Nat.le_refl 2)]
  · have ew : (Ord.mk line k t b).words m = [sortS line, numS k, "beside", numS (m * t), "/", numS (m * b)] := by
      unfold Ord.words
      dsimp only
      rw [if_pos (by omega)]; rfl
    rw [ew]
    refine ⟨?_, rfl⟩
    unfold orderP
    rw [show ([sortS line, numS k, "beside", numS (m * t), "/", numS (m * b)] : List Str).getD 0 "" = sortS line from rfl, show ([sortS line, numS k, "beside", numS (m * t), "/", numS (m * b)] : List Str).getD 1 "" = numS k from rfl, hn]
    dsimp only
    rw [sort_line, nk, if_neg Bool.false_ne_true, if_neg (show ¬ ([sortS line, numS k, "beside", numS (m * t), "/", numS (m * b)] : List Str).length ≤ 2 by simp),
      if_pos (show ([sortS line, numS k, "beside", numS (m * t), "/", numS (m * b)] : List Str).getD 2 "" = "beside" from rfl),
      fracP_ok ⟨f1, f2, f3, f4⟩ (f (by omega)) rfl rfl rfl]
theorem rowP_app {st : CSt} {e : Ent} {m : Nat} (c : st.can e) (f : e.fits m) : rowP st (e.words m) = .ok (st.app e) := by
  cases e with
  | ord o =>
    obtain ⟨c1, c2, c3, c4⟩ := c
    obtain ⟨h1, h2⟩ := orderP_ok c3 c4 f
    have hz : ((Ent.ord o).words m).getD 0 "" = sortS o.line := rfl
    have he : orderP st.os ((Ent.ord o).words m) = .ok o := h1
    have hl : ((Ent.ord o).words m).length = orderEnd ((Ent.ord o).words m) := h2
    unfold rowP
    rw [hz, if_pos (sort_or o.line), if_pos ⟨c1, c2⟩, he]
    dsimp only
    rw [if_pos hl]; rfl
  | halves =>
    obtain ⟨c1, c2⟩ := c
    have hz : (Ent.halves.words m).getD 0 "" = "halves" := rfl
    unfold rowP
    rw [hz, if_neg h_ne, if_pos ⟨c1, by rw [stage_h]; exact c2⟩, if_pos rfl, if_pos (show (Ent.halves.words m).length = 1 from rfl)]
    rfl
  | kept t b =>
    obtain ⟨c1, c2, c3⟩ := c
    have hz : ((Ent.kept t b).words m).getD 0 "" = "kept" := rfl
    have he : fracP 1 ((Ent.kept t b).words m) = .ok (t, b) := fracP_ok c3 f rfl rfl rfl
    unfold rowP
    rw [hz, if_neg k_ne, if_pos ⟨c1, by rw [stage_k]; exact c2⟩, if_neg k_h, if_pos rfl, he]
    dsimp only
    rw [if_pos (show ((Ent.kept t b).words m).length = 4 from rfl)]
    rfl
  | back n =>
    obtain ⟨c1, c2, c3⟩ := c
    have hz : ((Ent.back n).words m).getD 0 "" = "back" := rfl
    have h1 : ((Ent.back n).words m).getD 1 "" = numS n := rfl
    unfold rowP
    rw [hz, if_neg b_ne, if_pos ⟨c1, by rw [stage_b]; exact c2⟩, if_neg b_h, if_neg b_k, h1, numZ_num (numS_lt (by omega)) (by omega) c3]
    dsimp only
    rw [if_pos (show ((Ent.back n).words m).length = 2 from rfl)]
    rfl
def canAll : CSt → List Ent → Prop
  | _, [] => True
  | st, e :: r => st.can e ∧ canAll (st.app e) r
def EntTells (ws : List Str) (e : Ent) : Prop := ∃ m, e.fits m ∧ ws = e.words m
theorem ent_ne (m : Nat) (e : Ent) : e.words m ≠ [] := by cases e <;> simp [Ent.words, Ord.words]
theorem rowsP_app : ∀ {Rs : List (List Str)} {es : List Ent}, Paired EntTells Rs es → ∀ (i : Nat) (st : CSt), canAll st es → rowsP i st Rs = .ok (es.foldl CSt.app st)
  | _, _, .nil, i, st, _ => rfl
  | ws :: Rs, e :: es, .cons h t, i, st, c => by
    obtain ⟨m, f, rfl⟩ := h
    unfold rowsP
    rw [if_neg (ent_ne m e), rowP_app c.1 f]
    exact rowsP_app t (i + 1) _ c.2
theorem can_append : ∀ {es fs : List Ent} {st : CSt}, canAll st es → canAll (es.foldl CSt.app st) fs → canAll st (es ++ fs)
  | [], _, _, _, h => h
  | e :: r, _, _, c, h => ⟨c.1, can_append c.2 h⟩
theorem app_ords : ∀ (os : List Ord) (st : CSt), (os.map Ent.ord).foldl CSt.app st = { st with os := st.os ++ os }
  | [], st => by
    show st = _
    rw [List.append_nil]
  | o :: r, st => by
    show (r.map Ent.ord).foldl CSt.app { st with os := st.os ++ [o] } = _
    rw [app_ords r]
    dsimp only
    rw [List.append_assoc]; rfl
theorem can_ords : ∀ (os : List Ord) (st : CSt), st.stage = 0 → st.os.length + os.length ≤ 6 → (∀ o ∈ os, o.Ok) → ((st.os ++ os).map fun o => (o.line, o.k)).Nodup → canAll st (os.map Ent.ord)
  | [], _, _, _, _, _ => trivial
  | o :: r, st, h0, hl, ok, nd => by
    refine ⟨⟨h0, by rw [List.length_cons] at hl; omega, ok o List.mem_cons_self, ?_⟩, can_ords r _ h0 ?_ (fun x hx => ok x (List.mem_cons_of_mem _ hx)) ?_⟩
    · cases q : st.os.any (Ord.is o.line o.k) with
      | false => rfl
      | true =>
        obtain ⟨x, hx, hx2⟩ := List.any_eq_true.mp q
        have e := of_decide_eq_true hx2
        rw [List.map_append, List.nodup_append] at nd
        refine absurd ?_ (nd.2.2 (x.line, x.k) (List.mem_map.mpr ⟨x, hx, rfl⟩) (o.line, o.k) (List.mem_map.mpr ⟨o, List.mem_cons_self, rfl⟩))
        rw [e.1, e.2]
    · show (st.os ++ [o]).length + r.length ≤ 6
      rw [List.length_append]
      rw [List.length_cons] at hl
      show st.os.length + 1 + r.length ≤ 6
      omega
    · show ((st.os ++ [o] ++ r).map _).Nodup
      rw [List.append_assoc]
      exact nd
/-- a custom's rows can stand one behind the other, and tell it -/
theorem ents_can {st : CSt} (ok : st.Ok) (ne : st.os ≠ []) : canAll cst0 st.ents ∧ (st.ents.foldl CSt.app cst0).data = st.data ∧ (st.ents.foldl CSt.app cst0).os = st.os := by
  obtain ⟨os, halves, kt, kb, back, stage⟩ := st
  obtain ⟨h1, h2, h3, h4, h5⟩ := ok
  dsimp only at *
  have e1 : (os.map Ent.ord).foldl CSt.app cst0 = ⟨os, false, 0, 1, 0, 0⟩ := by rw [app_ords]; rfl
  have c1 := can_ords os cst0 rfl (by show 0 + os.length ≤ 6; omega) h1 (by exact h2)
  have hb : ∀ (st : CSt), st.os = os → st.stage < 3 → st.back = 0 → canAll st (if 0 < back then [Ent.back back] else []) ∧ ((if 0 < back then [Ent.back back] else []).foldl CSt.app st).data = CSt.data { st with back := back } ∧ ((if 0 < back then [Ent.back back] else []).foldl CSt.app st).os = os := by
    intro st e1 e2 e3
    by_cases h : 0 < back
    · rw [if_pos h]
      exact ⟨⟨⟨by rw [e1]; exact ne, e2, h5⟩, trivial⟩, rfl, e1⟩
    · rw [if_neg h]
      refine ⟨trivial, ?_, e1⟩
      have : back = 0 := by omega
      rw [this, ← e3]; rfl
  have hk : ∀ (st : CSt), st.os = os → st.stage < 2 → st.back = 0 → st.kt = 0 → st.kb = 1 → canAll st ((if 0 < kt then [Ent.kept kt kb] else []) ++ (if 0 < back then [Ent.back back] else [])) ∧ (((if 0 < kt then [Ent.kept kt kb] else []) ++ (if 0 < back then [Ent.back back] else [])).foldl CSt.app st).data = CSt.data { st with back := back, kt := kt, kb := kb } ∧ (((if 0 < kt then [Ent.kept kt kb] else []) ++ (if 0 < back then [Ent.back back] else [])).foldl CSt.app st).os = os := by
    intro st e1 e2 e3 e4 e5
    by_cases h : 0 < kt
    · rw [if_pos h]
      have hw : FracW kt kb := by
        rcases h4 with ⟨z, _⟩ | w
        · omega
        · exact w
      obtain ⟨b1, b2, b3⟩ := hb { st with kt := kt, kb := kb, stage := 2 } e1 (show 2 < 3 by decide) e3
      exact ⟨⟨⟨by rw [e1]; exact ne, e2, hw⟩, b1⟩, b2, b3⟩
    · rw [if_neg h, List.nil_append]
      obtain ⟨b1, b2, b3⟩ := hb st e1 (by omega) e3
      refine ⟨b1, ?_, b3⟩
      have hz : kt = 0 ∧ kb = 1 := by
        rcases h4 with z | w
        · exact z
        · omega
      rw [b2, hz.1, hz.2, ← e4, ← e5]
  have hh : ∀ (st : CSt), st.os = os → st.stage = 0 → st.back = 0 → st.kt = 0 → st.kb = 1 → st.halves = false → canAll st ((if halves then [Ent.halves] else []) ++ ((if 0 < kt then [Ent.kept kt kb] else []) ++ (if 0 < back then [Ent.back back] else []))) ∧ (((if halves then [Ent.halves] else []) ++ ((if 0 < kt then [Ent.kept kt kb] else []) ++ (if 0 < back then [Ent.back back] else []))).foldl CSt.app st).data = CSt.data { st with back := back, kt := kt, kb := kb, halves := halves } ∧ (((if halves then [Ent.halves] else []) ++ ((if 0 < kt then [Ent.kept kt kb] else []) ++ (if 0 < back then [Ent.back back] else []))).foldl CSt.app st).os = os := by
    intro st e1 e2 e3 e4 e5 e6
    cases halves with
    | true =>
      obtain ⟨b1, b2, b3⟩ := hk { st with halves := true, stage := 1 } e1 (show 1 < 2 by decide) e3 e4 e5
      exact ⟨⟨⟨by rw [e1]; exact ne, by omega⟩, b1⟩, b2, b3⟩
    | false =>
      obtain ⟨b1, b2, b3⟩ := hk st e1 (by omega) e3 e4 e5
      refine ⟨b1, ?_, b3⟩
      rw [if_neg Bool.false_ne_true, List.nil_append, b2, ← e6]
  obtain ⟨b1, b2, b3⟩ := hh ⟨os, false, 0, 1, 0, 0⟩ rfl rfl rfl rfl rfl rfl
  unfold CSt.ents
  dsimp only
  rw [List.foldl_append, e1]
  exact ⟨can_append c1 (by rw [e1]; exact b1), b2, b3⟩
theorem rowsP_full : ∀ (rows : List (List Str)) (i j : Nat) (st st' : CSt), rowsP j st (rows.filter fun ws => !ws.isEmpty) = .ok st' → rowsP i st rows = .ok st'
  | [], _, _, _, _, h => h
  | [] :: r, i, j, st, st', h => by
    unfold rowsP
    rw [if_pos rfl]
    exact rowsP_full r _ j st st' h
  | (w :: ws) :: r, i, j, st, st', h => by
    have e : (((w :: ws) :: r).filter fun ws => !ws.isEmpty) = (w :: ws) :: r.filter fun ws => !ws.isEmpty := rfl
    rw [e] at h
    unfold rowsP at h ⊢
    rw [if_neg (by simp)] at h ⊢
    cases q : rowP st (w :: ws) with
    | error k => rw [q] at h; cases h
    | ok s => rw [q] at h; exact rowsP_full r _ _ s st' h
/-! ### what is read is a custom -/
theorem fracP_W {k : Nat} {ws : List Str} {f : Nat × Nat} (h : fracP k ws = .ok f) : FracW f.1 f.2 := by
  unfold fracP at h
  cases q : numZ 1 1000 (ws.getD k "") with
  | none => rw [q] at h; cases h
  | some t =>
    rw [q] at h
    dsimp only at h
    split at h
    · cases q2 : numZ t 1000 (ws.getD (k + 2) "") with
      | none => rw [q2] at h; cases h
      | some b =>
        rw [q2] at h
        cases h
        obtain ⟨_, t1, t2⟩ := numZ_some q
        obtain ⟨_, b1, b2⟩ := numZ_some q2
        have g0 : 0 < Nat.gcd t b := Nat.gcd_pos_of_pos_left _ t1
        have g1 : Nat.gcd t b ≤ t := Nat.gcd_le_left _ t1
        exact ⟨Nat.div_pos g1 g0, Nat.div_le_div_right b1, Nat.le_trans (Nat.div_le_self _ _) b2, Nat.gcd_div_gcd_div_gcd_of_pos_left t1⟩
    · cases h
theorem FracW.ok {t b : Nat} (f : FracW t b) : FracOk t b := .inr f
theorem orderP_Ok {known : List Ord} {ws : List Str} {o : Ord} (h : orderP known ws = .ok o) : o.Ok ∧ known.any (Ord.is o.line o.k) = false := by
  unfold orderP at h
  cases q : numZ (if ws.getD 0 "" = "line" then 0 else 1) (if ws.getD 0 "" = "line" then 3 else 6) (ws.getD 1 "") with
  | none => rw [q] at h; cases h
  | some n =>
    rw [q] at h
    dsimp only at h
    obtain ⟨_, n1, n2⟩ := numZ_some q
    have hk : if decide (ws.getD 0 "" = "line") = true then n ≤ 3 else 1 ≤ n ∧ n ≤ 6 := by
      by_cases e : ws.getD 0 "" = "line"
      · rw [if_pos e] at n1 n2
        rw [if_pos (decide_eq_true e)]; exact n2
      · rw [if_neg e] at n1 n2
        rw [if_neg (by rw [decide_eq_false e]; exact Bool.false_ne_true)]; exact ⟨n1, n2⟩
    cases q2 : known.any (Ord.is (decide (ws.getD 0 "" = "line")) n) with
    | true => rw [q2, if_pos rfl] at h; cases h
    | false =>
      rw [q2, if_neg Bool.false_ne_true] at h
      split at h
      · cases h
        exact ⟨⟨hk, .inl ⟨rfl, rfl⟩⟩, q2⟩
      · split at h
        · cases q3 : fracP 3 ws with
          | error j => rw [q3] at h; cases h
          | ok f =>
            rw [q3] at h
            cases h
            exact ⟨⟨hk, (fracP_W q3).ok⟩, q2⟩
        · cases h
theorem rowP_Ok {st st' : CSt} {ws : List Str} (h : rowP st ws = .ok st') (ok : st.Ok) : st'.Ok := by
  unfold rowP at h
  split at h
  · split at h
    · rename_i hs
      cases q : orderP st.os ws with
      | error j => rw [q] at h; cases h
      | ok o =>
        rw [q] at h
        dsimp only at h
        split at h
        · cases h
          obtain ⟨o1, o2⟩ := orderP_Ok q
          refine ⟨fun x hx => ?_, ?_, ?_, ok.kept, ok.back⟩
          · rcases List.mem_append.mp hx with hx | hx
            · exact ok.os x hx
            · rw [List.mem_singleton.mp hx]; exact o1
          · show ((st.os ++ [o]).map _).Nodup
            rw [List.map_append, List.nodup_append]
            refine ⟨ok.nd, by simp, fun a ha b hb e => ?_⟩
            obtain ⟨x, hx, rfl⟩ := List.mem_map.mp ha
            have hb := List.mem_singleton.mp hb
            rw [hb] at e
            have := List.any_eq_false.mp o2 x hx
            refine this (decide_eq_true ?_)
            injection e with e1 e2
            exact ⟨e1, e2⟩
          · show (st.os ++ [o]).length ≤ 6
            rw [List.length_append]
            show st.os.length + 1 ≤ 6
            omega
        · cases h
    · cases h
  · split at h
    · split at h
      · split at h
        · cases h
          exact ⟨ok.os, ok.nd, ok.len, ok.kept, ok.back⟩
        · cases h
      · split at h
        · cases q : fracP 1 ws with
          | error j => rw [q] at h; cases h
          | ok f =>
            rw [q] at h
            dsimp only at h
            split at h
            · cases h
              exact ⟨ok.os, ok.nd, ok.len, (fracP_W q).ok, ok.back⟩
            · cases h
        · cases q : numZ 0 99999 (ws.getD 1 "") with
          | none => rw [q] at h; cases h
          | some n =>
            rw [q] at h
            dsimp only at h
            split at h
            · cases h
              exact ⟨ok.os, ok.nd, ok.len, ok.kept, (numZ_some q).2.2⟩
            · cases h
    · cases h
theorem rowsP_Ok : ∀ {rows : List (List Str)} {i : Nat} {st st' : CSt}, rowsP i st rows = .ok st' → st.Ok → st'.Ok
  | [], _, _, _, h, ok => by cases h; exact ok
  | ws :: r, i, st, st', h, ok => by
    unfold rowsP at h
    split at h
    · exact rowsP_Ok h ok
    · cases q : rowP st ws with
      | error j => rw [q] at h; cases h
      | ok s => rw [q] at h; exact rowsP_Ok h (rowP_Ok q ok)
theorem cst0_Ok : cst0.Ok := ⟨fun _ h => (by cases h), List.nodup_nil, by decide, .inl ⟨rfl, rfl⟩, by decide⟩
theorem custP_Ok {rows : List (List Str)} {st : CSt} (h : custP rows = .ok st) : st.Ok ∧ st.os ≠ [] := by
  unfold custP at h
  cases q : rowsP 0 cst0 rows with
  | error e => rw [q] at h; cases h
  | ok s =>
    rw [q] at h
    dsimp only at h
    split at h
    · cases h
    · rename_i ne
      cases h
      exact ⟨rowsP_Ok q cst0_Ok, ne⟩
/-- rows that tell a custom, empty ones between, are read to it -/
theorem custP_tells {rows : List (List Str)} {Rs : List (List Str)} {st : CSt} (ok : st.Ok) (ne : st.os ≠ []) (hf : rows.filter (fun ws => !ws.isEmpty) = Rs) (ht : Paired EntTells Rs st.ents) : ∃ st', custP rows = .ok st' ∧ st'.data = st.data := by
  obtain ⟨c, d, o⟩ := ents_can ok ne
  have h := rowsP_full rows 0 0 cst0 _ (by rw [hf]; exact rowsP_app ht 0 cst0 c)
  refine ⟨st.ents.foldl CSt.app cst0, ?_, d⟩
  unfold custP
  rw [h]
  dsimp only
  rw [o, if_neg ne]
end My
set_option Elab.async false
set_option linter.all false
set_option maxRecDepth 100000
set_option maxHeartbeats 4000000
namespace K04
open PySem PySem.Spec PyProof.Rows L2 My
def topS (i : Nat) : Stmt := PySem.Challenge.pw_heirwood_k04_customs_read.main.body.getD i (.Pass ⟨0, 0, 0, 0⟩)
abbrev s_BadSign___init__ : Stmt := inClass (topS 3) 0
abbrev N_BadSign___init__ : List Str := ["self", "spot"]
theorem sc_BadSign___init__ : FnScope N_BadSign___init__ ["self", "spot"] (defScope s_BadSign___init__) := ⟨rfl, rfl, rfl, by decide +kernel, rfl, by decide +kernel, by decide +kernel⟩
def d_BadSign___init__ : He.DefD := ⟨("BadSign", some "__init__"), "__init__", "BadSign.__init__", defArgs s_BadSign___init__, defBody s_BadSign___init__, defScope s_BadSign___init__, [], []⟩
abbrev s_BadText___init__ : Stmt := inClass (topS 4) 0
abbrev N_BadText___init__ : List Str := ["self", "spot"]
theorem sc_BadText___init__ : FnScope N_BadText___init__ ["self", "spot"] (defScope s_BadText___init__) := ⟨rfl, rfl, rfl, by decide +kernel, rfl, by decide +kernel, by decide +kernel⟩
def d_BadText___init__ : He.DefD := ⟨("BadText", some "__init__"), "__init__", "BadText.__init__", defArgs s_BadText___init__, defBody s_BadText___init__, defScope s_BadText___init__, [], []⟩
abbrev s_divisor : Stmt := topS 12
abbrev N_divisor : List Str := ["one", "other"]
theorem sc_divisor : FnScope N_divisor ["one", "other"] (defScope s_divisor) := ⟨rfl, rfl, rfl, by decide +kernel, rfl, by decide +kernel, by decide +kernel⟩
def d_divisor : He.DefD := ⟨("divisor", none), "divisor", "divisor", defArgs s_divisor, defBody s_divisor, defScope s_divisor, [], []⟩
abbrev s_fraction : Stmt := topS 13
abbrev N_fraction : List Str := ["top", "bottom", "by"]
theorem sc_fraction : FnScope N_fraction ["top", "bottom"] (defScope s_fraction) := ⟨rfl, rfl, rfl, by decide +kernel, rfl, by decide +kernel, by decide +kernel⟩
def d_fraction : He.DefD := ⟨("fraction", none), "fraction", "fraction", defArgs s_fraction, defBody s_fraction, defScope s_fraction, [], []⟩
abbrev s_run_end : Stmt := topS 20
abbrev N_run_end : List Str := ["row", "at", "signs", "end"]
theorem sc_run_end : FnScope N_run_end ["row", "at", "signs"] (defScope s_run_end) := ⟨rfl, rfl, rfl, by decide +kernel, rfl, by decide +kernel, by decide +kernel⟩
def d_run_end : He.DefD := ⟨("run_end", none), "run_end", "run_end", defArgs s_run_end, defBody s_run_end, defScope s_run_end, [], []⟩
abbrev s_word_end : Stmt := topS 21
abbrev N_word_end : List Str := ["row", "at", "end"]
theorem sc_word_end : FnScope N_word_end ["row", "at"] (defScope s_word_end) := ⟨rfl, rfl, rfl, by decide +kernel, rfl, by decide +kernel, by decide +kernel⟩
def d_word_end : He.DefD := ⟨("word_end", none), "word_end", "word_end", defArgs s_word_end, defBody s_word_end, defScope s_word_end, [], []⟩
abbrev s_row_words : Stmt := topS 22
abbrev N_row_words : List Str := ["row", "begin", "found", "at", "end"]
theorem sc_row_words : FnScope N_row_words ["row", "begin"] (defScope s_row_words) := ⟨rfl, rfl, rfl, by decide +kernel, rfl, by decide +kernel, by decide +kernel⟩
def d_row_words : He.DefD := ⟨("row_words", none), "row_words", "row_words", defArgs s_row_words, defBody s_row_words, defScope s_row_words, [], []⟩
abbrev s_text_words : Stmt := topS 23
abbrev N_text_words : List Str := ["text", "found", "begin", "row"]
theorem sc_text_words : FnScope N_text_words ["text"] (defScope s_text_words) := ⟨rfl, rfl, rfl, by decide +kernel, rfl, by decide +kernel, by decide +kernel⟩
def d_text_words : He.DefD := ⟨("text_words", none), "text_words", "text_words", defArgs s_text_words, defBody s_text_words, defScope s_text_words, [], []⟩
abbrev s_is_number : Stmt := topS 24
abbrev N_is_number : List Str := ["word"]
theorem sc_is_number : FnScope N_is_number ["word"] (defScope s_is_number) := ⟨rfl, rfl, rfl, by decide +kernel, rfl, by decide +kernel, by decide +kernel⟩
def d_is_number : He.DefD := ⟨("is_number", none), "is_number", "is_number", defArgs s_is_number, defBody s_is_number, defScope s_is_number, [], []⟩
abbrev s_Reader___init__ : Stmt := inClass (topS 29) 0
abbrev N_Reader___init__ : List Str := ["self", "row", "line"]
theorem sc_Reader___init__ : FnScope N_Reader___init__ ["self", "row", "line"] (defScope s_Reader___init__) := ⟨rfl, rfl, rfl, by decide +kernel, rfl, by decide +kernel, by decide +kernel⟩
def d_Reader___init__ : He.DefD := ⟨("Reader", some "__init__"), "__init__", "Reader.__init__", defArgs s_Reader___init__, defBody s_Reader___init__, defScope s_Reader___init__, [], []⟩
abbrev s_Reader_need : Stmt := inClass (topS 29) 1
abbrev N_Reader_need : List Str := ["self", "good"]
theorem sc_Reader_need : FnScope N_Reader_need ["self", "good"] (defScope s_Reader_need) := ⟨rfl, rfl, rfl, by decide +kernel, rfl, by decide +kernel, by decide +kernel⟩
def d_Reader_need : He.DefD := ⟨("Reader", some "need"), "need", "Reader.need", defArgs s_Reader_need, defBody s_Reader_need, defScope s_Reader_need, [], []⟩
abbrev s_Reader_peek : Stmt := inClass (topS 29) 2
abbrev N_Reader_peek : List Str := ["self"]
theorem sc_Reader_peek : FnScope N_Reader_peek ["self"] (defScope s_Reader_peek) := ⟨rfl, rfl, rfl, by decide +kernel, rfl, by decide +kernel, by decide +kernel⟩
def d_Reader_peek : He.DefD := ⟨("Reader", some "peek"), "peek", "Reader.peek", defArgs s_Reader_peek, defBody s_Reader_peek, defScope s_Reader_peek, [], []⟩
abbrev s_Reader_go : Stmt := inClass (topS 29) 3
abbrev N_Reader_go : List Str := ["self", "word"]
theorem sc_Reader_go : FnScope N_Reader_go ["self"] (defScope s_Reader_go) := ⟨rfl, rfl, rfl, by decide +kernel, rfl, by decide +kernel, by decide +kernel⟩
def d_Reader_go : He.DefD := ⟨("Reader", some "go"), "go", "Reader.go", defArgs s_Reader_go, defBody s_Reader_go, defScope s_Reader_go, [], []⟩
abbrev s_Reader_take_word : Stmt := inClass (topS 29) 4
abbrev N_Reader_take_word : List Str := ["self", "word"]
theorem sc_Reader_take_word : FnScope N_Reader_take_word ["self", "word"] (defScope s_Reader_take_word) := ⟨rfl, rfl, rfl, by decide +kernel, rfl, by decide +kernel, by decide +kernel⟩
def d_Reader_take_word : He.DefD := ⟨("Reader", some "take_word"), "take_word", "Reader.take_word", defArgs s_Reader_take_word, defBody s_Reader_take_word, defScope s_Reader_take_word, [], []⟩
abbrev s_Reader_take_number : Stmt := inClass (topS 29) 6
abbrev N_Reader_take_number : List Str := ["self", "low", "high"]
theorem sc_Reader_take_number : FnScope N_Reader_take_number ["self", "low", "high"] (defScope s_Reader_take_number) := ⟨rfl, rfl, rfl, by decide +kernel, rfl, by decide +kernel, by decide +kernel⟩
def d_Reader_take_number : He.DefD := ⟨("Reader", some "take_number"), "take_number", "Reader.take_number", defArgs s_Reader_take_number, defBody s_Reader_take_number, defScope s_Reader_take_number, [], []⟩
abbrev s_Reader_take_fraction : Stmt := inClass (topS 29) 7
abbrev N_Reader_take_fraction : List Str := ["self", "top"]
theorem sc_Reader_take_fraction : FnScope N_Reader_take_fraction ["self"] (defScope s_Reader_take_fraction) := ⟨rfl, rfl, rfl, by decide +kernel, rfl, by decide +kernel, by decide +kernel⟩
def d_Reader_take_fraction : He.DefD := ⟨("Reader", some "take_fraction"), "take_fraction", "Reader.take_fraction", defArgs s_Reader_take_fraction, defBody s_Reader_take_fraction, defScope s_Reader_take_fraction, [], []⟩
abbrev s_Reader_over : Stmt := inClass (topS 29) 10
abbrev N_Reader_over : List Str := ["self"]
theorem sc_Reader_over : FnScope N_Reader_over ["self"] (defScope s_Reader_over) := ⟨rfl, rfl, rfl, by decide +kernel, rfl, by decide +kernel, by decide +kernel⟩
def d_Reader_over : He.DefD := ⟨("Reader", some "over"), "over", "Reader.over", defArgs s_Reader_over, defBody s_Reader_over, defScope s_Reader_over, [], []⟩
abbrev s_Reader_take_order : Stmt := inClass (topS 29) 15
abbrev N_Reader_take_order : List Str := ["self", "known", "sort", "low", "high", "number", "part"]
theorem sc_Reader_take_order : FnScope N_Reader_take_order ["self", "known"] (defScope s_Reader_take_order) := ⟨rfl, rfl, rfl, by decide +kernel, rfl, by decide +kernel, by decide +kernel⟩
def d_Reader_take_order : He.DefD := ⟨("Reader", some "take_order"), "take_order", "Reader.take_order", defArgs s_Reader_take_order, defBody s_Reader_take_order, defScope s_Reader_take_order, [], []⟩
abbrev s_CustomReader___init__ : Stmt := inClass (topS 30) 0
abbrev N_CustomReader___init__ : List Str := ["self"]
theorem sc_CustomReader___init__ : FnScope N_CustomReader___init__ ["self"] (defScope s_CustomReader___init__) := ⟨rfl, rfl, rfl, by decide +kernel, rfl, by decide +kernel, by decide +kernel⟩
def d_CustomReader___init__ : He.DefD := ⟨("CustomReader", some "__init__"), "__init__", "CustomReader.__init__", defArgs s_CustomReader___init__, defBody s_CustomReader___init__, defScope s_CustomReader___init__, [], []⟩
abbrev s_CustomReader_take_more : Stmt := inClass (topS 30) 2
abbrev N_CustomReader_take_more : List Str := ["self", "reader", "word"]
theorem sc_CustomReader_take_more : FnScope N_CustomReader_take_more ["self", "reader", "word"] (defScope s_CustomReader_take_more) := ⟨rfl, rfl, rfl, by decide +kernel, rfl, by decide +kernel, by decide +kernel⟩
def d_CustomReader_take_more : He.DefD := ⟨("CustomReader", some "take_more"), "take_more", "CustomReader.take_more", defArgs s_CustomReader_take_more, defBody s_CustomReader_take_more, defScope s_CustomReader_take_more, [], []⟩
abbrev s_CustomReader_take : Stmt := inClass (topS 30) 1
abbrev N_CustomReader_take : List Str := ["self", "reader", "word", "stage", "sort", "number", "part"]
theorem sc_CustomReader_take : FnScope N_CustomReader_take ["self", "reader"] (defScope s_CustomReader_take) := ⟨rfl, rfl, rfl, by decide +kernel, rfl, by decide +kernel, by decide +kernel⟩
def d_CustomReader_take : He.DefD := ⟨("CustomReader", some "take"), "take", "CustomReader.take", defArgs s_CustomReader_take, defBody s_CustomReader_take, defScope s_CustomReader_take, [], []⟩
abbrev s_CustomReader_custom_told : Stmt := inClass (topS 30) 3
abbrev N_CustomReader_custom_told : List Str := ["self"]
theorem sc_CustomReader_custom_told : FnScope N_CustomReader_custom_told ["self"] (defScope s_CustomReader_custom_told) := ⟨rfl, rfl, rfl, by decide +kernel, rfl, by decide +kernel, by decide +kernel⟩
def d_CustomReader_custom_told : He.DefD := ⟨("CustomReader", some "custom_told"), "custom_told", "CustomReader.custom_told", defArgs s_CustomReader_custom_told, defBody s_CustomReader_custom_told, defScope s_CustomReader_custom_told, [], []⟩
abbrev s_read_custom : Stmt := topS 31
abbrev N_read_custom : List Str := ["text", "rows", "found", "line", "row"]
theorem sc_read_custom : FnScope N_read_custom ["text"] (defScope s_read_custom) := ⟨rfl, rfl, rfl, by decide +kernel, rfl, by decide +kernel, by decide +kernel⟩
def d_read_custom : He.DefD := ⟨("read_custom", none), "read_custom", "read_custom", defArgs s_read_custom, defBody s_read_custom, defScope s_read_custom, [], []⟩
abbrev s_part_text : Stmt := topS 33
abbrev N_part_text : List Str := ["part"]
theorem sc_part_text : FnScope N_part_text ["part"] (defScope s_part_text) := ⟨rfl, rfl, rfl, by decide +kernel, rfl, by decide +kernel, by decide +kernel⟩
def d_part_text : He.DefD := ⟨("part_text", none), "part_text", "part_text", defArgs s_part_text, defBody s_part_text, defScope s_part_text, [], []⟩
abbrev s_order_text : Stmt := topS 34
abbrev N_order_text : List Str := ["order", "found"]
theorem sc_order_text : FnScope N_order_text ["order"] (defScope s_order_text) := ⟨rfl, rfl, rfl, by decide +kernel, rfl, by decide +kernel, by decide +kernel⟩
def d_order_text : He.DefD := ⟨("order_text", none), "order_text", "order_text", defArgs s_order_text, defBody s_order_text, defScope s_order_text, [], []⟩
abbrev s_written_custom : Stmt := topS 35
abbrev N_written_custom : List Str := ["custom", "orders", "halves", "kept", "back", "rows", "order"]
theorem sc_written_custom : FnScope N_written_custom ["custom"] (defScope s_written_custom) := ⟨rfl, rfl, rfl, by decide +kernel, rfl, by decide +kernel, by decide +kernel⟩
def d_written_custom : He.DefD := ⟨("written_custom", none), "written_custom", "written_custom", defArgs s_written_custom, defBody s_written_custom, defScope s_written_custom, [], []⟩
abbrev s__law_next : Stmt := topS 37
abbrev N__law_next : List Str := ["_law_state", "_law_many", "_law_k", "_law_cells", "_law_cell", "_law_number"]
theorem sc__law_next : FnScope N__law_next ["_law_state", "_law_many"] (defScope s__law_next) := ⟨rfl, rfl, rfl, by decide +kernel, rfl, by decide +kernel, by decide +kernel⟩
def d__law_next : He.DefD := ⟨("_law_next", none), "_law_next", "_law_next", defArgs s__law_next, defBody s__law_next, defScope s__law_next, [], []⟩
abbrev s__law_part : Stmt := topS 38
abbrev N__law_part : List Str := ["_law_state", "_law_bottom", "_law_top", "_law_one", "_law_other"]
theorem sc__law_part : FnScope N__law_part ["_law_state"] (defScope s__law_part) := ⟨rfl, rfl, rfl, by decide +kernel, rfl, by decide +kernel, by decide +kernel⟩
def d__law_part : He.DefD := ⟨("_law_part", none), "_law_part", "_law_part", defArgs s__law_part, defBody s__law_part, defScope s__law_part, [], []⟩
abbrev s__law_custom : Stmt := topS 39
abbrev N__law_custom : List Str := ["_law_state", "_law_all_of", "_law_at", "_law_step", "_law_some", "_law_orders", "_law_kept", "_law_k", "_law_pair"]
theorem sc__law_custom : FnScope N__law_custom ["_law_state"] (defScope s__law_custom) := ⟨rfl, rfl, rfl, by decide +kernel, rfl, by decide +kernel, by decide +kernel⟩
def d__law_custom : He.DefD := ⟨("_law_custom", none), "_law_custom", "_law_custom", defArgs s__law_custom, defBody s__law_custom, defScope s__law_custom, [], []⟩
abbrev s__law_words_of : Stmt := topS 40
abbrev N__law_words_of : List Str := ["_law_custom_here", "_law_rows", "_law_sort", "_law_number", "_law_part_here"]
theorem sc__law_words_of : FnScope N__law_words_of ["_law_custom_here"] (defScope s__law_words_of) := ⟨rfl, rfl, rfl, by decide +kernel, rfl, by decide +kernel, by decide +kernel⟩
def d__law_words_of : He.DefD := ⟨("_law_words_of", none), "_law_words_of", "_law_words_of", defArgs s__law_words_of, defBody s__law_words_of, defScope s__law_words_of, [], []⟩
abbrev s__law_loose : Stmt := topS 41
abbrev N__law_loose : List Str := ["_law_state", "_law_rows", "_law_text", "_law_row", "_law_word", "_law_plain"]
theorem sc__law_loose : FnScope N__law_loose ["_law_state", "_law_rows"] (defScope s__law_loose) := ⟨rfl, rfl, rfl, by decide +kernel, rfl, by decide +kernel, by decide +kernel⟩
def d__law_loose : He.DefD := ⟨("_law_loose", none), "_law_loose", "_law_loose", defArgs s__law_loose, defBody s__law_loose, defScope s__law_loose, [], []⟩
abbrev s__law_class : Stmt := topS 42
abbrev N__law_class : List Str := ["_law_e", "_law_told_here", "_law_found"]
theorem sc__law_class : FnScope N__law_class ["_law_e"] (defScope s__law_class) := ⟨rfl, rfl, rfl, by decide +kernel, rfl, by decide +kernel, by decide +kernel⟩
def d__law_class : He.DefD := ⟨("_law_class", none), "_law_class", "_law_class", defArgs s__law_class, defBody s__law_class, defScope s__law_class, [], []⟩
abbrev s__law_wide : Stmt := topS 43
abbrev N__law_wide : List Str := ["_law_state", "_law_row", "_law_many"]
theorem sc__law_wide : FnScope N__law_wide ["_law_state", "_law_row"] (defScope s__law_wide) := ⟨rfl, rfl, rfl, by decide +kernel, rfl, by decide +kernel, by decide +kernel⟩
def d__law_wide : He.DefD := ⟨("_law_wide", none), "_law_wide", "_law_wide", defArgs s__law_wide, defBody s__law_wide, defScope s__law_wide, [], []⟩
abbrev s__law_bent : Stmt := topS 44
abbrev N__law_bent : List Str := ["_law_state", "_law_rows", "_law_at", "_law_row", "_law_spot", "_law_way", "_law_some", "_law_word", "_law_pair", "_law_more"]
theorem sc__law_bent : FnScope N__law_bent ["_law_state", "_law_rows"] (defScope s__law_bent) := ⟨rfl, rfl, rfl, by decide +kernel, rfl, by decide +kernel, by decide +kernel⟩
def d__law_bent : He.DefD := ⟨("_law_bent", none), "_law_bent", "_law_bent", defArgs s__law_bent, defBody s__law_bent, defScope s__law_bent, [], []⟩
abbrev s__law_is_in : Stmt := topS 45
abbrev N__law_is_in : List Str := ["_law_word", "_law_low", "_law_high"]
theorem sc__law_is_in : FnScope N__law_is_in ["_law_word", "_law_low", "_law_high"] (defScope s__law_is_in) := ⟨rfl, rfl, rfl, by decide +kernel, rfl, by decide +kernel, by decide +kernel⟩
def d__law_is_in : He.DefD := ⟨("_law_is_in", none), "_law_is_in", "_law_is_in", defArgs s__law_is_in, defBody s__law_is_in, defScope s__law_is_in, [], []⟩
abbrev s__law_fraction_wrong : Stmt := topS 46
abbrev N__law_fraction_wrong : List Str := ["_law_row", "_law_at"]
theorem sc__law_fraction_wrong : FnScope N__law_fraction_wrong ["_law_row", "_law_at"] (defScope s__law_fraction_wrong) := ⟨rfl, rfl, rfl, by decide +kernel, rfl, by decide +kernel, by decide +kernel⟩
def d__law_fraction_wrong : He.DefD := ⟨("_law_fraction_wrong", none), "_law_fraction_wrong", "_law_fraction_wrong", defArgs s__law_fraction_wrong, defBody s__law_fraction_wrong, defScope s__law_fraction_wrong, [], []⟩
abbrev s__law_order_wrong : Stmt := topS 47
abbrev N__law_order_wrong : List Str := ["_law_row", "_law_known", "_law_low", "_law_high"]
theorem sc__law_order_wrong : FnScope N__law_order_wrong ["_law_row", "_law_known"] (defScope s__law_order_wrong) := ⟨rfl, rfl, rfl, by decide +kernel, rfl, by decide +kernel, by decide +kernel⟩
def d__law_order_wrong : He.DefD := ⟨("_law_order_wrong", none), "_law_order_wrong", "_law_order_wrong", defArgs s__law_order_wrong, defBody s__law_order_wrong, defScope s__law_order_wrong, [], []⟩
abbrev s__law_row_wrong : Stmt := topS 48
abbrev N__law_row_wrong : List Str := ["_law_row", "_law_known", "_law_stage"]
theorem sc__law_row_wrong : FnScope N__law_row_wrong ["_law_row", "_law_known", "_law_stage"] (defScope s__law_row_wrong) := ⟨rfl, rfl, rfl, by decide +kernel, rfl, by decide +kernel, by decide +kernel⟩
def d__law_row_wrong : He.DefD := ⟨("_law_row_wrong", none), "_law_row_wrong", "_law_row_wrong", defArgs s__law_row_wrong, defBody s__law_row_wrong, defScope s__law_row_wrong, [], []⟩
abbrev s__law_due : Stmt := topS 49
abbrev N__law_due : List Str := ["_law_rows", "_law_known", "_law_stage", "_law_line", "_law_row", "_law_lost"]
theorem sc__law_due : FnScope N__law_due ["_law_rows"] (defScope s__law_due) := ⟨rfl, rfl, rfl, by decide +kernel, rfl, by decide +kernel, by decide +kernel⟩
def d__law_due : He.DefD := ⟨("_law_due", none), "_law_due", "_law_due", defArgs s__law_due, defBody s__law_due, defScope s__law_due, [], []⟩
abbrev s__law_told : Stmt := topS 50
abbrev N__law_told : List Str := ["_law_text", "_law_error", "_law_found", "_law_e", "_law_word"]
theorem sc__law_told : FnScope N__law_told ["_law_text"] (defScope s__law_told) := ⟨rfl, rfl, rfl, by decide +kernel, rfl, by decide +kernel, by decide +kernel⟩
def d__law_told : He.DefD := ⟨("_law_told", none), "_law_told", "_law_told", defArgs s__law_told, defBody s__law_told, defScope s__law_told, [], []⟩
abbrev s__law_right : Stmt := topS 51
abbrev N__law_right : List Str := ["_law_rows", "_law_due_here", "_law_text", "_law_found", "_law_row"]
theorem sc__law_right : FnScope N__law_right ["_law_rows"] (defScope s__law_right) := ⟨rfl, rfl, rfl, by decide +kernel, rfl, by decide +kernel, by decide +kernel⟩
def d__law_right : He.DefD := ⟨("_law_right", none), "_law_right", "_law_right", defArgs s__law_right, defBody s__law_right, defScope s__law_right, [], []⟩
abbrev s_law : Stmt := topS 52
abbrev N_law : List Str := ["_law_script", "_law_state", "_law_k", "_law_custom_here", "_law_rows", "_law_text", "_law_turn", "_law_odd", "_law_row"]
theorem sc_law : FnScope N_law ["_law_script"] (defScope s_law) := ⟨rfl, rfl, rfl, by decide +kernel, rfl, by decide +kernel, by decide +kernel⟩
def d_law : He.DefD := ⟨("law", none), "law", "law", defArgs s_law, defBody s_law, defScope s_law, [], []⟩
def fn : List He.DefD := [d_BadSign___init__, d_BadText___init__, d_divisor, d_fraction, d_run_end, d_word_end, d_row_words, d_text_words, d_is_number, d_Reader___init__, d_Reader_need, d_Reader_peek, d_Reader_go, d_Reader_take_word, d_Reader_take_number, d_Reader_take_fraction, d_Reader_over, d_Reader_take_order, d_CustomReader___init__, d_CustomReader_take_more, d_CustomReader_take, d_CustomReader_custom_told, d_read_custom, d_part_text, d_order_text, d_written_custom, d__law_next, d__law_part, d__law_custom, d__law_words_of, d__law_loose, d__law_class, d__law_wide, d__law_bent, d__law_is_in, d__law_fraction_wrong, d__law_order_wrong, d__law_row_wrong, d__law_due, d__law_told, d__law_right, d_law]
def fa : List He.Fa := [.glo "divisor", .glo "fraction", .glo "run_end", .glo "word_end", .glo "row_words", .glo "text_words", .glo "is_number", .glo "read_custom", .glo "part_text", .glo "order_text", .glo "written_custom", .glo "_law_next", .glo "_law_part", .glo "_law_custom", .glo "_law_words_of", .glo "_law_loose", .glo "_law_class", .glo "_law_wide", .glo "_law_bent", .glo "_law_is_in", .glo "_law_fraction_wrong", .glo "_law_order_wrong", .glo "_law_row_wrong", .glo "_law_due", .glo "_law_told", .glo "_law_right", .glo "law", .free "abs", .free "len", .free "str", .free "isinstance", .free "int", .free "tuple", .free "enumerate", .free "range", .free "ValueError", .free "min", .cls "Reader", .mkr "Reader", .noat "Reader" "row", .noat "Reader" "line", .noat "Reader" "at", .meth "Reader" "need", .meth "Reader" "peek", .meth "Reader" "go", .meth "Reader" "take_word", .meth "Reader" "take_number", .meth "Reader" "take_fraction", .meth "Reader" "over", .meth "Reader" "take_order", .cls "CustomReader", .mkr "CustomReader", .noat "CustomReader" "orders", .noat "CustomReader" "halves", .noat "CustomReader" "kept", .noat "CustomReader" "back", .noat "CustomReader" "stage", .meth "CustomReader" "take_more", .meth "CustomReader" "take", .meth "CustomReader" "custom_told", .str "LETTERS" "abcdefghijklmnopqrstuvwxyz", .int "MOST_LETTERS" 8, .str "FIGURES" "0123456789", .int "MOST_FIGURES" 12, .int "MOST_SIGNS" 8000, .int "MOST_BOTTOM" 1000, .glo "NOUGHT", .int "LAST_DAY" 99999, .int "MOST_ORDERS" 6, .glo "NoOne", .glo "BadFacts", .glo "BadText", .glo "BadSign", .glo "TooMany", .glo "BadLine", .glo "Alive", .glo "HeirError", .glo "Reader", .glo "CustomReader"]
def dv_NOUGHT : List He.Dv := [.int 0, .int 1]
def ex (K : PySem.W.Frag) : Bool := exAll [He.tupB K "NOUGHT" dv_NOUGHT, oexB K "BadSign", oexB K "BadText", He.eqO (PySem.W.findIn K (.ref (He.ga K "BadSign")) "spot") (some none), He.eqO (PySem.W.findIn K (.ref (He.ga K "BadText")) "spot") (some none), decide (PySem.W.exmOne K (.ref (He.ga K "BadSign")) (.ref (He.ga K "HeirError")) = some true), decide (PySem.W.kitOne K (.ref (He.ga K "BadSign")) (.ref (He.ga K "BadSign")) = some true), decide (PySem.W.kitOne K (.ref (He.ga K "BadSign")) (.ref (He.ga K "BadText")) = some false), decide (PySem.W.kitOne K (.ref (He.ga K "BadSign")) (.ref (He.ga K "BadFacts")) = some false), decide (PySem.W.kitOne K (.ref (He.ga K "BadSign")) (.ref (He.ga K "NoOne")) = some false), decide (PySem.W.kitOne K (.ref (He.ga K "BadSign")) (.ref (He.ga K "Alive")) = some false), decide (PySem.W.kitOne K (.ref (He.ga K "BadSign")) (.ref (He.ga K "BadLine")) = some false), decide (PySem.W.kitOne K (.ref (He.ga K "BadSign")) (.ref (He.ga K "TooMany")) = some false), decide (PySem.W.kitOne K (.ref (He.ga K "BadSign")) (.type "ValueError") = some true), decide (PySem.W.exmOne K (.ref (He.ga K "BadText")) (.ref (He.ga K "HeirError")) = some true), decide (PySem.W.kitOne K (.ref (He.ga K "BadText")) (.ref (He.ga K "BadSign")) = some false), decide (PySem.W.kitOne K (.ref (He.ga K "BadText")) (.ref (He.ga K "BadText")) = some true), decide (PySem.W.kitOne K (.ref (He.ga K "BadText")) (.ref (He.ga K "BadFacts")) = some false), decide (PySem.W.kitOne K (.ref (He.ga K "BadText")) (.ref (He.ga K "NoOne")) = some false), decide (PySem.W.kitOne K (.ref (He.ga K "BadText")) (.ref (He.ga K "Alive")) = some false), decide (PySem.W.kitOne K (.ref (He.ga K "BadText")) (.ref (He.ga K "BadLine")) = some false), decide (PySem.W.kitOne K (.ref (He.ga K "BadText")) (.ref (He.ga K "TooMany")) = some false), decide (PySem.W.kitOne K (.ref (He.ga K "BadText")) (.type "ValueError") = some true)]
structure Txt (K : PySem.W.Frag) (mg : Str → Option Value) : Prop where
  all : ∃ h : Heap, K.In h ∧ h.Ns mainGlobals mg
  c : He.SaysD fa fn K
  e : ex K = true
section
variable {K : PySem.W.Frag} {mg : Str → Option Value}
theorem Txt.g_divisor (T : Txt K mg) : mg "divisor" = some (.ref (He.ga K "divisor")) := T.all.elim fun _ z => He.glo_ok z.1 z.2 (T.c.fact 0 (f := .glo "divisor") rfl)
theorem Txt.g_fraction (T : Txt K mg) : mg "fraction" = some (.ref (He.ga K "fraction")) := T.all.elim fun _ z => He.glo_ok z.1 z.2 (T.c.fact 1 (f := .glo "fraction") rfl)
theorem Txt.g_run_end (T : Txt K mg) : mg "run_end" = some (.ref (He.ga K "run_end")) := T.all.elim fun _ z => He.glo_ok z.1 z.2 (T.c.fact 2 (f := .glo "run_end") rfl)
theorem Txt.g_word_end (T : Txt K mg) : mg "word_end" = some (.ref (He.ga K "word_end")) := T.all.elim fun _ z => He.glo_ok z.1 z.2 (T.c.fact 3 (f := .glo "word_end") rfl)
theorem Txt.g_row_words (T : Txt K mg) : mg "row_words" = some (.ref (He.ga K "row_words")) := T.all.elim fun _ z => He.glo_ok z.1 z.2 (T.c.fact 4 (f := .glo "row_words") rfl)
theorem Txt.g_text_words (T : Txt K mg) : mg "text_words" = some (.ref (He.ga K "text_words")) := T.all.elim fun _ z => He.glo_ok z.1 z.2 (T.c.fact 5 (f := .glo "text_words") rfl)
theorem Txt.g_is_number (T : Txt K mg) : mg "is_number" = some (.ref (He.ga K "is_number")) := T.all.elim fun _ z => He.glo_ok z.1 z.2 (T.c.fact 6 (f := .glo "is_number") rfl)
theorem Txt.g_read_custom (T : Txt K mg) : mg "read_custom" = some (.ref (He.ga K "read_custom")) := T.all.elim fun _ z => He.glo_ok z.1 z.2 (T.c.fact 7 (f := .glo "read_custom") rfl)
theorem Txt.g_part_text (T : Txt K mg) : mg "part_text" = some (.ref (He.ga K "part_text")) := T.all.elim fun _ z => He.glo_ok z.1 z.2 (T.c.fact 8 (f := .glo "part_text") rfl)
theorem Txt.g_order_text (T : Txt K mg) : mg "order_text" = some (.ref (He.ga K "order_text")) := T.all.elim fun _ z => He.glo_ok z.1 z.2 (T.c.fact 9 (f := .glo "order_text") rfl)
theorem Txt.g_written_custom (T : Txt K mg) : mg "written_custom" = some (.ref (He.ga K "written_custom")) := T.all.elim fun _ z => He.glo_ok z.1 z.2 (T.c.fact 10 (f := .glo "written_custom") rfl)
theorem Txt.g__law_next (T : Txt K mg) : mg "_law_next" = some (.ref (He.ga K "_law_next")) := T.all.elim fun _ z => He.glo_ok z.1 z.2 (T.c.fact 11 (f := .glo "_law_next") rfl)
theorem Txt.g__law_part (T : Txt K mg) : mg "_law_part" = some (.ref (He.ga K "_law_part")) := T.all.elim fun _ z => He.glo_ok z.1 z.2 (T.c.fact 12 (f := .glo "_law_part") rfl)
theorem Txt.g__law_custom (T : Txt K mg) : mg "_law_custom" = some (.ref (He.ga K "_law_custom")) := T.all.elim fun _ z => He.glo_ok z.1 z.2 (T.c.fact 13 (f := .glo "_law_custom") rfl)
theorem Txt.g__law_words_of (T : Txt K mg) : mg "_law_words_of" = some (.ref (He.ga K "_law_words_of")) := T.all.elim fun _ z => He.glo_ok z.1 z.2 (T.c.fact 14 (f := .glo "_law_words_of") rfl)
theorem Txt.g__law_loose (T : Txt K mg) : mg "_law_loose" = some (.ref (He.ga K "_law_loose")) := T.all.elim fun _ z => He.glo_ok z.1 z.2 (T.c.fact 15 (f := .glo "_law_loose") rfl)
theorem Txt.g__law_class (T : Txt K mg) : mg "_law_class" = some (.ref (He.ga K "_law_class")) := T.all.elim fun _ z => He.glo_ok z.1 z.2 (T.c.fact 16 (f := .glo "_law_class") rfl)
theorem Txt.g__law_wide (T : Txt K mg) : mg "_law_wide" = some (.ref (He.ga K "_law_wide")) := T.all.elim fun _ z => He.glo_ok z.1 z.2 (T.c.fact 17 (f := .glo "_law_wide") rfl)
theorem Txt.g__law_bent (T : Txt K mg) : mg "_law_bent" = some (.ref (He.ga K "_law_bent")) := T.all.elim fun _ z => He.glo_ok z.1 z.2 (T.c.fact 18 (f := .glo "_law_bent") rfl)
theorem Txt.g__law_is_in (T : Txt K mg) : mg "_law_is_in" = some (.ref (He.ga K "_law_is_in")) := T.all.elim fun _ z => He.glo_ok z.1 z.2 (T.c.fact 19 (f := .glo "_law_is_in") rfl)
theorem Txt.g__law_fraction_wrong (T : Txt K mg) : mg "_law_fraction_wrong" = some (.ref (He.ga K "_law_fraction_wrong")) := T.all.elim fun _ z => He.glo_ok z.1 z.2 (T.c.fact 20 (f := .glo "_law_fraction_wrong") rfl)
theorem Txt.g__law_order_wrong (T : Txt K mg) : mg "_law_order_wrong" = some (.ref (He.ga K "_law_order_wrong")) := T.all.elim fun _ z => He.glo_ok z.1 z.2 (T.c.fact 21 (f := .glo "_law_order_wrong") rfl)
theorem Txt.g__law_row_wrong (T : Txt K mg) : mg "_law_row_wrong" = some (.ref (He.ga K "_law_row_wrong")) := T.all.elim fun _ z => He.glo_ok z.1 z.2 (T.c.fact 22 (f := .glo "_law_row_wrong") rfl)
theorem Txt.g__law_due (T : Txt K mg) : mg "_law_due" = some (.ref (He.ga K "_law_due")) := T.all.elim fun _ z => He.glo_ok z.1 z.2 (T.c.fact 23 (f := .glo "_law_due") rfl)
theorem Txt.g__law_told (T : Txt K mg) : mg "_law_told" = some (.ref (He.ga K "_law_told")) := T.all.elim fun _ z => He.glo_ok z.1 z.2 (T.c.fact 24 (f := .glo "_law_told") rfl)
theorem Txt.g__law_right (T : Txt K mg) : mg "_law_right" = some (.ref (He.ga K "_law_right")) := T.all.elim fun _ z => He.glo_ok z.1 z.2 (T.c.fact 25 (f := .glo "_law_right") rfl)
theorem Txt.g_law (T : Txt K mg) : mg "law" = some (.ref (He.ga K "law")) := T.all.elim fun _ z => He.glo_ok z.1 z.2 (T.c.fact 26 (f := .glo "law") rfl)
theorem Txt.n_abs (T : Txt K mg) : mg "abs" = none := T.all.elim fun _ z => He.free_ok z.1 z.2 (T.c.fact 27 (f := .free "abs") rfl)
theorem Txt.n_len (T : Txt K mg) : mg "len" = none := T.all.elim fun _ z => He.free_ok z.1 z.2 (T.c.fact 28 (f := .free "len") rfl)
theorem Txt.n_str (T : Txt K mg) : mg "str" = none := T.all.elim fun _ z => He.free_ok z.1 z.2 (T.c.fact 29 (f := .free "str") rfl)
theorem Txt.n_isinstance (T : Txt K mg) : mg "isinstance" = none := T.all.elim fun _ z => He.free_ok z.1 z.2 (T.c.fact 30 (f := .free "isinstance") rfl)
theorem Txt.n_int (T : Txt K mg) : mg "int" = none := T.all.elim fun _ z => He.free_ok z.1 z.2 (T.c.fact 31 (f := .free "int") rfl)
theorem Txt.n_tuple (T : Txt K mg) : mg "tuple" = none := T.all.elim fun _ z => He.free_ok z.1 z.2 (T.c.fact 32 (f := .free "tuple") rfl)
theorem Txt.n_enumerate (T : Txt K mg) : mg "enumerate" = none := T.all.elim fun _ z => He.free_ok z.1 z.2 (T.c.fact 33 (f := .free "enumerate") rfl)
theorem Txt.n_range (T : Txt K mg) : mg "range" = none := T.all.elim fun _ z => He.free_ok z.1 z.2 (T.c.fact 34 (f := .free "range") rfl)
theorem Txt.n_ValueError (T : Txt K mg) : mg "ValueError" = none := T.all.elim fun _ z => He.free_ok z.1 z.2 (T.c.fact 35 (f := .free "ValueError") rfl)
theorem Txt.n_min (T : Txt K mg) : mg "min" = none := T.all.elim fun _ z => He.free_ok z.1 z.2 (T.c.fact 36 (f := .free "min") rfl)
theorem Txt.cl_Reader (T : Txt K mg) : Cls K (He.ga K "Reader") := He.cls_ok (T.c.fact 37 (f := .cls "Reader") rfl)
theorem Txt.mk_Reader (T : Txt K mg) : Mk K (He.ga K "Reader") (He.ma K (He.ga K "Reader") "__init__") := He.mkr_ok (T.c.fact 38 (f := .mkr "Reader") rfl)
theorem Txt.na_Reader_row (T : Txt K mg) : NoAttr K (He.ga K "Reader") "row" := He.noat_ok (T.c.fact 39 (f := .noat "Reader" "row") rfl)
theorem Txt.na_Reader_line (T : Txt K mg) : NoAttr K (He.ga K "Reader") "line" := He.noat_ok (T.c.fact 40 (f := .noat "Reader" "line") rfl)
theorem Txt.na_Reader_at (T : Txt K mg) : NoAttr K (He.ga K "Reader") "at" := He.noat_ok (T.c.fact 41 (f := .noat "Reader" "at") rfl)
theorem Txt.me_Reader_need (T : Txt K mg) : Meth K (He.ga K "Reader") "need" (He.ma K (He.ga K "Reader") "need") := He.meth_ok (T.c.fact 42 (f := .meth "Reader" "need") rfl)
theorem Txt.me_Reader_peek (T : Txt K mg) : Meth K (He.ga K "Reader") "peek" (He.ma K (He.ga K "Reader") "peek") := He.meth_ok (T.c.fact 43 (f := .meth "Reader" "peek") rfl)
theorem Txt.me_Reader_go (T : Txt K mg) : Meth K (He.ga K "Reader") "go" (He.ma K (He.ga K "Reader") "go") := He.meth_ok (T.c.fact 44 (f := .meth "Reader" "go") rfl)
theorem Txt.me_Reader_take_word (T : Txt K mg) : Meth K (He.ga K "Reader") "take_word" (He.ma K (He.ga K "Reader") "take_word") := He.meth_ok (T.c.fact 45 (f := .meth "Reader" "take_word") rfl)
theorem Txt.me_Reader_take_number (T : Txt K mg) : Meth K (He.ga K "Reader") "take_number" (He.ma K (He.ga K "Reader") "take_number") := He.meth_ok (T.c.fact 46 (f := .meth "Reader" "take_number") rfl)
theorem Txt.me_Reader_take_fraction (T : Txt K mg) : Meth K (He.ga K "Reader") "take_fraction" (He.ma K (He.ga K "Reader") "take_fraction") := He.meth_ok (T.c.fact 47 (f := .meth "Reader" "take_fraction") rfl)
theorem Txt.me_Reader_over (T : Txt K mg) : Meth K (He.ga K "Reader") "over" (He.ma K (He.ga K "Reader") "over") := He.meth_ok (T.c.fact 48 (f := .meth "Reader" "over") rfl)
theorem Txt.me_Reader_take_order (T : Txt K mg) : Meth K (He.ga K "Reader") "take_order" (He.ma K (He.ga K "Reader") "take_order") := He.meth_ok (T.c.fact 49 (f := .meth "Reader" "take_order") rfl)
theorem Txt.cl_CustomReader (T : Txt K mg) : Cls K (He.ga K "CustomReader") := He.cls_ok (T.c.fact 50 (f := .cls "CustomReader") rfl)
theorem Txt.mk_CustomReader (T : Txt K mg) : Mk K (He.ga K "CustomReader") (He.ma K (He.ga K "CustomReader") "__init__") := He.mkr_ok (T.c.fact 51 (f := .mkr "CustomReader") rfl)
theorem Txt.na_CustomReader_orders (T : Txt K mg) : NoAttr K (He.ga K "CustomReader") "orders" := He.noat_ok (T.c.fact 52 (f := .noat "CustomReader" "orders") rfl)
theorem Txt.na_CustomReader_halves (T : Txt K mg) : NoAttr K (He.ga K "CustomReader") "halves" := He.noat_ok (T.c.fact 53 (f := .noat "CustomReader" "halves") rfl)
theorem Txt.na_CustomReader_kept (T : Txt K mg) : NoAttr K (He.ga K "CustomReader") "kept" := He.noat_ok (T.c.fact 54 (f := .noat "CustomReader" "kept") rfl)
theorem Txt.na_CustomReader_back (T : Txt K mg) : NoAttr K (He.ga K "CustomReader") "back" := He.noat_ok (T.c.fact 55 (f := .noat "CustomReader" "back") rfl)
theorem Txt.na_CustomReader_stage (T : Txt K mg) : NoAttr K (He.ga K "CustomReader") "stage" := He.noat_ok (T.c.fact 56 (f := .noat "CustomReader" "stage") rfl)
theorem Txt.me_CustomReader_take_more (T : Txt K mg) : Meth K (He.ga K "CustomReader") "take_more" (He.ma K (He.ga K "CustomReader") "take_more") := He.meth_ok (T.c.fact 57 (f := .meth "CustomReader" "take_more") rfl)
theorem Txt.me_CustomReader_take (T : Txt K mg) : Meth K (He.ga K "CustomReader") "take" (He.ma K (He.ga K "CustomReader") "take") := He.meth_ok (T.c.fact 58 (f := .meth "CustomReader" "take") rfl)
theorem Txt.me_CustomReader_custom_told (T : Txt K mg) : Meth K (He.ga K "CustomReader") "custom_told" (He.ma K (He.ga K "CustomReader") "custom_told") := He.meth_ok (T.c.fact 59 (f := .meth "CustomReader" "custom_told") rfl)
theorem Txt.g_LETTERS (T : Txt K mg) : ∃ t, mg "LETTERS" = some (.str "abcdefghijklmnopqrstuvwxyz" t) := T.all.elim fun _ z => He.str_ok z.1 z.2 (T.c.fact 60 (f := .str "LETTERS" "abcdefghijklmnopqrstuvwxyz") rfl)
theorem Txt.g_MOST_LETTERS (T : Txt K mg) : ∃ t, mg "MOST_LETTERS" = some (.int 8 t) := T.all.elim fun _ z => He.int_ok z.1 z.2 (T.c.fact 61 (f := .int "MOST_LETTERS" 8) rfl)
theorem Txt.g_FIGURES (T : Txt K mg) : ∃ t, mg "FIGURES" = some (.str "0123456789" t) := T.all.elim fun _ z => He.str_ok z.1 z.2 (T.c.fact 62 (f := .str "FIGURES" "0123456789") rfl)
theorem Txt.g_MOST_FIGURES (T : Txt K mg) : ∃ t, mg "MOST_FIGURES" = some (.int 12 t) := T.all.elim fun _ z => He.int_ok z.1 z.2 (T.c.fact 63 (f := .int "MOST_FIGURES" 12) rfl)
theorem Txt.g_MOST_SIGNS (T : Txt K mg) : ∃ t, mg "MOST_SIGNS" = some (.int 8000 t) := T.all.elim fun _ z => He.int_ok z.1 z.2 (T.c.fact 64 (f := .int "MOST_SIGNS" 8000) rfl)
theorem Txt.g_MOST_BOTTOM (T : Txt K mg) : ∃ t, mg "MOST_BOTTOM" = some (.int 1000 t) := T.all.elim fun _ z => He.int_ok z.1 z.2 (T.c.fact 65 (f := .int "MOST_BOTTOM" 1000) rfl)
theorem Txt.g_NOUGHT (T : Txt K mg) : mg "NOUGHT" = some (.ref (He.ga K "NOUGHT")) := T.all.elim fun _ z => He.glo_ok z.1 z.2 (T.c.fact 66 (f := .glo "NOUGHT") rfl)
theorem Txt.g_LAST_DAY (T : Txt K mg) : ∃ t, mg "LAST_DAY" = some (.int 99999 t) := T.all.elim fun _ z => He.int_ok z.1 z.2 (T.c.fact 67 (f := .int "LAST_DAY" 99999) rfl)
theorem Txt.g_MOST_ORDERS (T : Txt K mg) : ∃ t, mg "MOST_ORDERS" = some (.int 6 t) := T.all.elim fun _ z => He.int_ok z.1 z.2 (T.c.fact 68 (f := .int "MOST_ORDERS" 6) rfl)
theorem Txt.g_NoOne (T : Txt K mg) : mg "NoOne" = some (.ref (He.ga K "NoOne")) := T.all.elim fun _ z => He.glo_ok z.1 z.2 (T.c.fact 69 (f := .glo "NoOne") rfl)
theorem Txt.g_BadFacts (T : Txt K mg) : mg "BadFacts" = some (.ref (He.ga K "BadFacts")) := T.all.elim fun _ z => He.glo_ok z.1 z.2 (T.c.fact 70 (f := .glo "BadFacts") rfl)
theorem Txt.g_BadText (T : Txt K mg) : mg "BadText" = some (.ref (He.ga K "BadText")) := T.all.elim fun _ z => He.glo_ok z.1 z.2 (T.c.fact 71 (f := .glo "BadText") rfl)
theorem Txt.g_BadSign (T : Txt K mg) : mg "BadSign" = some (.ref (He.ga K "BadSign")) := T.all.elim fun _ z => He.glo_ok z.1 z.2 (T.c.fact 72 (f := .glo "BadSign") rfl)
theorem Txt.g_TooMany (T : Txt K mg) : mg "TooMany" = some (.ref (He.ga K "TooMany")) := T.all.elim fun _ z => He.glo_ok z.1 z.2 (T.c.fact 73 (f := .glo "TooMany") rfl)
theorem Txt.g_BadLine (T : Txt K mg) : mg "BadLine" = some (.ref (He.ga K "BadLine")) := T.all.elim fun _ z => He.glo_ok z.1 z.2 (T.c.fact 74 (f := .glo "BadLine") rfl)
theorem Txt.g_Alive (T : Txt K mg) : mg "Alive" = some (.ref (He.ga K "Alive")) := T.all.elim fun _ z => He.glo_ok z.1 z.2 (T.c.fact 75 (f := .glo "Alive") rfl)
theorem Txt.g_HeirError (T : Txt K mg) : mg "HeirError" = some (.ref (He.ga K "HeirError")) := T.all.elim fun _ z => He.glo_ok z.1 z.2 (T.c.fact 76 (f := .glo "HeirError") rfl)
theorem Txt.g_Reader (T : Txt K mg) : mg "Reader" = some (.ref (He.ga K "Reader")) := T.all.elim fun _ z => He.glo_ok z.1 z.2 (T.c.fact 77 (f := .glo "Reader") rfl)
theorem Txt.g_CustomReader (T : Txt K mg) : mg "CustomReader" = some (.ref (He.ga K "CustomReader")) := T.all.elim fun _ z => He.glo_ok z.1 z.2 (T.c.fact 78 (f := .glo "CustomReader") rfl)
theorem Txt.tup_NOUGHT (T : Txt K mg) (H : Hp) : SqT K H (He.ga K "NOUGHT") (dv_NOUGHT.map (He.Dv.v K)) := He.tupB_ok (exAll_at T.e 0 (by rfl)) H
theorem Txt.oex_BadSign (T : Txt K mg) : oexB K "BadSign" = true := exAll_at T.e 1 (by rfl)
theorem Txt.oex_BadText (T : Txt K mg) : oexB K "BadText" = true := exAll_at T.e 2 (by rfl)
theorem Txt.ex_0 (T : Txt K mg) : (He.eqO (PySem.W.findIn K (.ref (He.ga K "BadSign")) "spot") (some none)) = true := exAll_at T.e 3 (by rfl)
theorem Txt.ex_1 (T : Txt K mg) : (He.eqO (PySem.W.findIn K (.ref (He.ga K "BadText")) "spot") (some none)) = true := exAll_at T.e 4 (by rfl)
theorem Txt.ex_2 (T : Txt K mg) : (decide (PySem.W.exmOne K (.ref (He.ga K "BadSign")) (.ref (He.ga K "HeirError")) = some true)) = true := exAll_at T.e 5 (by rfl)
theorem Txt.ex_3 (T : Txt K mg) : (decide (PySem.W.kitOne K (.ref (He.ga K "BadSign")) (.ref (He.ga K "BadSign")) = some true)) = true := exAll_at T.e 6 (by rfl)
theorem Txt.ex_4 (T : Txt K mg) : (decide (PySem.W.kitOne K (.ref (He.ga K "BadSign")) (.ref (He.ga K "BadText")) = some false)) = true := exAll_at T.e 7 (by rfl)
theorem Txt.ex_5 (T : Txt K mg) : (decide (PySem.W.kitOne K (.ref (He.ga K "BadSign")) (.ref (He.ga K "BadFacts")) = some false)) = true := exAll_at T.e 8 (by rfl)
theorem Txt.ex_6 (T : Txt K mg) : (decide (PySem.W.kitOne K (.ref (He.ga K "BadSign")) (.ref (He.ga K "NoOne")) = some false)) = true := exAll_at T.e 9 (by rfl)
theorem Txt.ex_7 (T : Txt K mg) : (decide (PySem.W.kitOne K (.ref (He.ga K "BadSign")) (.ref (He.ga K "Alive")) = some false)) = true := exAll_at T.e 10 (by rfl)
theorem Txt.ex_8 (T : Txt K mg) : (decide (PySem.W.kitOne K (.ref (He.ga K "BadSign")) (.ref (He.ga K "BadLine")) = some false)) = true := exAll_at T.e 11 (by rfl)
theorem Txt.ex_9 (T : Txt K mg) : (decide (PySem.W.kitOne K (.ref (He.ga K "BadSign")) (.ref (He.ga K "TooMany")) = some false)) = true := exAll_at T.e 12 (by rfl)
theorem Txt.ex_10 (T : Txt K mg) : (decide (PySem.W.kitOne K (.ref (He.ga K "BadSign")) (.type "ValueError") = some true)) = true := exAll_at T.e 13 (by rfl)
theorem Txt.ex_11 (T : Txt K mg) : (decide (PySem.W.exmOne K (.ref (He.ga K "BadText")) (.ref (He.ga K "HeirError")) = some true)) = true := exAll_at T.e 14 (by rfl)
theorem Txt.ex_12 (T : Txt K mg) : (decide (PySem.W.kitOne K (.ref (He.ga K "BadText")) (.ref (He.ga K "BadSign")) = some false)) = true := exAll_at T.e 15 (by rfl)
theorem Txt.ex_13 (T : Txt K mg) : (decide (PySem.W.kitOne K (.ref (He.ga K "BadText")) (.ref (He.ga K "BadText")) = some true)) = true := exAll_at T.e 16 (by rfl)
theorem Txt.ex_14 (T : Txt K mg) : (decide (PySem.W.kitOne K (.ref (He.ga K "BadText")) (.ref (He.ga K "BadFacts")) = some false)) = true := exAll_at T.e 17 (by rfl)
theorem Txt.ex_15 (T : Txt K mg) : (decide (PySem.W.kitOne K (.ref (He.ga K "BadText")) (.ref (He.ga K "NoOne")) = some false)) = true := exAll_at T.e 18 (by rfl)
theorem Txt.ex_16 (T : Txt K mg) : (decide (PySem.W.kitOne K (.ref (He.ga K "BadText")) (.ref (He.ga K "Alive")) = some false)) = true := exAll_at T.e 19 (by rfl)
theorem Txt.ex_17 (T : Txt K mg) : (decide (PySem.W.kitOne K (.ref (He.ga K "BadText")) (.ref (He.ga K "BadLine")) = some false)) = true := exAll_at T.e 20 (by rfl)
theorem Txt.ex_18 (T : Txt K mg) : (decide (PySem.W.kitOne K (.ref (He.ga K "BadText")) (.ref (He.ga K "TooMany")) = some false)) = true := exAll_at T.e 21 (by rfl)
theorem Txt.ex_19 (T : Txt K mg) : (decide (PySem.W.kitOne K (.ref (He.ga K "BadText")) (.type "ValueError") = some true)) = true := exAll_at T.e 22 (by rfl)
end
--@also BadSign.__init__
--@also BadText.__init__
--@also divisor
--@also fraction
--@also run_end
--@also word_end
--@also row_words
--@also text_words
--@also is_number
--@also Reader.__init__
--@also Reader.need
--@also Reader.peek
--@also Reader.go
--@also Reader.take_word
--@also Reader.take_number
--@also Reader.take_fraction
--@also Reader.over
--@also Reader.take_order
--@also CustomReader.__init__
--@also CustomReader.take_more
--@also CustomReader.take
--@also CustomReader.custom_told
--@also read_custom
--@also part_text
--@also order_text
--@also written_custom
--@also _law_next
--@also _law_part
--@also _law_custom
--@also _law_words_of
--@also _law_loose
--@also _law_class
--@also _law_wide
--@also _law_bent
--@also _law_is_in
--@also _law_fraction_wrong
--@also _law_order_wrong
--@also _law_row_wrong
--@also _law_due
--@also _law_told
--@also _law_right
--@also law
end K04
set_option Elab.async false
set_option linter.all false
set_option maxRecDepth 100000
set_option maxHeartbeats 4000000
local macro_rules | `(tactic| walk_at "w") => `(tactic| repeat (first
  | ((with_reducible refine' My.w_var ?hv ?_); (case hv => rfl))
  | (with_reducible refine My.w_c ?_)
  | (with_reducible refine My.w_seq ?_)
  | (with_reducible refine My.w_set ?_)
  | (with_reducible refine My.w_nx ?_)
  | (with_reducible refine My.w_op ?_)
  | (with_reducible refine My.w_ix ?_)
  | (with_reducible refine My.w_in ?_)
  | (with_reducible refine My.w_nin ?_)
  | (with_reducible refine My.w_cons ?_)
  | (with_reducible refine My.w_nil ?_)
  | (with_reducible refine My.w_cb ?_)
  | (with_reducible refine My.w_call ?_)
  | (with_reducible refine My.w_callS ?_)
  | (with_reducible refine My.w_ret ?_)
  | (with_reducible refine My.w_rt ?_)
  | (with_reducible refine My.w_if ?_)
  | (with_reducible refine My.w_ife ?_)
  | (with_reducible refine My.w_test ?_)
  | (with_reducible refine My.w_B ?_)
  | (with_reducible refine My.w_ebl ?_)
  | (with_reducible refine My.w_and ?_)
  | (with_reducible refine My.w_or ?_)
  | (with_reducible refine My.w_not ?_)
  | (with_reducible refine My.w_andV ?_)
  | (with_reducible refine My.w_orV ?_)
  | (with_reducible refine My.w_notV ?_)
  | (with_reducible refine My.w_eblV ?_)
  | (with_reducible refine My.w_isN ?_)
  | (with_reducible refine My.w_notN ?_)
  | (with_reducible refine My.w_tup ?_)
  | (with_reducible refine My.w_lst ?_)
  | (with_reducible refine My.w_sl ?_)
  | (with_reducible refine My.w_part ?_)
  | (with_reducible refine My.w_nopart ?_)
  | (with_reducible refine My.w_eintV ?_)
  | (with_reducible refine My.w_bm ?_)
  | (with_reducible refine My.w_bm0 ?_)
  | (with_reducible refine My.w_m1 ?_)
  | (with_reducible refine My.w_estr ?_)
  | (with_reducible refine My.w_yes ?_)
  | (with_reducible refine My.w_drop ?_)
  | (with_reducible refine My.w_un ?_)
  | (with_reducible refine My.w_par ?_)
  | (with_reducible refine My.w_epar ?_)
  | ((with_reducible refine' My.w_aug ?hv ?_); (case hv => rfl))
  | (with_reducible refine My.w_ip ?_)
  | (with_reducible refine My.w_put ?_)
  | (with_reducible refine My.w_meth ?_)
  | (with_reducible refine My.w_methX ?_)
  | (with_reducible refine My.w_make ?_)
  | (with_reducible refine My.w_sfld ?_)
  | (with_reducible refine My.w_faug ?_)
  | (with_reducible refine My.w_revL ?_)
  | (with_reducible refine My.w_enum ?_)
  | (with_reducible refine My.w_disp ?_)
  | (with_reducible refine My.w_dnew ?_)
  | (with_reducible refine My.w_pcons ?_)
  | (with_reducible refine My.w_pnil ?_)
  | (with_reducible refine My.w_try ?_)
  | (with_reducible refine My.w_par3 ?_)
  | (with_reducible refine My.w_epar3 ?_)
  | (with_reducible refine My.w_xfA ?_)
  | (with_reducible refine My.w_mkX ?_)
  | (with_reducible refine My.w_fld ?_)
  | (with_reducible refine My.w_for ?_)
  | (with_reducible refine My.w_lc ?_)
  | (with_reducible refine My.w_iA ?_)
  | (with_reducible refine My.w_rng1 ?_)
  | (with_reducible refine My.w_rng2 ?_)
  | (with_reducible refine My.w_raise ?_)
  | (with_reducible refine My.w_chain ?_)
  | (with_reducible refine My.w_asg ?_)
  | (with_reducible refine My.w_gn ?_)
  | (with_reducible refine My.w_next ?_)
  | (with_reducible refine L2.iteT ?_)
  | (with_reducible refine L2.iteF ?_)
  | (with_reducible refine My.w_iteNT ?_)
  | (with_reducible refine My.w_iteNF ?_)
  | (with_reducible refine My.w_cont ?_)
  | (with_reducible refine My.w_break ?_)
  | (with_reducible refine My.w_retN ?_)
  | (with_reducible refine My.w_bk ?_)
  | (with_reducible refine My.w_ct ?_)
  | (with_reducible refine My.st_lt ?_)
  | (with_reducible refine My.st_le ?_)
  | (with_reducible refine My.st_gt ?_)
  | (with_reducible refine My.st_ge ?_)
  | (with_reducible refine My.st_add ?_)
  | (with_reducible refine My.st_sub ?_)
  | (with_reducible refine My.st_in_sign ?_)
  | (with_reducible refine My.st_nin_sign ?_)
  | (with_reducible refine My.st_eq_int ?_)
  | (with_reducible refine My.st_ne_int ?_)
  | (with_reducible refine My.st_eq_str ?_)
  | (with_reducible refine My.st_ne_str ?_)))
namespace K04
open PySem PySem.Spec PyProof.Rows L2 My
section
variable {P : Program} {w : World} {K : PySem.W.Frag} {mg : Str → Option Value} {base : Heap}
/-! ### run_end -/
def pr_run_end : V → V → V → Hp → VK → XK → Prop := fun x y z H Q _ => ∃ (row S : Str) (a : Nat), x = .str row ∧ y = .int (a : Int) ∧ z = .str S ∧ row.length ≤ 100000 ∧ a ≤ row.length ∧ Q (.int ((a + runLen S.cps.toList (row.cps.toList.drop a) : Nat) : Int)) H
def sp_run_end (K : PySem.W.Frag) : Sp := Sp3 pr_run_end
def t_run_end (K : PySem.W.Frag) : TS :=
  (tSeq (tAsg (tVar 1) (gName 3))
  (tSeq (tWhile (tAnd (tTest (tOp rLtA (tVar 3) (tCB (rLenA K) (tCons (tVar 0) tNil)))) (tTest (tOp (rInA K false) (tIxA K (tVar 0) (tVar 3)) (tVar 2)))) (tAug 3 (tC (.int 1)) (ipI fun i j => i + j)))
  (tRet (tVar 3))))
theorem len_toList (z : Str) : z.cps.toList.length = z.length := by simp [Str.length]
theorem at_drop {row : Str} {a : Nat} (h : a < row.length) : ∃ c, row.cps.toList[a]? = some c ∧ row.cps.toList.drop a = c :: row.cps.toList.drop (a + 1) := by
  have h4 : a < row.cps.toList.length := by rw [len_toList]; exact h
  exact ⟨_, List.getElem?_eq_getElem h4, List.drop_eq_getElem_cons h4⟩
theorem pure_run_end (T : Txt K mg) {a b c : V} {H : Hp} {Q : VK} {E : XK} (h : pr_run_end a b c H Q E) : t_run_end K { nx := fun _ H' => Q .non H', rt := Q } [some a, some b, some c, none] H := by
  obtain ⟨row, S, a, rfl, rfl, rfl, hl, ha, k⟩ := h
  unfold t_run_end
  walk_at "w"
  refine ⟨fun m σ H' => H' = H ∧ ∃ e : Nat, m = row.length - e ∧ e ≤ row.length ∧ a + runLen S.cps.toList (row.cps.toList.drop a) = e + runLen S.cps.toList (row.cps.toList.drop e) ∧
    σ = [some (.str row), some (.int (a : Int)), some (.str S), some (.int (e : Int))], ⟨_, rfl, a, rfl, ha, rfl, rfl⟩, ?_⟩
  rintro m σ H' ⟨rfl, e, rfl, he, hr, rfl⟩
  walk_at "w"
  refine st_len_str (by omega) ?_
  walk_at "w"
  have fin : e + runLen S.cps.toList (row.cps.toList.drop e) = e → Q (.int (e : Int)) H' := fun z => by
    rw [hr, z] at k
    exact k
  refine ite2 (fun h1 => ?_) (fun h1 => ?_)
  · have h2 : e < row.length := by have := of_decide_eq_true h1; omega
    obtain ⟨c, h3, hd⟩ := at_drop h2
    walk_at "w"
    refine st_ix_str (by omega) h3 ?_
    walk_at "w"
    refine ite2 (fun hc => ?_) (fun hc => ?_)
    · refine ⟨_, fun _ _ z => z, ?_⟩
      walk_at "w"
      refine ⟨row.length - (e + 1), by omega, rfl, e + 1, rfl, by omega, ?_, rfl⟩
      rw [hr, hd, runLen_in (of_decide_eq_true hc)]
      omega
    · walk_at "w"
      refine fin ?_
      rw [hd, runLen_out (fun z => hc (decide_eq_true z))]
      rfl
  · have h2 : ¬ e < row.length := by intro z; exact h1 (decide_eq_true (by omega))
    walk_at "w"
    refine fin ?_
    rw [List.drop_eq_nil_of_le (by rw [len_toList]; omega)]
    rfl
theorem ok_run_end (T : Txt K mg)  : Kp P w K mg base CX0 1 "run_end" ["row", "at", "signs"] (sp_run_end K) := by
  obtain ⟨fd, F⟩ := T.c.def_ 4 (d := d_run_end) rfl
  refine ⟨⟨_, fd, T.g_run_end, F.kp, F.bindsN fun _ _ _ _ _ _ us hl => match us, hl with | [_, _, _], _ => rfl, F.ok sc_run_end Sp3.len (fun cdv A outer s H vs Q E hr h => ?_)⟩⟩
  obtain ⟨v0, v1, v2, rfl, h⟩ := h
  refine ⟨t_run_end K, PSs.nox (?_), pure_run_end T h⟩
  exact (pss_cons (ps_set (i := 3) sc_run_end.nd rfl (by first | exact Or.inl rfl | exact Or.inr rfl) (pv 1))
      (pss_cons (ps_while PassesOwn.never (PW.pt (pw_and (pt_cmpR op_ltA (pv 3) (pe_callB call_len (by rfl) T.n_len (by decide +kernel) (pa_cons (pv 0) pa_nil)) (nomark _)) (pw_and1 (pt_cmpR (op_inA hr) (pe_ixA hr (pv 0) (pv 3) (fun _ _ => rfl)) (pv 2) (by rfl))))) (pss_one (ps_aug (i := 3) sc_run_end.nd rfl (by first | exact Or.inl rfl | exact Or.inr rfl) pe_int ip_add)))
      (pss_one (ps_ret (pv 3)))))
/-! ### word_end -/
def pr_word_end : V → V → Hp → VK → XK → Prop := fun x y H Q _ => ∃ (row : Str) (a : Nat), x = .str row ∧ y = .int (a : Int) ∧ row.length ≤ 100000 ∧ a < row.length ∧ Q (match wordLen (row.cps.toList.drop a) with | some n => .int ((a + n : Nat) : Int) | none => .int (-1)) H
def sp_word_end (K : PySem.W.Frag) : Sp := Sp2 pr_word_end
def t_word_end (K : PySem.W.Frag) : TS :=
  (tSeq (tIfS (tTest (tOp (rEqA K) (tIxA K (tVar 0) (tVar 1)) (tC (.str "/")))) (tRet (tOp (rAddA K) (tVar 1) (tC (.int 1)))) tNext)
  (tSeq (tIfS (tTest (tOp (rInA K false) (tIxA K (tVar 0) (tVar 1)) (tC (.str "abcdefghijklmnopqrstuvwxyz")))) (tSeq (tAsg (tCall (sp_run_end K) [] E0 (tCons (tVar 0) (tCons (tVar 1) (tCons (tC (.str "abcdefghijklmnopqrstuvwxyz")) tNil)))) (gName 2))
  (tRet (tIf (tTest (tOp rLeA (tOp rSubI (tVar 2) (tVar 1)) (tC (.int 8)))) (tVar 2) (tUn rNegI (tC (.int 1)))))) tNext)
  (tSeq (tAsg (tCall (sp_run_end K) [] E0 (tCons (tVar 0) (tCons (tVar 1) (tCons (tC (.str "0123456789")) tNil)))) (gName 2))
  (tRet (tIf (tAnd (tTest (tChain rLtA rLeA (tC (.int 0)) (tOp rSubI (tVar 2) (tVar 1)) (tC (.int 12)))) (tOr (tTest (tOp (rNeA K) (tIxA K (tVar 0) (tVar 1)) (tC (.str "0")))) (tTest (tOp (rEqA K) (tOp rSubI (tVar 2) (tVar 1)) (tC (.int 1)))))) (tVar 2) (tUn rNegI (tC (.int 1))))))))
theorem pure_word_end (T : Txt K mg) {a b : V} {H : Hp} {Q : VK} {E : XK} (h : pr_word_end a b H Q E) : t_word_end K { nx := fun _ H' => Q .non H', rt := Q } [some a, some b, none] H := by
  obtain ⟨row, a, rfl, rfl, hl, ha, k⟩ := h
  obtain ⟨c, h3, hd⟩ := at_drop ha
  rw [hd] at k
  have e8 : ("/" : Str) = ⟨#[47]⟩ := by decide +kernel
  have e0 : ("0" : Str) = ⟨#[48]⟩ := by decide +kernel
  unfold wordLen at k
  unfold t_word_end
  walk_at "w"
  refine st_ix_str (by omega) h3 ?_
  walk_at "w"
  rw [sign_dec e8]
  refine ite2 (fun h1 => ?_) (fun h1 => ?_)
  · have hc := of_decide_eq_true h1
    dsimp only at k
    rw [if_pos hc] at k
    walk_at "w"
    exact k
  · have hc : c ≠ 47 := fun e => h1 (decide_eq_true e)
    dsimp only at k
    rw [if_neg hc] at k
    walk_at "w"
    refine st_ix_str (by omega) h3 ?_
    walk_at "w"
    refine ite2 (fun h1 => ?_) (fun h1 => ?_)
    · have hL : c ∈ LET := of_decide_eq_true h1
      rw [if_pos hL] at k
      walk_at "w"
      refine ⟨_, _, _, rfl, row, LETs, a, rfl, rfl, rfl, hl, by omega, ?_⟩
      walk_at "w"
      rw [hd]
      generalize runLen LET (c :: row.cps.toList.drop (a + 1)) = n at *
      refine ite2 (fun h2 => ?_) (fun h2 => ?_)
      · have h3 := of_decide_eq_true h2
        rw [if_pos (by omega)] at k
        walk_at "w"
        exact k
      · have h3 : ¬ n ≤ 8 := fun z => h2 (decide_eq_true (by omega))
        rw [if_neg h3] at k
        walk_at "w"
        exact ⟨1, rfl, k⟩
    · have hL : c ∉ LET := fun z => h1 (decide_eq_true z)
      rw [if_neg hL] at k
      walk_at "w"
      refine ⟨_, _, _, rfl, row, FIGs, a, rfl, rfl, rfl, hl, by omega, ?_⟩
      walk_at "w"
      rw [hd]
      generalize runLen FIG (c :: row.cps.toList.drop (a + 1)) = n at *
      have no : ¬ (0 < n ∧ n ≤ 12 ∧ (c ≠ 48 ∨ n = 1)) → Q (.int (-1)) H := fun z => by
        rw [if_neg z] at k
        exact k
      refine ite2 (fun h2 => ?_) (fun h2 => ?_)
      · have h4 : 0 < n := by have := of_decide_eq_true h2; omega
        walk_at "w"
        refine ite2 (fun h5 => ?_) (fun h5 => ?_)
        · have h6 : n ≤ 12 := by have := of_decide_eq_true h5; omega
          walk_at "w"
          refine st_ix_str (by omega) h3 ?_
          walk_at "w"
          rw [sign_dec e0]
          refine ite2 (fun h7 => ?_) (fun h7 => ?_)
          · have h8 : c ≠ 48 := by simpa using h7
            rw [if_pos ⟨h4, h6, .inl h8⟩] at k
            walk_at "w"
            exact k
          · have h8 : c = 48 := by simpa using h7
            walk_at "w"
            refine ite2 (fun h9 => ?_) (fun h9 => ?_)
            · have h10 : n = 1 := by have := of_decide_eq_true h9; omega
              rw [if_pos ⟨h4, h6, .inr h10⟩] at k
              walk_at "w"
              exact k
            · have h10 : ¬ n = 1 := fun z => h9 (decide_eq_true (by omega))
              walk_at "w"
              exact ⟨1, rfl, no (by omega)⟩
        · have h6 : ¬ n ≤ 12 := fun z => h5 (decide_eq_true (by omega))
          walk_at "w"
          exact ⟨1, rfl, no (by omega)⟩
      · have h4 : ¬ 0 < n := fun z => h2 (decide_eq_true (by omega))
        walk_at "w"
        exact ⟨1, rfl, no (by omega)⟩
theorem ok_word_end (T : Txt K mg) (c_run_end : Kp P w K mg base CX0 1 "run_end" ["row", "at", "signs"] (sp_run_end K)) : Kp P w K mg base CX0 2 "word_end" ["row", "at"] (sp_word_end K) := by
  obtain ⟨fd, F⟩ := T.c.def_ 5 (d := d_word_end) rfl
  refine ⟨⟨_, fd, T.g_word_end, F.kp, F.bindsN fun _ _ _ _ _ _ us hl => match us, hl with | [_, _], _ => rfl, F.ok sc_word_end Sp2.len (fun cdv A outer s H vs Q E hr h => ?_)⟩⟩
  obtain ⟨v0, v1, rfl, h⟩ := h
  refine ⟨t_word_end K, PSs.nox (?_), pure_word_end T h⟩
  exact (pss_cons (ps_if (pt_cmpR (op_eqA hr) (pe_ixA hr (pv 0) (pv 1) (fun _ _ => rfl)) pe_str (nomark _)) (pss_one (ps_ret (pe_op op_addA (pv 1) pe_int))) pss_nil)
      (pss_cons (ps_if (pt_cmpR (op_inA hr) (pe_ixA hr (pv 0) (pv 1) (fun _ _ => rfl)) (pe_gs rfl T.g_LETTERS) (by rfl)) (pss_cons (ps_set (i := 2) sc_word_end.nd rfl (by first | exact Or.inl rfl | exact Or.inr rfl) (pe_cK c_run_end (hr.mono (by decide)) rfl (pa_cons (pv 0) (pa_cons (pv 1) (pa_cons (pe_gs rfl T.g_LETTERS) pa_nil)))))
      (pss_one (ps_ret (pe_ifExp (pt_cmpR op_leA (pe_op op_sub (pv 2) (pv 1)) (pe_gi rfl T.g_MOST_LETTERS) (nomark _)) (pv 2) (pe_un un_neg pe_int))))) pss_nil)
      (pss_cons (ps_set (i := 2) sc_word_end.nd rfl (by first | exact Or.inl rfl | exact Or.inr rfl) (pe_cK c_run_end (hr.mono (by decide)) rfl (pa_cons (pv 0) (pa_cons (pv 1) (pa_cons (pe_gs rfl T.g_FIGURES) pa_nil)))))
      (pss_one (ps_ret (pe_ifExp (PW.pt (pw_and (pt_chain op_ltA op_leA pe_int (pe_op op_sub (pv 2) (pv 1)) (pe_gi rfl T.g_MOST_FIGURES)) (pw_and1 (PW.pt (pw_or (pt_cmpR (op_neA hr) (pe_ixA hr (pv 0) (pv 1) (fun _ _ => rfl)) pe_str (nomark _)) (pw_or1 (pt_cmpR (op_eqA hr) (pe_op op_sub (pv 2) (pv 1)) pe_int (nomark _)))))))) (pv 2) (pe_un un_neg pe_int)))))))
/-! ### the errors -/
def sp_BadSign___init__ (K : PySem.W.Frag) : Sp := Sp2 (pr_init K "BadSign" "spot")
def t_BadSign___init__ (K : PySem.W.Frag) : TS :=
  (tOst K "spot" (tVar 0) (tVar 1))
theorem pure_init {C f : Str} (o : oexB K C = true) (no : PySem.W.findIn K (.ref (He.ga K C)) f = some none) {a b : V} {H : Hp} {Q : VK} {E : XK} (h : pr_init K C f a b H Q E) :
    tOst K f (tVar 0) (tVar 1) { nx := fun _ H' => Q .non H', rt := Q } [some a, some b] H := by
  obtain ⟨x, rfl, hx, k⟩ := h
  exact ⟨_, rfl, _, rfl, x, _, rfl, (oexA_of o).o, no, .inl ⟨hx, k⟩⟩
theorem pure_BadSign___init__ (T : Txt K mg) {a b : V} {H : Hp} {Q : VK} {E : XK} (h : pr_init K "BadSign" "spot" a b H Q E) : t_BadSign___init__ K { nx := fun _ H' => Q .non H', rt := Q } [some a, some b] H := pure_init T.oex_BadSign (He.eqO_ok T.ex_0) h
theorem ok_BadSign___init__ (T : Txt K mg)  : Kf P w K mg base CX0 1 (He.ma K (He.ga K "BadSign") "__init__") ["self", "spot"] (sp_BadSign___init__ K) := by
  obtain ⟨fd, F⟩ := T.c.def_ 0 (d := d_BadSign___init__) rfl
  refine ⟨⟨fd, F.kp, F.bindsN fun _ _ _ _ _ _ us hl => match us, hl with | [_, _], _ => rfl, F.ok sc_BadSign___init__ Sp2.len (fun cdv A outer s H vs Q E hr h => ?_)⟩⟩
  obtain ⟨v0, v1, rfl, h⟩ := h
  refine ⟨t_BadSign___init__ K, PSs.nox (?_), pure_BadSign___init__ T h⟩
  exact (pss_one (ps_ost (pv 0) (pv 1)))
/-! ### row_words -/
def pr_row_words (K : PySem.W.Frag) : V → V → Hp → VK → XK → Prop := fun x y H Q E => ∃ (row : Str) (b : Nat), x = .str row ∧ y = .int (b : Int) ∧ row.length ≤ 100000 ∧
  match rowScan b [] row.cps.toList with
  | .ok ws => ∀ p H', Same H H' → H p = none → H' p = some (.lst (ws.map txt)) → Q (.ref p) H'
  | .error e => RaisedI K "BadSign" "spot" (.int (e : Int)) H E
def sp_row_words (K : PySem.W.Frag) : Sp := Sp2 (pr_row_words K)
def t_row_words (K : PySem.W.Frag) (E : XK) : TS :=
  (tSeq (tAsg (tLst tNil) (gName 2))
  (tSeq (tAsg (tC (.int 0)) (gName 3))
  (tSeq (tWhile (tTest (tOp rLtA (tVar 3) (tCB (rLenA K) (tCons (tVar 0) tNil)))) (tSeq (tIfS (tTest (tOp (rEqA K) (tIxA K (tVar 0) (tVar 3)) (tC (.str " ")))) (tSeq (tAug 3 (tC (.int 1)) (ipI fun i j => i + j))
  tCont) tNext)
  (tSeq (tAsg (tCall (sp_word_end K) [] E0 (tCons (tVar 0) (tCons (tVar 3) tNil))) (gName 4))
  (tSeq (tIfS (tTest (tOp rLtA (tVar 4) (tC (.int 0)))) (tRaiseX (He.ga K "BadSign") (sp_BadSign___init__ K) (fun cls d _ H => E cls d H) (tCons (tOp (rAddA K) (tVar 1) (tVar 3)) tNil)) tNext)
  (tSeq (tDrop (tBM K "list" rAppend (tVar 2) (tCons (tSl (rSlA K) (tVar 0) (tPart (tVar 3)) (tPart (tVar 4))) tNil)))
  (tAsg (tVar 4) (gName 3)))))))
  (tRet (tVar 2)))))
theorem rowScan_len : ∀ (n : Nat) (l : List Nat), l.length ≤ n → ∀ b cur ws, rowScan b cur l = .ok ws → ws.length ≤ cur.length + l.length := by
  intro n
  induction n with
  | zero =>
    intro l hl b cur ws h
    cases l with
    | nil => rw [rowScan_nil] at h; cases h; simp
    | cons => simp at hl
  | succ n ih =>
    intro l hl b cur ws h
    cases l with
    | nil => rw [rowScan_nil] at h; cases h; simp
    | cons c t =>
      simp only [List.length_cons] at hl
      by_cases hc : c = 32
      · subst hc
        rw [rowScan_blank] at h
        have := ih t (by omega) _ _ _ h
        simp only [List.length_cons]; omega
      · cases hw : wordLen (c :: t) with
        | none => rw [rowScan_bad hc hw] at h; cases h
        | some m =>
          have hm := wordLen_le hw
          rw [rowScan_word hc hw] at h
          simp only [List.length_cons] at hm
          have := ih _ (by simp only [List.length_drop, List.length_cons]; omega) _ _ _ h
          simp only [List.length_drop, List.length_cons, List.length_append, List.length_nil] at *
          omega
theorem pure_row_words (T : Txt K mg) {x y : V} {H : Hp} {Q : VK} {E : XK} (h : pr_row_words K x y H Q E) : t_row_words K E { nx := fun _ H' => Q .non H', rt := Q } [some x, some y, none, none, none] H := by
  obtain ⟨row, b, rfl, rfl, hl, k⟩ := h
  have e32 : (" " : Str) = ⟨#[32]⟩ := by decide +kernel
  unfold t_row_words
  walk_at "w"
  refine ⟨Nat.zero_le _, fun p hp => ?_⟩
  walk_at "w"
  refine ⟨fun m σ H' => ∃ (a : Nat) (ws : List (List Nat)) (v : Option V), m = row.length - a ∧ a ≤ row.length ∧ ws.length ≤ a ∧ σ = [some (.str row), some (.int (b : Int)), some (.ref p), some (.int (a : Int)), v] ∧ Same H H' ∧ H' p = some (.lst (ws.map txt)) ∧
    rowScan b [] row.cps.toList = rowScan (b + a) ws (row.cps.toList.drop a), ⟨_, 0, [], none, rfl, Nat.zero_le _, Nat.zero_le _, rfl, same_new hp, upd_same, rfl⟩, ?_⟩
  rintro m σ H' ⟨a, ws, v, rfl, ha, hws, rfl, hs, hL, hr⟩
  walk_at "w"
  refine st_len_str (by omega) ?_
  walk_at "w"
  refine ite2 (fun h1 => ?_) (fun h1 => ?_)
  · have h2 : a < row.length := by have := of_decide_eq_true h1; omega
    obtain ⟨c, h3, hd⟩ := at_drop h2
    refine ⟨_, fun _ _ z => z, ?_⟩
    walk_at "w"
    refine st_ix_str (by omega) h3 ?_
    walk_at "w"
    rw [sign_dec e32]
    rw [hd] at hr
    refine ite2 (fun hc => ?_) (fun hc => ?_)
    · have hc := of_decide_eq_true hc
      subst hc
      walk_at "w"
      exact ⟨row.length - (a + 1), by omega, a + 1, ws, v, rfl, by omega, by omega, rfl, hs, hL, by rw [hr, rowScan_blank]; rfl⟩
    · have hc : c ≠ 32 := fun z => hc (decide_eq_true z)
      walk_at "w"
      refine ⟨_, _, rfl, row, a, rfl, rfl, hl, h2, ?_⟩
      rw [hd]
      cases hw : wordLen (c :: row.cps.toList.drop (a + 1)) with
      | none =>
        rw [rowScan_bad hc hw] at hr
        rw [hr] at k
        dsimp only
        walk_at "w"
        refine ite2 (fun _ => ?_) (fun z => absurd (by decide) z)
        walk_at "w"
        exact raise_ok k hs
      | some n =>
        have hn := wordLen_le hw
        have hn2 : n ≤ row.length - a := by
          have := congrArg List.length hd
          rw [List.length_drop, len_toList] at this
          rw [← this] at hn
          omega
        rw [rowScan_word hc hw] at hr
        dsimp only
        walk_at "w"
        refine ite2 (fun z => absurd (of_decide_eq_true z) (by omega)) (fun _ => ?_)
        walk_at "w"
        refine ⟨.inl ⟨rfl, _, SqL.of hL⟩, ?_⟩
        walk_at "w"
        refine st_slice_str (by omega) ?_
        walk_at "w"
        refine ⟨p, _, _, rfl, rfl, hL, small_lt _ (by rw [List.length_map]; omega), ?_⟩
        walk_at "w"
        refine ⟨row.length - (a + n), by omega, a + n, ws ++ [(c :: row.cps.toList.drop (a + 1)).take n], _, rfl, by omega, by rw [List.length_append, List.length_singleton]; omega, rfl, Same.mut hs hp, ?_, ?_⟩
        · rw [upd_same, List.map_append]
          congr 3
          show [V.str (cutS row (some (a : Int)) (some ((a + n : Nat) : Int)))] = [V.str _]
          congr 2
          rw [cutS_nat (by omega) (by omega), hd]
          congr 2
          omega
        · rw [hr, ← hd, List.drop_drop]
          congr 1
          omega
  · have h2 : ¬ a < row.length := by intro z; exact h1 (decide_eq_true (by omega))
    walk_at "w"
    rw [List.drop_eq_nil_of_le (by rw [len_toList]; omega), rowScan_nil] at hr
    rw [hr] at k
    exact k p H' hs hp hL
theorem ok_row_words (T : Txt K mg) (c_word_end : Kp P w K mg base CX0 2 "word_end" ["row", "at"] (sp_word_end K)) (x_BadSign : Kx P w K mg base 1 "BadSign" ["self", "spot"] (sp_BadSign___init__ K)) : Kp P w K mg base (L2.CX P w) 3 "row_words" ["row", "begin"] (sp_row_words K) := by
  obtain ⟨fd, F⟩ := T.c.def_ 6 (d := d_row_words) rfl
  refine ⟨⟨_, fd, T.g_row_words, F.kp, F.bindsN fun _ _ _ _ _ _ us hl => match us, hl with | [_, _], _ => rfl, F.ok sc_row_words Sp2.len (fun cdv A outer s H vs Q E hr h => ?_)⟩⟩
  obtain ⟨v0, v1, rfl, h⟩ := h
  refine ⟨t_row_words K E, ?_, pure_row_words T h⟩
  exact (pss_cons (ps_set (i := 2) sc_row_words.nd rfl (by first | exact Or.inl rfl | exact Or.inr rfl) (pe_lst pa_nil))
      (pss_cons (ps_set (i := 3) sc_row_words.nd rfl (by first | exact Or.inl rfl | exact Or.inr rfl) pe_int)
      (pss_cons (ps_while (passes_of rfl) (pt_cmpR op_ltA (pv 3) (pe_callB call_len (by rfl) T.n_len (by decide +kernel) (pa_cons (pv 0) pa_nil)) (nomark _)) (pss_cons (ps_if (pt_cmpR (op_eqA hr) (pe_ixA hr (pv 0) (pv 3) (fun _ _ => rfl)) pe_str (nomark _)) (pss_cons (ps_aug (i := 3) sc_row_words.nd rfl (by first | exact Or.inl rfl | exact Or.inr rfl) pe_int ip_add)
      (pss_one ps_continue)) pss_nil)
      (pss_cons (ps_set (i := 4) sc_row_words.nd rfl (by first | exact Or.inl rfl | exact Or.inr rfl) (pe_cK c_word_end (hr.mono (by decide)) rfl (pa_cons (pv 0) (pa_cons (pv 3) pa_nil))))
      (pss_cons (ps_if (pt_cmpR op_ltA (pv 4) pe_int (nomark _)) (pss_one (ps_raise rfl (takes_of rfl rfl rfl rfl) (pmk_X x_BadSign (hr.mono (by decide)) rfl (pa_cons (pe_op op_addA (pv 1) (pv 3)) pa_nil)))) pss_nil)
      (pss_cons (ps_expr (pe_bm PySem.F.plainAttrs_list PySem.F.slot_list_append PySem.F.type_list_append mt_append (pv 2) (pa_cons (pe_slice sl_A (pv 0) (po_some (pv 3)) (po_some (pv 4))) pa_nil)))
      (pss_one (ps_set (i := 3) sc_row_words.nd rfl (by first | exact Or.inl rfl | exact Or.inr rfl) (pv 4))))))))
      (pss_one (ps_ret (pv 2))))))
/-! ### text_words -/
/-- at p a new list of new lists of texts -/
structure RowsAt (H H' : Hp) (p : Addr) (rows : List (List (List Nat))) : Prop where
  ex : ∃ ps : List Addr, H' p = some (.lst (ps.map V.ref)) ∧ H p = none ∧ (∀ q ∈ ps, H q = none) ∧ (p :: ps).Nodup ∧ Paired (fun q ws => H' q = some (.lst ((ws : List (List Nat)).map txt))) ps rows
def pr_text_words (K : PySem.W.Frag) : V → Hp → VK → XK → Prop := fun x H Q E =>
  (∃ z : Str, x = .str z ∧ z.length ≤ 100000 ∧ if z.length ≤ 8000 then (match scan 0 [] [] z.cps.toList with
    | .ok rows => ∀ p H', Same H H' → RowsAt H H' p rows → Q (.ref p) H'
    | .error e => RaisedI K "BadSign" "spot" (.int (e : Int)) H E) else RaisedI K "BadSign" "spot" (.int 0) H E) ∨
  (∃ t, TyX K H x t ∧ PySem.W.kitOne K t (.type "str") = some false ∧ RaisedI K "BadSign" "spot" (.int 0) H E)
def sp_text_words (K : PySem.W.Frag) : Sp := Sp1 (pr_text_words K)
def t_text_words (K : PySem.W.Frag) (E : XK) : TS :=
  (tSeq (tIfS (tOr (tNot (tB (tCB (rIsA K) (tCons (tVar 0) (tCons (tC (.ty "str")) tNil))))) (tTest (tOp rGtA (tCB (rLenA K) (tCons (tVar 0) tNil)) (tC (.int 8000))))) (tRaiseX (He.ga K "BadSign") (sp_BadSign___init__ K) (fun cls d _ H => E cls d H) (tCons (tC (.int 0)) tNil)) tNext)
  (tSeq (tAsg (tLst tNil) (gName 1))
  (tSeq (tAsg (tC (.int 0)) (gName 2))
  (tSeq (tFor (iA K (tM1 rSplitA (tVar 0) (tC (.str "\n")))) (gName 3) (tSeq (tDrop (tBM K "list" rAppend (tVar 1) (tCons (tCallS (sp_row_words K) (WE (fun cls d _ H => E cls d H)) (tCons (tVar 3) (tCons (tVar 2) tNil))) tNil)))
  (tAug 2 (tOp (rAddA K) (tCB (rLenA K) (tCons (tVar 3) tNil)) (tC (.int 1))) (ipI fun i j => i + j))))
  (tRet (tVar 1))))))
theorem rowsScan_app : ∀ (ls : List (List Nat)) (b : Nat) (rows : List (List (List Nat))), rowsScan b rows ls = (rowsScan b [] ls).map (fun r => rows ++ r)
  | [], b, rows => by
    show Except.ok rows = Except.ok (rows ++ [])
    rw [List.append_nil]
  | l :: ls, b, rows => by
    show (rowScan b [] l).bind _ = ((rowScan b [] l).bind _).map _
    cases rowScan b [] l with
    | error e => rfl
    | ok ws =>
      show rowsScan _ (rows ++ [ws]) ls = (rowsScan _ ([] ++ [ws]) ls).map _
      rw [rowsScan_app ls _ (rows ++ [ws]), rowsScan_app ls _ ([] ++ [ws])]
      cases rowsScan (b + l.length + 1) [] ls with
      | error e => rfl
      | ok r => show Except.ok _ = Except.ok _; simp
theorem spl_lens : ∀ (l acc : List Nat) (x : List Nat), x ∈ TL.spl [10] 0 acc l → x.length ≤ acc.length + l.length
  | [], acc, x, h => by
    rw [TL.spl_nil] at h
    have := List.mem_singleton.mp h
    subst this; simp
  | c :: r, acc, x, h => by
    by_cases hc : TL.pre [10] (c :: r) = true
    · rw [TL.spl_hit hc] at h
      rcases List.mem_cons.mp h with e | e
      · subst e; simp
      · have := spl_lens r [] x e
        simp only [List.length_nil, List.length_cons] at *; omega
    · rw [TL.spl_miss (by simpa using hc)] at h
      have := spl_lens r _ x h
      simp only [List.length_append, List.length_cons, List.length_nil] at *; omega
theorem spl_count : ∀ (l acc : List Nat), (TL.spl [10] 0 acc l).length ≤ l.length + 1
  | [], acc => by rw [TL.spl_nil]; simp
  | c :: r, acc => by
    by_cases hc : TL.pre [10] (c :: r) = true
    · rw [TL.spl_hit hc]
      have := spl_count r []
      have h0 : ([10] : List Nat).length - 1 = 0 := rfl
      rw [h0]
      simp only [List.length_cons, List.length_nil] at *; omega
    · rw [TL.spl_miss (by simpa using hc)]
      have := spl_count r (acc ++ [c])
      simp only [List.length_cons] at *; omega
theorem pure_text_words (T : Txt K mg) {x : V} {H : Hp} {Q : VK} {E : XK} (h : pr_text_words K x H Q E) : t_text_words K E { nx := fun _ H' => Q .non H', rt := Q } [some x, none, none, none] H := by
  unfold t_text_words
  rcases h with ⟨z, rfl, hz, k⟩ | ⟨t, ht, kt, k⟩
  · walk_at "w"
    refine st_isi (.ty _) tx_str (kit_ty (r := true) (by decide +kernel)) ?_
    walk_at "w"
    refine st_len_str (by omega) ?_
    walk_at "w"
    refine ite2 (fun h1 => ?_) (fun h1 => ?_)
    · have h2 := of_decide_eq_true h1
      rw [if_neg (by omega)] at k
      walk_at "w"
      exact raise_ok k (Same.refl _)
    · have h2 : z.length ≤ 8000 := by
        have : ¬ (8000 : Int) < z.length := fun e => h1 (decide_eq_true e)
        omega
      rw [if_pos h2] at k
      walk_at "w"
      refine ⟨Nat.zero_le _, fun p hp => ?_⟩
      walk_at "w"
      have e10 : ("\n" : Str) = S [10] := by decide +kernel
      rw [e10]
      refine ⟨z, S [10], rfl, rfl, rfl, Nat.le_trans (by omega : z.length + 2 ≤ 100002) (by decide), fun q hq => ?_⟩
      have hsp : (Txt.split z (S [10])).map TL.tl = lines z.cps.toList := TL.split_spl z (S [10]) (by decide) (TL.kind_ok (by decide +kernel))
      have hqp : q ≠ p := fun e => by rw [e, upd_same] at hq; cases hq
      have hq0 : H q = none := by rw [upd_ne hqp] at hq; exact hq
      generalize Txt.split z (S [10]) = rs at *
      have hcount : rs.length ≤ z.length + 1 := by
        have h3 := congrArg List.length hsp
        rw [List.length_map] at h3
        rw [h3, ← len_toList z]
        exact spl_count _ _
      have hlens : ∀ r ∈ rs, r.length ≤ z.length := fun r hr => by
        have h3 : TL.tl r ∈ lines z.cps.toList := by rw [← hsp]; exact List.mem_map_of_mem hr
        have h4 := spl_lens _ [] _ h3
        rw [← len_toList r, ← len_toList z]
        simpa using h4
      rw [scan_lines _ _ (Nat.le_refl _), ← hsp] at k
      refine .inl ⟨q, rfl, ⟨_, SqL.of upd_same⟩, ?_⟩
      refine for_list (K := K) (a := q) (xs := rs.map V.str) (fun i σ H' => ∃ (ps : List Addr) (ws : List (List (List Nat))) (b : Nat) (v : Option V), σ = [some (.str z), some (.ref p), some (.int (b : Int)), v] ∧
          Same H H' ∧ H' q = some (.lst (rs.map V.str)) ∧ H' p = some (.lst (ps.map V.ref)) ∧ (∀ y ∈ ps, H y = none) ∧ q ∉ ps ∧ (p :: ps).Nodup ∧ Paired (fun y ws => H' y = some (.lst ((ws : List (List Nat)).map txt))) ps ws ∧ ps.length = i ∧
          rowsScan 0 [] (rs.map TL.tl) = rowsScan b ws ((rs.drop i).map TL.tl))
        ⟨[], [], 0, none, rfl, (same_new hp).trans (same_new hq), upd_same, by rw [upd_ne hqp.symm, upd_same]; rfl, (fun _ z => by cases z), (fun z => by cases z), List.nodup_cons.mpr ⟨(fun z => by cases z), List.nodup_nil⟩, Paired.nil, rfl, rfl⟩ (fun i σ H' _ ⟨_, _, _, _, _, _, h, _⟩ => SqL.of h) ?_ ?_
      · rintro i y σ H' hi ⟨ps, ws, b, v, rfl, hs, hQ, hP, hps, hqps, hnd, pr, hlen, hk⟩
        obtain ⟨r, hr, rfl⟩ : ∃ r, rs[i]? = some r ∧ y = .str r := by
          rw [List.getElem?_map] at hi
          cases e : rs[i]? with
          | none => rw [e] at hi; cases hi
          | some r => rw [e] at hi; exact ⟨r, rfl, (Option.some.inj hi).symm⟩
        obtain ⟨hil, hie⟩ := List.getElem?_eq_some_iff.mp hr
        have hrl := hlens r (List.mem_of_getElem? hr)
        have hdrop : (rs.drop i).map TL.tl = r.cps.toList :: (rs.drop (i + 1)).map TL.tl := by
          rw [List.drop_eq_getElem_cons hil, hie]; rfl
        rw [hdrop] at hk
        have hk2 : rowsScan 0 [] (rs.map TL.tl) = (rowScan b [] r.cps.toList).bind fun w => rowsScan (b + r.cps.toList.length + 1) (ws ++ [w]) ((rs.drop (i + 1)).map TL.tl) := hk
        walk_at "w"
        refine ⟨.inl ⟨rfl, _, SqL.of hP⟩, ?_⟩
        walk_at "w"
        refine ⟨_, _, rfl, r, b, rfl, rfl, by omega, ?_⟩
        cases hrow : rowScan b [] r.cps.toList with
        | error e =>
          rw [hrow] at hk2
          have hk3 : rowsScan 0 [] (rs.map TL.tl) = .error e := hk2
          rw [hk3] at k
          exact fun d H'' s0 hd hx => k d H'' (hs.trans s0) (hs.free hd) hx
        | ok w =>
          rw [hrow] at hk2
          have hk3 : rowsScan 0 [] (rs.map TL.tl) = rowsScan (b + r.cps.toList.length + 1) (ws ++ [w]) ((rs.drop (i + 1)).map TL.tl) := hk2
          intro l H'' s2 hl hL
          have hlp : l ≠ p := fun e => by rw [e, hP] at hl; cases hl
          have hlq : l ≠ q := fun e => by rw [e, hQ] at hl; cases hl
          have hlps : l ∉ ps := fun hm => by
            obtain ⟨j, hj⟩ := List.getElem?_of_mem hm
            obtain ⟨ww, _, e⟩ := pget pr hj
            rw [hl] at e; cases e
          refine ⟨p, _, _, rfl, rfl, s2 _ _ hP, small_lt _ (by rw [List.length_map]; omega), ?_⟩
          walk_at "w"
          refine st_len_str (by omega) ?_
          walk_at "w"
          have e5 : ((b : Int) + ((r.length : Int) + 1)) = ((b + r.cps.toList.length + 1 : Nat) : Int) := by rw [len_toList]; omega
          refine ⟨ps ++ [l], ws ++ [w], b + r.cps.toList.length + 1, some (.str r), by rw [e5]; rfl, Same.mut (hs.trans s2) hp, ?_, ?_, ?_, ?_, ?_, ?_, ?_, hk3⟩
          · rw [upd_ne hqp]; exact s2 _ _ hQ
          · rw [upd_same, List.map_append]; rfl
          · intro y hy
            rcases List.mem_append.mp hy with h1 | h1
            · exact hps y h1
            · rw [List.mem_singleton.mp h1]; exact hs.free hl
          · intro hm
            rcases List.mem_append.mp hm with h1 | h1
            · exact hqps h1
            · exact hlq (List.mem_singleton.mp h1).symm
          · rw [← List.cons_append]
            refine List.nodup_append.mpr ⟨hnd, by simp, fun y hy u hu e => ?_⟩
            rw [List.mem_singleton.mp hu] at e
            subst e
            rcases List.mem_cons.mp hy with h1 | h1
            · exact hlp h1
            · exact hlps h1
          · have np : ∀ y ∈ ps, y ≠ p := fun y hy e => by
              rw [e] at hy
              exact (List.nodup_cons.mp hnd).1 hy
            refine paired_snoc (paired_mem pr fun y w hy e => ?_) ?_
            · rw [upd_ne (np y hy)]; exact s2 _ _ e
            · rw [upd_ne hlp]; exact hL
          · rw [List.length_append, hlen]; rfl
      · rintro σ H' ⟨ps, ws, b, v, rfl, hs, hQ, hP, hps, hqps, hnd, pr, hlen, hk⟩
        rw [List.length_map, List.drop_length] at hk
        have hk3 : rowsScan 0 [] (rs.map TL.tl) = .ok ws := hk
        rw [hk3] at k
        walk_at "w"
        exact k p H' hs ⟨ps, hP, hp, hps, hnd, pr⟩
  · walk_at "w"
    refine st_isi (.ty _) ht kt ?_
    walk_at "w"
    exact raise_ok k (Same.refl _)
theorem ok_text_words (T : Txt K mg) (c_row_words : Kp P w K mg base (L2.CX P w) 3 "row_words" ["row", "begin"] (sp_row_words K)) (x_BadSign : Kx P w K mg base 1 "BadSign" ["self", "spot"] (sp_BadSign___init__ K)) : Kp P w K mg base (L2.CX P w) 4 "text_words" ["text"] (sp_text_words K) := by
  obtain ⟨fd, F⟩ := T.c.def_ 7 (d := d_text_words) rfl
  refine ⟨⟨_, fd, T.g_text_words, F.kp, F.bindsN fun _ _ _ _ _ _ us hl => match us, hl with | [_], _ => rfl, F.ok sc_text_words Sp1.len (fun cdv A outer s H vs Q E hr h => ?_)⟩⟩
  obtain ⟨v0, rfl, h⟩ := h
  refine ⟨t_text_words K E, ?_, pure_text_words T h⟩
  exact (pss_cons (ps_if (PW.pt (pw_or (pt_not (pt_val (pe_callB call_isA (by rfl) T.n_isinstance (by decide +kernel) (pa_cons (pv 0) (pa_cons (pe_bltn (v := .ty "str") (by rfl) T.n_str (by decide +kernel) rfl) pa_nil))))) (pw_or1 (pt_cmpR op_gtA (pe_callB call_len (by rfl) T.n_len (by decide +kernel) (pa_cons (pv 0) pa_nil)) (pe_gi rfl T.g_MOST_SIGNS) (nomark _))))) (pss_one (ps_raise rfl (takes_of rfl rfl rfl rfl) (pmk_X x_BadSign (hr.mono (by decide)) rfl (pa_cons pe_int pa_nil)))) pss_nil)
      (pss_cons (ps_set (i := 1) sc_text_words.nd rfl (by first | exact Or.inl rfl | exact Or.inr rfl) (pe_lst pa_nil))
      (pss_cons (ps_set (i := 2) sc_text_words.nd rfl (by first | exact Or.inl rfl | exact Or.inr rfl) pe_int)
      (pss_cons (ps_for (passes_of rfl) rfl (pi_A (pe_split (pv 0) pe_str)) (pg_name (i := 3) sc_text_words.nd rfl (by first | exact Or.inl rfl | exact Or.inr rfl)) (pss_cons (ps_expr (pe_bm PySem.F.plainAttrs_list PySem.F.slot_list_append PySem.F.type_list_append mt_append (pv 1) (pa_cons (pe_cKX c_row_words (hr.mono (by decide)) rfl (takes_of rfl rfl rfl rfl) (pa_cons (pv 3) (pa_cons (pv 2) pa_nil))) pa_nil)))
      (pss_one (ps_aug (i := 2) sc_text_words.nd rfl (by first | exact Or.inl rfl | exact Or.inr rfl) (pe_op op_addA (pe_callB call_len (by rfl) T.n_len (by decide +kernel) (pa_cons (pv 3) pa_nil)) pe_int) ip_add))))
      (pss_one (ps_ret (pv 1)))))))
def sp_BadText___init__ (K : PySem.W.Frag) : Sp := Sp2 (pr_init K "BadText" "spot")
def t_BadText___init__ (K : PySem.W.Frag) : TS :=
  (tOst K "spot" (tVar 0) (tVar 1))
theorem pure_BadText___init__ (T : Txt K mg) {a b : V} {H : Hp} {Q : VK} {E : XK} (h : pr_init K "BadText" "spot" a b H Q E) : t_BadText___init__ K { nx := fun _ H' => Q .non H', rt := Q } [some a, some b] H := pure_init T.oex_BadText (He.eqO_ok T.ex_1) h
theorem ok_BadText___init__ (T : Txt K mg)  : Kf P w K mg base CX0 1 (He.ma K (He.ga K "BadText") "__init__") ["self", "spot"] (sp_BadText___init__ K) := by
  obtain ⟨fd, F⟩ := T.c.def_ 1 (d := d_BadText___init__) rfl
  refine ⟨⟨fd, F.kp, F.bindsN fun _ _ _ _ _ _ us hl => match us, hl with | [_, _], _ => rfl, F.ok sc_BadText___init__ Sp2.len (fun cdv A outer s H vs Q E hr h => ?_)⟩⟩
  obtain ⟨v0, v1, rfl, h⟩ := h
  refine ⟨t_BadText___init__ K, PSs.nox (?_), pure_BadText___init__ T h⟩
  exact (pss_one (ps_ost (pv 0) (pv 1)))
end
end K04
set_option Elab.async false
set_option linter.all false
set_option maxRecDepth 100000
set_option maxHeartbeats 4000000
namespace K04
open PySem PySem.Spec PyProof.Rows L2 My
section
variable {P : Program} {w : World} {K : PySem.W.Frag} {mg : Str → Option Value} {base : Heap}
/-! ### divisor -/
def pr_divisor : V → V → Hp → VK → XK → Prop := fun x y H Q _ => ∃ a b : Nat, x = .int (a : Nat) ∧ y = .int (b : Nat) ∧ Q (.int ((Nat.gcd a b : Nat) : Int)) H
def sp_divisor (K : PySem.W.Frag) : Sp := Sp2 pr_divisor
def t_divisor (K : PySem.W.Frag) : TS :=
  (tSeq (tWhile (tTest (tOp rGtA (tVar 1) (tC (.int 0)))) (tPar 0 1 (tCons (tVar 1) (tCons (tOp rModA (tVar 0) (tVar 1)) tNil))))
  (tRet (tVar 0)))
theorem pure_divisor (T : Txt K mg) {x y : V} {H : Hp} {Q : VK} {E : XK} (h : pr_divisor x y H Q E) : t_divisor K { nx := fun _ H' => Q .non H', rt := Q } [some x, some y] H := by
  obtain ⟨a, b, rfl, rfl, k⟩ := h
  unfold t_divisor
  walk_at "w"
  refine ⟨fun m σ H' => H' = H ∧ ∃ c d : Nat, m = d ∧ Nat.gcd a b = Nat.gcd c d ∧ σ = [some (.int (c : Nat)), some (.int (d : Nat))], ⟨_, rfl, a, b, rfl, rfl, rfl⟩, ?_⟩
  rintro m σ H' ⟨rfl, c, d, rfl, hg, rfl⟩
  walk_at "w"
  refine ite2 (fun h1 => ?_) (fun h1 => ?_)
  · have h2 : 0 < m := by have := of_decide_eq_true h1; omega
    refine ⟨_, fun _ _ z => z, ?_⟩
    walk_at "w"
    refine st_mod (by omega) ?_
    walk_at "w"
    refine ⟨c % m, Nat.mod_lt _ h2, rfl, m, c % m, rfl, ?_, rfl⟩
    rw [hg, Nat.gcd_comm c m, Nat.gcd_rec m c, Nat.gcd_comm]
  · have h2 : m = 0 := by
      have : ¬ (0 : Int) < m := fun e => h1 (decide_eq_true e)
      omega
    subst h2
    walk_at "w"
    rw [hg, Nat.gcd_zero_right] at k
    exact k
theorem ok_divisor (T : Txt K mg)  : Kp P w K mg base CX0 1 "divisor" ["one", "other"] (sp_divisor K) := by
  obtain ⟨fd, F⟩ := T.c.def_ 2 (d := d_divisor) rfl
  refine ⟨⟨_, fd, T.g_divisor, F.kp, F.bindsN fun _ _ _ _ _ _ us hl => match us, hl with | [_, _], _ => rfl, F.ok sc_divisor Sp2.len (fun cdv A outer s H vs Q E hr h => ?_)⟩⟩
  obtain ⟨v0, v1, rfl, h⟩ := h
  refine ⟨t_divisor K, PSs.nox (?_), pure_divisor T h⟩
  exact (pss_cons (ps_while PassesOwn.never (pt_cmpR op_gtA (pv 1) pe_int (nomark _)) (pss_one (ps_par (i := 0) (j := 1) (by rfl) sc_divisor.nd rfl rfl (by decide) rfl rfl (pa_cons (pv 1) (pa_cons (pe_op op_modA (pv 0) (pv 1)) pa_nil)) (by rfl))))
      (pss_one (ps_ret (pv 0))))
/-! ### fraction -/
def pr_fraction : V → V → Hp → VK → XK → Prop := fun x y H Q _ => ∃ a b : Nat, x = .int (a : Nat) ∧ y = .int (b : Nat) ∧ 0 < a ∧ a ≤ 1000000 ∧ b ≤ 1000000 ∧ ∀ p H', Same H H' → H p = none → H' p = some (.tup [.int ((a / Nat.gcd a b : Nat) : Int), .int ((b / Nat.gcd a b : Nat) : Int)]) → Q (.ref p) H'
def sp_fraction (K : PySem.W.Frag) : Sp := Sp2 pr_fraction
def t_fraction (K : PySem.W.Frag) : TS :=
  (tSeq (tAsg (tCall (sp_divisor K) [] E0 (tCons (tCB rAbsI (tCons (tVar 0) tNil)) (tCons (tVar 1) tNil))) (gName 2))
  (tRet (tTup (tCons (tOp rDivA (tVar 0) (tVar 2)) (tCons (tOp rDivA (tVar 1) (tVar 2)) tNil)))))
theorem pure_fraction (T : Txt K mg) {x y : V} {H : Hp} {Q : VK} {E : XK} (h : pr_fraction x y H Q E) : t_fraction K { nx := fun _ H' => Q .non H', rt := Q } [some x, some y, none] H := by
  obtain ⟨a, b, rfl, rfl, h0, ha, hb, k⟩ := h
  unfold t_fraction
  walk_at "w"
  refine ⟨_, rfl, ?_⟩
  rw [if_neg (by omega)]
  walk_at "w"
  refine ⟨_, _, rfl, a, b, rfl, rfl, ?_⟩
  walk_at "w"
  have hg : 0 < Nat.gcd a b := Nat.gcd_pos_of_pos_left _ h0
  have hg2 : Nat.gcd a b ≤ a := Nat.gcd_le_left _ h0
  refine st_div (b := 30) (by omega) (nb (by omega) (by omega)) (by decide) (by decide) ?_
  walk_at "w"
  refine st_div (b := 30) (by omega) (nb (by omega) (by omega)) (by decide) (by decide) ?_
  walk_at "w"
  refine ⟨show 2 ≤ sizeLine by decide, fun p hp => ?_⟩
  walk_at "w"
  exact k p _ (same_new hp) hp upd_same
theorem ok_fraction (T : Txt K mg) (c_divisor : Kp P w K mg base CX0 1 "divisor" ["one", "other"] (sp_divisor K)) : Kp P w K mg base CX0 2 "fraction" ["top", "bottom"] (sp_fraction K) := by
  obtain ⟨fd, F⟩ := T.c.def_ 3 (d := d_fraction) rfl
  refine ⟨⟨_, fd, T.g_fraction, F.kp, F.bindsN fun _ _ _ _ _ _ us hl => match us, hl with | [_, _], _ => rfl, F.ok sc_fraction Sp2.len (fun cdv A outer s H vs Q E hr h => ?_)⟩⟩
  obtain ⟨v0, v1, rfl, h⟩ := h
  refine ⟨t_fraction K, PSs.nox (?_), pure_fraction T h⟩
  exact (pss_cons (ps_set (i := 2) sc_fraction.nd rfl (by first | exact Or.inl rfl | exact Or.inr rfl) (pe_cK c_divisor (hr.mono (by decide)) rfl (pa_cons (pe_callB call_abs (by rfl) T.n_abs (by decide +kernel) (pa_cons (pv 0) pa_nil)) (pa_cons (pv 1) pa_nil))))
      (pss_one (ps_ret (pe_tup (pa_cons (pe_op op_fdivA (pv 0) (pv 2)) (pa_cons (pe_op op_fdivA (pv 1) (pv 2)) pa_nil))))))
/-! ### is_number -/
def pr_is_number : V → Hp → VK → XK → Prop := fun x H Q _ => ∃ z : Str, x = .str z ∧ z.length ≤ 100 ∧ Q (.bl (figB z)) H
def sp_is_number (K : PySem.W.Frag) : Sp := Sp1 pr_is_number
def t_is_number (K : PySem.W.Frag) : TS :=
  (tRet (tAndV (tOp (rNeA K) (tVar 0) (tC (.str ""))) (tInA K (tIxA K (tVar 0) (tC (.int 0))) (tC (.str "0123456789")))))
theorem pure_is_number (T : Txt K mg) {x : V} {H : Hp} {Q : VK} {E : XK} (h : pr_is_number x H Q E) : t_is_number K { nx := fun _ H' => Q .non H', rt := Q } [some x] H := by
  obtain ⟨z, rfl, hl, k⟩ := h
  unfold t_is_number
  walk_at "w"
  cases e : z.cps.toList with
  | nil =>
    have ez : z = "" := TL.ext_tl (by rw [show TL.tl z = z.cps.toList from rfl, e]; decide +kernel)
    rw [decide_eq_true ez]
    walk_at "w"
    unfold figB at k
    rw [e] at k
    exact k
  | cons c t =>
    have hne : z ≠ ("" : Str) := fun z' => by
      rw [z', S_nil] at e
      cases e
    rw [decide_eq_false hne]
    walk_at "w"
    refine st_ix_str0 (c := c) (by omega) (by rw [e]; rfl) ?_
    walk_at "w"
    unfold figB at k
    rw [e] at k
    exact k
theorem ok_is_number (T : Txt K mg)  : Kp P w K mg base CX0 1 "is_number" ["word"] (sp_is_number K) := by
  obtain ⟨fd, F⟩ := T.c.def_ 8 (d := d_is_number) rfl
  refine ⟨⟨_, fd, T.g_is_number, F.kp, F.bindsN fun _ _ _ _ _ _ us hl => match us, hl with | [_], _ => rfl, F.ok sc_is_number Sp1.len (fun cdv A outer s H vs Q E hr h => ?_)⟩⟩
  obtain ⟨v0, rfl, h⟩ := h
  refine ⟨t_is_number K, PSs.nox (?_), pure_is_number T h⟩
  exact (pss_one (ps_ret (pe_and (pe_cmpR (op_neA hr) (pv 0) pe_str (nomark _)) (pe_one (pe_inA hr (pe_ixA hr (pv 0) pe_int (fun _ _ => rfl)) (pe_gs rfl T.g_FIGURES) (by rfl))))))
end
end K04
set_option Elab.async false
set_option linter.all false
set_option maxRecDepth 100000
set_option maxHeartbeats 4000000
namespace K04
open PySem PySem.Spec PyProof.Rows L2 My
section
variable {P : Program} {w : World} {K : PySem.W.Frag} {mg : Str → Option Value} {base : Heap}
/-! ### a reader -/
def RDf (p : Addr) (l : Int) (k : Nat) : List (Str × V) := [("row", .ref p), ("line", .int l), ("at", .int (k : Nat))]
theorem look_row {p : Addr} {l : Int} {k : Nat} : (RDf p l k).lookup ("row" : Str) = some (.ref p) := rfl
theorem look_line {p : Addr} {l : Int} {k : Nat} : (RDf p l k).lookup ("line" : Str) = some (.int l) := rfl
theorem look_at {p : Addr} {l : Int} {k : Nat} : (RDf p l k).lookup ("at" : Str) = some (.int (k : Nat)) := rfl
theorem look_no {p : Addr} {l : Int} {k : Nat} {m : Str} (h1 : (m == ("row" : Str)) = false) (h2 : (m == ("line" : Str)) = false) (h3 : (m == ("at" : Str)) = false) : (RDf p l k).lookup m = none := by
  unfold RDf
  simp only [List.lookup, h1, h2, h3]
theorem str_ra1 : ¬ (("row" : Str) = "at") := by decide +kernel
theorem str_ra2 : ¬ (("line" : Str) = "at") := by decide +kernel
theorem put_at {p : Addr} {l : Int} {k : Nat} {i : Int} : putF "at" (.int i) (RDf p l k) = [(("row" : Str), V.ref p), (("line" : Str), V.int l), (("at" : Str), V.int i)] := by
  unfold RDf
  simp only [putF, if_neg str_ra1, if_neg str_ra2, if_true]
/-- at r a reader of the row at p, its words ws; k of them read -/
structure RD (K : PySem.W.Frag) (H : Hp) (r p : Addr) (l : Int) (ws : List Str) (k : Nat) : Prop where
  ex : ∃ dx, H r = some (.ins (He.ga K "Reader") dx (RDf p l k))
  row : SqL K H p (ws.map V.str)
  len : ws.length ≤ 10000
theorem RD.same {H H' : Hp} {r p : Addr} {l : Int} {ws : List Str} {k : Nat} (h : RD K H r p l ws k) (s : Same H H') : RD K H' r p l ws k := by
  obtain ⟨dx, h1⟩ := h.ex
  exact ⟨⟨dx, s _ _ h1⟩, s.seq h.row, h.len⟩
theorem RD.ns {H : Hp} {r p : Addr} {l : Int} {ws : List Str} {k : Nat} (h : RD K H r p l ws k) : NotSeq (H r) := by
  obtain ⟨dx, h1⟩ := h.ex
  exact notSeq_ins h1
/-- behind a step of the reader: all but it stays -/
structure RA (K : PySem.W.Frag) (r p : Addr) (l : Int) (ws : List Str) (k : Nat) (H H' : Hp) : Prop where
  sb : SB r H H'
  rd : RD K H' r p l ws k
theorem RA.trans {r p : Addr} {l : Int} {ws : List Str} {k k' : Nat} {H H1 H2 : Hp} (a : RA K r p l ws k H H1) (b : RA K r p l ws k' H1 H2) : RA K r p l ws k' H H2 := ⟨a.sb.trans b.sb, b.rd⟩
theorem RA.same {r p : Addr} {l : Int} {ws : List Str} {k : Nat} {H H1 H2 : Hp} (a : RA K r p l ws k H H1) (s : Same H1 H2) : RA K r p l ws k H H2 := ⟨a.sb.trans (Same.sb s), a.rd.same s⟩
theorem RD.ra {r p : Addr} {l : Int} {ws : List Str} {k : Nat} {H H' : Hp} (h : RD K H r p l ws k) (s : Same H H') : RA K r p l ws k H H' := ⟨Same.sb s, h.same s⟩
theorem me {r p : Addr} {l : Int} {ws : List Str} {k : Nat} {H : Hp} {m : Str} {A : Prop} (h : RD K H r p l ws k) (h1 : (m == ("row" : Str)) = false) (h2 : (m == ("line" : Str)) = false) (h3 : (m == ("at" : Str)) = false) (q : A) :
    ∃ a dx fs, V.ref r = .ref a ∧ H a = some (.ins (He.ga K "Reader") dx fs) ∧ fs.lookup m = none ∧ A := by
  obtain ⟨dx, h4⟩ := h.ex
  exact ⟨r, dx, _, rfl, h4, look_no h1 h2 h3, q⟩
theorem fl_at (T : Txt K mg) {r p : Addr} {l : Int} {ws : List Str} {k : Nat} {H : Hp} {A : V → Prop} (h : RD K H r p l ws k) (q : A (.int (k : Nat))) : ∃ a C dx fs v, V.ref r = .ref a ∧ H a = some (.ins C dx fs) ∧ Cls K C ∧ NoAttr K C "at" ∧ fs.lookup ("at" : Str) = some v ∧ A v := by
  obtain ⟨dx, h4⟩ := h.ex
  exact ⟨r, _, dx, _, _, rfl, h4, T.cl_Reader, T.na_Reader_at, look_at, q⟩
theorem fl_row (T : Txt K mg) {r p : Addr} {l : Int} {ws : List Str} {k : Nat} {H : Hp} {A : V → Prop} (h : RD K H r p l ws k) (q : A (.ref p)) : ∃ a C dx fs v, V.ref r = .ref a ∧ H a = some (.ins C dx fs) ∧ Cls K C ∧ NoAttr K C "row" ∧ fs.lookup ("row" : Str) = some v ∧ A v := by
  obtain ⟨dx, h4⟩ := h.ex
  exact ⟨r, _, dx, _, _, rfl, h4, T.cl_Reader, T.na_Reader_row, look_row, q⟩
/-! ### __init__ -/
def pr_Reader_init (K : PySem.W.Frag) : V → V → V → Hp → VK → XK → Prop := fun x y z H Q _ => ∃ (r dx p : Addr) (l : Int), x = .ref r ∧ y = .ref p ∧ z = .int l ∧ H r = some (.ins (He.ga K "Reader") dx []) ∧ ∀ H', SB r H H' → H' r = some (.ins (He.ga K "Reader") dx (RDf p l 0)) → Q .non H'
def sp_Reader___init__ (K : PySem.W.Frag) : Sp := Sp3 (pr_Reader_init K)
def t_Reader___init__ (K : PySem.W.Frag) : TS :=
  (tSeq (sFld K (tVar 0) (tVar 1) "row")
  (tSeq (sFld K (tVar 0) (tVar 2) "line")
  (sFld K (tVar 0) (tC (.int 0)) "at")))
theorem str_rl : ¬ (("row" : Str) = "line") := by decide +kernel
theorem pure_Reader___init__ (T : Txt K mg) {x y z : V} {H : Hp} {Q : VK} {E : XK} (h : pr_Reader_init K x y z H Q E) : t_Reader___init__ K { nx := fun _ H' => Q .non H', rt := Q } [some x, some y, some z] H := by
  obtain ⟨r, dx, p, l, rfl, rfl, rfl, hr, k⟩ := h
  unfold t_Reader___init__
  walk_at "w"
  refine ⟨r, _, dx, _, rfl, hr, T.cl_Reader, T.na_Reader_row, by decide, ?_⟩
  walk_at "w"
  refine ⟨r, _, dx, _, rfl, upd_same, T.cl_Reader, T.na_Reader_line, show 1 < 1000 by decide, ?_⟩
  walk_at "w"
  refine ⟨r, _, dx, _, rfl, upd_same, T.cl_Reader, T.na_Reader_at, by rw [show putF "line" (.int l) (putF "row" (.ref p) []) = [(("row" : Str), V.ref p), (("line" : Str), V.int l)] by simp only [putF, if_neg str_rl]]; exact (by decide : 2 < 1000), ?_⟩
  walk_at "w"
  refine k _ (fun b o n e => by rw [upd_ne n, upd_ne n, upd_ne n]; exact e) ?_
  rw [upd_same]
  show some (HO.ins _ _ _) = some (HO.ins _ _ _)
  simp only [putF, if_neg str_rl, if_neg str_ra1, if_neg str_ra2]
  rfl
theorem ok_Reader___init__ (T : Txt K mg)  : Ki P w K mg base 1 "Reader" ["self", "row", "line"] (sp_Reader___init__ K) := by
  obtain ⟨fd, F⟩ := T.c.def_ 9 (d := d_Reader___init__) rfl
  refine ⟨T.g_Reader, ⟨_, fd, T.mk_Reader, F.bindsN fun _ _ _ _ _ _ us hl => match us, hl with | [_, _, _], _ => rfl, F.ok sc_Reader___init__ Sp3.len (fun cdv A outer s H vs Q E hr h => ?_)⟩⟩
  obtain ⟨v0, v1, v2, rfl, h⟩ := h
  refine ⟨t_Reader___init__ K, PSs.nox (?_), pure_Reader___init__ T h⟩
  exact (pss_cons (ps_fld (pv 0) (pv 1) rfl)
      (pss_cons (ps_fld (pv 0) (pv 2) rfl)
      (pss_one (ps_fld (pv 0) pe_int rfl))))
theorem fl_line (T : Txt K mg) {r p : Addr} {l : Int} {ws : List Str} {k : Nat} {H : Hp} {A : V → Prop} (h : RD K H r p l ws k) (q : A (.int l)) : ∃ a C dx fs v, V.ref r = .ref a ∧ H a = some (.ins C dx fs) ∧ Cls K C ∧ NoAttr K C "line" ∧ fs.lookup ("line" : Str) = some v ∧ A v := by
  obtain ⟨dx, h4⟩ := h.ex
  exact ⟨r, _, dx, _, _, rfl, h4, T.cl_Reader, T.na_Reader_line, look_line, q⟩
/-! ### need -/
/-- BadText is raised, its spot the pair of l and j; all but r stays -/
def ErrT (K : PySem.W.Frag) (H : Hp) (r : Addr) (l : Int) (j : Nat) (E : XK) : Prop := ∀ d v H', SB r H H' → H d = none → H' d = some (.xd [(("spot" : Str), v)]) → Dp K H' v (.tuple [.int l, .int (j : Nat)]) → E (.ref (He.ga K "BadText")) (some d) H'
theorem ErrT.next {r p : Addr} {l : Int} {ws : List Str} {k j : Nat} {H H1 : Hp} {E : XK} (e : ErrT K H r l j E) (a : RA K r p l ws k H H1) : ErrT K H1 r l j E := fun d v H' sb hd he dv => by
  obtain ⟨dx, h1⟩ := a.rd.ex
  exact e d v H' (a.sb.trans sb) (a.sb.free (fun z => by rw [z, h1] at hd; cases hd) hd) he dv
def pr_need (K : PySem.W.Frag) : V → V → Hp → VK → XK → Prop := fun x y H Q E => ∃ (r p : Addr) (l : Int) (ws : List Str) (k : Nat) (b : Bool), x = .ref r ∧ y = .bl b ∧ RD K H r p l ws k ∧ (b = true → Q .non H) ∧ (b = false → ErrT K H r l k E)
def sp_Reader_need (K : PySem.W.Frag) : Sp := Sp2 (pr_need K)
def t_Reader_need (K : PySem.W.Frag) (E : XK) : TS :=
  (tIfS (tNot (tB (tVar 1))) (tRaiseX (He.ga K "BadText") (sp_BadText___init__ K) (fun cls d _ H => E cls d H) (tCons (tTup (tCons (tFld K (tVar 0) "line") (tCons (tFld K (tVar 0) "at") tNil))) tNil)) tNext)
theorem pure_Reader_need (T : Txt K mg) {x y : V} {H : Hp} {Q : VK} {E : XK} (h : pr_need K x y H Q E) : t_Reader_need K E { nx := fun _ H' => Q .non H', rt := Q } [some x, some y] H := by
  obtain ⟨r, p, l, ws, k, b, rfl, rfl, rd, q1, q2⟩ := h
  unfold t_Reader_need
  walk_at "w"
  cases b with
  | true =>
    walk_at "w"
    exact q1 rfl
  | false =>
    walk_at "w"
    refine fl_line T rd ?_
    walk_at "w"
    refine fl_at T rd ?_
    walk_at "w"
    refine ⟨show 2 ≤ sizeLine by decide, fun u hu => ?_⟩
    have s1 : Same H (upd H u (.tup [V.int l, V.int (k : Nat)])) := same_new hu
    refine raise_ok (fun d H' s hd hx => ?_) (Same.refl _)
    exact q2 rfl d (.ref u) H' (Same.sb (s1.trans s)) (s1.free hd) hx (.tup (.inl (.inl (s _ _ upd_same))) (.cons (.int _) (.cons (.int _) .nil)))
theorem ok_Reader_need (T : Txt K mg) (x_BadText : Kx P w K mg base 1 "BadText" ["self", "spot"] (sp_BadText___init__ K)) : Km P w K mg base (L2.CX P w) 3 (He.ga K "Reader") "need" ["self", "good"] (sp_Reader_need K) := by
  obtain ⟨fd, F⟩ := T.c.def_ 10 (d := d_Reader_need) rfl
  refine ⟨T.cl_Reader, ⟨_, fd, T.me_Reader_need, F.bindsN fun _ _ _ _ _ _ us hl => match us, hl with | [_, _], _ => rfl, F.ok sc_Reader_need Sp2.len (fun cdv A outer s H vs Q E hr h => ?_)⟩⟩
  obtain ⟨v0, v1, rfl, h⟩ := h
  refine ⟨t_Reader_need K E, ?_, pure_Reader_need T h⟩
  exact (pss_one (ps_if (pt_not (pt_val (pv 1))) (pss_one (ps_raise rfl (takes_of rfl rfl rfl rfl) (pmk_X x_BadText (hr.mono (by decide)) rfl (pa_cons (pe_tup (pa_cons (pe_fld (pv 0) rfl) (pa_cons (pe_fld (pv 0) rfl) pa_nil))) pa_nil)))) pss_nil))
theorem use_need {r p : Addr} {l : Int} {ws : List Str} {k : Nat} {b : Bool} {H : Hp} {Q : VK} {E : XK} (rd : RD K H r p l ws k) (q1 : b = true → Q .non H) (q2 : b = false → ErrT K H r l k E) : Sp2 (pr_need K) [.ref r, .bl b] H Q E := ⟨_, _, rfl, r, p, l, ws, k, b, rfl, rfl, rd, q1, q2⟩
/-! ### peek -/
def pr_peek (K : PySem.W.Frag) : V → Hp → VK → XK → Prop := fun x H Q _ => ∃ (r p : Addr) (l : Int) (ws : List Str) (k : Nat), x = .ref r ∧ RD K H r p l ws k ∧ Q (.str (ws.getD k "")) H
def sp_Reader_peek (K : PySem.W.Frag) : Sp := Sp1 (pr_peek K)
def t_Reader_peek (K : PySem.W.Frag) : TS :=
  (tRet (tIf (tTest (tOp rLtA (tFld K (tVar 0) "at") (tCB (rLenA K) (tCons (tFld K (tVar 0) "row") tNil)))) (tIxA K (tFld K (tVar 0) "row") (tFld K (tVar 0) "at")) (tC (.str ""))))
theorem pure_Reader_peek (T : Txt K mg) {x : V} {H : Hp} {Q : VK} {E : XK} (h : pr_peek K x H Q E) : t_Reader_peek K { nx := fun _ H' => Q .non H', rt := Q } [some x] H := by
  obtain ⟨r, p, l, ws, k, rfl, rd, q⟩ := h
  unfold t_Reader_peek
  walk_at "w"
  refine fl_at T rd ?_
  walk_at "w"
  refine fl_row T rd ?_
  walk_at "w"
  refine st_len_list rd.row ?_
  walk_at "w"
  rw [List.length_map]
  refine ite2 (fun h1 => ?_) (fun h1 => ?_)
  · have h2 : k < ws.length := by have := of_decide_eq_true h1; omega
    walk_at "w"
    refine fl_row T rd ?_
    walk_at "w"
    refine fl_at T rd ?_
    have e : ws[k]? = some ws[k] := List.getElem?_eq_getElem h2
    refine st_ix_list (v := .str ws[k]) rd.row (atI_nat (by rw [List.getElem?_map, e]; rfl)) ?_
    rw [List.getD_eq_getElem?_getD, e] at q
    exact q
  · have h2 : ¬ k < ws.length := fun z => h1 (decide_eq_true (by omega))
    walk_at "w"
    rw [List.getD_eq_getElem?_getD, List.getElem?_eq_none (by omega)] at q
    exact q
theorem ok_Reader_peek (T : Txt K mg)  : Km P w K mg base CX0 1 (He.ga K "Reader") "peek" ["self"] (sp_Reader_peek K) := by
  obtain ⟨fd, F⟩ := T.c.def_ 11 (d := d_Reader_peek) rfl
  refine ⟨T.cl_Reader, ⟨_, fd, T.me_Reader_peek, F.bindsN fun _ _ _ _ _ _ us hl => match us, hl with | [_], _ => rfl, F.ok sc_Reader_peek Sp1.len (fun cdv A outer s H vs Q E hr h => ?_)⟩⟩
  obtain ⟨v0, rfl, h⟩ := h
  refine ⟨t_Reader_peek K, PSs.nox (?_), pure_Reader_peek T h⟩
  exact (pss_one (ps_ret (pe_ifExp (pt_cmpR op_ltA (pe_fld (pv 0) rfl) (pe_callB call_len (by rfl) T.n_len (by decide +kernel) (pa_cons (pe_fld (pv 0) rfl) pa_nil)) (nomark _)) (pe_ixA hr (pe_fld (pv 0) rfl) (pe_fld (pv 0) rfl) (fun _ _ => rfl)) pe_str)))
/-! ### go -/
def pr_go (K : PySem.W.Frag) : V → Hp → VK → XK → Prop := fun x H Q _ => ∃ (r p : Addr) (l : Int) (ws : List Str) (k : Nat), x = .ref r ∧ RD K H r p l ws k ∧ ∀ H', RA K r p l ws (k + 1) H H' → Q (.str (ws.getD k "")) H'
def sp_Reader_go (K : PySem.W.Frag) : Sp := Sp1 (pr_go K)
def t_Reader_go (K : PySem.W.Frag) : TS :=
  (tSeq (tAsg (tMeth (He.ga K "Reader") "peek" (sp_Reader_peek K) [] E0 (tVar 0) tNil) (gName 1))
  (tSeq (sFldAug K (tVar 0) (tC (.int 1)) rAdd "at")
  (tRet (tVar 1))))
theorem pure_Reader_go (T : Txt K mg) {x : V} {H : Hp} {Q : VK} {E : XK} (h : pr_go K x H Q E) : t_Reader_go K { nx := fun _ H' => Q .non H', rt := Q } [some x, none] H := by
  obtain ⟨r, p, l, ws, k, rfl, rd, q⟩ := h
  unfold t_Reader_go
  walk_at "w"
  refine me rd (by decide) (by decide) (by decide) ?_
  walk_at "w"
  refine ⟨_, rfl, r, p, l, ws, k, rfl, rd, ?_⟩
  walk_at "w"
  obtain ⟨dx, hr⟩ := rd.ex
  refine ⟨r, _, dx, _, _, rfl, hr, T.cl_Reader, T.na_Reader_at, look_at, ?_⟩
  walk_at "w"
  refine ⟨_, _, rfl, rfl, dx, _, hr, show 3 < 1000 by decide, ?_⟩
  rw [put_at]
  walk_at "w"
  have sb : SB r H (upd H r (.ins (He.ga K "Reader") dx [("row", .ref p), ("line", .int l), ("at", .int ((k : Nat) + 1))])) := fun b o n e => by rw [upd_ne n]; exact e
  exact q _ ⟨sb, ⟨dx, upd_same⟩, sb.seqL rd.ns rd.row, rd.len⟩
theorem ok_Reader_go (T : Txt K mg) (c_Reader_peek : Km P w K mg base CX0 1 (He.ga K "Reader") "peek" ["self"] (sp_Reader_peek K)) : Km P w K mg base CX0 2 (He.ga K "Reader") "go" ["self"] (sp_Reader_go K) := by
  obtain ⟨fd, F⟩ := T.c.def_ 12 (d := d_Reader_go) rfl
  refine ⟨T.cl_Reader, ⟨_, fd, T.me_Reader_go, F.bindsN fun _ _ _ _ _ _ us hl => match us, hl with | [_], _ => rfl, F.ok sc_Reader_go Sp1.len (fun cdv A outer s H vs Q E hr h => ?_)⟩⟩
  obtain ⟨v0, rfl, h⟩ := h
  refine ⟨t_Reader_go K, PSs.nox (?_), pure_Reader_go T h⟩
  exact (pss_cons (ps_set (i := 1) sc_Reader_go.nd rfl (by first | exact Or.inl rfl | exact Or.inr rfl) (pe_mK0 c_Reader_peek (hr.mono (by decide)) (pv 0)))
      (pss_cons (ps_fldaug (pv 0) pe_int in_add)
      (pss_one (ps_ret (pv 1)))))
theorem gd {ws t : List Str} {k : Nat} {x : Str} (h : ws.drop k = x :: t) : ws.getD k "" = x := by
  have e : ws[k]? = some x := by
    rw [← List.head?_drop, h]; rfl
  rw [List.getD_eq_getElem?_getD, e]; rfl
theorem gt {ws t : List Str} {k : Nat} {x : Str} (h : ws.drop k = x :: t) : ws.drop (k + 1) = t := by
  rw [← List.drop_drop, h]; rfl
theorem gl {ws t : List Str} {k : Nat} (h : ws.drop k = t) : ws.length - k = t.length := by rw [← h, List.length_drop]
theorem RA.mut {r p f : Addr} {l : Int} {ws : List Str} {k k0 : Nat} {H H' : Hp} {o : HO} (a : RA K r p l ws k H H') (rd : RD K H r p l ws k0) (hf : H f = none) : RA K r p l ws k H (upd H' f o) := by
  obtain ⟨dx, h1⟩ := a.rd.ex
  obtain ⟨dx0, h0⟩ := rd.ex
  have ne : r ≠ f := fun e => by rw [e, hf] at h0; cases h0
  exact ⟨a.sb.mut hf, ⟨dx, by rw [upd_ne ne]; exact h1⟩, (a.sb.mut hf).seqL rd.ns rd.row, rd.len⟩
theorem use_peek {r p : Addr} {l : Int} {ws : List Str} {k : Nat} {H : Hp} {Q : VK} {E : XK} (rd : RD K H r p l ws k) (q : Q (.str (ws.getD k "")) H) : Sp1 (pr_peek K) [.ref r] H Q E := ⟨_, rfl, r, p, l, ws, k, rfl, rd, q⟩
theorem use_go {r p : Addr} {l : Int} {ws : List Str} {k : Nat} {H : Hp} {Q : VK} {E : XK} (rd : RD K H r p l ws k) (q : ∀ H', RA K r p l ws (k + 1) H H' → Q (.str (ws.getD k "")) H') : Sp1 (pr_go K) [.ref r] H Q E := ⟨_, rfl, r, p, l, ws, k, rfl, rd, q⟩
end
end K04
set_option Elab.async false
set_option linter.all false
set_option maxRecDepth 100000
set_option maxHeartbeats 4000000
namespace K04
open PySem PySem.Spec PyProof.Rows L2 My
section
variable {P : Program} {w : World} {K : PySem.W.Frag} {mg : Str → Option Value} {base : Heap}
/-- all words are words -/
def WdW (ws : List Str) : Prop := ∀ y ∈ ws, WdOk y.cps.toList
theorem getD_or {ws : List Str} (h : WdW ws) (k : Nat) : ws.getD k "" = "" ∨ WdOk (ws.getD k "").cps.toList := by
  rw [List.getD_eq_getElem?_getD]
  cases e : ws[k]? with
  | none => exact .inl rfl
  | some y => exact .inr (h y (List.mem_of_getElem? e))
theorem figB_nil : figB "" = false := by unfold figB; rw [S_nil]
theorem len_nil : ("" : Str).length = 0 := by decide +kernel
/-- a word of the row, or none: what it tells -/
theorem word_cases {ws : List Str} (h : WdW ws) (k : Nat) : (ws.getD k "").length ≤ 12 ∧ ((figB (ws.getD k "") = false ∧ numOf (ws.getD k "") = none) ∨ ∃ n, n < 10 ^ 12 ∧ ws.getD k "" = numS n ∧ figB (ws.getD k "") = true ∧ numOf (ws.getD k "") = some n) := by
  rcases getD_or h k with e | w
  · rw [e]
    exact ⟨by rw [len_nil]; decide, .inl ⟨figB_nil, numOf_nil⟩⟩
  · generalize ws.getD k "" = z at *
    refine ⟨by have := w.ne.2; rw [tl_len] at this; exact this, ?_⟩
    have e := numOf_isSome w
    cases q : numOf z with
    | none => rw [q] at e; exact .inl ⟨e.symm, rfl⟩
    | some n =>
      obtain ⟨e2, e3⟩ := numOf_some w q
      rw [q] at e
      exact .inr ⟨n, e3, e2, e.symm, rfl⟩
theorem numZ_of {lo hi n : Nat} {z : Str} (h : numOf z = some n) : numZ lo hi z = if lo ≤ n ∧ n ≤ hi then some n else none := by
  unfold numZ; rw [h]
theorem numZ_none {lo hi : Nat} {z : Str} (h : numOf z = none) : numZ lo hi z = none := by
  unfold numZ; rw [h]
theorem use_isnum {z : Str} {H : Hp} {Q : VK} {E : XK} (hl : z.length ≤ 100) (q : Q (.bl (figB z)) H) : Sp1 pr_is_number [.str z] H Q E := ⟨_, rfl, z, rfl, hl, q⟩
/-! ### take_word -/
def pr_take_word (K : PySem.W.Frag) : V → V → Hp → VK → XK → Prop := fun x y H Q E => ∃ (r p : Addr) (l : Int) (ws : List Str) (k : Nat) (z : Str), x = .ref r ∧ y = .str z ∧ RD K H r p l ws k ∧ (ws.getD k "" = z → ∀ H', RA K r p l ws (k + 1) H H' → Q .non H') ∧ (ws.getD k "" ≠ z → ErrT K H r l k E)
def sp_Reader_take_word (K : PySem.W.Frag) : Sp := Sp2 (pr_take_word K)
def t_Reader_take_word (K : PySem.W.Frag) (E : XK) : TS :=
  (tSeq (tDrop (tMethX (He.ga K "Reader") "need" (sp_Reader_need K) (WE (fun cls d _ H => E cls d H)) (tVar 0) (tCons (tOp (rEqA K) (tMeth (He.ga K "Reader") "peek" (sp_Reader_peek K) [] E0 (tVar 0) tNil) (tVar 1)) tNil)))
  (tDrop (tMeth (He.ga K "Reader") "go" (sp_Reader_go K) [] E0 (tVar 0) tNil)))
theorem pure_Reader_take_word (T : Txt K mg) {x y : V} {H : Hp} {Q : VK} {E : XK} (h : pr_take_word K x y H Q E) : t_Reader_take_word K E { nx := fun _ H' => Q .non H', rt := Q } [some x, some y] H := by
  obtain ⟨r, p, l, ws, k, z, rfl, rfl, rd, q1, q2⟩ := h
  unfold t_Reader_take_word
  walk_at "w"
  refine me rd (by decide) (by decide) (by decide) ?_
  walk_at "w"
  refine me rd (by decide) (by decide) (by decide) ?_
  walk_at "w"
  refine use_peek rd ?_
  walk_at "w"
  refine use_need rd (fun h => ?_) (fun h => q2 (of_decide_eq_false h))
  walk_at "w"
  refine me rd (by decide) (by decide) (by decide) ?_
  walk_at "w"
  refine use_go rd fun H' a => ?_
  walk_at "w"
  exact q1 (of_decide_eq_true h) _ a
theorem ok_Reader_take_word (T : Txt K mg) (c_Reader_need : Km P w K mg base (L2.CX P w) 3 (He.ga K "Reader") "need" ["self", "good"] (sp_Reader_need K)) (c_Reader_peek : Km P w K mg base CX0 1 (He.ga K "Reader") "peek" ["self"] (sp_Reader_peek K)) (c_Reader_go : Km P w K mg base CX0 2 (He.ga K "Reader") "go" ["self"] (sp_Reader_go K)) : Km P w K mg base (L2.CX P w) 4 (He.ga K "Reader") "take_word" ["self", "word"] (sp_Reader_take_word K) := by
  obtain ⟨fd, F⟩ := T.c.def_ 13 (d := d_Reader_take_word) rfl
  refine ⟨T.cl_Reader, ⟨_, fd, T.me_Reader_take_word, F.bindsN fun _ _ _ _ _ _ us hl => match us, hl with | [_, _], _ => rfl, F.ok sc_Reader_take_word Sp2.len (fun cdv A outer s H vs Q E hr h => ?_)⟩⟩
  obtain ⟨v0, v1, rfl, h⟩ := h
  refine ⟨t_Reader_take_word K E, ?_, pure_Reader_take_word T h⟩
  exact (pss_cons (ps_expr (pe_mKX c_Reader_need (hr.mono (by decide)) (takes_of rfl rfl rfl rfl) (pv 0) (pa_cons (pe_cmpR (op_eqA hr) (pe_mK0 c_Reader_peek (hr.mono (by decide)) (pv 0)) (pv 1) (nomark _)) pa_nil)))
      (pss_one (ps_expr (pe_mK0 c_Reader_go (hr.mono (by decide)) (pv 0)))))
/-! ### take_number -/
def pr_take_number (K : PySem.W.Frag) : V → V → V → Hp → VK → XK → Prop := fun x y z H Q E => ∃ (r p : Addr) (l : Int) (lo hi : Nat) (ws : List Str) (k : Nat), x = .ref r ∧ y = .int (lo : Nat) ∧ z = .int (hi : Nat) ∧ RD K H r p l ws k ∧ WdW ws ∧
  match numZ lo hi (ws.getD k "") with
  | some n => ∀ H', RA K r p l ws (k + 1) H H' → Q (.int (n : Nat)) H'
  | none => ErrT K H r l k E
def sp_Reader_take_number (K : PySem.W.Frag) : Sp := Sp3 (pr_take_number K)
def t_Reader_take_number (K : PySem.W.Frag) (E : XK) : TS :=
  (tSeq (tDrop (tMethX (He.ga K "Reader") "need" (sp_Reader_need K) (WE (fun cls d _ H => E cls d H)) (tVar 0) (tCons (tAndV (tCall (sp_is_number K) [] E0 (tCons (tMeth (He.ga K "Reader") "peek" (sp_Reader_peek K) [] E0 (tVar 0) tNil) tNil)) (tChain rLeA rLeA (tVar 1) (tCB rIntA (tCons (tMeth (He.ga K "Reader") "peek" (sp_Reader_peek K) [] E0 (tVar 0) tNil) tNil)) (tVar 2))) tNil)))
  (tRet (tCB rIntA (tCons (tMeth (He.ga K "Reader") "go" (sp_Reader_go K) [] E0 (tVar 0) tNil) tNil))))
theorem pure_Reader_take_number (T : Txt K mg) {x y z : V} {H : Hp} {Q : VK} {E : XK} (h : pr_take_number K x y z H Q E) : t_Reader_take_number K E { nx := fun _ H' => Q .non H', rt := Q } [some x, some y, some z] H := by
  obtain ⟨r, p, l, lo, hi, ws, k, rfl, rfl, rfl, rd, wd, q⟩ := h
  obtain ⟨hl, hc⟩ := word_cases wd k
  unfold t_Reader_take_number
  walk_at "w"
  refine me rd (by decide) (by decide) (by decide) ?_
  walk_at "w"
  refine me rd (by decide) (by decide) (by decide) ?_
  walk_at "w"
  refine use_peek rd ?_
  walk_at "w"
  refine use_isnum (by omega) ?_
  rcases hc with ⟨h1, h2⟩ | ⟨n, hn, h0, h1, h2⟩
  · rw [h1]
    walk_at "w"
    rw [numZ_none h2] at q
    exact use_need rd (fun h => by cases h) (fun _ => q)
  rw [h1]
  walk_at "w"
  refine me rd (by decide) (by decide) (by decide) ?_
  walk_at "w"
  refine use_peek rd ?_
  rw [h0]
  have hl2 := numS_len (k := 12) (by decide) hn
  walk_at "w"
  refine st_int_str (numS_int (by omega)) (by omega) ?_
  walk_at "w"
  rw [numZ_of h2] at q
  refine ite2 (fun h3 => ?_) (fun h3 => ?_)
  · have h3 : lo ≤ n := by have := of_decide_eq_true h3; omega
    walk_at "w"
    refine use_need rd (fun h4 => ?_) (fun h4 => ?_)
    · have h4 : n ≤ hi := by have := of_decide_eq_true h4; omega
      rw [if_pos ⟨h3, h4⟩] at q
      walk_at "w"
      refine me rd (by decide) (by decide) (by decide) ?_
      walk_at "w"
      refine use_go rd fun H' a => ?_
      rw [h0]
      walk_at "w"
      refine st_int_str (numS_int (by omega)) (by omega) ?_
      walk_at "w"
      exact q _ a
    · have h4 : ¬ n ≤ hi := by have := of_decide_eq_false h4; omega
      rw [if_neg (fun z => h4 z.2)] at q
      exact q
  · have h3 : ¬ lo ≤ n := fun e => h3 (decide_eq_true (by omega))
    rw [if_neg (fun z => h3 z.1)] at q
    exact use_need rd (fun h => by cases h) (fun _ => q)
theorem ok_Reader_take_number (T : Txt K mg) (c_is_number : Kp P w K mg base CX0 1 "is_number" ["word"] (sp_is_number K)) (c_Reader_need : Km P w K mg base (L2.CX P w) 3 (He.ga K "Reader") "need" ["self", "good"] (sp_Reader_need K)) (c_Reader_peek : Km P w K mg base CX0 1 (He.ga K "Reader") "peek" ["self"] (sp_Reader_peek K)) (c_Reader_go : Km P w K mg base CX0 2 (He.ga K "Reader") "go" ["self"] (sp_Reader_go K)) : Km P w K mg base (L2.CX P w) 4 (He.ga K "Reader") "take_number" ["self", "low", "high"] (sp_Reader_take_number K) := by
  obtain ⟨fd, F⟩ := T.c.def_ 14 (d := d_Reader_take_number) rfl
  refine ⟨T.cl_Reader, ⟨_, fd, T.me_Reader_take_number, F.bindsN fun _ _ _ _ _ _ us hl => match us, hl with | [_, _, _], _ => rfl, F.ok sc_Reader_take_number Sp3.len (fun cdv A outer s H vs Q E hr h => ?_)⟩⟩
  obtain ⟨v0, v1, v2, rfl, h⟩ := h
  refine ⟨t_Reader_take_number K E, ?_, pure_Reader_take_number T h⟩
  exact (pss_cons (ps_expr (pe_mKX c_Reader_need (hr.mono (by decide)) (takes_of rfl rfl rfl rfl) (pv 0) (pa_cons (pe_and (pe_cK c_is_number (hr.mono (by decide)) rfl (pa_cons (pe_mK0 c_Reader_peek (hr.mono (by decide)) (pv 0)) pa_nil)) (pe_one (pe_chain op_leA op_leA (pv 1) (pe_callTy call_intA (by rfl) T.n_int (by decide +kernel) (pa_cons (pe_mK0 c_Reader_peek (hr.mono (by decide)) (pv 0)) pa_nil)) (pv 2)))) pa_nil)))
      (pss_one (ps_ret (pe_callTy call_intA (by rfl) T.n_int (by decide +kernel) (pa_cons (pe_mK0 c_Reader_go (hr.mono (by decide)) (pv 0)) pa_nil)))))
theorem use_number {r p : Addr} {l : Int} {lo hi : Nat} {ws : List Str} {k : Nat} {H : Hp} {Q : VK} {E : XK} {y z : V} (hy : y = .int (lo : Nat)) (hz : z = .int (hi : Nat)) (rd : RD K H r p l ws k) (wd : WdW ws)
    (q : match numZ lo hi (ws.getD k "") with
      | some n => ∀ H', RA K r p l ws (k + 1) H H' → Q (.int (n : Nat)) H'
      | none => ErrT K H r l k E) : Sp3 (pr_take_number K) [.ref r, y, z] H Q E := ⟨_, _, _, rfl, r, p, l, lo, hi, ws, k, rfl, hy, hz, rd, wd, q⟩
/-! ### take_fraction -/
def pr_take_fraction (K : PySem.W.Frag) : V → Hp → VK → XK → Prop := fun x H Q E => ∃ (r p : Addr) (l : Int) (ws : List Str) (k : Nat), x = .ref r ∧ RD K H r p l ws k ∧ WdW ws ∧
  match fracP k ws with
  | .ok f => ∀ v H', RA K r p l ws (k + 3) H H' → H v = none → H' v = some (.tup [.int (f.1 : Nat), .int (f.2 : Nat)]) → Q (.ref v) H'
  | .error j => ErrT K H r l j E
def sp_Reader_take_fraction (K : PySem.W.Frag) : Sp := Sp1 (pr_take_fraction K)
def t_Reader_take_fraction (K : PySem.W.Frag) (E : XK) : TS :=
  (tSeq (tDrop (tMethX (He.ga K "Reader") "need" (sp_Reader_need K) (WE (fun cls d _ H => E cls d H)) (tVar 0) (tCons (tAndV (tCall (sp_is_number K) [] E0 (tCons (tMeth (He.ga K "Reader") "peek" (sp_Reader_peek K) [] E0 (tVar 0) tNil) tNil)) (tChain rLeA rLeA (tC (.int 1)) (tCB rIntA (tCons (tMeth (He.ga K "Reader") "peek" (sp_Reader_peek K) [] E0 (tVar 0) tNil) tNil)) (tC (.int 1000)))) tNil)))
  (tSeq (tAsg (tCB rIntA (tCons (tMeth (He.ga K "Reader") "go" (sp_Reader_go K) [] E0 (tVar 0) tNil) tNil)) (gName 1))
  (tSeq (tDrop (tMethX (He.ga K "Reader") "take_word" (sp_Reader_take_word K) (WE (fun cls d _ H => E cls d H)) (tVar 0) (tCons (tC (.str "/")) tNil)))
  (tRet (tCall (sp_fraction K) [] E0 (tCons (tVar 1) (tCons (tMethX (He.ga K "Reader") "take_number" (sp_Reader_take_number K) (WE (fun cls d _ H => E cls d H)) (tVar 0) (tCons (tVar 1) (tCons (tC (.int 1000)) tNil))) tNil)))))))
theorem pure_Reader_take_fraction (T : Txt K mg) {x : V} {H : Hp} {Q : VK} {E : XK} (h : pr_take_fraction K x H Q E) : t_Reader_take_fraction K E { nx := fun _ H' => Q .non H', rt := Q } [some x, none] H := by
  obtain ⟨r, p, l, ws, k, rfl, rd, wd, q⟩ := h
  obtain ⟨hl, hc⟩ := word_cases wd k
  unfold fracP at q
  unfold t_Reader_take_fraction
  walk_at "w"
  refine me rd (by decide) (by decide) (by decide) ?_
  walk_at "w"
  refine me rd (by decide) (by decide) (by decide) ?_
  walk_at "w"
  refine use_peek rd ?_
  walk_at "w"
  refine use_isnum (by omega) ?_
  rcases hc with ⟨h1, h2⟩ | ⟨n, hn, h0, h1, h2⟩
  · rw [h1]
    walk_at "w"
    rw [numZ_none h2] at q
    exact use_need rd (fun h => by cases h) (fun _ => q)
  rw [h1]
  walk_at "w"
  refine me rd (by decide) (by decide) (by decide) ?_
  walk_at "w"
  refine use_peek rd ?_
  rw [h0]
  have hl2 := numS_len (k := 12) (by decide) hn
  walk_at "w"
  refine st_int_str (numS_int (by omega)) (by omega) ?_
  walk_at "w"
  rw [numZ_of h2] at q
  refine ite2 (fun h3 => ?_) (fun h3 => ?_)
  · have h3 : 1 ≤ n := by have := of_decide_eq_true h3; omega
    walk_at "w"
    refine use_need rd (fun h4 => ?_) (fun h4 => ?_)
    · have h4 : n ≤ 1000 := by have := of_decide_eq_true h4; omega
      rw [if_pos ⟨h3, h4⟩] at q
      dsimp only at q
      walk_at "w"
      refine me rd (by decide) (by decide) (by decide) ?_
      walk_at "w"
      refine use_go rd fun H1 a1 => ?_
      rw [h0]
      walk_at "w"
      refine st_int_str (numS_int (by omega)) (by omega) ?_
      walk_at "w"
      refine me a1.rd (by decide) (by decide) (by decide) ?_
      walk_at "w"
      refine ⟨_, _, rfl, r, p, l, ws, k + 1, "/", rfl, rfl, a1.rd, fun h5 H2 a2 => ?_, fun h5 => ?_⟩
      · rw [if_pos h5] at q
        have a2 := a1.trans a2
        walk_at "w"
        refine me a2.rd (by decide) (by decide) (by decide) ?_
        walk_at "w"
        refine use_number (lo := n) (hi := 1000) rfl rfl a2.rd wd ?_
        cases h6 : numZ n 1000 (ws.getD (k + 1 + 1) "") with
        | none =>
          rw [h6] at q
          exact ErrT.next q a2
        | some b =>
          rw [h6] at q
          obtain ⟨_, b1, b2⟩ := numZ_some h6
          intro H3 a3
          have a3 := a2.trans a3
          walk_at "w"
          refine ⟨_, _, rfl, n, b, rfl, rfl, by omega, by omega, by omega, fun v H4 s4 hv h7 => ?_⟩
          walk_at "w"
          obtain ⟨dx, h8⟩ := a3.rd.ex
          exact q v H4 (a3.same s4) (a3.sb.free (fun z => by rw [z, h8] at hv; cases hv) hv) h7
      · rw [if_neg h5] at q
        exact ErrT.next q a1
    · have h4 : ¬ n ≤ 1000 := by have := of_decide_eq_false h4; omega
      rw [if_neg (fun z => h4 z.2)] at q
      exact q
  · have h3 : ¬ 1 ≤ n := fun e => h3 (decide_eq_true (by omega))
    rw [if_neg (fun z => h3 z.1)] at q
    exact use_need rd (fun h => by cases h) (fun _ => q)
theorem ok_Reader_take_fraction (T : Txt K mg) (c_fraction : Kp P w K mg base CX0 2 "fraction" ["top", "bottom"] (sp_fraction K)) (c_is_number : Kp P w K mg base CX0 1 "is_number" ["word"] (sp_is_number K)) (c_Reader_need : Km P w K mg base (L2.CX P w) 3 (He.ga K "Reader") "need" ["self", "good"] (sp_Reader_need K)) (c_Reader_peek : Km P w K mg base CX0 1 (He.ga K "Reader") "peek" ["self"] (sp_Reader_peek K)) (c_Reader_go : Km P w K mg base CX0 2 (He.ga K "Reader") "go" ["self"] (sp_Reader_go K)) (c_Reader_take_word : Km P w K mg base (L2.CX P w) 4 (He.ga K "Reader") "take_word" ["self", "word"] (sp_Reader_take_word K)) (c_Reader_take_number : Km P w K mg base (L2.CX P w) 4 (He.ga K "Reader") "take_number" ["self", "low", "high"] (sp_Reader_take_number K)) : Km P w K mg base (L2.CX P w) 5 (He.ga K "Reader") "take_fraction" ["self"] (sp_Reader_take_fraction K) := by
  obtain ⟨fd, F⟩ := T.c.def_ 15 (d := d_Reader_take_fraction) rfl
  refine ⟨T.cl_Reader, ⟨_, fd, T.me_Reader_take_fraction, F.bindsN fun _ _ _ _ _ _ us hl => match us, hl with | [_], _ => rfl, F.ok sc_Reader_take_fraction Sp1.len (fun cdv A outer s H vs Q E hr h => ?_)⟩⟩
  obtain ⟨v0, rfl, h⟩ := h
  refine ⟨t_Reader_take_fraction K E, ?_, pure_Reader_take_fraction T h⟩
  exact (pss_cons (ps_expr (pe_mKX c_Reader_need (hr.mono (by decide)) (takes_of rfl rfl rfl rfl) (pv 0) (pa_cons (pe_and (pe_cK c_is_number (hr.mono (by decide)) rfl (pa_cons (pe_mK0 c_Reader_peek (hr.mono (by decide)) (pv 0)) pa_nil)) (pe_one (pe_chain op_leA op_leA pe_int (pe_callTy call_intA (by rfl) T.n_int (by decide +kernel) (pa_cons (pe_mK0 c_Reader_peek (hr.mono (by decide)) (pv 0)) pa_nil)) (pe_gi rfl T.g_MOST_BOTTOM)))) pa_nil)))
      (pss_cons (ps_set (i := 1) sc_Reader_take_fraction.nd rfl (by first | exact Or.inl rfl | exact Or.inr rfl) (pe_callTy call_intA (by rfl) T.n_int (by decide +kernel) (pa_cons (pe_mK0 c_Reader_go (hr.mono (by decide)) (pv 0)) pa_nil)))
      (pss_cons (ps_expr (pe_mKX c_Reader_take_word (hr.mono (by decide)) (takes_of rfl rfl rfl rfl) (pv 0) (pa_cons pe_str pa_nil)))
      (pss_one (ps_ret (pe_cK c_fraction (hr.mono (by decide)) rfl (pa_cons (pv 1) (pa_cons (pe_mKX c_Reader_take_number (hr.mono (by decide)) (takes_of rfl rfl rfl rfl) (pv 0) (pa_cons (pv 1) (pa_cons (pe_gi rfl T.g_MOST_BOTTOM) pa_nil))) pa_nil))))))))
/-! ### over -/
def pr_over (K : PySem.W.Frag) : V → Hp → VK → XK → Prop := fun x H Q E => ∃ (r p : Addr) (l : Int) (ws : List Str) (k : Nat), x = .ref r ∧ RD K H r p l ws k ∧ (ws.length = k → Q .non H) ∧ (ws.length ≠ k → ErrT K H r l k E)
def sp_Reader_over (K : PySem.W.Frag) : Sp := Sp1 (pr_over K)
def t_Reader_over (K : PySem.W.Frag) (E : XK) : TS :=
  (tDrop (tMethX (He.ga K "Reader") "need" (sp_Reader_need K) (WE (fun cls d _ H => E cls d H)) (tVar 0) (tCons (tOp (rEqA K) (tFld K (tVar 0) "at") (tCB (rLenA K) (tCons (tFld K (tVar 0) "row") tNil))) tNil)))
theorem pure_Reader_over (T : Txt K mg) {x : V} {H : Hp} {Q : VK} {E : XK} (h : pr_over K x H Q E) : t_Reader_over K E { nx := fun _ H' => Q .non H', rt := Q } [some x] H := by
  obtain ⟨r, p, l, ws, k, rfl, rd, q1, q2⟩ := h
  unfold t_Reader_over
  walk_at "w"
  refine me rd (by decide) (by decide) (by decide) ?_
  walk_at "w"
  refine fl_at T rd ?_
  walk_at "w"
  refine fl_row T rd ?_
  walk_at "w"
  refine st_len_list rd.row ?_
  rw [List.length_map]
  walk_at "w"
  refine use_need rd (fun h => ?_) (fun h => ?_)
  · walk_at "w"
    exact q1 (by have := of_decide_eq_true h; omega)
  · exact q2 (by have := of_decide_eq_false h; omega)
theorem ok_Reader_over (T : Txt K mg) (c_Reader_need : Km P w K mg base (L2.CX P w) 3 (He.ga K "Reader") "need" ["self", "good"] (sp_Reader_need K)) : Km P w K mg base (L2.CX P w) 4 (He.ga K "Reader") "over" ["self"] (sp_Reader_over K) := by
  obtain ⟨fd, F⟩ := T.c.def_ 16 (d := d_Reader_over) rfl
  refine ⟨T.cl_Reader, ⟨_, fd, T.me_Reader_over, F.bindsN fun _ _ _ _ _ _ us hl => match us, hl with | [_], _ => rfl, F.ok sc_Reader_over Sp1.len (fun cdv A outer s H vs Q E hr h => ?_)⟩⟩
  obtain ⟨v0, rfl, h⟩ := h
  refine ⟨t_Reader_over K E, ?_, pure_Reader_over T h⟩
  exact (pss_one (ps_expr (pe_mKX c_Reader_need (hr.mono (by decide)) (takes_of rfl rfl rfl rfl) (pv 0) (pa_cons (pe_cmpR (op_eqA hr) (pe_fld (pv 0) rfl) (pe_callB call_len (by rfl) T.n_len (by decide +kernel) (pa_cons (pe_fld (pv 0) rfl) pa_nil)) (nomark _)) pa_nil))))
end
end K04
set_option Elab.async false
set_option linter.all false
set_option maxRecDepth 100000
set_option maxHeartbeats 4000000
namespace K04
open PySem PySem.Spec PyProof.Rows L2 My
section
variable {P : Program} {w : World} {K : PySem.W.Frag} {mg : Str → Option Value} {base : Heap}
/-! ### take_order -/
def keyD (line : Bool) (n : Nat) : PyData := .tuple [.str (sortS line), .int (n : Nat)]
theorem sort_inj (a b : Bool) : (sortS a = sortS b) ↔ a = b := by
  constructor
  · intro h
    have h1 := sort_line a
    rw [h, sort_line b] at h1
    exact h1.symm
  · intro h; rw [h]
theorem key_eqv (a b : Bool) (i j : Nat) : PyData.eqv (keyD a i) (keyD b j) = decide (a = b ∧ i = j) := by
  have e : PyData.eqv (keyD a i) (keyD b j) = ((sortS a == sortS b) && (((i : Nat) : Int) == ((j : Nat) : Int) && true)) := rfl
  rw [e, Bool.and_true]
  by_cases h : a = b ∧ i = j
  · obtain ⟨rfl, rfl⟩ := h
    rw [decide_eq_true ⟨rfl, rfl⟩]; simp
  · rw [decide_eq_false h, Bool.and_eq_false_iff]
    by_cases h1 : a = b
    · right
      exact beq_eq_false_iff_ne.mpr fun z => h ⟨h1, by omega⟩
    · left
      exact beq_eq_false_iff_ne.mpr fun z => h1 ((sort_inj a b).mp z)
theorem keys_any (os : List Ord) (line : Bool) (n : Nat) : ((os.map fun o => keyD o.line o.k).any fun z => PyData.eqv z (keyD line n)) = os.any (Ord.is line n) := by
  rw [List.any_map]
  congr 1
  funext o
  exact key_eqv _ _ _ _
theorem sort_ok (b : Bool) : PyData.strOk (sortS b) = true := by cases b <;> decide +kernel
theorem key_lay (line : Bool) (n : Nat) : (keyD line n).canLay0 = true := by
  show (PyData.strOk (sortS line) && (true && true)) = true
  rw [sort_ok]; rfl
theorem key_shaped (line : Bool) (n : Nat) : SeqAt.shaped (keyD line n) = true := by
  unfold SeqAt.shaped
  rw [key_lay]; rfl
theorem keys_shaped (os : List Ord) : SeqAt.shaped (.list (os.map fun o => keyD o.line o.k)) = true := by
  refine shaped_of (fun d hd => ?_) (fun d hd => ?_)
  · obtain ⟨o, _, rfl⟩ := List.mem_map.mp hd
    exact key_lay _ _
  · obtain ⟨o, _, rfl⟩ := List.mem_map.mp hd
    exact (show 1 ≤ 60 by decide)
def pr_take_order (K : PySem.W.Frag) : V → V → Hp → VK → XK → Prop := fun x y H Q E => ∃ (r p u : Addr) (l : Int) (ws : List Str) (os : List Ord) (xs : List V), x = .ref r ∧ y = .ref u ∧ RD K H r p l ws 0 ∧ WdW ws ∧ (ws.getD 0 "" = "line" ∨ ws.getD 0 "" = "degree") ∧ SqL K H u xs ∧ DpAll K H xs (os.map fun o => keyD o.line o.k) ∧
  match orderP os ws with
  | .ok o => ∀ v H', RA K r p l ws (orderEnd ws) H H' → Dp K H' v o.data → Q v H'
  | .error j => ErrT K H r l j E
def sp_Reader_take_order (K : PySem.W.Frag) : Sp := Sp2 (pr_take_order K)
def t_Reader_take_order_0 (K : PySem.W.Frag) (E : XK) : TS :=
  (tSeq (tDrop (tMethX (He.ga K "Reader") "need" (sp_Reader_need K) (WE (fun cls d _ H => E cls d H)) (tVar 0) (tCons (tAndV (tCall (sp_is_number K) [] E0 (tCons (tMeth (He.ga K "Reader") "peek" (sp_Reader_peek K) [] E0 (tVar 0) tNil) tNil)) (tChain rLeA rLeA (tVar 3) (tCB rIntA (tCons (tMeth (He.ga K "Reader") "peek" (sp_Reader_peek K) [] E0 (tVar 0) tNil) tNil)) (tVar 4))) tNil)))
  (tSeq (tDrop (tMethX (He.ga K "Reader") "need" (sp_Reader_need K) (WE (fun cls d _ H => E cls d H)) (tVar 0) (tCons (tOp (rNotInD K) (tTup (tCons (tVar 2) (tCons (tCB rIntA (tCons (tMeth (He.ga K "Reader") "peek" (sp_Reader_peek K) [] E0 (tVar 0) tNil) tNil)) tNil))) (tVar 1)) tNil)))
  (tSeq (tAsg (tCB rIntA (tCons (tMeth (He.ga K "Reader") "go" (sp_Reader_go K) [] E0 (tVar 0) tNil) tNil)) (gName 5))
  (tSeq (tAsg (tC (.ref (He.ga K "NOUGHT"))) (gName 6))
  (tSeq (tIfS (tTest (tOp rLtA (tFld K (tVar 0) "at") (tCB (rLenA K) (tCons (tFld K (tVar 0) "row") tNil)))) (tSeq (tDrop (tMethX (He.ga K "Reader") "take_word" (sp_Reader_take_word K) (WE (fun cls d _ H => E cls d H)) (tVar 0) (tCons (tC (.str "beside")) tNil)))
  (tAsg (tMethX (He.ga K "Reader") "take_fraction" (sp_Reader_take_fraction K) (WE (fun cls d _ H => E cls d H)) (tVar 0) tNil) (gName 6))) tNext)
  (tRet (tTup (tCons (tVar 2) (tCons (tVar 5) (tCons (tVar 6) tNil))))))))))
def t_Reader_take_order (K : PySem.W.Frag) (E : XK) : TS :=
  (tSeq (tAsg (tMeth (He.ga K "Reader") "go" (sp_Reader_go K) [] E0 (tVar 0) tNil) (gName 2))
  (tSeq (tAsg (tIf (tTest (tOp (rEqA K) (tVar 2) (tC (.str "line")))) (tTup (tCons (tC (.int 0)) (tCons (tC (.int 3)) tNil))) (tTup (tCons (tC (.int 1)) (tCons (tC (.int 6)) tNil)))) (gTup K 2 (gCons (gName 3) (gCons (gName 4) gNil))))
  (t_Reader_take_order_0 K E)))
theorem order_tail (T : Txt K mg) {r p u : Addr} {l : Int} {ws : List Str} {os : List Ord} {xs : List V} {line : Bool} {lo hi : Nat} {H0 H : Hp} {Q : VK} {E : XK} (rd : RD K H0 r p l ws 0) (a1 : RA K r p l ws 1 H0 H) (wd : WdW ws) (hz : ws.getD 0 "" = sortS line) (hu : SqL K H u xs) (du : DpAll K H xs (os.map fun o => keyD o.line o.k))
    (hlo : lo = if line then 0 else 1) (hhi : hi = if line then 3 else 6)
    (q : match orderP os ws with
      | .ok o => ∀ v H', RA K r p l ws (orderEnd ws) H0 H' → Dp K H' v o.data → Q v H'
      | .error j => ErrT K H0 r l j E) :
    t_Reader_take_order_0 K E ⟨fun _ H' => Q .non H', Q, fun _ _ => False, fun _ _ => False⟩ [some (.ref r), some (.ref u), some (.str (sortS line)), some (.int (lo : Nat)), some (.int (hi : Nat)), none, none, none] H := by
  obtain ⟨hl, hc⟩ := word_cases wd 1
  have e1 : (if ws.getD 0 "" = "line" then 0 else 1) = lo := by
    rw [hz, hlo]
    have := sort_line line
    cases line with
    | true => rw [if_pos (of_decide_eq_true this)]; rfl
    | false => rw [if_neg (of_decide_eq_false this)]; rfl
  have e2 : (if ws.getD 0 "" = "line" then 3 else 6) = hi := by
    rw [hz, hhi]
    have := sort_line line
    cases line with
    | true => rw [if_pos (of_decide_eq_true this)]; rfl
    | false => rw [if_neg (of_decide_eq_false this)]; rfl
  have e3 : decide (ws.getD 0 "" = "line") = line := by rw [hz]; exact sort_line line
  unfold orderP at q
  rw [e1, e2, e3] at q
  unfold t_Reader_take_order_0
  walk_at "w"
  refine me a1.rd (by decide) (by decide) (by decide) ?_
  walk_at "w"
  refine me a1.rd (by decide) (by decide) (by decide) ?_
  walk_at "w"
  refine use_peek a1.rd ?_
  walk_at "w"
  refine use_isnum (by omega) ?_
  rcases hc with ⟨h1, h2⟩ | ⟨n, hn, h0, h1, h2⟩
  · rw [h1]
    walk_at "w"
    rw [numZ_none h2] at q
    exact use_need a1.rd (fun h => by cases h) (fun _ => ErrT.next q a1)
  rw [h1]
  walk_at "w"
  refine me a1.rd (by decide) (by decide) (by decide) ?_
  walk_at "w"
  refine use_peek a1.rd ?_
  rw [h0]
  have hl2 := numS_len (k := 12) (by decide) hn
  walk_at "w"
  refine st_int_str (numS_int (by omega)) (by omega) ?_
  walk_at "w"
  rw [numZ_of h2] at q
  refine ite2 (fun h3 => ?_) (fun h3 => ?_)
  rotate_left
  · have h3 : ¬ lo ≤ n := fun e => h3 (decide_eq_true (by omega))
    rw [if_neg (fun z => h3 z.1)] at q
    exact use_need a1.rd (fun h => by cases h) (fun _ => ErrT.next q a1)
  have h3 : lo ≤ n := by have := of_decide_eq_true h3; omega
  walk_at "w"
  refine use_need a1.rd (fun h4 => ?_) (fun h4 => ?_)
  rotate_left
  · have h4 : ¬ n ≤ hi := by have := of_decide_eq_false h4; omega
    rw [if_neg (fun z => h4 z.2)] at q
    exact ErrT.next q a1
  have h4 : n ≤ hi := by have := of_decide_eq_true h4; omega
  rw [if_pos ⟨h3, h4⟩] at q
  dsimp only at q
  walk_at "w"
  refine me a1.rd (by decide) (by decide) (by decide) ?_
  walk_at "w"
  refine me a1.rd (by decide) (by decide) (by decide) ?_
  walk_at "w"
  refine use_peek a1.rd ?_
  rw [h0]
  walk_at "w"
  refine st_int_str (numS_int (by omega)) (by omega) ?_
  walk_at "w"
  refine ⟨show 2 ≤ sizeLine by decide, fun v2 hv2 => ?_⟩
  have s2 := same_new (o := .tup [V.str (sortS line), V.int (n : Nat)]) hv2
  have a2 := a1.same s2
  walk_at "w"
  refine ⟨keyD line n, _, .tup (.inl (.inl upd_same)) (.cons (.str _) (.cons (.int _) .nil)), .lst (s2.seq hu) (du.same s2), key_shaped _ _, keys_shaped os, ?_⟩
  rw [keys_any]
  generalize upd H v2 (.tup [V.str (sortS line), V.int (n : Nat)]) = H2 at *
  walk_at "w"
  cases hany : os.any (Ord.is line n) with
  | true =>
    rw [hany, if_pos rfl] at q
    exact use_need a2.rd (fun h => by cases h) (fun _ => ErrT.next q a2)
  | false =>
  rw [hany, if_neg Bool.false_ne_true] at q
  refine use_need a2.rd (fun _ => ?_) (fun h => by cases h)
  walk_at "w"
  refine me a2.rd (by decide) (by decide) (by decide) ?_
  walk_at "w"
  refine use_go a2.rd fun H3 a3 => ?_
  rw [h0]
  have a3 := a2.trans a3
  walk_at "w"
  refine st_int_str (numS_int (by omega)) (by omega) ?_
  walk_at "w"
  refine fl_at T a3.rd ?_
  walk_at "w"
  refine fl_row T a3.rd ?_
  walk_at "w"
  refine st_len_list a3.rd.row ?_
  rw [List.length_map]
  walk_at "w"
  have hlen1 : 2 ≤ ws.length := by
    rcases Nat.lt_or_ge 1 ws.length with h | h
    · exact h
    · rw [List.getD_eq_getElem?_getD, List.getElem?_eq_none h] at h2
      have : numOf (("" : Str)) = some n := h2
      rw [numOf_nil] at this; cases this
  refine ite2 (fun h5 => ?_) (fun h5 => ?_)
  · have h5 : ¬ ws.length ≤ 2 := by have := of_decide_eq_true h5; omega
    rw [if_neg h5] at q
    walk_at "w"
    refine me a3.rd (by decide) (by decide) (by decide) ?_
    walk_at "w"
    refine ⟨_, _, rfl, r, p, l, ws, 1 + 1, "beside", rfl, rfl, a3.rd, fun h6 H4 a4 => ?_, fun h6 => ?_⟩
    · rw [if_pos h6] at q
      have a4 := a3.trans a4
      walk_at "w"
      refine me a4.rd (by decide) (by decide) (by decide) ?_
      walk_at "w"
      refine ⟨_, rfl, r, p, l, ws, 1 + 1 + 1, rfl, a4.rd, wd, ?_⟩
      cases h7 : fracP (1 + 1 + 1) ws with
      | error j =>
        rw [h7] at q
        exact ErrT.next q a4
      | ok f =>
        rw [h7] at q
        intro v H5 a5 hv h8
        have a5 := a4.trans a5
        walk_at "w"
        refine ⟨show 3 ≤ sizeLine by decide, fun v6 hv6 => ?_⟩
        have s6 := same_new (o := .tup [V.str (sortS line), V.int (n : Nat), V.ref v]) hv6
        refine q (.ref v6) _ ?_ (.tup (.inl (.inl upd_same)) (.cons (.str _) (.cons (.int _) (.cons (.tup (.inl (.inl (s6 _ _ h8))) (.cons (.int _) (.cons (.int _) .nil))) .nil))))
        have eo : orderEnd ws = 1 + 1 + 1 + 3 := by unfold orderEnd; rw [if_neg h5]
        rw [eo]
        exact a5.same s6
    · rw [if_neg h6] at q
      exact ErrT.next q a3
  · have h5 : ws.length ≤ 2 := by
      have : ¬ ((1 + 1 : Nat) : Int) < (ws.length : Nat) := fun e => h5 (decide_eq_true e)
      omega
    rw [if_pos h5] at q
    walk_at "w"
    refine ⟨show 3 ≤ sizeLine by decide, fun v6 hv6 => ?_⟩
    have s6 := same_new (o := .tup [V.str (sortS line), V.int (n : Nat), V.ref (He.ga K "NOUGHT")]) hv6
    refine q (.ref v6) _ ?_ (.tup (.inl (.inl upd_same)) (.cons (.str _) (.cons (.int _) (.cons (.tup (T.tup_NOUGHT _) (.cons (.int _) (.cons (.int _) .nil))) .nil))))
    have eo : orderEnd ws = 1 + 1 := by unfold orderEnd; rw [if_pos h5]
    rw [eo]
    exact a3.same s6
theorem pure_Reader_take_order (T : Txt K mg) {x y : V} {H : Hp} {Q : VK} {E : XK} (h : pr_take_order K x y H Q E) : t_Reader_take_order K E { nx := fun _ H' => Q .non H', rt := Q } [some x, some y, none, none, none, none, none, none] H := by
  obtain ⟨r, p, u, l, ws, os, xs, rfl, rfl, rd, wd, hz, hu, du, q⟩ := h
  obtain ⟨line, hl⟩ : ∃ line, ws.getD 0 "" = sortS line := by
    rcases hz with h | h
    · exact ⟨true, h⟩
    · exact ⟨false, h⟩
  unfold t_Reader_take_order
  walk_at "w"
  refine me rd (by decide) (by decide) (by decide) ?_
  walk_at "w"
  refine use_go rd fun H1 a1 => ?_
  rw [hl]
  have hu1 := a1.sb.seqL rd.ns hu
  have du1 := a1.sb.dps rd.ns du
  walk_at "w"
  rw [sort_line]
  cases line with
  | true =>
    walk_at "w"
    refine ⟨show 2 ≤ sizeLine by decide, fun v2 hv2 => ?_⟩
    have s2 := same_new (o := .tup [V.int 0, V.int 3]) hv2
    refine w_gtup2 (.inl (.inl upd_same)) ?_
    walk_at "w"
    exact order_tail T (lo := 0) (hi := 3) rd (a1.same s2) wd hl (s2.seq hu1) (du1.same s2) rfl rfl q
  | false =>
    walk_at "w"
    refine ⟨show 2 ≤ sizeLine by decide, fun v2 hv2 => ?_⟩
    have s2 := same_new (o := .tup [V.int 1, V.int 6]) hv2
    refine w_gtup2 (.inl (.inl upd_same)) ?_
    walk_at "w"
    exact order_tail T (lo := 1) (hi := 6) rd (a1.same s2) wd hl (s2.seq hu1) (du1.same s2) rfl rfl q
theorem ok_Reader_take_order (T : Txt K mg) (c_is_number : Kp P w K mg base CX0 1 "is_number" ["word"] (sp_is_number K)) (c_Reader_need : Km P w K mg base (L2.CX P w) 3 (He.ga K "Reader") "need" ["self", "good"] (sp_Reader_need K)) (c_Reader_peek : Km P w K mg base CX0 1 (He.ga K "Reader") "peek" ["self"] (sp_Reader_peek K)) (c_Reader_go : Km P w K mg base CX0 2 (He.ga K "Reader") "go" ["self"] (sp_Reader_go K)) (c_Reader_take_word : Km P w K mg base (L2.CX P w) 4 (He.ga K "Reader") "take_word" ["self", "word"] (sp_Reader_take_word K)) (c_Reader_take_fraction : Km P w K mg base (L2.CX P w) 5 (He.ga K "Reader") "take_fraction" ["self"] (sp_Reader_take_fraction K)) : Km P w K mg base (L2.CX P w) 6 (He.ga K "Reader") "take_order" ["self", "known"] (sp_Reader_take_order K) := by
  obtain ⟨fd, F⟩ := T.c.def_ 17 (d := d_Reader_take_order) rfl
  refine ⟨T.cl_Reader, ⟨_, fd, T.me_Reader_take_order, F.bindsN fun _ _ _ _ _ _ us hl => match us, hl with | [_, _], _ => rfl, F.ok sc_Reader_take_order Sp2.len (fun cdv A outer s H vs Q E hr h => ?_)⟩⟩
  obtain ⟨v0, v1, rfl, h⟩ := h
  refine ⟨t_Reader_take_order K E, ?_, pure_Reader_take_order T h⟩
  exact (pss_cons (ps_set (i := 2) sc_Reader_take_order.nd rfl (by first | exact Or.inl rfl | exact Or.inr rfl) (pe_mK0 c_Reader_go (hr.mono (by decide)) (pv 0)))
      (pss_cons (ps_asg (pe_ifExp (pt_cmpR (op_eqA hr) (pv 2) pe_str (nomark _)) (pe_tup (pa_cons pe_int (pa_cons pe_int pa_nil))) (pe_tup (pa_cons pe_int (pa_cons pe_int pa_nil)))) (pg_tup rfl (pgs_cons (pg_name (i := 3) sc_Reader_take_order.nd rfl (by first | exact Or.inl rfl | exact Or.inr rfl)) (pgs_cons (pg_name (i := 4) sc_Reader_take_order.nd rfl (by first | exact Or.inl rfl | exact Or.inr rfl)) pgs_nil))))
      (pss_cons (ps_expr (pe_mKX c_Reader_need (hr.mono (by decide)) (takes_of rfl rfl rfl rfl) (pv 0) (pa_cons (pe_and (pe_cK c_is_number (hr.mono (by decide)) rfl (pa_cons (pe_mK0 c_Reader_peek (hr.mono (by decide)) (pv 0)) pa_nil)) (pe_one (pe_chain op_leA op_leA (pv 3) (pe_callTy call_intA (by rfl) T.n_int (by decide +kernel) (pa_cons (pe_mK0 c_Reader_peek (hr.mono (by decide)) (pv 0)) pa_nil)) (pv 4)))) pa_nil)))
      (pss_cons (ps_expr (pe_mKX c_Reader_need (hr.mono (by decide)) (takes_of rfl rfl rfl rfl) (pv 0) (pa_cons (pe_cmpR (op_notInDp hr) (pe_tup (pa_cons (pv 2) (pa_cons (pe_callTy call_intA (by rfl) T.n_int (by decide +kernel) (pa_cons (pe_mK0 c_Reader_peek (hr.mono (by decide)) (pv 0)) pa_nil)) pa_nil))) (pv 1) (by rfl)) pa_nil)))
      (pss_cons (ps_set (i := 5) sc_Reader_take_order.nd rfl (by first | exact Or.inl rfl | exact Or.inr rfl) (pe_callTy call_intA (by rfl) T.n_int (by decide +kernel) (pa_cons (pe_mK0 c_Reader_go (hr.mono (by decide)) (pv 0)) pa_nil)))
      (pss_cons (ps_set (i := 6) sc_Reader_take_order.nd rfl (by first | exact Or.inl rfl | exact Or.inr rfl) (pe_gr rfl T.g_NOUGHT))
      (pss_cons (ps_if (pt_cmpR op_ltA (pe_fld (pv 0) rfl) (pe_callB call_len (by rfl) T.n_len (by decide +kernel) (pa_cons (pe_fld (pv 0) rfl) pa_nil)) (nomark _)) (pss_cons (ps_expr (pe_mKX c_Reader_take_word (hr.mono (by decide)) (takes_of rfl rfl rfl rfl) (pv 0) (pa_cons pe_str pa_nil)))
      (pss_one (ps_set (i := 6) sc_Reader_take_order.nd rfl (by first | exact Or.inl rfl | exact Or.inr rfl) (pe_mKX0 c_Reader_take_fraction (hr.mono (by decide)) (takes_of rfl rfl rfl rfl) (pv 0))))) pss_nil)
      (pss_one (ps_ret (pe_tup (pa_cons (pv 2) (pa_cons (pv 5) (pa_cons (pv 6) pa_nil)))))))))))))
end
end K04
set_option Elab.async false
set_option linter.all false
set_option maxRecDepth 100000
set_option maxHeartbeats 4000000
namespace K04
open PySem PySem.Spec PyProof.Rows L2 My
section
variable {P : Program} {w : World} {K : PySem.W.Frag} {mg : Str → Option Value} {base : Heap}
/-! ### the stage of a row's word -/
def stgL : List (Key × V) := [(Sum.inr "halves", .int 1), (Sum.inr "kept", .int 2), (Sum.inr "back", .int 3)]
theorem e_hk : ¬ (("halves" : Str) = "kept") := by decide +kernel
theorem e_hb : ¬ (("halves" : Str) = "back") := by decide +kernel
theorem e_kb : ¬ (("kept" : Str) = "back") := by decide +kernel
theorem stg_merge : mergeK [] [(Sum.inr ("halves" : Str), V.int 1), (Sum.inr ("kept" : Str), V.int 2), (Sum.inr ("back" : Str), V.int 3)] = stgL := by
  unfold mergeK
  simp [putK, e_hk, e_hb, e_kb]
  rfl
theorem stg_val (z : Str) : (valV stgL (Sum.inr z)).getD (.int 0) = .int ((stageOf z : Nat) : Int) := by
  unfold valV stgL stageOf
  by_cases h1 : z = "halves"
  · subst h1
    rw [List.find?_cons, decide_eq_true rfl, if_pos rfl]; rfl
  · rw [List.find?_cons, decide_eq_false (fun e => h1 (Sum.inr.inj e).symm), if_neg h1]
    by_cases h2 : z = "kept"
    · subst h2
      rw [List.find?_cons, decide_eq_true rfl, if_pos rfl]; rfl
    · rw [List.find?_cons, decide_eq_false (fun e => h2 (Sum.inr.inj e).symm), if_neg h2]
      by_cases h3 : z = "back"
      · subst h3
        rw [List.find?_cons, decide_eq_true rfl, if_pos rfl]; rfl
      · rw [List.find?_cons, decide_eq_false (fun e => h3 (Sum.inr.inj e).symm), if_neg h3]; rfl
/-- {"halves": 1, ..}.get(z, 0) -/
theorem get_stage {ty : TE} {σ : L2.St} {H : Hp} {Q : VK} {z : Str} (hy : ∀ H' (R : VK), Same H H' → R (.str z) H' → ty σ H' R) (q : ∀ H', Same H H' → Q (.int ((stageOf z : Nat) : Int)) H') :
    tDGet2 (tDisp (((tC (.str "halves")), (tC (.int 1))) :: (((tC (.str "kept")), (tC (.int 2))) :: (((tC (.str "back")), (tC (.int 3))) :: [])))) ty (tC (.int 0)) σ H Q := by
  refine w_dget2 ?_
  walk_at "w"
  intro p hp
  walk_at "w"
  refine ⟨upd_same, [(Sum.inr ("halves" : Str), V.int 1), (Sum.inr ("kept" : Str), V.int 2), (Sum.inr ("back" : Str), V.int 3)], rfl, show 3 ≤ 15 by decide, ?_⟩
  rw [stg_merge]
  have s : Same H (upd (upd H p (.dK [])) p (.dK stgL)) := fun b o e => by
    rw [upd_ne (ne_of_none e hp), upd_ne (ne_of_none e hp)]
    exact e
  refine ⟨p, rfl, .inl ⟨_, .inl upd_same⟩, ?_⟩
  refine hy _ _ s ?_
  walk_at "w"
  refine ⟨_, DGet.k (k := Sum.inr z) upd_same, ?_⟩
  rw [stg_val]
  exact q _ s
/-! ### a custom's reader -/
def CRf (o : Addr) (kv : V) (st : CSt) : List (Str × V) := [("orders", .ref o), ("halves", .bl st.halves), ("kept", kv), ("back", .int (st.back : Nat)), ("stage", .int (st.stage : Nat))]
structure CR (K : PySem.W.Frag) (H : Hp) (c o : Addr) (vs : List V) (st : CSt) : Prop where
  ex : ∃ dx kv, H c = some (.ins (He.ga K "CustomReader") dx (CRf o kv st)) ∧ Dp K H kv (fracD st.kt st.kb)
  ho : H o = some (.lst vs)
  os : DpAll K H vs (st.os.map Ord.data)
theorem noL_ord (o : Ord) : noL o.data = true := rfl
theorem noLs_ords : ∀ (os : List Ord), noLs (os.map Ord.data) = true
  | [] => rfl
  | o :: r => by
    show (noL o.data && noLs (r.map Ord.data)) = true
    rw [noL_ord, noLs_ords r]; rfl
theorem noL_frac (t b : Nat) : noL (fracD t b) = true := rfl
/-- tuples stay where only objects and lists change -/
theorem sqT_keep {H H' : Hp} {Ls : List Addr} (s : ∀ b u, b ∉ Ls → H b = some u → H' b = some u) (nt : ∀ b ∈ Ls, (∀ xs, H b ≠ some (.tup xs)) ∧ ∀ q u, H b ≠ some (.frz q u)) {a : Addr} {xs : List V} (h : SqT K H a xs) : SqT K H' a xs := by
  rcases h with (h | ⟨q, h⟩) | h
  · exact .inl (.inl (s _ _ (fun m => (nt a m).1 xs h) h))
  · exact .inl (.inr ⟨q, s _ _ (fun m => (nt a m).2 q _ h) h⟩)
  · exact .inr h
/-- all but some stays -/
def SBs (Ls : List Addr) (H H' : Hp) : Prop := ∀ b u, b ∉ Ls → H b = some u → H' b = some u
theorem SBs.refl (Ls : List Addr) (H : Hp) : SBs Ls H H := fun _ _ _ h => h
theorem SBs.trans {Ls : List Addr} {H H1 H2 : Hp} (a : SBs Ls H H1) (b : SBs Ls H1 H2) : SBs Ls H H2 := fun c u n h => b c u n (a c u n h)
theorem SBs.of {r : Addr} {Ls : List Addr} {H H' : Hp} (h : SB r H H') (m : r ∈ Ls) : SBs Ls H H' := fun b u n e => h b u (fun z => n (by rw [z]; exact m)) e
theorem SBs.same {Ls : List Addr} {H H' : Hp} (h : Same H H') : SBs Ls H H' := fun b u _ e => h b u e
theorem SBs.upd {Ls : List Addr} {H H' : Hp} {a : Addr} {u : HO} (s : SBs Ls H H') (m : a ∈ Ls) : SBs Ls H (upd H' a u) := fun b v n e => by rw [upd_ne (fun z => n (by rw [z]; exact m))]; exact s b v n e
def ErrG (K : PySem.W.Frag) (Ls : List Addr) (H : Hp) (l : Int) (j : Nat) (E : XK) : Prop := ∀ d v H', SBs Ls H H' → H d = none → H' d = some (.xd [(("spot" : Str), v)]) → Dp K H' v (.tuple [.int l, .int (j : Nat)]) → E (.ref (He.ga K "BadText")) (some d) H'
theorem ErrG.toT {Ls : List Addr} {H H1 : Hp} {l : Int} {j : Nat} {E : XK} {r : Addr} (e : ErrG K Ls H l j E) (m : r ∈ Ls) (s : SBs Ls H H1) (tr : ∀ b ∈ Ls, H1 b ≠ none) : ErrT K H1 r l j E := fun d v H' sb hd he dv =>
  e d v H' (fun b u nb eb => sb b u (fun z => nb (by rw [z]; exact m)) (s b u nb eb)) (by
    cases q : H d with
    | none => rfl
    | some u =>
      by_cases hm : d ∈ Ls
      · exact absurd hd (tr d hm)
      · rw [s d u hm q] at hd; cases hd) he dv
section
variable {H H' : Hp} {c o : Addr} {vs : List V} {st : CSt}
theorem CR.fld (T : Txt K mg) {f : Str} {A : V → Prop} (h : CR K H c o vs st) (no : NoAttr K (He.ga K "CustomReader") f) (q : ∀ dx kv, H c = some (.ins (He.ga K "CustomReader") dx (CRf o kv st)) → Dp K H kv (fracD st.kt st.kb) → ∃ v, (CRf o kv st).lookup f = some v ∧ A v) :
    ∃ a C dx fs v, V.ref c = .ref a ∧ H a = some (.ins C dx fs) ∧ Cls K C ∧ NoAttr K C f ∧ fs.lookup f = some v ∧ A v := by
  obtain ⟨dx, kv, h1, h2⟩ := h.ex
  obtain ⟨v, h3, h4⟩ := q dx kv h1 h2
  exact ⟨c, _, dx, _, v, rfl, h1, T.cl_CustomReader, no, h3, h4⟩
theorem CR.orders (T : Txt K mg) {A : V → Prop} (h : CR K H c o vs st) (q : A (.ref o)) : ∃ a C dx fs v, V.ref c = .ref a ∧ H a = some (.ins C dx fs) ∧ Cls K C ∧ NoAttr K C "orders" ∧ fs.lookup ("orders" : Str) = some v ∧ A v :=
  h.fld T T.na_CustomReader_orders fun _ _ _ _ => ⟨_, rfl, q⟩
theorem CR.fhalves (T : Txt K mg) {A : V → Prop} (h : CR K H c o vs st) (q : A (.bl st.halves)) : ∃ a C dx fs v, V.ref c = .ref a ∧ H a = some (.ins C dx fs) ∧ Cls K C ∧ NoAttr K C "halves" ∧ fs.lookup ("halves" : Str) = some v ∧ A v :=
  h.fld T T.na_CustomReader_halves fun _ _ _ _ => ⟨_, rfl, q⟩
theorem CR.fkept (T : Txt K mg) {A : V → Prop} (h : CR K H c o vs st) (q : ∀ kv, Dp K H kv (fracD st.kt st.kb) → A kv) : ∃ a C dx fs v, V.ref c = .ref a ∧ H a = some (.ins C dx fs) ∧ Cls K C ∧ NoAttr K C "kept" ∧ fs.lookup ("kept" : Str) = some v ∧ A v :=
  h.fld T T.na_CustomReader_kept fun _ kv _ d => ⟨_, rfl, q kv d⟩
theorem CR.fback (T : Txt K mg) {A : V → Prop} (h : CR K H c o vs st) (q : A (.int (st.back : Nat))) : ∃ a C dx fs v, V.ref c = .ref a ∧ H a = some (.ins C dx fs) ∧ Cls K C ∧ NoAttr K C "back" ∧ fs.lookup ("back" : Str) = some v ∧ A v :=
  h.fld T T.na_CustomReader_back fun _ _ _ _ => ⟨_, rfl, q⟩
theorem CR.fstage (T : Txt K mg) {A : V → Prop} (h : CR K H c o vs st) (q : A (.int (st.stage : Nat))) : ∃ a C dx fs v, V.ref c = .ref a ∧ H a = some (.ins C dx fs) ∧ Cls K C ∧ NoAttr K C "stage" ∧ fs.lookup ("stage" : Str) = some v ∧ A v :=
  h.fld T T.na_CustomReader_stage fun _ _ _ _ => ⟨_, rfl, q⟩
theorem look_meth {kv : V} {m : Str} (h1 : (m == ("orders" : Str)) = false) (h2 : (m == ("halves" : Str)) = false) (h3 : (m == ("kept" : Str)) = false) (h4 : (m == ("back" : Str)) = false) (h5 : (m == ("stage" : Str)) = false) : (CRf o kv st).lookup m = none := by
  unfold CRf
  simp only [List.lookup, h1, h2, h3, h4, h5]
theorem CR.me {m : Str} {A : Prop} (h : CR K H c o vs st) (h1 : (m == ("orders" : Str)) = false) (h2 : (m == ("halves" : Str)) = false) (h3 : (m == ("kept" : Str)) = false) (h4 : (m == ("back" : Str)) = false) (h5 : (m == ("stage" : Str)) = false) (q : A) :
    ∃ a dx fs, V.ref c = .ref a ∧ H a = some (.ins (He.ga K "CustomReader") dx fs) ∧ fs.lookup m = none ∧ A := by
  obtain ⟨dx, kv, e, _⟩ := h.ex
  exact ⟨c, dx, _, rfl, e, look_meth h1 h2 h3 h4 h5, q⟩
/-- where neither c nor o changes, the reader of a custom stays -/
theorem CR.keep {r : Addr} (h : CR K H c o vs st) (s : SB r H H') (ns : NotSeq (H r)) (nc : c ≠ r) : CR K H' c o vs st := by
  obtain ⟨dx, kv, e, d⟩ := h.ex
  have no : o ≠ r := fun z => ns.1 vs (by rw [← z]; exact h.ho)
  exact ⟨⟨dx, kv, s _ _ nc e, s.dp ns d⟩, s _ _ no h.ho, s.dps ns h.os⟩
theorem CR.same (h : CR K H c o vs st) (s : Same H H') : CR K H' c o vs st := by
  obtain ⟨dx, kv, e, d⟩ := h.ex
  exact ⟨⟨dx, kv, s _ _ e, d.same s⟩, s _ _ h.ho, h.os.same s⟩
/-- the reader of a custom is no reader of a row -/
theorem CR.ne {r p : Addr} {l : Int} {ws : List Str} {k : Nat} (h : CR K H c o vs st) (rd : RD K H r p l ws k) : c ≠ r := fun z => by
  obtain ⟨dx, kv, e, _⟩ := h.ex
  obtain ⟨dx2, e2⟩ := rd.ex
  rw [z, e2] at e
  injection e with e
  injection e with _ _ e
  have := congrArg List.length e
  cases this
theorem CR.nts {r p : Addr} {l : Int} {ws : List Str} {k : Nat} (h : CR K H c o vs st) (rd : RD K H r p l ws k) : (∀ b ∈ [c, o, r], (∀ xs, H b ≠ some (.tup xs)) ∧ ∀ q u, H b ≠ some (.frz q u)) ∧ ∀ b ∈ [c, o, r], H b ≠ none := by
  obtain ⟨dx, kv, e, _⟩ := h.ex
  obtain ⟨dx2, e2⟩ := rd.ex
  have e3 := h.ho
  refine ⟨fun b hb => ?_, fun b hb => ?_⟩
  · simp only [List.mem_cons, List.not_mem_nil, or_false] at hb
    rcases hb with rfl | rfl | rfl
    · exact ⟨fun _ z => (by rw [e] at z; cases z), fun _ _ z => (by rw [e] at z; cases z)⟩
    · exact ⟨fun _ z => (by rw [e3] at z; cases z), fun _ _ z => (by rw [e3] at z; cases z)⟩
    · exact ⟨fun _ z => (by rw [e2] at z; cases z), fun _ _ z => (by rw [e2] at z; cases z)⟩
  · simp only [List.mem_cons, List.not_mem_nil, or_false] at hb
    rcases hb with rfl | rfl | rfl
    · rw [e]; exact fun z => (by cases z)
    · rw [e3]; exact fun z => (by cases z)
    · rw [e2]; exact fun z => (by cases z)
end
/-! ### __init__ -/
theorem nso1 : ¬ (("orders" : Str) = "halves") := by decide +kernel
theorem nso2 : ¬ (("orders" : Str) = "kept") := by decide +kernel
theorem nso3 : ¬ (("orders" : Str) = "back") := by decide +kernel
theorem nso4 : ¬ (("orders" : Str) = "stage") := by decide +kernel
theorem nso5 : ¬ (("halves" : Str) = "stage") := by decide +kernel
theorem nso6 : ¬ (("kept" : Str) = "stage") := by decide +kernel
theorem nso7 : ¬ (("back" : Str) = "stage") := by decide +kernel
theorem put_halves {o : Addr} {kv : V} {st : CSt} {b : Bool} : putF "halves" (.bl b) (CRf o kv st) = CRf o kv { st with halves := b } := by
  unfold CRf
  simp only [putF, if_neg nso1, if_true]
theorem put_kept {o : Addr} {kv k2 : V} {st : CSt} {t b : Nat} : putF "kept" k2 (CRf o kv st) = CRf o k2 { st with kt := t, kb := b } := by
  unfold CRf
  simp only [putF, if_neg nso2, if_neg e_hk, if_true]
theorem put_back {o : Addr} {kv : V} {st : CSt} {n : Nat} : putF "back" (.int (n : Nat)) (CRf o kv st) = CRf o kv { st with back := n } := by
  unfold CRf
  simp only [putF, if_neg nso3, if_neg e_hb, if_neg e_kb, if_true]
theorem put_stage {o : Addr} {kv : V} {st : CSt} {n : Nat} : putF "stage" (.int (n : Nat)) (CRf o kv st) = CRf o kv { st with stage := n } := by
  unfold CRf
  simp only [putF, if_neg nso4, if_neg nso5, if_neg nso6, if_neg nso7, if_true]
def pr_CR_init (K : PySem.W.Frag) : V → Hp → VK → XK → Prop := fun x H Q _ => ∃ (c dx : Addr), x = .ref c ∧ H c = some (.ins (He.ga K "CustomReader") dx []) ∧ ∀ H' o, SB c H H' → H o = none → CR K H' c o [] cst0 → Q .non H'
def sp_CustomReader___init__ (K : PySem.W.Frag) : Sp := Sp1 (pr_CR_init K)
def t_CustomReader___init__ (K : PySem.W.Frag) : TS :=
  (tSeq (sFld K (tVar 0) (tLst tNil) "orders")
  (tSeq (sFld K (tVar 0) (tC (.bl false)) "halves")
  (tSeq (sFld K (tVar 0) (tC (.ref (He.ga K "NOUGHT"))) "kept")
  (tSeq (sFld K (tVar 0) (tC (.int 0)) "back")
  (sFld K (tVar 0) (tC (.int 0)) "stage")))))
theorem pure_CustomReader___init__ (T : Txt K mg) {x : V} {H : Hp} {Q : VK} {E : XK} (h : pr_CR_init K x H Q E) : t_CustomReader___init__ K { nx := fun _ H' => Q .non H', rt := Q } [some x] H := by
  obtain ⟨c, dx, rfl, hc, q⟩ := h
  unfold t_CustomReader___init__
  walk_at "w"
  refine ⟨Nat.zero_le _, fun o ho => ?_⟩
  have oc : o ≠ c := fun e => by rw [e, hc] at ho; cases ho
  walk_at "w"
  refine ⟨c, _, dx, _, rfl, by rw [upd_ne oc.symm]; exact hc, T.cl_CustomReader, T.na_CustomReader_orders, by decide, ?_⟩
  walk_at "w"
  refine ⟨c, _, dx, _, rfl, upd_same, T.cl_CustomReader, T.na_CustomReader_halves, show 1 < 1000 by decide, ?_⟩
  rw [show putF "halves" (.bl false) (putF "orders" (.ref o) []) = [(("orders" : Str), V.ref o), (("halves" : Str), V.bl false)] by simp only [putF, if_neg nso1]]
  walk_at "w"
  refine ⟨c, _, dx, _, rfl, upd_same, T.cl_CustomReader, T.na_CustomReader_kept, show 2 < 1000 by decide, ?_⟩
  rw [show putF "kept" (.ref (He.ga K "NOUGHT")) [(("orders" : Str), V.ref o), (("halves" : Str), V.bl false)] = [(("orders" : Str), V.ref o), (("halves" : Str), V.bl false), (("kept" : Str), .ref (He.ga K "NOUGHT"))] by simp only [putF, if_neg nso2, if_neg e_hk]]
  walk_at "w"
  refine ⟨c, _, dx, _, rfl, upd_same, T.cl_CustomReader, T.na_CustomReader_back, show 3 < 1000 by decide, ?_⟩
  rw [show putF "back" (.int 0) [(("orders" : Str), V.ref o), (("halves" : Str), V.bl false), (("kept" : Str), .ref (He.ga K "NOUGHT"))] = [(("orders" : Str), V.ref o), (("halves" : Str), V.bl false), (("kept" : Str), .ref (He.ga K "NOUGHT")), (("back" : Str), .int 0)] by simp only [putF, if_neg nso3, if_neg e_hb, if_neg e_kb]]
  walk_at "w"
  refine ⟨c, _, dx, _, rfl, upd_same, T.cl_CustomReader, T.na_CustomReader_stage, show 4 < 1000 by decide, ?_⟩
  rw [show putF "stage" (.int 0) [(("orders" : Str), V.ref o), (("halves" : Str), V.bl false), (("kept" : Str), .ref (He.ga K "NOUGHT")), (("back" : Str), .int 0)] = CRf o (.ref (He.ga K "NOUGHT")) cst0 by simp only [putF, if_neg nso4, if_neg nso5, if_neg nso6, if_neg nso7]; rfl]
  walk_at "w"
  refine q _ o (fun b u n e => ?_) ho ⟨⟨dx, _, upd_same, .tup (T.tup_NOUGHT _) (.cons (.int _) (.cons (.int _) .nil))⟩, ?_, .nil⟩
  · rw [upd_ne n, upd_ne n, upd_ne n, upd_ne n, upd_ne n, upd_ne (ne_of_none e ho)]; exact e
  · rw [upd_ne oc, upd_ne oc, upd_ne oc, upd_ne oc, upd_ne oc, upd_same]
theorem ok_CustomReader___init__ (T : Txt K mg)  : Ki P w K mg base 1 "CustomReader" ["self"] (sp_CustomReader___init__ K) := by
  obtain ⟨fd, F⟩ := T.c.def_ 18 (d := d_CustomReader___init__) rfl
  refine ⟨T.g_CustomReader, ⟨_, fd, T.mk_CustomReader, F.bindsN fun _ _ _ _ _ _ us hl => match us, hl with | [_], _ => rfl, F.ok sc_CustomReader___init__ Sp1.len (fun cdv A outer s H vs Q E hr h => ?_)⟩⟩
  obtain ⟨v0, rfl, h⟩ := h
  refine ⟨t_CustomReader___init__ K, PSs.nox (?_), pure_CustomReader___init__ T h⟩
  exact (pss_cons (ps_fld (pv 0) (pe_lst pa_nil) rfl)
      (pss_cons (ps_fld (pv 0) pe_bl rfl)
      (pss_cons (ps_fld (pv 0) (pe_gr rfl T.g_NOUGHT) rfl)
      (pss_cons (ps_fld (pv 0) pe_int rfl)
      (pss_one (ps_fld (pv 0) pe_int rfl))))))
end
end K04
set_option Elab.async false
set_option linter.all false
set_option maxRecDepth 100000
set_option maxHeartbeats 4000000
namespace K04
open PySem PySem.Spec PyProof.Rows L2 My
section
variable {P : Program} {w : World} {K : PySem.W.Frag} {mg : Str → Option Value} {base : Heap}
/-! ### take_more -/
theorem CR.set {H : Hp} {c o dx : Addr} {vs : List V} {st st' : CSt} {kv kv' : V} (h : CR K H c o vs st) (e : H c = some (.ins (He.ga K "CustomReader") dx (CRf o kv st))) (dk : Dp K H kv' (fracD st'.kt st'.kb)) (hos : st'.os = st.os) :
    CR K (upd H c (.ins (He.ga K "CustomReader") dx (CRf o kv' st'))) c o vs st' := by
  have sb : SB c H (upd H c (.ins (He.ga K "CustomReader") dx (CRf o kv' st'))) := fun b u n e => by rw [upd_ne n]; exact e
  have ns : NotSeq (H c) := notSeq_ins e
  have no : o ≠ c := fun z => ns.1 vs (by rw [← z]; exact h.ho)
  exact ⟨⟨dx, kv', upd_same, sb.dp ns dk⟩, sb _ _ no h.ho, by rw [hos]; exact sb.dps ns h.os⟩
theorem RD.upd {H : Hp} {r p c : Addr} {l : Int} {ws : List Str} {k : Nat} {u : HO} (h : RD K H r p l ws k) (nc : c ≠ r) (ns : NotSeq (H c)) : RD K (upd H c u) r p l ws k := by
  obtain ⟨dx, e⟩ := h.ex
  have sb : SB c H (L2.upd H c u) := fun b u n e => by rw [upd_ne n]; exact e
  exact ⟨⟨dx, sb _ _ nc.symm e⟩, sb.seqL ns h.row, h.len⟩
def pr_take_more (K : PySem.W.Frag) : V → V → V → Hp → VK → XK → Prop := fun x y z H Q E => ∃ (c o r p : Addr) (l : Int) (ws : List Str) (vs : List V) (st : CSt) (wd : Str), x = .ref c ∧ y = .ref r ∧ z = .str wd ∧ CR K H c o vs st ∧ RD K H r p l ws 1 ∧ WdW ws ∧
  ((wd = "halves" ∧ ∀ H', SBs [c, o, r] H H' → CR K H' c o vs { st with halves := true } → RD K H' r p l ws 1 → Q .non H') ∨
  (wd = "kept" ∧ match fracP 1 ws with
    | .ok f => ∀ H', SBs [c, o, r] H H' → CR K H' c o vs { st with kt := f.1, kb := f.2 } → RD K H' r p l ws 4 → Q .non H'
    | .error j => ErrG K [c, o, r] H l j E) ∨
  (wd = "back" ∧ match numZ 0 99999 (ws.getD 1 "") with
    | some n => ∀ H', SBs [c, o, r] H H' → CR K H' c o vs { st with back := n } → RD K H' r p l ws 2 → Q .non H'
    | none => ErrG K [c, o, r] H l 1 E))
def sp_CustomReader_take_more (K : PySem.W.Frag) : Sp := Sp3 (pr_take_more K)
def t_CustomReader_take_more (K : PySem.W.Frag) (E : XK) : TS :=
  (tIfS (tTest (tOp (rEqA K) (tVar 2) (tC (.str "halves")))) (sFld K (tVar 0) (tC (.bl true)) "halves") (tIfS (tTest (tOp (rEqA K) (tVar 2) (tC (.str "kept")))) (sFld K (tVar 0) (tMethX (He.ga K "Reader") "take_fraction" (sp_Reader_take_fraction K) (WE (fun cls d _ H => E cls d H)) (tVar 1) tNil) "kept") (sFld K (tVar 0) (tMethX (He.ga K "Reader") "take_number" (sp_Reader_take_number K) (WE (fun cls d _ H => E cls d H)) (tVar 1) (tCons (tC (.int 0)) (tCons (tC (.int 99999)) tNil))) "back")))
theorem pure_CustomReader_take_more (T : Txt K mg) {x y z : V} {H : Hp} {Q : VK} {E : XK} (h : pr_take_more K x y z H Q E) : t_CustomReader_take_more K E { nx := fun _ H' => Q .non H', rt := Q } [some x, some y, some z] H := by
  obtain ⟨c, o, r, p, l, ws, vs, st, wd, rfl, rfl, rfl, cr, rd, wds, q⟩ := h
  have nc := cr.ne rd
  have nts := cr.nts rd
  unfold t_CustomReader_take_more
  rcases q with ⟨rfl, q⟩ | ⟨rfl, q⟩ | ⟨rfl, q⟩
  · walk_at "w"
    rw [decide_eq_true rfl]
    walk_at "w"
    obtain ⟨dx, kv, e, dk⟩ := cr.ex
    refine ⟨c, _, dx, _, rfl, e, T.cl_CustomReader, T.na_CustomReader_halves, show 5 < 1000 by decide, ?_⟩
    rw [put_halves]
    walk_at "w"
    exact q _ ((SBs.refl _ _).upd (by simp)) (cr.set e dk rfl) (rd.upd nc (notSeq_ins e))
  · walk_at "w"
    rw [decide_eq_false k_h]
    walk_at "w"
    rw [decide_eq_true rfl]
    walk_at "w"
    refine me rd (by decide) (by decide) (by decide) ?_
    walk_at "w"
    refine ⟨_, rfl, r, p, l, ws, 1, rfl, rd, wds, ?_⟩
    cases hf : fracP 1 ws with
    | error j =>
      rw [hf] at q
      exact q.toT (by simp) (SBs.refl _ _) nts.2
    | ok f =>
      rw [hf] at q
      intro v H1 a1 hv h1
      have cr1 := cr.keep a1.sb rd.ns nc
      obtain ⟨dx, kv, e, dk⟩ := cr1.ex
      walk_at "w"
      refine ⟨c, _, dx, _, rfl, e, T.cl_CustomReader, T.na_CustomReader_kept, show 5 < 1000 by decide, ?_⟩
      rw [put_kept (t := f.1) (b := f.2)]
      walk_at "w"
      exact q _ ((SBs.of a1.sb (by simp)).upd (by simp)) (cr1.set e (.tup (.inl (.inl h1)) (.cons (.int _) (.cons (.int _) .nil))) rfl) (a1.rd.upd nc (notSeq_ins e))
  · walk_at "w"
    rw [decide_eq_false b_h]
    walk_at "w"
    rw [decide_eq_false b_k]
    walk_at "w"
    refine me rd (by decide) (by decide) (by decide) ?_
    walk_at "w"
    refine use_number (lo := 0) (hi := 99999) rfl rfl rd wds ?_
    cases hn : numZ 0 99999 (ws.getD 1 "") with
    | none =>
      rw [hn] at q
      exact q.toT (by simp) (SBs.refl _ _) nts.2
    | some n =>
      rw [hn] at q
      intro H1 a1
      have cr1 := cr.keep a1.sb rd.ns nc
      obtain ⟨dx, kv, e, dk⟩ := cr1.ex
      walk_at "w"
      refine ⟨c, _, dx, _, rfl, e, T.cl_CustomReader, T.na_CustomReader_back, show 5 < 1000 by decide, ?_⟩
      rw [put_back]
      walk_at "w"
      exact q _ ((SBs.of a1.sb (by simp)).upd (by simp)) (cr1.set e dk rfl) (a1.rd.upd nc (notSeq_ins e))
theorem ok_CustomReader_take_more (T : Txt K mg) (c_Reader_take_number : Km P w K mg base (L2.CX P w) 4 (He.ga K "Reader") "take_number" ["self", "low", "high"] (sp_Reader_take_number K)) (c_Reader_take_fraction : Km P w K mg base (L2.CX P w) 5 (He.ga K "Reader") "take_fraction" ["self"] (sp_Reader_take_fraction K)) : Km P w K mg base (L2.CX P w) 6 (He.ga K "CustomReader") "take_more" ["self", "reader", "word"] (sp_CustomReader_take_more K) := by
  obtain ⟨fd, F⟩ := T.c.def_ 19 (d := d_CustomReader_take_more) rfl
  refine ⟨T.cl_CustomReader, ⟨_, fd, T.me_CustomReader_take_more, F.bindsN fun _ _ _ _ _ _ us hl => match us, hl with | [_, _, _], _ => rfl, F.ok sc_CustomReader_take_more Sp3.len (fun cdv A outer s H vs Q E hr h => ?_)⟩⟩
  obtain ⟨v0, v1, v2, rfl, h⟩ := h
  refine ⟨t_CustomReader_take_more K E, ?_, pure_CustomReader_take_more T h⟩
  exact (pss_one (ps_if (pt_cmpR (op_eqA hr) (pv 2) pe_str (nomark _)) (pss_one (ps_fld (pv 0) pe_bl rfl)) (pss_one (ps_if (pt_cmpR (op_eqA hr) (pv 2) pe_str (nomark _)) (pss_one (ps_fld (pv 0) (pe_mKX0 c_Reader_take_fraction (hr.mono (by decide)) (takes_of rfl rfl rfl rfl) (pv 1)) rfl)) (pss_one (ps_fld (pv 0) (pe_mKX c_Reader_take_number (hr.mono (by decide)) (takes_of rfl rfl rfl rfl) (pv 1) (pa_cons pe_int (pa_cons (pe_gi rfl T.g_LAST_DAY) pa_nil))) rfl))))))
/-! ### take -/
def pr_take (K : PySem.W.Frag) : V → V → Hp → VK → XK → Prop := fun x y H Q E => ∃ (c o r p : Addr) (l : Int) (ws : List Str) (vs : List V) (st : CSt), x = .ref c ∧ y = .ref r ∧ CR K H c o vs st ∧ RD K H r p l ws 0 ∧ p ≠ o ∧ WdW ws ∧ st.os.length ≤ 6 ∧
  match rowP st ws with
  | .ok st' => ∀ H' vs', SBs [c, o, r] H H' → CR K H' c o vs' st' → Q .non H'
  | .error j => ErrG K [c, o, r] H l j E
def sp_CustomReader_take (K : PySem.W.Frag) : Sp := Sp2 (pr_take K)
def t_CustomReader_take_0 (K : PySem.W.Frag) (E : XK) : TS :=
  (tDrop (tMethX (He.ga K "Reader") "over" (sp_Reader_over K) (WE (fun cls d _ H => E cls d H)) (tVar 1) tNil))
def t_CustomReader_take (K : PySem.W.Frag) (E : XK) : TS :=
  (tSeq (tAsg (tMeth (He.ga K "Reader") "peek" (sp_Reader_peek K) [] E0 (tVar 1) tNil) (gName 2))
  (tSeq (tIfS (tTest (tOp (rInA K false) (tVar 2) (tTup (tCons (tC (.str "line")) (tCons (tC (.str "degree")) tNil))))) (tSeq (tDrop (tMethX (He.ga K "Reader") "need" (sp_Reader_need K) (WE (fun cls d _ H => E cls d H)) (tVar 1) (tCons (tAndV (tOp (rEqA K) (tFld K (tVar 0) "stage") (tC (.int 0))) (tOp rLtA (tCB (rLenA K) (tCons (tFld K (tVar 0) "orders") tNil)) (tC (.int 6)))) tNil)))
  (tDrop (tBM K "list" rAppend (tFld K (tVar 0) "orders") (tCons (tMethX (He.ga K "Reader") "take_order" (sp_Reader_take_order K) (WE (fun cls d _ H => E cls d H)) (tVar 1) (tCons (tLc (iA K (tFld K (tVar 0) "orders")) (gTup K 3 (gCons (gName 4) (gCons (gName 5) (gCons (gName 6) gNil)))) tYes (tTup (tCons (tVar 4) (tCons (tVar 5) tNil))) [4, 5, 6]) tNil)) tNil)))) (tSeq (tAsg (tDGet2 (tDisp (((tC (.str "halves")), (tC (.int 1))) :: (((tC (.str "kept")), (tC (.int 2))) :: (((tC (.str "back")), (tC (.int 3))) :: [])))) (tVar 2) (tC (.int 0))) (gName 3))
  (tSeq (tDrop (tMethX (He.ga K "Reader") "need" (sp_Reader_need K) (WE (fun cls d _ H => E cls d H)) (tVar 1) (tCons (tAndV (tOp (rNeA K) (tFld K (tVar 0) "orders") (tLst tNil)) (tOp rGtA (tVar 3) (tFld K (tVar 0) "stage"))) tNil)))
  (tSeq (tDrop (tMeth (He.ga K "Reader") "go" (sp_Reader_go K) [] E0 (tVar 1) tNil))
  (tSeq (sFld K (tVar 0) (tVar 3) "stage")
  (tDrop (tMethX (He.ga K "CustomReader") "take_more" (sp_CustomReader_take_more K) (WE (fun cls d _ H => E cls d H)) (tVar 0) (tCons (tVar 1) (tCons (tVar 2) tNil)))))))))
  (t_CustomReader_take_0 K E)))
theorem ord_lay (o : Ord) : o.data.canLay0 = true := by
  show (PyData.strOk (sortS o.line) && (true && ((true && (true && true)) && true))) = true
  rw [sort_ok]; rfl
theorem ords_shaped (os : List Ord) : SeqAt.shaped (.list (os.map Ord.data)) = true := by
  refine shaped_of (fun d hd => ?_) (fun d hd => ?_)
  · obtain ⟨o, _, rfl⟩ := List.mem_map.mp hd
    exact ord_lay _
  · obtain ⟨o, _, rfl⟩ := List.mem_map.mp hd
    exact (show 2 ≤ 60 by decide)
theorem keys_of {H : Hp} : ∀ {os : List Ord} {ys : List V}, Paired (fun (o : Ord) y => Dp K H y (keyD o.line o.k)) os ys → DpAll K H ys (os.map fun o => keyD o.line o.k)
  | _, _, .nil => .nil
  | _, _, .cons h t => .cons h (keys_of t)
theorem in_sort {z : Str} {H : Hp} {Q : VK} {σ : L2.St} (q : ∀ H', Same H H' → Q (.bl (decide (z = "line" ∨ z = "degree"))) H') : ([V.str "line", V.str "degree"] : List V).length ≤ sizeLine ∧ ∀ p, H p = none → rInA K false (.str z) (.ref p) (upd H p (.tup [V.str "line", V.str "degree"])) Q := by
  refine ⟨show 2 ≤ sizeLine by decide, fun p hp => ?_⟩
  refine st_in_tup (.inl (.inl upd_same)) rfl rfl ?_
  rw [show inV (.str z) [V.str "line", V.str "degree"] = decide (z ∈ [("line" : Str), "degree"]) from inV_strs z ["line", "degree"]]
  rw [show decide (z ∈ [("line" : Str), "degree"]) = decide (z = "line" ∨ z = "degree") from decide_eq_decide.mpr (by simp)]
  exact q _ (same_new hp)
theorem take_over (T : Txt K mg) {c o r p : Addr} {l : Int} {ws : List Str} {vs : List V} {st st' : CSt} {k : Nat} {H0 H : Hp} {Q : VK} {E : XK} {v2 v3 v4 v5 v6 : Option V} (cr0 : CR K H0 c o vs st) (rd0 : RD K H0 r p l ws 0) (s : SBs [c, o, r] H0 H) {vs' : List V} (cr : CR K H c o vs' st') (rd : RD K H r p l ws k)
    (q : match (if ws.length = k then (.ok st' : Except Nat CSt) else .error k) with
      | .ok st' => ∀ H' vs', SBs [c, o, r] H0 H' → CR K H' c o vs' st' → Q .non H'
      | .error j => ErrG K [c, o, r] H0 l j E) :
    t_CustomReader_take_0 K E ⟨fun _ H' => Q .non H', Q, fun _ _ => False, fun _ _ => False⟩ [some (.ref c), some (.ref r), v2, v3, v4, v5, v6] H := by
  unfold t_CustomReader_take_0
  walk_at "w"
  refine me rd (by decide) (by decide) (by decide) ?_
  refine ⟨_, rfl, r, p, l, ws, k, rfl, rd, fun h => ?_, fun h => ?_⟩
  · rw [if_pos h] at q
    walk_at "w"
    exact q _ _ s cr
  · rw [if_neg h] at q
    exact q.toT (by simp) s (cr.nts rd).2
theorem pure_CustomReader_take (T : Txt K mg) {x y : V} {H : Hp} {Q : VK} {E : XK} (h : pr_take K x y H Q E) : t_CustomReader_take K E { nx := fun _ H' => Q .non H', rt := Q } [some x, some y, none, none, none, none, none] H := by
  obtain ⟨c, o, r, p, l, ws, vs, st, rfl, rfl, cr, rd, hp, wds, h6, q⟩ := h
  have nc := cr.ne rd
  have nts := cr.nts rd
  unfold rowP at q
  unfold t_CustomReader_take
  walk_at "w"
  refine me rd (by decide) (by decide) (by decide) ?_
  walk_at "w"
  refine use_peek rd ?_
  walk_at "w"
  refine in_sort (σ := []) fun H1 s1 => ?_
  have cr1 := cr.same s1
  have rd1 := rd.same s1
  walk_at "w"
  by_cases hw : ws.getD 0 "" = "line" ∨ ws.getD 0 "" = "degree"
  · rw [if_pos hw] at q
    rw [decide_eq_true hw]
    walk_at "w"
    refine me rd1 (by decide) (by decide) (by decide) ?_
    walk_at "w"
    refine cr1.fstage T ?_
    walk_at "w"
    by_cases h0 : st.stage = 0
    rotate_left
    · rw [if_neg (fun z => h0 z.1)] at q
      rw [decide_eq_false (show ¬ ((st.stage : Nat) : Int) = 0 by omega)]
      walk_at "w"
      exact use_need rd1 (fun h => by cases h) (fun _ => q.toT (by simp) (SBs.same s1) (cr1.nts rd1).2)
    rw [decide_eq_true (show ((st.stage : Nat) : Int) = 0 by omega)]
    walk_at "w"
    refine cr1.orders T ?_
    walk_at "w"
    refine st_len_list (SqL.of cr1.ho) ?_
    have hvl : vs.length = st.os.length := by rw [cr.os.len, List.length_map]
    rw [hvl]
    walk_at "w"
    refine use_need rd1 (fun h => ?_) (fun h => ?_)
    rotate_left
    · have h5 : ¬ st.os.length < 6 := by have := of_decide_eq_false h; omega
      rw [if_neg (fun z => h5 z.2)] at q
      exact q.toT (by simp) (SBs.same s1) (cr1.nts rd1).2
    have h5 : st.os.length < 6 := by have := of_decide_eq_true h; omega
    rw [if_pos ⟨h0, h5⟩] at q
    walk_at "w"
    refine cr1.orders T ?_
    refine ⟨.inl ⟨rfl, _, SqL.of cr1.ho⟩, ?_⟩
    walk_at "w"
    refine me rd1 (by decide) (by decide) (by decide) ?_
    walk_at "w"
    refine cr1.orders T ?_
    refine .inl ⟨o, rfl, ⟨_, SqL.of cr1.ho⟩, fun D hD => ?_⟩
    refine lcp (walk_list (xs := vs)) hD st.os hvl (by omega) (fun H' s => SqL.of (s _ _ cr1.ho)) (fun _ => true) (fun (x : Ord) y H => Dp K H y (keyD x.line x.k)) (fun x y H H' zs hD' hk d => dp_listed (d := keyD x.line x.k) rfl hD' hk d) ?_ ?_
    · rintro i x y H6 H7 hi s6 ⟨rfl, hy⟩ k1 k2 hk1 hk2
      obtain ⟨v, hv, dv⟩ := (cr1.os.same s6).at (i := i) (d := x.data) (by rw [List.getElem?_map, hi]; rfl)
      rw [hy] at hv
      cases hv
      obtain ⟨a, xs, rfl, ha, da⟩ := dv.tup_inv
      obtain ⟨v0, _, rfl, d0, da1⟩ := da.cons_inv
      obtain ⟨v1, _, rfl, d1, da2⟩ := da1.cons_inv
      obtain ⟨v2, _, rfl, d2, da3⟩ := da2.cons_inv
      rw [da3.nil_inv, d0.str_inv, d1.int_inv] at ha
      refine w_gtup3 ha ?_
      refine ⟨rfl, ?_⟩
      walk_at "w"
      refine ⟨show 2 ≤ sizeLine by decide, fun u hu => ?_⟩
      exact hk1 rfl _ _ (same_new hu) (.tup (.inl (.inl upd_same)) (.cons (.str _) (.cons (.int _) .nil)))
    intro ys H2 s2 h2 pr
    rw [filter_yes] at pr
    have dk := keys_of pr
    have rd2 := rd1.same s2
    have cr2 := cr1.same s2
    walk_at "w"
    refine ⟨_, _, rfl, r, p, D, l, ws, st.os, ys, rfl, rfl, rd2, wds, hw, SqL.of h2, dk, ?_⟩
    cases ho : orderP st.os ws with
    | error j =>
      rw [ho] at q
      exact q.toT (by simp) (SBs.same (s1.trans s2)) (cr2.nts rd2).2
    | ok od =>
      rw [ho] at q
      dsimp only at q
      intro v H3 a3 d3
      have cr3 := cr2.keep a3.sb rd2.ns nc
      walk_at "w"
      refine ⟨o, vs, v, rfl, rfl, cr3.ho, small_lt _ (by omega), ?_⟩
      walk_at "w"
      obtain ⟨dx, kv, e, dkv⟩ := cr3.ex
      have no : c ≠ o := fun z => by
        have := cr3.ho
        rw [← z, e] at this
        cases this
      have nro : r ≠ o := fun z => by
        obtain ⟨dx2, e2⟩ := a3.rd.ex
        have := cr3.ho
        rw [← z, e2] at this
        cases this
      have keepT : ∀ a xs, SqT K H3 a xs → SqT K (upd H3 o (.lst (vs ++ [v]))) a xs := fun a xs h => mut_sqT cr3.ho h
      have cr4 : CR K (upd H3 o (.lst (vs ++ [v]))) c o (vs ++ [v]) { st with os := st.os ++ [od] } := by
        refine ⟨⟨dx, kv, by rw [upd_ne no]; exact e, dp_monoT keepT (noL_frac _ _) dkv⟩, upd_same, ?_⟩
        show DpAll K _ _ ((st.os ++ [od]).map Ord.data)
        rw [List.map_append]
        exact (dps_monoT keepT (noLs_ords _) cr3.os).app (.cons (dp_monoT keepT (noL_ord od) d3) .nil)
      have rd4 : RD K (upd H3 o (.lst (vs ++ [v]))) r p l ws (orderEnd ws) := by
        obtain ⟨dx2, e2⟩ := a3.rd.ex
        refine ⟨⟨dx2, by rw [upd_ne nro]; exact e2⟩, ?_, rd.len⟩
        have hrow : SqL K H p (ws.map V.str) := rd.row
        have hpo : p ≠ o := hp
        rcases a3.rd.row with (h | ⟨u, h⟩) | h
        · exact .inl (.inl (by rw [upd_ne hpo]; exact h))
        · exact .inl (.inr ⟨u, by rw [upd_ne hpo]; exact h⟩)
        · exact .inr h
      have s4 : SBs [c, o, r] H (upd H3 o (.lst (vs ++ [v]))) := ((SBs.same (s1.trans s2)).trans (SBs.of a3.sb (by simp))).upd (by simp)
      exact take_over T cr rd s4 cr4 rd4 q
  · rw [if_neg hw] at q
    rw [decide_eq_false hw]
    walk_at "w"
    refine get_stage (z := ws.getD 0 "") ?_ fun H2 s2 => ?_
    · exact fun _ _ _ h => w_var rfl h
    have cr2 := cr1.same s2
    have rd2 := rd1.same s2
    have s12 := s1.trans s2
    walk_at "w"
    refine me rd2 (by decide) (by decide) (by decide) ?_
    walk_at "w"
    refine cr2.orders T ?_
    walk_at "w"
    refine ⟨Nat.zero_le _, fun u hu => ?_⟩
    have s3 : Same H2 (upd H2 u (.lst [])) := same_new hu
    refine st_neD (.lst (s3.seq (SqL.of cr2.ho)) (cr2.os.same s3)) (.lst (xs := []) (SqL.of upd_same) .nil) (ords_shaped _) (by rfl) ?_
    rw [eqv_nil, List.isEmpty_map]
    have cr3 := cr2.same s3
    have rd3 := rd2.same s3
    have s13 := s12.trans s3
    generalize upd H2 u (.lst []) = H3 at *
    walk_at "w"
    by_cases hn : st.os = []
    · rw [if_neg (fun z => z.1 hn)] at q
      rw [show st.os.isEmpty = true by rw [hn]; rfl]
      walk_at "w"
      exact use_need rd3 (fun h => by cases h) (fun _ => q.toT (by simp) (SBs.same s13) (cr3.nts rd3).2)
    rw [show st.os.isEmpty = false by cases hx : st.os; exact absurd hx hn; rfl]
    walk_at "w"
    refine cr3.fstage T ?_
    walk_at "w"
    refine use_need rd3 (fun h => ?_) (fun h => ?_)
    rotate_left
    · have h5 : ¬ st.stage < stageOf (ws.getD 0 "") := by have := of_decide_eq_false h; omega
      rw [if_neg (fun z => h5 z.2)] at q
      exact q.toT (by simp) (SBs.same s13) (cr3.nts rd3).2
    have h5 : st.stage < stageOf (ws.getD 0 "") := by have := of_decide_eq_true h; omega
    rw [if_pos ⟨hn, h5⟩] at q
    walk_at "w"
    refine me rd3 (by decide) (by decide) (by decide) ?_
    walk_at "w"
    refine use_go rd3 fun H4 a4 => ?_
    have cr4 := cr3.keep a4.sb rd3.ns nc
    walk_at "w"
    obtain ⟨dx, kv, e, dkv⟩ := cr4.ex
    refine ⟨c, _, dx, _, rfl, e, T.cl_CustomReader, T.na_CustomReader_stage, show 5 < 1000 by decide, ?_⟩
    rw [put_stage]
    have cr5 := cr4.set (st' := { st with stage := stageOf (ws.getD 0 "") }) e dkv rfl
    have rd5 := a4.rd.upd (u := .ins (He.ga K "CustomReader") dx (CRf o kv { st with stage := stageOf (ws.getD 0 "") })) nc (notSeq_ins e)
    have s5 : SBs [c, o, r] H (upd H4 c (.ins (He.ga K "CustomReader") dx (CRf o kv { st with stage := stageOf (ws.getD 0 "") }))) := ((SBs.same s13).trans (SBs.of a4.sb (by simp))).upd (by simp)
    generalize upd H4 c (.ins (He.ga K "CustomReader") dx (CRf o kv { st with stage := stageOf (ws.getD 0 "") })) = H5 at *
    walk_at "w"
    refine cr5.me (by decide) (by decide) (by decide) (by decide) (by decide) ?_
    walk_at "w"
    refine ⟨_, _, _, rfl, c, o, r, p, l, ws, vs, _, _, rfl, rfl, rfl, cr5, rd5, wds, ?_⟩
    have toG : ∀ j, ErrG K [c, o, r] H l j E → ErrG K [c, o, r] H5 l j E := fun j e d v H' sb hd he dv => e d v H' (s5.trans sb) (by
      cases qd : H d with
      | none => rfl
      | some u =>
        by_cases hm : d ∈ [c, o, r]
        · exact absurd hd ((cr5.nts rd5).2 d hm)
        · rw [s5 d u hm qd] at hd; cases hd) he dv
    by_cases hh : ws.getD 0 "" = "halves"
    · rw [if_pos hh] at q
      refine .inl ⟨hh, fun H6 s6 cr6 rd6 => ?_⟩
      walk_at "w"
      rw [hh, stage_h] at cr6
      exact take_over T cr rd (s5.trans s6) cr6 rd6 q
    · rw [if_neg hh] at q
      by_cases hk : ws.getD 0 "" = "kept"
      · rw [if_pos hk] at q
        refine .inr (.inl ⟨hk, ?_⟩)
        cases hf : fracP 1 ws with
        | error j =>
          rw [hf] at q
          exact toG j q
        | ok f =>
          rw [hf] at q
          intro H6 s6 cr6 rd6
          walk_at "w"
          rw [hk, stage_k] at cr6
          exact take_over T cr rd (s5.trans s6) cr6 rd6 q
      · rw [if_neg hk] at q
        have hb : ws.getD 0 "" = "back" := by
          by_cases hb : ws.getD 0 "" = "back"
          · exact hb
          · exfalso
            unfold stageOf at h5
            rw [if_neg hh, if_neg hk, if_neg hb] at h5
            omega
        refine .inr (.inr ⟨hb, ?_⟩)
        cases hf : numZ 0 99999 (ws.getD 1 "") with
        | none =>
          rw [hf] at q
          exact toG 1 q
        | some n =>
          rw [hf] at q
          intro H6 s6 cr6 rd6
          walk_at "w"
          rw [hb, stage_b] at cr6
          exact take_over T cr rd (s5.trans s6) cr6 rd6 q
theorem ok_CustomReader_take (T : Txt K mg) (c_Reader_need : Km P w K mg base (L2.CX P w) 3 (He.ga K "Reader") "need" ["self", "good"] (sp_Reader_need K)) (c_Reader_peek : Km P w K mg base CX0 1 (He.ga K "Reader") "peek" ["self"] (sp_Reader_peek K)) (c_Reader_go : Km P w K mg base CX0 2 (He.ga K "Reader") "go" ["self"] (sp_Reader_go K)) (c_Reader_over : Km P w K mg base (L2.CX P w) 4 (He.ga K "Reader") "over" ["self"] (sp_Reader_over K)) (c_Reader_take_order : Km P w K mg base (L2.CX P w) 6 (He.ga K "Reader") "take_order" ["self", "known"] (sp_Reader_take_order K)) (c_CustomReader_take_more : Km P w K mg base (L2.CX P w) 6 (He.ga K "CustomReader") "take_more" ["self", "reader", "word"] (sp_CustomReader_take_more K)) : Km P w K mg base (L2.CX P w) 7 (He.ga K "CustomReader") "take" ["self", "reader"] (sp_CustomReader_take K) := by
  obtain ⟨fd, F⟩ := T.c.def_ 20 (d := d_CustomReader_take) rfl
  refine ⟨T.cl_CustomReader, ⟨_, fd, T.me_CustomReader_take, F.bindsN fun _ _ _ _ _ _ us hl => match us, hl with | [_, _], _ => rfl, F.ok sc_CustomReader_take Sp2.len (fun cdv A outer s H vs Q E hr h => ?_)⟩⟩
  obtain ⟨v0, v1, rfl, h⟩ := h
  refine ⟨t_CustomReader_take K E, ?_, pure_CustomReader_take T h⟩
  exact (pss_cons (ps_set (i := 2) sc_CustomReader_take.nd rfl (by first | exact Or.inl rfl | exact Or.inr rfl) (pe_mK0 c_Reader_peek (hr.mono (by decide)) (pv 1)))
      (pss_cons (ps_if (pt_cmpR (op_inA hr) (pv 2) (pe_tup (pa_cons pe_str (pa_cons pe_str pa_nil))) (by rfl)) (pss_cons (ps_expr (pe_mKX c_Reader_need (hr.mono (by decide)) (takes_of rfl rfl rfl rfl) (pv 1) (pa_cons (pe_and (pe_cmpR (op_eqA hr) (pe_fld (pv 0) rfl) pe_int (nomark _)) (pe_one (pe_cmpR op_ltA (pe_callB call_len (by rfl) T.n_len (by decide +kernel) (pa_cons (pe_fld (pv 0) rfl) pa_nil)) (pe_gi rfl T.g_MOST_ORDERS) (nomark _)))) pa_nil)))
      (pss_one (ps_expr (pe_bm PySem.F.plainAttrs_list PySem.F.slot_list_append PySem.F.type_list_append mt_append (pe_fld (pv 0) rfl) (pa_cons (pe_mKX c_Reader_take_order (hr.mono (by decide)) (takes_of rfl rfl rfl rfl) (pv 1) (pa_cons (pe_lc (own := [("sort", 4), ("number", 5), ("part", 6)]) (g := (gTup K 3 (gCons (gName 4) (gCons (gName 5) (gCons (gName 6) gNil))))) rfl sc_CustomReader_take.nd (pi_A (pe_fld (pv 0) rfl)) (blkOk_by (own := [("sort", 4), ("number", 5), ("part", 6)]) (N := N_CustomReader_take) (sc := defScope s_CustomReader_take) (by decide +kernel)) (fun _ _ _ _ _ => (pg_tup rfl (pgs_cons (pg_name (i := 4) sc_CustomReader_take.nd rfl (by first | exact Or.inl rfl | exact Or.inr rfl)) (pgs_cons (pg_name (i := 5) sc_CustomReader_take.nd rfl (by first | exact Or.inl rfl | exact Or.inr rfl)) (pgs_cons (pg_name (i := 6) sc_CustomReader_take.nd rfl (by first | exact Or.inl rfl | exact Or.inr rfl)) pgs_nil))))) (fun _ _ _ _ _ => pts_nil) (fun _ _ _ _ _ => (pe_tup (pa_cons (pv 4) (pa_cons (pv 5) pa_nil))))) pa_nil)) pa_nil))))) (pss_cons (ps_set (i := 3) sc_CustomReader_take.nd rfl (by first | exact Or.inl rfl | exact Or.inr rfl) (pe_dget2 (hu_of hr) (pe_disp (pps_cons pe_str pe_int (pps_cons pe_str pe_int (pps_cons pe_str pe_int pps_nil))) (by rfl) (by rfl) (fun z => by cases z) (by decide)) (pv 2) pe_int ⟨rfl, rfl, rfl, rfl⟩))
      (pss_cons (ps_expr (pe_mKX c_Reader_need (hr.mono (by decide)) (takes_of rfl rfl rfl rfl) (pv 1) (pa_cons (pe_and (pe_cmpR (op_neA hr) (pe_fld (pv 0) rfl) (pe_lst pa_nil) (nomark _)) (pe_one (pe_cmpR op_gtA (pv 3) (pe_fld (pv 0) rfl) (nomark _)))) pa_nil)))
      (pss_cons (ps_expr (pe_mK0 c_Reader_go (hr.mono (by decide)) (pv 1)))
      (pss_cons (ps_fld (pv 0) (pv 3) rfl)
      (pss_one (ps_expr (pe_mKX c_CustomReader_take_more (hr.mono (by decide)) (takes_of rfl rfl rfl rfl) (pv 0) (pa_cons (pv 1) (pa_cons (pv 2) pa_nil))))))))))
      (pss_one (ps_expr (pe_mKX0 c_Reader_over (hr.mono (by decide)) (takes_of rfl rfl rfl rfl) (pv 1))))))
end
end K04
set_option Elab.async false
set_option linter.all false
set_option maxRecDepth 100000
set_option maxHeartbeats 4000000
namespace K04
open PySem PySem.Spec PyProof.Rows L2 My
section
variable {P : Program} {w : World} {K : PySem.W.Frag} {mg : Str → Option Value} {base : Heap}
/-! ### custom_told -/
def pr_custom_told (K : PySem.W.Frag) : V → Hp → VK → XK → Prop := fun x H Q _ => ∃ (c o : Addr) (vs : List V) (st : CSt), x = .ref c ∧ CR K H c o vs st ∧ ∀ v H', Same H H' → Dp K H' v st.data → Q v H'
def sp_CustomReader_custom_told (K : PySem.W.Frag) : Sp := Sp1 (pr_custom_told K)
def t_CustomReader_custom_told (K : PySem.W.Frag) : TS :=
  (tRet (tTup (tCons (tCB (rTupleOf K) (tCons (tFld K (tVar 0) "orders") tNil)) (tCons (tFld K (tVar 0) "halves") (tCons (tFld K (tVar 0) "kept") (tCons (tFld K (tVar 0) "back") tNil))))))
theorem pure_CustomReader_custom_told (T : Txt K mg) {x : V} {H : Hp} {Q : VK} {E : XK} (h : pr_custom_told K x H Q E) : t_CustomReader_custom_told K { nx := fun _ H' => Q .non H', rt := Q } [some x] H := by
  obtain ⟨c, o, vs, st, rfl, cr, q⟩ := h
  unfold t_CustomReader_custom_told
  walk_at "w"
  refine cr.orders T ?_
  walk_at "w"
  refine ⟨o, vs, rfl, .inl ⟨SqL.of cr.ho, fun u hu => ?_⟩⟩
  have s1 : Same H (upd H u (.tup vs)) := same_new hu
  have cr1 := cr.same s1
  have h1 : upd H u (.tup vs) u = some (.tup vs) := upd_same
  generalize upd H u (.tup vs) = H1 at *
  walk_at "w"
  refine cr1.fhalves T ?_
  walk_at "w"
  refine cr1.fkept T fun kv dk => ?_
  walk_at "w"
  refine cr1.fback T ?_
  walk_at "w"
  refine ⟨show 4 ≤ sizeLine by decide, fun v hv => ?_⟩
  have s2 := same_new (o := .tup [V.ref u, V.bl st.halves, kv, V.int (st.back : Nat)]) hv
  exact q _ _ (s1.trans s2) (.tup (.inl (.inl upd_same)) (.cons (.tup (.inl (.inl (s2 _ _ h1))) (cr1.os.same s2)) (.cons (.bl _) (.cons (dk.same s2) (.cons (.int _) .nil)))))
theorem ok_CustomReader_custom_told (T : Txt K mg)  : Km P w K mg base CX0 1 (He.ga K "CustomReader") "custom_told" ["self"] (sp_CustomReader_custom_told K) := by
  obtain ⟨fd, F⟩ := T.c.def_ 21 (d := d_CustomReader_custom_told) rfl
  refine ⟨T.cl_CustomReader, ⟨_, fd, T.me_CustomReader_custom_told, F.bindsN fun _ _ _ _ _ _ us hl => match us, hl with | [_], _ => rfl, F.ok sc_CustomReader_custom_told Sp1.len (fun cdv A outer s H vs Q E hr h => ?_)⟩⟩
  obtain ⟨v0, rfl, h⟩ := h
  refine ⟨t_CustomReader_custom_told K, PSs.nox (?_), pure_CustomReader_custom_told T h⟩
  exact (pss_one (ps_ret (pe_tup (pa_cons (pe_callTy call_tuple_of (by rfl) T.n_tuple (by decide +kernel) (pa_cons (pe_fld (pv 0) rfl) pa_nil)) (pa_cons (pe_fld (pv 0) rfl) (pa_cons (pe_fld (pv 0) rfl) (pa_cons (pe_fld (pv 0) rfl) pa_nil)))))))
/-! ### read_custom -/
def wsS (ws : List (List Nat)) : List Str := ws.map S
theorem wsS_v (ws : List (List Nat)) : ws.map txt = (wsS ws).map V.str := by rw [wsS, List.map_map]; rfl
def WdRows (rows : List (List (List Nat))) : Prop := ∀ ws ∈ rows, ∀ w ∈ ws, WdOk w
theorem ErrG.lift {Ls : List Addr} {H H5 : Hp} {l : Int} {j : Nat} {E : XK} (e : ErrG K [] H l j E) (s : Same H H5) (n : ∀ b ∈ Ls, H b = none) : ErrG K Ls H5 l j E := fun d v H' sb hd he dv =>
  e d v H' (fun b u _ eb => sb b u (fun m => by rw [n b m] at eb; cases eb) (s b u eb)) (s.free hd) he dv
def pr_read_custom (K : PySem.W.Frag) : V → Hp → VK → XK → Prop := fun x H Q E =>
  (∃ z : Str, x = .str z ∧ z.length ≤ 100000 ∧ if z.length ≤ 8000 then (match scan 0 [] [] z.cps.toList with
    | .ok rows => WdRows rows ∧ match custP (rows.map wsS) with
      | .ok st => ∀ v H', Same H H' → Dp K H' v st.data → Q v H'
      | .error e => ErrG K [] H (e.1 : Nat) e.2 E
    | .error e => RaisedI K "BadSign" "spot" (.int (e : Int)) H E) else RaisedI K "BadSign" "spot" (.int 0) H E) ∨
  (∃ t, TyX K H x t ∧ PySem.W.kitOne K t (.type "str") = some false ∧ RaisedI K "BadSign" "spot" (.int 0) H E)
def sp_read_custom (K : PySem.W.Frag) : Sp := Sp1 (pr_read_custom K)
def t_read_custom_0 (K : PySem.W.Frag) (E : XK) : TS :=
  (tSeq (tAsg (tMake (He.ga K "CustomReader") (sp_CustomReader___init__ K) [] E0 tNil) (gName 2))
  (tSeq (tFor (iEnum K (tCons (tVar 1) tNil)) (gTup K 2 (gCons (gName 3) (gCons (gName 4) gNil))) (tIfS (tTest (tOp (rNeA K) (tVar 4) (tLst tNil))) (tDrop (tMethX (He.ga K "CustomReader") "take" (sp_CustomReader_take K) (WE (fun cls d _ H => E cls d H)) (tVar 2) (tCons (tMake (He.ga K "Reader") (sp_Reader___init__ K) [] E0 (tCons (tVar 4) (tCons (tVar 3) tNil))) tNil))) tNext))
  (tSeq (tIfS (tTest (tOp (rEqA K) (tFld K (tVar 2) "orders") (tLst tNil))) (tRaiseX (He.ga K "BadText") (sp_BadText___init__ K) (fun cls d _ H => E cls d H) (tCons (tTup (tCons (tCB (rLenA K) (tCons (tVar 1) tNil)) (tCons (tC (.int 0)) tNil))) tNil)) tNext)
  (tRet (tMeth (He.ga K "CustomReader") "custom_told" (sp_CustomReader_custom_told K) [] E0 (tVar 2) tNil)))))
def t_read_custom (K : PySem.W.Frag) (E : XK) : TS :=
  (tSeq (tAsg (tCallS (sp_text_words K) (WE (fun cls d _ H => E cls d H)) (tCons (tVar 0) tNil)) (gName 1))
  (t_read_custom_0 K E))
theorem rowsP_cons (i : Nat) (st : CSt) (ws : List Str) (r : List (List Str)) : rowsP i st (ws :: r) = if ws = [] then rowsP (i + 1) st r else match rowP st ws with
  | .error j => .error (i, j)
  | .ok st' => rowsP (i + 1) st' r := by
  rw [rowsP]
  try rfl
theorem drop_cons {α : Type} {l : List α} {i : Nat} {a : α} (h : l[i]? = some a) : l.drop i = a :: l.drop (i + 1) := by
  have hi : i < l.length := (List.getElem?_eq_some_iff.mp h).1
  rw [List.drop_eq_getElem_cons hi]
  rw [List.getElem?_eq_getElem hi] at h
  cases h; rfl
theorem custom_read (T : Txt K mg) {z : Str} {p : Addr} {rows : List (List (List Nat))} {H H2 : Hp} {Q : VK} {E : XK} (s2 : Same H H2) (ra : RowsAt H H2 p rows) (ok : rows.length ≤ 8001 ∧ ∀ r ∈ rows, RowOk 8001 r) (wd : WdRows rows)
    (q : match custP (rows.map wsS) with
      | .ok st => ∀ v H', Same H H' → Dp K H' v st.data → Q v H'
      | .error e => ErrG K [] H (e.1 : Nat) e.2 E) :
    t_read_custom_0 K E ⟨fun _ H' => Q .non H', Q, fun _ _ => False, fun _ _ => False⟩ [some (.str z), some (.ref p), none, none, none] H2 := by
  obtain ⟨qs, hp, hpn, hqn, nd, prq⟩ := ra
  unfold t_read_custom_0
  walk_at "w"
  intro c dx hc hdx hne
  have s3 : Same H2 (upd (upd H2 dx (.own c)) c (.ins (He.ga K "CustomReader") dx [])) := (same_new hdx).trans (same_new (by rw [upd_ne hne.symm]; exact hc))
  refine ⟨_, rfl, c, dx, rfl, upd_same, fun H3 o sb ho cr => ⟨rfl, ?_⟩⟩
  have hoc : H2 o = none := s3.free ho
  have s3 : Same H2 H3 := fun b u e => sb b u (fun z => by rw [z, hc] at e; cases e) (s3 b u e)
  have hp3 := s3 _ _ hp
  have np : ∀ b u, H2 b = some u → b ≠ c ∧ b ≠ o := fun b u e => ⟨fun z => (by rw [z, hc] at e; cases e), fun z => (by rw [z, hoc] at e; cases e)⟩
  walk_at "w"
  refine ⟨p, _, rfl, SqL.of hp3, ?_⟩
  refine for_it (walk_enum (xs := qs.map V.ref)) (fun i σ H' => ∃ (v3 v4 : Option V) (vs : List V) (st : CSt), σ = [some (.str z), some (.ref p), some (.ref c), v3, v4] ∧ SBs [c, o] H3 H' ∧ CR K H' c o vs st ∧ st.Ok ∧ rowsP i st ((rows.map wsS).drop i) = rowsP 0 cst0 (rows.map wsS))
    ⟨none, none, [], cst0, rfl, SBs.refl _ _, cr, cst0_Ok, rfl⟩ (fun i σ H' _ ⟨_, _, _, _, _, sb, _⟩ => SqL.of (sb _ _ (by have := np p _ hp; simp [this.1, this.2]) hp3)) ?_ ?_
  · rintro i x σ H4 H5 hi ⟨v3, v4, vs, st, rfl, sb4, cr4, sok, hrw⟩ ⟨Tq, a, b, rfl, hT, rfl, ha, hb⟩
    cases ha
    dsimp only at hb
    rw [List.getElem?_map] at hb
    cases hqi : qs[i]? with
    | none => rw [hqi] at hb; cases hb
    | some qa =>
      rw [hqi] at hb
      cases hb
      obtain ⟨ws, hws, hqa⟩ := pget prq hqi
      have hmem := List.mem_of_getElem? hws
      have nq := np qa _ hqa
      have q4 : H4 qa = some (.lst (ws.map txt)) := sb4 _ _ (by simp [nq.1, nq.2]) (s3 _ _ hqa)
      have s5 : Same H4 (upd H4 Tq (.tup [.int (i : Nat), .ref qa])) := same_new hT
      refine w_gtup2 (.inl (.inl upd_same)) ?_
      have q5 := s5 _ _ q4
      have cr5 := cr4.same s5
      have sb5 := sb4.trans (SBs.same s5)
      generalize upd H4 Tq (.tup [.int (i : Nat), .ref qa]) = H5 at *
      walk_at "w"
      refine ⟨Nat.zero_le _, fun e he => ?_⟩
      have s6 : Same H5 (upd H5 e (.lst [])) := same_new he
      have row := ok.2 ws hmem
      have shr : SeqAt.shaped (.list (ws.map fun l => .str (S l))) = true := by
        have := shaped_strs (zs := wsS ws) (fun y hy => by
          obtain ⟨l, hl, rfl⟩ := List.mem_map.mp hy
          exact strOk_iff.mpr (by simpa using row.2 l hl))
        rw [wsS, List.map_map] at this
        exact this
      refine st_neD (.lst (SqL.of (s6 _ _ q5)) (DpAll.strs ws)) (.lst (xs := []) (SqL.of upd_same) .nil) shr (by rfl) ?_
      rw [eqv_nil, List.isEmpty_map]
      have q6 := s6 _ _ q5
      have cr6 := cr5.same s6
      have sb6 := sb5.trans (SBs.same s6)
      generalize upd H5 e (.lst []) = H6 at *
      have hdr : (rows.map wsS).drop i = wsS ws :: (rows.map wsS).drop (i + 1) := drop_cons (by rw [List.getElem?_map, hws]; rfl)
      rw [hdr] at hrw
      cases ws with
      | nil =>
        rw [show (([] : List (List Nat)).isEmpty) = true from rfl]
        walk_at "w"
        refine ⟨_, _, vs, st, rfl, sb6, cr6, sok, ?_⟩
        rw [← hrw]
        rfl
      | cons w0 wr =>
        rw [show (w0 :: wr).isEmpty = false from rfl]
        walk_at "w"
        refine cr6.me (by decide) (by decide) (by decide) (by decide) (by decide) ?_
        walk_at "w"
        intro r dx2 hr hdx2 hne2
        have s7 : Same H6 (upd (upd H6 dx2 (.own r)) r (.ins (He.ga K "Reader") dx2 [])) := (same_new hdx2).trans (same_new (by rw [upd_ne hne2.symm]; exact hr))
        refine ⟨_, _, _, rfl, r, dx2, qa, i, rfl, rfl, rfl, upd_same, fun H7 sb7 h7 => ⟨rfl, ?_⟩⟩
        have s7 : Same H6 H7 := fun b u e => sb7 b u (fun z => by rw [z, hr] at e; cases e) (s7 b u e)
        have rd : RD K H7 r qa i (wsS (w0 :: wr)) 0 := ⟨⟨dx2, h7⟩, by rw [← wsS_v]; exact SqL.of (s7 _ _ q6), by rw [wsS, List.length_map]; exact Nat.le_trans row.1 (by decide)⟩
        have cr7 := cr6.same s7
        have wdw : WdW (wsS (w0 :: wr)) := fun y hy => by
          obtain ⟨l, hl, rfl⟩ := List.mem_map.mp hy
          exact wd _ hmem l hl
        walk_at "w"
        have sH : Same H H7 := fun b u e => by
          have e2 := s2 b u e
          have := np b u e2
          exact s7 _ _ (sb6 b u (by simp [this.1, this.2]) (s3 _ _ e2))
        refine ⟨_, _, rfl, c, o, r, qa, i, wsS (w0 :: wr), vs, st, rfl, rfl, cr7, rd, nq.2, wdw, sok.len, ?_⟩
        rw [rowsP_cons, if_neg (by simp [wsS])] at hrw
        cases hrp : rowP st (wsS (w0 :: wr)) with
        | error j =>
          rw [hrp] at hrw
          have hcp : custP (rows.map wsS) = .error (i, j) := by
            unfold custP
            rw [← hrw]
          rw [hcp] at q
          refine ErrG.lift q sH fun b hb => ?_
          simp only [List.mem_cons, List.not_mem_nil, or_false] at hb
          rcases hb with rfl | rfl | rfl
          · exact s2.free hc
          · exact s2.free hoc
          · cases qd : H b with
            | none => rfl
            | some u =>
              have e2 := s2 b u qd
              have := np b u e2
              rw [sb6 b u (by simp [this.1, this.2]) (s3 _ _ e2)] at hr
              cases hr
        | ok st' =>
          rw [hrp] at hrw
          intro H8 vs' s8 cr8
          walk_at "w"
          refine ⟨_, _, vs', st', rfl, fun b u nb e => ?_, cr8, rowP_Ok hrp sok, hrw⟩
          have e6 := sb6 b u nb e
          simp only [List.mem_cons, List.not_mem_nil, or_false, not_or] at nb
          exact s8 b u (by simp only [List.mem_cons, List.not_mem_nil, or_false, not_or]; exact ⟨nb.1, nb.2, fun z => by rw [z, hr] at e6; cases e6⟩) (s7 _ _ e6)
  · rintro σ H4 ⟨v3, v4, vs, st, rfl, sb4, cr4, sok, hrw⟩
    have hlen : (qs.map V.ref).length = (rows.map wsS).length := by rw [List.length_map, List.length_map]; exact prq.length
    rw [hlen, List.drop_length] at hrw
    have hrw : rowsP 0 cst0 (rows.map wsS) = .ok st := hrw.symm
    have hp4 : H4 p = some (.lst (qs.map V.ref)) := sb4 _ _ (by have := np p _ hp; simp [this.1, this.2]) hp3
    have sH : Same H H4 := fun b u e => by
      have e2 := s2 b u e
      have := np b u e2
      exact sb4 b u (by simp [this.1, this.2]) (s3 _ _ e2)
    unfold custP at q
    rw [hrw] at q
    dsimp only at q
    walk_at "w"
    refine cr4.orders T ?_
    walk_at "w"
    refine ⟨Nat.zero_le _, fun u hu => ?_⟩
    have s5 : Same H4 (upd H4 u (.lst [])) := same_new hu
    refine st_eqD (.lst (s5.seq (SqL.of cr4.ho)) (cr4.os.same s5)) (.lst (xs := []) (SqL.of upd_same) .nil) (ords_shaped _) (by rfl) ?_
    rw [eqv_nil, List.isEmpty_map]
    have cr5 := cr4.same s5
    have hp5 := s5 _ _ hp4
    have sH := sH.trans s5
    generalize upd H4 u (.lst []) = H5 at *
    walk_at "w"
    by_cases hn : st.os = []
    · rw [if_pos hn] at q
      rw [show st.os.isEmpty = true by rw [hn]; rfl]
      walk_at "w"
      refine st_len_list (SqL.of hp5) ?_
      rw [hlen]
      walk_at "w"
      refine ⟨show 2 ≤ sizeLine by decide, fun t ht => ?_⟩
      have s6 : Same H5 (upd H5 t (.tup [V.int (((rows.map wsS).length : Nat) : Int), V.int 0])) := same_new ht
      refine raise_ok (fun d H' s hd hx => ?_) (Same.refl _)
      exact q d (.ref t) H' (SBs.same ((sH.trans s6).trans s)) ((sH.trans s6).free hd) hx (.tup (.inl (.inl (s _ _ upd_same))) (.cons (.int _) (.cons (.int _) .nil)))
    · rw [if_neg hn] at q
      rw [show st.os.isEmpty = false by cases hx : st.os; exact absurd hx hn; rfl]
      walk_at "w"
      refine cr5.me (by decide) (by decide) (by decide) (by decide) (by decide) ?_
      walk_at "w"
      exact ⟨_, rfl, c, o, vs, st, rfl, cr5, fun v H6 s6 d => q v H6 (sH.trans s6) d⟩
theorem pure_read_custom (T : Txt K mg) {x : V} {H : Hp} {Q : VK} {E : XK} (h : pr_read_custom K x H Q E) : t_read_custom K E { nx := fun _ H' => Q .non H', rt := Q } [some x, none, none, none, none] H := by
  unfold t_read_custom
  walk_at "w"
  rcases h with ⟨z, rfl, hz, k⟩ | ⟨t, ht, kt, k⟩
  · refine ⟨_, rfl, .inl ⟨z, rfl, hz, ?_⟩⟩
    by_cases h1 : z.length ≤ 8000
    · rw [if_pos h1] at k ⊢
      cases hsc : scan 0 [] [] z.cps.toList with
      | ok rows =>
        rw [hsc] at k
        intro p H2 s2 ra
        have ok := scan_ok 8001 _ z.cps.toList (Nat.le_refl _) _ _ _ _ hsc (by rw [len_toList]; simp; omega) (by rw [len_toList]; simp; omega) (by rw [len_toList]; omega) (fun _ h => by cases h) (fun _ h => by cases h)
        walk_at "w"
        exact custom_read T s2 ra ok k.1 k.2
      | error e =>
        rw [hsc] at k
        exact k
    · rw [if_neg h1] at k ⊢
      exact k
  · exact ⟨_, rfl, .inr ⟨t, ht, kt, k⟩⟩
theorem ok_read_custom (T : Txt K mg) (c_text_words : Kp P w K mg base (L2.CX P w) 4 "text_words" ["text"] (sp_text_words K)) (c_Reader___init__ : Ki P w K mg base 1 "Reader" ["self", "row", "line"] (sp_Reader___init__ K)) (c_CustomReader___init__ : Ki P w K mg base 1 "CustomReader" ["self"] (sp_CustomReader___init__ K)) (c_CustomReader_take : Km P w K mg base (L2.CX P w) 7 (He.ga K "CustomReader") "take" ["self", "reader"] (sp_CustomReader_take K)) (c_CustomReader_custom_told : Km P w K mg base CX0 1 (He.ga K "CustomReader") "custom_told" ["self"] (sp_CustomReader_custom_told K)) (x_BadText : Kx P w K mg base 1 "BadText" ["self", "spot"] (sp_BadText___init__ K)) : Kp P w K mg base (L2.CX P w) 8 "read_custom" ["text"] (sp_read_custom K) := by
  obtain ⟨fd, F⟩ := T.c.def_ 22 (d := d_read_custom) rfl
  refine ⟨⟨_, fd, T.g_read_custom, F.kp, F.bindsN fun _ _ _ _ _ _ us hl => match us, hl with | [_], _ => rfl, F.ok sc_read_custom Sp1.len (fun cdv A outer s H vs Q E hr h => ?_)⟩⟩
  obtain ⟨v0, rfl, h⟩ := h
  refine ⟨t_read_custom K E, ?_, pure_read_custom T h⟩
  exact (pss_cons (ps_set (i := 1) sc_read_custom.nd rfl (by first | exact Or.inl rfl | exact Or.inr rfl) (pe_cKX c_text_words (hr.mono (by decide)) rfl (takes_of rfl rfl rfl rfl) (pa_cons (pv 0) pa_nil)))
      (pss_cons (ps_set (i := 2) sc_read_custom.nd rfl (by first | exact Or.inl rfl | exact Or.inr rfl) (pe_mI0 c_CustomReader___init__ (hr.mono (by decide)) rfl))
      (pss_cons (ps_for (passes_of rfl) rfl (pi_enum (by rfl) T.n_enumerate (pa_cons (pv 1) pa_nil)) (pg_tup rfl (pgs_cons (pg_name (i := 3) sc_read_custom.nd rfl (by first | exact Or.inl rfl | exact Or.inr rfl)) (pgs_cons (pg_name (i := 4) sc_read_custom.nd rfl (by first | exact Or.inl rfl | exact Or.inr rfl)) pgs_nil))) (pss_one (ps_if (pt_cmpR (op_neA hr) (pv 4) (pe_lst pa_nil) (nomark _)) (pss_one (ps_expr (pe_mKX c_CustomReader_take (hr.mono (by decide)) (takes_of rfl rfl rfl rfl) (pv 2) (pa_cons (pe_mI c_Reader___init__ (hr.mono (by decide)) rfl (pa_cons (pv 4) (pa_cons (pv 3) pa_nil))) pa_nil)))) pss_nil)))
      (pss_cons (ps_if (pt_cmpR (op_eqA hr) (pe_fld (pv 2) rfl) (pe_lst pa_nil) (nomark _)) (pss_one (ps_raise rfl (takes_of rfl rfl rfl rfl) (pmk_X x_BadText (hr.mono (by decide)) rfl (pa_cons (pe_tup (pa_cons (pe_callB call_len (by rfl) T.n_len (by decide +kernel) (pa_cons (pv 1) pa_nil)) (pa_cons pe_int pa_nil))) pa_nil)))) pss_nil)
      (pss_one (ps_ret (pe_mK0 c_CustomReader_custom_told (hr.mono (by decide)) (pv 2))))))))
end
end K04
set_option Elab.async false
set_option linter.all false
set_option maxRecDepth 100000
set_option maxHeartbeats 4000000
namespace K04
open PySem PySem.Spec PyProof.Rows L2 My
section
variable {P : Program} {w : World} {K : PySem.W.Frag} {mg : Str → Option Value} {base : Heap}
theorem len_append (a b : Str) : (a ++ b).length = a.length + b.length := size_cat a b
theorem st_num {n : Nat} {H : Hp} {Q : VK} (hn : n < 10 ^ 20) (q : Q (.str (numS n)) H) : rStrB [.int (n : Nat)] H Q := by
  refine .inl ⟨_, rfl, ?_, q⟩
  have h : ((n : Nat) : Int).natAbs < 2 ^ 80 := by omega
  exact Nat.lt_trans (PySem.Flt.log2_lt_of (by decide) h) (by decide)
theorem st_str {z : Str} {H : Hp} {Q : VK} (q : Q (.str z) H) : rStrB [.str z] H Q := .inr ⟨_, rfl, q⟩
/-! ### part_text -/
def pr_part_text (K : PySem.W.Frag) : V → Hp → VK → XK → Prop := fun x H Q _ => ∃ (p : Addr) (t b : Nat), x = .ref p ∧ SqT K H p [.int (t : Nat), .int (b : Nat)] ∧ t ≤ 1000000 ∧ b ≤ 1000000 ∧ Q (.str (numS t ++ " / " ++ numS b)) H
def sp_part_text (K : PySem.W.Frag) : Sp := Sp1 (pr_part_text K)
def t_part_text (K : PySem.W.Frag) : TS :=
  (tRet (tOp (rAddA K) (tOp (rAddA K) (tCB rStrB (tCons (tIxA K (tVar 0) (tC (.int 0))) tNil)) (tC (.str " / "))) (tCB rStrB (tCons (tIxA K (tVar 0) (tC (.int 1))) tNil))))
theorem sl3 : (" / " : Str).length = 3 := by decide +kernel
theorem pure_part_text (T : Txt K mg) {x : V} {H : Hp} {Q : VK} {E : XK} (h : pr_part_text K x H Q E) : t_part_text K { nx := fun _ H' => Q .non H', rt := Q } [some x] H := by
  obtain ⟨p, t, b, rfl, hp, ht, hb, q⟩ := h
  have l1 := numS_len (n := t) (k := 20) (by decide) (by omega)
  have l2 := numS_len (n := b) (k := 20) (by decide) (by omega)
  unfold t_part_text
  walk_at "w"
  refine st_ix_tup hp rfl ?_
  walk_at "w"
  refine st_num (by omega) ?_
  walk_at "w"
  refine st_add_str (by rw [sl3]; omega) ?_
  walk_at "w"
  refine st_ix_tup hp rfl ?_
  walk_at "w"
  refine st_num (by omega) ?_
  refine st_add_str (by rw [len_append, sl3]; omega) ?_
  exact q
theorem ok_part_text (T : Txt K mg)  : Kp P w K mg base CX0 1 "part_text" ["part"] (sp_part_text K) := by
  obtain ⟨fd, F⟩ := T.c.def_ 23 (d := d_part_text) rfl
  refine ⟨⟨_, fd, T.g_part_text, F.kp, F.bindsN fun _ _ _ _ _ _ us hl => match us, hl with | [_], _ => rfl, F.ok sc_part_text Sp1.len (fun cdv A outer s H vs Q E hr h => ?_)⟩⟩
  obtain ⟨v0, rfl, h⟩ := h
  refine ⟨t_part_text K, PSs.nox (?_), pure_part_text T h⟩
  exact (pss_one (ps_ret (pe_op op_addA (pe_op op_addA (pe_callTy call_strB (by rfl) T.n_str (by decide +kernel) (pa_cons (pe_ixA hr (pv 0) pe_int (fun _ _ => rfl)) pa_nil)) pe_str) (pe_callTy call_strB (by rfl) T.n_str (by decide +kernel) (pa_cons (pe_ixA hr (pv 0) pe_int (fun _ _ => rfl)) pa_nil)))))
/-! ### order_text -/
def otext (o : Ord) : Str := Str.join " " (o.words 1)
def pr_order_text (K : PySem.W.Frag) : V → Hp → VK → XK → Prop := fun x H Q _ => ∃ (o : Ord), Dp K H x o.data ∧ o.Ok ∧ Q (.str (otext o)) H
def sp_order_text (K : PySem.W.Frag) : Sp := Sp1 (pr_order_text K)
def t_order_text (K : PySem.W.Frag) : TS :=
  (tSeq (tAsg (tOp (rAddA K) (tOp (rAddA K) (tIxA K (tVar 0) (tC (.int 0))) (tC (.str " "))) (tCB rStrB (tCons (tIxA K (tVar 0) (tC (.int 1))) tNil))) (gName 1))
  (tRet (tIf (tTest (tOp (rEqA K) (tIxA K (tVar 0) (tC (.int 2))) (tC (.ref (He.ga K "NOUGHT"))))) (tVar 1) (tOp (rAddA K) (tOp (rAddA K) (tVar 1) (tC (.str " beside "))) (tCall (sp_part_text K) [] E0 (tCons (tIxA K (tVar 0) (tC (.int 2))) tNil))))))
theorem frac_eqv (t b : Nat) (h : FracOk t b) : PyData.eqv (fracD t b) (fracD 0 1) = decide (t = 0) := by
  have e : PyData.eqv (fracD t b) (fracD 0 1) = ((((t : Nat) : Int) == ((0 : Nat) : Int)) && ((((b : Nat) : Int) == ((1 : Nat) : Int)) && true)) := rfl
  rw [e]
  rcases h with ⟨rfl, rfl⟩ | ⟨h1, _⟩
  · rfl
  · rw [decide_eq_false (show ¬ t = 0 by omega), beq_eq_false_iff_ne.mpr (show ((t : Nat) : Int) ≠ ((0 : Nat) : Int) by omega)]; rfl
theorem frac_shaped (t b : Nat) : SeqAt.shaped (fracD t b) = true := rfl
theorem tl_sp : TL.tl (" " : Str) = [32] := by decide +kernel
theorem tl_sl : TL.tl ("/" : Str) = [47] := by decide +kernel
theorem tl_ssl : TL.tl (" / " : Str) = [32, 47, 32] := by decide +kernel
theorem tl_bes : TL.tl (" beside " : Str) = [32, 98, 101, 115, 105, 100, 101, 32] := by decide +kernel
theorem tl_be : TL.tl ("beside" : Str) = [98, 101, 115, 105, 100, 101] := by decide +kernel
theorem tl_ke : TL.tl ("kept" : Str) = [107, 101, 112, 116] := by decide +kernel
theorem tl_kes : TL.tl ("kept " : Str) = [107, 101, 112, 116, 32] := by decide +kernel
theorem tl_ba : TL.tl ("back" : Str) = [98, 97, 99, 107] := by decide +kernel
theorem tl_bas : TL.tl ("back " : Str) = [98, 97, 99, 107, 32] := by decide +kernel
theorem otext_no {o : Ord} (h : ¬ 0 < o.t) : otext o = sortS o.line ++ " " ++ numS o.k := by
  unfold otext Ord.words
  rw [if_neg h]; rfl
theorem otext_be {o : Ord} (h : 0 < o.t) : otext o = sortS o.line ++ " " ++ numS o.k ++ " beside " ++ (numS o.t ++ " / " ++ numS o.b) := by
  unfold otext Ord.words
  rw [if_pos h]
  have e : Str.join " " ([sortS o.line, numS o.k] ++ ("beside" : Str) :: fracW 1 o.t o.b) = sortS o.line ++ (" " : Str) ++ (numS o.k ++ (" " : Str) ++ (("beside" : Str) ++ (" " : Str) ++ (numS (1 * o.t) ++ (" " : Str) ++ (("/" : Str) ++ (" " : Str) ++ numS (1 * o.b))))) := rfl
  rw [e, Nat.one_mul, Nat.one_mul]
  refine TL.ext_tl ?_
  simp only [TL.tl_append, tl_sp, tl_sl, tl_ssl, tl_bes, tl_be, List.append_assoc, List.cons_append, List.nil_append]
theorem sort_len (b : Bool) : (sortS b).length ≤ 6 := by cases b <;> decide +kernel
theorem len_sp : (" " : Str).length = 1 := by decide +kernel
theorem len_bes : (" beside " : Str).length = 8 := by decide +kernel
theorem len_ssl : (" / " : Str).length = 3 := by decide +kernel
theorem ord_k {o : Ord} (h : o.Ok) : o.k ≤ 6 := by
  have := h.1
  split at this <;> omega
theorem frac_le {t b : Nat} (h : FracOk t b) : t ≤ 1000 ∧ b ≤ 1000 := by
  rcases h with ⟨rfl, rfl⟩ | ⟨h1, h2, h3, _⟩
  · exact ⟨by decide, by decide⟩
  · exact ⟨by omega, h3⟩
theorem pure_order_text (T : Txt K mg) {x : V} {H : Hp} {Q : VK} {E : XK} (h : pr_order_text K x H Q E) : t_order_text K { nx := fun _ H' => Q .non H', rt := Q } [some x, none] H := by
  obtain ⟨o, d, ok, q⟩ := h
  obtain ⟨p, xs, rfl, hp, ds⟩ := d.tup_inv
  obtain ⟨v0, _, rfl, d0, ds1⟩ := ds.cons_inv
  obtain ⟨v1, _, rfl, d1, ds2⟩ := ds1.cons_inv
  obtain ⟨v2, _, rfl, d2, ds3⟩ := ds2.cons_inv
  obtain ⟨f, ys, rfl, hf, es⟩ := id d2.tup_inv
  obtain ⟨u0, _, rfl, e0, es1⟩ := es.cons_inv
  obtain ⟨u1, _, rfl, e1, es2⟩ := es1.cons_inv
  rw [es2.nil_inv, e0.int_inv, e1.int_inv] at hf
  rw [ds3.nil_inv, d0.str_inv, d1.int_inv] at hp
  have hk := ord_k ok
  have hfr := frac_le ok.2
  have l0 := sort_len o.line
  have l1 := numS_len (n := o.k) (k := 4) (by decide) (by omega)
  have l2 := numS_len (n := o.t) (k := 4) (by decide) (by omega)
  have l3 := numS_len (n := o.b) (k := 4) (by decide) (by omega)
  unfold t_order_text
  walk_at "w"
  refine st_ix_tup hp rfl ?_
  walk_at "w"
  refine st_add_str (by rw [len_sp]; omega) ?_
  walk_at "w"
  refine st_ix_tup hp rfl ?_
  walk_at "w"
  refine st_num (by omega) ?_
  refine st_add_str (by rw [len_append, len_sp]; omega) ?_
  walk_at "w"
  refine st_ix_tup hp rfl ?_
  walk_at "w"
  refine st_eqD (e := fracD 0 1) d2 (.tup (T.tup_NOUGHT _) (.cons (.int _) (.cons (.int _) .nil))) (frac_shaped _ _) (frac_shaped 0 1) ?_
  rw [frac_eqv _ _ ok.2]
  walk_at "w"
  by_cases h0 : o.t = 0
  · rw [decide_eq_true h0]
    walk_at "w"
    rw [otext_no (by omega)] at q
    exact q
  · rw [decide_eq_false h0]
    walk_at "w"
    refine st_add_str (by rw [len_append, len_append, len_sp, len_bes]; omega) ?_
    walk_at "w"
    refine st_ix_tup hp rfl ?_
    walk_at "w"
    refine ⟨_, rfl, f, o.t, o.b, rfl, hf, by omega, by omega, ?_⟩
    refine st_add_str (by rw [len_append, len_append, len_append, len_append, len_append, len_sp, len_bes, len_ssl]; omega) ?_
    rw [otext_be (by omega)] at q
    exact q
theorem ok_order_text (T : Txt K mg) (c_part_text : Kp P w K mg base CX0 1 "part_text" ["part"] (sp_part_text K)) : Kp P w K mg base CX0 2 "order_text" ["order"] (sp_order_text K) := by
  obtain ⟨fd, F⟩ := T.c.def_ 24 (d := d_order_text) rfl
  refine ⟨⟨_, fd, T.g_order_text, F.kp, F.bindsN fun _ _ _ _ _ _ us hl => match us, hl with | [_], _ => rfl, F.ok sc_order_text Sp1.len (fun cdv A outer s H vs Q E hr h => ?_)⟩⟩
  obtain ⟨v0, rfl, h⟩ := h
  refine ⟨t_order_text K, PSs.nox (?_), pure_order_text T h⟩
  exact (pss_cons (ps_set (i := 1) sc_order_text.nd rfl (by first | exact Or.inl rfl | exact Or.inr rfl) (pe_op op_addA (pe_op op_addA (pe_ixA hr (pv 0) pe_int (fun _ _ => rfl)) pe_str) (pe_callTy call_strB (by rfl) T.n_str (by decide +kernel) (pa_cons (pe_ixA hr (pv 0) pe_int (fun _ _ => rfl)) pa_nil))))
      (pss_one (ps_ret (pe_ifExp (pt_cmpR (op_eqA hr) (pe_ixA hr (pv 0) pe_int (fun _ _ => rfl)) (pe_gr rfl T.g_NOUGHT) (nomark _)) (pv 1) (pe_op op_addA (pe_op op_addA (pv 1) pe_str) (pe_cK c_part_text (hr.mono (by decide)) rfl (pa_cons (pe_ixA hr (pv 0) pe_int (fun _ _ => rfl)) pa_nil)))))))
/-! ### written_custom -/
def etext (e : Ent) : Str := Str.join " " (e.words 1)
def ctext (st : CSt) : Str := Str.join "\n" (st.ents.map etext)
def pr_written_custom (K : PySem.W.Frag) : V → Hp → VK → XK → Prop := fun x H Q _ => ∃ (st : CSt), Dp K H x st.data ∧ st.Ok ∧ ∀ H', Same H H' → Q (.str (ctext st)) H'
def sp_written_custom (K : PySem.W.Frag) : Sp := Sp1 (pr_written_custom K)
def t_written_custom_0 (K : PySem.W.Frag) : TS :=
  (tRet (tM1 (rJoinA K) (tC (.str "\n")) (tVar 5)))
def t_written_custom_1 (K : PySem.W.Frag) : TS :=
  (tSeq (tIfS (tTest (tOp rGtA (tVar 4) (tC (.int 0)))) (tDrop (tBM K "list" rAppend (tVar 5) (tCons (tOp (rAddA K) (tC (.str "back ")) (tCB rStrB (tCons (tVar 4) tNil))) tNil))) tNext)
  (t_written_custom_0 K))
def t_written_custom_2 (K : PySem.W.Frag) : TS :=
  (tSeq (tIfS (tTest (tOp (rNeA K) (tVar 3) (tC (.ref (He.ga K "NOUGHT"))))) (tDrop (tBM K "list" rAppend (tVar 5) (tCons (tOp (rAddA K) (tC (.str "kept ")) (tCall (sp_part_text K) [] E0 (tCons (tVar 3) tNil))) tNil))) tNext)
  (t_written_custom_1 K))
def t_written_custom (K : PySem.W.Frag) : TS :=
  (tSeq (tAsg (tVar 0) (gTup K 4 (gCons (gName 1) (gCons (gName 2) (gCons (gName 3) (gCons (gName 4) gNil))))))
  (tSeq (tAsg (tOp (rAddA K) (tLc (iA K (tVar 1)) (gName 6) tYes (tCall (sp_order_text K) [] E0 (tCons (tVar 6) tNil)) [6]) (tOp rMulA (tLst (tCons (tC (.str "halves")) tNil)) (tCB rIntA (tCons (tVar 2) tNil)))) (gName 5))
  (t_written_custom_2 K)))
theorem etext_kept (t b : Nat) : etext (.kept t b) = ("kept " : Str) ++ (numS t ++ " / " ++ numS b) := by
  have e : etext (.kept t b) = ("kept" : Str) ++ (" " : Str) ++ (numS (1 * t) ++ (" " : Str) ++ (("/" : Str) ++ (" " : Str) ++ numS (1 * b))) := rfl
  rw [e, Nat.one_mul, Nat.one_mul]
  refine TL.ext_tl ?_
  simp only [TL.tl_append, tl_sp, tl_sl, tl_ssl, tl_ke, tl_kes, List.append_assoc, List.cons_append, List.nil_append]
theorem etext_back (n : Nat) : etext (.back n) = ("back " : Str) ++ numS n := by
  have e : etext (.back n) = ("back" : Str) ++ (" " : Str) ++ numS n := rfl
  rw [e]
  refine TL.ext_tl ?_
  simp only [TL.tl_append, tl_sp, tl_ba, tl_bas, List.append_assoc, List.cons_append, List.nil_append]
theorem len_kes : ("kept " : Str).length = 5 := by decide +kernel
theorem len_bas : ("back " : Str).length = 5 := by decide +kernel
theorem etext_len {st : CSt} (ok : st.Ok) : (∀ y ∈ st.ents.map etext, y.length ≤ 60) ∧ (st.ents.map etext).length ≤ 9 := by
  have hl := ok.len
  constructor
  · intro y hy
    obtain ⟨e, he, rfl⟩ := List.mem_map.mp hy
    unfold CSt.ents at he
    rcases List.mem_append.mp he with he | he
    · obtain ⟨o, ho, rfl⟩ := List.mem_map.mp he
      have oo := ok.os o ho
      have hk := ord_k oo
      have hfr := frac_le oo.2
      have l0 := sort_len o.line
      have l1 := numS_len (n := o.k) (k := 4) (by decide) (by omega)
      have l2 := numS_len (n := o.t) (k := 4) (by decide) (by omega)
      have l3 := numS_len (n := o.b) (k := 4) (by decide) (by omega)
      show (otext o).length ≤ 60
      by_cases h : 0 < o.t
      · rw [otext_be h]
        simp only [len_append, len_sp, len_bes, len_ssl]
        omega
      · rw [otext_no h]
        simp only [len_append, len_sp]
        omega
    · rcases List.mem_append.mp he with he | he
      · split at he
        · rw [List.mem_singleton.mp he]; decide +kernel
        · cases he
      · rcases List.mem_append.mp he with he | he
        · split at he
          · rw [List.mem_singleton.mp he, etext_kept]
            have hfr := frac_le ok.kept
            have l2 := numS_len (n := st.kt) (k := 4) (by decide) (by omega)
            have l3 := numS_len (n := st.kb) (k := 4) (by decide) (by omega)
            simp only [len_append, len_ssl, len_kes]
            omega
          · cases he
        · split at he
          · rw [List.mem_singleton.mp he, etext_back]
            have hb := ok.back
            have l2 := numS_len (n := st.back) (k := 6) (by decide) (by omega)
            simp only [len_append, len_bas]
            omega
          · cases he
  · rw [List.length_map]
    unfold CSt.ents
    rw [List.length_append, List.length_append, List.length_append, List.length_map]
    have a1 : (if st.halves then [Ent.halves] else []).length ≤ 1 := by split <;> simp
    have a2 : (if 0 < st.kt then [Ent.kept st.kt st.kb] else []).length ≤ 1 := by split <;> simp
    have a3 : (if 0 < st.back then [Ent.back st.back] else []).length ≤ 1 := by split <;> simp
    omega
theorem rep_hal (b : Bool) : (List.replicate ((if b = true then (1 : Int) else 0)).toNat [V.str "halves"]).flatten = ((if b then [Ent.halves] else []).map etext).map V.str := by cases b <;> rfl
theorem written_end (T : Txt K mg) {u : Addr} {st : CSt} {H : Hp} {Q : VK} {v0 v1 v2 v3 v4 v6 : Option V} (ok : st.Ok) (hu : H u = some (.lst ((st.ents.map etext).map V.str))) (q : Q (.str (ctext st)) H) :
    t_written_custom_0 K ⟨fun _ H' => Q .non H', Q, fun _ _ => False, fun _ _ => False⟩ [v0, v1, v2, v3, v4, some (.ref u), v6] H := by
  obtain ⟨h1, h2⟩ := etext_len ok
  unfold t_written_custom_0
  walk_at "w"
  refine ⟨"\n", u, st.ents.map etext, rfl, rfl, .inl (SqL.of hu), ?_, ?_⟩
  · have h3 := sum_len h1
    have h4 : ("\n" : Str).length = 1 := by decide +kernel
    rw [h4]
    omega
  · rw [TL.join_eq]
    exact q
theorem written_back (T : Txt K mg) {u : Addr} {st : CSt} {H0 H : Hp} {Q : VK} {v0 v1 v2 v3 v6 : Option V} (ok : st.Ok) (pre : List Str) (hpre : st.ents.map etext = pre ++ (if 0 < st.back then [Ent.back st.back] else []).map etext) (hn : H0 u = none) (s : Same H0 H) (hu : H u = some (.lst (pre.map V.str)))
    (q : ∀ H', Same H0 H' → Q (.str (ctext st)) H') : t_written_custom_1 K ⟨fun _ H' => Q .non H', Q, fun _ _ => False, fun _ _ => False⟩ [v0, v1, v2, v3, some (.int (st.back : Nat)), some (.ref u), v6] H := by
  have hl : pre.length ≤ 9 := by
    have := (etext_len ok).2
    rw [hpre, List.length_append] at this
    omega
  have hb := ok.back
  unfold t_written_custom_1
  walk_at "w"
  by_cases h : 0 < st.back
  · rw [decide_eq_true (show (0 : Int) < (st.back : Nat) by omega)]
    rw [if_pos h] at hpre
    walk_at "w"
    refine ⟨.inl ⟨rfl, _, SqL.of hu⟩, ?_⟩
    walk_at "w"
    have l2 := numS_len (n := st.back) (k := 6) (by decide) (by omega)
    refine st_num (by omega) ?_
    refine st_add_str (by rw [len_bas]; omega) ?_
    walk_at "w"
    refine ⟨u, _, _, rfl, rfl, hu, small_lt _ (by rw [List.length_map]; omega), ?_⟩
    walk_at "w"
    refine written_end T ok ?_ (q _ (Same.mut s hn))
    rw [upd_same, hpre, List.map_append, ← etext_back]; rfl
  · rw [decide_eq_false (show ¬ (0 : Int) < (st.back : Nat) by omega)]
    rw [if_neg h] at hpre
    walk_at "w"
    refine written_end T ok ?_ (q _ s)
    rw [hu, hpre]
    simp
theorem written_kept (T : Txt K mg) {u f : Addr} {st : CSt} {H0 H : Hp} {Q : VK} {v0 v1 v2 v6 : Option V} (ok : st.Ok) (pre : List Str) (hpre : st.ents.map etext = pre ++ ((if 0 < st.kt then [Ent.kept st.kt st.kb] else []) ++ (if 0 < st.back then [Ent.back st.back] else [])).map etext) (hn : H0 u = none) (s : Same H0 H) (hu : H u = some (.lst (pre.map V.str)))
    (df : Dp K H (.ref f) (fracD st.kt st.kb)) (q : ∀ H', Same H0 H' → Q (.str (ctext st)) H') : t_written_custom_2 K ⟨fun _ H' => Q .non H', Q, fun _ _ => False, fun _ _ => False⟩ [v0, v1, v2, some (.ref f), some (.int (st.back : Nat)), some (.ref u), v6] H := by
  have hl : pre.length ≤ 9 := by
    have := (etext_len ok).2
    rw [hpre, List.length_append] at this
    omega
  have hfr := frac_le ok.kept
  unfold t_written_custom_2
  walk_at "w"
  refine st_neD (e := fracD 0 1) df (.tup (T.tup_NOUGHT _) (.cons (.int _) (.cons (.int _) .nil))) (frac_shaped _ _) (frac_shaped 0 1) ?_
  rw [frac_eqv _ _ ok.kept]
  walk_at "w"
  by_cases h : 0 < st.kt
  · rw [decide_eq_false (show ¬ st.kt = 0 by omega)]
    rw [if_pos h, List.map_append, ← List.append_assoc] at hpre
    walk_at "w"
    refine ⟨.inl ⟨rfl, _, SqL.of hu⟩, ?_⟩
    walk_at "w"
    obtain ⟨f', ys, ef, hf, es⟩ := df.tup_inv
    cases ef
    obtain ⟨u0, _, rfl, e0, es1⟩ := es.cons_inv
    obtain ⟨u1, _, rfl, e1, es2⟩ := es1.cons_inv
    rw [es2.nil_inv, e0.int_inv, e1.int_inv] at hf
    refine ⟨_, rfl, f, st.kt, st.kb, rfl, hf, by omega, by omega, ?_⟩
    have l2 := numS_len (n := st.kt) (k := 4) (by decide) (by omega)
    have l3 := numS_len (n := st.kb) (k := 4) (by decide) (by omega)
    refine st_add_str (by rw [len_append, len_append, len_ssl, len_kes]; omega) ?_
    walk_at "w"
    refine ⟨u, _, _, rfl, rfl, hu, small_lt _ (by rw [List.length_map]; omega), ?_⟩
    walk_at "w"
    refine written_back T ok (pre ++ [etext (.kept st.kt st.kb)]) hpre hn (Same.mut s hn) ?_ q
    rw [upd_same, List.map_append, ← etext_kept]; rfl
  · rw [decide_eq_true (show st.kt = 0 by omega)]
    rw [if_neg h, List.nil_append] at hpre
    walk_at "w"
    exact written_back T ok pre hpre hn s hu q
theorem pure_written_custom (T : Txt K mg) {x : V} {H : Hp} {Q : VK} {E : XK} (h : pr_written_custom K x H Q E) : t_written_custom K { nx := fun _ H' => Q .non H', rt := Q } [some x, none, none, none, none, none, none] H := by
  obtain ⟨st, d, ok, q⟩ := h
  obtain ⟨p, xs, rfl, hp, ds⟩ := d.tup_inv
  obtain ⟨v0, _, rfl, d0, ds1⟩ := ds.cons_inv
  obtain ⟨v1, _, rfl, d1, ds2⟩ := ds1.cons_inv
  obtain ⟨v2, _, rfl, d2, ds3⟩ := ds2.cons_inv
  obtain ⟨v3, _, rfl, d3, ds4⟩ := ds3.cons_inv
  obtain ⟨po, ys, rfl, ho, es⟩ := d0.tup_inv
  obtain ⟨f, zs, ef, hf, es2⟩ := id d2.tup_inv
  have e1 : v1 = .bl st.halves := by cases d1; rfl
  subst e1 ef
  rw [ds4.nil_inv, d3.int_inv] at hp
  have hlen := ok.len
  have hyl : ys.length = st.os.length := by rw [es.len, List.length_map]
  unfold t_written_custom
  walk_at "w"
  refine w_gtup4 hp ?_
  walk_at "w"
  refine .inr (.inl ⟨po, rfl, ⟨_, ho⟩, fun D hD => ?_⟩)
  refine lcv (walk_tup (xs := ys)) hD st.os hyl (by omega) (fun H' s => same_sqT s ho) (fun _ => true) (fun o => .str (otext o)) ?_ ?_
  · rintro i o y H6 H7 hi s6 ⟨rfl, hy⟩ k1 k2 hk1 hk2
    obtain ⟨v, hv, dv⟩ := es.at (i := i) (d := o.data) (by rw [List.getElem?_map, hi]; rfl)
    rw [hy] at hv
    cases hv
    walk_at "w"
    refine ⟨rfl, ?_⟩
    walk_at "w"
    exact ⟨_, rfl, o, dv.same s6, ok.os o (List.mem_of_getElem? hi), hk1 rfl _ (Same.refl _)⟩
  · intro H1 s1 h1
    rw [filter_yes] at h1
    walk_at "w"
    refine ⟨show 1 ≤ sizeLine by decide, fun u2 hu2 => ?_⟩
    have s2 := same_new (o := .lst [V.str "halves"]) hu2
    walk_at "w"
    refine st_int_bl ?_
    refine st_rep upd_same (by split <;> decide) (by split <;> decide) (by split <;> decide) fun u3 hu3 => ?_
    rw [rep_hal]
    generalize hus : ((if st.halves then [Ent.halves] else []).map etext).map V.str = us
    have lus : us.length ≤ 1 := by rw [← hus]; split <;> simp
    have s3 := s2.trans (same_new (o := .lst us) hu3)
    refine st_add_list (s3 _ _ h1) upd_same (by rw [List.length_map]; omega) fun u4 hu4 => ?_
    have s4 := s3.trans (same_new (o := .lst (st.os.map (fun o => V.str (otext o)) ++ us)) hu4)
    walk_at "w"
    refine written_kept T (H0 := H) ok (st.os.map otext ++ (if st.halves then [Ent.halves] else []).map etext) ?_ ((s1.trans s3).free hu4) (s1.trans s4) ?_ (d2.same (s1.trans s4)) q
    · unfold CSt.ents
      rw [List.map_append, List.map_append, List.map_map, ← List.append_assoc]; rfl
    · rw [upd_same, List.map_append, hus, List.map_map]; rfl
theorem ok_written_custom (T : Txt K mg) (c_part_text : Kp P w K mg base CX0 1 "part_text" ["part"] (sp_part_text K)) (c_order_text : Kp P w K mg base CX0 2 "order_text" ["order"] (sp_order_text K)) : Kp P w K mg base CX0 3 "written_custom" ["custom"] (sp_written_custom K) := by
  obtain ⟨fd, F⟩ := T.c.def_ 25 (d := d_written_custom) rfl
  refine ⟨⟨_, fd, T.g_written_custom, F.kp, F.bindsN fun _ _ _ _ _ _ us hl => match us, hl with | [_], _ => rfl, F.ok sc_written_custom Sp1.len (fun cdv A outer s H vs Q E hr h => ?_)⟩⟩
  obtain ⟨v0, rfl, h⟩ := h
  refine ⟨t_written_custom K, PSs.nox (?_), pure_written_custom T h⟩
  exact (pss_cons (ps_asg (pv 0) (pg_tup rfl (pgs_cons (pg_name (i := 1) sc_written_custom.nd rfl (by first | exact Or.inl rfl | exact Or.inr rfl)) (pgs_cons (pg_name (i := 2) sc_written_custom.nd rfl (by first | exact Or.inl rfl | exact Or.inr rfl)) (pgs_cons (pg_name (i := 3) sc_written_custom.nd rfl (by first | exact Or.inl rfl | exact Or.inr rfl)) (pgs_cons (pg_name (i := 4) sc_written_custom.nd rfl (by first | exact Or.inl rfl | exact Or.inr rfl)) pgs_nil))))))
      (pss_cons (ps_set (i := 5) sc_written_custom.nd rfl (by first | exact Or.inl rfl | exact Or.inr rfl) (pe_op op_addA (pe_lc (own := [("order", 6)]) (g := (gName 6)) rfl sc_written_custom.nd (pi_A (pv 1)) (blkOk_by (own := [("order", 6)]) (N := N_written_custom) (sc := defScope s_written_custom) (by decide +kernel)) (fun _ _ _ _ _ => (pg_name (i := 6) sc_written_custom.nd rfl (by first | exact Or.inl rfl | exact Or.inr rfl))) (fun _ _ _ _ _ => pts_nil) (fun _ _ _ _ _ => (pe_cK c_order_text (hr.mono (by decide)) rfl (pa_cons (pv 6) pa_nil)))) (pe_op op_mulA (pe_lst (pa_cons pe_str pa_nil)) (pe_callTy call_intA (by rfl) T.n_int (by decide +kernel) (pa_cons (pv 2) pa_nil)))))
      (pss_cons (ps_if (pt_cmpR (op_neA hr) (pv 3) (pe_gr rfl T.g_NOUGHT) (nomark _)) (pss_one (ps_expr (pe_bm PySem.F.plainAttrs_list PySem.F.slot_list_append PySem.F.type_list_append mt_append (pv 5) (pa_cons (pe_op op_addA pe_str (pe_cK c_part_text (hr.mono (by decide)) rfl (pa_cons (pv 3) pa_nil))) pa_nil)))) pss_nil)
      (pss_cons (ps_if (pt_cmpR op_gtA (pv 4) pe_int (nomark _)) (pss_one (ps_expr (pe_bm PySem.F.plainAttrs_list PySem.F.slot_list_append PySem.F.type_list_append mt_append (pv 5) (pa_cons (pe_op op_addA pe_str (pe_callTy call_strB (by rfl) T.n_str (by decide +kernel) (pa_cons (pv 4) pa_nil))) pa_nil)))) pss_nil)
      (pss_one (ps_ret (pe_join pe_str (pv 5))))))))
end
end K04
set_option Elab.async false
set_option linter.all false
set_option maxRecDepth 100000
set_option maxHeartbeats 4000000
namespace K04
open PySem PySem.Spec PyProof.Rows L2 My
section
variable {P : Program} {w : World} {K : PySem.W.Frag} {mg : Str → Option Value} {base : Heap}
/-! ### _law_next -/
def sp__law_next (K : PySem.W.Frag) : Sp := Sp2 (pr_next K)
def t__law_next (K : PySem.W.Frag) : TS :=
  (tSeq (sDPut (tVar 0) (tC (.str "at")) (tOp (rAddA K) (tIxA K (tVar 0) (tC (.str "at"))) (tC (.int 1))))
  (tSeq (tAsg (tIxA K (tVar 0) (tC (.str "at"))) (gName 2))
  (tSeq (tAsg (tIxA K (tVar 0) (tC (.str "cells"))) (gName 3))
  (tSeq (tAsg (tIf (tTest (tOp (rNeA K) (tVar 3) (tLst tNil))) (tIxA K (tVar 3) (tOp rModA (tVar 2) (tCB (rLenA K) (tCons (tVar 3) tNil)))) (tC (.int 0))) (gName 4))
  (tSeq (tAsg (tOp rModA (tOp (rAddA K) (tOp (rAddA K) (tOp rMulA (tOp rModA (tVar 4) (tC (.int 2147483629))) (tC (.int 48271))) (tOp rMulA (tOp rMulA (tC (.int 69621)) (tVar 2)) (tVar 2))) (tC (.int 104729))) (tC (.int 2147483647))) (gName 5))
  (tRet (tOp rModA (tOp rDivA (tOp rModA (tOp rMulA (tVar 5) (tOp (rAddA K) (tC (.int 16807)) (tOp rMulA (tC (.int 2)) (tVar 2)))) (tC (.int 2147483629))) (tC (.int 7))) (tVar 1))))))))
theorem pure__law_next (T : Txt K mg) {x y : V} {H : Hp} {Q : VK} {E : XK} (h : pr_next K x y H Q E) : t__law_next K { nx := fun _ H' => Q .non H', rt := Q } [some x, some y, none, none, none, none] H := by
  obtain ⟨st, ns, m, many, rfl, rfl, hm, hn, ⟨a, k, hst, hcells, hne, k0, km⟩, hb, q⟩ := h
  unfold t__law_next
  walk_at "w"
  refine st_ix_dict (DGet.k (k := Sum.inr "at") hst) ?_
  walk_at "w"
  refine ⟨st, _, rfl, DPut.k (k := Sum.inr "at") hst (show 2 < sizeLine by decide), ?_⟩
  rw [stK_put]
  have hst1 : upd H st (.dK (stK a (k + 1))) st = some (.dK (stK a (k + 1))) := upd_same
  have sb : SB st H (upd H st (.dK (stK a (k + 1)))) := fun b o n e => by rw [upd_ne n]; exact e
  have hcells1 := sb.sqL hne hcells
  generalize upd H st (.dK (stK a (k + 1))) = H1 at *
  have e1 := DGet.k (k := Sum.inr "at") hst1
  rw [stK_at] at e1
  have e2 := DGet.k (k := Sum.inr "cells") hst1
  rw [stK_cells] at e2
  walk_at "w"
  refine st_ix_dict e1 ?_
  walk_at "w"
  refine st_ix_dict e2 ?_
  walk_at "w"
  refine ⟨Nat.zero_le _, fun p hp => ?_⟩
  have s2 : Same H1 (upd H1 p (.lst [])) := same_new hp
  refine st_neD (Dp.ints (s2.seq hcells1)) (Dp.ints (ns := []) (SqL.of upd_same)) (shaped_ints _) (shaped_ints []) ?_
  walk_at "w"
  have hst2 := s2 _ _ hst1
  have hcells2 := s2.seq hcells1
  have sb2 := sb.trans (Same.sb s2)
  generalize upd H1 p (.lst []) = H2 at *
  have hadv : Adv K st ns (m + 1) H H2 := ⟨sb2, ⟨a, k + 1, hst2, hcells2, hne, by omega, by omega⟩, fun b j e => by
    rw [hst] at e
    injection e with e
    injection e with e
    exact ⟨k + 1, by rw [← stK_inj e]; exact hst2⟩⟩
  refine ite2 (fun h1 => ?_) (fun h1 => ?_)
  · have hlen : 0 < ns.length := by
      cases ns with
      | nil => exact absurd h1 (by decide)
      | cons => simp
    walk_at "w"
    refine st_len_list hcells2 ?_
    walk_at "w"
    rw [List.length_map]
    refine st_modG (by omega) fun r r0 r1 => ?_
    refine st_ixI hcells2 r0 r1 fun c => ?_
    walk_at "w"
    refine st_modG (by decide) fun r2 r20 r21 => ?_
    walk_at "w"
    refine st_mulG (a := 31) (b := 16) (nb (by omega) (by omega)) (by decide) (by decide) (by decide) (by decide) fun r3 p3 b3 => ?_
    walk_at "w"
    refine st_mulG (a := 17) (b := 40) (by decide) (nb (by omega) (by omega)) (by decide) (by decide) (by decide) fun r4 p4 b4 => ?_
    walk_at "w"
    refine st_mulG (a := 57) (b := 40) b4 (nb (by omega) (by omega)) (by decide) (by decide) (by decide) fun r5 p5 b5 => ?_
    walk_at "w"
    refine st_modG (by decide) fun r6 r60 r61 => ?_
    walk_at "w"
    refine st_mulG (a := 2) (b := 40) (by decide) (nb (by omega) (by omega)) (by decide) (by decide) (by decide) fun r7 p7 b7 => ?_
    walk_at "w"
    have p7 := p7 (by decide) (by omega)
    refine st_mulG (a := 31) (b := 43) (nb (by omega) (by omega)) (nb (by omega) (by omega)) (by decide) (by decide) (by decide) fun r8 p8 b8 => ?_
    refine st_modG (by decide) fun r9 r90 r91 => ?_
    walk_at "w"
    refine st_divG r90 (by decide) (b := 3) (by decide) (by decide) (by decide) fun r10 r100 r101 => ?_
    walk_at "w"
    refine st_modG hm fun r11 r110 r111 => ?_
    walk_at "w"
    exact q _ _ r110 r111 hadv
  · walk_at "w"
    generalize (0 : Int) = c
    walk_at "w"
    refine st_modG (by decide) fun r2 r20 r21 => ?_
    walk_at "w"
    refine st_mulG (a := 31) (b := 16) (nb (by omega) (by omega)) (by decide) (by decide) (by decide) (by decide) fun r3 p3 b3 => ?_
    walk_at "w"
    refine st_mulG (a := 17) (b := 40) (by decide) (nb (by omega) (by omega)) (by decide) (by decide) (by decide) fun r4 p4 b4 => ?_
    walk_at "w"
    refine st_mulG (a := 57) (b := 40) b4 (nb (by omega) (by omega)) (by decide) (by decide) (by decide) fun r5 p5 b5 => ?_
    walk_at "w"
    refine st_modG (by decide) fun r6 r60 r61 => ?_
    walk_at "w"
    refine st_mulG (a := 2) (b := 40) (by decide) (nb (by omega) (by omega)) (by decide) (by decide) (by decide) fun r7 p7 b7 => ?_
    walk_at "w"
    have p7 := p7 (by decide) (by omega)
    refine st_mulG (a := 31) (b := 43) (nb (by omega) (by omega)) (nb (by omega) (by omega)) (by decide) (by decide) (by decide) fun r8 p8 b8 => ?_
    refine st_modG (by decide) fun r9 r90 r91 => ?_
    walk_at "w"
    refine st_divG r90 (by decide) (b := 3) (by decide) (by decide) (by decide) fun r10 r100 r101 => ?_
    walk_at "w"
    refine st_modG hm fun r11 r110 r111 => ?_
    walk_at "w"
    exact q _ _ r110 r111 hadv
theorem ok__law_next (T : Txt K mg)  : Kp P w K mg base CX0 1 "_law_next" ["_law_state", "_law_many"] (sp__law_next K) := by
  obtain ⟨fd, F⟩ := T.c.def_ 26 (d := d__law_next) rfl
  refine ⟨⟨_, fd, T.g__law_next, F.kp, F.bindsN fun _ _ _ _ _ _ us hl => match us, hl with | [_, _], _ => rfl, F.ok sc__law_next Sp2.len (fun cdv A outer s H vs Q E hr h => ?_)⟩⟩
  obtain ⟨v0, v1, rfl, h⟩ := h
  refine ⟨t__law_next K, PSs.nox (?_), pure__law_next T h⟩
  exact (pss_cons (ps_dput (hu_of hr) (pv 0) pe_str (pe_op op_addA (pe_ixA hr (pv 0) pe_str (fun _ _ => rfl)) pe_int) rfl)
      (pss_cons (ps_set (i := 2) sc__law_next.nd rfl (by first | exact Or.inl rfl | exact Or.inr rfl) (pe_ixA hr (pv 0) pe_str (fun _ _ => rfl)))
      (pss_cons (ps_set (i := 3) sc__law_next.nd rfl (by first | exact Or.inl rfl | exact Or.inr rfl) (pe_ixA hr (pv 0) pe_str (fun _ _ => rfl)))
      (pss_cons (ps_set (i := 4) sc__law_next.nd rfl (by first | exact Or.inl rfl | exact Or.inr rfl) (pe_ifExp (pt_cmpR (op_neA hr) (pv 3) (pe_lst pa_nil) (nomark _)) (pe_ixA hr (pv 3) (pe_op op_modA (pv 2) (pe_callB call_len (by rfl) T.n_len (by decide +kernel) (pa_cons (pv 3) pa_nil))) (fun _ _ => rfl)) pe_int))
      (pss_cons (ps_set (i := 5) sc__law_next.nd rfl (by first | exact Or.inl rfl | exact Or.inr rfl) (pe_op op_modA (pe_op op_addA (pe_op op_addA (pe_op op_mulA (pe_op op_modA (pv 4) pe_int) pe_int) (pe_op op_mulA (pe_op op_mulA pe_int (pv 2)) (pv 2))) pe_int) pe_int))
      (pss_one (ps_ret (pe_op op_modA (pe_op op_fdivA (pe_op op_modA (pe_op op_mulA (pv 5) (pe_op op_addA pe_int (pe_op op_mulA pe_int (pv 2)))) pe_int) pe_int) (pv 1)))))))))
def pr_draws (K : PySem.W.Frag) (B c : Int) (R : V → Hp → Prop) : V → Hp → VK → XK → Prop := fun x H Q _ => ∃ (st : Addr) (ns : List Int) (m : Int), x = .ref st ∧ ns.length ≤ 63 ∧ LS K H st ns m ∧ m ≤ B ∧ ∀ v H', R v H' → Adv K st ns (m + c) H H' → Q v H'
def natUpTo (n : Nat) : V → Hp → Prop := fun v _ => ∃ k : Nat, v = .int (k : Nat) ∧ k ≤ n
theorem use_draws {B c : Int} {R : V → Hp → Prop} {st : Addr} {ns : List Int} {m : Int} {H : Hp} {Q : VK} {E : XK} (ls : LS K H st ns m) (hn : ns.length ≤ 63) (hm : m ≤ B) (q : ∀ v H', R v H' → Adv K st ns (m + c) H H' → Q v H') : Sp1 (pr_draws K B c R) [.ref st] H Q E :=
  ⟨_, rfl, st, ns, m, rfl, hn, ls, hm, q⟩
/-- one of what a list display holds, by a draw -/
theorem draw_ix {st : Addr} {ns : List Int} {m : Int} {H : Hp} {Q : VK} {E : XK} {xs : List V} {many : Int} {p : Addr} (ls : LS K H st ns m) (hn : ns.length ≤ 63) (hm : 0 < many) (hb : m ≤ 1000000000) (hl : many = xs.length) (hp : H p = some (.lst xs))
    (q : ∀ v H', v ∈ xs → Adv K st ns (m + 1) H H' → Q v H') : Sp2 (pr_next K) [.ref st, .int many] H (fun y H2 => rIxA K (.ref p) y H2 Q) E := by
  refine use_next ls hn hm hb fun r H1 r0 r1 a1 => ?_
  have hp1 := a1.sb _ _ (ls.ne_lst hp) hp
  exact st_ixG (SqL.of hp1) r0 (by omega) fun v hv => q v H1 hv a1
/-! ### _law_part -/
def fracOk (K : PySem.W.Frag) : V → Hp → Prop := fun v H => ∃ t b : Nat, Dp K H v (.tuple [.int (t : Nat), .int (b : Nat)]) ∧ 1 ≤ t ∧ t ≤ b ∧ b ≤ 1000 ∧ Nat.gcd t b = 1
def sp__law_part (K : PySem.W.Frag) : Sp := Sp1 (pr_draws K 100000000 4 (fracOk K))
def t__law_part (K : PySem.W.Frag) : TS :=
  (tSeq (tAsg (tIxA K (tLst (tCons (tOp (rAddA K) (tC (.int 1)) (tCall (sp__law_next K) [] E0 (tCons (tVar 0) (tCons (tC (.int 12)) tNil)))) (tCons (tC (.int 1000)) (tCons (tOp (rAddA K) (tC (.int 1)) (tCall (sp__law_next K) [] E0 (tCons (tVar 0) (tCons (tC (.int 1000)) tNil)))) tNil)))) (tCall (sp__law_next K) [] E0 (tCons (tVar 0) (tCons (tC (.int 3)) tNil)))) (gName 1))
  (tSeq (tAsg (tOp (rAddA K) (tC (.int 1)) (tCall (sp__law_next K) [] E0 (tCons (tVar 0) (tCons (tVar 1) tNil)))) (gName 2))
  (tSeq (tPar 3 4 (tCons (tVar 2) (tCons (tVar 1) tNil)))
  (tSeq (tWhile (tTest (tOp rGtA (tVar 4) (tC (.int 0)))) (tPar 3 4 (tCons (tVar 4) (tCons (tOp rModA (tVar 3) (tVar 4)) tNil))))
  (tRet (tTup (tCons (tOp rDivA (tVar 2) (tVar 3)) (tCons (tOp rDivA (tVar 1) (tVar 3)) tNil))))))))
theorem pure__law_part (T : Txt K mg) {x : V} {H : Hp} {Q : VK} {E : XK} (h : pr_draws K 100000000 4 (fracOk K) x H Q E) : t__law_part K { nx := fun _ H' => Q .non H', rt := Q } [some x, none, none, none, none] H := by
  obtain ⟨st, ns, m, rfl, hn, ls, hm, q⟩ := h
  unfold t__law_part
  walk_at "w"
  refine use_next ls hn (by decide) (by omega) fun r1 H1 r10 r11 a1 => ?_
  walk_at "w"
  refine use_next a1.ls hn (by decide) (by omega) fun r2 H2 r20 r21 a2 => ?_
  walk_at "w"
  refine ⟨show 3 ≤ sizeLine by decide, fun p hp => ?_⟩
  have a3 := (a1.trans a2).same (same_new (o := .lst [V.int (1 + r1), V.int 1000, V.int (1 + r2)]) hp)
  have hp3 : upd H2 p (.lst [V.int (1 + r1), V.int 1000, V.int (1 + r2)]) p = some (.lst [V.int (1 + r1), V.int 1000, V.int (1 + r2)]) := upd_same
  generalize upd H2 p (.lst [V.int (1 + r1), V.int 1000, V.int (1 + r2)]) = H3 at *
  walk_at "w"
  refine use_next a3.ls hn (by decide) (by omega) fun r4 H4 r40 r41 a4 => ?_
  have hp4 := a4.sb _ _ (a3.ls.ne_lst hp3) hp3
  refine st_ixG (SqL.of hp4) r40 r41 fun v hv => ?_
  obtain ⟨b, rfl, b1, b2⟩ : ∃ b : Nat, v = .int (b : Nat) ∧ 1 ≤ b ∧ b ≤ 1000 := by
    simp only [List.mem_cons, List.not_mem_nil, or_false] at hv
    rcases hv with rfl | rfl | rfl
    · exact ⟨(1 + r1).toNat, by rw [Int.toNat_of_nonneg (by omega)], by omega, by omega⟩
    · exact ⟨1000, rfl, by decide, by decide⟩
    · exact ⟨(1 + r2).toNat, by rw [Int.toNat_of_nonneg (by omega)], by omega, by omega⟩
  have a4 := a3.trans a4
  walk_at "w"
  refine use_next a4.ls hn (by omega) (by omega) fun r5 H5 r50 r51 a5 => ?_
  have a5 := a4.trans a5
  obtain ⟨t, ht, t1, t2⟩ : ∃ t : Nat, 1 + r5 = ((t : Nat) : Int) ∧ 1 ≤ t ∧ t ≤ b := ⟨(1 + r5).toNat, by rw [Int.toNat_of_nonneg (by omega)], by omega, by omega⟩
  walk_at "w"
  rw [ht]
  refine ⟨fun m' σ H' => H' = H5 ∧ ∃ c d : Nat, m' = d ∧ Nat.gcd t b = Nat.gcd c d ∧ σ = [some (.ref st), some (.int (b : Nat)), some (.int (t : Nat)), some (.int (c : Nat)), some (.int (d : Nat))], ⟨_, rfl, t, b, rfl, rfl, rfl⟩, ?_⟩
  rintro m' σ H' ⟨rfl, c, d, rfl, hg, rfl⟩
  walk_at "w"
  refine ite2 (fun h1 => ?_) (fun h1 => ?_)
  · have h2 : 0 < m' := by have := of_decide_eq_true h1; omega
    refine ⟨_, fun _ _ z => z, ?_⟩
    walk_at "w"
    refine st_mod (by omega) ?_
    walk_at "w"
    refine ⟨c % m', Nat.mod_lt _ h2, rfl, m', c % m', rfl, ?_, rfl⟩
    rw [hg, Nat.gcd_comm c m', Nat.gcd_rec m' c, Nat.gcd_comm]
  · have h2 : m' = 0 := by
      have : ¬ (0 : Int) < m' := fun e => h1 (decide_eq_true e)
      omega
    subst h2
    rw [Nat.gcd_zero_right] at hg
    have g0 : 0 < Nat.gcd t b := Nat.gcd_pos_of_pos_left _ (by omega)
    have g1 : Nat.gcd t b ≤ t := Nat.gcd_le_left _ (by omega)
    subst hg
    walk_at "w"
    refine st_div (b := 30) (by omega) (nb (by omega) (by omega)) (by decide) (by decide) ?_
    walk_at "w"
    refine st_div (b := 30) (by omega) (nb (by omega) (by omega)) (by decide) (by decide) ?_
    walk_at "w"
    refine ⟨show 2 ≤ sizeLine by decide, fun u hu => ?_⟩
    refine q _ _ ⟨t / Nat.gcd t b, b / Nat.gcd t b, .tup (.inl (.inl upd_same)) (.cons (.int _) (.cons (.int _) .nil)), ?_, Nat.div_le_div_right t2, Nat.le_trans (Nat.div_le_self _ _) b2, ?_⟩ ((a5.same (same_new hu)).le (by omega))
    · exact Nat.div_pos g1 g0
    · exact Nat.gcd_div_gcd_div_gcd_of_pos_left (by omega)
theorem ok__law_part (T : Txt K mg) (c__law_next : Kp P w K mg base CX0 1 "_law_next" ["_law_state", "_law_many"] (sp__law_next K)) : Kp P w K mg base CX0 2 "_law_part" ["_law_state"] (sp__law_part K) := by
  obtain ⟨fd, F⟩ := T.c.def_ 27 (d := d__law_part) rfl
  refine ⟨⟨_, fd, T.g__law_part, F.kp, F.bindsN fun _ _ _ _ _ _ us hl => match us, hl with | [_], _ => rfl, F.ok sc__law_part Sp1.len (fun cdv A outer s H vs Q E hr h => ?_)⟩⟩
  obtain ⟨v0, rfl, h⟩ := h
  refine ⟨t__law_part K, PSs.nox (?_), pure__law_part T h⟩
  exact (pss_cons (ps_set (i := 1) sc__law_part.nd rfl (by first | exact Or.inl rfl | exact Or.inr rfl) (pe_ixA hr (pe_lst (pa_cons (pe_op op_addA pe_int (pe_cK c__law_next (hr.mono (by decide)) rfl (pa_cons (pv 0) (pa_cons pe_int pa_nil)))) (pa_cons pe_int (pa_cons (pe_op op_addA pe_int (pe_cK c__law_next (hr.mono (by decide)) rfl (pa_cons (pv 0) (pa_cons pe_int pa_nil)))) pa_nil)))) (pe_cK c__law_next (hr.mono (by decide)) rfl (pa_cons (pv 0) (pa_cons pe_int pa_nil))) (fun _ _ => rfl)))
      (pss_cons (ps_set (i := 2) sc__law_part.nd rfl (by first | exact Or.inl rfl | exact Or.inr rfl) (pe_op op_addA pe_int (pe_cK c__law_next (hr.mono (by decide)) rfl (pa_cons (pv 0) (pa_cons (pv 1) pa_nil)))))
      (pss_cons (ps_par (i := 3) (j := 4) (by rfl) sc__law_part.nd rfl rfl (by decide) rfl rfl (pa_cons (pv 2) (pa_cons (pv 1) pa_nil)) (by rfl))
      (pss_cons (ps_while PassesOwn.never (pt_cmpR op_gtA (pv 4) pe_int (nomark _)) (pss_one (ps_par (i := 3) (j := 4) (by rfl) sc__law_part.nd rfl rfl (by decide) rfl rfl (pa_cons (pv 4) (pa_cons (pe_op op_modA (pv 3) (pv 4)) pa_nil)) (by rfl))))
      (pss_one (ps_ret (pe_tup (pa_cons (pe_op op_fdivA (pv 2) (pv 3)) (pa_cons (pe_op op_fdivA (pv 1) (pv 3)) pa_nil)))))))))
end
end K04
set_option Elab.async false
set_option linter.all false
set_option maxRecDepth 100000
set_option maxHeartbeats 4000000
namespace K04
open PySem PySem.Spec PyProof.Rows L2 My
section
variable {P : Program} {w : World} {K : PySem.W.Frag} {mg : Str → Option Value} {base : Heap}
/-! ### _law_custom -/
def custV (K : PySem.W.Frag) : V → Hp → Prop := fun v H => ∃ st : CSt, Dp K H v st.data ∧ st.Ok ∧ st.os ≠ []
def sp__law_custom (K : PySem.W.Frag) : Sp := Sp1 (pr_draws K 90000000 50 (custV K))
def t__law_custom_0 (K : PySem.W.Frag) : TS :=
  (tSeq (tAsg (tIxA K (tLst (tCons (tTup (tCons (tC (.int 0)) (tCons (tC (.int 1)) tNil))) (tCons (tCall (sp__law_part K) [] E0 (tCons (tVar 0) tNil)) tNil))) (tCall (sp__law_next K) [] E0 (tCons (tVar 0) (tCons (tC (.int 2)) tNil)))) (gName 6))
  (tRet (tTup (tCons (tVar 5) (tCons (tOp (rEqA K) (tCall (sp__law_next K) [] E0 (tCons (tVar 0) (tCons (tC (.int 2)) tNil))) (tC (.int 1))) (tCons (tVar 6) (tCons (tIxA K (tLst (tCons (tC (.int 0)) (tCons (tC (.int 1)) (tCons (tC (.int 99999)) (tCons (tC (.int 365)) tNil))))) (tCall (sp__law_next K) [] E0 (tCons (tVar 0) (tCons (tC (.int 4)) tNil)))) tNil)))))))
def t__law_custom_1 (K : PySem.W.Frag) : TS :=
  (tSeq (tAsg (tCB (rTupleOf K) (tCons (tLc (iA K (tVar 4)) (gName 8) tYes (tOp (rAddA K) (tVar 8) (tTup (tCons (tIxA K (tLst (tCons (tTup (tCons (tC (.int 0)) (tCons (tC (.int 1)) tNil))) (tCons (tCall (sp__law_part K) [] E0 (tCons (tVar 0) tNil)) tNil))) (tCall (sp__law_next K) [] E0 (tCons (tVar 0) (tCons (tC (.int 2)) tNil)))) tNil))) [8]) tNil)) (gName 5))
  (t__law_custom_0 K))
def t__law_custom (K : PySem.W.Frag) : TS :=
  (tSeq (tAsg (tOp (rAddA K) (tLc (iRng1 (tCons (tC (.int 4)) tNil)) (gName 7) tYes (tTup (tCons (tC (.str "line")) (tCons (tVar 7) tNil))) [7]) (tLc (iRng2 (tCons (tC (.int 1)) (tCons (tC (.int 7)) tNil))) (gName 7) tYes (tTup (tCons (tC (.str "degree")) (tCons (tVar 7) tNil))) [7])) (gName 1))
  (tSeq (tAsg (tTup (tCons (tCall (sp__law_next K) [] E0 (tCons (tVar 0) (tCons (tC (.int 10)) tNil))) (tCons (tIxA K (tLst (tCons (tC (.int 1)) (tCons (tC (.int 3)) (tCons (tC (.int 7)) (tCons (tC (.int 9)) tNil))))) (tCall (sp__law_next K) [] E0 (tCons (tVar 0) (tCons (tC (.int 4)) tNil)))) tNil))) (gTup K 2 (gCons (gName 2) (gCons (gName 3) gNil))))
  (tSeq (tAsg (tLc (iRng1 (tCons (tOp (rAddA K) (tC (.int 1)) (tCall (sp__law_next K) [] E0 (tCons (tVar 0) (tCons (tC (.int 6)) tNil)))) tNil)) (gName 7) tYes (tIxA K (tVar 1) (tOp rModA (tOp (rAddA K) (tVar 2) (tOp rMulA (tVar 3) (tVar 7))) (tC (.int 10)))) [7]) (gName 4))
  (t__law_custom_1 K))))
def keyAt (i : Nat) : Bool × Nat := if i < 4 then (true, i) else (false, i - 3)
theorem keyAt_inj {i j : Nat} (h : keyAt i = keyAt j) : i = j := by
  unfold keyAt at h
  split at h <;> split at h <;> first | (simp at h; omega) | (simp at h)
theorem keyAt_ok {i : Nat} (h : i < 10) : if (keyAt i).1 then (keyAt i).2 ≤ 3 else 1 ≤ (keyAt i).2 ∧ (keyAt i).2 ≤ 6 := by
  unfold keyAt
  by_cases h4 : i < 4
  · rw [if_pos h4, if_pos rfl]; show i ≤ 3; omega
  · rw [if_neg h4, if_neg Bool.false_ne_true]; show 1 ≤ i - 3 ∧ i - 3 ≤ 6; omega
def all10 : List PyData := (List.range 4).map (fun i => keyD true i) ++ (List.range 6).map (fun i => keyD false (1 + i))
theorem all10_at : ∀ j, j < 10 → all10[j]? = some (keyD (keyAt j).1 (keyAt j).2)
  | 0, _ => rfl
  | 1, _ => rfl
  | 2, _ => rfl
  | 3, _ => rfl
  | 4, _ => rfl
  | 5, _ => rfl
  | 6, _ => rfl
  | 7, _ => rfl
  | 8, _ => rfl
  | 9, _ => rfl
  | n + 10, h => absurd h (by omega)
theorem dps_of {α : Type} {H : Hp} {d : α → PyData} : ∀ {l : List α} {ys : List V}, Paired (fun a y => Dp K H y (d a)) l ys → DpAll K H ys (l.map d)
  | _, _, .nil => .nil
  | _, _, .cons h t => .cons h (dps_of t)
theorem step_inj {a s j k : Nat} (hs : s = 1 ∨ s = 3 ∨ s = 7 ∨ s = 9) (hj : j < 6) (hk : k < 6) (h : (a + s * j) % 10 = (a + s * k) % 10) : j = k := by
  rcases hs with rfl | rfl | rfl | rfl <;> omega
def someKeys (a s n : Nat) : List (Bool × Nat) := (List.range n).map fun k => keyAt ((a + s * k) % 10)
theorem someKeys_nd {a s n : Nat} (hs : s = 1 ∨ s = 3 ∨ s = 7 ∨ s = 9) (hn : n ≤ 6) : (someKeys a s n).Nodup := by
  unfold someKeys
  rw [List.nodup_iff_pairwise_ne, List.pairwise_map]
  refine List.Pairwise.imp_of_mem (R := fun i j => i ≠ j) (fun {i j} hi hj ne e => ?_) (List.nodup_iff_pairwise_ne.mp List.nodup_range)
  rw [List.mem_range] at hi hj
  exact ne (step_inj hs (by omega) (by omega) (keyAt_inj e))
/-- [(0, 1), a drawn part][next] -/
theorem frac_draw (T : Txt K mg) {σ : L2.St} {st : Addr} {ns : List Int} {m : Int} {H : Hp} {Q : VK} (hσ : σ[0]? = some (some (.ref st))) (hn : ns.length ≤ 63) (hm : m ≤ 90000100) (ls : LS K H st ns m) (q : ∀ v t b H', FracOk t b → Dp K H' v (fracD t b) → Adv K st ns (m + 5) H H' → Q v H') :
    tIxA K (tLst (tCons (tTup (tCons (tC (.int 0)) (tCons (tC (.int 1)) tNil))) (tCons (tCall (sp__law_part K) [] E0 (tCons (tVar 0) tNil)) tNil))) (tCall (sp__law_next K) [] E0 (tCons (tVar 0) (tCons (tC (.int 2)) tNil))) σ H Q := by
  walk_at "w"
  refine ⟨show 2 ≤ sizeLine by decide, fun p1 hp1 => ?_⟩
  have a1 := (ls.adv (Same.refl H)).same (same_new (o := .tup [V.int 0, V.int 1]) hp1)
  have d1 : Dp K (upd H p1 (.tup [V.int 0, V.int 1])) (.ref p1) (fracD 0 1) := .tup (.inl (.inl upd_same)) (.cons (.int _) (.cons (.int _) .nil))
  generalize upd H p1 (.tup [V.int 0, V.int 1]) = H1 at *
  walk_at "w"
  refine w_var hσ ?_
  walk_at "w"
  refine use_draws (c := 4) a1.ls hn (by omega) fun v2 H2 ⟨t, b, d2, ft⟩ a2 => ?_
  have d1 := a2.dp a1.ls d1
  have a2 := a1.trans a2
  walk_at "w"
  refine ⟨show 2 ≤ sizeLine by decide, fun p3 hp3 => ?_⟩
  have s3 := same_new (o := .lst [V.ref p1, v2]) hp3
  have a3 := a2.same s3
  have d1 := d1.same s3
  have d2 := d2.same s3
  have h3 : upd H2 p3 (.lst [V.ref p1, v2]) p3 = some (.lst [V.ref p1, v2]) := upd_same
  generalize upd H2 p3 (.lst [V.ref p1, v2]) = H3 at *
  walk_at "w"
  refine w_var hσ ?_
  walk_at "w"
  refine draw_ix a3.ls hn (by decide) (by omega) rfl h3 fun v H4 hv a4 => ?_
  have d1 := a4.dp a3.ls d1
  have d2 := a4.dp a3.ls d2
  have a4 := (a3.trans a4).le (show m + 4 + 1 ≤ m + 5 by omega)
  simp only [List.mem_cons, List.not_mem_nil, or_false] at hv
  rcases hv with rfl | rfl
  · exact q _ 0 1 _ (.inl ⟨rfl, rfl⟩) d1 a4
  · exact q _ t b _ (.inr ft) d2 a4
theorem ords_of {H : Hp} : ∀ {ks : List (Bool × Nat)} {ys : List V}, Paired (fun (k : Bool × Nat) y => ∃ t b, FracOk t b ∧ Dp K H y (Ord.data ⟨k.1, k.2, t, b⟩)) ks ys → ∃ os : List Ord, DpAll K H ys (os.map Ord.data) ∧ os.map (fun o => (o.line, o.k)) = ks ∧ ∀ o ∈ os, FracOk o.t o.b
  | _, _, .nil => ⟨[], .nil, rfl, fun _ h => by cases h⟩
  | _, _, .cons h t => by
    obtain ⟨t1, b1, f, d⟩ := h
    obtain ⟨os, ds, e, fs⟩ := ords_of t
    refine ⟨⟨_, _, t1, b1⟩ :: os, .cons d ds, by rw [List.map_cons, e], fun o ho => ?_⟩
    rcases List.mem_cons.mp ho with rfl | ho
    · exact f
    · exact fs o ho
theorem custom_end (T : Txt K mg) {st po : Addr} {ns : List Int} {m : Int} {ys : List V} {os : List Ord} {v1 v2 v3 v4 v6 v7 v8 : Option V} {H0 H : Hp} {Q : VK} (hn : ns.length ≤ 63) (hm : m ≤ 90000050) (a : Adv K st ns m H0 H) (hpo : H po = some (.tup ys)) (ds : DpAll K H ys (os.map Ord.data))
    (ok : ∀ o ∈ os, o.Ok) (nd : (os.map fun o => (o.line, o.k)).Nodup) (hl : os.length ≤ 6) (ne : os ≠ []) (q : ∀ v H', custV K v H' → Adv K st ns (m + 10) H0 H' → Q v H') :
    t__law_custom_0 K ⟨fun _ H' => Q .non H', Q, fun _ _ => False, fun _ _ => False⟩ [some (.ref st), v1, v2, v3, v4, some (.ref po), v6, v7, v8] H := by
  have d0 : Dp K H (.ref po) (.tuple (os.map Ord.data)) := .tup (.inl (.inl hpo)) ds
  unfold t__law_custom_0
  refine w_seq ?_
  refine w_set ?_
  refine frac_draw T rfl hn (by omega) a.ls fun v1 kt kb H1 fk dk a1 => ?_
  have d0 := a1.dp a.ls d0
  have a1 := a.trans a1
  walk_at "w"
  refine use_next a1.ls hn (by decide) (by omega) fun r2 H2 r20 r21 a2 => ?_
  have d0 := a2.dp a1.ls d0
  have dk := a2.dp a1.ls dk
  have a2 := a1.trans a2
  walk_at "w"
  refine ⟨show 4 ≤ sizeLine by decide, fun p3 hp3 => ?_⟩
  have s3 := same_new (o := .lst [V.int 0, V.int 1, V.int 99999, V.int 365]) hp3
  have a3 := a2.same s3
  have d0 := d0.same s3
  have dk := dk.same s3
  have h3 : upd H2 p3 (.lst [V.int 0, V.int 1, V.int 99999, V.int 365]) p3 = some (.lst [V.int 0, V.int 1, V.int 99999, V.int 365]) := upd_same
  generalize upd H2 p3 (.lst [V.int 0, V.int 1, V.int 99999, V.int 365]) = H3 at *
  walk_at "w"
  refine draw_ix a3.ls hn (by decide) (by omega) rfl h3 fun v H4 hv a4 => ?_
  have d0 := a4.dp a3.ls d0
  have dk := a4.dp a3.ls dk
  have a4 := a3.trans a4
  obtain ⟨bk, rfl, hb⟩ : ∃ bk : Nat, v = .int (bk : Nat) ∧ bk ≤ 99999 := by
    simp only [List.mem_cons, List.not_mem_nil, or_false] at hv
    rcases hv with rfl | rfl | rfl | rfl
    · exact ⟨0, rfl, by decide⟩
    · exact ⟨1, rfl, by decide⟩
    · exact ⟨99999, rfl, by decide⟩
    · exact ⟨365, rfl, by decide⟩
  walk_at "w"
  refine ⟨show 4 ≤ sizeLine by decide, fun p5 hp5 => ?_⟩
  have s5 := same_new (o := .tup [V.ref po, V.bl (decide (r2 = 1)), v1, V.int (bk : Nat)]) hp5
  exact q _ _ ⟨⟨os, decide (r2 = 1), kt, kb, bk, 0⟩, .tup (.inl (.inl upd_same)) (.cons (d0.same s5) (.cons (.bl _) (.cons (dk.same s5) (.cons (.int _) .nil)))), ⟨ok, nd, hl, fk, hb⟩, ne⟩ ((a4.same s5).le (by omega))
theorem custom_mid (T : Txt K mg) {st D : Addr} {ns : List Int} {m : Int} {ys : List V} {a s n : Nat} {v1 v2 v3 v5 v6 v7 v8 : Option V} {H0 H : Hp} {Q : VK} (hn : ns.length ≤ 63) (hm : m ≤ 90000010) (adv : Adv K st ns m H0 H) (hD : H D = some (.lst ys)) (ds : DpAll K H ys ((someKeys a s n).map fun k => keyD k.1 k.2))
    (hs : s = 1 ∨ s = 3 ∨ s = 7 ∨ s = 9) (h1 : 1 ≤ n) (h6 : n ≤ 6) (q : ∀ v H', custV K v H' → Adv K st ns (m + 47) H0 H' → Q v H') :
    t__law_custom_1 K ⟨fun _ H' => Q .non H', Q, fun _ _ => False, fun _ _ => False⟩ [some (.ref st), v1, v2, v3, some (.ref D), v5, v6, v7, v8] H := by
  have hkl : (someKeys a s n).length = n := by unfold someKeys; rw [List.length_map, List.length_range]
  have hyl : ys.length = n := by rw [ds.len, List.length_map, hkl]
  unfold t__law_custom_1
  walk_at "w"
  refine .inl ⟨D, rfl, ⟨_, SqL.of hD⟩, fun D2 hD2 => ?_⟩
  refine lcpA (walk_list (xs := ys)) (c := 6) hD2 adv.ls (someKeys a s n) (by rw [hyl, hkl]) (by omega) (fun i H' a => SqL.of (a.sb _ _ (adv.ls.ne_lst hD) hD)) (fun (k : Bool × Nat) y H => ∃ t b, FracOk t b ∧ Dp K H y (Ord.data ⟨k.1, k.2, t, b⟩)) ?_ ?_ ?_ ?_
  · rintro k y H5 H6 zs hD5 hk ⟨t, b, f, d⟩
    exact ⟨t, b, f, dp_listed (noL_ord _) hD5 hk d⟩
  · rintro k y H5 H6 m5 m6 l5 a5 ⟨t, b, f, d⟩
    exact ⟨t, b, f, a5.dp l5 d⟩
  · rintro i k x H5 H6 zs hi a5 hD5 ⟨rfl, hx⟩ k1 k2 hk1
    have i6 : i < 6 := by
      rcases Nat.lt_or_ge i (someKeys a s n).length with h | h
      · omega
      · rw [List.getElem?_eq_none h] at hi; cases hi
    obtain ⟨v, hv, dv⟩ := ds.at (i := i) (d := keyD k.1 k.2) (by rw [List.getElem?_map, hi]; rfl)
    rw [hx] at hv
    cases hv
    have dv := a5.dp adv.ls dv
    refine w_gn ?_
    refine ⟨rfl, ?_⟩
    walk_at "w"
    refine frac_draw T rfl hn (by omega) a5.ls fun v6 t b H6 f6 d6 a6 => ?_
    have dv := a6.dp a5.ls dv
    walk_at "w"
    refine ⟨show 1 ≤ sizeLine by decide, fun p7 hp7 => ?_⟩
    have s7 := same_new (o := .tup [v6]) hp7
    have dv := dv.same s7
    have d6 := d6.same s7
    have a7 := a6.same s7
    have h7 : upd H6 p7 (.tup [v6]) p7 = some (.tup [v6]) := upd_same
    generalize upd H6 p7 (.tup [v6]) = H7 at *
    obtain ⟨pa, xs, rfl, hpa, es⟩ := dv.tup_inv
    have es' := es
    obtain ⟨u0, _, rfl, e0, es1⟩ := es.cons_inv
    obtain ⟨u1, _, rfl, e1, es2⟩ := es1.cons_inv
    rw [es2.nil_inv, e0.str_inv, e1.int_inv] at hpa
    refine st_addT hpa (.inl (.inl h7)) (by simp) (by simp) (by simp) fun p8 hp8 => ?_
    have s8 := same_new (o := .tup ([V.str (sortS k.1), V.int (k.2 : Nat)] ++ [v6])) hp8
    exact hk1 _ _ ((a7.same s8).le (by omega)) ⟨t, b, f6, .tup (.inl (.inl upd_same)) (.cons (.str _) (.cons (.int _) (.cons (d6.same s8) .nil)))⟩
  intro ys2 H2 a2 h2 pr2
  obtain ⟨os, dos, eks, fos⟩ := ords_of pr2
  have a2 := adv.trans a2
  rw [hkl] at a2
  walk_at "w"
  refine ⟨D2, ys2, rfl, .inl ⟨SqL.of h2, fun u hu => ?_⟩⟩
  have s3 := same_new (o := .tup ys2) hu
  have hol : os.length = n := by
    have := congrArg List.length eks
    rw [List.length_map, hkl] at this
    exact this
  walk_at "w"
  refine custom_end T hn (by omega) (a2.same s3) upd_same (dos.same s3) (fun o ho => ⟨?_, fos o ho⟩) (by rw [eks]; exact someKeys_nd hs h6) (by omega) (fun e => by rw [e] at hol; simp at hol; omega) fun v H' c a9 => q v H' c (a9.le (by omega))
  have hm : (o.line, o.k) ∈ someKeys a s n := by rw [← eks]; exact List.mem_map.mpr ⟨o, ho, rfl⟩
  obtain ⟨j, hj, e⟩ := List.mem_map.mp hm
  have := keyAt_ok (i := (a + s * j) % 10) (Nat.mod_lt _ (by decide))
  rw [e] at this
  exact this
theorem pure__law_custom (T : Txt K mg) {x : V} {H : Hp} {Q : VK} {E : XK} (h : pr_draws K 90000000 50 (custV K) x H Q E) : t__law_custom K { nx := fun _ H' => Q .non H', rt := Q } [some x, none, none, none, none, none, none, none, none] H := by
  obtain ⟨st, ns, m, rfl, hn, ls, hm, q⟩ := h
  unfold t__law_custom
  walk_at "w"
  refine ⟨_, rfl, by decide, by decide, fun D hD => ?_⟩
  refine lcp (walk_range (lo := 0) (n := (4 : Int).toNat)) hD (List.range 4) rfl (by decide) (fun _ _ => trivial) (fun _ => true) (fun i y H => Dp K H y (keyD true i)) (fun i y H H' zs hD' hk d => dp_listed (d := keyD true i) rfl hD' hk d) ?_ ?_
  · rintro i j x H6 H7 hi s6 ⟨rfl, rfl⟩ k1 k2 hk1 hk2
    have ej : i = j := by
      have h4 : i < 4 := by
        have := (List.getElem?_eq_some_iff.mp hi).1
        rwa [List.length_range] at this
      rw [List.getElem?_range h4] at hi
      cases hi; rfl
    subst ej
    walk_at "w"
    refine ⟨rfl, ?_⟩
    walk_at "w"
    refine ⟨show 2 ≤ sizeLine by decide, fun u hu => ?_⟩
    dsimp only
    rw [show (0 : Int) + (i : Nat) = ((i : Nat) : Int) by omega]
    exact hk1 rfl _ _ (same_new hu) (.tup (.inl (.inl upd_same)) (.cons (.str _) (.cons (.int _) .nil)))
  intro ys1 H1 s1 h1 pr1
  rw [filter_yes] at pr1
  have d1 := dps_of pr1
  clear pr1
  walk_at "w"
  refine ⟨_, _, rfl, ⟨by decide, by decide, by decide, by decide⟩, fun D2 hD2 => ?_⟩
  refine lcp (walk_range (lo := 1) (n := ((7 : Int) - 1).toNat)) hD2 (List.range 6) rfl (by decide) (fun _ _ => trivial) (fun _ => true) (fun i y H => Dp K H y (keyD false (1 + i))) (fun i y H H' zs hD' hk d => dp_listed (d := keyD false (1 + i)) rfl hD' hk d) ?_ ?_
  · rintro i j x H6 H7 hi s6 ⟨rfl, rfl⟩ k1 k2 hk1 hk2
    have ej : i = j := by
      have h4 : i < 6 := by
        have := (List.getElem?_eq_some_iff.mp hi).1
        rwa [List.length_range] at this
      rw [List.getElem?_range h4] at hi
      cases hi; rfl
    subst ej
    walk_at "w"
    refine ⟨rfl, ?_⟩
    walk_at "w"
    refine ⟨show 2 ≤ sizeLine by decide, fun u hu => ?_⟩
    dsimp only
    rw [show (1 : Int) + (i : Nat) = ((1 + i : Nat) : Int) by omega]
    exact hk1 rfl _ _ (same_new hu) (.tup (.inl (.inl upd_same)) (.cons (.str _) (.cons (.int _) .nil)))
  intro ys2 H2 s2 h2 pr2
  rw [filter_yes] at pr2
  have d2 := dps_of pr2
  clear pr2
  have dall : DpAll K H2 (ys1 ++ ys2) all10 := (d1.same s2).app d2
  have hyl : (ys1 ++ ys2).length = 10 := by rw [dall.len]; rfl
  refine st_add_list (s2 _ _ h1) h2 (by rw [List.length_append] at hyl; omega) fun u hu => ?_
  have s3 := same_new (o := .lst (ys1 ++ ys2)) hu
  have dall := dall.same s3
  have h3 : upd H2 u (.lst (ys1 ++ ys2)) u = some (.lst (ys1 ++ ys2)) := upd_same
  have s123 := (s1.trans s2).trans s3
  generalize upd H2 u (.lst (ys1 ++ ys2)) = H3 at *
  have a3 := ls.adv s123
  walk_at "w"
  refine use_next a3.ls hn (by decide) (by omega) fun r4 H4 r40 r41 a4 => ?_
  have n4 := a3.ls.ne_lst h3
  have h4 := a4.sb _ _ n4 h3
  have dall := a4.sb.dps a3.ls.notSeq dall
  have a4 := a3.trans a4
  walk_at "w"
  refine ⟨show 4 ≤ sizeLine by decide, fun p5 hp5 => ?_⟩
  have s5 := same_new (o := .lst [V.int 1, V.int 3, V.int 7, V.int 9]) hp5
  have h5 := s5 _ _ h4
  have dall := dall.same s5
  have a5 := a4.same s5
  have hp5' : upd H4 p5 (.lst [V.int 1, V.int 3, V.int 7, V.int 9]) p5 = some (.lst [V.int 1, V.int 3, V.int 7, V.int 9]) := upd_same
  generalize upd H4 p5 (.lst [V.int 1, V.int 3, V.int 7, V.int 9]) = H5 at *
  walk_at "w"
  refine draw_ix a5.ls hn (by decide) (by omega) rfl hp5' fun v6 H6 hv6 a6 => ?_
  have h6 := a6.sb _ _ (a5.ls.ne_lst h5) h5
  have dall := a6.sb.dps a5.ls.notSeq dall
  have a6 := a5.trans a6
  obtain ⟨s, rfl, hs⟩ : ∃ s : Nat, v6 = .int (s : Nat) ∧ (s = 1 ∨ s = 3 ∨ s = 7 ∨ s = 9) := by
    simp only [List.mem_cons, List.not_mem_nil, or_false] at hv6
    rcases hv6 with rfl | rfl | rfl | rfl
    · exact ⟨1, rfl, .inl rfl⟩
    · exact ⟨3, rfl, .inr (.inl rfl)⟩
    · exact ⟨7, rfl, .inr (.inr (.inl rfl))⟩
    · exact ⟨9, rfl, .inr (.inr (.inr rfl))⟩
  obtain ⟨a, ha⟩ : ∃ a : Nat, r4 = ((a : Nat) : Int) := ⟨r4.toNat, by rw [Int.toNat_of_nonneg r40]⟩
  subst ha
  walk_at "w"
  refine ⟨show 2 ≤ sizeLine by decide, fun p7 hp7 => ?_⟩
  have s7 := same_new (o := .tup [V.int (a : Nat), V.int (s : Nat)]) hp7
  refine w_gtup2 (.inl (.inl upd_same)) ?_
  have h7 := s7 _ _ h6
  have dall := dall.same s7
  have a7 := a6.same s7
  generalize upd H6 p7 (.tup [V.int (a : Nat), V.int (s : Nat)]) = H7 at *
  walk_at "w"
  refine use_next a7.ls hn (by decide) (by omega) fun r8 H8 r80 r81 a8 => ?_
  have h8 := a8.sb _ _ (a7.ls.ne_lst h7) h7
  have dall := a8.sb.dps a7.ls.notSeq dall
  have a8 := a7.trans a8
  obtain ⟨n, hn8⟩ : ∃ n : Nat, 1 + r8 = ((n : Nat) : Int) := ⟨(1 + r8).toNat, by rw [Int.toNat_of_nonneg (by omega)]⟩
  walk_at "w"
  rw [hn8]
  refine ⟨_, rfl, by omega, by omega, fun D9 hD9 => ?_⟩
  refine lcp (walk_range (lo := 0) (n := ((n : Nat) : Int).toNat)) hD9 (List.range n) (by rw [List.length_range]; rfl) (by rw [List.length_range]; omega) (fun _ _ => trivial) (fun _ => true) (fun k y H => Dp K H y (keyD (keyAt ((a + s * k) % 10)).1 (keyAt ((a + s * k) % 10)).2)) (fun k y H H' zs hD' hk d => dp_listed (d := keyD (keyAt ((a + s * k) % 10)).1 (keyAt ((a + s * k) % 10)).2) rfl hD' hk d) ?_ ?_
  · rintro i j x HA HB hi sA ⟨rfl, rfl⟩ k1 k2 hk1 hk2
    have hin : i < n := by
      have := (List.getElem?_eq_some_iff.mp hi).1
      rwa [List.length_range] at this
    have ej : i = j := by
      rw [List.getElem?_range hin] at hi
      cases hi; rfl
    subst ej
    walk_at "w"
    refine ⟨rfl, ?_⟩
    walk_at "w"
    dsimp only
    rw [show (0 : Int) + (i : Nat) = ((i : Nat) : Int) by omega]
    refine st_mul (a := 4) (b := 4) (nb (by omega) (by omega)) (nb (by omega) (by omega)) (by decide) (by decide) (by decide) ?_
    walk_at "w"
    refine st_mod (by decide) ?_
    rw [show (((a : Nat) : Int) + ((s : Nat) : Int) * ((i : Nat) : Int)) % 10 = (((a + s * i) % 10 : Nat) : Int) by
      rw [show ((s : Nat) : Int) * ((i : Nat) : Int) = ((s * i : Nat) : Int) from rfl]
      omega]
    have hj := Nat.mod_lt (a + s * i) (show 0 < 10 by decide)
    obtain ⟨v, hv, dv⟩ := dall.at (all10_at _ hj)
    refine st_ix_list (SqL.of (sA _ _ h8)) (atI_nat hv) ?_
    exact hk1 rfl _ _ (Same.refl _) (dv.same sA)
  intro ys9 H9 s9 h9 pr9
  rw [filter_yes] at pr9
  have d9 := dps_of pr9
  walk_at "w"
  refine custom_mid T (a := a) (s := s) (n := n) hn (by omega) (a8.same s9) h9 ?_ hs (by omega) (by omega) fun v H' c a9 => q v H' c (a9.le (by omega))
  unfold someKeys
  rw [List.map_map]
  exact d9
theorem ok__law_custom (T : Txt K mg) (c__law_next : Kp P w K mg base CX0 1 "_law_next" ["_law_state", "_law_many"] (sp__law_next K)) (c__law_part : Kp P w K mg base CX0 2 "_law_part" ["_law_state"] (sp__law_part K)) : Kp P w K mg base CX0 3 "_law_custom" ["_law_state"] (sp__law_custom K) := by
  obtain ⟨fd, F⟩ := T.c.def_ 28 (d := d__law_custom) rfl
  refine ⟨⟨_, fd, T.g__law_custom, F.kp, F.bindsN fun _ _ _ _ _ _ us hl => match us, hl with | [_], _ => rfl, F.ok sc__law_custom Sp1.len (fun cdv A outer s H vs Q E hr h => ?_)⟩⟩
  obtain ⟨v0, rfl, h⟩ := h
  refine ⟨t__law_custom K, PSs.nox (?_), pure__law_custom T h⟩
  exact (pss_cons (ps_set (i := 1) sc__law_custom.nd rfl (by first | exact Or.inl rfl | exact Or.inr rfl) (pe_op op_addA (pe_lc (own := [("_law_k", 7)]) (g := (gName 7)) rfl sc__law_custom.nd (pi_range1 (by rfl) T.n_range (pa_cons pe_int pa_nil)) (blkOk_by (own := [("_law_k", 7)]) (N := N__law_custom) (sc := defScope s__law_custom) (by decide +kernel)) (fun _ _ _ _ _ => (pg_name (i := 7) sc__law_custom.nd rfl (by first | exact Or.inl rfl | exact Or.inr rfl))) (fun _ _ _ _ _ => pts_nil) (fun _ _ _ _ _ => (pe_tup (pa_cons pe_str (pa_cons (pv 7) pa_nil))))) (pe_lc (own := [("_law_k", 7)]) (g := (gName 7)) rfl sc__law_custom.nd (pi_range2 (by rfl) T.n_range (pa_cons pe_int (pa_cons pe_int pa_nil))) (blkOk_by (own := [("_law_k", 7)]) (N := N__law_custom) (sc := defScope s__law_custom) (by decide +kernel)) (fun _ _ _ _ _ => (pg_name (i := 7) sc__law_custom.nd rfl (by first | exact Or.inl rfl | exact Or.inr rfl))) (fun _ _ _ _ _ => pts_nil) (fun _ _ _ _ _ => (pe_tup (pa_cons pe_str (pa_cons (pv 7) pa_nil)))))))
      (pss_cons (ps_asg (pe_tup (pa_cons (pe_cK c__law_next (hr.mono (by decide)) rfl (pa_cons (pv 0) (pa_cons pe_int pa_nil))) (pa_cons (pe_ixA hr (pe_lst (pa_cons pe_int (pa_cons pe_int (pa_cons pe_int (pa_cons pe_int pa_nil))))) (pe_cK c__law_next (hr.mono (by decide)) rfl (pa_cons (pv 0) (pa_cons pe_int pa_nil))) (fun _ _ => rfl)) pa_nil))) (pg_tup rfl (pgs_cons (pg_name (i := 2) sc__law_custom.nd rfl (by first | exact Or.inl rfl | exact Or.inr rfl)) (pgs_cons (pg_name (i := 3) sc__law_custom.nd rfl (by first | exact Or.inl rfl | exact Or.inr rfl)) pgs_nil))))
      (pss_cons (ps_setLc (i := 4) (own := [("_law_k", 7)]) (g := (gName 7)) rfl sc__law_custom.nd rfl rfl (sw_true rfl rfl rfl (by decide +kernel)) (pi_range1 (by rfl) T.n_range (pa_cons (pe_op op_addA pe_int (pe_cK c__law_next (hr.mono (by decide)) rfl (pa_cons (pv 0) (pa_cons pe_int pa_nil)))) pa_nil)) (blkOk_by (own := [("_law_k", 7)]) (N := N__law_custom) (sc := defScope s__law_custom) (by decide +kernel)) (fun _ _ _ _ _ => (pg_name (i := 7) sc__law_custom.nd rfl (by first | exact Or.inl rfl | exact Or.inr rfl))) (fun _ _ _ _ _ => pts_nil) (fun _ _ _ _ _ => (pe_ixA hr (pv 1) (pe_op op_modA (pe_op op_addA (pv 2) (pe_op op_mulA (pv 3) (pv 7))) pe_int) (fun _ _ => rfl))))
      (pss_cons (ps_set (i := 5) sc__law_custom.nd rfl (by first | exact Or.inl rfl | exact Or.inr rfl) (pe_callTy call_tuple_of (by rfl) T.n_tuple (by decide +kernel) (pa_cons (pe_lc (own := [("_law_pair", 8)]) (g := (gName 8)) rfl sc__law_custom.nd (pi_A (pv 4)) (blkOk_by (own := [("_law_pair", 8)]) (N := N__law_custom) (sc := defScope s__law_custom) (by decide +kernel)) (fun _ _ _ _ _ => (pg_name (i := 8) sc__law_custom.nd rfl (by first | exact Or.inl rfl | exact Or.inr rfl))) (fun _ _ _ _ _ => pts_nil) (fun _ _ _ _ _ => (pe_op op_addA (pv 8) (pe_tup (pa_cons (pe_ixA hr (pe_lst (pa_cons (pe_tup (pa_cons pe_int (pa_cons pe_int pa_nil))) (pa_cons (pe_cK c__law_part (hr.mono (by decide)) rfl (pa_cons (pv 0) pa_nil)) pa_nil))) (pe_cK c__law_next (hr.mono (by decide)) rfl (pa_cons (pv 0) (pa_cons pe_int pa_nil))) (fun _ _ => rfl)) pa_nil))))) pa_nil)))
      (pss_cons (ps_set (i := 6) sc__law_custom.nd rfl (by first | exact Or.inl rfl | exact Or.inr rfl) (pe_ixA hr (pe_lst (pa_cons (pe_tup (pa_cons pe_int (pa_cons pe_int pa_nil))) (pa_cons (pe_cK c__law_part (hr.mono (by decide)) rfl (pa_cons (pv 0) pa_nil)) pa_nil))) (pe_cK c__law_next (hr.mono (by decide)) rfl (pa_cons (pv 0) (pa_cons pe_int pa_nil))) (fun _ _ => rfl)))
      (pss_one (ps_ret (pe_tup (pa_cons (pv 5) (pa_cons (pe_cmpR (op_eqA hr) (pe_cK c__law_next (hr.mono (by decide)) rfl (pa_cons (pv 0) (pa_cons pe_int pa_nil))) pe_int (nomark _)) (pa_cons (pv 6) (pa_cons (pe_ixA hr (pe_lst (pa_cons pe_int (pa_cons pe_int (pa_cons pe_int (pa_cons pe_int pa_nil))))) (pe_cK c__law_next (hr.mono (by decide)) rfl (pa_cons (pv 0) (pa_cons pe_int pa_nil))) (fun _ _ => rfl)) pa_nil))))))))))))
end
end K04
set_option Elab.async false
set_option linter.all false
set_option maxRecDepth 100000
set_option maxHeartbeats 4000000
namespace K04
open PySem PySem.Spec PyProof.Rows L2 My
section
variable {P : Program} {w : World} {K : PySem.W.Frag} {mg : Str → Option Value} {base : Heap}
/-! ### _law_words_of -/
/-- rows of words, entry by entry -/
def PR (H : Hp) (qs : List Addr) (es : List Ent) : Prop := Paired (fun q e => H q = some (.lst ((Ent.words 1 e).map V.str))) qs es
theorem PR.mono {H H' : Hp} {qs : List Addr} {es : List Ent} (h : PR H qs es) (s : ∀ q ws, H q = some (.lst ((ws : List Str).map V.str)) → ws ≠ [] → H' q = some (.lst (ws.map V.str))) : PR H' qs es := L2.Paired.mapP h fun q e x => s q _ x (ent_ne 1 e)
theorem PR.same {H H' : Hp} {qs : List Addr} {es : List Ent} (h : PR H qs es) (s : Same H H') : PR H' qs es := h.mono fun q ws e _ => s _ _ e
/-- a list of rows changes: the rows stay -/
theorem PR.mut {H : Hp} {u : Addr} {o : HO} {rs : List Addr} {qs : List Addr} {es : List Ent} (h : PR H qs es) (hu : H u = some (.lst (rs.map V.ref))) : PR (upd H u o) qs es := h.mono fun q ws e ne => by
  rw [upd_ne (fun z => ?_)]
  · exact e
  · rw [z, hu] at e
    injection e with e
    injection e with e
    cases ws with
    | nil => exact ne rfl
    | cons a r =>
      cases rs with
      | nil => cases e
      | cons b t => injection e with e _; cases e
theorem PR.app {H : Hp} {qs rs : List Addr} {es fs : List Ent} (h : PR H qs es) (g : PR H rs fs) : PR H (qs ++ rs) (es ++ fs) := by
  unfold PR at *
  induction h with
  | nil => exact g
  | cons a t ih => exact .cons a ih
def pr_words_of (K : PySem.W.Frag) : V → Hp → VK → XK → Prop := fun x H Q _ => ∃ (st : CSt), Dp K H x st.data ∧ st.Ok ∧ ∀ p qs H', Same H H' → H' p = some (.lst (qs.map V.ref)) → PR H' qs st.ents → Q (.ref p) H'
def sp__law_words_of (K : PySem.W.Frag) : Sp := Sp1 (pr_words_of K)
def t__law_words_of_0 (K : PySem.W.Frag) : TS :=
  (tRet (tOp (rAddA K) (tVar 1) (tOp rMulA (tLst (tCons (tLst (tCons (tC (.str "back")) (tCons (tCB rStrB (tCons (tIxA K (tVar 0) (tC (.int 3))) tNil)) tNil))) tNil)) (tCB rIntA (tCons (tOp rGtA (tIxA K (tVar 0) (tC (.int 3))) (tC (.int 0))) tNil)))))
def t__law_words_of_1 (K : PySem.W.Frag) : TS :=
  (tSeq (tIfS (tTest (tOp rGtA (tIxA K (tIxA K (tVar 0) (tC (.int 2))) (tC (.int 0))) (tC (.int 0)))) (tDrop (tBM K "list" rAppend (tVar 1) (tCons (tLst (tCons (tC (.str "kept")) (tCons (tCB rStrB (tCons (tIxA K (tIxA K (tVar 0) (tC (.int 2))) (tC (.int 0))) tNil)) (tCons (tC (.str "/")) (tCons (tCB rStrB (tCons (tIxA K (tIxA K (tVar 0) (tC (.int 2))) (tC (.int 1))) tNil)) tNil))))) tNil))) tNext)
  (t__law_words_of_0 K))
def t__law_words_of_2 (K : PySem.W.Frag) : TS :=
  (tSeq (tAsg (tOp (rAddA K) (tVar 1) (tOp rMulA (tLst (tCons (tLst (tCons (tC (.str "halves")) tNil)) tNil)) (tCB rIntA (tCons (tIxA K (tVar 0) (tC (.int 1))) tNil)))) (gName 1))
  (t__law_words_of_1 K))
def t__law_words_of (K : PySem.W.Frag) : TS :=
  (tSeq (tAsg (tLst tNil) (gName 1))
  (tSeq (tFor (iA K (tIxA K (tVar 0) (tC (.int 0)))) (gTup K 3 (gCons (gName 2) (gCons (gName 3) (gCons (gName 4) gNil)))) (tDrop (tBM K "list" rAppend (tVar 1) (tCons (tOp (rAddA K) (tLst (tCons (tVar 2) (tCons (tCB rStrB (tCons (tVar 3) tNil)) tNil))) (tOp rMulA (tLst (tCons (tC (.str "beside")) (tCons (tCB rStrB (tCons (tIxA K (tVar 4) (tC (.int 0))) tNil)) (tCons (tC (.str "/")) (tCons (tCB rStrB (tCons (tIxA K (tVar 4) (tC (.int 1))) tNil)) tNil))))) (tCB rIntA (tCons (tOp rGtA (tIxA K (tVar 4) (tC (.int 0))) (tC (.int 0))) tNil)))) tNil))))
  (t__law_words_of_2 K)))
theorem noL_cust (st : CSt) : noL st.data = true := by
  show (noLs (st.os.map Ord.data) && (true && (true && (true && true)))) = true
  rw [noLs_ords]; rfl
/-- the parts of a custom -/
theorem cust_parts {H : Hp} {x : V} {st : CSt} (d : Dp K H x st.data) : ∃ p po f ys, x = .ref p ∧ SqT K H p [.ref po, .bl st.halves, .ref f, .int (st.back : Nat)] ∧ SqT K H po ys ∧ DpAll K H ys (st.os.map Ord.data) ∧ SqT K H f [.int (st.kt : Nat), .int (st.kb : Nat)] := by
  obtain ⟨p, xs, rfl, hp, ds⟩ := d.tup_inv
  obtain ⟨v0, _, rfl, d0, ds1⟩ := ds.cons_inv
  obtain ⟨v1, _, rfl, d1, ds2⟩ := ds1.cons_inv
  obtain ⟨v2, _, rfl, d2, ds3⟩ := ds2.cons_inv
  obtain ⟨v3, _, rfl, d3, ds4⟩ := ds3.cons_inv
  obtain ⟨po, ys, rfl, ho, es⟩ := d0.tup_inv
  obtain ⟨f, zs, rfl, hf, es2⟩ := d2.tup_inv
  obtain ⟨u0, _, rfl, e0, es3⟩ := es2.cons_inv
  obtain ⟨u1, _, rfl, e1, es4⟩ := es3.cons_inv
  rw [es4.nil_inv, e0.int_inv, e1.int_inv] at hf
  have e1 : v1 = .bl st.halves := by cases d1; rfl
  subst e1
  rw [ds4.nil_inv, d3.int_inv] at hp
  exact ⟨p, po, f, ys, rfl, hp, ho, es, hf⟩
theorem rep_one (b : Bool) (v : V) : (List.replicate ((if b = true then (1 : Int) else 0)).toNat [v]).flatten = if b then [v] else [] := by cases b <;> rfl
theorem words_back (T : Txt K mg) {x : V} {u : Addr} {st : CSt} {qs : List Addr} {pre : List Ent} {v2 v3 v4 : Option V} {H0 H : Hp} {Q : VK} (d : Dp K H x st.data) (ok : st.Ok) (s : Same H0 H) (hu : H u = some (.lst (qs.map V.ref))) (pr : PR H qs pre) (hl : pre.length ≤ 8)
    (he : st.ents = pre ++ (if 0 < st.back then [Ent.back st.back] else [])) (q : ∀ p qs H', Same H0 H' → H' p = some (.lst (qs.map V.ref)) → PR H' qs st.ents → Q (.ref p) H') :
    t__law_words_of_0 K ⟨fun _ H' => Q .non H', Q, fun _ _ => False, fun _ _ => False⟩ [some x, some (.ref u), v2, v3, v4] H := by
  obtain ⟨p, po, f, ys, rfl, hp, _, _, _⟩ := cust_parts d
  have hb := ok.back
  have hql : qs.length ≤ 8 := by rw [pr.length]; exact hl
  unfold t__law_words_of_0
  walk_at "w"
  refine st_ix_tup hp rfl ?_
  walk_at "w"
  refine st_num (by omega) ?_
  walk_at "w"
  refine ⟨show 2 ≤ sizeLine by decide, fun q1 hq1 => ?_⟩
  have s1 := same_new (o := .lst [V.str "back", V.str (numS st.back)]) hq1
  walk_at "w"
  refine ⟨show 1 ≤ sizeLine by decide, fun q2 hq2 => ?_⟩
  have s2 := same_new (o := .lst [V.ref q1]) hq2
  have s12 := s1.trans s2
  have h1 := s2 _ _ (show upd H q1 (.lst [V.str "back", V.str (numS st.back)]) q1 = some (.lst [V.str "back", V.str (numS st.back)]) from upd_same)
  have h2 : upd (upd H q1 (.lst [V.str "back", V.str (numS st.back)])) q2 (.lst [V.ref q1]) q2 = some (.lst [V.ref q1]) := upd_same
  generalize upd (upd H q1 (.lst [V.str "back", V.str (numS st.back)])) q2 (.lst [V.ref q1]) = H2 at *
  walk_at "w"
  refine st_ix_tup (same_sqT s12 hp) rfl ?_
  walk_at "w"
  refine st_int_bl ?_
  refine st_rep h2 (by split <;> decide) (by split <;> decide) (by split <;> simp) fun q3 hq3 => ?_
  rw [rep_one]
  generalize hus : (if decide ((0 : Int) < (st.back : Nat)) = true then [V.ref q1] else []) = us
  have lus : us.length ≤ 1 := by rw [← hus]; split <;> simp
  have s3 := same_new (o := .lst us) hq3
  refine st_add_list (s3 _ _ (s12 _ _ hu)) upd_same (by rw [List.length_map]; omega) fun q4 hq4 => ?_
  have s4 := s12.trans (s3.trans (same_new (o := .lst (qs.map V.ref ++ us)) hq4))
  by_cases h : 0 < st.back
  · rw [decide_eq_true (show (0 : Int) < (st.back : Nat) by omega), if_pos rfl] at hus
    rw [if_pos h] at he
    refine q q4 (qs ++ [q1]) _ (s.trans s4) (by rw [upd_same, ← hus, List.map_append]; rfl) ?_
    rw [he]
    exact (pr.same s4).app (.cons ((s3.trans (same_new hq4)) _ _ h1) .nil)
  · rw [decide_eq_false (show ¬ (0 : Int) < (st.back : Nat) by omega), if_neg Bool.false_ne_true] at hus
    rw [if_neg h, List.append_nil] at he
    refine q q4 qs _ (s.trans s4) (by rw [upd_same, ← hus, List.append_nil]) ?_
    rw [he]
    exact pr.same s4
theorem words_kept (T : Txt K mg) {x : V} {u : Addr} {st : CSt} {qs : List Addr} {pre : List Ent} {v2 v3 v4 : Option V} {H0 H : Hp} {Q : VK} (d : Dp K H x st.data) (ok : st.Ok) (s : Same H0 H) (hun : H0 u = none) (hu : H u = some (.lst (qs.map V.ref))) (pr : PR H qs pre) (hl : pre.length ≤ 7)
    (he : st.ents = pre ++ ((if 0 < st.kt then [Ent.kept st.kt st.kb] else []) ++ (if 0 < st.back then [Ent.back st.back] else []))) (q : ∀ p qs H', Same H0 H' → H' p = some (.lst (qs.map V.ref)) → PR H' qs st.ents → Q (.ref p) H') :
    t__law_words_of_1 K ⟨fun _ H' => Q .non H', Q, fun _ _ => False, fun _ _ => False⟩ [some x, some (.ref u), v2, v3, v4] H := by
  obtain ⟨p, po, f, ys, rfl, hp, _, _, hf⟩ := cust_parts d
  have hfr := frac_le ok.kept
  have hql : qs.length ≤ 8 := by rw [pr.length]; omega
  unfold t__law_words_of_1
  walk_at "w"
  refine st_ix_tup hp rfl ?_
  walk_at "w"
  refine st_ix_tup hf rfl ?_
  walk_at "w"
  by_cases h : 0 < st.kt
  · rw [decide_eq_true (show (0 : Int) < (st.kt : Nat) by omega)]
    rw [if_pos h] at he
    walk_at "w"
    refine ⟨.inl ⟨rfl, _, SqL.of hu⟩, ?_⟩
    walk_at "w"
    refine st_ix_tup hp rfl ?_
    walk_at "w"
    refine st_ix_tup hf rfl ?_
    refine st_num (by omega) ?_
    walk_at "w"
    refine st_ix_tup hp rfl ?_
    walk_at "w"
    refine st_ix_tup hf rfl ?_
    refine st_num (by omega) ?_
    walk_at "w"
    refine ⟨show 4 ≤ sizeLine by decide, fun q1 hq1 => ?_⟩
    have s1 := same_new (o := .lst [V.str "kept", V.str (numS st.kt), V.str "/", V.str (numS st.kb)]) hq1
    have h1 : upd H q1 (.lst [V.str "kept", V.str (numS st.kt), V.str "/", V.str (numS st.kb)]) q1 = some (.lst ((Ent.words 1 (.kept st.kt st.kb)).map V.str)) := by
      rw [upd_same]
      have e : Ent.words 1 (.kept st.kt st.kb) = [("kept" : Str), numS st.kt, "/", numS st.kb] := by
        show [("kept" : Str), numS (1 * st.kt), "/", numS (1 * st.kb)] = _
        rw [Nat.one_mul, Nat.one_mul]
      rw [e]; rfl
    have hu1 := s1 _ _ hu
    have d1 := d.same s1
    have pr1 := pr.same s1
    have hq1n : H0 q1 = none := s.free hq1
    generalize upd H q1 (.lst [V.str "kept", V.str (numS st.kt), V.str "/", V.str (numS st.kb)]) = H1 at *
    walk_at "w"
    refine ⟨u, _, _, rfl, rfl, hu1, small_lt _ (by rw [List.length_map]; omega), ?_⟩
    walk_at "w"
    have s2 : Same H0 (upd H1 u (.lst (qs.map V.ref ++ [V.ref q1]))) := Same.mut (s.trans s1) hun
    refine words_back T (pre := pre ++ [.kept st.kt st.kb]) (qs := qs ++ [q1]) (dp_listed (noL_cust st) hu1 (fun b o ne e => by rw [upd_ne ne]; exact e) d1) ok s2 (by rw [upd_same, List.map_append]; rfl) ((pr1.app (.cons h1 .nil)).mut hu1) (by rw [List.length_append]; show pre.length + 1 ≤ 8; omega) (by rw [he, List.append_assoc]) q
  · rw [decide_eq_false (show ¬ (0 : Int) < (st.kt : Nat) by omega)]
    rw [if_neg h, List.nil_append] at he
    walk_at "w"
    exact words_back T d ok s hu pr (by omega) he q
theorem words_halves (T : Txt K mg) {x : V} {u : Addr} {st : CSt} {qs : List Addr} {v2 v3 v4 : Option V} {H0 H : Hp} {Q : VK} (d : Dp K H x st.data) (ok : st.Ok) (s : Same H0 H) (hu : H u = some (.lst (qs.map V.ref))) (pr : PR H qs (st.os.map Ent.ord))
    (q : ∀ p qs H', Same H0 H' → H' p = some (.lst (qs.map V.ref)) → PR H' qs st.ents → Q (.ref p) H') :
    t__law_words_of_2 K ⟨fun _ H' => Q .non H', Q, fun _ _ => False, fun _ _ => False⟩ [some x, some (.ref u), v2, v3, v4] H := by
  obtain ⟨p, po, f, ys, rfl, hp, _, _, _⟩ := cust_parts d
  have hl6 := ok.len
  have hql : qs.length ≤ 6 := by rw [pr.length, List.length_map]; exact hl6
  unfold t__law_words_of_2
  walk_at "w"
  refine ⟨show 1 ≤ sizeLine by decide, fun q1 hq1 => ?_⟩
  have s1 := same_new (o := .lst [V.str "halves"]) hq1
  walk_at "w"
  refine ⟨show 1 ≤ sizeLine by decide, fun q2 hq2 => ?_⟩
  have s2 := same_new (o := .lst [V.ref q1]) hq2
  have s12 := s1.trans s2
  have h1 := s2 _ _ (show upd H q1 (.lst [V.str "halves"]) q1 = some (.lst [V.str "halves"]) from upd_same)
  have h2 : upd (upd H q1 (.lst [V.str "halves"])) q2 (.lst [V.ref q1]) q2 = some (.lst [V.ref q1]) := upd_same
  generalize upd (upd H q1 (.lst [V.str "halves"])) q2 (.lst [V.ref q1]) = H2 at *
  walk_at "w"
  refine st_ix_tup (same_sqT s12 hp) rfl ?_
  walk_at "w"
  refine st_int_bl ?_
  refine st_rep h2 (by split <;> decide) (by split <;> decide) (by split <;> simp) fun q3 hq3 => ?_
  rw [rep_one]
  generalize hus : (if st.halves = true then [V.ref q1] else []) = us
  have lus : us.length ≤ 1 := by rw [← hus]; split <;> simp
  have s3 := same_new (o := .lst us) hq3
  refine st_add_list (s3 _ _ (s12 _ _ hu)) upd_same (by rw [List.length_map]; omega) fun q4 hq4 => ?_
  have s4 := s12.trans (s3.trans (same_new (o := .lst (qs.map V.ref ++ us)) hq4))
  walk_at "w"
  have hq4n : H0 q4 = none := by
    refine (s.trans (s12.trans s3)).free hq4
  refine words_kept T (pre := st.os.map Ent.ord ++ (if st.halves then [Ent.halves] else [])) (qs := qs ++ (if st.halves then [q1] else [])) (d.same s4) ok (s.trans s4) hq4n ?_ ?_ ?_ ?_ q
  · rw [upd_same, ← hus, List.map_append]
    congr 2
    cases st.halves <;> rfl
  · refine (pr.same s4).app ?_
    cases st.halves with
    | true => exact .cons ((s3.trans (same_new hq4)) _ _ h1) .nil
    | false => exact .nil
  · rw [List.length_append, List.length_map]
    have : (if st.halves then [Ent.halves] else []).length ≤ 1 := by split <;> simp
    omega
  · unfold CSt.ents
    rw [List.append_assoc]
theorem pure__law_words_of (T : Txt K mg) {x : V} {H : Hp} {Q : VK} {E : XK} (h : pr_words_of K x H Q E) : t__law_words_of K { nx := fun _ H' => Q .non H', rt := Q } [some x, none, none, none, none] H := by
  obtain ⟨st, d, ok, q⟩ := h
  obtain ⟨p, po, f, ys, rfl, hp, ho, es, _⟩ := cust_parts d
  have hl6 := ok.len
  have hyl : ys.length = st.os.length := by rw [es.len, List.length_map]
  unfold t__law_words_of
  walk_at "w"
  refine ⟨Nat.zero_le _, fun u hu => ?_⟩
  have s1 := same_new (o := .lst []) hu
  have hu1 : upd H u (.lst []) u = some (.lst []) := upd_same
  have hp1 := same_sqT s1 hp
  have ho1 := same_sqT s1 ho
  generalize upd H u (.lst []) = H1 at *
  walk_at "w"
  refine st_ix_tup hp1 rfl ?_
  refine .inr (.inl ⟨po, rfl, ⟨_, ho1⟩, ?_⟩)
  have keepT : ∀ {H' : Hp} {a : Addr} {xs : List V}, SB u H1 H' → SqT K H1 a xs → SqT K H' a xs := fun sb h => sqT_keep (Ls := [u]) (fun b o nb e => sb b o (fun z => nb (by rw [z]; simp)) e) (fun b hb => by
    rw [List.mem_singleton.mp hb, hu1]
    exact ⟨fun _ z => (by cases z), fun _ _ z => (by cases z)⟩) h
  refine for_it (walk_tup (xs := ys)) (fun i σ H' => ∃ (v2 v3 v4 : Option V) (qs : List Addr), σ = [some (.ref p), some (.ref u), v2, v3, v4] ∧ SB u H1 H' ∧ H' u = some (.lst (qs.map V.ref)) ∧ PR H' qs ((st.os.take i).map Ent.ord))
    ⟨none, none, none, [], rfl, SB.refl _ _, hu1, .nil⟩ (fun i σ H' _ ⟨_, _, _, _, _, sb, _⟩ => keepT sb ho1) ?_ ?_
  · rintro i x σ H2 H3 hi ⟨v2, v3, v4, qs, rfl, sb, h2, pr⟩ ⟨rfl, hx⟩
    have hi2 : i < st.os.length := by rw [← hyl]; exact hi
    have hoi : st.os[i]? = some st.os[i] := List.getElem?_eq_getElem hi2
    obtain ⟨v, hv, dv⟩ := es.at (i := i) (d := (st.os[i]).data) (by rw [List.getElem?_map, hoi]; rfl)
    rw [hx] at hv
    cases hv
    have dv : Dp K H3 x (st.os[i]).data := dp_monoT (fun a xs h => keepT sb h) (noL_ord _) (dv.same s1)
    have oko := ok.os _ (List.getElem_mem hi2)
    have etk : (st.os.take (i + 1)).map Ent.ord = (st.os.take i).map Ent.ord ++ [.ord st.os[i]] := by rw [take_succ_some hoi, List.map_append]; rfl
    generalize st.os[i] = o at *
    have hk := ord_k oko
    have hfr := frac_le oko.2
    obtain ⟨pa, xs, rfl, hpa, es3⟩ := dv.tup_inv
    obtain ⟨u0, _, rfl, e0, es4⟩ := es3.cons_inv
    obtain ⟨u1, _, rfl, e1, es5⟩ := es4.cons_inv
    obtain ⟨u2, _, rfl, e2, es6⟩ := es5.cons_inv
    obtain ⟨fo, zs, rfl, hfo, es7⟩ := e2.tup_inv
    obtain ⟨w0, _, rfl, f0, es8⟩ := es7.cons_inv
    obtain ⟨w1, _, rfl, f1, es9⟩ := es8.cons_inv
    rw [es9.nil_inv, f0.int_inv, f1.int_inv] at hfo
    rw [es6.nil_inv, e0.str_inv, e1.int_inv] at hpa
    have hql : qs.length ≤ 6 := by
      rw [pr.length, List.length_map, List.length_take]; omega
    refine w_gtup3 hpa ?_
    walk_at "w"
    refine ⟨.inl ⟨rfl, _, SqL.of h2⟩, ?_⟩
    walk_at "w"
    refine st_num (by omega) ?_
    walk_at "w"
    refine ⟨show 2 ≤ sizeLine by decide, fun q1 hq1 => ?_⟩
    have s4 := same_new (o := .lst [V.str (sortS o.line), V.str (numS o.k)]) hq1
    have hfo4 := same_sqT s4 hfo
    have h4 : upd H3 q1 (.lst [V.str (sortS o.line), V.str (numS o.k)]) q1 = some (.lst [V.str (sortS o.line), V.str (numS o.k)]) := upd_same
    generalize upd H3 q1 (.lst [V.str (sortS o.line), V.str (numS o.k)]) = H4 at *
    walk_at "w"
    refine st_ix_tup hfo4 rfl ?_
    walk_at "w"
    refine st_num (by omega) ?_
    walk_at "w"
    refine st_ix_tup hfo4 rfl ?_
    walk_at "w"
    refine st_num (by omega) ?_
    walk_at "w"
    refine ⟨show 4 ≤ sizeLine by decide, fun q2 hq2 => ?_⟩
    have s5 := same_new (o := .lst [V.str "beside", V.str (numS o.t), V.str "/", V.str (numS o.b)]) hq2
    have hfo5 := same_sqT s5 hfo4
    have h5 := s5 _ _ h4
    have h5' : upd H4 q2 (.lst [V.str "beside", V.str (numS o.t), V.str "/", V.str (numS o.b)]) q2 = some (.lst [V.str "beside", V.str (numS o.t), V.str "/", V.str (numS o.b)]) := upd_same
    have s35 := s4.trans s5
    generalize upd H4 q2 (.lst [V.str "beside", V.str (numS o.t), V.str "/", V.str (numS o.b)]) = H5 at *
    walk_at "w"
    refine st_ix_tup hfo5 rfl ?_
    walk_at "w"
    refine st_int_bl ?_
    refine st_rep h5' (by split <;> decide) (by split <;> decide) (by split <;> simp) fun q3 hq3 => ?_
    have erep : (List.replicate ((if decide ((0 : Int) < (o.t : Nat)) = true then (1 : Int) else 0)).toNat [V.str "beside", V.str (numS o.t), V.str "/", V.str (numS o.b)]).flatten = (if 0 < o.t then ("beside" : Str) :: fracW 1 o.t o.b else []).map V.str := by
      by_cases h : 0 < o.t
      · rw [decide_eq_true (show (0 : Int) < (o.t : Nat) by omega), if_pos rfl, if_pos h]
        unfold fracW
        rw [Nat.one_mul, Nat.one_mul]; rfl
      · rw [decide_eq_false (show ¬ (0 : Int) < (o.t : Nat) by omega), if_neg Bool.false_ne_true, if_neg h]; rfl
    rw [erep]
    have lw : ((if 0 < o.t then ("beside" : Str) :: fracW 1 o.t o.b else []).map V.str).length ≤ 4 := by
      rw [List.length_map]; split <;> simp [fracW]
    have ewd : (Ent.words 1 (.ord o)).map V.str = [V.str (sortS o.line), V.str (numS o.k)] ++ (if 0 < o.t then ("beside" : Str) :: fracW 1 o.t o.b else []).map V.str := by
      show (([sortS o.line, numS o.k] ++ (if 0 < o.t then ("beside" : Str) :: fracW 1 o.t o.b else [])).map V.str) = _
      rw [List.map_append]; rfl
    generalize (if 0 < o.t then ("beside" : Str) :: fracW 1 o.t o.b else []).map V.str = us at *
    have s6 := same_new (o := .lst us) hq3
    refine st_add_list (s6 _ _ h5) upd_same (show 2 + us.length ≤ _ by omega) fun q4 hq4 => ?_
    have s7 := s6.trans (same_new (o := .lst ([V.str (sortS o.line), V.str (numS o.k)] ++ us)) hq4)
    have h7 : upd (upd H5 q3 (.lst us)) q4 (.lst ([V.str (sortS o.line), V.str (numS o.k)] ++ us)) q4 = some (.lst ((Ent.words 1 (.ord o)).map V.str)) := by rw [upd_same, ewd]
    have s37 := s35.trans s7
    generalize upd (upd H5 q3 (.lst us)) q4 (.lst ([V.str (sortS o.line), V.str (numS o.k)] ++ us)) = H7 at *
    have hu7 := s37 _ _ h2
    walk_at "w"
    refine ⟨u, _, _, rfl, rfl, hu7, small_lt _ (by rw [List.length_map]; omega), ?_⟩
    walk_at "w"
    refine ⟨_, _, _, qs ++ [q4], rfl, fun b o' n e => by rw [upd_ne n]; exact s37 _ _ (sb b o' n e), by rw [upd_same, List.map_append]; rfl, ?_⟩
    rw [etk]
    exact ((pr.same s37).app (.cons h7 .nil)).mut hu7
  · rintro σ H2 ⟨v2, v3, v4, qs, rfl, sb, h2, pr⟩
    rw [hyl, List.take_length] at pr
    walk_at "w"
    exact words_halves T (dp_monoT (fun a xs h => keepT sb h) (noL_cust st) (d.same s1)) ok (fun b o e => sb b o (fun z => by rw [z, hu] at e; cases e) (s1 b o e)) h2 pr q
theorem ok__law_words_of (T : Txt K mg)  : Kp P w K mg base CX0 1 "_law_words_of" ["_law_custom_here"] (sp__law_words_of K) := by
  obtain ⟨fd, F⟩ := T.c.def_ 29 (d := d__law_words_of) rfl
  refine ⟨⟨_, fd, T.g__law_words_of, F.kp, F.bindsN fun _ _ _ _ _ _ us hl => match us, hl with | [_], _ => rfl, F.ok sc__law_words_of Sp1.len (fun cdv A outer s H vs Q E hr h => ?_)⟩⟩
  obtain ⟨v0, rfl, h⟩ := h
  refine ⟨t__law_words_of K, PSs.nox (?_), pure__law_words_of T h⟩
  exact (pss_cons (ps_set (i := 1) sc__law_words_of.nd rfl (by first | exact Or.inl rfl | exact Or.inr rfl) (pe_lst pa_nil))
      (pss_cons (ps_for PassesOwn.never rfl (pi_A (pe_ixA hr (pv 0) pe_int (fun _ _ => rfl))) (pg_tup rfl (pgs_cons (pg_name (i := 2) sc__law_words_of.nd rfl (by first | exact Or.inl rfl | exact Or.inr rfl)) (pgs_cons (pg_name (i := 3) sc__law_words_of.nd rfl (by first | exact Or.inl rfl | exact Or.inr rfl)) (pgs_cons (pg_name (i := 4) sc__law_words_of.nd rfl (by first | exact Or.inl rfl | exact Or.inr rfl)) pgs_nil)))) (pss_one (ps_expr (pe_bm PySem.F.plainAttrs_list PySem.F.slot_list_append PySem.F.type_list_append mt_append (pv 1) (pa_cons (pe_op op_addA (pe_lst (pa_cons (pv 2) (pa_cons (pe_callTy call_strB (by rfl) T.n_str (by decide +kernel) (pa_cons (pv 3) pa_nil)) pa_nil))) (pe_op op_mulA (pe_lst (pa_cons pe_str (pa_cons (pe_callTy call_strB (by rfl) T.n_str (by decide +kernel) (pa_cons (pe_ixA hr (pv 4) pe_int (fun _ _ => rfl)) pa_nil)) (pa_cons pe_str (pa_cons (pe_callTy call_strB (by rfl) T.n_str (by decide +kernel) (pa_cons (pe_ixA hr (pv 4) pe_int (fun _ _ => rfl)) pa_nil)) pa_nil))))) (pe_callTy call_intA (by rfl) T.n_int (by decide +kernel) (pa_cons (pe_cmpR op_gtA (pe_ixA hr (pv 4) pe_int (fun _ _ => rfl)) pe_int (nomark _)) pa_nil)))) pa_nil)))))
      (pss_cons (ps_set (i := 1) sc__law_words_of.nd rfl (by first | exact Or.inl rfl | exact Or.inr rfl) (pe_op op_addA (pv 1) (pe_op op_mulA (pe_lst (pa_cons (pe_lst (pa_cons pe_str pa_nil)) pa_nil)) (pe_callTy call_intA (by rfl) T.n_int (by decide +kernel) (pa_cons (pe_ixA hr (pv 0) pe_int (fun _ _ => rfl)) pa_nil)))))
      (pss_cons (ps_if (pt_cmpR op_gtA (pe_ixA hr (pe_ixA hr (pv 0) pe_int (fun _ _ => rfl)) pe_int (fun _ _ => rfl)) pe_int (nomark _)) (pss_one (ps_expr (pe_bm PySem.F.plainAttrs_list PySem.F.slot_list_append PySem.F.type_list_append mt_append (pv 1) (pa_cons (pe_lst (pa_cons pe_str (pa_cons (pe_callTy call_strB (by rfl) T.n_str (by decide +kernel) (pa_cons (pe_ixA hr (pe_ixA hr (pv 0) pe_int (fun _ _ => rfl)) pe_int (fun _ _ => rfl)) pa_nil)) (pa_cons pe_str (pa_cons (pe_callTy call_strB (by rfl) T.n_str (by decide +kernel) (pa_cons (pe_ixA hr (pe_ixA hr (pv 0) pe_int (fun _ _ => rfl)) pe_int (fun _ _ => rfl)) pa_nil)) pa_nil))))) pa_nil)))) pss_nil)
      (pss_one (ps_ret (pe_op op_addA (pv 1) (pe_op op_mulA (pe_lst (pa_cons (pe_lst (pa_cons pe_str (pa_cons (pe_callTy call_strB (by rfl) T.n_str (by decide +kernel) (pa_cons (pe_ixA hr (pv 0) pe_int (fun _ _ => rfl)) pa_nil)) pa_nil))) pa_nil)) (pe_callTy call_intA (by rfl) T.n_int (by decide +kernel) (pa_cons (pe_cmpR op_gtA (pe_ixA hr (pv 0) pe_int (fun _ _ => rfl)) pe_int (nomark _)) pa_nil))))))))))
end
end K04
set_option Elab.async false
set_option linter.all false
set_option maxRecDepth 100000
set_option maxHeartbeats 4000000
namespace K04
open PySem PySem.Spec PyProof.Rows L2 My
section
variable {P : Program} {w : World} {K : PySem.W.Frag} {mg : Str → Option Value} {base : Heap}
def full (rows : List (List (List Nat))) : List (List (List Nat)) := rows.filter fun ws => !ws.isEmpty
/-! ### _law_loose -/
def pr_loose (K : PySem.W.Frag) : V → V → Hp → VK → XK → Prop := fun x y H Q _ => ∃ (st p : Addr) (ns : List Int) (m : Int) (qs : List Addr) (Rs : List (List Str)), x = .ref st ∧ y = .ref p ∧ ns.length ≤ 63 ∧ LS K H st ns m ∧ m ≤ 10000000 ∧ SqL K H p (qs.map V.ref) ∧
  Paired (fun q ws => SqL K H q ((ws : List Str).map V.str)) qs Rs ∧ Rs.length ≤ 40 ∧ (∀ ws ∈ Rs, ws ≠ [] ∧ ws.length ≤ 10 ∧ ∀ y ∈ ws, WdOk y.cps.toList) ∧
  ∀ t rows H', scan 0 [] [] t = .ok rows → full rows = Rs.map tls → t.length ≤ 8000 → Adv K st ns (m + 1000) H H' → Q (txt t) H'
def sp__law_loose (K : PySem.W.Frag) : Sp := Sp2 (pr_loose K)
def t__law_loose_0 (K : PySem.W.Frag) : TS :=
  (tAsg (tOp (rAddA K) (tOp (rAddA K) (tVar 2) (tOp rMulA (tIxA K (tLst (tCons (tC (.str " ")) (tCons (tC (.str "  ")) (tCons (tC (.str " ")) tNil)))) (tCall (sp__law_next K) [] E0 (tCons (tVar 0) (tCons (tC (.int 3)) tNil)))) (tCB rIntA (tCons (tOrV (tNotV (tVar 5)) (tOp (rEqA K) (tCall (sp__law_next K) [] E0 (tCons (tVar 0) (tCons (tC (.int 2)) tNil))) (tC (.int 1)))) tNil)))) (tVar 4)) (gName 2))
def t__law_loose (K : PySem.W.Frag) : TS :=
  (tSeq (tAsg (tIxA K (tLst (tCons (tC (.str "")) (tCons (tC (.str "\n")) (tCons (tC (.str " \n\n")) tNil)))) (tCall (sp__law_next K) [] E0 (tCons (tVar 0) (tCons (tC (.int 3)) tNil)))) (gName 2))
  (tSeq (tFor (iA K (tVar 1)) (gName 3) (tSeq (tFor (iA K (tVar 3)) (gName 4) (tSeq (tAsg (tOrV (tOp (rEqA K) (tVar 4) (tC (.str "/"))) (tInA K (tSl (rSlA K) (tVar 2) (tPart (tUn rNegI (tC (.int 1)))) tNoPart) (tTup (tCons (tC (.str "/")) (tCons (tC (.str "\n")) (tCons (tC (.str "")) tNil)))))) (gName 5))
  (t__law_loose_0 K)))
  (tAsg (tOp (rAddA K) (tVar 2) (tIxA K (tLst (tCons (tC (.str "\n")) (tCons (tC (.str " \n")) (tCons (tC (.str "\n \n")) tNil)))) (tCall (sp__law_next K) [] E0 (tCons (tVar 0) (tCons (tC (.int 3)) tNil))))) (gName 2))))
  (tRet (tVar 2))))
theorem st_mulB {z : Str} {b : Bool} {H : Hp} {Q : VK} (q : Q (.str (if b then z else S [])) H) : rMulA (.str z) (.int (if b = true then 1 else 0)) H Q := by
  refine .inr (.inl ⟨z, (if b = true then 1 else 0), rfl, rfl, ?_, ?_⟩)
  · cases b
    · exact ⟨by decide, fun h => absurd (show (0 : Int) < 1 by decide) h, fun h => absurd (show (0 : Int) < 1 by decide) h⟩
    · exact ⟨by decide, fun _ h => (by cases h), fun _ h => (by cases h)⟩
  · cases b
    · exact q
    · exact q
theorem scan_len {t : List Nat} {rows : List (List (List Nat))} {cur : List (List Nat)} {op : Bool} (g : Gone t rows cur op) : scan 0 [] [] t = .ok (rows ++ [cur]) := g.all
theorem full_snoc (rows : List (List (List Nat))) {c : List (List Nat)} (h : c ≠ []) : full (rows ++ [c]) = full rows ++ [c] := by
  unfold full
  rw [List.filter_append]
  cases c with
  | nil => exact absurd rfl h
  | cons a r => rfl
theorem full_nil (rows : List (List (List Nat))) : full (rows ++ [[]]) = full rows := by
  unfold full
  rw [List.filter_append]
  show _ ++ [] = _
  rw [List.append_nil]
theorem e_nl : ("\n" : Str) = S [10] := by decide +kernel
theorem e_start3 : (" \n\n" : Str) = S [32, 10, 10] := by decide +kernel
theorem e_bnl : (" \n" : Str) = S [32, 10] := by decide +kernel
theorem e_nbn : ("\n \n" : Str) = S [10, 32, 10] := by decide +kernel
theorem e_b1 : (" " : Str) = S (List.replicate 1 32) := by decide +kernel
theorem e_b2 : ("  " : Str) = S (List.replicate 2 32) := by decide +kernel
theorem e_sl : ("/" : Str) = S [47] := by decide +kernel
theorem loose_tail (T : Txt K mg) {st p qa : Addr} {ns : List Int} {m : Int} {t : List Nat} {wd : Str} {pl : Bool} {rows : List (List (List Nat))} {cur : List (List Nat)} {op : Bool} {H H0 : Hp} {D : Ends} (hn : ns.length ≤ 63) (hm : m ≤ 100000000) (a6 : Adv K st ns m H0 H)
    (g : Gone t rows cur op) (lo : LO t op) (hl : t.length ≤ 100000) (wl : WdOk wd.cps.toList) (hpl : pl = true → wd.cps.toList = [47] ∨ last1 t ∈ [[47], [10], []])
    (q : ∀ t' op' H', Gone t' rows (cur ++ [wd.cps.toList]) op' → LO t' op' → t'.length ≤ t.length + 14 → Adv K st ns (m + 2) H0 H' → D.nx [some (.ref st), some (.ref p), some (txt t'), some (.ref qa), some (.str wd), some (.bl pl)] H') :
    t__law_loose_0 K D [some (.ref st), some (.ref p), some (txt t), some (.ref qa), some (.str wd), some (.bl pl)] H := by
  have hlen := wl.ne.2
  obtain ⟨nx, rt, bk, ct⟩ := D
  dsimp only at q
  unfold t__law_loose_0
  walk_at "w"
  refine ⟨show 3 ≤ sizeLine by decide, fun p7 hp7 => ?_⟩
  have a7 := a6.same (same_new (o := .lst [V.str " ", V.str "  ", V.str " "]) hp7)
  walk_at "w"
  refine draw_ix a7.ls hn (by decide) (by omega) rfl upd_same fun v H8 hv a8 => ?_
  obtain ⟨k, rfl, k1, k2⟩ : ∃ k, v = .str (S (List.replicate k 32)) ∧ 1 ≤ k ∧ k ≤ 2 := by
    simp only [List.mem_cons, List.not_mem_nil, or_false] at hv
    rcases hv with rfl | rfl | rfl
    · exact ⟨1, by rw [e_b1], by decide, by decide⟩
    · exact ⟨2, by rw [e_b2], by decide, by decide⟩
    · exact ⟨1, by rw [e_b1], by decide, by decide⟩
  have a8 := a7.trans a8
  have fin : ∀ (b : Bool) (H9 : Hp), (b = false → pl = true) → Adv K st ns (m + 2) H0 H9 → rIntA [.bl b] H9 fun y H10 => rMulA (.str (S (List.replicate k 32))) y H10 fun y H11 => rAddA K (txt t) y H11 fun x H12 => tVar 4 [some (.ref st), some (.ref p), some (txt t), some (.ref qa), some (.str wd), some (.bl pl)] H12 fun y H13 => rAddA K x y H13 fun x H14 => gName 2 x [some (.ref st), some (.ref p), some (txt t), some (.ref qa), some (.str wd), some (.bl pl)] H14 nx := by
    intro b H9 hb a9
    refine st_int_bl ?_
    refine st_mulB ?_
    obtain ⟨z, ez, hz, op', g', lo'⟩ : ∃ z, (if b = true then S (List.replicate k 32) else S []) = S z ∧ z.length ≤ 2 ∧ ∃ op', Gone (t ++ z ++ wd.cps.toList) rows (cur ++ [wd.cps.toList]) op' ∧ LO (t ++ z ++ wd.cps.toList) op' := by
      cases b
      · exact ⟨[], rfl, by decide, by
          have := loose_step g lo wl 0 (fun _ => hpl (hb rfl))
          simpa using this⟩
      · exact ⟨List.replicate k 32, rfl, by rw [List.length_replicate]; exact k2, loose_step g lo wl k (fun e => by omega)⟩
    rw [ez]
    refine st_add_str (by rw [S_len, S_len]; omega) ?_
    rw [S_app]
    walk_at "w"
    refine st_add_str (by rw [S_len, List.length_append, ← tl_len]; omega) ?_
    rw [app_S]
    walk_at "w"
    exact q _ op' _ g' lo' (by rw [List.length_append, List.length_append]; omega) a9
  walk_at "w"
  cases pl with
  | false =>
    walk_at "w"
    exact fin true _ (fun h => by cases h) (a8.le (by omega))
  | true =>
    walk_at "w"
    refine use_next a8.ls hn (by decide) (by omega) fun r H9 r0 r1 a9 => ?_
    walk_at "w"
    exact fin _ _ (fun _ => rfl) ((a8.trans a9).le (by omega))
theorem pure__law_loose (T : Txt K mg) {x y : V} {H : Hp} {Q : VK} {E : XK} (h : pr_loose K x y H Q E) : t__law_loose K { nx := fun _ H' => Q .non H', rt := Q } [some x, some y, none, none, none, none] H := by
  obtain ⟨st, p, ns, m, qs, Rs, rfl, rfl, hn, ls, hm, hp, pr, hR, okR, q⟩ := h
  unfold t__law_loose
  walk_at "w"
  refine ⟨show 3 ≤ sizeLine by decide, fun p1 hp1 => ?_⟩
  have a1 := (ls.adv (Same.refl H)).same (same_new (o := .lst [V.str "", V.str "\n", V.str " \n\n"]) hp1)
  walk_at "w"
  refine draw_ix a1.ls hn (by decide) (by omega) rfl upd_same fun v H2 hv a2 => ?_
  obtain ⟨t0, rows0, rfl, g0, f0, l0⟩ : ∃ t0 rows0, v = txt t0 ∧ Gone t0 rows0 [] false ∧ full rows0 = [] ∧ t0.length ≤ 3 := by
    simp only [List.mem_cons, List.not_mem_nil, or_false] at hv
    rcases hv with rfl | rfl | rfl
    · exact ⟨[], [], by rw [S_nil], .nil, rfl, by decide⟩
    · exact ⟨[10], [[]], by rw [e_nl], Gone.nil.eol, rfl, by decide⟩
    · exact ⟨[32, 10, 10], [[], []], by rw [e_start3], Gone.nil.blank.eol.eol, rfl, by decide⟩
  have a2 := a1.trans a2
  walk_at "w"
  refine .inl ⟨p, rfl, ⟨_, a2.sb.seqL ls.notSeq hp⟩, ?_⟩
  refine for_it (walk_list (xs := qs.map V.ref)) (fun i σ H' => ∃ (v3 v4 v5 : Option V) (t : List Nat) (rows : List (List (List Nat))), σ = [some (.ref st), some (.ref p), some (txt t), v3, v4, v5] ∧ Adv K st ns (m + 1 + 21 * (i : Nat)) H H' ∧ Gone t rows [] false ∧ full rows = (Rs.take i).map tls ∧ t.length ≤ 3 + 143 * i)
    ⟨none, none, none, t0, rows0, rfl, a2.le (by omega), g0, by rw [f0, List.take_zero]; rfl, by omega⟩ (fun i σ H' _ ⟨_, _, _, _, _, _, a, _⟩ => a.sb.seqL ls.notSeq hp) ?_ ?_
  · rintro i x σ H3 H4 hi ⟨v3, v4, v5, t, rows, rfl, a3, g, hf, hl⟩ ⟨rfl, hx⟩
    rw [List.getElem?_map] at hx
    cases hqi : qs[i]? with
    | none => rw [hqi] at hx; cases hx
    | some qa =>
      rw [hqi] at hx
      cases hx
      obtain ⟨ws, hws, hqa⟩ := pget pr hqi
      obtain ⟨ne, hwl, hwd⟩ := okR ws (List.mem_of_getElem? hws)
      have hi40 : i < 40 := by
        rcases Nat.lt_or_ge i Rs.length with h | h
        · omega
        · rw [List.getElem?_eq_none h] at hws; cases hws
      have hqa3 := a3.sb.seqL ls.notSeq hqa
      walk_at "w"
      refine .inl ⟨qa, rfl, ⟨_, hqa3⟩, ?_⟩
      refine for_it (walk_list (xs := ws.map V.str)) (fun j σ H' => ∃ (v4 v5 : Option V) (t' : List Nat) (op : Bool), σ = [some (.ref st), some (.ref p), some (txt t'), some (.ref qa), v4, v5] ∧ Adv K st ns (m + 1 + 21 * (i : Nat) + 2 * (j : Nat)) H H' ∧ Gone t' rows ((tls ws).take j) op ∧ LO t' op ∧ t'.length ≤ t.length + 14 * j)
        ⟨v4, v5, t, false, rfl, a3.le (by omega), g, lo_false _, by omega⟩ (fun j σ H' _ ⟨_, _, _, _, _, a, _⟩ => a.sb.seqL ls.notSeq hqa) ?_ ?_
      · rintro j x σ H5 H6 hj ⟨v4, v5, t', op, rfl, a5, g5, lo5, hl5⟩ ⟨rfl, hx⟩
        rw [List.getElem?_map] at hx
        cases hwj : ws[j]? with
        | none => rw [hwj] at hx; cases hx
        | some wd =>
          rw [hwj] at hx
          cases hx
          have wdok := hwd wd (List.mem_of_getElem? hwj)
          have hj10 : j < 10 := by
            rcases Nat.lt_or_ge j ws.length with h | h
            · omega
            · rw [List.getElem?_eq_none h] at hwj; cases hwj
          have hlen := wdok.ne.2
          have etk : (tls ws).take (j + 1) = (tls ws).take j ++ [wd.cps.toList] := take_succ_some (by rw [tls, List.getElem?_map, hwj]; rfl)
          have tail : ∀ (pl : Bool) (H6 : Hp), Adv K st ns (m + 1 + 21 * (i : Nat) + 2 * (j : Nat)) H H6 → (pl = true → wd.cps.toList = [47] ∨ last1 t' ∈ [[47], [10], []]) → ∀ D : Ends, D.nx = (fun σ H' => ∃ (v4 v5 : Option V) (t' : List Nat) (op : Bool), σ = [some (.ref st), some (.ref p), some (txt t'), some (.ref qa), v4, v5] ∧ Adv K st ns (m + 1 + 21 * (i : Nat) + 2 * ((j + 1 : Nat) : Nat)) H H' ∧ Gone t' rows ((tls ws).take (j + 1)) op ∧ LO t' op ∧ t'.length ≤ t.length + 14 * (j + 1)) →
              t__law_loose_0 K D [some (.ref st), some (.ref p), some (txt t'), some (.ref qa), some (.str wd), some (.bl pl)] H6 := by
            intro pl H6 a6 hpl D hD
            refine loose_tail T hn (by omega) a6 g5 lo5 (by omega) wdok hpl fun t2 op2 H7 g7 lo7 l7 a7 => ?_
            rw [hD]
            exact ⟨_, _, t2, op2, rfl, a7.le (by omega), by rw [etk]; exact g7, lo7, by omega⟩
          walk_at "w"
          have e47 : decide (wd = "/") = decide (wd.cps.toList = [47]) := decide_eq_decide.mpr ⟨fun h => by rw [h, e_sl], fun h => by rw [← S_tl wd, h, e_sl]⟩
          rw [e47]
          by_cases hw47 : wd.cps.toList = [47]
          · rw [decide_eq_true hw47]
            walk_at "w"
            exact tail true _ a5 (fun _ => .inl hw47) _ rfl
          · rw [decide_eq_false hw47]
            walk_at "w"
            refine ⟨1, rfl, ?_⟩
            walk_at "w"
            refine st_slice_str (by rw [S_len]; omega) ?_
            rw [cutS_last]
            walk_at "w"
            refine ⟨show 3 ≤ sizeLine by decide, fun p9 hp9 => ?_⟩
            have a9 := a5.same (same_new (o := .tup [V.str "/", V.str "\n", V.str ""]) hp9)
            refine st_in_tup (.inl (.inl upd_same)) rfl rfl ?_
            rw [show inV (.str (S (last1 t'))) [V.str "/", V.str "\n", V.str ""] = decide (S (last1 t') ∈ [("/" : Str), "\n", ""]) from inV_strs _ ["/", "\n", ""]]
            walk_at "w"
            refine tail _ _ a9 (fun h => .inr ?_) _ rfl
            have h := of_decide_eq_true h
            rw [e_sl, e_nl, S_nil] at h
            simpa [S_inj] using h
      · rintro σ H5 ⟨v4, v5, t', op, rfl, a5, g5, lo5, hl5⟩
        rw [List.length_map] at a5 g5 hl5
        rw [show (tls ws).take ws.length = tls ws by rw [List.take_of_length_le (by simp [tls])]] at g5
        walk_at "w"
        refine ⟨show 3 ≤ sizeLine by decide, fun p9 hp9 => ?_⟩
        have a6 := a5.same (same_new (o := .lst [V.str "\n", V.str " \n", V.str "\n \n"]) hp9)
        walk_at "w"
        refine draw_ix a6.ls hn (by decide) (by omega) rfl upd_same fun v H8 hv a8 => ?_
        have a8 := a6.trans a8
        have nt : tls ws ≠ [] := fun e => ne (by rw [tls, List.map_eq_nil_iff] at e; exact e)
        obtain ⟨z, rows', rfl, gz, fz, lz⟩ : ∃ z rows', v = txt z ∧ Gone (t' ++ z) rows' [] false ∧ full rows' = full rows ++ [tls ws] ∧ z.length ≤ 3 := by
          simp only [List.mem_cons, List.not_mem_nil, or_false] at hv
          rcases hv with rfl | rfl | rfl
          · exact ⟨[10], _, by rw [e_nl], g5.eol, full_snoc _ nt, by decide⟩
          · exact ⟨[32, 10], _, by rw [e_bnl], by have := g5.blank.eol; simpa using this, full_snoc _ nt, by decide⟩
          · exact ⟨[10, 32, 10], rows ++ [tls ws] ++ [[]], by rw [e_nbn], by
              have e : t' ++ [10, 32, 10] = t' ++ [10] ++ [32] ++ [10] := by simp
              rw [e]
              exact g5.eol.blank.eol, by rw [full_nil, full_snoc _ nt], by decide⟩
        refine st_add_str (by rw [S_len, S_len]; omega) ?_
        rw [S_app]
        walk_at "w"
        refine ⟨some (.ref qa), v4, v5, _, rows', rfl, a8.le (by omega), gz, ?_, ?_⟩
        · rw [fz, hf, take_succ_some hws, List.map_append]; rfl
        · rw [List.length_append]; omega
  · rintro σ H' ⟨v3, v4, v5, t, rows, rfl, a3, g, hf, hl⟩
    walk_at "w"
    have e1 : (qs.map V.ref).length = Rs.length := by rw [List.length_map]; exact pr.length
    rw [e1] at hl hf a3
    rw [List.take_length] at hf
    exact q _ _ _ g.all (by rw [full_nil, hf]) (by omega) (a3.le (by omega))
theorem ok__law_loose (T : Txt K mg) (c__law_next : Kp P w K mg base CX0 1 "_law_next" ["_law_state", "_law_many"] (sp__law_next K)) : Kp P w K mg base CX0 2 "_law_loose" ["_law_state", "_law_rows"] (sp__law_loose K) := by
  obtain ⟨fd, F⟩ := T.c.def_ 30 (d := d__law_loose) rfl
  refine ⟨⟨_, fd, T.g__law_loose, F.kp, F.bindsN fun _ _ _ _ _ _ us hl => match us, hl with | [_, _], _ => rfl, F.ok sc__law_loose Sp2.len (fun cdv A outer s H vs Q E hr h => ?_)⟩⟩
  obtain ⟨v0, v1, rfl, h⟩ := h
  refine ⟨t__law_loose K, PSs.nox (?_), pure__law_loose T h⟩
  exact (pss_cons (ps_set (i := 2) sc__law_loose.nd rfl (by first | exact Or.inl rfl | exact Or.inr rfl) (pe_ixA hr (pe_lst (pa_cons pe_str (pa_cons pe_str (pa_cons pe_str pa_nil)))) (pe_cK c__law_next (hr.mono (by decide)) rfl (pa_cons (pv 0) (pa_cons pe_int pa_nil))) (fun _ _ => rfl)))
      (pss_cons (ps_for PassesOwn.never rfl (pi_A (pv 1)) (pg_name (i := 3) sc__law_loose.nd rfl (by first | exact Or.inl rfl | exact Or.inr rfl)) (pss_cons (ps_for PassesOwn.never rfl (pi_A (pv 3)) (pg_name (i := 4) sc__law_loose.nd rfl (by first | exact Or.inl rfl | exact Or.inr rfl)) (pss_cons (ps_set (i := 5) sc__law_loose.nd rfl (by first | exact Or.inl rfl | exact Or.inr rfl) (pe_or (pe_cmpR (op_eqA hr) (pv 4) pe_str (nomark _)) (pe_one (pe_inA hr (pe_slice sl_A (pv 2) (po_some (pe_un un_neg pe_int)) po_none) (pe_tup (pa_cons pe_str (pa_cons pe_str (pa_cons pe_str pa_nil)))) (by rfl)))))
      (pss_one (ps_set (i := 2) sc__law_loose.nd rfl (by first | exact Or.inl rfl | exact Or.inr rfl) (pe_op op_addA (pe_op op_addA (pv 2) (pe_op op_mulA (pe_ixA hr (pe_lst (pa_cons pe_str (pa_cons pe_str (pa_cons pe_str pa_nil)))) (pe_cK c__law_next (hr.mono (by decide)) rfl (pa_cons (pv 0) (pa_cons pe_int pa_nil))) (fun _ _ => rfl)) (pe_callTy call_intA (by rfl) T.n_int (by decide +kernel) (pa_cons (pe_or (pe_not (pv 5)) (pe_one (pe_cmpR (op_eqA hr) (pe_cK c__law_next (hr.mono (by decide)) rfl (pa_cons (pv 0) (pa_cons pe_int pa_nil))) pe_int (nomark _)))) pa_nil)))) (pv 4))))))
      (pss_one (ps_set (i := 2) sc__law_loose.nd rfl (by first | exact Or.inl rfl | exact Or.inr rfl) (pe_op op_addA (pv 2) (pe_ixA hr (pe_lst (pa_cons pe_str (pa_cons pe_str (pa_cons pe_str pa_nil)))) (pe_cK c__law_next (hr.mono (by decide)) rfl (pa_cons (pv 0) (pa_cons pe_int pa_nil))) (fun _ _ => rfl)))))))
      (pss_one (ps_ret (pv 2)))))
end
end K04
set_option Elab.async false
set_option linter.all false
set_option maxRecDepth 100000
set_option maxHeartbeats 4000000
namespace K04
open PySem PySem.Spec PyProof.Rows L2 My
section
variable {P : Program} {w : World} {K : PySem.W.Frag} {mg : Str → Option Value} {base : Heap}
/-! ### _law_class -/
def pr_class (K : PySem.W.Frag) : V → Hp → VK → XK → Prop := fun x H Q _ => ∃ (a d : Addr) (fs : List (Str × V)), x = .ref a ∧ ((XV H a (He.ga K "BadSign") d fs ∧ ∀ H', Same H H' → Q (.str "sign") H') ∨ (XV H a (He.ga K "BadText") d fs ∧ ∀ H', Same H H' → Q (.str "text") H'))
def sp__law_class (K : PySem.W.Frag) : Sp := Sp1 (pr_class K)
def t__law_class (K : PySem.W.Frag) : TS :=
  (tSeq (tAsg (tLst (tCons (tC (.str "sign")) (tCons (tC (.str "text")) (tCons (tC (.str "facts")) (tCons (tC (.str "no one")) (tCons (tC (.str "alive")) (tCons (tC (.str "line")) (tCons (tC (.str "many")) tNil)))))))) (gName 1))
  (tSeq (tAsg (tLst (tCons (tCB (rIsA K) (tCons (tVar 0) (tCons (tC (.ref (He.ga K "BadSign"))) tNil))) (tCons (tCB (rIsA K) (tCons (tVar 0) (tCons (tC (.ref (He.ga K "BadText"))) tNil))) (tCons (tCB (rIsA K) (tCons (tVar 0) (tCons (tC (.ref (He.ga K "BadFacts"))) tNil))) (tCons (tCB (rIsA K) (tCons (tVar 0) (tCons (tC (.ref (He.ga K "NoOne"))) tNil))) tNil))))) (gName 2))
  (tSeq (tAsg (tOp (rAddA K) (tVar 2) (tLst (tCons (tCB (rIsA K) (tCons (tVar 0) (tCons (tC (.ref (He.ga K "Alive"))) tNil))) (tCons (tCB (rIsA K) (tCons (tVar 0) (tCons (tC (.ref (He.ga K "BadLine"))) tNil))) (tCons (tCB (rIsA K) (tCons (tVar 0) (tCons (tC (.ref (He.ga K "TooMany"))) tNil))) tNil))))) (gName 2))
  (tSeq (tIfS (tOr (tTest (tOp (rNeA K) (tBM K "list" (rCountA K) (tVar 2) (tCons (tC (.bl true)) tNil)) (tC (.int 1)))) (tNot (tB (tCB (rIsA K) (tCons (tVar 0) (tCons (tC (.ty "ValueError")) tNil)))))) (tRet (tC (.str "several"))) tNext)
  (tRet (tIxA K (tVar 1) (tBM K "list" (rIndex K) (tVar 2) (tCons (tC (.bl true)) tNil))))))))
theorem class_sign (T : Txt K mg) {a d : Addr} {fs : List (Str × V)} {H : Hp} {Q : VK} (xv : XV H a (He.ga K "BadSign") d fs) (q : ∀ H', Same H H' → Q (.str "sign") H') : t__law_class K { nx := fun _ H' => Q .non H', rt := Q } [some (.ref a), none, none] H := by
  unfold t__law_class
  walk_at "w"
  refine ⟨show 7 ≤ sizeLine by decide, fun p hp => ?_⟩
  walk_at "w"
  have s1 : Same H _ := same_new (o := .lst [V.str "sign", V.str "text", V.str "facts", V.str "no one", V.str "alive", V.str "line", V.str "many"]) hp
  have hP : upd H p (.lst [V.str "sign", V.str "text", V.str "facts", V.str "no one", V.str "alive", V.str "line", V.str "many"]) p = some (.lst [V.str "sign", V.str "text", V.str "facts", V.str "no one", V.str "alive", V.str "line", V.str "many"]) := upd_same
  generalize upd H p (.lst [V.str "sign", V.str "text", V.str "facts", V.str "no one", V.str "alive", V.str "line", V.str "many"]) = H1 at *
  have xv := xv.same s1
  refine st_isX xv T.oex_BadSign (.own _) (of_decide_eq_true T.ex_3) ?_
  walk_at "w"
  refine st_isX xv T.oex_BadSign (.own _) (of_decide_eq_true T.ex_4) ?_
  walk_at "w"
  refine st_isX xv T.oex_BadSign (.own _) (of_decide_eq_true T.ex_5) ?_
  walk_at "w"
  refine st_isX xv T.oex_BadSign (.own _) (of_decide_eq_true T.ex_6) ?_
  walk_at "w"
  refine ⟨show 4 ≤ sizeLine by decide, fun q1 hq1 => ?_⟩
  walk_at "w"
  have s2 : Same H1 _ := same_new (o := .lst [V.bl true, V.bl false, V.bl false, V.bl false]) hq1
  have xv := xv.same s2
  refine st_isX xv T.oex_BadSign (.own _) (of_decide_eq_true T.ex_7) ?_
  walk_at "w"
  refine st_isX xv T.oex_BadSign (.own _) (of_decide_eq_true T.ex_8) ?_
  walk_at "w"
  refine st_isX xv T.oex_BadSign (.own _) (of_decide_eq_true T.ex_9) ?_
  walk_at "w"
  refine ⟨show 3 ≤ sizeLine by decide, fun q2 hq2 => ?_⟩
  have n21 : q2 ≠ q1 := fun e => by rw [e, upd_same] at hq2; cases hq2
  refine st_add_list (by rw [upd_ne n21.symm, upd_same]) upd_same (by decide) fun q3 hq3 => ?_
  walk_at "w"
  have s3 : Same H1 _ := (s2.trans (same_new (o := .lst [V.bl false, V.bl false, V.bl false]) hq2)).trans (same_new (o := .lst ([V.bl true, V.bl false, V.bl false, V.bl false] ++ [V.bl false, V.bl false, V.bl false])) hq3)
  have hP := s3 _ _ hP
  refine ⟨.inl ⟨rfl, _, SqL.of upd_same⟩, ?_⟩
  walk_at "w"
  refine ⟨q3, _, _, rfl, rfl, SqL.of upd_same, rfl, rfl, ?_⟩
  walk_at "w"
  refine ite2 (fun h => absurd h (by decide)) (fun _ => ?_)
  have xv := xv.same ((same_new (o := .lst [V.bl false, V.bl false, V.bl false]) hq2).trans (same_new (o := .lst ([V.bl true, V.bl false, V.bl false, V.bl false] ++ [V.bl false, V.bl false, V.bl false])) hq3))
  walk_at "w"
  refine st_isX xv T.oex_BadSign (.ty _) (of_decide_eq_true T.ex_10) ?_
  walk_at "w"
  refine ⟨.inl ⟨rfl, _, SqL.of upd_same⟩, ?_⟩
  walk_at "w"
  refine ⟨q3, _, _, 0, V.bl true, rfl, rfl, SqL.of upd_same, rfl, rfl, rfl, rfl, fun m z hm _ => absurd hm (by omega), ?_⟩
  refine st_ix_list (v := V.str "sign") (SqL.of hP) rfl ?_
  walk_at "w"
  exact q _ (s1.trans s3)
theorem class_text (T : Txt K mg) {a d : Addr} {fs : List (Str × V)} {H : Hp} {Q : VK} (xv : XV H a (He.ga K "BadText") d fs) (q : ∀ H', Same H H' → Q (.str "text") H') : t__law_class K { nx := fun _ H' => Q .non H', rt := Q } [some (.ref a), none, none] H := by
  unfold t__law_class
  walk_at "w"
  refine ⟨show 7 ≤ sizeLine by decide, fun p hp => ?_⟩
  walk_at "w"
  have s1 : Same H _ := same_new (o := .lst [V.str "sign", V.str "text", V.str "facts", V.str "no one", V.str "alive", V.str "line", V.str "many"]) hp
  have hP : upd H p (.lst [V.str "sign", V.str "text", V.str "facts", V.str "no one", V.str "alive", V.str "line", V.str "many"]) p = some (.lst [V.str "sign", V.str "text", V.str "facts", V.str "no one", V.str "alive", V.str "line", V.str "many"]) := upd_same
  generalize upd H p (.lst [V.str "sign", V.str "text", V.str "facts", V.str "no one", V.str "alive", V.str "line", V.str "many"]) = H1 at *
  have xv := xv.same s1
  refine st_isX xv T.oex_BadText (.own _) (of_decide_eq_true T.ex_12) ?_
  walk_at "w"
  refine st_isX xv T.oex_BadText (.own _) (of_decide_eq_true T.ex_13) ?_
  walk_at "w"
  refine st_isX xv T.oex_BadText (.own _) (of_decide_eq_true T.ex_14) ?_
  walk_at "w"
  refine st_isX xv T.oex_BadText (.own _) (of_decide_eq_true T.ex_15) ?_
  walk_at "w"
  refine ⟨show 4 ≤ sizeLine by decide, fun q1 hq1 => ?_⟩
  walk_at "w"
  have s2 : Same H1 _ := same_new (o := .lst [V.bl false, V.bl true, V.bl false, V.bl false]) hq1
  have xv := xv.same s2
  refine st_isX xv T.oex_BadText (.own _) (of_decide_eq_true T.ex_16) ?_
  walk_at "w"
  refine st_isX xv T.oex_BadText (.own _) (of_decide_eq_true T.ex_17) ?_
  walk_at "w"
  refine st_isX xv T.oex_BadText (.own _) (of_decide_eq_true T.ex_18) ?_
  walk_at "w"
  refine ⟨show 3 ≤ sizeLine by decide, fun q2 hq2 => ?_⟩
  have n21 : q2 ≠ q1 := fun e => by rw [e, upd_same] at hq2; cases hq2
  refine st_add_list (by rw [upd_ne n21.symm, upd_same]) upd_same (by decide) fun q3 hq3 => ?_
  walk_at "w"
  have s3 : Same H1 _ := (s2.trans (same_new (o := .lst [V.bl false, V.bl false, V.bl false]) hq2)).trans (same_new (o := .lst ([V.bl false, V.bl true, V.bl false, V.bl false] ++ [V.bl false, V.bl false, V.bl false])) hq3)
  have hP := s3 _ _ hP
  refine ⟨.inl ⟨rfl, _, SqL.of upd_same⟩, ?_⟩
  walk_at "w"
  refine ⟨q3, _, _, rfl, rfl, SqL.of upd_same, rfl, rfl, ?_⟩
  walk_at "w"
  refine ite2 (fun h => absurd h (by decide)) (fun _ => ?_)
  have xv := xv.same ((same_new (o := .lst [V.bl false, V.bl false, V.bl false]) hq2).trans (same_new (o := .lst ([V.bl false, V.bl true, V.bl false, V.bl false] ++ [V.bl false, V.bl false, V.bl false])) hq3))
  walk_at "w"
  refine st_isX xv T.oex_BadText (.ty _) (of_decide_eq_true T.ex_19) ?_
  walk_at "w"
  refine ⟨.inl ⟨rfl, _, SqL.of upd_same⟩, ?_⟩
  walk_at "w"
  refine ⟨q3, _, _, 1, V.bl true, rfl, rfl, SqL.of upd_same, rfl, rfl, rfl, rfl, fun m z hm hz => ?_, ?_⟩
  · have : m = 0 := by omega
    subst this
    cases hz; rfl
  refine st_ix_list (v := V.str "text") (SqL.of hP) rfl ?_
  walk_at "w"
  exact q _ (s1.trans s3)
theorem pure__law_class (T : Txt K mg) {x : V} {H : Hp} {Q : VK} {E : XK} (h : pr_class K x H Q E) : t__law_class K { nx := fun _ H' => Q .non H', rt := Q } [some x, none, none] H := by
  obtain ⟨a, d, fs, rfl, ⟨xv, q⟩ | ⟨xv, q⟩⟩ := h
  · exact class_sign T xv q
  · exact class_text T xv q
theorem ok__law_class (T : Txt K mg)  : Kp P w K mg base CX0 1 "_law_class" ["_law_e"] (sp__law_class K) := by
  obtain ⟨fd, F⟩ := T.c.def_ 31 (d := d__law_class) rfl
  refine ⟨⟨_, fd, T.g__law_class, F.kp, F.bindsN fun _ _ _ _ _ _ us hl => match us, hl with | [_], _ => rfl, F.ok sc__law_class Sp1.len (fun cdv A outer s H vs Q E hr h => ?_)⟩⟩
  obtain ⟨v0, rfl, h⟩ := h
  refine ⟨t__law_class K, PSs.nox (?_), pure__law_class T h⟩
  exact (pss_cons (ps_set (i := 1) sc__law_class.nd rfl (by first | exact Or.inl rfl | exact Or.inr rfl) (pe_lst (pa_cons pe_str (pa_cons pe_str (pa_cons pe_str (pa_cons pe_str (pa_cons pe_str (pa_cons pe_str (pa_cons pe_str pa_nil)))))))))
      (pss_cons (ps_set (i := 2) sc__law_class.nd rfl (by first | exact Or.inl rfl | exact Or.inr rfl) (pe_lst (pa_cons (pe_callB call_isA (by rfl) T.n_isinstance (by decide +kernel) (pa_cons (pv 0) (pa_cons (pe_gr rfl T.g_BadSign) pa_nil))) (pa_cons (pe_callB call_isA (by rfl) T.n_isinstance (by decide +kernel) (pa_cons (pv 0) (pa_cons (pe_gr rfl T.g_BadText) pa_nil))) (pa_cons (pe_callB call_isA (by rfl) T.n_isinstance (by decide +kernel) (pa_cons (pv 0) (pa_cons (pe_gr rfl T.g_BadFacts) pa_nil))) (pa_cons (pe_callB call_isA (by rfl) T.n_isinstance (by decide +kernel) (pa_cons (pv 0) (pa_cons (pe_gr rfl T.g_NoOne) pa_nil))) pa_nil))))))
      (pss_cons (ps_set (i := 2) sc__law_class.nd rfl (by first | exact Or.inl rfl | exact Or.inr rfl) (pe_op op_addA (pv 2) (pe_lst (pa_cons (pe_callB call_isA (by rfl) T.n_isinstance (by decide +kernel) (pa_cons (pv 0) (pa_cons (pe_gr rfl T.g_Alive) pa_nil))) (pa_cons (pe_callB call_isA (by rfl) T.n_isinstance (by decide +kernel) (pa_cons (pv 0) (pa_cons (pe_gr rfl T.g_BadLine) pa_nil))) (pa_cons (pe_callB call_isA (by rfl) T.n_isinstance (by decide +kernel) (pa_cons (pv 0) (pa_cons (pe_gr rfl T.g_TooMany) pa_nil))) pa_nil))))))
      (pss_cons (ps_if (PW.pt (pw_or (pt_cmpR (op_neA hr) (pe_bm PySem.F.plainAttrs_list PySem.F.slot_list_count PySem.F.type_list_count mt_countA (pv 2) (pa_cons pe_bl pa_nil)) pe_int (nomark _)) (pw_or1 (pt_not (pt_val (pe_callB call_isA (by rfl) T.n_isinstance (by decide +kernel) (pa_cons (pv 0) (pa_cons (pe_bltn (v := .ty "ValueError") (by rfl) T.n_ValueError (by decide +kernel) rfl) pa_nil)))))))) (pss_one (ps_ret pe_str)) pss_nil)
      (pss_one (ps_ret (pe_ixA hr (pv 1) (pe_bm PySem.F.plainAttrs_list PySem.F.slot_list_index PySem.F.type_list_index mt_index (pv 2) (pa_cons pe_bl pa_nil)) (fun _ _ => rfl))))))))
/-! ### _law_wide -/
def Ent.Ok : Ent → Prop
  | .ord o => o.Ok
  | .halves => True
  | .kept t b => FracW t b
  | .back n => n ≤ 99999
def pr_wide (K : PySem.W.Frag) : V → V → Hp → VK → XK → Prop := fun x y H Q _ => ∃ (st p : Addr) (ns : List Int) (m : Int) (e : Ent), x = .ref st ∧ y = .ref p ∧ ns.length ≤ 63 ∧ LS K H st ns m ∧ m ≤ 10000000 ∧ H p = some (.lst ((e.words 1).map V.str)) ∧ Ent.Ok e ∧
  ∀ u ws H', EntTells ws e → Adv K st ns (m + 1) H H' → (u = p ∨ H u = none) → H' u = some (.lst (ws.map V.str)) → Q (.ref u) H'
def sp__law_wide (K : PySem.W.Frag) : Sp := Sp2 (pr_wide K)
def t__law_wide (K : PySem.W.Frag) : TS :=
  (tSeq (tIfS (tTest (tOp (rInA K true) (tC (.str "/")) (tVar 1))) (tRet (tVar 1)) tNext)
  (tSeq (tAsg (tOp (rAddA K) (tC (.int 1)) (tCall (sp__law_next K) [] E0 (tCons (tVar 0) (tCons (tOp rDivA (tC (.int 1000)) (tCB rIntA (tCons (tIxA K (tVar 1) (tUn rNegI (tC (.int 1)))) tNil))) tNil)))) (gName 2))
  (tRet (tOp (rAddA K) (tSl (rSlA K) (tVar 1) tNoPart (tPart (tUn rNegI (tC (.int 3))))) (tLst (tCons (tCB rStrB (tCons (tOp rMulA (tVar 2) (tCB rIntA (tCons (tIxA K (tVar 1) (tUn rNegI (tC (.int 3)))) tNil))) tNil)) (tCons (tC (.str "/")) (tCons (tCB rStrB (tCons (tOp rMulA (tVar 2) (tCB rIntA (tCons (tIxA K (tVar 1) (tUn rNegI (tC (.int 1)))) tNil))) tNil)) tNil))))))))
theorem atI_neg {α : Type} {xs : List α} {k : Nat} (h1 : 1 ≤ k) (h2 : k ≤ xs.length) : atI xs (-((k : Nat) : Int)) = xs[xs.length - k]? := by
  unfold atI ixN
  rw [if_neg (by omega), if_pos (by omega)]
  show xs[(-((k : Nat) : Int) + (xs.length : Nat)).toNat]? = _
  congr 1
  omega
theorem cutV_neg {xs : List V} {k : Nat} (h1 : 1 ≤ k) (h2 : k ≤ xs.length) : cutV xs none (some (-((k : Nat) : Int))) = xs.take (xs.length - k) := by
  unfold cutV
  rw [sIx_none]
  have e : HT.sIx xs.length xs.length (some (-((k : Nat) : Int))) = xs.length - k := by
    show (if (-((k : Nat) : Int)) < 0 then ((-((k : Nat) : Int)) + (xs.length : Int)).toNat else min (-((k : Nat) : Int)).toNat xs.length) = _
    rw [if_pos (by omega)]
    omega
  rw [e]; rfl
theorem slash_num (n : Nat) : numS n ≠ "/" := fun e => by
  have := numS_fig (n := n) (c := 47) (by rw [← numS_tl, e, e_sl]; simp)
  omega
theorem wide_frac (T : Txt K mg) {st p : Addr} {ns : List Int} {m : Int} {pre : List Str} {t b : Nat} {H : Hp} {Q : VK} (hn : ns.length ≤ 63) (hm : m ≤ 10000000) (ls : LS K H st ns m) (hp : H p = some (.lst ((pre ++ [numS t, "/", numS b]).map V.str))) (f : FracW t b) (hl : pre.length ≤ 10)
    (q : ∀ M u H', fitsM M b → Adv K st ns (m + 1) H H' → H u = none → H' u = some (.lst ((pre ++ fracW M t b).map V.str)) → Q (.ref u) H') : t__law_wide K { nx := fun _ H' => Q .non H', rt := Q } [some (.ref st), some (.ref p), none] H := by
  obtain ⟨t1, tb, b2, _⟩ := f
  have hlen : ((pre ++ [numS t, "/", numS b]).map V.str).length = pre.length + 3 := by rw [List.length_map, List.length_append]; rfl
  have g1 : ((pre ++ [numS t, "/", numS b]).map V.str)[pre.length + 2]? = some (.str (numS b)) := by
    rw [List.map_append, List.getElem?_append_right (by rw [List.length_map]; omega), List.length_map, show pre.length + 2 - pre.length = 2 by omega]; rfl
  have g3 : ((pre ++ [numS t, "/", numS b]).map V.str)[pre.length]? = some (.str (numS t)) := by
    rw [List.map_append, List.getElem?_append_right (by rw [List.length_map]; omega), List.length_map, Nat.sub_self]; rfl
  have i1 : atI ((pre ++ [numS t, "/", numS b]).map V.str) (-1) = some (.str (numS b)) := by
    have := atI_neg (xs := (pre ++ [numS t, "/", numS b]).map V.str) (k := 1) (by decide) (by omega)
    rw [hlen, show pre.length + 3 - 1 = pre.length + 2 by omega, g1] at this
    exact this
  have i3 : atI ((pre ++ [numS t, "/", numS b]).map V.str) (-3) = some (.str (numS t)) := by
    have := atI_neg (xs := (pre ++ [numS t, "/", numS b]).map V.str) (k := 3) (by decide) (by omega)
    rw [hlen, show pre.length + 3 - 3 = pre.length by omega, g3] at this
    exact this
  have c3 : cutV ((pre ++ [numS t, "/", numS b]).map V.str) none (some (-3)) = pre.map V.str := by
    have := cutV_neg (xs := (pre ++ [numS t, "/", numS b]).map V.str) (k := 3) (by decide) (by omega)
    rw [hlen, show pre.length + 3 - 3 = pre.length by omega, List.map_append] at this
    rw [List.map_append]
    refine this.trans ?_
    have e : pre.length = (pre.map V.str).length := by rw [List.length_map]
    rw [e, List.take_left]
  have lt := numS_len (n := t) (k := 20) (by decide) (by omega)
  have lb := numS_len (n := b) (k := 20) (by decide) (by omega)
  unfold t__law_wide
  walk_at "w"
  refine st_nin_list (SqL.of hp) rfl (flat_strs _) ?_
  rw [inV_strs, decide_eq_true (by simp)]
  walk_at "w"
  refine ⟨1, rfl, ?_⟩
  refine st_ix_list (SqL.of hp) i1 ?_
  walk_at "w"
  refine st_int_str (numS_int (by omega)) (by omega) ?_
  walk_at "w"
  refine st_div (b := 30) (by omega) (nb (by omega) (by omega)) (by decide) (by decide) ?_
  obtain ⟨c, hc⟩ : ∃ c : Nat, c = 1000 / b := ⟨_, rfl⟩
  have ec : (1000 : Int) / ((b : Nat) : Int) = ((c : Nat) : Int) := by rw [hc]; rfl
  have c1 : 1 ≤ c := by rw [hc]; exact (Nat.one_le_div_iff (by omega)).mpr b2
  have c2 : c * b ≤ 1000 := by rw [hc]; exact Nat.div_mul_le_self _ _
  rw [ec]
  walk_at "w"
  refine use_next ls hn (by omega) (by omega) fun r H1 r0 r1 a1 => ?_
  have hp1 := a1.sb _ _ (ls.ne_lst hp) hp
  obtain ⟨M, hM⟩ : ∃ M : Nat, 1 + r = ((M : Nat) : Int) := ⟨(1 + r).toNat, by rw [Int.toNat_of_nonneg (by omega)]⟩
  have M1 : 1 ≤ M := by omega
  have M2 : M ≤ c := by omega
  have M3 : M * b ≤ 1000 := Nat.le_trans (Nat.mul_le_mul_right _ M2) c2
  have M4 : M * t ≤ 1000 := Nat.le_trans (Nat.mul_le_mul_left _ tb) M3
  have M5 : M ≤ 1000 := Nat.le_trans (Nat.le_mul_of_pos_right _ (by omega)) M3
  walk_at "w"
  rw [hM]
  refine ⟨3, rfl, ?_⟩
  walk_at "w"
  refine st_slice_list (SqL.of hp1) fun u1 hu1 => ?_
  rw [c3]
  have s2 := same_new (o := .lst (pre.map V.str)) hu1
  have a2 := a1.same s2
  have hp2 := s2 _ _ hp1
  have h2' : upd H1 u1 (.lst (pre.map V.str)) u1 = some (.lst (pre.map V.str)) := upd_same
  generalize upd H1 u1 (.lst (pre.map V.str)) = H2 at *
  walk_at "w"
  refine ⟨3, rfl, ?_⟩
  refine st_ix_list (SqL.of hp2) i3 ?_
  walk_at "w"
  refine st_int_str (numS_int (by omega)) (by omega) ?_
  refine st_mul (a := 12) (b := 12) (nb (by omega) (by omega)) (nb (by omega) (by omega)) (by decide) (by decide) (by decide) ?_
  rw [show ((M : Nat) : Int) * ((t : Nat) : Int) = ((M * t : Nat) : Int) from rfl]
  walk_at "w"
  refine st_num (by omega) ?_
  walk_at "w"
  refine ⟨1, rfl, ?_⟩
  refine st_ix_list (SqL.of hp2) i1 ?_
  walk_at "w"
  refine st_int_str (numS_int (by omega)) (by omega) ?_
  refine st_mul (a := 12) (b := 12) (nb (by omega) (by omega)) (nb (by omega) (by omega)) (by decide) (by decide) (by decide) ?_
  rw [show ((M : Nat) : Int) * ((b : Nat) : Int) = ((M * b : Nat) : Int) from rfl]
  walk_at "w"
  refine st_num (by omega) ?_
  walk_at "w"
  refine ⟨show 3 ≤ sizeLine by decide, fun u3 hu3 => ?_⟩
  have s3 := same_new (o := .lst [V.str (numS (M * t)), V.str "/", V.str (numS (M * b))]) hu3
  refine st_add_list (s3 _ _ h2') upd_same (by rw [List.length_map]; show pre.length + 3 ≤ _; omega) fun u4 hu4 => ?_
  have a4 := (a2.same s3).same (same_new (o := .lst (pre.map V.str ++ [V.str (numS (M * t)), V.str "/", V.str (numS (M * b))])) hu4)
  refine q M u4 _ ⟨M1, M3⟩ a4 ?_ ?_
  · exact (a2.same s3).sb.free (a4.ls.ne_lst upd_same) hu4
  · rw [upd_same, List.map_append]; rfl
theorem wide_no (T : Txt K mg) {st p : Addr} {ws : List Str} {H : Hp} {Q : VK} (hp : H p = some (.lst (ws.map V.str))) (h : ("/" : Str) ∉ ws) (q : Q (.ref p) H) : t__law_wide K { nx := fun _ H' => Q .non H', rt := Q } [some (.ref st), some (.ref p), none] H := by
  unfold t__law_wide
  walk_at "w"
  refine st_nin_list (SqL.of hp) rfl (flat_strs _) ?_
  rw [inV_strs, decide_eq_false h]
  walk_at "w"
  exact q
theorem not_in2 {a b z : Str} (h1 : a ≠ z) (h2 : b ≠ z) : z ∉ [a, b] := fun h => by
  simp only [List.mem_cons, List.not_mem_nil, or_false] at h
  rcases h with h | h
  · exact h1 h.symm
  · exact h2 h.symm
theorem pure__law_wide (T : Txt K mg) {x y : V} {H : Hp} {Q : VK} {E : XK} (h : pr_wide K x y H Q E) : t__law_wide K { nx := fun _ H' => Q .non H', rt := Q } [some x, some y, none] H := by
  obtain ⟨st, p, ns, m, e, rfl, rfl, hn, ls, hm, hp, ok, q⟩ := h
  have self : e.fits 1 → Q (.ref p) H := fun f => q p _ H ⟨1, f, rfl⟩ ((ls.adv (Same.refl H)).le (by omega)) (.inl rfl) hp
  cases e with
  | halves => exact wide_no T hp (by decide +kernel) (self trivial)
  | back n => exact wide_no T (ws := [("back" : Str), numS n]) hp (not_in2 (by decide +kernel) (slash_num n)) (self trivial)
  | kept t b =>
    have ew : Ent.words 1 (.kept t b) = [("kept" : Str)] ++ [numS t, "/", numS b] := by
      show [("kept" : Str), numS (1 * t), "/", numS (1 * b)] = _
      rw [Nat.one_mul, Nat.one_mul]; rfl
    rw [ew] at hp
    exact wide_frac T hn hm ls hp ok (by simp) fun M u H' f a hu h => q u _ H' ⟨M, f, rfl⟩ a (.inr hu) h
  | ord o =>
    by_cases h0 : 0 < o.t
    · have hw : FracW o.t o.b := by
        rcases ok.2 with ⟨z, _⟩ | w
        · omega
        · exact w
      have ew : Ent.words 1 (.ord o) = [sortS o.line, numS o.k, "beside"] ++ [numS o.t, "/", numS o.b] := by
        show Ord.words 1 o = _
        unfold Ord.words fracW
        rw [if_pos h0, Nat.one_mul, Nat.one_mul]; rfl
      rw [ew] at hp
      refine wide_frac T hn hm ls hp hw (by simp) fun M u H' f a hu h => q u _ H' ⟨M, fun _ => f, ?_⟩ a (.inr hu) h
      show _ = Ord.words M o
      unfold Ord.words
      rw [if_pos h0]; rfl
    · have ew : Ent.words 1 (.ord o) = [sortS o.line, numS o.k] := by
        show Ord.words 1 o = _
        unfold Ord.words
        rw [if_neg h0]; rfl
      have hs : sortS o.line ≠ "/" := by cases o.line <;> decide +kernel
      refine wide_no T (ws := [sortS o.line, numS o.k]) (by rw [hp, ew]) (not_in2 hs (slash_num _)) (self fun h => absurd h h0)
theorem ok__law_wide (T : Txt K mg) (c__law_next : Kp P w K mg base CX0 1 "_law_next" ["_law_state", "_law_many"] (sp__law_next K)) : Kp P w K mg base CX0 2 "_law_wide" ["_law_state", "_law_row"] (sp__law_wide K) := by
  obtain ⟨fd, F⟩ := T.c.def_ 32 (d := d__law_wide) rfl
  refine ⟨⟨_, fd, T.g__law_wide, F.kp, F.bindsN fun _ _ _ _ _ _ us hl => match us, hl with | [_, _], _ => rfl, F.ok sc__law_wide Sp2.len (fun cdv A outer s H vs Q E hr h => ?_)⟩⟩
  obtain ⟨v0, v1, rfl, h⟩ := h
  refine ⟨t__law_wide K, PSs.nox (?_), pure__law_wide T h⟩
  exact (pss_cons (ps_if (pt_cmpR (op_ninA hr) pe_str (pv 1) (by rfl)) (pss_one (ps_ret (pv 1))) pss_nil)
      (pss_cons (ps_set (i := 2) sc__law_wide.nd rfl (by first | exact Or.inl rfl | exact Or.inr rfl) (pe_op op_addA pe_int (pe_cK c__law_next (hr.mono (by decide)) rfl (pa_cons (pv 0) (pa_cons (pe_op op_fdivA pe_int (pe_callTy call_intA (by rfl) T.n_int (by decide +kernel) (pa_cons (pe_ixA hr (pv 1) (pe_un un_neg pe_int) (fun _ _ => rfl)) pa_nil))) pa_nil)))))
      (pss_one (ps_ret (pe_op op_addA (pe_slice sl_A (pv 1) po_none (po_some (pe_un un_neg pe_int))) (pe_lst (pa_cons (pe_callTy call_strB (by rfl) T.n_str (by decide +kernel) (pa_cons (pe_op op_mulA (pv 2) (pe_callTy call_intA (by rfl) T.n_int (by decide +kernel) (pa_cons (pe_ixA hr (pv 1) (pe_un un_neg pe_int) (fun _ _ => rfl)) pa_nil))) pa_nil)) (pa_cons pe_str (pa_cons (pe_callTy call_strB (by rfl) T.n_str (by decide +kernel) (pa_cons (pe_op op_mulA (pv 2) (pe_callTy call_intA (by rfl) T.n_int (by decide +kernel) (pa_cons (pe_ixA hr (pv 1) (pe_un un_neg pe_int) (fun _ _ => rfl)) pa_nil))) pa_nil)) pa_nil)))))))))
end
end K04
set_option Elab.async false
set_option linter.all false
set_option maxRecDepth 100000
set_option maxHeartbeats 4000000
namespace K04
open PySem PySem.Spec PyProof.Rows L2 My
section
variable {P : Program} {w : World} {K : PySem.W.Frag} {mg : Str → Option Value} {base : Heap}
/-! ### _law_bent -/
/-- a row of at most B words -/
def GoodRow (K : PySem.W.Frag) (H : Hp) (B : Nat) (v : V) : Prop := ∃ q ws, v = .ref q ∧ SqL K H q ((ws : List Str).map V.str) ∧ ws.length ≤ B ∧ WdW ws
def AllGood (K : PySem.W.Frag) (H : Hp) (B : Nat) (vs : List V) : Prop := ∀ v ∈ vs, GoodRow K H B v
def GoodRows (K : PySem.W.Frag) (H : Hp) (A B : Nat) (u : Addr) : Prop := ∃ vs, SqL K H u vs ∧ 1 ≤ vs.length ∧ vs.length ≤ A ∧ AllGood K H B vs
theorem GoodRow.same {H H' : Hp} {B : Nat} {v : V} (h : GoodRow K H B v) (s : Same H H') : GoodRow K H' B v := by
  obtain ⟨q, ws, e, h1, h2, h3⟩ := h
  exact ⟨q, ws, e, s.seq h1, h2, h3⟩
theorem GoodRow.le {H : Hp} {B B' : Nat} {v : V} (h : GoodRow K H B v) (l : B ≤ B') : GoodRow K H B' v := by
  obtain ⟨q, ws, e, h1, h2, h3⟩ := h
  exact ⟨q, ws, e, h1, by omega, h3⟩
theorem GoodRow.adv {H H' : Hp} {B : Nat} {v : V} {st : Addr} {ns : List Int} {m m' : Int} (h : GoodRow K H B v) (a : Adv K st ns m H H') (l : LS K H st ns m') : GoodRow K H' B v := by
  obtain ⟨q, ws, e, h1, h2, h3⟩ := h
  exact ⟨q, ws, e, a.sb.seqL l.notSeq h1, h2, h3⟩
theorem AllGood.same {H H' : Hp} {B : Nat} {vs : List V} (h : AllGood K H B vs) (s : Same H H') : AllGood K H' B vs := fun v hv => (h v hv).same s
theorem AllGood.le {H : Hp} {B B' : Nat} {vs : List V} (h : AllGood K H B vs) (l : B ≤ B') : AllGood K H B' vs := fun v hv => (h v hv).le l
theorem AllGood.adv {H H' : Hp} {B : Nat} {vs : List V} {st : Addr} {ns : List Int} {m m' : Int} (h : AllGood K H B vs) (a : Adv K st ns m H H') (l : LS K H st ns m') : AllGood K H' B vs := fun v hv => (h v hv).adv a l
theorem AllGood.app {H : Hp} {B : Nat} {vs us : List V} (h : AllGood K H B vs) (g : AllGood K H B us) : AllGood K H B (vs ++ us) := fun v hv => by
  rcases List.mem_append.mp hv with hv | hv
  · exact h v hv
  · exact g v hv
theorem AllGood.take {H : Hp} {B : Nat} {vs : List V} (h : AllGood K H B vs) (n : Nat) : AllGood K H B (vs.take n) := fun v hv => h v (List.mem_of_mem_take hv)
theorem AllGood.drop {H : Hp} {B : Nat} {vs : List V} (h : AllGood K H B vs) (n : Nat) : AllGood K H B (vs.drop n) := fun v hv => h v (List.mem_of_mem_drop hv)
theorem AllGood.one {H : Hp} {B : Nat} {v : V} (h : GoodRow K H B v) : AllGood K H B [v] := fun u hu => by rw [List.mem_singleton.mp hu]; exact h
theorem AllGood.nil {H : Hp} {B : Nat} : AllGood K H B [] := fun u hu => by cases hu
theorem WdW.app {a b : List Str} (h : WdW a) (g : WdW b) : WdW (a ++ b) := fun y hy => by
  rcases List.mem_append.mp hy with hy | hy
  · exact h y hy
  · exact g y hy
theorem WdW.take {a : List Str} (h : WdW a) (n : Nat) : WdW (a.take n) := fun y hy => h y (List.mem_of_mem_take hy)
theorem WdW.drop {a : List Str} (h : WdW a) (n : Nat) : WdW (a.drop n) := fun y hy => h y (List.mem_of_mem_drop hy)
theorem sIx_min {n d a : Nat} : HT.sIx n d (some (a : Int)) = min a n := by
  show (if (a : Int) < 0 then ((a : Int) + (n : Int)).toNat else min (a : Int).toNat n) = _
  rw [if_neg (by omega)]; rfl
theorem cutV_toA {xs : List V} {b : Nat} : cutV xs none (some (b : Int)) = xs.take b := by
  unfold cutV
  rw [sIx_min, sIx_none, List.drop_zero, Nat.sub_zero]
  rcases Nat.le_total b xs.length with h | h
  · rw [Nat.min_eq_left h]
  · rw [Nat.min_eq_right h, List.take_of_length_le h, List.take_of_length_le (Nat.le_refl _)]
theorem cutV_fromA {xs : List V} {a : Nat} : cutV xs (some (a : Int)) none = xs.drop a := by
  unfold cutV
  rw [sIx_min, sIx_none]
  rcases Nat.le_total a xs.length with h | h
  · rw [Nat.min_eq_left h, List.take_of_length_le (by rw [List.length_drop]; omega)]
  · rw [Nat.min_eq_right h, List.drop_length, List.drop_eq_nil_of_le h, List.take_nil]
theorem cutV_natA {xs : List V} {a b : Nat} : cutV xs (some (a : Int)) (some (b : Int)) = (xs.drop a).take (b - a) := by
  unfold cutV
  rw [sIx_min, sIx_min]
  rcases Nat.le_total a xs.length with h | h
  · rw [Nat.min_eq_left h]
    rcases Nat.le_total b xs.length with g | g
    · rw [Nat.min_eq_left g]
    · rw [Nat.min_eq_right g, List.take_of_length_le (by rw [List.length_drop]; omega), List.take_of_length_le (by rw [List.length_drop]; omega)]
  · rw [Nat.min_eq_right h, List.drop_length, List.drop_eq_nil_of_le h]; simp
def bentL : List Str := [("line" : Str), "degree", "beside", "halves", "kept", "back", "/", "0", "1", "3", "4", "6", "7", "1000", "1001", "of", "99999", "100000", "word", "qa"]
theorem wd_n {z : Str} {n : Nat} (h : z = numS n) (hn : n < 10 ^ 12) : WdOk z.cps.toList := by rw [h]; exact wd_num hn
theorem bentL_wd : WdW bentL := mem_cons_all (wd_lit (by decide +kernel)) (mem_cons_all (wd_lit (by decide +kernel)) (mem_cons_all (wd_lit (by decide +kernel)) (mem_cons_all (wd_lit (by decide +kernel)) (mem_cons_all (wd_lit (by decide +kernel)) (mem_cons_all (wd_lit (by decide +kernel)) (mem_cons_all wd_slash
  (mem_cons_all (wd_n (n := 0) (by decide +kernel) (by decide)) (mem_cons_all (wd_n (n := 1) (by decide +kernel) (by decide)) (mem_cons_all (wd_n (n := 3) (by decide +kernel) (by decide)) (mem_cons_all (wd_n (n := 4) (by decide +kernel) (by decide)) (mem_cons_all (wd_n (n := 6) (by decide +kernel) (by decide)) (mem_cons_all (wd_n (n := 7) (by decide +kernel) (by decide)) (mem_cons_all (wd_n (n := 1000) (by decide +kernel) (by decide)) (mem_cons_all (wd_n (n := 1001) (by decide +kernel) (by decide))
  (mem_cons_all (wd_lit (by decide +kernel)) (mem_cons_all (wd_n (n := 99999) (by decide +kernel) (by decide)) (mem_cons_all (wd_n (n := 100000) (by decide +kernel) (by decide)) (mem_cons_all (wd_lit (by decide +kernel)) (mem_cons_all (wd_lit (by decide +kernel)) mem_nil_all)))))))))))))))))))
def pr_bent (K : PySem.W.Frag) : V → V → Hp → VK → XK → Prop := fun x y H Q _ => ∃ (st p : Addr) (ns : List Int) (m : Int) (A B : Nat), x = .ref st ∧ y = .ref p ∧ ns.length ≤ 63 ∧ LS K H st ns m ∧ m ≤ 10000000 ∧ GoodRows K H A B p ∧ A ≤ 40 ∧ B ≤ 40 ∧
  ∀ u H', Adv K st ns (m + 6) H H' → GoodRows K H' (A + 2) (B + 1) u → Q (.ref u) H'
def sp__law_bent (K : PySem.W.Frag) : Sp := Sp2 (pr_bent K)
def t__law_bent_0 (K : PySem.W.Frag) : TS :=
  (tRet (tOp (rAddA K) (tOp (rAddA K) (tSl (rSlA K) (tVar 1) tNoPart (tPart (tVar 2))) (tLst (tCons (tVar 3) tNil))) (tSl (rSlA K) (tVar 1) (tPart (tOp (rAddA K) (tVar 2) (tC (.int 1)))) tNoPart)))
def t__law_bent (K : PySem.W.Frag) : TS :=
  (tSeq (tAsg (tCall (sp__law_next K) [] E0 (tCons (tVar 0) (tCons (tCB (rLenA K) (tCons (tVar 1) tNil)) tNil))) (gName 2))
  (tSeq (tAsg (tIxA K (tVar 1) (tVar 2)) (gName 3))
  (tSeq (tAsg (tCall (sp__law_next K) [] E0 (tCons (tVar 0) (tCons (tOp (rAddA K) (tCB (rLenA K) (tCons (tVar 3) tNil)) (tC (.int 1))) tNil))) (gName 4))
  (tSeq (tAsg (tCall (sp__law_next K) [] E0 (tCons (tVar 0) (tCons (tC (.int 9)) tNil))) (gName 5))
  (tSeq (tAsg (tLst (tCons (tC (.str "line")) (tCons (tC (.str "degree")) (tCons (tC (.str "beside")) (tCons (tC (.str "halves")) (tCons (tC (.str "kept")) (tCons (tC (.str "back")) (tCons (tC (.str "/")) (tCons (tC (.str "0")) (tCons (tC (.str "1")) (tCons (tC (.str "3")) (tCons (tC (.str "4")) (tCons (tC (.str "6")) (tCons (tC (.str "7")) (tCons (tC (.str "1000")) (tCons (tC (.str "1001")) tNil)))))))))))))))) (gName 6))
  (tSeq (tAsg (tIxA K (tOp (rAddA K) (tVar 6) (tLst (tCons (tC (.str "of")) (tCons (tC (.str "99999")) (tCons (tC (.str "100000")) (tCons (tC (.str "word")) (tCons (tC (.str "qa")) tNil))))))) (tCall (sp__law_next K) [] E0 (tCons (tVar 0) (tCons (tC (.int 20)) tNil)))) (gName 7))
  (tSeq (tIfS (tTest (tOp rLtA (tVar 5) (tC (.int 2)))) (tAsg (tOp (rAddA K) (tSl (rSlA K) (tVar 3) tNoPart (tPart (tVar 4))) (tSl (rSlA K) (tVar 3) (tPart (tOp (rAddA K) (tVar 4) (tC (.int 1)))) tNoPart)) (gName 3)) (tIfS (tTest (tOp (rEqA K) (tVar 5) (tC (.int 2)))) (tAsg (tOp (rAddA K) (tSl (rSlA K) (tVar 3) tNoPart (tPart (tOp (rAddA K) (tVar 4) (tC (.int 1))))) (tSl (rSlA K) (tVar 3) (tPart (tVar 4)) tNoPart)) (gName 3)) (tIfS (tTest (tOp rLtA (tVar 5) (tC (.int 6)))) (tAsg (tOp (rAddA K) (tOp (rAddA K) (tSl (rSlA K) (tVar 3) tNoPart (tPart (tVar 4))) (tLst (tCons (tVar 7) tNil))) (tSl (rSlA K) (tVar 3) (tPart (tOp (rAddA K) (tVar 4) (tCB rIntA (tCons (tOp rLtA (tVar 5) (tC (.int 5))) tNil)))) tNoPart)) (gName 3)) (tSeq (tAsg (tSl (rSlA K) (tVar 1) (tPart (tVar 2)) (tPart (tOp (rAddA K) (tVar 2) (tC (.int 2))))) (gName 8))
  (tSeq (tAsg (tIxA K (tLst (tCons (tOp rMulA (tSl (rSlA K) (tVar 8) tNoPart (tPart (tC (.int 1)))) (tC (.int 2))) (tCons (tLst tNil) (tCons (tRevL K (tVar 8)) tNil)))) (tOp rSubI (tVar 5) (tC (.int 6)))) (gName 9))
  (tRet (tOp (rAddA K) (tOp (rAddA K) (tOp (rAddA K) (tSl (rSlA K) (tVar 1) tNoPart (tPart (tVar 2))) (tVar 9)) (tSl (rSlA K) (tVar 1) (tPart (tOp (rAddA K) (tVar 2) (tIxA K (tLst (tCons (tC (.int 1)) (tCons (tC (.int 1)) (tCons (tC (.int 2)) tNil)))) (tOp rSubI (tVar 5) (tC (.int 6)))))) tNoPart)) (tOp rMulA (tLst (tCons (tLst tNil) tNil)) (tCB rIntA (tCons (tOp (rEqA K) (tCB (rLenA K) (tCons (tVar 1) tNil)) (tC (.int 1))) tNil))))))))))
  (t__law_bent_0 K))))))))
theorem bent_end (T : Txt K mg) {st p : Addr} {ns : List Int} {m : Int} {A B a : Nat} {vs : List V} {v : V} {v4 v5 v6 v7 v8 v9 : Option V} {H0 H : Hp} {Q : VK} (adv : Adv K st ns m H0 H) (hp : SqL K H p vs) (ha : a < vs.length) (hA : vs.length ≤ A) (hA2 : A ≤ 40) (good : AllGood K H B vs) (gv : GoodRow K H (B + 1) v)
    (q : ∀ u H', Adv K st ns m H0 H' → GoodRows K H' (A + 2) (B + 1) u → Q (.ref u) H') :
    t__law_bent_0 K ⟨fun _ H' => Q .non H', Q, fun _ _ => False, fun _ _ => False⟩ [some (.ref st), some (.ref p), some (.int (a : Nat)), some v, v4, v5, v6, v7, v8, v9] H := by
  unfold t__law_bent_0
  walk_at "w"
  refine st_slice_list hp fun u1 hu1 => ?_
  rw [cutV_toA]
  have s1 := same_new (o := .lst (vs.take a)) hu1
  have h1 : upd H u1 (.lst (vs.take a)) u1 = some (.lst (vs.take a)) := upd_same
  generalize upd H u1 (.lst (vs.take a)) = H1 at *
  walk_at "w"
  refine ⟨show 1 ≤ sizeLine by decide, fun u2 hu2 => ?_⟩
  have s2 := same_new (o := .lst [v]) hu2
  refine st_add_list (s2 _ _ h1) upd_same (by rw [List.length_take]; show min a vs.length + 1 ≤ _; omega) fun u3 hu3 => ?_
  have s3 := s2.trans (same_new (o := .lst (vs.take a ++ [v])) hu3)
  have h3 : upd (upd H1 u2 (.lst [v])) u3 (.lst (vs.take a ++ [v])) u3 = some (.lst (vs.take a ++ [v])) := upd_same
  generalize upd (upd H1 u2 (.lst [v])) u3 (.lst (vs.take a ++ [v])) = H3 at *
  have s13 := s1.trans s3
  walk_at "w"
  refine st_slice_list (s13.seq hp) fun u4 hu4 => ?_
  rw [show ((a : Nat) : Int) + 1 = ((a + 1 : Nat) : Int) from rfl, cutV_fromA]
  have s4 := same_new (o := .lst (vs.drop (a + 1))) hu4
  refine st_add_list (s4 _ _ h3) upd_same (by rw [List.length_append, List.length_take, List.length_drop]; show min a vs.length + 1 + _ ≤ _; omega) fun u5 hu5 => ?_
  have s5 := s4.trans (same_new (o := .lst (vs.take a ++ [v] ++ vs.drop (a + 1))) hu5)
  refine q u5 _ (adv.same (s13.trans s5)) ⟨_, SqL.of upd_same, ?_, ?_, ?_⟩
  · rw [List.length_append, List.length_append]; show 1 ≤ _ + 1 + _; omega
  · rw [List.length_append, List.length_append, List.length_take, List.length_drop]; show min a vs.length + 1 + _ ≤ _; omega
  · have g := (good.le (show B ≤ B + 1 by omega)).same (s13.trans s5)
    exact ((g.take a).app (.one (gv.same (s13.trans s5)))).app (g.drop (a + 1))
/-- the rows themselves change -/
theorem bent_rows (T : Txt K mg) {st p : Addr} {ns : List Int} {m : Int} {A B a w' : Nat} {vs : List V} {v3 v4 v6 v7 v8 v9 : Option V} {H0 H : Hp} {Q : VK} (adv : Adv K st ns m H0 H) (hp : SqL K H p vs) (ha : a < vs.length) (hA : vs.length ≤ A) (hA2 : A ≤ 40) (good : AllGood K H B vs) (w1 : 6 ≤ w') (w2 : w' < 9)
    (q : ∀ u H', Adv K st ns m H0 H' → GoodRows K H' (A + 2) (B + 1) u → Q (.ref u) H') (N : L2.St → Hp → Prop) :
    (tSeq (tAsg (tSl (rSlA K) (tVar 1) (tPart (tVar 2)) (tPart (tOp (rAddA K) (tVar 2) (tC (.int 2))))) (gName 8))
      (tSeq (tAsg (tIxA K (tLst (tCons (tOp rMulA (tSl (rSlA K) (tVar 8) tNoPart (tPart (tC (.int 1)))) (tC (.int 2))) (tCons (tLst tNil) (tCons (tRevL K (tVar 8)) tNil)))) (tOp rSubI (tVar 5) (tC (.int 6)))) (gName 9))
      (tRet (tOp (rAddA K) (tOp (rAddA K) (tOp (rAddA K) (tSl (rSlA K) (tVar 1) tNoPart (tPart (tVar 2))) (tVar 9)) (tSl (rSlA K) (tVar 1) (tPart (tOp (rAddA K) (tVar 2) (tIxA K (tLst (tCons (tC (.int 1)) (tCons (tC (.int 1)) (tCons (tC (.int 2)) tNil)))) (tOp rSubI (tVar 5) (tC (.int 6)))))) tNoPart)) (tOp rMulA (tLst (tCons (tLst tNil) tNil)) (tCB rIntA (tCons (tOp (rEqA K) (tCB (rLenA K) (tCons (tVar 1) tNil)) (tC (.int 1))) tNil)))))))
    ⟨N, Q, fun _ _ => False, fun _ _ => False⟩ [some (.ref st), some (.ref p), some (.int (a : Nat)), v3, v4, some (.int (w' : Nat)), v6, v7, v8, v9] H := by
  walk_at "w"
  refine st_slice_list hp fun u1 hu1 => ?_
  rw [show ((a : Nat) : Int) + 2 = ((a + 2 : Nat) : Int) from rfl, cutV_natA, show a + 2 - a = 2 by omega]
  generalize hpr : (vs.drop a).take 2 = pr
  have lpr : 1 ≤ pr.length ∧ pr.length ≤ 2 := by rw [← hpr, List.length_take, List.length_drop]; omega
  have gpr : AllGood K H B pr := by rw [← hpr]; exact (good.drop a).take 2
  have s1 := same_new (o := .lst pr) hu1
  have h1 : upd H u1 (.lst pr) u1 = some (.lst pr) := upd_same
  generalize upd H u1 (.lst pr) = H1 at *
  walk_at "w"
  refine st_slice_list (SqL.of h1) fun u2 hu2 => ?_
  rw [show (1 : Int) = ((1 : Nat) : Int) from rfl, cutV_toA]
  have s2 := same_new (o := .lst (pr.take 1)) hu2
  walk_at "w"
  refine st_rep upd_same (by decide) (by decide) (by rw [List.length_take]; show min 1 pr.length * 2 ≤ _; omega) fun u3 hu3 => ?_
  have e2 : (List.replicate (2 : Int).toNat (pr.take 1)).flatten = pr.take 1 ++ pr.take 1 := by
    show (List.replicate 2 (pr.take 1)).flatten = _
    simp [List.replicate]
  rw [e2]
  have s3 := s2.trans (same_new (o := .lst (pr.take 1 ++ pr.take 1)) hu3)
  have h3 : upd (upd H1 u2 (.lst (pr.take 1))) u3 (.lst (pr.take 1 ++ pr.take 1)) u3 = some (.lst (pr.take 1 ++ pr.take 1)) := upd_same
  generalize upd (upd H1 u2 (.lst (pr.take 1))) u3 (.lst (pr.take 1 ++ pr.take 1)) = H3 at *
  walk_at "w"
  refine ⟨Nat.zero_le _, fun u4 hu4 => ?_⟩
  have s4 := same_new (o := .lst []) hu4
  have h4 : upd H3 u4 (.lst []) u4 = some (.lst []) := upd_same
  have h34 := s4 _ _ h3
  generalize upd H3 u4 (.lst []) = H4 at *
  walk_at "w"
  refine ⟨u1, pr, rfl, SqL.of ((s3.trans s4) _ _ h1), fun u5 hu5 => ?_⟩
  have s5 := same_new (o := .lst pr.reverse) hu5
  have h5 : upd H4 u5 (.lst pr.reverse) u5 = some (.lst pr.reverse) := upd_same
  have h45 := s5 _ _ h4
  have h35 := s5 _ _ h34
  have s15 := ((s1.trans s3).trans s4).trans s5
  generalize upd H4 u5 (.lst pr.reverse) = H5 at *
  walk_at "w"
  refine ⟨show 3 ≤ sizeLine by decide, fun u6 hu6 => ?_⟩
  have s6 := same_new (o := .lst [V.ref u3, V.ref u4, V.ref u5]) hu6
  have h6 : upd H5 u6 (.lst [V.ref u3, V.ref u4, V.ref u5]) u6 = some (.lst [V.ref u3, V.ref u4, V.ref u5]) := upd_same
  have h36 := s6 _ _ h35
  have h46 := s6 _ _ h45
  have h56 := s6 _ _ h5
  have s16 := s15.trans s6
  generalize upd H5 u6 (.lst [V.ref u3, V.ref u4, V.ref u5]) = H6 at *
  have g6 := good.same s16
  have gp6 := gpr.same s16
  obtain ⟨um, more, sk, e6, hm6, lm, gm, hsk, ek⟩ : ∃ (um : Addr) (more : List V) (sk : Nat), atI [V.ref u3, V.ref u4, V.ref u5] (((w' : Nat) : Int) - 6) = some (.ref um) ∧ H6 um = some (.lst more) ∧ (more.length ≤ 2 ∧ (more.length = 0 → sk = 1)) ∧ AllGood K H6 B more ∧ (1 ≤ sk ∧ sk ≤ 2) ∧ atI [V.int 1, V.int 1, V.int 2] (((w' : Nat) : Int) - 6) = some (.int (sk : Nat)) := by
    have hw : w' = 6 ∨ w' = 7 ∨ w' = 8 := by omega
    rcases hw with rfl | rfl | rfl
    · exact ⟨u3, _, 1, rfl, h36, ⟨by rw [List.length_append, List.length_take]; omega, fun _ => rfl⟩, (gp6.take 1).app (gp6.take 1), ⟨by decide, by decide⟩, rfl⟩
    · exact ⟨u4, [], 1, rfl, h46, ⟨by decide, fun _ => rfl⟩, .nil, ⟨by decide, by decide⟩, rfl⟩
    · exact ⟨u5, _, 2, rfl, h56, ⟨by rw [List.length_reverse]; exact lpr.2, fun h => by rw [List.length_reverse] at h; omega⟩, fun v hv => gp6 v (List.mem_reverse.mp hv), ⟨by decide, by decide⟩, rfl⟩
  walk_at "w"
  refine st_ix_list (SqL.of h6) e6 ?_
  walk_at "w"
  refine st_slice_list (s16.seq hp) fun u7 hu7 => ?_
  rw [cutV_toA]
  have s7 := same_new (o := .lst (vs.take a)) hu7
  walk_at "w"
  refine st_add_list upd_same (s7 _ _ hm6) (by rw [List.length_take]; omega) fun u8 hu8 => ?_
  have s8 := s7.trans (same_new (o := .lst (vs.take a ++ more)) hu8)
  have h8 : upd (upd H6 u7 (.lst (vs.take a))) u8 (.lst (vs.take a ++ more)) u8 = some (.lst (vs.take a ++ more)) := upd_same
  generalize upd (upd H6 u7 (.lst (vs.take a))) u8 (.lst (vs.take a ++ more)) = H8 at *
  have s18 := s16.trans s8
  walk_at "w"
  refine ⟨show 3 ≤ sizeLine by decide, fun u9 hu9 => ?_⟩
  have s9 := same_new (o := .lst [V.int 1, V.int 1, V.int 2]) hu9
  walk_at "w"
  refine st_ix_list (SqL.of upd_same) ek ?_
  have h89 := s9 _ _ h8
  generalize upd H8 u9 (.lst [V.int 1, V.int 1, V.int 2]) = H9 at *
  have s19 := s18.trans s9
  walk_at "w"
  refine st_slice_list (s19.seq hp) fun u10 hu10 => ?_
  rw [show ((a : Nat) : Int) + ((sk : Nat) : Int) = ((a + sk : Nat) : Int) from rfl, cutV_fromA]
  have s10 := same_new (o := .lst (vs.drop (a + sk))) hu10
  refine st_add_list (s10 _ _ h89) upd_same (by rw [List.length_append, List.length_take, List.length_drop]; omega) fun u11 hu11 => ?_
  have s11 := s10.trans (same_new (o := .lst (vs.take a ++ more ++ vs.drop (a + sk))) hu11)
  have h11 : upd (upd H9 u10 (.lst (vs.drop (a + sk)))) u11 (.lst (vs.take a ++ more ++ vs.drop (a + sk))) u11 = some (.lst (vs.take a ++ more ++ vs.drop (a + sk))) := upd_same
  generalize upd (upd H9 u10 (.lst (vs.drop (a + sk)))) u11 (.lst (vs.take a ++ more ++ vs.drop (a + sk))) = H11 at *
  have s111 := s19.trans s11
  walk_at "w"
  refine ⟨Nat.zero_le _, fun u12 hu12 => ?_⟩
  have s12 := same_new (o := .lst []) hu12
  have h12 : upd H11 u12 (.lst []) u12 = some (.lst []) := upd_same
  have h1112 := s12 _ _ h11
  generalize upd H11 u12 (.lst []) = H12 at *
  walk_at "w"
  refine ⟨show 1 ≤ sizeLine by decide, fun u13 hu13 => ?_⟩
  have s13 := same_new (o := .lst [V.ref u12]) hu13
  have h13 : upd H12 u13 (.lst [V.ref u12]) u13 = some (.lst [V.ref u12]) := upd_same
  have h1213 := s13 _ _ h12
  have h1113 := s13 _ _ h1112
  generalize upd H12 u13 (.lst [V.ref u12]) = H13 at *
  have s113 := (s111.trans s12).trans s13
  walk_at "w"
  have hp13 := s113.seq hp
  refine st_lenL hp13 ?_
  walk_at "w"
  refine st_int_bl ?_
  refine st_rep h13 (by split <;> decide) (by split <;> decide) (by split <;> simp) fun u14 hu14 => ?_
  rw [rep_one]
  generalize hus : (if decide (((vs.length : Nat) : Int) = 1) = true then [V.ref u12] else []) = us
  have lus : us.length ≤ 1 ∧ (vs.length = 1 → us.length = 1) := by
    rw [← hus]
    by_cases h : vs.length = 1
    · rw [decide_eq_true (show ((vs.length : Nat) : Int) = 1 by omega), if_pos rfl]; simp
    · rw [decide_eq_false (show ¬ ((vs.length : Nat) : Int) = 1 by omega), if_neg Bool.false_ne_true]; simp [h]
  have gus : ∀ H', Same H13 H' → AllGood K H' (B + 1) us := fun H' s v hv => by
    rw [← hus] at hv
    split at hv
    · rw [List.mem_singleton.mp hv]
      exact ⟨u12, [], rfl, SqL.of (s _ _ h1213), Nat.zero_le _, fun y hy => by cases hy⟩
    · cases hv
  have s14 := same_new (o := .lst us) hu14
  refine st_add_list (s14 _ _ h1113) upd_same (by rw [List.length_append, List.length_append, List.length_take, List.length_drop]; omega) fun u15 hu15 => ?_
  have s15' := s14.trans (same_new (o := .lst (vs.take a ++ more ++ vs.drop (a + sk) ++ us)) hu15)
  refine q u15 _ (adv.same (s113.trans s15')) ⟨_, SqL.of upd_same, ?_, ?_, ?_⟩
  · rw [List.length_append, List.length_append, List.length_append, List.length_take, List.length_drop]
    omega
  · rw [List.length_append, List.length_append, List.length_append, List.length_take, List.length_drop]
    omega
  · have g := (good.le (show B ≤ B + 1 by omega)).same (s113.trans s15')
    have gm' := (gm.le (show B ≤ B + 1 by omega)).same (((((s8.trans s9).trans s11).trans s12).trans s13).trans s15')
    exact (((g.take a).app gm').app (g.drop _)).app (gus _ s15')
theorem pure__law_bent (T : Txt K mg) {x y : V} {H : Hp} {Q : VK} {E : XK} (h : pr_bent K x y H Q E) : t__law_bent K { nx := fun _ H' => Q .non H', rt := Q } [some x, some y, none, none, none, none, none, none, none, none] H := by
  obtain ⟨st, p, ns, m, A, B, rfl, rfl, hn, ls, hm, ⟨vs, hp, l1, lA, good⟩, hA, hB, q⟩ := h
  unfold t__law_bent
  walk_at "w"
  refine st_lenL hp ?_
  walk_at "w"
  refine use_next ls hn (by omega) (by omega) fun r1 H1 r10 r11 a1 => ?_
  have hp1 := a1.sb.seqL ls.notSeq hp
  have g1 := good.adv a1 ls
  obtain ⟨a, rfl⟩ := Int.eq_ofNat_of_zero_le r10
  have ha : a < vs.length := by omega
  walk_at "w"
  refine st_ix_list hp1 (atI_nat (List.getElem?_eq_getElem ha)) ?_
  have gv := g1 _ (List.getElem_mem ha)
  obtain ⟨qa, ws, ev, hq1, lw, wdw⟩ := gv
  rw [ev]
  walk_at "w"
  refine st_lenL hq1 ?_
  rw [List.length_map]
  walk_at "w"
  refine use_next a1.ls hn (by omega) (by omega) fun r2 H2 r20 r21 a2 => ?_
  have hp2 := a2.sb.seqL a1.ls.notSeq hp1
  have hq2 := a2.sb.seqL a1.ls.notSeq hq1
  have g2 := g1.adv a2 a1.ls
  have a2 := a1.trans a2
  obtain ⟨sp, rfl⟩ := Int.eq_ofNat_of_zero_le r20
  walk_at "w"
  refine use_next a2.ls hn (by decide) (by omega) fun r3 H3 r30 r31 a3 => ?_
  have hp3 := a3.sb.seqL a2.ls.notSeq hp2
  have hq3 := a3.sb.seqL a2.ls.notSeq hq2
  have g3 := g2.adv a3 a2.ls
  have a3 := a2.trans a3
  obtain ⟨wy, rfl⟩ := Int.eq_ofNat_of_zero_le r30
  have hwy : wy < 9 := by omega
  walk_at "w"
  refine ⟨show 15 ≤ sizeLine by decide, fun p4 hp4 => ?_⟩
  have s4 := same_new (o := .lst [V.str "line", V.str "degree", V.str "beside", V.str "halves", V.str "kept", V.str "back", V.str "/", V.str "0", V.str "1", V.str "3", V.str "4", V.str "6", V.str "7", V.str "1000", V.str "1001"]) hp4
  have h4 : upd H3 p4 (.lst [V.str "line", V.str "degree", V.str "beside", V.str "halves", V.str "kept", V.str "back", V.str "/", V.str "0", V.str "1", V.str "3", V.str "4", V.str "6", V.str "7", V.str "1000", V.str "1001"]) p4 = some (.lst ((bentL.take 15).map V.str)) := upd_same
  generalize upd H3 p4 (.lst [V.str "line", V.str "degree", V.str "beside", V.str "halves", V.str "kept", V.str "back", V.str "/", V.str "0", V.str "1", V.str "3", V.str "4", V.str "6", V.str "7", V.str "1000", V.str "1001"]) = H4 at *
  walk_at "w"
  refine ⟨show 5 ≤ sizeLine by decide, fun p5 hp5 => ?_⟩
  have s5 := same_new (o := .lst [V.str "of", V.str "99999", V.str "100000", V.str "word", V.str "qa"]) hp5
  refine st_add_list (s5 _ _ h4) upd_same (show 20 ≤ 1000000 by decide) fun p6 hp6 => ?_
  have s6 := s5.trans (same_new (o := .lst ((bentL.take 15).map V.str ++ [V.str "of", V.str "99999", V.str "100000", V.str "word", V.str "qa"])) hp6)
  have h6 : upd (upd H4 p5 (.lst [V.str "of", V.str "99999", V.str "100000", V.str "word", V.str "qa"])) p6 (.lst ((bentL.take 15).map V.str ++ [V.str "of", V.str "99999", V.str "100000", V.str "word", V.str "qa"])) p6 = some (.lst (bentL.map V.str)) := upd_same
  generalize upd (upd H4 p5 (.lst [V.str "of", V.str "99999", V.str "100000", V.str "word", V.str "qa"])) p6 (.lst ((bentL.take 15).map V.str ++ [V.str "of", V.str "99999", V.str "100000", V.str "word", V.str "qa"])) = H6 at *
  have s46 := s4.trans s6
  have a6 := a3.same s46
  walk_at "w"
  refine draw_ix a6.ls hn (by decide) (by omega) rfl h6 fun v H7 hv a7 => ?_
  have hp7 := a7.sb.seqL a6.ls.notSeq (s46.seq hp3)
  have hq7 := a7.sb.seqL a6.ls.notSeq (s46.seq hq3)
  have g7 := (g3.same s46).adv a7 a6.ls
  have a7 := a6.trans a7
  obtain ⟨wd, hwd, rfl⟩ := List.mem_map.mp hv
  have wdo := bentL_wd wd hwd
  have fin : ∀ u H', Adv K st ns (m + 1 + 1 + 1 + 1) H H' → GoodRows K H' (A + 2) (B + 1) u → Q (.ref u) H' := fun u H' a' g' => q u H' (a'.le (by omega)) g'
  have hsp : sp ≤ ws.length := by omega
  walk_at "w"
  refine ite2 (fun h1 => ?_) (fun h1 => ?_)
  · walk_at "w"
    refine st_slice_list hq7 fun u1 hu1 => ?_
    rw [cutV_toA]
    have s1 := same_new (o := .lst ((ws.map V.str).take sp)) hu1
    walk_at "w"
    refine st_slice_list (s1.seq hq7) fun u2 hu2 => ?_
    rw [show ((sp : Nat) : Int) + 1 = ((sp + 1 : Nat) : Int) from rfl, cutV_fromA]
    have s2 := same_new (o := .lst ((ws.map V.str).drop (sp + 1))) hu2
    refine st_add_list (s2 _ _ upd_same) upd_same (by rw [List.length_take, List.length_drop, List.length_map]; omega) fun u3 hu3 => ?_
    have s3 := (s1.trans s2).trans (same_new (o := .lst ((ws.map V.str).take sp ++ (ws.map V.str).drop (sp + 1))) hu3)
    walk_at "w"
    refine bent_end T (a7.same s3) (s3.seq hp7) ha lA hA (g7.same s3) ⟨u3, ws.take sp ++ ws.drop (sp + 1), rfl, SqL.of ?_, ?_, (wdw.take _).app (wdw.drop _)⟩ fin
    · rw [upd_same, List.map_append, List.map_take, List.map_drop]
    · rw [List.length_append, List.length_take, List.length_drop]; omega
  walk_at "w"
  refine ite2 (fun h2 => ?_) (fun h2 => ?_)
  · walk_at "w"
    refine st_slice_list hq7 fun u1 hu1 => ?_
    rw [show ((sp : Nat) : Int) + 1 = ((sp + 1 : Nat) : Int) from rfl, cutV_toA]
    have s1 := same_new (o := .lst ((ws.map V.str).take (sp + 1))) hu1
    walk_at "w"
    refine st_slice_list (s1.seq hq7) fun u2 hu2 => ?_
    rw [cutV_fromA]
    have s2 := same_new (o := .lst ((ws.map V.str).drop sp)) hu2
    refine st_add_list (s2 _ _ upd_same) upd_same (by rw [List.length_take, List.length_drop, List.length_map]; omega) fun u3 hu3 => ?_
    have s3 := (s1.trans s2).trans (same_new (o := .lst ((ws.map V.str).take (sp + 1) ++ (ws.map V.str).drop sp)) hu3)
    walk_at "w"
    refine bent_end T (a7.same s3) (s3.seq hp7) ha lA hA (g7.same s3) ⟨u3, ws.take (sp + 1) ++ ws.drop sp, rfl, SqL.of ?_, ?_, (wdw.take _).app (wdw.drop _)⟩ fin
    · rw [upd_same, List.map_append, List.map_take, List.map_drop]
    · rw [List.length_append, List.length_take, List.length_drop]; omega
  walk_at "w"
  refine ite2 (fun h3 => ?_) (fun h3 => ?_)
  · walk_at "w"
    refine st_slice_list hq7 fun u1 hu1 => ?_
    rw [cutV_toA]
    have s1 := same_new (o := .lst ((ws.map V.str).take sp)) hu1
    walk_at "w"
    refine ⟨show 1 ≤ sizeLine by decide, fun u2 hu2 => ?_⟩
    have s2 := same_new (o := .lst [V.str wd]) hu2
    refine st_add_list (s2 _ _ upd_same) upd_same (by rw [List.length_take, List.length_map]; show min sp ws.length + 1 ≤ _; omega) fun u3 hu3 => ?_
    have s3 := (s1.trans s2).trans (same_new (o := .lst ((ws.map V.str).take sp ++ [V.str wd])) hu3)
    have h3' : upd (upd (upd H7 u1 (.lst ((ws.map V.str).take sp))) u2 (.lst [V.str wd])) u3 (.lst ((ws.map V.str).take sp ++ [V.str wd])) u3 = some (.lst ((ws.map V.str).take sp ++ [V.str wd])) := upd_same
    generalize upd (upd (upd H7 u1 (.lst ((ws.map V.str).take sp))) u2 (.lst [V.str wd])) u3 (.lst ((ws.map V.str).take sp ++ [V.str wd])) = H8 at *
    walk_at "w"
    refine st_int_bl ?_
    walk_at "w"
    obtain ⟨k, hk, k1⟩ : ∃ k : Nat, ((sp : Nat) : Int) + (if decide (((wy : Nat) : Int) < 5) = true then 1 else 0) = ((sp + k : Nat) : Int) ∧ k ≤ 1 := by
      split
      · exact ⟨1, rfl, by decide⟩
      · exact ⟨0, by omega, by decide⟩
    rw [hk]
    refine st_slice_list (s3.seq hq7) fun u4 hu4 => ?_
    rw [cutV_fromA]
    have s4 := same_new (o := .lst ((ws.map V.str).drop (sp + k))) hu4
    refine st_add_list (s4 _ _ h3') upd_same (by rw [List.length_append, List.length_take, List.length_drop, List.length_map]; show min sp ws.length + 1 + _ ≤ _; omega) fun u5 hu5 => ?_
    have s5 := s3.trans (s4.trans (same_new (o := .lst ((ws.map V.str).take sp ++ [V.str wd] ++ (ws.map V.str).drop (sp + k))) hu5))
    walk_at "w"
    refine bent_end T (a7.same s5) (s5.seq hp7) ha lA hA (g7.same s5) ⟨u5, ws.take sp ++ [wd] ++ ws.drop (sp + k), rfl, SqL.of ?_, ?_, ((wdw.take _).app ?_).app (wdw.drop _)⟩ fin
    · rw [upd_same, List.map_append, List.map_append, List.map_take, List.map_drop]; rfl
    · rw [List.length_append, List.length_append, List.length_take, List.length_drop]; show min sp ws.length + 1 + _ ≤ _; omega
    · intro y hy
      rw [List.mem_singleton.mp hy]; exact wdo
  · have h6 : 6 ≤ wy := by
      have : ¬ ((wy : Nat) : Int) < 6 := fun e => h3 (decide_eq_true e)
      omega
    exact bent_rows T a7 hp7 ha lA hA g7 h6 hwy fin _
theorem ok__law_bent (T : Txt K mg) (c__law_next : Kp P w K mg base CX0 1 "_law_next" ["_law_state", "_law_many"] (sp__law_next K)) : Kp P w K mg base CX0 2 "_law_bent" ["_law_state", "_law_rows"] (sp__law_bent K) := by
  obtain ⟨fd, F⟩ := T.c.def_ 33 (d := d__law_bent) rfl
  refine ⟨⟨_, fd, T.g__law_bent, F.kp, F.bindsN fun _ _ _ _ _ _ us hl => match us, hl with | [_, _], _ => rfl, F.ok sc__law_bent Sp2.len (fun cdv A outer s H vs Q E hr h => ?_)⟩⟩
  obtain ⟨v0, v1, rfl, h⟩ := h
  refine ⟨t__law_bent K, PSs.nox (?_), pure__law_bent T h⟩
  exact (pss_cons (ps_set (i := 2) sc__law_bent.nd rfl (by first | exact Or.inl rfl | exact Or.inr rfl) (pe_cK c__law_next (hr.mono (by decide)) rfl (pa_cons (pv 0) (pa_cons (pe_callB call_len (by rfl) T.n_len (by decide +kernel) (pa_cons (pv 1) pa_nil)) pa_nil))))
      (pss_cons (ps_set (i := 3) sc__law_bent.nd rfl (by first | exact Or.inl rfl | exact Or.inr rfl) (pe_ixA hr (pv 1) (pv 2) (fun _ _ => rfl)))
      (pss_cons (ps_set (i := 4) sc__law_bent.nd rfl (by first | exact Or.inl rfl | exact Or.inr rfl) (pe_cK c__law_next (hr.mono (by decide)) rfl (pa_cons (pv 0) (pa_cons (pe_op op_addA (pe_callB call_len (by rfl) T.n_len (by decide +kernel) (pa_cons (pv 3) pa_nil)) pe_int) pa_nil))))
      (pss_cons (ps_set (i := 5) sc__law_bent.nd rfl (by first | exact Or.inl rfl | exact Or.inr rfl) (pe_cK c__law_next (hr.mono (by decide)) rfl (pa_cons (pv 0) (pa_cons pe_int pa_nil))))
      (pss_cons (ps_set (i := 6) sc__law_bent.nd rfl (by first | exact Or.inl rfl | exact Or.inr rfl) (pe_lst (pa_cons pe_str (pa_cons pe_str (pa_cons pe_str (pa_cons pe_str (pa_cons pe_str (pa_cons pe_str (pa_cons pe_str (pa_cons pe_str (pa_cons pe_str (pa_cons pe_str (pa_cons pe_str (pa_cons pe_str (pa_cons pe_str (pa_cons pe_str (pa_cons pe_str pa_nil)))))))))))))))))
      (pss_cons (ps_set (i := 7) sc__law_bent.nd rfl (by first | exact Or.inl rfl | exact Or.inr rfl) (pe_ixA hr (pe_op op_addA (pv 6) (pe_lst (pa_cons pe_str (pa_cons pe_str (pa_cons pe_str (pa_cons pe_str (pa_cons pe_str pa_nil))))))) (pe_cK c__law_next (hr.mono (by decide)) rfl (pa_cons (pv 0) (pa_cons pe_int pa_nil))) (fun _ _ => rfl)))
      (pss_cons (ps_if (pt_cmpR op_ltA (pv 5) pe_int (nomark _)) (pss_one (ps_set (i := 3) sc__law_bent.nd rfl (by first | exact Or.inl rfl | exact Or.inr rfl) (pe_op op_addA (pe_slice sl_A (pv 3) po_none (po_some (pv 4))) (pe_slice sl_A (pv 3) (po_some (pe_op op_addA (pv 4) pe_int)) po_none)))) (pss_one (ps_if (pt_cmpR (op_eqA hr) (pv 5) pe_int (nomark _)) (pss_one (ps_set (i := 3) sc__law_bent.nd rfl (by first | exact Or.inl rfl | exact Or.inr rfl) (pe_op op_addA (pe_slice sl_A (pv 3) po_none (po_some (pe_op op_addA (pv 4) pe_int))) (pe_slice sl_A (pv 3) (po_some (pv 4)) po_none)))) (pss_one (ps_if (pt_cmpR op_ltA (pv 5) pe_int (nomark _)) (pss_one (ps_set (i := 3) sc__law_bent.nd rfl (by first | exact Or.inl rfl | exact Or.inr rfl) (pe_op op_addA (pe_op op_addA (pe_slice sl_A (pv 3) po_none (po_some (pv 4))) (pe_lst (pa_cons (pv 7) pa_nil))) (pe_slice sl_A (pv 3) (po_some (pe_op op_addA (pv 4) (pe_callTy call_intA (by rfl) T.n_int (by decide +kernel) (pa_cons (pe_cmpR op_ltA (pv 5) pe_int (nomark _)) pa_nil)))) po_none)))) (pss_cons (ps_set (i := 8) sc__law_bent.nd rfl (by first | exact Or.inl rfl | exact Or.inr rfl) (pe_slice sl_A (pv 1) (po_some (pv 2)) (po_some (pe_op op_addA (pv 2) pe_int))))
      (pss_cons (ps_set (i := 9) sc__law_bent.nd rfl (by first | exact Or.inl rfl | exact Or.inr rfl) (pe_ixA hr (pe_lst (pa_cons (pe_op op_mulA (pe_slice sl_A (pv 8) po_none (po_some pe_int)) pe_int) (pa_cons (pe_lst pa_nil) (pa_cons (pe_revL (pv 8)) pa_nil)))) (pe_op op_sub (pv 5) pe_int) (fun _ _ => rfl)))
      (pss_one (ps_ret (pe_op op_addA (pe_op op_addA (pe_op op_addA (pe_slice sl_A (pv 1) po_none (po_some (pv 2))) (pv 9)) (pe_slice sl_A (pv 1) (po_some (pe_op op_addA (pv 2) (pe_ixA hr (pe_lst (pa_cons pe_int (pa_cons pe_int (pa_cons pe_int pa_nil)))) (pe_op op_sub (pv 5) pe_int) (fun _ _ => rfl)))) po_none)) (pe_op op_mulA (pe_lst (pa_cons (pe_lst pa_nil) pa_nil)) (pe_callTy call_intA (by rfl) T.n_int (by decide +kernel) (pa_cons (pe_cmpR (op_eqA hr) (pe_callB call_len (by rfl) T.n_len (by decide +kernel) (pa_cons (pv 1) pa_nil)) pe_int (nomark _)) pa_nil)))))))))))))
      (pss_one (ps_ret (pe_op op_addA (pe_op op_addA (pe_slice sl_A (pv 1) po_none (po_some (pv 2))) (pe_lst (pa_cons (pv 3) pa_nil))) (pe_slice sl_A (pv 1) (po_some (pe_op op_addA (pv 2) pe_int)) po_none)))))))))))
end
end K04
set_option Elab.async false
set_option linter.all false
set_option maxRecDepth 100000
set_option maxHeartbeats 4000000
namespace K04
open PySem PySem.Spec PyProof.Rows L2 My
section
variable {P : Program} {w : World} {K : PySem.W.Frag} {mg : Str → Option Value} {base : Heap}
/-! ### _law_is_in -/
def pr_is_in : V → V → V → Hp → VK → XK → Prop := fun x y z H Q _ => ∃ (s : Str) (lo hi : Nat), x = .str s ∧ y = .int (lo : Nat) ∧ z = .int (hi : Nat) ∧ WdOk s.cps.toList ∧ Q (.bl (numZ lo hi s).isSome) H
def sp__law_is_in (K : PySem.W.Frag) : Sp := Sp3 pr_is_in
def t__law_is_in (K : PySem.W.Frag) : TS :=
  (tRet (tAndV (tInA K (tIxA K (tVar 0) (tC (.int 0))) (tC (.str "0123456789"))) (tChain rLeA rLeA (tVar 1) (tCB rIntA (tCons (tVar 0) tNil)) (tVar 2))))
theorem pure__law_is_in (T : Txt K mg) {x y z : V} {H : Hp} {Q : VK} {E : XK} (h : pr_is_in x y z H Q E) : t__law_is_in K { nx := fun _ H' => Q .non H', rt := Q } [some x, some y, some z] H := by
  obtain ⟨s, lo, hi, rfl, rfl, rfl, wd, q⟩ := h
  obtain ⟨c, t, e⟩ := List.exists_cons_of_ne_nil wd.ne.1
  have hl : s.length ≤ 12 := by have := wd.ne.2; rw [tl_len] at this; exact this
  have hf : figB s = decide (c ∈ FIG) := by unfold figB; rw [e]
  have hs := numOf_isSome wd
  unfold t__law_is_in
  walk_at "w"
  refine st_ix_str0 (c := c) (by omega) (by rw [e]; rfl) ?_
  walk_at "w"
  rw [show decide (c ∈ ("0123456789" : Str).cps.toList) = figB s from hf.symm]
  cases hn : numOf s with
  | none =>
    rw [show figB s = false by rw [← hs, hn]; rfl]
    rw [numZ_none hn] at q
    walk_at "w"
    exact q
  | some n =>
    obtain ⟨es, hn2⟩ := numOf_some wd hn
    rw [show figB s = true by rw [← hs, hn]; rfl]
    rw [numZ_of hn] at q
    subst es
    walk_at "w"
    refine st_int_str (numS_int (n := n) (by omega)) (by omega) ?_
    walk_at "w"
    refine ite2 (fun h1 => ?_) (fun h1 => ?_)
    · have h1 : lo ≤ n := by have := of_decide_eq_true h1; omega
      walk_at "w"
      by_cases h2 : n ≤ hi
      · rw [if_pos ⟨h1, h2⟩] at q
        rw [decide_eq_true (show ((n : Nat) : Int) ≤ (hi : Nat) by omega)]
        exact q
      · rw [if_neg (fun z => h2 z.2)] at q
        rw [decide_eq_false (show ¬ ((n : Nat) : Int) ≤ (hi : Nat) by omega)]
        exact q
    · have h1 : ¬ lo ≤ n := fun e => h1 (decide_eq_true (by omega))
      rw [if_neg (fun z => h1 z.1)] at q
      exact q
theorem ok__law_is_in (T : Txt K mg)  : Kp P w K mg base CX0 1 "_law_is_in" ["_law_word", "_law_low", "_law_high"] (sp__law_is_in K) := by
  obtain ⟨fd, F⟩ := T.c.def_ 34 (d := d__law_is_in) rfl
  refine ⟨⟨_, fd, T.g__law_is_in, F.kp, F.bindsN fun _ _ _ _ _ _ us hl => match us, hl with | [_, _, _], _ => rfl, F.ok sc__law_is_in Sp3.len (fun cdv A outer s H vs Q E hr h => ?_)⟩⟩
  obtain ⟨v0, v1, v2, rfl, h⟩ := h
  refine ⟨t__law_is_in K, PSs.nox (?_), pure__law_is_in T h⟩
  exact (pss_one (ps_ret (pe_and (pe_inA hr (pe_ixA hr (pv 0) pe_int (fun _ _ => rfl)) pe_str (by rfl)) (pe_one (pe_chain op_leA op_leA (pv 1) (pe_callTy call_intA (by rfl) T.n_int (by decide +kernel) (pa_cons (pv 0) pa_nil)) (pv 2))))))
theorem use_isin {s : Str} {lo hi : Nat} {y z : V} {H : Hp} {Q : VK} {E : XK} (hy : y = .int (lo : Nat)) (hz : z = .int (hi : Nat)) (wd : WdOk s.cps.toList) (q : Q (.bl (numZ lo hi s).isSome) H) : Sp3 pr_is_in [.str s, y, z] H Q E := ⟨_, _, _, rfl, s, lo, hi, rfl, hy, hz, wd, q⟩
/-! ### _law_fraction_wrong -/
def optN : Option Nat → V
  | none => .non
  | some j => .int (j : Nat)
def fracEnd (k : Nat) (ws : List Str) : Option Nat := match fracP k ws with
  | .error j => some j
  | .ok _ => if ws.length = k + 3 then none else some (k + 3)
def pr_fw (K : PySem.W.Frag) : V → V → Hp → VK → XK → Prop := fun x y H Q _ => ∃ (p : Addr) (ws : List Str) (k : Nat), x = .ref p ∧ y = .int (k : Nat) ∧ SqL K H p (ws.map V.str) ∧ WdW ws ∧ k ≤ ws.length ∧ ∀ H', Same H H' → Q (optN (fracEnd k ws)) H'
def sp__law_fraction_wrong (K : PySem.W.Frag) : Sp := Sp2 (pr_fw K)
def t__law_fraction_wrong (K : PySem.W.Frag) : TS :=
  (tSeq (tIfS (tOr (tTest (tOp (rEqA K) (tCB (rLenA K) (tCons (tVar 0) tNil)) (tVar 1))) (tNot (tB (tCall (sp__law_is_in K) [] E0 (tCons (tIxA K (tVar 0) (tVar 1)) (tCons (tC (.int 1)) (tCons (tC (.int 1000)) tNil))))))) (tRet (tVar 1)) tNext)
  (tSeq (tIfS (tTest (tOp (rNeA K) (tSl (rSlA K) (tVar 0) (tPart (tOp (rAddA K) (tVar 1) (tC (.int 1)))) (tPart (tOp (rAddA K) (tVar 1) (tC (.int 2))))) (tLst (tCons (tC (.str "/")) tNil)))) (tRet (tOp (rAddA K) (tVar 1) (tC (.int 1)))) tNext)
  (tSeq (tIfS (tOr (tTest (tOp (rEqA K) (tCB (rLenA K) (tCons (tVar 0) tNil)) (tOp (rAddA K) (tVar 1) (tC (.int 2))))) (tNot (tB (tCall (sp__law_is_in K) [] E0 (tCons (tIxA K (tVar 0) (tOp (rAddA K) (tVar 1) (tC (.int 2)))) (tCons (tCB rIntA (tCons (tIxA K (tVar 0) (tVar 1)) tNil)) (tCons (tC (.int 1000)) tNil))))))) (tRet (tOp (rAddA K) (tVar 1) (tC (.int 2)))) tNext)
  (tRet (tIf (tTest (tOp rGtA (tCB (rLenA K) (tCons (tVar 0) tNil)) (tOp (rAddA K) (tVar 1) (tC (.int 3))))) (tOp (rAddA K) (tVar 1) (tC (.int 3))) (tC .non))))))
theorem getD_lt {ws : List Str} {k : Nat} (h : k < ws.length) : ws[k]? = some (ws.getD k "") := by
  rw [List.getD_eq_getElem?_getD, List.getElem?_eq_getElem h]; rfl
theorem getD_ge {ws : List Str} {k : Nat} (h : ws.length ≤ k) : ws.getD k "" = "" := by
  rw [List.getD_eq_getElem?_getD, List.getElem?_eq_none h]; rfl
theorem getD_wd {ws : List Str} {k : Nat} (w : WdW ws) (h : k < ws.length) : WdOk (ws.getD k "").cps.toList := w _ (List.mem_of_getElem? (getD_lt h))
theorem numZ_nil {lo hi : Nat} : numZ lo hi "" = none := numZ_none numOf_nil
theorem wd_strOk {z : Str} (h : WdOk z.cps.toList) : PyData.strOk z = true := strOk_iff.mpr fun c hc => by
  rcases h with ⟨_, _, h3⟩ | ⟨n, _, e⟩ | e
  · have := (mem_LET c).mp (h3 c hc); omega
  · have := numS_fig (n := n) (c := c) (by rw [← e]; exact hc); omega
  · rw [e] at hc
    have := List.mem_singleton.mp hc; omega
theorem row_shaped {ws : List Str} (w : WdW ws) : SeqAt.shaped (.list (ws.map PyData.str)) = true := shaped_strs fun z hz => wd_strOk (w z hz)
theorem sl_nil : ¬ (("" : Str) = "/") := by decide +kernel
theorem one_eqv (ws : List Str) (j : Nat) : PyData.eqv (.list (((ws.drop j).take 1).map PyData.str)) (.list ([("/" : Str)].map PyData.str)) = decide (ws.getD j "" = "/") := by
  rcases Nat.lt_or_ge j ws.length with h | h
  · have e : (ws.drop j).take 1 = [ws.getD j ""] := by
      rw [List.drop_eq_getElem_cons h]
      have := getD_lt h
      rw [List.getElem?_eq_getElem h] at this
      injection this with this
      rw [← this]; rfl
    rw [e]
    show ((ws.getD j "" == ("/" : Str)) && true) = _
    rw [Bool.and_true]
    by_cases h2 : ws.getD j "" = "/"
    · rw [h2, decide_eq_true rfl]; simp
    · rw [decide_eq_false h2, beq_eq_false_iff_ne.mpr h2]
  · rw [List.drop_eq_nil_of_le h, getD_ge h, decide_eq_false sl_nil]; rfl
theorem sl_shaped : SeqAt.shaped (.list ([("/" : Str)].map PyData.str)) = true := shaped_strs fun z hz => by rw [List.mem_singleton.mp hz]; decide +kernel
theorem pure__law_fraction_wrong (T : Txt K mg) {x y : V} {H : Hp} {Q : VK} {E : XK} (h : pr_fw K x y H Q E) : t__law_fraction_wrong K { nx := fun _ H' => Q .non H', rt := Q } [some x, some y] H := by
  obtain ⟨p, ws, k, rfl, rfl, hp, wd, hk, q⟩ := h
  unfold fracEnd fracP at q
  unfold t__law_fraction_wrong
  walk_at "w"
  refine st_lenL hp ?_
  rw [List.length_map]
  walk_at "w"
  by_cases h0 : ws.length = k
  · rw [decide_eq_true (show ((ws.length : Nat) : Int) = (k : Nat) by omega)]
    rw [getD_ge (by omega), numZ_nil] at q
    walk_at "w"
    exact q _ (Same.refl _)
  rw [decide_eq_false (show ¬ ((ws.length : Nat) : Int) = (k : Nat) by omega)]
  have hk1 : k < ws.length := by omega
  walk_at "w"
  refine st_ix_list hp (atI_nat (by rw [List.getElem?_map, getD_lt hk1]; rfl)) ?_
  walk_at "w"
  refine use_isin (lo := 1) (hi := 1000) rfl rfl (getD_wd wd hk1) ?_
  walk_at "w"
  cases h1 : numZ 1 1000 (ws.getD k "") with
  | none =>
    rw [h1] at q
    rw [show (none : Option Nat).isSome = false from rfl]
    walk_at "w"
    exact q _ (Same.refl _)
  | some t =>
  rw [h1] at q
  dsimp only at q
  rw [show (some t : Option Nat).isSome = true from rfl]
  walk_at "w"
  refine st_slice_list hp fun u1 hu1 => ?_
  rw [show ((k : Nat) : Int) + 1 = ((k + 1 : Nat) : Int) from rfl, show ((k : Nat) : Int) + 2 = ((k + 2 : Nat) : Int) from rfl, cutV_natA, show k + 2 - (k + 1) = 1 by omega]
  have s1 := same_new (o := .lst (((ws.map V.str).drop (k + 1)).take 1)) hu1
  have h1' : upd H u1 (.lst (((ws.map V.str).drop (k + 1)).take 1)) u1 = some (.lst (((ws.drop (k + 1)).take 1).map V.str)) := by rw [upd_same, List.map_take, List.map_drop]
  generalize upd H u1 (.lst (((ws.map V.str).drop (k + 1)).take 1)) = H1 at *
  walk_at "w"
  refine ⟨show 1 ≤ sizeLine by decide, fun u2 hu2 => ?_⟩
  have s2 := same_new (o := .lst [V.str "/"]) hu2
  refine st_neD (.lst (SqL.of (s2 _ _ h1')) (dp_strs _)) (.lst (xs := [("/" : Str)].map V.str) (SqL.of upd_same) (dp_strs _)) (row_shaped ((wd.drop _).take _)) sl_shaped ?_
  rw [one_eqv]
  have s12 := s1.trans s2
  generalize upd H1 u2 (.lst [V.str "/"]) = H2 at *
  walk_at "w"
  by_cases h2 : ws.getD (k + 1) "" = "/"
  rotate_left
  · rw [decide_eq_false h2]
    rw [if_neg h2] at q
    walk_at "w"
    exact q _ s12
  rw [decide_eq_true h2]
  rw [if_pos h2] at q
  walk_at "w"
  refine st_lenL (s12.seq hp) ?_
  rw [List.length_map]
  walk_at "w"
  by_cases h3 : ws.length = k + 2
  · rw [decide_eq_true (show ((ws.length : Nat) : Int) = (k : Nat) + 2 by omega)]
    rw [getD_ge (ws := ws) (k := k + 2) (by omega), numZ_nil] at q
    walk_at "w"
    exact q _ s12
  rw [decide_eq_false (show ¬ ((ws.length : Nat) : Int) = (k : Nat) + 2 by omega)]
  have hk2 : k + 2 < ws.length := by
    rcases Nat.lt_or_ge (k + 1) ws.length with h | h
    · omega
    · rw [getD_ge h] at h2; exact absurd h2 sl_nil
  obtain ⟨n1, n2, n3⟩ := numZ_some h1
  obtain ⟨e1, _⟩ := numOf_some (getD_wd wd hk1) n1
  walk_at "w"
  refine st_ix_list (s12.seq hp) (i := ((k + 2 : Nat) : Int)) (atI_nat (by rw [List.getElem?_map, getD_lt hk2]; rfl)) ?_
  walk_at "w"
  refine st_ix_list (s12.seq hp) (atI_nat (by rw [List.getElem?_map, getD_lt hk1]; rfl)) ?_
  rw [e1]
  have lt := numS_len (n := t) (k := 20) (by decide) (by omega)
  walk_at "w"
  refine st_int_str (numS_int (by omega)) (by omega) ?_
  walk_at "w"
  refine use_isin (lo := t) (hi := 1000) rfl rfl (getD_wd wd hk2) ?_
  walk_at "w"
  cases h4 : numZ t 1000 (ws.getD (k + 2) "") with
  | none =>
    rw [h4] at q
    rw [show (none : Option Nat).isSome = false from rfl]
    walk_at "w"
    exact q _ s12
  | some b =>
    rw [h4] at q
    dsimp only at q
    rw [show (some b : Option Nat).isSome = true from rfl]
    walk_at "w"
    refine st_lenL (s12.seq hp) ?_
    rw [List.length_map]
    walk_at "w"
    by_cases h5 : ws.length = k + 3
    · rw [decide_eq_false (show ¬ ((k : Nat) : Int) + 3 < (ws.length : Nat) by omega)]
      rw [if_pos h5] at q
      walk_at "w"
      exact q _ s12
    · rw [decide_eq_true (show ((k : Nat) : Int) + 3 < (ws.length : Nat) by omega)]
      rw [if_neg h5] at q
      walk_at "w"
      exact q _ s12
theorem ok__law_fraction_wrong (T : Txt K mg) (c__law_is_in : Kp P w K mg base CX0 1 "_law_is_in" ["_law_word", "_law_low", "_law_high"] (sp__law_is_in K)) : Kp P w K mg base CX0 2 "_law_fraction_wrong" ["_law_row", "_law_at"] (sp__law_fraction_wrong K) := by
  obtain ⟨fd, F⟩ := T.c.def_ 35 (d := d__law_fraction_wrong) rfl
  refine ⟨⟨_, fd, T.g__law_fraction_wrong, F.kp, F.bindsN fun _ _ _ _ _ _ us hl => match us, hl with | [_, _], _ => rfl, F.ok sc__law_fraction_wrong Sp2.len (fun cdv A outer s H vs Q E hr h => ?_)⟩⟩
  obtain ⟨v0, v1, rfl, h⟩ := h
  refine ⟨t__law_fraction_wrong K, PSs.nox (?_), pure__law_fraction_wrong T h⟩
  exact (pss_cons (ps_if (PW.pt (pw_or (pt_cmpR (op_eqA hr) (pe_callB call_len (by rfl) T.n_len (by decide +kernel) (pa_cons (pv 0) pa_nil)) (pv 1) (nomark _)) (pw_or1 (pt_not (pt_val (pe_cK c__law_is_in (hr.mono (by decide)) rfl (pa_cons (pe_ixA hr (pv 0) (pv 1) (fun _ _ => rfl)) (pa_cons pe_int (pa_cons pe_int pa_nil))))))))) (pss_one (ps_ret (pv 1))) pss_nil)
      (pss_cons (ps_if (pt_cmpR (op_neA hr) (pe_slice sl_A (pv 0) (po_some (pe_op op_addA (pv 1) pe_int)) (po_some (pe_op op_addA (pv 1) pe_int))) (pe_lst (pa_cons pe_str pa_nil)) (nomark _)) (pss_one (ps_ret (pe_op op_addA (pv 1) pe_int))) pss_nil)
      (pss_cons (ps_if (PW.pt (pw_or (pt_cmpR (op_eqA hr) (pe_callB call_len (by rfl) T.n_len (by decide +kernel) (pa_cons (pv 0) pa_nil)) (pe_op op_addA (pv 1) pe_int) (nomark _)) (pw_or1 (pt_not (pt_val (pe_cK c__law_is_in (hr.mono (by decide)) rfl (pa_cons (pe_ixA hr (pv 0) (pe_op op_addA (pv 1) pe_int) (fun _ _ => rfl)) (pa_cons (pe_callTy call_intA (by rfl) T.n_int (by decide +kernel) (pa_cons (pe_ixA hr (pv 0) (pv 1) (fun _ _ => rfl)) pa_nil)) (pa_cons pe_int pa_nil))))))))) (pss_one (ps_ret (pe_op op_addA (pv 1) pe_int))) pss_nil)
      (pss_one (ps_ret (pe_ifExp (pt_cmpR op_gtA (pe_callB call_len (by rfl) T.n_len (by decide +kernel) (pa_cons (pv 0) pa_nil)) (pe_op op_addA (pv 1) pe_int) (nomark _)) (pe_op op_addA (pv 1) pe_int) pe_non))))))
/-! ### _law_order_wrong -/
def keyL (o : Ord) : PyData := .list [.str (sortS o.line), .int (o.k : Nat)]
def orderW (os : List Ord) (ws : List Str) : Option Nat := match orderP os ws with
  | .error j => some j
  | .ok _ => if ws.length = orderEnd ws then none else some (orderEnd ws)
def pr_ow (K : PySem.W.Frag) : V → V → Hp → VK → XK → Prop := fun x y H Q _ => ∃ (p : Addr) (ws : List Str) (os : List Ord), x = .ref p ∧ SqL K H p (ws.map V.str) ∧ WdW ws ∧ (ws.getD 0 "" = "line" ∨ ws.getD 0 "" = "degree") ∧ Dp K H y (.list (os.map keyL)) ∧ ∀ H', Same H H' → Q (optN (orderW os ws)) H'
def sp__law_order_wrong (K : PySem.W.Frag) : Sp := Sp2 (pr_ow K)
def t__law_order_wrong_0 (K : PySem.W.Frag) : TS :=
  (tSeq (tIfS (tOr (tTest (tOp (rEqA K) (tCB (rLenA K) (tCons (tVar 0) tNil)) (tC (.int 1)))) (tOr (tNot (tB (tCall (sp__law_is_in K) [] E0 (tCons (tIxA K (tVar 0) (tC (.int 1))) (tCons (tVar 2) (tCons (tVar 3) tNil)))))) (tTest (tOp (L2.rInD K) (tLst (tCons (tIxA K (tVar 0) (tC (.int 0))) (tCons (tCB rIntA (tCons (tIxA K (tVar 0) (tC (.int 1))) tNil)) tNil))) (tVar 1))))) (tRet (tC (.int 1))) tNext)
  (tSeq (tIfS (tTest (tOp (rEqA K) (tCB (rLenA K) (tCons (tVar 0) tNil)) (tC (.int 2)))) (tRet (tC .non)) tNext)
  (tRet (tIf (tTest (tOp (rNeA K) (tIxA K (tVar 0) (tC (.int 2))) (tC (.str "beside")))) (tC (.int 2)) (tCall (sp__law_fraction_wrong K) [] E0 (tCons (tVar 0) (tCons (tC (.int 3)) tNil)))))))
def t__law_order_wrong (K : PySem.W.Frag) : TS :=
  (tSeq (tAsg (tIf (tTest (tOp (rEqA K) (tIxA K (tVar 0) (tC (.int 0))) (tC (.str "line")))) (tTup (tCons (tC (.int 0)) (tCons (tC (.int 3)) tNil))) (tTup (tCons (tC (.int 1)) (tCons (tC (.int 6)) tNil)))) (gTup K 2 (gCons (gName 2) (gCons (gName 3) gNil))))
  (t__law_order_wrong_0 K))
theorem keyL_eqv (a b : Bool) (i j : Nat) : PyData.eqv (.list [.str (sortS a), .int (i : Nat)]) (.list [.str (sortS b), .int (j : Nat)]) = decide (a = b ∧ i = j) := key_eqv a b i j
theorem keysL_any (os : List Ord) (line : Bool) (n : Nat) : ((os.map keyL).any fun z => PyData.eqv z (.list [.str (sortS line), .int (n : Nat)])) = os.any (Ord.is line n) := by
  rw [List.any_map]
  congr 1
  funext o
  exact keyL_eqv _ _ _ _
theorem keyL_lay (line : Bool) (n : Nat) : (PyData.list [.str (sortS line), .int (n : Nat)]).canLay0 = true := key_lay line n
theorem keyL_shaped (line : Bool) (n : Nat) : SeqAt.shaped (.list [.str (sortS line), .int (n : Nat)]) = true := by
  unfold SeqAt.shaped
  rw [keyL_lay]; rfl
theorem keysL_shaped (os : List Ord) : SeqAt.shaped (.list (os.map keyL)) = true := by
  refine shaped_of (fun d hd => ?_) (fun d hd => ?_)
  · obtain ⟨o, _, rfl⟩ := List.mem_map.mp hd
    exact keyL_lay _ _
  · obtain ⟨o, _, rfl⟩ := List.mem_map.mp hd
    exact (show 1 ≤ 60 by decide)
theorem ow_end (T : Txt K mg) {p : Addr} {ws : List Str} {os : List Ord} {y : V} {line : Bool} {lo hi : Nat} {H0 H : Hp} {Q : VK} (s : Same H0 H) (hp : SqL K H p (ws.map V.str)) (wd : WdW ws) (hz : ws.getD 0 "" = sortS line) (h0 : 0 < ws.length) (dy : Dp K H y (.list (os.map keyL)))
    (hlo : lo = if line then 0 else 1) (hhi : hi = if line then 3 else 6) (q : ∀ H', Same H0 H' → Q (optN (orderW os ws)) H') :
    t__law_order_wrong_0 K ⟨fun _ H' => Q .non H', Q, fun _ _ => False, fun _ _ => False⟩ [some (.ref p), some y, some (.int (lo : Nat)), some (.int (hi : Nat))] H := by
  have e1 : (if ws.getD 0 "" = "line" then 0 else 1) = lo := by
    rw [hz, hlo]
    have := sort_line line
    cases line with
    | true => rw [if_pos (of_decide_eq_true this)]; rfl
    | false => rw [if_neg (of_decide_eq_false this)]; rfl
  have e2 : (if ws.getD 0 "" = "line" then 3 else 6) = hi := by
    rw [hz, hhi]
    have := sort_line line
    cases line with
    | true => rw [if_pos (of_decide_eq_true this)]; rfl
    | false => rw [if_neg (of_decide_eq_false this)]; rfl
  have e3 : decide (ws.getD 0 "" = "line") = line := by rw [hz]; exact sort_line line
  unfold orderW orderP at q
  rw [e1, e2, e3] at q
  unfold t__law_order_wrong_0
  walk_at "w"
  refine st_lenL hp ?_
  rw [List.length_map]
  walk_at "w"
  by_cases h1 : ws.length = 1
  · rw [decide_eq_true (show ((ws.length : Nat) : Int) = 1 by omega)]
    rw [getD_ge (ws := ws) (k := 1) (by omega), numZ_nil] at q
    walk_at "w"
    exact q _ s
  rw [decide_eq_false (show ¬ ((ws.length : Nat) : Int) = 1 by omega)]
  have hk1 : 1 < ws.length := by omega
  walk_at "w"
  refine st_ix_list hp (i := ((1 : Nat) : Int)) (atI_nat (by rw [List.getElem?_map, getD_lt hk1]; rfl)) ?_
  walk_at "w"
  refine use_isin (lo := lo) (hi := hi) rfl rfl (getD_wd wd hk1) ?_
  walk_at "w"
  cases h2 : numZ lo hi (ws.getD 1 "") with
  | none =>
    rw [h2] at q
    rw [show (none : Option Nat).isSome = false from rfl]
    walk_at "w"
    exact q _ s
  | some n =>
  rw [h2] at q
  dsimp only at q
  rw [show (some n : Option Nat).isSome = true from rfl]
  obtain ⟨n1, n2, n3⟩ := numZ_some h2
  obtain ⟨e4, n4⟩ := numOf_some (getD_wd wd hk1) n1
  have lt := numS_len (n := n) (k := 20) (by decide) (by omega)
  walk_at "w"
  refine st_ix_list hp (i := ((0 : Nat) : Int)) (atI_nat (by rw [List.getElem?_map, getD_lt h0]; rfl)) ?_
  rw [hz]
  walk_at "w"
  refine st_ix_list hp (i := ((1 : Nat) : Int)) (atI_nat (by rw [List.getElem?_map, getD_lt hk1]; rfl)) ?_
  rw [e4]
  walk_at "w"
  refine st_int_str (numS_int (by omega)) (by omega) ?_
  walk_at "w"
  refine ⟨show 2 ≤ sizeLine by decide, fun u hu => ?_⟩
  have s2 := same_new (o := .lst [V.str (sortS line), V.int (n : Nat)]) hu
  walk_at "w"
  refine ⟨_, _, .lst (xs := [V.str (sortS line), V.int (n : Nat)]) (SqL.of upd_same) (.cons (.str _) (.cons (.int _) .nil)), dy.same s2, keyL_shaped line n, keysL_shaped os, ?_⟩
  rw [keysL_any]
  have hp2 := s2.seq hp
  have s := s.trans s2
  generalize upd H u (.lst [V.str (sortS line), V.int (n : Nat)]) = H2 at *
  walk_at "w"
  cases hany : os.any (Ord.is line n) with
  | true =>
    rw [hany, if_pos rfl] at q
    walk_at "w"
    exact q _ s
  | false =>
  rw [hany, if_neg Bool.false_ne_true] at q
  walk_at "w"
  refine st_lenL hp2 ?_
  rw [List.length_map]
  walk_at "w"
  by_cases h3 : ws.length = 2
  · rw [decide_eq_true (show ((ws.length : Nat) : Int) = 2 by omega)]
    rw [if_pos (by omega)] at q
    dsimp only at q
    unfold orderEnd at q
    rw [if_pos (show ws.length ≤ 2 by omega), if_pos h3] at q
    walk_at "w"
    exact q _ s
  rw [decide_eq_false (show ¬ ((ws.length : Nat) : Int) = 2 by omega)]
  rw [if_neg (by omega)] at q
  have hk2 : 2 < ws.length := by omega
  walk_at "w"
  refine st_ix_list hp2 (i := ((2 : Nat) : Int)) (atI_nat (by rw [List.getElem?_map, getD_lt hk2]; rfl)) ?_
  walk_at "w"
  by_cases h4 : ws.getD 2 "" = "beside"
  · rw [decide_eq_true h4]
    rw [if_pos h4] at q
    walk_at "w"
    refine ⟨_, _, rfl, p, ws, 3, rfl, rfl, hp2, wd, by omega, fun H' s' => ?_⟩
    have q := q H' (s.trans s')
    unfold orderEnd at q
    rw [if_neg (show ¬ ws.length ≤ 2 by omega)] at q
    unfold fracEnd
    cases h5 : fracP 3 ws with
    | error j => rw [h5] at q; exact q
    | ok f => rw [h5] at q; exact q
  · rw [decide_eq_false h4]
    rw [if_neg h4] at q
    walk_at "w"
    exact q _ s
theorem pure__law_order_wrong (T : Txt K mg) {x y : V} {H : Hp} {Q : VK} {E : XK} (h : pr_ow K x y H Q E) : t__law_order_wrong K { nx := fun _ H' => Q .non H', rt := Q } [some x, some y, none, none] H := by
  obtain ⟨p, ws, os, rfl, hp, wd, hz, dy, q⟩ := h
  have h0 : 0 < ws.length := by
    rcases Nat.eq_zero_or_pos ws.length with h | h
    · exfalso
      rw [getD_ge (by omega)] at hz
      rcases hz with e | e
      · exact absurd e (by decide +kernel)
      · exact absurd e (by decide +kernel)
    · exact h
  obtain ⟨line, hl⟩ : ∃ line, ws.getD 0 "" = sortS line := by
    rcases hz with h | h
    · exact ⟨true, h⟩
    · exact ⟨false, h⟩
  unfold t__law_order_wrong
  walk_at "w"
  refine st_ix_list hp (i := ((0 : Nat) : Int)) (atI_nat (by rw [List.getElem?_map, getD_lt h0]; rfl)) ?_
  rw [hl]
  walk_at "w"
  rw [sort_line]
  cases line with
  | true =>
    walk_at "w"
    refine ⟨show 2 ≤ sizeLine by decide, fun v2 hv2 => ?_⟩
    have s2 := same_new (o := .tup [V.int 0, V.int 3]) hv2
    refine w_gtup2 (.inl (.inl upd_same)) ?_
    walk_at "w"
    exact ow_end T (lo := 0) (hi := 3) s2 (s2.seq hp) wd hl h0 (dy.same s2) rfl rfl q
  | false =>
    walk_at "w"
    refine ⟨show 2 ≤ sizeLine by decide, fun v2 hv2 => ?_⟩
    have s2 := same_new (o := .tup [V.int 1, V.int 6]) hv2
    refine w_gtup2 (.inl (.inl upd_same)) ?_
    walk_at "w"
    exact ow_end T (lo := 1) (hi := 6) s2 (s2.seq hp) wd hl h0 (dy.same s2) rfl rfl q
theorem ok__law_order_wrong (T : Txt K mg) (c__law_is_in : Kp P w K mg base CX0 1 "_law_is_in" ["_law_word", "_law_low", "_law_high"] (sp__law_is_in K)) (c__law_fraction_wrong : Kp P w K mg base CX0 2 "_law_fraction_wrong" ["_law_row", "_law_at"] (sp__law_fraction_wrong K)) : Kp P w K mg base CX0 3 "_law_order_wrong" ["_law_row", "_law_known"] (sp__law_order_wrong K) := by
  obtain ⟨fd, F⟩ := T.c.def_ 36 (d := d__law_order_wrong) rfl
  refine ⟨⟨_, fd, T.g__law_order_wrong, F.kp, F.bindsN fun _ _ _ _ _ _ us hl => match us, hl with | [_, _], _ => rfl, F.ok sc__law_order_wrong Sp2.len (fun cdv A outer s H vs Q E hr h => ?_)⟩⟩
  obtain ⟨v0, v1, rfl, h⟩ := h
  refine ⟨t__law_order_wrong K, PSs.nox (?_), pure__law_order_wrong T h⟩
  exact (pss_cons (ps_asg (pe_ifExp (pt_cmpR (op_eqA hr) (pe_ixA hr (pv 0) pe_int (fun _ _ => rfl)) pe_str (nomark _)) (pe_tup (pa_cons pe_int (pa_cons pe_int pa_nil))) (pe_tup (pa_cons pe_int (pa_cons pe_int pa_nil)))) (pg_tup rfl (pgs_cons (pg_name (i := 2) sc__law_order_wrong.nd rfl (by first | exact Or.inl rfl | exact Or.inr rfl)) (pgs_cons (pg_name (i := 3) sc__law_order_wrong.nd rfl (by first | exact Or.inl rfl | exact Or.inr rfl)) pgs_nil))))
      (pss_cons (ps_if (PW.pt (pw_or (pt_cmpR (op_eqA hr) (pe_callB call_len (by rfl) T.n_len (by decide +kernel) (pa_cons (pv 0) pa_nil)) pe_int (nomark _)) (pw_or (pt_not (pt_val (pe_cK c__law_is_in (hr.mono (by decide)) rfl (pa_cons (pe_ixA hr (pv 0) pe_int (fun _ _ => rfl)) (pa_cons (pv 2) (pa_cons (pv 3) pa_nil)))))) (pw_or1 (pt_cmpR (op_inDp hr) (pe_lst (pa_cons (pe_ixA hr (pv 0) pe_int (fun _ _ => rfl)) (pa_cons (pe_callTy call_intA (by rfl) T.n_int (by decide +kernel) (pa_cons (pe_ixA hr (pv 0) pe_int (fun _ _ => rfl)) pa_nil)) pa_nil))) (pv 1) (by rfl)))))) (pss_one (ps_ret pe_int)) pss_nil)
      (pss_cons (ps_if (pt_cmpR (op_eqA hr) (pe_callB call_len (by rfl) T.n_len (by decide +kernel) (pa_cons (pv 0) pa_nil)) pe_int (nomark _)) (pss_one (ps_ret pe_non)) pss_nil)
      (pss_one (ps_ret (pe_ifExp (pt_cmpR (op_neA hr) (pe_ixA hr (pv 0) pe_int (fun _ _ => rfl)) pe_str (nomark _)) pe_int (pe_cK c__law_fraction_wrong (hr.mono (by decide)) rfl (pa_cons (pv 0) (pa_cons pe_int pa_nil)))))))))
end
end K04
set_option Elab.async false
set_option linter.all false
set_option maxRecDepth 100000
set_option maxHeartbeats 4000000
namespace K04
open PySem PySem.Spec PyProof.Rows L2 My
section
variable {P : Program} {w : World} {K : PySem.W.Frag} {mg : Str → Option Value} {base : Heap}
/-! ### _law_row_wrong -/
def rowE (st : CSt) (ws : List Str) : Option Nat := match rowP st ws with
  | .error j => some j
  | .ok _ => none
def pr_rw (K : PySem.W.Frag) : V → V → V → Hp → VK → XK → Prop := fun x y z H Q _ => ∃ (p : Addr) (ws : List Str) (st : CSt), x = .ref p ∧ z = .int (st.stage : Nat) ∧ SqL K H p (ws.map V.str) ∧ WdW ws ∧ ws ≠ [] ∧ Dp K H y (.list (st.os.map keyL)) ∧ ∀ H', Same H H' → Q (optN (rowE st ws)) H'
def sp__law_row_wrong (K : PySem.W.Frag) : Sp := Sp3 (pr_rw K)
def t__law_row_wrong (K : PySem.W.Frag) : TS :=
  (tSeq (tIfS (tTest (tOp (rInA K false) (tIxA K (tVar 0) (tC (.int 0))) (tTup (tCons (tC (.str "line")) (tCons (tC (.str "degree")) tNil))))) (tRet (tIf (tOr (tTest (tOp rGtA (tVar 2) (tC (.int 0)))) (tTest (tOp rGtA (tCB (rLenA K) (tCons (tVar 1) tNil)) (tC (.int 5))))) (tC (.int 0)) (tCall (sp__law_order_wrong K) [] E0 (tCons (tVar 0) (tCons (tVar 1) tNil))))) tNext)
  (tSeq (tIfS (tOr (tTest (tOp (rEqA K) (tVar 1) (tLst tNil))) (tTest (tOp rLeA (tDGet2 (tDisp (((tC (.str "halves")), (tC (.int 1))) :: (((tC (.str "kept")), (tC (.int 2))) :: (((tC (.str "back")), (tC (.int 3))) :: [])))) (tIxA K (tVar 0) (tC (.int 0))) (tC (.int 0))) (tVar 2)))) (tRet (tC (.int 0))) tNext)
  (tSeq (tIfS (tTest (tOp (rEqA K) (tIxA K (tVar 0) (tC (.int 0))) (tC (.str "halves")))) (tRet (tIf (tTest (tOp rGtA (tCB (rLenA K) (tCons (tVar 0) tNil)) (tC (.int 1)))) (tC (.int 1)) (tC .non))) tNext)
  (tSeq (tIfS (tTest (tOp (rEqA K) (tIxA K (tVar 0) (tC (.int 0))) (tC (.str "kept")))) (tRet (tCall (sp__law_fraction_wrong K) [] E0 (tCons (tVar 0) (tCons (tC (.int 1)) tNil)))) tNext)
  (tSeq (tIfS (tOr (tTest (tOp (rEqA K) (tCB (rLenA K) (tCons (tVar 0) tNil)) (tC (.int 1)))) (tNot (tB (tCall (sp__law_is_in K) [] E0 (tCons (tIxA K (tVar 0) (tC (.int 1))) (tCons (tC (.int 0)) (tCons (tC (.int 99999)) tNil))))))) (tRet (tC (.int 1))) tNext)
  (tRet (tIf (tTest (tOp rGtA (tCB (rLenA K) (tCons (tVar 0) tNil)) (tC (.int 2)))) (tC (.int 2)) (tC .non))))))))
theorem pure__law_row_wrong (T : Txt K mg) {x y z : V} {H : Hp} {Q : VK} {E : XK} (h : pr_rw K x y z H Q E) : t__law_row_wrong K { nx := fun _ H' => Q .non H', rt := Q } [some x, some y, some z] H := by
  obtain ⟨p, ws, st, rfl, rfl, hp, wd, hne, dy, q⟩ := h
  have h0 : 0 < ws.length := List.length_pos_iff.mpr hne
  have g0 : ∀ {H' : Hp}, Same H H' → ∀ {R : VK}, R (.str (ws.getD 0 "")) H' → rIxA K (.ref p) (.int 0) H' R := fun s R r => st_ix_list (s.seq hp) (i := ((0 : Nat) : Int)) (atI_nat (by rw [List.getElem?_map, getD_lt h0]; rfl)) r
  unfold rowE rowP at q
  unfold t__law_row_wrong
  walk_at "w"
  refine g0 (Same.refl _) ?_
  walk_at "w"
  refine in_sort (σ := []) fun H1 s1 => ?_
  walk_at "w"
  obtain ⟨pk, xs, ey, hk, dk⟩ := dy.lst_inv
  have hxl : xs.length = st.os.length := by rw [dk.len, List.length_map]
  by_cases hw : ws.getD 0 "" = "line" ∨ ws.getD 0 "" = "degree"
  · rw [if_pos hw] at q
    rw [decide_eq_true hw]
    walk_at "w"
    by_cases h1 : st.stage = 0
    rotate_left
    · rw [if_neg (fun z => h1 z.1)] at q
      rw [decide_eq_true (show (0 : Int) < (st.stage : Nat) by omega)]
      walk_at "w"
      exact q _ s1
    rw [decide_eq_false (show ¬ (0 : Int) < (st.stage : Nat) by omega)]
    walk_at "w"
    rw [ey]
    refine st_lenL (s1.seq hk) ?_
    rw [hxl]
    walk_at "w"
    by_cases h2 : st.os.length < 6
    rotate_left
    · rw [if_neg (fun z => h2 z.2)] at q
      rw [decide_eq_true (show (5 : Int) < (st.os.length : Nat) by omega)]
      walk_at "w"
      exact q _ s1
    rw [if_pos ⟨h1, h2⟩] at q
    rw [decide_eq_false (show ¬ (5 : Int) < (st.os.length : Nat) by omega)]
    walk_at "w"
    refine ⟨_, _, rfl, p, ws, st.os, rfl, s1.seq hp, wd, hw, by rw [← ey]; exact dy.same s1, fun H' s' => ?_⟩
    have q := q H' (s1.trans s')
    unfold orderW
    cases h3 : orderP st.os ws with
    | error j => rw [h3] at q; exact q
    | ok o =>
      rw [h3] at q
      dsimp only at q ⊢
      by_cases h4 : ws.length = orderEnd ws
      · rw [if_pos h4] at q ⊢; exact q
      · rw [if_neg h4] at q ⊢; exact q
  · rw [if_neg hw] at q
    rw [decide_eq_false hw]
    walk_at "w"
    refine ⟨Nat.zero_le _, fun u hu => ?_⟩
    have s2 : Same H1 (upd H1 u (.lst [])) := same_new hu
    refine st_eqD (dy.same (s1.trans s2)) (.lst (xs := []) (SqL.of upd_same) .nil) (keysL_shaped _) (by rfl) ?_
    rw [eqv_nil, List.isEmpty_map]
    have s12 := s1.trans s2
    generalize upd H1 u (.lst []) = H2 at *
    walk_at "w"
    by_cases hn : st.os = []
    · rw [if_neg (fun z => z.1 hn)] at q
      rw [show st.os.isEmpty = true by rw [hn]; rfl]
      walk_at "w"
      exact q _ s12
    rw [show st.os.isEmpty = false by cases hx : st.os; exact absurd hx hn; rfl]
    walk_at "w"
    refine get_stage (z := ws.getD 0 "") ?_ fun H3 s3 => ?_
    · intro H' R s' r
      walk_at "w"
      exact g0 (s12.trans s') r
    have s13 := s12.trans s3
    walk_at "w"
    by_cases h5 : st.stage < stageOf (ws.getD 0 "")
    rotate_left
    · rw [if_neg (fun z => h5 z.2)] at q
      rw [decide_eq_true (show ((stageOf (ws.getD 0 "") : Nat) : Int) ≤ (st.stage : Nat) by omega)]
      walk_at "w"
      exact q _ s13
    rw [if_pos ⟨hn, h5⟩] at q
    rw [decide_eq_false (show ¬ ((stageOf (ws.getD 0 "") : Nat) : Int) ≤ (st.stage : Nat) by omega)]
    walk_at "w"
    refine g0 s13 ?_
    walk_at "w"
    by_cases hh : ws.getD 0 "" = "halves"
    · rw [if_pos hh] at q
      rw [decide_eq_true hh]
      walk_at "w"
      refine st_lenL (s13.seq hp) ?_
      rw [List.length_map]
      walk_at "w"
      by_cases h6 : ws.length = 1
      · rw [if_pos h6] at q
        rw [decide_eq_false (show ¬ (1 : Int) < (ws.length : Nat) by omega)]
        walk_at "w"
        exact q _ s13
      · rw [if_neg h6] at q
        rw [decide_eq_true (show (1 : Int) < (ws.length : Nat) by omega)]
        walk_at "w"
        exact q _ s13
    rw [if_neg hh] at q
    rw [decide_eq_false hh]
    walk_at "w"
    refine g0 s13 ?_
    walk_at "w"
    by_cases hkp : ws.getD 0 "" = "kept"
    · rw [if_pos hkp] at q
      rw [decide_eq_true hkp]
      walk_at "w"
      refine ⟨_, _, rfl, p, ws, 1, rfl, rfl, s13.seq hp, wd, by omega, fun H' s' => ?_⟩
      have q := q H' (s13.trans s')
      walk_at "w"
      unfold fracEnd
      cases h7 : fracP 1 ws with
      | error j => rw [h7] at q; exact q
      | ok f =>
        rw [h7] at q
        dsimp only at q ⊢
        by_cases h8 : ws.length = 4
        · rw [if_pos h8] at q ⊢; exact q
        · rw [if_neg h8] at q ⊢; exact q
    rw [if_neg hkp] at q
    rw [decide_eq_false hkp]
    walk_at "w"
    refine st_lenL (s13.seq hp) ?_
    rw [List.length_map]
    walk_at "w"
    by_cases h9 : ws.length = 1
    · rw [decide_eq_true (show ((ws.length : Nat) : Int) = 1 by omega)]
      rw [getD_ge (ws := ws) (k := 1) (by omega), numZ_nil] at q
      walk_at "w"
      exact q _ s13
    rw [decide_eq_false (show ¬ ((ws.length : Nat) : Int) = 1 by omega)]
    have hk1 : 1 < ws.length := by omega
    walk_at "w"
    refine st_ix_list (s13.seq hp) (i := ((1 : Nat) : Int)) (atI_nat (by rw [List.getElem?_map, getD_lt hk1]; rfl)) ?_
    walk_at "w"
    refine use_isin (lo := 0) (hi := 99999) rfl rfl (getD_wd wd hk1) ?_
    walk_at "w"
    cases h10 : numZ 0 99999 (ws.getD 1 "") with
    | none =>
      rw [h10] at q
      rw [show (none : Option Nat).isSome = false from rfl]
      walk_at "w"
      exact q _ s13
    | some n =>
      rw [h10] at q
      dsimp only at q
      rw [show (some n : Option Nat).isSome = true from rfl]
      walk_at "w"
      refine st_lenL (s13.seq hp) ?_
      rw [List.length_map]
      walk_at "w"
      by_cases h11 : ws.length = 2
      · rw [if_pos h11] at q
        rw [decide_eq_false (show ¬ (2 : Int) < (ws.length : Nat) by omega)]
        walk_at "w"
        exact q _ s13
      · rw [if_neg h11] at q
        rw [decide_eq_true (show (2 : Int) < (ws.length : Nat) by omega)]
        walk_at "w"
        exact q _ s13
theorem ok__law_row_wrong (T : Txt K mg) (c__law_is_in : Kp P w K mg base CX0 1 "_law_is_in" ["_law_word", "_law_low", "_law_high"] (sp__law_is_in K)) (c__law_fraction_wrong : Kp P w K mg base CX0 2 "_law_fraction_wrong" ["_law_row", "_law_at"] (sp__law_fraction_wrong K)) (c__law_order_wrong : Kp P w K mg base CX0 3 "_law_order_wrong" ["_law_row", "_law_known"] (sp__law_order_wrong K)) : Kp P w K mg base CX0 4 "_law_row_wrong" ["_law_row", "_law_known", "_law_stage"] (sp__law_row_wrong K) := by
  obtain ⟨fd, F⟩ := T.c.def_ 37 (d := d__law_row_wrong) rfl
  refine ⟨⟨_, fd, T.g__law_row_wrong, F.kp, F.bindsN fun _ _ _ _ _ _ us hl => match us, hl with | [_, _, _], _ => rfl, F.ok sc__law_row_wrong Sp3.len (fun cdv A outer s H vs Q E hr h => ?_)⟩⟩
  obtain ⟨v0, v1, v2, rfl, h⟩ := h
  refine ⟨t__law_row_wrong K, PSs.nox (?_), pure__law_row_wrong T h⟩
  exact (pss_cons (ps_if (pt_cmpR (op_inA hr) (pe_ixA hr (pv 0) pe_int (fun _ _ => rfl)) (pe_tup (pa_cons pe_str (pa_cons pe_str pa_nil))) (by rfl)) (pss_one (ps_ret (pe_ifExp (PW.pt (pw_or (pt_cmpR op_gtA (pv 2) pe_int (nomark _)) (pw_or1 (pt_cmpR op_gtA (pe_callB call_len (by rfl) T.n_len (by decide +kernel) (pa_cons (pv 1) pa_nil)) pe_int (nomark _))))) pe_int (pe_cK c__law_order_wrong (hr.mono (by decide)) rfl (pa_cons (pv 0) (pa_cons (pv 1) pa_nil)))))) pss_nil)
      (pss_cons (ps_if (PW.pt (pw_or (pt_cmpR (op_eqA hr) (pv 1) (pe_lst pa_nil) (nomark _)) (pw_or1 (pt_cmpR op_leA (pe_dget2 (hu_of hr) (pe_disp (pps_cons pe_str pe_int (pps_cons pe_str pe_int (pps_cons pe_str pe_int pps_nil))) (by rfl) (by rfl) (fun z => by cases z) (by decide)) (pe_ixA hr (pv 0) pe_int (fun _ _ => rfl)) pe_int ⟨rfl, rfl, rfl, rfl⟩) (pv 2) (nomark _))))) (pss_one (ps_ret pe_int)) pss_nil)
      (pss_cons (ps_if (pt_cmpR (op_eqA hr) (pe_ixA hr (pv 0) pe_int (fun _ _ => rfl)) pe_str (nomark _)) (pss_one (ps_ret (pe_ifExp (pt_cmpR op_gtA (pe_callB call_len (by rfl) T.n_len (by decide +kernel) (pa_cons (pv 0) pa_nil)) pe_int (nomark _)) pe_int pe_non))) pss_nil)
      (pss_cons (ps_if (pt_cmpR (op_eqA hr) (pe_ixA hr (pv 0) pe_int (fun _ _ => rfl)) pe_str (nomark _)) (pss_one (ps_ret (pe_cK c__law_fraction_wrong (hr.mono (by decide)) rfl (pa_cons (pv 0) (pa_cons pe_int pa_nil))))) pss_nil)
      (pss_cons (ps_if (PW.pt (pw_or (pt_cmpR (op_eqA hr) (pe_callB call_len (by rfl) T.n_len (by decide +kernel) (pa_cons (pv 0) pa_nil)) pe_int (nomark _)) (pw_or1 (pt_not (pt_val (pe_cK c__law_is_in (hr.mono (by decide)) rfl (pa_cons (pe_ixA hr (pv 0) pe_int (fun _ _ => rfl)) (pa_cons pe_int (pa_cons pe_int pa_nil))))))))) (pss_one (ps_ret pe_int)) pss_nil)
      (pss_one (ps_ret (pe_ifExp (pt_cmpR op_gtA (pe_callB call_len (by rfl) T.n_len (by decide +kernel) (pa_cons (pv 0) pa_nil)) pe_int (nomark _)) pe_int pe_non))))))))
/-! ### _law_due -/
def pr_due (K : PySem.W.Frag) : V → Hp → VK → XK → Prop := fun x H Q _ => ∃ (p : Addr) (qs : List Addr) (Rs : List (List Str)), x = .ref p ∧ SqL K H p (qs.map V.ref) ∧ Paired (fun q ws => SqL K H q ((ws : List Str).map V.str)) qs Rs ∧ (∀ ws ∈ Rs, WdW ws) ∧
  match custP Rs with
  | .ok _ => ∀ H', Same H H' → Q .non H'
  | .error e => ∀ v H', Same H H' → Dp K H' v (.tuple [.int (e.1 : Nat), .int (e.2 : Nat)]) → Q v H'
def sp__law_due (K : PySem.W.Frag) : Sp := Sp1 (pr_due K)
def t__law_due_0 (K : PySem.W.Frag) : TS :=
  (tAsg (tDGet2 (tDisp (((tC (.str "halves")), (tC (.int 1))) :: (((tC (.str "kept")), (tC (.int 2))) :: (((tC (.str "back")), (tC (.int 3))) :: [])))) (tIxA K (tVar 4) (tC (.int 0))) (tC (.int 0))) (gName 2))
def t__law_due (K : PySem.W.Frag) : TS :=
  (tSeq (tAsg (tLst tNil) (gName 1))
  (tSeq (tAsg (tC (.int 0)) (gName 2))
  (tSeq (tFor (iEnum K (tCons (tVar 0) tNil)) (gTup K 2 (gCons (gName 3) (gCons (gName 4) gNil))) (tIfS (tTest (tOp (rNeA K) (tVar 4) (tLst tNil))) (tSeq (tAsg (tCall (sp__law_row_wrong K) [] E0 (tCons (tVar 4) (tCons (tVar 1) (tCons (tVar 2) tNil)))) (gName 5))
  (tSeq (tIfS (tB (tNotN (tVar 5))) (tRet (tTup (tCons (tVar 3) (tCons (tVar 5) tNil)))) tNext)
  (tSeq (tIfS (tTest (tOp (rInA K false) (tIxA K (tVar 4) (tC (.int 0))) (tTup (tCons (tC (.str "line")) (tCons (tC (.str "degree")) tNil))))) (tAsg (tOp (rAddA K) (tVar 1) (tLst (tCons (tLst (tCons (tIxA K (tVar 4) (tC (.int 0))) (tCons (tCB rIntA (tCons (tIxA K (tVar 4) (tC (.int 1))) tNil)) tNil))) tNil))) (gName 1)) tNext)
  (t__law_due_0 K)))) tNext))
  (tRet (tIf (tTest (tOp (rEqA K) (tVar 1) (tLst tNil))) (tTup (tCons (tCB (rLenA K) (tCons (tVar 0) tNil)) (tCons (tC (.int 0)) tNil))) (tC .non))))))
theorem strs_shaped {ws : List Str} (w : WdW ws) : SeqAt.shaped (.list (ws.map PyData.str)) = true := row_shaped w
theorem rowP_sort {st st' : CSt} {ws : List Str} (hw : ws.getD 0 "" = "line" ∨ ws.getD 0 "" = "degree") (h : rowP st ws = .ok st') : ∃ o : Ord, st'.os = st.os ++ [o] ∧ st'.stage = 0 ∧ ws.getD 0 "" = sortS o.line ∧ numOf (ws.getD 1 "") = some o.k := by
  unfold rowP at h
  rw [if_pos hw] at h
  split at h
  · rename_i h0
    cases ho : orderP st.os ws with
    | error j => rw [ho] at h; cases h
    | ok o =>
      rw [ho] at h
      dsimp only at h
      split at h
      · cases h
        refine ⟨o, rfl, h0.1, ?_⟩
        have e : o.line = decide (ws.getD 0 "" = "line") ∧ numOf (ws.getD 1 "") = some o.k := by
          unfold orderP at ho
          cases hn : numZ (if ws.getD 0 "" = "line" then 0 else 1) (if ws.getD 0 "" = "line" then 3 else 6) (ws.getD 1 "") with
          | none => rw [hn] at ho; cases ho
          | some n =>
            rw [hn] at ho
            dsimp only at ho
            have n1 := (numZ_some hn).1
            split at ho
            · cases ho
            · split at ho
              · cases ho; exact ⟨rfl, n1⟩
              · split at ho
                · cases hf : fracP 3 ws with
                  | error j => rw [hf] at ho; cases ho
                  | ok f => rw [hf] at ho; cases ho; exact ⟨rfl, n1⟩
                · cases ho
        refine ⟨?_, e.2⟩
        rw [e.1]
        rcases hw with h | h
        · rw [h, decide_eq_true rfl]; rfl
        · rw [h, decide_eq_false (by decide +kernel)]; rfl
      · cases h
  · cases h
theorem rowP_other {st st' : CSt} {ws : List Str} (hw : ¬ (ws.getD 0 "" = "line" ∨ ws.getD 0 "" = "degree")) (h : rowP st ws = .ok st') : st'.os = st.os ∧ st'.stage = stageOf (ws.getD 0 "") := by
  unfold rowP at h
  rw [if_neg hw] at h
  split at h
  · rename_i h0
    split at h
    · rename_i hh
      split at h
      · cases h; exact ⟨rfl, by rw [hh, stage_h]⟩
      · cases h
    · rename_i hh
      split at h
      · rename_i hk
        cases hf : fracP 1 ws with
        | error j => rw [hf] at h; cases h
        | ok f =>
          rw [hf] at h
          dsimp only at h
          split at h
          · cases h; exact ⟨rfl, by rw [hk, stage_k]⟩
          · cases h
      · rename_i hk
        cases hf : numZ 0 99999 (ws.getD 1 "") with
        | none => rw [hf] at h; cases h
        | some n =>
          rw [hf] at h
          dsimp only at h
          split at h
          · cases h
            refine ⟨rfl, ?_⟩
            have h5 := h0.2
            unfold stageOf at h5 ⊢
            rw [if_neg hh, if_neg hk] at h5 ⊢
            by_cases hb : ws.getD 0 "" = "back"
            · rw [if_pos hb]
            · rw [if_neg hb] at h5; omega
          · cases h
  · cases h
theorem stage_sort {z : Str} (h : z = "line" ∨ z = "degree") : stageOf z = 0 := by
  rcases h with rfl | rfl
  · exact (by decide +kernel : stageOf "line" = 0)
  · exact (by decide +kernel : stageOf "degree" = 0)
theorem due_stage (T : Txt K mg) {p qa : Addr} {u : V} {i : Nat} {v5 : Option V} {ws : List Str} {H0 H : Hp} (s : Same H0 H) (hq : SqL K H qa (ws.map V.str)) (h0 : 0 < ws.length) {N : L2.St → Hp → Prop} {R : VK} {B C : L2.St → Hp → Prop}
    (q : ∀ H', Same H0 H' → N [some (.ref p), some u, some (.int ((stageOf (ws.getD 0 "") : Nat) : Int)), some (.int (i : Nat)), some (.ref qa), v5] H') {v2 : Option V} :
    t__law_due_0 K ⟨N, R, B, C⟩ [some (.ref p), some u, v2, some (.int (i : Nat)), some (.ref qa), v5] H := by
  unfold t__law_due_0
  refine w_set ?_
  refine get_stage (z := ws.getD 0 "") ?_ fun H3 s3 => ?_
  · intro H' R s' r
    walk_at "w"
    exact st_ix_list (s'.seq hq) (i := ((0 : Nat) : Int)) (atI_nat (by rw [List.getElem?_map, getD_lt h0]; rfl)) r
  walk_at "w"
  exact q _ (s.trans s3)
theorem pure__law_due (T : Txt K mg) {x : V} {H : Hp} {Q : VK} {E : XK} (h : pr_due K x H Q E) : t__law_due K { nx := fun _ H' => Q .non H', rt := Q } [some x, none, none, none, none, none] H := by
  obtain ⟨p, qs, Rs, rfl, hp, prq, wds, q⟩ := h
  have hl := prq.length
  unfold t__law_due
  walk_at "w"
  refine ⟨Nat.zero_le _, fun u hu => ?_⟩
  have s1 : Same H (upd H u (.lst [])) := same_new hu
  have d1 : upd H u (.lst []) u = some (.lst []) := upd_same
  generalize upd H u (.lst []) = H1 at *
  walk_at "w"
  refine ⟨p, _, rfl, s1.seq hp, ?_⟩
  refine for_it (walk_enum (xs := qs.map V.ref)) (fun i σ H' => ∃ (v3 v4 v5 : Option V) (kn : Addr) (xs : List V) (st : CSt), σ = [some (.ref p), some (.ref kn), some (.int (st.stage : Nat)), v3, v4, v5] ∧ Same H H' ∧ H' kn = some (.lst xs) ∧ DpAll K H' xs (st.os.map keyL) ∧ st.Ok ∧ rowsP i st (Rs.drop i) = rowsP 0 cst0 Rs)
    ⟨none, none, none, u, [], cst0, rfl, s1, d1, .nil, cst0_Ok, rfl⟩ (fun i σ H' _ ⟨_, _, _, _, _, _, _, s, _⟩ => s.seq hp) ?_ ?_
  · rintro i x σ H3 H4 hi ⟨v3, v4, v5, kn, xs, st, rfl, s3, hkn, dk, sok, hrw⟩ ⟨Tq, a, b, rfl, hT, rfl, ha, hb⟩
    cases ha
    dsimp only at hb
    rw [List.getElem?_map] at hb
    cases hqi : qs[i]? with
    | none => rw [hqi] at hb; cases hb
    | some qa =>
      rw [hqi] at hb
      cases hb
      obtain ⟨ws, hws, hqa⟩ := pget prq hqi
      have wd := wds ws (List.mem_of_getElem? hws)
      have s4 : Same H3 (upd H3 Tq (.tup [.int (i : Nat), .ref qa])) := same_new hT
      refine w_gtup2 (.inl (.inl upd_same)) ?_
      have dk := dk.same s4
      have hkn := s4 _ _ hkn
      have s3 := s3.trans s4
      generalize upd H3 Tq (.tup [.int (i : Nat), .ref qa]) = H4 at *
      walk_at "w"
      refine ⟨Nat.zero_le _, fun e he => ?_⟩
      have s5 : Same H4 (upd H4 e (.lst [])) := same_new he
      refine st_neD (.lst ((s3.trans s5).seq hqa) (dp_strs ws)) (.lst (xs := []) (SqL.of upd_same) .nil) (row_shaped wd) (by rfl) ?_
      rw [eqv_nil, List.isEmpty_map]
      have dk := dk.same s5
      have hkn := s5 _ _ hkn
      have s3 := s3.trans s5
      generalize upd H4 e (.lst []) = H5 at *
      rw [drop_cons hws, rowsP_cons] at hrw
      walk_at "w"
      by_cases hne : ws = []
      · rw [if_pos hne] at hrw
        rw [show ws.isEmpty = true by rw [hne]; rfl]
        walk_at "w"
        exact ⟨_, _, _, kn, xs, st, rfl, s3, hkn, dk, sok, hrw⟩
      rw [if_neg hne] at hrw
      have h0 : 0 < ws.length := List.length_pos_iff.mpr hne
      rw [show ws.isEmpty = false by cases hx : ws; exact absurd hx hne; rfl]
      walk_at "w"
      refine ⟨_, _, _, rfl, qa, ws, st, rfl, rfl, s3.seq hqa, wd, hne, .lst (SqL.of hkn) dk, fun H6 s6 => ?_⟩
      have dk := dk.same s6
      have hkn := s6 _ _ hkn
      have s3 := s3.trans s6
      unfold rowE
      cases hrp : rowP st ws with
      | error j =>
        rw [hrp] at hrw
        have hcp : custP Rs = .error (i, j) := by
          unfold custP
          rw [← hrw]
        rw [hcp] at q
        walk_at "w"
        rw [decide_eq_false (show ¬ optN (some j) = V.non from fun e => by cases e)]
        walk_at "w"
        refine ⟨show 2 ≤ sizeLine by decide, fun t ht => ?_⟩
        exact q _ _ (s3.trans (same_new ht)) (.tup (.inl (.inl upd_same)) (.cons (.int _) (.cons (.int _) .nil)))
      | ok st' =>
        rw [hrp] at hrw
        walk_at "w"
        rw [decide_eq_true (show optN none = V.non from rfl)]
        walk_at "w"
        refine st_ix_list (s3.seq hqa) (i := ((0 : Nat) : Int)) (atI_nat (by rw [List.getElem?_map, getD_lt h0]; rfl)) ?_
        walk_at "w"
        refine in_sort (σ := []) fun H7 s7 => ?_
        have dk := dk.same s7
        have hkn := s7 _ _ hkn
        have s3 := s3.trans s7
        walk_at "w"
        by_cases hw : ws.getD 0 "" = "line" ∨ ws.getD 0 "" = "degree"
        · rw [decide_eq_true hw]
          obtain ⟨o, eo, es, ez, en⟩ := rowP_sort hw hrp
          have hk1 : 1 < ws.length := by
            rcases Nat.lt_or_ge 1 ws.length with h | h
            · exact h
            · rw [getD_ge h, numOf_nil] at en; cases en
          obtain ⟨e4, n4⟩ := numOf_some (getD_wd wd hk1) en
          have lt := numS_len (n := o.k) (k := 20) (by decide) (by omega)
          walk_at "w"
          refine st_ix_list (s3.seq hqa) (i := ((0 : Nat) : Int)) (atI_nat (by rw [List.getElem?_map, getD_lt h0]; rfl)) ?_
          rw [ez]
          walk_at "w"
          refine st_ix_list (s3.seq hqa) (i := ((1 : Nat) : Int)) (atI_nat (by rw [List.getElem?_map, getD_lt hk1]; rfl)) ?_
          rw [e4]
          walk_at "w"
          refine st_int_str (numS_int (by omega)) (by omega) ?_
          walk_at "w"
          refine ⟨show 2 ≤ sizeLine by decide, fun u8 hu8 => ?_⟩
          have s8 : Same H7 (upd H7 u8 (.lst [V.str (sortS o.line), V.int (o.k : Nat)])) := same_new hu8
          have d8 : Dp K (upd H7 u8 (.lst [V.str (sortS o.line), V.int (o.k : Nat)])) (.ref u8) (keyL o) := .lst (xs := [V.str (sortS o.line), V.int (o.k : Nat)]) (SqL.of upd_same) (.cons (.str _) (.cons (.int _) .nil))
          have dk := dk.same s8
          have hkn := s8 _ _ hkn
          have s3 := s3.trans s8
          generalize upd H7 u8 (.lst [V.str (sortS o.line), V.int (o.k : Nat)]) = H8 at *
          walk_at "w"
          refine ⟨show 1 ≤ sizeLine by decide, fun u9 hu9 => ?_⟩
          have s9 : Same H8 (upd H8 u9 (.lst [V.ref u8])) := same_new hu9
          have hxl : xs.length = st.os.length := by rw [dk.len, List.length_map]
          have hl6 := sok.len
          refine st_add_list (s9 _ _ hkn) upd_same (by rw [hxl]; show st.os.length + 1 ≤ _; omega) fun u10 hu10 => ?_
          have s10 := s9.trans (same_new (o := .lst (xs ++ [V.ref u8])) hu10)
          have h10 : upd (upd H8 u9 (.lst [V.ref u8])) u10 (.lst (xs ++ [V.ref u8])) u10 = some (.lst (xs ++ [V.ref u8])) := upd_same
          have dk10 := (dk.same s10).app (.cons (d8.same s10) .nil)
          have s3 := s3.trans s10
          generalize upd (upd H8 u9 (.lst [V.ref u8])) u10 (.lst (xs ++ [V.ref u8])) = H10 at *
          walk_at "w"
          refine due_stage T (Same.refl H10) (s3.seq hqa) h0 fun H' s' => ?_
          rw [show stageOf (ws.getD 0 "") = st'.stage by rw [stage_sort hw, es]]
          refine ⟨_, _, _, u10, xs ++ [V.ref u8], st', rfl, s3.trans s', s' _ _ h10, ?_, rowP_Ok hrp sok, hrw⟩
          rw [eo, List.map_append]
          exact dk10.same s'
        · rw [decide_eq_false hw]
          obtain ⟨eo, es⟩ := rowP_other hw hrp
          walk_at "w"
          refine due_stage T (Same.refl H7) (s3.seq hqa) h0 fun H' s' => ?_
          rw [← es]
          refine ⟨_, _, _, kn, xs, st', rfl, s3.trans s', s' _ _ hkn, ?_, rowP_Ok hrp sok, hrw⟩
          rw [eo]
          exact dk.same s'
  · rintro σ H4 ⟨v3, v4, v5, kn, xs, st, rfl, s3, hkn, dk, sok, hrw⟩
    have hlen : (qs.map V.ref).length = Rs.length := by rw [List.length_map]; exact hl
    rw [hlen, List.drop_length] at hrw
    have hrw : rowsP 0 cst0 Rs = .ok st := hrw.symm
    unfold custP at q
    rw [hrw] at q
    dsimp only at q
    walk_at "w"
    refine ⟨Nat.zero_le _, fun u2 hu2 => ?_⟩
    have s5 : Same H4 (upd H4 u2 (.lst [])) := same_new hu2
    refine st_eqD (.lst (SqL.of (s5 _ _ hkn)) (dk.same s5)) (.lst (xs := []) (SqL.of upd_same) .nil) (keysL_shaped _) (by rfl) ?_
    rw [eqv_nil, List.isEmpty_map]
    have s3 := s3.trans s5
    generalize upd H4 u2 (.lst []) = H5 at *
    walk_at "w"
    by_cases hn : st.os = []
    · rw [if_pos hn] at q
      rw [show st.os.isEmpty = true by rw [hn]; rfl]
      walk_at "w"
      refine st_lenL (s3.seq hp) ?_
      rw [hlen]
      walk_at "w"
      refine ⟨show 2 ≤ sizeLine by decide, fun t ht => ?_⟩
      exact q _ _ (s3.trans (same_new ht)) (.tup (.inl (.inl upd_same)) (.cons (.int _) (.cons (.int _) .nil)))
    · rw [if_neg hn] at q
      rw [show st.os.isEmpty = false by cases hx : st.os; exact absurd hx hn; rfl]
      walk_at "w"
      exact q _ s3
theorem ok__law_due (T : Txt K mg) (c__law_row_wrong : Kp P w K mg base CX0 4 "_law_row_wrong" ["_law_row", "_law_known", "_law_stage"] (sp__law_row_wrong K)) : Kp P w K mg base CX0 5 "_law_due" ["_law_rows"] (sp__law_due K) := by
  obtain ⟨fd, F⟩ := T.c.def_ 38 (d := d__law_due) rfl
  refine ⟨⟨_, fd, T.g__law_due, F.kp, F.bindsN fun _ _ _ _ _ _ us hl => match us, hl with | [_], _ => rfl, F.ok sc__law_due Sp1.len (fun cdv A outer s H vs Q E hr h => ?_)⟩⟩
  obtain ⟨v0, rfl, h⟩ := h
  refine ⟨t__law_due K, PSs.nox (?_), pure__law_due T h⟩
  exact (pss_cons (ps_set (i := 1) sc__law_due.nd rfl (by first | exact Or.inl rfl | exact Or.inr rfl) (pe_lst pa_nil))
      (pss_cons (ps_set (i := 2) sc__law_due.nd rfl (by first | exact Or.inl rfl | exact Or.inr rfl) pe_int)
      (pss_cons (ps_for PassesOwn.never rfl (pi_enum (by rfl) T.n_enumerate (pa_cons (pv 0) pa_nil)) (pg_tup rfl (pgs_cons (pg_name (i := 3) sc__law_due.nd rfl (by first | exact Or.inl rfl | exact Or.inr rfl)) (pgs_cons (pg_name (i := 4) sc__law_due.nd rfl (by first | exact Or.inl rfl | exact Or.inr rfl)) pgs_nil))) (pss_one (ps_if (pt_cmpR (op_neA hr) (pv 4) (pe_lst pa_nil) (nomark _)) (pss_cons (ps_set (i := 5) sc__law_due.nd rfl (by first | exact Or.inl rfl | exact Or.inr rfl) (pe_cK c__law_row_wrong (hr.mono (by decide)) rfl (pa_cons (pv 4) (pa_cons (pv 1) (pa_cons (pv 2) pa_nil)))))
      (pss_cons (ps_if (pt_cmp (pc_notN (pv 5))) (pss_one (ps_ret (pe_tup (pa_cons (pv 3) (pa_cons (pv 5) pa_nil))))) pss_nil)
      (pss_cons (ps_if (pt_cmpR (op_inA hr) (pe_ixA hr (pv 4) pe_int (fun _ _ => rfl)) (pe_tup (pa_cons pe_str (pa_cons pe_str pa_nil))) (by rfl)) (pss_one (ps_set (i := 1) sc__law_due.nd rfl (by first | exact Or.inl rfl | exact Or.inr rfl) (pe_op op_addA (pv 1) (pe_lst (pa_cons (pe_lst (pa_cons (pe_ixA hr (pv 4) pe_int (fun _ _ => rfl)) (pa_cons (pe_callTy call_intA (by rfl) T.n_int (by decide +kernel) (pa_cons (pe_ixA hr (pv 4) pe_int (fun _ _ => rfl)) pa_nil)) pa_nil))) pa_nil))))) pss_nil)
      (pss_one (ps_set (i := 2) sc__law_due.nd rfl (by first | exact Or.inl rfl | exact Or.inr rfl) (pe_dget2 (hu_of hr) (pe_disp (pps_cons pe_str pe_int (pps_cons pe_str pe_int (pps_cons pe_str pe_int pps_nil))) (by rfl) (by rfl) (fun z => by cases z) (by decide)) (pe_ixA hr (pv 4) pe_int (fun _ _ => rfl)) pe_int ⟨rfl, rfl, rfl, rfl⟩)))))) pss_nil)))
      (pss_one (ps_ret (pe_ifExp (pt_cmpR (op_eqA hr) (pv 1) (pe_lst pa_nil) (nomark _)) (pe_tup (pa_cons (pe_callB call_len (by rfl) T.n_len (by decide +kernel) (pa_cons (pv 0) pa_nil)) (pa_cons pe_int pa_nil))) pe_non))))))
end
end K04
set_option Elab.async false
set_option linter.all false
set_option maxRecDepth 100000
set_option maxHeartbeats 4000000
namespace K04
open PySem PySem.Spec PyProof.Rows L2 My
section
variable {P : Program} {w : World} {K : PySem.W.Frag} {mg : Str → Option Value} {base : Heap}
/-! ### _law_told -/
def signD (i : Nat) : PyData := .tuple [.str "sign", .int (i : Nat)]
def textD (i j : Nat) : PyData := .tuple [.str "text", .tuple [.int (i : Nat), .int (j : Nat)]]
def custD (st : CSt) : PyData := .tuple [.int 0, st.data]
/-- what is told of a text -/
def TD (z : Str) (d : PyData) : Prop := z.length ≤ 100000 ∧ if z.length ≤ 8000 then (match scan 0 [] [] z.cps.toList with
    | .ok rows => WdRows rows ∧ (match custP (rows.map wsS) with
      | .ok st => d = custD st
      | .error e => d = textD e.1 e.2)
    | .error e => d = signD e) else d = signD 0
def pr_told (K : PySem.W.Frag) : V → Hp → VK → XK → Prop := fun x H Q _ => ∃ d, ((∃ z, x = .str z ∧ TD z d) ∨ (∃ t, TyX K H x t ∧ PySem.W.kitOne K t (.type "str") = some false ∧ d = signD 0)) ∧ ∀ v H', Same H H' → Dp K H' v d → Q v H'
def sp__law_told (K : PySem.W.Frag) : Sp := Sp1 (pr_told K)
def t__law_told_0 (K : PySem.W.Frag) : TS :=
  (tSeq (tIfS (tB (tIsN (tVar 1))) (tRet (tTup (tCons (tC (.int 0)) (tCons (tVar 2) tNil)))) tNext)
  (tSeq (tAsg (tCall (sp__law_class K) [] E0 (tCons (tVar 1) tNil)) (gName 4))
  (tRet (tIf (tTest (tOp (rInA K false) (tVar 4) (tTup (tCons (tC (.str "sign")) (tCons (tC (.str "text")) tNil))))) (tTup (tCons (tVar 4) (tCons (tXfA K (tVar 1) "spot") tNil))) (tTup (tCons (tC (.str "other")) (tCons (tC .non) tNil)))))))
def t__law_told (K : PySem.W.Frag) : TS :=
  (tSeq (tAsg (tC .non) (gName 1))
  (tSeq (tAsg (tC .non) (gName 2))
  (tSeq (tTryHold K (He.ga K "HeirError") 3 1 (fun W => (tAsg (tCallS (sp_read_custom K) (WE W) (tCons (tVar 0) tNil)) (gName 2))))
  (t__law_told_0 K))))
abbrev ten (Q : VK) : Ends := ⟨fun _ H' => Q .non H', Q, fun _ _ => False, fun _ _ => False⟩
theorem in_st {z : Str} (h : z = "sign" ∨ z = "text") : inV (.str z) [V.str "sign", V.str "text"] = true := by
  rw [show inV (.str z) [V.str "sign", V.str "text"] = decide (z ∈ [("sign" : Str), "text"]) from inV_strs z ["sign", "text"]]
  rcases h with rfl | rfl <;> decide +kernel
/-- behind a refusal -/
theorem told_refused (T : Txt K mg) {x : V} {a d : Addr} {v : V} {dv : PyData} {c : Str} {z : Str} {v2 v3 v4 : Option V} {H0 H : Hp} {Q : VK} (s : Same H0 H) (xv : XV H a (He.ga K c) d [(("spot" : Str), v)]) (ox : OexA K c) (no : PySem.W.findIn K (.ref (He.ga K c)) "spot" = some none) (dp : Dp K H v dv)
    (hc : ∀ R : VK, (∀ H', Same H H' → R (.str z) H') → Sp1 (pr_class K) [.ref a] H R E0) (hz : z = "sign" ∨ z = "text") (q : ∀ u H', Same H0 H' → Dp K H' u (.tuple [.str z, dv]) → Q u H') :
    t__law_told_0 K (ten Q) [some x, some (.ref a), v2, v3, v4] H := by
  unfold t__law_told_0
  walk_at "w"
  rw [decide_eq_false (show ¬ V.ref a = V.non from fun e => by cases e)]
  walk_at "w"
  refine hc _ fun H1 s1 => ?_
  walk_at "w"
  refine ⟨show 2 ≤ sizeLine by decide, fun p hp => ?_⟩
  have s2 := same_new (o := .tup [V.str "sign", V.str "text"]) hp
  refine st_in_tup (.inl (.inl upd_same)) rfl rfl ?_
  rw [in_st hz]
  walk_at "w"
  refine ⟨a, d, c, _, _, rfl, xv.same (s1.trans s2), ox, no, rfl, ?_⟩
  walk_at "w"
  refine ⟨show 2 ≤ sizeLine by decide, fun u hu => ?_⟩
  have s3 := same_new (o := .tup [V.str z, v]) hu
  exact q _ _ (((s.trans s1).trans s2).trans s3) (.tup (.inl (.inl upd_same)) (.cons (.str _) (.cons (dp.same ((s1.trans s2).trans s3)) .nil)))
theorem pure__law_told (T : Txt K mg) {x : V} {H : Hp} {Q : VK} {E : XK} (h : pr_told K x H Q E) : t__law_told K { nx := fun _ H' => Q .non H', rt := Q } [some x, none, none, none, none] H := by
  obtain ⟨d, hx, q⟩ := h
  unfold t__law_told
  walk_at "w"
  have rSign : ∀ i : Nat, d = signD i → RaisedI K "BadSign" "spot" (.int (i : Nat)) H (WE (wHold K (He.ga K "HeirError") 3 1 ⟨t__law_told_0 K ⟨fun _ H' => Q .non H', Q, fun _ _ => False, fun _ _ => False⟩, Q, fun _ _ => False, fun _ _ => False⟩) [some x, some .non, some .non, none, none]) := by
    intro i ed d' H' s hd hx'
    refine ⟨of_decide_eq_true T.ex_2, fun a ha => ?_⟩
    have had : d' ≠ a := fun e => by rw [e, ha] at hx'; cases hx'
    have xv : XV (upd H' a (XO a (.ref (He.ga K "BadSign")) (some d'))) a (He.ga K "BadSign") d' [(("spot" : Str), .int (i : Nat))] := .inl ⟨upd_same, by rw [upd_ne had]; exact hx'⟩
    refine told_refused T (s.trans (same_new ha)) xv (oexA_of T.oex_BadSign) (He.eqO_ok T.ex_0) (.int _) (fun R r => ⟨_, rfl, a, d', _, rfl, .inl ⟨xv, r⟩⟩) (.inl rfl) fun u H2 s2 du => q u H2 s2 (by rw [ed]; exact du)
  have rText : ∀ i j : Nat, d = textD i j → ErrG K [] H (i : Nat) j (WE (wHold K (He.ga K "HeirError") 3 1 ⟨t__law_told_0 K ⟨fun _ H' => Q .non H', Q, fun _ _ => False, fun _ _ => False⟩, Q, fun _ _ => False, fun _ _ => False⟩) [some x, some .non, some .non, none, none]) := by
    intro i j ed d' v H' sb hd hx' dv
    have s : Same H H' := fun b u e => sb b u (by simp) e
    refine ⟨of_decide_eq_true T.ex_11, fun a ha => ?_⟩
    have had : d' ≠ a := fun e => by rw [e, ha] at hx'; cases hx'
    have xv : XV (upd H' a (XO a (.ref (He.ga K "BadText")) (some d'))) a (He.ga K "BadText") d' [(("spot" : Str), v)] := .inl ⟨upd_same, by rw [upd_ne had]; exact hx'⟩
    refine told_refused T (s.trans (same_new ha)) xv (oexA_of T.oex_BadText) (He.eqO_ok T.ex_1) (dv.same (same_new ha)) (fun R r => ⟨_, rfl, a, d', _, rfl, .inr ⟨xv, r⟩⟩) (.inr rfl) fun u H2 s2 du => q u H2 s2 (by rw [ed]; exact du)
  rcases hx with ⟨z, rfl, hz, k⟩ | ⟨t, ht, kt, ed⟩
  · refine ⟨_, rfl, .inl ⟨z, rfl, hz, ?_⟩⟩
    by_cases h1 : z.length ≤ 8000
    · rw [if_pos h1] at k ⊢
      cases hsc : scan 0 [] [] z.cps.toList with
      | error e =>
        rw [hsc] at k
        exact rSign e k
      | ok rows =>
        rw [hsc] at k
        refine ⟨k.1, ?_⟩
        have k := k.2
        cases hcp : custP (rows.map wsS) with
        | error e =>
          rw [hcp] at k
          exact rText e.1 e.2 k
        | ok st =>
          rw [hcp] at k
          intro v H' s dv
          walk_at "w"
          unfold t__law_told_0
          walk_at "w"
          rw [decide_eq_true rfl]
          walk_at "w"
          refine ⟨show 2 ≤ sizeLine by decide, fun u hu => ?_⟩
          have s2 := same_new (o := .tup [V.int 0, v]) hu
          refine q _ _ (s.trans s2) ?_
          rw [k]
          exact .tup (.inl (.inl upd_same)) (.cons (.int _) (.cons (dv.same s2) .nil))
    · rw [if_neg h1] at k ⊢
      exact rSign 0 k
  · exact ⟨_, rfl, .inr ⟨t, ht, kt, rSign 0 ed⟩⟩
theorem ok__law_told (T : Txt K mg) (c_read_custom : Kp P w K mg base (L2.CX P w) 8 "read_custom" ["text"] (sp_read_custom K)) (c__law_class : Kp P w K mg base CX0 1 "_law_class" ["_law_e"] (sp__law_class K)) : Kp P w K mg base CX0 9 "_law_told" ["_law_text"] (sp__law_told K) := by
  obtain ⟨fd, F⟩ := T.c.def_ 39 (d := d__law_told) rfl
  refine ⟨⟨_, fd, T.g__law_told, F.kp, F.bindsN fun _ _ _ _ _ _ us hl => match us, hl with | [_], _ => rfl, F.ok sc__law_told Sp1.len (fun cdv A outer s H vs Q E hr h => ?_)⟩⟩
  obtain ⟨v0, rfl, h⟩ := h
  refine ⟨t__law_told K, PSs.nox (?_), pure__law_told T h⟩
  exact (pss_cons (ps_set (i := 1) sc__law_told.nd rfl (by first | exact Or.inl rfl | exact Or.inr rfl) pe_non)
      (pss_cons (ps_set (i := 2) sc__law_told.nd rfl (by first | exact Or.inl rfl | exact Or.inr rfl) pe_non)
      (pss_cons (ps_try_hold (i := 3) (j := 1) (tb := fun W => (tAsg (tCallS (sp_read_custom K) (WE W) (tCons (tVar 0) tNil)) (gName 2))) rfl rfl sc__law_told.nd rfl rfl rfl rfl rfl (by decide) (show 3 < List.length N__law_told from by decide) (by decide) (by decide) rfl ⟨rfl, by decide, Or.inl T.g_HeirError⟩ (fun W pn xe tk pw => (pss_one (ps_set (i := 2) sc__law_told.nd rfl (by first | exact Or.inl rfl | exact Or.inr rfl) (pe_cKX c_read_custom (hr.mono (by decide)) rfl tk (pa_cons (pv 0) pa_nil))))))
      (pss_cons (ps_if (pt_cmp (pc_isN (pv 1))) (pss_one (ps_ret (pe_tup (pa_cons pe_int (pa_cons (pv 2) pa_nil))))) pss_nil)
      (pss_cons (ps_set (i := 4) sc__law_told.nd rfl (by first | exact Or.inl rfl | exact Or.inr rfl) (pe_cK c__law_class (hr.mono (by decide)) rfl (pa_cons (pv 1) pa_nil)))
      (pss_one (ps_ret (pe_ifExp (pt_cmpR (op_inA hr) (pv 4) (pe_tup (pa_cons pe_str (pa_cons pe_str pa_nil))) (by rfl)) (pe_tup (pa_cons (pv 4) (pa_cons (pe_xfA (pv 1)) pa_nil))) (pe_tup (pa_cons pe_str (pa_cons pe_non pa_nil)))))))))))
theorem use_told {z : Str} {d : PyData} {H : Hp} {Q : VK} {E : XK} (t : TD z d) (q : ∀ v H', Same H H' → Dp K H' v d → Q v H') : Sp1 (pr_told K) [.str z] H Q E := ⟨_, rfl, d, .inl ⟨z, rfl, t⟩, q⟩
/-! ### texts of rows -/
def rtext (Rs : List (List Str)) : Str := Str.join "\n" (Rs.map (Str.join " "))
theorem wsS_tls (ws : List Str) : wsS (tls ws) = ws := tls_S ws
theorem wsS_map (Rs : List (List Str)) : (Rs.map tls).map wsS = Rs := by
  rw [List.map_map]
  have : (wsS ∘ tls) = id := funext fun ws => wsS_tls ws
  rw [this, List.map_id]
theorem rows_wd {Rs : List (List Str)} (h : ∀ ws ∈ Rs, WdW ws) : WdRows (Rs.map tls) := fun ws hws l hl => by
  obtain ⟨r, hr, rfl⟩ := List.mem_map.mp hws
  obtain ⟨y, hy, rfl⟩ := List.mem_map.mp hl
  exact h r hr y hy
theorem rtext_scan {Rs : List (List Str)} (ne : Rs ≠ []) (h : ∀ ws ∈ Rs, WdW ws) : scan 0 [] [] (rtext Rs).cps.toList = .ok (Rs.map tls) ∧ scan 0 [] [] ((rtext Rs).cps.toList ++ [10, 32, 33]) = .error ((rtext Rs).cps.toList.length + 2) := by
  obtain ⟨rows', cur, op, g, e⟩ := gone_rowsE Rs ne h (t := []) (rows := []) .nil
  rw [List.nil_append] at g e
  exact ⟨by rw [← e]; exact g.all, gone_bad g⟩
theorem TD_rows {Rs : List (List Str)} (ne : Rs ≠ []) (h : ∀ ws ∈ Rs, WdW ws) (hl : (rtext Rs).length ≤ 8000) : TD (rtext Rs) (match custP Rs with
    | .ok st => custD st
    | .error e => textD e.1 e.2) := by
  refine ⟨by omega, ?_⟩
  rw [if_pos hl, (rtext_scan ne h).1]
  refine ⟨rows_wd h, ?_⟩
  rw [wsS_map]
  cases custP Rs <;> rfl
theorem custD_eq {st st' : CSt} (h : st'.data = st.data) : custD st' = custD st := by unfold custD; rw [h]
theorem ent_words_wd {e : Ent} {m : Nat} (ok : Ent.Ok e) (f : e.fits m) : WdW (e.words m) := by
  have key : ∀ {t b : Nat}, FracW t b → fitsM m b → WdW (fracW m t b) := fun ⟨_, tb, _, _⟩ ⟨_, mb⟩ => by
    have := Nat.mul_le_mul_left m tb
    exact mem_cons_all (wd_num (by omega)) (mem_cons_all wd_slash (mem_cons_all (wd_num (by omega)) mem_nil_all))
  cases e with
  | halves => exact mem_cons_all (wd_lit (by decide +kernel)) mem_nil_all
  | back n =>
    have hn : n ≤ 99999 := ok
    exact mem_cons_all (wd_lit (by decide +kernel)) (mem_cons_all (wd_num (by omega)) mem_nil_all)
  | kept t b => exact mem_cons_all (wd_lit (by decide +kernel)) (key ok f)
  | ord o =>
    have hk := ord_k (o := o) ok
    have h1 : WdOk (sortS o.line).cps.toList := by cases o.line <;> exact wd_lit (by decide +kernel)
    show WdW (Ord.words m o)
    unfold Ord.words
    refine WdW.app (mem_cons_all h1 (mem_cons_all (wd_num (by omega)) mem_nil_all)) ?_
    by_cases h0 : 0 < o.t
    · rw [if_pos h0]
      have hw : FracW o.t o.b := by
        rcases ok.2 with ⟨z, _⟩ | w
        · omega
        · exact w
      exact mem_cons_all (wd_lit (by decide +kernel)) (key hw (f h0))
    · rw [if_neg h0]; exact mem_nil_all
theorem fits_1 {e : Ent} (ok : Ent.Ok e) : e.fits 1 := by
  cases e with
  | halves => trivial
  | back n => trivial
  | kept t b => exact ⟨by decide, by have := ok.2.2.1; omega⟩
  | ord o => exact fun h => ⟨by decide, by have := (frac_le ok.2).2; omega⟩
theorem ents_ok {st : CSt} (ok : st.Ok) : ∀ e ∈ st.ents, Ent.Ok e := by
  intro e he
  unfold CSt.ents at he
  rcases List.mem_append.mp he with he | he
  · obtain ⟨o, ho, rfl⟩ := List.mem_map.mp he
    exact ok.os o ho
  · rcases List.mem_append.mp he with he | he
    · split at he
      · rw [List.mem_singleton.mp he]; trivial
      · cases he
    · rcases List.mem_append.mp he with he | he
      · split at he
        · rename_i h
          rw [List.mem_singleton.mp he]
          rcases ok.kept with ⟨z, _⟩ | w
          · omega
          · exact w
        · cases he
      · split at he
        · rw [List.mem_singleton.mp he]; exact ok.back
        · cases he
theorem ents_ne {st : CSt} (ne : st.os ≠ []) : st.ents ≠ [] := by
  unfold CSt.ents
  cases h : st.os with
  | nil => exact absurd h ne
  | cons a r => simp
theorem ctext_r (st : CSt) : ctext st = rtext (st.ents.map (Ent.words 1)) := by
  unfold ctext rtext
  rw [List.map_map]; rfl
theorem ctext_len {st : CSt} (ok : st.Ok) : (ctext st).length ≤ 600 := by
  obtain ⟨h1, h2⟩ := etext_len ok
  have h3 := join_len "\n" h1
  have h4 : ("\n" : Str).length = 1 := by decide +kernel
  rw [h4] at h3
  have h5 : (60 + 1) * (st.ents.map etext).length ≤ 61 * 9 := Nat.mul_le_mul_left _ h2
  unfold ctext
  omega
/-- what is written of a custom is read to it -/
theorem TD_ctext {st : CSt} (ok : st.Ok) (ne : st.os ≠ []) : TD (ctext st) (custD st) := by
  have h1 : ∀ ws ∈ st.ents.map (Ent.words 1), WdW ws := fun ws hws => by
    obtain ⟨e, he, rfl⟩ := List.mem_map.mp hws
    exact ent_words_wd (ents_ok ok e he) (fits_1 (ents_ok ok e he))
  have h2 : st.ents.map (Ent.words 1) ≠ [] := fun h => ents_ne ne (List.map_eq_nil_iff.mp h)
  have h3 := TD_rows h2 h1 (by rw [← ctext_r]; have := ctext_len ok; omega)
  have hp : Paired EntTells (st.ents.map (Ent.words 1)) st.ents := by
    have hk : ∀ l : List Ent, (∀ e ∈ l, Ent.Ok e) → Paired EntTells (l.map (Ent.words 1)) l := by
      intro l
      induction l with
      | nil => exact fun _ => .nil
      | cons e r ih => exact fun h => .cons ⟨1, fits_1 (h e List.mem_cons_self), rfl⟩ (ih fun x hx => h x (List.mem_cons_of_mem _ hx))
    exact hk _ (ents_ok ok)
  obtain ⟨st', e1, e2⟩ := custP_tells (rows := st.ents.map (Ent.words 1)) ok ne (List.filter_eq_self.mpr fun ws hws => by
    obtain ⟨e, he, rfl⟩ := List.mem_map.mp hws
    have := ent_ne 1 e
    cases h : Ent.words 1 e with
    | nil => exact absurd h this
    | cons => rfl) hp
  rw [e1, ← ctext_r] at h3
  dsimp only at h3
  rw [custD_eq e2] at h3
  exact h3
/-! ### shapes -/
theorem sign_shaped (i : Nat) : SeqAt.shaped (signD i) = true := by
  unfold SeqAt.shaped
  have h : (signD i).canLay0 = true := by
    show (PyData.strOk ("sign" : Str) && (true && true)) = true
    decide +kernel
  rw [h]; rfl
theorem text_shaped (i j : Nat) : SeqAt.shaped (textD i j) = true := by
  unfold SeqAt.shaped
  have h : (textD i j).canLay0 = true := by
    show (PyData.strOk ("text" : Str) && ((true && (true && true)) && true)) = true
    decide +kernel
  rw [h]; rfl
theorem cust_shaped (st : CSt) : SeqAt.shaped (custD st) = true := by
  have h1 : PyData.canLayAll0 (st.os.map Ord.data) = true := lay_all fun d hd => by
    obtain ⟨o, _, rfl⟩ := List.mem_map.mp hd
    exact ord_lay o
  have h2 : PyData.depthAll (st.os.map Ord.data) ≤ 2 := depth_all fun d hd => by
    obtain ⟨o, _, rfl⟩ := List.mem_map.mp hd
    exact Nat.le_refl 2
  unfold SeqAt.shaped
  have h : (custD st).canLay0 = true := by
    show (true && ((PyData.canLayAll0 (st.os.map Ord.data) && (true && ((true && (true && true)) && (true && true)))) && true)) = true
    rw [h1]; rfl
  have hd : (custD st).depth ≤ 64 := by
    show max 0 (max (max (PyData.depthAll (st.os.map Ord.data) + 1) (max 0 (max (max 0 (max 0 0) + 1) (max 0 0))) + 1) 0) + 1 ≤ 64
    omega
  rw [h, decide_eq_true hd]; rfl
end
end K04
set_option Elab.async false
set_option linter.all false
set_option maxRecDepth 100000
set_option maxHeartbeats 4000000
namespace K04
open PySem PySem.Spec PyProof.Rows L2 My
section
variable {P : Program} {w : World} {K : PySem.W.Frag} {mg : Str → Option Value} {base : Heap}
/-! ### _law_right -/
def pr_right (K : PySem.W.Frag) : V → Hp → VK → XK → Prop := fun x H Q _ => ∃ (p : Addr), x = .ref p ∧ GoodRows K H 20 12 p ∧ ∀ H', Same H H' → Q (.bl true) H'
def sp__law_right (K : PySem.W.Frag) : Sp := Sp1 (pr_right K)
def t__law_right_0 (K : PySem.W.Frag) : TS :=
  (tSeq (tIfS (tB (tNotN (tVar 1))) (tRet (tOp (rEqA K) (tVar 3) (tTup (tCons (tC (.str "text")) (tCons (tVar 1) tNil))))) tNext)
  (tRet (tAndV (tOp (rEqA K) (tIxA K (tVar 3) (tC (.int 0))) (tC (.int 0))) (tOp (rEqA K) (tCall (sp__law_told K) [] E0 (tCons (tCall (sp_written_custom K) [] E0 (tCons (tIxA K (tVar 3) (tC (.int 1))) tNil)) tNil)) (tVar 3)))))
def t__law_right_1 (K : PySem.W.Frag) : TS :=
  (tSeq (tAsg (tM1 (rJoinA K) (tC (.str "\n")) (tLc (iA K (tVar 0)) (gName 4) tYes (tM1 (rJoinA K) (tC (.str " ")) (tVar 4)) [4])) (gName 2))
  (tSeq (tAsg (tCall (sp__law_told K) [] E0 (tCons (tVar 2) tNil)) (gName 3))
  (tSeq (tIfS (tTest (tOp (rNeA K) (tCall (sp__law_told K) [] E0 (tCons (tOp (rAddA K) (tVar 2) (tC (.str "\n !"))) tNil)) (tTup (tCons (tC (.str "sign")) (tCons (tOp (rAddA K) (tCB (rLenA K) (tCons (tVar 2) tNil)) (tC (.int 2))) tNil))))) (tRet (tC (.bl false))) tNext)
  (t__law_right_0 K))))
def t__law_right (K : PySem.W.Frag) : TS :=
  (tSeq (tAsg (tCall (sp__law_due K) [] E0 (tCons (tVar 0) tNil)) (gName 1))
  (t__law_right_1 K))
theorem rows_split {H : Hp} {B : Nat} : ∀ {vs : List V}, AllGood K H B vs → ∃ (qs : List Addr) (Rs : List (List Str)), vs = qs.map V.ref ∧ Paired (fun q ws => SqL K H q ((ws : List Str).map V.str)) qs Rs ∧ ∀ ws ∈ Rs, ws.length ≤ B ∧ WdW ws
  | [], _ => ⟨[], [], rfl, .nil, fun _ h => by cases h⟩
  | v :: r, h => by
    obtain ⟨q, ws, rfl, h1, h2, h3⟩ := h v List.mem_cons_self
    obtain ⟨qs, Rs, rfl, h4, h5⟩ := rows_split (vs := r) fun u hu => h u (List.mem_cons_of_mem _ hu)
    exact ⟨q :: qs, ws :: Rs, rfl, .cons h1 h4, fun w hw => by
      rcases List.mem_cons.mp hw with rfl | hw
      · exact ⟨h2, h3⟩
      · exact h5 w hw⟩
theorem row_text_len {B : Nat} {ws : List Str} (h1 : ws.length ≤ B) (h2 : WdW ws) : (Str.join " " ws).length ≤ 13 * B := by
  have h := join_len " " (ys := ws) (B := 12) fun y hy => by
    have := (h2 y hy).ne.2
    rw [tl_len] at this
    exact this
  rw [len_sp] at h
  have := Nat.mul_le_mul_left 13 h1
  omega
theorem rtext_len {A B : Nat} {Rs : List (List Str)} (h1 : Rs.length ≤ A) (h2 : ∀ ws ∈ Rs, ws.length ≤ B ∧ WdW ws) : (rtext Rs).length ≤ (13 * B + 1) * A := by
  have h := join_len "\n" (ys := Rs.map (Str.join " ")) (B := 13 * B) fun y hy => by
    obtain ⟨ws, hws, rfl⟩ := List.mem_map.mp hy
    exact row_text_len (h2 ws hws).1 (h2 ws hws).2
  have h4 : ("\n" : Str).length = 1 := by decide +kernel
  rw [h4, List.length_map] at h
  exact Nat.le_trans h (Nat.mul_le_mul_left _ h1)
/-- "\n".join([" ".join(row) for row in rows]) -/
theorem rows_text {A B i s : Nat} {σ : L2.St} {p : Addr} {qs : List Addr} {Rs : List (List Str)} {H : Hp} {Q : VK} (hσ : σ[i]? = some (some (.ref p))) (hp : SqL K H p (qs.map V.ref)) (prq : Paired (fun q ws => SqL K H q ((ws : List Str).map V.str)) qs Rs) (h1 : Rs.length ≤ A) (h2 : ∀ ws ∈ Rs, ws.length ≤ B ∧ WdW ws) (hA : A ≤ 40) (hB : B ≤ 40)
    (hwv : ∀ v : V, wipe ((wipe σ [s]).set s (some v)) [s] = wipe σ [s]) (hsv : ∀ v : V, ((wipe σ [s]).set s (some v))[s]? = some (some v)) (q : ∀ H', Same H H' → Q (.str (rtext Rs)) H') :
    tM1 (rJoinA K) (tC (.str "\n")) (tLc (iA K (tVar i)) (gName s) tYes (tM1 (rJoinA K) (tC (.str " ")) (tVar s)) [s]) σ H Q := by
  walk_at "w"
  refine w_var hσ ?_
  refine .inl ⟨p, rfl, ⟨_, hp⟩, fun D hD => ?_⟩
  refine lcv (walk_list (xs := qs.map V.ref)) hD Rs (by rw [List.length_map]; exact prq.length) (by omega) (fun H' s => s.seq hp) (fun _ => true) (fun ws => .str (Str.join " " ws)) ?_ ?_
  · rintro k ws y H6 H7 hi s6 ⟨rfl, hy⟩ k1 k2 hk1 hk2
    obtain ⟨qa, hqa, hsq⟩ := pgetR prq hi
    rw [List.getElem?_map, hqa] at hy
    cases hy
    walk_at "w"
    refine ⟨hwv _, ?_⟩
    walk_at "w"
    refine w_var (hsv _) ?_
    have hm := h2 ws (List.mem_of_getElem? hi)
    refine ⟨" ", qa, ws, rfl, rfl, .inl (s6.seq hsq), ?_, ?_⟩
    · have h3 := sum_len (ys := ws) (B := 12) fun y hy => by
        have := (hm.2 y hy).ne.2
        rw [tl_len] at this
        exact this
      rw [len_sp]
      omega
    · rw [TL.join_eq]
      exact hk1 rfl _ (Same.refl _)
  · intro H6 s6 h6
    rw [filter_yes] at h6
    refine ⟨"\n", D, Rs.map (Str.join " "), rfl, rfl, .inl (SqL.of (by rw [h6, List.map_map]; rfl)), ?_, ?_⟩
    · have h3 := sum_len (ys := Rs.map (Str.join " ")) (B := 13 * B) fun y hy => by
        obtain ⟨ws, hws, rfl⟩ := List.mem_map.mp hy
        exact row_text_len (h2 ws hws).1 (h2 ws hws).2
      have h4 : ("\n" : Str).length = 1 := by decide +kernel
      rw [h4]
      rw [List.length_map] at h3 ⊢
      have h5 : 13 * B * Rs.length ≤ 520 * 40 := Nat.mul_le_mul (by omega) (by omega)
      omega
    · rw [TL.join_eq]
      exact q _ s6
theorem tl_bad : TL.tl ("\n !" : Str) = [10, 32, 33] := by decide +kernel
theorem len_bad : ("\n !" : Str).length = 3 := by decide +kernel
theorem TD_bad {Rs : List (List Str)} (ne : Rs ≠ []) (h : ∀ ws ∈ Rs, WdW ws) (hl : (rtext Rs).length ≤ 7900) : TD (rtext Rs ++ "\n !") (signD ((rtext Rs).length + 2)) := by
  have e : (rtext Rs ++ ("\n !" : Str)).length = (rtext Rs).length + 3 := by rw [len_append, len_bad]
  refine ⟨by omega, ?_⟩
  rw [if_pos (by omega), show (rtext Rs ++ ("\n !" : Str)).cps.toList = (rtext Rs).cps.toList ++ [10, 32, 33] from (TL.tl_append _ _).trans (by rw [tl_bad]), (rtext_scan ne h).2, tl_len]
theorem right_mid (T : Txt K mg) {p : Addr} {qs : List Addr} {Rs : List (List Str)} {v1 : V} {H0 H : Hp} {Q : VK} (s : Same H0 H) (hp : SqL K H p (qs.map V.ref)) (prq : Paired (fun q ws => SqL K H q ((ws : List Str).map V.str)) qs Rs) (ne : Rs ≠ []) (h1 : Rs.length ≤ 20) (h2 : ∀ ws ∈ Rs, ws.length ≤ 12 ∧ WdW ws)
    (q : ∀ v3 H', Same H H' → Dp K H' v3 (match custP Rs with
      | .ok st => custD st
      | .error e => textD e.1 e.2) → t__law_right_0 K (ten Q) [some (.ref p), some v1, some (.str (rtext Rs)), some v3, none] H') :
    t__law_right_1 K (ten Q) [some (.ref p), some v1, none, none, none] H := by
  have hl : (rtext Rs).length ≤ 3200 := Nat.le_trans (rtext_len h1 h2) (by decide)
  have wds : ∀ ws ∈ Rs, WdW ws := fun ws hws => (h2 ws hws).2
  unfold t__law_right_1
  refine w_seq ?_
  refine w_set ?_
  refine rows_text (A := 20) (B := 12) rfl hp prq h1 h2 (by decide) (by decide) (fun _ => rfl) (fun _ => rfl) fun H1 s1 => ?_
  walk_at "w"
  refine use_told (TD_rows ne wds (by omega)) fun v3 H2 s2 d3 => ?_
  walk_at "w"
  refine st_add_str (by rw [len_bad]; omega) ?_
  walk_at "w"
  refine use_told (TD_bad ne wds (by omega)) fun v4 H3 s3 d4 => ?_
  walk_at "w"
  refine st_len_str (by omega) ?_
  walk_at "w"
  refine ⟨show 2 ≤ sizeLine by decide, fun u hu => ?_⟩
  have s4 := same_new (o := .tup [V.str "sign", V.int (((rtext Rs).length : Int) + 2)]) hu
  refine st_neD (e := signD ((rtext Rs).length + 2)) (d4.same s4) (.tup (.inl (.inl upd_same)) (.cons (.str _) (.cons (.int _) .nil))) (sign_shaped _) (sign_shaped _) ?_
  rw [eqv_same (sign_shaped _)]
  walk_at "w"
  exact q v3 _ (((s1.trans s2).trans s3).trans s4) (d3.same (s3.trans s4))
theorem pure__law_right (T : Txt K mg) {x : V} {H : Hp} {Q : VK} {E : XK} (h : pr_right K x H Q E) : t__law_right K { nx := fun _ H' => Q .non H', rt := Q } [some x, none, none, none, none] H := by
  obtain ⟨p, rfl, ⟨vs, hp, l1, lA, good⟩, q⟩ := h
  obtain ⟨qs, Rs, rfl, prq, h2⟩ := rows_split good
  rw [List.length_map] at l1 lA
  have hRl := prq.length
  have ne : Rs ≠ [] := fun e => by
    rw [e] at hRl
    have : qs.length = 0 := hRl
    omega
  unfold t__law_right
  walk_at "w"
  have mono : ∀ {H' : Hp}, Same H H' → Paired (fun q ws => SqL K H' q ((ws : List Str).map V.str)) qs Rs := fun s => L2.Paired.mapP prq fun q ws e => s.seq e
  refine ⟨_, rfl, p, qs, Rs, rfl, hp, prq, fun ws hws => (h2 ws hws).2, ?_⟩
  cases hcp : custP Rs with
  | error e =>
    intro v H1 s1 d1
    walk_at "w"
    refine right_mid T (H0 := H) s1 (s1.seq hp) (mono s1) ne (by omega) h2 fun v3 H2 s2 d3 => ?_
    rw [hcp] at d3
    unfold t__law_right_0
    walk_at "w"
    obtain ⟨pv, xv, ev, hpv, dpv⟩ := (d1.same s2).tup_inv
    rw [decide_eq_false (show ¬ v = V.non from fun z => by rw [ev] at z; cases z)]
    walk_at "w"
    refine ⟨show 2 ≤ sizeLine by decide, fun u hu => ?_⟩
    have s4 := same_new (o := .tup [V.str "text", v]) hu
    refine st_eqD (d := textD e.1 e.2) (e := textD e.1 e.2) (d3.same s4) (.tup (.inl (.inl upd_same)) (.cons (.str _) (.cons ((d1.same s2).same s4) .nil))) (text_shaped _ _) (text_shaped _ _) ?_
    rw [eqv_same (text_shaped _ _)]
    exact q _ ((s1.trans s2).trans s4)
  | ok st =>
    intro H1 s1
    obtain ⟨ok, nz⟩ := custP_Ok hcp
    walk_at "w"
    refine right_mid T (H0 := H) s1 (s1.seq hp) (mono s1) ne (by omega) h2 fun v3 H2 s2 d3 => ?_
    rw [hcp] at d3
    unfold t__law_right_0
    walk_at "w"
    rw [decide_eq_true rfl]
    walk_at "w"
    obtain ⟨pv, xv, rfl, hpv, dpv⟩ := id d3.tup_inv
    obtain ⟨v0, _, rfl, d0, ds1⟩ := dpv.cons_inv
    obtain ⟨vc, _, rfl, dc, ds2⟩ := ds1.cons_inv
    rw [ds2.nil_inv, d0.int_inv] at hpv
    refine st_ix_tup hpv rfl ?_
    walk_at "w"
    rw [decide_eq_true rfl]
    walk_at "w"
    refine st_ix_tup hpv rfl ?_
    walk_at "w"
    refine ⟨_, rfl, st, dc, ok, fun H4 s4 => ?_⟩
    walk_at "w"
    refine use_told (TD_ctext ok nz) fun v5 H5 s5 d5 => ?_
    walk_at "w"
    refine st_eqD d5 (d3.same (s4.trans s5)) (cust_shaped st) (cust_shaped st) ?_
    rw [eqv_same (cust_shaped st)]
    exact q _ (((s1.trans s2).trans s4).trans s5)
theorem ok__law_right (T : Txt K mg) (c_written_custom : Kp P w K mg base CX0 3 "written_custom" ["custom"] (sp_written_custom K)) (c__law_due : Kp P w K mg base CX0 5 "_law_due" ["_law_rows"] (sp__law_due K)) (c__law_told : Kp P w K mg base CX0 9 "_law_told" ["_law_text"] (sp__law_told K)) : Kp P w K mg base CX0 10 "_law_right" ["_law_rows"] (sp__law_right K) := by
  obtain ⟨fd, F⟩ := T.c.def_ 40 (d := d__law_right) rfl
  refine ⟨⟨_, fd, T.g__law_right, F.kp, F.bindsN fun _ _ _ _ _ _ us hl => match us, hl with | [_], _ => rfl, F.ok sc__law_right Sp1.len (fun cdv A outer s H vs Q E hr h => ?_)⟩⟩
  obtain ⟨v0, rfl, h⟩ := h
  refine ⟨t__law_right K, PSs.nox (?_), pure__law_right T h⟩
  exact (pss_cons (ps_set (i := 1) sc__law_right.nd rfl (by first | exact Or.inl rfl | exact Or.inr rfl) (pe_cK c__law_due (hr.mono (by decide)) rfl (pa_cons (pv 0) pa_nil)))
      (pss_cons (ps_set (i := 2) sc__law_right.nd rfl (by first | exact Or.inl rfl | exact Or.inr rfl) (pe_join pe_str (pe_lc (own := [("_law_row", 4)]) (g := (gName 4)) rfl sc__law_right.nd (pi_A (pv 0)) (blkOk_by (own := [("_law_row", 4)]) (N := N__law_right) (sc := defScope s__law_right) (by decide +kernel)) (fun _ _ _ _ _ => (pg_name (i := 4) sc__law_right.nd rfl (by first | exact Or.inl rfl | exact Or.inr rfl))) (fun _ _ _ _ _ => pts_nil) (fun _ _ _ _ _ => (pe_join pe_str (pv 4))))))
      (pss_cons (ps_set (i := 3) sc__law_right.nd rfl (by first | exact Or.inl rfl | exact Or.inr rfl) (pe_cK c__law_told (hr.mono (by decide)) rfl (pa_cons (pv 2) pa_nil)))
      (pss_cons (ps_if (pt_cmpR (op_neA hr) (pe_cK c__law_told (hr.mono (by decide)) rfl (pa_cons (pe_op op_addA (pv 2) pe_str) pa_nil)) (pe_tup (pa_cons pe_str (pa_cons (pe_op op_addA (pe_callB call_len (by rfl) T.n_len (by decide +kernel) (pa_cons (pv 2) pa_nil)) pe_int) pa_nil))) (nomark _)) (pss_one (ps_ret pe_bl)) pss_nil)
      (pss_cons (ps_if (pt_cmp (pc_notN (pv 1))) (pss_one (ps_ret (pe_cmpR (op_eqA hr) (pv 3) (pe_tup (pa_cons pe_str (pa_cons (pv 1) pa_nil))) (nomark _)))) pss_nil)
      (pss_one (ps_ret (pe_and (pe_cmpR (op_eqA hr) (pe_ixA hr (pv 3) pe_int (fun _ _ => rfl)) pe_int (nomark _)) (pe_one (pe_cmpR (op_eqA hr) (pe_cK c__law_told (hr.mono (by decide)) rfl (pa_cons (pe_cK c_written_custom (hr.mono (by decide)) rfl (pa_cons (pe_ixA hr (pv 3) pe_int (fun _ _ => rfl)) pa_nil)) pa_nil)) (pv 3) (nomark _)))))))))))
end
end K04
set_option Elab.async false
set_option linter.all false
set_option maxRecDepth 100000
set_option maxHeartbeats 4000000
namespace K04
open PySem PySem.Spec PyProof.Rows L2 My
section
variable {P : Program} {w : World} {K : PySem.W.Frag} {mg : Str → Option Value} {base : Heap}
/-! ### law -/
def pr_law (K : PySem.W.Frag) : V → Hp → VK → XK → Prop := fun x H Q _ => ∃ (a : Addr) (ns : List Int), x = .ref a ∧ SqL K H a (ns.map V.int) ∧ ns.length ≤ 63 ∧ ∀ H', Q (.bl true) H'
def sp_law (K : PySem.W.Frag) : Sp := Sp1 (pr_law K)
def t_law_0 (K : PySem.W.Frag) : TS :=
  (tSeq (tIfS (tOr (tTest (tOp (rNeA K) (tIxA K (tCall (sp__law_told K) [] E0 (tCons (tOp (rAddA K) (tC (.str "line 0")) (tOp rMulA (tC (.str " ")) (tC (.int 7994)))) tNil)) (tC (.int 0))) (tC (.int 0)))) (tTest (tOp (rNeA K) (tCall (sp__law_told K) [] E0 (tCons (tOp (rAddA K) (tC (.str "line 0")) (tOp rMulA (tC (.str " ")) (tC (.int 7995)))) tNil)) (tTup (tCons (tC (.str "sign")) (tCons (tC (.int 0)) tNil)))))) (tRet (tC (.bl false))) tNext)
  (tSeq (tAsg (tIxA K (tLst (tCons (tC .non) (tCons (tC (.int 5)) (tCons (tLst (tCons (tC (.str "line 0")) tNil)) (tCons (tC (.bl true)) (tCons (tTup tNil) (tCons tDNewK (tCons (tC (.int 0)) (tCons (tC (.bl false)) tNil))))))))) (tCall (sp__law_next K) [] E0 (tCons (tVar 1) (tCons (tC (.int 8)) tNil)))) (gName 7))
  (tRet (tAndV (tOp (rEqA K) (tCall (sp__law_told K) [] E0 (tCons (tC (.str "line 0 !")) tNil)) (tTup (tCons (tC (.str "sign")) (tCons (tC (.int 7)) tNil)))) (tAndV (tOp (rEqA K) (tCall (sp__law_told K) [] E0 (tCons (tVar 7) tNil)) (tTup (tCons (tC (.str "sign")) (tCons (tC (.int 0)) tNil)))) (tOp (rEqA K) (tCall (sp__law_told K) [] E0 (tCons (tC (.str "")) tNil)) (tTup (tCons (tC (.str "text")) (tCons (tTup (tCons (tC (.int 1)) (tCons (tC (.int 0)) tNil))) tNil)))))))))
def t_law_1 (K : PySem.W.Frag) : TS :=
  (tSeq (tFor (iRng1 (tCons (tOp (rAddA K) (tC (.int 1)) (tCall (sp__law_next K) [] E0 (tCons (tVar 1) (tCons (tC (.int 3)) tNil)))) tNil)) (gName 6) (tAsg (tCall (sp__law_bent K) [] E0 (tCons (tVar 1) (tCons (tVar 4) tNil))) (gName 4)))
  (tIfS (tNot (tB (tCall (sp__law_right K) [] E0 (tCons (tVar 4) tNil)))) (tRet (tC (.bl false))) tNext))
def t_law (K : PySem.W.Frag) : TS :=
  (tSeq (tAsg (tDisp (((tC (.str "cells")), (tVar 0)) :: (((tC (.str "at")), (tC (.int 0))) :: []))) (gName 1))
  (tSeq (tFor (iRng1 (tCons (tOp (rAddA K) (tC (.int 1)) (tCB rMin2I (tCons (tC (.int 15)) (tCons (tCB (rLenA K) (tCons (tVar 0) tNil)) tNil)))) tNil)) (gName 2) (tSeq (tAsg (tCall (sp__law_custom K) [] E0 (tCons (tVar 1) tNil)) (gName 3))
  (tSeq (tAsg (tCall (sp__law_words_of K) [] E0 (tCons (tVar 3) tNil)) (gName 4))
  (tSeq (tAsg (tM1 (rJoinA K) (tC (.str "\n")) (tLc (iA K (tVar 4)) (gName 8) tYes (tM1 (rJoinA K) (tC (.str " ")) (tVar 8)) [8])) (gName 5))
  (tSeq (tIfS (tOr (tTest (tOp (rNeA K) (tCall (sp_written_custom K) [] E0 (tCons (tVar 3) tNil)) (tVar 5))) (tTest (tOp (rNeA K) (tCall (sp__law_told K) [] E0 (tCons (tVar 5) tNil)) (tTup (tCons (tC (.int 0)) (tCons (tVar 3) tNil)))))) (tRet (tC (.bl false))) tNext)
  (tSeq (tIfS (tTest (tOp (rNeA K) (tCall (sp__law_told K) [] E0 (tCons (tCall (sp__law_loose K) [] E0 (tCons (tVar 1) (tCons (tLc (iA K (tVar 4)) (gName 8) tYes (tCall (sp__law_wide K) [] E0 (tCons (tVar 1) (tCons (tVar 8) tNil))) [8]) tNil))) tNil)) (tTup (tCons (tC (.int 0)) (tCons (tVar 3) tNil))))) (tRet (tC (.bl false))) tNext)
  (t_law_1 K)))))))
  (t_law_0 K)))
/-! ### blanks -/
theorem fold_sp : ∀ (n : Nat) (acc : Array Nat), ((List.replicate n (#[32] : Array Nat)).foldl (· ++ ·) acc).toList = acc.toList ++ List.replicate n 32
  | 0, acc => by simp
  | n + 1, acc => by
    rw [List.replicate_succ, List.foldl_cons, fold_sp n, List.replicate_succ]
    simp
theorem sp_cps : (" " : Str).cps = #[32] := by decide +kernel
theorem mul_sp {n : Nat} (h : 2 ≤ n) : Txt.mul " " ((n : Nat) : Int) = S (List.replicate n 32) := by
  refine TL.ext_tl ?_
  unfold Txt.mul
  rw [if_neg (by omega), if_neg ?_]
  · show ((List.replicate ((n : Nat) : Int).toNat (" " : Str).cps).foldl (· ++ ·) #[]).toList = List.replicate n 32
    rw [sp_cps, Int.toNat_natCast, fold_sp]
    simp
  · have h1 : (((n : Nat) : Int) == 1) = false := beq_eq_false_iff_ne.mpr (by omega)
    have h2 : ((" " : Str).length == 0) = false := by decide +kernel
    rw [h1, h2]; exact Bool.false_ne_true
theorem tl_line0 : TL.tl ("line 0" : Str) = ("line" : Str).cps.toList ++ [32] ++ ("0" : Str).cps.toList := by decide +kernel
theorem len_line0 : ("line 0" : Str).length = 6 := by decide +kernel
theorem gone_line0 : ∃ op, Gone (("line" : Str).cps.toList ++ [32] ++ ("0" : Str).cps.toList) [] [("line" : Str).cps.toList, ("0" : Str).cps.toList] op := by
  have g := ((Gone.nil.word (wd_lit (z := "line") (by decide +kernel)) (.inl rfl)).blank).word (wd_n (z := "0") (n := 0) (by decide +kernel) (by decide)) (.inl rfl)
  exact ⟨_, g⟩
def st0 : CSt := ⟨[⟨true, 0, 0, 1⟩], false, 0, 1, 0, 0⟩
theorem st0_ok : st0.Ok := ⟨fun o ho => by rw [List.mem_singleton.mp ho]; exact ⟨by decide, .inl ⟨rfl, rfl⟩⟩, by decide, by decide, .inl ⟨rfl, rfl⟩, by decide⟩
theorem TD_line0 {n : Nat} (h : n ≤ 7994) : TD (S (TL.tl ("line 0" : Str) ++ List.replicate n 32)) (custD st0) := by
  have hl : (S (TL.tl ("line 0" : Str) ++ List.replicate n 32)).length = 6 + n := by
    rw [S_len, List.length_append, List.length_replicate]
    have : (TL.tl ("line 0" : Str)).length = 6 := by decide +kernel
    rw [this]
  refine ⟨by omega, ?_⟩
  rw [if_pos (by omega)]
  obtain ⟨op, g⟩ := gone_line0
  have g2 := gone_blanks n g
  rw [← tl_line0] at g2
  rw [show (S (TL.tl ("line 0" : Str) ++ List.replicate n 32)).cps.toList = TL.tl ("line 0" : Str) ++ List.replicate n 32 from rfl, g2.all]
  have ew : ([] ++ [[("line" : Str).cps.toList, ("0" : Str).cps.toList]] : List (List (List Nat))) = ([["line", "0"]] : List (List Str)).map tls := rfl
  rw [ew]
  refine ⟨rows_wd fun ws hws => ?_, ?_⟩
  · rw [List.mem_singleton.mp hws]
    exact mem_cons_all (wd_lit (by decide +kernel)) (mem_cons_all (wd_n (n := 0) (by decide +kernel) (by decide)) mem_nil_all)
  · rw [wsS_map]
    obtain ⟨st', e1, e2⟩ := custP_tells (rows := ([["line", "0"]] : List (List Str))) (Rs := ([["line", "0"]] : List (List Str))) st0_ok (show [_] ≠ [] by simp) (by rfl) (.cons ⟨1, fun h => absurd h (by decide), by rw [show ("0" : Str) = numS 0 by decide +kernel]; rfl⟩ .nil)
    rw [e1]
    exact (custD_eq e2).symm
theorem TD_long {z : Str} (h1 : 8000 < z.length) (h2 : z.length ≤ 100000) : TD z (signD 0) := ⟨h2, by rw [if_neg (by omega)]⟩
theorem TD_bang : TD "line 0 !" (signD 7) := by
  have hl : ("line 0 !" : Str).length = 8 := by decide +kernel
  refine ⟨by omega, ?_⟩
  rw [if_pos (by omega)]
  obtain ⟨op, g⟩ := gone_line0
  have g2 := g.blank
  have e : ("line 0 !" : Str).cps.toList = ("line" : Str).cps.toList ++ [32] ++ ("0" : Str).cps.toList ++ [32] ++ [33] := by decide +kernel
  rw [e, g2.go [33] (fun h => by cases h), scan_bad (by decide) (by decide) (by decide +kernel)]
  show signD 7 = signD _
  congr 1
theorem TD_empty : TD "" (textD 1 0) := by
  refine ⟨by rw [len_nil]; decide, ?_⟩
  rw [if_pos (by rw [len_nil]; decide), show ("" : Str).cps.toList = [] by rw [S_nil], scan_nil]
  refine ⟨fun ws hws w hw => ?_, rfl⟩
  have : ws = [] := List.mem_singleton.mp hws
  rw [this] at hw; cases hw
theorem TD_loose {t : List Nat} {rows : List (List (List Nat))} {Rs : List (List Str)} {st : CSt} (ok : st.Ok) (nz : st.os ≠ []) (h1 : scan 0 [] [] t = .ok rows) (h2 : full rows = Rs.map tls) (h3 : t.length ≤ 8000) (h4 : Paired EntTells Rs st.ents) (h5 : ∀ ws ∈ Rs, WdW ws) : TD (S t) (custD st) := by
  refine ⟨by rw [S_len]; omega, ?_⟩
  rw [if_pos (by rw [S_len]; exact h3), show (S t).cps.toList = t from rfl, h1]
  refine ⟨fun ws hws w hw => ?_, ?_⟩
  · have hm : ws ∈ full rows := by
      unfold full
      refine List.mem_filter.mpr ⟨hws, ?_⟩
      cases ws with
      | nil => cases hw
      | cons => rfl
    rw [h2] at hm
    exact rows_wd h5 ws hm w hw
  · have hf : (rows.map wsS).filter (fun ws => !ws.isEmpty) = Rs := by
      rw [List.filter_map]
      have e : ((fun ws : List Str => !ws.isEmpty) ∘ wsS) = fun ws => !ws.isEmpty := by
        funext ws
        show (!(ws.map S).isEmpty) = _
        rw [List.isEmpty_map]
      rw [e]
      show (full rows).map wsS = Rs
      rw [h2, wsS_map]
    obtain ⟨st', e1, e2⟩ := custP_tells ok nz hf h4
    rw [e1]
    exact (custD_eq e2).symm
/-! ### the end -/
theorem law_end (T : Txt K mg) {st : Addr} {ns : List Int} {m : Int} {v0 v2 v3 v4 v5 v6 v7 v8 : Option V} {H : Hp} {Q : VK} (hn : ns.length ≤ 63) (ls : LS K H st ns m) (hm : m ≤ 100000000) (q : ∀ H', Q (.bl true) H') : t_law_0 K (ten Q) [v0, some (.ref st), v2, v3, v4, v5, v6, v7, v8] H := by
  have okm : ∀ {n : Int}, n = 7994 ∨ n = 7995 → MulOk (" " : Str) n := by
    rintro n (rfl | rfl)
    · exact ⟨by decide, fun _ _ => by decide +kernel, fun _ _ => by decide +kernel⟩
    · exact ⟨by decide, fun _ _ => by decide +kernel, fun _ _ => by decide +kernel⟩
  unfold t_law_0
  walk_at "w"
  refine .inr (.inl ⟨" ", 7994, rfl, rfl, okm (.inl rfl), ?_⟩)
  rw [show (7994 : Int) = ((7994 : Nat) : Int) from rfl, mul_sp (by decide)]
  refine st_add_str (by rw [len_line0, S_len, List.length_replicate]; decide) ?_
  rw [show ("line 0" : Str) ++ S (List.replicate 7994 32) = S (TL.tl ("line 0" : Str) ++ List.replicate 7994 32) from TL.ext_tl (TL.tl_append _ _)]
  walk_at "w"
  refine use_told (TD_line0 (Nat.le_refl _)) fun v1 H1 s1 d1 => ?_
  obtain ⟨pv, xv, rfl, hpv, dpv⟩ := d1.tup_inv
  obtain ⟨u0, _, rfl, d0, ds1⟩ := dpv.cons_inv
  rw [d0.int_inv] at hpv
  walk_at "w"
  refine st_ix_tup hpv (v := .int 0) (atI_nat (j := 0) rfl) ?_
  walk_at "w"
  rw [decide_eq_true (rfl : (0 : Int) = 0)]
  walk_at "w"
  refine .inr (.inl ⟨" ", 7995, rfl, rfl, okm (.inr rfl), ?_⟩)
  rw [show (7995 : Int) = ((7995 : Nat) : Int) from rfl, mul_sp (by decide)]
  refine st_add_str (by rw [len_line0, S_len, List.length_replicate]; decide) ?_
  have hl2 : (("line 0" : Str) ++ S (List.replicate 7995 32)).length = 8001 := by rw [len_append, len_line0, S_len, List.length_replicate]
  walk_at "w"
  refine use_told (TD_long (by rw [hl2]; decide) (by rw [hl2]; decide)) fun v2' H2 s2 d2 => ?_
  walk_at "w"
  refine ⟨show 2 ≤ sizeLine by decide, fun u3 hu3 => ?_⟩
  have s3 := same_new (o := .tup [V.str "sign", V.int 0]) hu3
  refine st_neD (e := signD 0) (d2.same s3) (.tup (.inl (.inl upd_same)) (.cons (.str _) (.cons (.int _) .nil))) (sign_shaped 0) (sign_shaped 0) ?_
  rw [eqv_same (sign_shaped 0)]
  have ls3 := ls.same ((s1.trans s2).trans s3)
  generalize upd H2 u3 (.tup [V.str "sign", V.int 0]) = H3 at *
  walk_at "w"
  refine ⟨show 1 ≤ sizeLine by decide, fun p1 hp1 => ?_⟩
  have t1 := same_new (o := .lst [V.str "line 0"]) hp1
  have e1 : upd H3 p1 (.lst [V.str "line 0"]) p1 = some (.lst [V.str "line 0"]) := upd_same
  generalize upd H3 p1 (.lst [V.str "line 0"]) = G1 at *
  walk_at "w"
  refine ⟨Nat.zero_le _, fun p2 hp2 => ?_⟩
  have t2 := same_new (o := .tup []) hp2
  have e2 : upd G1 p2 (.tup []) p2 = some (.tup []) := upd_same
  generalize upd G1 p2 (.tup []) = G2 at *
  walk_at "w"
  intro p3 hp3
  have t3 := same_new (o := .dK []) hp3
  have e3 : upd G2 p3 (.dK []) p3 = some (.dK []) := upd_same
  generalize upd G2 p3 (.dK []) = G3 at *
  walk_at "w"
  refine ⟨show 8 ≤ sizeLine by decide, fun p4 hp4 => ?_⟩
  have t4 := same_new (o := .lst [V.non, V.int 5, V.ref p1, V.bl true, V.ref p2, V.ref p3, V.int 0, V.bl false]) hp4
  have e4 : upd G3 p4 (.lst [V.non, V.int 5, V.ref p1, V.bl true, V.ref p2, V.ref p3, V.int 0, V.bl false]) p4 = some (.lst [V.non, V.int 5, V.ref p1, V.bl true, V.ref p2, V.ref p3, V.int 0, V.bl false]) := upd_same
  generalize upd G3 p4 (.lst [V.non, V.int 5, V.ref p1, V.bl true, V.ref p2, V.ref p3, V.int 0, V.bl false]) = G4 at *
  have e3 := t4 _ _ e3
  have e2 := (t3.trans t4) _ _ e2
  have e1 := ((t2.trans t3).trans t4) _ _ e1
  have a4 := ls3.adv (((t1.trans t2).trans t3).trans t4)
  walk_at "w"
  refine draw_ix a4.ls hn (by decide) (by omega) rfl e4 fun v H5 hv a5 => ?_
  have e1 := a5.sb _ _ (a4.ls.ne_lst e1) e1
  have e2 := a5.sb _ _ (fun z => by obtain ⟨kvs, y⟩ := a4.ls.at; rw [← z, e2] at y; cases y) e2
  have e3 : H5 p3 = some (.dK []) := a5.sb _ _ (fun z => by
    obtain ⟨b, k, y, _⟩ := a4.ls.ex
    rw [← z, e3] at y
    injection y with y
    injection y with y
    cases y) e3
  have hv : ∃ t, (∀ H', Same H5 H' → TyX K H' v t) ∧ PySem.W.kitOne K t (.type "str") = some false := by
    simp only [List.mem_cons, List.not_mem_nil, or_false] at hv
    rcases hv with rfl | rfl | rfl | rfl | rfl | rfl | rfl | rfl
    · exact ⟨_, fun _ _ => tx_non, kit_ty (r := false) (by decide +kernel)⟩
    · exact ⟨_, fun _ _ => tx_int, kit_ty (r := false) (by decide +kernel)⟩
    · exact ⟨_, fun _ s => .base (.lst (s _ _ e1)), kit_ty (r := false) (by decide +kernel)⟩
    · exact ⟨_, fun _ _ => tx_bl, kit_ty (r := false) (by decide +kernel)⟩
    · exact ⟨_, fun _ s => .base (.tup (s _ _ e2)), kit_ty (r := false) (by decide +kernel)⟩
    · exact ⟨_, fun _ s => .base (.dK (s _ _ e3)), kit_ty (r := false) (by decide +kernel)⟩
    · exact ⟨_, fun _ _ => tx_int, kit_ty (r := false) (by decide +kernel)⟩
    · exact ⟨_, fun _ _ => tx_bl, kit_ty (r := false) (by decide +kernel)⟩
  obtain ⟨t, ht, kt⟩ := hv
  walk_at "w"
  refine use_told TD_bang fun v6 H6 s6 d6 => ?_
  walk_at "w"
  refine ⟨show 2 ≤ sizeLine by decide, fun u7 hu7 => ?_⟩
  have s7 := same_new (o := .tup [V.str "sign", V.int 7]) hu7
  refine st_eqD (e := signD 7) (d6.same s7) (.tup (.inl (.inl upd_same)) (.cons (.str _) (.cons (.int _) .nil))) (sign_shaped 7) (sign_shaped 7) ?_
  rw [eqv_same (sign_shaped 7)]
  have s67 := s6.trans s7
  generalize upd H6 u7 (.tup [V.str "sign", V.int 7]) = H7 at *
  walk_at "w"
  refine ⟨_, rfl, signD 0, .inr ⟨t, ht _ s67, kt, rfl⟩, fun v8 H8 s8 d8 => ?_⟩
  walk_at "w"
  refine ⟨show 2 ≤ sizeLine by decide, fun u9 hu9 => ?_⟩
  have s9 := same_new (o := .tup [V.str "sign", V.int 0]) hu9
  refine st_eqD (e := signD 0) (d8.same s9) (.tup (.inl (.inl upd_same)) (.cons (.str _) (.cons (.int _) .nil))) (sign_shaped 0) (sign_shaped 0) ?_
  rw [eqv_same (sign_shaped 0)]
  walk_at "w"
  refine use_told TD_empty fun v10 H10 s10 d10 => ?_
  walk_at "w"
  refine ⟨show 2 ≤ sizeLine by decide, fun u11 hu11 => ?_⟩
  have s11 := same_new (o := .tup [V.int 1, V.int 0]) hu11
  have e11 : upd H10 u11 (.tup [V.int 1, V.int 0]) u11 = some (.tup [V.int 1, V.int 0]) := upd_same
  have d11 := d10.same s11
  generalize upd H10 u11 (.tup [V.int 1, V.int 0]) = H11 at *
  walk_at "w"
  refine ⟨show 2 ≤ sizeLine by decide, fun u12 hu12 => ?_⟩
  have s12 := same_new (o := .tup [V.str "text", V.ref u11]) hu12
  refine st_eqD (e := textD 1 0) (d11.same s12) (.tup (.inl (.inl upd_same)) (.cons (.str _) (.cons (.tup (.inl (.inl (s12 _ _ e11))) (.cons (.int _) (.cons (.int _) .nil))) .nil))) (text_shaped 1 0) (text_shaped 1 0) ?_
  rw [eqv_same (text_shaped 1 0)]
  exact q _
end
end K04
set_option Elab.async false
set_option linter.all false
set_option maxRecDepth 100000
set_option maxHeartbeats 4000000
namespace K04
open PySem PySem.Spec PyProof.Rows L2 My
section
variable {P : Program} {w : World} {K : PySem.W.Frag} {mg : Str → Option Value} {base : Heap}
theorem ent_words_len (m : Nat) (e : Ent) : (e.words m).length ≤ 6 := by
  cases e with
  | ord o =>
    show ([sortS o.line, numS o.k] ++ (if 0 < o.t then ("beside" : Str) :: fracW m o.t o.b else [])).length ≤ 6
    split
    · exact show 6 ≤ 6 by decide
    · exact show 2 ≤ 6 by decide
  | halves => exact show 1 ≤ 6 by decide
  | kept t b => exact show 4 ≤ 6 by decide
  | back n => exact show 2 ≤ 6 by decide
theorem ents_len {st : CSt} (ok : st.Ok) : st.ents.length ≤ 9 := by
  have := (etext_len ok).2
  rw [List.length_map] at this
  exact this
theorem PR.adv {H H' : Hp} {qs : List Addr} {es : List Ent} {st : Addr} {ns : List Int} {m m' : Int} (h : PR H qs es) (a : Adv K st ns m H H') (l : LS K H st ns m') : PR H' qs es := h.mono fun q ws e _ => a.sb _ _ (l.ne_lst e) e
/-- rows of entries are good rows -/
theorem PR.good {H : Hp} {p : Addr} {qs : List Addr} {st : CSt} (ok : st.Ok) (ne : st.os ≠ []) (hp : H p = some (.lst (qs.map V.ref))) (h : PR H qs st.ents) : GoodRows K H 9 6 p := by
  have hl : qs.length = st.ents.length := Paired.length (show Paired _ qs st.ents from h)
  have h9 := ents_len ok
  have h0 := ents_ne ne
  refine ⟨_, SqL.of hp, ?_, by rw [List.length_map]; omega, fun v hv => ?_⟩
  · rw [List.length_map]
    cases he : st.ents with
    | nil => exact absurd he h0
    | cons a r => rw [he] at hl; rw [hl]; show 1 ≤ r.length + 1; omega
  · obtain ⟨q, hq, rfl⟩ := List.mem_map.mp hv
    obtain ⟨i, hi⟩ := List.getElem?_of_mem hq
    obtain ⟨e, he, eq⟩ := pget h hi
    have hm := List.mem_of_getElem? he
    exact ⟨q, _, rfl, SqL.of eq, ent_words_len 1 e, ent_words_wd (ents_ok ok e hm) (fits_1 (ents_ok ok e hm))⟩
theorem wide_of {H : Hp} {D : Addr} {R : List Str → Ent → Prop} : ∀ {es : List Ent} {ys : List V}, Paired (fun e y => ∃ q ws, y = V.ref q ∧ q ≠ D ∧ H q = some (.lst ((ws : List Str).map V.str)) ∧ R ws e) es ys →
    ∃ (qs : List Addr) (Rs : List (List Str)), ys = qs.map V.ref ∧ Paired (fun q ws => SqL K H q ((ws : List Str).map V.str)) qs Rs ∧ Paired R Rs es
  | _, _, .nil => ⟨[], [], rfl, .nil, .nil⟩
  | _, _, .cons h t => by
    obtain ⟨q, ws, rfl, _, e, r⟩ := h
    obtain ⟨qs, Rs, rfl, p, p2⟩ := wide_of t
    exact ⟨q :: qs, ws :: Rs, rfl, .cons (SqL.of e) p, .cons r p2⟩
theorem law_turns (T : Txt K mg) {st p : Addr} {ns : List Int} {m : Int} {v0 v2 v3 v5 v6 : Option V} {H : Hp} {Q : VK} (N : L2.St → Hp → Prop) (hn : ns.length ≤ 63) (hm : m ≤ 1000000) (ls : LS K H st ns m) (g : GoodRows K H 9 6 p)
    (n : ∀ v4 v6 H', Adv K st ns (m + 40) H H' → N [v0, some (.ref st), v2, v3, v4, v5, v6, none, none] H') : t_law_1 K ⟨N, Q, fun _ _ => False, fun _ _ => False⟩ [v0, some (.ref st), v2, v3, some (.ref p), v5, v6, none, none] H := by
  unfold t_law_1
  walk_at "w"
  refine use_next ls hn (by decide) (by omega) fun r H1 r0 r1 a1 => ?_
  walk_at "w"
  refine ⟨_, rfl, by omega, by omega, ?_⟩
  have hr : (1 + r).toNat ≤ 3 := by omega
  generalize (1 + r).toNat = cnt at *
  refine for_it (walk_range (lo := 0) (n := cnt)) (fun i σ H' => ∃ (u : Addr) (v6 : Option V), i ≤ cnt ∧ σ = [v0, some (.ref st), v2, v3, some (.ref u), v5, v6, none, none] ∧ Adv K st ns (m + 1 + 6 * (i : Nat)) H H' ∧ GoodRows K H' (9 + 2 * i) (6 + i) u) ⟨p, v6, Nat.zero_le _, rfl, a1.le (by omega), ?_⟩ (fun _ _ _ _ _ => trivial) ?_ ?_
  · obtain ⟨vs, h1, h2, h3, h4⟩ := g
    exact ⟨vs, a1.sb.seqL ls.notSeq h1, h2, h3, h4.adv a1 ls⟩
  · rintro i x σ H2 H3 hi ⟨u, v6, _, rfl, a2, g2⟩ ⟨rfl, rfl⟩
    walk_at "w"
    refine ⟨_, _, rfl, st, u, ns, _, _, _, rfl, rfl, hn, a2.ls, by omega, g2, by omega, by omega, fun u' H4 a4 g4 => ?_⟩
    walk_at "w"
    refine ⟨u', _, by omega, rfl, (a2.trans a4).le (by omega), ?_⟩
    rw [show 9 + 2 * (i + 1) = 9 + 2 * i + 2 by omega, show 6 + (i + 1) = 6 + i + 1 by omega]
    exact g4
  · rintro σ H2 ⟨u, v6, _, rfl, a2, g2⟩
    walk_at "w"
    refine ⟨_, rfl, u, rfl, ?_, fun H3 s3 => ?_⟩
    · obtain ⟨vs, h1, h2, h3, h4⟩ := g2
      exact ⟨vs, h1, h2, by omega, h4.le (by omega)⟩
    walk_at "w"
    exact n _ _ _ ((a2.same s3).le (by omega))
theorem pure_law (T : Txt K mg) {x : V} {H : Hp} {Q : VK} {E : XK} (h : pr_law K x H Q E) : t_law K { nx := fun _ H' => Q .non H', rt := Q } [some x, none, none, none, none, none, none, none, none] H := by
  obtain ⟨a, ns, rfl, hs, hn, q⟩ := h
  unfold t_law
  walk_at "w"
  intro st hst
  walk_at "w"
  refine ⟨upd_same, [(Sum.inr "cells", .ref a), (Sum.inr "at", .int 0)], rfl, show 2 ≤ 15 by decide, ?_⟩
  rw [merge_st]
  have hne : a ≠ st ∨ ∀ H', SqL K H' a (ns.map V.int) := by
    rcases hs with (h | ⟨o, h⟩) | h
    · exact .inl fun e => by rw [e, hst] at h; cases h
    · exact .inl fun e => by rw [e, hst] at h; cases h
    · exact .inr fun _ => .inr h
  have s1 : SB st H (upd (upd H st (.dK [])) st (.dK (stK a 0))) := fun b o n e => by rw [upd_ne n, upd_ne n]; exact e
  have ls : LS K (upd (upd H st (.dK [])) st (.dK (stK a 0))) st ns 0 := ⟨a, 0, upd_same, s1.sqL hne hs, hne, by decide, by decide⟩
  have hs1 := s1.sqL hne hs
  generalize upd (upd H st (.dK [])) st (.dK (stK a 0)) = H1 at *
  walk_at "w"
  refine st_len_list hs1 ?_
  walk_at "w"
  refine ⟨15, _, rfl, ?_⟩
  rw [List.length_map]
  obtain ⟨cnt, hcnt, c15⟩ : ∃ cnt : Nat, (if ((ns.length : Nat) : Int) < 15 then ((ns.length : Nat) : Int) else 15) = ((cnt : Nat) : Int) ∧ cnt ≤ 15 := by
    by_cases h : ((ns.length : Nat) : Int) < 15
    · exact ⟨ns.length, by rw [if_pos h], by omega⟩
    · exact ⟨15, by rw [if_neg h]; rfl, by decide⟩
  rw [hcnt]
  walk_at "w"
  refine ⟨_, rfl, by omega, by omega, ?_⟩
  have e16 : (1 + ((cnt : Nat) : Int)).toNat ≤ 16 := by omega
  generalize (1 + ((cnt : Nat) : Int)).toNat = lim at *
  refine for_it (walk_range (lo := 0) (n := lim)) (fun i σ H' => i ≤ lim ∧ ∃ v2 v3 v4 v5 v6 : Option V, σ = [some (.ref a), some (.ref st), v2, v3, v4, v5, v6, none, none] ∧ Adv K st ns (0 + 1100 * (i : Nat)) H1 H') ⟨Nat.zero_le _, none, none, none, none, none, rfl, (ls.adv (Same.refl _)).le (by omega)⟩ (fun _ _ _ _ _ => trivial) ?_ ?_
  · rintro i x σ H2 H3 hi ⟨_, v2, v3, v4, v5, v6, rfl, a2⟩ ⟨rfl, rfl⟩
    walk_at "w"
    refine use_draws (c := 50) a2.ls hn (by omega) fun v H4 ⟨cu, dc, ok, nz⟩ a4 => ?_
    walk_at "w"
    refine ⟨_, rfl, cu, dc, ok, fun p qs H5 s5 hp pr => ?_⟩
    have a5 := (a2.trans a4).same s5
    have dc := dc.same s5
    have l9 := ents_len ok
    have hql : qs.length = cu.ents.length := Paired.length (show Paired _ qs cu.ents from pr)
    walk_at "w"
    refine .inl ⟨p, rfl, ⟨_, SqL.of hp⟩, fun D hD => ?_⟩
    refine lcv (walk_list (xs := qs.map V.ref)) hD (cu.ents.map (Ent.words 1)) (by rw [List.length_map, List.length_map]; exact hql) (by rw [List.length_map]; omega) (fun H' s => SqL.of (s _ _ hp)) (fun _ => true) (fun ws => .str (Str.join " " ws)) ?_ ?_
    · rintro k ws y H6 H7 hi s6 ⟨rfl, hy⟩ k1 k2 hk1 hk2
      rw [List.getElem?_map] at hi
      obtain ⟨e, he, rfl⟩ := Option.map_eq_some_iff.mp hi
      obtain ⟨qa, hqa, hsq⟩ := pgetR pr he
      rw [List.getElem?_map, hqa] at hy
      cases hy
      walk_at "w"
      refine ⟨rfl, ?_⟩
      walk_at "w"
      have hm := List.mem_of_getElem? he
      have wdo := ent_words_wd (ents_ok ok e hm) (fits_1 (ents_ok ok e hm))
      refine ⟨" ", qa, e.words 1, rfl, rfl, .inl (SqL.of (s6 _ _ hsq)), ?_, ?_⟩
      · have h3 := sum_len (ys := e.words 1) (B := 12) fun y hy => by
          have := (wdo y hy).ne.2
          rw [tl_len] at this
          exact this
        have := ent_words_len 1 e
        rw [len_sp]
        omega
      · rw [TL.join_eq]
        exact hk1 rfl _ (Same.refl _)
    intro H6 s6 h6
    rw [filter_yes, List.map_map] at h6
    have et : ∀ y ∈ (cu.ents.map (Ent.words 1)).map (Str.join " "), y.length ≤ 78 := fun y hy => by
      obtain ⟨ws, hws, rfl⟩ := List.mem_map.mp hy
      obtain ⟨e, he, rfl⟩ := List.mem_map.mp hws
      exact row_text_len (ent_words_len 1 e) (ent_words_wd (ents_ok ok e he) (fits_1 (ents_ok ok e he)))
    have h4 : ("\n" : Str).length = 1 := by decide +kernel
    refine ⟨"\n", D, (cu.ents.map (Ent.words 1)).map (Str.join " "), rfl, rfl, .inl (SqL.of (by rw [h6, List.map_map, List.map_map]; rfl)), ?_, ?_⟩
    · have h3 := sum_len et
      rw [h4]
      rw [List.length_map, List.length_map] at h3 ⊢
      omega
    rw [TL.join_eq]
    have ec : Str.join "\n" ((cu.ents.map (Ent.words 1)).map (Str.join " ")) = ctext cu := (ctext_r cu).symm
    rw [ec]
    clear et
    walk_at "w"
    have dc6 := dc.same s6
    refine ⟨_, rfl, cu, dc6, ok, fun H7 s7 => ?_⟩
    walk_at "w"
    rw [decide_eq_true rfl]
    walk_at "w"
    refine use_told (TD_ctext ok nz) fun v8 H8 s8 d8 => ?_
    walk_at "w"
    refine ⟨show 2 ≤ sizeLine by decide, fun u9 hu9 => ?_⟩
    have s9 := same_new (o := .tup [V.int 0, v]) hu9
    have s69 := ((s6.trans s7).trans s8).trans s9
    have e9 : upd H8 u9 (.tup [V.int 0, v]) u9 = some (.tup [V.int 0, v]) := upd_same
    generalize upd H8 u9 (.tup [V.int 0, v]) = H9 at *
    refine st_neD (e := custD cu) (d8.same s9) (.tup (.inl (.inl e9)) (.cons (.int _) (.cons (dc.same s69) .nil))) (cust_shaped cu) (cust_shaped cu) ?_
    rw [eqv_same (cust_shaped cu)]
    have a9 := a5.same s69
    have hp9 := s69 _ _ hp
    have pr9 := pr.same s69
    have dc9 := dc.same s69
    walk_at "w"
    refine .inl ⟨p, rfl, ⟨_, SqL.of hp9⟩, fun D2 hD2 => ?_⟩
    refine lcpA (walk_list (xs := qs.map V.ref)) (c := 1) hD2 a9.ls cu.ents (by rw [List.length_map, hql]) (by omega) (fun i H' a => SqL.of (a.sb _ _ (a9.ls.ne_lst hp9) hp9))
      (fun e y H => ∃ q ws, y = V.ref q ∧ q ≠ D2 ∧ H q = some (.lst ((ws : List Str).map V.str)) ∧ EntTells ws e) ?_ ?_ ?_ ?_
    · rintro e y H5 H6 zs hD5 hk ⟨q5, ws, rfl, ne, e5, r⟩
      exact ⟨q5, ws, rfl, ne, hk _ _ ne e5, r⟩
    · rintro e y H5 H6 m5 m6 l5 a5 ⟨q5, ws, rfl, ne, e5, r⟩
      exact ⟨q5, ws, rfl, ne, a5.sb _ _ (l5.ne_lst e5) e5, r⟩
    · rintro j e x H5 H6 zs hi a10 hD5 ⟨rfl, hx⟩ k1 k2 hk1
      obtain ⟨qa, hqa, eqa⟩ := pgetR pr9 hi
      rw [List.getElem?_map, hqa] at hx
      cases hx
      have j9 : j < 9 := by
        rcases Nat.lt_or_ge j cu.ents.length with h | h
        · omega
        · rw [List.getElem?_eq_none h] at hi; cases hi
      walk_at "w"
      refine ⟨rfl, ?_⟩
      walk_at "w"
      refine ⟨_, _, rfl, st, qa, ns, _, e, rfl, rfl, hn, a10.ls, by omega, a10.sb _ _ (a9.ls.ne_lst eqa) eqa, ents_ok ok e (List.mem_of_getElem? hi), fun u ws H7 tl a7 hu hw => ?_⟩
      refine hk1 _ _ a7 ⟨u, ws, rfl, ?_, hw, tl⟩
      rcases hu with rfl | hu
      · exact ne_of_none eqa hD2
      · exact fun e => by rw [e, hD5] at hu; cases hu
    intro ys H10 a10 h10 pr2
    obtain ⟨qs2, Rs, rfl, pq2, tells⟩ := wide_of pr2
    have wds : ∀ ws ∈ Rs, ws ≠ [] ∧ ws.length ≤ 10 ∧ WdW ws := fun ws hws => by
      obtain ⟨i, hi⟩ := List.getElem?_of_mem hws
      obtain ⟨e, he, m, f, rfl⟩ := pget tells hi
      have hm := List.mem_of_getElem? he
      exact ⟨ent_ne m e, Nat.le_trans (ent_words_len m e) (by decide), ent_words_wd (ents_ok ok e hm) f⟩
    walk_at "w"
    refine ⟨_, _, rfl, st, D2, ns, _, qs2, Rs, rfl, rfl, hn, a10.ls, by omega, SqL.of h10, pq2, by rw [tells.length]; omega, wds, fun t rows H11 h11 f11 l11 a11 => ?_⟩
    have a12 := a10.trans a11
    walk_at "w"
    refine use_told (TD_loose ok nz h11 f11 l11 tells fun ws hws => (wds ws hws).2.2) fun v13 H13 s13 d13 => ?_
    have dc13 := (a12.dp a9.ls dc9).same s13
    walk_at "w"
    refine ⟨show 2 ≤ sizeLine by decide, fun u14 hu14 => ?_⟩
    have s14 := same_new (o := .tup [V.int 0, v]) hu14
    have e14 : upd H13 u14 (.tup [V.int 0, v]) u14 = some (.tup [V.int 0, v]) := upd_same
    generalize upd H13 u14 (.tup [V.int 0, v]) = H14 at *
    refine st_neD (e := custD cu) (d13.same s14) (.tup (.inl (.inl e14)) (.cons (.int _) (.cons (dc13.same s14) .nil))) (cust_shaped cu) (cust_shaped cu) ?_
    rw [eqv_same (cust_shaped cu)]
    have s134 := s13.trans s14
    have a14 := a12.same s134
    have pr14 := (pr9.adv a12 a9.ls).same s134
    have hp14 := s134 _ _ (a12.sb _ _ (a9.ls.ne_lst hp9) hp9)
    walk_at "w"
    refine law_turns T _ hn (m := 0 + 1100 * (i : Nat) + 50 + 1 * (cu.ents.length : Nat) + 1000) (by omega) a14.ls (PR.good ok nz hp14 pr14) fun v4 v6 H15 a15 => ?_
    exact ⟨by omega, _, _, _, _, _, rfl, ((a9.trans a14).trans a15).le (by omega)⟩
  · rintro σ H2 ⟨_, v2, v3, v4, v5, v6, rfl, a2⟩
    walk_at "w"
    exact law_end T hn a2.ls (by omega) q
theorem ok_law (T : Txt K mg) (c_written_custom : Kp P w K mg base CX0 3 "written_custom" ["custom"] (sp_written_custom K)) (c__law_next : Kp P w K mg base CX0 1 "_law_next" ["_law_state", "_law_many"] (sp__law_next K)) (c__law_custom : Kp P w K mg base CX0 3 "_law_custom" ["_law_state"] (sp__law_custom K)) (c__law_words_of : Kp P w K mg base CX0 1 "_law_words_of" ["_law_custom_here"] (sp__law_words_of K)) (c__law_loose : Kp P w K mg base CX0 2 "_law_loose" ["_law_state", "_law_rows"] (sp__law_loose K)) (c__law_wide : Kp P w K mg base CX0 2 "_law_wide" ["_law_state", "_law_row"] (sp__law_wide K)) (c__law_bent : Kp P w K mg base CX0 2 "_law_bent" ["_law_state", "_law_rows"] (sp__law_bent K)) (c__law_told : Kp P w K mg base CX0 9 "_law_told" ["_law_text"] (sp__law_told K)) (c__law_right : Kp P w K mg base CX0 10 "_law_right" ["_law_rows"] (sp__law_right K)) {fd : FuncData} (F : FunD K d_law.name d_law.qual d_law.params d_law.body d_law.scope (d_law.dvs K) (d_law.kws K) (He.fAd K d_law.at_) fd) : FnOk P w K mg base CX0 11 (He.ga K "law") fd ["_law_script"] (sp_law K) := by
  refine F.ok sc_law Sp1.len (fun cdv A outer s H vs Q E hr h => ?_)
  obtain ⟨v0, rfl, h⟩ := h
  refine ⟨t_law K, PSs.nox (?_), pure_law T h⟩
  exact (pss_cons (ps_set (i := 1) sc_law.nd rfl (by first | exact Or.inl rfl | exact Or.inr rfl) (pe_disp (pps_cons pe_str (pv 0) (pps_cons pe_str pe_int pps_nil)) (by rfl) (by rfl) (fun z => by cases z) (by decide)))
      (pss_cons (ps_for PassesOwn.never rfl (pi_range1 (by rfl) T.n_range (pa_cons (pe_op op_addA pe_int (pe_callB (call_min2 rfl) (by rfl) T.n_min (by decide +kernel) (pa_cons pe_int (pa_cons (pe_callB call_len (by rfl) T.n_len (by decide +kernel) (pa_cons (pv 0) pa_nil)) pa_nil)))) pa_nil)) (pg_name (i := 2) sc_law.nd rfl (by first | exact Or.inl rfl | exact Or.inr rfl)) (pss_cons (ps_set (i := 3) sc_law.nd rfl (by first | exact Or.inl rfl | exact Or.inr rfl) (pe_cK c__law_custom (hr.mono (by decide)) rfl (pa_cons (pv 1) pa_nil)))
      (pss_cons (ps_set (i := 4) sc_law.nd rfl (by first | exact Or.inl rfl | exact Or.inr rfl) (pe_cK c__law_words_of (hr.mono (by decide)) rfl (pa_cons (pv 3) pa_nil)))
      (pss_cons (ps_set (i := 5) sc_law.nd rfl (by first | exact Or.inl rfl | exact Or.inr rfl) (pe_join pe_str (pe_lc (own := [("_law_row", 8)]) (g := (gName 8)) rfl sc_law.nd (pi_A (pv 4)) (blkOk_by (own := [("_law_row", 8)]) (N := N_law) (sc := defScope s_law) (by decide +kernel)) (fun _ _ _ _ _ => (pg_name (i := 8) sc_law.nd rfl (by first | exact Or.inl rfl | exact Or.inr rfl))) (fun _ _ _ _ _ => pts_nil) (fun _ _ _ _ _ => (pe_join pe_str (pv 8))))))
      (pss_cons (ps_if (PW.pt (pw_or (pt_cmpR (op_neA hr) (pe_cK c_written_custom (hr.mono (by decide)) rfl (pa_cons (pv 3) pa_nil)) (pv 5) (nomark _)) (pw_or1 (pt_cmpR (op_neA hr) (pe_cK c__law_told (hr.mono (by decide)) rfl (pa_cons (pv 5) pa_nil)) (pe_tup (pa_cons pe_int (pa_cons (pv 3) pa_nil))) (nomark _))))) (pss_one (ps_ret pe_bl)) pss_nil)
      (pss_cons (ps_if (pt_cmpR (op_neA hr) (pe_cK c__law_told (hr.mono (by decide)) rfl (pa_cons (pe_cK c__law_loose (hr.mono (by decide)) rfl (pa_cons (pv 1) (pa_cons (pe_lc (own := [("_law_row", 8)]) (g := (gName 8)) rfl sc_law.nd (pi_A (pv 4)) (blkOk_by (own := [("_law_row", 8)]) (N := N_law) (sc := defScope s_law) (by decide +kernel)) (fun _ _ _ _ _ => (pg_name (i := 8) sc_law.nd rfl (by first | exact Or.inl rfl | exact Or.inr rfl))) (fun _ _ _ _ _ => pts_nil) (fun _ _ _ _ _ => (pe_cK c__law_wide (hr.mono (by decide)) rfl (pa_cons (pv 1) (pa_cons (pv 8) pa_nil))))) pa_nil))) pa_nil)) (pe_tup (pa_cons pe_int (pa_cons (pv 3) pa_nil))) (nomark _)) (pss_one (ps_ret pe_bl)) pss_nil)
      (pss_cons (ps_for PassesOwn.never rfl (pi_range1 (by rfl) T.n_range (pa_cons (pe_op op_addA pe_int (pe_cK c__law_next (hr.mono (by decide)) rfl (pa_cons (pv 1) (pa_cons pe_int pa_nil)))) pa_nil)) (pg_name (i := 6) sc_law.nd rfl (by first | exact Or.inl rfl | exact Or.inr rfl)) (pss_one (ps_set (i := 4) sc_law.nd rfl (by first | exact Or.inl rfl | exact Or.inr rfl) (pe_cK c__law_bent (hr.mono (by decide)) rfl (pa_cons (pv 1) (pa_cons (pv 4) pa_nil))))))
      (pss_one (ps_if (pt_not (pt_val (pe_cK c__law_right (hr.mono (by decide)) rfl (pa_cons (pv 4) pa_nil)))) (pss_one (ps_ret pe_bl)) pss_nil)))))))))
      (pss_cons (ps_if (PW.pt (pw_or (pt_cmpR (op_neA hr) (pe_ixA hr (pe_cK c__law_told (hr.mono (by decide)) rfl (pa_cons (pe_op op_addA pe_str (pe_op op_mulA pe_str pe_int)) pa_nil)) pe_int (fun _ _ => rfl)) pe_int (nomark _)) (pw_or1 (pt_cmpR (op_neA hr) (pe_cK c__law_told (hr.mono (by decide)) rfl (pa_cons (pe_op op_addA pe_str (pe_op op_mulA pe_str pe_int)) pa_nil)) (pe_tup (pa_cons pe_str (pa_cons pe_int pa_nil))) (nomark _))))) (pss_one (ps_ret pe_bl)) pss_nil)
      (pss_cons (ps_set (i := 7) sc_law.nd rfl (by first | exact Or.inl rfl | exact Or.inr rfl) (pe_ixA hr (pe_lst (pa_cons pe_non (pa_cons pe_int (pa_cons (pe_lst (pa_cons pe_str pa_nil)) (pa_cons pe_bl (pa_cons (pe_tup pa_nil) (pa_cons pe_dnewK (pa_cons pe_int (pa_cons pe_bl pa_nil))))))))) (pe_cK c__law_next (hr.mono (by decide)) rfl (pa_cons (pv 1) (pa_cons pe_int pa_nil))) (fun _ _ => rfl)))
      (pss_one (ps_ret (pe_and (pe_cmpR (op_eqA hr) (pe_cK c__law_told (hr.mono (by decide)) rfl (pa_cons pe_str pa_nil)) (pe_tup (pa_cons pe_str (pa_cons pe_int pa_nil))) (nomark _)) (pe_and (pe_cmpR (op_eqA hr) (pe_cK c__law_told (hr.mono (by decide)) rfl (pa_cons (pv 7) pa_nil)) (pe_tup (pa_cons pe_str (pa_cons pe_int pa_nil))) (nomark _)) (pe_one (pe_cmpR (op_eqA hr) (pe_cK c__law_told (hr.mono (by decide)) rfl (pa_cons pe_str pa_nil)) (pe_tup (pa_cons pe_str (pa_cons (pe_tup (pa_cons pe_int (pa_cons pe_int pa_nil))) pa_nil))) (nomark _)))))))))))
end
end K04
set_option Elab.async false
set_option linter.all false
set_option maxRecDepth 100000
set_option maxHeartbeats 0
namespace K04
open PySem PySem.Spec PyProof.Rows L2 My
abbrev R : PySem.W.OpenRow := PySem.W.OpenLaw.row PySem.Challenge.rw_heirwood_k04_customs_read
abbrev hk : PySem.W.Hook := He.hookX 4 fa fn [] [] ex
def ob (s : PySem.W.SharedT) : He.AlX := He.obsX 4 fa fn [] [] ex (HandSHeadRun.getT s)
theorem ob_eq (s : PySem.W.SharedT) : ob s = hk.obs s.abs := He.obsX_eq (HandSHeadRun.getT_eq s)
def ns0 : List PySem.Str := ["_wall", "HeirError", "BadSign", "BadText", "BadFacts", "NoOne", "Alive", "BadLine", "TooMany", "NOUGHT", "divisor", "fraction", "LETTERS", "FIGURES", "MOST_SIGNS", "MOST_LETTERS", "MOST_FIGURES", "run_end", "word_end", "row_words"]
def ns1 : List PySem.Str := ["text_words", "is_number", "LAST_DAY", "MOST_BOTTOM", "MOST_ORDERS", "Reader", "CustomReader", "read_custom", "part_text", "order_text", "written_custom", "_law_next", "_law_part", "_law_custom", "_law_words_of", "_law_loose", "_law_class", "_law_wide", "_law_bent", "_law_is_in"]
def ns2 : List PySem.Str := ["_law_fraction_wrong", "_law_order_wrong", "_law_row_wrong", "_law_due", "_law_told", "_law_right"]
def loose : List PySem.Str := ns0 ++ ns1 ++ ns2
theorem run (w : World) : HandSHeadRun.RunEq R (PySem.W.view R.prog [52]) hk ob 5000 loose w := by
  intro os
  kernel_rfl
theorem facts {P : Program} {w : World} {K : PySem.W.Frag} {h : Heap} {mg : Str → Option Value} {f : Addr} (X : K.In h) (G : h.Ns mainGlobals mg) (hfa : mg ("law" : Str) = some (.ref f)) (c : He.SaysX fa fn [] [] ex w h K) :
    ∃ fd : FuncData, (∀ (s : Shared) (v : Value), BindsTo s fd ⟨[v], []⟩ [("_law_script", v)]) ∧ ∀ base : Heap, K.In base → base.Ns mainGlobals mg → FnOk P w K mg base CX0 11 f fd ["_law_script"] (sp_law K) := by
  have T : Txt K mg := ⟨⟨h, X, G⟩, c.t.d, c.more⟩
  obtain ⟨fd, F⟩ := T.c.def_ 41 (d := d_law) rfl
  have e := hfa.symm.trans T.g_law
  cases e
  have b := FunD.bindsA (ps := ["_law_script"]) F fun _ _ _ _ _ _ us hl => match us, hl with | [_], _ => rfl
  refine ⟨fd, fun s v => b s [v] rfl, fun base _ _ => ?_⟩
  have x_BadSign := kx_of T.g_BadSign T.oex_BadSign (ok_BadSign___init__ (P := P) (w := w) (base := base) T )
  have x_BadText := kx_of T.g_BadText T.oex_BadText (ok_BadText___init__ (P := P) (w := w) (base := base) T )
  have c_divisor := ok_divisor (P := P) (w := w) (base := base) T 
  have c_fraction := ok_fraction (P := P) (w := w) (base := base) T c_divisor
  have c_run_end := ok_run_end (P := P) (w := w) (base := base) T 
  have c_word_end := ok_word_end (P := P) (w := w) (base := base) T c_run_end
  have c_row_words := ok_row_words (P := P) (w := w) (base := base) T c_word_end x_BadSign
  have c_text_words := ok_text_words (P := P) (w := w) (base := base) T c_row_words x_BadSign
  have c_is_number := ok_is_number (P := P) (w := w) (base := base) T 
  have c_Reader___init__ := ok_Reader___init__ (P := P) (w := w) (base := base) T 
  have c_Reader_need := ok_Reader_need (P := P) (w := w) (base := base) T x_BadText
  have c_Reader_peek := ok_Reader_peek (P := P) (w := w) (base := base) T 
  have c_Reader_go := ok_Reader_go (P := P) (w := w) (base := base) T c_Reader_peek
  have c_Reader_take_word := ok_Reader_take_word (P := P) (w := w) (base := base) T c_Reader_need c_Reader_peek c_Reader_go
  have c_Reader_take_number := ok_Reader_take_number (P := P) (w := w) (base := base) T c_is_number c_Reader_need c_Reader_peek c_Reader_go
  have c_Reader_take_fraction := ok_Reader_take_fraction (P := P) (w := w) (base := base) T c_fraction c_is_number c_Reader_need c_Reader_peek c_Reader_go c_Reader_take_word c_Reader_take_number
  have c_Reader_over := ok_Reader_over (P := P) (w := w) (base := base) T c_Reader_need
  have c_Reader_take_order := ok_Reader_take_order (P := P) (w := w) (base := base) T c_is_number c_Reader_need c_Reader_peek c_Reader_go c_Reader_take_word c_Reader_take_fraction
  have c_CustomReader___init__ := ok_CustomReader___init__ (P := P) (w := w) (base := base) T 
  have c_CustomReader_take_more := ok_CustomReader_take_more (P := P) (w := w) (base := base) T c_Reader_take_number c_Reader_take_fraction
  have c_CustomReader_take := ok_CustomReader_take (P := P) (w := w) (base := base) T c_Reader_need c_Reader_peek c_Reader_go c_Reader_over c_Reader_take_order c_CustomReader_take_more
  have c_CustomReader_custom_told := ok_CustomReader_custom_told (P := P) (w := w) (base := base) T 
  have c_read_custom := ok_read_custom (P := P) (w := w) (base := base) T c_text_words c_Reader___init__ c_CustomReader___init__ c_CustomReader_take c_CustomReader_custom_told x_BadText
  have c_part_text := ok_part_text (P := P) (w := w) (base := base) T 
  have c_order_text := ok_order_text (P := P) (w := w) (base := base) T c_part_text
  have c_written_custom := ok_written_custom (P := P) (w := w) (base := base) T c_part_text c_order_text
  have c__law_next := ok__law_next (P := P) (w := w) (base := base) T 
  have c__law_part := ok__law_part (P := P) (w := w) (base := base) T c__law_next
  have c__law_custom := ok__law_custom (P := P) (w := w) (base := base) T c__law_next c__law_part
  have c__law_words_of := ok__law_words_of (P := P) (w := w) (base := base) T 
  have c__law_loose := ok__law_loose (P := P) (w := w) (base := base) T c__law_next
  have c__law_class := ok__law_class (P := P) (w := w) (base := base) T 
  have c__law_wide := ok__law_wide (P := P) (w := w) (base := base) T c__law_next
  have c__law_bent := ok__law_bent (P := P) (w := w) (base := base) T c__law_next
  have c__law_is_in := ok__law_is_in (P := P) (w := w) (base := base) T 
  have c__law_fraction_wrong := ok__law_fraction_wrong (P := P) (w := w) (base := base) T c__law_is_in
  have c__law_order_wrong := ok__law_order_wrong (P := P) (w := w) (base := base) T c__law_is_in c__law_fraction_wrong
  have c__law_row_wrong := ok__law_row_wrong (P := P) (w := w) (base := base) T c__law_is_in c__law_fraction_wrong c__law_order_wrong
  have c__law_due := ok__law_due (P := P) (w := w) (base := base) T c__law_row_wrong
  have c__law_told := ok__law_told (P := P) (w := w) (base := base) T c_read_custom c__law_class
  have c__law_right := ok__law_right (P := P) (w := w) (base := base) T c_written_custom c__law_due c__law_told
  exact ok_law T c_written_custom c__law_next c__law_custom c__law_words_of c__law_loose c__law_wide c__law_bent c__law_told c__law_right F
end K04
open PySem PySem.W PySem.Calls PyProof.Rows
theorem PySem.Challenge.cw_heirwood_k04_customs_read_holds : PySem.Challenge.rw_heirwood_k04_customs_read.Holds := by
  w_on; o_law
  refine HandSHeadRun.head_any (r := OpenLaw.row PySem.Challenge.rw_heirwood_k04_customs_read) (q := view (OpenLaw.row PySem.Challenge.rw_heirwood_k04_customs_read).prog [52]) (H := K04.hk) (ob := K04.ob) (M := 5000) (loose := K04.loose) (d := HandSHeadRun.topDef (OpenLaw.row PySem.Challenge.rw_heirwood_k04_customs_read).prog 52) (kwd := []) K04.ob_eq
    (by kernel_rfl) (fun s => by kernel_rfl) K04.run (by kernel_rfl) (by kernel_rfl) (by kernel_rfl) (by rfl) (by first | assumption | decide +kernel) (by decide +kernel) ⟨rfl, rfl, rfl, rfl, rfl, by decide +kernel⟩ ?hw ?hc
  case hw => w_witness2
  case hc =>
    refine L2.walk_ofE (l := PySem.Challenge.rw_heirwood_k04_customs_read) (n := 63) (k := 11) (x := "_law_script") (CX := L2.CX0) rfl (by decide) (by kernel_rfl) ⟨rfl, by decide, by decide⟩ ?F (fun _ _ _ _ z => z)
    intro w mg fa h Y G hmg0
    obtain ⟨K, KX, c⟩ := Y
    have hmg : mg ("law" : PySem.Str) = some (.ref fa) := by
      have e : (HandSHeadRun.topDef (OpenLaw.row PySem.Challenge.rw_heirwood_k04_customs_read).prog 52).name = ("law" : PySem.Str) := by kernel_rfl
      rw [← e]
      exact hmg0
    obtain ⟨fd, hb, hF⟩ := K04.facts (P := (PySem.Challenge.rw_heirwood_k04_customs_read).prog) (w := w) KX G hmg c
    exact ⟨K, fd, K04.sp_law K, KX, hb, fun H a ns hl _ hS => ⟨_, rfl, a, ns, rfl, hS, hl, fun _ => rfl⟩, hF⟩
