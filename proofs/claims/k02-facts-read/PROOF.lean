import PyProof.Rows.All
import Wide.All
import OpenK.AllK
import Wide.FinOn
import PyProof.StrBlock2
import PyProof.EqAt
import PyProof.EqKinds
import PyProof.TupleCall
import KE.KStateDown
import HandS.ForMost
import HandS.Exc
import HandS.ExcOwn
import HandS.ExcInit
import HandS.WordsExc
import HandS.Wide
import HandS.Defaults
import HandS.Head0
import HandS.Head1
import HandS.Head2
import HandS.HeadEnd
import HandS.HeadHook1
import HandS.HeadHook2
import HandS.IsInst
import HandS.Style
import HandS.Walk
import HandS.RaiseMore
import PySem.Challenge.RW_heirwood_k02_facts_read
import HandS.HeadHook4
set_option Elab.async false
set_option linter.all false
set_option maxRecDepth 100000
set_option maxHeartbeats 4000000
/-! The layer over HandS: promises by arity, defs by name, rules that choose by the values. -/
namespace My
open PySem PySem.Spec PyProof.Rows L2

/-! ### promises by arity -/
def Sp0 (p : Hp → VK → XK → Prop) : Sp := fun vs H Q E => vs = [] ∧ p H Q E
def Sp1 (p : V → Hp → VK → XK → Prop) : Sp := fun vs H Q E => ∃ a, vs = [a] ∧ p a H Q E
def Sp2 (p : V → V → Hp → VK → XK → Prop) : Sp := fun vs H Q E => ∃ a b, vs = [a, b] ∧ p a b H Q E
def Sp3 (p : V → V → V → Hp → VK → XK → Prop) : Sp := fun vs H Q E => ∃ a b c, vs = [a, b, c] ∧ p a b c H Q E
def Sp4 (p : V → V → V → V → Hp → VK → XK → Prop) : Sp := fun vs H Q E => ∃ a b c d, vs = [a, b, c, d] ∧ p a b c d H Q E
def Sp5 (p : V → V → V → V → V → Hp → VK → XK → Prop) : Sp := fun vs H Q E => ∃ a b c d e, vs = [a, b, c, d, e] ∧ p a b c d e H Q E
theorem Sp0.len {p} : ∀ vs H Q E, Sp0 p vs H Q E → vs.length = 0 := fun _ _ _ _ ⟨e, _⟩ => by rw [e]; rfl
theorem Sp1.len {p} : ∀ vs H Q E, Sp1 p vs H Q E → vs.length = 1 := fun _ _ _ _ ⟨_, e, _⟩ => by rw [e]; rfl
theorem Sp2.len {p} : ∀ vs H Q E, Sp2 p vs H Q E → vs.length = 2 := fun _ _ _ _ ⟨_, _, e, _⟩ => by rw [e]; rfl
theorem Sp3.len {p} : ∀ vs H Q E, Sp3 p vs H Q E → vs.length = 3 := fun _ _ _ _ ⟨_, _, _, e, _⟩ => by rw [e]; rfl
theorem Sp4.len {p} : ∀ vs H Q E, Sp4 p vs H Q E → vs.length = 4 := fun _ _ _ _ ⟨_, _, _, _, e, _⟩ => by rw [e]; rfl
theorem Sp5.len {p} : ∀ vs H Q E, Sp5 p vs H Q E → vs.length = 5 := fun _ _ _ _ ⟨_, _, _, _, _, e, _⟩ => by rw [e]; rfl

/-! ### a def by its name -/
structure Kp (P : Program) (w : World) (K : PySem.W.Frag) (mg : Str → Option Value) (base : Heap) (CX : CXT) (k : Nat) (x : Str) (ps : List Str) (sp : Sp) : Prop where
  ex : ∃ f fd, mg x = some (.ref f) ∧ PySem.W.keepIn K (.ref f) = true ∧ Binds K fd ps [] ∧ FnOk P w K mg base CX k f fd ps sp
/-- a def at its place -/
structure Kf (P : Program) (w : World) (K : PySem.W.Frag) (mg : Str → Option Value) (base : Heap) (CX : CXT) (k : Nat) (f : Addr) (ps : List Str) (sp : Sp) : Prop where
  ex : ∃ fd, PySem.W.keepIn K (.ref f) = true ∧ Binds K fd ps [] ∧ FnOk P w K mg base CX k f fd ps sp

section
variable {X : Cx} {j k : Nat} {x : Str} {ps : List Str} {sp : Sp} {e : Expr} {es : List Expr} {t : TA} {p pos : Pos}
theorem pe_cK (c : Kp X.prog X.w X.K X.mg X.base CX0 j x ps sp) (hr : Room j X.A) (hg : Gl X x) (ha : PA X (e :: es) t)
    (hdb : (x == ("__debug__" : Str)) = false := by decide) (he : starEach (e :: es) X.env = (false, eval e X.env) :: starEach es X.env := by rfl) (hpl : (backTo pos (starEach es X.env)).any (·.1) = false := by rfl) :
    PE X (.Call (.Name x p) (e :: es) [] pos) (tCall sp [] E0 t) := by
  obtain ⟨f, fd, h1, h2, h3, h4⟩ := c.ex
  exact pe_call h4 hr hg h1 h2 h3 .nil pass0 ha hdb he hpl
theorem pe_cK0 (c : Kp X.prog X.w X.K X.mg X.base CX0 j x ps sp) (hr : Room j X.A) (hg : Gl X x) (hdb : (x == ("__debug__" : Str)) = false := by decide) :
    PE X (.Call (.Name x p) [] [] pos) (tCall sp [] E0 tNil) := by
  obtain ⟨f, fd, h1, h2, h3, h4⟩ := c.ex
  exact pe_call0 h4 hr hg h1 h2 h3 .nil pass0 hdb
theorem pe_cKX {W : WX} (c : Kp X.prog X.w X.K X.mg X.base (L2.CX X.prog X.w) j x ps sp) (hr : Room j X.A) (hg : Gl X x) (tk : Takes X W) (ha : PA X (e :: es) t)
    (hdb : (x == ("__debug__" : Str)) = false := by decide) (he : starEach (e :: es) X.env = (false, eval e X.env) :: starEach es X.env := by rfl) (hpl : (backTo pos (starEach es X.env)).any (·.1) = false := by rfl) :
    PE X (.Call (.Name x p) (e :: es) [] pos) (tCallS sp (WE W) t) := by
  obtain ⟨f, fd, h1, h2, h3, h4⟩ := c.ex
  exact pe_callS h4 hr hg h1 h2 h3 (fun σ => passAt tk σ) ha hdb he hpl
end

/-! ### names of the module -/
section
variable {X : Cx} {x : Str} {pos : Pos}
theorem pe_gi {i : Int} (hg : Gl X x) (h : ∃ t, X.mg x = some (.int i t)) (hd : (x == ("__debug__" : Str)) = false := by decide) : PE X (.Name x pos) (tC (.int i)) := by
  obtain ⟨t, h⟩ := h
  exact pe_glob hg h ⟨_, rfl⟩ hd
theorem pe_gs {z : Str} (hg : Gl X x) (h : ∃ t, X.mg x = some (.str z t)) (hd : (x == ("__debug__" : Str)) = false := by decide) : PE X (.Name x pos) (tC (.str z)) := by
  obtain ⟨t, h⟩ := h
  exact pe_glob hg h ⟨_, rfl⟩ hd
theorem pe_gr {a : Addr} (hg : Gl X x) (h : X.mg x = some (.ref a)) (hd : (x == ("__debug__" : Str)) = false := by decide) : PE X (.Name x pos) (tC (.ref a)) :=
  pe_glob hg h rfl hd
end

/-! ### operators that choose by the values -/
def rSubI : R2 := rI0 fun i j => .int (i - j)
def rPowI : R2 := rI CPow fun i j => .int (i ^ j.toNat)
def rDivA : R2 := rI CDivW fun i j => .int (i / j)
def rModA : R2 := rI (fun _ j => 0 < j) fun i j => .int (i % j)
def rNegI : V → Hp → VK → Prop := rU fun i => .int (-i)
def rAddI : R2 := rI0 fun i j => .int (i + j)
def rAddS : R2 := fun x y H Q => ∃ i j, x = .str i ∧ y = .str j ∧ i.length + j.length ≤ sizeLine ∧ Q (.str (i ++ j)) H
def rAddA (K : PySem.W.Frag) : R2 := fun x y H Q => rAddI x y H Q ∨ rAddS x y H Q ∨ rCat x y H Q ∨ rCatT K x y H Q
def rMulI : R2 := rI CMulW fun i j => .int (i * j)
def rMulS : R2 := fun x y H Q => ∃ z n, x = .str z ∧ y = .int n ∧ MulOk z n ∧ Q (.str (Txt.mul z n)) H
def rMulA : R2 := fun x y H Q => rMulI x y H Q ∨ rMulS x y H Q ∨ rRep x y H Q
def rEqA (K : PySem.W.Frag) : R2 := fun x y H Q => rEq x y H Q ∨ rEqD K x y H Q
def rNeA (K : PySem.W.Frag) : R2 := fun x y H Q => rNe x y H Q ∨ rNeD K x y H Q
def rCmpS (p : Str → Str → Bool) : R2 := fun x y H Q => ∃ i j, x = .str i ∧ y = .str j ∧ Q (.bl (p i j)) H
def rLtA : R2 := fun x y H Q => rI0 (fun i j => .bl (decide (i < j))) x y H Q ∨ rCmpS (fun i j => decide (i.cps.toList < j.cps.toList)) x y H Q
def rLeA : R2 := fun x y H Q => rI0 (fun i j => .bl (decide (i ≤ j))) x y H Q ∨ rCmpS (fun i j => !decide (j.cps.toList < i.cps.toList)) x y H Q
def rGtA : R2 := fun x y H Q => rI0 (fun i j => .bl (decide (j < i))) x y H Q ∨ rCmpS (fun i j => decide (j.cps.toList < i.cps.toList)) x y H Q
def rGeA : R2 := fun x y H Q => rI0 (fun i j => .bl (decide (j ≤ i))) x y H Q ∨ rCmpS (fun i j => !decide (i.cps.toList < j.cps.toList)) x y H Q
def rInS (neg : Bool) : R2 := fun x y H Q => ∃ (c : Nat) (z : Str), x = .str ⟨#[c]⟩ ∧ y = .str z ∧ Q (.bl (if neg then !decide (c ∈ z.cps.toList) else decide (c ∈ z.cps.toList))) H
def rInD (neg : Bool) : R2 := fun x y H Q => ∃ a o, y = .ref a ∧ DGet H a x o ∧ Q (.bl (if neg then !o.isSome else o.isSome)) H
def rInA (K : PySem.W.Frag) (neg : Bool) : R2 := fun x y H Q => rInS neg x y H Q ∨ rIn K neg x y H Q ∨ rInD neg x y H Q
def rIxD : R2 := fun x y H Q => ∃ a v, x = .ref a ∧ DGet H a y (some v) ∧ Q v H
def rIxA (K : PySem.W.Frag) : R2 := fun x y H Q => rIx K x y H Q ∨ rIxD x y H Q
def tIxA (K : PySem.W.Frag) (ta tb : TE) : TE := tOp (rIxA K) ta tb
def tInA (K : PySem.W.Frag) (ta tb : TE) : TE := tOp (rInA K false) ta tb
def tNinA (K : PySem.W.Frag) (ta tb : TE) : TE := tOp (rInA K true) ta tb
def rSlA (K : PySem.W.Frag) : V → Option Int → Option Int → Hp → VK → Prop := fun x lo hi H Q => rSlL K x lo hi H Q ∨ rSlS x lo hi H Q ∨ rSlT K x lo hi H Q
def rLenA (K : PySem.W.Frag) : List V → Hp → VK → Prop := fun xs H Q => ∃ x n, xs = [x] ∧ LenV K x H n ∧ Q (.int n) H
def rMin2I : List V → Hp → VK → Prop := fun xs H Q => ∃ i j, xs = [.int i, .int j] ∧ Q (.int (if j < i then j else i)) H
def rMax2I : List V → Hp → VK → Prop := fun xs H Q => ∃ i j, xs = [.int i, .int j] ∧ Q (.int (if j > i then j else i)) H
def rAbsI : List V → Hp → VK → Prop := fun xs H Q => ∃ i, xs = [.int i] ∧ Q (.int (if i < 0 then -i else i)) H
def rIntA : List V → Hp → VK → Prop := fun xs H Q => ((∃ i, xs = [.int i] ∧ Q (.int i) H) ∨ ∃ k, xs = [.bl k] ∧ Q (.int (if k then 1 else 0)) H) ∨ ∃ a n, xs = [.str a] ∧ PySem.intText? a = some n ∧ a.length ≤ 640 ∧ Q (.int n) H
def rStrA : List V → Hp → VK → Prop := fun xs H Q => ∃ i, xs = [.int i] ∧ i.natAbs.log2 < 1920 ∧ Q (.str (toString i)) H
def rListOf (K : PySem.W.Frag) : List V → Hp → VK → Prop := fun xs H Q => ∃ p ys, xs = [.ref p] ∧ (SqL K H p ys ∨ SqT K H p ys) ∧ ∀ l, H l = none → Q (.ref l) (upd H l (.lst ys))
def rTupleOf (K : PySem.W.Frag) : List V → Hp → VK → Prop := fun xs H Q => ∃ p ys, xs = [.ref p] ∧ ((SqL K H p ys ∧ ∀ l, H l = none → Q (.ref l) (upd H l (.tup ys))) ∨ (SqT K H p ys ∧ Q (.ref p) H))
def rSplitA : V → List V → Hp → VK → Prop := fun x xs H Q => ∃ a b, x = .str a ∧ xs = [.str b] ∧ (b.length == 0) = false ∧ a.length + 2 ≤ sizeLine ∧ rNewStrs (Txt.split a b) H Q
def rJoinA (K : PySem.W.Frag) : V → List V → Hp → VK → Prop := fun x xs H Q => ∃ a p, ∃ ys : List Str, x = .str a ∧ xs = [.ref p] ∧ (SqL K H p (ys.map V.str) ∨ SqT K H p (ys.map V.str)) ∧
  (ys.map (·.length)).sum + ys.length * a.length ≤ 16777216 ∧ Q (.str (Txt.join a ys)) H
section
variable {X : Cx} {a b : Expr} {ta tb : TE} {pos : Pos} {k : Nat}
theorem op_addA : OpR X (binaryOp .Add) (rAddA X.K) := op_add.or (op_add_str.or (op_cat.or op_catT))
theorem op_mulS : OpR X (binaryOp .Mult) rMulS := by
  intro pins s σ H x y v u Q I rx ry h
  obtain ⟨z, n, rfl, rfl, hm, q⟩ := h
  obtain ⟨t, rfl⟩ := rx
  obtain ⟨t', rfl⟩ := ry
  exact PySem.SB.mul hm fun t' k => ⟨.str _, H, I.tok _, ⟨_, rfl⟩, q⟩
theorem op_mulA : OpR X (binaryOp .Mult) rMulA := op_mulW.or (op_mulS.or op_rep)
theorem op_fdivA : OpR X (binaryOp .FloorDiv) rDivA := op_fdivW
theorem op_modA : OpR X (binaryOp .Mod) rModA := op_mod
theorem op_eqA (hr : Room k X.A) : OpR X (compareOp .Eq) (rEqA X.K) := op_eq.or (op_eqD (by have := hr.units; omega))
theorem op_neA (hr : Room k X.A) : OpR X (compareOp .NotEq) (rNeA X.K) := op_ne.or (op_neD (by have := hr.units; omega))
theorem op_ltA : OpR X (compareOp .Lt) rLtA := op_lt.or op_lt_str
theorem op_leA : OpR X (compareOp .LtE) rLeA := op_le.or op_le_str
theorem op_gtA : OpR X (compareOp .Gt) rGtA := op_gt.or op_gt_str
theorem op_geA : OpR X (compareOp .GtE) rGeA := op_ge.or op_ge_str
theorem op_inD (hu : X.A.units + 1 < cLine) : OpR X (compareOp .In) (rInD false) := by
  intro pins s σ H x y v u Q I rx ry h
  obtain ⟨d, o, rfl, g, q⟩ := h
  obtain rfl : u = Value.ref d := ry
  exact d_in hu I g rx fun s3 I3 => ⟨.bl o.isSome, H, I3, rfl, q⟩
theorem op_ninD (hu : X.A.units + 1 < cLine) : OpR X (compareOp .NotIn) (rInD true) := by
  intro pins s σ H x y v u Q I rx ry h
  obtain ⟨d, o, rfl, g, q⟩ := h
  obtain rfl : u = Value.ref d := ry
  exact d_notIn hu I g rx fun s3 I3 => ⟨.bl (!o.isSome), H, I3, rfl, q⟩
theorem op_inA (hr : Room k X.A) : OpR X (compareOp .In) (rInA X.K false) := OpR.or (r := rInS false) op_in_sign (op_in_seq.or (op_inD (hu_of hr)))
theorem op_ninA (hr : Room k X.A) : OpR X (compareOp .NotIn) (rInA X.K true) := OpR.or (r := rInS true) op_notIn_sign (op_notIn_seq.or (op_ninD (hu_of hr)))
theorem pe_inA (hr : Room k X.A) (ha : PE X a ta) (hb : PE X b tb) (hm : behindInMarks .In b = false) : PE X (.Compare a [.In] [b] pos) (tInA X.K ta tb) := pe_cmpR (op_inA hr) ha hb hm
theorem pe_ninA (hr : Room k X.A) (ha : PE X a ta) (hb : PE X b tb) (hm : behindInMarks .NotIn b = false) : PE X (.Compare a [.NotIn] [b] pos) (tNinA X.K ta tb) := pe_cmpR (op_ninA hr) ha hb hm
theorem ix_dict (hu : X.A.units + 1 < cLine) : IxR X rIxD := by
  intro value slice pins s σ H x y v u Q I rx ry h hs
  obtain ⟨d, z, rfl, g, q⟩ := h
  obtain rfl : v = Value.ref d := rx
  have hT := dict_typeIs I g
  have hl := PySem.F.slot_dict_getitem.lookup
  unfold subscriptTail
  refine wpAny_bind ?_
  rw [getitemInPython_of_ne hT.not_modules]
  refine wpAny_bind (wpAny_specialOf hT hl ?_)
  have fin : wpAny (model X.prog X.w) X.A (subscripted slice false (.ref d) u) (fun r s₃ => wpAny (model X.prog X.w) X.A (letTemporaryGo value (.ref d) r >>= fun _ => pure r) (EP X pins σ Q) X.xe s₃) X.xe s := by
    rw [hs]
    exact wpAny_operating (wpAny_mono (d_getItem hu I g ry fun w' s3 I3 rw' => (show EP X pins σ Q w' s3 from ⟨z, H, I3, rw', q⟩)) (fun r s₃ h₃ => wpAny_bind (wpAny_letTemporaryGo (wpAny_pure h₃))) fun _ _ x => x)
  first
    | exact wpAny_pure (wpAny_bind fin)
    | exact wpAny_bind (wpAny_pure (wpAny_bind fin))
    | exact wpAny_bind fin
theorem ix_A (hr : Room k X.A) : IxR X (rIxA X.K) := ix_seq.or (ix_dict (hu_of hr))
theorem pe_ixA (hr : Room k X.A) (ha : PE X a ta) (hb : PE X b tb) (hs : PlainIx b) : PE X (.Subscript a b pos) (tIxA X.K ta tb) := pe_ix (ix_A hr) ha hb hs
theorem sl_A : SlR X (rSlA X.K) := sl_list.or (sl_str.or sl_tup)
theorem call_intA : CallR X (.type "int") rIntA := call_int1.or call_int_str
theorem call_strA : CallR X (.type "str") rStrA := call_str_int
end

/-! ### what is walked -/
section
variable {X : Cx} {tg e : Expr} {te : TE}
/-- a list, a tuple, a text -/
def iA (K : PySem.W.Frag) (te : TE) : TI := fun σ H R => te σ H fun x H1 => (∃ a, x = .ref a ∧ (∃ xs, SqL K H1 a xs) ∧ R (Itl K a) H1) ∨ (∃ a, x = .ref a ∧ (∃ xs, SqT K H1 a xs) ∧ R (Itt K a) H1) ∨ (∃ z, x = .str z ∧ R (Its z) H1)
theorem pi_A (he : PE X e te) : PI X tg e (iA X.K te) := by
  refine ⟨fun pins s σ H R I h => ?_⟩
  refine thn (he.run pins s σ H _ I h) fun v s1 ⟨x, H1, I1, r1, q1⟩ => ?_
  rcases q1 with ⟨a, e, ⟨xs, hq⟩, q⟩ | ⟨a, e, ⟨xs, hq⟩, q⟩ | ⟨z, ex, q⟩
  · subst e
    cases r1
    obtain ⟨its, rv, p, hz⟩ := I1.list hq
    refine wpAny_pyIter_list p.isList ?_
    refine ⟨s1.heap.objs.size, [s1.heap.objs.size], _, _, H1, rfl, I1.kept (t' := s1.toks) fun b o e => Heap.get?_push_of_some _ e, turn_list a _, ⟨_, Heap.get?_push_size _ rfl, rfl, rfl⟩, fun b hb => ?_, q⟩
    have e : b = s1.heap.objs.size := by simpa using hb
    subst e
    exact I1.fpOk (Nat.le_refl _) (I1.hok.fresh (Nat.le_refl _))
  · subst e
    cases r1
    obtain ⟨its, rv, p, hz⟩ := I1.tuple hq
    refine wpAny_pyIter_tuple (show s1.heap.IsTuple a its.toArray from p) ?_
    refine ⟨s1.heap.objs.size, [s1.heap.objs.size], _, _, H1, rfl, I1.kept (t' := s1.toks) fun b o e => Heap.get?_push_of_some _ e, turn_tuple a _, ⟨_, Heap.get?_push_size _ rfl, rfl, rfl⟩, fun b hb => ?_, q⟩
    have e : b = s1.heap.objs.size := by simpa using hb
    subst e
    exact I1.fpOk (Nat.le_refl _) (I1.hok.fresh (Nat.le_refl _))
  · subst ex
    obtain ⟨t, rfl⟩ := r1
    cases ha : z.cps.all (· < 128)
    · exact wpAny_pyIter_wide ha (pi_one (tk := s1.toks) I1 _ (turn_str _ z t "str_iterator" (.inr rfl)) ⟨_, Heap.get?_push_size _ rfl, rfl, rfl⟩ q)
    · exact wpAny_pyIter_ascii ha (pi_one (tk := s1.toks) I1 _ (turn_str _ z t "str_ascii_iterator" (.inl rfl)) ⟨_, Heap.get?_push_size _ rfl, rfl, rfl⟩ q)
end

/-! ### list.count of flat items -/
section
variable {X : Cx}
def rCountA (K : PySem.W.Frag) : V → List V → Hp → VK → Prop := fun x xs H Q => ∃ (p : Addr) (ys : List V) (y : V), x = .ref p ∧ xs = [y] ∧ SqL K H p ys ∧ flatV y = true ∧ ys.all flatV = true ∧ Q (.int (ys.countP (fun z => eqV z y) : Nat)) H
theorem countP_eqU {y : V} : ∀ {ys : List V} {its : List Value}, Vals ys its → ys.all flatV = true → its.countP (eqU y) = ys.countP (fun z => eqV z y)
  | _, _, .nil, _ => rfl
  | _, _, @Paired.cons _ _ _ z u zs us r t, f => by
    have f1 : flatV z = true := List.all_eq_true.mp f z List.mem_cons_self
    have f2 : zs.all flatV = true := List.all_eq_true.mpr fun w hw => List.all_eq_true.mp f w (List.mem_cons_of_mem _ hw)
    rw [List.countP_cons, List.countP_cons, countP_eqU t f2, eqU_of r f1]
theorem mt_countA : MtR X "list.count" (rCountA X.K) := by
  intro pins s σ H x xs v us Q I rx rxs h
  obtain ⟨p, ys, y, rfl, rfl, hs, fy, fys, q⟩ := h
  cases rx
  cases rxs with
  | cons ry rt =>
    rename_i uy ut
    cases rt
    obtain ⟨its, rv, ⟨⟨cls, dd, data, sl⟩, n, ho, hc, hdn, hd⟩, hlen⟩ := I.list hs
    simp only at hc hd
    subst hc hd
    refine call_meets PySem.F.slot_list_count ⟨_, ho, rfl⟩ PySem.F.entry_list_count (PySem.F.args_list_count_2 _ _)
      (SeqAt.list_countAt p its.toArray n dd sl uy (eqU y)) ⟨ho, fun u' hu' => mem_eqAt ry fy rv fys u' (by simpa using hu'), ?_⟩
    have ec : its.toArray.toList.countP (eqU y) = ys.countP (fun z => eqV z y) := countP_eqU rv fys
    refine ⟨.int (ys.countP (fun z => eqV z y) : Nat), H, I.tok _, ⟨s.toks, ?_⟩, q⟩
    show Value.int ((its.toArray.toList.countP (eqU y) : Nat) : Int) s.toks = Value.int ((ys.countP (fun z => eqV z y) : Nat) : Int) s.toks
    rw [ec]
end

/-! ### a Boolean list of facts -/
def exAll (l : List Bool) : Bool := l.all id
theorem exAll_at {l : List Bool} (h : exAll l = true) (i : Nat) {b : Bool} (e : l[i]? = some b) : b = true := List.all_eq_true.mp h b (List.mem_of_getElem? e)

/-! ### an exception class with an __init__ that stores its fields -/
def oexB (K : PySem.W.Frag) (x : Str) : Bool :=
  (match K.lookup (He.ga K x) with
    | some ⟨.type "type", _, .cls cd, sl⟩ => (match cd.mro, sl.toList with
      | .ref C' :: bm, [_, _, _, _, some (.builtin n), _] => decide (C' = He.ga K x) && (decide (n = "ValueError.__new__") && (!cd.hasDel && (cd.hasDict && HandSPX.refsVE bm)))
      | _, _ => false)
    | _ => false) &&
  (He.eqO (PySem.W.findIn K (.ref (He.ga K x)) "__setattr__") (some (some (.builtin "object.__setattr__"))) && (decide (PySem.W.subIn K (.ref (He.ga K x)) (.type "BaseException") = some true) && (decide (PySem.W.typeIn K (.ref (He.ga K x)) = some (.type "type")) && (PySem.W.keepIn K (.ref (He.ga K x)) &&
  (He.eqO (PySem.W.findIn K (.ref (He.ga K x)) "__init__") (some (some (.ref (He.ma K (He.ga K x) "__init__")))) && (decide (PySem.W.typeIn K (.ref (He.ma K (He.ga K x) "__init__")) = some (.type "function")) &&
  (He.eqO (PySem.W.findIn K (.ref (He.ga K x)) "__getattribute__") (some (some (.builtin "BaseException.__getattribute__"))) && (He.eqO (PySem.W.findIn K (.ref (He.ga K x)) "__getattr__") (some none) && (PySem.W.hasDictIn K (He.ga K x) &&
  (He.eqO (PySem.W.findIn K (.ref (He.ga K x)) "__class__") (some (some (.builtin "object.__class__"))) && (decide (PySem.W.specialIn K (.builtin "object.__class__") "__get__" = some (some (.builtin "getset_descriptor.__get__"))) && (decide (PySem.W.takesIn K (.builtin "object.__class__") = some true) &&
  decide (PySem.W.mroIn K (He.ga K x) (.type "object") = some true)))))))))))))
/-- all that the written part says of such a class -/
structure OexA (K : PySem.W.Frag) (x : Str) : Prop where
  o : OexC K (He.ga K x)
  i : PySem.W.findIn K (.ref (He.ga K x)) "__init__" = some (some (.ref (He.ma K (He.ga K x) "__init__")))
  t : PySem.W.typeIn K (.ref (He.ma K (He.ga K x) "__init__")) = some (.type "function")
  ga : PySem.W.findIn K (.ref (He.ga K x)) "__getattribute__" = some (some (.builtin "BaseException.__getattribute__"))
  gg : PySem.W.findIn K (.ref (He.ga K x)) "__getattr__" = some none
  hd : PySem.W.hasDictIn K (He.ga K x) = true
  ca : PySem.W.findIn K (.ref (He.ga K x)) "__class__" = some (some (.builtin "object.__class__"))
  cg : PySem.W.specialIn K (.builtin "object.__class__") "__get__" = some (some (.builtin "getset_descriptor.__get__"))
  ct : PySem.W.takesIn K (.builtin "object.__class__") = some true
  cm : PySem.W.mroIn K (He.ga K x) (.type "object") = some true
theorem oexA_of {K : PySem.W.Frag} {x : Str} (h : oexB K x = true) : OexA K x := by
  obtain ⟨h0, h⟩ := Bool.and_eq_true_iff.mp h
  obtain ⟨h1, h⟩ := Bool.and_eq_true_iff.mp h
  obtain ⟨h2, h⟩ := Bool.and_eq_true_iff.mp h
  obtain ⟨h3, h⟩ := Bool.and_eq_true_iff.mp h
  obtain ⟨h4, h⟩ := Bool.and_eq_true_iff.mp h
  obtain ⟨h5, h⟩ := Bool.and_eq_true_iff.mp h
  obtain ⟨h6, h⟩ := Bool.and_eq_true_iff.mp h
  obtain ⟨h7, h⟩ := Bool.and_eq_true_iff.mp h
  obtain ⟨h8, h⟩ := Bool.and_eq_true_iff.mp h
  obtain ⟨h9, h⟩ := Bool.and_eq_true_iff.mp h
  obtain ⟨h10, h⟩ := Bool.and_eq_true_iff.mp h
  obtain ⟨h11, h⟩ := Bool.and_eq_true_iff.mp h
  obtain ⟨h12, h13⟩ := Bool.and_eq_true_iff.mp h
  refine ⟨⟨?_, He.eqO_ok h1, of_decide_eq_true h2, of_decide_eq_true h3, h4⟩, He.eqO_ok h5, of_decide_eq_true h6, He.eqO_ok h7, He.eqO_ok h8, h9, He.eqO_ok h10, of_decide_eq_true h11, of_decide_eq_true h12, of_decide_eq_true h13⟩
  split at h0
  · rename_i dd cd sl ho
    split at h0
    · rename_i C' bm k0 k1 k2 k3 n k5 hm hs
      simp only [Bool.and_eq_true, decide_eq_true_eq, Bool.not_eq_true'] at h0
      obtain ⟨rfl, rfl, hdel, hdi, hr⟩ := h0
      obtain ⟨nm, bs, mro, ns, qn, hd, sn, sub, ab, col, del⟩ := cd
      dsimp only at hm hdel hdi
      subst hm hdel hdi
      have hsl : sl = #[k0, k1, k2, k3, some (.builtin "ValueError.__new__"), k5] := by
        obtain ⟨l⟩ := sl
        simp only at hs
        rw [hs]
      subst hsl
      exact ⟨nm, qn, ns, bs, bm, sn, sub, ab, col, dd, k0, k1, k2, k3, k5, ho, hr⟩
    · cases h0
  · cases h0

structure Kx (P : Program) (w : World) (K : PySem.W.Frag) (mg : Str → Option Value) (base : Heap) (k : Nat) (x : Str) (ps : List Str) (sp : Sp) : Prop where
  g : mg x = some (.ref (He.ga K x))
  o : OexA K x
  f : Kf P w K mg base CX0 k (He.ma K (He.ga K x) "__init__") ps sp
theorem kx_of {P : Program} {w : World} {K : PySem.W.Frag} {mg : Str → Option Value} {base : Heap} {k : Nat} {x : Str} {ps : List Str} {sp : Sp} (g : mg x = some (.ref (He.ga K x))) (o : oexB K x = true) (f : Kf P w K mg base CX0 k (He.ma K (He.ga K x) "__init__") ps sp) :
    Kx P w K mg base k x ps sp := ⟨g, oexA_of o, f⟩
def tRaiseX (C : Addr) (sp : Sp) (W : WX) (ta : TA) : TS := fun _ σ H => tMkO C sp [] ta σ H fun cls d H' => W cls d σ H'
section
variable {X : Cx} {k : Nat} {x : Str} {ps : List Str} {sp : Sp} {e : Expr} {es : List Expr} {ta : TA} {p pos : Pos}
theorem pmk_X (c : Kx X.prog X.w X.K X.mg X.base k x ps sp) (hr : Room (k + 1) X.A) (hg : Gl X x) (ha : PA X (e :: es) ta)
    (hdb : (x == ("__debug__" : Str)) = false := by decide) (he : starEach (e :: es) X.env = (false, eval e X.env) :: starEach es X.env := by rfl) (hpl : (backTo pos (starEach es X.env)).any (·.1) = false := by rfl) :
    PMk X (.Call (.Name x p) (e :: es) [] pos) (tMkO (He.ga X.K x) sp [] ta) := by
  obtain ⟨fd, h2, h3, h4⟩ := c.f.ex
  exact pmk_oex c.o.o c.o.i c.o.t h4 hr h3 .nil pass0 hg c.g ha hdb he hpl
/-- C(e, ..) as a value -/
def tMkX (C : Addr) (sp : Sp) (ta : TA) : TE := fun σ H Q => ta σ H fun vs H1 => vs.length ≤ 1000 ∧ ∀ a, H1 a = none → sp (.ref a :: vs) (upd H1 a (exo a C none)) (fun v H2 => v = .non ∧ Q (.ref a) H2) E0
theorem pe_mkX (c : Kx X.prog X.w X.K X.mg X.base k x ps sp) (hr : Room (k + 1) X.A) (hg : Gl X x) (ha : PA X (e :: es) ta)
    (hdb : (x == ("__debug__" : Str)) = false := by decide) (he : starEach (e :: es) X.env = (false, eval e X.env) :: starEach es X.env := by rfl) (hpl : (backTo pos (starEach es X.env)).any (·.1) = false := by rfl) :
    PE X (.Call (.Name x p) (e :: es) [] pos) (tMkX (He.ga X.K x) sp ta) := by
  obtain ⟨fd, h2, hb, F1⟩ := c.f.ex
  refine ⟨fun pins s σ H Q I h => ?_⟩
  have T := c.o.o
  obtain ⟨nm, q, N, bs, bm, sn, sub, ab, col, dd, k0, k1, k2, k3, k5, hC, hbm⟩ := T.cls
  refine wpAny_Call_Name_kw (ld_glob I hg c.g ?_ hdb)
  refine PySem.W.callWith_K (h₀ := X.base) I.ok.mod.kin T.kC (thn (ha.run pos pins s σ H _ I h) fun us s1 ⟨vs, H1, I1, r1, hz, q1⟩ => ⟨I1.kIn, ?_⟩) he hpl
  show wpAny _ _ (call (.ref (He.ga X.K x)) us) _ _ _
  obtain ⟨hp, g, dr, tk, os⟩ := s1
  have hsz : hp.objs.size ≤ hp.objs.size + 1 := Nat.le_succ _
  have hn : H1 (hp.objs.size + 1) = none := I1.hok.fresh hsz
  have hq := q1 (hp.objs.size + 1) hn
  have kk : ∀ b o, hp.get? b = some o → ((hp.push (PySem.W.kdv_tup us)).push (PySem.HandSPX.excO (He.ga X.K x) hp.objs.size)).get? b = some o := fun b o e => Heap.get?_push_of_some _ (Heap.get?_push_of_some _ e)
  have hget : ((hp.push (PySem.W.kdv_tup us)).push (PySem.HandSPX.excO (He.ga X.K x) hp.objs.size)).get? (hp.objs.size + 1) = some (PySem.HandSPX.excO (He.ga X.K x) hp.objs.size) := by heap_get
  have I2 : Inv X pins σ (upd H1 (hp.objs.size + 1) (exo (hp.objs.size + 1) (He.ga X.K x) none)) ⟨(hp.push (PySem.W.kdv_tup us)).push (PySem.HandSPX.excO (He.ga X.K x) hp.objs.size), g, dr, tk, os⟩ :=
    I1.laid (t' := tk) (a := hp.objs.size + 1) (o := exo (hp.objs.size + 1) (He.ga X.K x) none) (h' := (hp.push (PySem.W.kdv_tup us)).push (PySem.HandSPX.excO (He.ga X.K x) hp.objs.size)) kk hsz (exo_ok hget)
  have r2 : Vals (V.ref (hp.objs.size + 1) :: vs) (Value.ref (hp.objs.size + 1) :: us) := .cons rfl r1
  have hl : (Value.ref (hp.objs.size + 1) :: (us ++ [])).length = ps.length := by
    rw [List.append_nil]
    have e := r2.length
    rw [F1.len _ _ _ _ hq] at e
    exact e.symm
  have hus : us.length ≤ sizeLine := by
    rw [← Paired.length r1, sizeLine_eq]
    omega
  have hb2 := hb _ (Value.ref (hp.objs.size + 1) :: us) I2.kIn hl
  rw [List.append_nil] at hb2
  refine wpAny_call (PySem.HandSPX.call_own F.excBase_ValueError (fun Y => PySem.HandSPX.refsVE_contains Y bm hbm) (I1.kIn _ _ hC) (PySem.W.looks_findIn I1.kIn c.o.i) (fun self => PySem.W.bind_fn I1.kIn self c.o.t) hus
    (codeAny_mono (F1.run _ X.stack _ _ ⟨Value.ref (hp.objs.size + 1) :: us, []⟩ (Value.ref (hp.objs.size + 1) :: us) _ _ E0 (hr.make (He.ga X.K x) us []) (I2.env0.make (He.ga X.K x) us []) hb2 r2 hq) fun r s' hq' => ?_))
  cases r with
  | error er => exact hq'.elim
  | ok fl =>
    cases fl with
    | ret u =>
      obtain ⟨v, H', I3, rv, ev, q3⟩ := I2.after hq'
      subst ev
      exact ⟨rv, ⟨V.ref (hp.objs.size + 1), H', I3, rfl, q3⟩⟩
    | next => exact False.elim hq'
    | brk => exact False.elim hq'
    | cont => exact False.elim hq'
end

/-! ### an exception that is held as a value -/
def XO (a : Addr) (cls : Value) (d : Option Addr) : HO := .ext fun h => ∃ (oe : Obj) (vs : Array Value), h.get? a = some oe ∧ Zc cls d oe ∧ oe.data = .fields vs
theorem xo_ok {P : Program} {w : World} {H : Hp} {h : Heap} {a : Addr} {cls : Value} {d : Option Addr} {oe : Obj} {vs : Array Value} (e : h.get? a = some oe) (z : Zc cls d oe) (f : oe.data = .fields vs) : ObjOk P w H h a (XO a cls d) :=
  ⟨⟨oe, vs, e, z, f⟩, ⟨oe, e⟩, fun _ _ ⟨o, v, q, r⟩ k => ⟨o, v, k o q, r⟩⟩
theorem xo_at {P : Program} {w : World} {H : Hp} {h : Heap} {a : Addr} {cls : Value} {d : Option Addr} (hok : HOk P w H h) (e : H a = some (XO a cls d)) : ∃ (oe : Obj) (vs : Array Value), h.get? a = some oe ∧ Zc cls d oe ∧ oe.data = .fields vs := by
  have x : ObjOk P w H h a (.ext fun h => ∃ (oe : Obj) (vs : Array Value), h.get? a = some oe ∧ Zc cls d oe ∧ oe.data = .fields vs) := hok a _ e
  exact x.1
/-- at a an exception of the class at C with the fields fs (its dict at d) -/
def XV (H : Hp) (a C d : Addr) (fs : List (Str × V)) : Prop := (H a = some (XO a (.ref C) (some d)) ∧ H d = some (.xd fs)) ∨ (H a = some (exo a C (some d)) ∧ H d = some (exd d fs))
theorem xv_at {P : Program} {w : World} {H : Hp} {h : Heap} {a C d : Addr} {fs : List (Str × V)} (hok : HOk P w H h) (x : XV H a C d fs) :
    ∃ (oe : Obj) (vs : Array Value) (mA : Str → Option Value), h.get? a = some oe ∧ Zc (.ref C) (some d) oe ∧ oe.data = .fields vs ∧ h.Ns1 d mA ∧ ∀ f, RelO (fs.lookup f) (mA f) := by
  rcases x with ⟨h1, h2⟩ | ⟨h1, h2⟩
  · obtain ⟨oe, vs, e1, e2, e3⟩ := xo_at hok h1
    have hx : ObjOk P w H h d (.xd fs) := hok d _ h2
    obtain ⟨mA, hns, hr⟩ := hx
    exact ⟨oe, vs, mA, e1, e2, e3, hns, hr⟩
  · obtain ⟨t1, e1⟩ := exo_at hok h1
    obtain ⟨mA, hns, hr⟩ := exd_at hok h2
    exact ⟨_, _, mA, e1, ⟨rfl, rfl⟩, rfl, hns, hr⟩
theorem Inv.track {X : Cx} {pins : List (Addr × Obj)} {σ : L2.St} {H : Hp} {s : Shared} {a : Addr} {o : HO} (I : Inv X pins σ H s) (n0 : X.s_0.heap.get? a = none) (na : H a = none) (nL : a ≠ X.env.locals)
    (nc : ∀ x c, X.env.cells.lookup x = some c → c ≠ a) (np : ∀ p ∈ X.pn ++ pins, p.1 ≠ a) (new : ObjOk X.prog X.w (upd H a o) s.heap a o) : Inv X pins σ (upd H a o) s := by
  have n1 : ∀ b ob, X.s_0.heap.get? b = some ob → b ≠ a := fun b ob e z => by rw [z, n0] at e; cases e
  refine ⟨I.ok, I.os, I.bare, ⟨I.base.keep, I.base.slot, fun b ob e n hx => ?_, I.base.there, fun b xs e => ?_, fun b ob u e => ?_, fun b ps e => ?_⟩, I.loc, I.cell, ?_, fun x c e => ?_, fun p hp => ?_, fun b ob e => ?_, I.len⟩
  · rw [upd_ne (n1 b ob e)]
    exact I.base.free b ob e n hx
  · have z := I.base.tups b xs e
    rw [upd_ne (ne_of_none z na)]
    exact z
  · have z := I.base.frzs b ob u e
    rw [upd_ne (ne_of_none z na)]
    exact z
  · obtain ⟨m, z⟩ := I.base.tbls b ps e
    refine ⟨m, ?_⟩
    rw [upd_ne (ne_of_none z na)]
    exact z
  · rw [upd_ne (Ne.symm nL)]
    exact I.free
  · rw [upd_ne (nc x c e)]
    exact I.freeC x c e
  · obtain ⟨e, n, ne, nf, d⟩ := I.pin p hp
    refine ⟨e, ?_, ne, nf, d⟩
    rw [upd_ne (np p hp)]
    exact n
  · by_cases hb : b = a
    · subst hb
      rw [upd_same] at e
      cases e
      exact new
    · rw [upd_ne hb] at e
      exact (I.hok b ob e).stay (fun c v _ q => q) (fun c q => by rw [upd_ne (ne_of_none q na)]; exact q) fun c xs q => by rw [upd_ne (ne_of_none q na)]; exact q

/-- what «except C as n: y = n» wishes: behind it y (slot j) is the exception, n (slot i) is empty -/
def wHold (K : PySem.W.Frag) (C : Addr) (i j : Nat) (D : Ends) : WX := fun cls d σ H =>
  PySem.W.exmOne K cls (.ref C) = some true ∧ ∀ a, H a = none → D.nx (((σ.set i (some (.ref a))).set j (some (.ref a))).set i none) (upd H a (XO a cls d))
def tTryHold (K : PySem.W.Frag) (C : Addr) (i j : Nat) (tb : WX → TS) : TS := fun D σ H => tb (wHold K C i j D) D σ H
section
variable {X : Cx} {x n y : Str} {C : Addr} {i j : Nat} {body : List Stmt} {np pos pos' p1 p2 p3 : Pos} {tb : WX → TS}
theorem ps_try_hold (hs : X.stack = X.env :: X.outer) (hf : X.env.frame = some X.env.locals) (hN : X.N.Nodup) (hi : X.N[i]? = some n) (hj : X.N[j]? = some y) (hex : X.ex = []) (hln : X.env.kindOf n = some .local) (hly : X.env.kindOf y = some .local) (hij : i ≠ j) (hil : i < X.N.length)
    (hdn : (n == ("__debug__" : Str)) = false) (hcd : (n == ("__classdict__" : Str)) = false) (hsw : swapsWith (.Name n p2) (some (.Name y p1)) p3.line X.env = pure false)
    (hc : Names X x (.ref C))
    (hb : ∀ (W : WX) (pn : List (Addr × Obj)) (xe : Value → Shared → Prop), Takes (X.tr pn xe) W → PassesOwn (model X.prog X.w) X.A X.env xe → PSs (X.tr pn xe) body (tb W)) :
    PS X (.Try body [.ExceptHandler (some (.Name x np)) (some n) [.Assign [.Name y p1] (.Name n p2) p3] pos'] [] [] pos) (tTryHold X.K C i j tb) := by
  refine ⟨fun pins s σ H D I h => ?_⟩
  have ok := I.ok
  have hfr : X.A.frames = some (X.env :: X.outer) := by rw [ok.frames, hs]
  have hloc : Loc X.env.scope n := .inl hln
  have hlocy : Loc X.env.scope y := .inl hly
  refine wpAny_Try_except ?_
  refine wpAny_mono ((hb (wHold X.K C i j D) (X.pn ++ pins) (fun e s₁ => wpAny (model X.prog X.w) X.A (noteFrame e X.env) (fun _ s₂ => wpAny (model X.prog X.w) X.A (setFlight e none) (fun _ s₃ =>
    wpAny (model X.prog X.w) X.A (handleBy e X.env [.ExceptHandler (some (.Name x np)) (some n) [.Assign [.Name y p1] (.Name n p2) p3] pos']) (SP X pins D) X.xe s₃) X.xe s₂) X.xe s₁) (fun u s' xx => ?_) PassesOwn.looking).run [] s σ H D (I.toTry _) h) (fun f s1 hsp => ?_) (fun e s1 he => he)
  · obtain ⟨a, B, sI, pins', σ', H', cls, d, rfl, J', nb, up, sky, na, os, ag, hb1, hyes⟩ := xx
    have J : Inv X pins σ' H' sI := J'.ofTry ok
    have sky' : Sky B (X.env :: X.outer) a (Zc cls d) X.env.locals s'.heap := by rw [← hs]; exact sky
    show wpAny (model X.prog X.w) X.A (noteFrame (.ref a) X.env) _ _ _
    refine Sky.land Zc.steady hfr hf sky' fun h3 fl3 up3 => ?_
    have J3 : Inv X pins σ' H' { s' with heap := h3 } := J.landed nb fl3.1 (up.trans up3) os ag
    obtain ⟨oe3, vs3, he3, hz3, hd3⟩ := fl3.there
    have notFr : ∀ {h : Heap} {o : Obj} {vs : Array Value}, h.FunFrames B (X.env :: X.outer) → h.get? a = some o → o.data = .fields vs → a ∉ frs (X.env :: X.outer) := fun {h o vs} ff e dd hm => by
      obtain ⟨_, o', e', hnf⟩ := ff.mem hm
      rw [e] at e'; cases e'
      exact hnf _ dd
    have nfr := notFr fl3.2.2.1 he3 hd3
    have nL : a ≠ X.env.locals := fun z => nfr (List.mem_filterMap.mpr ⟨X.env, List.mem_cons_self, by rw [hf, z]⟩)
    have nF : a ∉ X.fs := fun hm => by
      obtain ⟨e, he, q⟩ := List.mem_filterMap.mp hm
      exact nfr (List.mem_filterMap.mpr ⟨e, List.mem_cons_of_mem _ he, q⟩)
    have nI : sI.heap.get? a = none := by
      cases q : sI.heap.get? a with
      | none => rfl
      | some o =>
        have z := nb a o q (by rw [hs]; exact nfr)
        rw [fl3.2.1] at z; cases z
    have n0 : X.s_0.heap.get? a = none := by
      cases q : X.s_0.heap.get? a with
      | none => rfl
      | some o =>
        obtain ⟨o', z⟩ := J.base.there a o q (by rw [hex]; exact fun z => nomatch z)
        rw [nI] at z; cases z
    have npin : ∀ p ∈ X.pn ++ pins, p.1 ≠ a := fun p hp z => by
      have q := (J.pin p hp).1
      rw [z, nI] at q; cases q
    have S3 := J3.suite he3 hd3 na nL nF
    refine wpAny_handleBy_cons (codeAny_handlers_test ?_) (by intro q; cases q)
    have LT : PySem.W.Looks (model X.prog X.w) h3 (typeOf (.ref a)) cls := fun A Q E s k q => wpAny_typeOf_ref (k _ _ he3) (by rw [hz3.1]; exact q)
    have LM := PySem.W.exm_one (M := model X.prog X.w) (J3.kIn) LT hb1
    have test : ∀ {Q : Value → Shared → Prop} {E : Value → Shared → Prop}, Q (.ref C) { s' with heap := h3 } → wpAny (model X.prog X.w) (X.A.mark (some (.ref a))) (eval (.Name x np) X.env) Q E { s' with heap := h3 } := fun {Q E} q => by
      obtain ⟨hg, hdbg, hm | ⟨hm, hv, hnn⟩⟩ := hc
      · exact ld_glob (X := X.suite a ((a, oe3) :: (X.pn ++ pins))) S3 hg hm q hdbg
      · exact ld_blt (X := X.suite a ((a, oe3) :: (X.pn ++ pins))) S3 hg hm hv q hnn hdbg
    refine test (LM.here ?_)
    refine codeAny_handlers_suite_as ?_
    refine HandSPX.lands_againZ fl3 fun h4 fl4 up4 => ?_
    have J4 : Inv X pins σ' H' { s' with heap := h4 } := J.landed nb fl4.1 ((up.trans up3).trans up4) os ag
    obtain ⟨oe4, vs4, he4, hz4, hd4⟩ := fl4.there
    have S4 := J4.suite he4 hd4 na nL nF
    refine store_ok (X := X.suite a ((a, oe4) :: (X.pn ++ pins))) (v := .ref a) S4 hN hi hloc rfl (fun s5 S5 => ?_) (.inr hln)
    have hsl : i < σ'.length := by rw [J4.len]; exact hil
    have hpe : PE (X.suite a ((a, oe4) :: (X.pn ++ pins))) (.Name n p2) (tVar i) := pe_var hi (.inl hln) hdn hcd
    have hpb : PSs (X.suite a ((a, oe4) :: (X.pn ++ pins))) [.Assign [.Name y p1] (.Name n p2) p3] (tAsg (tVar i) (gName j)) := pss_one (ps_set (i := j) hN hj hlocy hpe hsw (.inr hly))
    refine wpAny_mono (hpb.run [] s5 _ H' { nx := fun σ6 H6 => σ6 = (σ'.set i (some (.ref a))).set j (some (.ref a)) ∧ H6 = H', rt := fun _ _ => False, bk := fun _ _ => False, ct := fun _ _ => False } S5 ?_) (fun f s6 hsp => ?_) (fun _ _ z => False.elim z)
    · exact ⟨.ref a, List.getElem?_set_self hsl, rfl, rfl⟩
    · cases f with
      | next =>
        obtain ⟨σ6, H6, S6, rfl, rfl⟩ := hsp
        have S7 : Inv X ((a, oe4) :: pins) ((σ'.set i (some (.ref a))).set j (some (.ref a))) H6 s6 :=
          ⟨ok, S6.os, S6.bare, S6.base, S6.loc, S6.cell, S6.free, S6.freeC, fun p hp => S6.pin p (by
            rw [List.append_nil]
            rcases List.mem_append.mp hp with h1 | h1
            · exact List.mem_cons_of_mem _ (List.mem_append_left _ h1)
            · rcases List.mem_cons.mp h1 with e | h2
              · rw [e]; exact List.mem_cons_self
              · exact List.mem_cons_of_mem _ (List.mem_append_right _ h2)), S6.hok, S6.len⟩
        refine gone_ok S7 hN hi hln fun s7 J7 => ?_
        obtain ⟨he7, na7, _, _, hc7⟩ := J7.pin (a, oe4) (List.mem_append_right _ List.mem_cons_self)
        have J8 : Inv X pins (((σ'.set i (some (.ref a))).set j (some (.ref a))).set i none) H6 s7 :=
          ⟨ok, J7.os, J7.bare, J7.base, J7.loc, J7.cell, J7.free, J7.freeC, fun p hp => J7.pin p (by
            rcases List.mem_append.mp hp with h1 | h1
            · exact List.mem_append_left _ h1
            · exact List.mem_append_right _ (List.mem_cons_of_mem _ h1)), J7.hok, J7.len⟩
        refine ⟨_, _, Inv.track J8 n0 na7 nL (fun z c e q => ?_) npin (xo_ok (cls := cls) (d := d) he7 hz4 hd4), hyes a na⟩
        obtain ⟨v, o, ho, hd⟩ := J8.cell z c e
        rw [q] at ho
        have he7' : s7.heap.get? a = some oe4 := he7
        rw [he7'] at ho
        cases ho
        exact hc7 _ hd
      | brk =>
        obtain ⟨_, _, _, z⟩ := hsp
        exact z.elim
      | cont =>
        obtain ⟨_, _, _, z⟩ := hsp
        exact z.elim
      | ret u =>
        obtain ⟨_, _, _, _, _, z⟩ := hsp
        exact z.elim
  · cases f with
    | next =>
      obtain ⟨σ', H', J', q⟩ := hsp
      exact wpAny_execs_nil ⟨σ', H', J'.ofTry ok, q⟩
    | brk =>
      obtain ⟨σ', H', J', q⟩ := hsp
      exact ⟨σ', H', J'.ofTry ok, q⟩
    | cont =>
      obtain ⟨σ', H', J', q⟩ := hsp
      exact ⟨σ', H', J'.ofTry ok, q⟩
    | ret u =>
      obtain ⟨v, σ', H', J', r, q⟩ := hsp
      exact ⟨v, σ', H', J'.ofTry ok, r, q⟩
end
/-- e.f of such an exception -/
def tXfA (K : PySem.W.Frag) (te : TE) (f : Str) : TE := fun σ H Q => te σ H fun x H1 => ∃ (a d : Addr) (c : Str) (fs : List (Str × V)) (v : V), x = .ref a ∧ XV H1 a (He.ga K c) d fs ∧ OexA K c ∧ PySem.W.findIn K (.ref (He.ga K c)) f = some none ∧ fs.lookup f = some v ∧ Q v H1
theorem pe_xfA {X : Cx} {e : Expr} {te : TE} {pos : Pos} {n : Str} (he : PE X e te) (hb : attributeBase e n X.env (eval e X.env) = eval e X.env := by rfl) : PE X (.Attribute e n pos) (tXfA X.K te n) := by
  refine ⟨fun pins s σ H Q I h => ?_⟩
  refine attr_of hb (thn (he.run pins s σ H _ I h) fun u s1 hh => ?_)
  obtain ⟨x, H1, I1, rx, a, dd, c, fs, v, ex, xv, T, hno, l, q⟩ := hh
  subst ex
  obtain rfl : u = Value.ref a := rx
  obtain ⟨oe, vs, mA, ha, hz, hd, hns, hr⟩ := xv_at I1.hok xv
  obtain ⟨od, ho, hl⟩ := lookIn_ns hns
  obtain ⟨u, hu, ru⟩ := RelO.some_of (v := v) (o := mA n) (by rw [← l]; exact hr n)
  have J : PySem.W.InstAt s1.heap a oe (He.ga X.K c) (some od) := ⟨ha, hz.1, by unfold PySem.W.notCls; rw [hd] <;> rfl, by rw [hz.2]; exact ho⟩
  exact HandSPX.exc_get I1.kIn J T.ga T.gg T.o.exC (PySem.W.findObj_own T.hd hno rfl (by rw [hl, hu])) (handed_of ru) ⟨v, H1, I1.tok _, ru, q⟩

end My
namespace PySem.W
open PySem PySem.Spec PySem.Calls PyProof.Rows
section
variable {prog : Program} {w : World} {A : Around} {E : Value → Shared → Prop} {s : Shared} {K : Frag} {x D : Addr} {ox : Obj} {od : Option Obj}
theorem my_findObj_data {C : Addr} {name : Str} {a g : Value} (hc : (clsIn K C).isSome = true) (ha : findIn K (.ref C) name = some (some a)) (hg : specialIn K a "__get__" = some (some g)) (ht : takesIn K a = some true) : findObj K C od name = some (.bind g a) := by
  obtain ⟨cd, hc⟩ := Option.isSome_iff_exists.mp hc
  unfold findObj
  rw [hc, Option.bind_some, ha, Option.bind_some]
  simp [hg, ht]
theorem my_classE {Q : Option Value → Shared → Prop} (hga : findIn K (.ref D) "__getattribute__" = some (some (.builtin "BaseException.__getattribute__"))) (hgt : findIn K (.ref D) "__getattr__" = some none) (hsub : subIn K (.ref D) (.type "BaseException") = some true)
    (hdct : hasDictIn K D = true) (ha : findIn K (.ref D) "__class__" = some (some (.builtin "object.__class__")))
    (hn : specialIn K (.builtin "object.__class__") "__get__" = some (some (.builtin "getset_descriptor.__get__"))) (htk : takesIn K (.builtin "object.__class__") = some true) (hm : mroIn K D (.type "object") = some true)
    (X : K.In s.heap) (I : InstAt s.heap x ox D od) (h : Q (some (.ref D)) { s with toks := s.toks + 1 }) : wpAny (model prog w) A (getAttr? (.ref x) "__class__") Q E s := by
  have hf : findObj K D od "__class__" = some (.bind (.builtin "getset_descriptor.__get__") (.builtin "object.__class__")) := my_findObj_data (by obtain ⟨cd, hc, _⟩ := any_some hdct; rw [hc]; rfl) ha hn htk
  obtain ⟨hp, g, d, t, os⟩ := s
  have L0 := I.type (M := model prog w)
  have L1 := looks_findIn (M := model prog w) X hga
  have L2 := looks_findIn (M := model prog w) X hgt
  have L3 := looks_find (M := model prog w) X I hf
  have sub : Looks (model prog w) hp (isInstance (.ref x) (.type "BaseException")) true := L0.andThen (looks_subIn X hsub)
  have hx0 : (false && onTheHeap (Value.builtin "BaseException.__getattribute__")) = false := rfl
  have hx2 : (Value.builtin "BaseException.__getattribute__" == Value.builtin "object.__getattribute__") = false := by decide +kernel
  have hx1 : (onTheHeap (Value.ref D) && Value.builtin "BaseException.__getattribute__" == Value.builtin "object.__getattribute__") = false := by rw [hx2]; rfl
  unfold getAttr? getAttrBy? getAttrBy
  refine wpAny_bind (wpAny_mkText (wpAny_bind (wpAny_attempt (wpAny_holding (wpAny_bind (L0.at (wpAny_bind (L1.at ?_))))))))
  show wpAny _ _ (if (onTheHeap (Value.ref D) && Value.builtin "BaseException.__getattribute__" == Value.builtin "object.__getattribute__") = true then _ else _) _ _ _
  rw [hx1, if_neg Bool.false_ne_true]
  unfold getAttrByItsOwn hookBefore
  refine wpAny_bind ?_
  rw [if_pos (show onTheHeap (Value.ref D) = true from rfl)]
  refine L2.at ?_
  refine wpAny_bind (wpAny_attempt (wpAny_holding ?_))
  unfold callGetattribute
  rw [hx0, if_neg Bool.false_ne_true]
  unfold boundAndCalled
  rw [PySem.F.excAttr_ValueError.ga.bind (.ref x)]
  refine wpAny_bind (wpAny_pure ?_)
  show wpAny _ _ (call (.builtin "BaseException.__getattribute__") [.ref x, .str "__class__" t]) _ _ _
  refine wpAny_call (codeAny_call_builtin PySem.F.excAttr_ValueError.ga.plain PySem.F.entry_bexc_ga ?_)
  refine @check_slot (model prog w) _ _ ⟨hp, g, d, t + 1, os⟩ "BaseException.__getattribute__" "BaseException" "__getattribute__" (.ref x) [.str "__class__" t] [] _ (by decide +kernel) (by decide +kernel) sub (PySem.F.args_bexc_ga (.ref x) (.str "__class__" t)) ?_
  unfold Builtin.«object.__getattribute__»
  refine wpAny_bind (wpAny_of_eq (a := ((Value.ref x : Value), [Value.str "__class__" t])) (by first | rfl | (simp only [slotArgs]; rfl)) ?_)
  refine wpAny_bind (wpAny_pure (wpAny_bind (L0.at (wpAny_bind (L3.at ?_)))))
  show wpAny _ _ (holding [Value.builtin "object.__class__"] (call (.builtin "getset_descriptor.__get__") [.builtin "object.__class__", .ref x, .ref D]) >>= ret) _ _ _
  refine wpAny_bind (wpAny_holding (wpAny_call (class_get (s := ⟨hp, g, d, t + 1, os⟩) (ox := ox) (od := od) X I hm ?_)))
  refine wpAny_pure ?_
  show wpAny _ _ (handedOut (.ref D)) _ _ _
  rw [handedOut_of (v := .ref D) rfl]
  first
    | exact wpAny_pure (wpAny_pure h)
    | exact wpAny_pure h
    | exact wpAny_pure (wpAny_bind (wpAny_pure (wpAny_pure h)))
theorem my_kitx_exc (hga : findIn K (.ref D) "__getattribute__" = some (some (.builtin "BaseException.__getattribute__"))) (hgt : findIn K (.ref D) "__getattr__" = some none) (hsub : subIn K (.ref D) (.type "BaseException") = some true) (hdct : hasDictIn K D = true) (ha : findIn K (.ref D) "__class__" = some (some (.builtin "object.__class__")))
    (hn : specialIn K (.builtin "object.__class__") "__get__" = some (some (.builtin "getset_descriptor.__get__"))) (htk : takesIn K (.builtin "object.__class__") = some true) (hm : mroIn K D (.type "object") = some true) :
    KitX K (.ref x) (.ref D) (fun h => InstAt h x ox D od) where
  ty := fun _ _ _ I => I.type
  it := fun _ _ X _ => by
    obtain ⟨cdD, hcD, _⟩ := any_some hdct
    unfold clsIn at hcD
    split at hcD
    · rename_i c' d' cd' sl' ho
      intro A' Q' E' s' k q
      unfold isType loadHead
      exact wpAny_bind (wpAny_loadPart (k _ _ (X _ _ ho)) (wpAny_pure q))
    · cases hcD
  ne := fun h tp dd its n sl X htp => by
    obtain ⟨cdD, hcD, _⟩ := any_some hdct
    refine Bool.eq_false_iff.mpr fun q => ?_
    have e : D = tp := Value.ref.inj (beq_iff_eq.mp q)
    subst e
    unfold clsIn at hcD
    split at hcD
    · rename_i c' d' cd' sl' ho
      have z := (X _ _ ho).symm.trans htp
      cases z
    · cases hcD
  ca := fun X I k => my_classE hga hgt hsub hdct ha hn htk hm X I k
end
end PySem.W
namespace My
open PySem PySem.Spec PyProof.Rows L2
/-- isinstance(e, c), e such an exception -/
def rIsX (K : PySem.W.Frag) : List V → Hp → VK → Prop := fun xs H Q => ∃ (a d : Addr) (x : Str) (fs : List (Str × V)) (c : V) (cv : Value) (b : Bool), xs = [.ref a, c] ∧ XV H a (He.ga K x) d fs ∧ OexA K x ∧ ClsV c cv ∧ PySem.W.kitOne K (.ref (He.ga K x)) cv = some b ∧ Q (.bl b) H
theorem call_isX {X : Cx} : CallR X (.builtin "isinstance") (rIsX X.K) := by
  intro pins s σ H xs us Q I r h
  obtain ⟨a, d, x, fs, c, cv, b, rfl, xv, T, hcv, e, q⟩ := h
  cases r with
  | cons rx rr =>
    cases rr with
    | cons rt rr =>
      cases rr
      cases rx
      have ec := hcv.eq rt
      subst ec
      obtain ⟨oe, vs, mA, ha, hz, hd, hns, hr⟩ := xv_at I.hok xv
      obtain ⟨od, es, ep, ho, _⟩ := id hns
      have J : PySem.W.InstAt s.heap a oe (He.ga X.K x) (some od) := ⟨ha, hz.1, by unfold PySem.W.notCls; rw [hd] <;> rfl, by rw [hz.2]; exact ho⟩
      exact PySem.W.kia_one (PySem.W.my_kitx_exc T.ga T.gg T.o.exC T.hd T.ca T.cg T.ct T.cm) I.kIn J e (fun z => nomatch z) fun tk => ⟨.bl b, H, I.kept (t' := tk) fun _ _ z => z, rfl, q⟩
def rIsA (K : PySem.W.Frag) : List V → Hp → VK → Prop := fun xs H Q => rIsi K xs H Q ∨ rIsiT K xs H Q ∨ rIsX K xs H Q
theorem call_isA {X : Cx} : CallR X (.builtin "isinstance") (rIsA X.K) := call_isi.or (call_isiT.or call_isX)
end My
set_option Elab.async false
set_option linter.all false
set_option maxRecDepth 100000
set_option maxHeartbeats 4000000
/-! Steps: one lemma a reading, by the values. -/
namespace My
open PySem PySem.Spec PyProof.Rows L2
section
variable {K : PySem.W.Frag} {H H' : Hp} {Q : VK} {i j : Int} {x y v : V} {z u : Str}
abbrev S (l : List Nat) : Str := ⟨l.toArray⟩
abbrev txt (l : List Nat) : V := .str (S l)
theorem S_tl (z : Str) : S z.cps.toList = z := by cases z; rfl
theorem small (n : Nat) (h : n ≤ 1000000) : n ≤ sizeLine := Nat.le_trans h (by decide)
theorem small_lt (n : Nat) (h : n ≤ 1000000) : n < sizeLine := Nat.lt_of_le_of_lt h (by decide)
theorem st_ix_str {row : Str} {a c : Nat} (hl : row.length ≤ 1000000) (h : row.cps.toList[a]? = some c) (q : Q (.str ⟨#[c]⟩) H) : rIxA K (.str row) (.int (a : Int)) H Q := .inl (.inr (.inr ⟨row, a, c, rfl, rfl, small _ hl, atI_nat h, q⟩))
theorem st_ix_str0 {row : Str} {c : Nat} (hl : row.length ≤ 1000000) (h : row.cps.toList[0]? = some c) (q : Q (.str ⟨#[c]⟩) H) : rIxA K (.str row) (.int 0) H Q := .inl (.inr (.inr ⟨row, 0, c, rfl, rfl, small _ hl, atI_nat h, q⟩))
theorem st_ix_list {p : Addr} {xs : List V} (h : SqL K H p xs) (ha : atI xs i = some v) (q : Q v H) : rIxA K (.ref p) (.int i) H Q := .inl (.inl ⟨p, xs, i, v, rfl, rfl, h, ha, q⟩)
theorem st_ix_tup {p : Addr} {xs : List V} (h : SqT K H p xs) (ha : atI xs i = some v) (q : Q v H) : rIxA K (.ref p) (.int i) H Q := .inl (.inr (.inl ⟨p, xs, i, v, rfl, rfl, h, ha, q⟩))
theorem st_ix_dict {a : Addr} (g : DGet H a y (some v)) (q : Q v H) : rIxA K (.ref a) y H Q := .inr ⟨a, v, rfl, g, q⟩
theorem st_len_str (hl : z.length ≤ 1000000) (q : Q (.int (z.length : Int)) H) : rLenA K [.str z] H Q := ⟨_, _, rfl, ⟨small _ hl, rfl⟩, q⟩
theorem st_len_list {p : Addr} {xs : List V} (h : SqL K H p xs) (q : Q (.int (xs.length : Int)) H) : rLenA K [.ref p] H Q := ⟨_, _, rfl, .inl ⟨xs, h, rfl⟩, q⟩
theorem st_len_tup {p : Addr} {xs : List V} (h : SqT K H p xs) (q : Q (.int (xs.length : Int)) H) : rLenA K [.ref p] H Q := ⟨_, _, rfl, .inr ⟨xs, h, rfl⟩, q⟩
theorem st_lt (q : Q (.bl (decide (i < j))) H) : rLtA (.int i) (.int j) H Q := .inl ⟨i, j, rfl, rfl, q⟩
theorem st_le (q : Q (.bl (decide (i ≤ j))) H) : rLeA (.int i) (.int j) H Q := .inl ⟨i, j, rfl, rfl, q⟩
theorem st_gt (q : Q (.bl (decide (j < i))) H) : rGtA (.int i) (.int j) H Q := .inl ⟨i, j, rfl, rfl, q⟩
theorem st_ge (q : Q (.bl (decide (j ≤ i))) H) : rGeA (.int i) (.int j) H Q := .inl ⟨i, j, rfl, rfl, q⟩
theorem st_lt_str (q : Q (.bl (decide (z.cps.toList < u.cps.toList))) H) : rLtA (.str z) (.str u) H Q := .inr ⟨z, u, rfl, rfl, q⟩
theorem st_eq (h : scal x y = true) (q : Q (.bl (decide (x = y))) H) : rEqA K x y H Q := .inl ⟨h, q⟩
theorem st_ne (h : scal x y = true) (q : Q (.bl (!decide (x = y))) H) : rNeA K x y H Q := .inl ⟨h, q⟩
theorem st_eqD {d e : PyData} (hd : Dp K H x d) (he : Dp K H y e) (sd : SeqAt.shaped d = true) (se : SeqAt.shaped e = true) (q : Q (.bl (PyData.eqv d e)) H) : rEqA K x y H Q := .inr ⟨d, e, hd, he, sd, se, q⟩
theorem st_neD {d e : PyData} (hd : Dp K H x d) (he : Dp K H y e) (sd : SeqAt.shaped d = true) (se : SeqAt.shaped e = true) (q : Q (.bl (!PyData.eqv d e)) H) : rNeA K x y H Q := .inr ⟨d, e, hd, he, sd, se, q⟩
theorem st_in_sign {c : Nat} (q : Q (.bl (decide (c ∈ z.cps.toList))) H) : rInA K false (.str ⟨#[c]⟩) (.str z) H Q := .inl ⟨c, z, rfl, rfl, q⟩
theorem st_nin_sign {c : Nat} (q : Q (.bl (!decide (c ∈ z.cps.toList))) H) : rInA K true (.str ⟨#[c]⟩) (.str z) H Q := .inl ⟨c, z, rfl, rfl, q⟩
theorem st_in_list {p : Addr} {xs : List V} (h : SqL K H p xs) (fx : flatV x = true) (fs : xs.all flatV = true) (q : Q (.bl (inV x xs)) H) : rInA K false x (.ref p) H Q := .inr (.inl ⟨p, xs, rfl, .inl h, fx, fs, q⟩)
theorem st_nin_list {p : Addr} {xs : List V} (h : SqL K H p xs) (fx : flatV x = true) (fs : xs.all flatV = true) (q : Q (.bl (!inV x xs)) H) : rInA K true x (.ref p) H Q := .inr (.inl ⟨p, xs, rfl, .inl h, fx, fs, q⟩)
theorem st_in_tup {p : Addr} {xs : List V} (h : SqT K H p xs) (fx : flatV x = true) (fs : xs.all flatV = true) (q : Q (.bl (inV x xs)) H) : rInA K false x (.ref p) H Q := .inr (.inl ⟨p, xs, rfl, .inr h, fx, fs, q⟩)
theorem st_nin_tup {p : Addr} {xs : List V} (h : SqT K H p xs) (fx : flatV x = true) (fs : xs.all flatV = true) (q : Q (.bl (!inV x xs)) H) : rInA K true x (.ref p) H Q := .inr (.inl ⟨p, xs, rfl, .inr h, fx, fs, q⟩)
theorem st_in_dict {a : Addr} {o : Option V} (g : DGet H a x o) (q : Q (.bl o.isSome) H) : rInA K false x (.ref a) H Q := .inr (.inr ⟨a, o, rfl, g, q⟩)
theorem st_nin_dict {a : Addr} {o : Option V} (g : DGet H a x o) (q : Q (.bl (!o.isSome)) H) : rInA K true x (.ref a) H Q := .inr (.inr ⟨a, o, rfl, g, q⟩)
theorem st_add (q : Q (.int (i + j)) H) : rAddA K (.int i) (.int j) H Q := .inl ⟨i, j, rfl, rfl, q⟩
theorem st_add_str (h : z.length + u.length ≤ 1000000) (q : Q (.str (z ++ u)) H) : rAddA K (.str z) (.str u) H Q := .inr (.inl ⟨z, u, rfl, rfl, small _ h, q⟩)
theorem st_add_list {l b : Addr} {xs zs : List V} (h : H l = some (.lst xs)) (h' : H b = some (.lst zs)) (hz : xs.length + zs.length ≤ 1000000) (q : ∀ p, H p = none → Q (.ref p) (upd H p (.lst (xs ++ zs)))) : rAddA K (.ref l) (.ref b) H Q :=
  .inr (.inr (.inl ⟨l, b, xs, zs, rfl, rfl, h, h', small _ hz, q⟩))
theorem st_sub (q : Q (.int (i - j)) H) : rSubI (.int i) (.int j) H Q := ⟨i, j, rfl, rfl, q⟩
theorem st_mul {a b : Nat} (ha : i.natAbs < 2 ^ a) (hb : j.natAbs < 2 ^ b) (h0 : 0 < a) (h1 : 0 < b) (h : a + b ≤ 1000000) (q : Q (.int (i * j)) H) : rMulA (.int i) (.int j) H Q := .inl ⟨i, j, rfl, rfl, wide_mul ha hb h0 h1 h, q⟩
theorem st_mod (h : 0 < j) (q : Q (.int (i % j)) H) : rModA (.int i) (.int j) H Q := ⟨i, j, rfl, rfl, h, q⟩
theorem st_div {b : Nat} (h : 0 < j) (hb : j.natAbs < 2 ^ b) (h0 : 0 < b) (h9 : b ≤ 9000) (q : Q (.int (i / j)) H) : rDivA (.int i) (.int j) H Q := ⟨i, j, rfl, rfl, wide_div h hb h0 h9, q⟩
theorem st_pow (h : 0 ≤ j) (h2 : j ≤ 1000000) (h3 : i.natAbs < 2 ^ 64) (q : Q (.int (i ^ j.toNat)) H) : rPowI (.int i) (.int j) H Q := ⟨i, j, rfl, rfl, ⟨h, h2, h3⟩, q⟩
theorem st_rep {l : Addr} {xs : List V} (h : H l = some (.lst xs)) (h1 : -(2 ^ 63) ≤ j) (h2 : j < 2 ^ 63) (h3 : xs.length * j.toNat ≤ 1000000) (q : ∀ p, H p = none → Q (.ref p) (upd H p (.lst ((List.replicate j.toNat xs).flatten)))) : rMulA (.ref l) (.int j) H Q := by
  refine .inr (.inr ⟨l, j, xs, rfl, rfl, h, h1, h2, small _ h3, ?_⟩)
  exact q
theorem st_slice_str {lo hi : Option Int} (h : z.length ≤ 1000000) (q : Q (.str (cutS z lo hi)) H) : rSlA K (.str z) lo hi H Q := .inr (.inl ⟨z, rfl, small _ h, q⟩)
theorem st_slice_list {p : Addr} {xs : List V} {lo hi : Option Int} (h : SqL K H p xs) (q : ∀ l, H l = none → Q (.ref l) (upd H l (.lst (cutV xs lo hi)))) : rSlA K (.ref p) lo hi H Q := .inl ⟨p, xs, rfl, h, q⟩
theorem st_int_int (q : Q (.int i) H) : rIntA [.int i] H Q := .inl (.inl ⟨i, rfl, q⟩)
theorem st_int_bl {k : Bool} (q : Q (.int (if k then 1 else 0)) H) : rIntA [.bl k] H Q := .inl (.inr ⟨k, rfl, q⟩)
theorem st_int_str (h : PySem.intText? z = some i) (hl : z.length ≤ 640) (q : Q (.int i) H) : rIntA [.str z] H Q := .inr ⟨z, i, rfl, h, hl, q⟩
theorem st_isi {c : V} {t w : Value} {b : Bool} (k : ClsV c w) (h : TyX K H x t) (e : PySem.W.kitOne K t w = some b) (q : Q (.bl b) H) : rIsA K [x, c] H Q := .inl ⟨x, c, t, w, b, rfl, k, h, e, q⟩
theorem tx_str : TyX K H (.str z) (.type "str") := .base (.str z)
theorem tx_int : TyX K H (.int i) (.type "int") := .base (.int i)
theorem tx_bl {b : Bool} : TyX K H (.bl b) (.type "bool") := .base (.bl b)
theorem tx_non : TyX K H .non (.type "NoneType") := .base .non
/-- a new object is tracked: what was tracked stays -/
theorem same_new {p : Addr} {o : HO} (h : H p = none) : Same H (upd H p o) := fun b u e => by rw [upd_ne (ne_of_none e h)]; exact e
/-- an object that H does not track changes -/
theorem Same.mut {p : Addr} {o : HO} (s : Same H H') (h : H p = none) : Same H (upd H' p o) := fun b u e => by rw [upd_ne (ne_of_none e h)]; exact s b u e
theorem same_sqT {a : Addr} {xs : List V} (e : Same H H') (h : SqT K H a xs) : SqT K H' a xs := by
  rcases h with (h | ⟨o, h⟩) | h
  · exact .inl (.inl (e _ _ h))
  · exact .inl (.inr ⟨o, e _ _ h⟩)
  · exact .inr h
theorem sign_eq (c k : Nat) : (V.str ⟨#[c]⟩ = V.str ⟨#[k]⟩) = (c = k) := by
  apply propext
  constructor
  · intro h
    injection h with h
    injection h with h
    have := congrArg (fun a : Array Nat => a.toList) h
    simpa using this
  · intro h; rw [h]
theorem st_eq_int (q : Q (.bl (decide (i = j))) H) : rEqA K (.int i) (.int j) H Q := .inl ⟨rfl, by
  have e : decide (V.int i = V.int j) = decide (i = j) := decide_eq_decide.mpr ⟨fun h => V.int.inj h, fun h => by rw [h]⟩
  rw [e]; exact q⟩
theorem st_ne_int (q : Q (.bl (!decide (i = j))) H) : rNeA K (.int i) (.int j) H Q := .inl ⟨rfl, by
  have e : decide (V.int i = V.int j) = decide (i = j) := decide_eq_decide.mpr ⟨fun h => V.int.inj h, fun h => by rw [h]⟩
  rw [e]; exact q⟩
theorem st_eq_str (q : Q (.bl (decide (z = u))) H) : rEqA K (.str z) (.str u) H Q := .inl ⟨rfl, by
  have e : decide (V.str z = V.str u) = decide (z = u) := decide_eq_decide.mpr ⟨fun h => V.str.inj h, fun h => by rw [h]⟩
  rw [e]; exact q⟩
theorem st_ne_str (q : Q (.bl (!decide (z = u))) H) : rNeA K (.str z) (.str u) H Q := .inl ⟨rfl, by
  have e : decide (V.str z = V.str u) = decide (z = u) := decide_eq_decide.mpr ⟨fun h => V.str.inj h, fun h => by rw [h]⟩
  rw [e]; exact q⟩
theorem sign_dec {c k : Nat} (hz : z = ⟨#[k]⟩) : decide ((⟨#[c]⟩ : Str) = z) = decide (c = k) := by
  subst hz
  refine decide_eq_decide.mpr ⟨fun h => ?_, fun h => by rw [h]⟩
  have := sign_eq c k
  exact this.mp (by rw [h])
theorem S_inj {l m : List Nat} : S l = S m ↔ l = m := by
  constructor
  · intro h
    have := congrArg (fun z : Str => z.cps.toList) h
    simpa using this
  · intro h; rw [h]
theorem S_len (l : List Nat) : (S l).length = l.length := by simp [S, Str.length]
theorem S_app (l m : List Nat) : S l ++ S m = S (l ++ m) := TL.ext_tl (by rw [TL.tl_append])
theorem S_nil : ("" : Str) = S [] := by decide +kernel
theorem sign_lt (c k : Nat) : decide (([c] : List Nat) < [k]) = decide (c < k) := by
  refine decide_eq_decide.mpr ⟨fun h => ?_, fun h => ?_⟩
  · cases h with
    | rel h => exact h
    | cons h => cases h
  · exact .rel h
theorem sIx_nat {n d a : Nat} (h : a ≤ n) : HT.sIx n d (some (a : Int)) = a := by
  show (if (a : Int) < 0 then ((a : Int) + (n : Int)).toNat else min (a : Int).toNat n) = a
  rw [if_neg (by omega)]; omega
theorem sIx_none {n d : Nat} : HT.sIx n d none = d := rfl
theorem cutS_nat {z : Str} {a b : Nat} (ha : a ≤ z.length) (hb : b ≤ z.length) : cutS z (some (a : Int)) (some (b : Int)) = S ((z.cps.toList.drop a).take (b - a)) := by
  unfold cutS
  rw [sIx_nat ha, sIx_nat hb]
theorem cutS_from {z : Str} {a : Nat} (ha : a ≤ z.length) : cutS z (some (a : Int)) none = S (z.cps.toList.drop a) := by
  unfold cutS
  rw [sIx_nat ha, sIx_none, List.take_of_length_le (by simp [Str.length])]
theorem cutS_to {z : Str} {b : Nat} (hb : b ≤ z.length) : cutS z none (some (b : Int)) = S (z.cps.toList.take b) := by
  unfold cutS
  rw [sIx_nat hb, sIx_none]
  rfl
theorem cutS_all {z : Str} : cutS z none none = z := by
  unfold cutS
  rw [sIx_none, sIx_none, List.take_of_length_le (by simp [Str.length])]
  cases z; rfl
end
/-- an error with one field is raised over H -/
def RaisedI (K : PySem.W.Frag) (C f : Str) (v : V) (H : Hp) (E : XK) : Prop := ∀ (d : Addr) (H' : Hp), Same H H' → H d = none → H' d = some (.xd [(f, v)]) → E (.ref (He.ga K C)) (some d) H'
/-- __init__ of a class of errors that stores one field -/
def pr_init (K : PySem.W.Frag) (C f : Str) : V → V → Hp → VK → XK → Prop := fun x y H Q _ => ∃ a, x = .ref a ∧ H a = some (exo a (He.ga K C) none) ∧ ∀ d, H d = none → d ≠ a → Q .non (upd (upd H d (exd d [(f, y)])) a (exo a (He.ga K C) (some d)))
theorem raise_ok {K : PySem.W.Frag} {C f : Str} {v : V} {H H1 : Hp} {E : XK} (h : RaisedI K C f v H E) (s : Same H H1) :
    ([v] : List V).length ≤ 1000 ∧ ∀ a, H1 a = none → Sp2 (pr_init K C f) (.ref a :: ([v] ++ [])) (upd H1 a (exo a (He.ga K C) none))
      (fun r H2 => r = .non ∧ ∃ (d : Addr) (fs : List (Str × V)), H2 a = some (exo a (He.ga K C) (some d)) ∧ H2 d = some (exd d fs) ∧ H1 d = none ∧ E (.ref (He.ga K C)) (some d) (upd (del H2 a) d (.xd fs))) (fun _ _ _ => False) := by
  refine ⟨(show 1 ≤ 1000 by decide), fun a ha => ⟨_, _, rfl, a, rfl, upd_same, fun d hd da => ⟨rfl, d, [(f, v)], upd_same, ?_, ?_, ?_⟩⟩⟩
  · rw [upd_ne da, upd_same]
  · rw [upd_ne da] at hd; exact hd
  · rw [upd_ne da] at hd
    refine h d _ (fun b o e => ?_) (s.free hd) upd_same
    have e1 := s b o e
    rw [upd_ne (ne_of_none e1 hd), del_ne (ne_of_none e1 ha), upd_ne (ne_of_none e1 ha), upd_ne (ne_of_none e1 hd), upd_ne (ne_of_none e1 ha)]
    exact e1
theorem XV.same {H H' : Hp} {a C d : Addr} {fs : List (Str × V)} (x : XV H a C d fs) (s : Same H H') : XV H' a C d fs := by
  rcases x with ⟨h1, h2⟩ | ⟨h1, h2⟩
  · exact .inl ⟨s _ _ h1, s _ _ h2⟩
  · exact .inr ⟨s _ _ h1, s _ _ h2⟩
theorem st_isX {K : PySem.W.Frag} {a d : Addr} {x : Str} {fs : List (Str × V)} {c : V} {cv : Value} {b : Bool} {H : Hp} {Q : VK} (xv : XV H a (He.ga K x) d fs) (o : oexB K x = true) (hc : ClsV c cv) (hk : PySem.W.kitOne K (.ref (He.ga K x)) cv = some b) (q : Q (.bl b) H) : rIsA K [.ref a, c] H Q :=
  .inr (.inr ⟨a, d, x, fs, c, cv, b, rfl, xv, oexA_of o, hc, hk, q⟩)
end My
set_option Elab.async false
set_option linter.all false
set_option maxRecDepth 100000
set_option maxHeartbeats 4000000
/-! The reading's own words, one lemma each; «walk_at "w"» goes on by them. -/
namespace My
open PySem PySem.Spec PyProof.Rows L2
section
variable {K : PySem.W.Frag} {H : Hp} {σ : L2.St} {Q : VK} {QT : Bool → Hp → Prop} {QA : List V → Hp → Prop} {v : V} {i : Nat} {r : R2} {ta tb te to : TE} {t u : TT} {tr : TA} {D : Ends} {s1 s2 : TS} {g : TG} {p q c : L2.St → Hp → Prop} {R : VK} {E : XK} {sp : Sp}
theorem w_var (h : σ[i]? = some (some v)) (q : Q v H) : tVar i σ H Q := ⟨v, h, q⟩
theorem w_c (q : Q v H) : tC v σ H Q := q
theorem w_op (h : ta σ H fun x H1 => tb σ H1 fun y H2 => r x y H2 Q) : tOp r ta tb σ H Q := h
theorem w_ix (h : ta σ H fun x H1 => tb σ H1 fun y H2 => rIxA K x y H2 Q) : tIxA K ta tb σ H Q := h
theorem w_in (h : ta σ H fun x H1 => tb σ H1 fun y H2 => rInA K false x y H2 Q) : tInA K ta tb σ H Q := h
theorem w_nin (h : ta σ H fun x H1 => tb σ H1 fun y H2 => rInA K true x y H2 Q) : tNinA K ta tb σ H Q := h
theorem w_un {f : V → Hp → VK → Prop} (h : ta σ H fun x H1 => f x H1 Q) : tUn f ta σ H Q := h
theorem w_nil (h : QA [] H) : tNil σ H QA := h
theorem w_cons (h : ta σ H fun x H1 => tr σ H1 fun xs H2 => QA (x :: xs) H2) : tCons ta tr σ H QA := h
theorem w_cb {f : List V → Hp → VK → Prop} (h : tr σ H fun vs H1 => f vs H1 Q) : tCB f tr σ H Q := h
theorem w_call (h : tr σ H fun vs H1 => sp vs H1 Q E) : tCall sp [] E tr σ H Q := by
  show tr σ H fun vs H1 => sp (vs ++ []) H1 Q E
  simp only [List.append_nil]
  exact h
theorem w_callS {W : L2.St → XK} (h : tr σ H fun vs H1 => sp vs H1 Q (W σ)) : tCallS sp W tr σ H Q := h
theorem w_seq (h : s1 ⟨s2 D, D.rt, D.bk, D.ct⟩ σ H) : tSeq s1 s2 D σ H := h
theorem w_set (h : te σ H fun x H1 => D.nx (σ.set i (some x)) H1) : tAsg te (gName i) D σ H := h
theorem w_asg (h : te σ H fun x H1 => g x σ H1 D.nx) : tAsg te g D σ H := h
theorem w_gn (h : p (σ.set i (some v)) H) : gName i v σ H p := h
theorem w_ret (h : te σ H D.rt) : tRet te D σ H := h
theorem w_retN (h : D.rt .non H) : tRetN D σ H := h
theorem w_next (h : D.nx σ H) : tNext D σ H := h
theorem w_cont (h : D.ct σ H) : tCont D σ H := h
theorem w_break (h : D.bk σ H) : tBreak D σ H := h
theorem w_drop (h : te σ H fun _ H1 => D.nx σ H1) : tDrop te D σ H := h
theorem w_if (h : t σ H fun b H1 => if b = true then s1 D σ H1 else s2 D σ H1) : tIfS t s1 s2 D σ H := h
theorem w_ife (h : t σ H fun b H1 => if b = true then ta σ H1 Q else tb σ H1 Q) : tIf t ta tb σ H Q := h
theorem w_test (h : te σ H fun x H1 => ∃ k, x = .bl k ∧ QT k H1) : tTest te σ H QT := h
theorem w_B (h : te σ H fun x H1 => ∃ k, x = .bl k ∧ QT k H1) : tB te σ H QT := h
theorem w_and (h : t σ H fun c H1 => if c = true then u σ H1 QT else QT false H1) : tAnd t u σ H QT := h
theorem w_or (h : t σ H fun c H1 => if c = true then QT true H1 else u σ H1 QT) : tOr t u σ H QT := h
theorem w_not (h : t σ H fun c H1 => QT (!c) H1) : tNot t σ H QT := h
theorem w_andV (h : ta σ H fun x H1 => ∃ c, x = .bl c ∧ if c = true then tb σ H1 Q else Q (.bl false) H1) : tAndV ta tb σ H Q := h
theorem w_orV (h : ta σ H fun x H1 => ∃ c, x = .bl c ∧ if c = true then Q (.bl true) H1 else tb σ H1 Q) : tOrV ta tb σ H Q := h
theorem w_notV (h : ta σ H fun x H1 => ∃ c, x = .bl c ∧ Q (.bl (!c)) H1) : tNotV ta σ H Q := h
theorem w_isN (h : ta σ H fun x H1 => Q (.bl (decide (x = .non))) H1) : tIsN ta σ H Q := h
theorem w_notN (h : ta σ H fun x H1 => Q (.bl (!decide (x = .non))) H1) : tNotN ta σ H Q := h
theorem w_tup (h : tr σ H fun xs H1 => xs.length ≤ sizeLine ∧ ∀ p, H1 p = none → Q (.ref p) (upd H1 p (.tup xs))) : tTup tr σ H Q := h
theorem w_lst (h : tr σ H fun xs H1 => xs.length ≤ sizeLine ∧ ∀ p, H1 p = none → Q (.ref p) (upd H1 p (.lst xs))) : tLst tr σ H Q := h
theorem w_sl {f : V → Option Int → Option Int → Hp → VK → Prop} {tl th : TO} (h : te σ H fun x H1 => tl σ H1 fun l H2 => th σ H2 fun u H3 => f x l u H3 Q) : tSl f te tl th σ H Q := h
theorem w_part {QO : Option Int → Hp → Prop} (h : te σ H fun x H1 => ∃ i, x = .int i ∧ QO (some i) H1) : tPart te σ H QO := h
theorem w_nopart {QO : Option Int → Hp → Prop} (h : QO none H) : tNoPart σ H QO := h
theorem w_bm {T : String} {f : V → List V → Hp → VK → Prop} (h : to σ H fun x H1 => tyV K T x H1 ∧ tr σ H1 fun xs H2 => f x xs H2 Q) : tBM K T f to tr σ H Q := h
theorem w_bm0 {T : String} {f : V → List V → Hp → VK → Prop} (h : to σ H fun x H1 => tyV K T x H1 ∧ f x [] H1 Q) : tBM0 K T f to σ H Q := h
theorem w_m1 {f : V → List V → Hp → VK → Prop} (h : to σ H fun x H1 => (∃ a, x = .str a) ∧ te σ H1 fun y H2 => f x [y] H2 Q) : tM1 f to te σ H Q := h
theorem w_yes (h : QT true H) : tYes σ H QT := h
theorem w_ebl {b : Bool} (h : QT b H) : ∃ k, V.bl b = .bl k ∧ QT k H := ⟨b, rfl, h⟩
theorem w_eint {b : Int} {QI : Int → Hp → Prop} (h : QI b H) : ∃ k, V.int b = .int k ∧ QI k H := ⟨b, rfl, h⟩
theorem w_eintO {b : Int} {QO : Option Int → Hp → Prop} (h : QO (some b) H) : ∃ k, V.int b = .int k ∧ QO (some k) H := ⟨b, rfl, h⟩
theorem w_eintV {b : Int} {A : Int → Prop} (h : A b) : ∃ k, V.int b = .int k ∧ A k := ⟨b, rfl, h⟩
theorem w_iteNT {A B : Prop} (h : B) : if (!true) = true then A else B := L2.iteF h
theorem w_iteNF {A B : Prop} (h : A) : if (!false) = true then A else B := L2.iteT h
theorem w_estr {z : Str} {A : Prop} (h : A) : (∃ a, V.str z = .str a) ∧ A := ⟨⟨z, rfl⟩, h⟩
theorem w_eblV {b : Bool} {A : Bool → Prop} (h : A b) : ∃ c, V.bl b = .bl c ∧ A c := ⟨b, rfl, h⟩
theorem w_nx (h : p σ H) : Ends.nx ⟨p, R, q, c⟩ σ H := h
theorem w_rt (h : R v H) : Ends.rt ⟨p, R, q, c⟩ v H := h
theorem w_bk (h : q σ H) : Ends.bk ⟨p, R, q, c⟩ σ H := h
theorem w_ct (h : c σ H) : Ends.ct ⟨p, R, q, c⟩ σ H := h
theorem w_par {i j : Nat} (h : tr σ H fun vs H1 => ∃ v w, vs = [v, w] ∧ D.nx ((σ.set i (some v)).set j (some w)) H1) : tPar i j tr D σ H := h
theorem w_epar {a b : V} {A : V → V → Prop} (h : A a b) : ∃ v w, [a, b] = [v, w] ∧ A v w := ⟨a, b, rfl, h⟩
theorem w_aug {ti : TIp} {x : V} (hx : σ[i]? = some (some x)) (h : te σ H fun y H1 => ti x y H1 fun z H2 => D.nx (σ.set i (some z)) H2) : tAug i te ti D σ H := ⟨x, hx, h⟩
theorem w_ip {f : Int → Int → Int} {a b : Int} (h : Q (.int (f a b)) H) : ipI f (.int a) (.int b) H Q := ⟨a, b, rfl, rfl, h⟩
theorem w_chain {r' : R2} {tc : TE} (h : ta σ H fun x H1 => tb σ H1 fun y H2 => r x y H2 fun z H3 => ∃ k, z = .bl k ∧ (if k = true then tc σ H3 fun w' H4 => r' y w' H4 Q else Q (.bl false) H3)) : tChain r r' ta tb tc σ H Q := h
theorem w_raise {C : Addr} {W : WX} (h : tr σ H fun vs H1 => (vs.length ≤ 1000 ∧ ∀ a, H1 a = none → sp (.ref a :: (vs ++ [])) (upd H1 a (exo a C none)) (fun v H2 => v = .non ∧ ∃ (d : Addr) (fs : List (Str × V)), H2 a = some (exo a C (some d)) ∧ H2 d = some (exd d fs) ∧ H1 d = none ∧ W (.ref C) (some d) σ (upd (del H2 a) d (.xd fs))) (fun _ _ _ => False))) : tRaiseX C sp W tr D σ H := h
theorem w_for {wi : TI} {tb : TS} (h : wi σ H fun J H1 => ∃ W : Nat → Nat → L2.St → Hp → Prop, (∃ m, W 0 m σ H1) ∧ ∀ i m σ H, W i m σ H →
  (J.stop i H ∧ D.nx σ H) ∨ (J.go i H ∧ ∃ N : L2.St → Hp → Prop, (∀ σ' H', N σ' H' → ∃ m', m' < m ∧ W (i + 1) m' σ' H') ∧ ∀ x H', J.yld i H x H' → g x σ H' fun σ2 H2 => tb { D with nx := N, ct := N, bk := D.nx } σ2 H2)) : tFor wi g tb D σ H := h
theorem w_lc {wi : TI} {vs : List Nat} (h : wi σ H fun J H1 => ∀ D, H1 D = none → ∃ W : Nat → Nat → Hp → Prop, (∃ m, W 0 m (upd H1 D (.lst []))) ∧ ∀ i m H, W i m H →
  (J.stop i H ∧ Q (.ref D) H) ∨ (J.go i H ∧ ∃ Nx : Hp → Prop, (∀ H', Nx H' → ∃ m', m' < m ∧ W (i + 1) m' H') ∧ ∀ x H', J.yld i H x H' → g x (wipe σ vs) H' fun σ2 H2 => wipe σ2 vs = wipe σ vs ∧ t σ2 H2 fun b H3 =>
    if b = true then te σ2 H3 fun y H4 => ∃ acc, H4 D = some (.lst acc) ∧ acc.length < sizeLine ∧ Nx (upd H4 D (.lst (acc ++ [y]))) else Nx H3)) : tLc wi g t te vs σ H Q := h
theorem w_iA {RI : It → Hp → Prop} (h : te σ H fun x H1 => (∃ a, x = .ref a ∧ (∃ xs, SqL K H1 a xs) ∧ RI (Itl K a) H1) ∨ (∃ a, x = .ref a ∧ (∃ xs, SqT K H1 a xs) ∧ RI (Itt K a) H1) ∨ (∃ z, x = .str z ∧ RI (Its z) H1)) : iA K te σ H RI := h
theorem w_rng1 {RI : It → Hp → Prop} (h : tr σ H fun vs H1 => ∃ j : Int, vs = [.int j] ∧ -(2 ^ 62) ≤ j ∧ j < 2 ^ 62 ∧ RI (Itr 0 j.toNat) H1) : iRng1 tr σ H RI := h
theorem w_rng2 {RI : It → Hp → Prop} (h : tr σ H fun vs H1 => ∃ i j : Int, vs = [.int i, .int j] ∧ (-(2 ^ 62) ≤ i ∧ i < 2 ^ 62 ∧ -(2 ^ 62) ≤ j ∧ j < 2 ^ 62) ∧ RI (Itr i (j - i).toNat) H1) : iRng2 tr σ H RI := h
theorem w_gtup2 {a : Addr} {x y : V} {i j : Nat} (h : SqT K H a [x, y]) (q : p ((σ.set i (some x)).set j (some y)) H) : gTup K 2 (gCons (gName i) (gCons (gName j) gNil)) (.ref a) σ H p := ⟨a, _, rfl, h, rfl, _, _, rfl, _, _, rfl, rfl, q⟩
theorem w_gtup3 {a : Addr} {x y z : V} {i j k : Nat} (h : SqT K H a [x, y, z]) (q : p (((σ.set i (some x)).set j (some y)).set k (some z)) H) : gTup K 3 (gCons (gName i) (gCons (gName j) (gCons (gName k) gNil))) (.ref a) σ H p := ⟨a, _, rfl, h, rfl, _, _, rfl, _, _, rfl, _, _, rfl, rfl, q⟩
theorem w_par3 {i j l : Nat} (h : tr σ H fun vs H1 => ∃ u v w, vs = [u, v, w] ∧ D.nx (((σ.set i (some u)).set j (some v)).set l (some w)) H1) : tPar3 i j l tr D σ H := h
theorem w_epar3 {a b d : V} {A : V → V → V → Prop} (h : A a b d) : ∃ u v w, [a, b, d] = [u, v, w] ∧ A u v w := ⟨a, b, d, rfl, h⟩
theorem w_xfA {f : Str} (h : te σ H fun x H1 => ∃ (a d : Addr) (c : Str) (fs : List (Str × V)) (v : V), x = .ref a ∧ XV H1 a (He.ga K c) d fs ∧ OexA K c ∧ PySem.W.findIn K (.ref (He.ga K c)) f = some none ∧ fs.lookup f = some v ∧ Q v H1) : tXfA K te f σ H Q := h
theorem w_mkX {C : Addr} (h : tr σ H fun vs H1 => vs.length ≤ 1000 ∧ ∀ a, H1 a = none → sp (.ref a :: vs) (upd H1 a (exo a C none)) (fun v H2 => v = .non ∧ Q (.ref a) H2) E0) : tMkX C sp tr σ H Q := h
theorem w_fld {f : Str} (h : te σ H fun x H1 => ∃ a C dx fs v, x = .ref a ∧ H1 a = some (.ins C dx fs) ∧ Cls K C ∧ NoAttr K C f ∧ fs.lookup f = some v ∧ Q v H1) : tFld K te f σ H Q := h
theorem w_try {C : Addr} {i j : Nat} {tb : WX → TS} (h : tb (wHold K C i j D) D σ H) : tTryHold K C i j tb D σ H := h
theorem w_disp {trs : List (TE × TE)} (h : ∀ p, H p = none → tPairs trs σ (upd H p (.dK [])) fun ps H2 => H2 p = some (.dK []) ∧ ∃ kvs : List (Key × V), ps = kvs.map (fun kv => (kV kv.1, kv.2)) ∧ kvs.length ≤ 15 ∧ Q (.ref p) (upd H2 p (.dK (mergeK [] kvs)))) : tDisp trs σ H Q := h
theorem w_dnew (h : ∀ p, H p = none → Q (.ref p) (upd H p (.dK []))) : tDNewK σ H Q := h
theorem w_pnil {QP : List (V × V) → Hp → Prop} (h : QP [] H) : tPairs [] σ H QP := h
theorem w_pcons {QP : List (V × V) → Hp → Prop} {trs : List (TE × TE)} (h : ta σ H fun x H1 => tb σ H1 fun y H2 => tPairs trs σ H2 fun ps H3 => QP ((x, y) :: ps) H3) : tPairs ((ta, tb) :: trs) σ H QP := h
theorem w_put {td ty tv : TE} (h : tv σ H fun v H1 => td σ H1 fun x H2 => ty σ H2 fun y H3 => ∃ a H4, x = .ref a ∧ DPut H3 a y v H4 ∧ D.nx σ H4) : sDPut td ty tv D σ H := h
end
end My
set_option Elab.async false
set_option linter.all false
set_option maxRecDepth 100000
set_option maxHeartbeats 4000000
/-! Comprehensions over data. -/
namespace My
open PySem PySem.Spec PyProof.Rows L2
theorem paired_snoc {α β : Type} {F : α → β → Prop} : ∀ {l : List α} {m : List β} {a : α} {b : β}, Paired F l m → F a b → Paired F (l ++ [a]) (m ++ [b])
  | _, _, _, _, .nil, h => .cons h .nil
  | _, _, _, _, .cons r t, h => .cons r (paired_snoc t h)
theorem paired_mem {α β : Type} {F G : α → β → Prop} : ∀ {l : List α} {m : List β}, Paired F l m → (∀ a b, a ∈ l → F a b → G a b) → Paired G l m
  | _, _, .nil, _ => .nil
  | _, _, .cons r t, f => .cons (f _ _ List.mem_cons_self r) (paired_mem t fun a b h => f a b (List.mem_cons_of_mem _ h))
theorem pget {α β : Type} {F : α → β → Prop} : ∀ {l : List α} {m : List β} {i : Nat} {a : α}, Paired F l m → l[i]? = some a → ∃ b, m[i]? = some b ∧ F a b
  | _, _, _, _, .nil, e => by simp at e
  | _, _, 0, _, .cons r _, e => by simp at e; subst e; exact ⟨_, rfl, r⟩
  | _, _, i + 1, a, .cons _ t, e => by
    obtain ⟨u, h1, h2⟩ := pget (i := i) (a := a) t (by simpa using e)
    exact ⟨u, by simpa using h1, h2⟩
theorem pgetR {α β : Type} {F : α → β → Prop} : ∀ {l : List α} {m : List β} {i : Nat} {b : β}, Paired F l m → m[i]? = some b → ∃ a, l[i]? = some a ∧ F a b
  | _, _, _, _, .nil, e => by simp at e
  | _, _, 0, _, .cons r _, e => by simp at e; subst e; exact ⟨_, rfl, r⟩
  | _, _, i + 1, a, .cons _ t, e => by
    obtain ⟨u, h1, h2⟩ := pgetR (i := i) (b := a) t (by simpa using e)
    exact ⟨u, by simpa using h1, h2⟩
theorem take_succ_some {α : Type} {l : List α} {i : Nat} {a : α} (h : l[i]? = some a) : l.take (i + 1) = l.take i ++ [a] := by
  rw [List.take_succ, h]; rfl
theorem lcp {α : Type} {J : It} {n : Nat} {G : Hp → Prop} {Y : Nat → Hp → V → Hp → Prop} (w : Walk J n G Y) {g : TG} {tt : TT} {te : TE} {vs : List Nat} {σ : L2.St} {H1 : Hp} {D : Addr} {Qd : Hp → Prop} (hD : H1 D = none)
    (ds : List α) (hn : n = ds.length) (hz : ds.length ≤ 1000000) (hG : ∀ H', Same H1 H' → G H') (f : α → Bool) (R : α → V → Hp → Prop) (Rm : ∀ a y H H' zs, H D = some (.lst zs) → (∀ b o, b ≠ D → H b = some o → H' b = some o) → R a y H → R a y H')
    (turn : ∀ (i : Nat) (d : α) (x : V) (H H' : Hp), ds[i]? = some d → Same H1 H → Y i H x H' → ∀ (k1 : V → Hp → Prop) (k2 : Hp → Prop), (f d = true → ∀ y H4, Same H H4 → R d y H4 → k1 y H4) → (f d = false → ∀ H3, Same H H3 → k2 H3) →
      g x (wipe σ vs) H' fun σ2 H2 => wipe σ2 vs = wipe σ vs ∧ tt σ2 H2 fun b H3 => if b = true then te σ2 H3 k1 else k2 H3)
    (hd : ∀ ys H', Same H1 H' → H' D = some (.lst ys) → Paired (fun a y => R a y H') (ds.filter f) ys → Qd H') :
    ∃ W : Nat → Nat → Hp → Prop, (∃ m, W 0 m (upd H1 D (.lst []))) ∧ ∀ i m H, W i m H →
      (J.stop i H ∧ Qd H) ∨ (J.go i H ∧ ∃ Nx : Hp → Prop, (∀ H', Nx H' → ∃ m', m' < m ∧ W (i + 1) m' H') ∧ ∀ x H', J.yld i H x H' → g x (wipe σ vs) H' fun σ2 H2 => wipe σ2 vs = wipe σ vs ∧ tt σ2 H2 fun b H3 =>
        if b = true then te σ2 H3 fun y H4 => ∃ acc, H4 D = some (.lst acc) ∧ acc.length < sizeLine ∧ Nx (upd H4 D (.lst (acc ++ [y]))) else Nx H3) := by
  subst hn
  refine lc_it w (fun i H => ∃ ys, Same H1 H ∧ H D = some (.lst ys) ∧ Paired (fun a y => R a y H) ((ds.take i).filter f) ys) ⟨[], same_new hD, upd_same, by rw [List.take_zero]; exact .nil⟩ (fun i H _ ⟨ys, s, _⟩ => hG H s) ?_ ?_
  · rintro i x H H' hi ⟨ys, s, hL, pr⟩ hy
    have hdi : ds[i]? = some ds[i] := List.getElem?_eq_getElem hi
    have lz : ys.length ≤ 1000000 := by
      have e := pr.length
      have h2 := List.length_filter_le f (ds.take i)
      rw [List.length_take] at h2
      omega
    refine turn i ds[i] x H H' hdi s hy _ _ (fun hf y H4 s4 r => ?_) (fun hf H3 s3 => ?_)
    · refine ⟨ys, s4 _ _ hL, small_lt _ lz, ys ++ [y], Same.mut (s.trans s4) hD, upd_same, ?_⟩
      rw [take_succ_some hdi, List.filter_append, List.filter_cons, if_pos hf]
      have nd : ∀ b o, b ≠ D → H4 b = some o → upd H4 D (.lst (ys ++ [y])) b = some o := fun b o ne e => by rw [upd_ne ne]; exact e
      exact paired_snoc (L2.Paired.mapP pr fun a z r => Rm a z H _ ys hL (fun b o ne e => nd b o ne (s4 b o e)) r) (Rm _ y H4 _ ys (s4 _ _ hL) nd r)
    · refine ⟨ys, s.trans s3, s3 _ _ hL, ?_⟩
      rw [take_succ_some hdi, List.filter_append, List.filter_cons, if_neg (by rw [hf]; exact Bool.false_ne_true)]
      show Paired _ (_ ++ []) ys
      rw [List.append_nil]
      exact L2.Paired.mapP pr fun a z r => Rm a z H H3 ys hL (fun b o _ e => s3 b o e) r
  · rintro H ⟨ys, s, hL, pr⟩
    rw [List.take_length] at pr
    exact hd ys H s hL pr
/-- a comprehension whose elements are plain values -/
theorem lcv {α : Type} {J : It} {n : Nat} {G : Hp → Prop} {Y : Nat → Hp → V → Hp → Prop} (w : Walk J n G Y) {g : TG} {tt : TT} {te : TE} {vs : List Nat} {σ : L2.St} {H1 : Hp} {D : Addr} {Qd : Hp → Prop} (hD : H1 D = none)
    (ds : List α) (hn : n = ds.length) (hz : ds.length ≤ 1000000) (hG : ∀ H', Same H1 H' → G H') (f : α → Bool) (v : α → V)
    (turn : ∀ (i : Nat) (d : α) (x : V) (H H' : Hp), ds[i]? = some d → Same H1 H → Y i H x H' → ∀ (k1 : V → Hp → Prop) (k2 : Hp → Prop), (f d = true → ∀ H4, Same H H4 → k1 (v d) H4) → (f d = false → ∀ H3, Same H H3 → k2 H3) →
      g x (wipe σ vs) H' fun σ2 H2 => wipe σ2 vs = wipe σ vs ∧ tt σ2 H2 fun b H3 => if b = true then te σ2 H3 k1 else k2 H3)
    (hd : ∀ H', Same H1 H' → H' D = some (.lst ((ds.filter f).map v)) → Qd H') :
    ∃ W : Nat → Nat → Hp → Prop, (∃ m, W 0 m (upd H1 D (.lst []))) ∧ ∀ i m H, W i m H →
      (J.stop i H ∧ Qd H) ∨ (J.go i H ∧ ∃ Nx : Hp → Prop, (∀ H', Nx H' → ∃ m', m' < m ∧ W (i + 1) m' H') ∧ ∀ x H', J.yld i H x H' → g x (wipe σ vs) H' fun σ2 H2 => wipe σ2 vs = wipe σ vs ∧ tt σ2 H2 fun b H3 =>
        if b = true then te σ2 H3 fun y H4 => ∃ acc, H4 D = some (.lst acc) ∧ acc.length < sizeLine ∧ Nx (upd H4 D (.lst (acc ++ [y]))) else Nx H3) := by
  refine lcp w hD ds hn hz hG f (fun a y _ => y = v a) (fun _ _ _ _ _ _ _ e => e) (fun i d x H H' h1 h2 h3 k1 k2 h4 h5 => turn i d x H H' h1 h2 h3 k1 k2 (fun hf H4 s => h4 hf _ H4 s rfl) h5) (fun ys H' s e pr => hd H' s ?_)
  rw [e]
  have : ys = (ds.filter f).map v := by
    clear e
    generalize ds.filter f = l at pr
    induction pr with
    | nil => rfl
    | cons h _ ih => rw [List.map_cons, ← ih, h]
  rw [this]
/-- no test -/
theorem filter_yes {α : Type} (l : List α) : l.filter (fun _ => true) = l := by simp
/-! ### signs that stand in a text -/
theorem strOk_iff {z : Str} : PyData.strOk z = true ↔ ∀ c ∈ z.cps.toList, c < 1114112 := by
  unfold PyData.strOk
  rw [Array.all_eq_true]
  constructor
  · intro h c hc
    obtain ⟨i, hi, e⟩ := List.getElem_of_mem hc
    have := h i (by simpa using hi)
    rw [← e]
    simpa using this
  · intro h i hi
    have := h z.cps[i] (by simp)
    simpa using this
theorem strOk_append {a b : Str} (ha : PyData.strOk a = true) (hb : PyData.strOk b = true) : PyData.strOk (a ++ b) = true := by
  rw [strOk_iff] at *
  have e : (a ++ b).cps.toList = a.cps.toList ++ b.cps.toList := TL.tl_append a b
  rw [e]
  intro c hc
  rcases List.mem_append.mp hc with h | h
  · exact ha c h
  · exact hb c h
theorem strOk_cut {z : Str} {lo hi : Option Int} (h : PyData.strOk z = true) : PyData.strOk (cutS z lo hi) = true := by
  rw [strOk_iff] at *
  intro c hc
  exact h c (List.mem_of_mem_drop (List.mem_of_mem_take (show c ∈ ((z.cps.toList.drop _).take _) from hc)))
theorem strOk_join {sep : Str} (hs : PyData.strOk sep = true) : ∀ {zs : List Str}, (∀ z ∈ zs, PyData.strOk z = true) → PyData.strOk (Str.join sep zs) = true
  | [], _ => (by decide +kernel : PyData.strOk (Str.empty) = true)
  | [z], h => h z List.mem_cons_self
  | x :: z :: r, h => by
    show PyData.strOk (x ++ sep ++ Str.join sep (z :: r)) = true
    exact strOk_append (strOk_append (h x List.mem_cons_self) hs) (strOk_join hs fun y hy => h y (List.mem_cons_of_mem _ hy))
/-- C(v) as a value, C's __init__ storing the one field f -/
theorem mk_ok {K : PySem.W.Frag} {C f : Str} {v : V} {H : Hp} {Q : Addr → Hp → Prop} (k : ∀ a d H2, Same H H2 → XV H2 a (He.ga K C) d [(f, v)] → Q a H2) :
    ([v] : List V).length ≤ 1000 ∧ ∀ a, H a = none → Sp2 (pr_init K C f) (.ref a :: [v]) (upd H a (exo a (He.ga K C) none)) (fun r H2 => r = .non ∧ Q a H2) E0 := by
  refine ⟨(show 1 ≤ 1000 by decide), fun a ha => ⟨_, _, rfl, a, rfl, upd_same, fun d hd da => ⟨rfl, ?_⟩⟩⟩
  have hd0 : H d = none := by rw [upd_ne da] at hd; exact hd
  refine k a d _ (fun b o e => ?_) (.inr ⟨upd_same, by rw [upd_ne da, upd_same]⟩)
  rw [upd_ne (ne_of_none e ha), upd_ne (ne_of_none e hd0), upd_ne (ne_of_none e ha)]
  exact e
theorem eqv_same {d : PyData} (h : SeqAt.shaped d = true) : PyData.eqv d d = true := SeqAt.eqv_refl d (SeqAt.canLay_of_shaped h)
end My
set_option Elab.async false
set_option linter.all false
set_option maxRecDepth 100000
set_option maxHeartbeats 4000000
/-! Own classes' objects and their methods; sorted of a tuple of texts. -/
namespace My
open PySem PySem.Spec PyProof.Rows L2
/-- a method of the class at C -/
structure Km (P : Program) (w : World) (K : PySem.W.Frag) (mg : Str → Option Value) (base : Heap) (CX : CXT) (k : Nat) (C : Addr) (m : Str) (ps : List Str) (sp : Sp) : Prop where
  c : Cls K C
  ex : ∃ f fd, Meth K C m f ∧ Binds K fd ps [] ∧ FnOk P w K mg base CX k f fd ps sp
/-- a class that makes objects -/
structure Ki (P : Program) (w : World) (K : PySem.W.Frag) (mg : Str → Option Value) (base : Heap) (k : Nat) (x : Str) (ps : List Str) (sp : Sp) : Prop where
  g : mg x = some (.ref (He.ga K x))
  ex : ∃ f fd, Mk K (He.ga K x) f ∧ Binds K fd ps [] ∧ FnOk P w K mg base CX0 k f fd ps sp
section
variable {X : Cx} {j k : Nat} {x m : Str} {C : Addr} {ps : List Str} {sp : Sp} {e o : Expr} {es : List Expr} {ta : TE} {t : TA} {p pos apos : Pos}
theorem pe_mK {pl : Sem Bool} (c : Km X.prog X.w X.K X.mg X.base CX0 j C m ps sp) (hr : Room j X.A) (he : PE X o ta) (ha : PA X (e :: es) t)
    (hst : starEach (e :: es) X.env = (false, eval e X.env) :: starEach es X.env := by rfl) (hpl : (backTo pos (starEach es X.env)).any (·.1) = false := by rfl)
    (ht : eval (.Call (.Attribute o m apos) (e :: es) [] pos) X.env = (do
      let ov ← eval o X.env; standAt apos.atName
      let (f, first) ← holding [ov] (getMethod ov m pl); callWith pos f first (backTo pos (starEach (e :: es) X.env)) (backToKw pos (keywordEach [] X.env))) := by rfl) :
    PE X (.Call (.Attribute o m apos) (e :: es) [] pos) (tMeth C m sp [] E0 ta t) := by
  obtain ⟨f, fd, h1, h2, h3⟩ := c.ex
  exact pe_meth (pl := pl) he c.c h1 h3 hr h2 .nil pass0 ha hst hpl ht
theorem pe_mK0 {pl : Sem Bool} (c : Km X.prog X.w X.K X.mg X.base CX0 j C m ps sp) (hr : Room j X.A) (he : PE X o ta)
    (ht : eval (.Call (.Attribute o m apos) [] [] pos) X.env = (do
      let ov ← eval o X.env; standAt apos.atName
      let (f, first) ← holding [ov] (getMethod ov m pl); callWith pos f first (backTo pos (starEach [] X.env)) (backToKw pos (keywordEach [] X.env))) := by rfl) :
    PE X (.Call (.Attribute o m apos) [] [] pos) (tMeth C m sp [] E0 ta tNil) := by
  obtain ⟨f, fd, h1, h2, h3⟩ := c.ex
  exact pe_meth0 (pl := pl) he c.c h1 h3 hr h2 .nil pass0 ht
theorem pe_mI (c : Ki X.prog X.w X.K X.mg X.base k x ps sp) (hr : Room (k + 1) X.A) (hg : Gl X x) (ha : PA X (e :: es) t)
    (hdb : (x == ("__debug__" : Str)) = false := by decide) (he : starEach (e :: es) X.env = (false, eval e X.env) :: starEach es X.env := by rfl) (hpl : (backTo pos (starEach es X.env)).any (·.1) = false := by rfl) :
    PE X (.Call (.Name x p) (e :: es) [] pos) (tMake (He.ga X.K x) sp [] E0 t) := by
  obtain ⟨f, fd, h1, h2, h3⟩ := c.ex
  exact pe_make h1 h3 hr hg c.g h2 .nil pass0 ha hdb he hpl
end
section
variable {X : Cx} {j : Nat} {x : Str} {ps : List Str} {sp : Sp} {e : Expr} {es : List Expr} {t : TA} {p pos : Pos}
/-- a def that may raise, called where it does not -/
theorem pe_cKN (c : Kp X.prog X.w X.K X.mg X.base (L2.CX X.prog X.w) j x ps sp) (hr : Room j X.A) (hg : Gl X x) (ha : PA X (e :: es) t)
    (hdb : (x == ("__debug__" : Str)) = false := by decide) (he : starEach (e :: es) X.env = (false, eval e X.env) :: starEach es X.env := by rfl) (hpl : (backTo pos (starEach es X.env)).any (·.1) = false := by rfl) :
    PE X (.Call (.Name x p) (e :: es) [] pos) (tCall sp [] E0 t) := by
  obtain ⟨f, fd, h1, h2, h3, h4⟩ := c.ex
  exact pe_call h4 hr hg h1 h2 h3 .nil (fun _ _ _ _ _ _ _ z => by
    obtain ⟨_, _, _, _, _, _, _, _, _, _, _, _, h⟩ := z
    exact h.elim) ha hdb he hpl
end
/-! ### str of a text too -/
def rStrB : List V → Hp → VK → Prop := fun xs H Q => rStrA xs H Q ∨ ∃ a, xs = [.str a] ∧ Q (.str a) H
theorem call_strB {X : Cx} : CallR X (.type "str") rStrB := call_strA.or SkE.call_str_str
/-! ### sorted -/
section
variable {prog : Program} {w : World} {A : Around} {E : Value → Shared → Prop} {s : Shared}
theorem gather_tuple {l : Addr} {vs : List Value} {Q : List Value → Shared → Prop} (hl : s.heap.IsTuple l vs.toArray) (hz : vs.length ≤ sizeLine)
    (h : Q vs { s with heap := (s.heap.push (seqObj "list" #[] 0)).update s.heap.objs.size (Obj.mapSeq (· ++ vs.toArray)) }) : wpAny (model prog w) A (collect (.ref l)) Q E s := by
  obtain ⟨o, ho, hc, n, hd⟩ := id hl
  unfold collect; refine wpAny_bind (wpAny_runValue (codeAny_builtin entry_proto_collect' ?_))
  show wpAny _ _ (do again (.builtin "list.__iadd__" ⟨[← newList [], .ref l], []⟩)) _ _ s; refine wpAny_bind (wpAny_newList (wpAny_pure ⟨Code.quiet_builtin _ (by decide +kernel), codeAny_builtin entry_list_iadd' ?_⟩))
  show wpAny _ _ (Builtin.List.listExtendWith (.ref s.heap.objs.size) (.ref l) (.ref s.heap.objs.size)) _ _ { s with heap := s.heap.push (seqObj "list" #[] 0) }; unfold Builtin.List.listExtendWith
  have hold : (s.heap.push (seqObj "list" #[] 0)).get? l = some o := Heap.get?_push_of_some _ ho
  refine wpAny_bind (wpAny_typeOf (T := "tuple") ⟨o, hold, hc⟩ ?_)
  have htt : (Value.type "tuple" == Value.type "tuple") = true := by rfl
  rw [if_pos (by rw [htt]; simp)]; refine wpAny_bind (listItems_at hold hd ?_)
  have hnew : (s.heap.push (seqObj "list" #[] 0)).get? s.heap.objs.size = some (seqObj "list" #[] 0) := Heap.get?_push_size _ rfl
  refine wpAny_bind (listItems_at (xs := #[]) (n := 0) hnew rfl ?_); rw [if_neg (by simp)]
  refine wpAny_bind (listUpdate_at (xs := #[]) (n := 0) hnew rfl ?_ (Nat.zero_le _) (by simp only [List.size_toArray, Array.empty_append]; omega)); refine wpAny_pure ?_
  refine wpAny_bind (wpAny_load (get?_update_seq hnew _) ?_)
  show wpAny _ _ (pure ((#[] : Array Value) ++ vs.toArray).toList) Q E _; rw [show ((#[] : Array Value) ++ vs.toArray).toList = vs by simp]; exact wpAny_pure h
end
section
variable {prog : Program} {w : World} {A : Around} {E : Value → Shared → Prop} {s : Shared}
theorem sorted_tup {l : Addr} {vs : List Value} {ss : List Str} {Q : Value → Shared → Prop} (hl : s.heap.IsTuple l vs.toArray) (hS : StrsAre vs ss) (h64 : vs.length < 64)
    (h : ∀ (out : Array Value) (ss' : List Str), StrsAre out.toList ss' → ss'.Perm ss → sortedS ss' = true → Q (.ref (s.heap.objs.size + 1)) { s with heap := sortedAll s.heap vs out }) : wpAny (model prog w) A (call (.builtin "sorted") [.ref l]) Q E s := by
  refine Calls.call_function_entry kind_sorted plain_sorted entry_sorted (args_sorted1 _) ?_; unfold Builtin.«sorted»
  refine wpAny_bind (m := checkCount "sorted" 1 1 _) (wpAny_pure ?_); refine wpAny_bind (gather_tuple hl (small64 h64) ?_); refine wpAny_bind (wpAny_newList ?_ (small64 h64))
  have hsz : ((s.heap.push (seqObj "list" #[] 0)).update s.heap.objs.size (Obj.mapSeq (· ++ vs.toArray))).objs.size = s.heap.objs.size + 1 := (Heap.size_update ..).trans (size_push' ..)
  have hat : (((s.heap.push (seqObj "list" #[] 0)).update s.heap.objs.size (Obj.mapSeq (· ++ vs.toArray))).push (seqObj "list" vs.toArray 0)).get? (s.heap.objs.size + 1) = some (seqObj "list" vs.toArray 0) := by rw [← hsz]; exact Heap.get?_push_size _ rfl
  show wpAny _ _ _ _ _ { s with heap := ((s.heap.push (seqObj "list" #[] 0)).update s.heap.objs.size (Obj.mapSeq (· ++ vs.toArray))).push (seqObj "list" vs.toArray 0) }; rw [hsz]
  refine wpAny_bind (wpAny_holding (wpAny_call_entry slot_list_sort ⟨_, hat, rfl⟩ entry_list_sort (list_sort_treeK strKind_oneLt hat hS.keysOf (fun v₁ v₂ rest e => keyKind_strs (by rw [← e]; exact hS)) h64 fun st' hp hs => ⟨_, rfl, ?_⟩) (args_list_sort _)))
  obtain ⟨ss', h1, h2, h3⟩ := sorted_out_str hS hp hs; exact wpAny_pure ⟨_, rfl, h _ ss' h1 h2 h3⟩
end
def rSortedTup (K : PySem.W.Frag) : List V → Hp → VK → Prop := fun vs H Q => ∃ (a : Addr) (xs : List Str), vs = [V.ref a] ∧ SqT K H a (xs.map V.str) ∧ xs.length < 64 ∧ ∀ (ys : List Str) (p : Addr), ys.Perm xs → sortedS ys = true → H p = none → Q (.ref p) (upd H p (.lst (ys.map V.str)))
theorem call_sortedTup {X : Cx} : CallR X (.builtin "sorted") (rSortedTup X.K) := by
  intro pins s σ H vs us Q I r h
  obtain ⟨a, xs, rfl, hs, h64, q⟩ := h
  obtain ⟨its, rv, hl, _⟩ := I.tuple hs
  rw [Vals.ref1 r]
  have hlen0 := rv.length
  rw [List.length_map] at hlen0
  refine sorted_tup hl rv.strs (by omega) fun out ys h1 h2 h3 => ?_
  obtain ⟨ep, hat⟩ := sortedAll_at s.heap its out
  have hlen : (ys.map V.str).length ≤ sizeLine := by rw [List.length_map, h2.length_eq]; exact small64 h64
  exact ⟨.ref _, upd H (s.heap.objs.size + 1) (.lst (ys.map V.str)), I.laid (t' := s.toks) (fun _ _ z => sortedAll_old z) (Nat.le_succ _) ⟨hlen, out.toList, ep, vals_of_strs h1, hat⟩, rfl, q ys _ h2 h3 (I.hok.fresh (Nat.le_succ _))⟩
def rSortedA (K : PySem.W.Frag) : List V → Hp → VK → Prop := fun vs H Q => rSorted K vs H Q ∨ rSortedS K vs H Q ∨ rSortedTup K vs H Q
theorem call_sortedA {X : Cx} : CallR X (.builtin "sorted") (rSortedA X.K) := cr_sorted.or (cr_sortedS.or call_sortedTup)
/-! ### the words of the readings -/
section
variable {K : PySem.W.Frag} {H : Hp} {σ : L2.St} {Q : VK} {ta tb te tv : TE} {tr : TA} {D : Ends} {C : Addr} {m f : Str} {sp : Sp} {E : XK}
theorem w_meth (h : ta σ H fun x H1 => ∃ a dx fs, x = .ref a ∧ H1 a = some (.ins C dx fs) ∧ fs.lookup m = none ∧ tr σ H1 fun vs H2 => sp (x :: vs) H2 Q E) : tMeth C m sp [] E ta tr σ H Q := by
  show ta σ H fun x H1 => ∃ a dx fs, x = .ref a ∧ H1 a = some (.ins C dx fs) ∧ fs.lookup m = none ∧ tr σ H1 fun vs H2 => sp (x :: (vs ++ [])) H2 Q E
  simp only [List.append_nil]
  exact h
theorem w_make (h : tr σ H fun vs H1 => ∀ x dx, H1 x = none → H1 dx = none → dx ≠ x → sp (.ref x :: vs) (upd (upd H1 dx (.own x)) x (.ins C dx [])) (fun v H2 => v = .non ∧ Q (.ref x) H2) E) : tMake C sp [] E tr σ H Q := by
  show tr σ H fun vs H1 => ∀ x dx, H1 x = none → H1 dx = none → dx ≠ x → sp (.ref x :: (vs ++ [])) (upd (upd H1 dx (.own x)) x (.ins C dx [])) (fun v H2 => v = .non ∧ Q (.ref x) H2) E
  simp only [List.append_nil]
  exact h
theorem w_sfld (h : tv σ H fun y H1 => ta σ H1 fun x H2 => ∃ a C dx fs, x = .ref a ∧ H2 a = some (.ins C dx fs) ∧ Cls K C ∧ NoAttr K C f ∧ fs.length < 1000 ∧ D.nx σ (upd H2 a (.ins C dx (putF f y fs)))) : sFld K ta tv f D σ H := h
theorem w_faug {rd : V → V → Hp → VK → Prop} (h : ta σ H fun x H1 => ∃ a C dx fs v, x = .ref a ∧ H1 a = some (.ins C dx fs) ∧ Cls K C ∧ NoAttr K C f ∧ fs.lookup f = some v ∧
  tv σ H1 fun y H2 => rd v y H2 fun z H3 => ∃ dx' fs', H3 a = some (.ins C dx' fs') ∧ fs'.length < 1000 ∧ D.nx σ (upd H3 a (.ins C dx' (putF f z fs')))) : sFldAug K ta tv rd f D σ H := h
theorem w_revL (h : te σ H fun x H1 => ∃ a xs, x = .ref a ∧ SqL K H1 a xs ∧ ∀ p, H1 p = none → Q (.ref p) (upd H1 p (.lst xs.reverse))) : tRevL K te σ H Q := h
theorem w_enum {RI : It → Hp → Prop} (h : tr σ H fun vs H1 => ∃ a xs, vs = [.ref a] ∧ SqL K H1 a xs ∧ RI (Ite K a) H1) : iEnum K tr σ H RI := h
end
end My
set_option Elab.async false
set_option linter.all false
set_option maxRecDepth 100000
set_option maxHeartbeats 4000000
/-! The mathematics of words: texts as lists of signs. -/
namespace My
open PySem PySem.Spec PyProof.Rows L2

def LETs : Str := "abcdefghijklmnopqrstuvwxyz"
def FIGs : Str := "0123456789"
abbrev LET : List Nat := LETs.cps.toList
abbrev FIG : List Nat := FIGs.cps.toList
theorem mem_LET (c : Nat) : c ∈ LET ↔ 97 ≤ c ∧ c ≤ 122 := by
  have e : LET = [97, 98, 99, 100, 101, 102, 103, 104, 105, 106, 107, 108, 109, 110, 111, 112, 113, 114, 115, 116, 117, 118, 119, 120, 121, 122] := by decide +kernel
  rw [e]
  simp only [List.mem_cons, List.not_mem_nil, or_false]
  omega
theorem mem_FIG (c : Nat) : c ∈ FIG ↔ 48 ≤ c ∧ c ≤ 57 := by
  have e : FIG = [48, 49, 50, 51, 52, 53, 54, 55, 56, 57] := by decide +kernel
  rw [e]
  simp only [List.mem_cons, List.not_mem_nil, or_false]
  omega

/-- how many signs of S stand ahead -/
def runLen (S l : List Nat) : Nat := (l.takeWhile (fun c => decide (c ∈ S))).length
theorem runLen_le (S l : List Nat) : runLen S l ≤ l.length := by
  unfold runLen
  induction l with
  | nil => simp
  | cons c t ih =>
    rw [List.takeWhile_cons]
    split
    · simp only [List.length_cons]; omega
    · simp
theorem runLen_nil (S : List Nat) : runLen S [] = 0 := rfl
theorem runLen_in {S t : List Nat} {c : Nat} (h : c ∈ S) : runLen S (c :: t) = runLen S t + 1 := by
  unfold runLen
  rw [List.takeWhile_cons, if_pos (decide_eq_true h), List.length_cons]
theorem runLen_out {S t : List Nat} {c : Nat} (h : c ∉ S) : runLen S (c :: t) = 0 := by
  unfold runLen
  rw [List.takeWhile_cons, if_neg (by simpa using h)]
  rfl
theorem runLen_append {S : List Nat} {c : Nat} (h : c ∉ S) (r : List Nat) : ∀ l : List Nat, runLen S (l ++ c :: r) = runLen S l
  | [] => runLen_out h
  | x :: l => by
    by_cases hx : x ∈ S
    · rw [List.cons_append, runLen_in hx, runLen_in hx, runLen_append h r l]
    · rw [List.cons_append, runLen_out hx, runLen_out hx]
/-- the length of the word that begins here -/
def wordLen : List Nat → Option Nat
  | [] => none
  | c :: t => if c = 47 then some 1 else if c ∈ LET then (if runLen LET (c :: t) ≤ 8 then some (runLen LET (c :: t)) else none)
    else if 0 < runLen FIG (c :: t) ∧ runLen FIG (c :: t) ≤ 12 ∧ (c ≠ 48 ∨ runLen FIG (c :: t) = 1) then some (runLen FIG (c :: t)) else none
theorem wordLen_le {l : List Nat} {n : Nat} (h : wordLen l = some n) : 0 < n ∧ n ≤ l.length := by
  cases l with
  | nil => cases h
  | cons c t =>
    unfold wordLen at h
    have h1 := runLen_le LET (c :: t)
    have h2 := runLen_le FIG (c :: t)
    simp only [List.length_cons] at *
    split at h
    · cases h; omega
    · split at h
      · rename_i hc
        rw [runLen_in hc] at *
        split at h
        · cases h; omega
        · cases h
      · split at h
        · cases h; omega
        · cases h
theorem wordLen_append {c : Nat} (h1 : c ∉ LET) (h2 : c ∉ FIG) (r : List Nat) {x : Nat} {l : List Nat} : wordLen (x :: l ++ c :: r) = wordLen (x :: l) := by
  show wordLen (x :: (l ++ c :: r)) = _
  unfold wordLen
  have e1 := runLen_append h1 r (x :: l)
  have e2 := runLen_append h2 r (x :: l)
  rw [List.cons_append] at e1 e2
  dsimp only
  rw [e1, e2]

/-- the words of a row, the row's first sign at the place b; or the place of a sign that is in none -/
def rowScan (b : Nat) (cur : List (List Nat)) : List Nat → Except Nat (List (List Nat))
  | [] => .ok cur
  | c :: t => if c = 32 then rowScan (b + 1) cur t else match h : wordLen (c :: t) with
    | none => .error b
    | some n => rowScan (b + n) (cur ++ [(c :: t).take n]) ((c :: t).drop n)
termination_by l => l.length
decreasing_by
  · simp
  · have := wordLen_le h
    simp only [List.length_drop, List.length_cons]
    omega
/-- the same of a whole text, rows told apart by the line end -/
def scan (b : Nat) (rows : List (List (List Nat))) (cur : List (List Nat)) : List Nat → Except Nat (List (List (List Nat)))
  | [] => .ok (rows ++ [cur])
  | c :: t => if c = 10 then scan (b + 1) (rows ++ [cur]) [] t else if c = 32 then scan (b + 1) rows cur t else match h : wordLen (c :: t) with
    | none => .error b
    | some n => scan (b + n) rows (cur ++ [(c :: t).take n]) ((c :: t).drop n)
termination_by l => l.length
decreasing_by
  · simp
  · simp
  · have := wordLen_le h
    simp only [List.length_drop, List.length_cons]
    omega
theorem rowScan_nil (b cur) : rowScan b cur [] = .ok cur := by rw [rowScan]
theorem rowScan_blank (b cur t) : rowScan b cur (32 :: t) = rowScan (b + 1) cur t := by rw [rowScan, if_pos rfl]
theorem rowScan_bad {b cur c t} (hc : c ≠ 32) (h : wordLen (c :: t) = none) : rowScan b cur (c :: t) = .error b := by
  rw [rowScan, if_neg hc]
  split
  · rfl
  · rename_i n h2; rw [h] at h2; cases h2
theorem rowScan_word {b cur c t n} (hc : c ≠ 32) (h : wordLen (c :: t) = some n) : rowScan b cur (c :: t) = rowScan (b + n) (cur ++ [(c :: t).take n]) ((c :: t).drop n) := by
  rw [rowScan, if_neg hc]
  split
  · rename_i h2; rw [h] at h2; cases h2
  · rename_i m h2
    rw [h] at h2
    cases h2
    rfl
theorem scan_nil (b rows cur) : scan b rows cur [] = .ok (rows ++ [cur]) := by rw [scan]
theorem scan_eol (b rows cur t) : scan b rows cur (10 :: t) = scan (b + 1) (rows ++ [cur]) [] t := by rw [scan, if_pos rfl]
theorem scan_blank (b rows cur t) : scan b rows cur (32 :: t) = scan (b + 1) rows cur t := by rw [scan, if_neg (by decide), if_pos rfl]
theorem scan_bad {b rows cur c t} (hl : c ≠ 10) (hc : c ≠ 32) (h : wordLen (c :: t) = none) : scan b rows cur (c :: t) = .error b := by
  rw [scan, if_neg hl, if_neg hc]
  split
  · rfl
  · rename_i n h2; rw [h] at h2; cases h2
theorem scan_word {b rows cur c t n} (hl : c ≠ 10) (hc : c ≠ 32) (h : wordLen (c :: t) = some n) : scan b rows cur (c :: t) = scan (b + n) rows (cur ++ [(c :: t).take n]) ((c :: t).drop n) := by
  rw [scan, if_neg hl, if_neg hc]
  split
  · rename_i h2; rw [h] at h2; cases h2
  · rename_i m h2
    rw [h] at h2
    cases h2
    rfl
theorem nl_let : (10 : Nat) ∉ LET := by rw [mem_LET]; omega
theorem nl_fig : (10 : Nat) ∉ FIG := by rw [mem_FIG]; omega
/-- a row at the end of a text -/
theorem scan_last : ∀ (n : Nat) (l : List Nat), l.length ≤ n → 10 ∉ l → ∀ b rows cur, scan b rows cur l = (rowScan b cur l).map (fun ws => rows ++ [ws]) := by
  intro n
  induction n with
  | zero =>
    intro l hl _ b rows cur
    cases l with
    | nil => rw [scan_nil, rowScan_nil]; rfl
    | cons => simp at hl
  | succ n ih =>
    intro l hl h10 b rows cur
    cases l with
    | nil => rw [scan_nil, rowScan_nil]; rfl
    | cons c t =>
      have hc10 : c ≠ 10 := fun e => h10 (by rw [e]; exact List.mem_cons_self)
      have ht10 : 10 ∉ t := fun e => h10 (List.mem_cons_of_mem _ e)
      simp only [List.length_cons] at hl
      by_cases hc : c = 32
      · subst hc
        rw [scan_blank, rowScan_blank]
        exact ih t (by omega) ht10 _ _ _
      · cases hw : wordLen (c :: t) with
        | none => rw [scan_bad hc10 hc hw, rowScan_bad hc hw]; rfl
        | some m =>
          have hm := wordLen_le hw
          rw [scan_word hc10 hc hw, rowScan_word hc hw]
          exact ih _ (by simp only [List.length_drop, List.length_cons]; omega) (fun e => h10 (List.mem_of_mem_drop e)) _ _ _
/-- a row, then the rest -/
theorem scan_row : ∀ (n : Nat) (l r : List Nat), l.length ≤ n → 10 ∉ l → ∀ b rows cur, scan b rows cur (l ++ 10 :: r) = (rowScan b cur l).bind (fun ws => scan (b + l.length + 1) (rows ++ [ws]) [] r) := by
  intro n
  induction n with
  | zero =>
    intro l r hl _ b rows cur
    cases l with
    | nil =>
      rw [List.nil_append, scan_eol, rowScan_nil]
      show _ = scan (b + 0 + 1) (rows ++ [cur]) [] r
      rfl
    | cons => simp at hl
  | succ n ih =>
    intro l r hl h10 b rows cur
    cases l with
    | nil =>
      rw [List.nil_append, scan_eol, rowScan_nil]
      show _ = scan (b + 0 + 1) (rows ++ [cur]) [] r
      rfl
    | cons c t =>
      have hc10 : c ≠ 10 := fun e => h10 (by rw [e]; exact List.mem_cons_self)
      have ht10 : 10 ∉ t := fun e => h10 (List.mem_cons_of_mem _ e)
      simp only [List.length_cons] at hl
      by_cases hc : c = 32
      · subst hc
        rw [List.cons_append, scan_blank, rowScan_blank, ih t r (by omega) ht10]
        have e : b + 1 + t.length + 1 = b + (32 :: t).length + 1 := by simp only [List.length_cons]; omega
        rw [e]
      · have hwa := wordLen_append nl_let nl_fig r (x := c) (l := t)
        cases hw : wordLen (c :: t) with
        | none =>
          rw [rowScan_bad hc hw]
          rw [List.cons_append, scan_bad hc10 hc (by rw [← List.cons_append, hwa, hw])]
          rfl
        | some m =>
          have hm := wordLen_le hw
          simp only [List.length_cons] at hm
          rw [rowScan_word hc hw]
          rw [List.cons_append, scan_word hc10 hc (by rw [← List.cons_append, hwa, hw])]
          have ed : (c :: (t ++ 10 :: r)).drop m = (c :: t).drop m ++ 10 :: r := by
            rw [← List.cons_append, List.drop_append_of_le_length (by simp only [List.length_cons]; omega)]
          have et : (c :: (t ++ 10 :: r)).take m = (c :: t).take m := by
            rw [← List.cons_append, List.take_append_of_le_length (by simp only [List.length_cons]; omega)]
          rw [ed, et, ih _ r (by simp only [List.length_drop, List.length_cons]; omega) (fun e => h10 (List.mem_of_mem_drop e))]
          have e : b + m + ((c :: t).drop m).length + 1 = b + (c :: t).length + 1 := by simp only [List.length_drop, List.length_cons]; omega
          rw [e]

theorem takeWhile_no (l : List Nat) : (10 : Nat) ∉ l.takeWhile (fun c => c != 10) := by
  induction l with
  | nil => simp
  | cons c t ih =>
    rw [List.takeWhile_cons]
    split
    · rename_i h
      have hc : c ≠ 10 := by simpa using h
      intro e
      rcases List.mem_cons.mp e with e | e
      · exact hc e.symm
      · exact ih e
    · simp
/-- rows told by their signs, the first of them at the place b -/
def rowsScan (b : Nat) (rows : List (List (List Nat))) : List (List Nat) → Except Nat (List (List (List Nat)))
  | [] => .ok rows
  | l :: r => (rowScan b [] l).bind fun ws => rowsScan (b + l.length + 1) (rows ++ [ws]) r
/-- a text cut at its line ends -/
def lines : List Nat → List (List Nat) := TL.spl [10] 0 []
theorem spl_step (acc : List Nat) : ∀ l : List Nat, TL.spl [10] 0 acc l = (acc ++ l.takeWhile (fun c => c != 10)) :: (match l.dropWhile (fun c => c != 10) with | [] => [] | _ :: r => lines r) := by
  intro l
  induction l generalizing acc with
  | nil => rw [TL.spl_nil]; simp
  | cons c t ih =>
    by_cases hc : c = 10
    · subst hc
      rw [TL.spl_hit (by rfl)]
      simp [lines]
    · have e : TL.pre [10] (c :: t) = false := by
        show ([c] == [10]) = false
        simpa using hc
      rw [TL.spl_miss e, ih]
      have e2 : (c != 10) = true := by simpa using hc
      rw [List.takeWhile_cons, List.dropWhile_cons, if_pos e2, if_pos e2]
      simp
theorem lines_eq (l : List Nat) : lines l = l.takeWhile (fun c => c != 10) :: (match l.dropWhile (fun c => c != 10) with | [] => [] | _ :: r => lines r) := by
  have h := spl_step [] l
  rw [List.nil_append] at h
  exact h
theorem scan_lines : ∀ (n : Nat) (l : List Nat), l.length ≤ n → ∀ b rows, scan b rows [] l = rowsScan b rows (lines l) := by
  intro n
  induction n with
  | zero =>
    intro l hl b rows
    cases l with
    | nil =>
      rw [scan_nil]
      show _ = rowsScan b rows (TL.spl [10] 0 [] [])
      rw [TL.spl_nil]
      show _ = (rowScan b [] []).bind _
      rw [rowScan_nil]
      rfl
    | cons => simp at hl
  | succ n ih =>
    intro l hl b rows
    rw [lines_eq]
    have h0 : l = l.takeWhile (fun c => c != 10) ++ l.dropWhile (fun c => c != 10) := (List.takeWhile_append_dropWhile).symm
    have hn := takeWhile_no l
    generalize ht : l.takeWhile (fun c => c != 10) = t at *
    cases hd : l.dropWhile (fun c => c != 10) with
    | nil =>
      rw [hd, List.append_nil] at h0
      rw [h0, scan_last _ _ (Nat.le_refl _) hn]
      show _ = (rowScan b [] t).bind _
      cases rowScan b [] t <;> rfl
    | cons c r =>
      have hc : c = 10 := by
        have := List.head?_dropWhile_not (fun c => c != 10) l
        rw [hd] at this
        simpa using this
      subst hc
      rw [hd] at h0
      have hlen : r.length ≤ n := by
        have := congrArg List.length h0
        simp only [List.length_append, List.length_cons] at this
        omega
      rw [h0, scan_row _ _ _ (Nat.le_refl _) hn]
      show _ = (rowScan b [] t).bind _
      congr 1
      funext ws
      exact ih r hlen _ _
theorem runLen_pos {S t : List Nat} {c : Nat} : 0 < runLen S (c :: t) ↔ c ∈ S := by
  by_cases h : c ∈ S
  · rw [runLen_in h]; simp [h]
  · rw [runLen_out h]; simp [h]
/-- the law's word at a place: letters, then figures that begin there -/
def dueWord (l : List Nat) : List Nat := l.take (runLen LET l) ++ l.take (runLen FIG l)
theorem due_cases (c : Nat) (t : List Nat) : (dueWord (c :: t) = [] ∧ c ∉ LET ∧ c ∉ FIG ∧ wordLen (c :: t) = if c = 47 then some 1 else none) ∨
    (∃ n, 0 < n ∧ n ≤ t.length + 1 ∧ dueWord (c :: t) = (c :: t).take n ∧ c ∈ LET ∧ wordLen (c :: t) = if n ≤ 8 then some n else none) ∨
    (∃ n, 0 < n ∧ n ≤ t.length + 1 ∧ dueWord (c :: t) = (c :: t).take n ∧ c ∈ FIG ∧ c ∉ LET ∧ wordLen (c :: t) = if n ≤ 12 ∧ (c ≠ 48 ∨ n = 1) then some n else none) := by
  have l1 := runLen_le LET (c :: t)
  have l2 := runLen_le FIG (c :: t)
  simp only [List.length_cons] at l1 l2
  unfold dueWord
  by_cases h1 : c ∈ LET
  · have h2 : c ∉ FIG := fun e => by rw [mem_LET] at h1; rw [mem_FIG] at e; omega
    have h47 : c ≠ 47 := fun e => by rw [mem_LET] at h1; omega
    refine .inr (.inl ⟨runLen LET (c :: t), runLen_pos.mpr h1, l1, ?_, h1, ?_⟩)
    · rw [runLen_out h2]; simp
    · unfold wordLen
      dsimp only
      rw [if_neg h47, if_pos h1]
  · by_cases h2 : c ∈ FIG
    · have h47 : c ≠ 47 := fun e => by rw [mem_FIG] at h2; omega
      refine .inr (.inr ⟨runLen FIG (c :: t), runLen_pos.mpr h2, l2, ?_, h2, h1, ?_⟩)
      · rw [runLen_out h1]; simp
      · unfold wordLen
        dsimp only
        rw [if_neg h47, if_neg h1]
        have hp := runLen_pos (t := t).mpr h2
        by_cases h3 : runLen FIG (c :: t) ≤ 12 ∧ (c ≠ 48 ∨ runLen FIG (c :: t) = 1)
        · rw [if_pos h3, if_pos ⟨hp, h3⟩]
        · rw [if_neg h3, if_neg (fun z => h3 z.2)]
    · refine .inl ⟨?_, h1, h2, ?_⟩
      · rw [runLen_out h1, runLen_out h2]; simp
      · unfold wordLen
        dsimp only
        by_cases h47 : c = 47
        · rw [if_pos h47, if_pos h47]
        · rw [if_neg h47, if_neg h1, if_neg h47, runLen_out h2, if_neg (by omega)]
end My
set_option Elab.async false
set_option linter.all false
set_option maxRecDepth 100000
set_option maxHeartbeats 4000000
/-! What the laws' own helpers share: the state of the draws. -/
namespace My
open PySem PySem.Spec PyProof.Rows L2
/-- all but st stays -/
def SB (st : Addr) (H H' : Hp) : Prop := ∀ b o, b ≠ st → H b = some o → H' b = some o
theorem SB.refl (st : Addr) (H : Hp) : SB st H H := fun _ _ _ h => h
theorem SB.trans {st : Addr} {H H1 H2 : Hp} (a : SB st H H1) (b : SB st H1 H2) : SB st H H2 := fun c o n h => b c o n (a c o n h)
theorem Same.sb {st : Addr} {H H' : Hp} (s : Same H H') : SB st H H' := fun b o _ h => s b o h
theorem SB.mut {st p : Addr} {H H' : Hp} {o : HO} (s : SB st H H') (h : H p = none) : SB st H (upd H' p o) := fun b u n e => by rw [upd_ne (ne_of_none e h)]; exact s b u n e
theorem SB.free {st : Addr} {H H' : Hp} (s : SB st H H') {l : Addr} (n : l ≠ st) (h : H' l = none) : H l = none := by
  cases q : H l with
  | none => rfl
  | some o =>
    rw [s l o n q] at h
    cases h
theorem SB.sqL {K : PySem.W.Frag} {st : Addr} {H H' : Hp} {a : Addr} {xs : List V} (s : SB st H H') (n : a ≠ st ∨ ∀ H', SqL K H' a xs) (h : SqL K H a xs) : SqL K H' a xs := by
  rcases n with n | n
  rotate_left
  · exact n H'
  rcases h with (h | ⟨o, h⟩) | h
  · exact .inl (.inl (s _ _ n h))
  · exact .inl (.inr ⟨o, s _ _ n h⟩)
  · exact .inr h
def stK (a : Addr) (k : Int) : List (Key × V) := [(Sum.inr "cells", .ref a), (Sum.inr "at", .int k)]
/-- at st the state of the draws: the cells ns (at a), k drawn so far, k at most m -/
structure LS (K : PySem.W.Frag) (H : Hp) (st : Addr) (ns : List Int) (m : Int) : Prop where
  ex : ∃ (a : Addr) (k : Int), H st = some (.dK (stK a k)) ∧ SqL K H a (ns.map V.int) ∧ (a ≠ st ∨ ∀ H', SqL K H' a (ns.map V.int)) ∧ 0 ≤ k ∧ k ≤ m
theorem LS.le {K : PySem.W.Frag} {H : Hp} {st : Addr} {ns : List Int} {m m' : Int} (h : LS K H st ns m) (e : m ≤ m') : LS K H st ns m' := by
  obtain ⟨a, k, h1, h2, h3, h4, h5⟩ := h.ex
  exact ⟨a, k, h1, h2, h3, h4, by omega⟩
theorem LS.same {K : PySem.W.Frag} {H H' : Hp} {st : Addr} {ns : List Int} {m : Int} (h : LS K H st ns m) (s : Same H H') : LS K H' st ns m := by
  obtain ⟨a, k, h1, h2, h3, h4, h5⟩ := h.ex
  exact ⟨a, k, s _ _ h1, s.seq h2, h3, h4, h5⟩
theorem LS.mut {K : PySem.W.Frag} {H : Hp} {st p : Addr} {o : HO} {ns : List Int} {m : Int} (h : LS K H st ns m) (n : p ≠ st) (hp : ∀ xs, ¬ SqL K H p xs) : LS K (upd H p o) st ns m := by
  obtain ⟨a, k, h1, h2, h3, h4, h5⟩ := h.ex
  have na : a ≠ p := fun e => hp _ (by rw [← e]; exact h2)
  refine ⟨a, k, by rw [upd_ne n.symm]; exact h1, ?_, h3, h4, h5⟩
  rcases h2 with (h2 | ⟨o, h2⟩) | h2
  · exact .inl (.inl (by rw [upd_ne na]; exact h2))
  · exact .inl (.inr ⟨o, by rw [upd_ne na]; exact h2⟩)
  · exact .inr h2
theorem LS.at {K : PySem.W.Frag} {H : Hp} {st : Addr} {ns : List Int} {m : Int} (h : LS K H st ns m) : ∃ kvs, H st = some (.dK kvs) := by
  obtain ⟨a, k, h1, _⟩ := h.ex
  exact ⟨_, h1⟩
theorem LS.ne_lst {K : PySem.W.Frag} {H : Hp} {st p : Addr} {xs : List V} {ns : List Int} {m : Int} (h : LS K H st ns m) (hp : H p = some (.lst xs)) : p ≠ st := fun e => by
  obtain ⟨kvs, h1⟩ := h.at
  rw [e, h1] at hp; cases hp
theorem LS.ne_none {K : PySem.W.Frag} {H : Hp} {st p : Addr} {ns : List Int} {m : Int} (h : LS K H st ns m) (hp : H p = none) : p ≠ st := fun e => by
  obtain ⟨kvs, h1⟩ := h.at
  rw [e, h1] at hp; cases hp
/-- behind a call that draws: all but the state stays, the state goes on by at most c -/
structure Adv (K : PySem.W.Frag) (st : Addr) (ns : List Int) (m : Int) (H H' : Hp) : Prop where
  sb : SB st H H'
  ls : LS K H' st ns m
  ce : ∀ a k, H st = some (.dK (stK a k)) → ∃ k', H' st = some (.dK (stK a k'))
theorem Adv.trans {K : PySem.W.Frag} {st : Addr} {ns : List Int} {m m' : Int} {H H1 H2 : Hp} (a : Adv K st ns m H H1) (b : Adv K st ns m' H1 H2) : Adv K st ns m' H H2 := ⟨a.sb.trans b.sb, b.ls, fun c k e => (a.ce c k e).elim fun k' e' => b.ce c k' e'⟩
theorem Adv.same {K : PySem.W.Frag} {st : Addr} {ns : List Int} {m : Int} {H H1 H2 : Hp} (a : Adv K st ns m H H1) (b : Same H1 H2) : Adv K st ns m H H2 := ⟨a.sb.trans (Same.sb b), a.ls.same b, fun c k e => (a.ce c k e).elim fun k' e' => ⟨k', b _ _ e'⟩⟩
theorem LS.adv {K : PySem.W.Frag} {H H' : Hp} {st : Addr} {ns : List Int} {m : Int} (h : LS K H st ns m) (s : Same H H') : Adv K st ns m H H' := ⟨Same.sb s, h.same s, fun _ k e => ⟨k, s _ _ e⟩⟩
theorem Adv.le {K : PySem.W.Frag} {st : Addr} {ns : List Int} {m m' : Int} {H H1 : Hp} (a : Adv K st ns m H H1) (h : m ≤ m') : Adv K st ns m' H H1 := ⟨a.sb, a.ls.le h, a.ce⟩

theorem stK_inj {a b : Addr} {k j : Int} (h : stK a k = stK b j) : a = b := by
  unfold stK at h
  injection h with h1 _
  injection h1 with _ h2
  injection h2
/-- an object that H did not track changes -/
theorem Adv.mut {K : PySem.W.Frag} {st D : Addr} {o : HO} {ns : List Int} {m m0 : Int} {H H1 : Hp} (a : Adv K st ns m H H1) (h : LS K H st ns m0) (hD : H D = none) : Adv K st ns m H (upd H1 D o) := by
  have nD : D ≠ st := h.ne_none hD
  obtain ⟨a0, k0, e1, e2, e3, _, _⟩ := h.ex
  refine ⟨a.sb.mut hD, ?_, fun c k e => (a.ce c k e).elim fun k' e' => ⟨k', by rw [upd_ne nD.symm]; exact e'⟩⟩
  obtain ⟨k1, f1⟩ := a.ce a0 k0 e1
  obtain ⟨a', k', g1, g2, g3, g4, g5⟩ := a.ls.ex
  have ea : a0 = a' := by
    rw [f1] at g1
    injection g1 with g1
    injection g1 with g1
    exact stK_inj g1
  subst ea
  refine ⟨a0, k', by rw [upd_ne nD.symm]; exact g1, ?_, g3, g4, g5⟩
  rcases e2 with (h2 | ⟨o, h2⟩) | h2
  · rcases g2 with (g2 | ⟨o, g2⟩) | g2
    · exact .inl (.inl (by rw [upd_ne (ne_of_none h2 hD)]; exact g2))
    · exact .inl (.inr ⟨o, by rw [upd_ne (ne_of_none h2 hD)]; exact g2⟩)
    · exact .inr g2
  · rcases g2 with (g2 | ⟨o, g2⟩) | g2
    · exact .inl (.inl (by rw [upd_ne (ne_of_none h2 hD)]; exact g2))
    · exact .inl (.inr ⟨o, by rw [upd_ne (ne_of_none h2 hD)]; exact g2⟩)
    · exact .inr g2
  · exact .inr h2

/-! ### steps that hand on a letter -/
section
variable {K : PySem.W.Frag} {H H' : Hp} {Q : VK} {i j : Int}
theorem st_modG (h : 0 < j) (q : ∀ r, 0 ≤ r → r < j → Q (.int r) H) : rModA (.int i) (.int j) H Q := st_mod h (q _ (Int.emod_nonneg _ (by omega)) (Int.emod_lt_of_pos _ h))
theorem st_divG {b : Nat} (h0 : 0 ≤ i) (h : 0 < j) (hb : j.natAbs < 2 ^ b) (hb0 : 0 < b) (h9 : b ≤ 9000) (q : ∀ r, 0 ≤ r → r ≤ i → Q (.int r) H) : rDivA (.int i) (.int j) H Q :=
  st_div h hb hb0 h9 (q _ (Int.ediv_nonneg h0 (by omega)) (Int.ediv_le_self _ h0))
theorem st_mulG {a b : Nat} (ha : i.natAbs < 2 ^ a) (hb : j.natAbs < 2 ^ b) (h0 : 0 < a) (h1 : 0 < b) (h : a + b ≤ 1000000) (q : ∀ r : Int, (0 ≤ i → 0 ≤ j → 0 ≤ r) → r.natAbs < 2 ^ (a + b) → Q (.int r) H) : rMulA (.int i) (.int j) H Q :=
  st_mul ha hb h0 h1 h (q _ (fun x y => Int.mul_nonneg x y) (wide_lt ha hb))
end

theorem atI_in {α : Type} {xs : List α} {i : Int} (h0 : 0 ≤ i) (h1 : i < xs.length) : ∃ v, atI xs i = some v ∧ v ∈ xs := by
  obtain ⟨n, rfl⟩ := Int.eq_ofNat_of_zero_le h0
  have hn : n < xs.length := by omega
  exact ⟨xs[n], atI_nat (List.getElem?_eq_getElem hn), List.getElem_mem hn⟩
section
variable {K : PySem.W.Frag} {H H' : Hp} {Q : VK} {i j : Int}
theorem st_ixG {p : Addr} {xs : List V} (h : SqL K H p xs) (h0 : 0 ≤ i) (h1 : i < xs.length) (q : ∀ v, v ∈ xs → Q v H) : rIxA K (.ref p) (.int i) H Q := by
  obtain ⟨v, e, hv⟩ := atI_in h0 h1
  exact st_ix_list h e (q v hv)
theorem st_ixI {p : Addr} {ns : List Int} (h : SqL K H p (ns.map V.int)) (h0 : 0 ≤ i) (h1 : i < ns.length) (q : ∀ c, Q (.int c) H) : rIxA K (.ref p) (.int i) H Q :=
  st_ixG h h0 (by rw [List.length_map]; exact h1) fun v hv => by
    obtain ⟨c, _, rfl⟩ := List.mem_map.mp hv
    exact q c
end
theorem nb {i : Int} {b : Nat} (h : -(2 ^ b : Int) < i) (h2 : i < 2 ^ b) : i.natAbs < 2 ^ b := by
  have e : ((2 ^ b : Nat) : Int) = (2 : Int) ^ b := by push_cast; rfl
  omega

/-! ### data -/
section
variable {K : PySem.W.Frag} {H H' : Hp}
theorem Dp.ints {p : Addr} {ns : List Int} (h : SqL K H p (ns.map V.int)) : Dp K H (.ref p) (.list (ns.map PyData.int)) := by
  refine .lst h ?_
  clear h
  induction ns with
  | nil => exact .nil
  | cons n r ih => exact .cons (.int n) ih
theorem DpAll.strs (ws : List (List Nat)) : DpAll K H (ws.map txt) (ws.map fun l => PyData.str (S l)) := by
  induction ws with
  | nil => exact .nil
  | cons n r ih => exact .cons (.str _) ih
theorem lay_ints (ns : List Int) : PyData.canLayAll0 (ns.map PyData.int) = true := by
  induction ns with
  | nil => rfl
  | cons n r ih =>
    show (PyData.canLay0 (.int n) && PyData.canLayAll0 (r.map PyData.int)) = true
    rw [ih]; rfl
theorem depth_ints (ns : List Int) : PyData.depthAll (ns.map PyData.int) = 0 := by
  induction ns with
  | nil => rfl
  | cons n r ih =>
    show max (PyData.depth (.int n)) (PyData.depthAll (r.map PyData.int)) = 0
    rw [ih]; rfl
theorem shaped_ints (ns : List Int) : SeqAt.shaped (.list (ns.map PyData.int)) = true := by
  unfold SeqAt.shaped
  have h1 : (PyData.list (ns.map PyData.int)).canLay0 = true := lay_ints ns
  have h2 : (PyData.list (ns.map PyData.int)).depth = 0 + 1 := by
    show PyData.depthAll _ + 1 = _
    rw [depth_ints]
  rw [h1, h2]; rfl
end
/-! ### _law_next -/
def pr_next (K : PySem.W.Frag) : V → V → Hp → VK → XK → Prop := fun x y H Q _ => ∃ (st : Addr) (ns : List Int) (m many : Int), x = .ref st ∧ y = .int many ∧ 0 < many ∧ ns.length ≤ 63 ∧ LS K H st ns m ∧ m ≤ 1000000000 ∧
  ∀ r H', 0 ≤ r → r < many → Adv K st ns (m + 1) H H' → Q (.int r) H'
theorem str_ne1 : ¬ (("cells" : Str) = "at") := by decide +kernel
theorem str_ne2 : ¬ (("at" : Str) = "cells") := by decide +kernel
theorem stK_cells (a : Addr) (k : Int) : valV (stK a k) (Sum.inr "cells") = some (.ref a) := by
  unfold valV stK
  rw [List.find?_cons, decide_eq_true rfl]
  rfl
theorem stK_at (a : Addr) (k : Int) : valV (stK a k) (Sum.inr "at") = some (.int k) := by
  unfold valV stK
  rw [List.find?_cons, decide_eq_false (fun e => str_ne1 (Sum.inr.inj e)), List.find?_cons, decide_eq_true rfl]
  rfl
theorem stK_put (a : Addr) (k j : Int) : putK (stK a k) (Sum.inr "at") (.int j) = stK a j := by
  unfold putK
  simp [stK, str_ne1]
section
variable {K : PySem.W.Frag} {H : Hp} {Q : VK} {E : XK} {st : Addr} {ns : List Int} {m many : Int}
theorem use_next (hls : LS K H st ns m) (hn : ns.length ≤ 63) (hm : 0 < many) (hb : m ≤ 1000000000) (q : ∀ r H', 0 ≤ r → r < many → Adv K st ns (m + 1) H H' → Q (.int r) H') : Sp2 (pr_next K) [.ref st, .int many] H Q E :=
  ⟨_, _, rfl, st, ns, m, many, rfl, rfl, hm, hn, hls, hb, q⟩
end
end My
set_option Elab.async false
set_option linter.all false
set_option maxRecDepth 100000
set_option maxHeartbeats 4000000
namespace My
open PySem PySem.Spec PyProof.Rows L2
theorem run_take (S : List Nat) : ∀ (l : List Nat) (x : Nat), x ∈ l.take (runLen S l) → x ∈ S
  | [], x, h => by simp at h
  | c :: t, x, h => by
    by_cases hc : c ∈ S
    · rw [runLen_in hc, List.take_succ_cons] at h
      rcases List.mem_cons.mp h with e | h
      · rw [e]; exact hc
      · exact run_take S t x h
    · rw [runLen_out hc] at h
      simp at h
theorem word_ok {l : List Nat} {n : Nat} (h : wordLen l = some n) : ∀ x ∈ l.take n, x < 1114112 := by
  intro x hx
  cases l with
  | nil => simp at hx
  | cons c t =>
    unfold wordLen at h
    dsimp only at h
    split at h
    · cases h
      rename_i hc
      simp at hx
      omega
    · split at h
      · split at h
        · cases h
          have := (mem_LET x).mp (run_take _ _ _ hx)
          omega
        · cases h
      · split at h
        · cases h
          have := (mem_FIG x).mp (run_take _ _ _ hx)
          omega
        · cases h
def RowOk (N : Nat) (ws : List (List Nat)) : Prop := ws.length ≤ N ∧ ∀ w ∈ ws, ∀ x ∈ w, x < 1114112
theorem scan_ok (N : Nat) : ∀ (n : Nat) (l : List Nat), l.length ≤ n → ∀ b rows cur out, scan b rows cur l = .ok out → rows.length + l.length < N → cur.length + l.length ≤ N → l.length ≤ N → (∀ r ∈ rows, RowOk N r) → (∀ w ∈ cur, ∀ x ∈ w, x < 1114112) → out.length ≤ N ∧ ∀ r ∈ out, RowOk N r := by
  intro n
  induction n with
  | zero =>
    intro l hl b rows cur out h h1 h2 h3 h4 h5
    cases l with
    | cons => simp at hl
    | nil =>
      rw [scan_nil] at h
      cases h
      simp only [List.length_nil] at h1 h2
      refine ⟨by rw [List.length_append]; show rows.length + 1 ≤ N; omega, fun r hr => ?_⟩
      rcases List.mem_append.mp hr with hr | hr
      · exact h4 r hr
      · rw [List.mem_singleton.mp hr]; exact ⟨by omega, h5⟩
  | succ n ih =>
    intro l hl b rows cur out h h1 h2 h3 h4 h5
    have h4' : ∀ r ∈ rows ++ [cur], RowOk N r := fun r hr => by
      rcases List.mem_append.mp hr with hr | hr
      · exact h4 r hr
      · rw [List.mem_singleton.mp hr]; exact ⟨by omega, h5⟩
    cases l with
    | nil =>
      rw [scan_nil] at h
      cases h
      simp only [List.length_nil] at h1
      exact ⟨by rw [List.length_append]; show rows.length + 1 ≤ N; omega, h4'⟩
    | cons c t =>
      simp only [List.length_cons] at hl h1 h2 h3
      by_cases h10 : c = 10
      · subst h10
        rw [scan_eol] at h
        exact ih t (by omega) _ _ _ _ h (by rw [List.length_append]; show rows.length + 1 + t.length < N; omega) (by simp; omega) (by omega) h4' (fun w hw => by cases hw)
      · by_cases h32 : c = 32
        · subst h32
          rw [scan_blank] at h
          exact ih t (by omega) _ _ _ _ h (by omega) (by omega) (by omega) h4 h5
        · cases hw : wordLen (c :: t) with
          | none => rw [scan_bad h10 h32 hw] at h; cases h
          | some m =>
            rw [scan_word h10 h32 hw] at h
            have hm := wordLen_le hw
            simp only [List.length_cons] at hm
            have hd : ((c :: t).drop m).length = t.length + 1 - m := by rw [List.length_drop]; rfl
            refine ih _ (by omega) _ _ _ _ h (by omega) (by rw [List.length_append]; show cur.length + 1 + _ ≤ N; omega) (by omega) h4 (fun w hw' => ?_)
            rcases List.mem_append.mp hw' with hw' | hw'
            · exact h5 w hw'
            · rw [List.mem_singleton.mp hw']; exact word_ok hw
def rowD (ws : List (List Nat)) : PyData := .list (ws.map fun l => .str (S l))
theorem lay_strs {N : Nat} : ∀ {ws : List (List Nat)}, (∀ w ∈ ws, ∀ x ∈ w, x < 1114112) → PyData.canLayAll0 (ws.map fun l => PyData.str (S l)) = true
  | [], _ => rfl
  | l :: r, h => by
    show (PyData.strOk (S l) && PyData.canLayAll0 (r.map fun l => PyData.str (S l))) = true
    rw [lay_strs (N := N) fun w hw => h w (List.mem_cons_of_mem _ hw), strOk_iff.mpr (by simpa using h l List.mem_cons_self)]
    rfl
theorem depth_strs : ∀ (ws : List (List Nat)), PyData.depthAll (ws.map fun l => PyData.str (S l)) = 0
  | [] => rfl
  | l :: r => by
    show max (PyData.depth (.str (S l))) (PyData.depthAll (r.map fun l => PyData.str (S l))) = 0
    rw [depth_strs r]; rfl
theorem lay_rows {N : Nat} : ∀ {rows : List (List (List Nat))}, (∀ r ∈ rows, RowOk N r) → PyData.canLayAll0 (rows.map rowD) = true
  | [], _ => rfl
  | ws :: r, h => by
    show (PyData.canLayAll0 (ws.map fun l => PyData.str (S l)) && PyData.canLayAll0 (r.map rowD)) = true
    rw [lay_rows (N := N) fun w hw => h w (List.mem_cons_of_mem _ hw), lay_strs (N := N) (h ws List.mem_cons_self).2]
    rfl
theorem depth_rows : ∀ (rows : List (List (List Nat))), PyData.depthAll (rows.map rowD) ≤ 1
  | [] => Nat.zero_le _
  | ws :: r => by
    show max (PyData.depthAll (ws.map fun l => PyData.str (S l)) + 1) (PyData.depthAll (r.map rowD)) ≤ 1
    have := depth_rows r
    rw [depth_strs]; omega
theorem shaped_rows {N : Nat} {rows : List (List (List Nat))} (h : ∀ r ∈ rows, RowOk N r) : SeqAt.shaped (.list (rows.map rowD)) = true := by
  unfold SeqAt.shaped
  have h1 : (PyData.list (rows.map rowD)).canLay0 = true := lay_rows h
  have h2 : (PyData.list (rows.map rowD)).depth ≤ 64 := by
    show PyData.depthAll _ + 1 ≤ 64
    have := depth_rows rows
    omega
  rw [h1, decide_eq_true h2]; rfl
theorem dp_rows {K : PySem.W.Frag} {H : Hp} {p : Addr} {ps : List Addr} {rows : List (List (List Nat))} (hp : H p = some (.lst (ps.map V.ref))) (h : Paired (fun q ws => H q = some (.lst ((ws : List (List Nat)).map txt))) ps rows) : Dp K H (.ref p) (.list (rows.map rowD)) := by
  refine .lst (SqL.of hp) ?_
  clear hp
  induction h with
  | nil => exact .nil
  | cons e _ ih => exact .cons (.lst (SqL.of e) (DpAll.strs _)) ih
/-- texts that stand in a list -/
theorem dp_strs {K : PySem.W.Frag} {H : Hp} : ∀ (zs : List Str), DpAll K H (zs.map V.str) (zs.map PyData.str)
  | [] => .nil
  | z :: r => .cons (.str z) (dp_strs r)
theorem shaped_strs {zs : List Str} (h : ∀ z ∈ zs, PyData.strOk z = true) : SeqAt.shaped (.list (zs.map PyData.str)) = true := by
  have h1 : PyData.canLayAll0 (zs.map PyData.str) = true := by
    induction zs with
    | nil => rfl
    | cons z r ih =>
      show (PyData.strOk z && PyData.canLayAll0 (r.map PyData.str)) = true
      rw [ih fun y hy => h y (List.mem_cons_of_mem _ hy), h z List.mem_cons_self]; rfl
  have h2 : PyData.depthAll (zs.map PyData.str) = 0 := by
    clear h h1
    induction zs with
    | nil => rfl
    | cons z r ih =>
      show max (PyData.depth (.str z)) (PyData.depthAll (r.map PyData.str)) = 0
      rw [ih]; rfl
  unfold SeqAt.shaped
  have h3 : (PyData.list (zs.map PyData.str)).canLay0 = true := h1
  have h4 : (PyData.list (zs.map PyData.str)).depth ≤ 64 := by
    show PyData.depthAll _ + 1 ≤ 64
    omega
  rw [h3, decide_eq_true h4]; rfl
theorem eqv_nil (zs : List PyData) : PyData.eqv (.list zs) (.list []) = zs.isEmpty := by
  cases zs <;> rfl
end My
set_option Elab.async false
set_option linter.all false
set_option maxRecDepth 100000
set_option maxHeartbeats 4000000
/-! Data in the heap: what stays, what is read off. -/
namespace My
open PySem PySem.Spec PyProof.Rows L2
section
variable {K : PySem.W.Frag} {H H' : Hp}
mutual
theorem _root_.L2.Dp.mono (hL : ∀ a xs, SqL K H a xs → SqL K H' a xs) (hT : ∀ a xs, SqT K H a xs → SqT K H' a xs) : ∀ {v : V} {d : PyData}, Dp K H v d → Dp K H' v d
  | _, _, .non => .non
  | _, _, .bl b => .bl b
  | _, _, .int i => .int i
  | _, _, .str x => .str x
  | _, _, .lst h hs => .lst (hL _ _ h) (L2.DpAll.mono hL hT hs)
  | _, _, .tup h hs => .tup (hT _ _ h) (L2.DpAll.mono hL hT hs)
theorem _root_.L2.DpAll.mono (hL : ∀ a xs, SqL K H a xs → SqL K H' a xs) (hT : ∀ a xs, SqT K H a xs → SqT K H' a xs) : ∀ {vs : List V} {ds : List PyData}, DpAll K H vs ds → DpAll K H' vs ds
  | _, _, .nil => .nil
  | _, _, .cons h hs => .cons (L2.Dp.mono hL hT h) (L2.DpAll.mono hL hT hs)
end
theorem _root_.L2.Dp.same {v : V} {d : PyData} (s : Same H H') (h : Dp K H v d) : Dp K H' v d := h.mono (fun _ _ z => s.seq z) (fun _ _ z => same_sqT s z)
theorem _root_.L2.DpAll.same {vs : List V} {ds : List PyData} (s : Same H H') (h : DpAll K H vs ds) : DpAll K H' vs ds := h.mono (fun _ _ z => s.seq z) (fun _ _ z => same_sqT s z)
/-- no list, no tuple -/
def NotSeq (o : Option HO) : Prop := (∀ xs, o ≠ some (.lst xs)) ∧ (∀ xs, o ≠ some (.tup xs)) ∧ ∀ b u, o ≠ some (.frz b u)
theorem SB.seqL {r a : Addr} {xs : List V} (s : SB r H H') (n : NotSeq (H r)) (h : SqL K H a xs) : SqL K H' a xs := by
  rcases h with (h | ⟨o, h⟩) | h
  · exact .inl (.inl (s _ _ (fun e => n.1 xs (by rw [← e]; exact h)) h))
  · exact .inl (.inr ⟨o, s _ _ (fun e => n.2.2 o _ (by rw [← e]; exact h)) h⟩)
  · exact .inr h
theorem SB.seqT {r a : Addr} {xs : List V} (s : SB r H H') (n : NotSeq (H r)) (h : SqT K H a xs) : SqT K H' a xs := by
  rcases h with (h | ⟨o, h⟩) | h
  · exact .inl (.inl (s _ _ (fun e => n.2.1 xs (by rw [← e]; exact h)) h))
  · exact .inl (.inr ⟨o, s _ _ (fun e => n.2.2 o _ (by rw [← e]; exact h)) h⟩)
  · exact .inr h
theorem SB.dp {r : Addr} {v : V} {d : PyData} (s : SB r H H') (n : NotSeq (H r)) (h : Dp K H v d) : Dp K H' v d := h.mono (fun _ _ z => s.seqL n z) (fun _ _ z => s.seqT n z)
theorem SB.dps {r : Addr} {vs : List V} {ds : List PyData} (s : SB r H H') (n : NotSeq (H r)) (h : DpAll K H vs ds) : DpAll K H' vs ds := h.mono (fun _ _ z => s.seqL n z) (fun _ _ z => s.seqT n z)
theorem notSeq_ins {C dx : Addr} {fs : List (Str × V)} {o : Option HO} (h : o = some (.ins C dx fs)) : NotSeq o := by
  subst h
  exact ⟨fun _ z => (by cases z), fun _ z => (by cases z), fun _ _ z => (by cases z)⟩
theorem notSeq_dK {kvs : List (Key × V)} {o : Option HO} (h : o = some (.dK kvs)) : NotSeq o := by
  subst h
  exact ⟨fun _ z => (by cases z), fun _ z => (by cases z), fun _ _ z => (by cases z)⟩
theorem LS.notSeq {st : Addr} {ns : List Int} {m : Int} (h : LS K H st ns m) : NotSeq (H st) := by
  obtain ⟨kvs, h1⟩ := h.at
  exact notSeq_dK h1
theorem Adv.dp {st : Addr} {ns : List Int} {m m' : Int} {v : V} {d : PyData} (a : Adv K st ns m H H') (l : LS K H st ns m') (h : Dp K H v d) : Dp K H' v d := a.sb.dp l.notSeq h
/-- read off -/
theorem _root_.L2.Dp.str_inv {v : V} {z : Str} (h : Dp K H v (.str z)) : v = .str z := by cases h; rfl
theorem _root_.L2.Dp.int_inv {v : V} {i : Int} (h : Dp K H v (.int i)) : v = .int i := by cases h; rfl
theorem _root_.L2.Dp.non_inv {v : V} (h : Dp K H v .none) : v = .non := by cases h; rfl
theorem _root_.L2.Dp.tup_inv {v : V} {ds : List PyData} (h : Dp K H v (.tuple ds)) : ∃ p xs, v = .ref p ∧ SqT K H p xs ∧ DpAll K H xs ds := by
  cases h with | tup a b => exact ⟨_, _, rfl, a, b⟩
theorem _root_.L2.Dp.lst_inv {v : V} {ds : List PyData} (h : Dp K H v (.list ds)) : ∃ p xs, v = .ref p ∧ SqL K H p xs ∧ DpAll K H xs ds := by
  cases h with | lst a b => exact ⟨_, _, rfl, a, b⟩
theorem _root_.L2.DpAll.nil_inv {vs : List V} (h : DpAll K H vs []) : vs = [] := by cases h; rfl
theorem _root_.L2.DpAll.cons_inv {vs : List V} {d : PyData} {ds : List PyData} (h : DpAll K H vs (d :: ds)) : ∃ v r, vs = v :: r ∧ Dp K H v d ∧ DpAll K H r ds := by
  cases h with | cons a b => exact ⟨_, _, rfl, a, b⟩
theorem _root_.L2.DpAll.len {vs : List V} {ds : List PyData} : DpAll K H vs ds → vs.length = ds.length := by
  intro h
  induction ds generalizing vs with
  | nil => rw [h.nil_inv]; rfl
  | cons d r ih =>
    obtain ⟨v, q, rfl, _, h2⟩ := h.cons_inv
    rw [List.length_cons, List.length_cons, ih h2]
theorem _root_.L2.DpAll.at {vs : List V} {ds : List PyData} {i : Nat} {d : PyData} (h : DpAll K H vs ds) (e : ds[i]? = some d) : ∃ v, vs[i]? = some v ∧ Dp K H v d := by
  induction ds generalizing vs i with
  | nil => simp at e
  | cons c r ih =>
    obtain ⟨v, q, rfl, h1, h2⟩ := h.cons_inv
    cases i with
    | zero => simp at e; subst e; exact ⟨v, rfl, h1⟩
    | succ i =>
      obtain ⟨u, h3, h4⟩ := ih h2 (by simpa using e)
      exact ⟨u, by simpa using h3, h4⟩
theorem _root_.L2.DpAll.strs_inv {vs : List V} : ∀ {zs : List Str}, DpAll K H vs (zs.map PyData.str) → vs = zs.map V.str
  | [], h => h.nil_inv
  | z :: r, h => by
    obtain ⟨v, q, rfl, h1, h2⟩ := h.cons_inv
    rw [h1.str_inv, L2.DpAll.strs_inv h2]; rfl
theorem _root_.L2.DpAll.app {vs us : List V} {ds es : List PyData} (h : DpAll K H vs ds) (g : DpAll K H us es) : DpAll K H (vs ++ us) (ds ++ es) := by
  induction ds generalizing vs with
  | nil => rw [h.nil_inv]; exact g
  | cons d r ih =>
    obtain ⟨v, q, rfl, h1, h2⟩ := h.cons_inv
    exact .cons h1 (ih h2)
theorem tyx_list {a : Addr} {xs : List V} (h : SqL K H a xs) : TyX K H (.ref a) (.type "list") := by
  rcases h with (h | ⟨o, h⟩) | ⟨o, its, n, h1, h2, _⟩
  · exact .base (.lst h)
  · exact .base (.frz h)
  · exact .kList h1 h2
theorem tyx_tup {a : Addr} {xs : List V} (h : SqT K H a xs) : TyX K H (.ref a) (.type "tuple") := by
  rcases h with (h | ⟨o, h⟩) | ⟨o, its, n, h1, h2, _⟩
  · exact .base (.tup h)
  · exact .fTuple h
  · exact .kTuple h1 h2
end
/-- the name of the builtin type of a piece of data -/
def tyD : PyData → String
  | .none => "NoneType"
  | .bool _ => "bool"
  | .int _ => "int"
  | .str _ => "str"
  | .list _ => "list"
  | .tuple _ => "tuple"
  | _ => ""
theorem _root_.L2.Dp.ty {K : PySem.W.Frag} {H : Hp} {v : V} {d : PyData} (h : Dp K H v d) : TyX K H v (.type (tyD d)) := by
  cases h with
  | non => exact tx_non
  | bl b => exact tx_bl
  | int i => exact tx_int
  | str x => exact tx_str
  | lst a b => exact tyx_list a
  | tup a b => exact tyx_tup a
end My
set_option Elab.async false
set_option linter.all false
set_option maxRecDepth 100000
set_option maxHeartbeats 4000000
/-! Names, numbers, facts: what a row of words tells. -/
namespace My
open PySem PySem.Spec PyProof.Rows L2
open TL (numL tl_num numL_len numL_digits numL_ne int_num numL_val numL_inj)
def toldL : List Str := ["born", "taken", "joined", "parted", "died", "owns", "gave", "owes", "unfit", "word", "sum", "part", "out", "else", "of", "line", "degree", "beside", "halves", "kept", "back"]
def isName (z : Str) : Bool := decide (1 ≤ z.length ∧ z.length ≤ 8) && (!decide (z ∈ toldL) && z.cps.toList.all fun c => decide (c ∈ LETs.cps.toList))
theorem inV_strs (z : Str) (l : List Str) : inV (.str z) (l.map V.str) = decide (z ∈ l) := by
  unfold inV
  induction l with
  | nil => rfl
  | cons y r ih =>
    rw [List.map_cons, List.any_cons, ih]
    show ((y == z) || decide (z ∈ r)) = decide (z ∈ y :: r)
    by_cases h : y = z
    · subst h; simp
    · have h2 : z ≠ y := fun e => h e.symm
      have e1 : (y == z) = false := by simpa using h
      rw [e1, Bool.false_or]
      exact decide_eq_decide.mpr ⟨fun h3 => List.mem_cons_of_mem _ h3, fun h3 => (List.mem_cons.mp h3).resolve_left h2⟩
theorem flat_strs (l : List Str) : (l.map V.str).all flatV = true := by
  rw [List.all_eq_true]
  intro v hv
  obtain ⟨z, _, rfl⟩ := List.mem_map.mp hv
  rfl
theorem tl_len (z : Str) : z.cps.toList.length = z.length := by simp [Str.length]
def numS (n : Nat) : Str := Str.ofString (toString ((n : Nat) : Int))
theorem numS_tl (n : Nat) : (numS n).cps.toList = numL n := tl_num n
theorem numS_len {n k : Nat} (hk : 0 < k) (h : n < 10 ^ k) : (numS n).length ≤ k := by
  have := numL_len hk h
  rw [← numS_tl, tl_len] at this
  exact this
theorem numS_int {n : Nat} (h : n < 10 ^ 20) : intText? (numS n) = some (n : Int) := int_num (Nat.le_trans (numL_len (by decide) h) (by decide))
theorem numS_fig {n c : Nat} (h : c ∈ numL n) : 48 ≤ c ∧ c ≤ 57 := numL_digits n c h
theorem numS_ok (n : Nat) : PyData.strOk (numS n) = true := strOk_iff.mpr fun c hc => by
  rw [numS_tl] at hc
  have := numS_fig hc
  omega
theorem isName_len {z : Str} (h : isName z = true) : 1 ≤ z.length ∧ z.length ≤ 8 := of_decide_eq_true (Bool.and_eq_true_iff.mp h).1
theorem isName_let {z : Str} (h : isName z = true) : ∀ c ∈ z.cps.toList, c ∈ LET := by
  have h2 := (Bool.and_eq_true_iff.mp (Bool.and_eq_true_iff.mp h).2).2
  intro c hc
  exact of_decide_eq_true (List.all_eq_true.mp h2 c hc)
theorem isName_told {z : Str} (h : isName z = true) : z ∉ toldL := by
  have h2 := (Bool.and_eq_true_iff.mp (Bool.and_eq_true_iff.mp h).2).1
  intro hz
  rw [decide_eq_true hz] at h2
  cases h2
theorem isName_ok {z : Str} (h : isName z = true) : PyData.strOk z = true := strOk_iff.mpr fun c hc => by
  have := (mem_LET c).mp (isName_let h c hc)
  omega
theorem num_head {n : Nat} : ∃ c t, numL n = c :: t ∧ 48 ≤ c ∧ c ≤ 57 := by
  cases e : numL n with
  | nil => exact absurd e (numL_ne n)
  | cons c t => exact ⟨c, t, rfl, numS_fig (by rw [e]; exact List.mem_cons_self)⟩
/-- a number is no name -/
theorem name_num {z : Str} {n : Nat} (h : isName z = true) : z ≠ numS n := fun e => by
  obtain ⟨c, t, e1, h1, h2⟩ := num_head (n := n)
  have h3 := isName_let h c (by rw [e, numS_tl, e1]; exact List.mem_cons_self)
  have := (mem_LET c).mp h3
  omega
/-! ### facts -/
inductive What where
  | sum (o : Str) (s : Nat) (e : Option Str)
  | part (o : Str) (t b : Nat) (e : Option Str)
  | out (o : Str)
inductive Fact where
  | life (t : Bool) (n : Str) (d : Nat) (ps : List Str)
  | two (t : Bool) (a b : Str) (d : Nat)
  | died (n : Str) (d : Nat)
  | owns (n : Str) (s : Nat)
  | gave (a b : Str) (s d : Nat)
  | owes (a b : Str) (s r : Nat)
  | unfit (a b : Str)
  | word (n : Str) (k : Nat) (w : What)
def optD : Option Str → PyData
  | none => .none
  | some e => .str e
def What.data : What → PyData
  | .sum o s e => .tuple [.str "sum", .str o, .int (s : Nat), optD e]
  | .part o t b e => .tuple [.str "part", .str o, .tuple [.int (t : Nat), .int (b : Nat)], optD e]
  | .out o => .tuple [.str "out", .str o]
def Fact.data : Fact → PyData
  | .life t n d ps => .tuple [.str (if t then "taken" else "born"), .str n, .int (d : Nat), .tuple (ps.map PyData.str)]
  | .two t a b d => .tuple [.str (if t then "parted" else "joined"), .str a, .str b, .int (d : Nat)]
  | .died n d => .tuple [.str "died", .str n, .int (d : Nat)]
  | .owns n s => .tuple [.str "owns", .str n, .int (s : Nat)]
  | .gave a b s d => .tuple [.str "gave", .str a, .str b, .int (s : Nat), .int (d : Nat)]
  | .owes a b s r => .tuple [.str "owes", .str a, .str b, .int (s : Nat), .int (r : Nat)]
  | .unfit a b => .tuple [.str "unfit", .str a, .str b]
  | .word n k w => .tuple [.str "word", .str n, .int (k : Nat), w.data]
def elseW : Option Str → List Str
  | none => []
  | some e => ["else", e]
def What.words (m : Nat) : What → List Str
  | .sum o s e => [("sum" : Str), o, numS s] ++ elseW e
  | .part o t b e => [("part" : Str), o, numS (m * t), "/", numS (m * b)] ++ elseW e
  | .out o => [("out" : Str), o]
/-- the row of words: sw, two names the other way round; m, a fraction not made lesser -/
def Fact.words (sw : Bool) (m : Nat) : Fact → List Str
  | .life t n d ps => [if t then ("taken" : Str) else "born", n, numS d] ++ (if ps = [] then [] else ("of" : Str) :: (if sw then ps.reverse else ps))
  | .two t a b d => [if t then ("parted" : Str) else "joined"] ++ (if sw then [b, a] else [a, b]) ++ [numS d]
  | .died n d => [("died" : Str), n, numS d]
  | .owns n s => [("owns" : Str), n, numS s]
  | .gave a b s d => [("gave" : Str), a, b, numS s, numS d]
  | .owes a b s r => [("owes" : Str), a, b, numS s, numS r]
  | .unfit a b => [("unfit" : Str), a, b]
  | .word n k w => [("word" : Str), n, numS k] ++ w.words m
def optOk : Option Str → Prop
  | none => True
  | some e => isName e = true
def What.Ok : What → Prop
  | .sum o s e => isName o = true ∧ s ≤ 100000000000 ∧ optOk e
  | .part o t b e => isName o = true ∧ 1 ≤ t ∧ t ≤ b ∧ b ≤ 1000 ∧ Nat.gcd t b = 1 ∧ optOk e
  | .out o => isName o = true
def Fact.Ok : Fact → Prop
  | .life t n d ps => isName n = true ∧ d ≤ 99999 ∧ (∀ p ∈ ps, isName p = true) ∧ ps.length ≤ 2 ∧ ps.Nodup ∧ sortedS ps = true ∧ (t = true → ps ≠ [])
  | .two _ a b d => isName a = true ∧ isName b = true ∧ a ≠ b ∧ sortedS [a, b] = true ∧ d ≤ 99999
  | .died n d => isName n = true ∧ d ≤ 99999
  | .owns n s => isName n = true ∧ s ≤ 100000000000
  | .gave a b s d => isName a = true ∧ isName b = true ∧ a ≠ b ∧ s ≤ 100000000000 ∧ d ≤ 99999
  | .owes a b s r => isName a = true ∧ isName b = true ∧ s ≤ 100000000000 ∧ 1 ≤ r ∧ r ≤ 9
  | .unfit a b => isName a = true ∧ isName b = true ∧ a ≠ b
  | .word n k w => isName n = true ∧ 1 ≤ k ∧ k ≤ 20 ∧ w.Ok
/-- the fraction made m times as great still stands in its bounds -/
def Fact.Fits (m : Nat) : Fact → Prop
  | .word _ _ (.part _ _ b _) => 1 ≤ m ∧ m * b ≤ 1000
  | _ => True
/-! ### sorted -/
theorem sorted_two {a b : Str} (h1 : sortedS [a, b] = true) {ys : List Str} (hp : ys.Perm [b, a]) (h2 : sortedS ys = true) : ys = [a, b] := by
  have h3 : ys = [b, a] ∨ ys = [a, b] := by
    have hl := hp.length_eq
    match ys, hl with
    | [x, y], _ =>
      have hx : x ∈ [b, a] := hp.subset List.mem_cons_self
      simp only [List.mem_cons, List.not_mem_nil, or_false] at hx
      rcases hx with rfl | rfl
      · left
        have := (List.Perm.cons_inv hp)
        rw [List.perm_singleton.mp this]
      · have h4 : [x, y].Perm [x, b] := hp.trans (List.Perm.swap ..)
        have := (List.Perm.cons_inv h4)
        right
        rw [List.perm_singleton.mp this]
  rcases h3 with rfl | rfl
  · have e : a = b := by
      have g1 : (!ltCps b.cps.toList a.cps.toList && true) = true := h1
      have g2 : (!ltCps a.cps.toList b.cps.toList && true) = true := h2
      rw [Bool.and_true, Bool.not_eq_true', ltCps_eq, decide_eq_false_iff_not] at g1 g2
      have := List.le_antisymm (List.not_lt.mp g1) (List.not_lt.mp g2)
      rw [← S_tl a, ← S_tl b, this]
    subst e; rfl
  · rfl
end My
set_option Elab.async false
set_option linter.all false
set_option maxRecDepth 100000
set_option maxHeartbeats 4000000
/-! Data without lists; how long a fact's row is. -/
namespace My
open PySem PySem.Spec PyProof.Rows L2
mutual
def noL : PyData → Bool
  | .list _ => false
  | .tuple ds => noLs ds
  | _ => true
def noLs : List PyData → Bool
  | [] => true
  | d :: r => noL d && noLs r
end
section
variable {K : PySem.W.Frag} {H H' : Hp}
mutual
theorem dp_monoT (hT : ∀ a xs, SqT K H a xs → SqT K H' a xs) : ∀ {v : V} {d : PyData}, noL d = true → Dp K H v d → Dp K H' v d
  | _, _, _, .non => .non
  | _, _, _, .bl b => .bl b
  | _, _, _, .int i => .int i
  | _, _, _, .str x => .str x
  | _, _, n, .lst h hs => by cases n
  | _, _, n, .tup h hs => .tup (hT _ _ h) (dps_monoT hT n hs)
theorem dps_monoT (hT : ∀ a xs, SqT K H a xs → SqT K H' a xs) : ∀ {vs : List V} {ds : List PyData}, noLs ds = true → DpAll K H vs ds → DpAll K H' vs ds
  | _, _, _, .nil => .nil
  | _, _, n, .cons h hs => .cons (dp_monoT hT (Bool.and_eq_true_iff.mp n).1 h) (dps_monoT hT (Bool.and_eq_true_iff.mp n).2 hs)
end
/-- a list changes: tuples stay -/
theorem mut_sqT {f a : Addr} {o : HO} {xs ys : List V} (hf : H f = some (.lst ys)) (h : SqT K H a xs) : SqT K (upd H f o) a xs := by
  rcases h with (h | ⟨b, h⟩) | h
  · exact .inl (.inl (by rw [upd_ne (fun e => by rw [e, hf] at h; cases h)]; exact h))
  · exact .inl (.inr ⟨b, by rw [upd_ne (fun e => by rw [e, hf] at h; cases h)]; exact h⟩)
  · exact .inr h
end
theorem noLs_strs : ∀ (zs : List Str), noLs (zs.map PyData.str) = true
  | [] => rfl
  | z :: r => by
    show (true && noLs (r.map PyData.str)) = true
    rw [noLs_strs r]; rfl
theorem noL_opt (e : Option Str) : noL (optD e) = true := by cases e <;> rfl
theorem noL_what (w : What) : noL w.data = true := by
  cases w with
  | sum o s e =>
    show (true && (true && (true && (noL (optD e) && true)))) = true
    rw [noL_opt]; rfl
  | part o t b e =>
    show (true && (true && ((true && (true && true)) && (noL (optD e) && true)))) = true
    rw [noL_opt]; rfl
  | out o => rfl
theorem noL_fact (f : Fact) : noL f.data = true := by
  cases f with
  | life t n d ps =>
    show (true && (true && (true && (noLs (ps.map PyData.str) && true)))) = true
    rw [noLs_strs]; rfl
  | word n k w =>
    show (true && (true && (true && (noL w.data && true)))) = true
    rw [noL_what]; rfl
  | _ => rfl
theorem noLs_facts : ∀ (fs : List Fact), noLs (fs.map Fact.data) = true
  | [] => rfl
  | f :: r => by
    show (noL f.data && noLs (r.map Fact.data)) = true
    rw [noL_fact, noLs_facts r]; rfl
theorem elseW_len (e : Option Str) : (elseW e).length ≤ 2 := by cases e <;> simp [elseW]
theorem words_len {f : Fact} (h : f.Ok) (sw : Bool) (m : Nat) : (f.words sw m).length ≤ 20 ∧ f.words sw m ≠ [] := by
  cases f with
  | life t n d ps =>
    have := h.2.2.2.1
    refine ⟨?_, by simp [Fact.words]⟩
    by_cases hp : ps = []
    · simp [Fact.words, hp]
    · cases sw <;> simp [Fact.words, hp] <;> omega
  | two t a b d => cases sw <;> simp [Fact.words]
  | word n k w =>
    refine ⟨?_, by simp [Fact.words]⟩
    cases w with
    | sum o s e => have := elseW_len e; simp [Fact.words, What.words]; omega
    | part o t b e => have := elseW_len e; simp [Fact.words, What.words]; omega
    | out o => simp [Fact.words, What.words]
  | _ => simp [Fact.words]
end My
set_option Elab.async false
set_option linter.all false
set_option maxRecDepth 100000
set_option maxHeartbeats 4000000
/-! Comprehensions whose elements draw. -/
namespace My
open PySem PySem.Spec PyProof.Rows L2
theorem lcpG {α : Type} {J : It} {n : Nat} {G : Hp → Prop} {Y : Nat → Hp → V → Hp → Prop} (w : Walk J n G Y) {g : TG} {tt : TT} {te : TE} {vs : List Nat} {σ : L2.St} {H1 : Hp} {D : Addr} {Qd : Hp → Prop}
    (ds : List α) (hn : n = ds.length) (hz : ds.length ≤ 1000000) (I : Nat → Hp → Prop) (I0 : I 0 (upd H1 D (.lst []))) (Id : ∀ i H ys, I i H → I i (upd H D (.lst ys)))
    (hG : ∀ i H', i ≤ n → I i H' → G H') (f : α → Bool) (R : α → V → Hp → Prop) (Rm : ∀ a y H H' zs, H D = some (.lst zs) → (∀ b o, b ≠ D → H b = some o → H' b = some o) → R a y H → R a y H')
    (turn : ∀ (i : Nat) (d : α) (x : V) (H H' : Hp) (zs : List V), ds[i]? = some d → I i H → H D = some (.lst zs) → Y i H x H' → ∀ (k1 : V → Hp → Prop) (k2 : Hp → Prop),
      (f d = true → ∀ y H4, I (i + 1) H4 → H4 D = some (.lst zs) → (∀ a z, R a z H → R a z H4) → R d y H4 → k1 y H4) → (f d = false → ∀ H3, I (i + 1) H3 → H3 D = some (.lst zs) → (∀ a z, R a z H → R a z H3) → k2 H3) →
      g x (wipe σ vs) H' fun σ2 H2 => wipe σ2 vs = wipe σ vs ∧ tt σ2 H2 fun b H3 => if b = true then te σ2 H3 k1 else k2 H3)
    (hd : ∀ ys H', I n H' → H' D = some (.lst ys) → Paired (fun a y => R a y H') (ds.filter f) ys → Qd H') :
    ∃ W : Nat → Nat → Hp → Prop, (∃ m, W 0 m (upd H1 D (.lst []))) ∧ ∀ i m H, W i m H →
      (J.stop i H ∧ Qd H) ∨ (J.go i H ∧ ∃ Nx : Hp → Prop, (∀ H', Nx H' → ∃ m', m' < m ∧ W (i + 1) m' H') ∧ ∀ x H', J.yld i H x H' → g x (wipe σ vs) H' fun σ2 H2 => wipe σ2 vs = wipe σ vs ∧ tt σ2 H2 fun b H3 =>
        if b = true then te σ2 H3 fun y H4 => ∃ acc, H4 D = some (.lst acc) ∧ acc.length < sizeLine ∧ Nx (upd H4 D (.lst (acc ++ [y]))) else Nx H3) := by
  subst hn
  refine lc_it w (fun i H => ∃ ys, I i H ∧ H D = some (.lst ys) ∧ Paired (fun a y => R a y H) ((ds.take i).filter f) ys) ⟨[], I0, upd_same, by rw [List.take_zero]; exact .nil⟩ (fun i H hi ⟨ys, s, _⟩ => hG i H hi s) ?_ ?_
  · rintro i x H H' hi ⟨ys, s, hL, pr⟩ hy
    have hdi : ds[i]? = some ds[i] := List.getElem?_eq_getElem hi
    have lz : ys.length ≤ 1000000 := by
      have e := pr.length
      have h2 := List.length_filter_le f (ds.take i)
      rw [List.length_take] at h2
      omega
    refine turn i ds[i] x H H' ys hdi s hL hy _ _ (fun hf y H4 s4 l4 rm r => ?_) (fun hf H3 s3 l3 rm => ?_)
    · refine ⟨ys, l4, small_lt _ lz, ys ++ [y], Id _ _ _ s4, upd_same, ?_⟩
      rw [take_succ_some hdi, List.filter_append, List.filter_cons, if_pos hf]
      have nd : ∀ b o, b ≠ D → H4 b = some o → upd H4 D (.lst (ys ++ [y])) b = some o := fun b o ne e => by rw [upd_ne ne]; exact e
      exact paired_snoc (L2.Paired.mapP pr fun a z r => Rm a z H4 _ ys l4 nd (rm a z r)) (Rm _ y H4 _ ys l4 nd r)
    · refine ⟨ys, s3, l3, ?_⟩
      rw [take_succ_some hdi, List.filter_append, List.filter_cons, if_neg (by rw [hf]; exact Bool.false_ne_true)]
      show Paired _ (_ ++ []) ys
      rw [List.append_nil]
      exact L2.Paired.mapP pr fun a z r => rm a z r
  · rintro H ⟨ys, s, hL, pr⟩
    rw [List.take_length] at pr
    exact hd ys H s hL pr
/-- the elements draw, each at most c times -/
theorem lcpA {α : Type} {J : It} {n : Nat} {G : Hp → Prop} {Y : Nat → Hp → V → Hp → Prop} (w : Walk J n G Y) {K : PySem.W.Frag} {st : Addr} {ns : List Int} {m c : Int} {g : TG} {tt : TT} {te : TE} {vs : List Nat} {σ : L2.St} {H1 : Hp} {D : Addr} {Qd : Hp → Prop} (hD : H1 D = none) (ls : LS K H1 st ns m)
    (ds : List α) (hn : n = ds.length) (hz : ds.length ≤ 1000000) (hG : ∀ i H', Adv K st ns (m + c * (i : Nat)) H1 H' → G H') (R : α → V → Hp → Prop) (Rm : ∀ a y H H' zs, H D = some (.lst zs) → (∀ b o, b ≠ D → H b = some o → H' b = some o) → R a y H → R a y H')
    (Ra : ∀ a y H H' m m', LS K H st ns m → Adv K st ns m' H H' → R a y H → R a y H')
    (turn : ∀ (i : Nat) (d : α) (x : V) (H H' : Hp) (zs : List V), ds[i]? = some d → Adv K st ns (m + c * (i : Nat)) H1 H → H D = some (.lst zs) → Y i H x H' → ∀ (k1 : V → Hp → Prop) (k2 : Hp → Prop), (∀ y H4, Adv K st ns (m + c * (i : Nat) + c) H H4 → R d y H4 → k1 y H4) →
      g x (wipe σ vs) H' fun σ2 H2 => wipe σ2 vs = wipe σ vs ∧ tt σ2 H2 fun b H3 => if b = true then te σ2 H3 k1 else k2 H3)
    (hd : ∀ ys H', Adv K st ns (m + c * (ds.length : Nat)) H1 H' → H' D = some (.lst ys) → Paired (fun a y => R a y H') ds ys → Qd H') :
    ∃ W : Nat → Nat → Hp → Prop, (∃ m, W 0 m (upd H1 D (.lst []))) ∧ ∀ i m H, W i m H →
      (J.stop i H ∧ Qd H) ∨ (J.go i H ∧ ∃ Nx : Hp → Prop, (∀ H', Nx H' → ∃ m', m' < m ∧ W (i + 1) m' H') ∧ ∀ x H', J.yld i H x H' → g x (wipe σ vs) H' fun σ2 H2 => wipe σ2 vs = wipe σ vs ∧ tt σ2 H2 fun b H3 =>
        if b = true then te σ2 H3 fun y H4 => ∃ acc, H4 D = some (.lst acc) ∧ acc.length < sizeLine ∧ Nx (upd H4 D (.lst (acc ++ [y]))) else Nx H3) := by
  have nD : D ≠ st := ls.ne_none hD
  refine lcpG w ds hn hz (fun i H => Adv K st ns (m + c * (i : Nat)) H1 H) ?_ (fun i H ys a => a.mut ls hD) (fun i H' _ a => hG i H' a) (fun _ => true) R Rm ?_ ?_
  · have e : m + c * ((0 : Nat) : Int) = m := by omega
    rw [e]
    exact (ls.adv (Same.refl _)).mut ls hD
  · intro i d x H H' zs hi a hL hy k1 k2 h1 h2
    refine turn i d x H H' zs hi a hL hy k1 k2 fun y H4 a4 r => h1 rfl y H4 ?_ (a4.sb _ _ nD hL) (fun b z rz => Ra b z H H4 _ _ a.ls a4 rz) r
    have e : m + c * ((i + 1 : Nat) : Int) = m + c * (i : Nat) + c := by
      rw [Int.natCast_add, Int.mul_add]; omega
    rw [e]
    exact a.trans a4
  · intro ys H' a hL pr
    rw [filter_yes] at pr
    subst hn
    exact hd ys H' a hL pr
/-- a list changes: what holds no list stays -/
theorem dp_listed {K : PySem.W.Frag} {H H' : Hp} {D : Addr} {zs : List V} {v : V} {d : PyData} (n : noL d = true) (h : H D = some (.lst zs)) (k : ∀ b o, b ≠ D → H b = some o → H' b = some o) (q : Dp K H v d) : Dp K H' v d :=
  dp_monoT (fun a xs hq => by
    rcases hq with (hq | ⟨b, hq⟩) | hq
    · exact .inl (.inl (k _ _ (fun e => by rw [e, h] at hq; cases hq) hq))
    · exact .inl (.inr ⟨b, k _ _ (fun e => by rw [e, h] at hq; cases hq) hq⟩)
    · exact .inr hq) n q
theorem merge_st (a : Addr) : mergeK [] [(Sum.inr "cells", V.ref a), (Sum.inr "at", V.int 0)] = stK a 0 := by
  unfold mergeK
  simp [putK, str_ne1, str_ne2]
  rfl
end My
set_option Elab.async false
set_option linter.all false
set_option maxRecDepth 100000
set_option maxHeartbeats 4000000
/-! The texts of facts' words: how long, how joined. -/
namespace My
open PySem PySem.Spec PyProof.Rows L2
theorem join_cons (s x : Str) {r : List Str} (h : r ≠ []) : Str.join s (x :: r) = x ++ s ++ Str.join s r := by
  cases r with
  | nil => exact absurd rfl h
  | cons y t => rfl
theorem str_assoc (a b c : Str) : a ++ b ++ c = a ++ (b ++ c) := by
  refine TL.ext_tl ?_
  rw [TL.tl_append, TL.tl_append, TL.tl_append, TL.tl_append, List.append_assoc]
theorem sp_slash : (" / " : Str) = " " ++ ("/" : Str) ++ " " := by decide +kernel
/-- the texts that are joined: a fraction is one -/
def What.texts : What → List Str
  | .sum o s e => [("sum" : Str), o, numS s] ++ elseW e
  | .part o t b e => [("part" : Str), o, numS t ++ " / " ++ numS b] ++ elseW e
  | .out o => [("out" : Str), o]
theorem join_frac (a b : Str) (r : List Str) : Str.join " " ((a ++ " / " ++ b) :: r) = Str.join " " (a :: "/" :: b :: r) := by
  cases r with
  | nil =>
    show a ++ " / " ++ b = a ++ " " ++ (("/" : Str) ++ " " ++ b)
    rw [sp_slash]
    simp only [str_assoc]
  | cons y t =>
    show a ++ " / " ++ b ++ " " ++ Str.join " " (y :: t) = a ++ " " ++ (("/" : Str) ++ " " ++ (b ++ " " ++ Str.join " " (y :: t)))
    rw [sp_slash]
    simp only [str_assoc]
theorem texts_join (n : Str) (k : Nat) (w : What) : Str.join " " ([("word" : Str), n, numS k] ++ w.texts) = Str.join " " ((Fact.word n k w).words false 1) := by
  cases w with
  | sum o s e => rfl
  | out o => rfl
  | part o t b e =>
    have e1 : (Fact.word n k (.part o t b e)).words false 1 = ("word" : Str) :: n :: numS k :: "part" :: o :: numS t :: "/" :: numS b :: elseW e := by
      show ("word" : Str) :: n :: numS k :: "part" :: o :: numS (1 * t) :: "/" :: numS (1 * b) :: elseW e = _
      rw [Nat.one_mul, Nat.one_mul]
    rw [e1]
    show Str.join " " (("word" : Str) :: n :: numS k :: "part" :: o :: (numS t ++ " / " ++ numS b) :: elseW e) = _
    rw [join_cons _ _ (by simp), join_cons _ n (by simp), join_cons _ (numS k) (by simp), join_cons _ ("part" : Str) (by simp), join_cons _ o (by simp), join_frac]
    rw [join_cons _ ("word" : Str) (by simp), join_cons _ n (by simp), join_cons _ (numS k) (by simp), join_cons _ ("part" : Str) (by simp), join_cons _ o (r := numS t :: "/" :: numS b :: elseW e) (by simp)]
theorem sum_len {B : Nat} : ∀ {ys : List Str}, (∀ y ∈ ys, y.length ≤ B) → (ys.map (·.length)).sum ≤ B * ys.length
  | [], _ => by simp
  | y :: r, h => by
    have h1 := h y List.mem_cons_self
    have h2 := sum_len fun z hz => h z (List.mem_cons_of_mem _ hz)
    rw [List.map_cons, List.sum_cons, List.length_cons, Nat.mul_add, Nat.mul_one]
    have h3 : (y :: r).length = r.length + 1 := rfl
    omega
/-- a text of a leaf -/
def leafS : PyData → Str
  | .str z => z
  | .int i => Str.ofString (toString i)
  | _ => ""
def Leaf (d : PyData) : Prop := (∃ z : Str, d = .str z ∧ z.length ≤ 8) ∨ ∃ n : Nat, d = .int (n : Nat) ∧ n < 10 ^ 12
theorem leaf_str {z : Str} (h : z.length ≤ 8) : Leaf (.str z) := .inl ⟨z, rfl, h⟩
theorem leaf_int {n : Nat} (h : n < 10 ^ 12) : Leaf (.int (n : Nat)) := .inr ⟨n, rfl, h⟩
theorem leaf_len {d : PyData} (h : Leaf d) : (leafS d).length ≤ 12 := by
  rcases h with ⟨z, rfl, h⟩ | ⟨n, rfl, h⟩
  · show z.length ≤ 12
    omega
  · exact numS_len (by decide) h
theorem all_cons {P : PyData → Prop} {d : PyData} {r : List PyData} (h : P d) (g : ∀ x ∈ r, P x) : ∀ x ∈ d :: r, P x := fun x hx => by
  rcases List.mem_cons.mp hx with rfl | hx
  · exact h
  · exact g x hx
theorem all_nil {P : PyData → Prop} : ∀ x ∈ ([] : List PyData), P x := fun _ h => by cases h
end My
set_option Elab.async false
set_option linter.all false
set_option maxRecDepth 100000
set_option maxHeartbeats 4000000
/-! Words, going sign by sign. -/
namespace My
open PySem PySem.Spec PyProof.Rows L2
open TL (numL numL_lt numL_step numL_len)
/-- a word that the going tells whole -/
def WdOk (l : List Nat) : Prop := (l ≠ [] ∧ l.length ≤ 8 ∧ ∀ c ∈ l, c ∈ LET) ∨ (∃ n, n < 10 ^ 12 ∧ l = numL n) ∨ l = [47]
theorem WdOk.ne {l : List Nat} (h : WdOk l) : l ≠ [] ∧ l.length ≤ 12 := by
  rcases h with ⟨h1, h2, _⟩ | ⟨n, h1, rfl⟩ | rfl
  · exact ⟨h1, by omega⟩
  · exact ⟨TL.numL_ne n, numL_len (by decide) h1⟩
  · exact ⟨by simp, by decide⟩
/-- what may follow a word -/
def Closed (rest : List Nat) : Prop := ∀ c ∈ rest.head?, c ∉ LET ∧ c ∉ FIG
theorem run_all {S : List Nat} {rest : List Nat} (hr : ∀ c ∈ rest.head?, c ∉ S) : ∀ {l : List Nat}, (∀ c ∈ l, c ∈ S) → runLen S (l ++ rest) = l.length
  | [], _ => by
    cases rest with
    | nil => rfl
    | cons c t => exact runLen_out (hr c (by simp))
  | x :: r, h => by
    rw [List.cons_append, runLen_in (h x List.mem_cons_self), run_all hr fun c hc => h c (List.mem_cons_of_mem _ hc), List.length_cons]
theorem num_first : ∀ (n : Nat), 0 < n → ∃ c t, numL n = c :: t ∧ c ≠ 48 := by
  intro n
  induction n using Nat.strongRecOn with
  | ind n ih =>
    intro h0
    by_cases h : n < 10
    · exact ⟨48 + n, [], numL_lt h, by omega⟩
    · obtain ⟨c, t, e, hc⟩ := ih (n / 10) (by omega) (by omega)
      exact ⟨c, t ++ [48 + n % 10], by rw [numL_step (by omega), e]; rfl, hc⟩
theorem wd_len {l rest : List Nat} (h : WdOk l) (hr : l = [47] ∨ Closed rest) : wordLen (l ++ rest) = some l.length := by
  rcases h with ⟨h1, h2, h3⟩ | ⟨n, h1, rfl⟩ | rfl
  · obtain ⟨c, t, rfl⟩ := List.exists_cons_of_ne_nil h1
    have hc := h3 c List.mem_cons_self
    have hc2 := (mem_LET c).mp hc
    have hcl : Closed rest := by
      rcases hr with e | h
      · have : c = 47 := by injection e
        omega
      · exact h
    have e := run_all (S := LET) (rest := rest) (fun x hx => (hcl x hx).1) h3
    rw [List.cons_append] at e ⊢
    simp only [wordLen]
    rw [if_neg (by omega), if_pos hc, e, if_pos h2]
  · obtain ⟨c, t, e0, g1, g2⟩ := num_head (n := n)
    have hcl : Closed rest := by
      rcases hr with e | h
      · rw [e0] at e
        have : c = 47 := by injection e
        omega
      · exact h
    have hall : ∀ x ∈ numL n, x ∈ FIG := fun x hx => (mem_FIG x).mpr (numS_fig hx)
    have e := run_all (S := FIG) (rest := rest) (fun x hx => (hcl x hx).2) hall
    have hl := numL_len (k := 12) (by decide) h1
    have h0 : c ≠ 48 ∨ (numL n).length = 1 := by
      by_cases hn : n = 0
      · right; rw [hn, numL_lt (by decide)]; rfl
      · obtain ⟨c', t', e', hc'⟩ := num_first n (by omega)
        rw [e0] at e'
        left
        injection e' with e1 _
        rw [e1]; exact hc'
    have hcL : c ∉ LET := fun z => by have := (mem_LET c).mp z; omega
    rw [e0] at e hl h0 ⊢
    rw [List.cons_append] at e ⊢
    simp only [wordLen]
    rw [if_neg (by omega), if_neg hcL, e, if_pos ⟨by simp, hl, h0⟩]
  · rfl
theorem wd_step {l rest : List Nat} {b : Nat} {rows : List (List (List Nat))} {cur : List (List Nat)} (h : WdOk l) (hr : l = [47] ∨ Closed rest) : scan b rows cur (l ++ rest) = scan (b + l.length) rows (cur ++ [l]) rest := by
  have hw := wd_len h hr
  obtain ⟨c, t, rfl⟩ := List.exists_cons_of_ne_nil h.ne.1
  have hc : c ≠ 10 ∧ c ≠ 32 := by
    rcases h with ⟨_, _, h3⟩ | ⟨n, _, e⟩ | e
    · have := (mem_LET c).mp (h3 c List.mem_cons_self); omega
    · have := numS_fig (n := n) (c := c) (by rw [← e]; exact List.mem_cons_self); omega
    · injection e with e _; omega
  rw [List.cons_append] at hw ⊢
  rw [scan_word hc.1 hc.2 hw, ← List.cons_append, List.take_left, List.drop_left]
/-- t is gone through: rows told, cur the row so far; op: a word stands open at its end -/
structure Gone (t : List Nat) (rows : List (List (List Nat))) (cur : List (List Nat)) (op : Bool) : Prop where
  go : ∀ rest, (op = true → Closed rest) → scan 0 [] [] (t ++ rest) = scan t.length rows cur rest
theorem Gone.nil : Gone [] [] [] false := ⟨fun rest _ => rfl⟩
theorem Gone.blank {t : List Nat} {rows : List (List (List Nat))} {cur : List (List Nat)} {op : Bool} (h : Gone t rows cur op) : Gone (t ++ [32]) rows cur false := ⟨fun rest _ => by
  rw [List.append_assoc, h.go _ (fun _ c hc => by
    simp at hc; subst hc; exact ⟨fun z => by have := (mem_LET _).mp z; omega, fun z => by have := (mem_FIG _).mp z; omega⟩)]
  show scan _ _ _ (32 :: rest) = _
  rw [scan_blank, List.length_append]; rfl⟩
theorem Gone.eol {t : List Nat} {rows : List (List (List Nat))} {cur : List (List Nat)} {op : Bool} (h : Gone t rows cur op) : Gone (t ++ [10]) (rows ++ [cur]) [] false := ⟨fun rest _ => by
  rw [List.append_assoc, h.go _ (fun _ c hc => by
    simp at hc; subst hc; exact ⟨fun z => by have := (mem_LET _).mp z; omega, fun z => by have := (mem_FIG _).mp z; omega⟩)]
  show scan _ _ _ (10 :: rest) = _
  rw [scan_eol, List.length_append]; rfl⟩
theorem Gone.word {t l : List Nat} {rows : List (List (List Nat))} {cur : List (List Nat)} {op : Bool} (h : Gone t rows cur op) (hl : WdOk l) (ho : op = false ∨ l = [47]) : Gone (t ++ l) rows (cur ++ [l]) (decide (l ≠ [47])) := ⟨fun rest hr => by
  rw [List.append_assoc, h.go _ (fun hop => by
    rcases ho with e | e
    · rw [e] at hop; cases hop
    · subst e
      intro c hc
      simp at hc; subst hc
      exact ⟨fun z => by have := (mem_LET _).mp z; omega, fun z => by have := (mem_FIG _).mp z; omega⟩)]
  rw [wd_step hl (by
    by_cases e : l = [47]
    · exact .inl e
    · exact .inr (hr (decide_eq_true e))), List.length_append]⟩
theorem Gone.all {t : List Nat} {rows : List (List (List Nat))} {cur : List (List Nat)} {op : Bool} (h : Gone t rows cur op) : scan 0 [] [] t = .ok (rows ++ [cur]) := by
  have := h.go [] (fun _ c hc => by cases hc)
  rw [List.append_nil, scan_nil] at this
  exact this
end My
set_option Elab.async false
set_option linter.all false
set_option maxRecDepth 100000
set_option maxHeartbeats 4000000
/-! The law's own text, gone through. -/
namespace My
open PySem PySem.Spec PyProof.Rows L2
theorem wd_lit {z : Str} (h : decide (z.cps.toList ≠ [] ∧ z.cps.toList.length ≤ 8 ∧ ∀ c ∈ z.cps.toList, c ∈ LET) = true) : WdOk z.cps.toList := .inl (of_decide_eq_true h)
theorem wd_name {z : Str} (h : isName z = true) : WdOk z.cps.toList := by
  have l := isName_len h
  refine .inl ⟨fun e => ?_, by rw [tl_len]; omega, isName_let h⟩
  have := tl_len z
  rw [e] at this
  simp at this
  omega
theorem wd_num {n : Nat} (h : n < 10 ^ 12) : WdOk (numS n).cps.toList := .inr (.inl ⟨n, h, numS_tl n⟩)
theorem wd_slash : WdOk ("/" : Str).cps.toList := .inr (.inr (by decide +kernel))
theorem mem_cons_all {P : Str → Prop} {d : Str} {r : List Str} (h : P d) (g : ∀ x ∈ r, P x) : ∀ x ∈ d :: r, P x := fun x hx => by
  rcases List.mem_cons.mp hx with rfl | hx
  · exact h
  · exact g x hx
theorem mem_nil_all {P : Str → Prop} : ∀ x ∈ ([] : List Str), P x := fun _ h => by cases h
theorem wd_else {e : Option Str} (h : optOk e) : ∀ y ∈ elseW e, WdOk y.cps.toList := by
  cases e with
  | none => exact mem_nil_all
  | some z => exact mem_cons_all (wd_lit (by decide +kernel)) (mem_cons_all (wd_name h) mem_nil_all)
theorem words_wd {f : Fact} {sw : Bool} {m : Nat} (ok : f.Ok) (fit : f.Fits m) : ∀ y ∈ f.words sw m, WdOk y.cps.toList := by
  cases f with
  | life t n d ps =>
    obtain ⟨hn, hd, hps, _⟩ := ok
    have h1 : WdOk (if t then ("taken" : Str) else "born").cps.toList := by cases t <;> exact wd_lit (by decide +kernel)
    refine mem_cons_all h1 (mem_cons_all (wd_name hn) (mem_cons_all (wd_num (by omega)) ?_))
    show ∀ y ∈ (if ps = [] then [] else ("of" : Str) :: (if sw then ps.reverse else ps)), WdOk y.cps.toList
    by_cases hp : ps = []
    · rw [if_pos hp]; exact mem_nil_all
    · rw [if_neg hp]
      refine mem_cons_all (wd_lit (by decide +kernel)) fun y hy => wd_name (hps y ?_)
      cases sw
      · exact hy
      · exact List.mem_reverse.mp hy
  | two t a b d =>
    obtain ⟨ha, hb, _, _, hd⟩ := ok
    have h1 : WdOk (if t then ("parted" : Str) else "joined").cps.toList := by cases t <;> exact wd_lit (by decide +kernel)
    cases sw
    · exact mem_cons_all h1 (mem_cons_all (wd_name ha) (mem_cons_all (wd_name hb) (mem_cons_all (wd_num (by omega)) mem_nil_all)))
    · exact mem_cons_all h1 (mem_cons_all (wd_name hb) (mem_cons_all (wd_name ha) (mem_cons_all (wd_num (by omega)) mem_nil_all)))
  | died n d =>
    obtain ⟨hn, hd⟩ := ok
    exact mem_cons_all (wd_lit (by decide +kernel)) (mem_cons_all (wd_name hn) (mem_cons_all (wd_num (by omega)) mem_nil_all))
  | owns n d =>
    obtain ⟨hn, hd⟩ := ok
    exact mem_cons_all (wd_lit (by decide +kernel)) (mem_cons_all (wd_name hn) (mem_cons_all (wd_num (by omega)) mem_nil_all))
  | gave a b s d =>
    obtain ⟨ha, hb, _, hs, hd⟩ := ok
    exact mem_cons_all (wd_lit (by decide +kernel)) (mem_cons_all (wd_name ha) (mem_cons_all (wd_name hb) (mem_cons_all (wd_num (by omega)) (mem_cons_all (wd_num (by omega)) mem_nil_all))))
  | owes a b s d =>
    obtain ⟨ha, hb, hs, _, hd⟩ := ok
    exact mem_cons_all (wd_lit (by decide +kernel)) (mem_cons_all (wd_name ha) (mem_cons_all (wd_name hb) (mem_cons_all (wd_num (by omega)) (mem_cons_all (wd_num (by omega)) mem_nil_all))))
  | unfit a b =>
    obtain ⟨ha, hb, _⟩ := ok
    exact mem_cons_all (wd_lit (by decide +kernel)) (mem_cons_all (wd_name ha) (mem_cons_all (wd_name hb) mem_nil_all))
  | word n k w =>
    obtain ⟨hn, _, hk, ok⟩ := ok
    refine mem_cons_all (wd_lit (by decide +kernel)) (mem_cons_all (wd_name hn) (mem_cons_all (wd_num (by omega)) ?_))
    cases w with
    | sum o s e =>
      obtain ⟨ho, hs, he⟩ := ok
      exact mem_cons_all (wd_lit (by decide +kernel)) (mem_cons_all (wd_name ho) (mem_cons_all (wd_num (by omega)) (wd_else he)))
    | part o t b e =>
      obtain ⟨ho, h1, h2, h3, _, he⟩ := ok
      obtain ⟨m1, m2⟩ := fit
      have h5 : m * t ≤ m * b := Nat.mul_le_mul_left _ h2
      exact mem_cons_all (wd_lit (by decide +kernel)) (mem_cons_all (wd_name ho) (mem_cons_all (wd_num (by omega)) (mem_cons_all wd_slash (mem_cons_all (wd_num (by omega)) (wd_else he)))))
    | out o =>
      exact mem_cons_all (wd_lit (by decide +kernel)) (mem_cons_all (wd_name ok) mem_nil_all)
theorem fits_one {f : Fact} (ok : f.Ok) : f.Fits 1 := by
  cases f with
  | word n k w =>
    cases w with
    | part o t b e => exact ⟨by decide, by have := ok.2.2.2.2.2.2.1; omega⟩
    | _ => trivial
  | _ => trivial
abbrev tls (ws : List Str) : List (List Nat) := ws.map fun y => y.cps.toList
theorem tls_S (ws : List Str) : (tls ws).map S = ws := by
  rw [tls, List.map_map]
  have : (S ∘ fun y : Str => y.cps.toList) = id := funext fun y => S_tl y
  rw [this, List.map_id]
theorem gone_join {rows : List (List (List Nat))} : ∀ (ws : List Str) {t : List Nat} {cur : List (List Nat)}, ws ≠ [] → (∀ y ∈ ws, WdOk y.cps.toList) → Gone t rows cur false → ∃ op, Gone (t ++ (Str.join " " ws).cps.toList) rows (cur ++ tls ws) op
  | [], _, _, h, _, _ => absurd rfl h
  | [x], t, cur, _, h, g => ⟨_, g.word (h x List.mem_cons_self) (.inl rfl)⟩
  | x :: y :: r, t, cur, _, h, g => by
    have g1 := (g.word (h x List.mem_cons_self) (.inl rfl)).blank
    obtain ⟨op, g2⟩ := gone_join (y :: r) (by simp) (fun z hz => h z (List.mem_cons_of_mem _ hz)) g1
    refine ⟨op, ?_⟩
    have e : (Str.join " " (x :: y :: r)).cps.toList = x.cps.toList ++ [32] ++ (Str.join " " (y :: r)).cps.toList := by
      have e1 : (Str.join " " (x :: y :: r)) = x ++ " " ++ Str.join " " (y :: r) := rfl
      rw [e1]
      exact (TL.tl_append _ _).trans (by rw [show TL.tl (x ++ (" " : Str)) = TL.tl x ++ TL.tl (" " : Str) from TL.tl_append _ _, show TL.tl (" " : Str) = [32] by decide +kernel])
    rw [e]
    have e2 : t ++ (x.cps.toList ++ [32] ++ (Str.join " " (y :: r)).cps.toList) = t ++ x.cps.toList ++ [32] ++ (Str.join " " (y :: r)).cps.toList := by simp only [List.append_assoc]
    rw [e2]
    have e3 : cur ++ tls (x :: y :: r) = cur ++ [x.cps.toList] ++ tls (y :: r) := by simp [tls]
    rw [e3]
    exact g2
/-- rows of words, a line end between -/
theorem gone_rows : ∀ (Rs : List (List Str)) {t : List Nat} {rows : List (List (List Nat))}, Rs ≠ [] → (∀ ws ∈ Rs, ws ≠ [] ∧ ∀ y ∈ ws, WdOk y.cps.toList) → Gone t rows [] false →
    scan 0 [] [] (t ++ (Str.join "\n" (Rs.map (Str.join " "))).cps.toList) = .ok (rows ++ Rs.map tls)
  | [], _, _, h, _, _ => absurd rfl h
  | [ws], t, rows, _, h, g => by
    have h1 := h ws List.mem_cons_self
    obtain ⟨op, g1⟩ := gone_join ws h1.1 h1.2 g
    exact g1.all
  | ws :: us :: r, t, rows, _, h, g => by
    have h1 := h ws List.mem_cons_self
    obtain ⟨op, g1⟩ := gone_join ws h1.1 h1.2 g
    have g2 := gone_rows (us :: r) (by simp) (fun z hz => h z (List.mem_cons_of_mem _ hz)) g1.eol
    have e : (Str.join "\n" ((ws :: us :: r).map (Str.join " "))).cps.toList = (Str.join " " ws).cps.toList ++ [10] ++ (Str.join "\n" ((us :: r).map (Str.join " "))).cps.toList := by
      have e1 : (Str.join "\n" ((ws :: us :: r).map (Str.join " "))) = Str.join " " ws ++ "\n" ++ Str.join "\n" ((us :: r).map (Str.join " ")) := rfl
      rw [e1]
      exact (TL.tl_append _ _).trans (by rw [show TL.tl (Str.join " " ws ++ ("\n" : Str)) = TL.tl (Str.join " " ws) ++ TL.tl ("\n" : Str) from TL.tl_append _ _, show TL.tl ("\n" : Str) = [10] by decide +kernel])
    rw [e]
    have e2 : t ++ ((Str.join " " ws).cps.toList ++ [10] ++ (Str.join "\n" ((us :: r).map (Str.join " "))).cps.toList) = t ++ (Str.join " " ws).cps.toList ++ [10] ++ (Str.join "\n" ((us :: r).map (Str.join " "))).cps.toList := by simp only [List.append_assoc]
    rw [e2, g2]
    simp
theorem join_len (s : Str) : ∀ {ys : List Str} {B : Nat}, (∀ y ∈ ys, y.length ≤ B) → (Str.join s ys).length ≤ (B + s.length) * ys.length
  | [], _, _ => by
    show (Str.empty).length ≤ _
    have : (Str.empty).length = 0 := by decide +kernel
    omega
  | [y], B, h => by
    have := h y List.mem_cons_self
    show y.length ≤ (B + s.length) * 1
    omega
  | x :: y :: r, B, h => by
    have h1 := h x List.mem_cons_self
    have h2 := join_len s (ys := y :: r) fun z hz => h z (List.mem_cons_of_mem _ hz)
    show (x ++ s ++ Str.join s (y :: r)).length ≤ (B + s.length) * ((y :: r).length + 1)
    have e1 : (x ++ s ++ Str.join s (y :: r)).length = (x ++ s).length + (Str.join s (y :: r)).length := size_cat _ _
    have e2 : (x ++ s).length = x.length + s.length := size_cat _ _
    rw [e1, e2, Nat.mul_add, Nat.mul_one]
    omega
end My
set_option Elab.async false
set_option linter.all false
set_option maxRecDepth 100000
set_option maxHeartbeats 4000000
/-! The names of the law k02. -/
namespace My
open PySem PySem.Spec PyProof.Rows L2
/-- the name of size n, the sign c at place a -/
def nmL (n a c : Nat) : List Nat := (([113, 122, 106, 118, 113, 122, 106, 118] : List Nat).take n).take a ++ [c] ++ (([113, 122, 106, 118, 113, 122, 106, 118] : List Nat).take n).drop (a + 1)
def nmB : Bool := (List.range 7).all fun n => (List.range (n + 2)).all fun a => (List.range 26).all fun c => isName (S (nmL (n + 2) a (97 + c)))
theorem nm_all : nmB = true := by decide +kernel
theorem nm_ok {n a c : Nat} (h1 : 2 ≤ n) (h2 : n ≤ 8) (h3 : a < n) (h4 : c < 26) : isName (S (nmL n a (97 + c))) = true := by
  have h := List.all_eq_true.mp nm_all (n - 2) (List.mem_range.mpr (by omega))
  have e : n - 2 + 2 = n := by omega
  rw [e] at h
  exact List.all_eq_true.mp (List.all_eq_true.mp h a (List.mem_range.mpr h3)) c (List.mem_range.mpr h4)
theorem nm_inj {n a c d : Nat} (h3 : a < n) (h2 : n ≤ 8) (h : nmL n a c = nmL n a d) : c = d := by
  unfold nmL at h
  rw [List.append_assoc, List.append_assoc] at h
  have h := List.append_cancel_left h
  injection h
/-- unlike numbers below 26 give unlike signs -/
theorem sign_inj {f j k : Nat} (hj : j < 26) (hk : k < 26) (h : (f + 7 * j) % 26 = (f + 7 * k) % 26) : j = k := by omega
end My
set_option Elab.async false
set_option linter.all false
set_option maxRecDepth 100000
set_option maxHeartbeats 4000000
/-! A text of words with other blanks, gone through. -/
namespace My
open PySem PySem.Spec PyProof.Rows L2
def last1 (t : List Nat) : List Nat := t.drop (t.length - 1)
theorem cutS_last (t : List Nat) : cutS (S t) (some (-1)) none = S (last1 t) := by
  unfold cutS
  rw [sIx_none]
  have e : HT.sIx (S t).length 0 (some (-1)) = t.length - 1 := by
    show (if (-1 : Int) < 0 then ((-1 : Int) + ((S t).length : Int)).toNat else min ((-1 : Int)).toNat (S t).length) = _
    rw [if_pos (by decide), S_len]
    omega
  rw [e, S_len]
  have e2 : (S t).cps.toList = t := rfl
  rw [e2, List.take_of_length_le (by rw [List.length_drop]; omega)]
  rfl
theorem last1_snoc (t : List Nat) (c : Nat) : last1 (t ++ [c]) = [c] := by
  unfold last1
  rw [List.length_append]
  show (t ++ [c]).drop (t.length + 1 - 1) = [c]
  rw [Nat.add_sub_cancel, List.drop_left]
/-- where a word stands open its last sign is no stroke and no line end -/
def LO (t : List Nat) (op : Bool) : Prop := op = true → ∃ c, last1 t = [c] ∧ c ≠ 47 ∧ c ≠ 10
theorem wd_last {l : List Nat} (h : WdOk l) (n : l ≠ [47]) : ∃ r c, l = r ++ [c] ∧ c ≠ 47 ∧ c ≠ 10 := by
  have ne := h.ne.1
  obtain ⟨r, c, e⟩ : ∃ r c, l = r ++ [c] := ⟨_, _, (List.dropLast_concat_getLast ne).symm⟩
  refine ⟨r, c, e, ?_⟩
  have hc : c ∈ l := by rw [e]; simp
  rcases h with ⟨_, _, h3⟩ | ⟨k, _, e1⟩ | e1
  · have := (mem_LET c).mp (h3 c hc); omega
  · have := numS_fig (n := k) (c := c) (by rw [← e1]; exact hc); omega
  · exact absurd e1 n
theorem gone_blanks {rows : List (List (List Nat))} {cur : List (List Nat)} : ∀ (k : Nat) {t : List Nat} {op : Bool}, Gone t rows cur op → Gone (t ++ List.replicate k 32) rows cur (if k = 0 then op else false)
  | 0, t, op, g => by
    rw [List.replicate_zero, List.append_nil]
    exact g
  | k + 1, t, op, g => by
    have h := gone_blanks k g.blank
    have e : t ++ List.replicate (k + 1) 32 = t ++ [32] ++ List.replicate k 32 := by
      rw [List.replicate_succ, List.append_assoc]; rfl
    rw [e, if_neg (by omega)]
    have e2 : (if k = 0 then false else false) = false := by split <;> rfl
    rw [e2] at h
    exact h
theorem loose_step {t : List Nat} {rows : List (List (List Nat))} {cur : List (List Nat)} {op : Bool} (g : Gone t rows cur op) (lo : LO t op) {l : List Nat} (wl : WdOk l) (k : Nat) (hk : k = 0 → l = [47] ∨ last1 t ∈ [[47], [10], []]) :
    ∃ op', Gone (t ++ List.replicate k 32 ++ l) rows (cur ++ [l]) op' ∧ LO (t ++ List.replicate k 32 ++ l) op' := by
  refine ⟨decide (l ≠ [47]), (gone_blanks k g).word wl ?_, fun h => ?_⟩
  · by_cases h0 : k = 0
    · rw [if_pos h0]
      rcases hk h0 with h | h
      · exact .inr h
      · left
        cases op with
        | false => rfl
        | true =>
          obtain ⟨c, e, h1, h2⟩ := lo rfl
          rw [e] at h
          simp only [List.mem_cons, List.cons.injEq, and_true, List.not_mem_nil, or_false] at h
          rcases h with h | h | h
          · exact absurd h h1
          · exact absurd h h2
          · cases h
    · rw [if_neg h0]; exact .inl rfl
  · obtain ⟨r, c, e, h1, h2⟩ := wd_last wl (of_decide_eq_true h)
    refine ⟨c, ?_, h1, h2⟩
    rw [e, ← List.append_assoc, last1_snoc]
theorem app_S (l : List Nat) (w : Str) : S l ++ w = S (l ++ w.cps.toList) := (congrArg (S l ++ ·) (S_tl w).symm).trans (S_app l w.cps.toList)
theorem lo_false (t : List Nat) : LO t false := fun h => by cases h
end My
set_option Elab.async false
set_option linter.all false
set_option maxRecDepth 100000
set_option maxHeartbeats 4000000
/-! What the law k02 draws, read off its lists. -/
namespace My
open PySem PySem.Spec PyProof.Rows L2
theorem words_len10 {f : Fact} (h : f.Ok) (sw : Bool) (m : Nat) : (f.words sw m).length ≤ 10 := by
  cases f with
  | life t n d ps =>
    have := h.2.2.2.1
    by_cases hp : ps = []
    · simp [Fact.words, hp]
    · cases sw <;> simp [Fact.words, hp] <;> omega
  | two t a b d => cases sw <;> simp [Fact.words]
  | word n k w =>
    cases w with
    | sum o s e => have := elseW_len e; simp [Fact.words, What.words]; omega
    | part o t b e => have := elseW_len e; simp [Fact.words, What.words]; omega
    | out o => simp [Fact.words, What.words]
  | _ => simp [Fact.words]
section
variable {K : PySem.W.Frag} {H : Hp}
/-- a value that tells some fact -/
def factV (K : PySem.W.Frag) : V → Hp → Prop := fun v H => ∃ f : Fact, Dp K H v f.data ∧ f.Ok
theorem facts_of {α : Type} : ∀ {ds : List α} {ys : List V}, Paired (fun _ y => factV K y H) ds ys → ∃ fs : List Fact, DpAll K H ys (fs.map Fact.data) ∧ (∀ f ∈ fs, f.Ok) ∧ fs.length = ds.length
  | _, _, .nil => ⟨[], .nil, fun _ h => (by cases h), rfl⟩
  | _, _, .cons h t => by
    obtain ⟨f, d, ok⟩ := h
    obtain ⟨fs, ds, oks, e⟩ := facts_of t
    exact ⟨f :: fs, .cons d ds, fun g hg => (by
      rcases List.mem_cons.mp hg with rfl | hg
      · exact ok
      · exact oks g hg), by rw [List.length_cons, List.length_cons, e]⟩
theorem rows_of {D : Addr} : ∀ {fs : List Fact} {ys : List V}, Paired (fun f y => ∃ q, y = V.ref q ∧ q ≠ D ∧ H q = some (.lst ((Fact.words false 1 f).map V.str))) fs ys → ∃ qs : List Addr, ys = qs.map V.ref ∧ Paired (fun q f => H q = some (.lst ((Fact.words false 1 f).map V.str))) qs fs
  | _, _, .nil => ⟨[], rfl, .nil⟩
  | _, _, .cons h t => by
    obtain ⟨q, rfl, _, e⟩ := h
    obtain ⟨qs, rfl, p⟩ := rows_of t
    exact ⟨q :: qs, rfl, .cons e p⟩
theorem turned_of {D : Addr} {R : List Str → Fact → Prop} : ∀ {fs : List Fact} {ys : List V}, Paired (fun f y => ∃ q ws, y = V.ref q ∧ q ≠ D ∧ H q = some (.lst ((ws : List Str).map V.str)) ∧ R ws f) fs ys →
    ∃ (qs : List Addr) (Rs : List (List Str)), ys = qs.map V.ref ∧ Paired (fun q ws => SqL K H q ((ws : List Str).map V.str)) qs Rs ∧ Paired R Rs fs
  | _, _, .nil => ⟨[], [], rfl, .nil, .nil⟩
  | _, _, .cons h t => by
    obtain ⟨q, ws, rfl, _, e, r⟩ := h
    obtain ⟨qs, Rs, rfl, p, p2⟩ := turned_of t
    exact ⟨q :: qs, ws :: Rs, rfl, .cons (SqL.of e) p, .cons r p2⟩
end
theorem str_join3 (n : Str) : ("died " : Str) ++ n ++ (" 7" : Str) = Str.join " " (Fact.words false 1 (.died n 7)) := by
  have e : Str.join " " (Fact.words false 1 (.died n 7)) = ("died" : Str) ++ (" " : Str) ++ (n ++ (" " : Str) ++ numS 7) := rfl
  rw [e]
  refine TL.ext_tl ?_
  rw [TL.tl_append, TL.tl_append, TL.tl_append, TL.tl_append, TL.tl_append, TL.tl_append]
  rw [show TL.tl (numS 7) = [55] by decide +kernel, show TL.tl ("died " : Str) = [100, 105, 101, 100, 32] by decide +kernel, show TL.tl ("died" : Str) = [100, 105, 101, 100] by decide +kernel, show TL.tl (" " : Str) = [32] by decide +kernel, show TL.tl (" 7" : Str) = [32, 55] by decide +kernel]
  simp
theorem all_rep {P : PyData → Bool} {d : PyData} (h : P d = true) (n : Nat) : ∀ x ∈ List.replicate n d, P x = true := fun x hx => by rw [(List.mem_replicate.mp hx).2]; exact h
theorem lay_all : ∀ {ds : List PyData}, (∀ d ∈ ds, d.canLay0 = true) → PyData.canLayAll0 ds = true
  | [], _ => rfl
  | d :: r, h => by
    show (d.canLay0 && PyData.canLayAll0 r) = true
    rw [lay_all fun x hx => h x (List.mem_cons_of_mem _ hx), h d List.mem_cons_self]; rfl
theorem depth_all {B : Nat} : ∀ {ds : List PyData}, (∀ d ∈ ds, d.depth ≤ B) → PyData.depthAll ds ≤ B
  | [], _ => Nat.zero_le _
  | d :: r, h => by
    show max d.depth (PyData.depthAll r) ≤ B
    have h1 := h d List.mem_cons_self
    have h2 := depth_all fun x hx => h x (List.mem_cons_of_mem _ hx)
    omega
theorem shaped_of {ds : List PyData} (h1 : ∀ d ∈ ds, d.canLay0 = true) (h2 : ∀ d ∈ ds, d.depth ≤ 60) : SeqAt.shaped (.list ds) = true := by
  unfold SeqAt.shaped
  have h3 : (PyData.list ds).canLay0 = true := lay_all h1
  have h4 : (PyData.list ds).depth ≤ 64 := by
    show PyData.depthAll _ + 1 ≤ 64
    have := depth_all h2
    omega
  rw [h3, decide_eq_true h4]; rfl
theorem rep_flat {α : Type} (x : α) : ∀ n : Nat, (List.replicate n [x]).flatten = List.replicate n x
  | 0 => rfl
  | n + 1 => by rw [List.replicate_succ, List.flatten_cons, rep_flat x n]; rfl
theorem paired_rep {α β : Type} {R : α → β → Prop} {a : α} {b : β} (h : R a b) : ∀ n, Paired R (List.replicate n a) (List.replicate n b)
  | 0 => .nil
  | n + 1 => .cons h (paired_rep h n)
theorem dps_rep {K : PySem.W.Frag} {H : Hp} {v : V} {d : PyData} (h : Dp K H v d) : ∀ n, DpAll K H (List.replicate n v) (List.replicate n d)
  | 0 => .nil
  | n + 1 => .cons h (dps_rep h n)
end My
set_option Elab.async false
set_option linter.all false
set_option maxRecDepth 100000
set_option maxHeartbeats 4000000
namespace K02
open PySem PySem.Spec PyProof.Rows L2 My
def topS (i : Nat) : Stmt := PySem.Challenge.pw_heirwood_k02_facts_read.main.body.getD i (.Pass ⟨0, 0, 0, 0⟩)
abbrev s_BadSign___init__ : Stmt := inClass (topS 3) 0
abbrev N_BadSign___init__ : List Str := ["self", "spot"]
theorem sc_BadSign___init__ : FnScope N_BadSign___init__ ["self", "spot"] (defScope s_BadSign___init__) := ⟨rfl, rfl, rfl, by decide +kernel, rfl, by decide +kernel, by decide +kernel⟩
def d_BadSign___init__ : He.DefD := ⟨("BadSign", some "__init__"), "__init__", "BadSign.__init__", defArgs s_BadSign___init__, defBody s_BadSign___init__, defScope s_BadSign___init__, [], []⟩
abbrev s_divisor : Stmt := topS 6
abbrev N_divisor : List Str := ["one", "other"]
theorem sc_divisor : FnScope N_divisor ["one", "other"] (defScope s_divisor) := ⟨rfl, rfl, rfl, by decide +kernel, rfl, by decide +kernel, by decide +kernel⟩
def d_divisor : He.DefD := ⟨("divisor", none), "divisor", "divisor", defArgs s_divisor, defBody s_divisor, defScope s_divisor, [], []⟩
abbrev s_fraction : Stmt := topS 7
abbrev N_fraction : List Str := ["top", "bottom", "by"]
theorem sc_fraction : FnScope N_fraction ["top", "bottom"] (defScope s_fraction) := ⟨rfl, rfl, rfl, by decide +kernel, rfl, by decide +kernel, by decide +kernel⟩
def d_fraction : He.DefD := ⟨("fraction", none), "fraction", "fraction", defArgs s_fraction, defBody s_fraction, defScope s_fraction, [], []⟩
abbrev s_run_end : Stmt := topS 15
abbrev N_run_end : List Str := ["row", "at", "signs", "end"]
theorem sc_run_end : FnScope N_run_end ["row", "at", "signs"] (defScope s_run_end) := ⟨rfl, rfl, rfl, by decide +kernel, rfl, by decide +kernel, by decide +kernel⟩
def d_run_end : He.DefD := ⟨("run_end", none), "run_end", "run_end", defArgs s_run_end, defBody s_run_end, defScope s_run_end, [], []⟩
abbrev s_word_end : Stmt := topS 16
abbrev N_word_end : List Str := ["row", "at", "end"]
theorem sc_word_end : FnScope N_word_end ["row", "at"] (defScope s_word_end) := ⟨rfl, rfl, rfl, by decide +kernel, rfl, by decide +kernel, by decide +kernel⟩
def d_word_end : He.DefD := ⟨("word_end", none), "word_end", "word_end", defArgs s_word_end, defBody s_word_end, defScope s_word_end, [], []⟩
abbrev s_row_words : Stmt := topS 17
abbrev N_row_words : List Str := ["row", "begin", "found", "at", "end"]
theorem sc_row_words : FnScope N_row_words ["row", "begin"] (defScope s_row_words) := ⟨rfl, rfl, rfl, by decide +kernel, rfl, by decide +kernel, by decide +kernel⟩
def d_row_words : He.DefD := ⟨("row_words", none), "row_words", "row_words", defArgs s_row_words, defBody s_row_words, defScope s_row_words, [], []⟩
abbrev s_text_words : Stmt := topS 18
abbrev N_text_words : List Str := ["text", "found", "begin", "row"]
theorem sc_text_words : FnScope N_text_words ["text"] (defScope s_text_words) := ⟨rfl, rfl, rfl, by decide +kernel, rfl, by decide +kernel, by decide +kernel⟩
def d_text_words : He.DefD := ⟨("text_words", none), "text_words", "text_words", defArgs s_text_words, defBody s_text_words, defScope s_text_words, [], []⟩
abbrev s_is_name : Stmt := topS 19
abbrev N_is_name : List Str := ["word", "sign"]
theorem sc_is_name : FnScope N_is_name ["word"] (defScope s_is_name) := ⟨rfl, rfl, rfl, by decide +kernel, rfl, by decide +kernel, by decide +kernel⟩
def d_is_name : He.DefD := ⟨("is_name", none), "is_name", "is_name", defArgs s_is_name, defBody s_is_name, defScope s_is_name, [], []⟩
abbrev s_is_number : Stmt := topS 20
abbrev N_is_number : List Str := ["word"]
theorem sc_is_number : FnScope N_is_number ["word"] (defScope s_is_number) := ⟨rfl, rfl, rfl, by decide +kernel, rfl, by decide +kernel, by decide +kernel⟩
def d_is_number : He.DefD := ⟨("is_number", none), "is_number", "is_number", defArgs s_is_number, defBody s_is_number, defScope s_is_number, [], []⟩
abbrev s_Reader___init__ : Stmt := inClass (topS 29) 0
abbrev N_Reader___init__ : List Str := ["self", "row", "line"]
theorem sc_Reader___init__ : FnScope N_Reader___init__ ["self", "row", "line"] (defScope s_Reader___init__) := ⟨rfl, rfl, rfl, by decide +kernel, rfl, by decide +kernel, by decide +kernel⟩
def d_Reader___init__ : He.DefD := ⟨("Reader", some "__init__"), "__init__", "Reader.__init__", defArgs s_Reader___init__, defBody s_Reader___init__, defScope s_Reader___init__, [], []⟩
abbrev s_Reader_need : Stmt := inClass (topS 29) 1
abbrev N_Reader_need : List Str := ["self", "good"]
theorem sc_Reader_need : FnScope N_Reader_need ["self", "good"] (defScope s_Reader_need) := ⟨rfl, rfl, rfl, by decide +kernel, rfl, by decide +kernel, by decide +kernel⟩
def d_Reader_need : He.DefD := ⟨("Reader", some "need"), "need", "Reader.need", defArgs s_Reader_need, defBody s_Reader_need, defScope s_Reader_need, [], []⟩
abbrev s_Reader_peek : Stmt := inClass (topS 29) 2
abbrev N_Reader_peek : List Str := ["self"]
theorem sc_Reader_peek : FnScope N_Reader_peek ["self"] (defScope s_Reader_peek) := ⟨rfl, rfl, rfl, by decide +kernel, rfl, by decide +kernel, by decide +kernel⟩
def d_Reader_peek : He.DefD := ⟨("Reader", some "peek"), "peek", "Reader.peek", defArgs s_Reader_peek, defBody s_Reader_peek, defScope s_Reader_peek, [], []⟩
abbrev s_Reader_go : Stmt := inClass (topS 29) 3
abbrev N_Reader_go : List Str := ["self", "word"]
theorem sc_Reader_go : FnScope N_Reader_go ["self"] (defScope s_Reader_go) := ⟨rfl, rfl, rfl, by decide +kernel, rfl, by decide +kernel, by decide +kernel⟩
def d_Reader_go : He.DefD := ⟨("Reader", some "go"), "go", "Reader.go", defArgs s_Reader_go, defBody s_Reader_go, defScope s_Reader_go, [], []⟩
abbrev s_Reader_take_word : Stmt := inClass (topS 29) 4
abbrev N_Reader_take_word : List Str := ["self", "word"]
theorem sc_Reader_take_word : FnScope N_Reader_take_word ["self", "word"] (defScope s_Reader_take_word) := ⟨rfl, rfl, rfl, by decide +kernel, rfl, by decide +kernel, by decide +kernel⟩
def d_Reader_take_word : He.DefD := ⟨("Reader", some "take_word"), "take_word", "Reader.take_word", defArgs s_Reader_take_word, defBody s_Reader_take_word, defScope s_Reader_take_word, [], []⟩
abbrev s_Reader_take_name : Stmt := inClass (topS 29) 5
abbrev N_Reader_take_name : List Str := ["self", "unlike"]
theorem sc_Reader_take_name : FnScope N_Reader_take_name ["self", "unlike"] (defScope s_Reader_take_name) := ⟨rfl, rfl, rfl, by decide +kernel, rfl, by decide +kernel, by decide +kernel⟩
def d_Reader_take_name : He.DefD := ⟨("Reader", some "take_name"), "take_name", "Reader.take_name", defArgs s_Reader_take_name, defBody s_Reader_take_name, defScope s_Reader_take_name, [], []⟩
abbrev s_Reader_take_number : Stmt := inClass (topS 29) 6
abbrev N_Reader_take_number : List Str := ["self", "low", "high"]
theorem sc_Reader_take_number : FnScope N_Reader_take_number ["self", "low", "high"] (defScope s_Reader_take_number) := ⟨rfl, rfl, rfl, by decide +kernel, rfl, by decide +kernel, by decide +kernel⟩
def d_Reader_take_number : He.DefD := ⟨("Reader", some "take_number"), "take_number", "Reader.take_number", defArgs s_Reader_take_number, defBody s_Reader_take_number, defScope s_Reader_take_number, [], []⟩
abbrev s_Reader_take_fraction : Stmt := inClass (topS 29) 7
abbrev N_Reader_take_fraction : List Str := ["self", "top"]
theorem sc_Reader_take_fraction : FnScope N_Reader_take_fraction ["self"] (defScope s_Reader_take_fraction) := ⟨rfl, rfl, rfl, by decide +kernel, rfl, by decide +kernel, by decide +kernel⟩
def d_Reader_take_fraction : He.DefD := ⟨("Reader", some "take_fraction"), "take_fraction", "Reader.take_fraction", defArgs s_Reader_take_fraction, defBody s_Reader_take_fraction, defScope s_Reader_take_fraction, [], []⟩
abbrev s_Reader_take_parents : Stmt := inClass (topS 29) 8
abbrev N_Reader_take_parents : List Str := ["self", "found"]
theorem sc_Reader_take_parents : FnScope N_Reader_take_parents ["self"] (defScope s_Reader_take_parents) := ⟨rfl, rfl, rfl, by decide +kernel, rfl, by decide +kernel, by decide +kernel⟩
def d_Reader_take_parents : He.DefD := ⟨("Reader", some "take_parents"), "take_parents", "Reader.take_parents", defArgs s_Reader_take_parents, defBody s_Reader_take_parents, defScope s_Reader_take_parents, [], []⟩
abbrev s_Reader_take_pair : Stmt := inClass (topS 29) 9
abbrev N_Reader_take_pair : List Str := ["self", "one"]
theorem sc_Reader_take_pair : FnScope N_Reader_take_pair ["self"] (defScope s_Reader_take_pair) := ⟨rfl, rfl, rfl, by decide +kernel, rfl, by decide +kernel, by decide +kernel⟩
def d_Reader_take_pair : He.DefD := ⟨("Reader", some "take_pair"), "take_pair", "Reader.take_pair", defArgs s_Reader_take_pair, defBody s_Reader_take_pair, defScope s_Reader_take_pair, [], []⟩
abbrev s_Reader_over : Stmt := inClass (topS 29) 10
abbrev N_Reader_over : List Str := ["self"]
theorem sc_Reader_over : FnScope N_Reader_over ["self"] (defScope s_Reader_over) := ⟨rfl, rfl, rfl, by decide +kernel, rfl, by decide +kernel, by decide +kernel⟩
def d_Reader_over : He.DefD := ⟨("Reader", some "over"), "over", "Reader.over", defArgs s_Reader_over, defBody s_Reader_over, defScope s_Reader_over, [], []⟩
abbrev s_Reader_take_life : Stmt := inClass (topS 29) 11
abbrev N_Reader_take_life : List Str := ["self", "word", "name", "day", "parents"]
theorem sc_Reader_take_life : FnScope N_Reader_take_life ["self", "word"] (defScope s_Reader_take_life) := ⟨rfl, rfl, rfl, by decide +kernel, rfl, by decide +kernel, by decide +kernel⟩
def d_Reader_take_life : He.DefD := ⟨("Reader", some "take_life"), "take_life", "Reader.take_life", defArgs s_Reader_take_life, defBody s_Reader_take_life, defScope s_Reader_take_life, [], []⟩
abbrev s_Reader_take_instead : Stmt := inClass (topS 29) 12
abbrev N_Reader_take_instead : List Str := ["self"]
theorem sc_Reader_take_instead : FnScope N_Reader_take_instead ["self"] (defScope s_Reader_take_instead) := ⟨rfl, rfl, rfl, by decide +kernel, rfl, by decide +kernel, by decide +kernel⟩
def d_Reader_take_instead : He.DefD := ⟨("Reader", some "take_instead"), "take_instead", "Reader.take_instead", defArgs s_Reader_take_instead, defBody s_Reader_take_instead, defScope s_Reader_take_instead, [], []⟩
abbrev s_Reader_take_last_word : Stmt := inClass (topS 29) 13
abbrev N_Reader_take_last_word : List Str := ["self", "name", "number", "sort", "other", "amount"]
theorem sc_Reader_take_last_word : FnScope N_Reader_take_last_word ["self"] (defScope s_Reader_take_last_word) := ⟨rfl, rfl, rfl, by decide +kernel, rfl, by decide +kernel, by decide +kernel⟩
def d_Reader_take_last_word : He.DefD := ⟨("Reader", some "take_last_word"), "take_last_word", "Reader.take_last_word", defArgs s_Reader_take_last_word, defBody s_Reader_take_last_word, defScope s_Reader_take_last_word, [], []⟩
abbrev s_Reader_take_fact : Stmt := inClass (topS 29) 14
abbrev N_Reader_take_fact : List Str := ["self", "word", "pair"]
theorem sc_Reader_take_fact : FnScope N_Reader_take_fact ["self"] (defScope s_Reader_take_fact) := ⟨rfl, rfl, rfl, by decide +kernel, rfl, by decide +kernel, by decide +kernel⟩
def d_Reader_take_fact : He.DefD := ⟨("Reader", some "take_fact"), "take_fact", "Reader.take_fact", defArgs s_Reader_take_fact, defBody s_Reader_take_fact, defScope s_Reader_take_fact, [], []⟩
abbrev s_read_fact : Stmt := topS 30
abbrev N_read_fact : List Str := ["row", "line", "reader", "fact"]
theorem sc_read_fact : FnScope N_read_fact ["row", "line"] (defScope s_read_fact) := ⟨rfl, rfl, rfl, by decide +kernel, rfl, by decide +kernel, by decide +kernel⟩
def d_read_fact : He.DefD := ⟨("read_fact", none), "read_fact", "read_fact", defArgs s_read_fact, defBody s_read_fact, defScope s_read_fact, [], []⟩
abbrev s_read_facts : Stmt := topS 31
abbrev N_read_facts : List Str := ["text", "found", "line", "row"]
theorem sc_read_facts : FnScope N_read_facts ["text"] (defScope s_read_facts) := ⟨rfl, rfl, rfl, by decide +kernel, rfl, by decide +kernel, by decide +kernel⟩
def d_read_facts : He.DefD := ⟨("read_facts", none), "read_facts", "read_facts", defArgs s_read_facts, defBody s_read_facts, defScope s_read_facts, [], []⟩
abbrev s_part_text : Stmt := topS 33
abbrev N_part_text : List Str := ["part"]
theorem sc_part_text : FnScope N_part_text ["part"] (defScope s_part_text) := ⟨rfl, rfl, rfl, by decide +kernel, rfl, by decide +kernel, by decide +kernel⟩
def d_part_text : He.DefD := ⟨("part_text", none), "part_text", "part_text", defArgs s_part_text, defBody s_part_text, defScope s_part_text, [], []⟩
abbrev s_word_words : Stmt := topS 34
abbrev N_word_words : List Str := ["what", "amount", "found"]
theorem sc_word_words : FnScope N_word_words ["what"] (defScope s_word_words) := ⟨rfl, rfl, rfl, by decide +kernel, rfl, by decide +kernel, by decide +kernel⟩
def d_word_words : He.DefD := ⟨("word_words", none), "word_words", "word_words", defArgs s_word_words, defBody s_word_words, defScope s_word_words, [], []⟩
abbrev s_fact_text : Stmt := topS 35
abbrev N_fact_text : List Str := ["fact", "found", "part"]
theorem sc_fact_text : FnScope N_fact_text ["fact"] (defScope s_fact_text) := ⟨rfl, rfl, rfl, by decide +kernel, rfl, by decide +kernel, by decide +kernel⟩
def d_fact_text : He.DefD := ⟨("fact_text", none), "fact_text", "fact_text", defArgs s_fact_text, defBody s_fact_text, defScope s_fact_text, [], []⟩
abbrev s_written_facts : Stmt := topS 36
abbrev N_written_facts : List Str := ["facts", "fact"]
theorem sc_written_facts : FnScope N_written_facts ["facts"] (defScope s_written_facts) := ⟨rfl, rfl, rfl, by decide +kernel, rfl, by decide +kernel, by decide +kernel⟩
def d_written_facts : He.DefD := ⟨("written_facts", none), "written_facts", "written_facts", defArgs s_written_facts, defBody s_written_facts, defScope s_written_facts, [], []⟩
abbrev s__law_next : Stmt := topS 38
abbrev N__law_next : List Str := ["_law_state", "_law_many", "_law_k", "_law_cells", "_law_cell", "_law_number"]
theorem sc__law_next : FnScope N__law_next ["_law_state", "_law_many"] (defScope s__law_next) := ⟨rfl, rfl, rfl, by decide +kernel, rfl, by decide +kernel, by decide +kernel⟩
def d__law_next : He.DefD := ⟨("_law_next", none), "_law_next", "_law_next", defArgs s__law_next, defBody s__law_next, defScope s__law_next, [], []⟩
abbrev s__law_name : Stmt := topS 39
abbrev N__law_name : List Str := ["_law_state", "_law_k", "_law_first", "_law_size", "_law_at", "_law_rest", "_law_sign"]
theorem sc__law_name : FnScope N__law_name ["_law_state", "_law_k"] (defScope s__law_name) := ⟨rfl, rfl, rfl, by decide +kernel, rfl, by decide +kernel, by decide +kernel⟩
def d__law_name : He.DefD := ⟨("_law_name", none), "_law_name", "_law_name", defArgs s__law_name, defBody s__law_name, defScope s__law_name, [], []⟩
abbrev s__law_pair : Stmt := topS 40
abbrev N__law_pair : List Str := ["_law_state", "_law_one"]
theorem sc__law_pair : FnScope N__law_pair ["_law_state"] (defScope s__law_pair) := ⟨rfl, rfl, rfl, by decide +kernel, rfl, by decide +kernel, by decide +kernel⟩
def d__law_pair : He.DefD := ⟨("_law_pair", none), "_law_pair", "_law_pair", defArgs s__law_pair, defBody s__law_pair, defScope s__law_pair, [], []⟩
abbrev s__law_part : Stmt := topS 41
abbrev N__law_part : List Str := ["_law_state", "_law_bottom", "_law_top", "_law_one", "_law_other"]
theorem sc__law_part : FnScope N__law_part ["_law_state"] (defScope s__law_part) := ⟨rfl, rfl, rfl, by decide +kernel, rfl, by decide +kernel, by decide +kernel⟩
def d__law_part : He.DefD := ⟨("_law_part", none), "_law_part", "_law_part", defArgs s__law_part, defBody s__law_part, defScope s__law_part, [], []⟩
abbrev s__law_day : Stmt := topS 42
abbrev N__law_day : List Str := ["_law_state"]
theorem sc__law_day : FnScope N__law_day ["_law_state"] (defScope s__law_day) := ⟨rfl, rfl, rfl, by decide +kernel, rfl, by decide +kernel, by decide +kernel⟩
def d__law_day : He.DefD := ⟨("_law_day", none), "_law_day", "_law_day", defArgs s__law_day, defBody s__law_day, defScope s__law_day, [], []⟩
abbrev s__law_sum : Stmt := topS 43
abbrev N__law_sum : List Str := ["_law_state"]
theorem sc__law_sum : FnScope N__law_sum ["_law_state"] (defScope s__law_sum) := ⟨rfl, rfl, rfl, by decide +kernel, rfl, by decide +kernel, by decide +kernel⟩
def d__law_sum : He.DefD := ⟨("_law_sum", none), "_law_sum", "_law_sum", defArgs s__law_sum, defBody s__law_sum, defScope s__law_sum, [], []⟩
abbrev s__law_word_fact : Stmt := topS 44
abbrev N__law_word_fact : List Str := ["_law_state", "_law_name_here", "_law_one", "_law_instead", "_law_what"]
theorem sc__law_word_fact : FnScope N__law_word_fact ["_law_state", "_law_name_here"] (defScope s__law_word_fact) := ⟨rfl, rfl, rfl, by decide +kernel, rfl, by decide +kernel, by decide +kernel⟩
def d__law_word_fact : He.DefD := ⟨("_law_word_fact", none), "_law_word_fact", "_law_word_fact", defArgs s__law_word_fact, defBody s__law_word_fact, defScope s__law_word_fact, [], []⟩
abbrev s__law_fact : Stmt := topS 45
abbrev N__law_fact : List Str := ["_law_state", "_law_n", "_law_one", "_law_other", "_law_both", "_law_name_here", "_law_parents"]
theorem sc__law_fact : FnScope N__law_fact ["_law_state"] (defScope s__law_fact) := ⟨rfl, rfl, rfl, by decide +kernel, rfl, by decide +kernel, by decide +kernel⟩
def d__law_fact : He.DefD := ⟨("_law_fact", none), "_law_fact", "_law_fact", defArgs s__law_fact, defBody s__law_fact, defScope s__law_fact, [], []⟩
abbrev s__law_fact_words : Stmt := topS 46
abbrev N__law_fact_words : List Str := ["_law_fact_here", "_law_what", "_law_found", "_law_part_here", "_law_word"]
theorem sc__law_fact_words : FnScope N__law_fact_words ["_law_fact_here"] (defScope s__law_fact_words) := ⟨rfl, rfl, rfl, by decide +kernel, rfl, by decide +kernel, by decide +kernel⟩
def d__law_fact_words : He.DefD := ⟨("_law_fact_words", none), "_law_fact_words", "_law_fact_words", defArgs s__law_fact_words, defBody s__law_fact_words, defScope s__law_fact_words, [], []⟩
abbrev s__law_loose : Stmt := topS 47
abbrev N__law_loose : List Str := ["_law_state", "_law_rows", "_law_text", "_law_row", "_law_word", "_law_plain"]
theorem sc__law_loose : FnScope N__law_loose ["_law_state", "_law_rows"] (defScope s__law_loose) := ⟨rfl, rfl, rfl, by decide +kernel, rfl, by decide +kernel, by decide +kernel⟩
def d__law_loose : He.DefD := ⟨("_law_loose", none), "_law_loose", "_law_loose", defArgs s__law_loose, defBody s__law_loose, defScope s__law_loose, [], []⟩
abbrev s__law_alike : Stmt := topS 48
abbrev N__law_alike : List Str := ["_law_found", "_law_due", "_law_k"]
theorem sc__law_alike : FnScope N__law_alike ["_law_found", "_law_due"] (defScope s__law_alike) := ⟨rfl, rfl, rfl, by decide +kernel, rfl, by decide +kernel, by decide +kernel⟩
def d__law_alike : He.DefD := ⟨("_law_alike", none), "_law_alike", "_law_alike", defArgs s__law_alike, defBody s__law_alike, defScope s__law_alike, [], []⟩
abbrev s__law_turned : Stmt := topS 49
abbrev N__law_turned : List Str := ["_law_state", "_law_row", "_law_at", "_law_top", "_law_bottom", "_law_many"]
theorem sc__law_turned : FnScope N__law_turned ["_law_state", "_law_row"] (defScope s__law_turned) := ⟨rfl, rfl, rfl, by decide +kernel, rfl, by decide +kernel, by decide +kernel⟩
def d__law_turned : He.DefD := ⟨("_law_turned", none), "_law_turned", "_law_turned", defArgs s__law_turned, defBody s__law_turned, defScope s__law_turned, [], []⟩
abbrev s_law : Stmt := topS 50
abbrev N_law : List Str := ["_law_script", "_law_state", "_law_facts", "_law_rows", "_law_text", "_law_told", "_law_turn", "_law_found", "_law_name_here", "_law_k", "_law_fact_here", "_law_row"]
theorem sc_law : FnScope N_law ["_law_script"] (defScope s_law) := ⟨rfl, rfl, rfl, by decide +kernel, rfl, by decide +kernel, by decide +kernel⟩
def d_law : He.DefD := ⟨("law", none), "law", "law", defArgs s_law, defBody s_law, defScope s_law, [], []⟩
def fn : List He.DefD := [d_BadSign___init__, d_divisor, d_fraction, d_run_end, d_word_end, d_row_words, d_text_words, d_is_name, d_is_number, d_Reader___init__, d_Reader_need, d_Reader_peek, d_Reader_go, d_Reader_take_word, d_Reader_take_name, d_Reader_take_number, d_Reader_take_fraction, d_Reader_take_parents, d_Reader_take_pair, d_Reader_over, d_Reader_take_life, d_Reader_take_instead, d_Reader_take_last_word, d_Reader_take_fact, d_read_fact, d_read_facts, d_part_text, d_word_words, d_fact_text, d_written_facts, d__law_next, d__law_name, d__law_pair, d__law_part, d__law_day, d__law_sum, d__law_word_fact, d__law_fact, d__law_fact_words, d__law_loose, d__law_alike, d__law_turned, d_law]
def fa : List He.Fa := [.glo "divisor", .glo "fraction", .glo "run_end", .glo "word_end", .glo "row_words", .glo "text_words", .glo "is_name", .glo "is_number", .glo "read_fact", .glo "read_facts", .glo "part_text", .glo "word_words", .glo "fact_text", .glo "written_facts", .glo "_law_next", .glo "_law_name", .glo "_law_pair", .glo "_law_part", .glo "_law_day", .glo "_law_sum", .glo "_law_word_fact", .glo "_law_fact", .glo "_law_fact_words", .glo "_law_loose", .glo "_law_alike", .glo "_law_turned", .glo "law", .free "abs", .free "len", .free "str", .free "isinstance", .free "all", .free "int", .free "sorted", .free "tuple", .free "enumerate", .free "list", .free "range", .free "bool", .free "min", .cls "Reader", .mkr "Reader", .noat "Reader" "row", .noat "Reader" "line", .noat "Reader" "at", .meth "Reader" "need", .meth "Reader" "peek", .meth "Reader" "go", .meth "Reader" "take_word", .meth "Reader" "take_name", .meth "Reader" "take_number", .meth "Reader" "take_fraction", .meth "Reader" "take_parents", .meth "Reader" "take_pair", .meth "Reader" "over", .meth "Reader" "take_life", .meth "Reader" "take_instead", .meth "Reader" "take_last_word", .meth "Reader" "take_fact", .str "LETTERS" "abcdefghijklmnopqrstuvwxyz", .int "MOST_LETTERS" 8, .str "FIGURES" "0123456789", .int "MOST_FIGURES" 12, .int "MOST_SIGNS" 8000, .glo "TOLD", .int "MOST_BOTTOM" 1000, .int "LAST_DAY" 99999, .int "MOST_SUM" 100000000000, .int "MOST_WORDS" 20, .int "MOST_RANK" 9, .glo "FACTS", .int "MOST_FACTS" 120, .glo "Reader", .glo "BadSign"]
def dv_TOLD : List He.Dv := [.str "born", .str "taken", .str "joined", .str "parted", .str "died", .str "owns", .str "gave", .str "owes", .str "unfit", .str "word", .str "sum", .str "part", .str "out", .str "else", .str "of", .str "line", .str "degree", .str "beside", .str "halves", .str "kept", .str "back"]
def dv_FACTS : List He.Dv := [.str "born", .str "taken", .str "joined", .str "parted", .str "died", .str "owns", .str "gave", .str "owes", .str "unfit", .str "word"]
def ex (K : PySem.W.Frag) : Bool := exAll [He.tupB K "TOLD" dv_TOLD, He.tupB K "FACTS" dv_FACTS, oexB K "BadSign", He.eqO (PySem.W.findIn K (.ref (He.ga K "BadSign")) "spot") (some none)]
structure Txt (K : PySem.W.Frag) (mg : Str → Option Value) : Prop where
  all : ∃ h : Heap, K.In h ∧ h.Ns mainGlobals mg
  c : He.SaysD fa fn K
  e : ex K = true
section
variable {K : PySem.W.Frag} {mg : Str → Option Value}
theorem Txt.g_divisor (T : Txt K mg) : mg "divisor" = some (.ref (He.ga K "divisor")) := T.all.elim fun _ z => He.glo_ok z.1 z.2 (T.c.fact 0 (f := .glo "divisor") rfl)
theorem Txt.g_fraction (T : Txt K mg) : mg "fraction" = some (.ref (He.ga K "fraction")) := T.all.elim fun _ z => He.glo_ok z.1 z.2 (T.c.fact 1 (f := .glo "fraction") rfl)
theorem Txt.g_run_end (T : Txt K mg) : mg "run_end" = some (.ref (He.ga K "run_end")) := T.all.elim fun _ z => He.glo_ok z.1 z.2 (T.c.fact 2 (f := .glo "run_end") rfl)
theorem Txt.g_word_end (T : Txt K mg) : mg "word_end" = some (.ref (He.ga K "word_end")) := T.all.elim fun _ z => He.glo_ok z.1 z.2 (T.c.fact 3 (f := .glo "word_end") rfl)
theorem Txt.g_row_words (T : Txt K mg) : mg "row_words" = some (.ref (He.ga K "row_words")) := T.all.elim fun _ z => He.glo_ok z.1 z.2 (T.c.fact 4 (f := .glo "row_words") rfl)
theorem Txt.g_text_words (T : Txt K mg) : mg "text_words" = some (.ref (He.ga K "text_words")) := T.all.elim fun _ z => He.glo_ok z.1 z.2 (T.c.fact 5 (f := .glo "text_words") rfl)
theorem Txt.g_is_name (T : Txt K mg) : mg "is_name" = some (.ref (He.ga K "is_name")) := T.all.elim fun _ z => He.glo_ok z.1 z.2 (T.c.fact 6 (f := .glo "is_name") rfl)
theorem Txt.g_is_number (T : Txt K mg) : mg "is_number" = some (.ref (He.ga K "is_number")) := T.all.elim fun _ z => He.glo_ok z.1 z.2 (T.c.fact 7 (f := .glo "is_number") rfl)
theorem Txt.g_read_fact (T : Txt K mg) : mg "read_fact" = some (.ref (He.ga K "read_fact")) := T.all.elim fun _ z => He.glo_ok z.1 z.2 (T.c.fact 8 (f := .glo "read_fact") rfl)
theorem Txt.g_read_facts (T : Txt K mg) : mg "read_facts" = some (.ref (He.ga K "read_facts")) := T.all.elim fun _ z => He.glo_ok z.1 z.2 (T.c.fact 9 (f := .glo "read_facts") rfl)
theorem Txt.g_part_text (T : Txt K mg) : mg "part_text" = some (.ref (He.ga K "part_text")) := T.all.elim fun _ z => He.glo_ok z.1 z.2 (T.c.fact 10 (f := .glo "part_text") rfl)
theorem Txt.g_word_words (T : Txt K mg) : mg "word_words" = some (.ref (He.ga K "word_words")) := T.all.elim fun _ z => He.glo_ok z.1 z.2 (T.c.fact 11 (f := .glo "word_words") rfl)
theorem Txt.g_fact_text (T : Txt K mg) : mg "fact_text" = some (.ref (He.ga K "fact_text")) := T.all.elim fun _ z => He.glo_ok z.1 z.2 (T.c.fact 12 (f := .glo "fact_text") rfl)
theorem Txt.g_written_facts (T : Txt K mg) : mg "written_facts" = some (.ref (He.ga K "written_facts")) := T.all.elim fun _ z => He.glo_ok z.1 z.2 (T.c.fact 13 (f := .glo "written_facts") rfl)
theorem Txt.g__law_next (T : Txt K mg) : mg "_law_next" = some (.ref (He.ga K "_law_next")) := T.all.elim fun _ z => He.glo_ok z.1 z.2 (T.c.fact 14 (f := .glo "_law_next") rfl)
theorem Txt.g__law_name (T : Txt K mg) : mg "_law_name" = some (.ref (He.ga K "_law_name")) := T.all.elim fun _ z => He.glo_ok z.1 z.2 (T.c.fact 15 (f := .glo "_law_name") rfl)
theorem Txt.g__law_pair (T : Txt K mg) : mg "_law_pair" = some (.ref (He.ga K "_law_pair")) := T.all.elim fun _ z => He.glo_ok z.1 z.2 (T.c.fact 16 (f := .glo "_law_pair") rfl)
theorem Txt.g__law_part (T : Txt K mg) : mg "_law_part" = some (.ref (He.ga K "_law_part")) := T.all.elim fun _ z => He.glo_ok z.1 z.2 (T.c.fact 17 (f := .glo "_law_part") rfl)
theorem Txt.g__law_day (T : Txt K mg) : mg "_law_day" = some (.ref (He.ga K "_law_day")) := T.all.elim fun _ z => He.glo_ok z.1 z.2 (T.c.fact 18 (f := .glo "_law_day") rfl)
theorem Txt.g__law_sum (T : Txt K mg) : mg "_law_sum" = some (.ref (He.ga K "_law_sum")) := T.all.elim fun _ z => He.glo_ok z.1 z.2 (T.c.fact 19 (f := .glo "_law_sum") rfl)
theorem Txt.g__law_word_fact (T : Txt K mg) : mg "_law_word_fact" = some (.ref (He.ga K "_law_word_fact")) := T.all.elim fun _ z => He.glo_ok z.1 z.2 (T.c.fact 20 (f := .glo "_law_word_fact") rfl)
theorem Txt.g__law_fact (T : Txt K mg) : mg "_law_fact" = some (.ref (He.ga K "_law_fact")) := T.all.elim fun _ z => He.glo_ok z.1 z.2 (T.c.fact 21 (f := .glo "_law_fact") rfl)
theorem Txt.g__law_fact_words (T : Txt K mg) : mg "_law_fact_words" = some (.ref (He.ga K "_law_fact_words")) := T.all.elim fun _ z => He.glo_ok z.1 z.2 (T.c.fact 22 (f := .glo "_law_fact_words") rfl)
theorem Txt.g__law_loose (T : Txt K mg) : mg "_law_loose" = some (.ref (He.ga K "_law_loose")) := T.all.elim fun _ z => He.glo_ok z.1 z.2 (T.c.fact 23 (f := .glo "_law_loose") rfl)
theorem Txt.g__law_alike (T : Txt K mg) : mg "_law_alike" = some (.ref (He.ga K "_law_alike")) := T.all.elim fun _ z => He.glo_ok z.1 z.2 (T.c.fact 24 (f := .glo "_law_alike") rfl)
theorem Txt.g__law_turned (T : Txt K mg) : mg "_law_turned" = some (.ref (He.ga K "_law_turned")) := T.all.elim fun _ z => He.glo_ok z.1 z.2 (T.c.fact 25 (f := .glo "_law_turned") rfl)
theorem Txt.g_law (T : Txt K mg) : mg "law" = some (.ref (He.ga K "law")) := T.all.elim fun _ z => He.glo_ok z.1 z.2 (T.c.fact 26 (f := .glo "law") rfl)
theorem Txt.n_abs (T : Txt K mg) : mg "abs" = none := T.all.elim fun _ z => He.free_ok z.1 z.2 (T.c.fact 27 (f := .free "abs") rfl)
theorem Txt.n_len (T : Txt K mg) : mg "len" = none := T.all.elim fun _ z => He.free_ok z.1 z.2 (T.c.fact 28 (f := .free "len") rfl)
theorem Txt.n_str (T : Txt K mg) : mg "str" = none := T.all.elim fun _ z => He.free_ok z.1 z.2 (T.c.fact 29 (f := .free "str") rfl)
theorem Txt.n_isinstance (T : Txt K mg) : mg "isinstance" = none := T.all.elim fun _ z => He.free_ok z.1 z.2 (T.c.fact 30 (f := .free "isinstance") rfl)
theorem Txt.n_all (T : Txt K mg) : mg "all" = none := T.all.elim fun _ z => He.free_ok z.1 z.2 (T.c.fact 31 (f := .free "all") rfl)
theorem Txt.n_int (T : Txt K mg) : mg "int" = none := T.all.elim fun _ z => He.free_ok z.1 z.2 (T.c.fact 32 (f := .free "int") rfl)
theorem Txt.n_sorted (T : Txt K mg) : mg "sorted" = none := T.all.elim fun _ z => He.free_ok z.1 z.2 (T.c.fact 33 (f := .free "sorted") rfl)
theorem Txt.n_tuple (T : Txt K mg) : mg "tuple" = none := T.all.elim fun _ z => He.free_ok z.1 z.2 (T.c.fact 34 (f := .free "tuple") rfl)
theorem Txt.n_enumerate (T : Txt K mg) : mg "enumerate" = none := T.all.elim fun _ z => He.free_ok z.1 z.2 (T.c.fact 35 (f := .free "enumerate") rfl)
theorem Txt.n_list (T : Txt K mg) : mg "list" = none := T.all.elim fun _ z => He.free_ok z.1 z.2 (T.c.fact 36 (f := .free "list") rfl)
theorem Txt.n_range (T : Txt K mg) : mg "range" = none := T.all.elim fun _ z => He.free_ok z.1 z.2 (T.c.fact 37 (f := .free "range") rfl)
theorem Txt.n_bool (T : Txt K mg) : mg "bool" = none := T.all.elim fun _ z => He.free_ok z.1 z.2 (T.c.fact 38 (f := .free "bool") rfl)
theorem Txt.n_min (T : Txt K mg) : mg "min" = none := T.all.elim fun _ z => He.free_ok z.1 z.2 (T.c.fact 39 (f := .free "min") rfl)
theorem Txt.cl_Reader (T : Txt K mg) : Cls K (He.ga K "Reader") := He.cls_ok (T.c.fact 40 (f := .cls "Reader") rfl)
theorem Txt.mk_Reader (T : Txt K mg) : Mk K (He.ga K "Reader") (He.ma K (He.ga K "Reader") "__init__") := He.mkr_ok (T.c.fact 41 (f := .mkr "Reader") rfl)
theorem Txt.na_Reader_row (T : Txt K mg) : NoAttr K (He.ga K "Reader") "row" := He.noat_ok (T.c.fact 42 (f := .noat "Reader" "row") rfl)
theorem Txt.na_Reader_line (T : Txt K mg) : NoAttr K (He.ga K "Reader") "line" := He.noat_ok (T.c.fact 43 (f := .noat "Reader" "line") rfl)
theorem Txt.na_Reader_at (T : Txt K mg) : NoAttr K (He.ga K "Reader") "at" := He.noat_ok (T.c.fact 44 (f := .noat "Reader" "at") rfl)
theorem Txt.me_Reader_need (T : Txt K mg) : Meth K (He.ga K "Reader") "need" (He.ma K (He.ga K "Reader") "need") := He.meth_ok (T.c.fact 45 (f := .meth "Reader" "need") rfl)
theorem Txt.me_Reader_peek (T : Txt K mg) : Meth K (He.ga K "Reader") "peek" (He.ma K (He.ga K "Reader") "peek") := He.meth_ok (T.c.fact 46 (f := .meth "Reader" "peek") rfl)
theorem Txt.me_Reader_go (T : Txt K mg) : Meth K (He.ga K "Reader") "go" (He.ma K (He.ga K "Reader") "go") := He.meth_ok (T.c.fact 47 (f := .meth "Reader" "go") rfl)
theorem Txt.me_Reader_take_word (T : Txt K mg) : Meth K (He.ga K "Reader") "take_word" (He.ma K (He.ga K "Reader") "take_word") := He.meth_ok (T.c.fact 48 (f := .meth "Reader" "take_word") rfl)
theorem Txt.me_Reader_take_name (T : Txt K mg) : Meth K (He.ga K "Reader") "take_name" (He.ma K (He.ga K "Reader") "take_name") := He.meth_ok (T.c.fact 49 (f := .meth "Reader" "take_name") rfl)
theorem Txt.me_Reader_take_number (T : Txt K mg) : Meth K (He.ga K "Reader") "take_number" (He.ma K (He.ga K "Reader") "take_number") := He.meth_ok (T.c.fact 50 (f := .meth "Reader" "take_number") rfl)
theorem Txt.me_Reader_take_fraction (T : Txt K mg) : Meth K (He.ga K "Reader") "take_fraction" (He.ma K (He.ga K "Reader") "take_fraction") := He.meth_ok (T.c.fact 51 (f := .meth "Reader" "take_fraction") rfl)
theorem Txt.me_Reader_take_parents (T : Txt K mg) : Meth K (He.ga K "Reader") "take_parents" (He.ma K (He.ga K "Reader") "take_parents") := He.meth_ok (T.c.fact 52 (f := .meth "Reader" "take_parents") rfl)
theorem Txt.me_Reader_take_pair (T : Txt K mg) : Meth K (He.ga K "Reader") "take_pair" (He.ma K (He.ga K "Reader") "take_pair") := He.meth_ok (T.c.fact 53 (f := .meth "Reader" "take_pair") rfl)
theorem Txt.me_Reader_over (T : Txt K mg) : Meth K (He.ga K "Reader") "over" (He.ma K (He.ga K "Reader") "over") := He.meth_ok (T.c.fact 54 (f := .meth "Reader" "over") rfl)
theorem Txt.me_Reader_take_life (T : Txt K mg) : Meth K (He.ga K "Reader") "take_life" (He.ma K (He.ga K "Reader") "take_life") := He.meth_ok (T.c.fact 55 (f := .meth "Reader" "take_life") rfl)
theorem Txt.me_Reader_take_instead (T : Txt K mg) : Meth K (He.ga K "Reader") "take_instead" (He.ma K (He.ga K "Reader") "take_instead") := He.meth_ok (T.c.fact 56 (f := .meth "Reader" "take_instead") rfl)
theorem Txt.me_Reader_take_last_word (T : Txt K mg) : Meth K (He.ga K "Reader") "take_last_word" (He.ma K (He.ga K "Reader") "take_last_word") := He.meth_ok (T.c.fact 57 (f := .meth "Reader" "take_last_word") rfl)
theorem Txt.me_Reader_take_fact (T : Txt K mg) : Meth K (He.ga K "Reader") "take_fact" (He.ma K (He.ga K "Reader") "take_fact") := He.meth_ok (T.c.fact 58 (f := .meth "Reader" "take_fact") rfl)
theorem Txt.g_LETTERS (T : Txt K mg) : ∃ t, mg "LETTERS" = some (.str "abcdefghijklmnopqrstuvwxyz" t) := T.all.elim fun _ z => He.str_ok z.1 z.2 (T.c.fact 59 (f := .str "LETTERS" "abcdefghijklmnopqrstuvwxyz") rfl)
theorem Txt.g_MOST_LETTERS (T : Txt K mg) : ∃ t, mg "MOST_LETTERS" = some (.int 8 t) := T.all.elim fun _ z => He.int_ok z.1 z.2 (T.c.fact 60 (f := .int "MOST_LETTERS" 8) rfl)
theorem Txt.g_FIGURES (T : Txt K mg) : ∃ t, mg "FIGURES" = some (.str "0123456789" t) := T.all.elim fun _ z => He.str_ok z.1 z.2 (T.c.fact 61 (f := .str "FIGURES" "0123456789") rfl)
theorem Txt.g_MOST_FIGURES (T : Txt K mg) : ∃ t, mg "MOST_FIGURES" = some (.int 12 t) := T.all.elim fun _ z => He.int_ok z.1 z.2 (T.c.fact 62 (f := .int "MOST_FIGURES" 12) rfl)
theorem Txt.g_MOST_SIGNS (T : Txt K mg) : ∃ t, mg "MOST_SIGNS" = some (.int 8000 t) := T.all.elim fun _ z => He.int_ok z.1 z.2 (T.c.fact 63 (f := .int "MOST_SIGNS" 8000) rfl)
theorem Txt.g_TOLD (T : Txt K mg) : mg "TOLD" = some (.ref (He.ga K "TOLD")) := T.all.elim fun _ z => He.glo_ok z.1 z.2 (T.c.fact 64 (f := .glo "TOLD") rfl)
theorem Txt.g_MOST_BOTTOM (T : Txt K mg) : ∃ t, mg "MOST_BOTTOM" = some (.int 1000 t) := T.all.elim fun _ z => He.int_ok z.1 z.2 (T.c.fact 65 (f := .int "MOST_BOTTOM" 1000) rfl)
theorem Txt.g_LAST_DAY (T : Txt K mg) : ∃ t, mg "LAST_DAY" = some (.int 99999 t) := T.all.elim fun _ z => He.int_ok z.1 z.2 (T.c.fact 66 (f := .int "LAST_DAY" 99999) rfl)
theorem Txt.g_MOST_SUM (T : Txt K mg) : ∃ t, mg "MOST_SUM" = some (.int 100000000000 t) := T.all.elim fun _ z => He.int_ok z.1 z.2 (T.c.fact 67 (f := .int "MOST_SUM" 100000000000) rfl)
theorem Txt.g_MOST_WORDS (T : Txt K mg) : ∃ t, mg "MOST_WORDS" = some (.int 20 t) := T.all.elim fun _ z => He.int_ok z.1 z.2 (T.c.fact 68 (f := .int "MOST_WORDS" 20) rfl)
theorem Txt.g_MOST_RANK (T : Txt K mg) : ∃ t, mg "MOST_RANK" = some (.int 9 t) := T.all.elim fun _ z => He.int_ok z.1 z.2 (T.c.fact 69 (f := .int "MOST_RANK" 9) rfl)
theorem Txt.g_FACTS (T : Txt K mg) : mg "FACTS" = some (.ref (He.ga K "FACTS")) := T.all.elim fun _ z => He.glo_ok z.1 z.2 (T.c.fact 70 (f := .glo "FACTS") rfl)
theorem Txt.g_MOST_FACTS (T : Txt K mg) : ∃ t, mg "MOST_FACTS" = some (.int 120 t) := T.all.elim fun _ z => He.int_ok z.1 z.2 (T.c.fact 71 (f := .int "MOST_FACTS" 120) rfl)
theorem Txt.g_Reader (T : Txt K mg) : mg "Reader" = some (.ref (He.ga K "Reader")) := T.all.elim fun _ z => He.glo_ok z.1 z.2 (T.c.fact 72 (f := .glo "Reader") rfl)
theorem Txt.g_BadSign (T : Txt K mg) : mg "BadSign" = some (.ref (He.ga K "BadSign")) := T.all.elim fun _ z => He.glo_ok z.1 z.2 (T.c.fact 73 (f := .glo "BadSign") rfl)
theorem Txt.tup_TOLD (T : Txt K mg) (H : Hp) : SqT K H (He.ga K "TOLD") (dv_TOLD.map (He.Dv.v K)) := He.tupB_ok (exAll_at T.e 0 (by rfl)) H
theorem Txt.tup_FACTS (T : Txt K mg) (H : Hp) : SqT K H (He.ga K "FACTS") (dv_FACTS.map (He.Dv.v K)) := He.tupB_ok (exAll_at T.e 1 (by rfl)) H
theorem Txt.oex_BadSign (T : Txt K mg) : oexB K "BadSign" = true := exAll_at T.e 2 (by rfl)
theorem Txt.ex_0 (T : Txt K mg) : (He.eqO (PySem.W.findIn K (.ref (He.ga K "BadSign")) "spot") (some none)) = true := exAll_at T.e 3 (by rfl)
end
--@also BadSign.__init__
--@also divisor
--@also fraction
--@also run_end
--@also word_end
--@also row_words
--@also text_words
--@also is_name
--@also is_number
--@also Reader.__init__
--@also Reader.need
--@also Reader.peek
--@also Reader.go
--@also Reader.take_word
--@also Reader.take_name
--@also Reader.take_number
--@also Reader.take_fraction
--@also Reader.take_parents
--@also Reader.take_pair
--@also Reader.over
--@also Reader.take_life
--@also Reader.take_instead
--@also Reader.take_last_word
--@also Reader.take_fact
--@also read_fact
--@also read_facts
--@also part_text
--@also word_words
--@also fact_text
--@also written_facts
--@also _law_next
--@also _law_name
--@also _law_pair
--@also _law_part
--@also _law_day
--@also _law_sum
--@also _law_word_fact
--@also _law_fact
--@also _law_fact_words
--@also _law_loose
--@also _law_alike
--@also _law_turned
--@also law
end K02
set_option Elab.async false
set_option linter.all false
set_option maxRecDepth 100000
set_option maxHeartbeats 4000000
local macro_rules | `(tactic| walk_at "w") => `(tactic| repeat (first
  | ((with_reducible refine' My.w_var ?hv ?_); (case hv => rfl))
  | (with_reducible refine My.w_c ?_)
  | (with_reducible refine My.w_seq ?_)
  | (with_reducible refine My.w_set ?_)
  | (with_reducible refine My.w_nx ?_)
  | (with_reducible refine My.w_op ?_)
  | (with_reducible refine My.w_ix ?_)
  | (with_reducible refine My.w_in ?_)
  | (with_reducible refine My.w_nin ?_)
  | (with_reducible refine My.w_cons ?_)
  | (with_reducible refine My.w_nil ?_)
  | (with_reducible refine My.w_cb ?_)
  | (with_reducible refine My.w_call ?_)
  | (with_reducible refine My.w_callS ?_)
  | (with_reducible refine My.w_ret ?_)
  | (with_reducible refine My.w_rt ?_)
  | (with_reducible refine My.w_if ?_)
  | (with_reducible refine My.w_ife ?_)
  | (with_reducible refine My.w_test ?_)
  | (with_reducible refine My.w_B ?_)
  | (with_reducible refine My.w_ebl ?_)
  | (with_reducible refine My.w_and ?_)
  | (with_reducible refine My.w_or ?_)
  | (with_reducible refine My.w_not ?_)
  | (with_reducible refine My.w_andV ?_)
  | (with_reducible refine My.w_orV ?_)
  | (with_reducible refine My.w_notV ?_)
  | (with_reducible refine My.w_eblV ?_)
  | (with_reducible refine My.w_isN ?_)
  | (with_reducible refine My.w_notN ?_)
  | (with_reducible refine My.w_tup ?_)
  | (with_reducible refine My.w_lst ?_)
  | (with_reducible refine My.w_sl ?_)
  | (with_reducible refine My.w_part ?_)
  | (with_reducible refine My.w_nopart ?_)
  | (with_reducible refine My.w_eintV ?_)
  | (with_reducible refine My.w_bm ?_)
  | (with_reducible refine My.w_bm0 ?_)
  | (with_reducible refine My.w_m1 ?_)
  | (with_reducible refine My.w_estr ?_)
  | (with_reducible refine My.w_yes ?_)
  | (with_reducible refine My.w_drop ?_)
  | (with_reducible refine My.w_un ?_)
  | (with_reducible refine My.w_par ?_)
  | (with_reducible refine My.w_epar ?_)
  | ((with_reducible refine' My.w_aug ?hv ?_); (case hv => rfl))
  | (with_reducible refine My.w_ip ?_)
  | (with_reducible refine My.w_put ?_)
  | (with_reducible refine My.w_meth ?_)
  | (with_reducible refine My.w_make ?_)
  | (with_reducible refine My.w_sfld ?_)
  | (with_reducible refine My.w_faug ?_)
  | (with_reducible refine My.w_revL ?_)
  | (with_reducible refine My.w_enum ?_)
  | (with_reducible refine My.w_disp ?_)
  | (with_reducible refine My.w_dnew ?_)
  | (with_reducible refine My.w_pcons ?_)
  | (with_reducible refine My.w_pnil ?_)
  | (with_reducible refine My.w_try ?_)
  | (with_reducible refine My.w_par3 ?_)
  | (with_reducible refine My.w_epar3 ?_)
  | (with_reducible refine My.w_xfA ?_)
  | (with_reducible refine My.w_mkX ?_)
  | (with_reducible refine My.w_fld ?_)
  | (with_reducible refine My.w_for ?_)
  | (with_reducible refine My.w_lc ?_)
  | (with_reducible refine My.w_iA ?_)
  | (with_reducible refine My.w_rng1 ?_)
  | (with_reducible refine My.w_rng2 ?_)
  | (with_reducible refine My.w_raise ?_)
  | (with_reducible refine My.w_chain ?_)
  | (with_reducible refine My.w_asg ?_)
  | (with_reducible refine My.w_gn ?_)
  | (with_reducible refine My.w_next ?_)
  | (with_reducible refine L2.iteT ?_)
  | (with_reducible refine L2.iteF ?_)
  | (with_reducible refine My.w_iteNT ?_)
  | (with_reducible refine My.w_iteNF ?_)
  | (with_reducible refine My.w_cont ?_)
  | (with_reducible refine My.w_break ?_)
  | (with_reducible refine My.w_retN ?_)
  | (with_reducible refine My.w_bk ?_)
  | (with_reducible refine My.w_ct ?_)
  | (with_reducible refine My.st_lt ?_)
  | (with_reducible refine My.st_le ?_)
  | (with_reducible refine My.st_gt ?_)
  | (with_reducible refine My.st_ge ?_)
  | (with_reducible refine My.st_add ?_)
  | (with_reducible refine My.st_sub ?_)
  | (with_reducible refine My.st_in_sign ?_)
  | (with_reducible refine My.st_nin_sign ?_)
  | (with_reducible refine My.st_eq_int ?_)
  | (with_reducible refine My.st_ne_int ?_)
  | (with_reducible refine My.st_eq_str ?_)
  | (with_reducible refine My.st_ne_str ?_)))
namespace K02
open PySem PySem.Spec PyProof.Rows L2 My
section
variable {P : Program} {w : World} {K : PySem.W.Frag} {mg : Str → Option Value} {base : Heap}
/-! ### run_end -/
def pr_run_end : V → V → V → Hp → VK → XK → Prop := fun x y z H Q _ => ∃ (row S : Str) (a : Nat), x = .str row ∧ y = .int (a : Int) ∧ z = .str S ∧ row.length ≤ 100000 ∧ a ≤ row.length ∧ Q (.int ((a + runLen S.cps.toList (row.cps.toList.drop a) : Nat) : Int)) H
def sp_run_end (K : PySem.W.Frag) : Sp := Sp3 pr_run_end
def t_run_end (K : PySem.W.Frag) : TS :=
  (tSeq (tAsg (tVar 1) (gName 3))
  (tSeq (tWhile (tAnd (tTest (tOp rLtA (tVar 3) (tCB (rLenA K) (tCons (tVar 0) tNil)))) (tTest (tOp (rInA K false) (tIxA K (tVar 0) (tVar 3)) (tVar 2)))) (tAug 3 (tC (.int 1)) (ipI fun i j => i + j)))
  (tRet (tVar 3))))
theorem len_toList (z : Str) : z.cps.toList.length = z.length := by simp [Str.length]
theorem at_drop {row : Str} {a : Nat} (h : a < row.length) : ∃ c, row.cps.toList[a]? = some c ∧ row.cps.toList.drop a = c :: row.cps.toList.drop (a + 1) := by
  have h4 : a < row.cps.toList.length := by rw [len_toList]; exact h
  exact ⟨_, List.getElem?_eq_getElem h4, List.drop_eq_getElem_cons h4⟩
theorem pure_run_end (T : Txt K mg) {a b c : V} {H : Hp} {Q : VK} {E : XK} (h : pr_run_end a b c H Q E) : t_run_end K { nx := fun _ H' => Q .non H', rt := Q } [some a, some b, some c, none] H := by
  obtain ⟨row, S, a, rfl, rfl, rfl, hl, ha, k⟩ := h
  unfold t_run_end
  walk_at "w"
  refine ⟨fun m σ H' => H' = H ∧ ∃ e : Nat, m = row.length - e ∧ e ≤ row.length ∧ a + runLen S.cps.toList (row.cps.toList.drop a) = e + runLen S.cps.toList (row.cps.toList.drop e) ∧
    σ = [some (.str row), some (.int (a : Int)), some (.str S), some (.int (e : Int))], ⟨_, rfl, a, rfl, ha, rfl, rfl⟩, ?_⟩
  rintro m σ H' ⟨rfl, e, rfl, he, hr, rfl⟩
  walk_at "w"
  refine st_len_str (by omega) ?_
  walk_at "w"
  have fin : e + runLen S.cps.toList (row.cps.toList.drop e) = e → Q (.int (e : Int)) H' := fun z => by
    rw [hr, z] at k
    exact k
  refine ite2 (fun h1 => ?_) (fun h1 => ?_)
  · have h2 : e < row.length := by have := of_decide_eq_true h1; omega
    obtain ⟨c, h3, hd⟩ := at_drop h2
    walk_at "w"
    refine st_ix_str (by omega) h3 ?_
    walk_at "w"
    refine ite2 (fun hc => ?_) (fun hc => ?_)
    · refine ⟨_, fun _ _ z => z, ?_⟩
      walk_at "w"
      refine ⟨row.length - (e + 1), by omega, rfl, e + 1, rfl, by omega, ?_, rfl⟩
      rw [hr, hd, runLen_in (of_decide_eq_true hc)]
      omega
    · walk_at "w"
      refine fin ?_
      rw [hd, runLen_out (fun z => hc (decide_eq_true z))]
      rfl
  · have h2 : ¬ e < row.length := by intro z; exact h1 (decide_eq_true (by omega))
    walk_at "w"
    refine fin ?_
    rw [List.drop_eq_nil_of_le (by rw [len_toList]; omega)]
    rfl
theorem ok_run_end (T : Txt K mg)  : Kp P w K mg base CX0 1 "run_end" ["row", "at", "signs"] (sp_run_end K) := by
  obtain ⟨fd, F⟩ := T.c.def_ 3 (d := d_run_end) rfl
  refine ⟨⟨_, fd, T.g_run_end, F.kp, F.bindsN fun _ _ _ _ _ _ us hl => match us, hl with | [_, _, _], _ => rfl, F.ok sc_run_end Sp3.len (fun cdv A outer s H vs Q E hr h => ?_)⟩⟩
  obtain ⟨v0, v1, v2, rfl, h⟩ := h
  refine ⟨t_run_end K, PSs.nox (?_), pure_run_end T h⟩
  exact (pss_cons (ps_set (i := 3) sc_run_end.nd rfl (by first | exact Or.inl rfl | exact Or.inr rfl) (pv 1))
      (pss_cons (ps_while PassesOwn.never (PW.pt (pw_and (pt_cmpR op_ltA (pv 3) (pe_callB call_len (by rfl) T.n_len (by decide +kernel) (pa_cons (pv 0) pa_nil)) (nomark _)) (pw_and1 (pt_cmpR (op_inA hr) (pe_ixA hr (pv 0) (pv 3) (fun _ _ => rfl)) (pv 2) (by rfl))))) (pss_one (ps_aug (i := 3) sc_run_end.nd rfl (by first | exact Or.inl rfl | exact Or.inr rfl) pe_int ip_add)))
      (pss_one (ps_ret (pv 3)))))
/-! ### word_end -/
def pr_word_end : V → V → Hp → VK → XK → Prop := fun x y H Q _ => ∃ (row : Str) (a : Nat), x = .str row ∧ y = .int (a : Int) ∧ row.length ≤ 100000 ∧ a < row.length ∧ Q (match wordLen (row.cps.toList.drop a) with | some n => .int ((a + n : Nat) : Int) | none => .int (-1)) H
def sp_word_end (K : PySem.W.Frag) : Sp := Sp2 pr_word_end
def t_word_end (K : PySem.W.Frag) : TS :=
  (tSeq (tIfS (tTest (tOp (rEqA K) (tIxA K (tVar 0) (tVar 1)) (tC (.str "/")))) (tRet (tOp (rAddA K) (tVar 1) (tC (.int 1)))) tNext)
  (tSeq (tIfS (tTest (tOp (rInA K false) (tIxA K (tVar 0) (tVar 1)) (tC (.str "abcdefghijklmnopqrstuvwxyz")))) (tSeq (tAsg (tCall (sp_run_end K) [] E0 (tCons (tVar 0) (tCons (tVar 1) (tCons (tC (.str "abcdefghijklmnopqrstuvwxyz")) tNil)))) (gName 2))
  (tRet (tIf (tTest (tOp rLeA (tOp rSubI (tVar 2) (tVar 1)) (tC (.int 8)))) (tVar 2) (tUn rNegI (tC (.int 1)))))) tNext)
  (tSeq (tAsg (tCall (sp_run_end K) [] E0 (tCons (tVar 0) (tCons (tVar 1) (tCons (tC (.str "0123456789")) tNil)))) (gName 2))
  (tRet (tIf (tAnd (tTest (tChain rLtA rLeA (tC (.int 0)) (tOp rSubI (tVar 2) (tVar 1)) (tC (.int 12)))) (tOr (tTest (tOp (rNeA K) (tIxA K (tVar 0) (tVar 1)) (tC (.str "0")))) (tTest (tOp (rEqA K) (tOp rSubI (tVar 2) (tVar 1)) (tC (.int 1)))))) (tVar 2) (tUn rNegI (tC (.int 1))))))))
theorem pure_word_end (T : Txt K mg) {a b : V} {H : Hp} {Q : VK} {E : XK} (h : pr_word_end a b H Q E) : t_word_end K { nx := fun _ H' => Q .non H', rt := Q } [some a, some b, none] H := by
  obtain ⟨row, a, rfl, rfl, hl, ha, k⟩ := h
  obtain ⟨c, h3, hd⟩ := at_drop ha
  rw [hd] at k
  have e8 : ("/" : Str) = ⟨#[47]⟩ := by decide +kernel
  have e0 : ("0" : Str) = ⟨#[48]⟩ := by decide +kernel
  unfold wordLen at k
  unfold t_word_end
  walk_at "w"
  refine st_ix_str (by omega) h3 ?_
  walk_at "w"
  rw [sign_dec e8]
  refine ite2 (fun h1 => ?_) (fun h1 => ?_)
  · have hc := of_decide_eq_true h1
    dsimp only at k
    rw [if_pos hc] at k
    walk_at "w"
    exact k
  · have hc : c ≠ 47 := fun e => h1 (decide_eq_true e)
    dsimp only at k
    rw [if_neg hc] at k
    walk_at "w"
    refine st_ix_str (by omega) h3 ?_
    walk_at "w"
    refine ite2 (fun h1 => ?_) (fun h1 => ?_)
    · have hL : c ∈ LET := of_decide_eq_true h1
      rw [if_pos hL] at k
      walk_at "w"
      refine ⟨_, _, _, rfl, row, LETs, a, rfl, rfl, rfl, hl, by omega, ?_⟩
      walk_at "w"
      rw [hd]
      generalize runLen LET (c :: row.cps.toList.drop (a + 1)) = n at *
      refine ite2 (fun h2 => ?_) (fun h2 => ?_)
      · have h3 := of_decide_eq_true h2
        rw [if_pos (by omega)] at k
        walk_at "w"
        exact k
      · have h3 : ¬ n ≤ 8 := fun z => h2 (decide_eq_true (by omega))
        rw [if_neg h3] at k
        walk_at "w"
        exact ⟨1, rfl, k⟩
    · have hL : c ∉ LET := fun z => h1 (decide_eq_true z)
      rw [if_neg hL] at k
      walk_at "w"
      refine ⟨_, _, _, rfl, row, FIGs, a, rfl, rfl, rfl, hl, by omega, ?_⟩
      walk_at "w"
      rw [hd]
      generalize runLen FIG (c :: row.cps.toList.drop (a + 1)) = n at *
      have no : ¬ (0 < n ∧ n ≤ 12 ∧ (c ≠ 48 ∨ n = 1)) → Q (.int (-1)) H := fun z => by
        rw [if_neg z] at k
        exact k
      refine ite2 (fun h2 => ?_) (fun h2 => ?_)
      · have h4 : 0 < n := by have := of_decide_eq_true h2; omega
        walk_at "w"
        refine ite2 (fun h5 => ?_) (fun h5 => ?_)
        · have h6 : n ≤ 12 := by have := of_decide_eq_true h5; omega
          walk_at "w"
          refine st_ix_str (by omega) h3 ?_
          walk_at "w"
          rw [sign_dec e0]
          refine ite2 (fun h7 => ?_) (fun h7 => ?_)
          · have h8 : c ≠ 48 := by simpa using h7
            rw [if_pos ⟨h4, h6, .inl h8⟩] at k
            walk_at "w"
            exact k
          · have h8 : c = 48 := by simpa using h7
            walk_at "w"
            refine ite2 (fun h9 => ?_) (fun h9 => ?_)
            · have h10 : n = 1 := by have := of_decide_eq_true h9; omega
              rw [if_pos ⟨h4, h6, .inr h10⟩] at k
              walk_at "w"
              exact k
            · have h10 : ¬ n = 1 := fun z => h9 (decide_eq_true (by omega))
              walk_at "w"
              exact ⟨1, rfl, no (by omega)⟩
        · have h6 : ¬ n ≤ 12 := fun z => h5 (decide_eq_true (by omega))
          walk_at "w"
          exact ⟨1, rfl, no (by omega)⟩
      · have h4 : ¬ 0 < n := fun z => h2 (decide_eq_true (by omega))
        walk_at "w"
        exact ⟨1, rfl, no (by omega)⟩
theorem ok_word_end (T : Txt K mg) (c_run_end : Kp P w K mg base CX0 1 "run_end" ["row", "at", "signs"] (sp_run_end K)) : Kp P w K mg base CX0 2 "word_end" ["row", "at"] (sp_word_end K) := by
  obtain ⟨fd, F⟩ := T.c.def_ 4 (d := d_word_end) rfl
  refine ⟨⟨_, fd, T.g_word_end, F.kp, F.bindsN fun _ _ _ _ _ _ us hl => match us, hl with | [_, _], _ => rfl, F.ok sc_word_end Sp2.len (fun cdv A outer s H vs Q E hr h => ?_)⟩⟩
  obtain ⟨v0, v1, rfl, h⟩ := h
  refine ⟨t_word_end K, PSs.nox (?_), pure_word_end T h⟩
  exact (pss_cons (ps_if (pt_cmpR (op_eqA hr) (pe_ixA hr (pv 0) (pv 1) (fun _ _ => rfl)) pe_str (nomark _)) (pss_one (ps_ret (pe_op op_addA (pv 1) pe_int))) pss_nil)
      (pss_cons (ps_if (pt_cmpR (op_inA hr) (pe_ixA hr (pv 0) (pv 1) (fun _ _ => rfl)) (pe_gs rfl T.g_LETTERS) (by rfl)) (pss_cons (ps_set (i := 2) sc_word_end.nd rfl (by first | exact Or.inl rfl | exact Or.inr rfl) (pe_cK c_run_end (hr.mono (by decide)) rfl (pa_cons (pv 0) (pa_cons (pv 1) (pa_cons (pe_gs rfl T.g_LETTERS) pa_nil)))))
      (pss_one (ps_ret (pe_ifExp (pt_cmpR op_leA (pe_op op_sub (pv 2) (pv 1)) (pe_gi rfl T.g_MOST_LETTERS) (nomark _)) (pv 2) (pe_un un_neg pe_int))))) pss_nil)
      (pss_cons (ps_set (i := 2) sc_word_end.nd rfl (by first | exact Or.inl rfl | exact Or.inr rfl) (pe_cK c_run_end (hr.mono (by decide)) rfl (pa_cons (pv 0) (pa_cons (pv 1) (pa_cons (pe_gs rfl T.g_FIGURES) pa_nil)))))
      (pss_one (ps_ret (pe_ifExp (PW.pt (pw_and (pt_chain op_ltA op_leA pe_int (pe_op op_sub (pv 2) (pv 1)) (pe_gi rfl T.g_MOST_FIGURES)) (pw_and1 (PW.pt (pw_or (pt_cmpR (op_neA hr) (pe_ixA hr (pv 0) (pv 1) (fun _ _ => rfl)) pe_str (nomark _)) (pw_or1 (pt_cmpR (op_eqA hr) (pe_op op_sub (pv 2) (pv 1)) pe_int (nomark _)))))))) (pv 2) (pe_un un_neg pe_int)))))))
/-! ### the errors -/
def sp_BadSign___init__ (K : PySem.W.Frag) : Sp := Sp2 (pr_init K "BadSign" "spot")
def t_BadSign___init__ (K : PySem.W.Frag) : TS :=
  (tOst K "spot" (tVar 0) (tVar 1))
theorem pure_init {C f : Str} (o : oexB K C = true) (no : PySem.W.findIn K (.ref (He.ga K C)) f = some none) {a b : V} {H : Hp} {Q : VK} {E : XK} (h : pr_init K C f a b H Q E) :
    tOst K f (tVar 0) (tVar 1) { nx := fun _ H' => Q .non H', rt := Q } [some a, some b] H := by
  obtain ⟨x, rfl, hx, k⟩ := h
  exact ⟨_, rfl, _, rfl, x, _, rfl, (oexA_of o).o, no, .inl ⟨hx, k⟩⟩
theorem pure_BadSign___init__ (T : Txt K mg) {a b : V} {H : Hp} {Q : VK} {E : XK} (h : pr_init K "BadSign" "spot" a b H Q E) : t_BadSign___init__ K { nx := fun _ H' => Q .non H', rt := Q } [some a, some b] H := pure_init T.oex_BadSign (He.eqO_ok T.ex_0) h
theorem ok_BadSign___init__ (T : Txt K mg)  : Kf P w K mg base CX0 1 (He.ma K (He.ga K "BadSign") "__init__") ["self", "spot"] (sp_BadSign___init__ K) := by
  obtain ⟨fd, F⟩ := T.c.def_ 0 (d := d_BadSign___init__) rfl
  refine ⟨⟨fd, F.kp, F.bindsN fun _ _ _ _ _ _ us hl => match us, hl with | [_, _], _ => rfl, F.ok sc_BadSign___init__ Sp2.len (fun cdv A outer s H vs Q E hr h => ?_)⟩⟩
  obtain ⟨v0, v1, rfl, h⟩ := h
  refine ⟨t_BadSign___init__ K, PSs.nox (?_), pure_BadSign___init__ T h⟩
  exact (pss_one (ps_ost (pv 0) (pv 1)))
/-! ### row_words -/
def pr_row_words (K : PySem.W.Frag) : V → V → Hp → VK → XK → Prop := fun x y H Q E => ∃ (row : Str) (b : Nat), x = .str row ∧ y = .int (b : Int) ∧ row.length ≤ 100000 ∧
  match rowScan b [] row.cps.toList with
  | .ok ws => ∀ p H', Same H H' → H p = none → H' p = some (.lst (ws.map txt)) → Q (.ref p) H'
  | .error e => RaisedI K "BadSign" "spot" (.int (e : Int)) H E
def sp_row_words (K : PySem.W.Frag) : Sp := Sp2 (pr_row_words K)
def t_row_words (K : PySem.W.Frag) (E : XK) : TS :=
  (tSeq (tAsg (tLst tNil) (gName 2))
  (tSeq (tAsg (tC (.int 0)) (gName 3))
  (tSeq (tWhile (tTest (tOp rLtA (tVar 3) (tCB (rLenA K) (tCons (tVar 0) tNil)))) (tSeq (tIfS (tTest (tOp (rEqA K) (tIxA K (tVar 0) (tVar 3)) (tC (.str " ")))) (tSeq (tAug 3 (tC (.int 1)) (ipI fun i j => i + j))
  tCont) tNext)
  (tSeq (tAsg (tCall (sp_word_end K) [] E0 (tCons (tVar 0) (tCons (tVar 3) tNil))) (gName 4))
  (tSeq (tIfS (tTest (tOp rLtA (tVar 4) (tC (.int 0)))) (tRaiseX (He.ga K "BadSign") (sp_BadSign___init__ K) (fun cls d _ H => E cls d H) (tCons (tOp (rAddA K) (tVar 1) (tVar 3)) tNil)) tNext)
  (tSeq (tDrop (tBM K "list" rAppend (tVar 2) (tCons (tSl (rSlA K) (tVar 0) (tPart (tVar 3)) (tPart (tVar 4))) tNil)))
  (tAsg (tVar 4) (gName 3)))))))
  (tRet (tVar 2)))))
theorem rowScan_len : ∀ (n : Nat) (l : List Nat), l.length ≤ n → ∀ b cur ws, rowScan b cur l = .ok ws → ws.length ≤ cur.length + l.length := by
  intro n
  induction n with
  | zero =>
    intro l hl b cur ws h
    cases l with
    | nil => rw [rowScan_nil] at h; cases h; simp
    | cons => simp at hl
  | succ n ih =>
    intro l hl b cur ws h
    cases l with
    | nil => rw [rowScan_nil] at h; cases h; simp
    | cons c t =>
      simp only [List.length_cons] at hl
      by_cases hc : c = 32
      · subst hc
        rw [rowScan_blank] at h
        have := ih t (by omega) _ _ _ h
        simp only [List.length_cons]; omega
      · cases hw : wordLen (c :: t) with
        | none => rw [rowScan_bad hc hw] at h; cases h
        | some m =>
          have hm := wordLen_le hw
          rw [rowScan_word hc hw] at h
          simp only [List.length_cons] at hm
          have := ih _ (by simp only [List.length_drop, List.length_cons]; omega) _ _ _ h
          simp only [List.length_drop, List.length_cons, List.length_append, List.length_nil] at *
          omega
theorem pure_row_words (T : Txt K mg) {x y : V} {H : Hp} {Q : VK} {E : XK} (h : pr_row_words K x y H Q E) : t_row_words K E { nx := fun _ H' => Q .non H', rt := Q } [some x, some y, none, none, none] H := by
  obtain ⟨row, b, rfl, rfl, hl, k⟩ := h
  have e32 : (" " : Str) = ⟨#[32]⟩ := by decide +kernel
  unfold t_row_words
  walk_at "w"
  refine ⟨Nat.zero_le _, fun p hp => ?_⟩
  walk_at "w"
  refine ⟨fun m σ H' => ∃ (a : Nat) (ws : List (List Nat)) (v : Option V), m = row.length - a ∧ a ≤ row.length ∧ ws.length ≤ a ∧ σ = [some (.str row), some (.int (b : Int)), some (.ref p), some (.int (a : Int)), v] ∧ Same H H' ∧ H' p = some (.lst (ws.map txt)) ∧
    rowScan b [] row.cps.toList = rowScan (b + a) ws (row.cps.toList.drop a), ⟨_, 0, [], none, rfl, Nat.zero_le _, Nat.zero_le _, rfl, same_new hp, upd_same, rfl⟩, ?_⟩
  rintro m σ H' ⟨a, ws, v, rfl, ha, hws, rfl, hs, hL, hr⟩
  walk_at "w"
  refine st_len_str (by omega) ?_
  walk_at "w"
  refine ite2 (fun h1 => ?_) (fun h1 => ?_)
  · have h2 : a < row.length := by have := of_decide_eq_true h1; omega
    obtain ⟨c, h3, hd⟩ := at_drop h2
    refine ⟨_, fun _ _ z => z, ?_⟩
    walk_at "w"
    refine st_ix_str (by omega) h3 ?_
    walk_at "w"
    rw [sign_dec e32]
    rw [hd] at hr
    refine ite2 (fun hc => ?_) (fun hc => ?_)
    · have hc := of_decide_eq_true hc
      subst hc
      walk_at "w"
      exact ⟨row.length - (a + 1), by omega, a + 1, ws, v, rfl, by omega, by omega, rfl, hs, hL, by rw [hr, rowScan_blank]; rfl⟩
    · have hc : c ≠ 32 := fun z => hc (decide_eq_true z)
      walk_at "w"
      refine ⟨_, _, rfl, row, a, rfl, rfl, hl, h2, ?_⟩
      rw [hd]
      cases hw : wordLen (c :: row.cps.toList.drop (a + 1)) with
      | none =>
        rw [rowScan_bad hc hw] at hr
        rw [hr] at k
        dsimp only
        walk_at "w"
        refine ite2 (fun _ => ?_) (fun z => absurd (by decide) z)
        walk_at "w"
        exact raise_ok k hs
      | some n =>
        have hn := wordLen_le hw
        have hn2 : n ≤ row.length - a := by
          have := congrArg List.length hd
          rw [List.length_drop, len_toList] at this
          rw [← this] at hn
          omega
        rw [rowScan_word hc hw] at hr
        dsimp only
        walk_at "w"
        refine ite2 (fun z => absurd (of_decide_eq_true z) (by omega)) (fun _ => ?_)
        walk_at "w"
        refine ⟨.inl ⟨rfl, _, SqL.of hL⟩, ?_⟩
        walk_at "w"
        refine st_slice_str (by omega) ?_
        walk_at "w"
        refine ⟨p, _, _, rfl, rfl, hL, small_lt _ (by rw [List.length_map]; omega), ?_⟩
        walk_at "w"
        refine ⟨row.length - (a + n), by omega, a + n, ws ++ [(c :: row.cps.toList.drop (a + 1)).take n], _, rfl, by omega, by rw [List.length_append, List.length_singleton]; omega, rfl, Same.mut hs hp, ?_, ?_⟩
        · rw [upd_same, List.map_append]
          congr 3
          show [V.str (cutS row (some (a : Int)) (some ((a + n : Nat) : Int)))] = [V.str _]
          congr 2
          rw [cutS_nat (by omega) (by omega), hd]
          congr 2
          omega
        · rw [hr, ← hd, List.drop_drop]
          congr 1
          omega
  · have h2 : ¬ a < row.length := by intro z; exact h1 (decide_eq_true (by omega))
    walk_at "w"
    rw [List.drop_eq_nil_of_le (by rw [len_toList]; omega), rowScan_nil] at hr
    rw [hr] at k
    exact k p H' hs hp hL
theorem ok_row_words (T : Txt K mg) (c_word_end : Kp P w K mg base CX0 2 "word_end" ["row", "at"] (sp_word_end K)) (x_BadSign : Kx P w K mg base 1 "BadSign" ["self", "spot"] (sp_BadSign___init__ K)) : Kp P w K mg base (L2.CX P w) 3 "row_words" ["row", "begin"] (sp_row_words K) := by
  obtain ⟨fd, F⟩ := T.c.def_ 5 (d := d_row_words) rfl
  refine ⟨⟨_, fd, T.g_row_words, F.kp, F.bindsN fun _ _ _ _ _ _ us hl => match us, hl with | [_, _], _ => rfl, F.ok sc_row_words Sp2.len (fun cdv A outer s H vs Q E hr h => ?_)⟩⟩
  obtain ⟨v0, v1, rfl, h⟩ := h
  refine ⟨t_row_words K E, ?_, pure_row_words T h⟩
  exact (pss_cons (ps_set (i := 2) sc_row_words.nd rfl (by first | exact Or.inl rfl | exact Or.inr rfl) (pe_lst pa_nil))
      (pss_cons (ps_set (i := 3) sc_row_words.nd rfl (by first | exact Or.inl rfl | exact Or.inr rfl) pe_int)
      (pss_cons (ps_while (passes_of rfl) (pt_cmpR op_ltA (pv 3) (pe_callB call_len (by rfl) T.n_len (by decide +kernel) (pa_cons (pv 0) pa_nil)) (nomark _)) (pss_cons (ps_if (pt_cmpR (op_eqA hr) (pe_ixA hr (pv 0) (pv 3) (fun _ _ => rfl)) pe_str (nomark _)) (pss_cons (ps_aug (i := 3) sc_row_words.nd rfl (by first | exact Or.inl rfl | exact Or.inr rfl) pe_int ip_add)
      (pss_one ps_continue)) pss_nil)
      (pss_cons (ps_set (i := 4) sc_row_words.nd rfl (by first | exact Or.inl rfl | exact Or.inr rfl) (pe_cK c_word_end (hr.mono (by decide)) rfl (pa_cons (pv 0) (pa_cons (pv 3) pa_nil))))
      (pss_cons (ps_if (pt_cmpR op_ltA (pv 4) pe_int (nomark _)) (pss_one (ps_raise rfl (takes_of rfl rfl rfl rfl) (pmk_X x_BadSign (hr.mono (by decide)) rfl (pa_cons (pe_op op_addA (pv 1) (pv 3)) pa_nil)))) pss_nil)
      (pss_cons (ps_expr (pe_bm PySem.F.plainAttrs_list PySem.F.slot_list_append PySem.F.type_list_append mt_append (pv 2) (pa_cons (pe_slice sl_A (pv 0) (po_some (pv 3)) (po_some (pv 4))) pa_nil)))
      (pss_one (ps_set (i := 3) sc_row_words.nd rfl (by first | exact Or.inl rfl | exact Or.inr rfl) (pv 4))))))))
      (pss_one (ps_ret (pv 2))))))
/-! ### text_words -/
/-- at p a new list of new lists of texts -/
structure RowsAt (H H' : Hp) (p : Addr) (rows : List (List (List Nat))) : Prop where
  ex : ∃ ps : List Addr, H' p = some (.lst (ps.map V.ref)) ∧ H p = none ∧ (∀ q ∈ ps, H q = none) ∧ (p :: ps).Nodup ∧ Paired (fun q ws => H' q = some (.lst ((ws : List (List Nat)).map txt))) ps rows
def pr_text_words (K : PySem.W.Frag) : V → Hp → VK → XK → Prop := fun x H Q E =>
  (∃ z : Str, x = .str z ∧ z.length ≤ 100000 ∧ if z.length ≤ 8000 then (match scan 0 [] [] z.cps.toList with
    | .ok rows => ∀ p H', Same H H' → RowsAt H H' p rows → Q (.ref p) H'
    | .error e => RaisedI K "BadSign" "spot" (.int (e : Int)) H E) else RaisedI K "BadSign" "spot" (.int 0) H E) ∨
  (∃ t, TyX K H x t ∧ PySem.W.kitOne K t (.type "str") = some false ∧ RaisedI K "BadSign" "spot" (.int 0) H E)
def sp_text_words (K : PySem.W.Frag) : Sp := Sp1 (pr_text_words K)
def t_text_words (K : PySem.W.Frag) (E : XK) : TS :=
  (tSeq (tIfS (tOr (tNot (tB (tCB (rIsA K) (tCons (tVar 0) (tCons (tC (.ty "str")) tNil))))) (tTest (tOp rGtA (tCB (rLenA K) (tCons (tVar 0) tNil)) (tC (.int 8000))))) (tRaiseX (He.ga K "BadSign") (sp_BadSign___init__ K) (fun cls d _ H => E cls d H) (tCons (tC (.int 0)) tNil)) tNext)
  (tSeq (tAsg (tLst tNil) (gName 1))
  (tSeq (tAsg (tC (.int 0)) (gName 2))
  (tSeq (tFor (iA K (tM1 rSplitA (tVar 0) (tC (.str "\n")))) (gName 3) (tSeq (tDrop (tBM K "list" rAppend (tVar 1) (tCons (tCallS (sp_row_words K) (WE (fun cls d _ H => E cls d H)) (tCons (tVar 3) (tCons (tVar 2) tNil))) tNil)))
  (tAug 2 (tOp (rAddA K) (tCB (rLenA K) (tCons (tVar 3) tNil)) (tC (.int 1))) (ipI fun i j => i + j))))
  (tRet (tVar 1))))))
theorem rowsScan_app : ∀ (ls : List (List Nat)) (b : Nat) (rows : List (List (List Nat))), rowsScan b rows ls = (rowsScan b [] ls).map (fun r => rows ++ r)
  | [], b, rows => by
    show Except.ok rows = Except.ok (rows ++ [])
    rw [List.append_nil]
  | l :: ls, b, rows => by
    show (rowScan b [] l).bind _ = ((rowScan b [] l).bind _).map _
    cases rowScan b [] l with
    | error e => rfl
    | ok ws =>
      show rowsScan _ (rows ++ [ws]) ls = (rowsScan _ ([] ++ [ws]) ls).map _
      rw [rowsScan_app ls _ (rows ++ [ws]), rowsScan_app ls _ ([] ++ [ws])]
      cases rowsScan (b + l.length + 1) [] ls with
      | error e => rfl
      | ok r => show Except.ok _ = Except.ok _; simp
theorem spl_lens : ∀ (l acc : List Nat) (x : List Nat), x ∈ TL.spl [10] 0 acc l → x.length ≤ acc.length + l.length
  | [], acc, x, h => by
    rw [TL.spl_nil] at h
    have := List.mem_singleton.mp h
    subst this; simp
  | c :: r, acc, x, h => by
    by_cases hc : TL.pre [10] (c :: r) = true
    · rw [TL.spl_hit hc] at h
      rcases List.mem_cons.mp h with e | e
      · subst e; simp
      · have := spl_lens r [] x e
        simp only [List.length_nil, List.length_cons] at *; omega
    · rw [TL.spl_miss (by simpa using hc)] at h
      have := spl_lens r _ x h
      simp only [List.length_append, List.length_cons, List.length_nil] at *; omega
theorem spl_count : ∀ (l acc : List Nat), (TL.spl [10] 0 acc l).length ≤ l.length + 1
  | [], acc => by rw [TL.spl_nil]; simp
  | c :: r, acc => by
    by_cases hc : TL.pre [10] (c :: r) = true
    · rw [TL.spl_hit hc]
      have := spl_count r []
      have h0 : ([10] : List Nat).length - 1 = 0 := rfl
      rw [h0]
      simp only [List.length_cons, List.length_nil] at *; omega
    · rw [TL.spl_miss (by simpa using hc)]
      have := spl_count r (acc ++ [c])
      simp only [List.length_cons] at *; omega
theorem pure_text_words (T : Txt K mg) {x : V} {H : Hp} {Q : VK} {E : XK} (h : pr_text_words K x H Q E) : t_text_words K E { nx := fun _ H' => Q .non H', rt := Q } [some x, none, none, none] H := by
  unfold t_text_words
  rcases h with ⟨z, rfl, hz, k⟩ | ⟨t, ht, kt, k⟩
  · walk_at "w"
    refine st_isi (.ty _) tx_str (kit_ty (r := true) (by decide +kernel)) ?_
    walk_at "w"
    refine st_len_str (by omega) ?_
    walk_at "w"
    refine ite2 (fun h1 => ?_) (fun h1 => ?_)
    · have h2 := of_decide_eq_true h1
      rw [if_neg (by omega)] at k
      walk_at "w"
      exact raise_ok k (Same.refl _)
    · have h2 : z.length ≤ 8000 := by
        have : ¬ (8000 : Int) < z.length := fun e => h1 (decide_eq_true e)
        omega
      rw [if_pos h2] at k
      walk_at "w"
      refine ⟨Nat.zero_le _, fun p hp => ?_⟩
      walk_at "w"
      have e10 : ("\n" : Str) = S [10] := by decide +kernel
      rw [e10]
      refine ⟨z, S [10], rfl, rfl, rfl, Nat.le_trans (by omega : z.length + 2 ≤ 100002) (by decide), fun q hq => ?_⟩
      have hsp : (Txt.split z (S [10])).map TL.tl = lines z.cps.toList := TL.split_spl z (S [10]) (by decide) (TL.kind_ok (by decide +kernel))
      have hqp : q ≠ p := fun e => by rw [e, upd_same] at hq; cases hq
      have hq0 : H q = none := by rw [upd_ne hqp] at hq; exact hq
      generalize Txt.split z (S [10]) = rs at *
      have hcount : rs.length ≤ z.length + 1 := by
        have h3 := congrArg List.length hsp
        rw [List.length_map] at h3
        rw [h3, ← len_toList z]
        exact spl_count _ _
      have hlens : ∀ r ∈ rs, r.length ≤ z.length := fun r hr => by
        have h3 : TL.tl r ∈ lines z.cps.toList := by rw [← hsp]; exact List.mem_map_of_mem hr
        have h4 := spl_lens _ [] _ h3
        rw [← len_toList r, ← len_toList z]
        simpa using h4
      rw [scan_lines _ _ (Nat.le_refl _), ← hsp] at k
      refine .inl ⟨q, rfl, ⟨_, SqL.of upd_same⟩, ?_⟩
      refine for_list (K := K) (a := q) (xs := rs.map V.str) (fun i σ H' => ∃ (ps : List Addr) (ws : List (List (List Nat))) (b : Nat) (v : Option V), σ = [some (.str z), some (.ref p), some (.int (b : Int)), v] ∧
          Same H H' ∧ H' q = some (.lst (rs.map V.str)) ∧ H' p = some (.lst (ps.map V.ref)) ∧ (∀ y ∈ ps, H y = none) ∧ q ∉ ps ∧ (p :: ps).Nodup ∧ Paired (fun y ws => H' y = some (.lst ((ws : List (List Nat)).map txt))) ps ws ∧ ps.length = i ∧
          rowsScan 0 [] (rs.map TL.tl) = rowsScan b ws ((rs.drop i).map TL.tl))
        ⟨[], [], 0, none, rfl, (same_new hp).trans (same_new hq), upd_same, by rw [upd_ne hqp.symm, upd_same]; rfl, (fun _ z => by cases z), (fun z => by cases z), List.nodup_cons.mpr ⟨(fun z => by cases z), List.nodup_nil⟩, Paired.nil, rfl, rfl⟩ (fun i σ H' _ ⟨_, _, _, _, _, _, h, _⟩ => SqL.of h) ?_ ?_
      · rintro i y σ H' hi ⟨ps, ws, b, v, rfl, hs, hQ, hP, hps, hqps, hnd, pr, hlen, hk⟩
        obtain ⟨r, hr, rfl⟩ : ∃ r, rs[i]? = some r ∧ y = .str r := by
          rw [List.getElem?_map] at hi
          cases e : rs[i]? with
          | none => rw [e] at hi; cases hi
          | some r => rw [e] at hi; exact ⟨r, rfl, (Option.some.inj hi).symm⟩
        obtain ⟨hil, hie⟩ := List.getElem?_eq_some_iff.mp hr
        have hrl := hlens r (List.mem_of_getElem? hr)
        have hdrop : (rs.drop i).map TL.tl = r.cps.toList :: (rs.drop (i + 1)).map TL.tl := by
          rw [List.drop_eq_getElem_cons hil, hie]; rfl
        rw [hdrop] at hk
        have hk2 : rowsScan 0 [] (rs.map TL.tl) = (rowScan b [] r.cps.toList).bind fun w => rowsScan (b + r.cps.toList.length + 1) (ws ++ [w]) ((rs.drop (i + 1)).map TL.tl) := hk
        walk_at "w"
        refine ⟨.inl ⟨rfl, _, SqL.of hP⟩, ?_⟩
        walk_at "w"
        refine ⟨_, _, rfl, r, b, rfl, rfl, by omega, ?_⟩
        cases hrow : rowScan b [] r.cps.toList with
        | error e =>
          rw [hrow] at hk2
          have hk3 : rowsScan 0 [] (rs.map TL.tl) = .error e := hk2
          rw [hk3] at k
          exact fun d H'' s0 hd hx => k d H'' (hs.trans s0) (hs.free hd) hx
        | ok w =>
          rw [hrow] at hk2
          have hk3 : rowsScan 0 [] (rs.map TL.tl) = rowsScan (b + r.cps.toList.length + 1) (ws ++ [w]) ((rs.drop (i + 1)).map TL.tl) := hk2
          intro l H'' s2 hl hL
          have hlp : l ≠ p := fun e => by rw [e, hP] at hl; cases hl
          have hlq : l ≠ q := fun e => by rw [e, hQ] at hl; cases hl
          have hlps : l ∉ ps := fun hm => by
            obtain ⟨j, hj⟩ := List.getElem?_of_mem hm
            obtain ⟨ww, _, e⟩ := pget pr hj
            rw [hl] at e; cases e
          refine ⟨p, _, _, rfl, rfl, s2 _ _ hP, small_lt _ (by rw [List.length_map]; omega), ?_⟩
          walk_at "w"
          refine st_len_str (by omega) ?_
          walk_at "w"
          have e5 : ((b : Int) + ((r.length : Int) + 1)) = ((b + r.cps.toList.length + 1 : Nat) : Int) := by rw [len_toList]; omega
          refine ⟨ps ++ [l], ws ++ [w], b + r.cps.toList.length + 1, some (.str r), by rw [e5]; rfl, Same.mut (hs.trans s2) hp, ?_, ?_, ?_, ?_, ?_, ?_, ?_, hk3⟩
          · rw [upd_ne hqp]; exact s2 _ _ hQ
          · rw [upd_same, List.map_append]; rfl
          · intro y hy
            rcases List.mem_append.mp hy with h1 | h1
            · exact hps y h1
            · rw [List.mem_singleton.mp h1]; exact hs.free hl
          · intro hm
            rcases List.mem_append.mp hm with h1 | h1
            · exact hqps h1
            · exact hlq (List.mem_singleton.mp h1).symm
          · rw [← List.cons_append]
            refine List.nodup_append.mpr ⟨hnd, by simp, fun y hy u hu e => ?_⟩
            rw [List.mem_singleton.mp hu] at e
            subst e
            rcases List.mem_cons.mp hy with h1 | h1
            · exact hlp h1
            · exact hlps h1
          · have np : ∀ y ∈ ps, y ≠ p := fun y hy e => by
              rw [e] at hy
              exact (List.nodup_cons.mp hnd).1 hy
            refine paired_snoc (paired_mem pr fun y w hy e => ?_) ?_
            · rw [upd_ne (np y hy)]; exact s2 _ _ e
            · rw [upd_ne hlp]; exact hL
          · rw [List.length_append, hlen]; rfl
      · rintro σ H' ⟨ps, ws, b, v, rfl, hs, hQ, hP, hps, hqps, hnd, pr, hlen, hk⟩
        rw [List.length_map, List.drop_length] at hk
        have hk3 : rowsScan 0 [] (rs.map TL.tl) = .ok ws := hk
        rw [hk3] at k
        walk_at "w"
        exact k p H' hs ⟨ps, hP, hp, hps, hnd, pr⟩
  · walk_at "w"
    refine st_isi (.ty _) ht kt ?_
    walk_at "w"
    exact raise_ok k (Same.refl _)
theorem ok_text_words (T : Txt K mg) (c_row_words : Kp P w K mg base (L2.CX P w) 3 "row_words" ["row", "begin"] (sp_row_words K)) (x_BadSign : Kx P w K mg base 1 "BadSign" ["self", "spot"] (sp_BadSign___init__ K)) : Kp P w K mg base (L2.CX P w) 4 "text_words" ["text"] (sp_text_words K) := by
  obtain ⟨fd, F⟩ := T.c.def_ 6 (d := d_text_words) rfl
  refine ⟨⟨_, fd, T.g_text_words, F.kp, F.bindsN fun _ _ _ _ _ _ us hl => match us, hl with | [_], _ => rfl, F.ok sc_text_words Sp1.len (fun cdv A outer s H vs Q E hr h => ?_)⟩⟩
  obtain ⟨v0, rfl, h⟩ := h
  refine ⟨t_text_words K E, ?_, pure_text_words T h⟩
  exact (pss_cons (ps_if (PW.pt (pw_or (pt_not (pt_val (pe_callB call_isA (by rfl) T.n_isinstance (by decide +kernel) (pa_cons (pv 0) (pa_cons (pe_bltn (v := .ty "str") (by rfl) T.n_str (by decide +kernel) rfl) pa_nil))))) (pw_or1 (pt_cmpR op_gtA (pe_callB call_len (by rfl) T.n_len (by decide +kernel) (pa_cons (pv 0) pa_nil)) (pe_gi rfl T.g_MOST_SIGNS) (nomark _))))) (pss_one (ps_raise rfl (takes_of rfl rfl rfl rfl) (pmk_X x_BadSign (hr.mono (by decide)) rfl (pa_cons pe_int pa_nil)))) pss_nil)
      (pss_cons (ps_set (i := 1) sc_text_words.nd rfl (by first | exact Or.inl rfl | exact Or.inr rfl) (pe_lst pa_nil))
      (pss_cons (ps_set (i := 2) sc_text_words.nd rfl (by first | exact Or.inl rfl | exact Or.inr rfl) pe_int)
      (pss_cons (ps_for (passes_of rfl) rfl (pi_A (pe_split (pv 0) pe_str)) (pg_name (i := 3) sc_text_words.nd rfl (by first | exact Or.inl rfl | exact Or.inr rfl)) (pss_cons (ps_expr (pe_bm PySem.F.plainAttrs_list PySem.F.slot_list_append PySem.F.type_list_append mt_append (pv 1) (pa_cons (pe_cKX c_row_words (hr.mono (by decide)) rfl (takes_of rfl rfl rfl rfl) (pa_cons (pv 3) (pa_cons (pv 2) pa_nil))) pa_nil)))
      (pss_one (ps_aug (i := 2) sc_text_words.nd rfl (by first | exact Or.inl rfl | exact Or.inr rfl) (pe_op op_addA (pe_callB call_len (by rfl) T.n_len (by decide +kernel) (pa_cons (pv 3) pa_nil)) pe_int) ip_add))))
      (pss_one (ps_ret (pv 1)))))))
end
end K02
set_option Elab.async false
set_option linter.all false
set_option maxRecDepth 100000
set_option maxHeartbeats 4000000
namespace K02
open PySem PySem.Spec PyProof.Rows L2 My
section
variable {P : Program} {w : World} {K : PySem.W.Frag} {mg : Str → Option Value} {base : Heap}
/-! ### is_name -/
def pr_is_name : V → Hp → VK → XK → Prop := fun x H Q _ => ∃ z : Str, x = .str z ∧ z.length ≤ 100000 ∧ ∀ H', Same H H' → Q (.bl (isName z)) H'
def sp_is_name (K : PySem.W.Frag) : Sp := Sp1 pr_is_name
def t_is_name (K : PySem.W.Frag) : TS :=
  (tSeq (tIfS (tOr (tNot (tTest (tChain rLeA rLeA (tC (.int 1)) (tCB (rLenA K) (tCons (tVar 0) tNil)) (tC (.int 8))))) (tTest (tOp (rInA K false) (tVar 0) (tC (.ref (He.ga K "TOLD")))))) (tRet (tC (.bl false))) tNext)
  (tRet (tCB (rAll K) (tCons (tLc (iA K (tVar 0)) (gName 1) tYes (tInA K (tVar 1) (tC (.str "abcdefghijklmnopqrstuvwxyz"))) [1]) tNil))))
theorem dv_told (K : PySem.W.Frag) : dv_TOLD.map (He.Dv.v K) = toldL.map V.str := rfl
theorem pure_is_name (T : Txt K mg) {x : V} {H : Hp} {Q : VK} {E : XK} (h : pr_is_name x H Q E) : t_is_name K { nx := fun _ H' => Q .non H', rt := Q } [some x, none] H := by
  obtain ⟨z, rfl, hz, k⟩ := h
  unfold isName at k
  unfold t_is_name
  walk_at "w"
  refine st_len_str (by omega) ?_
  walk_at "w"
  have no : ¬ (1 ≤ z.length ∧ z.length ≤ 8) → Q (.bl false) H := fun e => by
    rw [decide_eq_false e] at k
    exact k H (Same.refl H)
  by_cases h1 : (1 : Int) ≤ z.length
  · rw [decide_eq_true h1]
    walk_at "w"
    by_cases h2 : ((z.length : Nat) : Int) ≤ 8
    · rw [decide_eq_true h2]
      have h3 : 1 ≤ z.length ∧ z.length ≤ 8 := ⟨by omega, by omega⟩
      rw [decide_eq_true h3, Bool.true_and] at k
      walk_at "w"
      refine st_in_tup (T.tup_TOLD H) rfl (by rw [dv_told]; exact flat_strs _) ?_
      rw [dv_told, inV_strs]
      walk_at "w"
      by_cases h4 : z ∈ toldL
      · rw [decide_eq_true h4] at k ⊢
        walk_at "w"
        exact k H (Same.refl H)
      · rw [decide_eq_false h4] at k ⊢
        walk_at "w"
        refine .inr (.inr ⟨z, rfl, fun D hD => ?_⟩)
        refine lcv walk_str hD z.cps.toList (by simp) (by rw [len_toList]; omega) (fun _ _ => trivial) (fun _ => true) (fun c => .bl (decide (c ∈ LETs.cps.toList))) ?_ ?_
        · rintro i c x H6 H7 hi s6 ⟨rfl, c', hc', rfl⟩ k1 k2 hk1 hk2
          have : c' = c := by
            rw [Array.getElem?_toList] at hi
            rw [hc'] at hi
            exact Option.some.inj hi
          subst this
          walk_at "w"
          refine ⟨rfl, ?_⟩
          walk_at "w"
          exact hk1 rfl _ (Same.refl _)
        · intro H6 s6 hL6
          rw [filter_yes] at hL6
          walk_at "w"
          refine ⟨D, z.cps.toList.map fun c => decide (c ∈ LETs.cps.toList), rfl, SqL.of (by rw [hL6, List.map_map]; rfl), ?_⟩
          have e : (z.cps.toList.map fun c => decide (c ∈ LETs.cps.toList)).all id = z.cps.toList.all fun c => decide (c ∈ LETs.cps.toList) := by rw [List.all_map]; rfl
          rw [e]
          walk_at "w"
          exact k H6 s6
    · rw [decide_eq_false h2]
      walk_at "w"
      exact no (by omega)
  · rw [decide_eq_false h1]
    walk_at "w"
    exact no (by omega)
theorem ok_is_name (T : Txt K mg)  : Kp P w K mg base CX0 1 "is_name" ["word"] (sp_is_name K) := by
  obtain ⟨fd, F⟩ := T.c.def_ 7 (d := d_is_name) rfl
  refine ⟨⟨_, fd, T.g_is_name, F.kp, F.bindsN fun _ _ _ _ _ _ us hl => match us, hl with | [_], _ => rfl, F.ok sc_is_name Sp1.len (fun cdv A outer s H vs Q E hr h => ?_)⟩⟩
  obtain ⟨v0, rfl, h⟩ := h
  refine ⟨t_is_name K, PSs.nox (?_), pure_is_name T h⟩
  exact (pss_cons (ps_if (PW.pt (pw_or (pt_not (pt_chain op_leA op_leA pe_int (pe_callB call_len (by rfl) T.n_len (by decide +kernel) (pa_cons (pv 0) pa_nil)) (pe_gi rfl T.g_MOST_LETTERS))) (pw_or1 (pt_cmpR (op_inA hr) (pv 0) (pe_gr rfl T.g_TOLD) (by rfl))))) (pss_one (ps_ret pe_bl)) pss_nil)
      (pss_one (ps_ret (pe_callB (cr_all rfl) (by rfl) T.n_all (by decide +kernel) (pa_cons (pe_lc (own := [("sign", 1)]) (g := (gName 1)) rfl sc_is_name.nd (pi_A (pv 0)) (blkOk_by (own := [("sign", 1)]) (N := N_is_name) (sc := defScope s_is_name) (by decide +kernel)) (fun _ _ _ _ _ => (pg_name (i := 1) sc_is_name.nd rfl (by first | exact Or.inl rfl | exact Or.inr rfl))) (fun _ _ _ _ _ => pts_nil) (fun _ _ _ _ _ => (pe_inA hr (pv 1) (pe_gs rfl T.g_LETTERS) (by rfl)))) pa_nil)))))
/-! ### divisor -/
def pr_divisor : V → V → Hp → VK → XK → Prop := fun x y H Q _ => ∃ a b : Nat, x = .int (a : Nat) ∧ y = .int (b : Nat) ∧ Q (.int ((Nat.gcd a b : Nat) : Int)) H
def sp_divisor (K : PySem.W.Frag) : Sp := Sp2 pr_divisor
def t_divisor (K : PySem.W.Frag) : TS :=
  (tSeq (tWhile (tTest (tOp rGtA (tVar 1) (tC (.int 0)))) (tPar 0 1 (tCons (tVar 1) (tCons (tOp rModA (tVar 0) (tVar 1)) tNil))))
  (tRet (tVar 0)))
theorem pure_divisor (T : Txt K mg) {x y : V} {H : Hp} {Q : VK} {E : XK} (h : pr_divisor x y H Q E) : t_divisor K { nx := fun _ H' => Q .non H', rt := Q } [some x, some y] H := by
  obtain ⟨a, b, rfl, rfl, k⟩ := h
  unfold t_divisor
  walk_at "w"
  refine ⟨fun m σ H' => H' = H ∧ ∃ c d : Nat, m = d ∧ Nat.gcd a b = Nat.gcd c d ∧ σ = [some (.int (c : Nat)), some (.int (d : Nat))], ⟨_, rfl, a, b, rfl, rfl, rfl⟩, ?_⟩
  rintro m σ H' ⟨rfl, c, d, rfl, hg, rfl⟩
  walk_at "w"
  refine ite2 (fun h1 => ?_) (fun h1 => ?_)
  · have h2 : 0 < m := by have := of_decide_eq_true h1; omega
    refine ⟨_, fun _ _ z => z, ?_⟩
    walk_at "w"
    refine st_mod (by omega) ?_
    walk_at "w"
    refine ⟨c % m, Nat.mod_lt _ h2, rfl, m, c % m, rfl, ?_, rfl⟩
    rw [hg, Nat.gcd_comm c m, Nat.gcd_rec m c, Nat.gcd_comm]
  · have h2 : m = 0 := by
      have : ¬ (0 : Int) < m := fun e => h1 (decide_eq_true e)
      omega
    subst h2
    walk_at "w"
    rw [hg, Nat.gcd_zero_right] at k
    exact k
theorem ok_divisor (T : Txt K mg)  : Kp P w K mg base CX0 1 "divisor" ["one", "other"] (sp_divisor K) := by
  obtain ⟨fd, F⟩ := T.c.def_ 1 (d := d_divisor) rfl
  refine ⟨⟨_, fd, T.g_divisor, F.kp, F.bindsN fun _ _ _ _ _ _ us hl => match us, hl with | [_, _], _ => rfl, F.ok sc_divisor Sp2.len (fun cdv A outer s H vs Q E hr h => ?_)⟩⟩
  obtain ⟨v0, v1, rfl, h⟩ := h
  refine ⟨t_divisor K, PSs.nox (?_), pure_divisor T h⟩
  exact (pss_cons (ps_while PassesOwn.never (pt_cmpR op_gtA (pv 1) pe_int (nomark _)) (pss_one (ps_par (i := 0) (j := 1) (by rfl) sc_divisor.nd rfl rfl (by decide) rfl rfl (pa_cons (pv 1) (pa_cons (pe_op op_modA (pv 0) (pv 1)) pa_nil)) (by rfl))))
      (pss_one (ps_ret (pv 0))))
/-! ### fraction -/
def pr_fraction : V → V → Hp → VK → XK → Prop := fun x y H Q _ => ∃ a b : Nat, x = .int (a : Nat) ∧ y = .int (b : Nat) ∧ 0 < a ∧ a ≤ 1000000 ∧ b ≤ 1000000 ∧ ∀ p H', Same H H' → H p = none → H' p = some (.tup [.int ((a / Nat.gcd a b : Nat) : Int), .int ((b / Nat.gcd a b : Nat) : Int)]) → Q (.ref p) H'
def sp_fraction (K : PySem.W.Frag) : Sp := Sp2 pr_fraction
def t_fraction (K : PySem.W.Frag) : TS :=
  (tSeq (tAsg (tCall (sp_divisor K) [] E0 (tCons (tCB rAbsI (tCons (tVar 0) tNil)) (tCons (tVar 1) tNil))) (gName 2))
  (tRet (tTup (tCons (tOp rDivA (tVar 0) (tVar 2)) (tCons (tOp rDivA (tVar 1) (tVar 2)) tNil)))))
theorem pure_fraction (T : Txt K mg) {x y : V} {H : Hp} {Q : VK} {E : XK} (h : pr_fraction x y H Q E) : t_fraction K { nx := fun _ H' => Q .non H', rt := Q } [some x, some y, none] H := by
  obtain ⟨a, b, rfl, rfl, h0, ha, hb, k⟩ := h
  unfold t_fraction
  walk_at "w"
  refine ⟨_, rfl, ?_⟩
  rw [if_neg (by omega)]
  walk_at "w"
  refine ⟨_, _, rfl, a, b, rfl, rfl, ?_⟩
  walk_at "w"
  have hg : 0 < Nat.gcd a b := Nat.gcd_pos_of_pos_left _ h0
  have hg2 : Nat.gcd a b ≤ a := Nat.gcd_le_left _ h0
  refine st_div (b := 30) (by omega) (nb (by omega) (by omega)) (by decide) (by decide) ?_
  walk_at "w"
  refine st_div (b := 30) (by omega) (nb (by omega) (by omega)) (by decide) (by decide) ?_
  walk_at "w"
  refine ⟨show 2 ≤ sizeLine by decide, fun p hp => ?_⟩
  walk_at "w"
  exact k p _ (same_new hp) hp upd_same
theorem ok_fraction (T : Txt K mg) (c_divisor : Kp P w K mg base CX0 1 "divisor" ["one", "other"] (sp_divisor K)) : Kp P w K mg base CX0 2 "fraction" ["top", "bottom"] (sp_fraction K) := by
  obtain ⟨fd, F⟩ := T.c.def_ 2 (d := d_fraction) rfl
  refine ⟨⟨_, fd, T.g_fraction, F.kp, F.bindsN fun _ _ _ _ _ _ us hl => match us, hl with | [_, _], _ => rfl, F.ok sc_fraction Sp2.len (fun cdv A outer s H vs Q E hr h => ?_)⟩⟩
  obtain ⟨v0, v1, rfl, h⟩ := h
  refine ⟨t_fraction K, PSs.nox (?_), pure_fraction T h⟩
  exact (pss_cons (ps_set (i := 2) sc_fraction.nd rfl (by first | exact Or.inl rfl | exact Or.inr rfl) (pe_cK c_divisor (hr.mono (by decide)) rfl (pa_cons (pe_callB call_abs (by rfl) T.n_abs (by decide +kernel) (pa_cons (pv 0) pa_nil)) (pa_cons (pv 1) pa_nil))))
      (pss_one (ps_ret (pe_tup (pa_cons (pe_op op_fdivA (pv 0) (pv 2)) (pa_cons (pe_op op_fdivA (pv 1) (pv 2)) pa_nil))))))
/-! ### is_number -/
def pr_is_number : V → Hp → VK → XK → Prop := fun x H Q _ => ∃ n : Nat, x = .str (numS n) ∧ n < 10 ^ 20 ∧ Q (.bl true) H
def sp_is_number (K : PySem.W.Frag) : Sp := Sp1 pr_is_number
def t_is_number (K : PySem.W.Frag) : TS :=
  (tRet (tAndV (tOp (rNeA K) (tVar 0) (tC (.str ""))) (tInA K (tIxA K (tVar 0) (tC (.int 0))) (tC (.str "0123456789")))))
theorem pure_is_number (T : Txt K mg) {x : V} {H : Hp} {Q : VK} {E : XK} (h : pr_is_number x H Q E) : t_is_number K { nx := fun _ H' => Q .non H', rt := Q } [some x] H := by
  obtain ⟨n, rfl, hn, k⟩ := h
  obtain ⟨c, t, e, h1, h2⟩ := num_head (n := n)
  unfold t_is_number
  walk_at "w"
  have hne : numS n ≠ ("" : Str) := fun z => by
    have := congrArg (fun y : Str => y.cps.toList) z
    simp only [numS_tl, e] at this
    exact absurd this (by simp [S_nil])
  rw [decide_eq_false hne]
  walk_at "w"
  have hl := numS_len (k := 20) (by decide) hn
  refine st_ix_str0 (c := c) (by omega) (by rw [numS_tl, e]; rfl) ?_
  walk_at "w"
  have : c ∈ FIGs.cps.toList := (mem_FIG c).mpr ⟨h1, h2⟩
  have e2 : decide (c ∈ ("0123456789" : Str).cps.toList) = true := decide_eq_true this
  rw [e2]
  exact k
theorem ok_is_number (T : Txt K mg)  : Kp P w K mg base CX0 1 "is_number" ["word"] (sp_is_number K) := by
  obtain ⟨fd, F⟩ := T.c.def_ 8 (d := d_is_number) rfl
  refine ⟨⟨_, fd, T.g_is_number, F.kp, F.bindsN fun _ _ _ _ _ _ us hl => match us, hl with | [_], _ => rfl, F.ok sc_is_number Sp1.len (fun cdv A outer s H vs Q E hr h => ?_)⟩⟩
  obtain ⟨v0, rfl, h⟩ := h
  refine ⟨t_is_number K, PSs.nox (?_), pure_is_number T h⟩
  exact (pss_one (ps_ret (pe_and (pe_cmpR (op_neA hr) (pv 0) pe_str (nomark _)) (pe_one (pe_inA hr (pe_ixA hr (pv 0) pe_int (fun _ _ => rfl)) (pe_gs rfl T.g_FIGURES) (by rfl))))))
end
end K02
set_option Elab.async false
set_option linter.all false
set_option maxRecDepth 100000
set_option maxHeartbeats 4000000
namespace K02
open PySem PySem.Spec PyProof.Rows L2 My
section
variable {P : Program} {w : World} {K : PySem.W.Frag} {mg : Str → Option Value} {base : Heap}
/-! ### a reader -/
def RDf (p : Addr) (l : Int) (k : Nat) : List (Str × V) := [("row", .ref p), ("line", .int l), ("at", .int (k : Nat))]
theorem look_row {p : Addr} {l : Int} {k : Nat} : (RDf p l k).lookup ("row" : Str) = some (.ref p) := rfl
theorem look_line {p : Addr} {l : Int} {k : Nat} : (RDf p l k).lookup ("line" : Str) = some (.int l) := rfl
theorem look_at {p : Addr} {l : Int} {k : Nat} : (RDf p l k).lookup ("at" : Str) = some (.int (k : Nat)) := rfl
theorem look_no {p : Addr} {l : Int} {k : Nat} {m : Str} (h1 : (m == ("row" : Str)) = false) (h2 : (m == ("line" : Str)) = false) (h3 : (m == ("at" : Str)) = false) : (RDf p l k).lookup m = none := by
  unfold RDf
  simp only [List.lookup, h1, h2, h3]
theorem str_ra1 : ¬ (("row" : Str) = "at") := by decide +kernel
theorem str_ra2 : ¬ (("line" : Str) = "at") := by decide +kernel
theorem put_at {p : Addr} {l : Int} {k : Nat} {i : Int} : putF "at" (.int i) (RDf p l k) = [(("row" : Str), V.ref p), (("line" : Str), V.int l), (("at" : Str), V.int i)] := by
  unfold RDf
  simp only [putF, if_neg str_ra1, if_neg str_ra2, if_true]
/-- at r a reader of the row at p, its words ws; k of them read -/
structure RD (K : PySem.W.Frag) (H : Hp) (r p : Addr) (l : Int) (ws : List Str) (k : Nat) : Prop where
  ex : ∃ dx, H r = some (.ins (He.ga K "Reader") dx (RDf p l k))
  row : SqL K H p (ws.map V.str)
  len : ws.length ≤ 1000
theorem RD.same {H H' : Hp} {r p : Addr} {l : Int} {ws : List Str} {k : Nat} (h : RD K H r p l ws k) (s : Same H H') : RD K H' r p l ws k := by
  obtain ⟨dx, h1⟩ := h.ex
  exact ⟨⟨dx, s _ _ h1⟩, s.seq h.row, h.len⟩
theorem RD.ns {H : Hp} {r p : Addr} {l : Int} {ws : List Str} {k : Nat} (h : RD K H r p l ws k) : NotSeq (H r) := by
  obtain ⟨dx, h1⟩ := h.ex
  exact notSeq_ins h1
/-- behind a step of the reader: all but it stays -/
structure RA (K : PySem.W.Frag) (r p : Addr) (l : Int) (ws : List Str) (k : Nat) (H H' : Hp) : Prop where
  sb : SB r H H'
  rd : RD K H' r p l ws k
theorem RA.trans {r p : Addr} {l : Int} {ws : List Str} {k k' : Nat} {H H1 H2 : Hp} (a : RA K r p l ws k H H1) (b : RA K r p l ws k' H1 H2) : RA K r p l ws k' H H2 := ⟨a.sb.trans b.sb, b.rd⟩
theorem RA.same {r p : Addr} {l : Int} {ws : List Str} {k : Nat} {H H1 H2 : Hp} (a : RA K r p l ws k H H1) (s : Same H1 H2) : RA K r p l ws k H H2 := ⟨a.sb.trans (Same.sb s), a.rd.same s⟩
theorem RD.ra {r p : Addr} {l : Int} {ws : List Str} {k : Nat} {H H' : Hp} (h : RD K H r p l ws k) (s : Same H H') : RA K r p l ws k H H' := ⟨Same.sb s, h.same s⟩
theorem me {r p : Addr} {l : Int} {ws : List Str} {k : Nat} {H : Hp} {m : Str} {A : Prop} (h : RD K H r p l ws k) (h1 : (m == ("row" : Str)) = false) (h2 : (m == ("line" : Str)) = false) (h3 : (m == ("at" : Str)) = false) (q : A) :
    ∃ a dx fs, V.ref r = .ref a ∧ H a = some (.ins (He.ga K "Reader") dx fs) ∧ fs.lookup m = none ∧ A := by
  obtain ⟨dx, h4⟩ := h.ex
  exact ⟨r, dx, _, rfl, h4, look_no h1 h2 h3, q⟩
theorem fl_at (T : Txt K mg) {r p : Addr} {l : Int} {ws : List Str} {k : Nat} {H : Hp} {A : V → Prop} (h : RD K H r p l ws k) (q : A (.int (k : Nat))) : ∃ a C dx fs v, V.ref r = .ref a ∧ H a = some (.ins C dx fs) ∧ Cls K C ∧ NoAttr K C "at" ∧ fs.lookup ("at" : Str) = some v ∧ A v := by
  obtain ⟨dx, h4⟩ := h.ex
  exact ⟨r, _, dx, _, _, rfl, h4, T.cl_Reader, T.na_Reader_at, look_at, q⟩
theorem fl_row (T : Txt K mg) {r p : Addr} {l : Int} {ws : List Str} {k : Nat} {H : Hp} {A : V → Prop} (h : RD K H r p l ws k) (q : A (.ref p)) : ∃ a C dx fs v, V.ref r = .ref a ∧ H a = some (.ins C dx fs) ∧ Cls K C ∧ NoAttr K C "row" ∧ fs.lookup ("row" : Str) = some v ∧ A v := by
  obtain ⟨dx, h4⟩ := h.ex
  exact ⟨r, _, dx, _, _, rfl, h4, T.cl_Reader, T.na_Reader_row, look_row, q⟩
/-! ### __init__ -/
def pr_Reader_init (K : PySem.W.Frag) : V → V → V → Hp → VK → XK → Prop := fun x y z H Q _ => ∃ (r dx p : Addr) (l : Int), x = .ref r ∧ y = .ref p ∧ z = .int l ∧ H r = some (.ins (He.ga K "Reader") dx []) ∧ ∀ H', SB r H H' → H' r = some (.ins (He.ga K "Reader") dx (RDf p l 0)) → Q .non H'
def sp_Reader___init__ (K : PySem.W.Frag) : Sp := Sp3 (pr_Reader_init K)
def t_Reader___init__ (K : PySem.W.Frag) : TS :=
  (tSeq (sFld K (tVar 0) (tVar 1) "row")
  (tSeq (sFld K (tVar 0) (tVar 2) "line")
  (sFld K (tVar 0) (tC (.int 0)) "at")))
theorem str_rl : ¬ (("row" : Str) = "line") := by decide +kernel
theorem pure_Reader___init__ (T : Txt K mg) {x y z : V} {H : Hp} {Q : VK} {E : XK} (h : pr_Reader_init K x y z H Q E) : t_Reader___init__ K { nx := fun _ H' => Q .non H', rt := Q } [some x, some y, some z] H := by
  obtain ⟨r, dx, p, l, rfl, rfl, rfl, hr, k⟩ := h
  unfold t_Reader___init__
  walk_at "w"
  refine ⟨r, _, dx, _, rfl, hr, T.cl_Reader, T.na_Reader_row, by decide, ?_⟩
  walk_at "w"
  refine ⟨r, _, dx, _, rfl, upd_same, T.cl_Reader, T.na_Reader_line, show 1 < 1000 by decide, ?_⟩
  walk_at "w"
  refine ⟨r, _, dx, _, rfl, upd_same, T.cl_Reader, T.na_Reader_at, by rw [show putF "line" (.int l) (putF "row" (.ref p) []) = [(("row" : Str), V.ref p), (("line" : Str), V.int l)] by simp only [putF, if_neg str_rl]]; exact (by decide : 2 < 1000), ?_⟩
  walk_at "w"
  refine k _ (fun b o n e => by rw [upd_ne n, upd_ne n, upd_ne n]; exact e) ?_
  rw [upd_same]
  show some (HO.ins _ _ _) = some (HO.ins _ _ _)
  simp only [putF, if_neg str_rl, if_neg str_ra1, if_neg str_ra2]
  rfl
theorem ok_Reader___init__ (T : Txt K mg)  : Ki P w K mg base 1 "Reader" ["self", "row", "line"] (sp_Reader___init__ K) := by
  obtain ⟨fd, F⟩ := T.c.def_ 9 (d := d_Reader___init__) rfl
  refine ⟨T.g_Reader, ⟨_, fd, T.mk_Reader, F.bindsN fun _ _ _ _ _ _ us hl => match us, hl with | [_, _, _], _ => rfl, F.ok sc_Reader___init__ Sp3.len (fun cdv A outer s H vs Q E hr h => ?_)⟩⟩
  obtain ⟨v0, v1, v2, rfl, h⟩ := h
  refine ⟨t_Reader___init__ K, PSs.nox (?_), pure_Reader___init__ T h⟩
  exact (pss_cons (ps_fld (pv 0) (pv 1) rfl)
      (pss_cons (ps_fld (pv 0) (pv 2) rfl)
      (pss_one (ps_fld (pv 0) pe_int rfl))))
/-! ### need -/
def pr_need : V → V → Hp → VK → XK → Prop := fun _ y H Q _ => y = .bl true ∧ Q .non H
def sp_Reader_need (K : PySem.W.Frag) : Sp := Sp2 pr_need
def t_Reader_need (K : PySem.W.Frag) : TS :=
  (tIfS (tNot (tB (tVar 1))) tNever tNext)
theorem pure_Reader_need (T : Txt K mg) {x y : V} {H : Hp} {Q : VK} {E : XK} (h : pr_need x y H Q E) : t_Reader_need K { nx := fun _ H' => Q .non H', rt := Q } [some x, some y] H := by
  obtain ⟨rfl, k⟩ := h
  unfold t_Reader_need
  walk_at "w"
  exact k
theorem ok_Reader_need (T : Txt K mg)  : Km P w K mg base CX0 1 (He.ga K "Reader") "need" ["self", "good"] (sp_Reader_need K) := by
  obtain ⟨fd, F⟩ := T.c.def_ 10 (d := d_Reader_need) rfl
  refine ⟨T.cl_Reader, ⟨_, fd, T.me_Reader_need, F.bindsN fun _ _ _ _ _ _ us hl => match us, hl with | [_, _], _ => rfl, F.ok sc_Reader_need Sp2.len (fun cdv A outer s H vs Q E hr h => ?_)⟩⟩
  obtain ⟨v0, v1, rfl, h⟩ := h
  refine ⟨t_Reader_need K, PSs.nox (?_), pure_Reader_need T h⟩
  exact (pss_one (ps_if (pt_not (pt_val (pv 1))) (pss_one ps_never) pss_nil))
/-! ### peek -/
def pr_peek (K : PySem.W.Frag) : V → Hp → VK → XK → Prop := fun x H Q _ => ∃ (r p : Addr) (l : Int) (ws : List Str) (k : Nat), x = .ref r ∧ RD K H r p l ws k ∧ Q (.str (ws.getD k "")) H
def sp_Reader_peek (K : PySem.W.Frag) : Sp := Sp1 (pr_peek K)
def t_Reader_peek (K : PySem.W.Frag) : TS :=
  (tRet (tIf (tTest (tOp rLtA (tFld K (tVar 0) "at") (tCB (rLenA K) (tCons (tFld K (tVar 0) "row") tNil)))) (tIxA K (tFld K (tVar 0) "row") (tFld K (tVar 0) "at")) (tC (.str ""))))
theorem pure_Reader_peek (T : Txt K mg) {x : V} {H : Hp} {Q : VK} {E : XK} (h : pr_peek K x H Q E) : t_Reader_peek K { nx := fun _ H' => Q .non H', rt := Q } [some x] H := by
  obtain ⟨r, p, l, ws, k, rfl, rd, q⟩ := h
  unfold t_Reader_peek
  walk_at "w"
  refine fl_at T rd ?_
  walk_at "w"
  refine fl_row T rd ?_
  walk_at "w"
  refine st_len_list rd.row ?_
  walk_at "w"
  rw [List.length_map]
  refine ite2 (fun h1 => ?_) (fun h1 => ?_)
  · have h2 : k < ws.length := by have := of_decide_eq_true h1; omega
    walk_at "w"
    refine fl_row T rd ?_
    walk_at "w"
    refine fl_at T rd ?_
    have e : ws[k]? = some ws[k] := List.getElem?_eq_getElem h2
    refine st_ix_list (v := .str ws[k]) rd.row (atI_nat (by rw [List.getElem?_map, e]; rfl)) ?_
    rw [List.getD_eq_getElem?_getD, e] at q
    exact q
  · have h2 : ¬ k < ws.length := fun z => h1 (decide_eq_true (by omega))
    walk_at "w"
    rw [List.getD_eq_getElem?_getD, List.getElem?_eq_none (by omega)] at q
    exact q
theorem ok_Reader_peek (T : Txt K mg)  : Km P w K mg base CX0 1 (He.ga K "Reader") "peek" ["self"] (sp_Reader_peek K) := by
  obtain ⟨fd, F⟩ := T.c.def_ 11 (d := d_Reader_peek) rfl
  refine ⟨T.cl_Reader, ⟨_, fd, T.me_Reader_peek, F.bindsN fun _ _ _ _ _ _ us hl => match us, hl with | [_], _ => rfl, F.ok sc_Reader_peek Sp1.len (fun cdv A outer s H vs Q E hr h => ?_)⟩⟩
  obtain ⟨v0, rfl, h⟩ := h
  refine ⟨t_Reader_peek K, PSs.nox (?_), pure_Reader_peek T h⟩
  exact (pss_one (ps_ret (pe_ifExp (pt_cmpR op_ltA (pe_fld (pv 0) rfl) (pe_callB call_len (by rfl) T.n_len (by decide +kernel) (pa_cons (pe_fld (pv 0) rfl) pa_nil)) (nomark _)) (pe_ixA hr (pe_fld (pv 0) rfl) (pe_fld (pv 0) rfl) (fun _ _ => rfl)) pe_str)))
/-! ### go -/
def pr_go (K : PySem.W.Frag) : V → Hp → VK → XK → Prop := fun x H Q _ => ∃ (r p : Addr) (l : Int) (ws : List Str) (k : Nat), x = .ref r ∧ RD K H r p l ws k ∧ ∀ H', RA K r p l ws (k + 1) H H' → Q (.str (ws.getD k "")) H'
def sp_Reader_go (K : PySem.W.Frag) : Sp := Sp1 (pr_go K)
def t_Reader_go (K : PySem.W.Frag) : TS :=
  (tSeq (tAsg (tMeth (He.ga K "Reader") "peek" (sp_Reader_peek K) [] E0 (tVar 0) tNil) (gName 1))
  (tSeq (sFldAug K (tVar 0) (tC (.int 1)) rAdd "at")
  (tRet (tVar 1))))
theorem pure_Reader_go (T : Txt K mg) {x : V} {H : Hp} {Q : VK} {E : XK} (h : pr_go K x H Q E) : t_Reader_go K { nx := fun _ H' => Q .non H', rt := Q } [some x, none] H := by
  obtain ⟨r, p, l, ws, k, rfl, rd, q⟩ := h
  unfold t_Reader_go
  walk_at "w"
  refine me rd (by decide) (by decide) (by decide) ?_
  walk_at "w"
  refine ⟨_, rfl, r, p, l, ws, k, rfl, rd, ?_⟩
  walk_at "w"
  obtain ⟨dx, hr⟩ := rd.ex
  refine ⟨r, _, dx, _, _, rfl, hr, T.cl_Reader, T.na_Reader_at, look_at, ?_⟩
  walk_at "w"
  refine ⟨_, _, rfl, rfl, dx, _, hr, show 3 < 1000 by decide, ?_⟩
  rw [put_at]
  walk_at "w"
  have sb : SB r H (upd H r (.ins (He.ga K "Reader") dx [("row", .ref p), ("line", .int l), ("at", .int ((k : Nat) + 1))])) := fun b o n e => by rw [upd_ne n]; exact e
  exact q _ ⟨sb, ⟨dx, upd_same⟩, sb.seqL rd.ns rd.row, rd.len⟩
theorem ok_Reader_go (T : Txt K mg) (c_Reader_peek : Km P w K mg base CX0 1 (He.ga K "Reader") "peek" ["self"] (sp_Reader_peek K)) : Km P w K mg base CX0 2 (He.ga K "Reader") "go" ["self"] (sp_Reader_go K) := by
  obtain ⟨fd, F⟩ := T.c.def_ 12 (d := d_Reader_go) rfl
  refine ⟨T.cl_Reader, ⟨_, fd, T.me_Reader_go, F.bindsN fun _ _ _ _ _ _ us hl => match us, hl with | [_], _ => rfl, F.ok sc_Reader_go Sp1.len (fun cdv A outer s H vs Q E hr h => ?_)⟩⟩
  obtain ⟨v0, rfl, h⟩ := h
  refine ⟨t_Reader_go K, PSs.nox (?_), pure_Reader_go T h⟩
  exact (pss_cons (ps_set (i := 1) sc_Reader_go.nd rfl (by first | exact Or.inl rfl | exact Or.inr rfl) (pe_mK0 c_Reader_peek (hr.mono (by decide)) (pv 0)))
      (pss_cons (ps_fldaug (pv 0) pe_int in_add)
      (pss_one (ps_ret (pv 1)))))
end
end K02
set_option Elab.async false
set_option linter.all false
set_option maxRecDepth 100000
set_option maxHeartbeats 4000000
namespace K02
open PySem PySem.Spec PyProof.Rows L2 My
section
variable {P : Program} {w : World} {K : PySem.W.Frag} {mg : Str → Option Value} {base : Heap}
theorem gd {ws t : List Str} {k : Nat} {x : Str} (h : ws.drop k = x :: t) : ws.getD k "" = x := by
  have e : ws[k]? = some x := by
    rw [← List.head?_drop, h]; rfl
  rw [List.getD_eq_getElem?_getD, e]; rfl
theorem gt {ws t : List Str} {k : Nat} {x : Str} (h : ws.drop k = x :: t) : ws.drop (k + 1) = t := by
  rw [← List.drop_drop, h]; rfl
theorem gl {ws t : List Str} {k : Nat} (h : ws.drop k = t) : ws.length - k = t.length := by rw [← h, List.length_drop]
theorem RA.mut {r p f : Addr} {l : Int} {ws : List Str} {k k0 : Nat} {H H' : Hp} {o : HO} (a : RA K r p l ws k H H') (rd : RD K H r p l ws k0) (hf : H f = none) : RA K r p l ws k H (upd H' f o) := by
  obtain ⟨dx, h1⟩ := a.rd.ex
  obtain ⟨dx0, h0⟩ := rd.ex
  have ne : r ≠ f := fun e => by rw [e, hf] at h0; cases h0
  exact ⟨a.sb.mut hf, ⟨dx, by rw [upd_ne ne]; exact h1⟩, (a.sb.mut hf).seqL rd.ns rd.row, rd.len⟩
theorem use_peek {r p : Addr} {l : Int} {ws : List Str} {k : Nat} {H : Hp} {Q : VK} {E : XK} (rd : RD K H r p l ws k) (q : Q (.str (ws.getD k "")) H) : Sp1 (pr_peek K) [.ref r] H Q E := ⟨_, rfl, r, p, l, ws, k, rfl, rd, q⟩
theorem use_go {r p : Addr} {l : Int} {ws : List Str} {k : Nat} {H : Hp} {Q : VK} {E : XK} (rd : RD K H r p l ws k) (q : ∀ H', RA K r p l ws (k + 1) H H' → Q (.str (ws.getD k "")) H') : Sp1 (pr_go K) [.ref r] H Q E := ⟨_, rfl, r, p, l, ws, k, rfl, rd, q⟩
theorem use_need {x : V} {H : Hp} {Q : VK} {E : XK} (q : Q .non H) : Sp2 pr_need [x, .bl true] H Q E := ⟨_, _, rfl, rfl, q⟩
/-! ### take_word -/
def pr_take_word (K : PySem.W.Frag) : V → V → Hp → VK → XK → Prop := fun x y H Q _ => ∃ (r p : Addr) (l : Int) (ws t : List Str) (k : Nat) (z : Str), x = .ref r ∧ y = .str z ∧ RD K H r p l ws k ∧ ws.drop k = z :: t ∧ ∀ H', RA K r p l ws (k + 1) H H' → Q .non H'
def sp_Reader_take_word (K : PySem.W.Frag) : Sp := Sp2 (pr_take_word K)
def t_Reader_take_word (K : PySem.W.Frag) : TS :=
  (tSeq (tDrop (tMeth (He.ga K "Reader") "need" (sp_Reader_need K) [] E0 (tVar 0) (tCons (tOp (rEqA K) (tMeth (He.ga K "Reader") "peek" (sp_Reader_peek K) [] E0 (tVar 0) tNil) (tVar 1)) tNil)))
  (tDrop (tMeth (He.ga K "Reader") "go" (sp_Reader_go K) [] E0 (tVar 0) tNil)))
theorem pure_Reader_take_word (T : Txt K mg) {x y : V} {H : Hp} {Q : VK} {E : XK} (h : pr_take_word K x y H Q E) : t_Reader_take_word K { nx := fun _ H' => Q .non H', rt := Q } [some x, some y] H := by
  obtain ⟨r, p, l, ws, t, k, z, rfl, rfl, rd, hd, q⟩ := h
  unfold t_Reader_take_word
  walk_at "w"
  refine me rd (by decide) (by decide) (by decide) ?_
  walk_at "w"
  refine me rd (by decide) (by decide) (by decide) ?_
  walk_at "w"
  refine use_peek rd ?_
  rw [gd hd]
  walk_at "w"
  rw [decide_eq_true rfl]
  refine use_need ?_
  walk_at "w"
  refine me rd (by decide) (by decide) (by decide) ?_
  walk_at "w"
  refine use_go rd fun H' a => ?_
  walk_at "w"
  exact q _ a
theorem ok_Reader_take_word (T : Txt K mg) (c_Reader_need : Km P w K mg base CX0 1 (He.ga K "Reader") "need" ["self", "good"] (sp_Reader_need K)) (c_Reader_peek : Km P w K mg base CX0 1 (He.ga K "Reader") "peek" ["self"] (sp_Reader_peek K)) (c_Reader_go : Km P w K mg base CX0 2 (He.ga K "Reader") "go" ["self"] (sp_Reader_go K)) : Km P w K mg base CX0 3 (He.ga K "Reader") "take_word" ["self", "word"] (sp_Reader_take_word K) := by
  obtain ⟨fd, F⟩ := T.c.def_ 13 (d := d_Reader_take_word) rfl
  refine ⟨T.cl_Reader, ⟨_, fd, T.me_Reader_take_word, F.bindsN fun _ _ _ _ _ _ us hl => match us, hl with | [_, _], _ => rfl, F.ok sc_Reader_take_word Sp2.len (fun cdv A outer s H vs Q E hr h => ?_)⟩⟩
  obtain ⟨v0, v1, rfl, h⟩ := h
  refine ⟨t_Reader_take_word K, PSs.nox (?_), pure_Reader_take_word T h⟩
  exact (pss_cons (ps_expr (pe_mK c_Reader_need (hr.mono (by decide)) (pv 0) (pa_cons (pe_cmpR (op_eqA hr) (pe_mK0 c_Reader_peek (hr.mono (by decide)) (pv 0)) (pv 1) (nomark _)) pa_nil)))
      (pss_one (ps_expr (pe_mK0 c_Reader_go (hr.mono (by decide)) (pv 0)))))
/-! ### take_name -/
def pr_take_name (K : PySem.W.Frag) : V → V → Hp → VK → XK → Prop := fun x y H Q _ => ∃ (r p u : Addr) (l : Int) (ws t us : List Str) (k : Nat) (n : Str), x = .ref r ∧ y = .ref u ∧ RD K H r p l ws k ∧ SqL K H u (us.map V.str) ∧ ws.drop k = n :: t ∧ isName n = true ∧ n ∉ us ∧ ∀ H', RA K r p l ws (k + 1) H H' → Q (.str n) H'
def sp_Reader_take_name (K : PySem.W.Frag) : Sp := Sp2 (pr_take_name K)
def t_Reader_take_name (K : PySem.W.Frag) : TS :=
  (tSeq (tDrop (tMeth (He.ga K "Reader") "need" (sp_Reader_need K) [] E0 (tVar 0) (tCons (tAndV (tCall (sp_is_name K) [] E0 (tCons (tMeth (He.ga K "Reader") "peek" (sp_Reader_peek K) [] E0 (tVar 0) tNil) tNil)) (tNinA K (tMeth (He.ga K "Reader") "peek" (sp_Reader_peek K) [] E0 (tVar 0) tNil) (tVar 1))) tNil)))
  (tRet (tMeth (He.ga K "Reader") "go" (sp_Reader_go K) [] E0 (tVar 0) tNil)))
theorem pure_Reader_take_name (T : Txt K mg) {x y : V} {H : Hp} {Q : VK} {E : XK} (h : pr_take_name K x y H Q E) : t_Reader_take_name K { nx := fun _ H' => Q .non H', rt := Q } [some x, some y] H := by
  obtain ⟨r, p, u, l, ws, t, us, k, n, rfl, rfl, rd, hu, hd, hn, hnu, q⟩ := h
  unfold t_Reader_take_name
  walk_at "w"
  refine me rd (by decide) (by decide) (by decide) ?_
  walk_at "w"
  refine me rd (by decide) (by decide) (by decide) ?_
  walk_at "w"
  refine use_peek rd ?_
  rw [gd hd]
  walk_at "w"
  have hl := isName_len hn
  refine ⟨_, rfl, n, rfl, by omega, fun H1 s1 => ?_⟩
  rw [hn]
  have rd1 := rd.same s1
  walk_at "w"
  refine me rd1 (by decide) (by decide) (by decide) ?_
  walk_at "w"
  refine use_peek rd1 ?_
  rw [gd hd]
  walk_at "w"
  refine st_nin_list (s1.seq hu) rfl (flat_strs _) ?_
  rw [inV_strs, decide_eq_false hnu]
  walk_at "w"
  refine use_need ?_
  walk_at "w"
  refine me rd1 (by decide) (by decide) (by decide) ?_
  walk_at "w"
  refine use_go rd1 fun H' a => ?_
  rw [gd hd]
  walk_at "w"
  exact q _ ((rd.ra s1).trans a)
theorem ok_Reader_take_name (T : Txt K mg) (c_is_name : Kp P w K mg base CX0 1 "is_name" ["word"] (sp_is_name K)) (c_Reader_need : Km P w K mg base CX0 1 (He.ga K "Reader") "need" ["self", "good"] (sp_Reader_need K)) (c_Reader_peek : Km P w K mg base CX0 1 (He.ga K "Reader") "peek" ["self"] (sp_Reader_peek K)) (c_Reader_go : Km P w K mg base CX0 2 (He.ga K "Reader") "go" ["self"] (sp_Reader_go K)) : Km P w K mg base CX0 3 (He.ga K "Reader") "take_name" ["self", "unlike"] (sp_Reader_take_name K) := by
  obtain ⟨fd, F⟩ := T.c.def_ 14 (d := d_Reader_take_name) rfl
  refine ⟨T.cl_Reader, ⟨_, fd, T.me_Reader_take_name, F.bindsN fun _ _ _ _ _ _ us hl => match us, hl with | [_, _], _ => rfl, F.ok sc_Reader_take_name Sp2.len (fun cdv A outer s H vs Q E hr h => ?_)⟩⟩
  obtain ⟨v0, v1, rfl, h⟩ := h
  refine ⟨t_Reader_take_name K, PSs.nox (?_), pure_Reader_take_name T h⟩
  exact (pss_cons (ps_expr (pe_mK c_Reader_need (hr.mono (by decide)) (pv 0) (pa_cons (pe_and (pe_cK c_is_name (hr.mono (by decide)) rfl (pa_cons (pe_mK0 c_Reader_peek (hr.mono (by decide)) (pv 0)) pa_nil)) (pe_one (pe_ninA hr (pe_mK0 c_Reader_peek (hr.mono (by decide)) (pv 0)) (pv 1) (by rfl)))) pa_nil)))
      (pss_one (ps_ret (pe_mK0 c_Reader_go (hr.mono (by decide)) (pv 0)))))
theorem use_name {r p u : Addr} {l : Int} {ws t us : List Str} {k : Nat} {n : Str} {H : Hp} {Q : VK} {E : XK} (rd : RD K H r p l ws k) (hu : SqL K H u (us.map V.str)) (hd : ws.drop k = n :: t) (hn : isName n = true) (hnu : n ∉ us) (q : ∀ H', RA K r p l ws (k + 1) H H' → Q (.str n) H') :
    Sp2 (pr_take_name K) [.ref r, .ref u] H Q E := ⟨_, _, rfl, r, p, u, l, ws, t, us, k, n, rfl, rfl, rd, hu, hd, hn, hnu, q⟩
/-- take_name([]) -/
theorem use_name0 {r p : Addr} {l : Int} {ws t : List Str} {k : Nat} {n : Str} {H : Hp} {Q : VK} {E : XK} (rd : RD K H r p l ws k) (hd : ws.drop k = n :: t) (hn : isName n = true) (q : ∀ H', RA K r p l ws (k + 1) H H' → Q (.str n) H') :
    ([] : List V).length ≤ sizeLine ∧ ∀ u, H u = none → Sp2 (pr_take_name K) [.ref r, .ref u] (upd H u (.lst [])) Q E :=
  ⟨Nat.zero_le _, fun u hu => use_name (us := []) (rd.same (same_new hu)) (SqL.of upd_same) hd hn (fun z => by cases z) fun H' a => q H' ((rd.ra (same_new hu)).trans a)⟩
/-- take_name([a]) -/
theorem use_name1 {r p : Addr} {l : Int} {ws t : List Str} {k : Nat} {n z : Str} {H : Hp} {Q : VK} {E : XK} (rd : RD K H r p l ws k) (hd : ws.drop k = n :: t) (hn : isName n = true) (hz : z ≠ n) (q : ∀ H', RA K r p l ws (k + 1) H H' → Q (.str n) H') :
    ([.str z] : List V).length ≤ sizeLine ∧ ∀ u, H u = none → Sp2 (pr_take_name K) [.ref r, .ref u] (upd H u (.lst [.str z])) Q E :=
  ⟨show 1 ≤ sizeLine by decide, fun u hu => use_name (us := [z]) (rd.same (same_new hu)) (SqL.of upd_same) hd hn (fun h => hz (List.mem_singleton.mp h).symm) fun H' a => q H' ((rd.ra (same_new hu)).trans a)⟩
/-! ### take_number -/
def pr_take_number (K : PySem.W.Frag) : V → V → V → Hp → VK → XK → Prop := fun x y z H Q _ => ∃ (r p : Addr) (l lo hi : Int) (ws t : List Str) (k n : Nat), x = .ref r ∧ y = .int lo ∧ z = .int hi ∧ RD K H r p l ws k ∧ ws.drop k = numS n :: t ∧ lo ≤ (n : Nat) ∧ ((n : Nat) : Int) ≤ hi ∧ n < 10 ^ 20 ∧ ∀ H', RA K r p l ws (k + 1) H H' → Q (.int (n : Nat)) H'
def sp_Reader_take_number (K : PySem.W.Frag) : Sp := Sp3 (pr_take_number K)
def t_Reader_take_number (K : PySem.W.Frag) : TS :=
  (tSeq (tDrop (tMeth (He.ga K "Reader") "need" (sp_Reader_need K) [] E0 (tVar 0) (tCons (tAndV (tCall (sp_is_number K) [] E0 (tCons (tMeth (He.ga K "Reader") "peek" (sp_Reader_peek K) [] E0 (tVar 0) tNil) tNil)) (tChain rLeA rLeA (tVar 1) (tCB rIntA (tCons (tMeth (He.ga K "Reader") "peek" (sp_Reader_peek K) [] E0 (tVar 0) tNil) tNil)) (tVar 2))) tNil)))
  (tRet (tCB rIntA (tCons (tMeth (He.ga K "Reader") "go" (sp_Reader_go K) [] E0 (tVar 0) tNil) tNil))))
theorem pure_Reader_take_number (T : Txt K mg) {x y z : V} {H : Hp} {Q : VK} {E : XK} (h : pr_take_number K x y z H Q E) : t_Reader_take_number K { nx := fun _ H' => Q .non H', rt := Q } [some x, some y, some z] H := by
  obtain ⟨r, p, l, lo, hi, ws, t, k, n, rfl, rfl, rfl, rd, hd, h1, h2, hn, q⟩ := h
  have hl := numS_len (k := 20) (by decide) hn
  unfold t_Reader_take_number
  walk_at "w"
  refine me rd (by decide) (by decide) (by decide) ?_
  walk_at "w"
  refine me rd (by decide) (by decide) (by decide) ?_
  walk_at "w"
  refine use_peek rd ?_
  rw [gd hd]
  walk_at "w"
  refine ⟨_, rfl, n, rfl, hn, ?_⟩
  walk_at "w"
  refine me rd (by decide) (by decide) (by decide) ?_
  walk_at "w"
  refine use_peek rd ?_
  rw [gd hd]
  walk_at "w"
  refine st_int_str (numS_int hn) (by omega) ?_
  walk_at "w"
  rw [decide_eq_true h1]
  walk_at "w"
  rw [decide_eq_true h2]
  refine use_need ?_
  walk_at "w"
  refine me rd (by decide) (by decide) (by decide) ?_
  walk_at "w"
  refine use_go rd fun H' a => ?_
  rw [gd hd]
  walk_at "w"
  refine st_int_str (numS_int hn) (by omega) ?_
  walk_at "w"
  exact q _ a
theorem ok_Reader_take_number (T : Txt K mg) (c_is_number : Kp P w K mg base CX0 1 "is_number" ["word"] (sp_is_number K)) (c_Reader_need : Km P w K mg base CX0 1 (He.ga K "Reader") "need" ["self", "good"] (sp_Reader_need K)) (c_Reader_peek : Km P w K mg base CX0 1 (He.ga K "Reader") "peek" ["self"] (sp_Reader_peek K)) (c_Reader_go : Km P w K mg base CX0 2 (He.ga K "Reader") "go" ["self"] (sp_Reader_go K)) : Km P w K mg base CX0 3 (He.ga K "Reader") "take_number" ["self", "low", "high"] (sp_Reader_take_number K) := by
  obtain ⟨fd, F⟩ := T.c.def_ 15 (d := d_Reader_take_number) rfl
  refine ⟨T.cl_Reader, ⟨_, fd, T.me_Reader_take_number, F.bindsN fun _ _ _ _ _ _ us hl => match us, hl with | [_, _, _], _ => rfl, F.ok sc_Reader_take_number Sp3.len (fun cdv A outer s H vs Q E hr h => ?_)⟩⟩
  obtain ⟨v0, v1, v2, rfl, h⟩ := h
  refine ⟨t_Reader_take_number K, PSs.nox (?_), pure_Reader_take_number T h⟩
  exact (pss_cons (ps_expr (pe_mK c_Reader_need (hr.mono (by decide)) (pv 0) (pa_cons (pe_and (pe_cK c_is_number (hr.mono (by decide)) rfl (pa_cons (pe_mK0 c_Reader_peek (hr.mono (by decide)) (pv 0)) pa_nil)) (pe_one (pe_chain op_leA op_leA (pv 1) (pe_callTy call_intA (by rfl) T.n_int (by decide +kernel) (pa_cons (pe_mK0 c_Reader_peek (hr.mono (by decide)) (pv 0)) pa_nil)) (pv 2)))) pa_nil)))
      (pss_one (ps_ret (pe_callTy call_intA (by rfl) T.n_int (by decide +kernel) (pa_cons (pe_mK0 c_Reader_go (hr.mono (by decide)) (pv 0)) pa_nil)))))
theorem use_number {r p : Addr} {l lo hi : Int} {ws t : List Str} {k n : Nat} {H : Hp} {Q : VK} {E : XK} (rd : RD K H r p l ws k) (hd : ws.drop k = numS n :: t) (h1 : lo ≤ (n : Nat)) (h2 : ((n : Nat) : Int) ≤ hi) (hn : n < 10 ^ 20) (q : ∀ H', RA K r p l ws (k + 1) H H' → Q (.int (n : Nat)) H') :
    Sp3 (pr_take_number K) [.ref r, .int lo, .int hi] H Q E := ⟨_, _, _, rfl, r, p, l, lo, hi, ws, t, k, n, rfl, rfl, rfl, rd, hd, h1, h2, hn, q⟩
/-! ### take_fraction -/
def pr_take_fraction (K : PySem.W.Frag) : V → Hp → VK → XK → Prop := fun x H Q _ => ∃ (r p : Addr) (l : Int) (ws t : List Str) (k a b : Nat), x = .ref r ∧ RD K H r p l ws k ∧ ws.drop k = numS a :: "/" :: numS b :: t ∧ 1 ≤ a ∧ a ≤ b ∧ b ≤ 1000 ∧
  ∀ v H', RA K r p l ws (k + 3) H H' → Dp K H' v (.tuple [.int ((a / Nat.gcd a b : Nat) : Int), .int ((b / Nat.gcd a b : Nat) : Int)]) → Q v H'
def sp_Reader_take_fraction (K : PySem.W.Frag) : Sp := Sp1 (pr_take_fraction K)
def t_Reader_take_fraction (K : PySem.W.Frag) : TS :=
  (tSeq (tDrop (tMeth (He.ga K "Reader") "need" (sp_Reader_need K) [] E0 (tVar 0) (tCons (tAndV (tCall (sp_is_number K) [] E0 (tCons (tMeth (He.ga K "Reader") "peek" (sp_Reader_peek K) [] E0 (tVar 0) tNil) tNil)) (tChain rLeA rLeA (tC (.int 1)) (tCB rIntA (tCons (tMeth (He.ga K "Reader") "peek" (sp_Reader_peek K) [] E0 (tVar 0) tNil) tNil)) (tC (.int 1000)))) tNil)))
  (tSeq (tAsg (tCB rIntA (tCons (tMeth (He.ga K "Reader") "go" (sp_Reader_go K) [] E0 (tVar 0) tNil) tNil)) (gName 1))
  (tSeq (tDrop (tMeth (He.ga K "Reader") "take_word" (sp_Reader_take_word K) [] E0 (tVar 0) (tCons (tC (.str "/")) tNil)))
  (tRet (tCall (sp_fraction K) [] E0 (tCons (tVar 1) (tCons (tMeth (He.ga K "Reader") "take_number" (sp_Reader_take_number K) [] E0 (tVar 0) (tCons (tVar 1) (tCons (tC (.int 1000)) tNil))) tNil)))))))
theorem pure_Reader_take_fraction (T : Txt K mg) {x : V} {H : Hp} {Q : VK} {E : XK} (h : pr_take_fraction K x H Q E) : t_Reader_take_fraction K { nx := fun _ H' => Q .non H', rt := Q } [some x, none] H := by
  obtain ⟨r, p, l, ws, t, k, a, b, rfl, rd, hd, h1, h2, h3, q⟩ := h
  have hd2 := gt hd
  have hd3 := gt hd2
  have ha : a < 10 ^ 20 := by omega
  have hl := numS_len (k := 20) (by decide) ha
  unfold t_Reader_take_fraction
  walk_at "w"
  refine me rd (by decide) (by decide) (by decide) ?_
  walk_at "w"
  refine me rd (by decide) (by decide) (by decide) ?_
  walk_at "w"
  refine use_peek rd ?_
  rw [gd hd]
  walk_at "w"
  refine ⟨_, rfl, a, rfl, ha, ?_⟩
  walk_at "w"
  refine me rd (by decide) (by decide) (by decide) ?_
  walk_at "w"
  refine use_peek rd ?_
  rw [gd hd]
  walk_at "w"
  refine st_int_str (numS_int ha) (by omega) ?_
  walk_at "w"
  rw [decide_eq_true (show (1 : Int) ≤ (a : Nat) by omega)]
  walk_at "w"
  rw [decide_eq_true (show ((a : Nat) : Int) ≤ 1000 by omega)]
  refine use_need ?_
  walk_at "w"
  refine me rd (by decide) (by decide) (by decide) ?_
  walk_at "w"
  refine use_go rd fun H1 a1 => ?_
  rw [gd hd]
  walk_at "w"
  refine st_int_str (numS_int ha) (by omega) ?_
  walk_at "w"
  refine me a1.rd (by decide) (by decide) (by decide) ?_
  walk_at "w"
  refine ⟨_, _, rfl, r, p, l, ws, _, _, _, rfl, rfl, a1.rd, hd2, fun H2 a2 => ?_⟩
  walk_at "w"
  refine me a2.rd (by decide) (by decide) (by decide) ?_
  walk_at "w"
  refine use_number a2.rd hd3 (by omega) (by omega) (by omega) fun H3 a3 => ?_
  walk_at "w"
  refine ⟨_, _, rfl, a, b, rfl, rfl, by omega, by omega, by omega, fun p4 H4 s4 _ h4 => ?_⟩
  exact q _ _ (((a1.trans a2).trans a3).same s4) (.tup (.inl (.inl h4)) (.cons (.int _) (.cons (.int _) .nil)))
theorem ok_Reader_take_fraction (T : Txt K mg) (c_fraction : Kp P w K mg base CX0 2 "fraction" ["top", "bottom"] (sp_fraction K)) (c_is_number : Kp P w K mg base CX0 1 "is_number" ["word"] (sp_is_number K)) (c_Reader_need : Km P w K mg base CX0 1 (He.ga K "Reader") "need" ["self", "good"] (sp_Reader_need K)) (c_Reader_peek : Km P w K mg base CX0 1 (He.ga K "Reader") "peek" ["self"] (sp_Reader_peek K)) (c_Reader_go : Km P w K mg base CX0 2 (He.ga K "Reader") "go" ["self"] (sp_Reader_go K)) (c_Reader_take_word : Km P w K mg base CX0 3 (He.ga K "Reader") "take_word" ["self", "word"] (sp_Reader_take_word K)) (c_Reader_take_number : Km P w K mg base CX0 3 (He.ga K "Reader") "take_number" ["self", "low", "high"] (sp_Reader_take_number K)) : Km P w K mg base CX0 4 (He.ga K "Reader") "take_fraction" ["self"] (sp_Reader_take_fraction K) := by
  obtain ⟨fd, F⟩ := T.c.def_ 16 (d := d_Reader_take_fraction) rfl
  refine ⟨T.cl_Reader, ⟨_, fd, T.me_Reader_take_fraction, F.bindsN fun _ _ _ _ _ _ us hl => match us, hl with | [_], _ => rfl, F.ok sc_Reader_take_fraction Sp1.len (fun cdv A outer s H vs Q E hr h => ?_)⟩⟩
  obtain ⟨v0, rfl, h⟩ := h
  refine ⟨t_Reader_take_fraction K, PSs.nox (?_), pure_Reader_take_fraction T h⟩
  exact (pss_cons (ps_expr (pe_mK c_Reader_need (hr.mono (by decide)) (pv 0) (pa_cons (pe_and (pe_cK c_is_number (hr.mono (by decide)) rfl (pa_cons (pe_mK0 c_Reader_peek (hr.mono (by decide)) (pv 0)) pa_nil)) (pe_one (pe_chain op_leA op_leA pe_int (pe_callTy call_intA (by rfl) T.n_int (by decide +kernel) (pa_cons (pe_mK0 c_Reader_peek (hr.mono (by decide)) (pv 0)) pa_nil)) (pe_gi rfl T.g_MOST_BOTTOM)))) pa_nil)))
      (pss_cons (ps_set (i := 1) sc_Reader_take_fraction.nd rfl (by first | exact Or.inl rfl | exact Or.inr rfl) (pe_callTy call_intA (by rfl) T.n_int (by decide +kernel) (pa_cons (pe_mK0 c_Reader_go (hr.mono (by decide)) (pv 0)) pa_nil)))
      (pss_cons (ps_expr (pe_mK c_Reader_take_word (hr.mono (by decide)) (pv 0) (pa_cons pe_str pa_nil)))
      (pss_one (ps_ret (pe_cK c_fraction (hr.mono (by decide)) rfl (pa_cons (pv 1) (pa_cons (pe_mK c_Reader_take_number (hr.mono (by decide)) (pv 0) (pa_cons (pv 1) (pa_cons (pe_gi rfl T.g_MOST_BOTTOM) pa_nil))) pa_nil))))))))
end
end K02
set_option Elab.async false
set_option linter.all false
set_option maxRecDepth 100000
set_option maxHeartbeats 4000000
namespace K02
open PySem PySem.Spec PyProof.Rows L2 My
section
variable {P : Program} {w : World} {K : PySem.W.Frag} {mg : Str → Option Value} {base : Heap}
/-! ### take_parents -/
def pr_take_parents (K : PySem.W.Frag) : V → Hp → VK → XK → Prop := fun x H Q _ => ∃ (r p : Addr) (l : Int) (ws qs ps : List Str) (k : Nat), x = .ref r ∧ RD K H r p l ws k ∧ ws.drop k = qs ∧ (qs = ps ∨ qs = ps.reverse) ∧ ps ≠ [] ∧ ps.length ≤ 2 ∧ (∀ p ∈ ps, isName p = true) ∧ ps.Nodup ∧ sortedS ps = true ∧
  ∀ v H', RA K r p l ws (k + ps.length) H H' → Dp K H' v (.tuple (ps.map PyData.str)) → Q v H'
def sp_Reader_take_parents (K : PySem.W.Frag) : Sp := Sp1 (pr_take_parents K)
def t_Reader_take_parents (K : PySem.W.Frag) : TS :=
  (tSeq (tAsg (tLst (tCons (tMeth (He.ga K "Reader") "take_name" (sp_Reader_take_name K) [] E0 (tVar 0) (tCons (tLst tNil) tNil)) tNil)) (gName 1))
  (tSeq (tIfS (tTest (tOp rLtA (tFld K (tVar 0) "at") (tCB (rLenA K) (tCons (tFld K (tVar 0) "row") tNil)))) (tDrop (tBM K "list" rAppend (tVar 1) (tCons (tMeth (He.ga K "Reader") "take_name" (sp_Reader_take_name K) [] E0 (tVar 0) (tCons (tVar 1) tNil)) tNil))) tNext)
  (tRet (tCB (rTupleOf K) (tCons (tCB (rSortedA K) (tCons (tVar 1) tNil)) tNil)))))
theorem pure_Reader_take_parents (T : Txt K mg) {x : V} {H : Hp} {Q : VK} {E : XK} (h : pr_take_parents K x H Q E) : t_Reader_take_parents K { nx := fun _ H' => Q .non H', rt := Q } [some x, none] H := by
  obtain ⟨r, p, l, ws, qs, ps, k, rfl, rd, hd, hq, h0, h2, hn, nd, so, q⟩ := h
  have hlen := gl hd
  have hdl : k ≤ ws.length ∨ qs.length = 0 := by omega
  unfold t_Reader_take_parents
  walk_at "w"
  refine me rd (by decide) (by decide) (by decide) ?_
  walk_at "w"
  match ps, h0, h2 with
  | [a], _, _ =>
    have hqs : qs = [a] := by rcases hq with h | h <;> exact h
    subst hqs
    refine use_name0 rd hd (hn a List.mem_cons_self) fun H1 a1 => ?_
    walk_at "w"
    refine ⟨show 1 ≤ sizeLine by decide, fun f hf => ?_⟩
    have a2 := a1.same (same_new (o := .lst [V.str a]) hf)
    have hf2 : upd H1 f (.lst [V.str a]) f = some (.lst [V.str a]) := upd_same
    generalize upd H1 f (.lst [V.str a]) = H2 at *
    walk_at "w"
    refine fl_at T a2.rd ?_
    walk_at "w"
    refine fl_row T a2.rd ?_
    walk_at "w"
    refine st_len_list a2.rd.row ?_
    rw [List.length_map]
    walk_at "w"
    simp only [List.length_cons, List.length_nil] at hlen
    rw [decide_eq_false (show ¬ ((k + 1 : Nat) : Int) < (ws.length : Nat) by omega)]
    walk_at "w"
    refine .inr (.inl ⟨f, [a], rfl, SqL.of hf2, show 1 < 64 by decide, fun ys p3 hp so2 hp3 => ?_⟩)
    have ey : ys = [a] := List.perm_singleton.mp hp
    subst ey
    walk_at "w"
    refine ⟨p3, [V.str a], rfl, .inl ⟨SqL.of upd_same, fun p4 hp4 => ?_⟩⟩
    refine q _ _ ((a2.same (same_new hp3)).same (same_new hp4)) (.tup (.inl (.inl upd_same)) (.cons (.str _) .nil))
  | [a, b], _, _ =>
    obtain ⟨c, d, hqs, hcd, hc, hdn, hperm⟩ : ∃ c d, qs = [c, d] ∧ c ≠ d ∧ isName c = true ∧ isName d = true ∧ ([c, d] = [a, b] ∨ [c, d] = [b, a]) := by
      have hab : a ≠ b := fun e => by
        rw [e] at nd
        exact (List.nodup_cons.mp nd).1 List.mem_cons_self
      have ha := hn a List.mem_cons_self
      have hb := hn b (List.mem_cons_of_mem _ List.mem_cons_self)
      rcases hq with h | h
      · exact ⟨a, b, h, hab, ha, hb, .inl rfl⟩
      · exact ⟨b, a, h, fun e => hab e.symm, hb, ha, .inr rfl⟩
    subst hqs
    have hd2 := gt hd
    refine use_name0 rd hd hc fun H1 a1 => ?_
    walk_at "w"
    refine ⟨show 1 ≤ sizeLine by decide, fun f hf => ?_⟩
    have a2 := a1.same (same_new (o := .lst [V.str c]) hf)
    have hf0 : H f = none := by
      obtain ⟨dx, h5⟩ := a1.rd.ex
      exact a1.sb.free (fun e => by rw [e, h5] at hf; cases hf) hf
    have hf2 : upd H1 f (.lst [V.str c]) f = some (.lst [V.str c]) := upd_same
    generalize upd H1 f (.lst [V.str c]) = H2 at *
    walk_at "w"
    refine fl_at T a2.rd ?_
    walk_at "w"
    refine fl_row T a2.rd ?_
    walk_at "w"
    refine st_len_list a2.rd.row ?_
    rw [List.length_map]
    walk_at "w"
    simp only [List.length_cons, List.length_nil] at hlen
    rw [decide_eq_true (show ((k + 1 : Nat) : Int) < (ws.length : Nat) by omega)]
    walk_at "w"
    refine ⟨.inl ⟨rfl, _, SqL.of hf2⟩, ?_⟩
    walk_at "w"
    refine me a2.rd (by decide) (by decide) (by decide) ?_
    walk_at "w"
    refine use_name (us := [c]) a2.rd (SqL.of hf2) hd2 hdn (fun h => hcd (List.mem_singleton.mp h).symm) fun H3 a3 => ?_
    have fr : f ≠ r := fun e => by
      obtain ⟨dx, h5⟩ := a2.rd.ex
      rw [e, h5] at hf2; cases hf2
    have hf3 := a3.sb _ _ fr hf2
    have a3 := a2.trans a3
    walk_at "w"
    refine ⟨f, [V.str c], V.str d, rfl, rfl, hf3, show 1 < sizeLine by decide, ?_⟩
    have a4 := a3.mut (o := .lst ([V.str c] ++ [V.str d])) rd hf0
    have hf4 : upd H3 f (.lst ([V.str c] ++ [V.str d])) f = some (.lst ([c, d].map V.str)) := upd_same
    generalize upd H3 f (.lst ([V.str c] ++ [V.str d])) = H4 at *
    walk_at "w"
    refine .inr (.inl ⟨f, [c, d], rfl, SqL.of hf4, show 2 < 64 by decide, fun ys p3 hp so2 hp3 => ?_⟩)
    have ey : ys = [a, b] := by
      rcases hperm with h | h
      · rw [h] at hp
        exact sorted_two so (hp.trans (List.Perm.swap ..)) so2
      · rw [h] at hp
        exact sorted_two so hp so2
    subst ey
    walk_at "w"
    refine ⟨p3, [V.str a, V.str b], rfl, .inl ⟨SqL.of upd_same, fun p4 hp4 => ?_⟩⟩
    refine q _ _ ((a4.same (same_new hp3)).same (same_new hp4)) (.tup (.inl (.inl upd_same)) (.cons (.str _) (.cons (.str _) .nil)))
theorem ok_Reader_take_parents (T : Txt K mg) (c_Reader_take_name : Km P w K mg base CX0 3 (He.ga K "Reader") "take_name" ["self", "unlike"] (sp_Reader_take_name K)) : Km P w K mg base CX0 4 (He.ga K "Reader") "take_parents" ["self"] (sp_Reader_take_parents K) := by
  obtain ⟨fd, F⟩ := T.c.def_ 17 (d := d_Reader_take_parents) rfl
  refine ⟨T.cl_Reader, ⟨_, fd, T.me_Reader_take_parents, F.bindsN fun _ _ _ _ _ _ us hl => match us, hl with | [_], _ => rfl, F.ok sc_Reader_take_parents Sp1.len (fun cdv A outer s H vs Q E hr h => ?_)⟩⟩
  obtain ⟨v0, rfl, h⟩ := h
  refine ⟨t_Reader_take_parents K, PSs.nox (?_), pure_Reader_take_parents T h⟩
  exact (pss_cons (ps_set (i := 1) sc_Reader_take_parents.nd rfl (by first | exact Or.inl rfl | exact Or.inr rfl) (pe_lst (pa_cons (pe_mK c_Reader_take_name (hr.mono (by decide)) (pv 0) (pa_cons (pe_lst pa_nil) pa_nil)) pa_nil)))
      (pss_cons (ps_if (pt_cmpR op_ltA (pe_fld (pv 0) rfl) (pe_callB call_len (by rfl) T.n_len (by decide +kernel) (pa_cons (pe_fld (pv 0) rfl) pa_nil)) (nomark _)) (pss_one (ps_expr (pe_bm PySem.F.plainAttrs_list PySem.F.slot_list_append PySem.F.type_list_append mt_append (pv 1) (pa_cons (pe_mK c_Reader_take_name (hr.mono (by decide)) (pv 0) (pa_cons (pv 1) pa_nil)) pa_nil)))) pss_nil)
      (pss_one (ps_ret (pe_callTy call_tuple_of (by rfl) T.n_tuple (by decide +kernel) (pa_cons (pe_callB call_sortedA (by rfl) T.n_sorted (by decide +kernel) (pa_cons (pv 1) pa_nil)) pa_nil))))))
/-! ### take_pair -/
def pr_take_pair (K : PySem.W.Frag) : V → Hp → VK → XK → Prop := fun x H Q _ => ∃ (r p : Addr) (l : Int) (ws t : List Str) (k : Nat) (a b : Str), x = .ref r ∧ RD K H r p l ws k ∧ ws.drop k = a :: b :: t ∧ isName a = true ∧ isName b = true ∧ a ≠ b ∧
  ∀ v H', RA K r p l ws (k + 2) H H' → H' v = some (.tup [.str a, .str b]) → Q (.ref v) H'
def sp_Reader_take_pair (K : PySem.W.Frag) : Sp := Sp1 (pr_take_pair K)
def t_Reader_take_pair (K : PySem.W.Frag) : TS :=
  (tSeq (tAsg (tMeth (He.ga K "Reader") "take_name" (sp_Reader_take_name K) [] E0 (tVar 0) (tCons (tLst tNil) tNil)) (gName 1))
  (tRet (tTup (tCons (tVar 1) (tCons (tMeth (He.ga K "Reader") "take_name" (sp_Reader_take_name K) [] E0 (tVar 0) (tCons (tLst (tCons (tVar 1) tNil)) tNil)) tNil)))))
theorem pure_Reader_take_pair (T : Txt K mg) {x : V} {H : Hp} {Q : VK} {E : XK} (h : pr_take_pair K x H Q E) : t_Reader_take_pair K { nx := fun _ H' => Q .non H', rt := Q } [some x, none] H := by
  obtain ⟨r, p, l, ws, t, k, a, b, rfl, rd, hd, ha, hb, hab, q⟩ := h
  unfold t_Reader_take_pair
  walk_at "w"
  refine me rd (by decide) (by decide) (by decide) ?_
  walk_at "w"
  refine use_name0 rd hd ha fun H1 a1 => ?_
  walk_at "w"
  refine me a1.rd (by decide) (by decide) (by decide) ?_
  walk_at "w"
  refine use_name1 a1.rd (gt hd) hb hab fun H2 a2 => ?_
  walk_at "w"
  refine ⟨show 2 ≤ sizeLine by decide, fun v hv => ?_⟩
  exact q _ _ ((a1.trans a2).same (same_new hv)) upd_same
theorem ok_Reader_take_pair (T : Txt K mg) (c_Reader_take_name : Km P w K mg base CX0 3 (He.ga K "Reader") "take_name" ["self", "unlike"] (sp_Reader_take_name K)) : Km P w K mg base CX0 4 (He.ga K "Reader") "take_pair" ["self"] (sp_Reader_take_pair K) := by
  obtain ⟨fd, F⟩ := T.c.def_ 18 (d := d_Reader_take_pair) rfl
  refine ⟨T.cl_Reader, ⟨_, fd, T.me_Reader_take_pair, F.bindsN fun _ _ _ _ _ _ us hl => match us, hl with | [_], _ => rfl, F.ok sc_Reader_take_pair Sp1.len (fun cdv A outer s H vs Q E hr h => ?_)⟩⟩
  obtain ⟨v0, rfl, h⟩ := h
  refine ⟨t_Reader_take_pair K, PSs.nox (?_), pure_Reader_take_pair T h⟩
  exact (pss_cons (ps_set (i := 1) sc_Reader_take_pair.nd rfl (by first | exact Or.inl rfl | exact Or.inr rfl) (pe_mK c_Reader_take_name (hr.mono (by decide)) (pv 0) (pa_cons (pe_lst pa_nil) pa_nil)))
      (pss_one (ps_ret (pe_tup (pa_cons (pv 1) (pa_cons (pe_mK c_Reader_take_name (hr.mono (by decide)) (pv 0) (pa_cons (pe_lst (pa_cons (pv 1) pa_nil)) pa_nil)) pa_nil))))))
theorem use_pair {r p : Addr} {l : Int} {ws t : List Str} {k : Nat} {a b : Str} {H : Hp} {Q : VK} {E : XK} (rd : RD K H r p l ws k) (hd : ws.drop k = a :: b :: t) (ha : isName a = true) (hb : isName b = true) (hab : a ≠ b) (q : ∀ v H', RA K r p l ws (k + 2) H H' → H' v = some (.tup [.str a, .str b]) → Q (.ref v) H') :
    Sp1 (pr_take_pair K) [.ref r] H Q E := ⟨_, rfl, r, p, l, ws, t, k, a, b, rfl, rd, hd, ha, hb, hab, q⟩
/-! ### over -/
def pr_over (K : PySem.W.Frag) : V → Hp → VK → XK → Prop := fun x H Q _ => ∃ (r p : Addr) (l : Int) (ws : List Str), x = .ref r ∧ RD K H r p l ws ws.length ∧ Q .non H
def sp_Reader_over (K : PySem.W.Frag) : Sp := Sp1 (pr_over K)
def t_Reader_over (K : PySem.W.Frag) : TS :=
  (tDrop (tMeth (He.ga K "Reader") "need" (sp_Reader_need K) [] E0 (tVar 0) (tCons (tOp (rEqA K) (tFld K (tVar 0) "at") (tCB (rLenA K) (tCons (tFld K (tVar 0) "row") tNil))) tNil)))
theorem pure_Reader_over (T : Txt K mg) {x : V} {H : Hp} {Q : VK} {E : XK} (h : pr_over K x H Q E) : t_Reader_over K { nx := fun _ H' => Q .non H', rt := Q } [some x] H := by
  obtain ⟨r, p, l, ws, rfl, rd, q⟩ := h
  unfold t_Reader_over
  walk_at "w"
  refine me rd (by decide) (by decide) (by decide) ?_
  walk_at "w"
  refine fl_at T rd ?_
  walk_at "w"
  refine fl_row T rd ?_
  walk_at "w"
  refine st_len_list rd.row ?_
  rw [List.length_map]
  walk_at "w"
  rw [decide_eq_true rfl]
  refine use_need ?_
  walk_at "w"
  exact q
theorem ok_Reader_over (T : Txt K mg) (c_Reader_need : Km P w K mg base CX0 1 (He.ga K "Reader") "need" ["self", "good"] (sp_Reader_need K)) : Km P w K mg base CX0 2 (He.ga K "Reader") "over" ["self"] (sp_Reader_over K) := by
  obtain ⟨fd, F⟩ := T.c.def_ 19 (d := d_Reader_over) rfl
  refine ⟨T.cl_Reader, ⟨_, fd, T.me_Reader_over, F.bindsN fun _ _ _ _ _ _ us hl => match us, hl with | [_], _ => rfl, F.ok sc_Reader_over Sp1.len (fun cdv A outer s H vs Q E hr h => ?_)⟩⟩
  obtain ⟨v0, rfl, h⟩ := h
  refine ⟨t_Reader_over K, PSs.nox (?_), pure_Reader_over T h⟩
  exact (pss_one (ps_expr (pe_mK c_Reader_need (hr.mono (by decide)) (pv 0) (pa_cons (pe_cmpR (op_eqA hr) (pe_fld (pv 0) rfl) (pe_callB call_len (by rfl) T.n_len (by decide +kernel) (pa_cons (pe_fld (pv 0) rfl) pa_nil)) (nomark _)) pa_nil))))
/-! ### take_life -/
def lifeT (t : Bool) : Str := if t then "taken" else "born"
def pr_take_life (K : PySem.W.Frag) : V → V → Hp → VK → XK → Prop := fun x y H Q _ => ∃ (r p : Addr) (l : Int) (ws : List Str) (k : Nat) (sw t : Bool) (n : Str) (d : Nat) (ps : List Str), x = .ref r ∧ y = .str (lifeT t) ∧ RD K H r p l ws k ∧ k ≤ ws.length ∧
  ws.drop k = n :: numS d :: (if ps = [] then [] else ("of" : Str) :: (if sw then ps.reverse else ps)) ∧ (Fact.life t n d ps).Ok ∧ ∀ v H', RA K r p l ws ws.length H H' → Dp K H' v (Fact.life t n d ps).data → Q v H'
def sp_Reader_take_life (K : PySem.W.Frag) : Sp := Sp2 (pr_take_life K)
def t_Reader_take_life (K : PySem.W.Frag) : TS :=
  (tSeq (tAsg (tMeth (He.ga K "Reader") "take_name" (sp_Reader_take_name K) [] E0 (tVar 0) (tCons (tLst tNil) tNil)) (gName 2))
  (tSeq (tAsg (tMeth (He.ga K "Reader") "take_number" (sp_Reader_take_number K) [] E0 (tVar 0) (tCons (tC (.int 0)) (tCons (tC (.int 99999)) tNil))) (gName 3))
  (tSeq (tAsg (tTup tNil) (gName 4))
  (tSeq (tIfS (tOr (tTest (tOp (rEqA K) (tVar 1) (tC (.str "taken")))) (tTest (tOp rLtA (tFld K (tVar 0) "at") (tCB (rLenA K) (tCons (tFld K (tVar 0) "row") tNil))))) (tSeq (tDrop (tMeth (He.ga K "Reader") "take_word" (sp_Reader_take_word K) [] E0 (tVar 0) (tCons (tC (.str "of")) tNil)))
  (tAsg (tMeth (He.ga K "Reader") "take_parents" (sp_Reader_take_parents K) [] E0 (tVar 0) tNil) (gName 4))) tNext)
  (tRet (tTup (tCons (tVar 1) (tCons (tVar 2) (tCons (tVar 3) (tCons (tVar 4) tNil))))))))))
theorem lifeT_dec (t : Bool) : decide (lifeT t = "taken") = t := by cases t <;> decide +kernel
theorem pure_Reader_take_life (T : Txt K mg) {x y : V} {H : Hp} {Q : VK} {E : XK} (h : pr_take_life K x y H Q E) : t_Reader_take_life K { nx := fun _ H' => Q .non H', rt := Q } [some x, some y, none, none, none] H := by
  obtain ⟨r, p, l, ws, k, sw, t, n, d, ps, rfl, rfl, rd, hk, hd, ok, q⟩ := h
  obtain ⟨hn, hdd, hps, hpl, nd, so, ht⟩ := ok
  have hd2 := gt hd
  have hd3 := gt hd2
  have hlen := gl hd
  unfold t_Reader_take_life
  walk_at "w"
  refine me rd (by decide) (by decide) (by decide) ?_
  walk_at "w"
  refine use_name0 rd hd hn fun H1 a1 => ?_
  walk_at "w"
  refine me a1.rd (by decide) (by decide) (by decide) ?_
  walk_at "w"
  refine use_number a1.rd hd2 (by omega) (by omega) (by omega) fun H2 a2 => ?_
  have a2 := a1.trans a2
  walk_at "w"
  refine ⟨Nat.zero_le _, fun e he => ?_⟩
  have a3 := a2.same (same_new (o := .tup []) he)
  have he3 : upd H2 e (.tup []) e = some (.tup []) := upd_same
  generalize upd H2 e (.tup []) = H3 at *
  walk_at "w"
  rw [lifeT_dec]
  by_cases hp : ps = []
  · subst hp
    have htf : t = false := by
      cases t with
      | false => rfl
      | true => exact absurd rfl (ht rfl)
    subst htf
    rw [if_pos rfl] at hlen
    simp only [List.length_cons, List.length_nil] at hlen
    walk_at "w"
    refine fl_at T a3.rd ?_
    walk_at "w"
    refine fl_row T a3.rd ?_
    walk_at "w"
    refine st_len_list a3.rd.row ?_
    rw [List.length_map]
    walk_at "w"
    rw [decide_eq_false (show ¬ ((k + 1 + 1 : Nat) : Int) < (ws.length : Nat) by omega)]
    walk_at "w"
    refine ⟨show 4 ≤ sizeLine by decide, fun v hv => ?_⟩
    have a4 := a3.same (same_new (o := .tup [V.str (lifeT false), V.str n, V.int (d : Nat), V.ref e]) hv)
    have he4 := same_new (o := .tup [V.str (lifeT false), V.str n, V.int (d : Nat), V.ref e]) hv _ _ he3
    have e1 : k + 1 + 1 = ws.length := by omega
    rw [e1] at a4
    exact q _ _ a4 (.tup (.inl (.inl upd_same)) (.cons (.str _) (.cons (.str _) (.cons (.int _) (.cons (.tup (.inl (.inl he4)) .nil) .nil)))))
  · rw [if_neg hp] at hlen hd3
    simp only [List.length_cons] at hlen
    have hd4 := gt hd3
    have fin : ∀ H', H' = H3 → (tSeq (tDrop (tMeth (He.ga K "Reader") "take_word" (sp_Reader_take_word K) [] E0 (tVar 0) (tCons (tC (.str "of")) tNil))) (tAsg (tMeth (He.ga K "Reader") "take_parents" (sp_Reader_take_parents K) [] E0 (tVar 0) tNil) (gName 4)))
        ⟨fun σ H => (tRet (tTup (tCons (tVar 1) (tCons (tVar 2) (tCons (tVar 3) (tCons (tVar 4) tNil)))))) ⟨fun _ H' => Q .non H', Q, fun _ _ => False, fun _ _ => False⟩ σ H, Q, fun _ _ => False, fun _ _ => False⟩ [some (.ref r), some (.str (lifeT t)), some (.str n), some (.int (d : Nat)), some (.ref e)] H' := by
      rintro _ rfl
      walk_at "w"
      refine me a3.rd (by decide) (by decide) (by decide) ?_
      walk_at "w"
      refine ⟨_, _, rfl, r, p, l, ws, _, _, _, rfl, rfl, a3.rd, hd3, fun H4 a4 => ?_⟩
      walk_at "w"
      refine me a4.rd (by decide) (by decide) (by decide) ?_
      walk_at "w"
      have a4 := a3.trans a4
      refine ⟨_, rfl, r, p, l, ws, _, ps, _, rfl, a4.rd, hd4, ?_, hp, hpl, hps, nd, so, fun v H5 a5 hv => ?_⟩
      · cases sw
        · exact .inl rfl
        · exact .inr rfl
      walk_at "w"
      refine ⟨show 4 ≤ sizeLine by decide, fun u hu => ?_⟩
      have a6 := (a4.trans a5).same (same_new (o := .tup [V.str (lifeT t), V.str n, V.int (d : Nat), v]) hu)
      have hv6 := hv.same (same_new (o := .tup [V.str (lifeT t), V.str n, V.int (d : Nat), v]) hu)
      have hl2 : (if sw then ps.reverse else ps).length = ps.length := by cases sw <;> simp
      have e1 : k + 1 + 1 + 1 + ps.length = ws.length := by omega
      rw [e1] at a6
      exact q _ _ a6 (.tup (.inl (.inl upd_same)) (.cons (.str _) (.cons (.str _) (.cons (.int _) (.cons hv6 .nil)))))
    cases t with
    | true => exact iteT (iteT (fin _ rfl))
    | false =>
      walk_at "w"
      refine fl_at T a3.rd ?_
      walk_at "w"
      refine fl_row T a3.rd ?_
      walk_at "w"
      refine st_len_list a3.rd.row ?_
      rw [List.length_map]
      walk_at "w"
      rw [decide_eq_true (show ((k + 1 + 1 : Nat) : Int) < (ws.length : Nat) by omega)]
      refine iteT ?_
      exact fin _ rfl
theorem ok_Reader_take_life (T : Txt K mg) (c_Reader_take_word : Km P w K mg base CX0 3 (He.ga K "Reader") "take_word" ["self", "word"] (sp_Reader_take_word K)) (c_Reader_take_name : Km P w K mg base CX0 3 (He.ga K "Reader") "take_name" ["self", "unlike"] (sp_Reader_take_name K)) (c_Reader_take_number : Km P w K mg base CX0 3 (He.ga K "Reader") "take_number" ["self", "low", "high"] (sp_Reader_take_number K)) (c_Reader_take_parents : Km P w K mg base CX0 4 (He.ga K "Reader") "take_parents" ["self"] (sp_Reader_take_parents K)) : Km P w K mg base CX0 5 (He.ga K "Reader") "take_life" ["self", "word"] (sp_Reader_take_life K) := by
  obtain ⟨fd, F⟩ := T.c.def_ 20 (d := d_Reader_take_life) rfl
  refine ⟨T.cl_Reader, ⟨_, fd, T.me_Reader_take_life, F.bindsN fun _ _ _ _ _ _ us hl => match us, hl with | [_, _], _ => rfl, F.ok sc_Reader_take_life Sp2.len (fun cdv A outer s H vs Q E hr h => ?_)⟩⟩
  obtain ⟨v0, v1, rfl, h⟩ := h
  refine ⟨t_Reader_take_life K, PSs.nox (?_), pure_Reader_take_life T h⟩
  exact (pss_cons (ps_set (i := 2) sc_Reader_take_life.nd rfl (by first | exact Or.inl rfl | exact Or.inr rfl) (pe_mK c_Reader_take_name (hr.mono (by decide)) (pv 0) (pa_cons (pe_lst pa_nil) pa_nil)))
      (pss_cons (ps_set (i := 3) sc_Reader_take_life.nd rfl (by first | exact Or.inl rfl | exact Or.inr rfl) (pe_mK c_Reader_take_number (hr.mono (by decide)) (pv 0) (pa_cons pe_int (pa_cons (pe_gi rfl T.g_LAST_DAY) pa_nil))))
      (pss_cons (ps_set (i := 4) sc_Reader_take_life.nd rfl (by first | exact Or.inl rfl | exact Or.inr rfl) (pe_tup pa_nil))
      (pss_cons (ps_if (PW.pt (pw_or (pt_cmpR (op_eqA hr) (pv 1) pe_str (nomark _)) (pw_or1 (pt_cmpR op_ltA (pe_fld (pv 0) rfl) (pe_callB call_len (by rfl) T.n_len (by decide +kernel) (pa_cons (pe_fld (pv 0) rfl) pa_nil)) (nomark _))))) (pss_cons (ps_expr (pe_mK c_Reader_take_word (hr.mono (by decide)) (pv 0) (pa_cons pe_str pa_nil)))
      (pss_one (ps_set (i := 4) sc_Reader_take_life.nd rfl (by first | exact Or.inl rfl | exact Or.inr rfl) (pe_mK0 c_Reader_take_parents (hr.mono (by decide)) (pv 0))))) pss_nil)
      (pss_one (ps_ret (pe_tup (pa_cons (pv 1) (pa_cons (pv 2) (pa_cons (pv 3) (pa_cons (pv 4) pa_nil)))))))))))
end
end K02
set_option Elab.async false
set_option linter.all false
set_option maxRecDepth 100000
set_option maxHeartbeats 4000000
namespace K02
open PySem PySem.Spec PyProof.Rows L2 My
section
variable {P : Program} {w : World} {K : PySem.W.Frag} {mg : Str → Option Value} {base : Heap}
theorem st_cat_tup {a b : Addr} {xs ys : List V} {H : Hp} {Q : VK} (h : SqT K H a xs) (h' : SqT K H b ys) (hx : xs ≠ []) (hy : ys ≠ []) (hz : xs.length + ys.length ≤ 1000000) (q : ∀ p, H p = none → Q (.ref p) (upd H p (.tup (xs ++ ys)))) : rAddA K (.ref a) (.ref b) H Q :=
  .inr (.inr (.inr ⟨a, b, xs, ys, rfl, rfl, h, h', hx, small _ hz, fun e => absurd e hy, fun _ => q⟩))
/-! ### take_instead -/
def optV : Option Str → V
  | none => .non
  | some e => .str e
theorem optV_dp {H : Hp} (e : Option Str) : Dp K H (optV e) (optD e) := by
  cases e with
  | none => exact .non
  | some e => exact .str e
def pr_take_instead (K : PySem.W.Frag) : V → Hp → VK → XK → Prop := fun x H Q _ => ∃ (r p : Addr) (l : Int) (ws : List Str) (k : Nat) (e : Option Str), x = .ref r ∧ RD K H r p l ws k ∧ k ≤ ws.length ∧ ws.drop k = elseW e ∧ optOk e ∧ ∀ H', RA K r p l ws ws.length H H' → Q (optV e) H'
def sp_Reader_take_instead (K : PySem.W.Frag) : Sp := Sp1 (pr_take_instead K)
def t_Reader_take_instead (K : PySem.W.Frag) : TS :=
  (tSeq (tIfS (tTest (tOp (rEqA K) (tFld K (tVar 0) "at") (tCB (rLenA K) (tCons (tFld K (tVar 0) "row") tNil)))) (tRet (tC .non)) tNext)
  (tSeq (tDrop (tMeth (He.ga K "Reader") "take_word" (sp_Reader_take_word K) [] E0 (tVar 0) (tCons (tC (.str "else")) tNil)))
  (tRet (tMeth (He.ga K "Reader") "take_name" (sp_Reader_take_name K) [] E0 (tVar 0) (tCons (tLst tNil) tNil)))))
theorem pure_Reader_take_instead (T : Txt K mg) {x : V} {H : Hp} {Q : VK} {E : XK} (h : pr_take_instead K x H Q E) : t_Reader_take_instead K { nx := fun _ H' => Q .non H', rt := Q } [some x] H := by
  obtain ⟨r, p, l, ws, k, e, rfl, rd, hk, hd, ok, q⟩ := h
  have hlen := gl hd
  unfold t_Reader_take_instead
  walk_at "w"
  refine fl_at T rd ?_
  walk_at "w"
  refine fl_row T rd ?_
  walk_at "w"
  refine st_len_list rd.row ?_
  rw [List.length_map]
  walk_at "w"
  cases e with
  | none =>
    have e1 : k = ws.length := by
      simp only [elseW, List.length_nil] at hlen
      omega
    rw [decide_eq_true (by rw [e1])]
    walk_at "w"
    subst e1
    exact q _ (rd.ra (Same.refl _))
  | some e =>
    have hd2 := gt hd
    simp only [elseW, List.length_cons, List.length_nil] at hlen
    rw [decide_eq_false (show ¬ ((k : Nat) : Int) = (ws.length : Nat) by omega)]
    walk_at "w"
    refine me rd (by decide) (by decide) (by decide) ?_
    walk_at "w"
    refine ⟨_, _, rfl, r, p, l, ws, _, _, _, rfl, rfl, rd, hd, fun H1 a1 => ?_⟩
    walk_at "w"
    refine me a1.rd (by decide) (by decide) (by decide) ?_
    walk_at "w"
    refine use_name0 a1.rd hd2 ok fun H2 a2 => ?_
    walk_at "w"
    have e1 : k + 1 + 1 = ws.length := by omega
    have a3 := a1.trans a2
    rw [e1] at a3
    exact q _ a3
theorem ok_Reader_take_instead (T : Txt K mg) (c_Reader_take_word : Km P w K mg base CX0 3 (He.ga K "Reader") "take_word" ["self", "word"] (sp_Reader_take_word K)) (c_Reader_take_name : Km P w K mg base CX0 3 (He.ga K "Reader") "take_name" ["self", "unlike"] (sp_Reader_take_name K)) : Km P w K mg base CX0 4 (He.ga K "Reader") "take_instead" ["self"] (sp_Reader_take_instead K) := by
  obtain ⟨fd, F⟩ := T.c.def_ 21 (d := d_Reader_take_instead) rfl
  refine ⟨T.cl_Reader, ⟨_, fd, T.me_Reader_take_instead, F.bindsN fun _ _ _ _ _ _ us hl => match us, hl with | [_], _ => rfl, F.ok sc_Reader_take_instead Sp1.len (fun cdv A outer s H vs Q E hr h => ?_)⟩⟩
  obtain ⟨v0, rfl, h⟩ := h
  refine ⟨t_Reader_take_instead K, PSs.nox (?_), pure_Reader_take_instead T h⟩
  exact (pss_cons (ps_if (pt_cmpR (op_eqA hr) (pe_fld (pv 0) rfl) (pe_callB call_len (by rfl) T.n_len (by decide +kernel) (pa_cons (pe_fld (pv 0) rfl) pa_nil)) (nomark _)) (pss_one (ps_ret pe_non)) pss_nil)
      (pss_cons (ps_expr (pe_mK c_Reader_take_word (hr.mono (by decide)) (pv 0) (pa_cons pe_str pa_nil)))
      (pss_one (ps_ret (pe_mK c_Reader_take_name (hr.mono (by decide)) (pv 0) (pa_cons (pe_lst pa_nil) pa_nil))))))
/-! ### take_last_word -/
def What.Fits (m : Nat) : What → Prop
  | .part _ _ b _ => 1 ≤ m ∧ m * b ≤ 1000
  | _ => True
theorem fits_word {m k : Nat} {n : Str} {w : What} (h : (Fact.word n k w).Fits m) : What.Fits m w := by
  cases w <;> exact h
def pr_take_last (K : PySem.W.Frag) : V → Hp → VK → XK → Prop := fun x H Q _ => ∃ (r p : Addr) (l : Int) (ws : List Str) (k m : Nat) (n : Str) (i : Nat) (wh : What), x = .ref r ∧ RD K H r p l ws k ∧ k ≤ ws.length ∧ ws.drop k = n :: numS i :: wh.words m ∧ (Fact.word n i wh).Ok ∧ What.Fits m wh ∧
  ∀ v H', RA K r p l ws ws.length H H' → Dp K H' v (Fact.word n i wh).data → Q v H'
def sp_Reader_take_last_word (K : PySem.W.Frag) : Sp := Sp1 (pr_take_last K)
def t_Reader_take_last_word_0 (K : PySem.W.Frag) : TS :=
  (tSeq (tAsg (tIf (tTest (tOp (rEqA K) (tVar 3) (tC (.str "sum")))) (tMeth (He.ga K "Reader") "take_number" (sp_Reader_take_number K) [] E0 (tVar 0) (tCons (tC (.int 0)) (tCons (tC (.int 100000000000)) tNil))) (tMeth (He.ga K "Reader") "take_fraction" (sp_Reader_take_fraction K) [] E0 (tVar 0) tNil)) (gName 5))
  (tRet (tTup (tCons (tC (.str "word")) (tCons (tVar 1) (tCons (tVar 2) (tCons (tTup (tCons (tVar 3) (tCons (tVar 4) (tCons (tVar 5) (tCons (tMeth (He.ga K "Reader") "take_instead" (sp_Reader_take_instead K) [] E0 (tVar 0) tNil) tNil))))) tNil)))))))
def t_Reader_take_last_word_1 (K : PySem.W.Frag) : TS :=
  (tSeq (tDrop (tMeth (He.ga K "Reader") "need" (sp_Reader_need K) [] E0 (tVar 0) (tCons (tInA K (tVar 3) (tTup (tCons (tC (.str "sum")) (tCons (tC (.str "part")) (tCons (tC (.str "out")) tNil))))) tNil)))
  (tSeq (tDrop (tMeth (He.ga K "Reader") "go" (sp_Reader_go K) [] E0 (tVar 0) tNil))
  (tSeq (tAsg (tMeth (He.ga K "Reader") "take_name" (sp_Reader_take_name K) [] E0 (tVar 0) (tCons (tLst tNil) tNil)) (gName 4))
  (tSeq (tIfS (tTest (tOp (rEqA K) (tVar 3) (tC (.str "out")))) (tRet (tTup (tCons (tC (.str "word")) (tCons (tVar 1) (tCons (tVar 2) (tCons (tTup (tCons (tC (.str "out")) (tCons (tVar 4) tNil))) tNil)))))) tNext)
  (t_Reader_take_last_word_0 K)))))
def t_Reader_take_last_word (K : PySem.W.Frag) : TS :=
  (tSeq (tAsg (tMeth (He.ga K "Reader") "take_name" (sp_Reader_take_name K) [] E0 (tVar 0) (tCons (tLst tNil) tNil)) (gName 1))
  (tSeq (tAsg (tMeth (He.ga K "Reader") "take_number" (sp_Reader_take_number K) [] E0 (tVar 0) (tCons (tC (.int 1)) (tCons (tC (.int 20)) tNil))) (gName 2))
  (tSeq (tAsg (tMeth (He.ga K "Reader") "peek" (sp_Reader_peek K) [] E0 (tVar 0) tNil) (gName 3))
  (t_Reader_take_last_word_1 K))))
theorem sorts (z : Str) : inV (.str z) [.str "sum", .str "part", .str "out"] = decide (z ∈ [("sum" : Str), "part", "out"]) := inV_strs z ["sum", "part", "out"]
theorem frac_back {m t b : Nat} (hm : 1 ≤ m) (hg : Nat.gcd t b = 1) : m * t / Nat.gcd (m * t) (m * b) = t ∧ m * b / Nat.gcd (m * t) (m * b) = b := by
  rw [Nat.gcd_mul_left, hg, Nat.mul_one]
  exact ⟨Nat.mul_div_cancel_left _ (by omega), Nat.mul_div_cancel_left _ (by omega)⟩
theorem last_amount (T : Txt K mg) {r p : Addr} {l : Int} {ws : List Str} {k : Nat} {H : Hp} {Q : VK} {n o so : Str} {i : Nat} {e : Option Str} (rd : RD K H r p l ws k) {amt : V} {ad : PyData} {H1 : Hp} (a1 : RA K r p l ws k H H1) (da : Dp K H1 amt ad) (hk : k ≤ ws.length) (hd : ws.drop k = elseW e) (ok : optOk e)
    (q : ∀ v H', RA K r p l ws ws.length H H' → Dp K H' v (.tuple [.str "word", .str n, .int (i : Nat), .tuple [.str so, .str o, ad, optD e]]) → Q v H') :
    (tRet (tTup (tCons (tC (.str "word")) (tCons (tVar 1) (tCons (tVar 2) (tCons (tTup (tCons (tVar 3) (tCons (tVar 4) (tCons (tVar 5) (tCons (tMeth (He.ga K "Reader") "take_instead" (sp_Reader_take_instead K) [] E0 (tVar 0) tNil) tNil))))) tNil)))))) ⟨fun _ H' => Q .non H', Q, fun _ _ => False, fun _ _ => False⟩ [some (.ref r), some (.str n), some (.int (i : Nat)), some (.str so), some (.str o), some amt] H1 := by
  walk_at "w"
  refine me a1.rd (by decide) (by decide) (by decide) ?_
  walk_at "w"
  refine ⟨_, rfl, r, p, l, ws, k, e, rfl, a1.rd, hk, hd, ok, fun H2 a2 => ?_⟩
  have da2 := a2.sb.dp a1.rd.ns da
  walk_at "w"
  refine ⟨show 4 ≤ sizeLine by decide, fun u hu => ?_⟩
  have s3 : Same H2 (upd H2 u (.tup [V.str so, V.str o, amt, optV e])) := same_new hu
  have hu3 : upd H2 u (.tup [V.str so, V.str o, amt, optV e]) u = some (.tup [V.str so, V.str o, amt, optV e]) := upd_same
  generalize upd H2 u (.tup [V.str so, V.str o, amt, optV e]) = H3 at *
  walk_at "w"
  refine ⟨show 4 ≤ sizeLine by decide, fun x hx => ?_⟩
  have s4 : Same H3 (upd H3 x (.tup [V.str "word", V.str n, V.int (i : Nat), V.ref u])) := same_new hx
  refine q _ _ (((a1.trans a2).same s3).same s4) (.tup (.inl (.inl upd_same)) (.cons (.str _) (.cons (.str _) (.cons (.int _) (.cons (.tup (.inl (.inl (s4 _ _ hu3))) ?_) .nil)))))
  exact .cons (.str _) (.cons (.str _) (.cons (da2.same (s3.trans s4)) (.cons (optV_dp e) .nil)))
theorem pure_Reader_take_last_word (T : Txt K mg) {x : V} {H : Hp} {Q : VK} {E : XK} (h : pr_take_last K x H Q E) : t_Reader_take_last_word K { nx := fun _ H' => Q .non H', rt := Q } [some x, none, none, none, none, none] H := by
  obtain ⟨r, p, l, ws, k, m, n, i, wh, rfl, rd, hk, hd, ok, fit, q⟩ := h
  obtain ⟨hn, hi1, hi2, ok⟩ := ok
  have hlen := gl hd
  have hd2 := gt hd
  have hd3 := gt hd2
  unfold t_Reader_take_last_word
  walk_at "w"
  refine me rd (by decide) (by decide) (by decide) ?_
  walk_at "w"
  refine use_name0 rd hd hn fun H1 a1 => ?_
  walk_at "w"
  refine me a1.rd (by decide) (by decide) (by decide) ?_
  walk_at "w"
  refine use_number a1.rd hd2 (by omega) (by omega) (by omega) fun H2 a2 => ?_
  have a2 := a1.trans a2
  walk_at "w"
  refine me a2.rd (by decide) (by decide) (by decide) ?_
  walk_at "w"
  refine use_peek a2.rd ?_
  have step : ∀ (so o : Str) (t : List Str), ws.drop (k + 1 + 1) = so :: o :: t → isName o = true → decide (so ∈ [("sum" : Str), "part", "out"]) = true → (∀ H', RA K r p l ws (k + 1 + 1 + 1 + 1) H H' → if decide (so = "out") = true then
      (tRet (tTup (tCons (tC (.str "word")) (tCons (tVar 1) (tCons (tVar 2) (tCons (tTup (tCons (tC (.str "out")) (tCons (tVar 4) tNil))) tNil)))))) ⟨fun σ H => t_Reader_take_last_word_0 K ⟨fun _ H' => Q .non H', Q, fun _ _ => False, fun _ _ => False⟩ σ H, Q, fun _ _ => False, fun _ _ => False⟩ [some (.ref r), some (.str n), some (.int (i : Nat)), some (.str so), some (.str o), none] H'
      else t_Reader_take_last_word_0 K ⟨fun _ H' => Q .non H', Q, fun _ _ => False, fun _ _ => False⟩ [some (.ref r), some (.str n), some (.int (i : Nat)), some (.str so), some (.str o), none] H') →
      t_Reader_take_last_word_1 K ⟨fun _ H' => Q .non H', Q, fun _ _ => False, fun _ _ => False⟩ [some (.ref r), some (.str n), some (.int (i : Nat)), some (.str so), none, none] H2 := by
    intro so o t hd4 ho hso fin
    unfold t_Reader_take_last_word_1
    walk_at "w"
    refine me a2.rd (by decide) (by decide) (by decide) ?_
    walk_at "w"
    refine ⟨show 3 ≤ sizeLine by decide, fun j hj => ?_⟩
    refine st_in_tup (.inl (.inl upd_same)) rfl rfl ?_
    have a3 := a2.same (same_new (o := .tup [V.str "sum", V.str "part", V.str "out"]) hj)
    generalize upd H2 j (.tup [V.str "sum", V.str "part", V.str "out"]) = H3 at *
    rw [sorts, hso]
    walk_at "w"
    refine use_need ?_
    walk_at "w"
    refine me a3.rd (by decide) (by decide) (by decide) ?_
    walk_at "w"
    refine use_go a3.rd fun H4 a4 => ?_
    have a4 := a3.trans a4
    walk_at "w"
    refine me a4.rd (by decide) (by decide) (by decide) ?_
    walk_at "w"
    refine use_name0 a4.rd (gt hd4) ho fun H5 a5 => ?_
    walk_at "w"
    exact fin _ (a4.trans a5)
  cases wh with
  | out o =>
    rw [gd hd3]
    walk_at "w"
    refine step "out" o [] hd3 ok (by decide +kernel) fun H' a => ?_
    rw [decide_eq_true rfl]
    walk_at "w"
    refine ⟨show 2 ≤ sizeLine by decide, fun u hu => ?_⟩
    have s3 : Same H' (upd H' u (.tup [V.str "out", V.str o])) := same_new hu
    have hu3 : upd H' u (.tup [V.str "out", V.str o]) u = some (.tup [V.str "out", V.str o]) := upd_same
    generalize upd H' u (.tup [V.str "out", V.str o]) = H3 at *
    walk_at "w"
    refine ⟨show 4 ≤ sizeLine by decide, fun x hx => ?_⟩
    have s4 : Same H3 (upd H3 x (.tup [V.str "word", V.str n, V.int (i : Nat), V.ref u])) := same_new hx
    simp only [What.words, List.length_cons, List.length_nil] at hlen
    have e1 : k + 1 + 1 + 1 + 1 = ws.length := by omega
    rw [e1] at a
    exact q _ _ ((a.same s3).same s4) (.tup (.inl (.inl upd_same)) (.cons (.str _) (.cons (.str _) (.cons (.int _) (.cons (.tup (.inl (.inl (s4 _ _ hu3))) (.cons (.str _) (.cons (.str _) .nil))) .nil)))))
  | sum o am e =>
    rw [gd hd3]
    walk_at "w"
    have hd5 := gt (gt hd3)
    refine step "sum" o _ hd3 ok.1 (by decide +kernel) fun H' a => ?_
    rw [decide_eq_false (by decide +kernel)]
    refine iteF ?_
    unfold t_Reader_take_last_word_0
    walk_at "w"
    rw [decide_eq_true rfl]
    walk_at "w"
    refine me a.rd (by decide) (by decide) (by decide) ?_
    walk_at "w"
    have := ok.2.1
    refine use_number a.rd hd5 (by omega) (by omega) (by omega) fun H6 a6 => ?_
    have e1 : k + 1 + 1 + 1 + 1 + 1 ≤ ws.length := by
      simp only [What.words, List.length_append, List.length_cons, List.length_nil] at hlen
      omega
    exact last_amount T (a.trans a6).rd ((a.trans a6).rd.ra (Same.refl _)) (.int _) e1 (gt hd5) ok.2.2 fun v H' b => q v H' ((a.trans a6).trans b)
  | part o ft fb e =>
    obtain ⟨ho, h1, h2, h3, hg, he⟩ := ok
    obtain ⟨m1, m2⟩ := fit
    rw [gd hd3]
    walk_at "w"
    have hd5 := gt (gt hd3)
    refine step "part" o _ hd3 ho (by decide +kernel) fun H' a => ?_
    rw [decide_eq_false (by decide +kernel)]
    refine iteF ?_
    unfold t_Reader_take_last_word_0
    walk_at "w"
    rw [decide_eq_false (by decide +kernel)]
    walk_at "w"
    refine me a.rd (by decide) (by decide) (by decide) ?_
    walk_at "w"
    have h4 : 1 ≤ m * ft := Nat.mul_pos m1 h1
    have h5 : m * ft ≤ m * fb := Nat.mul_le_mul_left _ h2
    refine ⟨_, rfl, r, p, l, ws, _, _, _, _, rfl, a.rd, hd5, h4, h5, m2, fun v6 H6 a6 d6 => ?_⟩
    rw [(frac_back m1 hg).1, (frac_back m1 hg).2] at d6
    have e1 : k + 1 + 1 + 1 + 1 + 3 ≤ ws.length := by
      simp only [What.words, List.length_append, List.length_cons, List.length_nil] at hlen
      omega
    exact last_amount T (a.trans a6).rd ((a.trans a6).rd.ra (Same.refl _)) d6 e1 (gt (gt (gt hd5))) he fun v H' b => q v H' ((a.trans a6).trans b)
theorem ok_Reader_take_last_word (T : Txt K mg) (c_Reader_need : Km P w K mg base CX0 1 (He.ga K "Reader") "need" ["self", "good"] (sp_Reader_need K)) (c_Reader_peek : Km P w K mg base CX0 1 (He.ga K "Reader") "peek" ["self"] (sp_Reader_peek K)) (c_Reader_go : Km P w K mg base CX0 2 (He.ga K "Reader") "go" ["self"] (sp_Reader_go K)) (c_Reader_take_name : Km P w K mg base CX0 3 (He.ga K "Reader") "take_name" ["self", "unlike"] (sp_Reader_take_name K)) (c_Reader_take_number : Km P w K mg base CX0 3 (He.ga K "Reader") "take_number" ["self", "low", "high"] (sp_Reader_take_number K)) (c_Reader_take_fraction : Km P w K mg base CX0 4 (He.ga K "Reader") "take_fraction" ["self"] (sp_Reader_take_fraction K)) (c_Reader_take_instead : Km P w K mg base CX0 4 (He.ga K "Reader") "take_instead" ["self"] (sp_Reader_take_instead K)) : Km P w K mg base CX0 5 (He.ga K "Reader") "take_last_word" ["self"] (sp_Reader_take_last_word K) := by
  obtain ⟨fd, F⟩ := T.c.def_ 22 (d := d_Reader_take_last_word) rfl
  refine ⟨T.cl_Reader, ⟨_, fd, T.me_Reader_take_last_word, F.bindsN fun _ _ _ _ _ _ us hl => match us, hl with | [_], _ => rfl, F.ok sc_Reader_take_last_word Sp1.len (fun cdv A outer s H vs Q E hr h => ?_)⟩⟩
  obtain ⟨v0, rfl, h⟩ := h
  refine ⟨t_Reader_take_last_word K, PSs.nox (?_), pure_Reader_take_last_word T h⟩
  exact (pss_cons (ps_set (i := 1) sc_Reader_take_last_word.nd rfl (by first | exact Or.inl rfl | exact Or.inr rfl) (pe_mK c_Reader_take_name (hr.mono (by decide)) (pv 0) (pa_cons (pe_lst pa_nil) pa_nil)))
      (pss_cons (ps_set (i := 2) sc_Reader_take_last_word.nd rfl (by first | exact Or.inl rfl | exact Or.inr rfl) (pe_mK c_Reader_take_number (hr.mono (by decide)) (pv 0) (pa_cons pe_int (pa_cons (pe_gi rfl T.g_MOST_WORDS) pa_nil))))
      (pss_cons (ps_set (i := 3) sc_Reader_take_last_word.nd rfl (by first | exact Or.inl rfl | exact Or.inr rfl) (pe_mK0 c_Reader_peek (hr.mono (by decide)) (pv 0)))
      (pss_cons (ps_expr (pe_mK c_Reader_need (hr.mono (by decide)) (pv 0) (pa_cons (pe_inA hr (pv 3) (pe_tup (pa_cons pe_str (pa_cons pe_str (pa_cons pe_str pa_nil)))) (by rfl)) pa_nil)))
      (pss_cons (ps_expr (pe_mK0 c_Reader_go (hr.mono (by decide)) (pv 0)))
      (pss_cons (ps_set (i := 4) sc_Reader_take_last_word.nd rfl (by first | exact Or.inl rfl | exact Or.inr rfl) (pe_mK c_Reader_take_name (hr.mono (by decide)) (pv 0) (pa_cons (pe_lst pa_nil) pa_nil)))
      (pss_cons (ps_if (pt_cmpR (op_eqA hr) (pv 3) pe_str (nomark _)) (pss_one (ps_ret (pe_tup (pa_cons pe_str (pa_cons (pv 1) (pa_cons (pv 2) (pa_cons (pe_tup (pa_cons pe_str (pa_cons (pv 4) pa_nil))) pa_nil))))))) pss_nil)
      (pss_cons (ps_set (i := 5) sc_Reader_take_last_word.nd rfl (by first | exact Or.inl rfl | exact Or.inr rfl) (pe_ifExp (pt_cmpR (op_eqA hr) (pv 3) pe_str (nomark _)) (pe_mK c_Reader_take_number (hr.mono (by decide)) (pv 0) (pa_cons pe_int (pa_cons (pe_gi rfl T.g_MOST_SUM) pa_nil))) (pe_mK0 c_Reader_take_fraction (hr.mono (by decide)) (pv 0))))
      (pss_one (ps_ret (pe_tup (pa_cons pe_str (pa_cons (pv 1) (pa_cons (pv 2) (pa_cons (pe_tup (pa_cons (pv 3) (pa_cons (pv 4) (pa_cons (pv 5) (pa_cons (pe_mK0 c_Reader_take_instead (hr.mono (by decide)) (pv 0)) pa_nil))))) pa_nil)))))))))))))))
end
end K02
set_option Elab.async false
set_option linter.all false
set_option maxRecDepth 100000
set_option maxHeartbeats 4000000
namespace K02
open PySem PySem.Spec PyProof.Rows L2 My
section
variable {P : Program} {w : World} {K : PySem.W.Frag} {mg : Str → Option Value} {base : Heap}
/-! ### take_fact -/
def _root_.My.Fact.tag : Fact → Str
  | .life t _ _ _ => if t then "taken" else "born"
  | .two t _ _ _ => if t then "parted" else "joined"
  | .died _ _ => "died"
  | .owns _ _ => "owns"
  | .gave _ _ _ _ => "gave"
  | .owes _ _ _ _ => "owes"
  | .unfit _ _ => "unfit"
  | .word _ _ _ => "word"
def _root_.My.Fact.rank : Fact → Nat
  | .life _ _ _ _ => 6
  | .two _ _ _ _ => 5
  | .died _ _ => 4
  | .owns _ _ => 3
  | .gave _ _ _ _ => 2
  | .owes _ _ _ _ => 1
  | .unfit _ _ => 0
  | .word _ _ _ => 0
structure FX (K : PySem.W.Frag) (H : Hp) (Q : VK) (r p : Addr) (l : Int) (ws : List Str) (sw : Bool) (m : Nat) (f : Fact) : Prop where
  rd : RD K H r p l ws 1
  w : ws = f.words sw m
  ok : f.Ok
  fit : f.Fits m
  q : ∀ v H', RA K r p l ws ws.length H H' → Dp K H' v f.data → Q v H'
theorem FX.same {r p : Addr} {l : Int} {ws : List Str} {sw : Bool} {m : Nat} {f : Fact} {H H1 : Hp} {Q : VK} (x : FX K H Q r p l ws sw m f) (s : Same H H1) : FX K H1 Q r p l ws sw m f := ⟨x.rd.same s, x.w, x.ok, x.fit, fun v H' a d => x.q v H' ((x.rd.ra s).trans a) d⟩
theorem dpw {K : PySem.W.Frag} {H : Hp} {p : Addr} {xs : List V} {ds : List PyData} (h : H p = some (.tup xs)) (d : DpAll K H xs ds) : Dp K H (.ref p) (.tuple ds) := .tup (.inl (.inl h)) d
theorem RD.neT {r p b : Addr} {l : Int} {ws : List Str} {k : Nat} {H : Hp} {xs : List V} (rd : RD K H r p l ws k) (h : H b = some (.tup xs)) : b ≠ r := fun e => by
  obtain ⟨dx, h5⟩ := rd.ex
  rw [e, h5] at h; cases h
theorem ne_owes : ∀ {f : Fact}, f.rank ≤ 0 → decide (f.tag = ("owes" : Str)) = false
  | .life _ _ _ _, h => absurd h (show ¬ (6 ≤ 0) by decide)
  | .two _ _ _ _, h => absurd h (show ¬ (5 ≤ 0) by decide)
  | .died _ _, h => absurd h (show ¬ (4 ≤ 0) by decide)
  | .owns _ _, h => absurd h (show ¬ (3 ≤ 0) by decide)
  | .gave _ _ _ _, h => absurd h (show ¬ (2 ≤ 0) by decide)
  | .owes _ _ _ _, h => absurd h (show ¬ (1 ≤ 0) by decide)
  | .unfit _ _, _ => (by decide +kernel : decide (("unfit" : Str) = ("owes" : Str)) = false)
  | .word _ _ _, _ => (by decide +kernel : decide (("word" : Str) = ("owes" : Str)) = false)
theorem ne_gave : ∀ {f : Fact}, f.rank ≤ 1 → decide (f.tag = ("gave" : Str)) = false
  | .life _ _ _ _, h => absurd h (show ¬ (6 ≤ 1) by decide)
  | .two _ _ _ _, h => absurd h (show ¬ (5 ≤ 1) by decide)
  | .died _ _, h => absurd h (show ¬ (4 ≤ 1) by decide)
  | .owns _ _, h => absurd h (show ¬ (3 ≤ 1) by decide)
  | .gave _ _ _ _, h => absurd h (show ¬ (2 ≤ 1) by decide)
  | .owes _ _ _ _, _ => (by decide +kernel : decide (("owes" : Str) = ("gave" : Str)) = false)
  | .unfit _ _, _ => (by decide +kernel : decide (("unfit" : Str) = ("gave" : Str)) = false)
  | .word _ _ _, _ => (by decide +kernel : decide (("word" : Str) = ("gave" : Str)) = false)
theorem ne_owns : ∀ {f : Fact}, f.rank ≤ 2 → decide (f.tag = ("owns" : Str)) = false
  | .life _ _ _ _, h => absurd h (show ¬ (6 ≤ 2) by decide)
  | .two _ _ _ _, h => absurd h (show ¬ (5 ≤ 2) by decide)
  | .died _ _, h => absurd h (show ¬ (4 ≤ 2) by decide)
  | .owns _ _, h => absurd h (show ¬ (3 ≤ 2) by decide)
  | .gave _ _ _ _, _ => (by decide +kernel : decide (("gave" : Str) = ("owns" : Str)) = false)
  | .owes _ _ _ _, _ => (by decide +kernel : decide (("owes" : Str) = ("owns" : Str)) = false)
  | .unfit _ _, _ => (by decide +kernel : decide (("unfit" : Str) = ("owns" : Str)) = false)
  | .word _ _ _, _ => (by decide +kernel : decide (("word" : Str) = ("owns" : Str)) = false)
theorem ne_died : ∀ {f : Fact}, f.rank ≤ 3 → decide (f.tag = ("died" : Str)) = false
  | .life _ _ _ _, h => absurd h (show ¬ (6 ≤ 3) by decide)
  | .two _ _ _ _, h => absurd h (show ¬ (5 ≤ 3) by decide)
  | .died _ _, h => absurd h (show ¬ (4 ≤ 3) by decide)
  | .owns _ _, _ => (by decide +kernel : decide (("owns" : Str) = ("died" : Str)) = false)
  | .gave _ _ _ _, _ => (by decide +kernel : decide (("gave" : Str) = ("died" : Str)) = false)
  | .owes _ _ _ _, _ => (by decide +kernel : decide (("owes" : Str) = ("died" : Str)) = false)
  | .unfit _ _, _ => (by decide +kernel : decide (("unfit" : Str) = ("died" : Str)) = false)
  | .word _ _ _, _ => (by decide +kernel : decide (("word" : Str) = ("died" : Str)) = false)
theorem nt_two : ∀ {f : Fact}, f.rank ≤ 4 → decide (f.tag ∈ [("joined" : Str), "parted"]) = false
  | .life _ _ _ _, h => absurd h (show ¬ (6 ≤ 4) by decide)
  | .two _ _ _ _, h => absurd h (show ¬ (5 ≤ 4) by decide)
  | .died _ _, _ => (by decide +kernel : decide (("died" : Str) ∈ [("joined" : Str), "parted"]) = false)
  | .owns _ _, _ => (by decide +kernel : decide (("owns" : Str) ∈ [("joined" : Str), "parted"]) = false)
  | .gave _ _ _ _, _ => (by decide +kernel : decide (("gave" : Str) ∈ [("joined" : Str), "parted"]) = false)
  | .owes _ _ _ _, _ => (by decide +kernel : decide (("owes" : Str) ∈ [("joined" : Str), "parted"]) = false)
  | .unfit _ _, _ => (by decide +kernel : decide (("unfit" : Str) ∈ [("joined" : Str), "parted"]) = false)
  | .word _ _ _, _ => (by decide +kernel : decide (("word" : Str) ∈ [("joined" : Str), "parted"]) = false)
theorem nt_life : ∀ {f : Fact}, f.rank ≤ 5 → decide (f.tag ∈ [("born" : Str), "taken"]) = false
  | .life _ _ _ _, h => absurd h (show ¬ (6 ≤ 5) by decide)
  | .two true _ _ _, _ => (by decide +kernel : decide (("parted" : Str) ∈ [("born" : Str), "taken"]) = false)
  | .two false _ _ _, _ => (by decide +kernel : decide (("joined" : Str) ∈ [("born" : Str), "taken"]) = false)
  | .died _ _, _ => (by decide +kernel : decide (("died" : Str) ∈ [("born" : Str), "taken"]) = false)
  | .owns _ _, _ => (by decide +kernel : decide (("owns" : Str) ∈ [("born" : Str), "taken"]) = false)
  | .gave _ _ _ _, _ => (by decide +kernel : decide (("gave" : Str) ∈ [("born" : Str), "taken"]) = false)
  | .owes _ _ _ _, _ => (by decide +kernel : decide (("owes" : Str) ∈ [("born" : Str), "taken"]) = false)
  | .unfit _ _, _ => (by decide +kernel : decide (("unfit" : Str) ∈ [("born" : Str), "taken"]) = false)
  | .word _ _ _, _ => (by decide +kernel : decide (("word" : Str) ∈ [("born" : Str), "taken"]) = false)
theorem tag_in0 : ∀ (f : Fact), 0 ≤ f.rank → f.tag ∈ [("born" : Str), "taken", "joined", "parted", "died", "owns", "gave", "owes", "unfit", "word"]
  | .life true _ _ _, _ => (by decide +kernel : ("taken" : Str) ∈ [("born" : Str), "taken", "joined", "parted", "died", "owns", "gave", "owes", "unfit", "word"])
  | .life false _ _ _, _ => (by decide +kernel : ("born" : Str) ∈ [("born" : Str), "taken", "joined", "parted", "died", "owns", "gave", "owes", "unfit", "word"])
  | .two true _ _ _, _ => (by decide +kernel : ("parted" : Str) ∈ [("born" : Str), "taken", "joined", "parted", "died", "owns", "gave", "owes", "unfit", "word"])
  | .two false _ _ _, _ => (by decide +kernel : ("joined" : Str) ∈ [("born" : Str), "taken", "joined", "parted", "died", "owns", "gave", "owes", "unfit", "word"])
  | .died _ _, _ => (by decide +kernel : ("died" : Str) ∈ [("born" : Str), "taken", "joined", "parted", "died", "owns", "gave", "owes", "unfit", "word"])
  | .owns _ _, _ => (by decide +kernel : ("owns" : Str) ∈ [("born" : Str), "taken", "joined", "parted", "died", "owns", "gave", "owes", "unfit", "word"])
  | .gave _ _ _ _, _ => (by decide +kernel : ("gave" : Str) ∈ [("born" : Str), "taken", "joined", "parted", "died", "owns", "gave", "owes", "unfit", "word"])
  | .owes _ _ _ _, _ => (by decide +kernel : ("owes" : Str) ∈ [("born" : Str), "taken", "joined", "parted", "died", "owns", "gave", "owes", "unfit", "word"])
  | .unfit _ _, _ => (by decide +kernel : ("unfit" : Str) ∈ [("born" : Str), "taken", "joined", "parted", "died", "owns", "gave", "owes", "unfit", "word"])
  | .word _ _ _, _ => (by decide +kernel : ("word" : Str) ∈ [("born" : Str), "taken", "joined", "parted", "died", "owns", "gave", "owes", "unfit", "word"])
theorem tag_in (f : Fact) : f.tag ∈ [("born" : Str), "taken", "joined", "parted", "died", "owns", "gave", "owes", "unfit", "word"] := tag_in0 f (Nat.zero_le _)
theorem ne_two {f : Fact} (h : f.rank ≤ 4) : inV (.str f.tag) [.str "joined", .str "parted"] = false := (inV_strs _ ["joined", "parted"]).trans (nt_two h)
theorem ne_life {f : Fact} (h : f.rank ≤ 5) : inV (.str f.tag) [.str "born", .str "taken"] = false := (inV_strs _ ["born", "taken"]).trans (nt_life h)
def t_Reader_take_fact_0 (K : PySem.W.Frag) : TS :=
  (tRet (tIf (tTest (tOp (rEqA K) (tVar 1) (tC (.str "unfit")))) (tOp (rAddA K) (tTup (tCons (tVar 1) tNil)) (tMeth (He.ga K "Reader") "take_pair" (sp_Reader_take_pair K) [] E0 (tVar 0) tNil)) (tMeth (He.ga K "Reader") "take_last_word" (sp_Reader_take_last_word K) [] E0 (tVar 0) tNil)))
def t_Reader_take_fact_1 (K : PySem.W.Frag) : TS :=
  (tSeq (tIfS (tTest (tOp (rEqA K) (tVar 1) (tC (.str "owes")))) (tSeq (tAsg (tTup (tCons (tMeth (He.ga K "Reader") "take_name" (sp_Reader_take_name K) [] E0 (tVar 0) (tCons (tLst tNil) tNil)) (tCons (tMeth (He.ga K "Reader") "take_name" (sp_Reader_take_name K) [] E0 (tVar 0) (tCons (tLst tNil) tNil)) tNil))) (gName 2))
  (tRet (tOp (rAddA K) (tOp (rAddA K) (tTup (tCons (tVar 1) tNil)) (tVar 2)) (tTup (tCons (tMeth (He.ga K "Reader") "take_number" (sp_Reader_take_number K) [] E0 (tVar 0) (tCons (tC (.int 0)) (tCons (tC (.int 100000000000)) tNil))) (tCons (tMeth (He.ga K "Reader") "take_number" (sp_Reader_take_number K) [] E0 (tVar 0) (tCons (tC (.int 1)) (tCons (tC (.int 9)) tNil))) tNil)))))) tNext)
  (t_Reader_take_fact_0 K))
def t_Reader_take_fact_2 (K : PySem.W.Frag) : TS :=
  (tSeq (tIfS (tTest (tOp (rEqA K) (tVar 1) (tC (.str "gave")))) (tRet (tOp (rAddA K) (tOp (rAddA K) (tTup (tCons (tVar 1) tNil)) (tMeth (He.ga K "Reader") "take_pair" (sp_Reader_take_pair K) [] E0 (tVar 0) tNil)) (tTup (tCons (tMeth (He.ga K "Reader") "take_number" (sp_Reader_take_number K) [] E0 (tVar 0) (tCons (tC (.int 0)) (tCons (tC (.int 100000000000)) tNil))) (tCons (tMeth (He.ga K "Reader") "take_number" (sp_Reader_take_number K) [] E0 (tVar 0) (tCons (tC (.int 0)) (tCons (tC (.int 99999)) tNil))) tNil))))) tNext)
  (t_Reader_take_fact_1 K))
def t_Reader_take_fact_3 (K : PySem.W.Frag) : TS :=
  (tSeq (tIfS (tTest (tOp (rEqA K) (tVar 1) (tC (.str "owns")))) (tRet (tTup (tCons (tVar 1) (tCons (tMeth (He.ga K "Reader") "take_name" (sp_Reader_take_name K) [] E0 (tVar 0) (tCons (tLst tNil) tNil)) (tCons (tMeth (He.ga K "Reader") "take_number" (sp_Reader_take_number K) [] E0 (tVar 0) (tCons (tC (.int 0)) (tCons (tC (.int 100000000000)) tNil))) tNil))))) tNext)
  (t_Reader_take_fact_2 K))
def t_Reader_take_fact_4 (K : PySem.W.Frag) : TS :=
  (tSeq (tIfS (tTest (tOp (rEqA K) (tVar 1) (tC (.str "died")))) (tRet (tTup (tCons (tVar 1) (tCons (tMeth (He.ga K "Reader") "take_name" (sp_Reader_take_name K) [] E0 (tVar 0) (tCons (tLst tNil) tNil)) (tCons (tMeth (He.ga K "Reader") "take_number" (sp_Reader_take_number K) [] E0 (tVar 0) (tCons (tC (.int 0)) (tCons (tC (.int 99999)) tNil))) tNil))))) tNext)
  (t_Reader_take_fact_3 K))
def t_Reader_take_fact_5 (K : PySem.W.Frag) : TS :=
  (tSeq (tIfS (tTest (tOp (rInA K false) (tVar 1) (tTup (tCons (tC (.str "joined")) (tCons (tC (.str "parted")) tNil))))) (tRet (tOp (rAddA K) (tOp (rAddA K) (tTup (tCons (tVar 1) tNil)) (tCB (rTupleOf K) (tCons (tCB (rSortedA K) (tCons (tMeth (He.ga K "Reader") "take_pair" (sp_Reader_take_pair K) [] E0 (tVar 0) tNil) tNil)) tNil))) (tTup (tCons (tMeth (He.ga K "Reader") "take_number" (sp_Reader_take_number K) [] E0 (tVar 0) (tCons (tC (.int 0)) (tCons (tC (.int 99999)) tNil))) tNil)))) tNext)
  (t_Reader_take_fact_4 K))
def t_Reader_take_fact (K : PySem.W.Frag) : TS :=
  (tSeq (tAsg (tMeth (He.ga K "Reader") "peek" (sp_Reader_peek K) [] E0 (tVar 0) tNil) (gName 1))
  (tSeq (tDrop (tMeth (He.ga K "Reader") "need" (sp_Reader_need K) [] E0 (tVar 0) (tCons (tInA K (tVar 1) (tC (.ref (He.ga K "FACTS")))) tNil)))
  (tSeq (tDrop (tMeth (He.ga K "Reader") "go" (sp_Reader_go K) [] E0 (tVar 0) tNil))
  (tSeq (tIfS (tTest (tOp (rInA K false) (tVar 1) (tTup (tCons (tC (.str "born")) (tCons (tC (.str "taken")) tNil))))) (tRet (tMeth (He.ga K "Reader") "take_life" (sp_Reader_take_life K) [] E0 (tVar 0) (tCons (tVar 1) tNil))) tNext)
  (t_Reader_take_fact_5 K)))))
theorem part0 (T : Txt K mg) {r p : Addr} {l : Int} {ws : List Str} {sw : Bool} {m : Nat} {f : Fact} {H : Hp} {Q : VK} (hf : f.rank ≤ 0) (x : FX K H Q r p l ws sw m f) : t_Reader_take_fact_0 K ⟨fun _ H' => Q .non H', Q, fun _ _ => False, fun _ _ => False⟩ [some (.ref r), some (.str f.tag), none] H := by
  obtain ⟨rd, hw, ok, fit, q⟩ := x
  cases f with
  | unfit a b =>
    obtain ⟨ha, hb, hab⟩ := ok
    have hd : ws.drop 1 = [a, b] := by rw [hw]; rfl
    have hl : 1 + 2 = ws.length := by rw [hw]; rfl
    show t_Reader_take_fact_0 K ⟨fun _ H' => Q .non H', Q, fun _ _ => False, fun _ _ => False⟩ [some (.ref r), some (.str "unfit"), none] H
    unfold t_Reader_take_fact_0
    walk_at "w"
    rw [decide_eq_true rfl]
    walk_at "w"
    refine ⟨show 1 ≤ sizeLine by decide, fun p1 hp1 => ?_⟩
    have a1 := rd.ra (same_new (o := .tup [V.str "unfit"]) hp1)
    have h1 : upd H p1 (.tup [V.str "unfit"]) p1 = some (.tup [V.str "unfit"]) := upd_same
    generalize upd H p1 (.tup [V.str "unfit"]) = H1 at *
    walk_at "w"
    refine me a1.rd (by decide) (by decide) (by decide) ?_
    walk_at "w"
    refine use_pair a1.rd hd ha hb hab fun v H2 a2 hv => ?_
    have h2 := a2.sb _ _ (a1.rd.neT h1) h1
    refine st_cat_tup (.inl (.inl h2)) (.inl (.inl hv)) (by simp) (by simp) (show 3 ≤ 1000000 by decide) fun u hu => ?_
    have a3 := (a1.trans a2).same (same_new (o := .tup ([V.str "unfit"] ++ [V.str a, V.str b])) hu)
    rw [hl] at a3
    exact q _ _ a3 (dpw upd_same (.cons (.str _) (.cons (.str _) (.cons (.str _) .nil))))
  | word n k wh =>
    have hd : ws.drop 1 = n :: numS k :: wh.words m := by rw [hw]; rfl
    have hl : 1 ≤ ws.length := by rw [hw]; simp [Fact.words]
    show t_Reader_take_fact_0 K ⟨fun _ H' => Q .non H', Q, fun _ _ => False, fun _ _ => False⟩ [some (.ref r), some (.str "word"), none] H
    unfold t_Reader_take_fact_0
    walk_at "w"
    rw [decide_eq_false (by decide +kernel)]
    walk_at "w"
    refine me rd (by decide) (by decide) (by decide) ?_
    walk_at "w"
    exact ⟨_, rfl, r, p, l, ws, 1, m, n, k, wh, rfl, rd, hl, hd, ok, fits_word fit, q⟩
  | _ => (exfalso; revert hf; simp [Fact.rank]; done)
theorem part1 (T : Txt K mg) {r p : Addr} {l : Int} {ws : List Str} {sw : Bool} {m : Nat} {f : Fact} {H : Hp} {Q : VK} (hf : f.rank ≤ 1) (x : FX K H Q r p l ws sw m f) : t_Reader_take_fact_1 K ⟨fun _ H' => Q .non H', Q, fun _ _ => False, fun _ _ => False⟩ [some (.ref r), some (.str f.tag), none] H := by
  by_cases hr : f.rank ≤ 0
  · unfold t_Reader_take_fact_1
    walk_at "w"
    rw [ne_owes hr]
    walk_at "w"
    exact part0 T hr x
  obtain ⟨rd, hw, ok, fit, q⟩ := x
  cases f with
  | owes a b s d =>
    obtain ⟨ha, hb, hs, hd1, hd2⟩ := ok
    have hd : ws.drop 1 = [a, b, numS s, numS d] := by rw [hw]; rfl
    have hl : 1 + 1 + 1 + 1 + 1 = ws.length := by rw [hw]; rfl
    show t_Reader_take_fact_1 K ⟨fun _ H' => Q .non H', Q, fun _ _ => False, fun _ _ => False⟩ [some (.ref r), some (.str "owes"), none] H
    unfold t_Reader_take_fact_1
    walk_at "w"
    rw [decide_eq_true rfl]
    walk_at "w"
    refine me rd (by decide) (by decide) (by decide) ?_
    walk_at "w"
    refine use_name0 rd hd ha fun H1 a1 => ?_
    walk_at "w"
    refine me a1.rd (by decide) (by decide) (by decide) ?_
    walk_at "w"
    refine use_name0 a1.rd (gt hd) hb fun H2 a2 => ?_
    walk_at "w"
    refine ⟨show 2 ≤ sizeLine by decide, fun p1 hp1 => ?_⟩
    have a3 := (a1.trans a2).same (same_new (o := .tup [V.str a, V.str b]) hp1)
    have h3 : upd H2 p1 (.tup [V.str a, V.str b]) p1 = some (.tup [V.str a, V.str b]) := upd_same
    generalize upd H2 p1 (.tup [V.str a, V.str b]) = H3 at *
    walk_at "w"
    refine ⟨show 1 ≤ sizeLine by decide, fun p2 hp2 => ?_⟩
    walk_at "w"
    have h4 := same_new (o := .tup [V.str "owes"]) hp2 _ _ h3
    refine st_cat_tup (.inl (.inl upd_same)) (.inl (.inl h4)) (by simp) (by simp) (show 3 ≤ 1000000 by decide) fun u hu => ?_
    have a5 := (a3.same (same_new (o := .tup [V.str "owes"]) hp2)).same (same_new (o := .tup ([V.str "owes"] ++ [V.str a, V.str b])) hu)
    have h5 : upd (upd H3 p2 (.tup [V.str "owes"])) u (.tup ([V.str "owes"] ++ [V.str a, V.str b])) u = some (.tup ([V.str "owes"] ++ [V.str a, V.str b])) := upd_same
    generalize upd (upd H3 p2 (.tup [V.str "owes"])) u (.tup ([V.str "owes"] ++ [V.str a, V.str b])) = H5 at *
    walk_at "w"
    refine me a5.rd (by decide) (by decide) (by decide) ?_
    walk_at "w"
    refine use_number a5.rd (gt (gt hd)) (by omega) (by omega) (by omega) fun H6 a6 => ?_
    walk_at "w"
    refine me a6.rd (by decide) (by decide) (by decide) ?_
    walk_at "w"
    refine use_number a6.rd (gt (gt (gt hd))) (by omega) (by omega) (by omega) fun H7 a7 => ?_
    walk_at "w"
    refine ⟨show 2 ≤ sizeLine by decide, fun p3 hp3 => ?_⟩
    have h7 := same_new (o := .tup [V.int (s : Nat), V.int (d : Nat)]) hp3 _ _ ((a6.trans a7).sb _ _ (a5.rd.neT h5) h5)
    refine st_cat_tup (.inl (.inl h7)) (.inl (.inl upd_same)) (by simp) (by simp) (show 5 ≤ 1000000 by decide) fun v hv => ?_
    have a8 := (((a5.trans a6).trans a7).same (same_new (o := .tup [V.int (s : Nat), V.int (d : Nat)]) hp3)).same (same_new (o := .tup (([V.str "owes"] ++ [V.str a, V.str b]) ++ [V.int (s : Nat), V.int (d : Nat)])) hv)
    rw [hl] at a8
    exact q _ _ a8 (dpw upd_same (.cons (.str _) (.cons (.str _) (.cons (.str _) (.cons (.int _) (.cons (.int _) .nil))))))
  | _ => first
    | (exfalso; revert hf; simp [Fact.rank]; done)
    | (exfalso; revert hr; simp [Fact.rank]; done)
theorem part2 (T : Txt K mg) {r p : Addr} {l : Int} {ws : List Str} {sw : Bool} {m : Nat} {f : Fact} {H : Hp} {Q : VK} (hf : f.rank ≤ 2) (x : FX K H Q r p l ws sw m f) : t_Reader_take_fact_2 K ⟨fun _ H' => Q .non H', Q, fun _ _ => False, fun _ _ => False⟩ [some (.ref r), some (.str f.tag), none] H := by
  by_cases hr : f.rank ≤ 1
  · unfold t_Reader_take_fact_2
    walk_at "w"
    rw [ne_gave hr]
    walk_at "w"
    exact part1 T hr x
  obtain ⟨rd, hw, ok, fit, q⟩ := x
  cases f with
  | gave a b s d =>
    obtain ⟨ha, hb, hab, hs, hd1⟩ := ok
    have hd : ws.drop 1 = [a, b, numS s, numS d] := by rw [hw]; rfl
    have hl : 1 + 2 + 1 + 1 = ws.length := by rw [hw]; rfl
    show t_Reader_take_fact_2 K ⟨fun _ H' => Q .non H', Q, fun _ _ => False, fun _ _ => False⟩ [some (.ref r), some (.str "gave"), none] H
    unfold t_Reader_take_fact_2
    walk_at "w"
    rw [decide_eq_true rfl]
    walk_at "w"
    refine ⟨show 1 ≤ sizeLine by decide, fun p1 hp1 => ?_⟩
    have a1 := rd.ra (same_new (o := .tup [V.str "gave"]) hp1)
    have h1 : upd H p1 (.tup [V.str "gave"]) p1 = some (.tup [V.str "gave"]) := upd_same
    generalize upd H p1 (.tup [V.str "gave"]) = H1 at *
    walk_at "w"
    refine me a1.rd (by decide) (by decide) (by decide) ?_
    walk_at "w"
    refine use_pair a1.rd hd ha hb hab fun v H2 a2 hv => ?_
    have h2 := a2.sb _ _ (a1.rd.neT h1) h1
    refine st_cat_tup (.inl (.inl h2)) (.inl (.inl hv)) (by simp) (by simp) (show 3 ≤ 1000000 by decide) fun u hu => ?_
    have a5 := (a1.trans a2).same (same_new (o := .tup ([V.str "gave"] ++ [V.str a, V.str b])) hu)
    have h5 : upd H2 u (.tup ([V.str "gave"] ++ [V.str a, V.str b])) u = some (.tup ([V.str "gave"] ++ [V.str a, V.str b])) := upd_same
    generalize upd H2 u (.tup ([V.str "gave"] ++ [V.str a, V.str b])) = H5 at *
    walk_at "w"
    refine me a5.rd (by decide) (by decide) (by decide) ?_
    walk_at "w"
    refine use_number a5.rd (gt (gt hd)) (by omega) (by omega) (by omega) fun H6 a6 => ?_
    walk_at "w"
    refine me a6.rd (by decide) (by decide) (by decide) ?_
    walk_at "w"
    refine use_number a6.rd (gt (gt (gt hd))) (by omega) (by omega) (by omega) fun H7 a7 => ?_
    walk_at "w"
    refine ⟨show 2 ≤ sizeLine by decide, fun p3 hp3 => ?_⟩
    have h7 := same_new (o := .tup [V.int (s : Nat), V.int (d : Nat)]) hp3 _ _ ((a6.trans a7).sb _ _ (a5.rd.neT h5) h5)
    refine st_cat_tup (.inl (.inl h7)) (.inl (.inl upd_same)) (by simp) (by simp) (show 5 ≤ 1000000 by decide) fun v hv => ?_
    have a8 := (((a5.trans a6).trans a7).same (same_new (o := .tup [V.int (s : Nat), V.int (d : Nat)]) hp3)).same (same_new (o := .tup (([V.str "gave"] ++ [V.str a, V.str b]) ++ [V.int (s : Nat), V.int (d : Nat)])) hv)
    rw [hl] at a8
    exact q _ _ a8 (dpw upd_same (.cons (.str _) (.cons (.str _) (.cons (.str _) (.cons (.int _) (.cons (.int _) .nil))))))
  | _ => first
    | (exfalso; revert hf; simp [Fact.rank]; done)
    | (exfalso; revert hr; simp [Fact.rank]; done)
theorem part3 (T : Txt K mg) {r p : Addr} {l : Int} {ws : List Str} {sw : Bool} {m : Nat} {f : Fact} {H : Hp} {Q : VK} (hf : f.rank ≤ 3) (x : FX K H Q r p l ws sw m f) : t_Reader_take_fact_3 K ⟨fun _ H' => Q .non H', Q, fun _ _ => False, fun _ _ => False⟩ [some (.ref r), some (.str f.tag), none] H := by
  by_cases hr : f.rank ≤ 2
  · unfold t_Reader_take_fact_3
    walk_at "w"
    rw [ne_owns hr]
    walk_at "w"
    exact part2 T hr x
  obtain ⟨rd, hw, ok, fit, q⟩ := x
  cases f with
  | owns n s =>
    obtain ⟨hn, hs⟩ := ok
    have hd : ws.drop 1 = [n, numS s] := by rw [hw]; rfl
    have hl : 1 + 1 + 1 = ws.length := by rw [hw]; rfl
    show t_Reader_take_fact_3 K ⟨fun _ H' => Q .non H', Q, fun _ _ => False, fun _ _ => False⟩ [some (.ref r), some (.str "owns"), none] H
    unfold t_Reader_take_fact_3
    walk_at "w"
    rw [decide_eq_true rfl]
    walk_at "w"
    refine me rd (by decide) (by decide) (by decide) ?_
    walk_at "w"
    refine use_name0 rd hd hn fun H1 a1 => ?_
    walk_at "w"
    refine me a1.rd (by decide) (by decide) (by decide) ?_
    walk_at "w"
    refine use_number a1.rd (gt hd) (by omega) (by omega) (by omega) fun H2 a2 => ?_
    walk_at "w"
    refine ⟨show 3 ≤ sizeLine by decide, fun u hu => ?_⟩
    have a3 := (a1.trans a2).same (same_new (o := .tup [V.str "owns", V.str n, V.int (s : Nat)]) hu)
    rw [hl] at a3
    exact q _ _ a3 (dpw upd_same (.cons (.str _) (.cons (.str _) (.cons (.int _) .nil))))
  | _ => first
    | (exfalso; revert hf; simp [Fact.rank]; done)
    | (exfalso; revert hr; simp [Fact.rank]; done)
theorem part4 (T : Txt K mg) {r p : Addr} {l : Int} {ws : List Str} {sw : Bool} {m : Nat} {f : Fact} {H : Hp} {Q : VK} (hf : f.rank ≤ 4) (x : FX K H Q r p l ws sw m f) : t_Reader_take_fact_4 K ⟨fun _ H' => Q .non H', Q, fun _ _ => False, fun _ _ => False⟩ [some (.ref r), some (.str f.tag), none] H := by
  by_cases hr : f.rank ≤ 3
  · unfold t_Reader_take_fact_4
    walk_at "w"
    rw [ne_died hr]
    walk_at "w"
    exact part3 T hr x
  obtain ⟨rd, hw, ok, fit, q⟩ := x
  cases f with
  | died n s =>
    obtain ⟨hn, hs⟩ := ok
    have hd : ws.drop 1 = [n, numS s] := by rw [hw]; rfl
    have hl : 1 + 1 + 1 = ws.length := by rw [hw]; rfl
    show t_Reader_take_fact_4 K ⟨fun _ H' => Q .non H', Q, fun _ _ => False, fun _ _ => False⟩ [some (.ref r), some (.str "died"), none] H
    unfold t_Reader_take_fact_4
    walk_at "w"
    rw [decide_eq_true rfl]
    walk_at "w"
    refine me rd (by decide) (by decide) (by decide) ?_
    walk_at "w"
    refine use_name0 rd hd hn fun H1 a1 => ?_
    walk_at "w"
    refine me a1.rd (by decide) (by decide) (by decide) ?_
    walk_at "w"
    refine use_number a1.rd (gt hd) (by omega) (by omega) (by omega) fun H2 a2 => ?_
    walk_at "w"
    refine ⟨show 3 ≤ sizeLine by decide, fun u hu => ?_⟩
    have a3 := (a1.trans a2).same (same_new (o := .tup [V.str "died", V.str n, V.int (s : Nat)]) hu)
    rw [hl] at a3
    exact q _ _ a3 (dpw upd_same (.cons (.str _) (.cons (.str _) (.cons (.int _) .nil))))
  | _ => first
    | (exfalso; revert hf; simp [Fact.rank]; done)
    | (exfalso; revert hr; simp [Fact.rank]; done)
theorem part5 (T : Txt K mg) {r p : Addr} {l : Int} {ws : List Str} {sw : Bool} {m : Nat} {f : Fact} {H : Hp} {Q : VK} (hf : f.rank ≤ 5) (x : FX K H Q r p l ws sw m f) : t_Reader_take_fact_5 K ⟨fun _ H' => Q .non H', Q, fun _ _ => False, fun _ _ => False⟩ [some (.ref r), some (.str f.tag), none] H := by
  by_cases hr : f.rank ≤ 4
  · unfold t_Reader_take_fact_5
    walk_at "w"
    refine ⟨show 2 ≤ sizeLine by decide, fun j hj => ?_⟩
    refine st_in_tup (.inl (.inl upd_same)) rfl rfl ?_
    rw [ne_two hr]
    walk_at "w"
    exact part4 T hr (x.same (same_new hj))
  obtain ⟨rd, hw, ok, fit, q⟩ := x
  cases f with
  | two t a b d =>
    obtain ⟨ha, hb, hab, so, hd1⟩ := ok
    have hl : 1 + 2 + 1 = ws.length := by rw [hw]; cases sw <;> rfl
    obtain ⟨c, e, hd, hc, he, hce, hperm⟩ : ∃ c e, ws.drop 1 = [c, e, numS d] ∧ isName c = true ∧ isName e = true ∧ c ≠ e ∧ [c, e].Perm [b, a] := by
      cases sw with
      | true => exact ⟨b, a, by rw [hw]; rfl, hb, ha, fun z => hab z.symm, .refl _⟩
      | false => exact ⟨a, b, by rw [hw]; rfl, ha, hb, hab, .swap ..⟩
    show t_Reader_take_fact_5 K ⟨fun _ H' => Q .non H', Q, fun _ _ => False, fun _ _ => False⟩ [some (.ref r), some (.str (if t then ("parted" : Str) else "joined")), none] H
    have hin : inV (.str (if t then ("parted" : Str) else "joined")) [.str "joined", .str "parted"] = true := by
      rw [show inV (.str (if t then ("parted" : Str) else "joined")) [.str "joined", .str "parted"] = decide ((if t then ("parted" : Str) else "joined") ∈ [("joined" : Str), "parted"]) from inV_strs _ ["joined", "parted"]]
      cases t <;> decide +kernel
    have hdat : (Fact.two t a b d).data = .tuple [.str (if t then ("parted" : Str) else "joined"), .str a, .str b, .int (d : Nat)] := rfl
    rw [hdat] at q
    generalize (if t then ("parted" : Str) else "joined") = tg at *
    unfold t_Reader_take_fact_5
    walk_at "w"
    refine ⟨show 2 ≤ sizeLine by decide, fun j hj => ?_⟩
    have a0 := rd.ra (same_new (o := .tup [V.str "joined", V.str "parted"]) hj)
    refine st_in_tup (.inl (.inl upd_same)) rfl rfl ?_
    rw [hin]
    generalize upd H j (.tup [V.str "joined", V.str "parted"]) = H0 at *
    walk_at "w"
    refine ⟨show 1 ≤ sizeLine by decide, fun p1 hp1 => ?_⟩
    have a1 := a0.same (same_new (o := .tup [V.str tg]) hp1)
    have h1 : upd H0 p1 (.tup [V.str tg]) p1 = some (.tup [V.str tg]) := upd_same
    generalize upd H0 p1 (.tup [V.str tg]) = H1 at *
    walk_at "w"
    refine me a1.rd (by decide) (by decide) (by decide) ?_
    walk_at "w"
    refine use_pair a1.rd hd hc he hce fun v H2 a2 hv => ?_
    have h2 := a2.sb _ _ (a1.rd.neT h1) h1
    walk_at "w"
    refine .inr (.inr ⟨v, [c, e], rfl, .inl (.inl hv), show 2 < 64 by decide, fun ys p3 hp so2 hp3 => ?_⟩)
    have ey : ys = [a, b] := sorted_two so (hp.trans hperm) so2
    subst ey
    walk_at "w"
    refine ⟨p3, [V.str a, V.str b], rfl, .inl ⟨SqL.of upd_same, fun p4 hp4 => ?_⟩⟩
    have s4 : Same H2 (upd (upd H2 p3 (.lst [V.str a, V.str b])) p4 (.tup [V.str a, V.str b])) := (same_new (o := .lst [V.str a, V.str b]) hp3).trans (same_new hp4)
    have h4 : upd (upd H2 p3 (.lst [V.str a, V.str b])) p4 (.tup [V.str a, V.str b]) p4 = some (.tup [V.str a, V.str b]) := upd_same
    change rAddA K (.ref p1) (.ref p4) (upd (upd H2 p3 (.lst [V.str a, V.str b])) p4 (.tup [V.str a, V.str b])) _
    generalize upd (upd H2 p3 (.lst [V.str a, V.str b])) p4 (.tup [V.str a, V.str b]) = H4 at *
    refine st_cat_tup (.inl (.inl (s4 _ _ h2))) (.inl (.inl h4)) (by simp) (by simp) (show 3 ≤ 1000000 by decide) fun u hu => ?_
    have a5 := ((a1.trans a2).same s4).same (same_new (o := .tup ([V.str tg] ++ [V.str a, V.str b])) hu)
    have h5 : upd H4 u (.tup ([V.str tg] ++ [V.str a, V.str b])) u = some (.tup ([V.str tg] ++ [V.str a, V.str b])) := upd_same
    generalize upd H4 u (.tup ([V.str tg] ++ [V.str a, V.str b])) = H5 at *
    walk_at "w"
    refine me a5.rd (by decide) (by decide) (by decide) ?_
    walk_at "w"
    refine use_number a5.rd (gt (gt hd)) (by omega) (by omega) (by omega) fun H6 a6 => ?_
    walk_at "w"
    refine ⟨show 1 ≤ sizeLine by decide, fun p6 hp6 => ?_⟩
    have h7 := same_new (o := .tup [V.int (d : Nat)]) hp6 _ _ (a6.sb _ _ (a5.rd.neT h5) h5)
    refine st_cat_tup (.inl (.inl h7)) (.inl (.inl upd_same)) (by simp) (by simp) (show 4 ≤ 1000000 by decide) fun v hv => ?_
    have a8 := ((a5.trans a6).same (same_new (o := .tup [V.int (d : Nat)]) hp6)).same (same_new (o := .tup (([V.str tg] ++ [V.str a, V.str b]) ++ [V.int (d : Nat)])) hv)
    rw [hl] at a8
    exact q _ _ a8 (dpw upd_same (.cons (.str _) (.cons (.str _) (.cons (.str _) (.cons (.int _) .nil)))))
  | _ => first
    | (exfalso; revert hf; simp [Fact.rank]; done)
    | (exfalso; revert hr; simp [Fact.rank]; done)
def pr_take_fact (K : PySem.W.Frag) : V → Hp → VK → XK → Prop := fun x H Q _ => ∃ (r p : Addr) (l : Int) (ws : List Str) (sw : Bool) (m : Nat) (f : Fact), x = .ref r ∧ RD K H r p l ws 0 ∧ ws = f.words sw m ∧ f.Ok ∧ f.Fits m ∧ ∀ v H', RA K r p l ws ws.length H H' → Dp K H' v f.data → Q v H'
def sp_Reader_take_fact (K : PySem.W.Frag) : Sp := Sp1 (pr_take_fact K)
theorem words_tag (f : Fact) (sw : Bool) (m : Nat) : ∃ t, f.words sw m = f.tag :: t := by
  cases f <;> exact ⟨_, rfl⟩
theorem pure_Reader_take_fact (T : Txt K mg) {x : V} {H : Hp} {Q : VK} {E : XK} (h : pr_take_fact K x H Q E) : t_Reader_take_fact K { nx := fun _ H' => Q .non H', rt := Q } [some x, none, none] H := by
  obtain ⟨r, p, l, ws, sw, m, f, rfl, rd, hw, ok, fit, q⟩ := h
  obtain ⟨tl, htl⟩ := words_tag f sw m
  have hd : ws.drop 0 = f.tag :: tl := by rw [hw, htl]; rfl
  unfold t_Reader_take_fact
  walk_at "w"
  refine me rd (by decide) (by decide) (by decide) ?_
  walk_at "w"
  refine use_peek rd ?_
  rw [gd hd]
  walk_at "w"
  refine me rd (by decide) (by decide) (by decide) ?_
  walk_at "w"
  refine st_in_tup (T.tup_FACTS H) rfl (by rfl) ?_
  rw [show inV (.str f.tag) (dv_FACTS.map (He.Dv.v K)) = true from (inV_strs f.tag [("born" : Str), "taken", "joined", "parted", "died", "owns", "gave", "owes", "unfit", "word"]).trans (decide_eq_true (tag_in f))]
  refine use_need ?_
  walk_at "w"
  refine me rd (by decide) (by decide) (by decide) ?_
  walk_at "w"
  refine use_go rd fun H1 a1 => ?_
  walk_at "w"
  have x1 : FX K H1 Q r p l ws sw m f := ⟨a1.rd, hw, ok, fit, fun v H' a d => q v H' (a1.trans a) d⟩
  refine ⟨show 2 ≤ sizeLine by decide, fun j hj => ?_⟩
  refine st_in_tup (.inl (.inl upd_same)) rfl rfl ?_
  have x2 := x1.same (same_new (o := .tup [V.str "born", V.str "taken"]) hj)
  generalize upd H1 j (.tup [V.str "born", V.str "taken"]) = H2 at *
  by_cases hr : f.rank ≤ 5
  · rw [ne_life hr]
    walk_at "w"
    exact part5 T hr x2
  · cases f with
    | life t n d ps =>
      have hin : inV (.str (Fact.life t n d ps).tag) [.str "born", .str "taken"] = true := by
        rw [show inV (.str (Fact.life t n d ps).tag) [.str "born", .str "taken"] = decide ((Fact.life t n d ps).tag ∈ [("born" : Str), "taken"]) from inV_strs _ ["born", "taken"]]
        cases t
        · exact (by decide +kernel : decide (("born" : Str) ∈ [("born" : Str), "taken"]) = true)
        · exact (by decide +kernel : decide (("taken" : Str) ∈ [("born" : Str), "taken"]) = true)
      rw [hin]
      walk_at "w"
      refine me x2.rd (by decide) (by decide) (by decide) ?_
      walk_at "w"
      exact ⟨_, _, rfl, r, p, l, ws, 1, sw, t, n, d, ps, rfl, rfl, x2.rd, by rw [hw]; simp [Fact.words], by rw [hw]; rfl, ok, x2.q⟩
    | _ => (exfalso; revert hr; simp [Fact.rank]; done)
theorem ok_Reader_take_fact (T : Txt K mg) (c_Reader_need : Km P w K mg base CX0 1 (He.ga K "Reader") "need" ["self", "good"] (sp_Reader_need K)) (c_Reader_peek : Km P w K mg base CX0 1 (He.ga K "Reader") "peek" ["self"] (sp_Reader_peek K)) (c_Reader_go : Km P w K mg base CX0 2 (He.ga K "Reader") "go" ["self"] (sp_Reader_go K)) (c_Reader_take_name : Km P w K mg base CX0 3 (He.ga K "Reader") "take_name" ["self", "unlike"] (sp_Reader_take_name K)) (c_Reader_take_number : Km P w K mg base CX0 3 (He.ga K "Reader") "take_number" ["self", "low", "high"] (sp_Reader_take_number K)) (c_Reader_take_pair : Km P w K mg base CX0 4 (He.ga K "Reader") "take_pair" ["self"] (sp_Reader_take_pair K)) (c_Reader_take_life : Km P w K mg base CX0 5 (He.ga K "Reader") "take_life" ["self", "word"] (sp_Reader_take_life K)) (c_Reader_take_last_word : Km P w K mg base CX0 5 (He.ga K "Reader") "take_last_word" ["self"] (sp_Reader_take_last_word K)) : Km P w K mg base CX0 6 (He.ga K "Reader") "take_fact" ["self"] (sp_Reader_take_fact K) := by
  obtain ⟨fd, F⟩ := T.c.def_ 23 (d := d_Reader_take_fact) rfl
  refine ⟨T.cl_Reader, ⟨_, fd, T.me_Reader_take_fact, F.bindsN fun _ _ _ _ _ _ us hl => match us, hl with | [_], _ => rfl, F.ok sc_Reader_take_fact Sp1.len (fun cdv A outer s H vs Q E hr h => ?_)⟩⟩
  obtain ⟨v0, rfl, h⟩ := h
  refine ⟨t_Reader_take_fact K, PSs.nox (?_), pure_Reader_take_fact T h⟩
  exact (pss_cons (ps_set (i := 1) sc_Reader_take_fact.nd rfl (by first | exact Or.inl rfl | exact Or.inr rfl) (pe_mK0 c_Reader_peek (hr.mono (by decide)) (pv 0)))
      (pss_cons (ps_expr (pe_mK c_Reader_need (hr.mono (by decide)) (pv 0) (pa_cons (pe_inA hr (pv 1) (pe_gr rfl T.g_FACTS) (by rfl)) pa_nil)))
      (pss_cons (ps_expr (pe_mK0 c_Reader_go (hr.mono (by decide)) (pv 0)))
      (pss_cons (ps_if (pt_cmpR (op_inA hr) (pv 1) (pe_tup (pa_cons pe_str (pa_cons pe_str pa_nil))) (by rfl)) (pss_one (ps_ret (pe_mK c_Reader_take_life (hr.mono (by decide)) (pv 0) (pa_cons (pv 1) pa_nil)))) pss_nil)
      (pss_cons (ps_if (pt_cmpR (op_inA hr) (pv 1) (pe_tup (pa_cons pe_str (pa_cons pe_str pa_nil))) (by rfl)) (pss_one (ps_ret (pe_op op_addA (pe_op op_addA (pe_tup (pa_cons (pv 1) pa_nil)) (pe_callTy call_tuple_of (by rfl) T.n_tuple (by decide +kernel) (pa_cons (pe_callB call_sortedA (by rfl) T.n_sorted (by decide +kernel) (pa_cons (pe_mK0 c_Reader_take_pair (hr.mono (by decide)) (pv 0)) pa_nil)) pa_nil))) (pe_tup (pa_cons (pe_mK c_Reader_take_number (hr.mono (by decide)) (pv 0) (pa_cons pe_int (pa_cons (pe_gi rfl T.g_LAST_DAY) pa_nil))) pa_nil))))) pss_nil)
      (pss_cons (ps_if (pt_cmpR (op_eqA hr) (pv 1) pe_str (nomark _)) (pss_one (ps_ret (pe_tup (pa_cons (pv 1) (pa_cons (pe_mK c_Reader_take_name (hr.mono (by decide)) (pv 0) (pa_cons (pe_lst pa_nil) pa_nil)) (pa_cons (pe_mK c_Reader_take_number (hr.mono (by decide)) (pv 0) (pa_cons pe_int (pa_cons (pe_gi rfl T.g_LAST_DAY) pa_nil))) pa_nil)))))) pss_nil)
      (pss_cons (ps_if (pt_cmpR (op_eqA hr) (pv 1) pe_str (nomark _)) (pss_one (ps_ret (pe_tup (pa_cons (pv 1) (pa_cons (pe_mK c_Reader_take_name (hr.mono (by decide)) (pv 0) (pa_cons (pe_lst pa_nil) pa_nil)) (pa_cons (pe_mK c_Reader_take_number (hr.mono (by decide)) (pv 0) (pa_cons pe_int (pa_cons (pe_gi rfl T.g_MOST_SUM) pa_nil))) pa_nil)))))) pss_nil)
      (pss_cons (ps_if (pt_cmpR (op_eqA hr) (pv 1) pe_str (nomark _)) (pss_one (ps_ret (pe_op op_addA (pe_op op_addA (pe_tup (pa_cons (pv 1) pa_nil)) (pe_mK0 c_Reader_take_pair (hr.mono (by decide)) (pv 0))) (pe_tup (pa_cons (pe_mK c_Reader_take_number (hr.mono (by decide)) (pv 0) (pa_cons pe_int (pa_cons (pe_gi rfl T.g_MOST_SUM) pa_nil))) (pa_cons (pe_mK c_Reader_take_number (hr.mono (by decide)) (pv 0) (pa_cons pe_int (pa_cons (pe_gi rfl T.g_LAST_DAY) pa_nil))) pa_nil)))))) pss_nil)
      (pss_cons (ps_if (pt_cmpR (op_eqA hr) (pv 1) pe_str (nomark _)) (pss_cons (ps_set (i := 2) sc_Reader_take_fact.nd rfl (by first | exact Or.inl rfl | exact Or.inr rfl) (pe_tup (pa_cons (pe_mK c_Reader_take_name (hr.mono (by decide)) (pv 0) (pa_cons (pe_lst pa_nil) pa_nil)) (pa_cons (pe_mK c_Reader_take_name (hr.mono (by decide)) (pv 0) (pa_cons (pe_lst pa_nil) pa_nil)) pa_nil))))
      (pss_one (ps_ret (pe_op op_addA (pe_op op_addA (pe_tup (pa_cons (pv 1) pa_nil)) (pv 2)) (pe_tup (pa_cons (pe_mK c_Reader_take_number (hr.mono (by decide)) (pv 0) (pa_cons pe_int (pa_cons (pe_gi rfl T.g_MOST_SUM) pa_nil))) (pa_cons (pe_mK c_Reader_take_number (hr.mono (by decide)) (pv 0) (pa_cons pe_int (pa_cons (pe_gi rfl T.g_MOST_RANK) pa_nil))) pa_nil))))))) pss_nil)
      (pss_one (ps_ret (pe_ifExp (pt_cmpR (op_eqA hr) (pv 1) pe_str (nomark _)) (pe_op op_addA (pe_tup (pa_cons (pv 1) pa_nil)) (pe_mK0 c_Reader_take_pair (hr.mono (by decide)) (pv 0))) (pe_mK0 c_Reader_take_last_word (hr.mono (by decide)) (pv 0))))))))))))))
end
end K02
set_option Elab.async false
set_option linter.all false
set_option maxRecDepth 100000
set_option maxHeartbeats 4000000
namespace K02
open PySem PySem.Spec PyProof.Rows L2 My
section
variable {P : Program} {w : World} {K : PySem.W.Frag} {mg : Str → Option Value} {base : Heap}
/-! ### read_fact -/
/-- the row tells the fact -/
def Tells (ws : List Str) (f : Fact) : Prop := ∃ (sw : Bool) (m : Nat), ws = f.words sw m ∧ f.Ok ∧ f.Fits m
def pr_read_fact (K : PySem.W.Frag) : V → V → Hp → VK → XK → Prop := fun x y H Q _ => ∃ (p : Addr) (l : Int) (ws : List Str) (f : Fact), x = .ref p ∧ y = .int l ∧ SqL K H p (ws.map V.str) ∧ Tells ws f ∧ ∀ v H', Same H H' → Dp K H' v f.data → Q v H'
def sp_read_fact (K : PySem.W.Frag) : Sp := Sp2 (pr_read_fact K)
def t_read_fact (K : PySem.W.Frag) : TS :=
  (tSeq (tAsg (tMake (He.ga K "Reader") (sp_Reader___init__ K) [] E0 (tCons (tVar 0) (tCons (tVar 1) tNil))) (gName 2))
  (tSeq (tAsg (tMeth (He.ga K "Reader") "take_fact" (sp_Reader_take_fact K) [] E0 (tVar 2) tNil) (gName 3))
  (tSeq (tDrop (tMeth (He.ga K "Reader") "over" (sp_Reader_over K) [] E0 (tVar 2) tNil))
  (tRet (tVar 3)))))
theorem pure_read_fact (T : Txt K mg) {x y : V} {H : Hp} {Q : VK} {E : XK} (h : pr_read_fact K x y H Q E) : t_read_fact K { nx := fun _ H' => Q .non H', rt := Q } [some x, some y, none, none] H := by
  obtain ⟨p, l, ws, f, rfl, rfl, hp, ⟨sw, m, hw, ok, fit⟩, q⟩ := h
  unfold t_read_fact
  walk_at "w"
  intro r dx hr hdx hne
  have s1 : Same H (upd (upd H dx (.own r)) r (.ins (He.ga K "Reader") dx [])) := (same_new hdx).trans (same_new (by rw [upd_ne hne.symm]; exact hr))
  refine ⟨_, _, _, rfl, r, dx, p, l, rfl, rfl, rfl, upd_same, fun H2 sb h2 => ⟨rfl, ?_⟩⟩
  have s2 : Same H H2 := fun b o e => sb b o (fun z => by rw [z, hr] at e; cases e) (s1 b o e)
  have rd : RD K H2 r p l ws 0 := ⟨⟨dx, h2⟩, s2.seq hp, by rw [hw]; have := (words_len ok sw m).1; omega⟩
  walk_at "w"
  refine me rd (by decide) (by decide) (by decide) ?_
  walk_at "w"
  refine ⟨_, rfl, r, p, l, ws, sw, m, f, rfl, rd, hw, ok, fit, fun v H3 a3 d3 => ?_⟩
  walk_at "w"
  refine me a3.rd (by decide) (by decide) (by decide) ?_
  walk_at "w"
  refine ⟨_, rfl, r, p, l, ws, rfl, a3.rd, ?_⟩
  walk_at "w"
  exact q _ _ (fun b o e => a3.sb b o (fun z => by rw [z, hr] at e; cases e) (s2 b o e)) d3
theorem ok_read_fact (T : Txt K mg) (c_Reader___init__ : Ki P w K mg base 1 "Reader" ["self", "row", "line"] (sp_Reader___init__ K)) (c_Reader_over : Km P w K mg base CX0 2 (He.ga K "Reader") "over" ["self"] (sp_Reader_over K)) (c_Reader_take_fact : Km P w K mg base CX0 6 (He.ga K "Reader") "take_fact" ["self"] (sp_Reader_take_fact K)) : Kp P w K mg base CX0 7 "read_fact" ["row", "line"] (sp_read_fact K) := by
  obtain ⟨fd, F⟩ := T.c.def_ 24 (d := d_read_fact) rfl
  refine ⟨⟨_, fd, T.g_read_fact, F.kp, F.bindsN fun _ _ _ _ _ _ us hl => match us, hl with | [_, _], _ => rfl, F.ok sc_read_fact Sp2.len (fun cdv A outer s H vs Q E hr h => ?_)⟩⟩
  obtain ⟨v0, v1, rfl, h⟩ := h
  refine ⟨t_read_fact K, PSs.nox (?_), pure_read_fact T h⟩
  exact (pss_cons (ps_set (i := 2) sc_read_fact.nd rfl (by first | exact Or.inl rfl | exact Or.inr rfl) (pe_mI c_Reader___init__ (hr.mono (by decide)) rfl (pa_cons (pv 0) (pa_cons (pv 1) pa_nil))))
      (pss_cons (ps_set (i := 3) sc_read_fact.nd rfl (by first | exact Or.inl rfl | exact Or.inr rfl) (pe_mK0 c_Reader_take_fact (hr.mono (by decide)) (pv 2)))
      (pss_cons (ps_expr (pe_mK0 c_Reader_over (hr.mono (by decide)) (pv 2)))
      (pss_one (ps_ret (pv 3))))))
/-! ### read_facts -/
def wsS (ws : List (List Nat)) : List Str := ws.map S
def full (rows : List (List (List Nat))) : List (List (List Nat)) := rows.filter fun ws => !ws.isEmpty
def pr_read_facts (K : PySem.W.Frag) : V → Hp → VK → XK → Prop := fun x H Q _ => ∃ (z : Str) (rows : List (List (List Nat))) (fs : List Fact), x = .str z ∧ z.length ≤ 8000 ∧ scan 0 [] [] z.cps.toList = .ok rows ∧ Paired (fun ws f => Tells (wsS ws) f) (full rows) fs ∧ fs.length ≤ 120 ∧
  ∀ p vs H', Same H H' → H p = none → H' p = some (.lst vs) → DpAll K H' vs (fs.map Fact.data) → Q (.ref p) H'
def sp_read_facts (K : PySem.W.Frag) : Sp := Sp1 (pr_read_facts K)
def t_read_facts (K : PySem.W.Frag) : TS :=
  (tSeq (tAsg (tLst tNil) (gName 1))
  (tSeq (tFor (iEnum K (tCons (tCall (sp_text_words K) [] E0 (tCons (tVar 0) tNil)) tNil)) (gTup K 2 (gCons (gName 2) (gCons (gName 3) gNil))) (tIfS (tTest (tOp (rNeA K) (tVar 3) (tLst tNil))) (tSeq (tIfS (tTest (tOp (rEqA K) (tCB (rLenA K) (tCons (tVar 1) tNil)) (tC (.int 120)))) tNever tNext)
  (tDrop (tBM K "list" rAppend (tVar 1) (tCons (tCall (sp_read_fact K) [] E0 (tCons (tVar 3) (tCons (tVar 2) tNil))) tNil)))) tNext))
  (tRet (tVar 1))))
theorem wsS_v (ws : List (List Nat)) : ws.map txt = (wsS ws).map V.str := by rw [wsS, List.map_map]; rfl
theorem full_take {rows : List (List (List Nat))} {i : Nat} {ws : List (List Nat)} (h : rows[i]? = some ws) : full (rows.take (i + 1)) = full (rows.take i) ++ (if ws = [] then [] else [ws]) := by
  unfold full
  rw [take_succ_some h, List.filter_append]
  congr 1
  cases ws <;> rfl
theorem full_pre {rows : List (List (List Nat))} (i : Nat) : ∃ t, full rows = full (rows.take i) ++ t := ⟨full (rows.drop i), by
  unfold full
  rw [← List.filter_append, List.take_append_drop]⟩
theorem pure_read_facts (T : Txt K mg) {x : V} {H : Hp} {Q : VK} {E : XK} (h : pr_read_facts K x H Q E) : t_read_facts K { nx := fun _ H' => Q .non H', rt := Q } [some x, none, none, none] H := by
  obtain ⟨z, rows, fs, rfl, hz, hsc, pr, hfl, q⟩ := h
  have ok := scan_ok 8001 _ z.cps.toList (Nat.le_refl _) _ _ _ _ hsc (by rw [len_toList]; simp; omega) (by rw [len_toList]; simp; omega) (by rw [len_toList]; omega) (fun _ h => by cases h) (fun _ h => by cases h)
  unfold t_read_facts
  walk_at "w"
  refine ⟨Nat.zero_le _, fun f hf => ?_⟩
  have s1 : Same H (upd H f (.lst [])) := same_new hf
  have hf1 : upd H f (.lst []) f = some (.lst []) := upd_same
  generalize upd H f (.lst []) = H1 at *
  walk_at "w"
  refine ⟨_, rfl, .inl ⟨z, rfl, by omega, ?_⟩⟩
  rw [if_pos hz, hsc]
  rintro p H2 s2 ⟨qs, hp, hpn, hqn, nd, prq⟩
  have hf2 := s2 _ _ hf1
  have fp : f ≠ p := fun e => by rw [e, hpn] at hf1; cases hf1
  have fq : ∀ q ∈ qs, q ≠ f := fun q hq e => by
    have := hqn q hq
    rw [e, hf1] at this; cases this
  walk_at "w"
  refine ⟨p, _, rfl, SqL.of hp, ?_⟩
  refine for_it (walk_enum (xs := qs.map V.ref)) (fun i σ H' => ∃ (v w : Option V) (vs : List V), σ = [some (.str z), some (.ref f), v, w] ∧ SB f H2 H' ∧ H' f = some (.lst vs) ∧ DpAll K H' vs ((fs.take (full (rows.take i)).length).map Fact.data))
    ⟨_, _, [], rfl, SB.refl _ _, hf2, by rw [List.take_zero]; exact .nil⟩ (fun i σ H' _ ⟨_, _, _, _, sb, _⟩ => SqL.of (sb _ _ fp.symm hp)) ?_ ?_
  · rintro i x σ H3 H4 hi ⟨v, w, vs, rfl, sb, h3, d3⟩ ⟨Tq, a, b, rfl, hT, rfl, ha, hb⟩
    cases ha
    dsimp only at hb
    rw [List.getElem?_map] at hb
    cases hqi : qs[i]? with
    | none => rw [hqi] at hb; cases hb
    | some qa =>
      rw [hqi] at hb
      cases hb
      obtain ⟨ws, hws, hqa⟩ := pget prq hqi
      have hqf := fq qa (List.mem_of_getElem? hqi)
      have s4 : Same H3 (upd H3 Tq (.tup [.int (i : Nat), .ref qa])) := same_new hT
      refine w_gtup2 (.inl (.inl upd_same)) ?_
      have q4 := s4 _ _ (sb _ _ hqf hqa)
      have h4 := s4 _ _ h3
      have d4 := d3.same s4
      have sb4 := sb.trans (Same.sb s4)
      generalize upd H3 Tq (.tup [.int (i : Nat), .ref qa]) = H4 at *
      walk_at "w"
      refine ⟨Nat.zero_le _, fun e he => ?_⟩
      have s5 : Same H4 (upd H4 e (.lst [])) := same_new he
      have row := ok.2 ws (List.mem_of_getElem? hws)
      have shr : SeqAt.shaped (.list (ws.map fun l => .str (S l))) = true := by
        have := shaped_strs (zs := wsS ws) (fun y hy => by
          obtain ⟨l, hl, rfl⟩ := List.mem_map.mp hy
          exact strOk_iff.mpr (by simpa using row.2 l hl))
        rw [wsS, List.map_map] at this
        exact this
      refine st_neD (.lst (SqL.of (s5 _ _ q4)) (DpAll.strs ws)) (.lst (xs := []) (SqL.of upd_same) .nil) shr (by rfl) ?_
      rw [eqv_nil, List.isEmpty_map]
      have q5 := s5 _ _ q4
      have h5 := s5 _ _ h4
      have d5 := d4.same s5
      have sb5 := sb4.trans (Same.sb s5)
      generalize upd H4 e (.lst []) = H5 at *
      have ft := full_take hws
      cases ws with
      | nil =>
        rw [show (([] : List (List Nat)).isEmpty) = true from rfl]
        walk_at "w"
        rw [if_pos rfl, List.append_nil] at ft
        refine ⟨_, _, vs, rfl, sb5, h5, ?_⟩
        rw [ft]
        exact d5
      | cons w0 wr =>
        rw [if_neg (by simp)] at ft
        obtain ⟨t, ht⟩ := full_pre (rows := rows) (i + 1)
        have hx : (full rows)[(full (rows.take i)).length]? = some (w0 :: wr) := by
          rw [ht, ft, List.append_assoc, List.getElem?_append_right (Nat.le_refl _), Nat.sub_self]; rfl
        obtain ⟨fa, hfa, tells⟩ := pget pr hx
        have hlt : (full (rows.take i)).length < fs.length := by
          rcases Nat.lt_or_ge (full (rows.take i)).length fs.length with h | h
          · exact h
          · rw [List.getElem?_eq_none h] at hfa; cases hfa
        have hvl : vs.length = (full (rows.take i)).length := by
          rw [d5.len, List.length_map, List.length_take]; omega
        rw [show (w0 :: wr).isEmpty = false from rfl]
        walk_at "w"
        refine st_len_list (SqL.of h5) ?_
        walk_at "w"
        rw [decide_eq_false (show ¬ ((vs.length : Nat) : Int) = 120 by omega)]
        walk_at "w"
        refine ⟨.inl ⟨rfl, _, SqL.of h5⟩, ?_⟩
        walk_at "w"
        refine ⟨_, _, rfl, qa, _, wsS (w0 :: wr), fa, rfl, rfl, SqL.of (by rw [← wsS_v]; exact q5), tells, fun v H6 s6 d6 => ?_⟩
        walk_at "w"
        refine ⟨f, vs, v, rfl, rfl, s6 _ _ h5, small_lt _ (by omega), ?_⟩
        walk_at "w"
        refine ⟨_, _, vs ++ [v], rfl, fun b o n e => by rw [upd_ne n]; exact (sb5.trans (Same.sb s6)) b o n e, upd_same, ?_⟩
        have hT6 : ∀ a xs, SqT K H6 a xs → SqT K (upd H6 f (.lst (vs ++ [v]))) a xs := fun a xs h => mut_sqT (s6 _ _ h5) h
        rw [ft, List.length_append]
        show DpAll K _ _ ((fs.take ((full (rows.take i)).length + 1)).map Fact.data)
        rw [take_succ_some hfa, List.map_append]
        exact (dps_monoT hT6 (noLs_facts _) (d5.same s6)).app (.cons (dp_monoT hT6 (noL_fact fa) d6) .nil)
  · rintro σ H' ⟨v, w, vs, rfl, sb, h3, d3⟩
    walk_at "w"
    have e1 : (full (rows.take (qs.map V.ref).length)).length = fs.length := by
      rw [List.length_map, prq.length, List.take_length]
      exact pr.length
    rw [e1, List.take_length] at d3
    exact q f vs H' (fun b o e => sb b o (fun z => by rw [z, hf] at e; cases e) (s2 b o (s1 b o e))) hf h3 d3
theorem ok_read_facts (T : Txt K mg) (c_text_words : Kp P w K mg base (L2.CX P w) 4 "text_words" ["text"] (sp_text_words K)) (c_read_fact : Kp P w K mg base CX0 7 "read_fact" ["row", "line"] (sp_read_fact K)) : Kp P w K mg base CX0 8 "read_facts" ["text"] (sp_read_facts K) := by
  obtain ⟨fd, F⟩ := T.c.def_ 25 (d := d_read_facts) rfl
  refine ⟨⟨_, fd, T.g_read_facts, F.kp, F.bindsN fun _ _ _ _ _ _ us hl => match us, hl with | [_], _ => rfl, F.ok sc_read_facts Sp1.len (fun cdv A outer s H vs Q E hr h => ?_)⟩⟩
  obtain ⟨v0, rfl, h⟩ := h
  refine ⟨t_read_facts K, PSs.nox (?_), pure_read_facts T h⟩
  exact (pss_cons (ps_set (i := 1) sc_read_facts.nd rfl (by first | exact Or.inl rfl | exact Or.inr rfl) (pe_lst pa_nil))
      (pss_cons (ps_for PassesOwn.never rfl (pi_enum (by rfl) T.n_enumerate (pa_cons (pe_cKN c_text_words (hr.mono (by decide)) rfl (pa_cons (pv 0) pa_nil)) pa_nil)) (pg_tup rfl (pgs_cons (pg_name (i := 2) sc_read_facts.nd rfl (by first | exact Or.inl rfl | exact Or.inr rfl)) (pgs_cons (pg_name (i := 3) sc_read_facts.nd rfl (by first | exact Or.inl rfl | exact Or.inr rfl)) pgs_nil))) (pss_one (ps_if (pt_cmpR (op_neA hr) (pv 3) (pe_lst pa_nil) (nomark _)) (pss_cons (ps_if (pt_cmpR (op_eqA hr) (pe_callB call_len (by rfl) T.n_len (by decide +kernel) (pa_cons (pv 1) pa_nil)) (pe_gi rfl T.g_MOST_FACTS) (nomark _)) (pss_one ps_never) pss_nil)
      (pss_one (ps_expr (pe_bm PySem.F.plainAttrs_list PySem.F.slot_list_append PySem.F.type_list_append mt_append (pv 1) (pa_cons (pe_cK c_read_fact (hr.mono (by decide)) rfl (pa_cons (pv 3) (pa_cons (pv 2) pa_nil))) pa_nil))))) pss_nil)))
      (pss_one (ps_ret (pv 1)))))
end
end K02
set_option Elab.async false
set_option linter.all false
set_option maxRecDepth 100000
set_option maxHeartbeats 4000000
namespace K02
open PySem PySem.Spec PyProof.Rows L2 My
section
variable {P : Program} {w : World} {K : PySem.W.Frag} {mg : Str → Option Value} {base : Heap}
theorem len_append (a b : Str) : (a ++ b).length = a.length + b.length := size_cat a b
theorem st_num {n : Nat} {H : Hp} {Q : VK} (hn : n < 10 ^ 20) (q : Q (.str (numS n)) H) : rStrB [.int (n : Nat)] H Q := by
  refine .inl ⟨_, rfl, ?_, q⟩
  have h : ((n : Nat) : Int).natAbs < 2 ^ 80 := by omega
  exact Nat.lt_trans (PySem.Flt.log2_lt_of (by decide) h) (by decide)
theorem st_str {z : Str} {H : Hp} {Q : VK} (q : Q (.str z) H) : rStrB [.str z] H Q := .inr ⟨_, rfl, q⟩
/-! ### part_text -/
def pr_part_text (K : PySem.W.Frag) : V → Hp → VK → XK → Prop := fun x H Q _ => ∃ (p : Addr) (t b : Nat), x = .ref p ∧ SqT K H p [.int (t : Nat), .int (b : Nat)] ∧ t ≤ 1000000 ∧ b ≤ 1000000 ∧ Q (.str (numS t ++ " / " ++ numS b)) H
def sp_part_text (K : PySem.W.Frag) : Sp := Sp1 (pr_part_text K)
def t_part_text (K : PySem.W.Frag) : TS :=
  (tRet (tOp (rAddA K) (tOp (rAddA K) (tCB rStrB (tCons (tIxA K (tVar 0) (tC (.int 0))) tNil)) (tC (.str " / "))) (tCB rStrB (tCons (tIxA K (tVar 0) (tC (.int 1))) tNil))))
theorem sl3 : (" / " : Str).length = 3 := by decide +kernel
theorem pure_part_text (T : Txt K mg) {x : V} {H : Hp} {Q : VK} {E : XK} (h : pr_part_text K x H Q E) : t_part_text K { nx := fun _ H' => Q .non H', rt := Q } [some x] H := by
  obtain ⟨p, t, b, rfl, hp, ht, hb, q⟩ := h
  have l1 := numS_len (n := t) (k := 20) (by decide) (by omega)
  have l2 := numS_len (n := b) (k := 20) (by decide) (by omega)
  unfold t_part_text
  walk_at "w"
  refine st_ix_tup hp rfl ?_
  walk_at "w"
  refine st_num (by omega) ?_
  walk_at "w"
  refine st_add_str (by rw [sl3]; omega) ?_
  walk_at "w"
  refine st_ix_tup hp rfl ?_
  walk_at "w"
  refine st_num (by omega) ?_
  refine st_add_str (by rw [len_append, sl3]; omega) ?_
  exact q
theorem ok_part_text (T : Txt K mg)  : Kp P w K mg base CX0 1 "part_text" ["part"] (sp_part_text K) := by
  obtain ⟨fd, F⟩ := T.c.def_ 26 (d := d_part_text) rfl
  refine ⟨⟨_, fd, T.g_part_text, F.kp, F.bindsN fun _ _ _ _ _ _ us hl => match us, hl with | [_], _ => rfl, F.ok sc_part_text Sp1.len (fun cdv A outer s H vs Q E hr h => ?_)⟩⟩
  obtain ⟨v0, rfl, h⟩ := h
  refine ⟨t_part_text K, PSs.nox (?_), pure_part_text T h⟩
  exact (pss_one (ps_ret (pe_op op_addA (pe_op op_addA (pe_callTy call_strB (by rfl) T.n_str (by decide +kernel) (pa_cons (pe_ixA hr (pv 0) pe_int (fun _ _ => rfl)) pa_nil)) pe_str) (pe_callTy call_strB (by rfl) T.n_str (by decide +kernel) (pa_cons (pe_ixA hr (pv 0) pe_int (fun _ _ => rfl)) pa_nil)))))
/-! ### word_words -/
def pr_word_words (K : PySem.W.Frag) : V → Hp → VK → XK → Prop := fun x H Q _ => ∃ (wh : What), Dp K H x wh.data ∧ wh.Ok ∧ ∀ p H', Same H H' → H' p = some (.lst (wh.texts.map V.str)) → Q (.ref p) H'
def sp_word_words (K : PySem.W.Frag) : Sp := Sp1 (pr_word_words K)
def t_word_words_0 (K : PySem.W.Frag) : TS :=
  (tSeq (tAsg (tLst (tCons (tIxA K (tVar 0) (tC (.int 0))) (tCons (tIxA K (tVar 0) (tC (.int 1))) (tCons (tVar 1) tNil)))) (gName 2))
  (tRet (tIf (tB (tIsN (tIxA K (tVar 0) (tC (.int 3))))) (tVar 2) (tOp (rAddA K) (tVar 2) (tLst (tCons (tC (.str "else")) (tCons (tIxA K (tVar 0) (tC (.int 3))) tNil)))))))
def t_word_words (K : PySem.W.Frag) : TS :=
  (tSeq (tIfS (tTest (tOp (rEqA K) (tIxA K (tVar 0) (tC (.int 0))) (tC (.str "out")))) (tRet (tLst (tCons (tC (.str "out")) (tCons (tIxA K (tVar 0) (tC (.int 1))) tNil)))) tNext)
  (tSeq (tAsg (tIf (tTest (tOp (rEqA K) (tIxA K (tVar 0) (tC (.int 0))) (tC (.str "sum")))) (tCB rStrB (tCons (tIxA K (tVar 0) (tC (.int 2))) tNil)) (tCall (sp_part_text K) [] E0 (tCons (tIxA K (tVar 0) (tC (.int 2))) tNil))) (gName 1))
  (t_word_words_0 K)))
theorem opt_non (e : Option Str) : decide (optV e = .non) = e.isNone := by
  cases e with
  | none => exact decide_eq_true rfl
  | some z => exact decide_eq_false (fun h => by cases h)
theorem opt_inv {H : Hp} {v : V} {e : Option Str} (h : Dp K H v (optD e)) : v = optV e := by
  cases e with
  | none => exact h.non_inv
  | some z => exact h.str_inv
theorem words_end (T : Txt K mg) {p : Addr} {H H1 : Hp} {Q : VK} {so o am : Str} {xs : List V} {e : Option Str} (hp : SqT K H1 p xs) (h0 : atI xs 0 = some (.str so)) (h1 : atI xs 1 = some (.str o)) (h3 : atI xs 3 = some (optV e)) (s : Same H H1)
    (q : ∀ p H', Same H H' → H' p = some (.lst (([so, o, am] ++ elseW e).map V.str)) → Q (.ref p) H') :
    t_word_words_0 K ⟨fun _ H' => Q .non H', Q, fun _ _ => False, fun _ _ => False⟩ [some (.ref p), some (.str am), none] H1 := by
  unfold t_word_words_0
  walk_at "w"
  refine st_ix_tup hp h0 ?_
  walk_at "w"
  refine st_ix_tup hp h1 ?_
  walk_at "w"
  refine ⟨show 3 ≤ sizeLine by decide, fun f hf => ?_⟩
  have s2 : Same H1 (upd H1 f (.lst [V.str so, V.str o, V.str am])) := same_new hf
  have h5 : upd H1 f (.lst [V.str so, V.str o, V.str am]) f = some (.lst [V.str so, V.str o, V.str am]) := upd_same
  generalize upd H1 f (.lst [V.str so, V.str o, V.str am]) = H2 at *
  walk_at "w"
  refine st_ix_tup (same_sqT s2 hp) h3 ?_
  walk_at "w"
  rw [opt_non]
  cases e with
  | none =>
    rw [show (none : Option Str).isNone = true from rfl]
    walk_at "w"
    exact q _ _ (s.trans s2) h5
  | some e =>
    rw [show (some e : Option Str).isNone = false from rfl]
    walk_at "w"
    refine st_ix_tup (same_sqT s2 hp) h3 ?_
    walk_at "w"
    refine ⟨show 2 ≤ sizeLine by decide, fun g hg => ?_⟩
    refine st_add_list (same_new hg _ _ h5) upd_same (show 5 ≤ 1000000 by decide) fun u hu => ?_
    exact q _ _ (((s.trans s2).trans (same_new hg)).trans (same_new hu)) upd_same
theorem pure_word_words (T : Txt K mg) {x : V} {H : Hp} {Q : VK} {E : XK} (h : pr_word_words K x H Q E) : t_word_words K { nx := fun _ H' => Q .non H', rt := Q } [some x, none, none] H := by
  obtain ⟨wh, d, ok, q⟩ := h
  cases wh with
  | out o =>
    obtain ⟨p, xs, rfl, hp, ds⟩ := d.tup_inv
    obtain ⟨v0, _, rfl, d0, ds⟩ := ds.cons_inv
    obtain ⟨v1, _, rfl, d1, ds⟩ := ds.cons_inv
    rw [ds.nil_inv, d0.str_inv, d1.str_inv] at hp
    unfold t_word_words
    walk_at "w"
    refine st_ix_tup hp rfl ?_
    walk_at "w"
    rw [decide_eq_true rfl]
    walk_at "w"
    refine st_ix_tup hp rfl ?_
    walk_at "w"
    refine ⟨show 2 ≤ sizeLine by decide, fun f hf => ?_⟩
    exact q _ _ (same_new hf) upd_same
  | sum o s e =>
    obtain ⟨p, xs, rfl, hp, ds⟩ := d.tup_inv
    obtain ⟨v0, _, rfl, d0, ds⟩ := ds.cons_inv
    obtain ⟨v1, _, rfl, d1, ds⟩ := ds.cons_inv
    obtain ⟨v2, _, rfl, d2, ds⟩ := ds.cons_inv
    obtain ⟨v3, _, rfl, d3, ds⟩ := ds.cons_inv
    rw [ds.nil_inv, d0.str_inv, d1.str_inv, d2.int_inv, opt_inv d3] at hp
    have hs := ok.2.1
    unfold t_word_words
    walk_at "w"
    refine st_ix_tup hp rfl ?_
    walk_at "w"
    rw [decide_eq_false (by decide +kernel)]
    walk_at "w"
    refine st_ix_tup hp rfl ?_
    walk_at "w"
    rw [decide_eq_true rfl]
    walk_at "w"
    refine st_ix_tup hp rfl ?_
    walk_at "w"
    refine st_num (by omega) ?_
    exact words_end T hp rfl rfl rfl (Same.refl _) q
  | part o t b e =>
    obtain ⟨ho, h1, h2, h3, hg, he⟩ := ok
    obtain ⟨p, xs, rfl, hp, ds⟩ := d.tup_inv
    obtain ⟨v0, _, rfl, d0, ds1⟩ := ds.cons_inv
    obtain ⟨v1, _, rfl, d1, ds2⟩ := ds1.cons_inv
    obtain ⟨v2, _, rfl, d2, ds3⟩ := ds2.cons_inv
    obtain ⟨v3, _, rfl, d3, ds4⟩ := ds3.cons_inv
    rw [ds4.nil_inv, d0.str_inv, d1.str_inv, opt_inv d3] at hp
    obtain ⟨p2, ys, rfl, hp2, es⟩ := d2.tup_inv
    obtain ⟨u0, _, rfl, e0, es1⟩ := es.cons_inv
    obtain ⟨u1, _, rfl, e1, es2⟩ := es1.cons_inv
    rw [es2.nil_inv, e0.int_inv, e1.int_inv] at hp2
    unfold t_word_words
    walk_at "w"
    refine st_ix_tup hp rfl ?_
    walk_at "w"
    rw [decide_eq_false (by decide +kernel)]
    walk_at "w"
    refine st_ix_tup hp rfl ?_
    walk_at "w"
    rw [decide_eq_false (by decide +kernel)]
    walk_at "w"
    refine st_ix_tup hp rfl ?_
    walk_at "w"
    refine ⟨_, rfl, p2, t, b, rfl, hp2, by omega, by omega, ?_⟩
    exact words_end T hp rfl rfl rfl (Same.refl _) q
theorem ok_word_words (T : Txt K mg) (c_part_text : Kp P w K mg base CX0 1 "part_text" ["part"] (sp_part_text K)) : Kp P w K mg base CX0 2 "word_words" ["what"] (sp_word_words K) := by
  obtain ⟨fd, F⟩ := T.c.def_ 27 (d := d_word_words) rfl
  refine ⟨⟨_, fd, T.g_word_words, F.kp, F.bindsN fun _ _ _ _ _ _ us hl => match us, hl with | [_], _ => rfl, F.ok sc_word_words Sp1.len (fun cdv A outer s H vs Q E hr h => ?_)⟩⟩
  obtain ⟨v0, rfl, h⟩ := h
  refine ⟨t_word_words K, PSs.nox (?_), pure_word_words T h⟩
  exact (pss_cons (ps_if (pt_cmpR (op_eqA hr) (pe_ixA hr (pv 0) pe_int (fun _ _ => rfl)) pe_str (nomark _)) (pss_one (ps_ret (pe_lst (pa_cons pe_str (pa_cons (pe_ixA hr (pv 0) pe_int (fun _ _ => rfl)) pa_nil))))) pss_nil)
      (pss_cons (ps_set (i := 1) sc_word_words.nd rfl (by first | exact Or.inl rfl | exact Or.inr rfl) (pe_ifExp (pt_cmpR (op_eqA hr) (pe_ixA hr (pv 0) pe_int (fun _ _ => rfl)) pe_str (nomark _)) (pe_callTy call_strB (by rfl) T.n_str (by decide +kernel) (pa_cons (pe_ixA hr (pv 0) pe_int (fun _ _ => rfl)) pa_nil)) (pe_cK c_part_text (hr.mono (by decide)) rfl (pa_cons (pe_ixA hr (pv 0) pe_int (fun _ _ => rfl)) pa_nil))))
      (pss_cons (ps_set (i := 2) sc_word_words.nd rfl (by first | exact Or.inl rfl | exact Or.inr rfl) (pe_lst (pa_cons (pe_ixA hr (pv 0) pe_int (fun _ _ => rfl)) (pa_cons (pe_ixA hr (pv 0) pe_int (fun _ _ => rfl)) (pa_cons (pv 1) pa_nil)))))
      (pss_one (ps_ret (pe_ifExp (pt_cmp (pc_isN (pe_ixA hr (pv 0) pe_int (fun _ _ => rfl)))) (pv 2) (pe_op op_addA (pv 2) (pe_lst (pa_cons pe_str (pa_cons (pe_ixA hr (pv 0) pe_int (fun _ _ => rfl)) pa_nil))))))))))
end
end K02
set_option Elab.async false
set_option linter.all false
set_option maxRecDepth 100000
set_option maxHeartbeats 4000000
namespace K02
open PySem PySem.Spec PyProof.Rows L2 My
section
variable {P : Program} {w : World} {K : PySem.W.Frag} {mg : Str → Option Value} {base : Heap}
theorem shaped_tups {zs : List Str} (h : ∀ z ∈ zs, PyData.strOk z = true) : SeqAt.shaped (.tuple (zs.map PyData.str)) = true := shaped_strs h
theorem eqv_nilT (zs : List PyData) : PyData.eqv (.tuple zs) (.tuple []) = zs.isEmpty := by
  cases zs <;> rfl
/-- what is told by its leaves alone -/
structure Flat (f : Fact) (ds : List PyData) : Prop where
  data : f.data = .tuple ds
  leaf : ∀ d ∈ ds, Leaf d
  words : ds.map leafS = f.words false 1
  len : ds.length ≤ 5
  tag : decide (f.tag = ("word" : Str)) = false
  rank : f.rank ≤ 5
  head : ∃ r, ds = .str f.tag :: r
theorem flat_of {f : Fact} (ok : f.Ok) (h5 : f.rank ≤ 5) (hw : ∀ n k w, f ≠ .word n k w) : ∃ ds, Flat f ds := by
  cases f with
  | life => exact absurd h5 (show ¬ (6 ≤ 5) by decide)
  | two t a b d =>
    obtain ⟨ha, hb, _, _, hd⟩ := ok
    cases t
    · exact ⟨[.str "joined", .str a, .str b, .int (d : Nat)], rfl, all_cons (leaf_str (by decide +kernel)) (all_cons (leaf_str (isName_len ha).2) (all_cons (leaf_str (isName_len hb).2) (all_cons (leaf_int (by omega)) (all_nil)))), rfl, (by simp), (by decide +kernel : decide (("joined" : Str) = "word") = false), h5, _, rfl⟩
    · exact ⟨[.str "parted", .str a, .str b, .int (d : Nat)], rfl, all_cons (leaf_str (by decide +kernel)) (all_cons (leaf_str (isName_len ha).2) (all_cons (leaf_str (isName_len hb).2) (all_cons (leaf_int (by omega)) (all_nil)))), rfl, (by simp), (by decide +kernel : decide (("parted" : Str) = "word") = false), h5, _, rfl⟩
  | died n d =>
    obtain ⟨hn, hd⟩ := ok
    exact ⟨[.str "died", .str n, .int (d : Nat)], rfl, all_cons (leaf_str (by decide +kernel)) (all_cons (leaf_str (isName_len hn).2) (all_cons (leaf_int (by omega)) (all_nil))), rfl, (by simp), (by decide +kernel : decide (("died" : Str) = "word") = false), h5, _, rfl⟩
  | owns n d =>
    obtain ⟨hn, hd⟩ := ok
    exact ⟨[.str "owns", .str n, .int (d : Nat)], rfl, all_cons (leaf_str (by decide +kernel)) (all_cons (leaf_str (isName_len hn).2) (all_cons (leaf_int (by omega)) (all_nil))), rfl, (by simp), (by decide +kernel : decide (("owns" : Str) = "word") = false), h5, _, rfl⟩
  | gave a b s d =>
    obtain ⟨ha, hb, _, hs, hd⟩ := ok
    exact ⟨[.str "gave", .str a, .str b, .int (s : Nat), .int (d : Nat)], rfl, all_cons (leaf_str (by decide +kernel)) (all_cons (leaf_str (isName_len ha).2) (all_cons (leaf_str (isName_len hb).2) (all_cons (leaf_int (by omega)) (all_cons (leaf_int (by omega)) (all_nil))))), rfl, (by simp), (by decide +kernel : decide (("gave" : Str) = "word") = false), h5, _, rfl⟩
  | owes a b s d =>
    obtain ⟨ha, hb, hs, _, hd⟩ := ok
    exact ⟨[.str "owes", .str a, .str b, .int (s : Nat), .int (d : Nat)], rfl, all_cons (leaf_str (by decide +kernel)) (all_cons (leaf_str (isName_len ha).2) (all_cons (leaf_str (isName_len hb).2) (all_cons (leaf_int (by omega)) (all_cons (leaf_int (by omega)) (all_nil))))), rfl, (by simp), (by decide +kernel : decide (("owes" : Str) = "word") = false), h5, _, rfl⟩
  | unfit a b =>
    obtain ⟨ha, hb, _⟩ := ok
    exact ⟨[.str "unfit", .str a, .str b], rfl, all_cons (leaf_str (by decide +kernel)) (all_cons (leaf_str (isName_len ha).2) (all_cons (leaf_str (isName_len hb).2) (all_nil))), rfl, (by simp), (by decide +kernel : decide (("unfit" : Str) = "word") = false), h5, _, rfl⟩
  | word n k w => exact absurd rfl (hw n k w)
/-! ### fact_text -/
def pr_fact_text (K : PySem.W.Frag) : V → Hp → VK → XK → Prop := fun x H Q _ => ∃ (f : Fact), Dp K H x f.data ∧ f.Ok ∧ ∀ H', Same H H' → Q (.str (Str.join " " (f.words false 1))) H'
def sp_fact_text (K : PySem.W.Frag) : Sp := Sp1 (pr_fact_text K)
def t_fact_text_0 (K : PySem.W.Frag) : TS :=
  (tRet (tM1 (rJoinA K) (tC (.str " ")) (tVar 1)))
def t_fact_text (K : PySem.W.Frag) : TS :=
  (tSeq (tIfS (tTest (tOp (rInA K false) (tIxA K (tVar 0) (tC (.int 0))) (tTup (tCons (tC (.str "born")) (tCons (tC (.str "taken")) tNil))))) (tSeq (tAsg (tLst (tCons (tIxA K (tVar 0) (tC (.int 0))) (tCons (tIxA K (tVar 0) (tC (.int 1))) (tCons (tCB rStrB (tCons (tIxA K (tVar 0) (tC (.int 2))) tNil)) tNil)))) (gName 1))
  (tIfS (tTest (tOp (rNeA K) (tIxA K (tVar 0) (tC (.int 3))) (tTup tNil))) (tAsg (tOp (rAddA K) (tOp (rAddA K) (tVar 1) (tLst (tCons (tC (.str "of")) tNil))) (tCB (rListOf K) (tCons (tIxA K (tVar 0) (tC (.int 3))) tNil))) (gName 1)) tNext)) (tIfS (tTest (tOp (rEqA K) (tIxA K (tVar 0) (tC (.int 0))) (tC (.str "word")))) (tAsg (tOp (rAddA K) (tLst (tCons (tC (.str "word")) (tCons (tIxA K (tVar 0) (tC (.int 1))) (tCons (tCB rStrB (tCons (tIxA K (tVar 0) (tC (.int 2))) tNil)) tNil)))) (tCall (sp_word_words K) [] E0 (tCons (tIxA K (tVar 0) (tC (.int 3))) tNil))) (gName 1)) (tAsg (tLc (iA K (tVar 0)) (gName 2) tYes (tCB rStrB (tCons (tVar 2) tNil)) [2]) (gName 1))))
  (t_fact_text_0 K))
theorem text_end (T : Txt K mg) {u : Addr} {zs : List Str} {H : Hp} {Q : VK} {v0 v2 : Option V} (hu : SqL K H u (zs.map V.str)) (hl : ∀ y ∈ zs, y.length ≤ 100) (hn : zs.length ≤ 100) (q : Q (.str (Str.join " " zs)) H) :
    t_fact_text_0 K ⟨fun _ H' => Q .non H', Q, fun _ _ => False, fun _ _ => False⟩ [v0, some (.ref u), v2] H := by
  unfold t_fact_text_0
  walk_at "w"
  refine ⟨" ", u, zs, rfl, rfl, .inl hu, ?_, ?_⟩
  · have h1 := sum_len hl
    have h2 : (" " : Str).length = 1 := by decide +kernel
    rw [h2]
    omega
  · rw [TL.join_eq]
    exact q
theorem texts_len {w : What} (ok : w.Ok) : (∀ y ∈ w.texts, y.length ≤ 100) ∧ w.texts.length ≤ 10 := by
  have key : ∀ (l : List Str) (e : Option Str), optOk e → (∀ y ∈ l, y.length ≤ 100) → ∀ y ∈ l ++ elseW e, y.length ≤ 100 := by
    intro l e he hl y hy
    rcases List.mem_append.mp hy with hy | hy
    · exact hl y hy
    · cases e with
      | none => cases hy
      | some z =>
        simp only [elseW, List.mem_cons, List.not_mem_nil, or_false] at hy
        rcases hy with rfl | rfl
        · decide +kernel
        · have := isName_len he; omega
  cases w with
  | sum o s e =>
    obtain ⟨ho, hs, he⟩ := ok
    refine ⟨key _ e he fun y hy => ?_, by have := elseW_len e; simp [What.texts]; omega⟩
    simp only [List.mem_cons, List.not_mem_nil, or_false] at hy
    have l1 := numS_len (n := s) (k := 20) (by decide) (by omega)
    have l2 := isName_len ho
    rcases hy with rfl | rfl | rfl
    · decide +kernel
    · omega
    · omega
  | part o t b e =>
    obtain ⟨ho, h1, h2, h3, _, he⟩ := ok
    refine ⟨key _ e he fun y hy => ?_, by have := elseW_len e; simp [What.texts]; omega⟩
    simp only [List.mem_cons, List.not_mem_nil, or_false] at hy
    have l1 := numS_len (n := t) (k := 20) (by decide) (by omega)
    have l2 := numS_len (n := b) (k := 20) (by decide) (by omega)
    have l3 := isName_len ho
    rcases hy with rfl | rfl | rfl
    · decide +kernel
    · omega
    · rw [len_append, len_append, sl3]; omega
  | out o =>
    refine ⟨fun y hy => ?_, by simp [What.texts]⟩
    have ok : isName o = true := ok
    have l3 := isName_len ok
    simp only [What.texts, List.mem_cons, List.not_mem_nil, or_false] at hy
    rcases hy with rfl | rfl
    · decide +kernel
    · omega
theorem pure_fact_text (T : Txt K mg) {x : V} {H : Hp} {Q : VK} {E : XK} (h : pr_fact_text K x H Q E) : t_fact_text K { nx := fun _ H' => Q .non H', rt := Q } [some x, none, none] H := by
  obtain ⟨f, d, ok, q⟩ := h
  have flat : ∀ ds, Flat f ds → t_fact_text K { nx := fun _ H' => Q .non H', rt := Q } [some x, none, none] H := by
    intro ds F
    rw [F.data] at d
    obtain ⟨p, xs, rfl, hp, da⟩ := d.tup_inv
    obtain ⟨r, hr⟩ := F.head
    have h0 : atI xs 0 = some (.str f.tag) := by
      rw [hr] at da
      obtain ⟨v0, _, rfl, d0, _⟩ := da.cons_inv
      rw [d0.str_inv]
      exact atI_nat (show (V.str f.tag :: _)[0]? = some (V.str f.tag) from rfl)
    unfold t_fact_text
    walk_at "w"
    refine st_ix_tup hp h0 ?_
    walk_at "w"
    refine ⟨show 2 ≤ sizeLine by decide, fun j hj => ?_⟩
    refine st_in_tup (.inl (.inl upd_same)) rfl rfl ?_
    rw [ne_life F.rank]
    have s1 : Same H (upd H j (.tup [V.str "born", V.str "taken"])) := same_new hj
    generalize upd H j (.tup [V.str "born", V.str "taken"]) = H1 at *
    have hp1 := same_sqT s1 hp
    walk_at "w"
    refine st_ix_tup hp1 h0 ?_
    walk_at "w"
    rw [F.tag]
    walk_at "w"
    refine .inr (.inl ⟨p, rfl, ⟨_, hp1⟩, fun D hD => ?_⟩)
    refine lcv (walk_tup (xs := xs)) hD ds da.len (by have := F.len; omega) (fun H' s => same_sqT s hp1) (fun _ => true) (fun d => .str (leafS d)) ?_ ?_
    · rintro i c y H6 H7 hi s6 ⟨rfl, hy⟩ k1 k2 hk1 hk2
      obtain ⟨v, hv, dv⟩ := da.at hi
      rw [hy] at hv
      cases hv
      walk_at "w"
      refine ⟨rfl, ?_⟩
      walk_at "w"
      rcases F.leaf c (List.mem_of_getElem? hi) with ⟨z, rfl, hz⟩ | ⟨n, rfl, hn⟩
      · rw [dv.str_inv]
        exact st_str (hk1 rfl _ (Same.refl _))
      · rw [dv.int_inv]
        exact st_num (by omega) (hk1 rfl _ (Same.refl _))
    · intro H6 s6 h6
      rw [filter_yes] at h6
      have e1 : (ds.map fun d => V.str (leafS d)) = (f.words false 1).map V.str := by rw [← F.words, List.map_map]; rfl
      rw [e1] at h6
      walk_at "w"
      refine text_end T (SqL.of h6) (fun y hy => ?_) ?_ (q _ (s1.trans s6))
      · rw [← F.words] at hy
        obtain ⟨c, hc, rfl⟩ := List.mem_map.mp hy
        have := leaf_len (F.leaf c hc)
        omega
      · rw [← F.words, List.length_map]
        have := F.len; omega
  cases f with
  | life t n dd ps =>
    obtain ⟨hn, hdd, hps, hpl, nd, so, ht⟩ := ok
    obtain ⟨p, xs, rfl, hp, ds⟩ := d.tup_inv
    obtain ⟨v0, _, rfl, d0, ds1⟩ := ds.cons_inv
    obtain ⟨v1, _, rfl, d1, ds2⟩ := ds1.cons_inv
    obtain ⟨v2, _, rfl, d2, ds3⟩ := ds2.cons_inv
    obtain ⟨v3, _, rfl, d3, ds4⟩ := ds3.cons_inv
    rw [ds4.nil_inv, d0.str_inv, d1.str_inv, d2.int_inv] at hp
    have l0 : ∀ y ∈ [if t then ("taken" : Str) else "born", n, numS dd], y.length ≤ 100 := by
      intro y hy
      have l1 := numS_len (n := dd) (k := 20) (by decide) (by omega)
      have l2 := isName_len hn
      simp only [List.mem_cons, List.not_mem_nil, or_false] at hy
      rcases hy with rfl | rfl | rfl
      · cases t <;> decide +kernel
      · omega
      · omega
    have hin : inV (.str (if t then ("taken" : Str) else "born")) [.str "born", .str "taken"] = true := by
      rw [show inV (.str (if t then ("taken" : Str) else "born")) [.str "born", .str "taken"] = decide ((if t then ("taken" : Str) else "born") ∈ [("born" : Str), "taken"]) from inV_strs _ ["born", "taken"]]
      cases t <;> decide +kernel
    have hwd : (Fact.life t n dd ps).words false 1 = [if t then ("taken" : Str) else "born", n, numS dd] ++ (if ps = [] then [] else ("of" : Str) :: ps) := rfl
    rw [hwd] at q
    clear flat
    generalize (if t then ("taken" : Str) else "born") = tg at *
    unfold t_fact_text
    walk_at "w"
    refine st_ix_tup hp rfl ?_
    walk_at "w"
    refine ⟨show 2 ≤ sizeLine by decide, fun j hj => ?_⟩
    refine st_in_tup (.inl (.inl upd_same)) rfl rfl ?_
    rw [hin]
    have s1 : Same H (upd H j (.tup [V.str "born", V.str "taken"])) := same_new hj
    generalize upd H j (.tup [V.str "born", V.str "taken"]) = H1 at *
    have hp1 := same_sqT s1 hp
    walk_at "w"
    refine st_ix_tup hp1 rfl ?_
    walk_at "w"
    refine st_ix_tup hp1 rfl ?_
    walk_at "w"
    refine st_ix_tup hp1 rfl ?_
    walk_at "w"
    refine st_num (by omega) ?_
    walk_at "w"
    refine ⟨show 3 ≤ sizeLine by decide, fun f hf => ?_⟩
    have s2 : Same H1 (upd H1 f (.lst [V.str tg, V.str n, V.str (numS dd)])) := same_new hf
    have hf2 : upd H1 f (.lst [V.str tg, V.str n, V.str (numS dd)]) f = some (.lst [V.str tg, V.str n, V.str (numS dd)]) := upd_same
    generalize upd H1 f (.lst [V.str tg, V.str n, V.str (numS dd)]) = H2 at *
    have hp2 := same_sqT s2 hp1
    walk_at "w"
    refine st_ix_tup hp2 rfl ?_
    walk_at "w"
    refine ⟨Nat.zero_le _, fun e he => ?_⟩
    have s3 : Same H2 (upd H2 e (.tup [])) := same_new he
    refine st_neD (d3.same ((s1.trans s2).trans s3)) (dpw (xs := []) upd_same .nil) (shaped_tups fun z hz => isName_ok (hps z hz)) (by rfl) ?_
    rw [eqv_nilT, List.isEmpty_map]
    have hf3 := s3 _ _ hf2
    have hp3 := same_sqT s3 hp2
    have s4 := (s1.trans s2).trans s3
    generalize upd H2 e (.tup []) = H3 at *
    by_cases hp0 : ps = []
    · subst hp0
      rw [show (([] : List Str).isEmpty) = true from rfl]
      walk_at "w"
      rw [if_pos rfl, List.append_nil] at q
      exact text_end T (zs := [tg, n, numS dd]) (SqL.of hf3) l0 (show 3 ≤ 100 by decide) (q _ s4)
    · rw [show ps.isEmpty = false by cases ps; exact absurd rfl hp0; rfl]
      rw [if_neg hp0] at q
      walk_at "w"
      refine ⟨show 1 ≤ sizeLine by decide, fun g hg => ?_⟩
      have s5 : Same H3 (upd H3 g (.lst [V.str "of"])) := same_new hg
      refine st_add_list (s5 _ _ hf3) upd_same (show 4 ≤ 1000000 by decide) fun u hu => ?_
      have s6 := s5.trans (same_new (o := .lst ([V.str tg, V.str n, V.str (numS dd)] ++ [V.str "of"])) hu)
      have hu6 : upd (upd H3 g (.lst [V.str "of"])) u (.lst ([V.str tg, V.str n, V.str (numS dd)] ++ [V.str "of"])) u = some (.lst ([V.str tg, V.str n, V.str (numS dd)] ++ [V.str "of"])) := upd_same
      generalize upd (upd H3 g (.lst [V.str "of"])) u (.lst ([V.str tg, V.str n, V.str (numS dd)] ++ [V.str "of"])) = H6 at *
      walk_at "w"
      refine st_ix_tup (same_sqT s6 hp3) rfl ?_
      walk_at "w"
      obtain ⟨pp, ys, rfl, hpp, es⟩ := (d3.same (s4.trans s6)).tup_inv
      rw [es.strs_inv] at hpp
      refine ⟨pp, ps.map V.str, rfl, .inr hpp, fun l hl => ?_⟩
      have s7 : Same H6 (upd H6 l (.lst (ps.map V.str))) := same_new hl
      refine st_add_list (s7 _ _ hu6) upd_same (by rw [List.length_map]; show 4 + ps.length ≤ _; omega) fun v hv => ?_
      walk_at "w"
      refine text_end T (zs := [tg, n, numS dd] ++ ("of" : Str) :: ps) (SqL.of (by rw [upd_same, List.map_append]; rfl)) (fun y hy => ?_) (by simp; omega) (q _ (((s4.trans s6).trans s7).trans (same_new hv)))
      rcases List.mem_append.mp hy with hy | hy
      · exact l0 y hy
      · rcases List.mem_cons.mp hy with rfl | hy
        · decide +kernel
        · have := isName_len (hps y hy); omega
  | word n k wh =>
    clear flat
    obtain ⟨hn, hk1, hk2, ok⟩ := ok
    obtain ⟨p, xs, rfl, hp, ds⟩ := d.tup_inv
    obtain ⟨v0, _, rfl, d0, ds1⟩ := ds.cons_inv
    obtain ⟨v1, _, rfl, d1, ds2⟩ := ds1.cons_inv
    obtain ⟨v2, _, rfl, d2, ds3⟩ := ds2.cons_inv
    obtain ⟨v3, _, rfl, d3, ds4⟩ := ds3.cons_inv
    rw [ds4.nil_inv, d0.str_inv, d1.str_inv, d2.int_inv] at hp
    unfold t_fact_text
    walk_at "w"
    refine st_ix_tup hp rfl ?_
    walk_at "w"
    refine ⟨show 2 ≤ sizeLine by decide, fun j hj => ?_⟩
    refine st_in_tup (.inl (.inl upd_same)) rfl rfl ?_
    rw [show inV (.str "word") [.str "born", .str "taken"] = false from (inV_strs "word" ["born", "taken"]).trans (by decide +kernel)]
    have s1 : Same H (upd H j (.tup [V.str "born", V.str "taken"])) := same_new hj
    generalize upd H j (.tup [V.str "born", V.str "taken"]) = H1 at *
    have hp1 := same_sqT s1 hp
    walk_at "w"
    refine st_ix_tup hp1 rfl ?_
    walk_at "w"
    rw [decide_eq_true rfl]
    walk_at "w"
    refine st_ix_tup hp1 rfl ?_
    walk_at "w"
    refine st_ix_tup hp1 rfl ?_
    walk_at "w"
    refine st_num (by omega) ?_
    walk_at "w"
    refine ⟨show 3 ≤ sizeLine by decide, fun f hf => ?_⟩
    have s2 : Same H1 (upd H1 f (.lst [V.str "word", V.str n, V.str (numS k)])) := same_new hf
    have hf2 : upd H1 f (.lst [V.str "word", V.str n, V.str (numS k)]) f = some (.lst [V.str "word", V.str n, V.str (numS k)]) := upd_same
    generalize upd H1 f (.lst [V.str "word", V.str n, V.str (numS k)]) = H2 at *
    walk_at "w"
    refine st_ix_tup (same_sqT s2 hp1) rfl ?_
    walk_at "w"
    refine ⟨_, rfl, wh, d3.same (s1.trans s2), ok, fun g H3 s3 hg => ?_⟩
    obtain ⟨tl, tn⟩ := texts_len ok
    refine st_add_list (s3 _ _ hf2) hg (by rw [List.length_map]; show 3 + _ ≤ _; omega) fun u hu => ?_
    walk_at "w"
    refine text_end T (zs := [("word" : Str), n, numS k] ++ wh.texts) (SqL.of (by rw [upd_same, List.map_append]; rfl)) (fun y hy => ?_) (by simp; omega) ?_
    · rcases List.mem_append.mp hy with hy | hy
      · have l1 := numS_len (n := k) (k := 20) (by decide) (by omega)
        have l2 := isName_len hn
        simp only [List.mem_cons, List.not_mem_nil, or_false] at hy
        rcases hy with rfl | rfl | rfl
        · decide +kernel
        · omega
        · omega
      · exact tl y hy
    · rw [texts_join]
      exact q _ (((s1.trans s2).trans s3).trans (same_new hu))
  | two t a b dd =>
    obtain ⟨ds, F⟩ := flat_of ok (show 5 ≤ 5 by decide) (fun _ _ _ h => by cases h)
    exact flat ds F
  | died n dd =>
    obtain ⟨ds, F⟩ := flat_of ok (show 4 ≤ 5 by decide) (fun _ _ _ h => by cases h)
    exact flat ds F
  | owns n dd =>
    obtain ⟨ds, F⟩ := flat_of ok (show 3 ≤ 5 by decide) (fun _ _ _ h => by cases h)
    exact flat ds F
  | gave a b s dd =>
    obtain ⟨ds, F⟩ := flat_of ok (show 2 ≤ 5 by decide) (fun _ _ _ h => by cases h)
    exact flat ds F
  | owes a b s dd =>
    obtain ⟨ds, F⟩ := flat_of ok (show 1 ≤ 5 by decide) (fun _ _ _ h => by cases h)
    exact flat ds F
  | unfit a b =>
    obtain ⟨ds, F⟩ := flat_of ok (show 0 ≤ 5 by decide) (fun _ _ _ h => by cases h)
    exact flat ds F
theorem ok_fact_text (T : Txt K mg) (c_word_words : Kp P w K mg base CX0 2 "word_words" ["what"] (sp_word_words K)) : Kp P w K mg base CX0 3 "fact_text" ["fact"] (sp_fact_text K) := by
  obtain ⟨fd, F⟩ := T.c.def_ 28 (d := d_fact_text) rfl
  refine ⟨⟨_, fd, T.g_fact_text, F.kp, F.bindsN fun _ _ _ _ _ _ us hl => match us, hl with | [_], _ => rfl, F.ok sc_fact_text Sp1.len (fun cdv A outer s H vs Q E hr h => ?_)⟩⟩
  obtain ⟨v0, rfl, h⟩ := h
  refine ⟨t_fact_text K, PSs.nox (?_), pure_fact_text T h⟩
  exact (pss_cons (ps_if (pt_cmpR (op_inA hr) (pe_ixA hr (pv 0) pe_int (fun _ _ => rfl)) (pe_tup (pa_cons pe_str (pa_cons pe_str pa_nil))) (by rfl)) (pss_cons (ps_set (i := 1) sc_fact_text.nd rfl (by first | exact Or.inl rfl | exact Or.inr rfl) (pe_lst (pa_cons (pe_ixA hr (pv 0) pe_int (fun _ _ => rfl)) (pa_cons (pe_ixA hr (pv 0) pe_int (fun _ _ => rfl)) (pa_cons (pe_callTy call_strB (by rfl) T.n_str (by decide +kernel) (pa_cons (pe_ixA hr (pv 0) pe_int (fun _ _ => rfl)) pa_nil)) pa_nil)))))
      (pss_one (ps_if (pt_cmpR (op_neA hr) (pe_ixA hr (pv 0) pe_int (fun _ _ => rfl)) (pe_tup pa_nil) (nomark _)) (pss_one (ps_set (i := 1) sc_fact_text.nd rfl (by first | exact Or.inl rfl | exact Or.inr rfl) (pe_op op_addA (pe_op op_addA (pv 1) (pe_lst (pa_cons pe_str pa_nil))) (pe_callTy call_list_of (by rfl) T.n_list (by decide +kernel) (pa_cons (pe_ixA hr (pv 0) pe_int (fun _ _ => rfl)) pa_nil))))) pss_nil))) (pss_one (ps_if (pt_cmpR (op_eqA hr) (pe_ixA hr (pv 0) pe_int (fun _ _ => rfl)) pe_str (nomark _)) (pss_one (ps_set (i := 1) sc_fact_text.nd rfl (by first | exact Or.inl rfl | exact Or.inr rfl) (pe_op op_addA (pe_lst (pa_cons pe_str (pa_cons (pe_ixA hr (pv 0) pe_int (fun _ _ => rfl)) (pa_cons (pe_callTy call_strB (by rfl) T.n_str (by decide +kernel) (pa_cons (pe_ixA hr (pv 0) pe_int (fun _ _ => rfl)) pa_nil)) pa_nil)))) (pe_cK c_word_words (hr.mono (by decide)) rfl (pa_cons (pe_ixA hr (pv 0) pe_int (fun _ _ => rfl)) pa_nil))))) (pss_one (ps_setLc (i := 1) (own := [("part", 2)]) (g := (gName 2)) rfl sc_fact_text.nd rfl rfl (sw_true rfl rfl rfl (by decide +kernel)) (pi_A (pv 0)) (blkOk_by (own := [("part", 2)]) (N := N_fact_text) (sc := defScope s_fact_text) (by decide +kernel)) (fun _ _ _ _ _ => (pg_name (i := 2) sc_fact_text.nd rfl (by first | exact Or.inl rfl | exact Or.inr rfl))) (fun _ _ _ _ _ => pts_nil) (fun _ _ _ _ _ => (pe_callTy call_strB (by rfl) T.n_str (by decide +kernel) (pa_cons (pv 2) pa_nil))))))))
      (pss_one (ps_ret (pe_join pe_str (pv 1)))))
end
end K02
set_option Elab.async false
set_option linter.all false
set_option maxRecDepth 100000
set_option maxHeartbeats 4000000
namespace K02
open PySem PySem.Spec PyProof.Rows L2 My
section
variable {P : Program} {w : World} {K : PySem.W.Frag} {mg : Str → Option Value} {base : Heap}
/-! ### written_facts -/
def ftext (f : Fact) : Str := Str.join " " (f.words false 1)
def pr_written (K : PySem.W.Frag) : V → Hp → VK → XK → Prop := fun x H Q _ => ∃ (p : Addr) (vs : List V) (fs : List Fact), x = .ref p ∧ SqL K H p vs ∧ DpAll K H vs (fs.map Fact.data) ∧ (∀ f ∈ fs, f.Ok) ∧ fs.length ≤ 200 ∧ ∀ H', Same H H' → Q (.str (Str.join "\n" (fs.map ftext))) H'
def sp_written_facts (K : PySem.W.Frag) : Sp := Sp1 (pr_written K)
def t_written_facts (K : PySem.W.Frag) : TS :=
  (tRet (tM1 (rJoinA K) (tC (.str "\n")) (tLc (iA K (tVar 0)) (gName 1) tYes (tCall (sp_fact_text K) [] E0 (tCons (tVar 1) tNil)) [1])))
theorem ftext_len {f : Fact} (ok : f.Ok) : (ftext f).length ≤ 260 := by
  have h1 := join_len " " (ys := f.words false 1) (B := 12) fun y hy => by
    have := (words_wd ok (fits_one ok) y hy).ne.2
    rw [tl_len] at this
    exact this
  have h2 := (words_len ok false 1).1
  have h3 : (" " : Str).length = 1 := by decide +kernel
  rw [h3] at h1
  unfold ftext
  omega
theorem pure_written_facts (T : Txt K mg) {x : V} {H : Hp} {Q : VK} {E : XK} (h : pr_written K x H Q E) : t_written_facts K { nx := fun _ H' => Q .non H', rt := Q } [some x, none] H := by
  obtain ⟨p, vs, fs, rfl, hp, d, ok, hl, q⟩ := h
  have hvl : vs.length = fs.length := by rw [d.len, List.length_map]
  unfold t_written_facts
  walk_at "w"
  refine .inl ⟨p, rfl, ⟨_, hp⟩, fun D hD => ?_⟩
  refine lcv (walk_list (xs := vs)) hD fs hvl (by omega) (fun H' s => s.seq hp) (fun _ => true) (fun f => .str (ftext f)) ?_ ?_
  · rintro i f y H6 H7 hi s6 ⟨rfl, hy⟩ k1 k2 hk1 hk2
    obtain ⟨v, hv, dv⟩ := d.at (i := i) (d := f.data) (by rw [List.getElem?_map, hi]; rfl)
    rw [hy] at hv
    cases hv
    walk_at "w"
    refine ⟨rfl, ?_⟩
    walk_at "w"
    exact ⟨_, rfl, f, dv.same s6, ok f (List.mem_of_getElem? hi), fun H' s => hk1 rfl _ s⟩
  · intro H6 s6 h6
    rw [filter_yes] at h6
    refine ⟨"\n", D, fs.map ftext, rfl, rfl, .inl (SqL.of (by rw [h6, List.map_map]; rfl)), ?_, ?_⟩
    · have h1 := sum_len (ys := fs.map ftext) (B := 260) fun y hy => by
        obtain ⟨f, hf, rfl⟩ := List.mem_map.mp hy
        exact ftext_len (ok f hf)
      have h2 : ("\n" : Str).length = 1 := by decide +kernel
      rw [h2]
      rw [List.length_map] at h1 ⊢
      omega
    · rw [TL.join_eq]
      exact q _ s6
theorem ok_written_facts (T : Txt K mg) (c_fact_text : Kp P w K mg base CX0 3 "fact_text" ["fact"] (sp_fact_text K)) : Kp P w K mg base CX0 4 "written_facts" ["facts"] (sp_written_facts K) := by
  obtain ⟨fd, F⟩ := T.c.def_ 29 (d := d_written_facts) rfl
  refine ⟨⟨_, fd, T.g_written_facts, F.kp, F.bindsN fun _ _ _ _ _ _ us hl => match us, hl with | [_], _ => rfl, F.ok sc_written_facts Sp1.len (fun cdv A outer s H vs Q E hr h => ?_)⟩⟩
  obtain ⟨v0, rfl, h⟩ := h
  refine ⟨t_written_facts K, PSs.nox (?_), pure_written_facts T h⟩
  exact (pss_one (ps_ret (pe_join pe_str (pe_lc (own := [("fact", 1)]) (g := (gName 1)) rfl sc_written_facts.nd (pi_A (pv 0)) (blkOk_by (own := [("fact", 1)]) (N := N_written_facts) (sc := defScope s_written_facts) (by decide +kernel)) (fun _ _ _ _ _ => (pg_name (i := 1) sc_written_facts.nd rfl (by first | exact Or.inl rfl | exact Or.inr rfl))) (fun _ _ _ _ _ => pts_nil) (fun _ _ _ _ _ => (pe_cK c_fact_text (hr.mono (by decide)) rfl (pa_cons (pv 1) pa_nil)))))))
/-! ### _law_next -/
def sp__law_next (K : PySem.W.Frag) : Sp := Sp2 (pr_next K)
def t__law_next (K : PySem.W.Frag) : TS :=
  (tSeq (sDPut (tVar 0) (tC (.str "at")) (tOp (rAddA K) (tIxA K (tVar 0) (tC (.str "at"))) (tC (.int 1))))
  (tSeq (tAsg (tIxA K (tVar 0) (tC (.str "at"))) (gName 2))
  (tSeq (tAsg (tIxA K (tVar 0) (tC (.str "cells"))) (gName 3))
  (tSeq (tAsg (tIf (tTest (tOp (rNeA K) (tVar 3) (tLst tNil))) (tIxA K (tVar 3) (tOp rModA (tVar 2) (tCB (rLenA K) (tCons (tVar 3) tNil)))) (tC (.int 0))) (gName 4))
  (tSeq (tAsg (tOp rModA (tOp (rAddA K) (tOp (rAddA K) (tOp rMulA (tOp rModA (tVar 4) (tC (.int 2147483629))) (tC (.int 48271))) (tOp rMulA (tOp rMulA (tC (.int 69621)) (tVar 2)) (tVar 2))) (tC (.int 104729))) (tC (.int 2147483647))) (gName 5))
  (tRet (tOp rModA (tOp rDivA (tOp rModA (tOp rMulA (tVar 5) (tOp (rAddA K) (tC (.int 16807)) (tOp rMulA (tC (.int 2)) (tVar 2)))) (tC (.int 2147483629))) (tC (.int 7))) (tVar 1))))))))
theorem pure__law_next (T : Txt K mg) {x y : V} {H : Hp} {Q : VK} {E : XK} (h : pr_next K x y H Q E) : t__law_next K { nx := fun _ H' => Q .non H', rt := Q } [some x, some y, none, none, none, none] H := by
  obtain ⟨st, ns, m, many, rfl, rfl, hm, hn, ⟨a, k, hst, hcells, hne, k0, km⟩, hb, q⟩ := h
  unfold t__law_next
  walk_at "w"
  refine st_ix_dict (DGet.k (k := Sum.inr "at") hst) ?_
  walk_at "w"
  refine ⟨st, _, rfl, DPut.k (k := Sum.inr "at") hst (show 2 < sizeLine by decide), ?_⟩
  rw [stK_put]
  have hst1 : upd H st (.dK (stK a (k + 1))) st = some (.dK (stK a (k + 1))) := upd_same
  have sb : SB st H (upd H st (.dK (stK a (k + 1)))) := fun b o n e => by rw [upd_ne n]; exact e
  have hcells1 := sb.sqL hne hcells
  generalize upd H st (.dK (stK a (k + 1))) = H1 at *
  have e1 := DGet.k (k := Sum.inr "at") hst1
  rw [stK_at] at e1
  have e2 := DGet.k (k := Sum.inr "cells") hst1
  rw [stK_cells] at e2
  walk_at "w"
  refine st_ix_dict e1 ?_
  walk_at "w"
  refine st_ix_dict e2 ?_
  walk_at "w"
  refine ⟨Nat.zero_le _, fun p hp => ?_⟩
  have s2 : Same H1 (upd H1 p (.lst [])) := same_new hp
  refine st_neD (Dp.ints (s2.seq hcells1)) (Dp.ints (ns := []) (SqL.of upd_same)) (shaped_ints _) (shaped_ints []) ?_
  walk_at "w"
  have hst2 := s2 _ _ hst1
  have hcells2 := s2.seq hcells1
  have sb2 := sb.trans (Same.sb s2)
  generalize upd H1 p (.lst []) = H2 at *
  have hadv : Adv K st ns (m + 1) H H2 := ⟨sb2, ⟨a, k + 1, hst2, hcells2, hne, by omega, by omega⟩, fun b j e => by
    rw [hst] at e
    injection e with e
    injection e with e
    exact ⟨k + 1, by rw [← stK_inj e]; exact hst2⟩⟩
  refine ite2 (fun h1 => ?_) (fun h1 => ?_)
  · have hlen : 0 < ns.length := by
      cases ns with
      | nil => exact absurd h1 (by decide)
      | cons => simp
    walk_at "w"
    refine st_len_list hcells2 ?_
    walk_at "w"
    rw [List.length_map]
    refine st_modG (by omega) fun r r0 r1 => ?_
    refine st_ixI hcells2 r0 r1 fun c => ?_
    walk_at "w"
    refine st_modG (by decide) fun r2 r20 r21 => ?_
    walk_at "w"
    refine st_mulG (a := 31) (b := 16) (nb (by omega) (by omega)) (by decide) (by decide) (by decide) (by decide) fun r3 p3 b3 => ?_
    walk_at "w"
    refine st_mulG (a := 17) (b := 40) (by decide) (nb (by omega) (by omega)) (by decide) (by decide) (by decide) fun r4 p4 b4 => ?_
    walk_at "w"
    refine st_mulG (a := 57) (b := 40) b4 (nb (by omega) (by omega)) (by decide) (by decide) (by decide) fun r5 p5 b5 => ?_
    walk_at "w"
    refine st_modG (by decide) fun r6 r60 r61 => ?_
    walk_at "w"
    refine st_mulG (a := 2) (b := 40) (by decide) (nb (by omega) (by omega)) (by decide) (by decide) (by decide) fun r7 p7 b7 => ?_
    walk_at "w"
    have p7 := p7 (by decide) (by omega)
    refine st_mulG (a := 31) (b := 43) (nb (by omega) (by omega)) (nb (by omega) (by omega)) (by decide) (by decide) (by decide) fun r8 p8 b8 => ?_
    refine st_modG (by decide) fun r9 r90 r91 => ?_
    walk_at "w"
    refine st_divG r90 (by decide) (b := 3) (by decide) (by decide) (by decide) fun r10 r100 r101 => ?_
    walk_at "w"
    refine st_modG hm fun r11 r110 r111 => ?_
    walk_at "w"
    exact q _ _ r110 r111 hadv
  · walk_at "w"
    generalize (0 : Int) = c
    walk_at "w"
    refine st_modG (by decide) fun r2 r20 r21 => ?_
    walk_at "w"
    refine st_mulG (a := 31) (b := 16) (nb (by omega) (by omega)) (by decide) (by decide) (by decide) (by decide) fun r3 p3 b3 => ?_
    walk_at "w"
    refine st_mulG (a := 17) (b := 40) (by decide) (nb (by omega) (by omega)) (by decide) (by decide) (by decide) fun r4 p4 b4 => ?_
    walk_at "w"
    refine st_mulG (a := 57) (b := 40) b4 (nb (by omega) (by omega)) (by decide) (by decide) (by decide) fun r5 p5 b5 => ?_
    walk_at "w"
    refine st_modG (by decide) fun r6 r60 r61 => ?_
    walk_at "w"
    refine st_mulG (a := 2) (b := 40) (by decide) (nb (by omega) (by omega)) (by decide) (by decide) (by decide) fun r7 p7 b7 => ?_
    walk_at "w"
    have p7 := p7 (by decide) (by omega)
    refine st_mulG (a := 31) (b := 43) (nb (by omega) (by omega)) (nb (by omega) (by omega)) (by decide) (by decide) (by decide) fun r8 p8 b8 => ?_
    refine st_modG (by decide) fun r9 r90 r91 => ?_
    walk_at "w"
    refine st_divG r90 (by decide) (b := 3) (by decide) (by decide) (by decide) fun r10 r100 r101 => ?_
    walk_at "w"
    refine st_modG hm fun r11 r110 r111 => ?_
    walk_at "w"
    exact q _ _ r110 r111 hadv
theorem ok__law_next (T : Txt K mg)  : Kp P w K mg base CX0 1 "_law_next" ["_law_state", "_law_many"] (sp__law_next K) := by
  obtain ⟨fd, F⟩ := T.c.def_ 30 (d := d__law_next) rfl
  refine ⟨⟨_, fd, T.g__law_next, F.kp, F.bindsN fun _ _ _ _ _ _ us hl => match us, hl with | [_, _], _ => rfl, F.ok sc__law_next Sp2.len (fun cdv A outer s H vs Q E hr h => ?_)⟩⟩
  obtain ⟨v0, v1, rfl, h⟩ := h
  refine ⟨t__law_next K, PSs.nox (?_), pure__law_next T h⟩
  exact (pss_cons (ps_dput (hu_of hr) (pv 0) pe_str (pe_op op_addA (pe_ixA hr (pv 0) pe_str (fun _ _ => rfl)) pe_int) rfl)
      (pss_cons (ps_set (i := 2) sc__law_next.nd rfl (by first | exact Or.inl rfl | exact Or.inr rfl) (pe_ixA hr (pv 0) pe_str (fun _ _ => rfl)))
      (pss_cons (ps_set (i := 3) sc__law_next.nd rfl (by first | exact Or.inl rfl | exact Or.inr rfl) (pe_ixA hr (pv 0) pe_str (fun _ _ => rfl)))
      (pss_cons (ps_set (i := 4) sc__law_next.nd rfl (by first | exact Or.inl rfl | exact Or.inr rfl) (pe_ifExp (pt_cmpR (op_neA hr) (pv 3) (pe_lst pa_nil) (nomark _)) (pe_ixA hr (pv 3) (pe_op op_modA (pv 2) (pe_callB call_len (by rfl) T.n_len (by decide +kernel) (pa_cons (pv 3) pa_nil))) (fun _ _ => rfl)) pe_int))
      (pss_cons (ps_set (i := 5) sc__law_next.nd rfl (by first | exact Or.inl rfl | exact Or.inr rfl) (pe_op op_modA (pe_op op_addA (pe_op op_addA (pe_op op_mulA (pe_op op_modA (pv 4) pe_int) pe_int) (pe_op op_mulA (pe_op op_mulA pe_int (pv 2)) (pv 2))) pe_int) pe_int))
      (pss_one (ps_ret (pe_op op_modA (pe_op op_fdivA (pe_op op_modA (pe_op op_mulA (pv 5) (pe_op op_addA pe_int (pe_op op_mulA pe_int (pv 2)))) pe_int) pe_int) (pv 1)))))))))
/-! ### _law_alike -/
def SqA (K : PySem.W.Frag) (H : Hp) (a : Addr) (xs : List V) : Prop := SqL K H a xs ∨ SqT K H a xs
theorem SqA.same {H H' : Hp} {a : Addr} {xs : List V} (s : Same H H') (h : SqA K H a xs) : SqA K H' a xs := h.elim (fun h => .inl (s.seq h)) (fun h => .inr (same_sqT s h))
theorem st_lenA {H : Hp} {Q : VK} {a : Addr} {xs : List V} (h : SqA K H a xs) (q : Q (.int (xs.length : Int)) H) : rLenA K [.ref a] H Q := h.elim (fun h => st_len_list h q) (fun h => st_len_tup h q)
theorem st_ixA {H : Hp} {Q : VK} {a : Addr} {xs : List V} {i : Int} {v : V} (h : SqA K H a xs) (e : atI xs i = some v) (q : Q v H) : rIxA K (.ref a) (.int i) H Q := h.elim (fun h => st_ix_list h e q) (fun h => st_ix_tup h e q)
mutual
def alOk : PyData → Bool
  | .none => true
  | .int _ => true
  | .str _ => true
  | .list ds => decide (ds.length ≤ 1000) && alOks ds
  | .tuple ds => decide (ds.length ≤ 1000) && alOks ds
  | _ => false
def alOks : List PyData → Bool
  | [] => true
  | d :: r => alOk d && alOks r
end
theorem alOks_at : ∀ {ds : List PyData} {i : Nat} {d : PyData}, alOks ds = true → ds[i]? = some d → alOk d = true ∧ d.depth ≤ PyData.depthAll ds
  | [], _, _, _, e => by simp at e
  | c :: r, 0, d, h, e => by
    simp at e
    subst e
    exact ⟨(Bool.and_eq_true_iff.mp h).1, Nat.le_max_left _ _⟩
  | c :: r, i + 1, d, h, e => by
    have := alOks_at (ds := r) (i := i) (d := d) (Bool.and_eq_true_iff.mp h).2 (by simpa using e)
    exact ⟨this.1, Nat.le_trans this.2 (Nat.le_max_right _ _)⟩
def pr_alike (K : PySem.W.Frag) : Nat → V → V → Hp → VK → XK → Prop
  | 0 => fun _ _ _ _ _ => False
  | n + 1 => fun x y H Q _ => ∃ d, Dp K H x d ∧ Dp K H y d ∧ d.depth ≤ n ∧ alOk d = true ∧ ∀ H', Same H H' → Q (.bl true) H'
def sp__law_alike (K : PySem.W.Frag) (n : Nat) : Sp := Sp2 (pr_alike K n)
def t__law_alike (K : PySem.W.Frag) (n : Nat) : TS :=
  (tSeq (tIfS (tB (tCB (rIsA K) (tCons (tVar 1) (tCons (tTup (tCons (tC (.ty "list")) (tCons (tC (.ty "tuple")) tNil))) tNil)))) (tSeq (tIfS (tOr (tTest (tOp (rNeA K) (tCB (rIsA K) (tCons (tVar 0) (tCons (tC (.ty "list")) tNil))) (tCB (rIsA K) (tCons (tVar 1) (tCons (tC (.ty "list")) tNil))))) (tTest (tOp (rNeA K) (tCB (rIsA K) (tCons (tVar 0) (tCons (tC (.ty "tuple")) tNil))) (tCB (rIsA K) (tCons (tVar 1) (tCons (tC (.ty "tuple")) tNil)))))) (tRet (tC (.bl false))) tNext)
  (tRet (tAndV (tOp (rEqA K) (tCB (rLenA K) (tCons (tVar 0) tNil)) (tCB (rLenA K) (tCons (tVar 1) tNil))) (tCB (rAll K) (tCons (tLc (iRng1 (tCons (tCB (rLenA K) (tCons (tVar 1) tNil)) tNil)) (gName 2) tYes (tCall (sp__law_alike K n) [] E0 (tCons (tIxA K (tVar 0) (tVar 2)) (tCons (tIxA K (tVar 1) (tVar 2)) tNil))) [2]) tNil))))) tNext)
  (tSeq (tIfS (tOr (tTest (tOp (rNeA K) (tCB (rIsA K) (tCons (tVar 0) (tCons (tC (.ty "bool")) tNil))) (tCB (rIsA K) (tCons (tVar 1) (tCons (tC (.ty "bool")) tNil))))) (tTest (tOp (rNeA K) (tCB (rIsA K) (tCons (tVar 0) (tCons (tC (.ty "str")) tNil))) (tCB (rIsA K) (tCons (tVar 1) (tCons (tC (.ty "str")) tNil)))))) (tRet (tC (.bl false))) tNext)
  (tRet (tOp (rEqA K) (tVar 0) (tVar 1)))))
theorem st_tt {H : Hp} {Q : VK} {x : V} {p : Addr} {t : Value} {b : Bool} (hp : H p = some (.tup [.ty "list", .ty "tuple"])) (h : TyX K H x t) (e : PySem.W.kitAny K t [.type "list", .type "tuple"] = some b) (q : Q (.bl b) H) : rIsA K [x, .ref p] H Q :=
  .inr (.inl ⟨x, p, _, t, _, b, rfl, hp, .cons (.ty _) (.cons (.ty _) .nil), h, e, q⟩)
theorem any_y1 : PySem.W.kitAny K (.type "list") [.type "list", .type "tuple"] = some true := kitAny_cons (b := true) (kit_ty (by decide +kernel)) (fun h => by cases h) (fun _ => rfl)
theorem any_y2 : PySem.W.kitAny K (.type "tuple") [.type "list", .type "tuple"] = some true := kitAny_cons (b := false) (kit_ty (by decide +kernel)) (fun _ => kitAny_cons (b := true) (kit_ty (by decide +kernel)) (fun h => by cases h) (fun _ => rfl)) (fun h => by cases h)
theorem any_n {a : String} (h1 : PySem.W.kitOne K (.type a) (.type "list") = some false) (h2 : PySem.W.kitOne K (.type a) (.type "tuple") = some false) : PySem.W.kitAny K (.type a) [.type "list", .type "tuple"] = some false := kitAny_cons (b := false) h1 (fun _ => kitAny_cons (b := false) h2 (fun _ => kitAny_nil) (fun h => by cases h)) (fun h => by cases h)
theorem alike_leaf (T : Txt K mg) {n : Nat} {x : V} {a : String} {H : Hp} {Q : VK} (hx : TyX K H x (.type a)) (h1 : PySem.W.kitOne K (.type a) (.type "list") = some false) (h2 : PySem.W.kitOne K (.type a) (.type "tuple") = some false) {b1 b2 : Bool}
    (h3 : PySem.W.kitOne K (.type a) (.type "bool") = some b1) (h4 : PySem.W.kitOne K (.type a) (.type "str") = some b2) (sc : scal x x = true) (q : ∀ H', Same H H' → Q (.bl true) H') : t__law_alike K n { nx := fun _ H' => Q .non H', rt := Q } [some x, some x, none] H := by
  unfold t__law_alike
  walk_at "w"
  refine ⟨show 2 ≤ sizeLine by decide, fun p hp => ?_⟩
  have s1 : Same H (upd H p (.tup [V.ty "list", V.ty "tuple"])) := same_new hp
  have hx1 : ∀ H', Same H H' → TyX K H' x (.type a) := fun H' s => by
    cases hx with
    | base h =>
      cases h with
      | non => exact tx_non
      | bl => exact tx_bl
      | int => exact tx_int
      | str => exact tx_str
      | flt => exact .base (.flt _)
      | lst => cases sc
      | frz => cases sc
      | tup => cases sc
      | dK => cases sc
      | dT => cases sc
    | byt => exact .byt _
    | set => cases sc
    | kList => cases sc
    | kTuple => cases sc
    | kDict => cases sc
    | fTuple => cases sc
    | fDict => cases sc
  refine st_tt upd_same (hx1 _ s1) (any_n h1 h2) ?_
  have hx2 := hx1 _ s1
  generalize upd H p (.tup [V.ty "list", V.ty "tuple"]) = H1 at *
  walk_at "w"
  refine st_isi (.ty _) hx2 h3 ?_
  walk_at "w"
  refine st_isi (.ty _) hx2 h3 ?_
  refine st_ne rfl ?_
  rw [decide_eq_true rfl]
  walk_at "w"
  refine st_isi (.ty _) hx2 h4 ?_
  walk_at "w"
  refine st_isi (.ty _) hx2 h4 ?_
  refine st_ne rfl ?_
  rw [decide_eq_true rfl]
  walk_at "w"
  refine st_eq sc ?_
  rw [decide_eq_true rfl]
  exact q _ s1
theorem alike_seq (T : Txt K mg) {n : Nat} {a b : Addr} {c : String} {xs ys : List V} {ds : List PyData} {H : Hp} {Q : VK} (hc : PySem.W.kitAny K (.type c) [.type "list", .type "tuple"] = some true) (hx : ∀ H', Same H H' → TyX K H' (.ref a) (.type c)) (hy : ∀ H', Same H H' → TyX K H' (.ref b) (.type c)) {b1 b2 : Bool}
    (h1 : PySem.W.kitOne K (.type c) (.type "list") = some b1) (h2 : PySem.W.kitOne K (.type c) (.type "tuple") = some b2) (sx : SqA K H a xs) (sy : SqA K H b ys) (dx : DpAll K H xs ds) (dy : DpAll K H ys ds) (hz : ds.length ≤ 1000000) (hd : PyData.depthAll ds + 1 ≤ n) (ok : alOks ds = true) (q : ∀ H', Same H H' → Q (.bl true) H') :
    t__law_alike K n { nx := fun _ H' => Q .non H', rt := Q } [some (.ref a), some (.ref b), none] H := by
  cases n with
  | zero => omega
  | succ n =>
  unfold t__law_alike
  walk_at "w"
  refine ⟨show 2 ≤ sizeLine by decide, fun p hp => ?_⟩
  have s1 : Same H (upd H p (.tup [V.ty "list", V.ty "tuple"])) := same_new hp
  refine st_tt upd_same (hy _ s1) hc ?_
  generalize upd H p (.tup [V.ty "list", V.ty "tuple"]) = H1 at *
  have sx1 := sx.same s1
  have sy1 := sy.same s1
  walk_at "w"
  refine st_isi (.ty _) (hx _ s1) h1 ?_
  walk_at "w"
  refine st_isi (.ty _) (hy _ s1) h1 ?_
  refine st_ne rfl ?_
  rw [decide_eq_true rfl]
  walk_at "w"
  refine st_isi (.ty _) (hx _ s1) h2 ?_
  walk_at "w"
  refine st_isi (.ty _) (hy _ s1) h2 ?_
  refine st_ne rfl ?_
  rw [decide_eq_true rfl]
  walk_at "w"
  refine st_lenA sx1 ?_
  walk_at "w"
  refine st_lenA sy1 ?_
  walk_at "w"
  rw [decide_eq_true (by rw [dx.len, dy.len])]
  walk_at "w"
  refine st_lenA sy1 ?_
  have hyl := dy.len
  have hn : ((ys.length : Nat) : Int).toNat = ds.length := by rw [hyl]; rfl
  refine ⟨_, rfl, by omega, by omega, ?_⟩
  intro D hD
  refine lcv (walk_range (lo := 0) (n := ((ys.length : Nat) : Int).toNat)) hD (List.range ds.length) (by rw [List.length_range, hn]) (by rw [List.length_range]; exact hz) (fun _ _ => trivial) (fun _ => true) (fun _ => .bl true) ?_ ?_
  · rintro i j y H6 H7 hi s6 ⟨rfl, rfl⟩ k1 k2 hk1 hk2
    have hil : i < ds.length := by
      rcases Nat.lt_or_ge i ds.length with h | h
      · exact h
      · rw [List.getElem?_eq_none (by rw [List.length_range]; exact h)] at hi; cases hi
    have hdi : ds[i]? = some ds[i] := List.getElem?_eq_getElem hil
    obtain ⟨v, hv, dv⟩ := dx.at hdi
    obtain ⟨u, hu, du⟩ := dy.at hdi
    have al := alOks_at ok hdi
    have e0 : (0 : Int) + (i : Nat) = ((i : Nat) : Int) := by omega
    have s7 := s1.trans s6
    dsimp only
    rw [e0]
    walk_at "w"
    refine ⟨rfl, ?_⟩
    walk_at "w"
    refine st_ixA (sx.same s7) (atI_nat hv) ?_
    walk_at "w"
    refine st_ixA (sy.same s7) (atI_nat hu) ?_
    walk_at "w"
    exact ⟨_, _, rfl, ds[i], dv.same s7, du.same s7, by omega, al.1, fun H' s => hk1 rfl _ s⟩
  · intro H6 s6 h6
    rw [filter_yes] at h6
    walk_at "w"
    refine ⟨D, (List.range ds.length).map fun _ => true, rfl, SqL.of (by rw [h6, List.map_map]; rfl), ?_⟩
    have e : ((List.range ds.length).map fun _ => true).all id = true := by simp
    rw [e]
    exact q _ (s1.trans s6)
theorem pure__law_alike (T : Txt K mg) {x y : V} {H : Hp} {Q : VK} {E : XK} {n : Nat} (h : pr_alike K (n + 1) x y H Q E) : t__law_alike K n { nx := fun _ H' => Q .non H', rt := Q } [some x, some y, none] H := by
  obtain ⟨d, dx, dy, hd, ok, q⟩ := h
  cases d with
  | none =>
    rw [dx.non_inv, dy.non_inv]
    exact alike_leaf T tx_non (kit_ty (r := false) (by decide +kernel)) (kit_ty (r := false) (by decide +kernel)) (kit_ty (r := false) (by decide +kernel)) (kit_ty (r := false) (by decide +kernel)) rfl q
  | int i =>
    rw [dx.int_inv, dy.int_inv]
    exact alike_leaf T tx_int (kit_ty (r := false) (by decide +kernel)) (kit_ty (r := false) (by decide +kernel)) (kit_ty (r := false) (by decide +kernel)) (kit_ty (r := false) (by decide +kernel)) rfl q
  | str z =>
    rw [dx.str_inv, dy.str_inv]
    exact alike_leaf T tx_str (kit_ty (r := false) (by decide +kernel)) (kit_ty (r := false) (by decide +kernel)) (kit_ty (r := false) (by decide +kernel)) (kit_ty (r := true) (by decide +kernel)) rfl q
  | list ds =>
    obtain ⟨a, xs, rfl, ha, da⟩ := dx.lst_inv
    obtain ⟨b, ys, rfl, hb, db⟩ := dy.lst_inv
    exact alike_seq T any_y1 (fun H' s => tyx_list (s.seq ha)) (fun H' s => tyx_list (s.seq hb)) (kit_ty (r := true) (by decide +kernel)) (kit_ty (r := false) (by decide +kernel)) (.inl ha) (.inl hb) da db (Nat.le_trans (of_decide_eq_true (Bool.and_eq_true_iff.mp ok).1) (by decide)) hd (Bool.and_eq_true_iff.mp ok).2 q
  | tuple ds =>
    obtain ⟨a, xs, rfl, ha, da⟩ := dx.tup_inv
    obtain ⟨b, ys, rfl, hb, db⟩ := dy.tup_inv
    exact alike_seq T any_y2 (fun H' s => tyx_tup (same_sqT s ha)) (fun H' s => tyx_tup (same_sqT s hb)) (kit_ty (r := false) (by decide +kernel)) (kit_ty (r := true) (by decide +kernel)) (.inr ha) (.inr hb) da db (Nat.le_trans (of_decide_eq_true (Bool.and_eq_true_iff.mp ok).1) (by decide)) hd (Bool.and_eq_true_iff.mp ok).2 q
  | _ => cases ok
theorem ok__law_alike (T : Txt K mg)  : ∀ n, Kp P w K mg base CX0 (1 + n) "_law_alike" ["_law_found", "_law_due"] (sp__law_alike K n)
  | 0 => by
    obtain ⟨fd, F⟩ := T.c.def_ 40 (d := d__law_alike) rfl
    refine ⟨_, fd, T.g__law_alike, F.kp, F.bindsN fun _ _ _ _ _ _ us hl => match us, hl with | [_, _], _ => rfl, F.ok sc__law_alike Sp2.len (fun cdv A outer s H vs Q E hr h => ?_)⟩
    obtain ⟨v0, v1, rfl, h⟩ := h
    exact h.elim
  | n + 1 => by
    have c_self := ok__law_alike T  n
    obtain ⟨fd, F⟩ := T.c.def_ 40 (d := d__law_alike) rfl
    refine ⟨_, fd, T.g__law_alike, F.kp, F.bindsN fun _ _ _ _ _ _ us hl => match us, hl with | [_, _], _ => rfl, F.ok sc__law_alike Sp2.len (fun cdv A outer s H vs Q E hr h => ?_)⟩
    obtain ⟨v0, v1, rfl, h⟩ := h
    refine ⟨t__law_alike K n, PSs.nox (?_), pure__law_alike T h⟩
    exact (pss_cons (ps_if (pt_val (pe_callB call_isA (by rfl) T.n_isinstance (by decide +kernel) (pa_cons (pv 1) (pa_cons (pe_tup (pa_cons (pe_bltn (v := .ty "list") (by rfl) T.n_list (by decide +kernel) rfl) (pa_cons (pe_bltn (v := .ty "tuple") (by rfl) T.n_tuple (by decide +kernel) rfl) pa_nil))) pa_nil)))) (pss_cons (ps_if (PW.pt (pw_or (pt_cmpR (op_neA hr) (pe_callB call_isA (by rfl) T.n_isinstance (by decide +kernel) (pa_cons (pv 0) (pa_cons (pe_bltn (v := .ty "list") (by rfl) T.n_list (by decide +kernel) rfl) pa_nil))) (pe_callB call_isA (by rfl) T.n_isinstance (by decide +kernel) (pa_cons (pv 1) (pa_cons (pe_bltn (v := .ty "list") (by rfl) T.n_list (by decide +kernel) rfl) pa_nil))) (nomark _)) (pw_or1 (pt_cmpR (op_neA hr) (pe_callB call_isA (by rfl) T.n_isinstance (by decide +kernel) (pa_cons (pv 0) (pa_cons (pe_bltn (v := .ty "tuple") (by rfl) T.n_tuple (by decide +kernel) rfl) pa_nil))) (pe_callB call_isA (by rfl) T.n_isinstance (by decide +kernel) (pa_cons (pv 1) (pa_cons (pe_bltn (v := .ty "tuple") (by rfl) T.n_tuple (by decide +kernel) rfl) pa_nil))) (nomark _))))) (pss_one (ps_ret pe_bl)) pss_nil)
      (pss_one (ps_ret (pe_and (pe_cmpR (op_eqA hr) (pe_callB call_len (by rfl) T.n_len (by decide +kernel) (pa_cons (pv 0) pa_nil)) (pe_callB call_len (by rfl) T.n_len (by decide +kernel) (pa_cons (pv 1) pa_nil)) (nomark _)) (pe_one (pe_callB (cr_all rfl) (by rfl) T.n_all (by decide +kernel) (pa_cons (pe_lc (own := [("_law_k", 2)]) (g := (gName 2)) rfl sc__law_alike.nd (pi_range1 (by rfl) T.n_range (pa_cons (pe_callB call_len (by rfl) T.n_len (by decide +kernel) (pa_cons (pv 1) pa_nil)) pa_nil)) (blkOk_by (own := [("_law_k", 2)]) (N := N__law_alike) (sc := defScope s__law_alike) (by decide +kernel)) (fun _ _ _ _ _ => (pg_name (i := 2) sc__law_alike.nd rfl (by first | exact Or.inl rfl | exact Or.inr rfl))) (fun _ _ _ _ _ => pts_nil) (fun _ _ _ _ _ => (pe_cK c_self (hr.mono (Nat.le_refl _)) rfl (pa_cons (pe_ixA hr (pv 0) (pv 2) (fun _ _ => rfl)) (pa_cons (pe_ixA hr (pv 1) (pv 2) (fun _ _ => rfl)) pa_nil))))) pa_nil))))))) pss_nil)
      (pss_cons (ps_if (PW.pt (pw_or (pt_cmpR (op_neA hr) (pe_callB call_isA (by rfl) T.n_isinstance (by decide +kernel) (pa_cons (pv 0) (pa_cons (pe_bltn (v := .ty "bool") (by rfl) T.n_bool (by decide +kernel) rfl) pa_nil))) (pe_callB call_isA (by rfl) T.n_isinstance (by decide +kernel) (pa_cons (pv 1) (pa_cons (pe_bltn (v := .ty "bool") (by rfl) T.n_bool (by decide +kernel) rfl) pa_nil))) (nomark _)) (pw_or1 (pt_cmpR (op_neA hr) (pe_callB call_isA (by rfl) T.n_isinstance (by decide +kernel) (pa_cons (pv 0) (pa_cons (pe_bltn (v := .ty "str") (by rfl) T.n_str (by decide +kernel) rfl) pa_nil))) (pe_callB call_isA (by rfl) T.n_isinstance (by decide +kernel) (pa_cons (pv 1) (pa_cons (pe_bltn (v := .ty "str") (by rfl) T.n_str (by decide +kernel) rfl) pa_nil))) (nomark _))))) (pss_one (ps_ret pe_bl)) pss_nil)
      (pss_one (ps_ret (pe_cmpR (op_eqA hr) (pv 0) (pv 1) (nomark _))))))
end
end K02
set_option Elab.async false
set_option linter.all false
set_option maxRecDepth 100000
set_option maxHeartbeats 4000000
namespace K02
open PySem PySem.Spec PyProof.Rows L2 My
section
variable {P : Program} {w : World} {K : PySem.W.Frag} {mg : Str → Option Value} {base : Heap}
/-! ### facts stand alike -/
theorem al_strs : ∀ (zs : List Str), alOks (zs.map PyData.str) = true
  | [] => rfl
  | z :: r => by
    show (true && alOks (r.map PyData.str)) = true
    rw [al_strs r]; rfl
theorem al_opt (e : Option Str) : alOk (optD e) = true := by cases e <;> rfl
theorem dp_opt (e : Option Str) : (optD e).depth = 0 := by cases e <;> rfl
theorem al_what (w : What) : alOk w.data = true := by
  cases w with
  | sum o s e =>
    show (decide (4 ≤ 1000) && (true && (true && (true && (alOk (optD e) && true))))) = true
    rw [al_opt]; rfl
  | part o t b e =>
    show (decide (4 ≤ 1000) && (true && (true && ((decide (2 ≤ 1000) && (true && (true && true))) && (alOk (optD e) && true))))) = true
    rw [al_opt]; rfl
  | out o => rfl
theorem al_fact {f : Fact} (ok : f.Ok) : alOk f.data = true := by
  cases f with
  | life t n d ps =>
    have h := ok.2.2.2.1
    show (decide (4 ≤ 1000) && (true && (true && (true && ((decide ((ps.map PyData.str).length ≤ 1000) && alOks (ps.map PyData.str)) && true))))) = true
    rw [al_strs, decide_eq_true (show (ps.map PyData.str).length ≤ 1000 by rw [List.length_map]; omega)]; rfl
  | word n k w =>
    show (decide (4 ≤ 1000) && (true && (true && (true && (alOk w.data && true))))) = true
    rw [al_what]; rfl
  | _ => rfl
theorem depth_what (w : What) : w.data.depth ≤ 2 := by
  cases w with
  | sum o s e =>
    show max 0 (max 0 (max 0 (max (optD e).depth 0))) + 1 ≤ 2
    rw [dp_opt]; decide
  | part o t b e =>
    show max 0 (max 0 (max (max 0 (max 0 0) + 1) (max (optD e).depth 0))) + 1 ≤ 2
    rw [dp_opt]; decide
  | out o => show max 0 (max 0 0) + 1 ≤ 2; decide
theorem depth_fact (f : Fact) : f.data.depth ≤ 3 := by
  cases f with
  | life t n d ps =>
    show max 0 (max 0 (max 0 (max (PyData.depthAll (ps.map PyData.str) + 1) 0))) + 1 ≤ 3
    have : PyData.depthAll (ps.map PyData.str) = 0 := by
      clear t n d
      induction ps with
      | nil => rfl
      | cons z r ih =>
        show max 0 (PyData.depthAll (r.map PyData.str)) = 0
        rw [ih]; rfl
    rw [this]; decide
  | word n k w =>
    show max 0 (max 0 (max 0 (max w.data.depth 0))) + 1 ≤ 3
    have := depth_what w
    omega
  | two t a b d => show max 0 (max 0 (max 0 (max 0 0))) + 1 ≤ 3; decide
  | died n d => show max 0 (max 0 (max 0 0)) + 1 ≤ 3; decide
  | owns n d => show max 0 (max 0 (max 0 0)) + 1 ≤ 3; decide
  | gave a b s d => show max 0 (max 0 (max 0 (max 0 (max 0 0)))) + 1 ≤ 3; decide
  | owes a b s d => show max 0 (max 0 (max 0 (max 0 (max 0 0)))) + 1 ≤ 3; decide
  | unfit a b => show max 0 (max 0 (max 0 0)) + 1 ≤ 3; decide
theorem al_facts : ∀ {fs : List Fact}, (∀ f ∈ fs, f.Ok) → alOks (fs.map Fact.data) = true ∧ PyData.depthAll (fs.map Fact.data) ≤ 3
  | [], _ => ⟨rfl, Nat.zero_le _⟩
  | f :: r, h => by
    have h1 := al_facts (fs := r) fun g hg => h g (List.mem_cons_of_mem _ hg)
    refine ⟨?_, ?_⟩
    · show (alOk f.data && alOks (r.map Fact.data)) = true
      rw [h1.1, al_fact (h f List.mem_cons_self)]; rfl
    · show max f.data.depth (PyData.depthAll (r.map Fact.data)) ≤ 3
      have := depth_fact f
      omega
end
end K02
set_option Elab.async false
set_option linter.all false
set_option maxRecDepth 100000
set_option maxHeartbeats 4000000
namespace K02
open PySem PySem.Spec PyProof.Rows L2 My
section
variable {P : Program} {w : World} {K : PySem.W.Frag} {mg : Str → Option Value} {base : Heap}
/-! ### _law_day, _law_sum -/
def pr_draws (K : PySem.W.Frag) (B c : Int) (R : V → Hp → Prop) : V → Hp → VK → XK → Prop := fun x H Q _ => ∃ (st : Addr) (ns : List Int) (m : Int), x = .ref st ∧ ns.length ≤ 63 ∧ LS K H st ns m ∧ m ≤ B ∧ ∀ v H', R v H' → Adv K st ns (m + c) H H' → Q v H'
def natUpTo (n : Nat) : V → Hp → Prop := fun v _ => ∃ k : Nat, v = .int (k : Nat) ∧ k ≤ n
def sp__law_day (K : PySem.W.Frag) : Sp := Sp1 (pr_draws K 100000000 3 (natUpTo 99999))
def t__law_day (K : PySem.W.Frag) : TS :=
  (tRet (tIxA K (tLst (tCons (tCall (sp__law_next K) [] E0 (tCons (tVar 0) (tCons (tC (.int 10)) tNil))) (tCons (tC (.int 99999)) (tCons (tCall (sp__law_next K) [] E0 (tCons (tVar 0) (tCons (tC (.int 100000)) tNil))) tNil)))) (tCall (sp__law_next K) [] E0 (tCons (tVar 0) (tCons (tC (.int 3)) tNil)))))
theorem pure__law_day (T : Txt K mg) {x : V} {H : Hp} {Q : VK} {E : XK} (h : pr_draws K 100000000 3 (natUpTo 99999) x H Q E) : t__law_day K { nx := fun _ H' => Q .non H', rt := Q } [some x] H := by
  obtain ⟨st, ns, m, rfl, hn, ls, hm, q⟩ := h
  unfold t__law_day
  walk_at "w"
  refine use_next ls hn (by decide) (by omega) fun r1 H1 r10 r11 a1 => ?_
  walk_at "w"
  refine use_next a1.ls hn (by decide) (by omega) fun r2 H2 r20 r21 a2 => ?_
  walk_at "w"
  refine ⟨show 3 ≤ sizeLine by decide, fun p hp => ?_⟩
  have a3 := (a1.trans a2).same (same_new (o := .lst [V.int r1, V.int 99999, V.int r2]) hp)
  have hp3 : upd H2 p (.lst [V.int r1, V.int 99999, V.int r2]) p = some (.lst [V.int r1, V.int 99999, V.int r2]) := upd_same
  generalize upd H2 p (.lst [V.int r1, V.int 99999, V.int r2]) = H3 at *
  walk_at "w"
  refine use_next a3.ls hn (by decide) (by omega) fun r4 H4 r40 r41 a4 => ?_
  have hp4 := a4.sb _ _ (a3.ls.ne_lst hp3) hp3
  refine st_ixG (SqL.of hp4) r40 r41 fun v hv => ?_
  refine q v H4 ?_ ((a3.trans a4).le (by omega))
  simp only [List.mem_cons, List.not_mem_nil, or_false] at hv
  rcases hv with rfl | rfl | rfl
  · exact ⟨r1.toNat, by rw [Int.toNat_of_nonneg r10], by omega⟩
  · exact ⟨99999, rfl, by decide⟩
  · exact ⟨r2.toNat, by rw [Int.toNat_of_nonneg r20], by omega⟩
theorem ok__law_day (T : Txt K mg) (c__law_next : Kp P w K mg base CX0 1 "_law_next" ["_law_state", "_law_many"] (sp__law_next K)) : Kp P w K mg base CX0 2 "_law_day" ["_law_state"] (sp__law_day K) := by
  obtain ⟨fd, F⟩ := T.c.def_ 34 (d := d__law_day) rfl
  refine ⟨⟨_, fd, T.g__law_day, F.kp, F.bindsN fun _ _ _ _ _ _ us hl => match us, hl with | [_], _ => rfl, F.ok sc__law_day Sp1.len (fun cdv A outer s H vs Q E hr h => ?_)⟩⟩
  obtain ⟨v0, rfl, h⟩ := h
  refine ⟨t__law_day K, PSs.nox (?_), pure__law_day T h⟩
  exact (pss_one (ps_ret (pe_ixA hr (pe_lst (pa_cons (pe_cK c__law_next (hr.mono (by decide)) rfl (pa_cons (pv 0) (pa_cons pe_int pa_nil))) (pa_cons pe_int (pa_cons (pe_cK c__law_next (hr.mono (by decide)) rfl (pa_cons (pv 0) (pa_cons pe_int pa_nil))) pa_nil)))) (pe_cK c__law_next (hr.mono (by decide)) rfl (pa_cons (pv 0) (pa_cons pe_int pa_nil))) (fun _ _ => rfl))))
def sp__law_sum (K : PySem.W.Frag) : Sp := Sp1 (pr_draws K 100000000 3 (natUpTo 100000000000))
def t__law_sum (K : PySem.W.Frag) : TS :=
  (tRet (tIxA K (tLst (tCons (tCall (sp__law_next K) [] E0 (tCons (tVar 0) (tCons (tC (.int 10)) tNil))) (tCons (tOp rPowI (tC (.int 10)) (tC (.int 11))) (tCons (tCall (sp__law_next K) [] E0 (tCons (tVar 0) (tCons (tOp rPowI (tC (.int 10)) (tC (.int 6))) tNil))) tNil)))) (tCall (sp__law_next K) [] E0 (tCons (tVar 0) (tCons (tC (.int 3)) tNil)))))
theorem pow_11 : ((10 : Int) ^ Int.toNat 11) = ((100000000000 : Nat) : Int) := by decide
theorem pow_6 : ((10 : Int) ^ Int.toNat 6) = 1000000 := by decide
theorem pure__law_sum (T : Txt K mg) {x : V} {H : Hp} {Q : VK} {E : XK} (h : pr_draws K 100000000 3 (natUpTo 100000000000) x H Q E) : t__law_sum K { nx := fun _ H' => Q .non H', rt := Q } [some x] H := by
  obtain ⟨st, ns, m, rfl, hn, ls, hm, q⟩ := h
  unfold t__law_sum
  walk_at "w"
  refine use_next ls hn (by decide) (by omega) fun r1 H1 r10 r11 a1 => ?_
  walk_at "w"
  refine st_pow (by decide) (by decide) (by decide) ?_
  rw [pow_11]
  walk_at "w"
  refine st_pow (by decide) (by decide) (by decide) ?_
  rw [pow_6]
  walk_at "w"
  refine use_next a1.ls hn (by decide) (by omega) fun r2 H2 r20 r21 a2 => ?_
  walk_at "w"
  refine ⟨show 3 ≤ sizeLine by decide, fun p hp => ?_⟩
  have a3 := (a1.trans a2).same (same_new (o := .lst [V.int r1, V.int ((100000000000 : Nat) : Int), V.int r2]) hp)
  have hp3 : upd H2 p (.lst [V.int r1, V.int ((100000000000 : Nat) : Int), V.int r2]) p = some (.lst [V.int r1, V.int ((100000000000 : Nat) : Int), V.int r2]) := upd_same
  generalize upd H2 p (.lst [V.int r1, V.int ((100000000000 : Nat) : Int), V.int r2]) = H3 at *
  walk_at "w"
  refine use_next a3.ls hn (by decide) (by omega) fun r4 H4 r40 r41 a4 => ?_
  have hp4 := a4.sb _ _ (a3.ls.ne_lst hp3) hp3
  refine st_ixG (SqL.of hp4) r40 r41 fun v hv => ?_
  refine q v H4 ?_ ((a3.trans a4).le (by omega))
  simp only [List.mem_cons, List.not_mem_nil, or_false] at hv
  rcases hv with rfl | rfl | rfl
  · exact ⟨r1.toNat, by rw [Int.toNat_of_nonneg r10], by omega⟩
  · exact ⟨100000000000, rfl, by decide⟩
  · exact ⟨r2.toNat, by rw [Int.toNat_of_nonneg r20], by omega⟩
theorem ok__law_sum (T : Txt K mg) (c__law_next : Kp P w K mg base CX0 1 "_law_next" ["_law_state", "_law_many"] (sp__law_next K)) : Kp P w K mg base CX0 2 "_law_sum" ["_law_state"] (sp__law_sum K) := by
  obtain ⟨fd, F⟩ := T.c.def_ 35 (d := d__law_sum) rfl
  refine ⟨⟨_, fd, T.g__law_sum, F.kp, F.bindsN fun _ _ _ _ _ _ us hl => match us, hl with | [_], _ => rfl, F.ok sc__law_sum Sp1.len (fun cdv A outer s H vs Q E hr h => ?_)⟩⟩
  obtain ⟨v0, rfl, h⟩ := h
  refine ⟨t__law_sum K, PSs.nox (?_), pure__law_sum T h⟩
  exact (pss_one (ps_ret (pe_ixA hr (pe_lst (pa_cons (pe_cK c__law_next (hr.mono (by decide)) rfl (pa_cons (pv 0) (pa_cons pe_int pa_nil))) (pa_cons (pe_op op_pow pe_int pe_int) (pa_cons (pe_cK c__law_next (hr.mono (by decide)) rfl (pa_cons (pv 0) (pa_cons (pe_op op_pow pe_int pe_int) pa_nil))) pa_nil)))) (pe_cK c__law_next (hr.mono (by decide)) rfl (pa_cons (pv 0) (pa_cons pe_int pa_nil))) (fun _ _ => rfl))))
end
end K02
set_option Elab.async false
set_option linter.all false
set_option maxRecDepth 100000
set_option maxHeartbeats 4000000
namespace K02
open PySem PySem.Spec PyProof.Rows L2 My
section
variable {P : Program} {w : World} {K : PySem.W.Frag} {mg : Str → Option Value} {base : Heap}
/-! ### _law_part -/
def fracOk (K : PySem.W.Frag) : V → Hp → Prop := fun v H => ∃ t b : Nat, Dp K H v (.tuple [.int (t : Nat), .int (b : Nat)]) ∧ 1 ≤ t ∧ t ≤ b ∧ b ≤ 1000 ∧ Nat.gcd t b = 1
def sp__law_part (K : PySem.W.Frag) : Sp := Sp1 (pr_draws K 100000000 4 (fracOk K))
def t__law_part (K : PySem.W.Frag) : TS :=
  (tSeq (tAsg (tIxA K (tLst (tCons (tOp (rAddA K) (tC (.int 1)) (tCall (sp__law_next K) [] E0 (tCons (tVar 0) (tCons (tC (.int 12)) tNil)))) (tCons (tC (.int 1000)) (tCons (tOp (rAddA K) (tC (.int 1)) (tCall (sp__law_next K) [] E0 (tCons (tVar 0) (tCons (tC (.int 1000)) tNil)))) tNil)))) (tCall (sp__law_next K) [] E0 (tCons (tVar 0) (tCons (tC (.int 3)) tNil)))) (gName 1))
  (tSeq (tAsg (tOp (rAddA K) (tC (.int 1)) (tCall (sp__law_next K) [] E0 (tCons (tVar 0) (tCons (tVar 1) tNil)))) (gName 2))
  (tSeq (tPar 3 4 (tCons (tVar 2) (tCons (tVar 1) tNil)))
  (tSeq (tWhile (tTest (tOp rGtA (tVar 4) (tC (.int 0)))) (tPar 3 4 (tCons (tVar 4) (tCons (tOp rModA (tVar 3) (tVar 4)) tNil))))
  (tRet (tTup (tCons (tOp rDivA (tVar 2) (tVar 3)) (tCons (tOp rDivA (tVar 1) (tVar 3)) tNil))))))))
theorem pure__law_part (T : Txt K mg) {x : V} {H : Hp} {Q : VK} {E : XK} (h : pr_draws K 100000000 4 (fracOk K) x H Q E) : t__law_part K { nx := fun _ H' => Q .non H', rt := Q } [some x, none, none, none, none] H := by
  obtain ⟨st, ns, m, rfl, hn, ls, hm, q⟩ := h
  unfold t__law_part
  walk_at "w"
  refine use_next ls hn (by decide) (by omega) fun r1 H1 r10 r11 a1 => ?_
  walk_at "w"
  refine use_next a1.ls hn (by decide) (by omega) fun r2 H2 r20 r21 a2 => ?_
  walk_at "w"
  refine ⟨show 3 ≤ sizeLine by decide, fun p hp => ?_⟩
  have a3 := (a1.trans a2).same (same_new (o := .lst [V.int (1 + r1), V.int 1000, V.int (1 + r2)]) hp)
  have hp3 : upd H2 p (.lst [V.int (1 + r1), V.int 1000, V.int (1 + r2)]) p = some (.lst [V.int (1 + r1), V.int 1000, V.int (1 + r2)]) := upd_same
  generalize upd H2 p (.lst [V.int (1 + r1), V.int 1000, V.int (1 + r2)]) = H3 at *
  walk_at "w"
  refine use_next a3.ls hn (by decide) (by omega) fun r4 H4 r40 r41 a4 => ?_
  have hp4 := a4.sb _ _ (a3.ls.ne_lst hp3) hp3
  refine st_ixG (SqL.of hp4) r40 r41 fun v hv => ?_
  obtain ⟨b, rfl, b1, b2⟩ : ∃ b : Nat, v = .int (b : Nat) ∧ 1 ≤ b ∧ b ≤ 1000 := by
    simp only [List.mem_cons, List.not_mem_nil, or_false] at hv
    rcases hv with rfl | rfl | rfl
    · exact ⟨(1 + r1).toNat, by rw [Int.toNat_of_nonneg (by omega)], by omega, by omega⟩
    · exact ⟨1000, rfl, by decide, by decide⟩
    · exact ⟨(1 + r2).toNat, by rw [Int.toNat_of_nonneg (by omega)], by omega, by omega⟩
  have a4 := a3.trans a4
  walk_at "w"
  refine use_next a4.ls hn (by omega) (by omega) fun r5 H5 r50 r51 a5 => ?_
  have a5 := a4.trans a5
  obtain ⟨t, ht, t1, t2⟩ : ∃ t : Nat, 1 + r5 = ((t : Nat) : Int) ∧ 1 ≤ t ∧ t ≤ b := ⟨(1 + r5).toNat, by rw [Int.toNat_of_nonneg (by omega)], by omega, by omega⟩
  walk_at "w"
  rw [ht]
  refine ⟨fun m' σ H' => H' = H5 ∧ ∃ c d : Nat, m' = d ∧ Nat.gcd t b = Nat.gcd c d ∧ σ = [some (.ref st), some (.int (b : Nat)), some (.int (t : Nat)), some (.int (c : Nat)), some (.int (d : Nat))], ⟨_, rfl, t, b, rfl, rfl, rfl⟩, ?_⟩
  rintro m' σ H' ⟨rfl, c, d, rfl, hg, rfl⟩
  walk_at "w"
  refine ite2 (fun h1 => ?_) (fun h1 => ?_)
  · have h2 : 0 < m' := by have := of_decide_eq_true h1; omega
    refine ⟨_, fun _ _ z => z, ?_⟩
    walk_at "w"
    refine st_mod (by omega) ?_
    walk_at "w"
    refine ⟨c % m', Nat.mod_lt _ h2, rfl, m', c % m', rfl, ?_, rfl⟩
    rw [hg, Nat.gcd_comm c m', Nat.gcd_rec m' c, Nat.gcd_comm]
  · have h2 : m' = 0 := by
      have : ¬ (0 : Int) < m' := fun e => h1 (decide_eq_true e)
      omega
    subst h2
    rw [Nat.gcd_zero_right] at hg
    have g0 : 0 < Nat.gcd t b := Nat.gcd_pos_of_pos_left _ (by omega)
    have g1 : Nat.gcd t b ≤ t := Nat.gcd_le_left _ (by omega)
    subst hg
    walk_at "w"
    refine st_div (b := 30) (by omega) (nb (by omega) (by omega)) (by decide) (by decide) ?_
    walk_at "w"
    refine st_div (b := 30) (by omega) (nb (by omega) (by omega)) (by decide) (by decide) ?_
    walk_at "w"
    refine ⟨show 2 ≤ sizeLine by decide, fun u hu => ?_⟩
    refine q _ _ ⟨t / Nat.gcd t b, b / Nat.gcd t b, .tup (.inl (.inl upd_same)) (.cons (.int _) (.cons (.int _) .nil)), ?_, Nat.div_le_div_right t2, Nat.le_trans (Nat.div_le_self _ _) b2, ?_⟩ ((a5.same (same_new hu)).le (by omega))
    · exact Nat.div_pos g1 g0
    · exact Nat.gcd_div_gcd_div_gcd_of_pos_left (by omega)
theorem ok__law_part (T : Txt K mg) (c__law_next : Kp P w K mg base CX0 1 "_law_next" ["_law_state", "_law_many"] (sp__law_next K)) : Kp P w K mg base CX0 2 "_law_part" ["_law_state"] (sp__law_part K) := by
  obtain ⟨fd, F⟩ := T.c.def_ 33 (d := d__law_part) rfl
  refine ⟨⟨_, fd, T.g__law_part, F.kp, F.bindsN fun _ _ _ _ _ _ us hl => match us, hl with | [_], _ => rfl, F.ok sc__law_part Sp1.len (fun cdv A outer s H vs Q E hr h => ?_)⟩⟩
  obtain ⟨v0, rfl, h⟩ := h
  refine ⟨t__law_part K, PSs.nox (?_), pure__law_part T h⟩
  exact (pss_cons (ps_set (i := 1) sc__law_part.nd rfl (by first | exact Or.inl rfl | exact Or.inr rfl) (pe_ixA hr (pe_lst (pa_cons (pe_op op_addA pe_int (pe_cK c__law_next (hr.mono (by decide)) rfl (pa_cons (pv 0) (pa_cons pe_int pa_nil)))) (pa_cons pe_int (pa_cons (pe_op op_addA pe_int (pe_cK c__law_next (hr.mono (by decide)) rfl (pa_cons (pv 0) (pa_cons pe_int pa_nil)))) pa_nil)))) (pe_cK c__law_next (hr.mono (by decide)) rfl (pa_cons (pv 0) (pa_cons pe_int pa_nil))) (fun _ _ => rfl)))
      (pss_cons (ps_set (i := 2) sc__law_part.nd rfl (by first | exact Or.inl rfl | exact Or.inr rfl) (pe_op op_addA pe_int (pe_cK c__law_next (hr.mono (by decide)) rfl (pa_cons (pv 0) (pa_cons (pv 1) pa_nil)))))
      (pss_cons (ps_par (i := 3) (j := 4) (by rfl) sc__law_part.nd rfl rfl (by decide) rfl rfl (pa_cons (pv 2) (pa_cons (pv 1) pa_nil)) (by rfl))
      (pss_cons (ps_while PassesOwn.never (pt_cmpR op_gtA (pv 4) pe_int (nomark _)) (pss_one (ps_par (i := 3) (j := 4) (by rfl) sc__law_part.nd rfl rfl (by decide) rfl rfl (pa_cons (pv 4) (pa_cons (pe_op op_modA (pv 3) (pv 4)) pa_nil)) (by rfl))))
      (pss_one (ps_ret (pe_tup (pa_cons (pe_op op_fdivA (pv 2) (pv 3)) (pa_cons (pe_op op_fdivA (pv 1) (pv 3)) pa_nil)))))))))
end
end K02
set_option Elab.async false
set_option linter.all false
set_option maxRecDepth 100000
set_option maxHeartbeats 4000000
namespace K02
open PySem PySem.Spec PyProof.Rows L2 My
section
variable {P : Program} {w : World} {K : PySem.W.Frag} {mg : Str → Option Value} {base : Heap}
/-! ### _law_name -/
/-- what the cells fix of all names: size, place, first sign -/
def nmSize (ns : List Int) : Int := 2 + (ns.headD 1) % 7
def nmAt (ns : List Int) : Int := if ns = [] then 0 else (ns.getLastD 0) % nmSize ns
def nameOf (ns : List Int) (k : Nat) : Str := S (nmL (nmSize ns).toNat (nmAt ns).toNat (97 + (((ns.headD 1) / 7 + 7 * (k : Nat)) % 26).toNat))
theorem nmSize_in (ns : List Int) : 2 ≤ nmSize ns ∧ nmSize ns ≤ 8 := by unfold nmSize; omega
theorem nmAt_in (ns : List Int) : 0 ≤ nmAt ns ∧ nmAt ns < nmSize ns := by
  have := nmSize_in ns
  unfold nmAt
  split
  · omega
  · exact ⟨Int.emod_nonneg _ (by omega), Int.emod_lt_of_pos _ (by omega)⟩
theorem name_ok (ns : List Int) (k : Nat) : isName (nameOf ns k) = true := by
  have h1 := nmSize_in ns
  have h2 := nmAt_in ns
  exact nm_ok (by omega) (by omega) (by omega) (by omega)
theorem name_inj {ns : List Int} {j k : Nat} (hj : j < 26) (hk : k < 26) (h : nameOf ns j = nameOf ns k) : j = k := by
  have h1 := nmSize_in ns
  have h2 := nmAt_in ns
  have h3 := nm_inj (by omega) (by omega) (S_inj.mp h)
  omega
end
end K02
set_option Elab.async false
set_option linter.all false
set_option maxRecDepth 100000
set_option maxHeartbeats 4000000
namespace K02
open PySem PySem.Spec PyProof.Rows L2 My
section
variable {P : Program} {w : World} {K : PySem.W.Frag} {mg : Str → Option Value} {base : Heap}
def pr_name (K : PySem.W.Frag) : V → V → Hp → VK → XK → Prop := fun x y H Q _ => ∃ (st : Addr) (ns : List Int) (m : Int) (k : Nat), x = .ref st ∧ y = .int (k : Nat) ∧ k < 26 ∧ ns.length ≤ 63 ∧ LS K H st ns m ∧ ∀ H', Same H H' → Q (.str (nameOf ns k)) H'
def sp__law_name (K : PySem.W.Frag) : Sp := Sp2 (pr_name K)
def t__law_name_0 (K : PySem.W.Frag) : TS :=
  (tSeq (tAsg (tSl (rSlA K) (tC (.str "qzjvqzjv")) tNoPart (tPart (tVar 3))) (gName 5))
  (tSeq (tAsg (tIxA K (tC (.str "abcdefghijklmnopqrstuvwxyz")) (tOp rModA (tOp (rAddA K) (tOp rDivA (tVar 2) (tC (.int 7))) (tOp rMulA (tC (.int 7)) (tVar 1))) (tC (.int 26)))) (gName 6))
  (tRet (tOp (rAddA K) (tOp (rAddA K) (tSl (rSlA K) (tVar 5) tNoPart (tPart (tVar 4))) (tVar 6)) (tSl (rSlA K) (tVar 5) (tPart (tOp (rAddA K) (tVar 4) (tC (.int 1)))) tNoPart)))))
def t__law_name (K : PySem.W.Frag) : TS :=
  (tSeq (tAsg (tIf (tTest (tOp (rNeA K) (tIxA K (tVar 0) (tC (.str "cells"))) (tLst tNil))) (tIxA K (tIxA K (tVar 0) (tC (.str "cells"))) (tC (.int 0))) (tC (.int 1))) (gName 2))
  (tSeq (tAsg (tOp (rAddA K) (tC (.int 2)) (tOp rModA (tVar 2) (tC (.int 7)))) (gName 3))
  (tSeq (tAsg (tIf (tTest (tOp (rNeA K) (tIxA K (tVar 0) (tC (.str "cells"))) (tLst tNil))) (tOp rModA (tIxA K (tIxA K (tVar 0) (tC (.str "cells"))) (tUn rNegI (tC (.int 1)))) (tVar 3)) (tC (.int 0))) (gName 4))
  (t__law_name_0 K))))
theorem atI_lastD (n0 : Int) (nr : List Int) : atI ((n0 :: nr).map V.int) (-1) = some (V.int ((n0 :: nr).getLastD 0)) := by
  obtain ⟨l, v, h⟩ : ∃ l v, n0 :: nr = l ++ [v] := ⟨_, _, (List.dropLast_concat_getLast (by simp)).symm⟩
  rw [h, List.map_append, List.map_cons, List.map_nil, L2.atI_last]
  simp
def alph : List Nat := (List.range 26).map fun k => 97 + k
theorem alph_tl : ("abcdefghijklmnopqrstuvwxyz" : Str).cps.toList = alph := by decide +kernel
theorem alph_at {r : Nat} (h : r < 26) : alph[r]? = some (97 + r) := by
  unfold alph
  rw [List.getElem?_map, List.getElem?_range h]; rfl
theorem q8_tl : ("qzjvqzjv" : Str).cps.toList = [113, 122, 106, 118, 113, 122, 106, 118] := by decide +kernel
theorem tl_S (l : List Nat) : (S l).cps.toList = l := rfl
theorem name_end (T : Txt K mg) {st : Addr} {ns : List Int} {k : Nat} {H : Hp} {Q : VK} (hk : k < 26) (q : Q (.str (nameOf ns k)) H) :
    t__law_name_0 K ⟨fun _ H' => Q .non H', Q, fun _ _ => False, fun _ _ => False⟩ [some (.ref st), some (.int (k : Nat)), some (.int (ns.headD 1)), some (.int (nmSize ns)), some (.int (nmAt ns)), none, none] H := by
  have h1 := nmSize_in ns
  have h2 := nmAt_in ns
  unfold nameOf at q
  obtain ⟨sz, hsz⟩ : ∃ n : Nat, nmSize ns = ((n : Nat) : Int) := ⟨(nmSize ns).toNat, by rw [Int.toNat_of_nonneg (by omega)]⟩
  obtain ⟨at', hat⟩ : ∃ n : Nat, nmAt ns = ((n : Nat) : Int) := ⟨(nmAt ns).toNat, by rw [Int.toNat_of_nonneg (by omega)]⟩
  rw [hsz, hat] at h2
  rw [hsz] at h1
  rw [hsz, hat, Int.toNat_natCast, Int.toNat_natCast] at q
  rw [hsz, hat]
  clear hsz hat
  generalize ns.headD 1 = f at *
  unfold t__law_name_0
  walk_at "w"
  have l8 : ("qzjvqzjv" : Str).length = 8 := by decide +kernel
  refine st_slice_str (by rw [l8]; decide) ?_
  rw [cutS_to (by rw [l8]; omega), q8_tl]
  walk_at "w"
  refine st_div (b := 3) (by decide) (by decide) (by decide) (by decide) ?_
  walk_at "w"
  refine st_mul (a := 3) (b := 5) (by decide) (nb (by omega) (by omega)) (by decide) (by decide) (by decide) ?_
  walk_at "w"
  refine st_mod (by decide) ?_
  obtain ⟨r, hr⟩ : ∃ n : Nat, (f / 7 + 7 * (k : Nat)) % 26 = ((n : Nat) : Int) := ⟨((f / 7 + 7 * (k : Nat)) % 26).toNat, by rw [Int.toNat_of_nonneg (by omega)]⟩
  have hr26 : r < 26 := by omega
  rw [hr, Int.toNat_natCast] at q
  rw [hr]
  clear hr
  refine st_ix_str (c := 97 + r) (by decide +kernel) (by rw [alph_tl]; exact alph_at hr26) ?_
  walk_at "w"
  have hl : (S (([113, 122, 106, 118, 113, 122, 106, 118] : List Nat).take sz)).length = sz := by
    rw [S_len, List.length_take]; simp; omega
  refine st_slice_str (by rw [hl]; omega) ?_
  rw [cutS_to (by rw [hl]; omega), tl_S]
  walk_at "w"
  have lz : ("z" : Str).length = 1 := by decide +kernel
  have l1 : ∀ c : Nat, (⟨#[c]⟩ : Str).length = 1 := fun c => rfl
  refine st_add_str (by rw [S_len, l1, List.length_take, List.length_take]; simp; omega) ?_
  walk_at "w"
  have e1 : ((at' : Nat) : Int) + 1 = ((at' + 1 : Nat) : Int) := rfl
  rw [e1]
  refine st_slice_str (by rw [hl]; omega) ?_
  rw [cutS_from (by rw [hl]; omega), tl_S]
  refine st_add_str (by rw [show ∀ a b : Str, (a ++ b).length = a.length + b.length from size_cat, S_len, S_len, S_len, List.length_drop, List.length_take, List.length_take]; simp; omega) ?_
  have e2 : ((⟨#[97 + r]⟩ : Str)) = S [97 + r] := rfl
  rw [e2, S_app, S_app]
  exact q
theorem pure__law_name (T : Txt K mg) {x y : V} {H : Hp} {Q : VK} {E : XK} (h : pr_name K x y H Q E) : t__law_name K { nx := fun _ H' => Q .non H', rt := Q } [some x, some y, none, none, none, none, none] H := by
  obtain ⟨st, ns, m, k, rfl, rfl, hk, hn, ls, q⟩ := h
  obtain ⟨a, kk, hst, hcells, hne, k0, km⟩ := ls.ex
  have e2 := DGet.k (k := Sum.inr "cells") hst
  rw [stK_cells] at e2
  unfold t__law_name
  walk_at "w"
  refine st_ix_dict e2 ?_
  walk_at "w"
  refine ⟨Nat.zero_le _, fun p hp => ?_⟩
  have s2 : Same H (upd H p (.lst [])) := same_new hp
  refine st_neD (Dp.ints (s2.seq hcells)) (Dp.ints (ns := []) (SqL.of upd_same)) (shaped_ints _) (shaped_ints []) ?_
  have hst2 := s2 _ _ hst
  have hcells2 := s2.seq hcells
  generalize upd H p (.lst []) = H2 at *
  have e3 := DGet.k (k := Sum.inr "cells") hst2
  rw [stK_cells] at e3
  cases ns with
  | nil =>
    rw [show (!PyData.eqv (.list (([] : List Int).map PyData.int)) (.list (([] : List Int).map PyData.int))) = false by rfl]
    walk_at "w"
    refine st_mod (by decide) ?_
    walk_at "w"
    refine st_ix_dict e3 ?_
    walk_at "w"
    refine ⟨Nat.zero_le _, fun p3 hp3 => ?_⟩
    have s3 : Same H2 (upd H2 p3 (.lst [])) := same_new hp3
    refine st_neD (Dp.ints (s3.seq hcells2)) (Dp.ints (ns := []) (SqL.of upd_same)) (shaped_ints _) (shaped_ints []) ?_
    rw [show (!PyData.eqv (.list (([] : List Int).map PyData.int)) (.list (([] : List Int).map PyData.int))) = false by rfl]
    walk_at "w"
    exact name_end T (ns := []) hk (q _ (s2.trans s3))
  | cons n0 nr =>
    rw [show (!PyData.eqv (.list ((n0 :: nr).map PyData.int)) (.list (([] : List Int).map PyData.int))) = true by rfl]
    walk_at "w"
    refine st_ix_dict e3 ?_
    walk_at "w"
    refine st_ix_list hcells2 (v := .int n0) (atI_nat (j := 0) rfl) ?_
    walk_at "w"
    refine st_mod (by decide) ?_
    walk_at "w"
    refine st_ix_dict e3 ?_
    walk_at "w"
    refine ⟨Nat.zero_le _, fun p3 hp3 => ?_⟩
    have s3 : Same H2 (upd H2 p3 (.lst [])) := same_new hp3
    refine st_neD (Dp.ints (s3.seq hcells2)) (Dp.ints (ns := []) (SqL.of upd_same)) (shaped_ints _) (shaped_ints []) ?_
    rw [show (!PyData.eqv (.list ((n0 :: nr).map PyData.int)) (.list (([] : List Int).map PyData.int))) = true by rfl]
    have hst3 := s3 _ _ hst2
    have hcells3 := s3.seq hcells2
    have s4 := s2.trans s3
    generalize upd H2 p3 (.lst []) = H3 at *
    have e4 := DGet.k (k := Sum.inr "cells") hst3
    rw [stK_cells] at e4
    walk_at "w"
    refine st_ix_dict e4 ?_
    walk_at "w"
    refine ⟨1, rfl, ?_⟩
    refine st_ix_list hcells3 (i := -1) (v := .int ((n0 :: nr).getLastD 0)) ?_ ?_
    · exact atI_lastD _ _
    walk_at "w"
    have h1 := nmSize_in (n0 :: nr)
    refine st_mod (show 0 < 2 + n0 % 7 by omega) ?_
    walk_at "w"
    exact name_end T (ns := n0 :: nr) hk (q _ s4)
theorem ok__law_name (T : Txt K mg)  : Kp P w K mg base CX0 1 "_law_name" ["_law_state", "_law_k"] (sp__law_name K) := by
  obtain ⟨fd, F⟩ := T.c.def_ 31 (d := d__law_name) rfl
  refine ⟨⟨_, fd, T.g__law_name, F.kp, F.bindsN fun _ _ _ _ _ _ us hl => match us, hl with | [_, _], _ => rfl, F.ok sc__law_name Sp2.len (fun cdv A outer s H vs Q E hr h => ?_)⟩⟩
  obtain ⟨v0, v1, rfl, h⟩ := h
  refine ⟨t__law_name K, PSs.nox (?_), pure__law_name T h⟩
  exact (pss_cons (ps_set (i := 2) sc__law_name.nd rfl (by first | exact Or.inl rfl | exact Or.inr rfl) (pe_ifExp (pt_cmpR (op_neA hr) (pe_ixA hr (pv 0) pe_str (fun _ _ => rfl)) (pe_lst pa_nil) (nomark _)) (pe_ixA hr (pe_ixA hr (pv 0) pe_str (fun _ _ => rfl)) pe_int (fun _ _ => rfl)) pe_int))
      (pss_cons (ps_set (i := 3) sc__law_name.nd rfl (by first | exact Or.inl rfl | exact Or.inr rfl) (pe_op op_addA pe_int (pe_op op_modA (pv 2) pe_int)))
      (pss_cons (ps_set (i := 4) sc__law_name.nd rfl (by first | exact Or.inl rfl | exact Or.inr rfl) (pe_ifExp (pt_cmpR (op_neA hr) (pe_ixA hr (pv 0) pe_str (fun _ _ => rfl)) (pe_lst pa_nil) (nomark _)) (pe_op op_modA (pe_ixA hr (pe_ixA hr (pv 0) pe_str (fun _ _ => rfl)) (pe_un un_neg pe_int) (fun _ _ => rfl)) (pv 3)) pe_int))
      (pss_cons (ps_set (i := 5) sc__law_name.nd rfl (by first | exact Or.inl rfl | exact Or.inr rfl) (pe_slice sl_A pe_str po_none (po_some (pv 3))))
      (pss_cons (ps_set (i := 6) sc__law_name.nd rfl (by first | exact Or.inl rfl | exact Or.inr rfl) (pe_ixA hr pe_str (pe_op op_modA (pe_op op_addA (pe_op op_fdivA (pv 2) pe_int) (pe_op op_mulA pe_int (pv 1))) pe_int) (fun _ _ => rfl)))
      (pss_one (ps_ret (pe_op op_addA (pe_op op_addA (pe_slice sl_A (pv 5) po_none (po_some (pv 4))) (pv 6)) (pe_slice sl_A (pv 5) (po_some (pe_op op_addA (pv 4) pe_int)) po_none)))))))))
theorem use_nm {st : Addr} {ns : List Int} {m : Int} {k : Nat} {i : Int} {H : Hp} {Q : VK} {E : XK} (ls : LS K H st ns m) (hn : ns.length ≤ 63) (e : i = (k : Nat)) (hk : k < 26) (q : ∀ H', Same H H' → Q (.str (nameOf ns k)) H') : Sp2 (pr_name K) [.ref st, .int i] H Q E :=
  ⟨_, _, rfl, st, ns, m, k, rfl, by rw [e], hk, hn, ls, q⟩
/-! ### _law_pair -/
def pr_pair (K : PySem.W.Frag) : V → Hp → VK → XK → Prop := fun x H Q _ => ∃ (st : Addr) (ns : List Int) (m : Int), x = .ref st ∧ ns.length ≤ 63 ∧ LS K H st ns m ∧ m ≤ 100000000 ∧
  ∀ (i j : Nat) p H', i < 12 → j < 12 → i ≠ j → H' p = some (.tup [.str (nameOf ns i), .str (nameOf ns j)]) → Adv K st ns (m + 2) H H' → Q (.ref p) H'
def sp__law_pair (K : PySem.W.Frag) : Sp := Sp1 (pr_pair K)
def t__law_pair (K : PySem.W.Frag) : TS :=
  (tSeq (tAsg (tCall (sp__law_next K) [] E0 (tCons (tVar 0) (tCons (tC (.int 12)) tNil))) (gName 1))
  (tRet (tTup (tCons (tCall (sp__law_name K) [] E0 (tCons (tVar 0) (tCons (tVar 1) tNil))) (tCons (tCall (sp__law_name K) [] E0 (tCons (tVar 0) (tCons (tOp rModA (tOp (rAddA K) (tOp (rAddA K) (tVar 1) (tC (.int 1))) (tCall (sp__law_next K) [] E0 (tCons (tVar 0) (tCons (tC (.int 11)) tNil)))) (tC (.int 12))) tNil))) tNil)))))
theorem pure__law_pair (T : Txt K mg) {x : V} {H : Hp} {Q : VK} {E : XK} (h : pr_pair K x H Q E) : t__law_pair K { nx := fun _ H' => Q .non H', rt := Q } [some x, none] H := by
  obtain ⟨st, ns, m, rfl, hn, ls, hm, q⟩ := h
  unfold t__law_pair
  walk_at "w"
  refine use_next ls hn (by decide) (by omega) fun r1 H1 r10 r11 a1 => ?_
  obtain ⟨i, hi⟩ : ∃ n : Nat, r1 = ((n : Nat) : Int) := ⟨r1.toNat, by rw [Int.toNat_of_nonneg r10]⟩
  walk_at "w"
  refine use_nm (k := i) a1.ls hn hi (by omega) fun H2 s2 => ?_
  walk_at "w"
  have a2 := a1.same s2
  refine use_next a2.ls hn (by decide) (by omega) fun r2 H3 r20 r21 a3 => ?_
  walk_at "w"
  refine st_mod (by decide) ?_
  obtain ⟨j, hj⟩ : ∃ n : Nat, (r1 + 1 + r2) % 12 = ((n : Nat) : Int) := ⟨((r1 + 1 + r2) % 12).toNat, by rw [Int.toNat_of_nonneg (by omega)]⟩
  walk_at "w"
  refine use_nm (k := j) a3.ls hn hj (by omega) fun H4 s4 => ?_
  walk_at "w"
  refine ⟨show 2 ≤ sizeLine by decide, fun p hp => ?_⟩
  exact q i j p _ (by omega) (by omega) (by omega) upd_same ((((a2.trans a3).same s4).same (same_new hp)).le (by omega))
theorem ok__law_pair (T : Txt K mg) (c__law_next : Kp P w K mg base CX0 1 "_law_next" ["_law_state", "_law_many"] (sp__law_next K)) (c__law_name : Kp P w K mg base CX0 1 "_law_name" ["_law_state", "_law_k"] (sp__law_name K)) : Kp P w K mg base CX0 2 "_law_pair" ["_law_state"] (sp__law_pair K) := by
  obtain ⟨fd, F⟩ := T.c.def_ 32 (d := d__law_pair) rfl
  refine ⟨⟨_, fd, T.g__law_pair, F.kp, F.bindsN fun _ _ _ _ _ _ us hl => match us, hl with | [_], _ => rfl, F.ok sc__law_pair Sp1.len (fun cdv A outer s H vs Q E hr h => ?_)⟩⟩
  obtain ⟨v0, rfl, h⟩ := h
  refine ⟨t__law_pair K, PSs.nox (?_), pure__law_pair T h⟩
  exact (pss_cons (ps_set (i := 1) sc__law_pair.nd rfl (by first | exact Or.inl rfl | exact Or.inr rfl) (pe_cK c__law_next (hr.mono (by decide)) rfl (pa_cons (pv 0) (pa_cons pe_int pa_nil))))
      (pss_one (ps_ret (pe_tup (pa_cons (pe_cK c__law_name (hr.mono (by decide)) rfl (pa_cons (pv 0) (pa_cons (pv 1) pa_nil))) (pa_cons (pe_cK c__law_name (hr.mono (by decide)) rfl (pa_cons (pv 0) (pa_cons (pe_op op_modA (pe_op op_addA (pe_op op_addA (pv 1) pe_int) (pe_cK c__law_next (hr.mono (by decide)) rfl (pa_cons (pv 0) (pa_cons pe_int pa_nil)))) pe_int) pa_nil))) pa_nil))))))
end
end K02
set_option Elab.async false
set_option linter.all false
set_option maxRecDepth 100000
set_option maxHeartbeats 4000000
namespace K02
open PySem PySem.Spec PyProof.Rows L2 My
section
variable {P : Program} {w : World} {K : PySem.W.Frag} {mg : Str → Option Value} {base : Heap}
theorem use_draws {B c : Int} {R : V → Hp → Prop} {st : Addr} {ns : List Int} {m : Int} {H : Hp} {Q : VK} {E : XK} (ls : LS K H st ns m) (hn : ns.length ≤ 63) (hm : m ≤ B) (q : ∀ v H', R v H' → Adv K st ns (m + c) H H' → Q v H') : Sp1 (pr_draws K B c R) [.ref st] H Q E :=
  ⟨_, rfl, st, ns, m, rfl, hn, ls, hm, q⟩
theorem use_pr {st : Addr} {ns : List Int} {m : Int} {H : Hp} {Q : VK} {E : XK} (ls : LS K H st ns m) (hn : ns.length ≤ 63) (hm : m ≤ 100000000) (q : ∀ (i j : Nat) p H', i < 12 → j < 12 → i ≠ j → H' p = some (.tup [.str (nameOf ns i), .str (nameOf ns j)]) → Adv K st ns (m + 2) H H' → Q (.ref p) H') : Sp1 (pr_pair K) [.ref st] H Q E :=
  ⟨_, rfl, st, ns, m, rfl, hn, ls, hm, q⟩
/-- one of what a list display holds, by a draw -/
theorem draw_ix {st : Addr} {ns : List Int} {m : Int} {H : Hp} {Q : VK} {E : XK} {xs : List V} {many : Int} {p : Addr} (ls : LS K H st ns m) (hn : ns.length ≤ 63) (hm : 0 < many) (hb : m ≤ 1000000000) (hl : many = xs.length) (hp : H p = some (.lst xs))
    (q : ∀ v H', v ∈ xs → Adv K st ns (m + 1) H H' → Q v H') : Sp2 (pr_next K) [.ref st, .int many] H (fun y H2 => rIxA K (.ref p) y H2 Q) E := by
  refine use_next ls hn hm hb fun r H1 r0 r1 a1 => ?_
  have hp1 := a1.sb _ _ (ls.ne_lst hp) hp
  exact st_ixG (SqL.of hp1) r0 (by omega) fun v hv => q v H1 hv a1
/-! ### _law_word_fact -/
def pr_word_fact (K : PySem.W.Frag) : V → V → Hp → VK → XK → Prop := fun x y H Q _ => ∃ (st : Addr) (ns : List Int) (m : Int) (z : Str), x = .ref st ∧ y = .str z ∧ isName z = true ∧ ns.length ≤ 63 ∧ LS K H st ns m ∧ m ≤ 90000000 ∧
  ∀ v H', factV K v H' → Adv K st ns (m + 13) H H' → Q v H'
def sp__law_word_fact (K : PySem.W.Frag) : Sp := Sp2 (pr_word_fact K)
def t__law_word_fact (K : PySem.W.Frag) : TS :=
  (tSeq (tAsg (tCall (sp__law_pair K) [] E0 (tCons (tVar 0) tNil)) (gTup K 2 (gCons (gName 2) (gCons (gName 3) gNil))))
  (tSeq (tAsg (tIxA K (tLst (tCons (tC .non) (tCons (tVar 3) tNil))) (tCall (sp__law_next K) [] E0 (tCons (tVar 0) (tCons (tC (.int 2)) tNil)))) (gName 3))
  (tSeq (tAsg (tLst (tCons (tTup (tCons (tC (.str "sum")) (tCons (tVar 2) (tCons (tCall (sp__law_sum K) [] E0 (tCons (tVar 0) tNil)) (tCons (tVar 3) tNil))))) (tCons (tTup (tCons (tC (.str "part")) (tCons (tVar 2) (tCons (tCall (sp__law_part K) [] E0 (tCons (tVar 0) tNil)) (tCons (tVar 3) tNil))))) (tCons (tTup (tCons (tC (.str "out")) (tCons (tVar 2) tNil))) tNil)))) (gName 4))
  (tRet (tTup (tCons (tC (.str "word")) (tCons (tVar 1) (tCons (tIxA K (tLst (tCons (tOp (rAddA K) (tC (.int 1)) (tCall (sp__law_next K) [] E0 (tCons (tVar 0) (tCons (tC (.int 3)) tNil)))) (tCons (tC (.int 20)) tNil))) (tCall (sp__law_next K) [] E0 (tCons (tVar 0) (tCons (tC (.int 2)) tNil)))) (tCons (tIxA K (tVar 4) (tCall (sp__law_next K) [] E0 (tCons (tVar 0) (tCons (tC (.int 3)) tNil)))) tNil)))))))))
theorem pure__law_word_fact (T : Txt K mg) {x y : V} {H : Hp} {Q : VK} {E : XK} (h : pr_word_fact K x y H Q E) : t__law_word_fact K { nx := fun _ H' => Q .non H', rt := Q } [some x, some y, none, none, none] H := by
  obtain ⟨st, ns, m, z, rfl, rfl, hz, hn, ls, hm, q⟩ := h
  unfold t__law_word_fact
  walk_at "w"
  refine use_pr ls hn (by omega) fun i j p H1 hi hj hij hp a1 => ?_
  have on1 := name_ok ns i
  have on2 := name_ok ns j
  generalize nameOf ns i = o at *
  generalize nameOf ns j = e0 at *
  refine w_gtup2 (.inl (.inl hp)) ?_
  walk_at "w"
  refine ⟨show 2 ≤ sizeLine by decide, fun p2 hp2 => ?_⟩
  have a2 := a1.same (same_new (o := .lst [V.non, V.str e0]) hp2)
  walk_at "w"
  refine draw_ix a2.ls hn (by decide) (by omega) rfl upd_same fun v H3 hv a3 => ?_
  obtain ⟨e, he, rfl⟩ : ∃ e : Option Str, optOk e ∧ v = optV e := by
    simp only [List.mem_cons, List.not_mem_nil, or_false] at hv
    rcases hv with rfl | rfl
    · exact ⟨none, trivial, rfl⟩
    · exact ⟨some e0, on2, rfl⟩
  have a3 := a2.trans a3
  have hde : ∀ H, Dp K H (optV e) (optD e) := fun H => by cases e <;> constructor
  walk_at "w"
  refine use_draws (c := 3) a3.ls hn (by omega) fun v1 H4 ⟨s, es, hs⟩ a4 => ?_
  subst es
  have a4 := a3.trans a4
  walk_at "w"
  refine ⟨show 4 ≤ sizeLine by decide, fun p4 hp4 => ?_⟩
  have d1 : Dp K (upd H4 p4 (.tup [V.str "sum", V.str o, V.int (s : Nat), optV e])) (.ref p4) (What.sum o s e).data := .tup (.inl (.inl upd_same)) (.cons (.str _) (.cons (.str _) (.cons (.int _) (.cons (hde _) .nil))))
  have a4 := a4.same (same_new (o := .tup [V.str "sum", V.str o, V.int (s : Nat), optV e]) hp4)
  generalize upd H4 p4 (.tup [V.str "sum", V.str o, V.int (s : Nat), optV e]) = H4' at *
  walk_at "w"
  refine use_draws (c := 4) a4.ls hn (by omega) fun v2 H5 ⟨t, b, dv, ft⟩ a5 => ?_
  have d1 := a5.dp a4.ls d1
  have a5 := a4.trans a5
  walk_at "w"
  refine ⟨show 4 ≤ sizeLine by decide, fun p5 hp5 => ?_⟩
  have s5 : Same H5 (upd H5 p5 (.tup [V.str "part", V.str o, v2, optV e])) := same_new hp5
  have d2 : Dp K (upd H5 p5 (.tup [V.str "part", V.str o, v2, optV e])) (.ref p5) (What.part o t b e).data := .tup (.inl (.inl upd_same)) (.cons (.str _) (.cons (.str _) (.cons (dv.same s5) (.cons (hde _) .nil))))
  have d1 := d1.same s5
  have a5 := a5.same s5
  generalize upd H5 p5 (.tup [V.str "part", V.str o, v2, optV e]) = H5' at *
  walk_at "w"
  refine ⟨show 2 ≤ sizeLine by decide, fun p6 hp6 => ?_⟩
  have s6 : Same H5' (upd H5' p6 (.tup [V.str "out", V.str o])) := same_new hp6
  have d3 : Dp K (upd H5' p6 (.tup [V.str "out", V.str o])) (.ref p6) (What.out o).data := .tup (.inl (.inl upd_same)) (.cons (.str _) (.cons (.str _) .nil))
  have d1 := d1.same s6
  have d2 := d2.same s6
  have a6 := a5.same s6
  generalize upd H5' p6 (.tup [V.str "out", V.str o]) = H6 at *
  walk_at "w"
  refine ⟨show 3 ≤ sizeLine by decide, fun p7 hp7 => ?_⟩
  have s7 : Same H6 (upd H6 p7 (.lst [V.ref p4, V.ref p5, V.ref p6])) := same_new hp7
  have hp7' : upd H6 p7 (.lst [V.ref p4, V.ref p5, V.ref p6]) p7 = some (.lst [V.ref p4, V.ref p5, V.ref p6]) := upd_same
  have d1 := d1.same s7
  have d2 := d2.same s7
  have d3 := d3.same s7
  have a7 := a6.same s7
  generalize upd H6 p7 (.lst [V.ref p4, V.ref p5, V.ref p6]) = H7 at *
  walk_at "w"
  refine use_next a7.ls hn (by decide) (by omega) fun r8 H8 r80 r81 a8 => ?_
  walk_at "w"
  refine ⟨show 2 ≤ sizeLine by decide, fun p9 hp9 => ?_⟩
  have b8 := a8.same (same_new (o := .lst [V.int (1 + r8), V.int 20]) hp9)
  have hl9 : upd H8 p9 (.lst [V.int (1 + r8), V.int 20]) p9 = some (.lst [V.int (1 + r8), V.int 20]) := upd_same
  generalize upd H8 p9 (.lst [V.int (1 + r8), V.int 20]) = H9 at *
  walk_at "w"
  refine draw_ix b8.ls hn (by decide) (by omega) rfl hl9 fun v10 H10 hv10 a10 => ?_
  obtain ⟨n, rfl, n1, n2⟩ : ∃ n : Nat, v10 = .int (n : Nat) ∧ 1 ≤ n ∧ n ≤ 20 := by
    simp only [List.mem_cons, List.not_mem_nil, or_false] at hv10
    rcases hv10 with rfl | rfl
    · exact ⟨(1 + r8).toNat, by rw [Int.toNat_of_nonneg (by omega)], by omega, by omega⟩
    · exact ⟨20, rfl, by decide, by decide⟩
  have c10 := b8.trans a10
  have d1 := c10.dp a7.ls d1
  have d2 := c10.dp a7.ls d2
  have d3 := c10.dp a7.ls d3
  have hp10 := c10.sb _ _ (a7.ls.ne_lst hp7') hp7'
  have a10 := a7.trans c10
  walk_at "w"
  refine draw_ix a10.ls hn (by decide) (by omega) rfl hp10 fun v11 H11 hv11 a11 => ?_
  have d1 := a11.dp a10.ls d1
  have d2 := a11.dp a10.ls d2
  have d3 := a11.dp a10.ls d3
  have a11 := a10.trans a11
  obtain ⟨wh, dw, okw⟩ : ∃ wh : What, Dp K H11 v11 wh.data ∧ wh.Ok := by
    simp only [List.mem_cons, List.not_mem_nil, or_false] at hv11
    rcases hv11 with rfl | rfl | rfl
    · exact ⟨_, d1, on1, hs, he⟩
    · exact ⟨_, d2, on1, ft.1, ft.2.1, ft.2.2.1, ft.2.2.2, he⟩
    · exact ⟨_, d3, on1⟩
  walk_at "w"
  refine ⟨show 4 ≤ sizeLine by decide, fun p12 hp12 => ?_⟩
  refine q _ _ ⟨.word z n wh, .tup (.inl (.inl upd_same)) (.cons (.str _) (.cons (.str _) (.cons (.int _) (.cons (dw.same (same_new hp12)) .nil)))), hz, n1, n2, okw⟩ ((a11.same (same_new hp12)).le (by omega))
theorem ok__law_word_fact (T : Txt K mg) (c__law_next : Kp P w K mg base CX0 1 "_law_next" ["_law_state", "_law_many"] (sp__law_next K)) (c__law_pair : Kp P w K mg base CX0 2 "_law_pair" ["_law_state"] (sp__law_pair K)) (c__law_part : Kp P w K mg base CX0 2 "_law_part" ["_law_state"] (sp__law_part K)) (c__law_sum : Kp P w K mg base CX0 2 "_law_sum" ["_law_state"] (sp__law_sum K)) : Kp P w K mg base CX0 3 "_law_word_fact" ["_law_state", "_law_name_here"] (sp__law_word_fact K) := by
  obtain ⟨fd, F⟩ := T.c.def_ 36 (d := d__law_word_fact) rfl
  refine ⟨⟨_, fd, T.g__law_word_fact, F.kp, F.bindsN fun _ _ _ _ _ _ us hl => match us, hl with | [_, _], _ => rfl, F.ok sc__law_word_fact Sp2.len (fun cdv A outer s H vs Q E hr h => ?_)⟩⟩
  obtain ⟨v0, v1, rfl, h⟩ := h
  refine ⟨t__law_word_fact K, PSs.nox (?_), pure__law_word_fact T h⟩
  exact (pss_cons (ps_asg (pe_cK c__law_pair (hr.mono (by decide)) rfl (pa_cons (pv 0) pa_nil)) (pg_tup rfl (pgs_cons (pg_name (i := 2) sc__law_word_fact.nd rfl (by first | exact Or.inl rfl | exact Or.inr rfl)) (pgs_cons (pg_name (i := 3) sc__law_word_fact.nd rfl (by first | exact Or.inl rfl | exact Or.inr rfl)) pgs_nil))))
      (pss_cons (ps_set (i := 3) sc__law_word_fact.nd rfl (by first | exact Or.inl rfl | exact Or.inr rfl) (pe_ixA hr (pe_lst (pa_cons pe_non (pa_cons (pv 3) pa_nil))) (pe_cK c__law_next (hr.mono (by decide)) rfl (pa_cons (pv 0) (pa_cons pe_int pa_nil))) (fun _ _ => rfl)))
      (pss_cons (ps_set (i := 4) sc__law_word_fact.nd rfl (by first | exact Or.inl rfl | exact Or.inr rfl) (pe_lst (pa_cons (pe_tup (pa_cons pe_str (pa_cons (pv 2) (pa_cons (pe_cK c__law_sum (hr.mono (by decide)) rfl (pa_cons (pv 0) pa_nil)) (pa_cons (pv 3) pa_nil))))) (pa_cons (pe_tup (pa_cons pe_str (pa_cons (pv 2) (pa_cons (pe_cK c__law_part (hr.mono (by decide)) rfl (pa_cons (pv 0) pa_nil)) (pa_cons (pv 3) pa_nil))))) (pa_cons (pe_tup (pa_cons pe_str (pa_cons (pv 2) pa_nil))) pa_nil)))))
      (pss_one (ps_ret (pe_tup (pa_cons pe_str (pa_cons (pv 1) (pa_cons (pe_ixA hr (pe_lst (pa_cons (pe_op op_addA pe_int (pe_cK c__law_next (hr.mono (by decide)) rfl (pa_cons (pv 0) (pa_cons pe_int pa_nil)))) (pa_cons pe_int pa_nil))) (pe_cK c__law_next (hr.mono (by decide)) rfl (pa_cons (pv 0) (pa_cons pe_int pa_nil))) (fun _ _ => rfl)) (pa_cons (pe_ixA hr (pv 4) (pe_cK c__law_next (hr.mono (by decide)) rfl (pa_cons (pv 0) (pa_cons pe_int pa_nil))) (fun _ _ => rfl)) pa_nil))))))))))
end
end K02
set_option Elab.async false
set_option linter.all false
set_option maxRecDepth 100000
set_option maxHeartbeats 4000000
namespace K02
open PySem PySem.Spec PyProof.Rows L2 My
section
variable {P : Program} {w : World} {K : PySem.W.Frag} {mg : Str → Option Value} {base : Heap}
theorem st_addT {a b : Addr} {xs ys : List V} {H : Hp} {Q : VK} (ha : SqT K H a xs) (hb : SqT K H b ys) (nx : xs ≠ []) (ny : ys ≠ []) (hz : xs.length + ys.length ≤ 1000000) (q : ∀ p, H p = none → Q (.ref p) (upd H p (.tup (xs ++ ys)))) : rAddA K (.ref a) (.ref b) H Q :=
  .inr (.inr (.inr ⟨a, b, xs, ys, rfl, rfl, ha, hb, nx, small _ hz, fun e => absurd e ny, fun _ => q⟩))
def sp__law_fact (K : PySem.W.Frag) : Sp := Sp1 (pr_draws K 80000000 20 (factV K))
def t__law_fact_0 (K : PySem.W.Frag) : TS :=
  (tRet (tIf (tTest (tOp (rEqA K) (tVar 1) (tC (.int 8)))) (tTup (tCons (tC (.str "unfit")) (tCons (tVar 2) (tCons (tVar 3) tNil)))) (tCall (sp__law_word_fact K) [] E0 (tCons (tVar 0) (tCons (tVar 3) tNil)))))
def t__law_fact_1 (K : PySem.W.Frag) : TS :=
  (tSeq (tIfS (tTest (tOp (rEqA K) (tVar 1) (tC (.int 7)))) (tRet (tTup (tCons (tC (.str "owes")) (tCons (tVar 2) (tCons (tIxA K (tLst (tCons (tVar 2) (tCons (tVar 3) tNil))) (tCall (sp__law_next K) [] E0 (tCons (tVar 0) (tCons (tC (.int 2)) tNil)))) (tCons (tCall (sp__law_sum K) [] E0 (tCons (tVar 0) tNil)) (tCons (tOp (rAddA K) (tC (.int 1)) (tCall (sp__law_next K) [] E0 (tCons (tVar 0) (tCons (tC (.int 9)) tNil)))) tNil))))))) tNext)
  (t__law_fact_0 K))
def t__law_fact_2 (K : PySem.W.Frag) : TS :=
  (tSeq (tIfS (tTest (tOp (rEqA K) (tVar 1) (tC (.int 6)))) (tRet (tTup (tCons (tC (.str "gave")) (tCons (tVar 2) (tCons (tVar 3) (tCons (tCall (sp__law_sum K) [] E0 (tCons (tVar 0) tNil)) (tCons (tCall (sp__law_day K) [] E0 (tCons (tVar 0) tNil)) tNil))))))) tNext)
  (t__law_fact_1 K))
def t__law_fact_3 (K : PySem.W.Frag) : TS :=
  (tSeq (tIfS (tTest (tOp (rEqA K) (tVar 1) (tC (.int 5)))) (tRet (tTup (tCons (tC (.str "owns")) (tCons (tVar 2) (tCons (tCall (sp__law_sum K) [] E0 (tCons (tVar 0) tNil)) tNil))))) tNext)
  (t__law_fact_2 K))
def t__law_fact_4 (K : PySem.W.Frag) : TS :=
  (tSeq (tIfS (tTest (tOp (rEqA K) (tVar 1) (tC (.int 4)))) (tRet (tTup (tCons (tC (.str "died")) (tCons (tVar 2) (tCons (tCall (sp__law_day K) [] E0 (tCons (tVar 0) tNil)) tNil))))) tNext)
  (t__law_fact_3 K))
def t__law_fact_5 (K : PySem.W.Frag) : TS :=
  (tSeq (tIfS (tTest (tOp rLtA (tVar 1) (tC (.int 4)))) (tRet (tOp (rAddA K) (tOp (rAddA K) (tTup (tCons (tIxA K (tLst (tCons (tC (.str "joined")) (tCons (tC (.str "parted")) tNil))) (tOp rSubI (tVar 1) (tC (.int 2)))) tNil)) (tVar 4)) (tTup (tCons (tCall (sp__law_day K) [] E0 (tCons (tVar 0) tNil)) tNil)))) tNext)
  (t__law_fact_4 K))
def t__law_fact_6 (K : PySem.W.Frag) : TS :=
  (tSeq (tIfS (tTest (tOp rLtA (tVar 1) (tC (.int 2)))) (tSeq (tAsg (tCall (sp__law_name K) [] E0 (tCons (tVar 0) (tCons (tCall (sp__law_next K) [] E0 (tCons (tVar 0) (tCons (tC (.int 12)) tNil))) tNil))) (gName 5))
  (tSeq (tAsg (tIxA K (tLst (tCons (tTup tNil) (tCons (tTup (tCons (tVar 2) tNil)) (tCons (tVar 4) tNil)))) (tOp (rAddA K) (tVar 1) (tCall (sp__law_next K) [] E0 (tCons (tVar 0) (tCons (tOp rSubI (tC (.int 3)) (tVar 1)) tNil))))) (gName 6))
  (tRet (tTup (tCons (tIxA K (tLst (tCons (tC (.str "born")) (tCons (tC (.str "taken")) tNil))) (tVar 1)) (tCons (tVar 5) (tCons (tCall (sp__law_day K) [] E0 (tCons (tVar 0) tNil)) (tCons (tVar 6) tNil)))))))) tNext)
  (t__law_fact_5 K))
def t__law_fact (K : PySem.W.Frag) : TS :=
  (tSeq (tAsg (tCall (sp__law_next K) [] E0 (tCons (tVar 0) (tCons (tC (.int 10)) tNil))) (gName 1))
  (tSeq (tAsg (tCall (sp__law_pair K) [] E0 (tCons (tVar 0) tNil)) (gTup K 2 (gCons (gName 2) (gCons (gName 3) gNil))))
  (tSeq (tAsg (tCB (rTupleOf K) (tCons (tCB (rSortedA K) (tCons (tLst (tCons (tVar 2) (tCons (tVar 3) tNil))) tNil)) tNil)) (gName 4))
  (t__law_fact_6 K))))
/-- what stands behind the first draws -/
structure FC (K : PySem.W.Frag) (H0 : Hp) (st : Addr) (ns : List Int) (m : Int) (H : Hp) (o1 o2 : Str) (pb : Addr) (a b : Str) : Prop where
  n1 : isName o1 = true
  n2 : isName o2 = true
  ne : o1 ≠ o2
  na : isName a = true
  nb : isName b = true
  ab : a ≠ b
  so : sortedS [a, b] = true
  hb : H pb = some (.tup [.str a, .str b])
  hn : ns.length ≤ 63
  hm : m ≤ 80000100
  adv : Adv K st ns m H0 H
section
variable {H0 H : Hp} {st pb : Addr} {ns : List Int} {m : Int} {o1 o2 a b : Str} {n : Int} {Q : VK} {D : Ends}
abbrev fst (st pb : Addr) (n : Int) (o1 o2 : Str) : L2.St := [some (.ref st), some (.int n), some (.str o1), some (.str o2), some (.ref pb), none, none]
abbrev fen (Q : VK) : Ends := ⟨fun _ H' => Q .non H', Q, fun _ _ => False, fun _ _ => False⟩
theorem fact0 (T : Txt K mg) (c : FC K H0 st ns m H o1 o2 pb a b) (q : ∀ v H', factV K v H' → Adv K st ns (m + 16) H0 H' → Q v H') : t__law_fact_0 K (fen Q) (fst st pb n o1 o2) H := by
  unfold t__law_fact_0
  walk_at "w"
  refine ite2 (fun h => ?_) (fun h => ?_)
  · walk_at "w"
    refine ⟨show 3 ≤ sizeLine by decide, fun p hp => ?_⟩
    exact q _ _ ⟨.unfit o1 o2, .tup (.inl (.inl upd_same)) (.cons (.str _) (.cons (.str _) (.cons (.str _) .nil))), c.n1, c.n2, c.ne⟩ ((c.adv.same (same_new hp)).le (by omega))
  · walk_at "w"
    exact ⟨_, _, rfl, st, ns, m, o2, rfl, rfl, c.n2, c.hn, c.adv.ls, by have := c.hm; omega, fun v H' f a2 => q v H' f ((c.adv.trans a2).le (by omega))⟩
theorem fact1 (T : Txt K mg) (c : FC K H0 st ns m H o1 o2 pb a b) (q : ∀ v H', factV K v H' → Adv K st ns (m + 16) H0 H' → Q v H') : t__law_fact_1 K (fen Q) (fst st pb n o1 o2) H := by
  have hm := c.hm
  unfold t__law_fact_1
  walk_at "w"
  refine ite2 (fun h => ?_) (fun h => ?_)
  · walk_at "w"
    refine ⟨show 2 ≤ sizeLine by decide, fun p2 hp2 => ?_⟩
    have a2 := c.adv.same (same_new (o := .lst [V.str o1, V.str o2]) hp2)
    walk_at "w"
    refine draw_ix a2.ls c.hn (by decide) (by omega) rfl upd_same fun v H3 hv a3 => ?_
    obtain ⟨z, rfl, hz⟩ : ∃ z : Str, v = .str z ∧ isName z = true := by
      simp only [List.mem_cons, List.not_mem_nil, or_false] at hv
      rcases hv with rfl | rfl
      · exact ⟨_, rfl, c.n1⟩
      · exact ⟨_, rfl, c.n2⟩
    have a3 := a2.trans a3
    walk_at "w"
    refine use_draws (c := 3) a3.ls c.hn (by omega) fun v1 H4 ⟨s, e, hs⟩ a4 => ?_
    subst e
    have a4 := a3.trans a4
    walk_at "w"
    refine use_next a4.ls c.hn (by decide) (by omega) fun r5 H5 r50 r51 a5 => ?_
    have a5 := a4.trans a5
    obtain ⟨rk, hrk⟩ : ∃ k : Nat, 1 + r5 = ((k : Nat) : Int) := ⟨(1 + r5).toNat, by rw [Int.toNat_of_nonneg (by omega)]⟩
    walk_at "w"
    rw [hrk]
    refine ⟨show 5 ≤ sizeLine by decide, fun p6 hp6 => ?_⟩
    exact q _ _ ⟨.owes o1 z s rk, .tup (.inl (.inl upd_same)) (.cons (.str _) (.cons (.str _) (.cons (.str _) (.cons (.int _) (.cons (.int _) .nil))))), c.n1, hz, hs, by omega, by omega⟩ ((a5.same (same_new hp6)).le (by omega))
  · walk_at "w"
    exact fact0 T c q
theorem fact2 (T : Txt K mg) (c : FC K H0 st ns m H o1 o2 pb a b) (q : ∀ v H', factV K v H' → Adv K st ns (m + 16) H0 H' → Q v H') : t__law_fact_2 K (fen Q) (fst st pb n o1 o2) H := by
  have hm := c.hm
  unfold t__law_fact_2
  walk_at "w"
  refine ite2 (fun h => ?_) (fun h => ?_)
  · walk_at "w"
    refine use_draws (c := 3) c.adv.ls c.hn (by omega) fun v1 H4 ⟨s, e, hs⟩ a4 => ?_
    subst e
    have a4 := c.adv.trans a4
    walk_at "w"
    refine use_draws (c := 3) a4.ls c.hn (by omega) fun v1 H5 ⟨d, e, hd⟩ a5 => ?_
    subst e
    have a5 := a4.trans a5
    walk_at "w"
    refine ⟨show 5 ≤ sizeLine by decide, fun p6 hp6 => ?_⟩
    exact q _ _ ⟨.gave o1 o2 s d, .tup (.inl (.inl upd_same)) (.cons (.str _) (.cons (.str _) (.cons (.str _) (.cons (.int _) (.cons (.int _) .nil))))), c.n1, c.n2, c.ne, hs, hd⟩ ((a5.same (same_new hp6)).le (by omega))
  · walk_at "w"
    exact fact1 T c q
theorem fact3 (T : Txt K mg) (c : FC K H0 st ns m H o1 o2 pb a b) (q : ∀ v H', factV K v H' → Adv K st ns (m + 16) H0 H' → Q v H') : t__law_fact_3 K (fen Q) (fst st pb n o1 o2) H := by
  have hm := c.hm
  unfold t__law_fact_3
  walk_at "w"
  refine ite2 (fun h => ?_) (fun h => ?_)
  · walk_at "w"
    refine use_draws (c := 3) c.adv.ls c.hn (by omega) fun v1 H4 ⟨s, e, hs⟩ a4 => ?_
    subst e
    have a4 := c.adv.trans a4
    walk_at "w"
    refine ⟨show 3 ≤ sizeLine by decide, fun p6 hp6 => ?_⟩
    exact q _ _ ⟨.owns o1 s, .tup (.inl (.inl upd_same)) (.cons (.str _) (.cons (.str _) (.cons (.int _) .nil))), c.n1, hs⟩ ((a4.same (same_new hp6)).le (by omega))
  · walk_at "w"
    exact fact2 T c q
theorem fact4 (T : Txt K mg) (c : FC K H0 st ns m H o1 o2 pb a b) (q : ∀ v H', factV K v H' → Adv K st ns (m + 16) H0 H' → Q v H') : t__law_fact_4 K (fen Q) (fst st pb n o1 o2) H := by
  have hm := c.hm
  unfold t__law_fact_4
  walk_at "w"
  refine ite2 (fun h => ?_) (fun h => ?_)
  · walk_at "w"
    refine use_draws (c := 3) c.adv.ls c.hn (by omega) fun v1 H4 ⟨s, e, hs⟩ a4 => ?_
    subst e
    have a4 := c.adv.trans a4
    walk_at "w"
    refine ⟨show 3 ≤ sizeLine by decide, fun p6 hp6 => ?_⟩
    exact q _ _ ⟨.died o1 s, .tup (.inl (.inl upd_same)) (.cons (.str _) (.cons (.str _) (.cons (.int _) .nil))), c.n1, hs⟩ ((a4.same (same_new hp6)).le (by omega))
  · walk_at "w"
    exact fact3 T c q
theorem fact5 (T : Txt K mg) (c : FC K H0 st ns m H o1 o2 pb a b) (h2 : 2 ≤ n) (q : ∀ v H', factV K v H' → Adv K st ns (m + 16) H0 H' → Q v H') : t__law_fact_5 K (fen Q) (fst st pb n o1 o2) H := by
  have hm := c.hm
  unfold t__law_fact_5
  walk_at "w"
  refine ite2 (fun h => ?_) (fun h => ?_)
  · have h4 : n < 4 := of_decide_eq_true h
    walk_at "w"
    refine ⟨show 2 ≤ sizeLine by decide, fun p2 hp2 => ?_⟩
    have a2 := c.adv.same (same_new (o := .lst [V.str "joined", V.str "parted"]) hp2)
    have hb := same_new (o := .lst [V.str "joined", V.str "parted"]) hp2 _ _ c.hb
    obtain ⟨tk, e⟩ : ∃ tk : Bool, atI [V.str "joined", V.str "parted"] (n - 2) = some (.str (if tk then "parted" else "joined")) := by
      have : n = 2 ∨ n = 3 := by omega
      rcases this with rfl | rfl
      · exact ⟨false, rfl⟩
      · exact ⟨true, rfl⟩
    walk_at "w"
    refine st_ix_list (SqL.of upd_same) e ?_
    generalize upd H p2 (.lst [V.str "joined", V.str "parted"]) = H2 at *
    walk_at "w"
    refine ⟨show 1 ≤ sizeLine by decide, fun p3 hp3 => ?_⟩
    have s3 := same_new (o := .tup [V.str (if tk then "parted" else "joined")]) hp3
    have a3 := a2.same s3
    have hb := s3 _ _ hb
    have h3 : upd H2 p3 (.tup [V.str (if tk then "parted" else "joined")]) p3 = some (.tup [V.str (if tk then "parted" else "joined")]) := upd_same
    generalize upd H2 p3 (.tup [V.str (if tk then "parted" else "joined")]) = H3 at *
    walk_at "w"
    refine st_addT (.inl (.inl h3)) (.inl (.inl hb)) (by simp) (by simp) (by simp) fun p4 hp4 => ?_
    have s4 := same_new (o := .tup ([V.str (if tk then "parted" else "joined")] ++ [V.str a, V.str b])) hp4
    have a4 := a3.same s4
    have h4' : upd H3 p4 (.tup ([V.str (if tk then "parted" else "joined")] ++ [V.str a, V.str b])) p4 = some (.tup ([V.str (if tk then "parted" else "joined")] ++ [V.str a, V.str b])) := upd_same
    generalize upd H3 p4 (.tup ([V.str (if tk then "parted" else "joined")] ++ [V.str a, V.str b])) = H4 at *
    walk_at "w"
    refine use_draws (c := 3) a4.ls c.hn (by omega) fun v1 H5 ⟨d, e5, hd⟩ a5 => ?_
    subst e5
    have n4 : p4 ≠ st := fun e => by
      obtain ⟨kvs, z⟩ := a4.ls.at
      rw [← e, h4'] at z; cases z
    have h5 := a5.sb _ _ n4 h4'
    have a5 := a4.trans a5
    walk_at "w"
    refine ⟨show 1 ≤ sizeLine by decide, fun p6 hp6 => ?_⟩
    have s6 := same_new (o := .tup [V.int (d : Nat)]) hp6
    refine st_addT (.inl (.inl (s6 _ _ h5))) (.inl (.inl upd_same)) (by simp) (by simp) (by simp) fun p7 hp7 => ?_
    exact q _ _ ⟨.two tk a b d, .tup (.inl (.inl upd_same)) (.cons (.str _) (.cons (.str _) (.cons (.str _) (.cons (.int _) .nil)))), c.na, c.nb, c.ab, c.so, hd⟩ (((a5.same s6).same (same_new hp7)).le (by omega))
  · walk_at "w"
    exact fact4 T c q
theorem fact6 (T : Txt K mg) (c : FC K H0 st ns m H o1 o2 pb a b) (h0 : 0 ≤ n) (q : ∀ v H', factV K v H' → Adv K st ns (m + 16) H0 H' → Q v H') : t__law_fact_6 K (fen Q) (fst st pb n o1 o2) H := by
  have hm := c.hm
  unfold t__law_fact_6
  walk_at "w"
  refine ite2 (fun h => ?_) (fun h => ?_)
  · have h2 : n < 2 := of_decide_eq_true h
    walk_at "w"
    refine use_next c.adv.ls c.hn (by decide) (by omega) fun r1 H1 r10 r11 a1 => ?_
    have n1 : pb ≠ st := fun e => by
      obtain ⟨kvs, z⟩ := c.adv.ls.at
      rw [← e, c.hb] at z; cases z
    have hb := a1.sb _ _ n1 c.hb
    have a1 := c.adv.trans a1
    obtain ⟨i, hi⟩ : ∃ k : Nat, r1 = ((k : Nat) : Int) := ⟨r1.toNat, by rw [Int.toNat_of_nonneg r10]⟩
    walk_at "w"
    refine use_nm (k := i) a1.ls c.hn hi (by omega) fun H2 s2 => ?_
    have a2 := a1.same s2
    have hb := s2 _ _ hb
    have hz := name_ok ns i
    generalize nameOf ns i = z at *
    walk_at "w"
    refine ⟨Nat.zero_le _, fun p3 hp3 => ?_⟩
    have s3 := same_new (o := .tup []) hp3
    have a3 := a2.same s3
    have hb := s3 _ _ hb
    have d0 : Dp K (upd H2 p3 (.tup [])) (.ref p3) (.tuple (([] : List Str).map PyData.str)) := .tup (.inl (.inl upd_same)) .nil
    generalize upd H2 p3 (.tup []) = H3 at *
    walk_at "w"
    refine ⟨show 1 ≤ sizeLine by decide, fun p4 hp4 => ?_⟩
    have s4 := same_new (o := .tup [V.str o1]) hp4
    have a4 := a3.same s4
    have hb := s4 _ _ hb
    have d0 := d0.same s4
    have d1 : Dp K (upd H3 p4 (.tup [V.str o1])) (.ref p4) (.tuple (([o1] : List Str).map PyData.str)) := .tup (.inl (.inl upd_same)) (.cons (.str _) .nil)
    generalize upd H3 p4 (.tup [V.str o1]) = H4 at *
    walk_at "w"
    refine ⟨show 3 ≤ sizeLine by decide, fun p5 hp5 => ?_⟩
    have s5 := same_new (o := .lst [V.ref p3, V.ref p4, V.ref pb]) hp5
    have a5 := a4.same s5
    have hb := s5 _ _ hb
    have d0 := d0.same s5
    have d1 := d1.same s5
    have h5 : upd H4 p5 (.lst [V.ref p3, V.ref p4, V.ref pb]) p5 = some (.lst [V.ref p3, V.ref p4, V.ref pb]) := upd_same
    generalize upd H4 p5 (.lst [V.ref p3, V.ref p4, V.ref pb]) = H5 at *
    have d2 : Dp K H5 (.ref pb) (.tuple (([a, b] : List Str).map PyData.str)) := .tup (.inl (.inl hb)) (.cons (.str _) (.cons (.str _) .nil))
    walk_at "w"
    refine use_next a5.ls c.hn (by omega) (by omega) fun r6 H6 r60 r61 a6 => ?_
    have d0 := a6.dp a5.ls d0
    have d1 := a6.dp a5.ls d1
    have d2 := a6.dp a5.ls d2
    have h6 := a6.sb _ _ (a5.ls.ne_lst h5) h5
    have a6 := a5.trans a6
    obtain ⟨v, ps, e, dv, hnm, hln, hnd, hso, hnt⟩ : ∃ (v : V) (ps : List Str), atI [V.ref p3, V.ref p4, V.ref pb] (n + r6) = some v ∧ Dp K H6 v (.tuple (ps.map PyData.str)) ∧ (∀ p ∈ ps, isName p = true) ∧ ps.length ≤ 2 ∧ ps.Nodup ∧ sortedS ps = true ∧ (n = 1 → ps ≠ []) := by
      have hx : n + r6 = 0 ∧ n = 0 ∨ n + r6 = 1 ∨ n + r6 = 2 := by omega
      rcases hx with ⟨hx, hx2⟩ | hx | hx
      · rw [hx]
        exact ⟨_, [], rfl, d0, fun _ h => (by cases h), by decide, List.nodup_nil, rfl, fun h => by omega⟩
      · rw [hx]
        exact ⟨_, [o1], rfl, d1, fun p h => (by rw [List.mem_singleton.mp h]; exact c.n1), (by simp), (by simp), rfl, fun _ => (by simp)⟩
      · rw [hx]
        refine ⟨_, [a, b], rfl, d2, fun p h => ?_, (by simp), ?_, c.so, fun _ => (by simp)⟩
        · simp only [List.mem_cons, List.not_mem_nil, or_false] at h
          rcases h with rfl | rfl
          · exact c.na
          · exact c.nb
        · have := c.ab
          simp [this]
    walk_at "w"
    refine st_ix_list (SqL.of h6) e ?_
    walk_at "w"
    refine ⟨show 2 ≤ sizeLine by decide, fun p7 hp7 => ?_⟩
    have s7 := same_new (o := .lst [V.str "born", V.str "taken"]) hp7
    have a7 := a6.same s7
    have dv := dv.same s7
    obtain ⟨tk, e, htk⟩ : ∃ tk : Bool, atI [V.str "born", V.str "taken"] n = some (.str (if tk then "taken" else "born")) ∧ (tk = true → n = 1) := by
      have : n = 0 ∨ n = 1 := by omega
      rcases this with rfl | rfl
      · exact ⟨false, rfl, fun h => by cases h⟩
      · exact ⟨true, rfl, fun _ => rfl⟩
    walk_at "w"
    refine st_ix_list (SqL.of upd_same) e ?_
    generalize upd H6 p7 (.lst [V.str "born", V.str "taken"]) = H7 at *
    walk_at "w"
    refine use_draws (c := 3) a7.ls c.hn (by omega) fun v1 H8 ⟨d, e8, hd⟩ a8 => ?_
    subst e8
    have dv := a8.dp a7.ls dv
    have a8 := a7.trans a8
    walk_at "w"
    refine ⟨show 4 ≤ sizeLine by decide, fun p9 hp9 => ?_⟩
    exact q _ _ ⟨.life tk z d ps, .tup (.inl (.inl upd_same)) (.cons (.str _) (.cons (.str _) (.cons (.int _) (.cons (dv.same (same_new hp9)) .nil)))), hz, hd, hnm, hln, hnd, hso, fun h => hnt (htk h)⟩ ((a8.same (same_new hp9)).le (by omega))
  · have h2 : 2 ≤ n := by
      have : ¬ n < 2 := fun e => h (decide_eq_true e)
      omega
    walk_at "w"
    exact fact5 T c h2 q
theorem pure__law_fact (T : Txt K mg) {x : V} {H : Hp} {Q : VK} {E : XK} (h : pr_draws K 80000000 20 (factV K) x H Q E) : t__law_fact K { nx := fun _ H' => Q .non H', rt := Q } [some x, none, none, none, none, none, none] H := by
  obtain ⟨st, ns, m, rfl, hn, ls, hm, q⟩ := h
  unfold t__law_fact
  walk_at "w"
  refine use_next ls hn (by decide) (by omega) fun r1 H1 r10 r11 a1 => ?_
  walk_at "w"
  refine use_pr a1.ls hn (by omega) fun i j p H2 hi hj hij hp a2 => ?_
  have on1 := name_ok ns i
  have on2 := name_ok ns j
  have hne : nameOf ns i ≠ nameOf ns j := fun e => hij (name_inj (by omega) (by omega) e)
  generalize nameOf ns i = o1 at *
  generalize nameOf ns j = o2 at *
  have a2 := a1.trans a2
  refine w_gtup2 (.inl (.inl hp)) ?_
  walk_at "w"
  refine ⟨show 2 ≤ sizeLine by decide, fun p3 hp3 => ?_⟩
  have a3 := a2.same (same_new (o := .lst [V.str o1, V.str o2]) hp3)
  have h3 : upd H2 p3 (.lst [V.str o1, V.str o2]) p3 = some (.lst ([o1, o2].map V.str)) := upd_same
  generalize upd H2 p3 (.lst [V.str o1, V.str o2]) = H3 at *
  walk_at "w"
  refine .inr (.inl ⟨p3, [o1, o2], rfl, SqL.of h3, show 2 < 64 by decide, fun ys p4 hpm so hp4 => ?_⟩)
  have a4 := a3.same (same_new (o := .lst (ys.map V.str)) hp4)
  have h4 : upd H3 p4 (.lst (ys.map V.str)) p4 = some (.lst (ys.map V.str)) := upd_same
  generalize upd H3 p4 (.lst (ys.map V.str)) = H4 at *
  walk_at "w"
  refine ⟨p4, ys.map V.str, rfl, .inl ⟨SqL.of h4, fun p5 hp5 => ?_⟩⟩
  have a5 := a4.same (same_new (o := .tup (ys.map V.str)) hp5)
  have h5 : upd H4 p5 (.tup (ys.map V.str)) p5 = some (.tup (ys.map V.str)) := upd_same
  generalize upd H4 p5 (.tup (ys.map V.str)) = H5 at *
  obtain ⟨a, b, rfl⟩ : ∃ a b, ys = [a, b] := by
    have hl := hpm.length_eq
    match ys, hl with
    | [a, b], _ => exact ⟨a, b, rfl⟩
  have hab : a ≠ b := fun e => by
    have nd : [o1, o2].Nodup := by simp [hne]
    have := hpm.nodup_iff.mpr nd
    rw [e] at this
    simp at this
  have hma : ∀ x ∈ [a, b], isName x = true := fun x hx => by
    have := hpm.subset hx
    simp only [List.mem_cons, List.not_mem_nil, or_false] at this
    rcases this with rfl | rfl
    · exact on1
    · exact on2
  walk_at "w"
  exact fact6 T (n := r1) ⟨on1, on2, hne, hma a (by simp), hma b (by simp), hab, so, h5, hn, by omega, a5⟩ r10 fun v H' f a6 => q v H' f (a6.le (by omega))
end
theorem ok__law_fact (T : Txt K mg) (c__law_next : Kp P w K mg base CX0 1 "_law_next" ["_law_state", "_law_many"] (sp__law_next K)) (c__law_name : Kp P w K mg base CX0 1 "_law_name" ["_law_state", "_law_k"] (sp__law_name K)) (c__law_pair : Kp P w K mg base CX0 2 "_law_pair" ["_law_state"] (sp__law_pair K)) (c__law_day : Kp P w K mg base CX0 2 "_law_day" ["_law_state"] (sp__law_day K)) (c__law_sum : Kp P w K mg base CX0 2 "_law_sum" ["_law_state"] (sp__law_sum K)) (c__law_word_fact : Kp P w K mg base CX0 3 "_law_word_fact" ["_law_state", "_law_name_here"] (sp__law_word_fact K)) : Kp P w K mg base CX0 4 "_law_fact" ["_law_state"] (sp__law_fact K) := by
  obtain ⟨fd, F⟩ := T.c.def_ 37 (d := d__law_fact) rfl
  refine ⟨⟨_, fd, T.g__law_fact, F.kp, F.bindsN fun _ _ _ _ _ _ us hl => match us, hl with | [_], _ => rfl, F.ok sc__law_fact Sp1.len (fun cdv A outer s H vs Q E hr h => ?_)⟩⟩
  obtain ⟨v0, rfl, h⟩ := h
  refine ⟨t__law_fact K, PSs.nox (?_), pure__law_fact T h⟩
  exact (pss_cons (ps_set (i := 1) sc__law_fact.nd rfl (by first | exact Or.inl rfl | exact Or.inr rfl) (pe_cK c__law_next (hr.mono (by decide)) rfl (pa_cons (pv 0) (pa_cons pe_int pa_nil))))
      (pss_cons (ps_asg (pe_cK c__law_pair (hr.mono (by decide)) rfl (pa_cons (pv 0) pa_nil)) (pg_tup rfl (pgs_cons (pg_name (i := 2) sc__law_fact.nd rfl (by first | exact Or.inl rfl | exact Or.inr rfl)) (pgs_cons (pg_name (i := 3) sc__law_fact.nd rfl (by first | exact Or.inl rfl | exact Or.inr rfl)) pgs_nil))))
      (pss_cons (ps_set (i := 4) sc__law_fact.nd rfl (by first | exact Or.inl rfl | exact Or.inr rfl) (pe_callTy call_tuple_of (by rfl) T.n_tuple (by decide +kernel) (pa_cons (pe_callB call_sortedA (by rfl) T.n_sorted (by decide +kernel) (pa_cons (pe_lst (pa_cons (pv 2) (pa_cons (pv 3) pa_nil))) pa_nil)) pa_nil)))
      (pss_cons (ps_if (pt_cmpR op_ltA (pv 1) pe_int (nomark _)) (pss_cons (ps_set (i := 5) sc__law_fact.nd rfl (by first | exact Or.inl rfl | exact Or.inr rfl) (pe_cK c__law_name (hr.mono (by decide)) rfl (pa_cons (pv 0) (pa_cons (pe_cK c__law_next (hr.mono (by decide)) rfl (pa_cons (pv 0) (pa_cons pe_int pa_nil))) pa_nil))))
      (pss_cons (ps_set (i := 6) sc__law_fact.nd rfl (by first | exact Or.inl rfl | exact Or.inr rfl) (pe_ixA hr (pe_lst (pa_cons (pe_tup pa_nil) (pa_cons (pe_tup (pa_cons (pv 2) pa_nil)) (pa_cons (pv 4) pa_nil)))) (pe_op op_addA (pv 1) (pe_cK c__law_next (hr.mono (by decide)) rfl (pa_cons (pv 0) (pa_cons (pe_op op_sub pe_int (pv 1)) pa_nil)))) (fun _ _ => rfl)))
      (pss_one (ps_ret (pe_tup (pa_cons (pe_ixA hr (pe_lst (pa_cons pe_str (pa_cons pe_str pa_nil))) (pv 1) (fun _ _ => rfl)) (pa_cons (pv 5) (pa_cons (pe_cK c__law_day (hr.mono (by decide)) rfl (pa_cons (pv 0) pa_nil)) (pa_cons (pv 6) pa_nil))))))))) pss_nil)
      (pss_cons (ps_if (pt_cmpR op_ltA (pv 1) pe_int (nomark _)) (pss_one (ps_ret (pe_op op_addA (pe_op op_addA (pe_tup (pa_cons (pe_ixA hr (pe_lst (pa_cons pe_str (pa_cons pe_str pa_nil))) (pe_op op_sub (pv 1) pe_int) (fun _ _ => rfl)) pa_nil)) (pv 4)) (pe_tup (pa_cons (pe_cK c__law_day (hr.mono (by decide)) rfl (pa_cons (pv 0) pa_nil)) pa_nil))))) pss_nil)
      (pss_cons (ps_if (pt_cmpR (op_eqA hr) (pv 1) pe_int (nomark _)) (pss_one (ps_ret (pe_tup (pa_cons pe_str (pa_cons (pv 2) (pa_cons (pe_cK c__law_day (hr.mono (by decide)) rfl (pa_cons (pv 0) pa_nil)) pa_nil)))))) pss_nil)
      (pss_cons (ps_if (pt_cmpR (op_eqA hr) (pv 1) pe_int (nomark _)) (pss_one (ps_ret (pe_tup (pa_cons pe_str (pa_cons (pv 2) (pa_cons (pe_cK c__law_sum (hr.mono (by decide)) rfl (pa_cons (pv 0) pa_nil)) pa_nil)))))) pss_nil)
      (pss_cons (ps_if (pt_cmpR (op_eqA hr) (pv 1) pe_int (nomark _)) (pss_one (ps_ret (pe_tup (pa_cons pe_str (pa_cons (pv 2) (pa_cons (pv 3) (pa_cons (pe_cK c__law_sum (hr.mono (by decide)) rfl (pa_cons (pv 0) pa_nil)) (pa_cons (pe_cK c__law_day (hr.mono (by decide)) rfl (pa_cons (pv 0) pa_nil)) pa_nil)))))))) pss_nil)
      (pss_cons (ps_if (pt_cmpR (op_eqA hr) (pv 1) pe_int (nomark _)) (pss_one (ps_ret (pe_tup (pa_cons pe_str (pa_cons (pv 2) (pa_cons (pe_ixA hr (pe_lst (pa_cons (pv 2) (pa_cons (pv 3) pa_nil))) (pe_cK c__law_next (hr.mono (by decide)) rfl (pa_cons (pv 0) (pa_cons pe_int pa_nil))) (fun _ _ => rfl)) (pa_cons (pe_cK c__law_sum (hr.mono (by decide)) rfl (pa_cons (pv 0) pa_nil)) (pa_cons (pe_op op_addA pe_int (pe_cK c__law_next (hr.mono (by decide)) rfl (pa_cons (pv 0) (pa_cons pe_int pa_nil)))) pa_nil)))))))) pss_nil)
      (pss_one (ps_ret (pe_ifExp (pt_cmpR (op_eqA hr) (pv 1) pe_int (nomark _)) (pe_tup (pa_cons pe_str (pa_cons (pv 2) (pa_cons (pv 3) pa_nil)))) (pe_cK c__law_word_fact (hr.mono (by decide)) rfl (pa_cons (pv 0) (pa_cons (pv 3) pa_nil)))))))))))))))
end
end K02
set_option Elab.async false
set_option linter.all false
set_option maxRecDepth 100000
set_option maxHeartbeats 4000000
namespace K02
open PySem PySem.Spec PyProof.Rows L2 My
section
variable {P : Program} {w : World} {K : PySem.W.Frag} {mg : Str → Option Value} {base : Heap}
/-! ### _law_fact_words -/
def pr_words (K : PySem.W.Frag) : V → Hp → VK → XK → Prop := fun x H Q _ => ∃ (f : Fact), Dp K H x f.data ∧ f.Ok ∧ ∀ p H', Same H H' → H p = none → H' p = some (.lst ((f.words false 1).map V.str)) → Q (.ref p) H'
def sp__law_fact_words (K : PySem.W.Frag) : Sp := Sp1 (pr_words K)
def t__law_fact_words_0 (K : PySem.W.Frag) : TS :=
  (tRet (tOp (rAddA K) (tVar 2) (tLc (iA K (tTup (tCons (tC (.str "else")) (tCons (tIxA K (tVar 1) (tC (.int 3))) tNil)))) (gName 4) (tB (tNotN (tIxA K (tVar 1) (tC (.int 3))))) (tVar 4) [4])))
def t__law_fact_words_1 (K : PySem.W.Frag) : TS :=
  (tSeq (tIfS (tTest (tOp (rEqA K) (tIxA K (tVar 1) (tC (.int 0))) (tC (.str "out")))) (tRet (tVar 2)) tNext)
  (tSeq (tAsg (tOp (rAddA K) (tVar 2) (tIf (tTest (tOp (rEqA K) (tIxA K (tVar 1) (tC (.int 0))) (tC (.str "sum")))) (tLst (tCons (tCB rStrB (tCons (tIxA K (tVar 1) (tC (.int 2))) tNil)) tNil)) (tLst (tCons (tCB rStrB (tCons (tIxA K (tIxA K (tVar 1) (tC (.int 2))) (tC (.int 0))) tNil)) (tCons (tC (.str "/")) (tCons (tCB rStrB (tCons (tIxA K (tIxA K (tVar 1) (tC (.int 2))) (tC (.int 1))) tNil)) tNil)))))) (gName 2))
  (t__law_fact_words_0 K)))
def t__law_fact_words (K : PySem.W.Frag) : TS :=
  (tSeq (tIfS (tTest (tOp (rInA K false) (tIxA K (tVar 0) (tC (.int 0))) (tTup (tCons (tC (.str "born")) (tCons (tC (.str "taken")) tNil))))) (tRet (tOp (rAddA K) (tOp (rAddA K) (tLst (tCons (tIxA K (tVar 0) (tC (.int 0))) (tCons (tIxA K (tVar 0) (tC (.int 1))) (tCons (tCB rStrB (tCons (tIxA K (tVar 0) (tC (.int 2))) tNil)) tNil)))) (tOp rMulA (tLst (tCons (tC (.str "of")) tNil)) (tCB rIntA (tCons (tOp (rNeA K) (tIxA K (tVar 0) (tC (.int 3))) (tTup tNil)) tNil)))) (tCB (rListOf K) (tCons (tIxA K (tVar 0) (tC (.int 3))) tNil)))) tNext)
  (tSeq (tIfS (tTest (tOp (rNeA K) (tIxA K (tVar 0) (tC (.int 0))) (tC (.str "word")))) (tRet (tLc (iA K (tVar 0)) (gName 3) tYes (tCB rStrB (tCons (tVar 3) tNil)) [3])) tNext)
  (tSeq (tAsg (tIxA K (tVar 0) (tC (.int 3))) (gName 1))
  (tSeq (tAsg (tLst (tCons (tC (.str "word")) (tCons (tIxA K (tVar 0) (tC (.int 1))) (tCons (tCB rStrB (tCons (tIxA K (tVar 0) (tC (.int 2))) tNil)) (tCons (tIxA K (tVar 1) (tC (.int 0))) (tCons (tIxA K (tVar 1) (tC (.int 1))) tNil)))))) (gName 2))
  (t__law_fact_words_1 K)))))
abbrev wst (x pw g : Addr) : L2.St := [some (.ref x), some (.ref pw), some (.ref g), none, none]
abbrev wen (Q : VK) : Ends := ⟨fun _ H' => Q .non H', Q, fun _ _ => False, fun _ _ => False⟩
theorem words_fin (T : Txt K mg) {x pw g : Addr} {xs : List V} {am : List Str} {e : Option Str} {H H4 : Hp} {Q : VK} (s4 : Same H H4) (hg4 : H4 g = some (.lst (am.map V.str))) (hal : am.length ≤ 100) (hw4 : SqT K H4 pw xs) (e3 : atI xs 3 = some (optV e))
    (q : ∀ p H', Same H H' → H p = none → H' p = some (.lst ((am ++ elseW e).map V.str)) → Q (.ref p) H') : t__law_fact_words_0 K (wen Q) (wst x pw g) H4 := by
  unfold t__law_fact_words_0
  walk_at "w"
  refine st_ix_tup hw4 e3 ?_
  walk_at "w"
  refine ⟨show 2 ≤ sizeLine by decide, fun u hu => ?_⟩
  have s5 : Same H4 (upd H4 u (.tup [V.str "else", optV e])) := same_new hu
  have hu5 : upd H4 u (.tup [V.str "else", optV e]) u = some (.tup [V.str "else", optV e]) := upd_same
  generalize upd H4 u (.tup [V.str "else", optV e]) = H5 at *
  have hw5 := same_sqT s5 hw4
  have hg5 := s5 _ _ hg4
  refine .inr (.inl ⟨u, rfl, ⟨_, .inl (.inl hu5)⟩, fun D hD => ?_⟩)
  refine lcv (walk_tup (xs := [V.str "else", optV e])) hD [V.str "else", optV e] rfl (show 2 ≤ 1000000 by decide) (fun H' s => same_sqT s (.inl (.inl hu5))) (fun _ => !e.isNone) (fun d => d) ?_ ?_
  · rintro i c y H6 H7 hi s6 ⟨rfl, hy⟩ k1 k2 hk1 hk2
    rw [hi] at hy
    cases hy
    walk_at "w"
    refine ⟨rfl, ?_⟩
    walk_at "w"
    refine st_ix_tup (same_sqT s6 hw5) e3 ?_
    walk_at "w"
    rw [opt_non]
    refine ite2 (fun h => ?_) (fun h => ?_)
    · walk_at "w"
      exact hk1 h _ (Same.refl _)
    · exact hk2 (by simpa using h) _ (Same.refl _)
  · intro H6 s6 h6
    have e6 : ([V.str "else", optV e].filter fun _ => !e.isNone).map (fun d => d) = (elseW e).map V.str := by cases e <;> rfl
    rw [e6] at h6
    have el := elseW_len e
    refine st_add_list (s6 _ _ hg5) h6 (by simp; omega) fun v hv => ?_
    refine q _ _ (((s4.trans s5).trans s6).trans (same_new hv)) (((s4.trans s5).trans s6).free hv) ?_
    rw [upd_same, ← List.map_append]
theorem words_kind (T : Txt K mg) {x pw g : Addr} {am : List Str} {wh : What} {H H2 : Hp} {Q : VK} (s2 : Same H H2) (hgn : H g = none) (hg : H2 g = some (.lst (am.map V.str))) (hal : am.length ≤ 10) (d : Dp K H2 (.ref pw) wh.data) (ok : wh.Ok)
    (q : ∀ p H', Same H H' → H p = none → H' p = some (.lst ((am ++ (wh.words 1).drop 2).map V.str)) → Q (.ref p) H') : t__law_fact_words_1 K (wen Q) (wst x pw g) H2 := by
  unfold t__law_fact_words_1
  cases wh with
  | out o =>
    obtain ⟨p', xs, e, hw, ds⟩ := d.tup_inv
    cases e
    obtain ⟨v0, _, rfl, d0, ds1⟩ := ds.cons_inv
    obtain ⟨v1, _, rfl, d1, ds2⟩ := ds1.cons_inv
    rw [ds2.nil_inv, d0.str_inv, d1.str_inv] at hw
    walk_at "w"
    refine st_ix_tup hw rfl ?_
    walk_at "w"
    rw [decide_eq_true rfl]
    walk_at "w"
    exact q _ _ s2 hgn (by rw [hg]; simp [What.words])
  | sum o s e =>
    obtain ⟨ho, hs, he⟩ := ok
    obtain ⟨p', xs, e, hw, ds⟩ := d.tup_inv
    cases e
    obtain ⟨v0, _, rfl, d0, ds1⟩ := ds.cons_inv
    obtain ⟨v1, _, rfl, d1, ds2⟩ := ds1.cons_inv
    obtain ⟨v2, _, rfl, d2, ds3⟩ := ds2.cons_inv
    obtain ⟨v3, _, rfl, d3, ds4⟩ := ds3.cons_inv
    rw [ds4.nil_inv, d0.str_inv, d1.str_inv, d2.int_inv, opt_inv d3] at hw
    walk_at "w"
    refine st_ix_tup hw rfl ?_
    walk_at "w"
    rw [decide_eq_false (by decide +kernel)]
    walk_at "w"
    refine st_ix_tup hw rfl ?_
    walk_at "w"
    rw [decide_eq_true rfl]
    walk_at "w"
    refine st_ix_tup hw rfl ?_
    walk_at "w"
    refine st_num (by omega) ?_
    walk_at "w"
    refine ⟨show 1 ≤ sizeLine by decide, fun u hu => ?_⟩
    have s3 : Same H2 (upd H2 u (.lst [V.str (numS s)])) := same_new hu
    refine st_add_list (s3 _ _ hg) upd_same (by rw [List.length_map]; show am.length + 1 ≤ _; omega) fun v hv => ?_
    walk_at "w"
    have s4 := (s2.trans s3).trans (same_new (o := .lst (am.map V.str ++ [V.str (numS s)])) hv)
    refine words_fin T (am := am ++ [numS s]) (e := e) s4 (by rw [upd_same, List.map_append]; rfl) (by rw [List.length_append]; show am.length + 1 ≤ _; omega) (same_sqT (s3.trans (same_new hv)) hw) rfl fun p H' s hp hp' => q p H' s hp ?_
    rw [hp', List.append_assoc]; rfl
  | part o t b e =>
    obtain ⟨ho, h1, h2, h3, hg', he⟩ := ok
    obtain ⟨p', xs, e, hw, ds⟩ := d.tup_inv
    cases e
    obtain ⟨v0, _, rfl, d0, ds1⟩ := ds.cons_inv
    obtain ⟨v1, _, rfl, d1, ds2⟩ := ds1.cons_inv
    obtain ⟨v2, _, rfl, d2, ds3⟩ := ds2.cons_inv
    obtain ⟨v3, _, rfl, d3, ds4⟩ := ds3.cons_inv
    rw [ds4.nil_inv, d0.str_inv, d1.str_inv, opt_inv d3] at hw
    obtain ⟨p2, ys, rfl, hp2, es⟩ := d2.tup_inv
    obtain ⟨u0, _, rfl, e0, es1⟩ := es.cons_inv
    obtain ⟨u1, _, rfl, e1, es2⟩ := es1.cons_inv
    rw [es2.nil_inv, e0.int_inv, e1.int_inv] at hp2
    walk_at "w"
    refine st_ix_tup hw rfl ?_
    walk_at "w"
    rw [decide_eq_false (by decide +kernel)]
    walk_at "w"
    refine st_ix_tup hw rfl ?_
    walk_at "w"
    rw [decide_eq_false (by decide +kernel)]
    walk_at "w"
    refine st_ix_tup hw rfl ?_
    walk_at "w"
    refine st_ix_tup hp2 rfl ?_
    refine st_num (by omega) ?_
    walk_at "w"
    refine st_ix_tup hw rfl ?_
    walk_at "w"
    refine st_ix_tup hp2 rfl ?_
    refine st_num (by omega) ?_
    walk_at "w"
    refine ⟨show 3 ≤ sizeLine by decide, fun u hu => ?_⟩
    have s3 : Same H2 (upd H2 u (.lst [V.str (numS t), V.str "/", V.str (numS b)])) := same_new hu
    refine st_add_list (s3 _ _ hg) upd_same (by rw [List.length_map]; show am.length + 3 ≤ _; omega) fun v hv => ?_
    walk_at "w"
    have s4 := (s2.trans s3).trans (same_new (o := .lst (am.map V.str ++ [V.str (numS t), V.str "/", V.str (numS b)])) hv)
    refine words_fin T (am := am ++ [numS t, "/", numS b]) (e := e) s4 (by rw [upd_same, List.map_append]; rfl) (by rw [List.length_append]; show am.length + 3 ≤ _; omega) (same_sqT (s3.trans (same_new hv)) hw) rfl fun p H' s hp hp' => q p H' s hp ?_
    have ew : (What.part o t b e).words 1 = [("part" : Str), o, numS t, "/", numS b] ++ elseW e := by
      show [("part" : Str), o, numS (1 * t), "/", numS (1 * b)] ++ elseW e = _
      rw [Nat.one_mul, Nat.one_mul]
    rw [hp', List.append_assoc, ew]; rfl
theorem rep_of (b : Bool) : (List.replicate ((if b = true then (1 : Int) else 0)).toNat [V.str "of"]).flatten = if b then [V.str "of"] else [] := by cases b <;> rfl
theorem pure__law_fact_words (T : Txt K mg) {x : V} {H : Hp} {Q : VK} {E : XK} (h : pr_words K x H Q E) : t__law_fact_words K { nx := fun _ H' => Q .non H', rt := Q } [some x, none, none, none, none] H := by
  obtain ⟨f, d, ok, q⟩ := h
  have flat : ∀ ds, Flat f ds → t__law_fact_words K { nx := fun _ H' => Q .non H', rt := Q } [some x, none, none, none, none] H := by
    intro ds F
    rw [F.data] at d
    obtain ⟨p, xs, rfl, hp, da⟩ := d.tup_inv
    obtain ⟨r, hr⟩ := F.head
    have h0 : atI xs 0 = some (.str f.tag) := by
      rw [hr] at da
      obtain ⟨v0, _, rfl, d0, _⟩ := da.cons_inv
      rw [d0.str_inv]
      exact atI_nat (show (V.str f.tag :: _)[0]? = some (V.str f.tag) from rfl)
    unfold t__law_fact_words
    walk_at "w"
    refine st_ix_tup hp h0 ?_
    walk_at "w"
    refine ⟨show 2 ≤ sizeLine by decide, fun j hj => ?_⟩
    refine st_in_tup (.inl (.inl upd_same)) rfl rfl ?_
    rw [ne_life F.rank]
    have s1 : Same H (upd H j (.tup [V.str "born", V.str "taken"])) := same_new hj
    generalize upd H j (.tup [V.str "born", V.str "taken"]) = H1 at *
    have hp1 := same_sqT s1 hp
    walk_at "w"
    refine st_ix_tup hp1 h0 ?_
    walk_at "w"
    rw [F.tag]
    walk_at "w"
    refine .inr (.inl ⟨p, rfl, ⟨_, hp1⟩, fun D hD => ?_⟩)
    refine lcv (walk_tup (xs := xs)) hD ds da.len (by have := F.len; omega) (fun H' s => same_sqT s hp1) (fun _ => true) (fun d => .str (leafS d)) ?_ ?_
    · rintro i c y H6 H7 hi s6 ⟨rfl, hy⟩ k1 k2 hk1 hk2
      obtain ⟨v, hv, dv⟩ := da.at hi
      rw [hy] at hv
      cases hv
      walk_at "w"
      refine ⟨rfl, ?_⟩
      walk_at "w"
      rcases F.leaf c (List.mem_of_getElem? hi) with ⟨z, rfl, hz⟩ | ⟨n, rfl, hn⟩
      · rw [dv.str_inv]
        exact st_str (hk1 rfl _ (Same.refl _))
      · rw [dv.int_inv]
        exact st_num (by omega) (hk1 rfl _ (Same.refl _))
    · intro H6 s6 h6
      rw [filter_yes] at h6
      have e1 : (ds.map fun d => V.str (leafS d)) = (f.words false 1).map V.str := by rw [← F.words, List.map_map]; rfl
      rw [e1] at h6
      exact q _ _ (s1.trans s6) (s1.free hD) h6
  cases f with
  | life t n dd ps =>
    obtain ⟨hn, hdd, hps, hpl, nd, so, ht⟩ := ok
    obtain ⟨p, xs, rfl, hp, ds⟩ := d.tup_inv
    obtain ⟨v0, _, rfl, d0, ds1⟩ := ds.cons_inv
    obtain ⟨v1, _, rfl, d1, ds2⟩ := ds1.cons_inv
    obtain ⟨v2, _, rfl, d2, ds3⟩ := ds2.cons_inv
    obtain ⟨v3, _, rfl, d3, ds4⟩ := ds3.cons_inv
    rw [ds4.nil_inv, d0.str_inv, d1.str_inv, d2.int_inv] at hp
    have hin : inV (.str (if t then ("taken" : Str) else "born")) [.str "born", .str "taken"] = true := by
      rw [show inV (.str (if t then ("taken" : Str) else "born")) [.str "born", .str "taken"] = decide ((if t then ("taken" : Str) else "born") ∈ [("born" : Str), "taken"]) from inV_strs _ ["born", "taken"]]
      cases t <;> decide +kernel
    have hwd : (Fact.life t n dd ps).words false 1 = [if t then ("taken" : Str) else "born", n, numS dd] ++ (if ps = [] then [] else ("of" : Str) :: ps) := rfl
    rw [hwd] at q
    clear flat
    generalize (if t then ("taken" : Str) else "born") = tg at *
    unfold t__law_fact_words
    walk_at "w"
    refine st_ix_tup hp rfl ?_
    walk_at "w"
    refine ⟨show 2 ≤ sizeLine by decide, fun j hj => ?_⟩
    refine st_in_tup (.inl (.inl upd_same)) rfl rfl ?_
    rw [hin]
    have s1 : Same H (upd H j (.tup [V.str "born", V.str "taken"])) := same_new hj
    generalize upd H j (.tup [V.str "born", V.str "taken"]) = H1 at *
    have hp1 := same_sqT s1 hp
    walk_at "w"
    refine st_ix_tup hp1 rfl ?_
    walk_at "w"
    refine st_ix_tup hp1 rfl ?_
    walk_at "w"
    refine st_ix_tup hp1 rfl ?_
    walk_at "w"
    refine st_num (by omega) ?_
    walk_at "w"
    refine ⟨show 3 ≤ sizeLine by decide, fun f hf => ?_⟩
    have s2 : Same H1 (upd H1 f (.lst [V.str tg, V.str n, V.str (numS dd)])) := same_new hf
    have hf2 : upd H1 f (.lst [V.str tg, V.str n, V.str (numS dd)]) f = some (.lst [V.str tg, V.str n, V.str (numS dd)]) := upd_same
    generalize upd H1 f (.lst [V.str tg, V.str n, V.str (numS dd)]) = H2 at *
    have hp2 := same_sqT s2 hp1
    walk_at "w"
    refine ⟨show 1 ≤ sizeLine by decide, fun g hg => ?_⟩
    have s3 : Same H2 (upd H2 g (.lst [V.str "of"])) := same_new hg
    have hf3 := s3 _ _ hf2
    have hp3 := same_sqT s3 hp2
    have hg3 : upd H2 g (.lst [V.str "of"]) g = some (.lst [V.str "of"]) := upd_same
    have s4 := (s1.trans s2).trans s3
    generalize upd H2 g (.lst [V.str "of"]) = H3 at *
    walk_at "w"
    refine st_ix_tup hp3 rfl ?_
    walk_at "w"
    refine ⟨Nat.zero_le _, fun e he => ?_⟩
    have s5 : Same H3 (upd H3 e (.tup [])) := same_new he
    refine st_neD (d3.same (s4.trans s5)) (dpw (xs := []) upd_same .nil) (shaped_tups fun z hz => isName_ok (hps z hz)) (by rfl) ?_
    rw [eqv_nilT, List.isEmpty_map]
    have hf5 := s5 _ _ hf3
    have hg5 := s5 _ _ hg3
    have hp5 := same_sqT s5 hp3
    have s6 := s4.trans s5
    generalize upd H3 e (.tup []) = H5 at *
    walk_at "w"
    refine st_int_bl ?_
    refine st_rep hg5 (by split <;> decide) (by split <;> decide) (by split <;> decide) fun u hu => ?_
    rw [rep_of]
    generalize hus : (if (!ps.isEmpty) = true then [V.str "of"] else []) = us
    have lus : us.length ≤ 1 := by rw [← hus]; split <;> simp
    have s7 : Same H5 (upd H5 u (.lst us)) := same_new hu
    refine st_add_list (s7 _ _ hf5) upd_same (show 3 + us.length ≤ _ by omega) fun v hv => ?_
    have s8 := s7.trans (same_new (o := .lst ([V.str tg, V.str n, V.str (numS dd)] ++ us)) hv)
    have h8 : upd (upd H5 u (.lst us)) v (.lst ([V.str tg, V.str n, V.str (numS dd)] ++ us)) v = some (.lst ([V.str tg, V.str n, V.str (numS dd)] ++ us)) := upd_same
    generalize upd (upd H5 u (.lst us)) v (.lst ([V.str tg, V.str n, V.str (numS dd)] ++ us)) = H8 at *
    walk_at "w"
    refine st_ix_tup (same_sqT s8 hp5) rfl ?_
    obtain ⟨pp, ys, rfl, hpp, es⟩ := (d3.same (s6.trans s8)).tup_inv
    rw [es.strs_inv] at hpp
    refine ⟨pp, ps.map V.str, rfl, .inr hpp, fun l hl => ?_⟩
    have s9 : Same H8 (upd H8 l (.lst (ps.map V.str))) := same_new hl
    refine st_add_list (s9 _ _ h8) upd_same (by rw [List.length_map, List.length_append]; show 3 + us.length + ps.length ≤ _; omega) fun v hv => ?_
    walk_at "w"
    refine q _ _ (((s6.trans s8).trans s9).trans (same_new hv)) (((s6.trans s8).trans s9).free hv) ?_
    rw [upd_same]
    subst hus
    by_cases hp0 : ps = []
    · subst hp0; rfl
    · rw [if_neg hp0]
      rw [show (!ps.isEmpty) = true by cases ps; exact absurd rfl hp0; rfl]
      rfl
  | word n k wh =>
    clear flat
    obtain ⟨hn, hk1, hk2, ok⟩ := ok
    obtain ⟨p, xs, rfl, hp, ds⟩ := d.tup_inv
    obtain ⟨v0, _, rfl, d0, ds1⟩ := ds.cons_inv
    obtain ⟨v1, _, rfl, d1, ds2⟩ := ds1.cons_inv
    obtain ⟨v2, _, rfl, d2, ds3⟩ := ds2.cons_inv
    obtain ⟨v3, _, rfl, d3, ds4⟩ := ds3.cons_inv
    rw [ds4.nil_inv, d0.str_inv, d1.str_inv, d2.int_inv] at hp
    obtain ⟨pw, es, rfl, hw, so, o, rs, rfl, edt⟩ : ∃ pw es, v3 = .ref pw ∧ SqT K H pw es ∧ ∃ (so o : Str) (rs : List V), es = .str so :: .str o :: rs ∧ ∃ ys, wh.data = .tuple ys ∧ ∃ r, ys = .str so :: .str o :: r := by
      cases wh with
      | sum o s e =>
        obtain ⟨pw, es, rfl, hw, de⟩ := d3.tup_inv
        obtain ⟨u0, _, rfl, e0, de1⟩ := de.cons_inv
        obtain ⟨u1, _, rfl, e1, de2⟩ := de1.cons_inv
        exact ⟨pw, _, rfl, hw, _, _, _, by rw [e0.str_inv, e1.str_inv], _, rfl, _, rfl⟩
      | part o t b e =>
        obtain ⟨pw, es, rfl, hw, de⟩ := d3.tup_inv
        obtain ⟨u0, _, rfl, e0, de1⟩ := de.cons_inv
        obtain ⟨u1, _, rfl, e1, de2⟩ := de1.cons_inv
        exact ⟨pw, _, rfl, hw, _, _, _, by rw [e0.str_inv, e1.str_inv], _, rfl, _, rfl⟩
      | out o =>
        obtain ⟨pw, es, rfl, hw, de⟩ := d3.tup_inv
        obtain ⟨u0, _, rfl, e0, de1⟩ := de.cons_inv
        obtain ⟨u1, _, rfl, e1, de2⟩ := de1.cons_inv
        exact ⟨pw, _, rfl, hw, _, _, _, by rw [e0.str_inv, e1.str_inv], _, rfl, _, rfl⟩
    unfold t__law_fact_words
    walk_at "w"
    refine st_ix_tup hp rfl ?_
    walk_at "w"
    refine ⟨show 2 ≤ sizeLine by decide, fun j hj => ?_⟩
    refine st_in_tup (.inl (.inl upd_same)) rfl rfl ?_
    rw [show inV (.str "word") [.str "born", .str "taken"] = false from (inV_strs "word" ["born", "taken"]).trans (by decide +kernel)]
    have s1 : Same H (upd H j (.tup [V.str "born", V.str "taken"])) := same_new hj
    generalize upd H j (.tup [V.str "born", V.str "taken"]) = H1 at *
    have hp1 := same_sqT s1 hp
    have hw1 := same_sqT s1 hw
    walk_at "w"
    refine st_ix_tup hp1 rfl ?_
    walk_at "w"
    rw [decide_eq_true rfl]
    walk_at "w"
    refine st_ix_tup hp1 rfl ?_
    walk_at "w"
    refine st_ix_tup hp1 rfl ?_
    walk_at "w"
    refine st_ix_tup hp1 rfl ?_
    walk_at "w"
    refine st_num (by omega) ?_
    walk_at "w"
    refine st_ix_tup hw1 (v := .str so) (atI_nat (j := 0) rfl) ?_
    walk_at "w"
    refine st_ix_tup hw1 (v := .str o) (atI_nat (j := 1) rfl) ?_
    walk_at "w"
    refine ⟨show 5 ≤ sizeLine by decide, fun f hf => ?_⟩
    have s2 : Same H1 (upd H1 f (.lst [V.str "word", V.str n, V.str (numS k), V.str so, V.str o])) := same_new hf
    have hf2 : upd H1 f (.lst [V.str "word", V.str n, V.str (numS k), V.str so, V.str o]) f = some (.lst [V.str "word", V.str n, V.str (numS k), V.str so, V.str o]) := upd_same
    generalize upd H1 f (.lst [V.str "word", V.str n, V.str (numS k), V.str so, V.str o]) = H2 at *
    have hw2 := same_sqT s2 hw1
    have s3 := s1.trans s2
    have hfn := s1.free hf
    have d3 := d3.same s3
    clear s1 s2 hp1 hw1 hp hf hj
    walk_at "w"
    have e7 : ∀ wh : What, (∃ ys, wh.data = .tuple ys ∧ ∃ r, ys = .str so :: .str o :: r) → wh.words 1 = so :: o :: (wh.words 1).drop 2 := by
      rintro wh ⟨ys, e1, r, rfl⟩
      cases wh <;> (injection e1 with e1; injection e1 with e2 e3; injection e3 with e3 e4; injection e2 with e2; injection e3 with e3; subst e2 e3; rfl)
    refine words_kind T (am := [("word" : Str), n, numS k, so, o]) s3 hfn hf2 (by simp) d3 ok fun p H' s hp hp' => q p H' s hp ?_
    rw [hp']
    have e8 := e7 wh edt
    show _ = some (HO.lst ((([("word" : Str), n, numS k]) ++ wh.words 1).map V.str))
    rw [e8]
    rfl
  | two t a b dd =>
    obtain ⟨ds, F⟩ := flat_of ok (show 5 ≤ 5 by decide) (fun _ _ _ h => by cases h)
    exact flat ds F
  | died n dd =>
    obtain ⟨ds, F⟩ := flat_of ok (show 4 ≤ 5 by decide) (fun _ _ _ h => by cases h)
    exact flat ds F
  | owns n dd =>
    obtain ⟨ds, F⟩ := flat_of ok (show 3 ≤ 5 by decide) (fun _ _ _ h => by cases h)
    exact flat ds F
  | gave a b s dd =>
    obtain ⟨ds, F⟩ := flat_of ok (show 2 ≤ 5 by decide) (fun _ _ _ h => by cases h)
    exact flat ds F
  | owes a b s dd =>
    obtain ⟨ds, F⟩ := flat_of ok (show 1 ≤ 5 by decide) (fun _ _ _ h => by cases h)
    exact flat ds F
  | unfit a b =>
    obtain ⟨ds, F⟩ := flat_of ok (show 0 ≤ 5 by decide) (fun _ _ _ h => by cases h)
    exact flat ds F
theorem ok__law_fact_words (T : Txt K mg)  : Kp P w K mg base CX0 1 "_law_fact_words" ["_law_fact_here"] (sp__law_fact_words K) := by
  obtain ⟨fd, F⟩ := T.c.def_ 38 (d := d__law_fact_words) rfl
  refine ⟨⟨_, fd, T.g__law_fact_words, F.kp, F.bindsN fun _ _ _ _ _ _ us hl => match us, hl with | [_], _ => rfl, F.ok sc__law_fact_words Sp1.len (fun cdv A outer s H vs Q E hr h => ?_)⟩⟩
  obtain ⟨v0, rfl, h⟩ := h
  refine ⟨t__law_fact_words K, PSs.nox (?_), pure__law_fact_words T h⟩
  exact (pss_cons (ps_if (pt_cmpR (op_inA hr) (pe_ixA hr (pv 0) pe_int (fun _ _ => rfl)) (pe_tup (pa_cons pe_str (pa_cons pe_str pa_nil))) (by rfl)) (pss_one (ps_ret (pe_op op_addA (pe_op op_addA (pe_lst (pa_cons (pe_ixA hr (pv 0) pe_int (fun _ _ => rfl)) (pa_cons (pe_ixA hr (pv 0) pe_int (fun _ _ => rfl)) (pa_cons (pe_callTy call_strB (by rfl) T.n_str (by decide +kernel) (pa_cons (pe_ixA hr (pv 0) pe_int (fun _ _ => rfl)) pa_nil)) pa_nil)))) (pe_op op_mulA (pe_lst (pa_cons pe_str pa_nil)) (pe_callTy call_intA (by rfl) T.n_int (by decide +kernel) (pa_cons (pe_cmpR (op_neA hr) (pe_ixA hr (pv 0) pe_int (fun _ _ => rfl)) (pe_tup pa_nil) (nomark _)) pa_nil)))) (pe_callTy call_list_of (by rfl) T.n_list (by decide +kernel) (pa_cons (pe_ixA hr (pv 0) pe_int (fun _ _ => rfl)) pa_nil))))) pss_nil)
      (pss_cons (ps_if (pt_cmpR (op_neA hr) (pe_ixA hr (pv 0) pe_int (fun _ _ => rfl)) pe_str (nomark _)) (pss_one (ps_ret (pe_lc (own := [("_law_part_here", 3)]) (g := (gName 3)) rfl sc__law_fact_words.nd (pi_A (pv 0)) (blkOk_by (own := [("_law_part_here", 3)]) (N := N__law_fact_words) (sc := defScope s__law_fact_words) (by decide +kernel)) (fun _ _ _ _ _ => (pg_name (i := 3) sc__law_fact_words.nd rfl (by first | exact Or.inl rfl | exact Or.inr rfl))) (fun _ _ _ _ _ => pts_nil) (fun _ _ _ _ _ => (pe_callTy call_strB (by rfl) T.n_str (by decide +kernel) (pa_cons (pv 3) pa_nil)))))) pss_nil)
      (pss_cons (ps_set (i := 1) sc__law_fact_words.nd rfl (by first | exact Or.inl rfl | exact Or.inr rfl) (pe_ixA hr (pv 0) pe_int (fun _ _ => rfl)))
      (pss_cons (ps_set (i := 2) sc__law_fact_words.nd rfl (by first | exact Or.inl rfl | exact Or.inr rfl) (pe_lst (pa_cons pe_str (pa_cons (pe_ixA hr (pv 0) pe_int (fun _ _ => rfl)) (pa_cons (pe_callTy call_strB (by rfl) T.n_str (by decide +kernel) (pa_cons (pe_ixA hr (pv 0) pe_int (fun _ _ => rfl)) pa_nil)) (pa_cons (pe_ixA hr (pv 1) pe_int (fun _ _ => rfl)) (pa_cons (pe_ixA hr (pv 1) pe_int (fun _ _ => rfl)) pa_nil)))))))
      (pss_cons (ps_if (pt_cmpR (op_eqA hr) (pe_ixA hr (pv 1) pe_int (fun _ _ => rfl)) pe_str (nomark _)) (pss_one (ps_ret (pv 2))) pss_nil)
      (pss_cons (ps_set (i := 2) sc__law_fact_words.nd rfl (by first | exact Or.inl rfl | exact Or.inr rfl) (pe_op op_addA (pv 2) (pe_ifExp (pt_cmpR (op_eqA hr) (pe_ixA hr (pv 1) pe_int (fun _ _ => rfl)) pe_str (nomark _)) (pe_lst (pa_cons (pe_callTy call_strB (by rfl) T.n_str (by decide +kernel) (pa_cons (pe_ixA hr (pv 1) pe_int (fun _ _ => rfl)) pa_nil)) pa_nil)) (pe_lst (pa_cons (pe_callTy call_strB (by rfl) T.n_str (by decide +kernel) (pa_cons (pe_ixA hr (pe_ixA hr (pv 1) pe_int (fun _ _ => rfl)) pe_int (fun _ _ => rfl)) pa_nil)) (pa_cons pe_str (pa_cons (pe_callTy call_strB (by rfl) T.n_str (by decide +kernel) (pa_cons (pe_ixA hr (pe_ixA hr (pv 1) pe_int (fun _ _ => rfl)) pe_int (fun _ _ => rfl)) pa_nil)) pa_nil)))))))
      (pss_one (ps_ret (pe_op op_addA (pv 2) (pe_lc (own := [("_law_word", 4)]) (g := (gName 4)) rfl sc__law_fact_words.nd (pi_A (pe_tup (pa_cons pe_str (pa_cons (pe_ixA hr (pv 1) pe_int (fun _ _ => rfl)) pa_nil)))) (blkOk_by (own := [("_law_word", 4)]) (N := N__law_fact_words) (sc := defScope s__law_fact_words) (by decide +kernel)) (fun _ _ _ _ _ => (pg_name (i := 4) sc__law_fact_words.nd rfl (by first | exact Or.inl rfl | exact Or.inr rfl))) (fun _ _ _ _ _ => (pts_one (pt_cmp (pc_notN (pe_ixA hr (pv 1) pe_int (fun _ _ => rfl)))))) (fun _ _ _ _ _ => (pv 4))))))))))))
end
end K02
set_option Elab.async false
set_option linter.all false
set_option maxRecDepth 100000
set_option maxHeartbeats 4000000
namespace K02
open PySem PySem.Spec PyProof.Rows L2 My
section
variable {P : Program} {w : World} {K : PySem.W.Frag} {mg : Str → Option Value} {base : Heap}
/-! ### _law_loose -/
def pr_loose (K : PySem.W.Frag) : V → V → Hp → VK → XK → Prop := fun x y H Q _ => ∃ (st p : Addr) (ns : List Int) (m : Int) (qs : List Addr) (Rs : List (List Str)), x = .ref st ∧ y = .ref p ∧ ns.length ≤ 63 ∧ LS K H st ns m ∧ m ≤ 10000000 ∧ SqL K H p (qs.map V.ref) ∧
  Paired (fun q ws => SqL K H q ((ws : List Str).map V.str)) qs Rs ∧ Rs.length ≤ 40 ∧ (∀ ws ∈ Rs, ws ≠ [] ∧ ws.length ≤ 10 ∧ ∀ y ∈ ws, WdOk y.cps.toList) ∧
  ∀ t rows H', scan 0 [] [] t = .ok rows → full rows = Rs.map tls → t.length ≤ 8000 → Adv K st ns (m + 1000) H H' → Q (txt t) H'
def sp__law_loose (K : PySem.W.Frag) : Sp := Sp2 (pr_loose K)
def t__law_loose_0 (K : PySem.W.Frag) : TS :=
  (tAsg (tOp (rAddA K) (tOp (rAddA K) (tVar 2) (tOp rMulA (tIxA K (tLst (tCons (tC (.str " ")) (tCons (tC (.str "  ")) (tCons (tC (.str " ")) tNil)))) (tCall (sp__law_next K) [] E0 (tCons (tVar 0) (tCons (tC (.int 3)) tNil)))) (tCB rIntA (tCons (tOrV (tNotV (tVar 5)) (tOp (rEqA K) (tCall (sp__law_next K) [] E0 (tCons (tVar 0) (tCons (tC (.int 2)) tNil))) (tC (.int 1)))) tNil)))) (tVar 4)) (gName 2))
def t__law_loose (K : PySem.W.Frag) : TS :=
  (tSeq (tAsg (tIxA K (tLst (tCons (tC (.str "")) (tCons (tC (.str "\n")) (tCons (tC (.str " \n\n")) tNil)))) (tCall (sp__law_next K) [] E0 (tCons (tVar 0) (tCons (tC (.int 3)) tNil)))) (gName 2))
  (tSeq (tFor (iA K (tVar 1)) (gName 3) (tSeq (tFor (iA K (tVar 3)) (gName 4) (tSeq (tAsg (tOrV (tOp (rEqA K) (tVar 4) (tC (.str "/"))) (tInA K (tSl (rSlA K) (tVar 2) (tPart (tUn rNegI (tC (.int 1)))) tNoPart) (tTup (tCons (tC (.str "/")) (tCons (tC (.str "\n")) (tCons (tC (.str "")) tNil)))))) (gName 5))
  (t__law_loose_0 K)))
  (tAsg (tOp (rAddA K) (tVar 2) (tIxA K (tLst (tCons (tC (.str "\n")) (tCons (tC (.str " \n")) (tCons (tC (.str "\n \n")) tNil)))) (tCall (sp__law_next K) [] E0 (tCons (tVar 0) (tCons (tC (.int 3)) tNil))))) (gName 2))))
  (tRet (tVar 2))))
theorem st_mulB {z : Str} {b : Bool} {H : Hp} {Q : VK} (q : Q (.str (if b then z else S [])) H) : rMulA (.str z) (.int (if b = true then 1 else 0)) H Q := by
  refine .inr (.inl ⟨z, (if b = true then 1 else 0), rfl, rfl, ?_, ?_⟩)
  · cases b
    · exact ⟨by decide, fun h => absurd (show (0 : Int) < 1 by decide) h, fun h => absurd (show (0 : Int) < 1 by decide) h⟩
    · exact ⟨by decide, fun _ h => (by cases h), fun _ h => (by cases h)⟩
  · cases b
    · exact q
    · exact q
theorem scan_len {t : List Nat} {rows : List (List (List Nat))} {cur : List (List Nat)} {op : Bool} (g : Gone t rows cur op) : scan 0 [] [] t = .ok (rows ++ [cur]) := g.all
theorem full_snoc (rows : List (List (List Nat))) {c : List (List Nat)} (h : c ≠ []) : full (rows ++ [c]) = full rows ++ [c] := by
  unfold full
  rw [List.filter_append]
  cases c with
  | nil => exact absurd rfl h
  | cons a r => rfl
theorem full_nil (rows : List (List (List Nat))) : full (rows ++ [[]]) = full rows := by
  unfold full
  rw [List.filter_append]
  show _ ++ [] = _
  rw [List.append_nil]
theorem e_nl : ("\n" : Str) = S [10] := by decide +kernel
theorem e_start3 : (" \n\n" : Str) = S [32, 10, 10] := by decide +kernel
theorem e_bnl : (" \n" : Str) = S [32, 10] := by decide +kernel
theorem e_nbn : ("\n \n" : Str) = S [10, 32, 10] := by decide +kernel
theorem e_b1 : (" " : Str) = S (List.replicate 1 32) := by decide +kernel
theorem e_b2 : ("  " : Str) = S (List.replicate 2 32) := by decide +kernel
theorem e_sl : ("/" : Str) = S [47] := by decide +kernel
theorem loose_tail (T : Txt K mg) {st p qa : Addr} {ns : List Int} {m : Int} {t : List Nat} {wd : Str} {pl : Bool} {rows : List (List (List Nat))} {cur : List (List Nat)} {op : Bool} {H H0 : Hp} {D : Ends} (hn : ns.length ≤ 63) (hm : m ≤ 100000000) (a6 : Adv K st ns m H0 H)
    (g : Gone t rows cur op) (lo : LO t op) (hl : t.length ≤ 100000) (wl : WdOk wd.cps.toList) (hpl : pl = true → wd.cps.toList = [47] ∨ last1 t ∈ [[47], [10], []])
    (q : ∀ t' op' H', Gone t' rows (cur ++ [wd.cps.toList]) op' → LO t' op' → t'.length ≤ t.length + 14 → Adv K st ns (m + 2) H0 H' → D.nx [some (.ref st), some (.ref p), some (txt t'), some (.ref qa), some (.str wd), some (.bl pl)] H') :
    t__law_loose_0 K D [some (.ref st), some (.ref p), some (txt t), some (.ref qa), some (.str wd), some (.bl pl)] H := by
  have hlen := wl.ne.2
  obtain ⟨nx, rt, bk, ct⟩ := D
  dsimp only at q
  unfold t__law_loose_0
  walk_at "w"
  refine ⟨show 3 ≤ sizeLine by decide, fun p7 hp7 => ?_⟩
  have a7 := a6.same (same_new (o := .lst [V.str " ", V.str "  ", V.str " "]) hp7)
  walk_at "w"
  refine draw_ix a7.ls hn (by decide) (by omega) rfl upd_same fun v H8 hv a8 => ?_
  obtain ⟨k, rfl, k1, k2⟩ : ∃ k, v = .str (S (List.replicate k 32)) ∧ 1 ≤ k ∧ k ≤ 2 := by
    simp only [List.mem_cons, List.not_mem_nil, or_false] at hv
    rcases hv with rfl | rfl | rfl
    · exact ⟨1, by rw [e_b1], by decide, by decide⟩
    · exact ⟨2, by rw [e_b2], by decide, by decide⟩
    · exact ⟨1, by rw [e_b1], by decide, by decide⟩
  have a8 := a7.trans a8
  have fin : ∀ (b : Bool) (H9 : Hp), (b = false → pl = true) → Adv K st ns (m + 2) H0 H9 → rIntA [.bl b] H9 fun y H10 => rMulA (.str (S (List.replicate k 32))) y H10 fun y H11 => rAddA K (txt t) y H11 fun x H12 => tVar 4 [some (.ref st), some (.ref p), some (txt t), some (.ref qa), some (.str wd), some (.bl pl)] H12 fun y H13 => rAddA K x y H13 fun x H14 => gName 2 x [some (.ref st), some (.ref p), some (txt t), some (.ref qa), some (.str wd), some (.bl pl)] H14 nx := by
    intro b H9 hb a9
    refine st_int_bl ?_
    refine st_mulB ?_
    obtain ⟨z, ez, hz, op', g', lo'⟩ : ∃ z, (if b = true then S (List.replicate k 32) else S []) = S z ∧ z.length ≤ 2 ∧ ∃ op', Gone (t ++ z ++ wd.cps.toList) rows (cur ++ [wd.cps.toList]) op' ∧ LO (t ++ z ++ wd.cps.toList) op' := by
      cases b
      · exact ⟨[], rfl, by decide, by
          have := loose_step g lo wl 0 (fun _ => hpl (hb rfl))
          simpa using this⟩
      · exact ⟨List.replicate k 32, rfl, by rw [List.length_replicate]; exact k2, loose_step g lo wl k (fun e => by omega)⟩
    rw [ez]
    refine st_add_str (by rw [S_len, S_len]; omega) ?_
    rw [S_app]
    walk_at "w"
    refine st_add_str (by rw [S_len, List.length_append, ← tl_len]; omega) ?_
    rw [app_S]
    walk_at "w"
    exact q _ op' _ g' lo' (by rw [List.length_append, List.length_append]; omega) a9
  walk_at "w"
  cases pl with
  | false =>
    walk_at "w"
    exact fin true _ (fun h => by cases h) (a8.le (by omega))
  | true =>
    walk_at "w"
    refine use_next a8.ls hn (by decide) (by omega) fun r H9 r0 r1 a9 => ?_
    walk_at "w"
    exact fin _ _ (fun _ => rfl) ((a8.trans a9).le (by omega))
theorem pure__law_loose (T : Txt K mg) {x y : V} {H : Hp} {Q : VK} {E : XK} (h : pr_loose K x y H Q E) : t__law_loose K { nx := fun _ H' => Q .non H', rt := Q } [some x, some y, none, none, none, none] H := by
  obtain ⟨st, p, ns, m, qs, Rs, rfl, rfl, hn, ls, hm, hp, pr, hR, okR, q⟩ := h
  unfold t__law_loose
  walk_at "w"
  refine ⟨show 3 ≤ sizeLine by decide, fun p1 hp1 => ?_⟩
  have a1 := (ls.adv (Same.refl H)).same (same_new (o := .lst [V.str "", V.str "\n", V.str " \n\n"]) hp1)
  walk_at "w"
  refine draw_ix a1.ls hn (by decide) (by omega) rfl upd_same fun v H2 hv a2 => ?_
  obtain ⟨t0, rows0, rfl, g0, f0, l0⟩ : ∃ t0 rows0, v = txt t0 ∧ Gone t0 rows0 [] false ∧ full rows0 = [] ∧ t0.length ≤ 3 := by
    simp only [List.mem_cons, List.not_mem_nil, or_false] at hv
    rcases hv with rfl | rfl | rfl
    · exact ⟨[], [], by rw [S_nil], .nil, rfl, by decide⟩
    · exact ⟨[10], [[]], by rw [e_nl], Gone.nil.eol, rfl, by decide⟩
    · exact ⟨[32, 10, 10], [[], []], by rw [e_start3], Gone.nil.blank.eol.eol, rfl, by decide⟩
  have a2 := a1.trans a2
  walk_at "w"
  refine .inl ⟨p, rfl, ⟨_, a2.sb.seqL ls.notSeq hp⟩, ?_⟩
  refine for_it (walk_list (xs := qs.map V.ref)) (fun i σ H' => ∃ (v3 v4 v5 : Option V) (t : List Nat) (rows : List (List (List Nat))), σ = [some (.ref st), some (.ref p), some (txt t), v3, v4, v5] ∧ Adv K st ns (m + 1 + 21 * (i : Nat)) H H' ∧ Gone t rows [] false ∧ full rows = (Rs.take i).map tls ∧ t.length ≤ 3 + 143 * i)
    ⟨none, none, none, t0, rows0, rfl, a2.le (by omega), g0, by rw [f0, List.take_zero]; rfl, by omega⟩ (fun i σ H' _ ⟨_, _, _, _, _, _, a, _⟩ => a.sb.seqL ls.notSeq hp) ?_ ?_
  · rintro i x σ H3 H4 hi ⟨v3, v4, v5, t, rows, rfl, a3, g, hf, hl⟩ ⟨rfl, hx⟩
    rw [List.getElem?_map] at hx
    cases hqi : qs[i]? with
    | none => rw [hqi] at hx; cases hx
    | some qa =>
      rw [hqi] at hx
      cases hx
      obtain ⟨ws, hws, hqa⟩ := pget pr hqi
      obtain ⟨ne, hwl, hwd⟩ := okR ws (List.mem_of_getElem? hws)
      have hi40 : i < 40 := by
        rcases Nat.lt_or_ge i Rs.length with h | h
        · omega
        · rw [List.getElem?_eq_none h] at hws; cases hws
      have hqa3 := a3.sb.seqL ls.notSeq hqa
      walk_at "w"
      refine .inl ⟨qa, rfl, ⟨_, hqa3⟩, ?_⟩
      refine for_it (walk_list (xs := ws.map V.str)) (fun j σ H' => ∃ (v4 v5 : Option V) (t' : List Nat) (op : Bool), σ = [some (.ref st), some (.ref p), some (txt t'), some (.ref qa), v4, v5] ∧ Adv K st ns (m + 1 + 21 * (i : Nat) + 2 * (j : Nat)) H H' ∧ Gone t' rows ((tls ws).take j) op ∧ LO t' op ∧ t'.length ≤ t.length + 14 * j)
        ⟨v4, v5, t, false, rfl, a3.le (by omega), g, lo_false _, by omega⟩ (fun j σ H' _ ⟨_, _, _, _, _, a, _⟩ => a.sb.seqL ls.notSeq hqa) ?_ ?_
      · rintro j x σ H5 H6 hj ⟨v4, v5, t', op, rfl, a5, g5, lo5, hl5⟩ ⟨rfl, hx⟩
        rw [List.getElem?_map] at hx
        cases hwj : ws[j]? with
        | none => rw [hwj] at hx; cases hx
        | some wd =>
          rw [hwj] at hx
          cases hx
          have wdok := hwd wd (List.mem_of_getElem? hwj)
          have hj10 : j < 10 := by
            rcases Nat.lt_or_ge j ws.length with h | h
            · omega
            · rw [List.getElem?_eq_none h] at hwj; cases hwj
          have hlen := wdok.ne.2
          have etk : (tls ws).take (j + 1) = (tls ws).take j ++ [wd.cps.toList] := take_succ_some (by rw [tls, List.getElem?_map, hwj]; rfl)
          have tail : ∀ (pl : Bool) (H6 : Hp), Adv K st ns (m + 1 + 21 * (i : Nat) + 2 * (j : Nat)) H H6 → (pl = true → wd.cps.toList = [47] ∨ last1 t' ∈ [[47], [10], []]) → ∀ D : Ends, D.nx = (fun σ H' => ∃ (v4 v5 : Option V) (t' : List Nat) (op : Bool), σ = [some (.ref st), some (.ref p), some (txt t'), some (.ref qa), v4, v5] ∧ Adv K st ns (m + 1 + 21 * (i : Nat) + 2 * ((j + 1 : Nat) : Nat)) H H' ∧ Gone t' rows ((tls ws).take (j + 1)) op ∧ LO t' op ∧ t'.length ≤ t.length + 14 * (j + 1)) →
              t__law_loose_0 K D [some (.ref st), some (.ref p), some (txt t'), some (.ref qa), some (.str wd), some (.bl pl)] H6 := by
            intro pl H6 a6 hpl D hD
            refine loose_tail T hn (by omega) a6 g5 lo5 (by omega) wdok hpl fun t2 op2 H7 g7 lo7 l7 a7 => ?_
            rw [hD]
            exact ⟨_, _, t2, op2, rfl, a7.le (by omega), by rw [etk]; exact g7, lo7, by omega⟩
          walk_at "w"
          have e47 : decide (wd = "/") = decide (wd.cps.toList = [47]) := decide_eq_decide.mpr ⟨fun h => by rw [h, e_sl], fun h => by rw [← S_tl wd, h, e_sl]⟩
          rw [e47]
          by_cases hw47 : wd.cps.toList = [47]
          · rw [decide_eq_true hw47]
            walk_at "w"
            exact tail true _ a5 (fun _ => .inl hw47) _ rfl
          · rw [decide_eq_false hw47]
            walk_at "w"
            refine ⟨1, rfl, ?_⟩
            walk_at "w"
            refine st_slice_str (by rw [S_len]; omega) ?_
            rw [cutS_last]
            walk_at "w"
            refine ⟨show 3 ≤ sizeLine by decide, fun p9 hp9 => ?_⟩
            have a9 := a5.same (same_new (o := .tup [V.str "/", V.str "\n", V.str ""]) hp9)
            refine st_in_tup (.inl (.inl upd_same)) rfl rfl ?_
            rw [show inV (.str (S (last1 t'))) [V.str "/", V.str "\n", V.str ""] = decide (S (last1 t') ∈ [("/" : Str), "\n", ""]) from inV_strs _ ["/", "\n", ""]]
            walk_at "w"
            refine tail _ _ a9 (fun h => .inr ?_) _ rfl
            have h := of_decide_eq_true h
            rw [e_sl, e_nl, S_nil] at h
            simpa [S_inj] using h
      · rintro σ H5 ⟨v4, v5, t', op, rfl, a5, g5, lo5, hl5⟩
        rw [List.length_map] at a5 g5 hl5
        rw [show (tls ws).take ws.length = tls ws by rw [List.take_of_length_le (by simp [tls])]] at g5
        walk_at "w"
        refine ⟨show 3 ≤ sizeLine by decide, fun p9 hp9 => ?_⟩
        have a6 := a5.same (same_new (o := .lst [V.str "\n", V.str " \n", V.str "\n \n"]) hp9)
        walk_at "w"
        refine draw_ix a6.ls hn (by decide) (by omega) rfl upd_same fun v H8 hv a8 => ?_
        have a8 := a6.trans a8
        have nt : tls ws ≠ [] := fun e => ne (by rw [tls, List.map_eq_nil_iff] at e; exact e)
        obtain ⟨z, rows', rfl, gz, fz, lz⟩ : ∃ z rows', v = txt z ∧ Gone (t' ++ z) rows' [] false ∧ full rows' = full rows ++ [tls ws] ∧ z.length ≤ 3 := by
          simp only [List.mem_cons, List.not_mem_nil, or_false] at hv
          rcases hv with rfl | rfl | rfl
          · exact ⟨[10], _, by rw [e_nl], g5.eol, full_snoc _ nt, by decide⟩
          · exact ⟨[32, 10], _, by rw [e_bnl], by have := g5.blank.eol; simpa using this, full_snoc _ nt, by decide⟩
          · exact ⟨[10, 32, 10], rows ++ [tls ws] ++ [[]], by rw [e_nbn], by
              have e : t' ++ [10, 32, 10] = t' ++ [10] ++ [32] ++ [10] := by simp
              rw [e]
              exact g5.eol.blank.eol, by rw [full_nil, full_snoc _ nt], by decide⟩
        refine st_add_str (by rw [S_len, S_len]; omega) ?_
        rw [S_app]
        walk_at "w"
        refine ⟨some (.ref qa), v4, v5, _, rows', rfl, a8.le (by omega), gz, ?_, ?_⟩
        · rw [fz, hf, take_succ_some hws, List.map_append]; rfl
        · rw [List.length_append]; omega
  · rintro σ H' ⟨v3, v4, v5, t, rows, rfl, a3, g, hf, hl⟩
    walk_at "w"
    have e1 : (qs.map V.ref).length = Rs.length := by rw [List.length_map]; exact pr.length
    rw [e1] at hl hf a3
    rw [List.take_length] at hf
    exact q _ _ _ g.all (by rw [full_nil, hf]) (by omega) (a3.le (by omega))
theorem ok__law_loose (T : Txt K mg) (c__law_next : Kp P w K mg base CX0 1 "_law_next" ["_law_state", "_law_many"] (sp__law_next K)) : Kp P w K mg base CX0 2 "_law_loose" ["_law_state", "_law_rows"] (sp__law_loose K) := by
  obtain ⟨fd, F⟩ := T.c.def_ 39 (d := d__law_loose) rfl
  refine ⟨⟨_, fd, T.g__law_loose, F.kp, F.bindsN fun _ _ _ _ _ _ us hl => match us, hl with | [_, _], _ => rfl, F.ok sc__law_loose Sp2.len (fun cdv A outer s H vs Q E hr h => ?_)⟩⟩
  obtain ⟨v0, v1, rfl, h⟩ := h
  refine ⟨t__law_loose K, PSs.nox (?_), pure__law_loose T h⟩
  exact (pss_cons (ps_set (i := 2) sc__law_loose.nd rfl (by first | exact Or.inl rfl | exact Or.inr rfl) (pe_ixA hr (pe_lst (pa_cons pe_str (pa_cons pe_str (pa_cons pe_str pa_nil)))) (pe_cK c__law_next (hr.mono (by decide)) rfl (pa_cons (pv 0) (pa_cons pe_int pa_nil))) (fun _ _ => rfl)))
      (pss_cons (ps_for PassesOwn.never rfl (pi_A (pv 1)) (pg_name (i := 3) sc__law_loose.nd rfl (by first | exact Or.inl rfl | exact Or.inr rfl)) (pss_cons (ps_for PassesOwn.never rfl (pi_A (pv 3)) (pg_name (i := 4) sc__law_loose.nd rfl (by first | exact Or.inl rfl | exact Or.inr rfl)) (pss_cons (ps_set (i := 5) sc__law_loose.nd rfl (by first | exact Or.inl rfl | exact Or.inr rfl) (pe_or (pe_cmpR (op_eqA hr) (pv 4) pe_str (nomark _)) (pe_one (pe_inA hr (pe_slice sl_A (pv 2) (po_some (pe_un un_neg pe_int)) po_none) (pe_tup (pa_cons pe_str (pa_cons pe_str (pa_cons pe_str pa_nil)))) (by rfl)))))
      (pss_one (ps_set (i := 2) sc__law_loose.nd rfl (by first | exact Or.inl rfl | exact Or.inr rfl) (pe_op op_addA (pe_op op_addA (pv 2) (pe_op op_mulA (pe_ixA hr (pe_lst (pa_cons pe_str (pa_cons pe_str (pa_cons pe_str pa_nil)))) (pe_cK c__law_next (hr.mono (by decide)) rfl (pa_cons (pv 0) (pa_cons pe_int pa_nil))) (fun _ _ => rfl)) (pe_callTy call_intA (by rfl) T.n_int (by decide +kernel) (pa_cons (pe_or (pe_not (pv 5)) (pe_one (pe_cmpR (op_eqA hr) (pe_cK c__law_next (hr.mono (by decide)) rfl (pa_cons (pv 0) (pa_cons pe_int pa_nil))) pe_int (nomark _)))) pa_nil)))) (pv 4))))))
      (pss_one (ps_set (i := 2) sc__law_loose.nd rfl (by first | exact Or.inl rfl | exact Or.inr rfl) (pe_op op_addA (pv 2) (pe_ixA hr (pe_lst (pa_cons pe_str (pa_cons pe_str (pa_cons pe_str pa_nil)))) (pe_cK c__law_next (hr.mono (by decide)) rfl (pa_cons (pv 0) (pa_cons pe_int pa_nil))) (fun _ _ => rfl)))))))
      (pss_one (ps_ret (pv 2)))))
end
end K02
set_option Elab.async false
set_option linter.all false
set_option maxRecDepth 100000
set_option maxHeartbeats 4000000
namespace K02
open PySem PySem.Spec PyProof.Rows L2 My
section
variable {P : Program} {w : World} {K : PySem.W.Frag} {mg : Str → Option Value} {base : Heap}
/-! ### _law_turned -/
def pr_turned (K : PySem.W.Frag) : V → V → Hp → VK → XK → Prop := fun x y H Q _ => ∃ (st p : Addr) (ns : List Int) (m : Int) (f : Fact), x = .ref st ∧ y = .ref p ∧ ns.length ≤ 63 ∧ LS K H st ns m ∧ m ≤ 10000000 ∧ H p = some (.lst ((f.words false 1).map V.str)) ∧ f.Ok ∧
  ∀ u ws H', Tells ws f → Adv K st ns (m + 1) H H' → (u = p ∨ H u = none) → H' u = some (.lst (ws.map V.str)) → Q (.ref u) H'
def sp__law_turned (K : PySem.W.Frag) : Sp := Sp2 (pr_turned K)
def t__law_turned_0 (K : PySem.W.Frag) : TS :=
  (tSeq (tIfS (tTest (tOp (rInA K false) (tC (.str "/")) (tVar 1))) (tSeq (tAsg (tBM K "list" (rIndex K) (tVar 1) (tCons (tC (.str "/")) tNil)) (gName 2))
  (tSeq (tPar 3 4 (tCons (tCB rIntA (tCons (tIxA K (tVar 1) (tOp rSubI (tVar 2) (tC (.int 1)))) tNil)) (tCons (tCB rIntA (tCons (tIxA K (tVar 1) (tOp (rAddA K) (tVar 2) (tC (.int 1)))) tNil)) tNil)))
  (tSeq (tAsg (tOp (rAddA K) (tC (.int 1)) (tCall (sp__law_next K) [] E0 (tCons (tVar 0) (tCons (tOp rDivA (tC (.int 1000)) (tVar 4)) tNil)))) (gName 5))
  (tRet (tOp (rAddA K) (tOp (rAddA K) (tSl (rSlA K) (tVar 1) tNoPart (tPart (tOp rSubI (tVar 2) (tC (.int 1))))) (tLst (tCons (tCB rStrB (tCons (tOp rMulA (tVar 5) (tVar 3)) tNil)) (tCons (tC (.str "/")) (tCons (tCB rStrB (tCons (tOp rMulA (tVar 5) (tVar 4)) tNil)) tNil))))) (tSl (rSlA K) (tVar 1) (tPart (tOp (rAddA K) (tVar 2) (tC (.int 2)))) tNoPart)))))) tNext)
  (tRet (tVar 1)))
def t__law_turned_1 (K : PySem.W.Frag) : TS :=
  (tSeq (tIfS (tAnd (tTest (tOp (rInA K false) (tIxA K (tVar 1) (tC (.int 0))) (tTup (tCons (tC (.str "born")) (tCons (tC (.str "taken")) tNil))))) (tAnd (tTest (tOp (rEqA K) (tCB (rLenA K) (tCons (tVar 1) tNil)) (tC (.int 6)))) (tTest (tOp (rEqA K) (tCall (sp__law_next K) [] E0 (tCons (tVar 0) (tCons (tC (.int 2)) tNil))) (tC (.int 1)))))) (tRet (tOp (rAddA K) (tSl (rSlA K) (tVar 1) tNoPart (tPart (tC (.int 4)))) (tRevL K (tSl (rSlA K) (tVar 1) (tPart (tC (.int 4))) tNoPart)))) tNext)
  (t__law_turned_0 K))
def t__law_turned (K : PySem.W.Frag) : TS :=
  (tSeq (tIfS (tAnd (tTest (tOp (rInA K false) (tIxA K (tVar 1) (tC (.int 0))) (tTup (tCons (tC (.str "joined")) (tCons (tC (.str "parted")) tNil))))) (tTest (tOp (rEqA K) (tCall (sp__law_next K) [] E0 (tCons (tVar 0) (tCons (tC (.int 2)) tNil))) (tC (.int 1))))) (tRet (tOp (rAddA K) (tOp (rAddA K) (tSl (rSlA K) (tVar 1) tNoPart (tPart (tC (.int 1)))) (tRevL K (tSl (rSlA K) (tVar 1) (tPart (tC (.int 1))) (tPart (tC (.int 3)))))) (tSl (rSlA K) (tVar 1) (tPart (tC (.int 3))) tNoPart))) tNext)
  (t__law_turned_1 K))
theorem cutV_to {xs : List V} {b : Nat} (hb : b ≤ xs.length) : cutV xs none (some (b : Int)) = xs.take b := by
  unfold cutV
  rw [sIx_nat hb, sIx_none]; rfl
theorem cutV_from {xs : List V} {a : Nat} (ha : a ≤ xs.length) : cutV xs (some (a : Int)) none = xs.drop a := by
  unfold cutV
  rw [sIx_nat ha, sIx_none, List.take_of_length_le (by rw [List.length_drop]; omega)]
theorem cutV_nat {xs : List V} {a b : Nat} (ha : a ≤ xs.length) (hb : b ≤ xs.length) : cutV xs (some (a : Int)) (some (b : Int)) = (xs.drop a).take (b - a) := by
  unfold cutV
  rw [sIx_nat ha, sIx_nat hb]
theorem flat_strs (zs : List Str) : (zs.map V.str).all flatV = true := by
  induction zs with
  | nil => rfl
  | cons z r ih => rw [List.map_cons, List.all_cons, ih]; rfl
theorem in_two {a b z : Str} {c : Bool} (h : decide (z ∈ [a, b]) = c) : inV (.str z) [.str a, .str b] = c := (inV_strs z [a, b]).trans h
theorem slash_name {z : Str} (h : isName z = true) : z ≠ "/" := fun e => by
  have := isName_let h 47 (by rw [e, e_sl]; simp)
  have := (mem_LET 47).mp this
  omega
theorem slash_num (n : Nat) : numS n ≠ "/" := fun e => by
  have := numS_fig (n := n) (c := 47) (by rw [← numS_tl, e, e_sl]; simp)
  omega
abbrev tst (st p : Addr) : L2.St := [some (.ref st), some (.ref p), none, none, none, none]
theorem turn0_no (T : Txt K mg) {st p : Addr} {ws : List Str} {H : Hp} {Q : VK} (hp : H p = some (.lst (ws.map V.str))) (h : ("/" : Str) ∉ ws) (q : Q (.ref p) H) : t__law_turned_0 K (wen Q) (tst st p) H := by
  unfold t__law_turned_0
  walk_at "w"
  refine st_in_list (SqL.of hp) rfl (flat_strs ws) ?_
  rw [inV_strs, decide_eq_false h]
  walk_at "w"
  exact q
theorem turn1_no (T : Txt K mg) {st p : Addr} {tag : Str} {ws : List Str} {H : Hp} {Q : VK} (hp : H p = some (.lst ((tag :: ws).map V.str))) (ht : decide (tag ∈ [("born" : Str), "taken"]) = false) (q : ∀ H', Same H H' → t__law_turned_0 K (wen Q) (tst st p) H') : t__law_turned_1 K (wen Q) (tst st p) H := by
  unfold t__law_turned_1
  walk_at "w"
  refine st_ix_list (SqL.of hp) (v := .str tag) (atI_nat (j := 0) rfl) ?_
  walk_at "w"
  refine ⟨show 2 ≤ sizeLine by decide, fun u hu => ?_⟩
  refine st_in_tup (.inl (.inl upd_same)) rfl rfl ?_
  rw [in_two ht]
  walk_at "w"
  exact q _ (same_new hu)
/-- the first test says no, by the tag -/
theorem turn_no (T : Txt K mg) {st p : Addr} {tag : Str} {ws : List Str} {H : Hp} {Q : VK} (hp : H p = some (.lst ((tag :: ws).map V.str))) (ht : decide (tag ∈ [("joined" : Str), "parted"]) = false) (q : ∀ H', Same H H' → t__law_turned_1 K (wen Q) (tst st p) H') : t__law_turned K (wen Q) (tst st p) H := by
  unfold t__law_turned
  walk_at "w"
  refine st_ix_list (SqL.of hp) (v := .str tag) (atI_nat (j := 0) rfl) ?_
  walk_at "w"
  refine ⟨show 2 ≤ sizeLine by decide, fun u hu => ?_⟩
  refine st_in_tup (.inl (.inl upd_same)) rfl rfl ?_
  rw [in_two ht]
  walk_at "w"
  exact q _ (same_new hu)
theorem turn_plain (T : Txt K mg) {st p : Addr} {tag : Str} {ws : List Str} {H : Hp} {Q : VK} (hp : H p = some (.lst ((tag :: ws).map V.str))) (h1 : decide (tag ∈ [("joined" : Str), "parted"]) = false) (h2 : decide (tag ∈ [("born" : Str), "taken"]) = false) (h : ("/" : Str) ∉ tag :: ws) (q : ∀ H', Same H H' → Q (.ref p) H') :
    t__law_turned K (wen Q) (tst st p) H :=
  turn_no T hp h1 fun H1 s1 => turn1_no T (s1 _ _ hp) h2 fun H2 s2 => turn0_no T (s2 _ _ (s1 _ _ hp)) h (q _ (s1.trans s2))
theorem no_slash {l : List Str} (h : ∀ y ∈ l, y ≠ "/") : ("/" : Str) ∉ l := fun hm => h _ hm rfl
theorem turn_part (T : Txt K mg) {st p : Addr} {ns : List Int} {m : Int} {n o : Str} {k t b : Nat} {e : Option Str} {H0 H : Hp} {Q : VK} (hn : ns.length ≤ 63) (hm : m ≤ 10000000) (a : Adv K st ns m H0 H) (hp : H p = some (.lst (([("word" : Str), n, numS k, "part", o, numS t, "/", numS b] ++ elseW e).map V.str)))
    (h1 : isName n = true) (h2 : isName o = true) (ht : t ≤ b) (hb1 : 1 ≤ b) (hb : b ≤ 1000)
    (q : ∀ M u H', 1 ≤ M → M * b ≤ 1000 → Adv K st ns (m + 1) H0 H' → H0 u = none → H' u = some (.lst (([("word" : Str), n, numS k, "part", o, numS (M * t), "/", numS (M * b)] ++ elseW e).map V.str)) → Q (.ref u) H') : t__law_turned_0 K (wen Q) (tst st p) H := by
  have hel := elseW_len e
  unfold t__law_turned_0
  walk_at "w"
  refine st_in_list (SqL.of hp) rfl (flat_strs _) ?_
  rw [inV_strs, decide_eq_true (by simp)]
  walk_at "w"
  refine ⟨.inl ⟨rfl, _, SqL.of hp⟩, ?_⟩
  walk_at "w"
  refine ⟨p, _, .str "/", 6, .str "/", rfl, rfl, SqL.of hp, rfl, flat_strs _, rfl, by rfl, ?_, ?_⟩
  · intro j z' hj hz
    have e6 : j = 0 ∨ j = 1 ∨ j = 2 ∨ j = 3 ∨ j = 4 ∨ j = 5 := by omega
    have key : ∀ z : Str, z ≠ "/" → eqV (.str z) (.str "/") = false := fun z hz => by
      show (z == ("/" : Str)) = false
      exact beq_eq_false_iff_ne.mpr hz
    rcases e6 with rfl | rfl | rfl | rfl | rfl | rfl
    · cases hz; exact key _ (by decide +kernel)
    · cases hz; exact key _ (slash_name h1)
    · cases hz; exact key _ (slash_num _)
    · cases hz; exact key _ (by decide +kernel)
    · cases hz; exact key _ (slash_name h2)
    · cases hz; exact key _ (slash_num _)
  walk_at "w"
  refine st_ix_list (SqL.of hp) (i := ((6 : Nat) : Int) - 1) (v := .str (numS t)) (atI_nat (j := 5) rfl) ?_
  have lt := numS_len (n := t) (k := 20) (by decide) (by omega)
  have lb := numS_len (n := b) (k := 20) (by decide) (by omega)
  walk_at "w"
  refine st_int_str (numS_int (by omega)) (by omega) ?_
  walk_at "w"
  refine st_ix_list (SqL.of hp) (i := ((6 : Nat) : Int) + 1) (v := .str (numS b)) (atI_nat (j := 7) rfl) ?_
  walk_at "w"
  refine st_int_str (numS_int (by omega)) (by omega) ?_
  walk_at "w"
  refine st_div (b := 30) (by omega) (nb (by omega) (by omega)) (by decide) (by decide) ?_
  obtain ⟨c, hc⟩ : ∃ c : Nat, c = 1000 / b := ⟨_, rfl⟩
  have ec : (1000 : Int) / ((b : Nat) : Int) = ((c : Nat) : Int) := by rw [hc]; rfl
  have c1 : 1 ≤ c := by rw [hc]; exact (Nat.one_le_div_iff (by omega)).mpr hb
  have c2 : c * b ≤ 1000 := by rw [hc]; exact Nat.div_mul_le_self _ _
  rw [ec]
  walk_at "w"
  refine use_next a.ls hn (by omega) (by omega) fun r H1 r0 r1 a1 => ?_
  have np : p ≠ st := a.ls.ne_lst hp
  have hp1 := a1.sb _ _ np hp
  have a1 := a.trans a1
  obtain ⟨M, hM⟩ : ∃ M : Nat, 1 + r = ((M : Nat) : Int) := ⟨(1 + r).toNat, by rw [Int.toNat_of_nonneg (by omega)]⟩
  have M1 : 1 ≤ M := by omega
  have M2 : M ≤ c := by omega
  have M3 : M * b ≤ 1000 := Nat.le_trans (Nat.mul_le_mul_right _ M2) c2
  have M4 : M * t ≤ 1000 := Nat.le_trans (Nat.mul_le_mul_left _ ht) M3
  have M5 : M ≤ 1000 := Nat.le_trans (Nat.le_mul_of_pos_right _ hb1) M3
  walk_at "w"
  rw [hM]
  walk_at "w"
  refine st_slice_list (SqL.of hp1) fun u1 hu1 => ?_
  rw [show (((6 : Nat) : Int) - 1) = ((5 : Nat) : Int) from rfl, cutV_to (by simp)]
  have s2 := same_new (o := .lst ((([("word" : Str), n, numS k, "part", o, numS t, "/", numS b] ++ elseW e).map V.str).take 5)) hu1
  have a2 := a1.same s2
  have hp2 := s2 _ _ hp1
  have h2' : upd H1 u1 (.lst ((([("word" : Str), n, numS k, "part", o, numS t, "/", numS b] ++ elseW e).map V.str).take 5)) u1 = some (.lst ([("word" : Str), n, numS k, "part", o].map V.str)) := upd_same
  generalize upd H1 u1 (.lst ((([("word" : Str), n, numS k, "part", o, numS t, "/", numS b] ++ elseW e).map V.str).take 5)) = H2 at *
  walk_at "w"
  refine st_mul (a := 12) (b := 12) (nb (by omega) (by omega)) (nb (by omega) (by omega)) (by decide) (by decide) (by decide) ?_
  rw [show ((M : Nat) : Int) * ((t : Nat) : Int) = ((M * t : Nat) : Int) from rfl]
  walk_at "w"
  refine st_num (by omega) ?_
  walk_at "w"
  refine st_mul (a := 12) (b := 12) (nb (by omega) (by omega)) (nb (by omega) (by omega)) (by decide) (by decide) (by decide) ?_
  rw [show ((M : Nat) : Int) * ((b : Nat) : Int) = ((M * b : Nat) : Int) from rfl]
  walk_at "w"
  refine st_num (by omega) ?_
  walk_at "w"
  refine ⟨show 3 ≤ sizeLine by decide, fun u3 hu3 => ?_⟩
  have s3 := same_new (o := .lst [V.str (numS (M * t)), V.str "/", V.str (numS (M * b))]) hu3
  refine st_add_list (s3 _ _ h2') upd_same (show 5 + 3 ≤ 1000000 by decide) fun u4 hu4 => ?_
  have a4 := (a2.same s3).same (same_new (o := .lst ([("word" : Str), n, numS k, "part", o].map V.str ++ [V.str (numS (M * t)), V.str "/", V.str (numS (M * b))])) hu4)
  have hp4 := same_new (o := .lst ([("word" : Str), n, numS k, "part", o].map V.str ++ [V.str (numS (M * t)), V.str "/", V.str (numS (M * b))])) hu4 _ _ (s3 _ _ hp2)
  have h4 : upd (upd H2 u3 (.lst [V.str (numS (M * t)), V.str "/", V.str (numS (M * b))])) u4 (.lst ([("word" : Str), n, numS k, "part", o].map V.str ++ [V.str (numS (M * t)), V.str "/", V.str (numS (M * b))])) u4 = some (.lst ([("word" : Str), n, numS k, "part", o, numS (M * t), "/", numS (M * b)].map V.str)) := upd_same
  generalize upd (upd H2 u3 (.lst [V.str (numS (M * t)), V.str "/", V.str (numS (M * b))])) u4 (.lst ([("word" : Str), n, numS k, "part", o].map V.str ++ [V.str (numS (M * t)), V.str "/", V.str (numS (M * b))])) = H4 at *
  walk_at "w"
  refine st_slice_list (SqL.of hp4) fun u5 hu5 => ?_
  rw [show (((6 : Nat) : Int) + 2) = ((8 : Nat) : Int) from rfl, cutV_from (by simp)]
  have s5 := same_new (o := .lst ((([("word" : Str), n, numS k, "part", o, numS t, "/", numS b] ++ elseW e).map V.str).drop 8)) hu5
  have e8 : (([("word" : Str), n, numS k, "part", o, numS t, "/", numS b] ++ elseW e).map V.str).drop 8 = (elseW e).map V.str := rfl
  refine st_add_list (s5 _ _ h4) upd_same (by rw [e8, List.length_map, List.length_map]; show 8 + _ ≤ _; omega) fun u6 hu6 => ?_
  have a6 := (a4.same s5).same (same_new (o := .lst ([("word" : Str), n, numS k, "part", o, numS (M * t), "/", numS (M * b)].map V.str ++ (([("word" : Str), n, numS k, "part", o, numS t, "/", numS b] ++ elseW e).map V.str).drop 8)) hu6)
  refine q M u6 _ M1 M3 a6 ?_ ?_
  · have := a6.ls.ne_lst upd_same
    exact (a4.same s5).sb.free this hu6
  · rw [upd_same, e8, ← List.map_append]
theorem turn_two (T : Txt K mg) {st p : Addr} {ns : List Int} {m : Int} {tag a b d : Str} {H : Hp} {Q : VK} (hn : ns.length ≤ 63) (hm : m ≤ 10000000) (ls : LS K H st ns m) (hp : H p = some (.lst ([tag, a, b, d].map V.str))) (htag : decide (tag ∈ [("joined" : Str), "parted"]) = true)
    (ht2 : decide (tag ∈ [("born" : Str), "taken"]) = false) (hs : ("/" : Str) ∉ [tag, a, b, d])
    (q : ∀ u ws H', ws = [tag, a, b, d] ∨ ws = [tag, b, a, d] → Adv K st ns (m + 1) H H' → (u = p ∨ H u = none) → H' u = some (.lst (ws.map V.str)) → Q (.ref u) H') : t__law_turned K (wen Q) (tst st p) H := by
  unfold t__law_turned
  walk_at "w"
  refine st_ix_list (SqL.of hp) (v := .str tag) (atI_nat (j := 0) rfl) ?_
  walk_at "w"
  refine ⟨show 2 ≤ sizeLine by decide, fun u hu => ?_⟩
  refine st_in_tup (.inl (.inl upd_same)) rfl rfl ?_
  rw [in_two htag]
  have a1 := ls.adv (same_new (o := .tup [V.str "joined", V.str "parted"]) hu)
  have hp1 := same_new (o := .tup [V.str "joined", V.str "parted"]) hu _ _ hp
  generalize upd H u (.tup [V.str "joined", V.str "parted"]) = H1 at *
  walk_at "w"
  refine use_next a1.ls hn (by decide) (by omega) fun r H2 r0 r1 a2 => ?_
  have hp2 := a2.sb _ _ (a1.ls.ne_lst hp1) hp1
  have a2 := a1.trans a2
  walk_at "w"
  refine ite2 (fun h => ?_) (fun h => ?_)
  · walk_at "w"
    refine st_slice_list (SqL.of hp2) fun u1 hu1 => ?_
    rw [show cutV ([tag, a, b, d].map V.str) none (some 1) = [V.str tag] from cutV_to (b := 1) (by simp)]
    have s3 := same_new (o := .lst [V.str tag]) hu1
    have a3 := a2.same s3
    have hp3 := s3 _ _ hp2
    have h3 : upd H2 u1 (.lst [V.str tag]) u1 = some (.lst [V.str tag]) := upd_same
    generalize upd H2 u1 (.lst [V.str tag]) = H3 at *
    walk_at "w"
    refine st_slice_list (SqL.of hp3) fun u2 hu2 => ?_
    rw [show cutV ([tag, a, b, d].map V.str) (some 1) (some 3) = [V.str a, V.str b] from cutV_nat (a := 1) (b := 3) (by simp) (by simp)]
    have s4 := same_new (o := .lst [V.str a, V.str b]) hu2
    have a4 := a3.same s4
    have hp4 := s4 _ _ hp3
    have h4 := s4 _ _ h3
    refine ⟨u2, _, rfl, SqL.of upd_same, fun u3 hu3 => ?_⟩
    generalize upd H3 u2 (.lst [V.str a, V.str b]) = H4 at *
    have s5 := same_new (o := .lst [V.str a, V.str b].reverse) hu3
    have a5 := a4.same s5
    have hp5 := s5 _ _ hp4
    refine st_add_list (s5 _ _ h4) upd_same (show 1 + 2 ≤ 1000000 by decide) fun u4 hu4 => ?_
    generalize upd H4 u3 (.lst [V.str a, V.str b].reverse) = H5 at *
    have s6 := same_new (o := .lst ([V.str tag] ++ [V.str a, V.str b].reverse)) hu4
    have a6 := a5.same s6
    have hp6 := s6 _ _ hp5
    have h6 : upd H5 u4 (.lst ([V.str tag] ++ [V.str a, V.str b].reverse)) u4 = some (.lst [V.str tag, V.str b, V.str a]) := upd_same
    generalize upd H5 u4 (.lst ([V.str tag] ++ [V.str a, V.str b].reverse)) = H6 at *
    walk_at "w"
    refine st_slice_list (SqL.of hp6) fun u5 hu5 => ?_
    rw [show cutV ([tag, a, b, d].map V.str) (some 3) none = [V.str d] from cutV_from (a := 3) (by simp)]
    have s7 := same_new (o := .lst [V.str d]) hu5
    have a7 := a6.same s7
    refine st_add_list (s7 _ _ h6) upd_same (show 3 + 1 ≤ 1000000 by decide) fun u6 hu6 => ?_
    have a8 := a7.same (same_new (o := .lst ([V.str tag, V.str b, V.str a] ++ [V.str d])) hu6)
    refine q u6 _ _ (.inr rfl) a8 (.inr ?_) (by rw [upd_same]; rfl)
    exact a7.sb.free (a8.ls.ne_lst upd_same) hu6
  · walk_at "w"
    refine turn1_no T hp2 ht2 fun H3 s3 => turn0_no T (s3 _ _ hp2) hs ?_
    exact q p _ _ (.inl rfl) (a2.same s3) (.inl rfl) (s3 _ _ hp2)
theorem turn_life6 (T : Txt K mg) {st p : Addr} {ns : List Int} {m : Int} {tag n d o a b : Str} {H0 H : Hp} {Q : VK} (hn : ns.length ≤ 63) (hm : m ≤ 10000000) (ls : Adv K st ns m H0 H) (hp : H p = some (.lst ([tag, n, d, o, a, b].map V.str))) (htag : decide (tag ∈ [("born" : Str), "taken"]) = true)
    (hs : ("/" : Str) ∉ [tag, n, d, o, a, b])
    (q : ∀ u ws H', ws = [tag, n, d, o, a, b] ∨ ws = [tag, n, d, o, b, a] → Adv K st ns (m + 1) H0 H' → (u = p ∨ H0 u = none) → H' u = some (.lst (ws.map V.str)) → Q (.ref u) H') : t__law_turned_1 K (wen Q) (tst st p) H := by
  unfold t__law_turned_1
  walk_at "w"
  refine st_ix_list (SqL.of hp) (v := .str tag) (atI_nat (j := 0) rfl) ?_
  walk_at "w"
  refine ⟨show 2 ≤ sizeLine by decide, fun u hu => ?_⟩
  refine st_in_tup (.inl (.inl upd_same)) rfl rfl ?_
  rw [in_two htag]
  have a1 := ls.same (same_new (o := .tup [V.str "born", V.str "taken"]) hu)
  have hp1 := same_new (o := .tup [V.str "born", V.str "taken"]) hu _ _ hp
  generalize upd H u (.tup [V.str "born", V.str "taken"]) = H1 at *
  walk_at "w"
  refine st_len_list (SqL.of hp1) ?_
  walk_at "w"
  rw [show decide (((List.map V.str [tag, n, d, o, a, b]).length : Int) = 6) = true from rfl]
  walk_at "w"
  refine use_next a1.ls hn (by decide) (by omega) fun r H2 r0 r1 a2 => ?_
  have hp2 := a2.sb _ _ (a1.ls.ne_lst hp1) hp1
  have a2 := a1.trans a2
  walk_at "w"
  refine ite2 (fun h => ?_) (fun h => ?_)
  · walk_at "w"
    refine st_slice_list (SqL.of hp2) fun u1 hu1 => ?_
    rw [show cutV ([tag, n, d, o, a, b].map V.str) none (some 4) = [V.str tag, V.str n, V.str d, V.str o] from cutV_to (b := 4) (by simp)]
    have s3 := same_new (o := .lst [V.str tag, V.str n, V.str d, V.str o]) hu1
    have a3 := a2.same s3
    have hp3 := s3 _ _ hp2
    have h3 : upd H2 u1 (.lst [V.str tag, V.str n, V.str d, V.str o]) u1 = some (.lst [V.str tag, V.str n, V.str d, V.str o]) := upd_same
    generalize upd H2 u1 (.lst [V.str tag, V.str n, V.str d, V.str o]) = H3 at *
    walk_at "w"
    refine st_slice_list (SqL.of hp3) fun u2 hu2 => ?_
    rw [show cutV ([tag, n, d, o, a, b].map V.str) (some 4) none = [V.str a, V.str b] from cutV_from (a := 4) (by simp)]
    have s4 := same_new (o := .lst [V.str a, V.str b]) hu2
    have a4 := a3.same s4
    have hp4 := s4 _ _ hp3
    have h4 := s4 _ _ h3
    refine ⟨u2, _, rfl, SqL.of upd_same, fun u3 hu3 => ?_⟩
    generalize upd H3 u2 (.lst [V.str a, V.str b]) = H4 at *
    have s5 := same_new (o := .lst [V.str a, V.str b].reverse) hu3
    have a5 := a4.same s5
    refine st_add_list (s5 _ _ h4) upd_same (show 4 + 2 ≤ 1000000 by decide) fun u4 hu4 => ?_
    have a8 := a5.same (same_new (o := .lst ([V.str tag, V.str n, V.str d, V.str o] ++ [V.str a, V.str b].reverse)) hu4)
    refine q u4 _ _ (.inr rfl) a8 (.inr ?_) (by rw [upd_same]; rfl)
    exact a5.sb.free (a8.ls.ne_lst upd_same) hu4
  · walk_at "w"
    refine turn0_no T hp2 hs ?_
    exact q p _ _ (.inl rfl) a2 (.inl rfl) hp2
theorem turn_life (T : Txt K mg) {st p : Addr} {tag : Str} {ws : List Str} {H : Hp} {Q : VK} (hp : H p = some (.lst ((tag :: ws).map V.str))) (htag : decide (tag ∈ [("born" : Str), "taken"]) = true) (hl : (tag :: ws).length ≠ 6)
    (hs : ("/" : Str) ∉ tag :: ws) (q : ∀ H', Same H H' → Q (.ref p) H') : t__law_turned_1 K (wen Q) (tst st p) H := by
  unfold t__law_turned_1
  walk_at "w"
  refine st_ix_list (SqL.of hp) (v := .str tag) (atI_nat (j := 0) rfl) ?_
  walk_at "w"
  refine ⟨show 2 ≤ sizeLine by decide, fun u hu => ?_⟩
  refine st_in_tup (.inl (.inl upd_same)) rfl rfl ?_
  rw [in_two htag]
  have s1 := same_new (o := .tup [V.str "born", V.str "taken"]) hu
  have hp1 := s1 _ _ hp
  generalize upd H u (.tup [V.str "born", V.str "taken"]) = H1 at *
  walk_at "w"
  refine st_len_list (SqL.of hp1) ?_
  walk_at "w"
  rw [List.length_map, decide_eq_false (show ¬ (((tag :: ws).length : Nat) : Int) = 6 by omega)]
  walk_at "w"
  exact turn0_no T hp1 hs (q _ s1)
theorem ns_cons {y : Str} {l : List Str} (h : y ≠ "/") (g : ("/" : Str) ∉ l) : ("/" : Str) ∉ y :: l := fun hm => by
  rcases List.mem_cons.mp hm with e | hm
  · exact h e.symm
  · exact g hm
theorem ns_nil : ("/" : Str) ∉ ([] : List Str) := fun h => by cases h
theorem ns_else {e : Option Str} (h : optOk e) : ("/" : Str) ∉ elseW e := by
  cases e with
  | none => exact ns_nil
  | some z => exact ns_cons (by decide +kernel) (ns_cons (slash_name h) ns_nil)
theorem pure__law_turned (T : Txt K mg) {x y : V} {H : Hp} {Q : VK} {E : XK} (h : pr_turned K x y H Q E) : t__law_turned K { nx := fun _ H' => Q .non H', rt := Q } [some x, some y, none, none, none, none] H := by
  obtain ⟨st, p, ns, m, f, rfl, rfl, hn, ls, hm, hp, ok, q⟩ := h
  have plain : ∀ {tag : Str} {ws : List Str}, f.words false 1 = tag :: ws → decide (tag ∈ [("joined" : Str), "parted"]) = false → decide (tag ∈ [("born" : Str), "taken"]) = false → ("/" : Str) ∉ tag :: ws → t__law_turned K (wen Q) (tst st p) H := by
    intro tag ws e h1 h2 h3
    rw [e] at hp
    refine turn_plain T hp h1 h2 h3 fun H' s => ?_
    exact q p _ _ ⟨false, 1, rfl, ok, fits_one ok⟩ ((ls.adv s).le (by omega)) (.inl rfl) (by rw [e]; exact s _ _ hp)
  cases f with
  | two t a b d =>
    obtain ⟨ha, hb, hab, hso, hd⟩ := ok
    have h1 : decide ((if t then ("parted" : Str) else "joined") ∈ [("joined" : Str), "parted"]) = true := by cases t <;> decide +kernel
    have h2 : decide ((if t then ("parted" : Str) else "joined") ∈ [("born" : Str), "taken"]) = false := by cases t <;> decide +kernel
    have h3 : (if t then ("parted" : Str) else "joined") ≠ "/" := by cases t <;> decide +kernel
    refine turn_two T hn hm ls hp h1 h2 (ns_cons h3 (ns_cons (slash_name ha) (ns_cons (slash_name hb) (ns_cons (slash_num _) ns_nil)))) fun u ws H' hws a1 hu hw => ?_
    rcases hws with rfl | rfl
    · exact q u _ H' ⟨false, 1, rfl, ⟨ha, hb, hab, hso, hd⟩, trivial⟩ a1 hu hw
    · exact q u _ H' ⟨true, 1, rfl, ⟨ha, hb, hab, hso, hd⟩, trivial⟩ a1 hu hw
  | life t n d ps =>
    have okk := ok
    obtain ⟨hnm, hd, hps, hpl, nd, so, ht⟩ := ok
    have h1 : decide ((if t then ("taken" : Str) else "born") ∈ [("joined" : Str), "parted"]) = false := by cases t <;> decide +kernel
    have h2 : decide ((if t then ("taken" : Str) else "born") ∈ [("born" : Str), "taken"]) = true := by cases t <;> decide +kernel
    have h3 : (if t then ("taken" : Str) else "born") ≠ "/" := by cases t <;> decide +kernel
    match ps, hps, hpl with
    | [], _, _ =>
      refine turn_no T hp h1 fun H1 s1 => ?_
      refine turn_life T (s1 _ _ hp) h2 (by simp) (ns_cons h3 (ns_cons (slash_name hnm) (ns_cons (slash_num _) ns_nil))) fun H2 s2 => ?_
      exact q p _ H2 ⟨false, 1, rfl, okk, trivial⟩ ((ls.adv (s1.trans s2)).le (by omega)) (.inl rfl) (s2 _ _ (s1 _ _ hp))
    | [a], hps, _ =>
      refine turn_no T hp h1 fun H1 s1 => ?_
      refine turn_life T (s1 _ _ hp) h2 (by simp) (ns_cons h3 (ns_cons (slash_name hnm) (ns_cons (slash_num _) (ns_cons (by decide +kernel) (ns_cons (slash_name (hps a (by simp))) ns_nil))))) fun H2 s2 => ?_
      exact q p _ H2 ⟨false, 1, rfl, okk, trivial⟩ ((ls.adv (s1.trans s2)).le (by omega)) (.inl rfl) (s2 _ _ (s1 _ _ hp))
    | [a, b], hps, _ =>
      refine turn_no T hp h1 fun H1 s1 => ?_
      refine turn_life6 T (H0 := H) hn hm (ls.adv s1) (s1 _ _ hp) h2 (ns_cons h3 (ns_cons (slash_name hnm) (ns_cons (slash_num _) (ns_cons (by decide +kernel) (ns_cons (slash_name (hps a (by simp))) (ns_cons (slash_name (hps b (by simp))) ns_nil)))))) fun u ws H' hws a1 hu hw => ?_
      rcases hws with rfl | rfl
      · exact q u _ H' ⟨false, 1, rfl, okk, trivial⟩ a1 hu hw
      · exact q u _ H' ⟨true, 1, rfl, okk, trivial⟩ a1 hu hw
  | died n d =>
    obtain ⟨hnm, hd⟩ := ok
    exact plain rfl (by decide +kernel) (by decide +kernel) (ns_cons (by decide +kernel) (ns_cons (slash_name hnm) (ns_cons (slash_num _) ns_nil)))
  | owns n d =>
    obtain ⟨hnm, hd⟩ := ok
    exact plain rfl (by decide +kernel) (by decide +kernel) (ns_cons (by decide +kernel) (ns_cons (slash_name hnm) (ns_cons (slash_num _) ns_nil)))
  | gave a b s d =>
    obtain ⟨ha, hb, _⟩ := ok
    exact plain rfl (by decide +kernel) (by decide +kernel) (ns_cons (by decide +kernel) (ns_cons (slash_name ha) (ns_cons (slash_name hb) (ns_cons (slash_num _) (ns_cons (slash_num _) ns_nil)))))
  | owes a b s d =>
    obtain ⟨ha, hb, _⟩ := ok
    exact plain rfl (by decide +kernel) (by decide +kernel) (ns_cons (by decide +kernel) (ns_cons (slash_name ha) (ns_cons (slash_name hb) (ns_cons (slash_num _) (ns_cons (slash_num _) ns_nil)))))
  | unfit a b =>
    obtain ⟨ha, hb, _⟩ := ok
    exact plain rfl (by decide +kernel) (by decide +kernel) (ns_cons (by decide +kernel) (ns_cons (slash_name ha) (ns_cons (slash_name hb) ns_nil)))
  | word n k wh =>
    have okk := ok
    obtain ⟨hnm, hk1, hk2, okw⟩ := ok
    cases wh with
    | out o =>
      exact plain rfl (by decide +kernel) (by decide +kernel) (ns_cons (by decide +kernel) (ns_cons (slash_name hnm) (ns_cons (slash_num _) (ns_cons (by decide +kernel) (ns_cons (slash_name okw) ns_nil)))))
    | sum o s e =>
      exact plain rfl (by decide +kernel) (by decide +kernel) (ns_cons (by decide +kernel) (ns_cons (slash_name hnm) (ns_cons (slash_num _) (ns_cons (by decide +kernel) (ns_cons (slash_name okw.1) (ns_cons (slash_num _) (ns_else okw.2.2)))))))
    | part o t b e =>
      obtain ⟨ho, t1, t2, b2, hg, he⟩ := okw
      have ew : (Fact.word n k (.part o t b e)).words false 1 = [("word" : Str), n, numS k, "part", o, numS t, "/", numS b] ++ elseW e := by
        show [("word" : Str), n, numS k] ++ ([("part" : Str), o, numS (1 * t), "/", numS (1 * b)] ++ elseW e) = _
        rw [Nat.one_mul, Nat.one_mul]; rfl
      rw [ew] at hp
      refine turn_no T (ws := [n, numS k, "part", o, numS t, "/", numS b] ++ elseW e) hp (by decide +kernel) fun H1 s1 => ?_
      refine turn1_no T (ws := [n, numS k, "part", o, numS t, "/", numS b] ++ elseW e) (s1 _ _ hp) (by decide +kernel) fun H2 s2 => ?_
      refine turn_part T hn hm (ls.adv (s1.trans s2)) (s2 _ _ (s1 _ _ hp)) hnm ho t2 (by omega) b2 fun M u H' m1 m2 a1 hu hw => ?_
      exact q u _ H' ⟨false, M, rfl, okk, m1, m2⟩ a1 (.inr hu) hw
theorem ok__law_turned (T : Txt K mg) (c__law_next : Kp P w K mg base CX0 1 "_law_next" ["_law_state", "_law_many"] (sp__law_next K)) : Kp P w K mg base CX0 2 "_law_turned" ["_law_state", "_law_row"] (sp__law_turned K) := by
  obtain ⟨fd, F⟩ := T.c.def_ 41 (d := d__law_turned) rfl
  refine ⟨⟨_, fd, T.g__law_turned, F.kp, F.bindsN fun _ _ _ _ _ _ us hl => match us, hl with | [_, _], _ => rfl, F.ok sc__law_turned Sp2.len (fun cdv A outer s H vs Q E hr h => ?_)⟩⟩
  obtain ⟨v0, v1, rfl, h⟩ := h
  refine ⟨t__law_turned K, PSs.nox (?_), pure__law_turned T h⟩
  exact (pss_cons (ps_if (PW.pt (pw_and (pt_cmpR (op_inA hr) (pe_ixA hr (pv 1) pe_int (fun _ _ => rfl)) (pe_tup (pa_cons pe_str (pa_cons pe_str pa_nil))) (by rfl)) (pw_and1 (pt_cmpR (op_eqA hr) (pe_cK c__law_next (hr.mono (by decide)) rfl (pa_cons (pv 0) (pa_cons pe_int pa_nil))) pe_int (nomark _))))) (pss_one (ps_ret (pe_op op_addA (pe_op op_addA (pe_slice sl_A (pv 1) po_none (po_some pe_int)) (pe_revL (pe_slice sl_A (pv 1) (po_some pe_int) (po_some pe_int)))) (pe_slice sl_A (pv 1) (po_some pe_int) po_none)))) pss_nil)
      (pss_cons (ps_if (PW.pt (pw_and (pt_cmpR (op_inA hr) (pe_ixA hr (pv 1) pe_int (fun _ _ => rfl)) (pe_tup (pa_cons pe_str (pa_cons pe_str pa_nil))) (by rfl)) (pw_and (pt_cmpR (op_eqA hr) (pe_callB call_len (by rfl) T.n_len (by decide +kernel) (pa_cons (pv 1) pa_nil)) pe_int (nomark _)) (pw_and1 (pt_cmpR (op_eqA hr) (pe_cK c__law_next (hr.mono (by decide)) rfl (pa_cons (pv 0) (pa_cons pe_int pa_nil))) pe_int (nomark _)))))) (pss_one (ps_ret (pe_op op_addA (pe_slice sl_A (pv 1) po_none (po_some pe_int)) (pe_revL (pe_slice sl_A (pv 1) (po_some pe_int) po_none))))) pss_nil)
      (pss_cons (ps_if (pt_cmpR (op_inA hr) pe_str (pv 1) (by rfl)) (pss_cons (ps_set (i := 2) sc__law_turned.nd rfl (by first | exact Or.inl rfl | exact Or.inr rfl) (pe_bm PySem.F.plainAttrs_list PySem.F.slot_list_index PySem.F.type_list_index mt_index (pv 1) (pa_cons pe_str pa_nil)))
      (pss_cons (ps_par (i := 3) (j := 4) (by rfl) sc__law_turned.nd rfl rfl (by decide) rfl rfl (pa_cons (pe_callTy call_intA (by rfl) T.n_int (by decide +kernel) (pa_cons (pe_ixA hr (pv 1) (pe_op op_sub (pv 2) pe_int) (fun _ _ => rfl)) pa_nil)) (pa_cons (pe_callTy call_intA (by rfl) T.n_int (by decide +kernel) (pa_cons (pe_ixA hr (pv 1) (pe_op op_addA (pv 2) pe_int) (fun _ _ => rfl)) pa_nil)) pa_nil)) (by rfl))
      (pss_cons (ps_set (i := 5) sc__law_turned.nd rfl (by first | exact Or.inl rfl | exact Or.inr rfl) (pe_op op_addA pe_int (pe_cK c__law_next (hr.mono (by decide)) rfl (pa_cons (pv 0) (pa_cons (pe_op op_fdivA pe_int (pv 4)) pa_nil)))))
      (pss_one (ps_ret (pe_op op_addA (pe_op op_addA (pe_slice sl_A (pv 1) po_none (po_some (pe_op op_sub (pv 2) pe_int))) (pe_lst (pa_cons (pe_callTy call_strB (by rfl) T.n_str (by decide +kernel) (pa_cons (pe_op op_mulA (pv 5) (pv 3)) pa_nil)) (pa_cons pe_str (pa_cons (pe_callTy call_strB (by rfl) T.n_str (by decide +kernel) (pa_cons (pe_op op_mulA (pv 5) (pv 4)) pa_nil)) pa_nil))))) (pe_slice sl_A (pv 1) (po_some (pe_op op_addA (pv 2) pe_int)) po_none))))))) pss_nil)
      (pss_one (ps_ret (pv 1))))))
end
end K02
set_option Elab.async false
set_option linter.all false
set_option maxRecDepth 100000
set_option maxHeartbeats 4000000
namespace K02
open PySem PySem.Spec PyProof.Rows L2 My
section
variable {P : Program} {w : World} {K : PySem.W.Frag} {mg : Str → Option Value} {base : Heap}
/-! ### law -/
def pr_law (K : PySem.W.Frag) : V → Hp → VK → XK → Prop := fun x H Q _ => ∃ (a : Addr) (ns : List Int), x = .ref a ∧ SqL K H a (ns.map V.int) ∧ ns.length ≤ 63 ∧ ∀ H', Q (.bl true) H'
def sp_law (K : PySem.W.Frag) : Sp := Sp1 (pr_law K)
def t_law_0 (K : PySem.W.Frag) : TS :=
  (tSeq (tAsg (tCall (sp__law_name K) [] E0 (tCons (tVar 1) (tCons (tC (.int 3)) tNil))) (gName 8))
  (tRet (tOp (rEqA K) (tCall (sp_read_facts K) [] E0 (tCons (tM1 (rJoinA K) (tC (.str "\n")) (tOp rMulA (tLst (tCons (tOp (rAddA K) (tOp (rAddA K) (tC (.str "died ")) (tVar 8)) (tC (.str " 7"))) tNil)) (tC (.int 120)))) tNil)) (tOp rMulA (tLst (tCons (tTup (tCons (tC (.str "died")) (tCons (tVar 8) (tCons (tC (.int 7)) tNil)))) tNil)) (tC (.int 120))))))
def t_law_1 (K : PySem.W.Frag) : TS :=
  (tSeq (tFor (iA K (tTup (tCons (tVar 4) (tCons (tCall (sp__law_loose K) [] E0 (tCons (tVar 1) (tCons (tLc (iA K (tVar 3)) (gName 11) tYes (tCall (sp__law_turned K) [] E0 (tCons (tVar 1) (tCons (tVar 11) tNil))) [11]) tNil))) tNil)))) (gName 5) (tFor (iRng1 (tCons (tC (.int 2)) tNil)) (gName 6) (tSeq (tAsg (tCall (sp_read_facts K) [] E0 (tCons (tVar 5) tNil)) (gName 7))
  (tSeq (tIfS (tNot (tB (tCall (sp__law_alike K 6) [] E0 (tCons (tVar 7) (tCons (tVar 2) tNil))))) (tRet (tC (.bl false))) tNext)
  (tDrop (tBM K "list" rAppend (tVar 7) (tCons (tC (.str "more")) tNil)))))))
  (t_law_0 K))
def t_law (K : PySem.W.Frag) : TS :=
  (tSeq (tAsg (tDisp (((tC (.str "cells")), (tVar 0)) :: (((tC (.str "at")), (tC (.int 0))) :: []))) (gName 1))
  (tSeq (tAsg (tLc (iRng1 (tCons (tCB rMin2I (tCons (tC (.int 40)) (tCons (tCB (rLenA K) (tCons (tVar 0) tNil)) tNil))) tNil)) (gName 9) tYes (tCall (sp__law_fact K) [] E0 (tCons (tVar 1) tNil)) [9]) (gName 2))
  (tSeq (tAsg (tLc (iA K (tVar 2)) (gName 10) tYes (tCall (sp__law_fact_words K) [] E0 (tCons (tVar 10) tNil)) [10]) (gName 3))
  (tSeq (tAsg (tM1 (rJoinA K) (tC (.str "\n")) (tLc (iA K (tVar 3)) (gName 11) tYes (tM1 (rJoinA K) (tC (.str " ")) (tVar 11)) [11])) (gName 4))
  (tSeq (tIfS (tTest (tOp (rNeA K) (tCall (sp_written_facts K) [] E0 (tCons (tVar 2) tNil)) (tVar 4))) (tRet (tC (.bl false))) tNext)
  (t_law_1 K))))))
/-- the text is read to the facts -/
def Reads (z : Str) (fs : List Fact) : Prop := z.length ≤ 8000 ∧ ∃ rows, scan 0 [] [] z.cps.toList = .ok rows ∧ Paired (fun ws f => Tells (wsS ws) f) (full rows) fs
theorem use_read {z : Str} {fs : List Fact} {H : Hp} {Q : VK} {E : XK} (r : Reads z fs) (hl : fs.length ≤ 120) (q : ∀ p vs H', Same H H' → H p = none → H' p = some (.lst vs) → DpAll K H' vs (fs.map Fact.data) → Q (.ref p) H') : Sp1 (pr_read_facts K) [.str z] H Q E := by
  obtain ⟨h1, rows, h2, h3⟩ := r
  exact ⟨_, rfl, z, rows, fs, rfl, h1, h2, h3, hl, q⟩
theorem full_all {rows : List (List (List Nat))} (h : ∀ r ∈ rows, r ≠ []) : full rows = rows := by
  unfold full
  refine List.filter_eq_self.mpr fun r hr => ?_
  have := h r hr
  cases r with
  | nil => exact absurd rfl this
  | cons => rfl
theorem paired_map {α β γ : Type} {R : β → γ → Prop} (f : α → β) : ∀ {l : List α} {m : List γ}, Paired (fun a c => R (f a) c) l m → Paired R (l.map f) m
  | _, _, .nil => .nil
  | _, _, .cons h t => .cons h (paired_map f t)
theorem paired_self {α : Type} {R : α → α → Prop} : ∀ {l : List α}, (∀ a ∈ l, R a a) → Paired R l l
  | [], _ => .nil
  | a :: r, h => .cons (h a List.mem_cons_self) (paired_self fun x hx => h x (List.mem_cons_of_mem _ hx))
/-- the law's own text is read to its facts -/
theorem reads_own {fs : List Fact} (ok : ∀ f ∈ fs, f.Ok) (hz : (Str.join "\n" (fs.map ftext)).length ≤ 8000) : Reads (Str.join "\n" (fs.map ftext)) fs := by
  refine ⟨hz, ?_⟩
  cases fs with
  | nil =>
    refine ⟨[[]], ?_, .nil⟩
    have e : (Str.join "\n" (([] : List Fact).map ftext)).cps.toList = [] := by decide +kernel
    rw [e, scan_nil]; rfl
  | cons f0 fr =>
    have e0 : (f0 :: fr).map ftext = ((f0 :: fr).map (Fact.words false 1)).map (Str.join " ") := by rw [List.map_map]; rfl
    have hg := gone_rows ((f0 :: fr).map (Fact.words false 1)) (t := []) (rows := []) (by simp) (fun ws hws => by
      obtain ⟨f, hf, rfl⟩ := List.mem_map.mp hws
      exact ⟨(words_len (ok f hf) false 1).2, words_wd (ok f hf) (fits_one (ok f hf))⟩) .nil
    refine ⟨_, by rw [e0]; exact hg, ?_⟩
    rw [List.nil_append, full_all (fun r hr => by
      obtain ⟨ws, hws, rfl⟩ := List.mem_map.mp hr
      obtain ⟨f, hf, rfl⟩ := List.mem_map.mp hws
      exact fun e => (words_len (ok f hf) false 1).2 (List.map_eq_nil_iff.mp e))]
    refine paired_map tls (paired_map (Fact.words false 1) (paired_self fun f hf => ?_))
    refine ⟨false, 1, ?_, ok f hf, fits_one (ok f hf)⟩
    exact tls_S _
theorem reads_loose {t : List Nat} {rows : List (List (List Nat))} {Rs : List (List Str)} {fs : List Fact} (h1 : scan 0 [] [] t = .ok rows) (h2 : full rows = Rs.map tls) (h3 : t.length ≤ 8000) (h4 : Paired Tells Rs fs) : Reads (S t) fs := by
  refine ⟨by rw [S_len]; exact h3, rows, h1, ?_⟩
  rw [h2]
  exact paired_map tls (L2.Paired.mapP h4 fun ws f h => by
    have e : wsS (tls ws) = ws := tls_S ws
    show Tells (wsS (tls ws)) f
    rw [e]; exact h)
abbrev lst (a st pf pr : Addr) (z : Str) (v5 v6 v7 : Option V) : L2.St := [some (.ref a), some (.ref st), some (.ref pf), some (.ref pr), some (.str z), v5, v6, v7, none, none, none, none]
theorem e_7 : ("7" : Str) = numS 7 := by decide +kernel
theorem law0 (T : Txt K mg) {a st pf pr : Addr} {z : Str} {v5 v6 v7 : Option V} {ns : List Int} {m : Int} {H : Hp} {Q : VK} (hn : ns.length ≤ 63) (ls : LS K H st ns m) (q : ∀ H', Q (.bl true) H') : t_law_0 K (wen Q) (lst a st pf pr z v5 v6 v7) H := by
  unfold t_law_0
  walk_at "w"
  refine use_nm (k := 3) ls hn rfl (by decide) fun H1 s1 => ?_
  have hz := name_ok ns 3
  have hl := isName_len hz
  generalize nameOf ns 3 = n at *
  walk_at "w"
  have l5 : ("died " : Str).length = 5 := by decide +kernel
  have l2 : (" 7" : Str).length = 2 := by decide +kernel
  refine st_add_str (by rw [l5]; omega) ?_
  walk_at "w"
  refine st_add_str (by rw [len_append, l5, l2]; omega) ?_
  rw [str_join3]
  walk_at "w"
  refine ⟨show 1 ≤ sizeLine by decide, fun p1 hp1 => ?_⟩
  have okf : (Fact.died n 7).Ok := ⟨hz, by decide⟩
  have lf : (Str.join " " (Fact.words false 1 (.died n 7))).length ≤ 20 := by
    rw [← str_join3, len_append, len_append, l5, l2]; omega
  walk_at "w"
  refine st_rep upd_same (by decide) (by decide) (by simp) fun p2 hp2 => ?_
  rw [rep_flat]
  refine ⟨"\n", p2, List.replicate 120 (Str.join " " (Fact.words false 1 (.died n 7))), rfl, rfl, .inl (SqL.of (by rw [upd_same, List.map_replicate]; rfl)), ?_, ?_⟩
  · have h1 := sum_len (ys := List.replicate 120 (Str.join " " (Fact.words false 1 (.died n 7)))) (B := 20) fun y hy => by
      rw [(List.mem_replicate.mp hy).2]; exact lf
    have h2 : ("\n" : Str).length = 1 := by decide +kernel
    rw [h2]
    rw [List.length_replicate] at h1 ⊢
    omega
  rw [TL.join_eq]
  have ej : List.replicate 120 (Str.join " " (Fact.words false 1 (.died n 7))) = (List.replicate 120 (Fact.died n 7)).map ftext := by rw [List.map_replicate]; rfl
  have okr : ∀ f ∈ List.replicate 120 (Fact.died n 7), f.Ok := fun f hf => by rw [(List.mem_replicate.mp hf).2]; exact okf
  rw [ej]
  walk_at "w"
  refine use_read (reads_own okr ?_) (by simp) fun p3 vs H3 s3 hp3 h3 d3 => ?_
  · have h1 := join_len "\n" (ys := (List.replicate 120 (Fact.died n 7)).map ftext) (B := 20) fun y hy => by
      rw [List.map_replicate] at hy
      rw [(List.mem_replicate.mp hy).2]; exact lf
    have h2 : ("\n" : Str).length = 1 := by decide +kernel
    rw [h2, List.length_map, List.length_replicate] at h1
    omega
  walk_at "w"
  refine ⟨show 3 ≤ sizeLine by decide, fun p4 hp4 => ?_⟩
  have s4 := same_new (o := .tup [V.str "died", V.str n, V.int 7]) hp4
  have d4 : Dp K (upd H3 p4 (.tup [V.str "died", V.str n, V.int 7])) (.ref p4) (Fact.died n 7).data := .tup (.inl (.inl upd_same)) (.cons (.str _) (.cons (.str _) (.cons (.int _) .nil)))
  have d3 := d3.same s4
  have h3 := s4 _ _ h3
  generalize upd H3 p4 (.tup [V.str "died", V.str n, V.int 7]) = H4 at *
  walk_at "w"
  refine ⟨show 1 ≤ sizeLine by decide, fun p5 hp5 => ?_⟩
  have s5 := same_new (o := .lst [V.ref p4]) hp5
  walk_at "w"
  refine st_rep upd_same (by decide) (by decide) (by simp) fun p6 hp6 => ?_
  rw [rep_flat]
  have s6 := s5.trans (same_new (o := .lst (List.replicate (Int.toNat 120) (V.ref p4))) hp6)
  have e120 : (120 : Int).toNat = 120 := rfl
  have sh : SeqAt.shaped (.list ((List.replicate 120 (Fact.died n 7)).map Fact.data)) = true := by
    rw [List.map_replicate]
    refine shaped_of (fun d hd => ?_) (fun d hd => ?_)
    · rw [(List.mem_replicate.mp hd).2]
      show (PyData.strOk ("died" : Str) && (PyData.strOk n && (true && true))) = true
      rw [isName_ok hz]; decide +kernel
    · rw [(List.mem_replicate.mp hd).2]
      exact Nat.le_trans (depth_fact _) (by decide)
  refine st_eqD (.lst (SqL.of (s6 _ _ h3)) (d3.same s6)) (.lst (xs := List.replicate 120 (V.ref p4)) (SqL.of upd_same) (by rw [List.map_replicate]; exact dps_rep (d4.same s6) 120)) sh sh ?_
  rw [eqv_same sh]
  exact q _
/-- what stands behind the rows -/
structure LC (K : PySem.W.Frag) (H : Hp) (st pf pr : Addr) (ns : List Int) (m : Int) (vs : List V) (qs : List Addr) (fs : List Fact) : Prop where
  hn : ns.length ≤ 63
  ls : LS K H st ns m
  hm : m ≤ 1000000
  hf : H pf = some (.lst vs)
  df : DpAll K H vs (fs.map Fact.data)
  ok : ∀ f ∈ fs, f.Ok
  hl : fs.length ≤ 40
  hr : H pr = some (.lst (qs.map V.ref))
  pq : Paired (fun q f => H q = some (.lst ((Fact.words false 1 f).map V.str))) qs fs
theorem law1 (T : Txt K mg) {a st pf pr : Addr} {z : Str} {ns : List Int} {m : Int} {vs : List V} {qs : List Addr} {fs : List Fact} {H : Hp} {Q : VK} (c : LC K H st pf pr ns m vs qs fs) (hz : Reads z fs) (q : ∀ H', Q (.bl true) H') : t_law_1 K (wen Q) (lst a st pf pr z none none none) H := by
  have hn := c.hn
  have hm := c.hm
  have hql := c.pq.length
  have hl := c.hl
  unfold t_law_1
  walk_at "w"
  refine .inl ⟨pr, rfl, ⟨_, SqL.of c.hr⟩, fun D hD => ?_⟩
  refine lcpA (walk_list (xs := qs.map V.ref)) (c := 1) hD c.ls fs (by rw [List.length_map, hql]) (by omega) (fun i H' a => SqL.of (a.sb _ _ (c.ls.ne_lst c.hr) c.hr))
    (fun f y H => ∃ q ws, y = V.ref q ∧ q ≠ D ∧ H q = some (.lst ((ws : List Str).map V.str)) ∧ Tells ws f) ?_ ?_ ?_ ?_
  · rintro f y H5 H6 zs hD5 hk ⟨q5, ws, rfl, ne, e, r⟩
    exact ⟨q5, ws, rfl, ne, hk _ _ ne e, r⟩
  · rintro f y H5 H6 m5 m6 l5 a5 ⟨q5, ws, rfl, ne, e, r⟩
    exact ⟨q5, ws, rfl, ne, a5.sb _ _ (l5.ne_lst e) e, r⟩
  · rintro i f x H5 H6 zs hi a5 hD5 ⟨rfl, hx⟩ k1 k2 hk1
    obtain ⟨qa, hqa, eqa⟩ := pgetR c.pq hi
    rw [List.getElem?_map, hqa] at hx
    cases hx
    have i40 : i < 40 := by
      rcases Nat.lt_or_ge i fs.length with h | h
      · omega
      · rw [List.getElem?_eq_none h] at hi; cases hi
    walk_at "w"
    refine ⟨rfl, ?_⟩
    walk_at "w"
    refine ⟨_, _, rfl, st, qa, ns, _, f, rfl, rfl, hn, a5.ls, by omega, a5.sb _ _ (c.ls.ne_lst eqa) eqa, c.ok f (List.mem_of_getElem? hi), fun u ws H7 tl a7 hu hw => ?_⟩
    refine hk1 _ _ a7 ⟨u, ws, rfl, ?_, hw, tl⟩
    rcases hu with rfl | hu
    · exact ne_of_none eqa hD
    · exact fun e => by rw [e, hD5] at hu; cases hu
  intro ys H2 a2 h2 pr2
  obtain ⟨qs2, Rs, rfl, pq2, tells⟩ := turned_of pr2
  walk_at "w"
  refine ⟨_, _, rfl, st, D, ns, _, qs2, Rs, rfl, rfl, hn, a2.ls, by omega, SqL.of h2, pq2, by rw [tells.length]; exact hl, ?_, fun t rows H3 h3 f3 l3 a3 => ?_⟩
  · intro ws hws
    obtain ⟨i, hi⟩ := List.getElem?_of_mem hws
    obtain ⟨f, hf, tl⟩ := pget tells hi
    obtain ⟨sw, mm, rfl, ok, fit⟩ := tl
    exact ⟨(words_len ok sw mm).2, words_len10 ok sw mm, words_wd ok fit⟩
  have hz2 := reads_loose h3 f3 l3 tells
  have a3 := a2.trans a3
  walk_at "w"
  refine ⟨show 2 ≤ sizeLine by decide, fun p4 hp4 => ?_⟩
  have a4 := a3.same (same_new (o := .tup [V.str z, txt t]) hp4)
  have h4 : upd H3 p4 (.tup [V.str z, txt t]) p4 = some (.tup [V.str z, txt t]) := upd_same
  generalize upd H3 p4 (.tup [V.str z, txt t]) = H4 at *
  have hf4 := a4.sb _ _ (c.ls.ne_lst c.hf) c.hf
  have df4 := a4.sb.dps c.ls.notSeq c.df
  have l4 := a4.ls
  refine .inr (.inl ⟨p4, rfl, ⟨_, .inl (.inl h4)⟩, ?_⟩)
  refine for_it (walk_tup (xs := [V.str z, txt t])) (fun i σ H' => ∃ v5 v6 v7 : Option V, σ = lst a st pf pr z v5 v6 v7 ∧ Same H4 H') ⟨none, none, none, rfl, Same.refl _⟩ (fun i σ H' _ ⟨_, _, _, _, s⟩ => same_sqT s (.inl (.inl h4))) ?_ ?_
  · rintro i x σ H5 H6 hi ⟨v5, v6, v7, rfl, s5⟩ ⟨rfl, hx⟩
    obtain ⟨y, rfl, hy⟩ : ∃ y, x = .str y ∧ Reads y fs := by
      match i, hi with
      | 0, _ => cases hx; exact ⟨_, rfl, hz⟩
      | 1, _ => cases hx; exact ⟨_, rfl, hz2⟩
    walk_at "w"
    refine ⟨_, rfl, by decide, by decide, ?_⟩
    refine for_it (walk_range (lo := 0) (n := (2 : Int).toNat)) (fun i σ H' => ∃ v6 v7 : Option V, σ = lst a st pf pr z (some (.str y)) v6 v7 ∧ Same H4 H') ⟨v6, v7, rfl, s5⟩ (fun _ _ _ _ _ => trivial) ?_ ?_
    · rintro j x σ H7 H8 hj ⟨v6, v7, rfl, s7⟩ ⟨rfl, rfl⟩
      walk_at "w"
      refine use_read hy (by omega) fun p9 vs9 H9 s9 hp9 h9 d9 => ?_
      have s9 := s7.trans s9
      walk_at "w"
      obtain ⟨al1, al2⟩ := al_facts c.ok
      refine ⟨_, _, rfl, .list (fs.map Fact.data), .lst (SqL.of h9) d9, .lst (SqL.of (s9 _ _ hf4)) (df4.same s9), ?_, ?_, fun H10 s10 => ?_⟩
      · show PyData.depthAll _ + 1 ≤ 5
        omega
      · show (decide ((fs.map Fact.data).length ≤ 1000) && alOks (fs.map Fact.data)) = true
        rw [al1, decide_eq_true (by rw [List.length_map]; omega)]; rfl
      walk_at "w"
      refine ⟨.inl ⟨rfl, _, SqL.of (s10 _ _ h9)⟩, ?_⟩
      walk_at "w"
      refine ⟨p9, vs9, .str "more", rfl, rfl, s10 _ _ h9, small_lt _ (by rw [d9.len, List.length_map]; omega), ?_⟩
      walk_at "w"
      exact ⟨_, _, rfl, Same.mut (s9.trans s10) (s7.free hp9)⟩
    · rintro σ H7 ⟨v6, v7, rfl, s7⟩
      walk_at "w"
      exact ⟨_, v6, v7, rfl, s7⟩
  · rintro σ H5 ⟨v5, v6, v7, rfl, s5⟩
    walk_at "w"
    exact law0 T hn (l4.same s5) q
theorem pure_law (T : Txt K mg) {x : V} {H : Hp} {Q : VK} {E : XK} (h : pr_law K x H Q E) : t_law K { nx := fun _ H' => Q .non H', rt := Q } [some x, none, none, none, none, none, none, none, none, none, none, none] H := by
  obtain ⟨a, ns, rfl, hs, hn, q⟩ := h
  unfold t_law
  walk_at "w"
  intro st hst
  walk_at "w"
  refine ⟨upd_same, [(Sum.inr "cells", .ref a), (Sum.inr "at", .int 0)], rfl, show 2 ≤ 15 by decide, ?_⟩
  rw [merge_st]
  have hne : a ≠ st ∨ ∀ H', SqL K H' a (ns.map V.int) := by
    rcases hs with (h | ⟨o, h⟩) | h
    · exact .inl fun e => by rw [e, hst] at h; cases h
    · exact .inl fun e => by rw [e, hst] at h; cases h
    · exact .inr fun _ => .inr h
  have s1 : SB st H (upd (upd H st (.dK [])) st (.dK (stK a 0))) := fun b o n e => by rw [upd_ne n, upd_ne n]; exact e
  have ls : LS K (upd (upd H st (.dK [])) st (.dK (stK a 0))) st ns 0 := ⟨a, 0, upd_same, s1.sqL hne hs, hne, by decide, by decide⟩
  have hs1 := s1.sqL hne hs
  generalize upd (upd H st (.dK [])) st (.dK (stK a 0)) = H1 at *
  walk_at "w"
  refine st_len_list hs1 ?_
  walk_at "w"
  refine ⟨40, _, rfl, ?_⟩
  rw [List.length_map]
  obtain ⟨cnt, hcnt, c40⟩ : ∃ cnt : Nat, (if ((ns.length : Nat) : Int) < 40 then ((ns.length : Nat) : Int) else 40) = ((cnt : Nat) : Int) ∧ cnt ≤ 40 := by
    by_cases h : ((ns.length : Nat) : Int) < 40
    · exact ⟨ns.length, by rw [if_pos h], by omega⟩
    · exact ⟨40, by rw [if_neg h]; rfl, by decide⟩
  rw [hcnt]
  walk_at "w"
  refine ⟨_, rfl, by omega, by omega, ?_⟩
  intro D hD
  refine lcpA (walk_range (lo := 0) (n := ((cnt : Nat) : Int).toNat)) (c := 20) hD ls (List.range cnt) (by rw [List.length_range]; rfl) (by rw [List.length_range]; omega) (fun _ _ _ => trivial) (fun _ y H => factV K y H) ?_ ?_ ?_ ?_
  · rintro i y H5 H6 zs hD5 hk ⟨f, d, ok⟩
    exact ⟨f, dp_listed (noL_fact f) hD5 hk d, ok⟩
  · rintro i y H5 H6 m5 m6 l5 a5 ⟨f, d, ok⟩
    exact ⟨f, a5.dp l5 d, ok⟩
  · rintro i j x H5 H6 zs hi a5 hD5 ⟨rfl, rfl⟩ k1 k2 hk1
    have i40 : i < cnt := by
      rcases Nat.lt_or_ge i cnt with h | h
      · exact h
      · rw [List.getElem?_eq_none (by rw [List.length_range]; exact h)] at hi; cases hi
    walk_at "w"
    refine ⟨rfl, ?_⟩
    walk_at "w"
    exact use_draws (c := 20) a5.ls hn (by omega) fun v H7 hv a7 => hk1 v H7 a7 hv
  intro ys H2 a2 h2 pr2
  obtain ⟨fs, dfs, ok, efl⟩ := facts_of pr2
  rw [List.length_range] at efl a2
  clear pr2
  walk_at "w"
  refine .inl ⟨D, rfl, ⟨_, SqL.of h2⟩, fun D2 hD2 => ?_⟩
  refine lcpG (walk_list (xs := ys)) fs (by rw [dfs.len, List.length_map]) (by omega) (fun _ H' => Same H2 H') (same_new hD2) (fun _ _ _ s => Same.mut s hD2) (fun _ H' _ s => SqL.of (s _ _ h2)) (fun _ => true)
    (fun f y H => ∃ q, y = V.ref q ∧ q ≠ D2 ∧ H q = some (.lst ((Fact.words false 1 f).map V.str))) ?_ ?_ ?_
  · rintro f y H5 H6 zs hD5 hk ⟨q5, rfl, ne, e⟩
    exact ⟨q5, rfl, ne, hk _ _ ne e⟩
  · rintro i f x H5 H6 zs hi s5 hD5 ⟨rfl, hx⟩ k1 k2 hk1 hk2
    obtain ⟨v, hv, dv⟩ := dfs.at (i := i) (d := f.data) (by rw [List.getElem?_map, hi]; rfl)
    rw [hx] at hv
    cases hv
    walk_at "w"
    refine ⟨rfl, ?_⟩
    walk_at "w"
    refine ⟨_, rfl, f, dv.same s5, ok f (List.mem_of_getElem? hi), fun p7 H7 s7 hp7 h7 => ?_⟩
    refine hk1 rfl _ _ (s5.trans s7) (s7 _ _ hD5) (fun g y ⟨q5, e1, ne, e⟩ => ⟨q5, e1, ne, s7 _ _ e⟩) ⟨p7, rfl, fun e => ?_, h7⟩
    rw [e, hD5] at hp7; cases hp7
  intro ys3 H3 s3 h3 pr3
  rw [filter_yes] at pr3
  obtain ⟨qs, rfl, pq⟩ := rows_of pr3
  have a3 := a2.same s3
  have hf3 := s3 _ _ h2
  have df3 := dfs.same s3
  walk_at "w"
  refine .inl ⟨D2, rfl, ⟨_, SqL.of h3⟩, fun D4 hD4 => ?_⟩
  have bnd : ∀ f ∈ fs, (ftext f).length ≤ 130 := fun f hf => by
    have h1 := join_len " " (ys := f.words false 1) (B := 12) fun y hy => by
      have := (words_wd (ok f hf) (fits_one (ok f hf)) y hy).ne.2
      rw [tl_len] at this
      exact this
    have h2 := words_len10 (ok f hf) false 1
    have h3 : (" " : Str).length = 1 := by decide +kernel
    rw [h3] at h1
    unfold ftext
    omega
  refine lcv (walk_list (xs := qs.map V.ref)) hD4 fs (by rw [List.length_map, pq.length]) (by omega) (fun H' s => SqL.of (s _ _ h3)) (fun _ => true) (fun f => .str (ftext f)) ?_ ?_
  · rintro i f x H5 H6 hi s5 ⟨rfl, hx⟩ k1 k2 hk1 hk2
    obtain ⟨qa, hqa, eqa⟩ := pgetR pq hi
    rw [List.getElem?_map, hqa] at hx
    cases hx
    walk_at "w"
    refine ⟨rfl, ?_⟩
    walk_at "w"
    refine ⟨" ", qa, f.words false 1, rfl, rfl, .inl (SqL.of (s5 _ _ eqa)), ?_, ?_⟩
    · have hf := List.mem_of_getElem? hi
      have h1 := sum_len (ys := f.words false 1) (B := 12) fun y hy => by
        have := (words_wd (ok f hf) (fits_one (ok f hf)) y hy).ne.2
        rw [tl_len] at this
        exact this
      have h2 := words_len10 (ok f hf) false 1
      have h3 : (" " : Str).length = 1 := by decide +kernel
      rw [h3]
      omega
    · rw [TL.join_eq]
      exact hk1 rfl _ (Same.refl _)
  intro H4 s4 h4
  rw [filter_yes] at h4
  refine ⟨"\n", D4, fs.map ftext, rfl, rfl, .inl (SqL.of (by rw [h4, List.map_map]; rfl)), ?_, ?_⟩
  · have h1 := sum_len (ys := fs.map ftext) (B := 130) fun y hy => by
      obtain ⟨f, hf, rfl⟩ := List.mem_map.mp hy
      exact bnd f hf
    have h2 : ("\n" : Str).length = 1 := by decide +kernel
    rw [h2]
    rw [List.length_map] at h1 ⊢
    omega
  rw [TL.join_eq]
  have hzl : (Str.join "\n" (fs.map ftext)).length ≤ 8000 := by
    have h1 := join_len "\n" (ys := fs.map ftext) (B := 130) fun y hy => by
      obtain ⟨f, hf, rfl⟩ := List.mem_map.mp hy
      exact bnd f hf
    have h2 : ("\n" : Str).length = 1 := by decide +kernel
    rw [h2, List.length_map] at h1
    omega
  walk_at "w"
  refine ⟨_, rfl, D, ys, fs, rfl, SqL.of (s4 _ _ hf3), df3.same s4, ok, by omega, fun H5 s5 => ?_⟩
  walk_at "w"
  rw [decide_eq_true rfl]
  walk_at "w"
  have s45 := s4.trans s5
  exact law1 T ⟨hn, (a3.same s45).ls, by omega, s45 _ _ hf3, df3.same s45, ok, by omega, s45 _ _ h3, L2.Paired.mapP pq fun q f e => s45 _ _ e⟩ (reads_own ok hzl) q
theorem ok_law (T : Txt K mg) (c_read_facts : Kp P w K mg base CX0 8 "read_facts" ["text"] (sp_read_facts K)) (c_written_facts : Kp P w K mg base CX0 4 "written_facts" ["facts"] (sp_written_facts K)) (c__law_name : Kp P w K mg base CX0 1 "_law_name" ["_law_state", "_law_k"] (sp__law_name K)) (c__law_fact : Kp P w K mg base CX0 4 "_law_fact" ["_law_state"] (sp__law_fact K)) (c__law_fact_words : Kp P w K mg base CX0 1 "_law_fact_words" ["_law_fact_here"] (sp__law_fact_words K)) (c__law_loose : Kp P w K mg base CX0 2 "_law_loose" ["_law_state", "_law_rows"] (sp__law_loose K)) (c__law_alike : Kp P w K mg base CX0 7 "_law_alike" ["_law_found", "_law_due"] (sp__law_alike K 6)) (c__law_turned : Kp P w K mg base CX0 2 "_law_turned" ["_law_state", "_law_row"] (sp__law_turned K)) {fd : FuncData} (F : FunD K d_law.name d_law.qual d_law.params d_law.body d_law.scope (d_law.dvs K) (d_law.kws K) (He.fAd K d_law.at_) fd) : FnOk P w K mg base CX0 9 (He.ga K "law") fd ["_law_script"] (sp_law K) := by
  refine F.ok sc_law Sp1.len (fun cdv A outer s H vs Q E hr h => ?_)
  obtain ⟨v0, rfl, h⟩ := h
  refine ⟨t_law K, PSs.nox (?_), pure_law T h⟩
  exact (pss_cons (ps_set (i := 1) sc_law.nd rfl (by first | exact Or.inl rfl | exact Or.inr rfl) (pe_disp (pps_cons pe_str (pv 0) (pps_cons pe_str pe_int pps_nil)) (by rfl) (by rfl) (fun z => by cases z) (by decide)))
      (pss_cons (ps_setLc (i := 2) (own := [("_law_k", 9)]) (g := (gName 9)) rfl sc_law.nd rfl rfl (sw_true rfl rfl rfl (by decide +kernel)) (pi_range1 (by rfl) T.n_range (pa_cons (pe_callB (call_min2 rfl) (by rfl) T.n_min (by decide +kernel) (pa_cons pe_int (pa_cons (pe_callB call_len (by rfl) T.n_len (by decide +kernel) (pa_cons (pv 0) pa_nil)) pa_nil))) pa_nil)) (blkOk_by (own := [("_law_k", 9)]) (N := N_law) (sc := defScope s_law) (by decide +kernel)) (fun _ _ _ _ _ => (pg_name (i := 9) sc_law.nd rfl (by first | exact Or.inl rfl | exact Or.inr rfl))) (fun _ _ _ _ _ => pts_nil) (fun _ _ _ _ _ => (pe_cK c__law_fact (hr.mono (by decide)) rfl (pa_cons (pv 1) pa_nil))))
      (pss_cons (ps_setLc (i := 3) (own := [("_law_fact_here", 10)]) (g := (gName 10)) rfl sc_law.nd rfl rfl (sw_true rfl rfl rfl (by decide +kernel)) (pi_A (pv 2)) (blkOk_by (own := [("_law_fact_here", 10)]) (N := N_law) (sc := defScope s_law) (by decide +kernel)) (fun _ _ _ _ _ => (pg_name (i := 10) sc_law.nd rfl (by first | exact Or.inl rfl | exact Or.inr rfl))) (fun _ _ _ _ _ => pts_nil) (fun _ _ _ _ _ => (pe_cK c__law_fact_words (hr.mono (by decide)) rfl (pa_cons (pv 10) pa_nil))))
      (pss_cons (ps_set (i := 4) sc_law.nd rfl (by first | exact Or.inl rfl | exact Or.inr rfl) (pe_join pe_str (pe_lc (own := [("_law_row", 11)]) (g := (gName 11)) rfl sc_law.nd (pi_A (pv 3)) (blkOk_by (own := [("_law_row", 11)]) (N := N_law) (sc := defScope s_law) (by decide +kernel)) (fun _ _ _ _ _ => (pg_name (i := 11) sc_law.nd rfl (by first | exact Or.inl rfl | exact Or.inr rfl))) (fun _ _ _ _ _ => pts_nil) (fun _ _ _ _ _ => (pe_join pe_str (pv 11))))))
      (pss_cons (ps_if (pt_cmpR (op_neA hr) (pe_cK c_written_facts (hr.mono (by decide)) rfl (pa_cons (pv 2) pa_nil)) (pv 4) (nomark _)) (pss_one (ps_ret pe_bl)) pss_nil)
      (pss_cons (ps_for PassesOwn.never rfl (pi_A (pe_tup (pa_cons (pv 4) (pa_cons (pe_cK c__law_loose (hr.mono (by decide)) rfl (pa_cons (pv 1) (pa_cons (pe_lc (own := [("_law_row", 11)]) (g := (gName 11)) rfl sc_law.nd (pi_A (pv 3)) (blkOk_by (own := [("_law_row", 11)]) (N := N_law) (sc := defScope s_law) (by decide +kernel)) (fun _ _ _ _ _ => (pg_name (i := 11) sc_law.nd rfl (by first | exact Or.inl rfl | exact Or.inr rfl))) (fun _ _ _ _ _ => pts_nil) (fun _ _ _ _ _ => (pe_cK c__law_turned (hr.mono (by decide)) rfl (pa_cons (pv 1) (pa_cons (pv 11) pa_nil))))) pa_nil))) pa_nil)))) (pg_name (i := 5) sc_law.nd rfl (by first | exact Or.inl rfl | exact Or.inr rfl)) (pss_one (ps_for PassesOwn.never rfl (pi_range1 (by rfl) T.n_range (pa_cons pe_int pa_nil)) (pg_name (i := 6) sc_law.nd rfl (by first | exact Or.inl rfl | exact Or.inr rfl)) (pss_cons (ps_set (i := 7) sc_law.nd rfl (by first | exact Or.inl rfl | exact Or.inr rfl) (pe_cK c_read_facts (hr.mono (by decide)) rfl (pa_cons (pv 5) pa_nil)))
      (pss_cons (ps_if (pt_not (pt_val (pe_cK c__law_alike (hr.mono (by decide)) rfl (pa_cons (pv 7) (pa_cons (pv 2) pa_nil))))) (pss_one (ps_ret pe_bl)) pss_nil)
      (pss_one (ps_expr (pe_bm PySem.F.plainAttrs_list PySem.F.slot_list_append PySem.F.type_list_append mt_append (pv 7) (pa_cons pe_str pa_nil)))))))))
      (pss_cons (ps_set (i := 8) sc_law.nd rfl (by first | exact Or.inl rfl | exact Or.inr rfl) (pe_cK c__law_name (hr.mono (by decide)) rfl (pa_cons (pv 1) (pa_cons pe_int pa_nil))))
      (pss_one (ps_ret (pe_cmpR (op_eqA hr) (pe_cK c_read_facts (hr.mono (by decide)) rfl (pa_cons (pe_join pe_str (pe_op op_mulA (pe_lst (pa_cons (pe_op op_addA (pe_op op_addA pe_str (pv 8)) pe_str) pa_nil)) pe_int)) pa_nil)) (pe_op op_mulA (pe_lst (pa_cons (pe_tup (pa_cons pe_str (pa_cons (pv 8) (pa_cons pe_int pa_nil)))) pa_nil)) pe_int) (nomark _)))))))))))
end
end K02
set_option Elab.async false
set_option linter.all false
set_option maxRecDepth 100000
set_option maxHeartbeats 0
namespace K02
open PySem PySem.Spec PyProof.Rows L2 My
abbrev R : PySem.W.OpenRow := PySem.W.OpenLaw.row PySem.Challenge.rw_heirwood_k02_facts_read
abbrev hk : PySem.W.Hook := He.hookX 4 fa fn [] [] ex
def ob (s : PySem.W.SharedT) : He.AlX := He.obsX 4 fa fn [] [] ex (HandSHeadRun.getT s)
theorem ob_eq (s : PySem.W.SharedT) : ob s = hk.obs s.abs := He.obsX_eq (HandSHeadRun.getT_eq s)
def ns0 : List PySem.Str := ["_wall", "HeirError", "BadSign", "BadText", "divisor", "fraction", "TOLD", "LETTERS", "FIGURES", "MOST_SIGNS", "MOST_LETTERS", "MOST_FIGURES", "run_end", "word_end", "row_words", "text_words", "is_name", "is_number", "LAST_DAY", "MOST_SUM"]
def ns1 : List PySem.Str := ["MOST_RANK", "MOST_WORDS", "MOST_BOTTOM", "MOST_FACTS", "FACTS", "Reader", "read_fact", "read_facts", "part_text", "word_words", "fact_text", "written_facts", "_law_next", "_law_name", "_law_pair", "_law_part", "_law_day", "_law_sum", "_law_word_fact", "_law_fact"]
def ns2 : List PySem.Str := ["_law_fact_words", "_law_loose", "_law_alike", "_law_turned"]
def loose : List PySem.Str := ns0 ++ ns1 ++ ns2
theorem run (w : World) : HandSHeadRun.RunEq R (PySem.W.view R.prog [50]) hk ob 5000 loose w := by
  intro os
  kernel_rfl
theorem facts {P : Program} {w : World} {K : PySem.W.Frag} {h : Heap} {mg : Str → Option Value} {f : Addr} (X : K.In h) (G : h.Ns mainGlobals mg) (hfa : mg ("law" : Str) = some (.ref f)) (c : He.SaysX fa fn [] [] ex w h K) :
    ∃ fd : FuncData, (∀ (s : Shared) (v : Value), BindsTo s fd ⟨[v], []⟩ [("_law_script", v)]) ∧ ∀ base : Heap, K.In base → base.Ns mainGlobals mg → FnOk P w K mg base CX0 9 f fd ["_law_script"] (sp_law K) := by
  have T : Txt K mg := ⟨⟨h, X, G⟩, c.t.d, c.more⟩
  obtain ⟨fd, F⟩ := T.c.def_ 42 (d := d_law) rfl
  have e := hfa.symm.trans T.g_law
  cases e
  have b := FunD.bindsA (ps := ["_law_script"]) F fun _ _ _ _ _ _ us hl => match us, hl with | [_], _ => rfl
  refine ⟨fd, fun s v => b s [v] rfl, fun base _ _ => ?_⟩
  have x_BadSign := kx_of T.g_BadSign T.oex_BadSign (ok_BadSign___init__ (P := P) (w := w) (base := base) T )
  have c_divisor := ok_divisor (P := P) (w := w) (base := base) T 
  have c_fraction := ok_fraction (P := P) (w := w) (base := base) T c_divisor
  have c_run_end := ok_run_end (P := P) (w := w) (base := base) T 
  have c_word_end := ok_word_end (P := P) (w := w) (base := base) T c_run_end
  have c_row_words := ok_row_words (P := P) (w := w) (base := base) T c_word_end x_BadSign
  have c_text_words := ok_text_words (P := P) (w := w) (base := base) T c_row_words x_BadSign
  have c_is_name := ok_is_name (P := P) (w := w) (base := base) T 
  have c_is_number := ok_is_number (P := P) (w := w) (base := base) T 
  have c_Reader___init__ := ok_Reader___init__ (P := P) (w := w) (base := base) T 
  have c_Reader_need := ok_Reader_need (P := P) (w := w) (base := base) T 
  have c_Reader_peek := ok_Reader_peek (P := P) (w := w) (base := base) T 
  have c_Reader_go := ok_Reader_go (P := P) (w := w) (base := base) T c_Reader_peek
  have c_Reader_take_word := ok_Reader_take_word (P := P) (w := w) (base := base) T c_Reader_need c_Reader_peek c_Reader_go
  have c_Reader_take_name := ok_Reader_take_name (P := P) (w := w) (base := base) T c_is_name c_Reader_need c_Reader_peek c_Reader_go
  have c_Reader_take_number := ok_Reader_take_number (P := P) (w := w) (base := base) T c_is_number c_Reader_need c_Reader_peek c_Reader_go
  have c_Reader_take_fraction := ok_Reader_take_fraction (P := P) (w := w) (base := base) T c_fraction c_is_number c_Reader_need c_Reader_peek c_Reader_go c_Reader_take_word c_Reader_take_number
  have c_Reader_take_parents := ok_Reader_take_parents (P := P) (w := w) (base := base) T c_Reader_take_name
  have c_Reader_take_pair := ok_Reader_take_pair (P := P) (w := w) (base := base) T c_Reader_take_name
  have c_Reader_over := ok_Reader_over (P := P) (w := w) (base := base) T c_Reader_need
  have c_Reader_take_life := ok_Reader_take_life (P := P) (w := w) (base := base) T c_Reader_take_word c_Reader_take_name c_Reader_take_number c_Reader_take_parents
  have c_Reader_take_instead := ok_Reader_take_instead (P := P) (w := w) (base := base) T c_Reader_take_word c_Reader_take_name
  have c_Reader_take_last_word := ok_Reader_take_last_word (P := P) (w := w) (base := base) T c_Reader_need c_Reader_peek c_Reader_go c_Reader_take_name c_Reader_take_number c_Reader_take_fraction c_Reader_take_instead
  have c_Reader_take_fact := ok_Reader_take_fact (P := P) (w := w) (base := base) T c_Reader_need c_Reader_peek c_Reader_go c_Reader_take_name c_Reader_take_number c_Reader_take_pair c_Reader_take_life c_Reader_take_last_word
  have c_read_fact := ok_read_fact (P := P) (w := w) (base := base) T c_Reader___init__ c_Reader_over c_Reader_take_fact
  have c_read_facts := ok_read_facts (P := P) (w := w) (base := base) T c_text_words c_read_fact
  have c_part_text := ok_part_text (P := P) (w := w) (base := base) T 
  have c_word_words := ok_word_words (P := P) (w := w) (base := base) T c_part_text
  have c_fact_text := ok_fact_text (P := P) (w := w) (base := base) T c_word_words
  have c_written_facts := ok_written_facts (P := P) (w := w) (base := base) T c_fact_text
  have c__law_next := ok__law_next (P := P) (w := w) (base := base) T 
  have c__law_name := ok__law_name (P := P) (w := w) (base := base) T 
  have c__law_pair := ok__law_pair (P := P) (w := w) (base := base) T c__law_next c__law_name
  have c__law_part := ok__law_part (P := P) (w := w) (base := base) T c__law_next
  have c__law_day := ok__law_day (P := P) (w := w) (base := base) T c__law_next
  have c__law_sum := ok__law_sum (P := P) (w := w) (base := base) T c__law_next
  have c__law_word_fact := ok__law_word_fact (P := P) (w := w) (base := base) T c__law_next c__law_pair c__law_part c__law_sum
  have c__law_fact := ok__law_fact (P := P) (w := w) (base := base) T c__law_next c__law_name c__law_pair c__law_day c__law_sum c__law_word_fact
  have c__law_fact_words := ok__law_fact_words (P := P) (w := w) (base := base) T 
  have c__law_loose := ok__law_loose (P := P) (w := w) (base := base) T c__law_next
  have c__law_alike := ok__law_alike (P := P) (w := w) (base := base) T  6
  have c__law_turned := ok__law_turned (P := P) (w := w) (base := base) T c__law_next
  exact ok_law T c_read_facts c_written_facts c__law_name c__law_fact c__law_fact_words c__law_loose c__law_alike c__law_turned F
end K02
open PySem PySem.W PySem.Calls PyProof.Rows
theorem PySem.Challenge.cw_heirwood_k02_facts_read_holds : PySem.Challenge.rw_heirwood_k02_facts_read.Holds := by
  w_on; o_law
  refine HandSHeadRun.head_any (r := OpenLaw.row PySem.Challenge.rw_heirwood_k02_facts_read) (q := view (OpenLaw.row PySem.Challenge.rw_heirwood_k02_facts_read).prog [50]) (H := K02.hk) (ob := K02.ob) (M := 5000) (loose := K02.loose) (d := HandSHeadRun.topDef (OpenLaw.row PySem.Challenge.rw_heirwood_k02_facts_read).prog 50) (kwd := []) K02.ob_eq
    (by kernel_rfl) (fun s => by kernel_rfl) K02.run (by kernel_rfl) (by kernel_rfl) (by kernel_rfl) (by rfl) (by first | assumption | decide +kernel) (by decide +kernel) ⟨rfl, rfl, rfl, rfl, rfl, by decide +kernel⟩ ?hw ?hc
  case hw => w_witness2
  case hc =>
    refine L2.walk_ofE (l := PySem.Challenge.rw_heirwood_k02_facts_read) (n := 63) (k := 9) (x := "_law_script") (CX := L2.CX0) rfl (by decide) (by kernel_rfl) ⟨rfl, by decide, by decide⟩ ?F (fun _ _ _ _ z => z)
    intro w mg fa h Y G hmg0
    obtain ⟨K, KX, c⟩ := Y
    have hmg : mg ("law" : PySem.Str) = some (.ref fa) := by
      have e : (HandSHeadRun.topDef (OpenLaw.row PySem.Challenge.rw_heirwood_k02_facts_read).prog 50).name = ("law" : PySem.Str) := by kernel_rfl
      rw [← e]
      exact hmg0
    obtain ⟨fd, hb, hF⟩ := K02.facts (P := (PySem.Challenge.rw_heirwood_k02_facts_read).prog) (w := w) KX G hmg c
    exact ⟨K, fd, K02.sp_law K, KX, hb, fun H a ns hl _ hS => ⟨_, rfl, a, ns, rfl, hS, hl, fun _ => rfl⟩, hF⟩
