import PyProof.Rows.All
import Wide.All
import OpenK.AllK
import Wide.FinOn
import PyProof.StrBlock2
import PyProof.EqAt
import PyProof.EqKinds
import PyProof.TupleCall
import KE.KStateDown
import HandS.ForMost
import HandS.Exc
import HandS.ExcOwn
import HandS.ExcInit
import HandS.WordsExc
import HandS.Wide
import HandS.Defaults
import HandS.Head0
import HandS.Head1
import HandS.Head2
import HandS.HeadEnd
import HandS.HeadHook1
import HandS.HeadHook2
import HandS.IsInst
import HandS.Style
import HandS.Walk
import PySem.Challenge.RW_heirwood_k01_words
import HandS.HeadHook4
set_option Elab.async false
set_option linter.all false
set_option maxRecDepth 100000
set_option maxHeartbeats 4000000
/-! The layer over HandS: promises by arity, defs by name, rules that choose by the values. -/
namespace My
open PySem PySem.Spec PyProof.Rows L2

/-! ### promises by arity -/
def Sp0 (p : Hp → VK → XK → Prop) : Sp := fun vs H Q E => vs = [] ∧ p H Q E
def Sp1 (p : V → Hp → VK → XK → Prop) : Sp := fun vs H Q E => ∃ a, vs = [a] ∧ p a H Q E
def Sp2 (p : V → V → Hp → VK → XK → Prop) : Sp := fun vs H Q E => ∃ a b, vs = [a, b] ∧ p a b H Q E
def Sp3 (p : V → V → V → Hp → VK → XK → Prop) : Sp := fun vs H Q E => ∃ a b c, vs = [a, b, c] ∧ p a b c H Q E
def Sp4 (p : V → V → V → V → Hp → VK → XK → Prop) : Sp := fun vs H Q E => ∃ a b c d, vs = [a, b, c, d] ∧ p a b c d H Q E
def Sp5 (p : V → V → V → V → V → Hp → VK → XK → Prop) : Sp := fun vs H Q E => ∃ a b c d e, vs = [a, b, c, d, e] ∧ p a b c d e H Q E
theorem Sp0.len {p} : ∀ vs H Q E, Sp0 p vs H Q E → vs.length = 0 := fun _ _ _ _ ⟨e, _⟩ => by rw [e]; rfl
theorem Sp1.len {p} : ∀ vs H Q E, Sp1 p vs H Q E → vs.length = 1 := fun _ _ _ _ ⟨_, e, _⟩ => by rw [e]; rfl
theorem Sp2.len {p} : ∀ vs H Q E, Sp2 p vs H Q E → vs.length = 2 := fun _ _ _ _ ⟨_, _, e, _⟩ => by rw [e]; rfl
theorem Sp3.len {p} : ∀ vs H Q E, Sp3 p vs H Q E → vs.length = 3 := fun _ _ _ _ ⟨_, _, _, e, _⟩ => by rw [e]; rfl
theorem Sp4.len {p} : ∀ vs H Q E, Sp4 p vs H Q E → vs.length = 4 := fun _ _ _ _ ⟨_, _, _, _, e, _⟩ => by rw [e]; rfl
theorem Sp5.len {p} : ∀ vs H Q E, Sp5 p vs H Q E → vs.length = 5 := fun _ _ _ _ ⟨_, _, _, _, _, e, _⟩ => by rw [e]; rfl

/-! ### a def by its name -/
structure Kp (P : Program) (w : World) (K : PySem.W.Frag) (mg : Str → Option Value) (base : Heap) (CX : CXT) (k : Nat) (x : Str) (ps : List Str) (sp : Sp) : Prop where
  ex : ∃ f fd, mg x = some (.ref f) ∧ PySem.W.keepIn K (.ref f) = true ∧ Binds K fd ps [] ∧ FnOk P w K mg base CX k f fd ps sp
/-- a def at its place -/
structure Kf (P : Program) (w : World) (K : PySem.W.Frag) (mg : Str → Option Value) (base : Heap) (CX : CXT) (k : Nat) (f : Addr) (ps : List Str) (sp : Sp) : Prop where
  ex : ∃ fd, PySem.W.keepIn K (.ref f) = true ∧ Binds K fd ps [] ∧ FnOk P w K mg base CX k f fd ps sp

section
variable {X : Cx} {j k : Nat} {x : Str} {ps : List Str} {sp : Sp} {e : Expr} {es : List Expr} {t : TA} {p pos : Pos}
theorem pe_cK (c : Kp X.prog X.w X.K X.mg X.base CX0 j x ps sp) (hr : Room j X.A) (hg : Gl X x) (ha : PA X (e :: es) t)
    (hdb : (x == ("__debug__" : Str)) = false := by decide) (he : starEach (e :: es) X.env = (false, eval e X.env) :: starEach es X.env := by rfl) (hpl : (backTo pos (starEach es X.env)).any (·.1) = false := by rfl) :
    PE X (.Call (.Name x p) (e :: es) [] pos) (tCall sp [] E0 t) := by
  obtain ⟨f, fd, h1, h2, h3, h4⟩ := c.ex
  exact pe_call h4 hr hg h1 h2 h3 .nil pass0 ha hdb he hpl
theorem pe_cK0 (c : Kp X.prog X.w X.K X.mg X.base CX0 j x ps sp) (hr : Room j X.A) (hg : Gl X x) (hdb : (x == ("__debug__" : Str)) = false := by decide) :
    PE X (.Call (.Name x p) [] [] pos) (tCall sp [] E0 tNil) := by
  obtain ⟨f, fd, h1, h2, h3, h4⟩ := c.ex
  exact pe_call0 h4 hr hg h1 h2 h3 .nil pass0 hdb
theorem pe_cKX {W : WX} (c : Kp X.prog X.w X.K X.mg X.base (L2.CX X.prog X.w) j x ps sp) (hr : Room j X.A) (hg : Gl X x) (tk : Takes X W) (ha : PA X (e :: es) t)
    (hdb : (x == ("__debug__" : Str)) = false := by decide) (he : starEach (e :: es) X.env = (false, eval e X.env) :: starEach es X.env := by rfl) (hpl : (backTo pos (starEach es X.env)).any (·.1) = false := by rfl) :
    PE X (.Call (.Name x p) (e :: es) [] pos) (tCallS sp (WE W) t) := by
  obtain ⟨f, fd, h1, h2, h3, h4⟩ := c.ex
  exact pe_callS h4 hr hg h1 h2 h3 (fun σ => passAt tk σ) ha hdb he hpl
end

/-! ### names of the module -/
section
variable {X : Cx} {x : Str} {pos : Pos}
theorem pe_gi {i : Int} (hg : Gl X x) (h : ∃ t, X.mg x = some (.int i t)) (hd : (x == ("__debug__" : Str)) = false := by decide) : PE X (.Name x pos) (tC (.int i)) := by
  obtain ⟨t, h⟩ := h
  exact pe_glob hg h ⟨_, rfl⟩ hd
theorem pe_gs {z : Str} (hg : Gl X x) (h : ∃ t, X.mg x = some (.str z t)) (hd : (x == ("__debug__" : Str)) = false := by decide) : PE X (.Name x pos) (tC (.str z)) := by
  obtain ⟨t, h⟩ := h
  exact pe_glob hg h ⟨_, rfl⟩ hd
theorem pe_gr {a : Addr} (hg : Gl X x) (h : X.mg x = some (.ref a)) (hd : (x == ("__debug__" : Str)) = false := by decide) : PE X (.Name x pos) (tC (.ref a)) :=
  pe_glob hg h rfl hd
end

/-! ### operators that choose by the values -/
def rSubI : R2 := rI0 fun i j => .int (i - j)
def rPowI : R2 := rI CPow fun i j => .int (i ^ j.toNat)
def rDivA : R2 := rI CDivW fun i j => .int (i / j)
def rModA : R2 := rI (fun _ j => 0 < j) fun i j => .int (i % j)
def rNegI : V → Hp → VK → Prop := rU fun i => .int (-i)
def rAddI : R2 := rI0 fun i j => .int (i + j)
def rAddS : R2 := fun x y H Q => ∃ i j, x = .str i ∧ y = .str j ∧ i.length + j.length ≤ sizeLine ∧ Q (.str (i ++ j)) H
def rAddA (K : PySem.W.Frag) : R2 := fun x y H Q => rAddI x y H Q ∨ rAddS x y H Q ∨ rCat x y H Q ∨ rCatT K x y H Q
def rMulI : R2 := rI CMulW fun i j => .int (i * j)
def rMulS : R2 := fun x y H Q => ∃ z n, x = .str z ∧ y = .int n ∧ MulOk z n ∧ Q (.str (Txt.mul z n)) H
def rMulA : R2 := fun x y H Q => rMulI x y H Q ∨ rMulS x y H Q ∨ rRep x y H Q
def rEqA (K : PySem.W.Frag) : R2 := fun x y H Q => rEq x y H Q ∨ rEqD K x y H Q
def rNeA (K : PySem.W.Frag) : R2 := fun x y H Q => rNe x y H Q ∨ rNeD K x y H Q
def rCmpS (p : Str → Str → Bool) : R2 := fun x y H Q => ∃ i j, x = .str i ∧ y = .str j ∧ Q (.bl (p i j)) H
def rLtA : R2 := fun x y H Q => rI0 (fun i j => .bl (decide (i < j))) x y H Q ∨ rCmpS (fun i j => decide (i.cps.toList < j.cps.toList)) x y H Q
def rLeA : R2 := fun x y H Q => rI0 (fun i j => .bl (decide (i ≤ j))) x y H Q ∨ rCmpS (fun i j => !decide (j.cps.toList < i.cps.toList)) x y H Q
def rGtA : R2 := fun x y H Q => rI0 (fun i j => .bl (decide (j < i))) x y H Q ∨ rCmpS (fun i j => decide (j.cps.toList < i.cps.toList)) x y H Q
def rGeA : R2 := fun x y H Q => rI0 (fun i j => .bl (decide (j ≤ i))) x y H Q ∨ rCmpS (fun i j => !decide (i.cps.toList < j.cps.toList)) x y H Q
def rInS (neg : Bool) : R2 := fun x y H Q => ∃ (c : Nat) (z : Str), x = .str ⟨#[c]⟩ ∧ y = .str z ∧ Q (.bl (if neg then !decide (c ∈ z.cps.toList) else decide (c ∈ z.cps.toList))) H
def rInD (neg : Bool) : R2 := fun x y H Q => ∃ a o, y = .ref a ∧ DGet H a x o ∧ Q (.bl (if neg then !o.isSome else o.isSome)) H
def rInA (K : PySem.W.Frag) (neg : Bool) : R2 := fun x y H Q => rInS neg x y H Q ∨ rIn K neg x y H Q ∨ rInD neg x y H Q
def rIxD : R2 := fun x y H Q => ∃ a v, x = .ref a ∧ DGet H a y (some v) ∧ Q v H
def rIxA (K : PySem.W.Frag) : R2 := fun x y H Q => rIx K x y H Q ∨ rIxD x y H Q
def tIxA (K : PySem.W.Frag) (ta tb : TE) : TE := tOp (rIxA K) ta tb
def tInA (K : PySem.W.Frag) (ta tb : TE) : TE := tOp (rInA K false) ta tb
def tNinA (K : PySem.W.Frag) (ta tb : TE) : TE := tOp (rInA K true) ta tb
def rSlA (K : PySem.W.Frag) : V → Option Int → Option Int → Hp → VK → Prop := fun x lo hi H Q => rSlL K x lo hi H Q ∨ rSlS x lo hi H Q ∨ rSlT K x lo hi H Q
def rLenA (K : PySem.W.Frag) : List V → Hp → VK → Prop := fun xs H Q => ∃ x n, xs = [x] ∧ LenV K x H n ∧ Q (.int n) H
def rMin2I : List V → Hp → VK → Prop := fun xs H Q => ∃ i j, xs = [.int i, .int j] ∧ Q (.int (if j < i then j else i)) H
def rMax2I : List V → Hp → VK → Prop := fun xs H Q => ∃ i j, xs = [.int i, .int j] ∧ Q (.int (if j > i then j else i)) H
def rAbsI : List V → Hp → VK → Prop := fun xs H Q => ∃ i, xs = [.int i] ∧ Q (.int (if i < 0 then -i else i)) H
def rIntA : List V → Hp → VK → Prop := fun xs H Q => ((∃ i, xs = [.int i] ∧ Q (.int i) H) ∨ ∃ k, xs = [.bl k] ∧ Q (.int (if k then 1 else 0)) H) ∨ ∃ a n, xs = [.str a] ∧ PySem.intText? a = some n ∧ a.length ≤ 640 ∧ Q (.int n) H
def rStrA : List V → Hp → VK → Prop := fun xs H Q => ∃ i, xs = [.int i] ∧ i.natAbs.log2 < 1920 ∧ Q (.str (toString i)) H
def rListOf (K : PySem.W.Frag) : List V → Hp → VK → Prop := fun xs H Q => ∃ p ys, xs = [.ref p] ∧ (SqL K H p ys ∨ SqT K H p ys) ∧ ∀ l, H l = none → Q (.ref l) (upd H l (.lst ys))
def rTupleOf (K : PySem.W.Frag) : List V → Hp → VK → Prop := fun xs H Q => ∃ p ys, xs = [.ref p] ∧ ((SqL K H p ys ∧ ∀ l, H l = none → Q (.ref l) (upd H l (.tup ys))) ∨ (SqT K H p ys ∧ Q (.ref p) H))
def rSplitA : V → List V → Hp → VK → Prop := fun x xs H Q => ∃ a b, x = .str a ∧ xs = [.str b] ∧ (b.length == 0) = false ∧ a.length + 2 ≤ sizeLine ∧ rNewStrs (Txt.split a b) H Q
def rJoinA (K : PySem.W.Frag) : V → List V → Hp → VK → Prop := fun x xs H Q => ∃ a p, ∃ ys : List Str, x = .str a ∧ xs = [.ref p] ∧ (SqL K H p (ys.map V.str) ∨ SqT K H p (ys.map V.str)) ∧
  (ys.map (·.length)).sum + ys.length * a.length ≤ 16777216 ∧ Q (.str (Txt.join a ys)) H
section
variable {X : Cx} {a b : Expr} {ta tb : TE} {pos : Pos} {k : Nat}
theorem op_addA : OpR X (binaryOp .Add) (rAddA X.K) := op_add.or (op_add_str.or (op_cat.or op_catT))
theorem op_mulS : OpR X (binaryOp .Mult) rMulS := by
  intro pins s σ H x y v u Q I rx ry h
  obtain ⟨z, n, rfl, rfl, hm, q⟩ := h
  obtain ⟨t, rfl⟩ := rx
  obtain ⟨t', rfl⟩ := ry
  exact PySem.SB.mul hm fun t' k => ⟨.str _, H, I.tok _, ⟨_, rfl⟩, q⟩
theorem op_mulA : OpR X (binaryOp .Mult) rMulA := op_mulW.or (op_mulS.or op_rep)
theorem op_fdivA : OpR X (binaryOp .FloorDiv) rDivA := op_fdivW
theorem op_modA : OpR X (binaryOp .Mod) rModA := op_mod
theorem op_eqA (hr : Room k X.A) : OpR X (compareOp .Eq) (rEqA X.K) := op_eq.or (op_eqD (by have := hr.units; omega))
theorem op_neA (hr : Room k X.A) : OpR X (compareOp .NotEq) (rNeA X.K) := op_ne.or (op_neD (by have := hr.units; omega))
theorem op_ltA : OpR X (compareOp .Lt) rLtA := op_lt.or op_lt_str
theorem op_leA : OpR X (compareOp .LtE) rLeA := op_le.or op_le_str
theorem op_gtA : OpR X (compareOp .Gt) rGtA := op_gt.or op_gt_str
theorem op_geA : OpR X (compareOp .GtE) rGeA := op_ge.or op_ge_str
theorem op_inD (hu : X.A.units + 1 < cLine) : OpR X (compareOp .In) (rInD false) := by
  intro pins s σ H x y v u Q I rx ry h
  obtain ⟨d, o, rfl, g, q⟩ := h
  obtain rfl : u = Value.ref d := ry
  exact d_in hu I g rx fun s3 I3 => ⟨.bl o.isSome, H, I3, rfl, q⟩
theorem op_ninD (hu : X.A.units + 1 < cLine) : OpR X (compareOp .NotIn) (rInD true) := by
  intro pins s σ H x y v u Q I rx ry h
  obtain ⟨d, o, rfl, g, q⟩ := h
  obtain rfl : u = Value.ref d := ry
  exact d_notIn hu I g rx fun s3 I3 => ⟨.bl (!o.isSome), H, I3, rfl, q⟩
theorem op_inA (hr : Room k X.A) : OpR X (compareOp .In) (rInA X.K false) := OpR.or (r := rInS false) op_in_sign (op_in_seq.or (op_inD (hu_of hr)))
theorem op_ninA (hr : Room k X.A) : OpR X (compareOp .NotIn) (rInA X.K true) := OpR.or (r := rInS true) op_notIn_sign (op_notIn_seq.or (op_ninD (hu_of hr)))
theorem pe_inA (hr : Room k X.A) (ha : PE X a ta) (hb : PE X b tb) (hm : behindInMarks .In b = false) : PE X (.Compare a [.In] [b] pos) (tInA X.K ta tb) := pe_cmpR (op_inA hr) ha hb hm
theorem pe_ninA (hr : Room k X.A) (ha : PE X a ta) (hb : PE X b tb) (hm : behindInMarks .NotIn b = false) : PE X (.Compare a [.NotIn] [b] pos) (tNinA X.K ta tb) := pe_cmpR (op_ninA hr) ha hb hm
theorem ix_dict (hu : X.A.units + 1 < cLine) : IxR X rIxD := by
  intro value slice pins s σ H x y v u Q I rx ry h hs
  obtain ⟨d, z, rfl, g, q⟩ := h
  obtain rfl : v = Value.ref d := rx
  have hT := dict_typeIs I g
  have hl := PySem.F.slot_dict_getitem.lookup
  unfold subscriptTail
  refine wpAny_bind ?_
  rw [getitemInPython_of_ne hT.not_modules]
  refine wpAny_bind (wpAny_specialOf hT hl ?_)
  have fin : wpAny (model X.prog X.w) X.A (subscripted slice false (.ref d) u) (fun r s₃ => wpAny (model X.prog X.w) X.A (letTemporaryGo value (.ref d) r >>= fun _ => pure r) (EP X pins σ Q) X.xe s₃) X.xe s := by
    rw [hs]
    exact wpAny_operating (wpAny_mono (d_getItem hu I g ry fun w' s3 I3 rw' => (show EP X pins σ Q w' s3 from ⟨z, H, I3, rw', q⟩)) (fun r s₃ h₃ => wpAny_bind (wpAny_letTemporaryGo (wpAny_pure h₃))) fun _ _ x => x)
  first
    | exact wpAny_pure (wpAny_bind fin)
    | exact wpAny_bind (wpAny_pure (wpAny_bind fin))
    | exact wpAny_bind fin
theorem ix_A (hr : Room k X.A) : IxR X (rIxA X.K) := ix_seq.or (ix_dict (hu_of hr))
theorem pe_ixA (hr : Room k X.A) (ha : PE X a ta) (hb : PE X b tb) (hs : PlainIx b) : PE X (.Subscript a b pos) (tIxA X.K ta tb) := pe_ix (ix_A hr) ha hb hs
theorem sl_A : SlR X (rSlA X.K) := sl_list.or (sl_str.or sl_tup)
theorem call_intA : CallR X (.type "int") rIntA := call_int1.or call_int_str
theorem call_strA : CallR X (.type "str") rStrA := call_str_int
end

/-! ### what is walked -/
section
variable {X : Cx} {tg e : Expr} {te : TE}
/-- a list, a tuple, a text -/
def iA (K : PySem.W.Frag) (te : TE) : TI := fun σ H R => te σ H fun x H1 => (∃ a, x = .ref a ∧ (∃ xs, SqL K H1 a xs) ∧ R (Itl K a) H1) ∨ (∃ a, x = .ref a ∧ (∃ xs, SqT K H1 a xs) ∧ R (Itt K a) H1) ∨ (∃ z, x = .str z ∧ R (Its z) H1)
theorem pi_A (he : PE X e te) : PI X tg e (iA X.K te) := by
  refine ⟨fun pins s σ H R I h => ?_⟩
  refine thn (he.run pins s σ H _ I h) fun v s1 ⟨x, H1, I1, r1, q1⟩ => ?_
  rcases q1 with ⟨a, e, ⟨xs, hq⟩, q⟩ | ⟨a, e, ⟨xs, hq⟩, q⟩ | ⟨z, ex, q⟩
  · subst e
    cases r1
    obtain ⟨its, rv, p, hz⟩ := I1.list hq
    refine wpAny_pyIter_list p.isList ?_
    refine ⟨s1.heap.objs.size, [s1.heap.objs.size], _, _, H1, rfl, I1.kept (t' := s1.toks) fun b o e => Heap.get?_push_of_some _ e, turn_list a _, ⟨_, Heap.get?_push_size _ rfl, rfl, rfl⟩, fun b hb => ?_, q⟩
    have e : b = s1.heap.objs.size := by simpa using hb
    subst e
    exact I1.fpOk (Nat.le_refl _) (I1.hok.fresh (Nat.le_refl _))
  · subst e
    cases r1
    obtain ⟨its, rv, p, hz⟩ := I1.tuple hq
    refine wpAny_pyIter_tuple (show s1.heap.IsTuple a its.toArray from p) ?_
    refine ⟨s1.heap.objs.size, [s1.heap.objs.size], _, _, H1, rfl, I1.kept (t' := s1.toks) fun b o e => Heap.get?_push_of_some _ e, turn_tuple a _, ⟨_, Heap.get?_push_size _ rfl, rfl, rfl⟩, fun b hb => ?_, q⟩
    have e : b = s1.heap.objs.size := by simpa using hb
    subst e
    exact I1.fpOk (Nat.le_refl _) (I1.hok.fresh (Nat.le_refl _))
  · subst ex
    obtain ⟨t, rfl⟩ := r1
    cases ha : z.cps.all (· < 128)
    · exact wpAny_pyIter_wide ha (pi_one (tk := s1.toks) I1 _ (turn_str _ z t "str_iterator" (.inr rfl)) ⟨_, Heap.get?_push_size _ rfl, rfl, rfl⟩ q)
    · exact wpAny_pyIter_ascii ha (pi_one (tk := s1.toks) I1 _ (turn_str _ z t "str_ascii_iterator" (.inl rfl)) ⟨_, Heap.get?_push_size _ rfl, rfl, rfl⟩ q)
end

/-! ### list.count of flat items -/
section
variable {X : Cx}
def rCountA (K : PySem.W.Frag) : V → List V → Hp → VK → Prop := fun x xs H Q => ∃ (p : Addr) (ys : List V) (y : V), x = .ref p ∧ xs = [y] ∧ SqL K H p ys ∧ flatV y = true ∧ ys.all flatV = true ∧ Q (.int (ys.countP (fun z => eqV z y) : Nat)) H
theorem countP_eqU {y : V} : ∀ {ys : List V} {its : List Value}, Vals ys its → ys.all flatV = true → its.countP (eqU y) = ys.countP (fun z => eqV z y)
  | _, _, .nil, _ => rfl
  | _, _, @Paired.cons _ _ _ z u zs us r t, f => by
    have f1 : flatV z = true := List.all_eq_true.mp f z List.mem_cons_self
    have f2 : zs.all flatV = true := List.all_eq_true.mpr fun w hw => List.all_eq_true.mp f w (List.mem_cons_of_mem _ hw)
    rw [List.countP_cons, List.countP_cons, countP_eqU t f2, eqU_of r f1]
theorem mt_countA : MtR X "list.count" (rCountA X.K) := by
  intro pins s σ H x xs v us Q I rx rxs h
  obtain ⟨p, ys, y, rfl, rfl, hs, fy, fys, q⟩ := h
  cases rx
  cases rxs with
  | cons ry rt =>
    rename_i uy ut
    cases rt
    obtain ⟨its, rv, ⟨⟨cls, dd, data, sl⟩, n, ho, hc, hdn, hd⟩, hlen⟩ := I.list hs
    simp only at hc hd
    subst hc hd
    refine call_meets PySem.F.slot_list_count ⟨_, ho, rfl⟩ PySem.F.entry_list_count (PySem.F.args_list_count_2 _ _)
      (SeqAt.list_countAt p its.toArray n dd sl uy (eqU y)) ⟨ho, fun u' hu' => mem_eqAt ry fy rv fys u' (by simpa using hu'), ?_⟩
    have ec : its.toArray.toList.countP (eqU y) = ys.countP (fun z => eqV z y) := countP_eqU rv fys
    refine ⟨.int (ys.countP (fun z => eqV z y) : Nat), H, I.tok _, ⟨s.toks, ?_⟩, q⟩
    show Value.int ((its.toArray.toList.countP (eqU y) : Nat) : Int) s.toks = Value.int ((ys.countP (fun z => eqV z y) : Nat) : Int) s.toks
    rw [ec]
end

/-! ### a Boolean list of facts -/
def exAll (l : List Bool) : Bool := l.all id
theorem exAll_at {l : List Bool} (h : exAll l = true) (i : Nat) {b : Bool} (e : l[i]? = some b) : b = true := List.all_eq_true.mp h b (List.mem_of_getElem? e)

/-! ### an exception class with an __init__ that stores its fields -/
def oexB (K : PySem.W.Frag) (x : Str) : Bool :=
  (match K.lookup (He.ga K x) with
    | some ⟨.type "type", _, .cls cd, sl⟩ => (match cd.mro, sl.toList with
      | .ref C' :: bm, [_, _, _, _, some (.builtin n), _] => decide (C' = He.ga K x) && (decide (n = "ValueError.__new__") && (!cd.hasDel && (cd.hasDict && HandSPX.refsVE bm)))
      | _, _ => false)
    | _ => false) &&
  (He.eqO (PySem.W.findIn K (.ref (He.ga K x)) "__setattr__") (some (some (.builtin "object.__setattr__"))) && (decide (PySem.W.subIn K (.ref (He.ga K x)) (.type "BaseException") = some true) && (decide (PySem.W.typeIn K (.ref (He.ga K x)) = some (.type "type")) && (PySem.W.keepIn K (.ref (He.ga K x)) &&
  (He.eqO (PySem.W.findIn K (.ref (He.ga K x)) "__init__") (some (some (.ref (He.ma K (He.ga K x) "__init__")))) && (decide (PySem.W.typeIn K (.ref (He.ma K (He.ga K x) "__init__")) = some (.type "function")) &&
  (He.eqO (PySem.W.findIn K (.ref (He.ga K x)) "__getattribute__") (some (some (.builtin "BaseException.__getattribute__"))) && (He.eqO (PySem.W.findIn K (.ref (He.ga K x)) "__getattr__") (some none) && (PySem.W.hasDictIn K (He.ga K x) &&
  (He.eqO (PySem.W.findIn K (.ref (He.ga K x)) "__class__") (some (some (.builtin "object.__class__"))) && (decide (PySem.W.specialIn K (.builtin "object.__class__") "__get__" = some (some (.builtin "getset_descriptor.__get__"))) && (decide (PySem.W.takesIn K (.builtin "object.__class__") = some true) &&
  decide (PySem.W.mroIn K (He.ga K x) (.type "object") = some true)))))))))))))
/-- all that the written part says of such a class -/
structure OexA (K : PySem.W.Frag) (x : Str) : Prop where
  o : OexC K (He.ga K x)
  i : PySem.W.findIn K (.ref (He.ga K x)) "__init__" = some (some (.ref (He.ma K (He.ga K x) "__init__")))
  t : PySem.W.typeIn K (.ref (He.ma K (He.ga K x) "__init__")) = some (.type "function")
  ga : PySem.W.findIn K (.ref (He.ga K x)) "__getattribute__" = some (some (.builtin "BaseException.__getattribute__"))
  gg : PySem.W.findIn K (.ref (He.ga K x)) "__getattr__" = some none
  hd : PySem.W.hasDictIn K (He.ga K x) = true
  ca : PySem.W.findIn K (.ref (He.ga K x)) "__class__" = some (some (.builtin "object.__class__"))
  cg : PySem.W.specialIn K (.builtin "object.__class__") "__get__" = some (some (.builtin "getset_descriptor.__get__"))
  ct : PySem.W.takesIn K (.builtin "object.__class__") = some true
  cm : PySem.W.mroIn K (He.ga K x) (.type "object") = some true
theorem oexA_of {K : PySem.W.Frag} {x : Str} (h : oexB K x = true) : OexA K x := by
  obtain ⟨h0, h⟩ := Bool.and_eq_true_iff.mp h
  obtain ⟨h1, h⟩ := Bool.and_eq_true_iff.mp h
  obtain ⟨h2, h⟩ := Bool.and_eq_true_iff.mp h
  obtain ⟨h3, h⟩ := Bool.and_eq_true_iff.mp h
  obtain ⟨h4, h⟩ := Bool.and_eq_true_iff.mp h
  obtain ⟨h5, h⟩ := Bool.and_eq_true_iff.mp h
  obtain ⟨h6, h⟩ := Bool.and_eq_true_iff.mp h
  obtain ⟨h7, h⟩ := Bool.and_eq_true_iff.mp h
  obtain ⟨h8, h⟩ := Bool.and_eq_true_iff.mp h
  obtain ⟨h9, h⟩ := Bool.and_eq_true_iff.mp h
  obtain ⟨h10, h⟩ := Bool.and_eq_true_iff.mp h
  obtain ⟨h11, h⟩ := Bool.and_eq_true_iff.mp h
  obtain ⟨h12, h13⟩ := Bool.and_eq_true_iff.mp h
  refine ⟨⟨?_, He.eqO_ok h1, of_decide_eq_true h2, of_decide_eq_true h3, h4⟩, He.eqO_ok h5, of_decide_eq_true h6, He.eqO_ok h7, He.eqO_ok h8, h9, He.eqO_ok h10, of_decide_eq_true h11, of_decide_eq_true h12, of_decide_eq_true h13⟩
  split at h0
  · rename_i dd cd sl ho
    split at h0
    · rename_i C' bm k0 k1 k2 k3 n k5 hm hs
      simp only [Bool.and_eq_true, decide_eq_true_eq, Bool.not_eq_true'] at h0
      obtain ⟨rfl, rfl, hdel, hdi, hr⟩ := h0
      obtain ⟨nm, bs, mro, ns, qn, hd, sn, sub, ab, col, del⟩ := cd
      dsimp only at hm hdel hdi
      subst hm hdel hdi
      have hsl : sl = #[k0, k1, k2, k3, some (.builtin "ValueError.__new__"), k5] := by
        obtain ⟨l⟩ := sl
        simp only at hs
        rw [hs]
      subst hsl
      exact ⟨nm, qn, ns, bs, bm, sn, sub, ab, col, dd, k0, k1, k2, k3, k5, ho, hr⟩
    · cases h0
  · cases h0

structure Kx (P : Program) (w : World) (K : PySem.W.Frag) (mg : Str → Option Value) (base : Heap) (k : Nat) (x : Str) (ps : List Str) (sp : Sp) : Prop where
  g : mg x = some (.ref (He.ga K x))
  o : OexA K x
  f : Kf P w K mg base CX0 k (He.ma K (He.ga K x) "__init__") ps sp
theorem kx_of {P : Program} {w : World} {K : PySem.W.Frag} {mg : Str → Option Value} {base : Heap} {k : Nat} {x : Str} {ps : List Str} {sp : Sp} (g : mg x = some (.ref (He.ga K x))) (o : oexB K x = true) (f : Kf P w K mg base CX0 k (He.ma K (He.ga K x) "__init__") ps sp) :
    Kx P w K mg base k x ps sp := ⟨g, oexA_of o, f⟩
def tRaiseX (C : Addr) (sp : Sp) (W : WX) (ta : TA) : TS := fun _ σ H => tMkO C sp [] ta σ H fun cls d H' => W cls d σ H'
section
variable {X : Cx} {k : Nat} {x : Str} {ps : List Str} {sp : Sp} {e : Expr} {es : List Expr} {ta : TA} {p pos : Pos}
theorem pmk_X (c : Kx X.prog X.w X.K X.mg X.base k x ps sp) (hr : Room (k + 1) X.A) (hg : Gl X x) (ha : PA X (e :: es) ta)
    (hdb : (x == ("__debug__" : Str)) = false := by decide) (he : starEach (e :: es) X.env = (false, eval e X.env) :: starEach es X.env := by rfl) (hpl : (backTo pos (starEach es X.env)).any (·.1) = false := by rfl) :
    PMk X (.Call (.Name x p) (e :: es) [] pos) (tMkO (He.ga X.K x) sp [] ta) := by
  obtain ⟨fd, h2, h3, h4⟩ := c.f.ex
  exact pmk_oex c.o.o c.o.i c.o.t h4 hr h3 .nil pass0 hg c.g ha hdb he hpl
/-- C(e, ..) as a value -/
def tMkX (C : Addr) (sp : Sp) (ta : TA) : TE := fun σ H Q => ta σ H fun vs H1 => vs.length ≤ 1000 ∧ ∀ a, H1 a = none → sp (.ref a :: vs) (upd H1 a (exo a C none)) (fun v H2 => v = .non ∧ Q (.ref a) H2) E0
theorem pe_mkX (c : Kx X.prog X.w X.K X.mg X.base k x ps sp) (hr : Room (k + 1) X.A) (hg : Gl X x) (ha : PA X (e :: es) ta)
    (hdb : (x == ("__debug__" : Str)) = false := by decide) (he : starEach (e :: es) X.env = (false, eval e X.env) :: starEach es X.env := by rfl) (hpl : (backTo pos (starEach es X.env)).any (·.1) = false := by rfl) :
    PE X (.Call (.Name x p) (e :: es) [] pos) (tMkX (He.ga X.K x) sp ta) := by
  obtain ⟨fd, h2, hb, F1⟩ := c.f.ex
  refine ⟨fun pins s σ H Q I h => ?_⟩
  have T := c.o.o
  obtain ⟨nm, q, N, bs, bm, sn, sub, ab, col, dd, k0, k1, k2, k3, k5, hC, hbm⟩ := T.cls
  refine wpAny_Call_Name_kw (ld_glob I hg c.g ?_ hdb)
  refine PySem.W.callWith_K (h₀ := X.base) I.ok.mod.kin T.kC (thn (ha.run pos pins s σ H _ I h) fun us s1 ⟨vs, H1, I1, r1, hz, q1⟩ => ⟨I1.kIn, ?_⟩) he hpl
  show wpAny _ _ (call (.ref (He.ga X.K x)) us) _ _ _
  obtain ⟨hp, g, dr, tk, os⟩ := s1
  have hsz : hp.objs.size ≤ hp.objs.size + 1 := Nat.le_succ _
  have hn : H1 (hp.objs.size + 1) = none := I1.hok.fresh hsz
  have hq := q1 (hp.objs.size + 1) hn
  have kk : ∀ b o, hp.get? b = some o → ((hp.push (PySem.W.kdv_tup us)).push (PySem.HandSPX.excO (He.ga X.K x) hp.objs.size)).get? b = some o := fun b o e => Heap.get?_push_of_some _ (Heap.get?_push_of_some _ e)
  have hget : ((hp.push (PySem.W.kdv_tup us)).push (PySem.HandSPX.excO (He.ga X.K x) hp.objs.size)).get? (hp.objs.size + 1) = some (PySem.HandSPX.excO (He.ga X.K x) hp.objs.size) := by heap_get
  have I2 : Inv X pins σ (upd H1 (hp.objs.size + 1) (exo (hp.objs.size + 1) (He.ga X.K x) none)) ⟨(hp.push (PySem.W.kdv_tup us)).push (PySem.HandSPX.excO (He.ga X.K x) hp.objs.size), g, dr, tk, os⟩ :=
    I1.laid (t' := tk) (a := hp.objs.size + 1) (o := exo (hp.objs.size + 1) (He.ga X.K x) none) (h' := (hp.push (PySem.W.kdv_tup us)).push (PySem.HandSPX.excO (He.ga X.K x) hp.objs.size)) kk hsz (exo_ok hget)
  have r2 : Vals (V.ref (hp.objs.size + 1) :: vs) (Value.ref (hp.objs.size + 1) :: us) := .cons rfl r1
  have hl : (Value.ref (hp.objs.size + 1) :: (us ++ [])).length = ps.length := by
    rw [List.append_nil]
    have e := r2.length
    rw [F1.len _ _ _ _ hq] at e
    exact e.symm
  have hus : us.length ≤ sizeLine := by
    rw [← Paired.length r1, sizeLine_eq]
    omega
  have hb2 := hb _ (Value.ref (hp.objs.size + 1) :: us) I2.kIn hl
  rw [List.append_nil] at hb2
  refine wpAny_call (PySem.HandSPX.call_own F.excBase_ValueError (fun Y => PySem.HandSPX.refsVE_contains Y bm hbm) (I1.kIn _ _ hC) (PySem.W.looks_findIn I1.kIn c.o.i) (fun self => PySem.W.bind_fn I1.kIn self c.o.t) hus
    (codeAny_mono (F1.run _ X.stack _ _ ⟨Value.ref (hp.objs.size + 1) :: us, []⟩ (Value.ref (hp.objs.size + 1) :: us) _ _ E0 (hr.make (He.ga X.K x) us []) (I2.env0.make (He.ga X.K x) us []) hb2 r2 hq) fun r s' hq' => ?_))
  cases r with
  | error er => exact hq'.elim
  | ok fl =>
    cases fl with
    | ret u =>
      obtain ⟨v, H', I3, rv, ev, q3⟩ := I2.after hq'
      subst ev
      exact ⟨rv, ⟨V.ref (hp.objs.size + 1), H', I3, rfl, q3⟩⟩
    | next => exact False.elim hq'
    | brk => exact False.elim hq'
    | cont => exact False.elim hq'
end

/-! ### an exception that is held as a value -/
def XO (a : Addr) (cls : Value) (d : Option Addr) : HO := .ext fun h => ∃ (oe : Obj) (vs : Array Value), h.get? a = some oe ∧ Zc cls d oe ∧ oe.data = .fields vs
theorem xo_ok {P : Program} {w : World} {H : Hp} {h : Heap} {a : Addr} {cls : Value} {d : Option Addr} {oe : Obj} {vs : Array Value} (e : h.get? a = some oe) (z : Zc cls d oe) (f : oe.data = .fields vs) : ObjOk P w H h a (XO a cls d) :=
  ⟨⟨oe, vs, e, z, f⟩, ⟨oe, e⟩, fun _ _ ⟨o, v, q, r⟩ k => ⟨o, v, k o q, r⟩⟩
theorem xo_at {P : Program} {w : World} {H : Hp} {h : Heap} {a : Addr} {cls : Value} {d : Option Addr} (hok : HOk P w H h) (e : H a = some (XO a cls d)) : ∃ (oe : Obj) (vs : Array Value), h.get? a = some oe ∧ Zc cls d oe ∧ oe.data = .fields vs := by
  have x : ObjOk P w H h a (.ext fun h => ∃ (oe : Obj) (vs : Array Value), h.get? a = some oe ∧ Zc cls d oe ∧ oe.data = .fields vs) := hok a _ e
  exact x.1
/-- at a an exception of the class at C with the fields fs (its dict at d) -/
def XV (H : Hp) (a C d : Addr) (fs : List (Str × V)) : Prop := (H a = some (XO a (.ref C) (some d)) ∧ H d = some (.xd fs)) ∨ (H a = some (exo a C (some d)) ∧ H d = some (exd d fs))
theorem xv_at {P : Program} {w : World} {H : Hp} {h : Heap} {a C d : Addr} {fs : List (Str × V)} (hok : HOk P w H h) (x : XV H a C d fs) :
    ∃ (oe : Obj) (vs : Array Value) (mA : Str → Option Value), h.get? a = some oe ∧ Zc (.ref C) (some d) oe ∧ oe.data = .fields vs ∧ h.Ns1 d mA ∧ ∀ f, RelO (fs.lookup f) (mA f) := by
  rcases x with ⟨h1, h2⟩ | ⟨h1, h2⟩
  · obtain ⟨oe, vs, e1, e2, e3⟩ := xo_at hok h1
    have hx : ObjOk P w H h d (.xd fs) := hok d _ h2
    obtain ⟨mA, hns, hr⟩ := hx
    exact ⟨oe, vs, mA, e1, e2, e3, hns, hr⟩
  · obtain ⟨t1, e1⟩ := exo_at hok h1
    obtain ⟨mA, hns, hr⟩ := exd_at hok h2
    exact ⟨_, _, mA, e1, ⟨rfl, rfl⟩, rfl, hns, hr⟩
theorem Inv.track {X : Cx} {pins : List (Addr × Obj)} {σ : L2.St} {H : Hp} {s : Shared} {a : Addr} {o : HO} (I : Inv X pins σ H s) (n0 : X.s_0.heap.get? a = none) (na : H a = none) (nL : a ≠ X.env.locals)
    (nc : ∀ x c, X.env.cells.lookup x = some c → c ≠ a) (np : ∀ p ∈ X.pn ++ pins, p.1 ≠ a) (new : ObjOk X.prog X.w (upd H a o) s.heap a o) : Inv X pins σ (upd H a o) s := by
  have n1 : ∀ b ob, X.s_0.heap.get? b = some ob → b ≠ a := fun b ob e z => by rw [z, n0] at e; cases e
  refine ⟨I.ok, I.os, I.bare, ⟨I.base.keep, I.base.slot, fun b ob e n hx => ?_, I.base.there, fun b xs e => ?_, fun b ob u e => ?_, fun b ps e => ?_⟩, I.loc, I.cell, ?_, fun x c e => ?_, fun p hp => ?_, fun b ob e => ?_, I.len⟩
  · rw [upd_ne (n1 b ob e)]
    exact I.base.free b ob e n hx
  · have z := I.base.tups b xs e
    rw [upd_ne (ne_of_none z na)]
    exact z
  · have z := I.base.frzs b ob u e
    rw [upd_ne (ne_of_none z na)]
    exact z
  · obtain ⟨m, z⟩ := I.base.tbls b ps e
    refine ⟨m, ?_⟩
    rw [upd_ne (ne_of_none z na)]
    exact z
  · rw [upd_ne (Ne.symm nL)]
    exact I.free
  · rw [upd_ne (nc x c e)]
    exact I.freeC x c e
  · obtain ⟨e, n, ne, nf, d⟩ := I.pin p hp
    refine ⟨e, ?_, ne, nf, d⟩
    rw [upd_ne (np p hp)]
    exact n
  · by_cases hb : b = a
    · subst hb
      rw [upd_same] at e
      cases e
      exact new
    · rw [upd_ne hb] at e
      exact (I.hok b ob e).stay (fun c v _ q => q) (fun c q => by rw [upd_ne (ne_of_none q na)]; exact q) fun c xs q => by rw [upd_ne (ne_of_none q na)]; exact q

/-- what «except C as n: y = n» wishes: behind it y (slot j) is the exception, n (slot i) is empty -/
def wHold (K : PySem.W.Frag) (C : Addr) (i j : Nat) (D : Ends) : WX := fun cls d σ H =>
  PySem.W.exmOne K cls (.ref C) = some true ∧ ∀ a, H a = none → D.nx (((σ.set i (some (.ref a))).set j (some (.ref a))).set i none) (upd H a (XO a cls d))
def tTryHold (K : PySem.W.Frag) (C : Addr) (i j : Nat) (tb : WX → TS) : TS := fun D σ H => tb (wHold K C i j D) D σ H
section
variable {X : Cx} {x n y : Str} {C : Addr} {i j : Nat} {body : List Stmt} {np pos pos' p1 p2 p3 : Pos} {tb : WX → TS}
theorem ps_try_hold (hs : X.stack = X.env :: X.outer) (hf : X.env.frame = some X.env.locals) (hN : X.N.Nodup) (hi : X.N[i]? = some n) (hj : X.N[j]? = some y) (hex : X.ex = []) (hln : X.env.kindOf n = some .local) (hly : X.env.kindOf y = some .local) (hij : i ≠ j) (hil : i < X.N.length)
    (hdn : (n == ("__debug__" : Str)) = false) (hcd : (n == ("__classdict__" : Str)) = false) (hsw : swapsWith (.Name n p2) (some (.Name y p1)) p3.line X.env = pure false)
    (hc : Names X x (.ref C))
    (hb : ∀ (W : WX) (pn : List (Addr × Obj)) (xe : Value → Shared → Prop), Takes (X.tr pn xe) W → PassesOwn (model X.prog X.w) X.A X.env xe → PSs (X.tr pn xe) body (tb W)) :
    PS X (.Try body [.ExceptHandler (some (.Name x np)) (some n) [.Assign [.Name y p1] (.Name n p2) p3] pos'] [] [] pos) (tTryHold X.K C i j tb) := by
  refine ⟨fun pins s σ H D I h => ?_⟩
  have ok := I.ok
  have hfr : X.A.frames = some (X.env :: X.outer) := by rw [ok.frames, hs]
  have hloc : Loc X.env.scope n := .inl hln
  have hlocy : Loc X.env.scope y := .inl hly
  refine wpAny_Try_except ?_
  refine wpAny_mono ((hb (wHold X.K C i j D) (X.pn ++ pins) (fun e s₁ => wpAny (model X.prog X.w) X.A (noteFrame e X.env) (fun _ s₂ => wpAny (model X.prog X.w) X.A (setFlight e none) (fun _ s₃ =>
    wpAny (model X.prog X.w) X.A (handleBy e X.env [.ExceptHandler (some (.Name x np)) (some n) [.Assign [.Name y p1] (.Name n p2) p3] pos']) (SP X pins D) X.xe s₃) X.xe s₂) X.xe s₁) (fun u s' xx => ?_) PassesOwn.looking).run [] s σ H D (I.toTry _) h) (fun f s1 hsp => ?_) (fun e s1 he => he)
  · obtain ⟨a, B, sI, pins', σ', H', cls, d, rfl, J', nb, up, sky, na, os, ag, hb1, hyes⟩ := xx
    have J : Inv X pins σ' H' sI := J'.ofTry ok
    have sky' : Sky B (X.env :: X.outer) a (Zc cls d) X.env.locals s'.heap := by rw [← hs]; exact sky
    show wpAny (model X.prog X.w) X.A (noteFrame (.ref a) X.env) _ _ _
    refine Sky.land Zc.steady hfr hf sky' fun h3 fl3 up3 => ?_
    have J3 : Inv X pins σ' H' { s' with heap := h3 } := J.landed nb fl3.1 (up.trans up3) os ag
    obtain ⟨oe3, vs3, he3, hz3, hd3⟩ := fl3.there
    have notFr : ∀ {h : Heap} {o : Obj} {vs : Array Value}, h.FunFrames B (X.env :: X.outer) → h.get? a = some o → o.data = .fields vs → a ∉ frs (X.env :: X.outer) := fun {h o vs} ff e dd hm => by
      obtain ⟨_, o', e', hnf⟩ := ff.mem hm
      rw [e] at e'; cases e'
      exact hnf _ dd
    have nfr := notFr fl3.2.2.1 he3 hd3
    have nL : a ≠ X.env.locals := fun z => nfr (List.mem_filterMap.mpr ⟨X.env, List.mem_cons_self, by rw [hf, z]⟩)
    have nF : a ∉ X.fs := fun hm => by
      obtain ⟨e, he, q⟩ := List.mem_filterMap.mp hm
      exact nfr (List.mem_filterMap.mpr ⟨e, List.mem_cons_of_mem _ he, q⟩)
    have nI : sI.heap.get? a = none := by
      cases q : sI.heap.get? a with
      | none => rfl
      | some o =>
        have z := nb a o q (by rw [hs]; exact nfr)
        rw [fl3.2.1] at z; cases z
    have n0 : X.s_0.heap.get? a = none := by
      cases q : X.s_0.heap.get? a with
      | none => rfl
      | some o =>
        obtain ⟨o', z⟩ := J.base.there a o q (by rw [hex]; exact fun z => nomatch z)
        rw [nI] at z; cases z
    have npin : ∀ p ∈ X.pn ++ pins, p.1 ≠ a := fun p hp z => by
      have q := (J.pin p hp).1
      rw [z, nI] at q; cases q
    have S3 := J3.suite he3 hd3 na nL nF
    refine wpAny_handleBy_cons (codeAny_handlers_test ?_) (by intro q; cases q)
    have LT : PySem.W.Looks (model X.prog X.w) h3 (typeOf (.ref a)) cls := fun A Q E s k q => wpAny_typeOf_ref (k _ _ he3) (by rw [hz3.1]; exact q)
    have LM := PySem.W.exm_one (M := model X.prog X.w) (J3.kIn) LT hb1
    have test : ∀ {Q : Value → Shared → Prop} {E : Value → Shared → Prop}, Q (.ref C) { s' with heap := h3 } → wpAny (model X.prog X.w) (X.A.mark (some (.ref a))) (eval (.Name x np) X.env) Q E { s' with heap := h3 } := fun {Q E} q => by
      obtain ⟨hg, hdbg, hm | ⟨hm, hv, hnn⟩⟩ := hc
      · exact ld_glob (X := X.suite a ((a, oe3) :: (X.pn ++ pins))) S3 hg hm q hdbg
      · exact ld_blt (X := X.suite a ((a, oe3) :: (X.pn ++ pins))) S3 hg hm hv q hnn hdbg
    refine test (LM.here ?_)
    refine codeAny_handlers_suite_as ?_
    refine HandSPX.lands_againZ fl3 fun h4 fl4 up4 => ?_
    have J4 : Inv X pins σ' H' { s' with heap := h4 } := J.landed nb fl4.1 ((up.trans up3).trans up4) os ag
    obtain ⟨oe4, vs4, he4, hz4, hd4⟩ := fl4.there
    have S4 := J4.suite he4 hd4 na nL nF
    refine store_ok (X := X.suite a ((a, oe4) :: (X.pn ++ pins))) (v := .ref a) S4 hN hi hloc rfl (fun s5 S5 => ?_) (.inr hln)
    have hsl : i < σ'.length := by rw [J4.len]; exact hil
    have hpe : PE (X.suite a ((a, oe4) :: (X.pn ++ pins))) (.Name n p2) (tVar i) := pe_var hi (.inl hln) hdn hcd
    have hpb : PSs (X.suite a ((a, oe4) :: (X.pn ++ pins))) [.Assign [.Name y p1] (.Name n p2) p3] (tAsg (tVar i) (gName j)) := pss_one (ps_set (i := j) hN hj hlocy hpe hsw (.inr hly))
    refine wpAny_mono (hpb.run [] s5 _ H' { nx := fun σ6 H6 => σ6 = (σ'.set i (some (.ref a))).set j (some (.ref a)) ∧ H6 = H', rt := fun _ _ => False, bk := fun _ _ => False, ct := fun _ _ => False } S5 ?_) (fun f s6 hsp => ?_) (fun _ _ z => False.elim z)
    · exact ⟨.ref a, List.getElem?_set_self hsl, rfl, rfl⟩
    · cases f with
      | next =>
        obtain ⟨σ6, H6, S6, rfl, rfl⟩ := hsp
        have S7 : Inv X ((a, oe4) :: pins) ((σ'.set i (some (.ref a))).set j (some (.ref a))) H6 s6 :=
          ⟨ok, S6.os, S6.bare, S6.base, S6.loc, S6.cell, S6.free, S6.freeC, fun p hp => S6.pin p (by
            rw [List.append_nil]
            rcases List.mem_append.mp hp with h1 | h1
            · exact List.mem_cons_of_mem _ (List.mem_append_left _ h1)
            · rcases List.mem_cons.mp h1 with e | h2
              · rw [e]; exact List.mem_cons_self
              · exact List.mem_cons_of_mem _ (List.mem_append_right _ h2)), S6.hok, S6.len⟩
        refine gone_ok S7 hN hi hln fun s7 J7 => ?_
        obtain ⟨he7, na7, _, _, hc7⟩ := J7.pin (a, oe4) (List.mem_append_right _ List.mem_cons_self)
        have J8 : Inv X pins (((σ'.set i (some (.ref a))).set j (some (.ref a))).set i none) H6 s7 :=
          ⟨ok, J7.os, J7.bare, J7.base, J7.loc, J7.cell, J7.free, J7.freeC, fun p hp => J7.pin p (by
            rcases List.mem_append.mp hp with h1 | h1
            · exact List.mem_append_left _ h1
            · exact List.mem_append_right _ (List.mem_cons_of_mem _ h1)), J7.hok, J7.len⟩
        refine ⟨_, _, Inv.track J8 n0 na7 nL (fun z c e q => ?_) npin (xo_ok (cls := cls) (d := d) he7 hz4 hd4), hyes a na⟩
        obtain ⟨v, o, ho, hd⟩ := J8.cell z c e
        rw [q] at ho
        have he7' : s7.heap.get? a = some oe4 := he7
        rw [he7'] at ho
        cases ho
        exact hc7 _ hd
      | brk =>
        obtain ⟨_, _, _, z⟩ := hsp
        exact z.elim
      | cont =>
        obtain ⟨_, _, _, z⟩ := hsp
        exact z.elim
      | ret u =>
        obtain ⟨_, _, _, _, _, z⟩ := hsp
        exact z.elim
  · cases f with
    | next =>
      obtain ⟨σ', H', J', q⟩ := hsp
      exact wpAny_execs_nil ⟨σ', H', J'.ofTry ok, q⟩
    | brk =>
      obtain ⟨σ', H', J', q⟩ := hsp
      exact ⟨σ', H', J'.ofTry ok, q⟩
    | cont =>
      obtain ⟨σ', H', J', q⟩ := hsp
      exact ⟨σ', H', J'.ofTry ok, q⟩
    | ret u =>
      obtain ⟨v, σ', H', J', r, q⟩ := hsp
      exact ⟨v, σ', H', J'.ofTry ok, r, q⟩
end
/-- e.f of such an exception -/
def tXfA (K : PySem.W.Frag) (te : TE) (f : Str) : TE := fun σ H Q => te σ H fun x H1 => ∃ (a d : Addr) (c : Str) (fs : List (Str × V)) (v : V), x = .ref a ∧ XV H1 a (He.ga K c) d fs ∧ OexA K c ∧ PySem.W.findIn K (.ref (He.ga K c)) f = some none ∧ fs.lookup f = some v ∧ Q v H1
theorem pe_xfA {X : Cx} {e : Expr} {te : TE} {pos : Pos} {n : Str} (he : PE X e te) (hb : attributeBase e n X.env (eval e X.env) = eval e X.env := by rfl) : PE X (.Attribute e n pos) (tXfA X.K te n) := by
  refine ⟨fun pins s σ H Q I h => ?_⟩
  refine attr_of hb (thn (he.run pins s σ H _ I h) fun u s1 hh => ?_)
  obtain ⟨x, H1, I1, rx, a, dd, c, fs, v, ex, xv, T, hno, l, q⟩ := hh
  subst ex
  obtain rfl : u = Value.ref a := rx
  obtain ⟨oe, vs, mA, ha, hz, hd, hns, hr⟩ := xv_at I1.hok xv
  obtain ⟨od, ho, hl⟩ := lookIn_ns hns
  obtain ⟨u, hu, ru⟩ := RelO.some_of (v := v) (o := mA n) (by rw [← l]; exact hr n)
  have J : PySem.W.InstAt s1.heap a oe (He.ga X.K c) (some od) := ⟨ha, hz.1, by unfold PySem.W.notCls; rw [hd] <;> rfl, by rw [hz.2]; exact ho⟩
  exact HandSPX.exc_get I1.kIn J T.ga T.gg T.o.exC (PySem.W.findObj_own T.hd hno rfl (by rw [hl, hu])) (handed_of ru) ⟨v, H1, I1.tok _, ru, q⟩

end My
namespace PySem.W
open PySem PySem.Spec PySem.Calls PyProof.Rows
section
variable {prog : Program} {w : World} {A : Around} {E : Value → Shared → Prop} {s : Shared} {K : Frag} {x D : Addr} {ox : Obj} {od : Option Obj}
theorem my_findObj_data {C : Addr} {name : Str} {a g : Value} (hc : (clsIn K C).isSome = true) (ha : findIn K (.ref C) name = some (some a)) (hg : specialIn K a "__get__" = some (some g)) (ht : takesIn K a = some true) : findObj K C od name = some (.bind g a) := by
  obtain ⟨cd, hc⟩ := Option.isSome_iff_exists.mp hc
  unfold findObj
  rw [hc, Option.bind_some, ha, Option.bind_some]
  simp [hg, ht]
theorem my_classE {Q : Option Value → Shared → Prop} (hga : findIn K (.ref D) "__getattribute__" = some (some (.builtin "BaseException.__getattribute__"))) (hgt : findIn K (.ref D) "__getattr__" = some none) (hsub : subIn K (.ref D) (.type "BaseException") = some true)
    (hdct : hasDictIn K D = true) (ha : findIn K (.ref D) "__class__" = some (some (.builtin "object.__class__")))
    (hn : specialIn K (.builtin "object.__class__") "__get__" = some (some (.builtin "getset_descriptor.__get__"))) (htk : takesIn K (.builtin "object.__class__") = some true) (hm : mroIn K D (.type "object") = some true)
    (X : K.In s.heap) (I : InstAt s.heap x ox D od) (h : Q (some (.ref D)) { s with toks := s.toks + 1 }) : wpAny (model prog w) A (getAttr? (.ref x) "__class__") Q E s := by
  have hf : findObj K D od "__class__" = some (.bind (.builtin "getset_descriptor.__get__") (.builtin "object.__class__")) := my_findObj_data (by obtain ⟨cd, hc, _⟩ := any_some hdct; rw [hc]; rfl) ha hn htk
  obtain ⟨hp, g, d, t, os⟩ := s
  have L0 := I.type (M := model prog w)
  have L1 := looks_findIn (M := model prog w) X hga
  have L2 := looks_findIn (M := model prog w) X hgt
  have L3 := looks_find (M := model prog w) X I hf
  have sub : Looks (model prog w) hp (isInstance (.ref x) (.type "BaseException")) true := L0.andThen (looks_subIn X hsub)
  have hx0 : (false && onTheHeap (Value.builtin "BaseException.__getattribute__")) = false := rfl
  have hx2 : (Value.builtin "BaseException.__getattribute__" == Value.builtin "object.__getattribute__") = false := by decide +kernel
  have hx1 : (onTheHeap (Value.ref D) && Value.builtin "BaseException.__getattribute__" == Value.builtin "object.__getattribute__") = false := by rw [hx2]; rfl
  unfold getAttr? getAttrBy? getAttrBy
  refine wpAny_bind (wpAny_mkText (wpAny_bind (wpAny_attempt (wpAny_holding (wpAny_bind (L0.at (wpAny_bind (L1.at ?_))))))))
  show wpAny _ _ (if (onTheHeap (Value.ref D) && Value.builtin "BaseException.__getattribute__" == Value.builtin "object.__getattribute__") = true then _ else _) _ _ _
  rw [hx1, if_neg Bool.false_ne_true]
  unfold getAttrByItsOwn hookBefore
  refine wpAny_bind ?_
  rw [if_pos (show onTheHeap (Value.ref D) = true from rfl)]
  refine L2.at ?_
  refine wpAny_bind (wpAny_attempt (wpAny_holding ?_))
  unfold callGetattribute
  rw [hx0, if_neg Bool.false_ne_true]
  unfold boundAndCalled
  rw [PySem.F.excAttr_ValueError.ga.bind (.ref x)]
  refine wpAny_bind (wpAny_pure ?_)
  show wpAny _ _ (call (.builtin "BaseException.__getattribute__") [.ref x, .str "__class__" t]) _ _ _
  refine wpAny_call (codeAny_call_builtin PySem.F.excAttr_ValueError.ga.plain PySem.F.entry_bexc_ga ?_)
  refine @check_slot (model prog w) _ _ ⟨hp, g, d, t + 1, os⟩ "BaseException.__getattribute__" "BaseException" "__getattribute__" (.ref x) [.str "__class__" t] [] _ (by decide +kernel) (by decide +kernel) sub (PySem.F.args_bexc_ga (.ref x) (.str "__class__" t)) ?_
  unfold Builtin.«object.__getattribute__»
  refine wpAny_bind (wpAny_of_eq (a := ((Value.ref x : Value), [Value.str "__class__" t])) (by first | rfl | (simp only [slotArgs]; rfl)) ?_)
  refine wpAny_bind (wpAny_pure (wpAny_bind (L0.at (wpAny_bind (L3.at ?_)))))
  show wpAny _ _ (holding [Value.builtin "object.__class__"] (call (.builtin "getset_descriptor.__get__") [.builtin "object.__class__", .ref x, .ref D]) >>= ret) _ _ _
  refine wpAny_bind (wpAny_holding (wpAny_call (class_get (s := ⟨hp, g, d, t + 1, os⟩) (ox := ox) (od := od) X I hm ?_)))
  refine wpAny_pure ?_
  show wpAny _ _ (handedOut (.ref D)) _ _ _
  rw [handedOut_of (v := .ref D) rfl]
  first
    | exact wpAny_pure (wpAny_pure h)
    | exact wpAny_pure h
    | exact wpAny_pure (wpAny_bind (wpAny_pure (wpAny_pure h)))
theorem my_kitx_exc (hga : findIn K (.ref D) "__getattribute__" = some (some (.builtin "BaseException.__getattribute__"))) (hgt : findIn K (.ref D) "__getattr__" = some none) (hsub : subIn K (.ref D) (.type "BaseException") = some true) (hdct : hasDictIn K D = true) (ha : findIn K (.ref D) "__class__" = some (some (.builtin "object.__class__")))
    (hn : specialIn K (.builtin "object.__class__") "__get__" = some (some (.builtin "getset_descriptor.__get__"))) (htk : takesIn K (.builtin "object.__class__") = some true) (hm : mroIn K D (.type "object") = some true) :
    KitX K (.ref x) (.ref D) (fun h => InstAt h x ox D od) where
  ty := fun _ _ _ I => I.type
  it := fun _ _ X _ => by
    obtain ⟨cdD, hcD, _⟩ := any_some hdct
    unfold clsIn at hcD
    split at hcD
    · rename_i c' d' cd' sl' ho
      intro A' Q' E' s' k q
      unfold isType loadHead
      exact wpAny_bind (wpAny_loadPart (k _ _ (X _ _ ho)) (wpAny_pure q))
    · cases hcD
  ne := fun h tp dd its n sl X htp => by
    obtain ⟨cdD, hcD, _⟩ := any_some hdct
    refine Bool.eq_false_iff.mpr fun q => ?_
    have e : D = tp := Value.ref.inj (beq_iff_eq.mp q)
    subst e
    unfold clsIn at hcD
    split at hcD
    · rename_i c' d' cd' sl' ho
      have z := (X _ _ ho).symm.trans htp
      cases z
    · cases hcD
  ca := fun X I k => my_classE hga hgt hsub hdct ha hn htk hm X I k
end
end PySem.W
namespace My
open PySem PySem.Spec PyProof.Rows L2
/-- isinstance(e, c), e such an exception -/
def rIsX (K : PySem.W.Frag) : List V → Hp → VK → Prop := fun xs H Q => ∃ (a d : Addr) (x : Str) (fs : List (Str × V)) (c : V) (cv : Value) (b : Bool), xs = [.ref a, c] ∧ XV H a (He.ga K x) d fs ∧ OexA K x ∧ ClsV c cv ∧ PySem.W.kitOne K (.ref (He.ga K x)) cv = some b ∧ Q (.bl b) H
theorem call_isX {X : Cx} : CallR X (.builtin "isinstance") (rIsX X.K) := by
  intro pins s σ H xs us Q I r h
  obtain ⟨a, d, x, fs, c, cv, b, rfl, xv, T, hcv, e, q⟩ := h
  cases r with
  | cons rx rr =>
    cases rr with
    | cons rt rr =>
      cases rr
      cases rx
      have ec := hcv.eq rt
      subst ec
      obtain ⟨oe, vs, mA, ha, hz, hd, hns, hr⟩ := xv_at I.hok xv
      obtain ⟨od, es, ep, ho, _⟩ := id hns
      have J : PySem.W.InstAt s.heap a oe (He.ga X.K x) (some od) := ⟨ha, hz.1, by unfold PySem.W.notCls; rw [hd] <;> rfl, by rw [hz.2]; exact ho⟩
      exact PySem.W.kia_one (PySem.W.my_kitx_exc T.ga T.gg T.o.exC T.hd T.ca T.cg T.ct T.cm) I.kIn J e (fun z => nomatch z) fun tk => ⟨.bl b, H, I.kept (t' := tk) fun _ _ z => z, rfl, q⟩
def rIsA (K : PySem.W.Frag) : List V → Hp → VK → Prop := fun xs H Q => rIsi K xs H Q ∨ rIsiT K xs H Q ∨ rIsX K xs H Q
theorem call_isA {X : Cx} : CallR X (.builtin "isinstance") (rIsA X.K) := call_isi.or (call_isiT.or call_isX)
end My
set_option Elab.async false
set_option linter.all false
set_option maxRecDepth 100000
set_option maxHeartbeats 4000000
/-! Steps: one lemma a reading, by the values. -/
namespace My
open PySem PySem.Spec PyProof.Rows L2
section
variable {K : PySem.W.Frag} {H H' : Hp} {Q : VK} {i j : Int} {x y v : V} {z u : Str}
abbrev S (l : List Nat) : Str := ⟨l.toArray⟩
abbrev txt (l : List Nat) : V := .str (S l)
theorem S_tl (z : Str) : S z.cps.toList = z := by cases z; rfl
theorem small (n : Nat) (h : n ≤ 1000000) : n ≤ sizeLine := Nat.le_trans h (by decide)
theorem small_lt (n : Nat) (h : n ≤ 1000000) : n < sizeLine := Nat.lt_of_le_of_lt h (by decide)
theorem st_ix_str {row : Str} {a c : Nat} (hl : row.length ≤ 1000000) (h : row.cps.toList[a]? = some c) (q : Q (.str ⟨#[c]⟩) H) : rIxA K (.str row) (.int (a : Int)) H Q := .inl (.inr (.inr ⟨row, a, c, rfl, rfl, small _ hl, atI_nat h, q⟩))
theorem st_ix_str0 {row : Str} {c : Nat} (hl : row.length ≤ 1000000) (h : row.cps.toList[0]? = some c) (q : Q (.str ⟨#[c]⟩) H) : rIxA K (.str row) (.int 0) H Q := .inl (.inr (.inr ⟨row, 0, c, rfl, rfl, small _ hl, atI_nat h, q⟩))
theorem st_ix_list {p : Addr} {xs : List V} (h : SqL K H p xs) (ha : atI xs i = some v) (q : Q v H) : rIxA K (.ref p) (.int i) H Q := .inl (.inl ⟨p, xs, i, v, rfl, rfl, h, ha, q⟩)
theorem st_ix_tup {p : Addr} {xs : List V} (h : SqT K H p xs) (ha : atI xs i = some v) (q : Q v H) : rIxA K (.ref p) (.int i) H Q := .inl (.inr (.inl ⟨p, xs, i, v, rfl, rfl, h, ha, q⟩))
theorem st_ix_dict {a : Addr} (g : DGet H a y (some v)) (q : Q v H) : rIxA K (.ref a) y H Q := .inr ⟨a, v, rfl, g, q⟩
theorem st_len_str (hl : z.length ≤ 1000000) (q : Q (.int (z.length : Int)) H) : rLenA K [.str z] H Q := ⟨_, _, rfl, ⟨small _ hl, rfl⟩, q⟩
theorem st_len_list {p : Addr} {xs : List V} (h : SqL K H p xs) (q : Q (.int (xs.length : Int)) H) : rLenA K [.ref p] H Q := ⟨_, _, rfl, .inl ⟨xs, h, rfl⟩, q⟩
theorem st_len_tup {p : Addr} {xs : List V} (h : SqT K H p xs) (q : Q (.int (xs.length : Int)) H) : rLenA K [.ref p] H Q := ⟨_, _, rfl, .inr ⟨xs, h, rfl⟩, q⟩
theorem st_lt (q : Q (.bl (decide (i < j))) H) : rLtA (.int i) (.int j) H Q := .inl ⟨i, j, rfl, rfl, q⟩
theorem st_le (q : Q (.bl (decide (i ≤ j))) H) : rLeA (.int i) (.int j) H Q := .inl ⟨i, j, rfl, rfl, q⟩
theorem st_gt (q : Q (.bl (decide (j < i))) H) : rGtA (.int i) (.int j) H Q := .inl ⟨i, j, rfl, rfl, q⟩
theorem st_ge (q : Q (.bl (decide (j ≤ i))) H) : rGeA (.int i) (.int j) H Q := .inl ⟨i, j, rfl, rfl, q⟩
theorem st_lt_str (q : Q (.bl (decide (z.cps.toList < u.cps.toList))) H) : rLtA (.str z) (.str u) H Q := .inr ⟨z, u, rfl, rfl, q⟩
theorem st_eq (h : scal x y = true) (q : Q (.bl (decide (x = y))) H) : rEqA K x y H Q := .inl ⟨h, q⟩
theorem st_ne (h : scal x y = true) (q : Q (.bl (!decide (x = y))) H) : rNeA K x y H Q := .inl ⟨h, q⟩
theorem st_eqD {d e : PyData} (hd : Dp K H x d) (he : Dp K H y e) (sd : SeqAt.shaped d = true) (se : SeqAt.shaped e = true) (q : Q (.bl (PyData.eqv d e)) H) : rEqA K x y H Q := .inr ⟨d, e, hd, he, sd, se, q⟩
theorem st_neD {d e : PyData} (hd : Dp K H x d) (he : Dp K H y e) (sd : SeqAt.shaped d = true) (se : SeqAt.shaped e = true) (q : Q (.bl (!PyData.eqv d e)) H) : rNeA K x y H Q := .inr ⟨d, e, hd, he, sd, se, q⟩
theorem st_in_sign {c : Nat} (q : Q (.bl (decide (c ∈ z.cps.toList))) H) : rInA K false (.str ⟨#[c]⟩) (.str z) H Q := .inl ⟨c, z, rfl, rfl, q⟩
theorem st_nin_sign {c : Nat} (q : Q (.bl (!decide (c ∈ z.cps.toList))) H) : rInA K true (.str ⟨#[c]⟩) (.str z) H Q := .inl ⟨c, z, rfl, rfl, q⟩
theorem st_in_list {p : Addr} {xs : List V} (h : SqL K H p xs) (fx : flatV x = true) (fs : xs.all flatV = true) (q : Q (.bl (inV x xs)) H) : rInA K false x (.ref p) H Q := .inr (.inl ⟨p, xs, rfl, .inl h, fx, fs, q⟩)
theorem st_nin_list {p : Addr} {xs : List V} (h : SqL K H p xs) (fx : flatV x = true) (fs : xs.all flatV = true) (q : Q (.bl (!inV x xs)) H) : rInA K true x (.ref p) H Q := .inr (.inl ⟨p, xs, rfl, .inl h, fx, fs, q⟩)
theorem st_in_tup {p : Addr} {xs : List V} (h : SqT K H p xs) (fx : flatV x = true) (fs : xs.all flatV = true) (q : Q (.bl (inV x xs)) H) : rInA K false x (.ref p) H Q := .inr (.inl ⟨p, xs, rfl, .inr h, fx, fs, q⟩)
theorem st_nin_tup {p : Addr} {xs : List V} (h : SqT K H p xs) (fx : flatV x = true) (fs : xs.all flatV = true) (q : Q (.bl (!inV x xs)) H) : rInA K true x (.ref p) H Q := .inr (.inl ⟨p, xs, rfl, .inr h, fx, fs, q⟩)
theorem st_in_dict {a : Addr} {o : Option V} (g : DGet H a x o) (q : Q (.bl o.isSome) H) : rInA K false x (.ref a) H Q := .inr (.inr ⟨a, o, rfl, g, q⟩)
theorem st_nin_dict {a : Addr} {o : Option V} (g : DGet H a x o) (q : Q (.bl (!o.isSome)) H) : rInA K true x (.ref a) H Q := .inr (.inr ⟨a, o, rfl, g, q⟩)
theorem st_add (q : Q (.int (i + j)) H) : rAddA K (.int i) (.int j) H Q := .inl ⟨i, j, rfl, rfl, q⟩
theorem st_add_str (h : z.length + u.length ≤ 1000000) (q : Q (.str (z ++ u)) H) : rAddA K (.str z) (.str u) H Q := .inr (.inl ⟨z, u, rfl, rfl, small _ h, q⟩)
theorem st_add_list {l b : Addr} {xs zs : List V} (h : H l = some (.lst xs)) (h' : H b = some (.lst zs)) (hz : xs.length + zs.length ≤ 1000000) (q : ∀ p, H p = none → Q (.ref p) (upd H p (.lst (xs ++ zs)))) : rAddA K (.ref l) (.ref b) H Q :=
  .inr (.inr (.inl ⟨l, b, xs, zs, rfl, rfl, h, h', small _ hz, q⟩))
theorem st_sub (q : Q (.int (i - j)) H) : rSubI (.int i) (.int j) H Q := ⟨i, j, rfl, rfl, q⟩
theorem st_mul {a b : Nat} (ha : i.natAbs < 2 ^ a) (hb : j.natAbs < 2 ^ b) (h0 : 0 < a) (h1 : 0 < b) (h : a + b ≤ 1000000) (q : Q (.int (i * j)) H) : rMulA (.int i) (.int j) H Q := .inl ⟨i, j, rfl, rfl, wide_mul ha hb h0 h1 h, q⟩
theorem st_mod (h : 0 < j) (q : Q (.int (i % j)) H) : rModA (.int i) (.int j) H Q := ⟨i, j, rfl, rfl, h, q⟩
theorem st_div {b : Nat} (h : 0 < j) (hb : j.natAbs < 2 ^ b) (h0 : 0 < b) (h9 : b ≤ 9000) (q : Q (.int (i / j)) H) : rDivA (.int i) (.int j) H Q := ⟨i, j, rfl, rfl, wide_div h hb h0 h9, q⟩
theorem st_pow (h : 0 ≤ j) (h2 : j ≤ 1000000) (h3 : i.natAbs < 2 ^ 64) (q : Q (.int (i ^ j.toNat)) H) : rPowI (.int i) (.int j) H Q := ⟨i, j, rfl, rfl, ⟨h, h2, h3⟩, q⟩
theorem st_rep {l : Addr} {xs : List V} (h : H l = some (.lst xs)) (h1 : -(2 ^ 63) ≤ j) (h2 : j < 2 ^ 63) (h3 : xs.length * j.toNat ≤ 1000000) (q : ∀ p, H p = none → Q (.ref p) (upd H p (.lst ((List.replicate j.toNat xs).flatten)))) : rMulA (.ref l) (.int j) H Q := by
  refine .inr (.inr ⟨l, j, xs, rfl, rfl, h, h1, h2, small _ h3, ?_⟩)
  exact q
theorem st_slice_str {lo hi : Option Int} (h : z.length ≤ 1000000) (q : Q (.str (cutS z lo hi)) H) : rSlA K (.str z) lo hi H Q := .inr (.inl ⟨z, rfl, small _ h, q⟩)
theorem st_slice_list {p : Addr} {xs : List V} {lo hi : Option Int} (h : SqL K H p xs) (q : ∀ l, H l = none → Q (.ref l) (upd H l (.lst (cutV xs lo hi)))) : rSlA K (.ref p) lo hi H Q := .inl ⟨p, xs, rfl, h, q⟩
theorem st_int_int (q : Q (.int i) H) : rIntA [.int i] H Q := .inl (.inl ⟨i, rfl, q⟩)
theorem st_int_bl {k : Bool} (q : Q (.int (if k then 1 else 0)) H) : rIntA [.bl k] H Q := .inl (.inr ⟨k, rfl, q⟩)
theorem st_int_str (h : PySem.intText? z = some i) (hl : z.length ≤ 640) (q : Q (.int i) H) : rIntA [.str z] H Q := .inr ⟨z, i, rfl, h, hl, q⟩
theorem st_isi {c : V} {t w : Value} {b : Bool} (k : ClsV c w) (h : TyX K H x t) (e : PySem.W.kitOne K t w = some b) (q : Q (.bl b) H) : rIsA K [x, c] H Q := .inl ⟨x, c, t, w, b, rfl, k, h, e, q⟩
theorem tx_str : TyX K H (.str z) (.type "str") := .base (.str z)
theorem tx_int : TyX K H (.int i) (.type "int") := .base (.int i)
theorem tx_bl {b : Bool} : TyX K H (.bl b) (.type "bool") := .base (.bl b)
theorem tx_non : TyX K H .non (.type "NoneType") := .base .non
/-- a new object is tracked: what was tracked stays -/
theorem same_new {p : Addr} {o : HO} (h : H p = none) : Same H (upd H p o) := fun b u e => by rw [upd_ne (ne_of_none e h)]; exact e
/-- an object that H does not track changes -/
theorem Same.mut {p : Addr} {o : HO} (s : Same H H') (h : H p = none) : Same H (upd H' p o) := fun b u e => by rw [upd_ne (ne_of_none e h)]; exact s b u e
theorem same_sqT {a : Addr} {xs : List V} (e : Same H H') (h : SqT K H a xs) : SqT K H' a xs := by
  rcases h with (h | ⟨o, h⟩) | h
  · exact .inl (.inl (e _ _ h))
  · exact .inl (.inr ⟨o, e _ _ h⟩)
  · exact .inr h
theorem sign_eq (c k : Nat) : (V.str ⟨#[c]⟩ = V.str ⟨#[k]⟩) = (c = k) := by
  apply propext
  constructor
  · intro h
    injection h with h
    injection h with h
    have := congrArg (fun a : Array Nat => a.toList) h
    simpa using this
  · intro h; rw [h]
theorem st_eq_int (q : Q (.bl (decide (i = j))) H) : rEqA K (.int i) (.int j) H Q := .inl ⟨rfl, by
  have e : decide (V.int i = V.int j) = decide (i = j) := decide_eq_decide.mpr ⟨fun h => V.int.inj h, fun h => by rw [h]⟩
  rw [e]; exact q⟩
theorem st_ne_int (q : Q (.bl (!decide (i = j))) H) : rNeA K (.int i) (.int j) H Q := .inl ⟨rfl, by
  have e : decide (V.int i = V.int j) = decide (i = j) := decide_eq_decide.mpr ⟨fun h => V.int.inj h, fun h => by rw [h]⟩
  rw [e]; exact q⟩
theorem st_eq_str (q : Q (.bl (decide (z = u))) H) : rEqA K (.str z) (.str u) H Q := .inl ⟨rfl, by
  have e : decide (V.str z = V.str u) = decide (z = u) := decide_eq_decide.mpr ⟨fun h => V.str.inj h, fun h => by rw [h]⟩
  rw [e]; exact q⟩
theorem st_ne_str (q : Q (.bl (!decide (z = u))) H) : rNeA K (.str z) (.str u) H Q := .inl ⟨rfl, by
  have e : decide (V.str z = V.str u) = decide (z = u) := decide_eq_decide.mpr ⟨fun h => V.str.inj h, fun h => by rw [h]⟩
  rw [e]; exact q⟩
theorem sign_dec {c k : Nat} (hz : z = ⟨#[k]⟩) : decide ((⟨#[c]⟩ : Str) = z) = decide (c = k) := by
  subst hz
  refine decide_eq_decide.mpr ⟨fun h => ?_, fun h => by rw [h]⟩
  have := sign_eq c k
  exact this.mp (by rw [h])
theorem S_inj {l m : List Nat} : S l = S m ↔ l = m := by
  constructor
  · intro h
    have := congrArg (fun z : Str => z.cps.toList) h
    simpa using this
  · intro h; rw [h]
theorem S_len (l : List Nat) : (S l).length = l.length := by simp [S, Str.length]
theorem S_app (l m : List Nat) : S l ++ S m = S (l ++ m) := TL.ext_tl (by rw [TL.tl_append])
theorem S_nil : ("" : Str) = S [] := by decide +kernel
theorem sign_lt (c k : Nat) : decide (([c] : List Nat) < [k]) = decide (c < k) := by
  refine decide_eq_decide.mpr ⟨fun h => ?_, fun h => ?_⟩
  · cases h with
    | rel h => exact h
    | cons h => cases h
  · exact .rel h
theorem sIx_nat {n d a : Nat} (h : a ≤ n) : HT.sIx n d (some (a : Int)) = a := by
  show (if (a : Int) < 0 then ((a : Int) + (n : Int)).toNat else min (a : Int).toNat n) = a
  rw [if_neg (by omega)]; omega
theorem sIx_none {n d : Nat} : HT.sIx n d none = d := rfl
theorem cutS_nat {z : Str} {a b : Nat} (ha : a ≤ z.length) (hb : b ≤ z.length) : cutS z (some (a : Int)) (some (b : Int)) = S ((z.cps.toList.drop a).take (b - a)) := by
  unfold cutS
  rw [sIx_nat ha, sIx_nat hb]
theorem cutS_from {z : Str} {a : Nat} (ha : a ≤ z.length) : cutS z (some (a : Int)) none = S (z.cps.toList.drop a) := by
  unfold cutS
  rw [sIx_nat ha, sIx_none, List.take_of_length_le (by simp [Str.length])]
theorem cutS_to {z : Str} {b : Nat} (hb : b ≤ z.length) : cutS z none (some (b : Int)) = S (z.cps.toList.take b) := by
  unfold cutS
  rw [sIx_nat hb, sIx_none]
  rfl
theorem cutS_all {z : Str} : cutS z none none = z := by
  unfold cutS
  rw [sIx_none, sIx_none, List.take_of_length_le (by simp [Str.length])]
  cases z; rfl
end
/-- an error with one field is raised over H -/
def RaisedI (K : PySem.W.Frag) (C f : Str) (v : V) (H : Hp) (E : XK) : Prop := ∀ (d : Addr) (H' : Hp), Same H H' → H d = none → H' d = some (.xd [(f, v)]) → E (.ref (He.ga K C)) (some d) H'
/-- __init__ of a class of errors that stores one field -/
def pr_init (K : PySem.W.Frag) (C f : Str) : V → V → Hp → VK → XK → Prop := fun x y H Q _ => ∃ a, x = .ref a ∧ H a = some (exo a (He.ga K C) none) ∧ ∀ d, H d = none → d ≠ a → Q .non (upd (upd H d (exd d [(f, y)])) a (exo a (He.ga K C) (some d)))
theorem raise_ok {K : PySem.W.Frag} {C f : Str} {v : V} {H H1 : Hp} {E : XK} (h : RaisedI K C f v H E) (s : Same H H1) :
    ([v] : List V).length ≤ 1000 ∧ ∀ a, H1 a = none → Sp2 (pr_init K C f) (.ref a :: ([v] ++ [])) (upd H1 a (exo a (He.ga K C) none))
      (fun r H2 => r = .non ∧ ∃ (d : Addr) (fs : List (Str × V)), H2 a = some (exo a (He.ga K C) (some d)) ∧ H2 d = some (exd d fs) ∧ H1 d = none ∧ E (.ref (He.ga K C)) (some d) (upd (del H2 a) d (.xd fs))) (fun _ _ _ => False) := by
  refine ⟨(show 1 ≤ 1000 by decide), fun a ha => ⟨_, _, rfl, a, rfl, upd_same, fun d hd da => ⟨rfl, d, [(f, v)], upd_same, ?_, ?_, ?_⟩⟩⟩
  · rw [upd_ne da, upd_same]
  · rw [upd_ne da] at hd; exact hd
  · rw [upd_ne da] at hd
    refine h d _ (fun b o e => ?_) (s.free hd) upd_same
    have e1 := s b o e
    rw [upd_ne (ne_of_none e1 hd), del_ne (ne_of_none e1 ha), upd_ne (ne_of_none e1 ha), upd_ne (ne_of_none e1 hd), upd_ne (ne_of_none e1 ha)]
    exact e1
theorem XV.same {H H' : Hp} {a C d : Addr} {fs : List (Str × V)} (x : XV H a C d fs) (s : Same H H') : XV H' a C d fs := by
  rcases x with ⟨h1, h2⟩ | ⟨h1, h2⟩
  · exact .inl ⟨s _ _ h1, s _ _ h2⟩
  · exact .inr ⟨s _ _ h1, s _ _ h2⟩
theorem st_isX {K : PySem.W.Frag} {a d : Addr} {x : Str} {fs : List (Str × V)} {c : V} {cv : Value} {b : Bool} {H : Hp} {Q : VK} (xv : XV H a (He.ga K x) d fs) (o : oexB K x = true) (hc : ClsV c cv) (hk : PySem.W.kitOne K (.ref (He.ga K x)) cv = some b) (q : Q (.bl b) H) : rIsA K [.ref a, c] H Q :=
  .inr (.inr ⟨a, d, x, fs, c, cv, b, rfl, xv, oexA_of o, hc, hk, q⟩)
end My
set_option Elab.async false
set_option linter.all false
set_option maxRecDepth 100000
set_option maxHeartbeats 4000000
/-! The reading's own words, one lemma each; «walk_at "w"» goes on by them. -/
namespace My
open PySem PySem.Spec PyProof.Rows L2
section
variable {K : PySem.W.Frag} {H : Hp} {σ : L2.St} {Q : VK} {QT : Bool → Hp → Prop} {QA : List V → Hp → Prop} {v : V} {i : Nat} {r : R2} {ta tb te to : TE} {t u : TT} {tr : TA} {D : Ends} {s1 s2 : TS} {g : TG} {p q c : L2.St → Hp → Prop} {R : VK} {E : XK} {sp : Sp}
theorem w_var (h : σ[i]? = some (some v)) (q : Q v H) : tVar i σ H Q := ⟨v, h, q⟩
theorem w_c (q : Q v H) : tC v σ H Q := q
theorem w_op (h : ta σ H fun x H1 => tb σ H1 fun y H2 => r x y H2 Q) : tOp r ta tb σ H Q := h
theorem w_ix (h : ta σ H fun x H1 => tb σ H1 fun y H2 => rIxA K x y H2 Q) : tIxA K ta tb σ H Q := h
theorem w_in (h : ta σ H fun x H1 => tb σ H1 fun y H2 => rInA K false x y H2 Q) : tInA K ta tb σ H Q := h
theorem w_nin (h : ta σ H fun x H1 => tb σ H1 fun y H2 => rInA K true x y H2 Q) : tNinA K ta tb σ H Q := h
theorem w_un {f : V → Hp → VK → Prop} (h : ta σ H fun x H1 => f x H1 Q) : tUn f ta σ H Q := h
theorem w_nil (h : QA [] H) : tNil σ H QA := h
theorem w_cons (h : ta σ H fun x H1 => tr σ H1 fun xs H2 => QA (x :: xs) H2) : tCons ta tr σ H QA := h
theorem w_cb {f : List V → Hp → VK → Prop} (h : tr σ H fun vs H1 => f vs H1 Q) : tCB f tr σ H Q := h
theorem w_call (h : tr σ H fun vs H1 => sp vs H1 Q E) : tCall sp [] E tr σ H Q := by
  show tr σ H fun vs H1 => sp (vs ++ []) H1 Q E
  simp only [List.append_nil]
  exact h
theorem w_callS {W : L2.St → XK} (h : tr σ H fun vs H1 => sp vs H1 Q (W σ)) : tCallS sp W tr σ H Q := h
theorem w_seq (h : s1 ⟨s2 D, D.rt, D.bk, D.ct⟩ σ H) : tSeq s1 s2 D σ H := h
theorem w_set (h : te σ H fun x H1 => D.nx (σ.set i (some x)) H1) : tAsg te (gName i) D σ H := h
theorem w_asg (h : te σ H fun x H1 => g x σ H1 D.nx) : tAsg te g D σ H := h
theorem w_gn (h : p (σ.set i (some v)) H) : gName i v σ H p := h
theorem w_ret (h : te σ H D.rt) : tRet te D σ H := h
theorem w_retN (h : D.rt .non H) : tRetN D σ H := h
theorem w_next (h : D.nx σ H) : tNext D σ H := h
theorem w_cont (h : D.ct σ H) : tCont D σ H := h
theorem w_break (h : D.bk σ H) : tBreak D σ H := h
theorem w_drop (h : te σ H fun _ H1 => D.nx σ H1) : tDrop te D σ H := h
theorem w_if (h : t σ H fun b H1 => if b = true then s1 D σ H1 else s2 D σ H1) : tIfS t s1 s2 D σ H := h
theorem w_ife (h : t σ H fun b H1 => if b = true then ta σ H1 Q else tb σ H1 Q) : tIf t ta tb σ H Q := h
theorem w_test (h : te σ H fun x H1 => ∃ k, x = .bl k ∧ QT k H1) : tTest te σ H QT := h
theorem w_B (h : te σ H fun x H1 => ∃ k, x = .bl k ∧ QT k H1) : tB te σ H QT := h
theorem w_and (h : t σ H fun c H1 => if c = true then u σ H1 QT else QT false H1) : tAnd t u σ H QT := h
theorem w_or (h : t σ H fun c H1 => if c = true then QT true H1 else u σ H1 QT) : tOr t u σ H QT := h
theorem w_not (h : t σ H fun c H1 => QT (!c) H1) : tNot t σ H QT := h
theorem w_andV (h : ta σ H fun x H1 => ∃ c, x = .bl c ∧ if c = true then tb σ H1 Q else Q (.bl false) H1) : tAndV ta tb σ H Q := h
theorem w_orV (h : ta σ H fun x H1 => ∃ c, x = .bl c ∧ if c = true then Q (.bl true) H1 else tb σ H1 Q) : tOrV ta tb σ H Q := h
theorem w_notV (h : ta σ H fun x H1 => ∃ c, x = .bl c ∧ Q (.bl (!c)) H1) : tNotV ta σ H Q := h
theorem w_isN (h : ta σ H fun x H1 => Q (.bl (decide (x = .non))) H1) : tIsN ta σ H Q := h
theorem w_notN (h : ta σ H fun x H1 => Q (.bl (!decide (x = .non))) H1) : tNotN ta σ H Q := h
theorem w_tup (h : tr σ H fun xs H1 => xs.length ≤ sizeLine ∧ ∀ p, H1 p = none → Q (.ref p) (upd H1 p (.tup xs))) : tTup tr σ H Q := h
theorem w_lst (h : tr σ H fun xs H1 => xs.length ≤ sizeLine ∧ ∀ p, H1 p = none → Q (.ref p) (upd H1 p (.lst xs))) : tLst tr σ H Q := h
theorem w_sl {f : V → Option Int → Option Int → Hp → VK → Prop} {tl th : TO} (h : te σ H fun x H1 => tl σ H1 fun l H2 => th σ H2 fun u H3 => f x l u H3 Q) : tSl f te tl th σ H Q := h
theorem w_part {QO : Option Int → Hp → Prop} (h : te σ H fun x H1 => ∃ i, x = .int i ∧ QO (some i) H1) : tPart te σ H QO := h
theorem w_nopart {QO : Option Int → Hp → Prop} (h : QO none H) : tNoPart σ H QO := h
theorem w_bm {T : String} {f : V → List V → Hp → VK → Prop} (h : to σ H fun x H1 => tyV K T x H1 ∧ tr σ H1 fun xs H2 => f x xs H2 Q) : tBM K T f to tr σ H Q := h
theorem w_bm0 {T : String} {f : V → List V → Hp → VK → Prop} (h : to σ H fun x H1 => tyV K T x H1 ∧ f x [] H1 Q) : tBM0 K T f to σ H Q := h
theorem w_m1 {f : V → List V → Hp → VK → Prop} (h : to σ H fun x H1 => (∃ a, x = .str a) ∧ te σ H1 fun y H2 => f x [y] H2 Q) : tM1 f to te σ H Q := h
theorem w_yes (h : QT true H) : tYes σ H QT := h
theorem w_ebl {b : Bool} (h : QT b H) : ∃ k, V.bl b = .bl k ∧ QT k H := ⟨b, rfl, h⟩
theorem w_eint {b : Int} {QI : Int → Hp → Prop} (h : QI b H) : ∃ k, V.int b = .int k ∧ QI k H := ⟨b, rfl, h⟩
theorem w_eintO {b : Int} {QO : Option Int → Hp → Prop} (h : QO (some b) H) : ∃ k, V.int b = .int k ∧ QO (some k) H := ⟨b, rfl, h⟩
theorem w_eintV {b : Int} {A : Int → Prop} (h : A b) : ∃ k, V.int b = .int k ∧ A k := ⟨b, rfl, h⟩
theorem w_iteNT {A B : Prop} (h : B) : if (!true) = true then A else B := L2.iteF h
theorem w_iteNF {A B : Prop} (h : A) : if (!false) = true then A else B := L2.iteT h
theorem w_estr {z : Str} {A : Prop} (h : A) : (∃ a, V.str z = .str a) ∧ A := ⟨⟨z, rfl⟩, h⟩
theorem w_eblV {b : Bool} {A : Bool → Prop} (h : A b) : ∃ c, V.bl b = .bl c ∧ A c := ⟨b, rfl, h⟩
theorem w_nx (h : p σ H) : Ends.nx ⟨p, R, q, c⟩ σ H := h
theorem w_rt (h : R v H) : Ends.rt ⟨p, R, q, c⟩ v H := h
theorem w_bk (h : q σ H) : Ends.bk ⟨p, R, q, c⟩ σ H := h
theorem w_ct (h : c σ H) : Ends.ct ⟨p, R, q, c⟩ σ H := h
theorem w_par {i j : Nat} (h : tr σ H fun vs H1 => ∃ v w, vs = [v, w] ∧ D.nx ((σ.set i (some v)).set j (some w)) H1) : tPar i j tr D σ H := h
theorem w_epar {a b : V} {A : V → V → Prop} (h : A a b) : ∃ v w, [a, b] = [v, w] ∧ A v w := ⟨a, b, rfl, h⟩
theorem w_aug {ti : TIp} {x : V} (hx : σ[i]? = some (some x)) (h : te σ H fun y H1 => ti x y H1 fun z H2 => D.nx (σ.set i (some z)) H2) : tAug i te ti D σ H := ⟨x, hx, h⟩
theorem w_ip {f : Int → Int → Int} {a b : Int} (h : Q (.int (f a b)) H) : ipI f (.int a) (.int b) H Q := ⟨a, b, rfl, rfl, h⟩
theorem w_chain {r' : R2} {tc : TE} (h : ta σ H fun x H1 => tb σ H1 fun y H2 => r x y H2 fun z H3 => ∃ k, z = .bl k ∧ (if k = true then tc σ H3 fun w' H4 => r' y w' H4 Q else Q (.bl false) H3)) : tChain r r' ta tb tc σ H Q := h
theorem w_raise {C : Addr} {W : WX} (h : tr σ H fun vs H1 => (vs.length ≤ 1000 ∧ ∀ a, H1 a = none → sp (.ref a :: (vs ++ [])) (upd H1 a (exo a C none)) (fun v H2 => v = .non ∧ ∃ (d : Addr) (fs : List (Str × V)), H2 a = some (exo a C (some d)) ∧ H2 d = some (exd d fs) ∧ H1 d = none ∧ W (.ref C) (some d) σ (upd (del H2 a) d (.xd fs))) (fun _ _ _ => False))) : tRaiseX C sp W tr D σ H := h
theorem w_for {wi : TI} {tb : TS} (h : wi σ H fun J H1 => ∃ W : Nat → Nat → L2.St → Hp → Prop, (∃ m, W 0 m σ H1) ∧ ∀ i m σ H, W i m σ H →
  (J.stop i H ∧ D.nx σ H) ∨ (J.go i H ∧ ∃ N : L2.St → Hp → Prop, (∀ σ' H', N σ' H' → ∃ m', m' < m ∧ W (i + 1) m' σ' H') ∧ ∀ x H', J.yld i H x H' → g x σ H' fun σ2 H2 => tb { D with nx := N, ct := N, bk := D.nx } σ2 H2)) : tFor wi g tb D σ H := h
theorem w_lc {wi : TI} {vs : List Nat} (h : wi σ H fun J H1 => ∀ D, H1 D = none → ∃ W : Nat → Nat → Hp → Prop, (∃ m, W 0 m (upd H1 D (.lst []))) ∧ ∀ i m H, W i m H →
  (J.stop i H ∧ Q (.ref D) H) ∨ (J.go i H ∧ ∃ Nx : Hp → Prop, (∀ H', Nx H' → ∃ m', m' < m ∧ W (i + 1) m' H') ∧ ∀ x H', J.yld i H x H' → g x (wipe σ vs) H' fun σ2 H2 => wipe σ2 vs = wipe σ vs ∧ t σ2 H2 fun b H3 =>
    if b = true then te σ2 H3 fun y H4 => ∃ acc, H4 D = some (.lst acc) ∧ acc.length < sizeLine ∧ Nx (upd H4 D (.lst (acc ++ [y]))) else Nx H3)) : tLc wi g t te vs σ H Q := h
theorem w_iA {RI : It → Hp → Prop} (h : te σ H fun x H1 => (∃ a, x = .ref a ∧ (∃ xs, SqL K H1 a xs) ∧ RI (Itl K a) H1) ∨ (∃ a, x = .ref a ∧ (∃ xs, SqT K H1 a xs) ∧ RI (Itt K a) H1) ∨ (∃ z, x = .str z ∧ RI (Its z) H1)) : iA K te σ H RI := h
theorem w_rng1 {RI : It → Hp → Prop} (h : tr σ H fun vs H1 => ∃ j : Int, vs = [.int j] ∧ -(2 ^ 62) ≤ j ∧ j < 2 ^ 62 ∧ RI (Itr 0 j.toNat) H1) : iRng1 tr σ H RI := h
theorem w_rng2 {RI : It → Hp → Prop} (h : tr σ H fun vs H1 => ∃ i j : Int, vs = [.int i, .int j] ∧ (-(2 ^ 62) ≤ i ∧ i < 2 ^ 62 ∧ -(2 ^ 62) ≤ j ∧ j < 2 ^ 62) ∧ RI (Itr i (j - i).toNat) H1) : iRng2 tr σ H RI := h
theorem w_gtup2 {a : Addr} {x y : V} {i j : Nat} (h : SqT K H a [x, y]) (q : p ((σ.set i (some x)).set j (some y)) H) : gTup K 2 (gCons (gName i) (gCons (gName j) gNil)) (.ref a) σ H p := ⟨a, _, rfl, h, rfl, _, _, rfl, _, _, rfl, rfl, q⟩
theorem w_gtup3 {a : Addr} {x y z : V} {i j k : Nat} (h : SqT K H a [x, y, z]) (q : p (((σ.set i (some x)).set j (some y)).set k (some z)) H) : gTup K 3 (gCons (gName i) (gCons (gName j) (gCons (gName k) gNil))) (.ref a) σ H p := ⟨a, _, rfl, h, rfl, _, _, rfl, _, _, rfl, _, _, rfl, rfl, q⟩
theorem w_par3 {i j l : Nat} (h : tr σ H fun vs H1 => ∃ u v w, vs = [u, v, w] ∧ D.nx (((σ.set i (some u)).set j (some v)).set l (some w)) H1) : tPar3 i j l tr D σ H := h
theorem w_epar3 {a b d : V} {A : V → V → V → Prop} (h : A a b d) : ∃ u v w, [a, b, d] = [u, v, w] ∧ A u v w := ⟨a, b, d, rfl, h⟩
theorem w_xfA {f : Str} (h : te σ H fun x H1 => ∃ (a d : Addr) (c : Str) (fs : List (Str × V)) (v : V), x = .ref a ∧ XV H1 a (He.ga K c) d fs ∧ OexA K c ∧ PySem.W.findIn K (.ref (He.ga K c)) f = some none ∧ fs.lookup f = some v ∧ Q v H1) : tXfA K te f σ H Q := h
theorem w_mkX {C : Addr} (h : tr σ H fun vs H1 => vs.length ≤ 1000 ∧ ∀ a, H1 a = none → sp (.ref a :: vs) (upd H1 a (exo a C none)) (fun v H2 => v = .non ∧ Q (.ref a) H2) E0) : tMkX C sp tr σ H Q := h
theorem w_fld {f : Str} (h : te σ H fun x H1 => ∃ a C dx fs v, x = .ref a ∧ H1 a = some (.ins C dx fs) ∧ Cls K C ∧ NoAttr K C f ∧ fs.lookup f = some v ∧ Q v H1) : tFld K te f σ H Q := h
theorem w_try {C : Addr} {i j : Nat} {tb : WX → TS} (h : tb (wHold K C i j D) D σ H) : tTryHold K C i j tb D σ H := h
theorem w_disp {trs : List (TE × TE)} (h : ∀ p, H p = none → tPairs trs σ (upd H p (.dK [])) fun ps H2 => H2 p = some (.dK []) ∧ ∃ kvs : List (Key × V), ps = kvs.map (fun kv => (kV kv.1, kv.2)) ∧ kvs.length ≤ 15 ∧ Q (.ref p) (upd H2 p (.dK (mergeK [] kvs)))) : tDisp trs σ H Q := h
theorem w_dnew (h : ∀ p, H p = none → Q (.ref p) (upd H p (.dK []))) : tDNewK σ H Q := h
theorem w_pnil {QP : List (V × V) → Hp → Prop} (h : QP [] H) : tPairs [] σ H QP := h
theorem w_pcons {QP : List (V × V) → Hp → Prop} {trs : List (TE × TE)} (h : ta σ H fun x H1 => tb σ H1 fun y H2 => tPairs trs σ H2 fun ps H3 => QP ((x, y) :: ps) H3) : tPairs ((ta, tb) :: trs) σ H QP := h
theorem w_put {td ty tv : TE} (h : tv σ H fun v H1 => td σ H1 fun x H2 => ty σ H2 fun y H3 => ∃ a H4, x = .ref a ∧ DPut H3 a y v H4 ∧ D.nx σ H4) : sDPut td ty tv D σ H := h
end
end My
set_option Elab.async false
set_option linter.all false
set_option maxRecDepth 100000
set_option maxHeartbeats 4000000
/-! Comprehensions over data. -/
namespace My
open PySem PySem.Spec PyProof.Rows L2
theorem paired_snoc {α β : Type} {F : α → β → Prop} : ∀ {l : List α} {m : List β} {a : α} {b : β}, Paired F l m → F a b → Paired F (l ++ [a]) (m ++ [b])
  | _, _, _, _, .nil, h => .cons h .nil
  | _, _, _, _, .cons r t, h => .cons r (paired_snoc t h)
theorem paired_mem {α β : Type} {F G : α → β → Prop} : ∀ {l : List α} {m : List β}, Paired F l m → (∀ a b, a ∈ l → F a b → G a b) → Paired G l m
  | _, _, .nil, _ => .nil
  | _, _, .cons r t, f => .cons (f _ _ List.mem_cons_self r) (paired_mem t fun a b h => f a b (List.mem_cons_of_mem _ h))
theorem pget {α β : Type} {F : α → β → Prop} : ∀ {l : List α} {m : List β} {i : Nat} {a : α}, Paired F l m → l[i]? = some a → ∃ b, m[i]? = some b ∧ F a b
  | _, _, _, _, .nil, e => by simp at e
  | _, _, 0, _, .cons r _, e => by simp at e; subst e; exact ⟨_, rfl, r⟩
  | _, _, i + 1, a, .cons _ t, e => by
    obtain ⟨u, h1, h2⟩ := pget (i := i) (a := a) t (by simpa using e)
    exact ⟨u, by simpa using h1, h2⟩
theorem pgetR {α β : Type} {F : α → β → Prop} : ∀ {l : List α} {m : List β} {i : Nat} {b : β}, Paired F l m → m[i]? = some b → ∃ a, l[i]? = some a ∧ F a b
  | _, _, _, _, .nil, e => by simp at e
  | _, _, 0, _, .cons r _, e => by simp at e; subst e; exact ⟨_, rfl, r⟩
  | _, _, i + 1, a, .cons _ t, e => by
    obtain ⟨u, h1, h2⟩ := pgetR (i := i) (b := a) t (by simpa using e)
    exact ⟨u, by simpa using h1, h2⟩
theorem take_succ_some {α : Type} {l : List α} {i : Nat} {a : α} (h : l[i]? = some a) : l.take (i + 1) = l.take i ++ [a] := by
  rw [List.take_succ, h]; rfl
theorem lcp {α : Type} {J : It} {n : Nat} {G : Hp → Prop} {Y : Nat → Hp → V → Hp → Prop} (w : Walk J n G Y) {g : TG} {tt : TT} {te : TE} {vs : List Nat} {σ : L2.St} {H1 : Hp} {D : Addr} {Qd : Hp → Prop} (hD : H1 D = none)
    (ds : List α) (hn : n = ds.length) (hz : ds.length ≤ 1000000) (hG : ∀ H', Same H1 H' → G H') (f : α → Bool) (R : α → V → Hp → Prop) (Rm : ∀ a y H H' zs, H D = some (.lst zs) → (∀ b o, b ≠ D → H b = some o → H' b = some o) → R a y H → R a y H')
    (turn : ∀ (i : Nat) (d : α) (x : V) (H H' : Hp), ds[i]? = some d → Same H1 H → Y i H x H' → ∀ (k1 : V → Hp → Prop) (k2 : Hp → Prop), (f d = true → ∀ y H4, Same H H4 → R d y H4 → k1 y H4) → (f d = false → ∀ H3, Same H H3 → k2 H3) →
      g x (wipe σ vs) H' fun σ2 H2 => wipe σ2 vs = wipe σ vs ∧ tt σ2 H2 fun b H3 => if b = true then te σ2 H3 k1 else k2 H3)
    (hd : ∀ ys H', Same H1 H' → H' D = some (.lst ys) → Paired (fun a y => R a y H') (ds.filter f) ys → Qd H') :
    ∃ W : Nat → Nat → Hp → Prop, (∃ m, W 0 m (upd H1 D (.lst []))) ∧ ∀ i m H, W i m H →
      (J.stop i H ∧ Qd H) ∨ (J.go i H ∧ ∃ Nx : Hp → Prop, (∀ H', Nx H' → ∃ m', m' < m ∧ W (i + 1) m' H') ∧ ∀ x H', J.yld i H x H' → g x (wipe σ vs) H' fun σ2 H2 => wipe σ2 vs = wipe σ vs ∧ tt σ2 H2 fun b H3 =>
        if b = true then te σ2 H3 fun y H4 => ∃ acc, H4 D = some (.lst acc) ∧ acc.length < sizeLine ∧ Nx (upd H4 D (.lst (acc ++ [y]))) else Nx H3) := by
  subst hn
  refine lc_it w (fun i H => ∃ ys, Same H1 H ∧ H D = some (.lst ys) ∧ Paired (fun a y => R a y H) ((ds.take i).filter f) ys) ⟨[], same_new hD, upd_same, by rw [List.take_zero]; exact .nil⟩ (fun i H _ ⟨ys, s, _⟩ => hG H s) ?_ ?_
  · rintro i x H H' hi ⟨ys, s, hL, pr⟩ hy
    have hdi : ds[i]? = some ds[i] := List.getElem?_eq_getElem hi
    have lz : ys.length ≤ 1000000 := by
      have e := pr.length
      have h2 := List.length_filter_le f (ds.take i)
      rw [List.length_take] at h2
      omega
    refine turn i ds[i] x H H' hdi s hy _ _ (fun hf y H4 s4 r => ?_) (fun hf H3 s3 => ?_)
    · refine ⟨ys, s4 _ _ hL, small_lt _ lz, ys ++ [y], Same.mut (s.trans s4) hD, upd_same, ?_⟩
      rw [take_succ_some hdi, List.filter_append, List.filter_cons, if_pos hf]
      have nd : ∀ b o, b ≠ D → H4 b = some o → upd H4 D (.lst (ys ++ [y])) b = some o := fun b o ne e => by rw [upd_ne ne]; exact e
      exact paired_snoc (L2.Paired.mapP pr fun a z r => Rm a z H _ ys hL (fun b o ne e => nd b o ne (s4 b o e)) r) (Rm _ y H4 _ ys (s4 _ _ hL) nd r)
    · refine ⟨ys, s.trans s3, s3 _ _ hL, ?_⟩
      rw [take_succ_some hdi, List.filter_append, List.filter_cons, if_neg (by rw [hf]; exact Bool.false_ne_true)]
      show Paired _ (_ ++ []) ys
      rw [List.append_nil]
      exact L2.Paired.mapP pr fun a z r => Rm a z H H3 ys hL (fun b o _ e => s3 b o e) r
  · rintro H ⟨ys, s, hL, pr⟩
    rw [List.take_length] at pr
    exact hd ys H s hL pr
/-- a comprehension whose elements are plain values -/
theorem lcv {α : Type} {J : It} {n : Nat} {G : Hp → Prop} {Y : Nat → Hp → V → Hp → Prop} (w : Walk J n G Y) {g : TG} {tt : TT} {te : TE} {vs : List Nat} {σ : L2.St} {H1 : Hp} {D : Addr} {Qd : Hp → Prop} (hD : H1 D = none)
    (ds : List α) (hn : n = ds.length) (hz : ds.length ≤ 1000000) (hG : ∀ H', Same H1 H' → G H') (f : α → Bool) (v : α → V)
    (turn : ∀ (i : Nat) (d : α) (x : V) (H H' : Hp), ds[i]? = some d → Same H1 H → Y i H x H' → ∀ (k1 : V → Hp → Prop) (k2 : Hp → Prop), (f d = true → ∀ H4, Same H H4 → k1 (v d) H4) → (f d = false → ∀ H3, Same H H3 → k2 H3) →
      g x (wipe σ vs) H' fun σ2 H2 => wipe σ2 vs = wipe σ vs ∧ tt σ2 H2 fun b H3 => if b = true then te σ2 H3 k1 else k2 H3)
    (hd : ∀ H', Same H1 H' → H' D = some (.lst ((ds.filter f).map v)) → Qd H') :
    ∃ W : Nat → Nat → Hp → Prop, (∃ m, W 0 m (upd H1 D (.lst []))) ∧ ∀ i m H, W i m H →
      (J.stop i H ∧ Qd H) ∨ (J.go i H ∧ ∃ Nx : Hp → Prop, (∀ H', Nx H' → ∃ m', m' < m ∧ W (i + 1) m' H') ∧ ∀ x H', J.yld i H x H' → g x (wipe σ vs) H' fun σ2 H2 => wipe σ2 vs = wipe σ vs ∧ tt σ2 H2 fun b H3 =>
        if b = true then te σ2 H3 fun y H4 => ∃ acc, H4 D = some (.lst acc) ∧ acc.length < sizeLine ∧ Nx (upd H4 D (.lst (acc ++ [y]))) else Nx H3) := by
  refine lcp w hD ds hn hz hG f (fun a y _ => y = v a) (fun _ _ _ _ _ _ _ e => e) (fun i d x H H' h1 h2 h3 k1 k2 h4 h5 => turn i d x H H' h1 h2 h3 k1 k2 (fun hf H4 s => h4 hf _ H4 s rfl) h5) (fun ys H' s e pr => hd H' s ?_)
  rw [e]
  have : ys = (ds.filter f).map v := by
    clear e
    generalize ds.filter f = l at pr
    induction pr with
    | nil => rfl
    | cons h _ ih => rw [List.map_cons, ← ih, h]
  rw [this]
/-- no test -/
theorem filter_yes {α : Type} (l : List α) : l.filter (fun _ => true) = l := by simp
/-! ### signs that stand in a text -/
theorem strOk_iff {z : Str} : PyData.strOk z = true ↔ ∀ c ∈ z.cps.toList, c < 1114112 := by
  unfold PyData.strOk
  rw [Array.all_eq_true]
  constructor
  · intro h c hc
    obtain ⟨i, hi, e⟩ := List.getElem_of_mem hc
    have := h i (by simpa using hi)
    rw [← e]
    simpa using this
  · intro h i hi
    have := h z.cps[i] (by simp)
    simpa using this
theorem strOk_append {a b : Str} (ha : PyData.strOk a = true) (hb : PyData.strOk b = true) : PyData.strOk (a ++ b) = true := by
  rw [strOk_iff] at *
  have e : (a ++ b).cps.toList = a.cps.toList ++ b.cps.toList := TL.tl_append a b
  rw [e]
  intro c hc
  rcases List.mem_append.mp hc with h | h
  · exact ha c h
  · exact hb c h
theorem strOk_cut {z : Str} {lo hi : Option Int} (h : PyData.strOk z = true) : PyData.strOk (cutS z lo hi) = true := by
  rw [strOk_iff] at *
  intro c hc
  exact h c (List.mem_of_mem_drop (List.mem_of_mem_take (show c ∈ ((z.cps.toList.drop _).take _) from hc)))
theorem strOk_join {sep : Str} (hs : PyData.strOk sep = true) : ∀ {zs : List Str}, (∀ z ∈ zs, PyData.strOk z = true) → PyData.strOk (Str.join sep zs) = true
  | [], _ => (by decide +kernel : PyData.strOk (Str.empty) = true)
  | [z], h => h z List.mem_cons_self
  | x :: z :: r, h => by
    show PyData.strOk (x ++ sep ++ Str.join sep (z :: r)) = true
    exact strOk_append (strOk_append (h x List.mem_cons_self) hs) (strOk_join hs fun y hy => h y (List.mem_cons_of_mem _ hy))
/-- C(v) as a value, C's __init__ storing the one field f -/
theorem mk_ok {K : PySem.W.Frag} {C f : Str} {v : V} {H : Hp} {Q : Addr → Hp → Prop} (k : ∀ a d H2, Same H H2 → XV H2 a (He.ga K C) d [(f, v)] → Q a H2) :
    ([v] : List V).length ≤ 1000 ∧ ∀ a, H a = none → Sp2 (pr_init K C f) (.ref a :: [v]) (upd H a (exo a (He.ga K C) none)) (fun r H2 => r = .non ∧ Q a H2) E0 := by
  refine ⟨(show 1 ≤ 1000 by decide), fun a ha => ⟨_, _, rfl, a, rfl, upd_same, fun d hd da => ⟨rfl, ?_⟩⟩⟩
  have hd0 : H d = none := by rw [upd_ne da] at hd; exact hd
  refine k a d _ (fun b o e => ?_) (.inr ⟨upd_same, by rw [upd_ne da, upd_same]⟩)
  rw [upd_ne (ne_of_none e ha), upd_ne (ne_of_none e hd0), upd_ne (ne_of_none e ha)]
  exact e
theorem eqv_same {d : PyData} (h : SeqAt.shaped d = true) : PyData.eqv d d = true := SeqAt.eqv_refl d (SeqAt.canLay_of_shaped h)
end My
set_option Elab.async false
set_option linter.all false
set_option maxRecDepth 100000
set_option maxHeartbeats 4000000
/-! The mathematics of words: texts as lists of signs. -/
namespace My
open PySem PySem.Spec PyProof.Rows L2

def LETs : Str := "abcdefghijklmnopqrstuvwxyz"
def FIGs : Str := "0123456789"
abbrev LET : List Nat := LETs.cps.toList
abbrev FIG : List Nat := FIGs.cps.toList
theorem mem_LET (c : Nat) : c ∈ LET ↔ 97 ≤ c ∧ c ≤ 122 := by
  have e : LET = [97, 98, 99, 100, 101, 102, 103, 104, 105, 106, 107, 108, 109, 110, 111, 112, 113, 114, 115, 116, 117, 118, 119, 120, 121, 122] := by decide +kernel
  rw [e]
  simp only [List.mem_cons, List.not_mem_nil, or_false]
  omega
theorem mem_FIG (c : Nat) : c ∈ FIG ↔ 48 ≤ c ∧ c ≤ 57 := by
  have e : FIG = [48, 49, 50, 51, 52, 53, 54, 55, 56, 57] := by decide +kernel
  rw [e]
  simp only [List.mem_cons, List.not_mem_nil, or_false]
  omega

/-- how many signs of S stand ahead -/
def runLen (S l : List Nat) : Nat := (l.takeWhile (fun c => decide (c ∈ S))).length
theorem runLen_le (S l : List Nat) : runLen S l ≤ l.length := by
  unfold runLen
  induction l with
  | nil => simp
  | cons c t ih =>
    rw [List.takeWhile_cons]
    split
    · simp only [List.length_cons]; omega
    · simp
theorem runLen_nil (S : List Nat) : runLen S [] = 0 := rfl
theorem runLen_in {S t : List Nat} {c : Nat} (h : c ∈ S) : runLen S (c :: t) = runLen S t + 1 := by
  unfold runLen
  rw [List.takeWhile_cons, if_pos (decide_eq_true h), List.length_cons]
theorem runLen_out {S t : List Nat} {c : Nat} (h : c ∉ S) : runLen S (c :: t) = 0 := by
  unfold runLen
  rw [List.takeWhile_cons, if_neg (by simpa using h)]
  rfl
theorem runLen_append {S : List Nat} {c : Nat} (h : c ∉ S) (r : List Nat) : ∀ l : List Nat, runLen S (l ++ c :: r) = runLen S l
  | [] => runLen_out h
  | x :: l => by
    by_cases hx : x ∈ S
    · rw [List.cons_append, runLen_in hx, runLen_in hx, runLen_append h r l]
    · rw [List.cons_append, runLen_out hx, runLen_out hx]
/-- the length of the word that begins here -/
def wordLen : List Nat → Option Nat
  | [] => none
  | c :: t => if c = 47 then some 1 else if c ∈ LET then (if runLen LET (c :: t) ≤ 8 then some (runLen LET (c :: t)) else none)
    else if 0 < runLen FIG (c :: t) ∧ runLen FIG (c :: t) ≤ 12 ∧ (c ≠ 48 ∨ runLen FIG (c :: t) = 1) then some (runLen FIG (c :: t)) else none
theorem wordLen_le {l : List Nat} {n : Nat} (h : wordLen l = some n) : 0 < n ∧ n ≤ l.length := by
  cases l with
  | nil => cases h
  | cons c t =>
    unfold wordLen at h
    have h1 := runLen_le LET (c :: t)
    have h2 := runLen_le FIG (c :: t)
    simp only [List.length_cons] at *
    split at h
    · cases h; omega
    · split at h
      · rename_i hc
        rw [runLen_in hc] at *
        split at h
        · cases h; omega
        · cases h
      · split at h
        · cases h; omega
        · cases h
theorem wordLen_append {c : Nat} (h1 : c ∉ LET) (h2 : c ∉ FIG) (r : List Nat) {x : Nat} {l : List Nat} : wordLen (x :: l ++ c :: r) = wordLen (x :: l) := by
  show wordLen (x :: (l ++ c :: r)) = _
  unfold wordLen
  have e1 := runLen_append h1 r (x :: l)
  have e2 := runLen_append h2 r (x :: l)
  rw [List.cons_append] at e1 e2
  dsimp only
  rw [e1, e2]

/-- the words of a row, the row's first sign at the place b; or the place of a sign that is in none -/
def rowScan (b : Nat) (cur : List (List Nat)) : List Nat → Except Nat (List (List Nat))
  | [] => .ok cur
  | c :: t => if c = 32 then rowScan (b + 1) cur t else match h : wordLen (c :: t) with
    | none => .error b
    | some n => rowScan (b + n) (cur ++ [(c :: t).take n]) ((c :: t).drop n)
termination_by l => l.length
decreasing_by
  · simp
  · have := wordLen_le h
    simp only [List.length_drop, List.length_cons]
    omega
/-- the same of a whole text, rows told apart by the line end -/
def scan (b : Nat) (rows : List (List (List Nat))) (cur : List (List Nat)) : List Nat → Except Nat (List (List (List Nat)))
  | [] => .ok (rows ++ [cur])
  | c :: t => if c = 10 then scan (b + 1) (rows ++ [cur]) [] t else if c = 32 then scan (b + 1) rows cur t else match h : wordLen (c :: t) with
    | none => .error b
    | some n => scan (b + n) rows (cur ++ [(c :: t).take n]) ((c :: t).drop n)
termination_by l => l.length
decreasing_by
  · simp
  · simp
  · have := wordLen_le h
    simp only [List.length_drop, List.length_cons]
    omega
theorem rowScan_nil (b cur) : rowScan b cur [] = .ok cur := by rw [rowScan]
theorem rowScan_blank (b cur t) : rowScan b cur (32 :: t) = rowScan (b + 1) cur t := by rw [rowScan, if_pos rfl]
theorem rowScan_bad {b cur c t} (hc : c ≠ 32) (h : wordLen (c :: t) = none) : rowScan b cur (c :: t) = .error b := by
  rw [rowScan, if_neg hc]
  split
  · rfl
  · rename_i n h2; rw [h] at h2; cases h2
theorem rowScan_word {b cur c t n} (hc : c ≠ 32) (h : wordLen (c :: t) = some n) : rowScan b cur (c :: t) = rowScan (b + n) (cur ++ [(c :: t).take n]) ((c :: t).drop n) := by
  rw [rowScan, if_neg hc]
  split
  · rename_i h2; rw [h] at h2; cases h2
  · rename_i m h2
    rw [h] at h2
    cases h2
    rfl
theorem scan_nil (b rows cur) : scan b rows cur [] = .ok (rows ++ [cur]) := by rw [scan]
theorem scan_eol (b rows cur t) : scan b rows cur (10 :: t) = scan (b + 1) (rows ++ [cur]) [] t := by rw [scan, if_pos rfl]
theorem scan_blank (b rows cur t) : scan b rows cur (32 :: t) = scan (b + 1) rows cur t := by rw [scan, if_neg (by decide), if_pos rfl]
theorem scan_bad {b rows cur c t} (hl : c ≠ 10) (hc : c ≠ 32) (h : wordLen (c :: t) = none) : scan b rows cur (c :: t) = .error b := by
  rw [scan, if_neg hl, if_neg hc]
  split
  · rfl
  · rename_i n h2; rw [h] at h2; cases h2
theorem scan_word {b rows cur c t n} (hl : c ≠ 10) (hc : c ≠ 32) (h : wordLen (c :: t) = some n) : scan b rows cur (c :: t) = scan (b + n) rows (cur ++ [(c :: t).take n]) ((c :: t).drop n) := by
  rw [scan, if_neg hl, if_neg hc]
  split
  · rename_i h2; rw [h] at h2; cases h2
  · rename_i m h2
    rw [h] at h2
    cases h2
    rfl
theorem nl_let : (10 : Nat) ∉ LET := by rw [mem_LET]; omega
theorem nl_fig : (10 : Nat) ∉ FIG := by rw [mem_FIG]; omega
/-- a row at the end of a text -/
theorem scan_last : ∀ (n : Nat) (l : List Nat), l.length ≤ n → 10 ∉ l → ∀ b rows cur, scan b rows cur l = (rowScan b cur l).map (fun ws => rows ++ [ws]) := by
  intro n
  induction n with
  | zero =>
    intro l hl _ b rows cur
    cases l with
    | nil => rw [scan_nil, rowScan_nil]; rfl
    | cons => simp at hl
  | succ n ih =>
    intro l hl h10 b rows cur
    cases l with
    | nil => rw [scan_nil, rowScan_nil]; rfl
    | cons c t =>
      have hc10 : c ≠ 10 := fun e => h10 (by rw [e]; exact List.mem_cons_self)
      have ht10 : 10 ∉ t := fun e => h10 (List.mem_cons_of_mem _ e)
      simp only [List.length_cons] at hl
      by_cases hc : c = 32
      · subst hc
        rw [scan_blank, rowScan_blank]
        exact ih t (by omega) ht10 _ _ _
      · cases hw : wordLen (c :: t) with
        | none => rw [scan_bad hc10 hc hw, rowScan_bad hc hw]; rfl
        | some m =>
          have hm := wordLen_le hw
          rw [scan_word hc10 hc hw, rowScan_word hc hw]
          exact ih _ (by simp only [List.length_drop, List.length_cons]; omega) (fun e => h10 (List.mem_of_mem_drop e)) _ _ _
/-- a row, then the rest -/
theorem scan_row : ∀ (n : Nat) (l r : List Nat), l.length ≤ n → 10 ∉ l → ∀ b rows cur, scan b rows cur (l ++ 10 :: r) = (rowScan b cur l).bind (fun ws => scan (b + l.length + 1) (rows ++ [ws]) [] r) := by
  intro n
  induction n with
  | zero =>
    intro l r hl _ b rows cur
    cases l with
    | nil =>
      rw [List.nil_append, scan_eol, rowScan_nil]
      show _ = scan (b + 0 + 1) (rows ++ [cur]) [] r
      rfl
    | cons => simp at hl
  | succ n ih =>
    intro l r hl h10 b rows cur
    cases l with
    | nil =>
      rw [List.nil_append, scan_eol, rowScan_nil]
      show _ = scan (b + 0 + 1) (rows ++ [cur]) [] r
      rfl
    | cons c t =>
      have hc10 : c ≠ 10 := fun e => h10 (by rw [e]; exact List.mem_cons_self)
      have ht10 : 10 ∉ t := fun e => h10 (List.mem_cons_of_mem _ e)
      simp only [List.length_cons] at hl
      by_cases hc : c = 32
      · subst hc
        rw [List.cons_append, scan_blank, rowScan_blank, ih t r (by omega) ht10]
        have e : b + 1 + t.length + 1 = b + (32 :: t).length + 1 := by simp only [List.length_cons]; omega
        rw [e]
      · have hwa := wordLen_append nl_let nl_fig r (x := c) (l := t)
        cases hw : wordLen (c :: t) with
        | none =>
          rw [rowScan_bad hc hw]
          rw [List.cons_append, scan_bad hc10 hc (by rw [← List.cons_append, hwa, hw])]
          rfl
        | some m =>
          have hm := wordLen_le hw
          simp only [List.length_cons] at hm
          rw [rowScan_word hc hw]
          rw [List.cons_append, scan_word hc10 hc (by rw [← List.cons_append, hwa, hw])]
          have ed : (c :: (t ++ 10 :: r)).drop m = (c :: t).drop m ++ 10 :: r := by
            rw [← List.cons_append, List.drop_append_of_le_length (by simp only [List.length_cons]; omega)]
          have et : (c :: (t ++ 10 :: r)).take m = (c :: t).take m := by
            rw [← List.cons_append, List.take_append_of_le_length (by simp only [List.length_cons]; omega)]
          rw [ed, et, ih _ r (by simp only [List.length_drop, List.length_cons]; omega) (fun e => h10 (List.mem_of_mem_drop e))]
          have e : b + m + ((c :: t).drop m).length + 1 = b + (c :: t).length + 1 := by simp only [List.length_drop, List.length_cons]; omega
          rw [e]

theorem takeWhile_no (l : List Nat) : (10 : Nat) ∉ l.takeWhile (fun c => c != 10) := by
  induction l with
  | nil => simp
  | cons c t ih =>
    rw [List.takeWhile_cons]
    split
    · rename_i h
      have hc : c ≠ 10 := by simpa using h
      intro e
      rcases List.mem_cons.mp e with e | e
      · exact hc e.symm
      · exact ih e
    · simp
/-- rows told by their signs, the first of them at the place b -/
def rowsScan (b : Nat) (rows : List (List (List Nat))) : List (List Nat) → Except Nat (List (List (List Nat)))
  | [] => .ok rows
  | l :: r => (rowScan b [] l).bind fun ws => rowsScan (b + l.length + 1) (rows ++ [ws]) r
/-- a text cut at its line ends -/
def lines : List Nat → List (List Nat) := TL.spl [10] 0 []
theorem spl_step (acc : List Nat) : ∀ l : List Nat, TL.spl [10] 0 acc l = (acc ++ l.takeWhile (fun c => c != 10)) :: (match l.dropWhile (fun c => c != 10) with | [] => [] | _ :: r => lines r) := by
  intro l
  induction l generalizing acc with
  | nil => rw [TL.spl_nil]; simp
  | cons c t ih =>
    by_cases hc : c = 10
    · subst hc
      rw [TL.spl_hit (by rfl)]
      simp [lines]
    · have e : TL.pre [10] (c :: t) = false := by
        show ([c] == [10]) = false
        simpa using hc
      rw [TL.spl_miss e, ih]
      have e2 : (c != 10) = true := by simpa using hc
      rw [List.takeWhile_cons, List.dropWhile_cons, if_pos e2, if_pos e2]
      simp
theorem lines_eq (l : List Nat) : lines l = l.takeWhile (fun c => c != 10) :: (match l.dropWhile (fun c => c != 10) with | [] => [] | _ :: r => lines r) := by
  have h := spl_step [] l
  rw [List.nil_append] at h
  exact h
theorem scan_lines : ∀ (n : Nat) (l : List Nat), l.length ≤ n → ∀ b rows, scan b rows [] l = rowsScan b rows (lines l) := by
  intro n
  induction n with
  | zero =>
    intro l hl b rows
    cases l with
    | nil =>
      rw [scan_nil]
      show _ = rowsScan b rows (TL.spl [10] 0 [] [])
      rw [TL.spl_nil]
      show _ = (rowScan b [] []).bind _
      rw [rowScan_nil]
      rfl
    | cons => simp at hl
  | succ n ih =>
    intro l hl b rows
    rw [lines_eq]
    have h0 : l = l.takeWhile (fun c => c != 10) ++ l.dropWhile (fun c => c != 10) := (List.takeWhile_append_dropWhile).symm
    have hn := takeWhile_no l
    generalize ht : l.takeWhile (fun c => c != 10) = t at *
    cases hd : l.dropWhile (fun c => c != 10) with
    | nil =>
      rw [hd, List.append_nil] at h0
      rw [h0, scan_last _ _ (Nat.le_refl _) hn]
      show _ = (rowScan b [] t).bind _
      cases rowScan b [] t <;> rfl
    | cons c r =>
      have hc : c = 10 := by
        have := List.head?_dropWhile_not (fun c => c != 10) l
        rw [hd] at this
        simpa using this
      subst hc
      rw [hd] at h0
      have hlen : r.length ≤ n := by
        have := congrArg List.length h0
        simp only [List.length_append, List.length_cons] at this
        omega
      rw [h0, scan_row _ _ _ (Nat.le_refl _) hn]
      show _ = (rowScan b [] t).bind _
      congr 1
      funext ws
      exact ih r hlen _ _
theorem runLen_pos {S t : List Nat} {c : Nat} : 0 < runLen S (c :: t) ↔ c ∈ S := by
  by_cases h : c ∈ S
  · rw [runLen_in h]; simp [h]
  · rw [runLen_out h]; simp [h]
/-- the law's word at a place: letters, then figures that begin there -/
def dueWord (l : List Nat) : List Nat := l.take (runLen LET l) ++ l.take (runLen FIG l)
theorem due_cases (c : Nat) (t : List Nat) : (dueWord (c :: t) = [] ∧ c ∉ LET ∧ c ∉ FIG ∧ wordLen (c :: t) = if c = 47 then some 1 else none) ∨
    (∃ n, 0 < n ∧ n ≤ t.length + 1 ∧ dueWord (c :: t) = (c :: t).take n ∧ c ∈ LET ∧ wordLen (c :: t) = if n ≤ 8 then some n else none) ∨
    (∃ n, 0 < n ∧ n ≤ t.length + 1 ∧ dueWord (c :: t) = (c :: t).take n ∧ c ∈ FIG ∧ c ∉ LET ∧ wordLen (c :: t) = if n ≤ 12 ∧ (c ≠ 48 ∨ n = 1) then some n else none) := by
  have l1 := runLen_le LET (c :: t)
  have l2 := runLen_le FIG (c :: t)
  simp only [List.length_cons] at l1 l2
  unfold dueWord
  by_cases h1 : c ∈ LET
  · have h2 : c ∉ FIG := fun e => by rw [mem_LET] at h1; rw [mem_FIG] at e; omega
    have h47 : c ≠ 47 := fun e => by rw [mem_LET] at h1; omega
    refine .inr (.inl ⟨runLen LET (c :: t), runLen_pos.mpr h1, l1, ?_, h1, ?_⟩)
    · rw [runLen_out h2]; simp
    · unfold wordLen
      dsimp only
      rw [if_neg h47, if_pos h1]
  · by_cases h2 : c ∈ FIG
    · have h47 : c ≠ 47 := fun e => by rw [mem_FIG] at h2; omega
      refine .inr (.inr ⟨runLen FIG (c :: t), runLen_pos.mpr h2, l2, ?_, h2, h1, ?_⟩)
      · rw [runLen_out h1]; simp
      · unfold wordLen
        dsimp only
        rw [if_neg h47, if_neg h1]
        have hp := runLen_pos (t := t).mpr h2
        by_cases h3 : runLen FIG (c :: t) ≤ 12 ∧ (c ≠ 48 ∨ runLen FIG (c :: t) = 1)
        · rw [if_pos h3, if_pos ⟨hp, h3⟩]
        · rw [if_neg h3, if_neg (fun z => h3 z.2)]
    · refine .inl ⟨?_, h1, h2, ?_⟩
      · rw [runLen_out h1, runLen_out h2]; simp
      · unfold wordLen
        dsimp only
        by_cases h47 : c = 47
        · rw [if_pos h47, if_pos h47]
        · rw [if_neg h47, if_neg h1, if_neg h47, runLen_out h2, if_neg (by omega)]
end My
set_option Elab.async false
set_option linter.all false
set_option maxRecDepth 100000
set_option maxHeartbeats 4000000
namespace K01
open PySem PySem.Spec PyProof.Rows L2 My
def topS (i : Nat) : Stmt := PySem.Challenge.pw_heirwood_k01_words.main.body.getD i (.Pass ⟨0, 0, 0, 0⟩)
abbrev s_BadSign___init__ : Stmt := inClass (topS 3) 0
abbrev N_BadSign___init__ : List Str := ["self", "spot"]
theorem sc_BadSign___init__ : FnScope N_BadSign___init__ ["self", "spot"] (defScope s_BadSign___init__) := ⟨rfl, rfl, rfl, by decide +kernel, rfl, by decide +kernel, by decide +kernel⟩
def d_BadSign___init__ : He.DefD := ⟨("BadSign", some "__init__"), "__init__", "BadSign.__init__", defArgs s_BadSign___init__, defBody s_BadSign___init__, defScope s_BadSign___init__, [], []⟩
abbrev s_BadText___init__ : Stmt := inClass (topS 4) 0
abbrev N_BadText___init__ : List Str := ["self", "spot"]
theorem sc_BadText___init__ : FnScope N_BadText___init__ ["self", "spot"] (defScope s_BadText___init__) := ⟨rfl, rfl, rfl, by decide +kernel, rfl, by decide +kernel, by decide +kernel⟩
def d_BadText___init__ : He.DefD := ⟨("BadText", some "__init__"), "__init__", "BadText.__init__", defArgs s_BadText___init__, defBody s_BadText___init__, defScope s_BadText___init__, [], []⟩
abbrev s_BadFacts___init__ : Stmt := inClass (topS 5) 0
abbrev N_BadFacts___init__ : List Str := ["self", "facts"]
theorem sc_BadFacts___init__ : FnScope N_BadFacts___init__ ["self", "facts"] (defScope s_BadFacts___init__) := ⟨rfl, rfl, rfl, by decide +kernel, rfl, by decide +kernel, by decide +kernel⟩
def d_BadFacts___init__ : He.DefD := ⟨("BadFacts", some "__init__"), "__init__", "BadFacts.__init__", defArgs s_BadFacts___init__, defBody s_BadFacts___init__, defScope s_BadFacts___init__, [], []⟩
abbrev s_NoOne___init__ : Stmt := inClass (topS 6) 0
abbrev N_NoOne___init__ : List Str := ["self", "name"]
theorem sc_NoOne___init__ : FnScope N_NoOne___init__ ["self", "name"] (defScope s_NoOne___init__) := ⟨rfl, rfl, rfl, by decide +kernel, rfl, by decide +kernel, by decide +kernel⟩
def d_NoOne___init__ : He.DefD := ⟨("NoOne", some "__init__"), "__init__", "NoOne.__init__", defArgs s_NoOne___init__, defBody s_NoOne___init__, defScope s_NoOne___init__, [], []⟩
abbrev s_Alive___init__ : Stmt := inClass (topS 7) 0
abbrev N_Alive___init__ : List Str := ["self", "name"]
theorem sc_Alive___init__ : FnScope N_Alive___init__ ["self", "name"] (defScope s_Alive___init__) := ⟨rfl, rfl, rfl, by decide +kernel, rfl, by decide +kernel, by decide +kernel⟩
def d_Alive___init__ : He.DefD := ⟨("Alive", some "__init__"), "__init__", "Alive.__init__", defArgs s_Alive___init__, defBody s_Alive___init__, defScope s_Alive___init__, [], []⟩
abbrev s_run_end : Stmt := topS 17
abbrev N_run_end : List Str := ["row", "at", "signs", "end"]
theorem sc_run_end : FnScope N_run_end ["row", "at", "signs"] (defScope s_run_end) := ⟨rfl, rfl, rfl, by decide +kernel, rfl, by decide +kernel, by decide +kernel⟩
def d_run_end : He.DefD := ⟨("run_end", none), "run_end", "run_end", defArgs s_run_end, defBody s_run_end, defScope s_run_end, [], []⟩
abbrev s_word_end : Stmt := topS 18
abbrev N_word_end : List Str := ["row", "at", "end"]
theorem sc_word_end : FnScope N_word_end ["row", "at"] (defScope s_word_end) := ⟨rfl, rfl, rfl, by decide +kernel, rfl, by decide +kernel, by decide +kernel⟩
def d_word_end : He.DefD := ⟨("word_end", none), "word_end", "word_end", defArgs s_word_end, defBody s_word_end, defScope s_word_end, [], []⟩
abbrev s_row_words : Stmt := topS 19
abbrev N_row_words : List Str := ["row", "begin", "found", "at", "end"]
theorem sc_row_words : FnScope N_row_words ["row", "begin"] (defScope s_row_words) := ⟨rfl, rfl, rfl, by decide +kernel, rfl, by decide +kernel, by decide +kernel⟩
def d_row_words : He.DefD := ⟨("row_words", none), "row_words", "row_words", defArgs s_row_words, defBody s_row_words, defScope s_row_words, [], []⟩
abbrev s_text_words : Stmt := topS 20
abbrev N_text_words : List Str := ["text", "found", "begin", "row"]
theorem sc_text_words : FnScope N_text_words ["text"] (defScope s_text_words) := ⟨rfl, rfl, rfl, by decide +kernel, rfl, by decide +kernel, by decide +kernel⟩
def d_text_words : He.DefD := ⟨("text_words", none), "text_words", "text_words", defArgs s_text_words, defBody s_text_words, defScope s_text_words, [], []⟩
abbrev s_is_name : Stmt := topS 21
abbrev N_is_name : List Str := ["word", "sign"]
theorem sc_is_name : FnScope N_is_name ["word"] (defScope s_is_name) := ⟨rfl, rfl, rfl, by decide +kernel, rfl, by decide +kernel, by decide +kernel⟩
def d_is_name : He.DefD := ⟨("is_name", none), "is_name", "is_name", defArgs s_is_name, defBody s_is_name, defScope s_is_name, [], []⟩
abbrev s__law_next : Stmt := topS 23
abbrev N__law_next : List Str := ["_law_state", "_law_many", "_law_k", "_law_cells", "_law_cell", "_law_number"]
theorem sc__law_next : FnScope N__law_next ["_law_state", "_law_many"] (defScope s__law_next) := ⟨rfl, rfl, rfl, by decide +kernel, rfl, by decide +kernel, by decide +kernel⟩
def d__law_next : He.DefD := ⟨("_law_next", none), "_law_next", "_law_next", defArgs s__law_next, defBody s__law_next, defScope s__law_next, [], []⟩
abbrev s__law_told_words : Stmt := topS 24
abbrev N__law_told_words : List Str := ["_law_some"]
theorem sc__law_told_words : FnScope N__law_told_words [] (defScope s__law_told_words) := ⟨rfl, rfl, rfl, by decide +kernel, rfl, by decide +kernel, by decide +kernel⟩
def d__law_told_words : He.DefD := ⟨("_law_told_words", none), "_law_told_words", "_law_told_words", defArgs s__law_told_words, defBody s__law_told_words, defScope s__law_told_words, [], []⟩
abbrev s__law_piece : Stmt := topS 25
abbrev N__law_piece : List Str := ["_law_state", "_law_letters", "_law_kind", "_law_size", "_law_first", "_law_step", "_law_k"]
theorem sc__law_piece : FnScope N__law_piece ["_law_state"] (defScope s__law_piece) := ⟨rfl, rfl, rfl, by decide +kernel, rfl, by decide +kernel, by decide +kernel⟩
def d__law_piece : He.DefD := ⟨("_law_piece", none), "_law_piece", "_law_piece", defArgs s__law_piece, defBody s__law_piece, defScope s__law_piece, [], []⟩
abbrev s__law_odd : Stmt := topS 26
abbrev N__law_odd : List Str := ["_law_state", "_law_some"]
theorem sc__law_odd : FnScope N__law_odd ["_law_state"] (defScope s__law_odd) := ⟨rfl, rfl, rfl, by decide +kernel, rfl, by decide +kernel, by decide +kernel⟩
def d__law_odd : He.DefD := ⟨("_law_odd", none), "_law_odd", "_law_odd", defArgs s__law_odd, defBody s__law_odd, defScope s__law_odd, [], []⟩
abbrev s__law_text : Stmt := topS 27
abbrev N__law_text : List Str := ["_law_state", "_law_text_here", "_law_k", "_law_at"]
theorem sc__law_text : FnScope N__law_text ["_law_state"] (defScope s__law_text) := ⟨rfl, rfl, rfl, by decide +kernel, rfl, by decide +kernel, by decide +kernel⟩
def d__law_text : He.DefD := ⟨("_law_text", none), "_law_text", "_law_text", defArgs s__law_text, defBody s__law_text, defScope s__law_text, [], []⟩
abbrev s__law_run : Stmt := topS 28
abbrev N__law_run : List Str := ["_law_text_here", "_law_at", "_law_signs", "_law_end"]
theorem sc__law_run : FnScope N__law_run ["_law_text_here", "_law_at", "_law_signs"] (defScope s__law_run) := ⟨rfl, rfl, rfl, by decide +kernel, rfl, by decide +kernel, by decide +kernel⟩
def d__law_run : He.DefD := ⟨("_law_run", none), "_law_run", "_law_run", defArgs s__law_run, defBody s__law_run, defScope s__law_run, [], []⟩
abbrev s__law_due : Stmt := topS 29
abbrev N__law_due : List Str := ["_law_text_here", "_law_found", "_law_at", "_law_word"]
theorem sc__law_due : FnScope N__law_due ["_law_text_here"] (defScope s__law_due) := ⟨rfl, rfl, rfl, by decide +kernel, rfl, by decide +kernel, by decide +kernel⟩
def d__law_due : He.DefD := ⟨("_law_due", none), "_law_due", "_law_due", defArgs s__law_due, defBody s__law_due, defScope s__law_due, [], []⟩
abbrev s__law_class : Stmt := topS 30
abbrev N__law_class : List Str := ["_law_e", "_law_told", "_law_found"]
theorem sc__law_class : FnScope N__law_class ["_law_e"] (defScope s__law_class) := ⟨rfl, rfl, rfl, by decide +kernel, rfl, by decide +kernel, by decide +kernel⟩
def d__law_class : He.DefD := ⟨("_law_class", none), "_law_class", "_law_class", defArgs s__law_class, defBody s__law_class, defScope s__law_class, [], []⟩
abbrev s__law_said : Stmt := topS 31
abbrev N__law_said : List Str := ["_law_thing", "_law_error", "_law_found", "_law_e"]
theorem sc__law_said : FnScope N__law_said ["_law_thing"] (defScope s__law_said) := ⟨rfl, rfl, rfl, by decide +kernel, rfl, by decide +kernel, by decide +kernel⟩
def d__law_said : He.DefD := ⟨("_law_said", none), "_law_said", "_law_said", defArgs s__law_said, defBody s__law_said, defScope s__law_said, [], []⟩
abbrev s__law_by_hand : Stmt := topS 32
abbrev N__law_by_hand : List Str := ["_law_state", "_law_spot", "_law_pair", "_law_word", "_law_facts"]
theorem sc__law_by_hand : FnScope N__law_by_hand ["_law_state"] (defScope s__law_by_hand) := ⟨rfl, rfl, rfl, by decide +kernel, rfl, by decide +kernel, by decide +kernel⟩
def d__law_by_hand : He.DefD := ⟨("_law_by_hand", none), "_law_by_hand", "_law_by_hand", defArgs s__law_by_hand, defBody s__law_by_hand, defScope s__law_by_hand, [], []⟩
abbrev s__law_name_right : Stmt := topS 33
abbrev N__law_name_right : List Str := ["_law_word", "_law_letters", "_law_due_here", "_law_found", "_law_sign"]
theorem sc__law_name_right : FnScope N__law_name_right ["_law_word"] (defScope s__law_name_right) := ⟨rfl, rfl, rfl, by decide +kernel, rfl, by decide +kernel, by decide +kernel⟩
def d__law_name_right : He.DefD := ⟨("_law_name_right", none), "_law_name_right", "_law_name_right", defArgs s__law_name_right, defBody s__law_name_right, defScope s__law_name_right, [], []⟩
abbrev s_law : Stmt := topS 34
abbrev N_law : List Str := ["_law_script", "_law_state", "_law_text_here", "_law_due_here", "_law_turn", "_law_found", "_law_row", "_law_odd_here", "_law_some", "_law_word"]
theorem sc_law : FnScope N_law ["_law_script"] (defScope s_law) := ⟨rfl, rfl, rfl, by decide +kernel, rfl, by decide +kernel, by decide +kernel⟩
def d_law : He.DefD := ⟨("law", none), "law", "law", defArgs s_law, defBody s_law, defScope s_law, [], []⟩
def fn : List He.DefD := [d_BadSign___init__, d_BadText___init__, d_BadFacts___init__, d_NoOne___init__, d_Alive___init__, d_run_end, d_word_end, d_row_words, d_text_words, d_is_name, d__law_next, d__law_told_words, d__law_piece, d__law_odd, d__law_text, d__law_run, d__law_due, d__law_class, d__law_said, d__law_by_hand, d__law_name_right, d_law]
def fa : List He.Fa := [.glo "run_end", .glo "word_end", .glo "row_words", .glo "text_words", .glo "is_name", .glo "_law_next", .glo "_law_told_words", .glo "_law_piece", .glo "_law_odd", .glo "_law_text", .glo "_law_run", .glo "_law_due", .glo "_law_class", .glo "_law_said", .glo "_law_by_hand", .glo "_law_name_right", .glo "law", .free "len", .free "str", .free "isinstance", .free "all", .free "range", .free "min", .free "max", .free "int", .free "ValueError", .free "bool", .free "list", .str "LETTERS" "abcdefghijklmnopqrstuvwxyz", .int "MOST_LETTERS" 8, .str "FIGURES" "0123456789", .int "MOST_FIGURES" 12, .int "MOST_SIGNS" 8000, .glo "TOLD", .glo "NoOne", .glo "BadFacts", .glo "BadText", .glo "BadSign", .glo "TooMany", .glo "BadLine", .glo "Alive", .glo "HeirError"]
def dv_TOLD : List He.Dv := [.str "born", .str "taken", .str "joined", .str "parted", .str "died", .str "owns", .str "gave", .str "owes", .str "unfit", .str "word", .str "sum", .str "part", .str "out", .str "else", .str "of", .str "line", .str "degree", .str "beside", .str "halves", .str "kept", .str "back"]
def ex (K : PySem.W.Frag) : Bool := exAll [He.tupB K "TOLD" dv_TOLD, oexB K "BadSign", oexB K "BadText", oexB K "BadFacts", oexB K "NoOne", oexB K "Alive", He.eqO (PySem.W.findIn K (.ref (He.ga K "BadSign")) "spot") (some none), He.eqO (PySem.W.findIn K (.ref (He.ga K "BadText")) "spot") (some none), He.eqO (PySem.W.findIn K (.ref (He.ga K "BadFacts")) "facts") (some none), He.eqO (PySem.W.findIn K (.ref (He.ga K "NoOne")) "name") (some none), He.eqO (PySem.W.findIn K (.ref (He.ga K "Alive")) "name") (some none), decide (PySem.W.exmOne K (.ref (He.ga K "BadSign")) (.ref (He.ga K "HeirError")) = some true), decide (PySem.W.kitOne K (.ref (He.ga K "BadSign")) (.ref (He.ga K "BadSign")) = some true), decide (PySem.W.kitOne K (.ref (He.ga K "BadSign")) (.ref (He.ga K "BadText")) = some false), decide (PySem.W.kitOne K (.ref (He.ga K "BadSign")) (.ref (He.ga K "BadFacts")) = some false), decide (PySem.W.kitOne K (.ref (He.ga K "BadSign")) (.ref (He.ga K "NoOne")) = some false), decide (PySem.W.kitOne K (.ref (He.ga K "BadSign")) (.ref (He.ga K "Alive")) = some false), decide (PySem.W.kitOne K (.ref (He.ga K "BadSign")) (.ref (He.ga K "BadLine")) = some false), decide (PySem.W.kitOne K (.ref (He.ga K "BadSign")) (.ref (He.ga K "TooMany")) = some false), decide (PySem.W.kitOne K (.ref (He.ga K "BadSign")) (.type "ValueError") = some true)]
structure Txt (K : PySem.W.Frag) (mg : Str → Option Value) : Prop where
  all : ∃ h : Heap, K.In h ∧ h.Ns mainGlobals mg
  c : He.SaysD fa fn K
  e : ex K = true
section
variable {K : PySem.W.Frag} {mg : Str → Option Value}
theorem Txt.g_run_end (T : Txt K mg) : mg "run_end" = some (.ref (He.ga K "run_end")) := T.all.elim fun _ z => He.glo_ok z.1 z.2 (T.c.fact 0 (f := .glo "run_end") rfl)
theorem Txt.g_word_end (T : Txt K mg) : mg "word_end" = some (.ref (He.ga K "word_end")) := T.all.elim fun _ z => He.glo_ok z.1 z.2 (T.c.fact 1 (f := .glo "word_end") rfl)
theorem Txt.g_row_words (T : Txt K mg) : mg "row_words" = some (.ref (He.ga K "row_words")) := T.all.elim fun _ z => He.glo_ok z.1 z.2 (T.c.fact 2 (f := .glo "row_words") rfl)
theorem Txt.g_text_words (T : Txt K mg) : mg "text_words" = some (.ref (He.ga K "text_words")) := T.all.elim fun _ z => He.glo_ok z.1 z.2 (T.c.fact 3 (f := .glo "text_words") rfl)
theorem Txt.g_is_name (T : Txt K mg) : mg "is_name" = some (.ref (He.ga K "is_name")) := T.all.elim fun _ z => He.glo_ok z.1 z.2 (T.c.fact 4 (f := .glo "is_name") rfl)
theorem Txt.g__law_next (T : Txt K mg) : mg "_law_next" = some (.ref (He.ga K "_law_next")) := T.all.elim fun _ z => He.glo_ok z.1 z.2 (T.c.fact 5 (f := .glo "_law_next") rfl)
theorem Txt.g__law_told_words (T : Txt K mg) : mg "_law_told_words" = some (.ref (He.ga K "_law_told_words")) := T.all.elim fun _ z => He.glo_ok z.1 z.2 (T.c.fact 6 (f := .glo "_law_told_words") rfl)
theorem Txt.g__law_piece (T : Txt K mg) : mg "_law_piece" = some (.ref (He.ga K "_law_piece")) := T.all.elim fun _ z => He.glo_ok z.1 z.2 (T.c.fact 7 (f := .glo "_law_piece") rfl)
theorem Txt.g__law_odd (T : Txt K mg) : mg "_law_odd" = some (.ref (He.ga K "_law_odd")) := T.all.elim fun _ z => He.glo_ok z.1 z.2 (T.c.fact 8 (f := .glo "_law_odd") rfl)
theorem Txt.g__law_text (T : Txt K mg) : mg "_law_text" = some (.ref (He.ga K "_law_text")) := T.all.elim fun _ z => He.glo_ok z.1 z.2 (T.c.fact 9 (f := .glo "_law_text") rfl)
theorem Txt.g__law_run (T : Txt K mg) : mg "_law_run" = some (.ref (He.ga K "_law_run")) := T.all.elim fun _ z => He.glo_ok z.1 z.2 (T.c.fact 10 (f := .glo "_law_run") rfl)
theorem Txt.g__law_due (T : Txt K mg) : mg "_law_due" = some (.ref (He.ga K "_law_due")) := T.all.elim fun _ z => He.glo_ok z.1 z.2 (T.c.fact 11 (f := .glo "_law_due") rfl)
theorem Txt.g__law_class (T : Txt K mg) : mg "_law_class" = some (.ref (He.ga K "_law_class")) := T.all.elim fun _ z => He.glo_ok z.1 z.2 (T.c.fact 12 (f := .glo "_law_class") rfl)
theorem Txt.g__law_said (T : Txt K mg) : mg "_law_said" = some (.ref (He.ga K "_law_said")) := T.all.elim fun _ z => He.glo_ok z.1 z.2 (T.c.fact 13 (f := .glo "_law_said") rfl)
theorem Txt.g__law_by_hand (T : Txt K mg) : mg "_law_by_hand" = some (.ref (He.ga K "_law_by_hand")) := T.all.elim fun _ z => He.glo_ok z.1 z.2 (T.c.fact 14 (f := .glo "_law_by_hand") rfl)
theorem Txt.g__law_name_right (T : Txt K mg) : mg "_law_name_right" = some (.ref (He.ga K "_law_name_right")) := T.all.elim fun _ z => He.glo_ok z.1 z.2 (T.c.fact 15 (f := .glo "_law_name_right") rfl)
theorem Txt.g_law (T : Txt K mg) : mg "law" = some (.ref (He.ga K "law")) := T.all.elim fun _ z => He.glo_ok z.1 z.2 (T.c.fact 16 (f := .glo "law") rfl)
theorem Txt.n_len (T : Txt K mg) : mg "len" = none := T.all.elim fun _ z => He.free_ok z.1 z.2 (T.c.fact 17 (f := .free "len") rfl)
theorem Txt.n_str (T : Txt K mg) : mg "str" = none := T.all.elim fun _ z => He.free_ok z.1 z.2 (T.c.fact 18 (f := .free "str") rfl)
theorem Txt.n_isinstance (T : Txt K mg) : mg "isinstance" = none := T.all.elim fun _ z => He.free_ok z.1 z.2 (T.c.fact 19 (f := .free "isinstance") rfl)
theorem Txt.n_all (T : Txt K mg) : mg "all" = none := T.all.elim fun _ z => He.free_ok z.1 z.2 (T.c.fact 20 (f := .free "all") rfl)
theorem Txt.n_range (T : Txt K mg) : mg "range" = none := T.all.elim fun _ z => He.free_ok z.1 z.2 (T.c.fact 21 (f := .free "range") rfl)
theorem Txt.n_min (T : Txt K mg) : mg "min" = none := T.all.elim fun _ z => He.free_ok z.1 z.2 (T.c.fact 22 (f := .free "min") rfl)
theorem Txt.n_max (T : Txt K mg) : mg "max" = none := T.all.elim fun _ z => He.free_ok z.1 z.2 (T.c.fact 23 (f := .free "max") rfl)
theorem Txt.n_int (T : Txt K mg) : mg "int" = none := T.all.elim fun _ z => He.free_ok z.1 z.2 (T.c.fact 24 (f := .free "int") rfl)
theorem Txt.n_ValueError (T : Txt K mg) : mg "ValueError" = none := T.all.elim fun _ z => He.free_ok z.1 z.2 (T.c.fact 25 (f := .free "ValueError") rfl)
theorem Txt.n_bool (T : Txt K mg) : mg "bool" = none := T.all.elim fun _ z => He.free_ok z.1 z.2 (T.c.fact 26 (f := .free "bool") rfl)
theorem Txt.n_list (T : Txt K mg) : mg "list" = none := T.all.elim fun _ z => He.free_ok z.1 z.2 (T.c.fact 27 (f := .free "list") rfl)
theorem Txt.g_LETTERS (T : Txt K mg) : ∃ t, mg "LETTERS" = some (.str "abcdefghijklmnopqrstuvwxyz" t) := T.all.elim fun _ z => He.str_ok z.1 z.2 (T.c.fact 28 (f := .str "LETTERS" "abcdefghijklmnopqrstuvwxyz") rfl)
theorem Txt.g_MOST_LETTERS (T : Txt K mg) : ∃ t, mg "MOST_LETTERS" = some (.int 8 t) := T.all.elim fun _ z => He.int_ok z.1 z.2 (T.c.fact 29 (f := .int "MOST_LETTERS" 8) rfl)
theorem Txt.g_FIGURES (T : Txt K mg) : ∃ t, mg "FIGURES" = some (.str "0123456789" t) := T.all.elim fun _ z => He.str_ok z.1 z.2 (T.c.fact 30 (f := .str "FIGURES" "0123456789") rfl)
theorem Txt.g_MOST_FIGURES (T : Txt K mg) : ∃ t, mg "MOST_FIGURES" = some (.int 12 t) := T.all.elim fun _ z => He.int_ok z.1 z.2 (T.c.fact 31 (f := .int "MOST_FIGURES" 12) rfl)
theorem Txt.g_MOST_SIGNS (T : Txt K mg) : ∃ t, mg "MOST_SIGNS" = some (.int 8000 t) := T.all.elim fun _ z => He.int_ok z.1 z.2 (T.c.fact 32 (f := .int "MOST_SIGNS" 8000) rfl)
theorem Txt.g_TOLD (T : Txt K mg) : mg "TOLD" = some (.ref (He.ga K "TOLD")) := T.all.elim fun _ z => He.glo_ok z.1 z.2 (T.c.fact 33 (f := .glo "TOLD") rfl)
theorem Txt.g_NoOne (T : Txt K mg) : mg "NoOne" = some (.ref (He.ga K "NoOne")) := T.all.elim fun _ z => He.glo_ok z.1 z.2 (T.c.fact 34 (f := .glo "NoOne") rfl)
theorem Txt.g_BadFacts (T : Txt K mg) : mg "BadFacts" = some (.ref (He.ga K "BadFacts")) := T.all.elim fun _ z => He.glo_ok z.1 z.2 (T.c.fact 35 (f := .glo "BadFacts") rfl)
theorem Txt.g_BadText (T : Txt K mg) : mg "BadText" = some (.ref (He.ga K "BadText")) := T.all.elim fun _ z => He.glo_ok z.1 z.2 (T.c.fact 36 (f := .glo "BadText") rfl)
theorem Txt.g_BadSign (T : Txt K mg) : mg "BadSign" = some (.ref (He.ga K "BadSign")) := T.all.elim fun _ z => He.glo_ok z.1 z.2 (T.c.fact 37 (f := .glo "BadSign") rfl)
theorem Txt.g_TooMany (T : Txt K mg) : mg "TooMany" = some (.ref (He.ga K "TooMany")) := T.all.elim fun _ z => He.glo_ok z.1 z.2 (T.c.fact 38 (f := .glo "TooMany") rfl)
theorem Txt.g_BadLine (T : Txt K mg) : mg "BadLine" = some (.ref (He.ga K "BadLine")) := T.all.elim fun _ z => He.glo_ok z.1 z.2 (T.c.fact 39 (f := .glo "BadLine") rfl)
theorem Txt.g_Alive (T : Txt K mg) : mg "Alive" = some (.ref (He.ga K "Alive")) := T.all.elim fun _ z => He.glo_ok z.1 z.2 (T.c.fact 40 (f := .glo "Alive") rfl)
theorem Txt.g_HeirError (T : Txt K mg) : mg "HeirError" = some (.ref (He.ga K "HeirError")) := T.all.elim fun _ z => He.glo_ok z.1 z.2 (T.c.fact 41 (f := .glo "HeirError") rfl)
theorem Txt.tup_TOLD (T : Txt K mg) (H : Hp) : SqT K H (He.ga K "TOLD") (dv_TOLD.map (He.Dv.v K)) := He.tupB_ok (exAll_at T.e 0 (by rfl)) H
theorem Txt.oex_BadSign (T : Txt K mg) : oexB K "BadSign" = true := exAll_at T.e 1 (by rfl)
theorem Txt.oex_BadText (T : Txt K mg) : oexB K "BadText" = true := exAll_at T.e 2 (by rfl)
theorem Txt.oex_BadFacts (T : Txt K mg) : oexB K "BadFacts" = true := exAll_at T.e 3 (by rfl)
theorem Txt.oex_NoOne (T : Txt K mg) : oexB K "NoOne" = true := exAll_at T.e 4 (by rfl)
theorem Txt.oex_Alive (T : Txt K mg) : oexB K "Alive" = true := exAll_at T.e 5 (by rfl)
theorem Txt.ex_0 (T : Txt K mg) : (He.eqO (PySem.W.findIn K (.ref (He.ga K "BadSign")) "spot") (some none)) = true := exAll_at T.e 6 (by rfl)
theorem Txt.ex_1 (T : Txt K mg) : (He.eqO (PySem.W.findIn K (.ref (He.ga K "BadText")) "spot") (some none)) = true := exAll_at T.e 7 (by rfl)
theorem Txt.ex_2 (T : Txt K mg) : (He.eqO (PySem.W.findIn K (.ref (He.ga K "BadFacts")) "facts") (some none)) = true := exAll_at T.e 8 (by rfl)
theorem Txt.ex_3 (T : Txt K mg) : (He.eqO (PySem.W.findIn K (.ref (He.ga K "NoOne")) "name") (some none)) = true := exAll_at T.e 9 (by rfl)
theorem Txt.ex_4 (T : Txt K mg) : (He.eqO (PySem.W.findIn K (.ref (He.ga K "Alive")) "name") (some none)) = true := exAll_at T.e 10 (by rfl)
theorem Txt.ex_5 (T : Txt K mg) : (decide (PySem.W.exmOne K (.ref (He.ga K "BadSign")) (.ref (He.ga K "HeirError")) = some true)) = true := exAll_at T.e 11 (by rfl)
theorem Txt.ex_6 (T : Txt K mg) : (decide (PySem.W.kitOne K (.ref (He.ga K "BadSign")) (.ref (He.ga K "BadSign")) = some true)) = true := exAll_at T.e 12 (by rfl)
theorem Txt.ex_7 (T : Txt K mg) : (decide (PySem.W.kitOne K (.ref (He.ga K "BadSign")) (.ref (He.ga K "BadText")) = some false)) = true := exAll_at T.e 13 (by rfl)
theorem Txt.ex_8 (T : Txt K mg) : (decide (PySem.W.kitOne K (.ref (He.ga K "BadSign")) (.ref (He.ga K "BadFacts")) = some false)) = true := exAll_at T.e 14 (by rfl)
theorem Txt.ex_9 (T : Txt K mg) : (decide (PySem.W.kitOne K (.ref (He.ga K "BadSign")) (.ref (He.ga K "NoOne")) = some false)) = true := exAll_at T.e 15 (by rfl)
theorem Txt.ex_10 (T : Txt K mg) : (decide (PySem.W.kitOne K (.ref (He.ga K "BadSign")) (.ref (He.ga K "Alive")) = some false)) = true := exAll_at T.e 16 (by rfl)
theorem Txt.ex_11 (T : Txt K mg) : (decide (PySem.W.kitOne K (.ref (He.ga K "BadSign")) (.ref (He.ga K "BadLine")) = some false)) = true := exAll_at T.e 17 (by rfl)
theorem Txt.ex_12 (T : Txt K mg) : (decide (PySem.W.kitOne K (.ref (He.ga K "BadSign")) (.ref (He.ga K "TooMany")) = some false)) = true := exAll_at T.e 18 (by rfl)
theorem Txt.ex_13 (T : Txt K mg) : (decide (PySem.W.kitOne K (.ref (He.ga K "BadSign")) (.type "ValueError") = some true)) = true := exAll_at T.e 19 (by rfl)
end
--@also BadSign.__init__
--@also BadText.__init__
--@also BadFacts.__init__
--@also NoOne.__init__
--@also Alive.__init__
--@also run_end
--@also word_end
--@also row_words
--@also text_words
--@also is_name
--@also _law_next
--@also _law_told_words
--@also _law_piece
--@also _law_odd
--@also _law_text
--@also _law_run
--@also _law_due
--@also _law_class
--@also _law_said
--@also _law_by_hand
--@also _law_name_right
--@also law
end K01
set_option Elab.async false
set_option linter.all false
set_option maxRecDepth 100000
set_option maxHeartbeats 4000000
local macro_rules | `(tactic| walk_at "w") => `(tactic| repeat (first
  | ((with_reducible refine' My.w_var ?hv ?_); (case hv => rfl))
  | (with_reducible refine My.w_c ?_)
  | (with_reducible refine My.w_seq ?_)
  | (with_reducible refine My.w_set ?_)
  | (with_reducible refine My.w_nx ?_)
  | (with_reducible refine My.w_op ?_)
  | (with_reducible refine My.w_ix ?_)
  | (with_reducible refine My.w_in ?_)
  | (with_reducible refine My.w_nin ?_)
  | (with_reducible refine My.w_cons ?_)
  | (with_reducible refine My.w_nil ?_)
  | (with_reducible refine My.w_cb ?_)
  | (with_reducible refine My.w_call ?_)
  | (with_reducible refine My.w_callS ?_)
  | (with_reducible refine My.w_ret ?_)
  | (with_reducible refine My.w_rt ?_)
  | (with_reducible refine My.w_if ?_)
  | (with_reducible refine My.w_ife ?_)
  | (with_reducible refine My.w_test ?_)
  | (with_reducible refine My.w_B ?_)
  | (with_reducible refine My.w_ebl ?_)
  | (with_reducible refine My.w_and ?_)
  | (with_reducible refine My.w_or ?_)
  | (with_reducible refine My.w_not ?_)
  | (with_reducible refine My.w_andV ?_)
  | (with_reducible refine My.w_orV ?_)
  | (with_reducible refine My.w_notV ?_)
  | (with_reducible refine My.w_eblV ?_)
  | (with_reducible refine My.w_isN ?_)
  | (with_reducible refine My.w_notN ?_)
  | (with_reducible refine My.w_tup ?_)
  | (with_reducible refine My.w_lst ?_)
  | (with_reducible refine My.w_sl ?_)
  | (with_reducible refine My.w_part ?_)
  | (with_reducible refine My.w_nopart ?_)
  | (with_reducible refine My.w_eintV ?_)
  | (with_reducible refine My.w_bm ?_)
  | (with_reducible refine My.w_bm0 ?_)
  | (with_reducible refine My.w_m1 ?_)
  | (with_reducible refine My.w_estr ?_)
  | (with_reducible refine My.w_yes ?_)
  | (with_reducible refine My.w_drop ?_)
  | (with_reducible refine My.w_un ?_)
  | (with_reducible refine My.w_par ?_)
  | (with_reducible refine My.w_epar ?_)
  | ((with_reducible refine' My.w_aug ?hv ?_); (case hv => rfl))
  | (with_reducible refine My.w_ip ?_)
  | (with_reducible refine My.w_put ?_)
  | (with_reducible refine My.w_disp ?_)
  | (with_reducible refine My.w_dnew ?_)
  | (with_reducible refine My.w_pcons ?_)
  | (with_reducible refine My.w_pnil ?_)
  | (with_reducible refine My.w_try ?_)
  | (with_reducible refine My.w_par3 ?_)
  | (with_reducible refine My.w_epar3 ?_)
  | (with_reducible refine My.w_xfA ?_)
  | (with_reducible refine My.w_mkX ?_)
  | (with_reducible refine My.w_fld ?_)
  | (with_reducible refine My.w_for ?_)
  | (with_reducible refine My.w_lc ?_)
  | (with_reducible refine My.w_iA ?_)
  | (with_reducible refine My.w_rng1 ?_)
  | (with_reducible refine My.w_rng2 ?_)
  | (with_reducible refine My.w_raise ?_)
  | (with_reducible refine My.w_chain ?_)
  | (with_reducible refine My.w_asg ?_)
  | (with_reducible refine My.w_gn ?_)
  | (with_reducible refine My.w_next ?_)
  | (with_reducible refine L2.iteT ?_)
  | (with_reducible refine L2.iteF ?_)
  | (with_reducible refine My.w_iteNT ?_)
  | (with_reducible refine My.w_iteNF ?_)
  | (with_reducible refine My.w_cont ?_)
  | (with_reducible refine My.w_break ?_)
  | (with_reducible refine My.w_retN ?_)
  | (with_reducible refine My.w_bk ?_)
  | (with_reducible refine My.w_ct ?_)
  | (with_reducible refine My.st_lt ?_)
  | (with_reducible refine My.st_le ?_)
  | (with_reducible refine My.st_gt ?_)
  | (with_reducible refine My.st_ge ?_)
  | (with_reducible refine My.st_add ?_)
  | (with_reducible refine My.st_sub ?_)
  | (with_reducible refine My.st_in_sign ?_)
  | (with_reducible refine My.st_nin_sign ?_)
  | (with_reducible refine My.st_eq_int ?_)
  | (with_reducible refine My.st_ne_int ?_)
  | (with_reducible refine My.st_eq_str ?_)
  | (with_reducible refine My.st_ne_str ?_)))
namespace K01
open PySem PySem.Spec PyProof.Rows L2 My
section
variable {P : Program} {w : World} {K : PySem.W.Frag} {mg : Str → Option Value} {base : Heap}
/-! ### run_end -/
def pr_run_end : V → V → V → Hp → VK → XK → Prop := fun x y z H Q _ => ∃ (row S : Str) (a : Nat), x = .str row ∧ y = .int (a : Int) ∧ z = .str S ∧ row.length ≤ 100000 ∧ a ≤ row.length ∧ Q (.int ((a + runLen S.cps.toList (row.cps.toList.drop a) : Nat) : Int)) H
def sp_run_end (K : PySem.W.Frag) : Sp := Sp3 pr_run_end
def t_run_end (K : PySem.W.Frag) : TS :=
  (tSeq (tAsg (tVar 1) (gName 3))
  (tSeq (tWhile (tAnd (tTest (tOp rLtA (tVar 3) (tCB (rLenA K) (tCons (tVar 0) tNil)))) (tTest (tOp (rInA K false) (tIxA K (tVar 0) (tVar 3)) (tVar 2)))) (tAug 3 (tC (.int 1)) (ipI fun i j => i + j)))
  (tRet (tVar 3))))
theorem len_toList (z : Str) : z.cps.toList.length = z.length := by simp [Str.length]
theorem at_drop {row : Str} {a : Nat} (h : a < row.length) : ∃ c, row.cps.toList[a]? = some c ∧ row.cps.toList.drop a = c :: row.cps.toList.drop (a + 1) := by
  have h4 : a < row.cps.toList.length := by rw [len_toList]; exact h
  exact ⟨_, List.getElem?_eq_getElem h4, List.drop_eq_getElem_cons h4⟩
theorem pure_run_end (T : Txt K mg) {a b c : V} {H : Hp} {Q : VK} {E : XK} (h : pr_run_end a b c H Q E) : t_run_end K { nx := fun _ H' => Q .non H', rt := Q } [some a, some b, some c, none] H := by
  obtain ⟨row, S, a, rfl, rfl, rfl, hl, ha, k⟩ := h
  unfold t_run_end
  walk_at "w"
  refine ⟨fun m σ H' => H' = H ∧ ∃ e : Nat, m = row.length - e ∧ e ≤ row.length ∧ a + runLen S.cps.toList (row.cps.toList.drop a) = e + runLen S.cps.toList (row.cps.toList.drop e) ∧
    σ = [some (.str row), some (.int (a : Int)), some (.str S), some (.int (e : Int))], ⟨_, rfl, a, rfl, ha, rfl, rfl⟩, ?_⟩
  rintro m σ H' ⟨rfl, e, rfl, he, hr, rfl⟩
  walk_at "w"
  refine st_len_str (by omega) ?_
  walk_at "w"
  have fin : e + runLen S.cps.toList (row.cps.toList.drop e) = e → Q (.int (e : Int)) H' := fun z => by
    rw [hr, z] at k
    exact k
  refine ite2 (fun h1 => ?_) (fun h1 => ?_)
  · have h2 : e < row.length := by have := of_decide_eq_true h1; omega
    obtain ⟨c, h3, hd⟩ := at_drop h2
    walk_at "w"
    refine st_ix_str (by omega) h3 ?_
    walk_at "w"
    refine ite2 (fun hc => ?_) (fun hc => ?_)
    · refine ⟨_, fun _ _ z => z, ?_⟩
      walk_at "w"
      refine ⟨row.length - (e + 1), by omega, rfl, e + 1, rfl, by omega, ?_, rfl⟩
      rw [hr, hd, runLen_in (of_decide_eq_true hc)]
      omega
    · walk_at "w"
      refine fin ?_
      rw [hd, runLen_out (fun z => hc (decide_eq_true z))]
      rfl
  · have h2 : ¬ e < row.length := by intro z; exact h1 (decide_eq_true (by omega))
    walk_at "w"
    refine fin ?_
    rw [List.drop_eq_nil_of_le (by rw [len_toList]; omega)]
    rfl
theorem ok_run_end (T : Txt K mg)  : Kp P w K mg base CX0 1 "run_end" ["row", "at", "signs"] (sp_run_end K) := by
  obtain ⟨fd, F⟩ := T.c.def_ 5 (d := d_run_end) rfl
  refine ⟨⟨_, fd, T.g_run_end, F.kp, F.bindsN fun _ _ _ _ _ _ us hl => match us, hl with | [_, _, _], _ => rfl, F.ok sc_run_end Sp3.len (fun cdv A outer s H vs Q E hr h => ?_)⟩⟩
  obtain ⟨v0, v1, v2, rfl, h⟩ := h
  refine ⟨t_run_end K, PSs.nox (?_), pure_run_end T h⟩
  exact (pss_cons (ps_set (i := 3) sc_run_end.nd rfl (by first | exact Or.inl rfl | exact Or.inr rfl) (pv 1))
      (pss_cons (ps_while PassesOwn.never (PW.pt (pw_and (pt_cmpR op_ltA (pv 3) (pe_callB call_len (by rfl) T.n_len (by decide +kernel) (pa_cons (pv 0) pa_nil)) (nomark _)) (pw_and1 (pt_cmpR (op_inA hr) (pe_ixA hr (pv 0) (pv 3) (fun _ _ => rfl)) (pv 2) (by rfl))))) (pss_one (ps_aug (i := 3) sc_run_end.nd rfl (by first | exact Or.inl rfl | exact Or.inr rfl) pe_int ip_add)))
      (pss_one (ps_ret (pv 3)))))
/-! ### word_end -/
def pr_word_end : V → V → Hp → VK → XK → Prop := fun x y H Q _ => ∃ (row : Str) (a : Nat), x = .str row ∧ y = .int (a : Int) ∧ row.length ≤ 100000 ∧ a < row.length ∧ Q (match wordLen (row.cps.toList.drop a) with | some n => .int ((a + n : Nat) : Int) | none => .int (-1)) H
def sp_word_end (K : PySem.W.Frag) : Sp := Sp2 pr_word_end
def t_word_end (K : PySem.W.Frag) : TS :=
  (tSeq (tIfS (tTest (tOp (rEqA K) (tIxA K (tVar 0) (tVar 1)) (tC (.str "/")))) (tRet (tOp (rAddA K) (tVar 1) (tC (.int 1)))) tNext)
  (tSeq (tIfS (tTest (tOp (rInA K false) (tIxA K (tVar 0) (tVar 1)) (tC (.str "abcdefghijklmnopqrstuvwxyz")))) (tSeq (tAsg (tCall (sp_run_end K) [] E0 (tCons (tVar 0) (tCons (tVar 1) (tCons (tC (.str "abcdefghijklmnopqrstuvwxyz")) tNil)))) (gName 2))
  (tRet (tIf (tTest (tOp rLeA (tOp rSubI (tVar 2) (tVar 1)) (tC (.int 8)))) (tVar 2) (tUn rNegI (tC (.int 1)))))) tNext)
  (tSeq (tAsg (tCall (sp_run_end K) [] E0 (tCons (tVar 0) (tCons (tVar 1) (tCons (tC (.str "0123456789")) tNil)))) (gName 2))
  (tRet (tIf (tAnd (tTest (tChain rLtA rLeA (tC (.int 0)) (tOp rSubI (tVar 2) (tVar 1)) (tC (.int 12)))) (tOr (tTest (tOp (rNeA K) (tIxA K (tVar 0) (tVar 1)) (tC (.str "0")))) (tTest (tOp (rEqA K) (tOp rSubI (tVar 2) (tVar 1)) (tC (.int 1)))))) (tVar 2) (tUn rNegI (tC (.int 1))))))))
theorem pure_word_end (T : Txt K mg) {a b : V} {H : Hp} {Q : VK} {E : XK} (h : pr_word_end a b H Q E) : t_word_end K { nx := fun _ H' => Q .non H', rt := Q } [some a, some b, none] H := by
  obtain ⟨row, a, rfl, rfl, hl, ha, k⟩ := h
  obtain ⟨c, h3, hd⟩ := at_drop ha
  rw [hd] at k
  have e8 : ("/" : Str) = ⟨#[47]⟩ := by decide +kernel
  have e0 : ("0" : Str) = ⟨#[48]⟩ := by decide +kernel
  unfold wordLen at k
  unfold t_word_end
  walk_at "w"
  refine st_ix_str (by omega) h3 ?_
  walk_at "w"
  rw [sign_dec e8]
  refine ite2 (fun h1 => ?_) (fun h1 => ?_)
  · have hc := of_decide_eq_true h1
    dsimp only at k
    rw [if_pos hc] at k
    walk_at "w"
    exact k
  · have hc : c ≠ 47 := fun e => h1 (decide_eq_true e)
    dsimp only at k
    rw [if_neg hc] at k
    walk_at "w"
    refine st_ix_str (by omega) h3 ?_
    walk_at "w"
    refine ite2 (fun h1 => ?_) (fun h1 => ?_)
    · have hL : c ∈ LET := of_decide_eq_true h1
      rw [if_pos hL] at k
      walk_at "w"
      refine ⟨_, _, _, rfl, row, LETs, a, rfl, rfl, rfl, hl, by omega, ?_⟩
      walk_at "w"
      rw [hd]
      generalize runLen LET (c :: row.cps.toList.drop (a + 1)) = n at *
      refine ite2 (fun h2 => ?_) (fun h2 => ?_)
      · have h3 := of_decide_eq_true h2
        rw [if_pos (by omega)] at k
        walk_at "w"
        exact k
      · have h3 : ¬ n ≤ 8 := fun z => h2 (decide_eq_true (by omega))
        rw [if_neg h3] at k
        walk_at "w"
        exact ⟨1, rfl, k⟩
    · have hL : c ∉ LET := fun z => h1 (decide_eq_true z)
      rw [if_neg hL] at k
      walk_at "w"
      refine ⟨_, _, _, rfl, row, FIGs, a, rfl, rfl, rfl, hl, by omega, ?_⟩
      walk_at "w"
      rw [hd]
      generalize runLen FIG (c :: row.cps.toList.drop (a + 1)) = n at *
      have no : ¬ (0 < n ∧ n ≤ 12 ∧ (c ≠ 48 ∨ n = 1)) → Q (.int (-1)) H := fun z => by
        rw [if_neg z] at k
        exact k
      refine ite2 (fun h2 => ?_) (fun h2 => ?_)
      · have h4 : 0 < n := by have := of_decide_eq_true h2; omega
        walk_at "w"
        refine ite2 (fun h5 => ?_) (fun h5 => ?_)
        · have h6 : n ≤ 12 := by have := of_decide_eq_true h5; omega
          walk_at "w"
          refine st_ix_str (by omega) h3 ?_
          walk_at "w"
          rw [sign_dec e0]
          refine ite2 (fun h7 => ?_) (fun h7 => ?_)
          · have h8 : c ≠ 48 := by simpa using h7
            rw [if_pos ⟨h4, h6, .inl h8⟩] at k
            walk_at "w"
            exact k
          · have h8 : c = 48 := by simpa using h7
            walk_at "w"
            refine ite2 (fun h9 => ?_) (fun h9 => ?_)
            · have h10 : n = 1 := by have := of_decide_eq_true h9; omega
              rw [if_pos ⟨h4, h6, .inr h10⟩] at k
              walk_at "w"
              exact k
            · have h10 : ¬ n = 1 := fun z => h9 (decide_eq_true (by omega))
              walk_at "w"
              exact ⟨1, rfl, no (by omega)⟩
        · have h6 : ¬ n ≤ 12 := fun z => h5 (decide_eq_true (by omega))
          walk_at "w"
          exact ⟨1, rfl, no (by omega)⟩
      · have h4 : ¬ 0 < n := fun z => h2 (decide_eq_true (by omega))
        walk_at "w"
        exact ⟨1, rfl, no (by omega)⟩
theorem ok_word_end (T : Txt K mg) (c_run_end : Kp P w K mg base CX0 1 "run_end" ["row", "at", "signs"] (sp_run_end K)) : Kp P w K mg base CX0 2 "word_end" ["row", "at"] (sp_word_end K) := by
  obtain ⟨fd, F⟩ := T.c.def_ 6 (d := d_word_end) rfl
  refine ⟨⟨_, fd, T.g_word_end, F.kp, F.bindsN fun _ _ _ _ _ _ us hl => match us, hl with | [_, _], _ => rfl, F.ok sc_word_end Sp2.len (fun cdv A outer s H vs Q E hr h => ?_)⟩⟩
  obtain ⟨v0, v1, rfl, h⟩ := h
  refine ⟨t_word_end K, PSs.nox (?_), pure_word_end T h⟩
  exact (pss_cons (ps_if (pt_cmpR (op_eqA hr) (pe_ixA hr (pv 0) (pv 1) (fun _ _ => rfl)) pe_str (nomark _)) (pss_one (ps_ret (pe_op op_addA (pv 1) pe_int))) pss_nil)
      (pss_cons (ps_if (pt_cmpR (op_inA hr) (pe_ixA hr (pv 0) (pv 1) (fun _ _ => rfl)) (pe_gs rfl T.g_LETTERS) (by rfl)) (pss_cons (ps_set (i := 2) sc_word_end.nd rfl (by first | exact Or.inl rfl | exact Or.inr rfl) (pe_cK c_run_end (hr.mono (by decide)) rfl (pa_cons (pv 0) (pa_cons (pv 1) (pa_cons (pe_gs rfl T.g_LETTERS) pa_nil)))))
      (pss_one (ps_ret (pe_ifExp (pt_cmpR op_leA (pe_op op_sub (pv 2) (pv 1)) (pe_gi rfl T.g_MOST_LETTERS) (nomark _)) (pv 2) (pe_un un_neg pe_int))))) pss_nil)
      (pss_cons (ps_set (i := 2) sc_word_end.nd rfl (by first | exact Or.inl rfl | exact Or.inr rfl) (pe_cK c_run_end (hr.mono (by decide)) rfl (pa_cons (pv 0) (pa_cons (pv 1) (pa_cons (pe_gs rfl T.g_FIGURES) pa_nil)))))
      (pss_one (ps_ret (pe_ifExp (PW.pt (pw_and (pt_chain op_ltA op_leA pe_int (pe_op op_sub (pv 2) (pv 1)) (pe_gi rfl T.g_MOST_FIGURES)) (pw_and1 (PW.pt (pw_or (pt_cmpR (op_neA hr) (pe_ixA hr (pv 0) (pv 1) (fun _ _ => rfl)) pe_str (nomark _)) (pw_or1 (pt_cmpR (op_eqA hr) (pe_op op_sub (pv 2) (pv 1)) pe_int (nomark _)))))))) (pv 2) (pe_un un_neg pe_int)))))))
/-! ### the errors -/
def sp_BadSign___init__ (K : PySem.W.Frag) : Sp := Sp2 (pr_init K "BadSign" "spot")
def sp_BadText___init__ (K : PySem.W.Frag) : Sp := Sp2 (pr_init K "BadText" "spot")
def sp_BadFacts___init__ (K : PySem.W.Frag) : Sp := Sp2 (pr_init K "BadFacts" "facts")
def sp_NoOne___init__ (K : PySem.W.Frag) : Sp := Sp2 (pr_init K "NoOne" "name")
def sp_Alive___init__ (K : PySem.W.Frag) : Sp := Sp2 (pr_init K "Alive" "name")
def t_BadSign___init__ (K : PySem.W.Frag) : TS :=
  (tOst K "spot" (tVar 0) (tVar 1))
def t_BadText___init__ (K : PySem.W.Frag) : TS :=
  (tOst K "spot" (tVar 0) (tVar 1))
def t_BadFacts___init__ (K : PySem.W.Frag) : TS :=
  (tOst K "facts" (tVar 0) (tVar 1))
def t_NoOne___init__ (K : PySem.W.Frag) : TS :=
  (tOst K "name" (tVar 0) (tVar 1))
def t_Alive___init__ (K : PySem.W.Frag) : TS :=
  (tOst K "name" (tVar 0) (tVar 1))
theorem pure_init {C f : Str} (o : oexB K C = true) (no : PySem.W.findIn K (.ref (He.ga K C)) f = some none) {a b : V} {H : Hp} {Q : VK} {E : XK} (h : pr_init K C f a b H Q E) :
    tOst K f (tVar 0) (tVar 1) { nx := fun _ H' => Q .non H', rt := Q } [some a, some b] H := by
  obtain ⟨x, rfl, hx, k⟩ := h
  exact ⟨_, rfl, _, rfl, x, _, rfl, (oexA_of o).o, no, .inl ⟨hx, k⟩⟩
theorem pure_BadSign___init__ (T : Txt K mg) {a b : V} {H : Hp} {Q : VK} {E : XK} (h : pr_init K "BadSign" "spot" a b H Q E) : t_BadSign___init__ K { nx := fun _ H' => Q .non H', rt := Q } [some a, some b] H := pure_init T.oex_BadSign (He.eqO_ok T.ex_0) h
theorem pure_BadText___init__ (T : Txt K mg) {a b : V} {H : Hp} {Q : VK} {E : XK} (h : pr_init K "BadText" "spot" a b H Q E) : t_BadText___init__ K { nx := fun _ H' => Q .non H', rt := Q } [some a, some b] H := pure_init T.oex_BadText (He.eqO_ok T.ex_1) h
theorem pure_BadFacts___init__ (T : Txt K mg) {a b : V} {H : Hp} {Q : VK} {E : XK} (h : pr_init K "BadFacts" "facts" a b H Q E) : t_BadFacts___init__ K { nx := fun _ H' => Q .non H', rt := Q } [some a, some b] H := pure_init T.oex_BadFacts (He.eqO_ok T.ex_2) h
theorem pure_NoOne___init__ (T : Txt K mg) {a b : V} {H : Hp} {Q : VK} {E : XK} (h : pr_init K "NoOne" "name" a b H Q E) : t_NoOne___init__ K { nx := fun _ H' => Q .non H', rt := Q } [some a, some b] H := pure_init T.oex_NoOne (He.eqO_ok T.ex_3) h
theorem pure_Alive___init__ (T : Txt K mg) {a b : V} {H : Hp} {Q : VK} {E : XK} (h : pr_init K "Alive" "name" a b H Q E) : t_Alive___init__ K { nx := fun _ H' => Q .non H', rt := Q } [some a, some b] H := pure_init T.oex_Alive (He.eqO_ok T.ex_4) h
theorem ok_BadSign___init__ (T : Txt K mg)  : Kf P w K mg base CX0 1 (He.ma K (He.ga K "BadSign") "__init__") ["self", "spot"] (sp_BadSign___init__ K) := by
  obtain ⟨fd, F⟩ := T.c.def_ 0 (d := d_BadSign___init__) rfl
  refine ⟨⟨fd, F.kp, F.bindsN fun _ _ _ _ _ _ us hl => match us, hl with | [_, _], _ => rfl, F.ok sc_BadSign___init__ Sp2.len (fun cdv A outer s H vs Q E hr h => ?_)⟩⟩
  obtain ⟨v0, v1, rfl, h⟩ := h
  refine ⟨t_BadSign___init__ K, PSs.nox (?_), pure_BadSign___init__ T h⟩
  exact (pss_one (ps_ost (pv 0) (pv 1)))
theorem ok_BadText___init__ (T : Txt K mg)  : Kf P w K mg base CX0 1 (He.ma K (He.ga K "BadText") "__init__") ["self", "spot"] (sp_BadText___init__ K) := by
  obtain ⟨fd, F⟩ := T.c.def_ 1 (d := d_BadText___init__) rfl
  refine ⟨⟨fd, F.kp, F.bindsN fun _ _ _ _ _ _ us hl => match us, hl with | [_, _], _ => rfl, F.ok sc_BadText___init__ Sp2.len (fun cdv A outer s H vs Q E hr h => ?_)⟩⟩
  obtain ⟨v0, v1, rfl, h⟩ := h
  refine ⟨t_BadText___init__ K, PSs.nox (?_), pure_BadText___init__ T h⟩
  exact (pss_one (ps_ost (pv 0) (pv 1)))
theorem ok_BadFacts___init__ (T : Txt K mg)  : Kf P w K mg base CX0 1 (He.ma K (He.ga K "BadFacts") "__init__") ["self", "facts"] (sp_BadFacts___init__ K) := by
  obtain ⟨fd, F⟩ := T.c.def_ 2 (d := d_BadFacts___init__) rfl
  refine ⟨⟨fd, F.kp, F.bindsN fun _ _ _ _ _ _ us hl => match us, hl with | [_, _], _ => rfl, F.ok sc_BadFacts___init__ Sp2.len (fun cdv A outer s H vs Q E hr h => ?_)⟩⟩
  obtain ⟨v0, v1, rfl, h⟩ := h
  refine ⟨t_BadFacts___init__ K, PSs.nox (?_), pure_BadFacts___init__ T h⟩
  exact (pss_one (ps_ost (pv 0) (pv 1)))
theorem ok_NoOne___init__ (T : Txt K mg)  : Kf P w K mg base CX0 1 (He.ma K (He.ga K "NoOne") "__init__") ["self", "name"] (sp_NoOne___init__ K) := by
  obtain ⟨fd, F⟩ := T.c.def_ 3 (d := d_NoOne___init__) rfl
  refine ⟨⟨fd, F.kp, F.bindsN fun _ _ _ _ _ _ us hl => match us, hl with | [_, _], _ => rfl, F.ok sc_NoOne___init__ Sp2.len (fun cdv A outer s H vs Q E hr h => ?_)⟩⟩
  obtain ⟨v0, v1, rfl, h⟩ := h
  refine ⟨t_NoOne___init__ K, PSs.nox (?_), pure_NoOne___init__ T h⟩
  exact (pss_one (ps_ost (pv 0) (pv 1)))
theorem ok_Alive___init__ (T : Txt K mg)  : Kf P w K mg base CX0 1 (He.ma K (He.ga K "Alive") "__init__") ["self", "name"] (sp_Alive___init__ K) := by
  obtain ⟨fd, F⟩ := T.c.def_ 4 (d := d_Alive___init__) rfl
  refine ⟨⟨fd, F.kp, F.bindsN fun _ _ _ _ _ _ us hl => match us, hl with | [_, _], _ => rfl, F.ok sc_Alive___init__ Sp2.len (fun cdv A outer s H vs Q E hr h => ?_)⟩⟩
  obtain ⟨v0, v1, rfl, h⟩ := h
  refine ⟨t_Alive___init__ K, PSs.nox (?_), pure_Alive___init__ T h⟩
  exact (pss_one (ps_ost (pv 0) (pv 1)))
/-! ### row_words -/
def pr_row_words (K : PySem.W.Frag) : V → V → Hp → VK → XK → Prop := fun x y H Q E => ∃ (row : Str) (b : Nat), x = .str row ∧ y = .int (b : Int) ∧ row.length ≤ 100000 ∧
  match rowScan b [] row.cps.toList with
  | .ok ws => ∀ p H', Same H H' → H p = none → H' p = some (.lst (ws.map txt)) → Q (.ref p) H'
  | .error e => RaisedI K "BadSign" "spot" (.int (e : Int)) H E
def sp_row_words (K : PySem.W.Frag) : Sp := Sp2 (pr_row_words K)
def t_row_words (K : PySem.W.Frag) (E : XK) : TS :=
  (tSeq (tAsg (tLst tNil) (gName 2))
  (tSeq (tAsg (tC (.int 0)) (gName 3))
  (tSeq (tWhile (tTest (tOp rLtA (tVar 3) (tCB (rLenA K) (tCons (tVar 0) tNil)))) (tSeq (tIfS (tTest (tOp (rEqA K) (tIxA K (tVar 0) (tVar 3)) (tC (.str " ")))) (tSeq (tAug 3 (tC (.int 1)) (ipI fun i j => i + j))
  tCont) tNext)
  (tSeq (tAsg (tCall (sp_word_end K) [] E0 (tCons (tVar 0) (tCons (tVar 3) tNil))) (gName 4))
  (tSeq (tIfS (tTest (tOp rLtA (tVar 4) (tC (.int 0)))) (tRaiseX (He.ga K "BadSign") (sp_BadSign___init__ K) (fun cls d _ H => E cls d H) (tCons (tOp (rAddA K) (tVar 1) (tVar 3)) tNil)) tNext)
  (tSeq (tDrop (tBM K "list" rAppend (tVar 2) (tCons (tSl (rSlA K) (tVar 0) (tPart (tVar 3)) (tPart (tVar 4))) tNil)))
  (tAsg (tVar 4) (gName 3)))))))
  (tRet (tVar 2)))))
theorem rowScan_len : ∀ (n : Nat) (l : List Nat), l.length ≤ n → ∀ b cur ws, rowScan b cur l = .ok ws → ws.length ≤ cur.length + l.length := by
  intro n
  induction n with
  | zero =>
    intro l hl b cur ws h
    cases l with
    | nil => rw [rowScan_nil] at h; cases h; simp
    | cons => simp at hl
  | succ n ih =>
    intro l hl b cur ws h
    cases l with
    | nil => rw [rowScan_nil] at h; cases h; simp
    | cons c t =>
      simp only [List.length_cons] at hl
      by_cases hc : c = 32
      · subst hc
        rw [rowScan_blank] at h
        have := ih t (by omega) _ _ _ h
        simp only [List.length_cons]; omega
      · cases hw : wordLen (c :: t) with
        | none => rw [rowScan_bad hc hw] at h; cases h
        | some m =>
          have hm := wordLen_le hw
          rw [rowScan_word hc hw] at h
          simp only [List.length_cons] at hm
          have := ih _ (by simp only [List.length_drop, List.length_cons]; omega) _ _ _ h
          simp only [List.length_drop, List.length_cons, List.length_append, List.length_nil] at *
          omega
theorem pure_row_words (T : Txt K mg) {x y : V} {H : Hp} {Q : VK} {E : XK} (h : pr_row_words K x y H Q E) : t_row_words K E { nx := fun _ H' => Q .non H', rt := Q } [some x, some y, none, none, none] H := by
  obtain ⟨row, b, rfl, rfl, hl, k⟩ := h
  have e32 : (" " : Str) = ⟨#[32]⟩ := by decide +kernel
  unfold t_row_words
  walk_at "w"
  refine ⟨Nat.zero_le _, fun p hp => ?_⟩
  walk_at "w"
  refine ⟨fun m σ H' => ∃ (a : Nat) (ws : List (List Nat)) (v : Option V), m = row.length - a ∧ a ≤ row.length ∧ ws.length ≤ a ∧ σ = [some (.str row), some (.int (b : Int)), some (.ref p), some (.int (a : Int)), v] ∧ Same H H' ∧ H' p = some (.lst (ws.map txt)) ∧
    rowScan b [] row.cps.toList = rowScan (b + a) ws (row.cps.toList.drop a), ⟨_, 0, [], none, rfl, Nat.zero_le _, Nat.zero_le _, rfl, same_new hp, upd_same, rfl⟩, ?_⟩
  rintro m σ H' ⟨a, ws, v, rfl, ha, hws, rfl, hs, hL, hr⟩
  walk_at "w"
  refine st_len_str (by omega) ?_
  walk_at "w"
  refine ite2 (fun h1 => ?_) (fun h1 => ?_)
  · have h2 : a < row.length := by have := of_decide_eq_true h1; omega
    obtain ⟨c, h3, hd⟩ := at_drop h2
    refine ⟨_, fun _ _ z => z, ?_⟩
    walk_at "w"
    refine st_ix_str (by omega) h3 ?_
    walk_at "w"
    rw [sign_dec e32]
    rw [hd] at hr
    refine ite2 (fun hc => ?_) (fun hc => ?_)
    · have hc := of_decide_eq_true hc
      subst hc
      walk_at "w"
      exact ⟨row.length - (a + 1), by omega, a + 1, ws, v, rfl, by omega, by omega, rfl, hs, hL, by rw [hr, rowScan_blank]; rfl⟩
    · have hc : c ≠ 32 := fun z => hc (decide_eq_true z)
      walk_at "w"
      refine ⟨_, _, rfl, row, a, rfl, rfl, hl, h2, ?_⟩
      rw [hd]
      cases hw : wordLen (c :: row.cps.toList.drop (a + 1)) with
      | none =>
        rw [rowScan_bad hc hw] at hr
        rw [hr] at k
        dsimp only
        walk_at "w"
        refine ite2 (fun _ => ?_) (fun z => absurd (by decide) z)
        walk_at "w"
        exact raise_ok k hs
      | some n =>
        have hn := wordLen_le hw
        have hn2 : n ≤ row.length - a := by
          have := congrArg List.length hd
          rw [List.length_drop, len_toList] at this
          rw [← this] at hn
          omega
        rw [rowScan_word hc hw] at hr
        dsimp only
        walk_at "w"
        refine ite2 (fun z => absurd (of_decide_eq_true z) (by omega)) (fun _ => ?_)
        walk_at "w"
        refine ⟨.inl ⟨rfl, _, SqL.of hL⟩, ?_⟩
        walk_at "w"
        refine st_slice_str (by omega) ?_
        walk_at "w"
        refine ⟨p, _, _, rfl, rfl, hL, small_lt _ (by rw [List.length_map]; omega), ?_⟩
        walk_at "w"
        refine ⟨row.length - (a + n), by omega, a + n, ws ++ [(c :: row.cps.toList.drop (a + 1)).take n], _, rfl, by omega, by rw [List.length_append, List.length_singleton]; omega, rfl, Same.mut hs hp, ?_, ?_⟩
        · rw [upd_same, List.map_append]
          congr 3
          show [V.str (cutS row (some (a : Int)) (some ((a + n : Nat) : Int)))] = [V.str _]
          congr 2
          rw [cutS_nat (by omega) (by omega), hd]
          congr 2
          omega
        · rw [hr, ← hd, List.drop_drop]
          congr 1
          omega
  · have h2 : ¬ a < row.length := by intro z; exact h1 (decide_eq_true (by omega))
    walk_at "w"
    rw [List.drop_eq_nil_of_le (by rw [len_toList]; omega), rowScan_nil] at hr
    rw [hr] at k
    exact k p H' hs hp hL
theorem ok_row_words (T : Txt K mg) (c_word_end : Kp P w K mg base CX0 2 "word_end" ["row", "at"] (sp_word_end K)) (x_BadSign : Kx P w K mg base 1 "BadSign" ["self", "spot"] (sp_BadSign___init__ K)) : Kp P w K mg base (L2.CX P w) 3 "row_words" ["row", "begin"] (sp_row_words K) := by
  obtain ⟨fd, F⟩ := T.c.def_ 7 (d := d_row_words) rfl
  refine ⟨⟨_, fd, T.g_row_words, F.kp, F.bindsN fun _ _ _ _ _ _ us hl => match us, hl with | [_, _], _ => rfl, F.ok sc_row_words Sp2.len (fun cdv A outer s H vs Q E hr h => ?_)⟩⟩
  obtain ⟨v0, v1, rfl, h⟩ := h
  refine ⟨t_row_words K E, ?_, pure_row_words T h⟩
  exact (pss_cons (ps_set (i := 2) sc_row_words.nd rfl (by first | exact Or.inl rfl | exact Or.inr rfl) (pe_lst pa_nil))
      (pss_cons (ps_set (i := 3) sc_row_words.nd rfl (by first | exact Or.inl rfl | exact Or.inr rfl) pe_int)
      (pss_cons (ps_while (passes_of rfl) (pt_cmpR op_ltA (pv 3) (pe_callB call_len (by rfl) T.n_len (by decide +kernel) (pa_cons (pv 0) pa_nil)) (nomark _)) (pss_cons (ps_if (pt_cmpR (op_eqA hr) (pe_ixA hr (pv 0) (pv 3) (fun _ _ => rfl)) pe_str (nomark _)) (pss_cons (ps_aug (i := 3) sc_row_words.nd rfl (by first | exact Or.inl rfl | exact Or.inr rfl) pe_int ip_add)
      (pss_one ps_continue)) pss_nil)
      (pss_cons (ps_set (i := 4) sc_row_words.nd rfl (by first | exact Or.inl rfl | exact Or.inr rfl) (pe_cK c_word_end (hr.mono (by decide)) rfl (pa_cons (pv 0) (pa_cons (pv 3) pa_nil))))
      (pss_cons (ps_if (pt_cmpR op_ltA (pv 4) pe_int (nomark _)) (pss_one (ps_raise rfl (takes_of rfl rfl rfl rfl) (pmk_X x_BadSign (hr.mono (by decide)) rfl (pa_cons (pe_op op_addA (pv 1) (pv 3)) pa_nil)))) pss_nil)
      (pss_cons (ps_expr (pe_bm PySem.F.plainAttrs_list PySem.F.slot_list_append PySem.F.type_list_append mt_append (pv 2) (pa_cons (pe_slice sl_A (pv 0) (po_some (pv 3)) (po_some (pv 4))) pa_nil)))
      (pss_one (ps_set (i := 3) sc_row_words.nd rfl (by first | exact Or.inl rfl | exact Or.inr rfl) (pv 4))))))))
      (pss_one (ps_ret (pv 2))))))
/-! ### text_words -/
/-- at p a new list of new lists of texts -/
structure RowsAt (H H' : Hp) (p : Addr) (rows : List (List (List Nat))) : Prop where
  ex : ∃ ps : List Addr, H' p = some (.lst (ps.map V.ref)) ∧ H p = none ∧ (∀ q ∈ ps, H q = none) ∧ (p :: ps).Nodup ∧ Paired (fun q ws => H' q = some (.lst ((ws : List (List Nat)).map txt))) ps rows
def pr_text_words (K : PySem.W.Frag) : V → Hp → VK → XK → Prop := fun x H Q E =>
  (∃ z : Str, x = .str z ∧ z.length ≤ 100000 ∧ if z.length ≤ 8000 then (match scan 0 [] [] z.cps.toList with
    | .ok rows => ∀ p H', Same H H' → RowsAt H H' p rows → Q (.ref p) H'
    | .error e => RaisedI K "BadSign" "spot" (.int (e : Int)) H E) else RaisedI K "BadSign" "spot" (.int 0) H E) ∨
  (∃ t, TyX K H x t ∧ PySem.W.kitOne K t (.type "str") = some false ∧ RaisedI K "BadSign" "spot" (.int 0) H E)
def sp_text_words (K : PySem.W.Frag) : Sp := Sp1 (pr_text_words K)
def t_text_words (K : PySem.W.Frag) (E : XK) : TS :=
  (tSeq (tIfS (tOr (tNot (tB (tCB (rIsA K) (tCons (tVar 0) (tCons (tC (.ty "str")) tNil))))) (tTest (tOp rGtA (tCB (rLenA K) (tCons (tVar 0) tNil)) (tC (.int 8000))))) (tRaiseX (He.ga K "BadSign") (sp_BadSign___init__ K) (fun cls d _ H => E cls d H) (tCons (tC (.int 0)) tNil)) tNext)
  (tSeq (tAsg (tLst tNil) (gName 1))
  (tSeq (tAsg (tC (.int 0)) (gName 2))
  (tSeq (tFor (iA K (tM1 rSplitA (tVar 0) (tC (.str "\n")))) (gName 3) (tSeq (tDrop (tBM K "list" rAppend (tVar 1) (tCons (tCallS (sp_row_words K) (WE (fun cls d _ H => E cls d H)) (tCons (tVar 3) (tCons (tVar 2) tNil))) tNil)))
  (tAug 2 (tOp (rAddA K) (tCB (rLenA K) (tCons (tVar 3) tNil)) (tC (.int 1))) (ipI fun i j => i + j))))
  (tRet (tVar 1))))))
theorem rowsScan_app : ∀ (ls : List (List Nat)) (b : Nat) (rows : List (List (List Nat))), rowsScan b rows ls = (rowsScan b [] ls).map (fun r => rows ++ r)
  | [], b, rows => by
    show Except.ok rows = Except.ok (rows ++ [])
    rw [List.append_nil]
  | l :: ls, b, rows => by
    show (rowScan b [] l).bind _ = ((rowScan b [] l).bind _).map _
    cases rowScan b [] l with
    | error e => rfl
    | ok ws =>
      show rowsScan _ (rows ++ [ws]) ls = (rowsScan _ ([] ++ [ws]) ls).map _
      rw [rowsScan_app ls _ (rows ++ [ws]), rowsScan_app ls _ ([] ++ [ws])]
      cases rowsScan (b + l.length + 1) [] ls with
      | error e => rfl
      | ok r => show Except.ok _ = Except.ok _; simp
theorem spl_lens : ∀ (l acc : List Nat) (x : List Nat), x ∈ TL.spl [10] 0 acc l → x.length ≤ acc.length + l.length
  | [], acc, x, h => by
    rw [TL.spl_nil] at h
    have := List.mem_singleton.mp h
    subst this; simp
  | c :: r, acc, x, h => by
    by_cases hc : TL.pre [10] (c :: r) = true
    · rw [TL.spl_hit hc] at h
      rcases List.mem_cons.mp h with e | e
      · subst e; simp
      · have := spl_lens r [] x e
        simp only [List.length_nil, List.length_cons] at *; omega
    · rw [TL.spl_miss (by simpa using hc)] at h
      have := spl_lens r _ x h
      simp only [List.length_append, List.length_cons, List.length_nil] at *; omega
theorem spl_count : ∀ (l acc : List Nat), (TL.spl [10] 0 acc l).length ≤ l.length + 1
  | [], acc => by rw [TL.spl_nil]; simp
  | c :: r, acc => by
    by_cases hc : TL.pre [10] (c :: r) = true
    · rw [TL.spl_hit hc]
      have := spl_count r []
      have h0 : ([10] : List Nat).length - 1 = 0 := rfl
      rw [h0]
      simp only [List.length_cons, List.length_nil] at *; omega
    · rw [TL.spl_miss (by simpa using hc)]
      have := spl_count r (acc ++ [c])
      simp only [List.length_cons] at *; omega
theorem pure_text_words (T : Txt K mg) {x : V} {H : Hp} {Q : VK} {E : XK} (h : pr_text_words K x H Q E) : t_text_words K E { nx := fun _ H' => Q .non H', rt := Q } [some x, none, none, none] H := by
  unfold t_text_words
  rcases h with ⟨z, rfl, hz, k⟩ | ⟨t, ht, kt, k⟩
  · walk_at "w"
    refine st_isi (.ty _) tx_str (kit_ty (r := true) (by decide +kernel)) ?_
    walk_at "w"
    refine st_len_str (by omega) ?_
    walk_at "w"
    refine ite2 (fun h1 => ?_) (fun h1 => ?_)
    · have h2 := of_decide_eq_true h1
      rw [if_neg (by omega)] at k
      walk_at "w"
      exact raise_ok k (Same.refl _)
    · have h2 : z.length ≤ 8000 := by
        have : ¬ (8000 : Int) < z.length := fun e => h1 (decide_eq_true e)
        omega
      rw [if_pos h2] at k
      walk_at "w"
      refine ⟨Nat.zero_le _, fun p hp => ?_⟩
      walk_at "w"
      have e10 : ("\n" : Str) = S [10] := by decide +kernel
      rw [e10]
      refine ⟨z, S [10], rfl, rfl, rfl, Nat.le_trans (by omega : z.length + 2 ≤ 100002) (by decide), fun q hq => ?_⟩
      have hsp : (Txt.split z (S [10])).map TL.tl = lines z.cps.toList := TL.split_spl z (S [10]) (by decide) (TL.kind_ok (by decide +kernel))
      have hqp : q ≠ p := fun e => by rw [e, upd_same] at hq; cases hq
      have hq0 : H q = none := by rw [upd_ne hqp] at hq; exact hq
      generalize Txt.split z (S [10]) = rs at *
      have hcount : rs.length ≤ z.length + 1 := by
        have h3 := congrArg List.length hsp
        rw [List.length_map] at h3
        rw [h3, ← len_toList z]
        exact spl_count _ _
      have hlens : ∀ r ∈ rs, r.length ≤ z.length := fun r hr => by
        have h3 : TL.tl r ∈ lines z.cps.toList := by rw [← hsp]; exact List.mem_map_of_mem hr
        have h4 := spl_lens _ [] _ h3
        rw [← len_toList r, ← len_toList z]
        simpa using h4
      rw [scan_lines _ _ (Nat.le_refl _), ← hsp] at k
      refine .inl ⟨q, rfl, ⟨_, SqL.of upd_same⟩, ?_⟩
      refine for_list (K := K) (a := q) (xs := rs.map V.str) (fun i σ H' => ∃ (ps : List Addr) (ws : List (List (List Nat))) (b : Nat) (v : Option V), σ = [some (.str z), some (.ref p), some (.int (b : Int)), v] ∧
          Same H H' ∧ H' q = some (.lst (rs.map V.str)) ∧ H' p = some (.lst (ps.map V.ref)) ∧ (∀ y ∈ ps, H y = none) ∧ q ∉ ps ∧ (p :: ps).Nodup ∧ Paired (fun y ws => H' y = some (.lst ((ws : List (List Nat)).map txt))) ps ws ∧ ps.length = i ∧
          rowsScan 0 [] (rs.map TL.tl) = rowsScan b ws ((rs.drop i).map TL.tl))
        ⟨[], [], 0, none, rfl, (same_new hp).trans (same_new hq), upd_same, by rw [upd_ne hqp.symm, upd_same]; rfl, (fun _ z => by cases z), (fun z => by cases z), List.nodup_cons.mpr ⟨(fun z => by cases z), List.nodup_nil⟩, Paired.nil, rfl, rfl⟩ (fun i σ H' _ ⟨_, _, _, _, _, _, h, _⟩ => SqL.of h) ?_ ?_
      · rintro i y σ H' hi ⟨ps, ws, b, v, rfl, hs, hQ, hP, hps, hqps, hnd, pr, hlen, hk⟩
        obtain ⟨r, hr, rfl⟩ : ∃ r, rs[i]? = some r ∧ y = .str r := by
          rw [List.getElem?_map] at hi
          cases e : rs[i]? with
          | none => rw [e] at hi; cases hi
          | some r => rw [e] at hi; exact ⟨r, rfl, (Option.some.inj hi).symm⟩
        obtain ⟨hil, hie⟩ := List.getElem?_eq_some_iff.mp hr
        have hrl := hlens r (List.mem_of_getElem? hr)
        have hdrop : (rs.drop i).map TL.tl = r.cps.toList :: (rs.drop (i + 1)).map TL.tl := by
          rw [List.drop_eq_getElem_cons hil, hie]; rfl
        rw [hdrop] at hk
        have hk2 : rowsScan 0 [] (rs.map TL.tl) = (rowScan b [] r.cps.toList).bind fun w => rowsScan (b + r.cps.toList.length + 1) (ws ++ [w]) ((rs.drop (i + 1)).map TL.tl) := hk
        walk_at "w"
        refine ⟨.inl ⟨rfl, _, SqL.of hP⟩, ?_⟩
        walk_at "w"
        refine ⟨_, _, rfl, r, b, rfl, rfl, by omega, ?_⟩
        cases hrow : rowScan b [] r.cps.toList with
        | error e =>
          rw [hrow] at hk2
          have hk3 : rowsScan 0 [] (rs.map TL.tl) = .error e := hk2
          rw [hk3] at k
          exact fun d H'' s0 hd hx => k d H'' (hs.trans s0) (hs.free hd) hx
        | ok w =>
          rw [hrow] at hk2
          have hk3 : rowsScan 0 [] (rs.map TL.tl) = rowsScan (b + r.cps.toList.length + 1) (ws ++ [w]) ((rs.drop (i + 1)).map TL.tl) := hk2
          intro l H'' s2 hl hL
          have hlp : l ≠ p := fun e => by rw [e, hP] at hl; cases hl
          have hlq : l ≠ q := fun e => by rw [e, hQ] at hl; cases hl
          have hlps : l ∉ ps := fun hm => by
            obtain ⟨j, hj⟩ := List.getElem?_of_mem hm
            obtain ⟨ww, _, e⟩ := pget pr hj
            rw [hl] at e; cases e
          refine ⟨p, _, _, rfl, rfl, s2 _ _ hP, small_lt _ (by rw [List.length_map]; omega), ?_⟩
          walk_at "w"
          refine st_len_str (by omega) ?_
          walk_at "w"
          have e5 : ((b : Int) + ((r.length : Int) + 1)) = ((b + r.cps.toList.length + 1 : Nat) : Int) := by rw [len_toList]; omega
          refine ⟨ps ++ [l], ws ++ [w], b + r.cps.toList.length + 1, some (.str r), by rw [e5]; rfl, Same.mut (hs.trans s2) hp, ?_, ?_, ?_, ?_, ?_, ?_, ?_, hk3⟩
          · rw [upd_ne hqp]; exact s2 _ _ hQ
          · rw [upd_same, List.map_append]; rfl
          · intro y hy
            rcases List.mem_append.mp hy with h1 | h1
            · exact hps y h1
            · rw [List.mem_singleton.mp h1]; exact hs.free hl
          · intro hm
            rcases List.mem_append.mp hm with h1 | h1
            · exact hqps h1
            · exact hlq (List.mem_singleton.mp h1).symm
          · rw [← List.cons_append]
            refine List.nodup_append.mpr ⟨hnd, by simp, fun y hy u hu e => ?_⟩
            rw [List.mem_singleton.mp hu] at e
            subst e
            rcases List.mem_cons.mp hy with h1 | h1
            · exact hlp h1
            · exact hlps h1
          · have np : ∀ y ∈ ps, y ≠ p := fun y hy e => by
              rw [e] at hy
              exact (List.nodup_cons.mp hnd).1 hy
            refine paired_snoc (paired_mem pr fun y w hy e => ?_) ?_
            · rw [upd_ne (np y hy)]; exact s2 _ _ e
            · rw [upd_ne hlp]; exact hL
          · rw [List.length_append, hlen]; rfl
      · rintro σ H' ⟨ps, ws, b, v, rfl, hs, hQ, hP, hps, hqps, hnd, pr, hlen, hk⟩
        rw [List.length_map, List.drop_length] at hk
        have hk3 : rowsScan 0 [] (rs.map TL.tl) = .ok ws := hk
        rw [hk3] at k
        walk_at "w"
        exact k p H' hs ⟨ps, hP, hp, hps, hnd, pr⟩
  · walk_at "w"
    refine st_isi (.ty _) ht kt ?_
    walk_at "w"
    exact raise_ok k (Same.refl _)
theorem ok_text_words (T : Txt K mg) (c_row_words : Kp P w K mg base (L2.CX P w) 3 "row_words" ["row", "begin"] (sp_row_words K)) (x_BadSign : Kx P w K mg base 1 "BadSign" ["self", "spot"] (sp_BadSign___init__ K)) : Kp P w K mg base (L2.CX P w) 4 "text_words" ["text"] (sp_text_words K) := by
  obtain ⟨fd, F⟩ := T.c.def_ 8 (d := d_text_words) rfl
  refine ⟨⟨_, fd, T.g_text_words, F.kp, F.bindsN fun _ _ _ _ _ _ us hl => match us, hl with | [_], _ => rfl, F.ok sc_text_words Sp1.len (fun cdv A outer s H vs Q E hr h => ?_)⟩⟩
  obtain ⟨v0, rfl, h⟩ := h
  refine ⟨t_text_words K E, ?_, pure_text_words T h⟩
  exact (pss_cons (ps_if (PW.pt (pw_or (pt_not (pt_val (pe_callB call_isA (by rfl) T.n_isinstance (by decide +kernel) (pa_cons (pv 0) (pa_cons (pe_bltn (v := .ty "str") (by rfl) T.n_str (by decide +kernel) rfl) pa_nil))))) (pw_or1 (pt_cmpR op_gtA (pe_callB call_len (by rfl) T.n_len (by decide +kernel) (pa_cons (pv 0) pa_nil)) (pe_gi rfl T.g_MOST_SIGNS) (nomark _))))) (pss_one (ps_raise rfl (takes_of rfl rfl rfl rfl) (pmk_X x_BadSign (hr.mono (by decide)) rfl (pa_cons pe_int pa_nil)))) pss_nil)
      (pss_cons (ps_set (i := 1) sc_text_words.nd rfl (by first | exact Or.inl rfl | exact Or.inr rfl) (pe_lst pa_nil))
      (pss_cons (ps_set (i := 2) sc_text_words.nd rfl (by first | exact Or.inl rfl | exact Or.inr rfl) pe_int)
      (pss_cons (ps_for (passes_of rfl) rfl (pi_A (pe_split (pv 0) pe_str)) (pg_name (i := 3) sc_text_words.nd rfl (by first | exact Or.inl rfl | exact Or.inr rfl)) (pss_cons (ps_expr (pe_bm PySem.F.plainAttrs_list PySem.F.slot_list_append PySem.F.type_list_append mt_append (pv 1) (pa_cons (pe_cKX c_row_words (hr.mono (by decide)) rfl (takes_of rfl rfl rfl rfl) (pa_cons (pv 3) (pa_cons (pv 2) pa_nil))) pa_nil)))
      (pss_one (ps_aug (i := 2) sc_text_words.nd rfl (by first | exact Or.inl rfl | exact Or.inr rfl) (pe_op op_addA (pe_callB call_len (by rfl) T.n_len (by decide +kernel) (pa_cons (pv 3) pa_nil)) pe_int) ip_add))))
      (pss_one (ps_ret (pv 1)))))))
end
end K01
set_option Elab.async false
set_option linter.all false
set_option maxRecDepth 100000
set_option maxHeartbeats 4000000
/-! What the laws' own helpers share: the state of the draws. -/
namespace My
open PySem PySem.Spec PyProof.Rows L2
/-- all but st stays -/
def SB (st : Addr) (H H' : Hp) : Prop := ∀ b o, b ≠ st → H b = some o → H' b = some o
theorem SB.refl (st : Addr) (H : Hp) : SB st H H := fun _ _ _ h => h
theorem SB.trans {st : Addr} {H H1 H2 : Hp} (a : SB st H H1) (b : SB st H1 H2) : SB st H H2 := fun c o n h => b c o n (a c o n h)
theorem Same.sb {st : Addr} {H H' : Hp} (s : Same H H') : SB st H H' := fun b o _ h => s b o h
theorem SB.mut {st p : Addr} {H H' : Hp} {o : HO} (s : SB st H H') (h : H p = none) : SB st H (upd H' p o) := fun b u n e => by rw [upd_ne (ne_of_none e h)]; exact s b u n e
theorem SB.free {st : Addr} {H H' : Hp} (s : SB st H H') {l : Addr} (n : l ≠ st) (h : H' l = none) : H l = none := by
  cases q : H l with
  | none => rfl
  | some o =>
    rw [s l o n q] at h
    cases h
theorem SB.sqL {K : PySem.W.Frag} {st : Addr} {H H' : Hp} {a : Addr} {xs : List V} (s : SB st H H') (n : a ≠ st ∨ ∀ H', SqL K H' a xs) (h : SqL K H a xs) : SqL K H' a xs := by
  rcases n with n | n
  rotate_left
  · exact n H'
  rcases h with (h | ⟨o, h⟩) | h
  · exact .inl (.inl (s _ _ n h))
  · exact .inl (.inr ⟨o, s _ _ n h⟩)
  · exact .inr h
def stK (a : Addr) (k : Int) : List (Key × V) := [(Sum.inr "cells", .ref a), (Sum.inr "at", .int k)]
/-- at st the state of the draws: the cells ns (at a), k drawn so far, k at most m -/
structure LS (K : PySem.W.Frag) (H : Hp) (st : Addr) (ns : List Int) (m : Int) : Prop where
  ex : ∃ (a : Addr) (k : Int), H st = some (.dK (stK a k)) ∧ SqL K H a (ns.map V.int) ∧ (a ≠ st ∨ ∀ H', SqL K H' a (ns.map V.int)) ∧ 0 ≤ k ∧ k ≤ m
theorem LS.le {K : PySem.W.Frag} {H : Hp} {st : Addr} {ns : List Int} {m m' : Int} (h : LS K H st ns m) (e : m ≤ m') : LS K H st ns m' := by
  obtain ⟨a, k, h1, h2, h3, h4, h5⟩ := h.ex
  exact ⟨a, k, h1, h2, h3, h4, by omega⟩
theorem LS.same {K : PySem.W.Frag} {H H' : Hp} {st : Addr} {ns : List Int} {m : Int} (h : LS K H st ns m) (s : Same H H') : LS K H' st ns m := by
  obtain ⟨a, k, h1, h2, h3, h4, h5⟩ := h.ex
  exact ⟨a, k, s _ _ h1, s.seq h2, h3, h4, h5⟩
theorem LS.mut {K : PySem.W.Frag} {H : Hp} {st p : Addr} {o : HO} {ns : List Int} {m : Int} (h : LS K H st ns m) (n : p ≠ st) (hp : ∀ xs, ¬ SqL K H p xs) : LS K (upd H p o) st ns m := by
  obtain ⟨a, k, h1, h2, h3, h4, h5⟩ := h.ex
  have na : a ≠ p := fun e => hp _ (by rw [← e]; exact h2)
  refine ⟨a, k, by rw [upd_ne n.symm]; exact h1, ?_, h3, h4, h5⟩
  rcases h2 with (h2 | ⟨o, h2⟩) | h2
  · exact .inl (.inl (by rw [upd_ne na]; exact h2))
  · exact .inl (.inr ⟨o, by rw [upd_ne na]; exact h2⟩)
  · exact .inr h2
theorem LS.at {K : PySem.W.Frag} {H : Hp} {st : Addr} {ns : List Int} {m : Int} (h : LS K H st ns m) : ∃ kvs, H st = some (.dK kvs) := by
  obtain ⟨a, k, h1, _⟩ := h.ex
  exact ⟨_, h1⟩
theorem LS.ne_lst {K : PySem.W.Frag} {H : Hp} {st p : Addr} {xs : List V} {ns : List Int} {m : Int} (h : LS K H st ns m) (hp : H p = some (.lst xs)) : p ≠ st := fun e => by
  obtain ⟨kvs, h1⟩ := h.at
  rw [e, h1] at hp; cases hp
theorem LS.ne_none {K : PySem.W.Frag} {H : Hp} {st p : Addr} {ns : List Int} {m : Int} (h : LS K H st ns m) (hp : H p = none) : p ≠ st := fun e => by
  obtain ⟨kvs, h1⟩ := h.at
  rw [e, h1] at hp; cases hp
/-- behind a call that draws: all but the state stays, the state goes on by at most c -/
structure Adv (K : PySem.W.Frag) (st : Addr) (ns : List Int) (m : Int) (H H' : Hp) : Prop where
  sb : SB st H H'
  ls : LS K H' st ns m
theorem Adv.trans {K : PySem.W.Frag} {st : Addr} {ns : List Int} {m m' : Int} {H H1 H2 : Hp} (a : Adv K st ns m H H1) (b : Adv K st ns m' H1 H2) : Adv K st ns m' H H2 := ⟨a.sb.trans b.sb, b.ls⟩
theorem Adv.same {K : PySem.W.Frag} {st : Addr} {ns : List Int} {m : Int} {H H1 H2 : Hp} (a : Adv K st ns m H H1) (b : Same H1 H2) : Adv K st ns m H H2 := ⟨a.sb.trans (Same.sb b), a.ls.same b⟩
theorem LS.adv {K : PySem.W.Frag} {H H' : Hp} {st : Addr} {ns : List Int} {m : Int} (h : LS K H st ns m) (s : Same H H') : Adv K st ns m H H' := ⟨Same.sb s, h.same s⟩
theorem Adv.le {K : PySem.W.Frag} {st : Addr} {ns : List Int} {m m' : Int} {H H1 : Hp} (a : Adv K st ns m H H1) (h : m ≤ m') : Adv K st ns m' H H1 := ⟨a.sb, a.ls.le h⟩

/-! ### steps that hand on a letter -/
section
variable {K : PySem.W.Frag} {H H' : Hp} {Q : VK} {i j : Int}
theorem st_modG (h : 0 < j) (q : ∀ r, 0 ≤ r → r < j → Q (.int r) H) : rModA (.int i) (.int j) H Q := st_mod h (q _ (Int.emod_nonneg _ (by omega)) (Int.emod_lt_of_pos _ h))
theorem st_divG {b : Nat} (h0 : 0 ≤ i) (h : 0 < j) (hb : j.natAbs < 2 ^ b) (hb0 : 0 < b) (h9 : b ≤ 9000) (q : ∀ r, 0 ≤ r → r ≤ i → Q (.int r) H) : rDivA (.int i) (.int j) H Q :=
  st_div h hb hb0 h9 (q _ (Int.ediv_nonneg h0 (by omega)) (Int.ediv_le_self _ h0))
theorem st_mulG {a b : Nat} (ha : i.natAbs < 2 ^ a) (hb : j.natAbs < 2 ^ b) (h0 : 0 < a) (h1 : 0 < b) (h : a + b ≤ 1000000) (q : ∀ r : Int, (0 ≤ i → 0 ≤ j → 0 ≤ r) → r.natAbs < 2 ^ (a + b) → Q (.int r) H) : rMulA (.int i) (.int j) H Q :=
  st_mul ha hb h0 h1 h (q _ (fun x y => Int.mul_nonneg x y) (wide_lt ha hb))
end

theorem atI_in {α : Type} {xs : List α} {i : Int} (h0 : 0 ≤ i) (h1 : i < xs.length) : ∃ v, atI xs i = some v ∧ v ∈ xs := by
  obtain ⟨n, rfl⟩ := Int.eq_ofNat_of_zero_le h0
  have hn : n < xs.length := by omega
  exact ⟨xs[n], atI_nat (List.getElem?_eq_getElem hn), List.getElem_mem hn⟩
section
variable {K : PySem.W.Frag} {H H' : Hp} {Q : VK} {i j : Int}
theorem st_ixG {p : Addr} {xs : List V} (h : SqL K H p xs) (h0 : 0 ≤ i) (h1 : i < xs.length) (q : ∀ v, v ∈ xs → Q v H) : rIxA K (.ref p) (.int i) H Q := by
  obtain ⟨v, e, hv⟩ := atI_in h0 h1
  exact st_ix_list h e (q v hv)
theorem st_ixI {p : Addr} {ns : List Int} (h : SqL K H p (ns.map V.int)) (h0 : 0 ≤ i) (h1 : i < ns.length) (q : ∀ c, Q (.int c) H) : rIxA K (.ref p) (.int i) H Q :=
  st_ixG h h0 (by rw [List.length_map]; exact h1) fun v hv => by
    obtain ⟨c, _, rfl⟩ := List.mem_map.mp hv
    exact q c
end
theorem nb {i : Int} {b : Nat} (h : -(2 ^ b : Int) < i) (h2 : i < 2 ^ b) : i.natAbs < 2 ^ b := by
  have e : ((2 ^ b : Nat) : Int) = (2 : Int) ^ b := by push_cast; rfl
  omega

/-! ### data -/
section
variable {K : PySem.W.Frag} {H H' : Hp}
theorem Dp.ints {p : Addr} {ns : List Int} (h : SqL K H p (ns.map V.int)) : Dp K H (.ref p) (.list (ns.map PyData.int)) := by
  refine .lst h ?_
  clear h
  induction ns with
  | nil => exact .nil
  | cons n r ih => exact .cons (.int n) ih
theorem DpAll.strs (ws : List (List Nat)) : DpAll K H (ws.map txt) (ws.map fun l => PyData.str (S l)) := by
  induction ws with
  | nil => exact .nil
  | cons n r ih => exact .cons (.str _) ih
theorem lay_ints (ns : List Int) : PyData.canLayAll0 (ns.map PyData.int) = true := by
  induction ns with
  | nil => rfl
  | cons n r ih =>
    show (PyData.canLay0 (.int n) && PyData.canLayAll0 (r.map PyData.int)) = true
    rw [ih]; rfl
theorem depth_ints (ns : List Int) : PyData.depthAll (ns.map PyData.int) = 0 := by
  induction ns with
  | nil => rfl
  | cons n r ih =>
    show max (PyData.depth (.int n)) (PyData.depthAll (r.map PyData.int)) = 0
    rw [ih]; rfl
theorem shaped_ints (ns : List Int) : SeqAt.shaped (.list (ns.map PyData.int)) = true := by
  unfold SeqAt.shaped
  have h1 : (PyData.list (ns.map PyData.int)).canLay0 = true := lay_ints ns
  have h2 : (PyData.list (ns.map PyData.int)).depth = 0 + 1 := by
    show PyData.depthAll _ + 1 = _
    rw [depth_ints]
  rw [h1, h2]; rfl
end
/-! ### _law_next -/
def pr_next (K : PySem.W.Frag) : V → V → Hp → VK → XK → Prop := fun x y H Q _ => ∃ (st : Addr) (ns : List Int) (m many : Int), x = .ref st ∧ y = .int many ∧ 0 < many ∧ ns.length ≤ 63 ∧ LS K H st ns m ∧ m ≤ 1000000000 ∧
  ∀ r H', 0 ≤ r → r < many → Adv K st ns (m + 1) H H' → Q (.int r) H'
theorem str_ne1 : ¬ (("cells" : Str) = "at") := by decide +kernel
theorem str_ne2 : ¬ (("at" : Str) = "cells") := by decide +kernel
theorem stK_cells (a : Addr) (k : Int) : valV (stK a k) (Sum.inr "cells") = some (.ref a) := by
  unfold valV stK
  rw [List.find?_cons, decide_eq_true rfl]
  rfl
theorem stK_at (a : Addr) (k : Int) : valV (stK a k) (Sum.inr "at") = some (.int k) := by
  unfold valV stK
  rw [List.find?_cons, decide_eq_false (fun e => str_ne1 (Sum.inr.inj e)), List.find?_cons, decide_eq_true rfl]
  rfl
theorem stK_put (a : Addr) (k j : Int) : putK (stK a k) (Sum.inr "at") (.int j) = stK a j := by
  unfold putK
  simp [stK, str_ne1]
section
variable {K : PySem.W.Frag} {H : Hp} {Q : VK} {E : XK} {st : Addr} {ns : List Int} {m many : Int}
theorem use_next (hls : LS K H st ns m) (hn : ns.length ≤ 63) (hm : 0 < many) (hb : m ≤ 1000000000) (q : ∀ r H', 0 ≤ r → r < many → Adv K st ns (m + 1) H H' → Q (.int r) H') : Sp2 (pr_next K) [.ref st, .int many] H Q E :=
  ⟨_, _, rfl, st, ns, m, many, rfl, rfl, hm, hn, hls, hb, q⟩
end
end My
set_option Elab.async false
set_option linter.all false
set_option maxRecDepth 100000
set_option maxHeartbeats 4000000
namespace K01
open PySem PySem.Spec PyProof.Rows L2 My
section
variable {P : Program} {w : World} {K : PySem.W.Frag} {mg : Str → Option Value} {base : Heap}
/-! ### _law_next -/
def sp__law_next (K : PySem.W.Frag) : Sp := Sp2 (pr_next K)
def t__law_next (K : PySem.W.Frag) : TS :=
  (tSeq (sDPut (tVar 0) (tC (.str "at")) (tOp (rAddA K) (tIxA K (tVar 0) (tC (.str "at"))) (tC (.int 1))))
  (tSeq (tAsg (tIxA K (tVar 0) (tC (.str "at"))) (gName 2))
  (tSeq (tAsg (tIxA K (tVar 0) (tC (.str "cells"))) (gName 3))
  (tSeq (tAsg (tIf (tTest (tOp (rNeA K) (tVar 3) (tLst tNil))) (tIxA K (tVar 3) (tOp rModA (tVar 2) (tCB (rLenA K) (tCons (tVar 3) tNil)))) (tC (.int 0))) (gName 4))
  (tSeq (tAsg (tOp rModA (tOp (rAddA K) (tOp (rAddA K) (tOp rMulA (tOp rModA (tVar 4) (tC (.int 2147483629))) (tC (.int 48271))) (tOp rMulA (tOp rMulA (tC (.int 69621)) (tVar 2)) (tVar 2))) (tC (.int 104729))) (tC (.int 2147483647))) (gName 5))
  (tRet (tOp rModA (tOp rDivA (tOp rModA (tOp rMulA (tVar 5) (tOp (rAddA K) (tC (.int 16807)) (tOp rMulA (tC (.int 2)) (tVar 2)))) (tC (.int 2147483629))) (tC (.int 7))) (tVar 1))))))))
theorem pure__law_next (T : Txt K mg) {x y : V} {H : Hp} {Q : VK} {E : XK} (h : pr_next K x y H Q E) : t__law_next K { nx := fun _ H' => Q .non H', rt := Q } [some x, some y, none, none, none, none] H := by
  obtain ⟨st, ns, m, many, rfl, rfl, hm, hn, ⟨a, k, hst, hcells, hne, k0, km⟩, hb, q⟩ := h
  unfold t__law_next
  walk_at "w"
  refine st_ix_dict (DGet.k (k := Sum.inr "at") hst) ?_
  walk_at "w"
  refine ⟨st, _, rfl, DPut.k (k := Sum.inr "at") hst (show 2 < sizeLine by decide), ?_⟩
  rw [stK_put]
  have hst1 : upd H st (.dK (stK a (k + 1))) st = some (.dK (stK a (k + 1))) := upd_same
  have sb : SB st H (upd H st (.dK (stK a (k + 1)))) := fun b o n e => by rw [upd_ne n]; exact e
  have hcells1 := sb.sqL hne hcells
  generalize upd H st (.dK (stK a (k + 1))) = H1 at *
  have e1 := DGet.k (k := Sum.inr "at") hst1
  rw [stK_at] at e1
  have e2 := DGet.k (k := Sum.inr "cells") hst1
  rw [stK_cells] at e2
  walk_at "w"
  refine st_ix_dict e1 ?_
  walk_at "w"
  refine st_ix_dict e2 ?_
  walk_at "w"
  refine ⟨Nat.zero_le _, fun p hp => ?_⟩
  have s2 : Same H1 (upd H1 p (.lst [])) := same_new hp
  refine st_neD (Dp.ints (s2.seq hcells1)) (Dp.ints (ns := []) (SqL.of upd_same)) (shaped_ints _) (shaped_ints []) ?_
  walk_at "w"
  have hst2 := s2 _ _ hst1
  have hcells2 := s2.seq hcells1
  have sb2 := sb.trans (Same.sb s2)
  generalize upd H1 p (.lst []) = H2 at *
  have hadv : Adv K st ns (m + 1) H H2 := ⟨sb2, a, k + 1, hst2, hcells2, hne, by omega, by omega⟩
  refine ite2 (fun h1 => ?_) (fun h1 => ?_)
  · have hlen : 0 < ns.length := by
      cases ns with
      | nil => exact absurd h1 (by decide)
      | cons => simp
    walk_at "w"
    refine st_len_list hcells2 ?_
    walk_at "w"
    rw [List.length_map]
    refine st_modG (by omega) fun r r0 r1 => ?_
    refine st_ixI hcells2 r0 r1 fun c => ?_
    walk_at "w"
    refine st_modG (by decide) fun r2 r20 r21 => ?_
    walk_at "w"
    refine st_mulG (a := 31) (b := 16) (nb (by omega) (by omega)) (by decide) (by decide) (by decide) (by decide) fun r3 p3 b3 => ?_
    walk_at "w"
    refine st_mulG (a := 17) (b := 40) (by decide) (nb (by omega) (by omega)) (by decide) (by decide) (by decide) fun r4 p4 b4 => ?_
    walk_at "w"
    refine st_mulG (a := 57) (b := 40) b4 (nb (by omega) (by omega)) (by decide) (by decide) (by decide) fun r5 p5 b5 => ?_
    walk_at "w"
    refine st_modG (by decide) fun r6 r60 r61 => ?_
    walk_at "w"
    refine st_mulG (a := 2) (b := 40) (by decide) (nb (by omega) (by omega)) (by decide) (by decide) (by decide) fun r7 p7 b7 => ?_
    walk_at "w"
    have p7 := p7 (by decide) (by omega)
    refine st_mulG (a := 31) (b := 43) (nb (by omega) (by omega)) (nb (by omega) (by omega)) (by decide) (by decide) (by decide) fun r8 p8 b8 => ?_
    refine st_modG (by decide) fun r9 r90 r91 => ?_
    walk_at "w"
    refine st_divG r90 (by decide) (b := 3) (by decide) (by decide) (by decide) fun r10 r100 r101 => ?_
    walk_at "w"
    refine st_modG hm fun r11 r110 r111 => ?_
    walk_at "w"
    exact q _ _ r110 r111 hadv
  · walk_at "w"
    generalize (0 : Int) = c
    walk_at "w"
    refine st_modG (by decide) fun r2 r20 r21 => ?_
    walk_at "w"
    refine st_mulG (a := 31) (b := 16) (nb (by omega) (by omega)) (by decide) (by decide) (by decide) (by decide) fun r3 p3 b3 => ?_
    walk_at "w"
    refine st_mulG (a := 17) (b := 40) (by decide) (nb (by omega) (by omega)) (by decide) (by decide) (by decide) fun r4 p4 b4 => ?_
    walk_at "w"
    refine st_mulG (a := 57) (b := 40) b4 (nb (by omega) (by omega)) (by decide) (by decide) (by decide) fun r5 p5 b5 => ?_
    walk_at "w"
    refine st_modG (by decide) fun r6 r60 r61 => ?_
    walk_at "w"
    refine st_mulG (a := 2) (b := 40) (by decide) (nb (by omega) (by omega)) (by decide) (by decide) (by decide) fun r7 p7 b7 => ?_
    walk_at "w"
    have p7 := p7 (by decide) (by omega)
    refine st_mulG (a := 31) (b := 43) (nb (by omega) (by omega)) (nb (by omega) (by omega)) (by decide) (by decide) (by decide) fun r8 p8 b8 => ?_
    refine st_modG (by decide) fun r9 r90 r91 => ?_
    walk_at "w"
    refine st_divG r90 (by decide) (b := 3) (by decide) (by decide) (by decide) fun r10 r100 r101 => ?_
    walk_at "w"
    refine st_modG hm fun r11 r110 r111 => ?_
    walk_at "w"
    exact q _ _ r110 r111 hadv
theorem ok__law_next (T : Txt K mg)  : Kp P w K mg base CX0 1 "_law_next" ["_law_state", "_law_many"] (sp__law_next K) := by
  obtain ⟨fd, F⟩ := T.c.def_ 10 (d := d__law_next) rfl
  refine ⟨⟨_, fd, T.g__law_next, F.kp, F.bindsN fun _ _ _ _ _ _ us hl => match us, hl with | [_, _], _ => rfl, F.ok sc__law_next Sp2.len (fun cdv A outer s H vs Q E hr h => ?_)⟩⟩
  obtain ⟨v0, v1, rfl, h⟩ := h
  refine ⟨t__law_next K, PSs.nox (?_), pure__law_next T h⟩
  exact (pss_cons (ps_dput (hu_of hr) (pv 0) pe_str (pe_op op_addA (pe_ixA hr (pv 0) pe_str (fun _ _ => rfl)) pe_int) rfl)
      (pss_cons (ps_set (i := 2) sc__law_next.nd rfl (by first | exact Or.inl rfl | exact Or.inr rfl) (pe_ixA hr (pv 0) pe_str (fun _ _ => rfl)))
      (pss_cons (ps_set (i := 3) sc__law_next.nd rfl (by first | exact Or.inl rfl | exact Or.inr rfl) (pe_ixA hr (pv 0) pe_str (fun _ _ => rfl)))
      (pss_cons (ps_set (i := 4) sc__law_next.nd rfl (by first | exact Or.inl rfl | exact Or.inr rfl) (pe_ifExp (pt_cmpR (op_neA hr) (pv 3) (pe_lst pa_nil) (nomark _)) (pe_ixA hr (pv 3) (pe_op op_modA (pv 2) (pe_callB call_len (by rfl) T.n_len (by decide +kernel) (pa_cons (pv 3) pa_nil))) (fun _ _ => rfl)) pe_int))
      (pss_cons (ps_set (i := 5) sc__law_next.nd rfl (by first | exact Or.inl rfl | exact Or.inr rfl) (pe_op op_modA (pe_op op_addA (pe_op op_addA (pe_op op_mulA (pe_op op_modA (pv 4) pe_int) pe_int) (pe_op op_mulA (pe_op op_mulA pe_int (pv 2)) (pv 2))) pe_int) pe_int))
      (pss_one (ps_ret (pe_op op_modA (pe_op op_fdivA (pe_op op_modA (pe_op op_mulA (pv 5) (pe_op op_addA pe_int (pe_op op_mulA pe_int (pv 2)))) pe_int) pe_int) (pv 1)))))))))
/-! ### _law_told_words -/
def toldL : List Str := ["born", "taken", "joined", "parted", "died", "owns", "gave", "owes", "unfit", "word", "sum", "part", "out", "else", "of", "line", "degree", "beside", "halves", "kept", "back"]
def pr_told : Hp → VK → XK → Prop := fun H Q _ => ∀ p H', Same H H' → H p = none → H' p = some (.lst (toldL.map V.str)) → Q (.ref p) H'
def sp__law_told_words (K : PySem.W.Frag) : Sp := Sp0 pr_told
def t__law_told_words (K : PySem.W.Frag) : TS :=
  (tSeq (tAsg (tLst (tCons (tC (.str "born")) (tCons (tC (.str "taken")) (tCons (tC (.str "joined")) (tCons (tC (.str "parted")) (tCons (tC (.str "died")) (tCons (tC (.str "owns")) (tCons (tC (.str "gave")) (tCons (tC (.str "owes")) (tCons (tC (.str "unfit")) (tCons (tC (.str "word")) (tCons (tC (.str "sum")) (tCons (tC (.str "part")) (tCons (tC (.str "out")) tNil)))))))))))))) (gName 0))
  (tRet (tOp (rAddA K) (tVar 0) (tLst (tCons (tC (.str "else")) (tCons (tC (.str "of")) (tCons (tC (.str "line")) (tCons (tC (.str "degree")) (tCons (tC (.str "beside")) (tCons (tC (.str "halves")) (tCons (tC (.str "kept")) (tCons (tC (.str "back")) tNil))))))))))))
theorem pure__law_told_words (T : Txt K mg) {H : Hp} {Q : VK} {E : XK} (h : pr_told H Q E) : t__law_told_words K { nx := fun _ H' => Q .non H', rt := Q } [none] H := by
  unfold t__law_told_words
  walk_at "w"
  refine ⟨show 13 ≤ sizeLine by decide, fun p hp => ?_⟩
  walk_at "w"
  refine ⟨show 8 ≤ sizeLine by decide, fun q hq => ?_⟩
  have hqp : q ≠ p := fun e => by rw [e, upd_same] at hq; cases hq
  refine st_add_list (by rw [upd_ne hqp.symm, upd_same]) upd_same (by decide) fun l hl => ?_
  walk_at "w"
  have s : Same H (upd (upd H p (.lst ([V.str "born", V.str "taken", V.str "joined", V.str "parted", V.str "died", V.str "owns", V.str "gave", V.str "owes", V.str "unfit", V.str "word", V.str "sum", V.str "part", V.str "out"]))) q (.lst [V.str "else", V.str "of", V.str "line", V.str "degree", V.str "beside", V.str "halves", V.str "kept", V.str "back"])) := (same_new hp).trans (same_new hq)
  exact h l _ (s.trans (same_new hl)) (s.free hl) upd_same
theorem ok__law_told_words (T : Txt K mg)  : Kp P w K mg base CX0 1 "_law_told_words" [] (sp__law_told_words K) := by
  obtain ⟨fd, F⟩ := T.c.def_ 11 (d := d__law_told_words) rfl
  refine ⟨⟨_, fd, T.g__law_told_words, F.kp, F.bindsN fun _ _ _ _ _ _ us hl => match us, hl with | [], _ => rfl, F.ok sc__law_told_words Sp0.len (fun cdv A outer s H vs Q E hr h => ?_)⟩⟩
  obtain ⟨rfl, h⟩ := h
  refine ⟨t__law_told_words K, PSs.nox (?_), pure__law_told_words T h⟩
  exact (pss_cons (ps_set (i := 0) sc__law_told_words.nd rfl (by first | exact Or.inl rfl | exact Or.inr rfl) (pe_lst (pa_cons pe_str (pa_cons pe_str (pa_cons pe_str (pa_cons pe_str (pa_cons pe_str (pa_cons pe_str (pa_cons pe_str (pa_cons pe_str (pa_cons pe_str (pa_cons pe_str (pa_cons pe_str (pa_cons pe_str (pa_cons pe_str pa_nil)))))))))))))))
      (pss_one (ps_ret (pe_op op_addA (pv 0) (pe_lst (pa_cons pe_str (pa_cons pe_str (pa_cons pe_str (pa_cons pe_str (pa_cons pe_str (pa_cons pe_str (pa_cons pe_str (pa_cons pe_str pa_nil)))))))))))))
/-! ### _law_piece -/
/-- a def that draws and gives a text of at most n signs -/
def pr_draws (K : PySem.W.Frag) (B c : Int) (R : V → Hp → Prop) : V → Hp → VK → XK → Prop := fun x H Q _ => ∃ (st : Addr) (ns : List Int) (m : Int), x = .ref st ∧ ns.length ≤ 63 ∧ LS K H st ns m ∧ m ≤ B ∧
  ∀ v H', R v H' → Adv K st ns (m + c) H H' → Q v H'
theorem strs_mem (L : List Str) {v : V} (h : v ∈ L.map V.str) : ∃ z, z ∈ L ∧ v = .str z := by
  obtain ⟨z, h1, h2⟩ := List.mem_map.mp h
  exact ⟨z, h1, h2.symm⟩
def isText (n : Nat) : V → Hp → Prop := fun v _ => ∃ z : Str, v = .str z ∧ z.length ≤ n
def isTextO (n : Nat) : V → Hp → Prop := fun v _ => ∃ z : Str, v = .str z ∧ z.length ≤ n ∧ PyData.strOk z = true
def sp__law_piece (K : PySem.W.Frag) : Sp := Sp1 (pr_draws K 100000000 10 (isTextO 12))
def t__law_piece (K : PySem.W.Frag) : TS :=
  (tSeq (tAsg (tC (.str "abcdefghijklmnopqrstuvwxyz")) (gName 1))
  (tSeq (tAsg (tCall (sp__law_next K) [] E0 (tCons (tVar 0) (tCons (tC (.int 4)) tNil))) (gName 2))
  (tSeq (tIfS (tTest (tOp (rEqA K) (tVar 2) (tC (.int 0)))) (tRet (tIxA K (tCall (sp__law_told_words K) [] E0 tNil) (tCall (sp__law_next K) [] E0 (tCons (tVar 0) (tCons (tC (.int 21)) tNil))))) tNext)
  (tSeq (tIfS (tTest (tOp (rEqA K) (tVar 2) (tC (.int 1)))) (tRet (tC (.str "/"))) tNext)
  (tSeq (tIfS (tTest (tOp (rEqA K) (tVar 2) (tC (.int 2)))) (tSeq (tAsg (tIxA K (tLst (tCons (tC (.int 1)) (tCons (tC (.int 1)) (tCons (tC (.int 2)) (tCons (tC (.int 12)) (tCons (tC (.int 5)) tNil)))))) (tCall (sp__law_next K) [] E0 (tCons (tVar 0) (tCons (tC (.int 5)) tNil)))) (gName 3))
  (tRet (tIf (tTest (tOp (rEqA K) (tVar 3) (tC (.int 1)))) (tCB rStrA (tCons (tCall (sp__law_next K) [] E0 (tCons (tVar 0) (tCons (tC (.int 10)) tNil))) tNil)) (tOp (rAddA K) (tCB rStrA (tCons (tOp (rAddA K) (tC (.int 1)) (tCall (sp__law_next K) [] E0 (tCons (tVar 0) (tCons (tC (.int 9)) tNil)))) tNil)) (tSl (rSlA K) (tC (.str "40718093625")) tNoPart (tPart (tOp rSubI (tVar 3) (tC (.int 1))))))))) tNext)
  (tSeq (tAsg (tTup (tCons (tCall (sp__law_next K) [] E0 (tCons (tVar 0) (tCons (tC (.int 26)) tNil))) (tCons (tOp (rAddA K) (tC (.int 1)) (tCall (sp__law_next K) [] E0 (tCons (tVar 0) (tCons (tC (.int 25)) tNil)))) tNil))) (gTup K 2 (gCons (gName 4) (gCons (gName 5) gNil))))
  (tRet (tM1 (rJoinA K) (tC (.str "")) (tLc (iRng1 (tCons (tIxA K (tLst (tCons (tC (.int 1)) (tCons (tC (.int 2)) (tCons (tC (.int 5)) (tCons (tC (.int 8)) (tCons (tC (.int 7)) tNil)))))) (tCall (sp__law_next K) [] E0 (tCons (tVar 0) (tCons (tC (.int 5)) tNil)))) tNil)) (gName 6) tYes (tIxA K (tVar 1) (tOp rModA (tOp (rAddA K) (tVar 4) (tOp rMulA (tVar 6) (tVar 5))) (tC (.int 26)))) [6])))))))))
theorem digit_len {i : Int} (h0 : 0 ≤ i) (h1 : i < 10) : (Str.ofString (toString i)).length = 1 := by
  have : i = 0 ∨ i = 1 ∨ i = 2 ∨ i = 3 ∨ i = 4 ∨ i = 5 ∨ i = 6 ∨ i = 7 ∨ i = 8 ∨ i = 9 := by omega
  rcases this with h | h | h | h | h | h | h | h | h | h <;> (subst h; decide +kernel)
theorem digit_ok {i : Int} (h0 : 0 ≤ i) (h1 : i < 10) : PyData.strOk (Str.ofString (toString i)) = true := by
  have : i = 0 ∨ i = 1 ∨ i = 2 ∨ i = 3 ∨ i = 4 ∨ i = 5 ∨ i = 6 ∨ i = 7 ∨ i = 8 ∨ i = 9 := by omega
  rcases this with h | h | h | h | h | h | h | h | h | h <;> (subst h; decide +kernel)
theorem len_append (a b : Str) : (a ++ b).length = a.length + b.length := size_cat a b
theorem log_small {i : Int} (h0 : 0 ≤ i) (h1 : i < 1000000000000000) : i.natAbs.log2 < 1920 := by
  have h : i.natAbs < 2 ^ 50 := nb (by omega) (by omega)
  exact Nat.lt_trans (PySem.Flt.log2_lt_of (by decide) h) (by decide)
theorem pure__law_piece (T : Txt K mg) {x : V} {H : Hp} {Q : VK} {E : XK} (h : pr_draws K 100000000 10 (isTextO 12) x H Q E) : t__law_piece K { nx := fun _ H' => Q .non H', rt := Q } [some x, none, none, none, none, none, none] H := by
  obtain ⟨st, ns, m, rfl, hn, ls, hm, q⟩ := h
  unfold t__law_piece
  walk_at "w"
  refine use_next ls hn (by decide) (by omega) fun r H1 r0 r1 a1 => ?_
  walk_at "w"
  refine ite2 (fun h1 => ?_) (fun h1 => ?_)
  · walk_at "w"
    refine ⟨rfl, fun p H2 s2 hp hL => ?_⟩
    walk_at "w"
    refine use_next (a1.ls.same s2) hn (by decide) (by omega) fun r2 H3 r20 r21 a2 => ?_
    have hL3 := a2.sb _ _ ((a1.ls.same s2).ne_lst hL) hL
    refine st_ixG (SqL.of hL3) r20 r21 fun v hv => ?_
    walk_at "w"
    obtain ⟨z, hz, rfl⟩ := List.mem_map.mp hv
    refine q _ _ ⟨z, rfl, ?_⟩ (((a1.same s2).trans a2).le (by omega))
    have key : ∀ z ∈ toldL, z.length ≤ 12 ∧ PyData.strOk z = true := by decide +kernel
    exact key z hz
  · walk_at "w"
    refine ite2 (fun h2 => ?_) (fun h2 => ?_)
    · walk_at "w"
      exact q _ _ ⟨_, rfl, by decide +kernel, by decide +kernel⟩ (a1.le (by omega))
    · walk_at "w"
      refine ite2 (fun h3 => ?_) (fun h3 => ?_)
      · walk_at "w"
        refine ⟨show 5 ≤ sizeLine by decide, fun p hp => ?_⟩
        walk_at "w"
        have a2 := a1.same (same_new (o := .lst [V.int 1, V.int 1, V.int 2, V.int 12, V.int 5]) hp)
        refine use_next a2.ls hn (by decide) (by omega) fun r2 H3 r20 r21 a3 => ?_
        have hL3 := a3.sb _ _ (a1.ls.ne_none hp) upd_same
        refine st_ixG (SqL.of hL3) r20 r21 fun v hv => ?_
        have a3 := a2.trans a3
        obtain ⟨w, rfl, hw0, hw1⟩ : ∃ w : Int, v = .int w ∧ 1 ≤ w ∧ w ≤ 12 := by
          simp only [List.mem_cons, List.not_mem_nil, or_false] at hv
          rcases hv with h | h | h | h | h <;> exact ⟨_, h, by decide, by decide⟩
        walk_at "w"
        refine ite2 (fun h4 => ?_) (fun h4 => ?_)
        · walk_at "w"
          refine use_next a3.ls hn (by decide) (by omega) fun r4 H4 r40 r41 a4 => ?_
          refine ⟨r4, rfl, log_small r40 (by omega), ?_⟩
          walk_at "w"
          exact q _ _ ⟨_, rfl, by rw [digit_len r40 (by omega)]; decide, digit_ok r40 (by omega)⟩ ((a3.trans a4).le (by omega))
        · walk_at "w"
          refine use_next a3.ls hn (by decide) (by omega) fun r4 H4 r40 r41 a4 => ?_
          walk_at "w"
          refine ⟨1 + r4, rfl, log_small (by omega) (by omega), ?_⟩
          walk_at "w"
          refine st_slice_str (by decide +kernel) ?_
          have hlen : (cutS ("40718093625" : Str) none (some (w - 1))).length ≤ 11 := Nat.le_trans (cutS_length _ _ _) (by decide +kernel)
          have hlen2 := digit_len (i := 1 + r4) (by omega) (by omega)
          refine st_add_str (by rw [hlen2]; omega) ?_
          walk_at "w"
          exact q _ _ ⟨_, rfl, by rw [len_append, hlen2]; omega, strOk_append (digit_ok (by omega) (by omega)) (strOk_cut (by decide +kernel))⟩ ((a3.trans a4).le (by omega))
      · walk_at "w"
        refine use_next a1.ls hn (by decide) (by omega) fun r2 H2 r20 r21 a2 => ?_
        walk_at "w"
        refine use_next a2.ls hn (by decide) (by omega) fun r3 H3 r30 r31 a3 => ?_
        walk_at "w"
        have a3 := (a1.trans a2).trans a3
        refine ⟨show 2 ≤ sizeLine by decide, fun p hp => w_gtup2 (.inl (.inl upd_same)) ?_⟩
        have a3 := a3.same (same_new (o := .tup [V.int r2, V.int (1 + r3)]) hp)
        walk_at "w"
        generalize upd H3 p (.tup [V.int r2, V.int (1 + r3)]) = H3 at *
        refine ⟨show 5 ≤ sizeLine by decide, fun p hp => ?_⟩
        walk_at "w"
        have a4 := a3.same (same_new (o := .lst [V.int 1, V.int 2, V.int 5, V.int 8, V.int 7]) hp)
        refine use_next a4.ls hn (by decide) (by omega) fun r5 H5 r50 r51 a5 => ?_
        have hL5 := a5.sb _ _ (a3.ls.ne_none hp) upd_same
        refine st_ixG (SqL.of hL5) r50 r51 fun v hv => ?_
        have a5 := a4.trans a5
        obtain ⟨w, rfl, hw0, hw1⟩ : ∃ w : Int, v = .int w ∧ 1 ≤ w ∧ w ≤ 8 := by
          simp only [List.mem_cons, List.not_mem_nil, or_false] at hv
          rcases hv with h | h | h | h | h <;> exact ⟨_, h, by decide, by decide⟩
        walk_at "w"
        refine ⟨w, rfl, by omega, by omega, fun D hD => ?_⟩
        refine lcp walk_range hD (List.range w.toNat) (by simp) (by rw [List.length_range]; omega) (fun _ _ => trivial) (fun _ => true) (fun _ y _ => ∃ z : Str, y = .str z ∧ z.length = 1 ∧ PyData.strOk z = true) (fun _ _ _ _ _ _ _ e => e) ?_ ?_
        · rintro i d x H6 H7 hi s6 ⟨rfl, rfl⟩ k1 k2 hk1 hk2
          walk_at "w"
          refine ⟨rfl, ?_⟩
          have hi8 : i < 8 := by
            have := (List.getElem?_eq_some_iff.mp hi).1
            rw [List.length_range] at this
            omega
          walk_at "w"
          refine st_mulG (a := 5) (b := 6) (nb (by omega) (by omega)) (nb (by omega) (by omega)) (by decide) (by decide) (by decide) fun r8 p8 b8 => ?_
          walk_at "w"
          refine st_modG (by decide) fun r9 r90 r91 => ?_
          obtain ⟨n, rfl⟩ := Int.eq_ofNat_of_zero_le r90
          have hn26 : n < ("abcdefghijklmnopqrstuvwxyz" : Str).cps.toList.length := by
            have e : ("abcdefghijklmnopqrstuvwxyz" : Str).cps.toList.length = 26 := by decide +kernel
            rw [e]; omega
          refine st_ix_str (by decide +kernel) (List.getElem?_eq_getElem hn26) ?_
          refine hk1 rfl _ _ (Same.refl _) ⟨_, rfl, rfl, ?_⟩
          have key : PyData.strOk ("abcdefghijklmnopqrstuvwxyz" : Str) = true := by decide +kernel
          rw [strOk_iff] at key ⊢
          intro c hc
          exact key c (by rw [List.mem_singleton.mp (show c ∈ [_] from hc)]; exact List.getElem_mem hn26)
        · intro ys H6 s6 hL6 pr
          rw [filter_yes] at pr
          obtain ⟨zs, rfl, hz⟩ : ∃ zs : List Str, ys = zs.map V.str ∧ ∀ z ∈ zs, z.length = 1 ∧ PyData.strOk z = true := by
            clear hL6
            generalize List.range w.toNat = l at pr
            induction pr with
            | nil => exact ⟨[], rfl, fun _ z => by cases z⟩
            | cons h _ ih =>
              obtain ⟨zs, rfl, hz⟩ := ih
              obtain ⟨z, rfl, h1⟩ := h
              exact ⟨z :: zs, rfl, fun y hy => by rcases List.mem_cons.mp hy with e | e; · rw [e]; exact h1
                                                  · exact hz y e⟩
          have hzl : zs.length = w.toNat := by
            have := pr.length
            rw [List.length_range, List.length_map] at this
            exact this.symm
          have hsum : (zs.map (·.length)).sum = zs.length := by
            clear pr hL6 hzl
            induction zs with
            | nil => rfl
            | cons z r ih =>
              rw [List.map_cons, List.sum_cons, ih (fun y hy => hz y (List.mem_cons_of_mem _ hy)), (hz z List.mem_cons_self).1, List.length_cons]
              omega
          refine ⟨_, D, zs, rfl, rfl, .inl (SqL.of hL6), ?_, ?_⟩
          · rw [hsum, hzl]
            have : ("" : Str).length = 0 := by decide +kernel
            rw [this]; omega
          · walk_at "w"
            refine q _ _ ⟨_, rfl, ?_, by rw [TL.join_eq]; exact strOk_join (by decide +kernel) fun z hz' => (hz z hz').2⟩ ((a5.same s6).le (by omega))
            have := StrLaws.join_length_le ("" : Str) zs
            rw [TL.join_eq]
            rw [hsum, hzl] at this
            have e0 : ("" : Str).length = 0 := by decide +kernel
            rw [e0] at this
            omega
theorem ok__law_piece (T : Txt K mg) (c__law_next : Kp P w K mg base CX0 1 "_law_next" ["_law_state", "_law_many"] (sp__law_next K)) (c__law_told_words : Kp P w K mg base CX0 1 "_law_told_words" [] (sp__law_told_words K)) : Kp P w K mg base CX0 2 "_law_piece" ["_law_state"] (sp__law_piece K) := by
  obtain ⟨fd, F⟩ := T.c.def_ 12 (d := d__law_piece) rfl
  refine ⟨⟨_, fd, T.g__law_piece, F.kp, F.bindsN fun _ _ _ _ _ _ us hl => match us, hl with | [_], _ => rfl, F.ok sc__law_piece Sp1.len (fun cdv A outer s H vs Q E hr h => ?_)⟩⟩
  obtain ⟨v0, rfl, h⟩ := h
  refine ⟨t__law_piece K, PSs.nox (?_), pure__law_piece T h⟩
  exact (pss_cons (ps_set (i := 1) sc__law_piece.nd rfl (by first | exact Or.inl rfl | exact Or.inr rfl) pe_str)
      (pss_cons (ps_set (i := 2) sc__law_piece.nd rfl (by first | exact Or.inl rfl | exact Or.inr rfl) (pe_cK c__law_next (hr.mono (by decide)) rfl (pa_cons (pv 0) (pa_cons pe_int pa_nil))))
      (pss_cons (ps_if (pt_cmpR (op_eqA hr) (pv 2) pe_int (nomark _)) (pss_one (ps_ret (pe_ixA hr (pe_cK0 c__law_told_words (hr.mono (by decide)) rfl) (pe_cK c__law_next (hr.mono (by decide)) rfl (pa_cons (pv 0) (pa_cons pe_int pa_nil))) (fun _ _ => rfl)))) pss_nil)
      (pss_cons (ps_if (pt_cmpR (op_eqA hr) (pv 2) pe_int (nomark _)) (pss_one (ps_ret pe_str)) pss_nil)
      (pss_cons (ps_if (pt_cmpR (op_eqA hr) (pv 2) pe_int (nomark _)) (pss_cons (ps_set (i := 3) sc__law_piece.nd rfl (by first | exact Or.inl rfl | exact Or.inr rfl) (pe_ixA hr (pe_lst (pa_cons pe_int (pa_cons pe_int (pa_cons pe_int (pa_cons pe_int (pa_cons pe_int pa_nil)))))) (pe_cK c__law_next (hr.mono (by decide)) rfl (pa_cons (pv 0) (pa_cons pe_int pa_nil))) (fun _ _ => rfl)))
      (pss_one (ps_ret (pe_ifExp (pt_cmpR (op_eqA hr) (pv 3) pe_int (nomark _)) (pe_callTy call_strA (by rfl) T.n_str (by decide +kernel) (pa_cons (pe_cK c__law_next (hr.mono (by decide)) rfl (pa_cons (pv 0) (pa_cons pe_int pa_nil))) pa_nil)) (pe_op op_addA (pe_callTy call_strA (by rfl) T.n_str (by decide +kernel) (pa_cons (pe_op op_addA pe_int (pe_cK c__law_next (hr.mono (by decide)) rfl (pa_cons (pv 0) (pa_cons pe_int pa_nil)))) pa_nil)) (pe_slice sl_A pe_str po_none (po_some (pe_op op_sub (pv 3) pe_int)))))))) pss_nil)
      (pss_cons (ps_asg (pe_tup (pa_cons (pe_cK c__law_next (hr.mono (by decide)) rfl (pa_cons (pv 0) (pa_cons pe_int pa_nil))) (pa_cons (pe_op op_addA pe_int (pe_cK c__law_next (hr.mono (by decide)) rfl (pa_cons (pv 0) (pa_cons pe_int pa_nil)))) pa_nil))) (pg_tup rfl (pgs_cons (pg_name (i := 4) sc__law_piece.nd rfl (by first | exact Or.inl rfl | exact Or.inr rfl)) (pgs_cons (pg_name (i := 5) sc__law_piece.nd rfl (by first | exact Or.inl rfl | exact Or.inr rfl)) pgs_nil))))
      (pss_one (ps_ret (pe_join pe_str (pe_lc (own := [("_law_k", 6)]) (g := (gName 6)) rfl sc__law_piece.nd (pi_range1 (by rfl) T.n_range (pa_cons (pe_ixA hr (pe_lst (pa_cons pe_int (pa_cons pe_int (pa_cons pe_int (pa_cons pe_int (pa_cons pe_int pa_nil)))))) (pe_cK c__law_next (hr.mono (by decide)) rfl (pa_cons (pv 0) (pa_cons pe_int pa_nil))) (fun _ _ => rfl)) pa_nil)) (blkOk_by (own := [("_law_k", 6)]) (N := N__law_piece) (sc := defScope s__law_piece) (by decide +kernel)) (fun _ _ _ _ _ => (pg_name (i := 6) sc__law_piece.nd rfl (by first | exact Or.inl rfl | exact Or.inr rfl))) (fun _ _ _ _ _ => pts_nil) (fun _ _ _ _ _ => (pe_ixA hr (pv 1) (pe_op op_modA (pe_op op_addA (pv 4) (pe_op op_mulA (pv 6) (pv 5))) pe_int) (fun _ _ => rfl)))))))))))))
end
end K01
set_option Elab.async false
set_option linter.all false
set_option maxRecDepth 100000
set_option maxHeartbeats 4000000
namespace K01
open PySem PySem.Spec PyProof.Rows L2 My
section
variable {P : Program} {w : World} {K : PySem.W.Frag} {mg : Str → Option Value} {base : Heap}
/-! ### _law_odd -/
def sp__law_odd (K : PySem.W.Frag) : Sp := Sp1 (pr_draws K 100000000 10 (isTextO 13))
def t__law_odd (K : PySem.W.Frag) : TS :=
  (tSeq (tAsg (tC (.str "!\"#$&'()*+,-.:;<=>?@ABCDEFGHIJKLMNOPQRSTUVWXYZ[\\]^_`{|}~")) (gName 1))
  (tSeq (tIfS (tTest (tOp rGtA (tCall (sp__law_next K) [] E0 (tCons (tVar 0) (tCons (tC (.int 3)) tNil))) (tC (.int 0)))) (tRet (tIxA K (tVar 1) (tCall (sp__law_next K) [] E0 (tCons (tVar 0) (tCons (tCB (rLenA K) (tCons (tVar 1) tNil)) tNil))))) tNext)
  (tRet (tIxA K (tLst (tCons (tC (.str "abcdefghi")) (tCons (tC (.str "01")) (tCons (tC (.str "00")) (tCons (tC (.str "1234567890123")) (tCons (tC (.str "a1")) (tCons (tC (.str "1a")) (tCons (tC (.str "//")) (tCons (tC (.str "a/b")) (tCons (tC (.str "Ab")) (tCons (tC (.str "- 1")) tNil))))))))))) (tCall (sp__law_next K) [] E0 (tCons (tVar 0) (tCons (tC (.int 10)) tNil)))))))
theorem pure__law_odd (T : Txt K mg) {x : V} {H : Hp} {Q : VK} {E : XK} (h : pr_draws K 100000000 10 (isTextO 13) x H Q E) : t__law_odd K { nx := fun _ H' => Q .non H', rt := Q } [some x, none] H := by
  obtain ⟨st, ns, m, rfl, hn, ls, hm, q⟩ := h
  unfold t__law_odd
  walk_at "w"
  refine use_next ls hn (by decide) (by omega) fun r H1 r0 r1 a1 => ?_
  walk_at "w"
  refine ite2 (fun h1 => ?_) (fun h1 => ?_)
  · walk_at "w"
    refine st_len_str (by decide +kernel) ?_
    walk_at "w"
    have e : ("!\"#$&'()*+,-.:;<=>?@ABCDEFGHIJKLMNOPQRSTUVWXYZ[\\]^_`{|}~" : Str).length = 56 := by decide +kernel
    have e2 : ("!\"#$&'()*+,-.:;<=>?@ABCDEFGHIJKLMNOPQRSTUVWXYZ[\\]^_`{|}~" : Str).cps.toList.length = 56 := by decide +kernel
    rw [e]
    refine use_next a1.ls hn (by decide) (by omega) fun r2 H2 r20 r21 a2 => ?_
    obtain ⟨n, rfl⟩ := Int.eq_ofNat_of_zero_le r20
    have hnL : n < ("!\"#$&'()*+,-.:;<=>?@ABCDEFGHIJKLMNOPQRSTUVWXYZ[\\]^_`{|}~" : Str).cps.toList.length := by rw [e2]; omega
    refine st_ix_str (by rw [e]; decide) (List.getElem?_eq_getElem hnL) ?_
    walk_at "w"
    have key : PyData.strOk ("!\"#$&'()*+,-.:;<=>?@ABCDEFGHIJKLMNOPQRSTUVWXYZ[\\]^_`{|}~" : Str) = true := by decide +kernel
    refine q _ _ ⟨_, rfl, by show 1 ≤ 13; decide, ?_⟩ ((a1.trans a2).le (by omega))
    rw [strOk_iff] at key ⊢
    intro c hc
    exact key c (by rw [List.mem_singleton.mp (show c ∈ [_] from hc)]; exact List.getElem_mem hnL)
  · walk_at "w"
    refine ⟨show 10 ≤ sizeLine by decide, fun p hp => ?_⟩
    walk_at "w"
    have a2 := a1.same (same_new (o := .lst (([ "abcdefghi", "01", "00", "1234567890123", "a1", "1a", "//", "a/b", "Ab", "- 1"] : List Str).map V.str)) hp)
    refine use_next a2.ls hn (by decide) (by omega) fun r2 H3 r20 r21 a3 => ?_
    have hL3 := a3.sb _ _ (a1.ls.ne_none hp) upd_same
    refine st_ixG (SqL.of hL3) r20 r21 fun v hv => ?_
    obtain ⟨z, hz, rfl⟩ := strs_mem [ "abcdefghi", "01", "00", "1234567890123", "a1", "1a", "//", "a/b", "Ab", "- 1"] hv
    walk_at "w"
    refine q _ _ ⟨z, rfl, ?_⟩ ((a2.trans a3).le (by omega))
    have key : ∀ z ∈ ([ "abcdefghi", "01", "00", "1234567890123", "a1", "1a", "//", "a/b", "Ab", "- 1"] : List Str), z.length ≤ 13 ∧ PyData.strOk z = true := by decide +kernel
    exact key z hz
theorem ok__law_odd (T : Txt K mg) (c__law_next : Kp P w K mg base CX0 1 "_law_next" ["_law_state", "_law_many"] (sp__law_next K)) : Kp P w K mg base CX0 2 "_law_odd" ["_law_state"] (sp__law_odd K) := by
  obtain ⟨fd, F⟩ := T.c.def_ 13 (d := d__law_odd) rfl
  refine ⟨⟨_, fd, T.g__law_odd, F.kp, F.bindsN fun _ _ _ _ _ _ us hl => match us, hl with | [_], _ => rfl, F.ok sc__law_odd Sp1.len (fun cdv A outer s H vs Q E hr h => ?_)⟩⟩
  obtain ⟨v0, rfl, h⟩ := h
  refine ⟨t__law_odd K, PSs.nox (?_), pure__law_odd T h⟩
  exact (pss_cons (ps_set (i := 1) sc__law_odd.nd rfl (by first | exact Or.inl rfl | exact Or.inr rfl) pe_str)
      (pss_cons (ps_if (pt_cmpR op_gtA (pe_cK c__law_next (hr.mono (by decide)) rfl (pa_cons (pv 0) (pa_cons pe_int pa_nil))) pe_int (nomark _)) (pss_one (ps_ret (pe_ixA hr (pv 1) (pe_cK c__law_next (hr.mono (by decide)) rfl (pa_cons (pv 0) (pa_cons (pe_callB call_len (by rfl) T.n_len (by decide +kernel) (pa_cons (pv 1) pa_nil)) pa_nil))) (fun _ _ => rfl)))) pss_nil)
      (pss_one (ps_ret (pe_ixA hr (pe_lst (pa_cons pe_str (pa_cons pe_str (pa_cons pe_str (pa_cons pe_str (pa_cons pe_str (pa_cons pe_str (pa_cons pe_str (pa_cons pe_str (pa_cons pe_str (pa_cons pe_str pa_nil))))))))))) (pe_cK c__law_next (hr.mono (by decide)) rfl (pa_cons (pv 0) (pa_cons pe_int pa_nil))) (fun _ _ => rfl))))))
/-! ### _law_text -/
def sp__law_text (K : PySem.W.Frag) : Sp := Sp1 (pr_draws K 10000000 2000 (isText 8003))
def t__law_text (K : PySem.W.Frag) : TS :=
  (tSeq (tAsg (tC (.str "")) (gName 1))
  (tSeq (tFor (iRng1 (tCons (tCB rMin2I (tCons (tC (.int 200)) (tCons (tCB (rLenA K) (tCons (tIxA K (tVar 0) (tC (.str "cells"))) tNil)) tNil))) tNil)) (gName 2) (tAsg (tOp (rAddA K) (tOp (rAddA K) (tVar 1) (tCall (sp__law_piece K) [] E0 (tCons (tVar 0) tNil))) (tIxA K (tLst (tCons (tC (.str " ")) (tCons (tC (.str "\n")) (tCons (tC (.str "  ")) (tCons (tC (.str " ")) (tCons (tC (.str "\n ")) (tCons (tC (.str " ")) (tCons (tC (.str " ")) (tCons (tC (.str "")) tNil))))))))) (tCall (sp__law_next K) [] E0 (tCons (tVar 0) (tCons (tC (.int 8)) tNil))))) (gName 1)))
  (tSeq (tFor (iRng1 (tCons (tIxA K (tLst (tCons (tC (.int 0)) (tCons (tC (.int 0)) (tCons (tC (.int 1)) (tCons (tC (.int 2)) tNil))))) (tCall (sp__law_next K) [] E0 (tCons (tVar 0) (tCons (tC (.int 4)) tNil)))) tNil)) (gName 2) (tSeq (tAsg (tCall (sp__law_next K) [] E0 (tCons (tVar 0) (tCons (tOp (rAddA K) (tCB (rLenA K) (tCons (tVar 1) tNil)) (tC (.int 1))) tNil))) (gName 3))
  (tAsg (tOp (rAddA K) (tOp (rAddA K) (tOp (rAddA K) (tSl (rSlA K) (tVar 1) tNoPart (tPart (tVar 3))) (tIxA K (tLst (tCons (tC (.str " ")) (tCons (tC (.str "")) tNil))) (tCall (sp__law_next K) [] E0 (tCons (tVar 0) (tCons (tC (.int 2)) tNil))))) (tCall (sp__law_odd K) [] E0 (tCons (tVar 0) tNil))) (tSl (rSlA K) (tVar 1) (tPart (tVar 3)) tNoPart)) (gName 1))))
  (tSeq (tIfS (tTest (tOp (rEqA K) (tCall (sp__law_next K) [] E0 (tCons (tVar 0) (tCons (tC (.int 8)) tNil))) (tC (.int 1)))) (tRet (tSl (rSlA K) (tOp (rAddA K) (tOp (rAddA K) (tVar 1) (tC (.str " "))) (tOp rMulA (tC (.str "owns a 12\n")) (tC (.int 900)))) tNoPart (tPart (tOp (rAddA K) (tC (.int 7998)) (tCall (sp__law_next K) [] E0 (tCons (tVar 0) (tCons (tC (.int 5)) tNil))))))) tNext)
  (tRet (tVar 1))))))
theorem owns_mul : MulOk ("owns a 12\n" : Str) 900 := ⟨by decide, fun _ _ => by decide +kernel, fun _ _ => by decide +kernel⟩
theorem owns_len : (Txt.mul ("owns a 12\n" : Str) 900).length = 9000 := by decide +kernel
theorem pure__law_text (T : Txt K mg) {x : V} {H : Hp} {Q : VK} {E : XK} (h : pr_draws K 10000000 2000 (isText 8003) x H Q E) : t__law_text K { nx := fun _ H' => Q .non H', rt := Q } [some x, none, none, none] H := by
  obtain ⟨st, ns, m, rfl, hn, ls, hm, q⟩ := h
  obtain ⟨a, k, hst, hcells, hne, k0, km⟩ := id ls.ex
  have e2 := DGet.k (k := Sum.inr "cells") hst
  rw [stK_cells] at e2
  unfold t__law_text
  walk_at "w"
  refine st_ix_dict e2 ?_
  walk_at "w"
  refine st_len_list hcells ?_
  rw [List.length_map]
  walk_at "w"
  refine ⟨200, ns.length, rfl, ?_⟩
  rw [if_pos (by omega)]
  walk_at "w"
  refine ⟨_, rfl, by omega, by omega, ?_⟩
  refine for_range (lo := 0) (n := ns.length) (fun i σ H' => ∃ (z : Str) (v w : Option V), σ = [some (.ref st), some (.str z), v, w] ∧ z.length ≤ 14 * i ∧ Adv K st ns (m + 11 * i) H H')
    ⟨"", none, none, rfl, by decide +kernel, ls.adv (Same.refl _) |>.le (by omega)⟩ ?_ ?_
  · rintro i σ H' hi ⟨z, v, w, rfl, hz, a1⟩
    walk_at "w"
    refine ⟨_, rfl, st, ns, _, rfl, hn, a1.ls, by omega, ?_⟩
    rintro y H2 ⟨z2, rfl, hz2, _⟩ a2
    have a2 := a1.trans a2
    refine st_add_str (by omega) ?_
    walk_at "w"
    refine ⟨show 8 ≤ sizeLine by decide, fun p hp => ?_⟩
    walk_at "w"
    have a3 := a2.same (same_new (o := .lst (([" ", "\n", "  ", " ", "\n ", " ", " ", ""] : List Str).map V.str)) hp)
    refine use_next a3.ls hn (by decide) (by omega) fun r2 H3 r20 r21 a4 => ?_
    have hL3 := a4.sb _ _ (a2.ls.ne_none hp) upd_same
    have a4 := a3.trans a4
    refine st_ixG (SqL.of hL3) r20 r21 fun v hv => ?_
    obtain ⟨z3, hz3, rfl⟩ := strs_mem [" ", "\n", "  ", " ", "\n ", " ", " ", ""] hv
    have key : ∀ z ∈ ([" ", "\n", "  ", " ", "\n ", " ", " ", ""] : List Str), z.length ≤ 2 := by decide +kernel
    have hz3 := key z3 hz3
    refine st_add_str (by rw [len_append]; omega) ?_
    walk_at "w"
    exact ⟨z ++ z2 ++ z3, _, _, rfl, by rw [len_append, len_append]; omega, a4.le (by omega)⟩
  · rintro σ H' ⟨z, v, w, rfl, hz, a1⟩
    walk_at "w"
    refine ⟨show 4 ≤ sizeLine by decide, fun p hp => ?_⟩
    walk_at "w"
    have a2 := a1.same (same_new (o := .lst [V.int 0, V.int 0, V.int 1, V.int 2]) hp)
    refine use_next a2.ls hn (by decide) (by omega) fun r2 H3 r20 r21 a3 => ?_
    have hL3 := a3.sb _ _ (a1.ls.ne_none hp) upd_same
    have a3 := a2.trans a3
    refine st_ixG (SqL.of hL3) r20 r21 fun v hv => ?_
    obtain ⟨u, rfl, hw0, hw1⟩ : ∃ u : Int, v = .int u ∧ 0 ≤ u ∧ u ≤ 2 := by
      simp only [List.mem_cons, List.not_mem_nil, or_false] at hv
      rcases hv with h | h | h | h <;> exact ⟨_, h, by decide, by decide⟩
    walk_at "w"
    refine ⟨_, rfl, by omega, by omega, ?_⟩
    refine for_range (lo := 0) (n := u.toNat) (fun i σ H' => ∃ (z : Str) (v w : Option V), σ = [some (.ref st), some (.str z), v, w] ∧ z.length ≤ 882 + 14 * i ∧ Adv K st ns (m + 700 + 20 * i) H H')
      ⟨z, _, _, rfl, by omega, a3.le (by omega)⟩ ?_ ?_
    · rintro i σ H' hi ⟨z, v, w, rfl, hz, a1⟩
      walk_at "w"
      refine st_len_str (by omega) ?_
      walk_at "w"
      refine use_next a1.ls hn (by omega) (by omega) fun r H2 r0 r1 a2 => ?_
      have a2 := a1.trans a2
      walk_at "w"
      obtain ⟨n, rfl⟩ := Int.eq_ofNat_of_zero_le r0
      refine st_slice_str (by omega) ?_
      walk_at "w"
      refine ⟨show 2 ≤ sizeLine by decide, fun p hp => ?_⟩
      walk_at "w"
      have a3 := a2.same (same_new (o := .lst (([" ", ""] : List Str).map V.str)) hp)
      refine use_next a3.ls hn (by decide) (by omega) fun r2 H3 r20 r21 a4 => ?_
      have hL3 := a4.sb _ _ (a2.ls.ne_none hp) upd_same
      have a4 := a3.trans a4
      refine st_ixG (SqL.of hL3) r20 r21 fun v hv => ?_
      obtain ⟨z3, hz3, rfl⟩ := strs_mem [" ", ""] hv
      have key : ∀ z ∈ ([" ", ""] : List Str), z.length ≤ 1 := by decide +kernel
      have hz3 := key z3 hz3
      have hc1 : (cutS z none (some (n : Int))).length = n := by
        rw [cutS_to (by omega)]
        show ((z.cps.toList.take n).toArray).size = n
        rw [List.size_toArray, List.length_take, len_toList]; omega
      have hc2 : (cutS z (some (n : Int)) none).length = z.length - n := by
        rw [cutS_from (by omega)]
        show ((z.cps.toList.drop n).toArray).size = _
        rw [List.size_toArray, List.length_drop, len_toList]
      refine st_add_str (by omega) ?_
      walk_at "w"
      refine ⟨_, rfl, st, ns, _, rfl, hn, a4.ls, by omega, ?_⟩
      rintro y H4 ⟨z2, rfl, hz2, _⟩ a5
      have a5 := a4.trans a5
      refine st_add_str (by rw [len_append]; omega) ?_
      walk_at "w"
      refine st_slice_str (by omega) ?_
      refine st_add_str (by rw [len_append, len_append]; omega) ?_
      walk_at "w"
      exact ⟨_, _, _, rfl, by rw [len_append, len_append, len_append]; omega, a5.le (by omega)⟩
    · rintro σ H' ⟨z, v, w, rfl, hz, a1⟩
      walk_at "w"
      refine use_next a1.ls hn (by decide) (by omega) fun r H2 r0 r1 a2 => ?_
      have a2 := a1.trans a2
      walk_at "w"
      refine ite2 (fun h1 => ?_) (fun h1 => ?_)
      · walk_at "w"
        have e1 : (" " : Str).length = 1 := by decide +kernel
        refine st_add_str (by rw [e1]; omega) ?_
        walk_at "w"
        refine .inr (.inl ⟨_, _, rfl, rfl, owns_mul, ?_⟩)
        refine st_add_str (by rw [owns_len, len_append, e1]; omega) ?_
        walk_at "w"
        refine use_next a2.ls hn (by decide) (by omega) fun r3 H3 r30 r31 a3 => ?_
        have a3 := a2.trans a3
        walk_at "w"
        refine st_slice_str (by rw [len_append, owns_len, len_append, e1]; omega) ?_
        walk_at "w"
        refine q _ _ ⟨_, rfl, ?_⟩ (a3.le (by omega))
        obtain ⟨n, hn⟩ := Int.eq_ofNat_of_zero_le (show 0 ≤ 7998 + r3 by omega)
        rw [hn, cutS_to (by rw [len_append, owns_len, len_append, e1]; omega)]
        show ((List.take n _).toArray).size ≤ 8003
        rw [List.size_toArray, List.length_take]; omega
      · walk_at "w"
        exact q _ _ ⟨_, rfl, by omega⟩ (a2.le (by omega))
theorem ok__law_text (T : Txt K mg) (c__law_next : Kp P w K mg base CX0 1 "_law_next" ["_law_state", "_law_many"] (sp__law_next K)) (c__law_piece : Kp P w K mg base CX0 2 "_law_piece" ["_law_state"] (sp__law_piece K)) (c__law_odd : Kp P w K mg base CX0 2 "_law_odd" ["_law_state"] (sp__law_odd K)) : Kp P w K mg base CX0 3 "_law_text" ["_law_state"] (sp__law_text K) := by
  obtain ⟨fd, F⟩ := T.c.def_ 14 (d := d__law_text) rfl
  refine ⟨⟨_, fd, T.g__law_text, F.kp, F.bindsN fun _ _ _ _ _ _ us hl => match us, hl with | [_], _ => rfl, F.ok sc__law_text Sp1.len (fun cdv A outer s H vs Q E hr h => ?_)⟩⟩
  obtain ⟨v0, rfl, h⟩ := h
  refine ⟨t__law_text K, PSs.nox (?_), pure__law_text T h⟩
  exact (pss_cons (ps_set (i := 1) sc__law_text.nd rfl (by first | exact Or.inl rfl | exact Or.inr rfl) pe_str)
      (pss_cons (ps_for PassesOwn.never rfl (pi_range1 (by rfl) T.n_range (pa_cons (pe_callB (call_min2 rfl) (by rfl) T.n_min (by decide +kernel) (pa_cons pe_int (pa_cons (pe_callB call_len (by rfl) T.n_len (by decide +kernel) (pa_cons (pe_ixA hr (pv 0) pe_str (fun _ _ => rfl)) pa_nil)) pa_nil))) pa_nil)) (pg_name (i := 2) sc__law_text.nd rfl (by first | exact Or.inl rfl | exact Or.inr rfl)) (pss_one (ps_set (i := 1) sc__law_text.nd rfl (by first | exact Or.inl rfl | exact Or.inr rfl) (pe_op op_addA (pe_op op_addA (pv 1) (pe_cK c__law_piece (hr.mono (by decide)) rfl (pa_cons (pv 0) pa_nil))) (pe_ixA hr (pe_lst (pa_cons pe_str (pa_cons pe_str (pa_cons pe_str (pa_cons pe_str (pa_cons pe_str (pa_cons pe_str (pa_cons pe_str (pa_cons pe_str pa_nil))))))))) (pe_cK c__law_next (hr.mono (by decide)) rfl (pa_cons (pv 0) (pa_cons pe_int pa_nil))) (fun _ _ => rfl))))))
      (pss_cons (ps_for PassesOwn.never rfl (pi_range1 (by rfl) T.n_range (pa_cons (pe_ixA hr (pe_lst (pa_cons pe_int (pa_cons pe_int (pa_cons pe_int (pa_cons pe_int pa_nil))))) (pe_cK c__law_next (hr.mono (by decide)) rfl (pa_cons (pv 0) (pa_cons pe_int pa_nil))) (fun _ _ => rfl)) pa_nil)) (pg_name (i := 2) sc__law_text.nd rfl (by first | exact Or.inl rfl | exact Or.inr rfl)) (pss_cons (ps_set (i := 3) sc__law_text.nd rfl (by first | exact Or.inl rfl | exact Or.inr rfl) (pe_cK c__law_next (hr.mono (by decide)) rfl (pa_cons (pv 0) (pa_cons (pe_op op_addA (pe_callB call_len (by rfl) T.n_len (by decide +kernel) (pa_cons (pv 1) pa_nil)) pe_int) pa_nil))))
      (pss_one (ps_set (i := 1) sc__law_text.nd rfl (by first | exact Or.inl rfl | exact Or.inr rfl) (pe_op op_addA (pe_op op_addA (pe_op op_addA (pe_slice sl_A (pv 1) po_none (po_some (pv 3))) (pe_ixA hr (pe_lst (pa_cons pe_str (pa_cons pe_str pa_nil))) (pe_cK c__law_next (hr.mono (by decide)) rfl (pa_cons (pv 0) (pa_cons pe_int pa_nil))) (fun _ _ => rfl))) (pe_cK c__law_odd (hr.mono (by decide)) rfl (pa_cons (pv 0) pa_nil))) (pe_slice sl_A (pv 1) (po_some (pv 3)) po_none))))))
      (pss_cons (ps_if (pt_cmpR (op_eqA hr) (pe_cK c__law_next (hr.mono (by decide)) rfl (pa_cons (pv 0) (pa_cons pe_int pa_nil))) pe_int (nomark _)) (pss_one (ps_ret (pe_slice sl_A (pe_op op_addA (pe_op op_addA (pv 1) pe_str) (pe_op op_mulA pe_str pe_int)) po_none (po_some (pe_op op_addA pe_int (pe_cK c__law_next (hr.mono (by decide)) rfl (pa_cons (pv 0) (pa_cons pe_int pa_nil)))))))) pss_nil)
      (pss_one (ps_ret (pv 1)))))))
/-! ### _law_run -/
def pr_run : V → V → V → Hp → VK → XK → Prop := fun x y z H Q _ => ∃ (row S' : Str) (a : Nat), x = .str row ∧ y = .int (a : Int) ∧ z = .str S' ∧ row.length ≤ 100000 ∧ a ≤ row.length ∧ Q (txt ((row.cps.toList.drop a).take (runLen S'.cps.toList (row.cps.toList.drop a)))) H
def sp__law_run (K : PySem.W.Frag) : Sp := Sp3 pr_run
def t__law_run (K : PySem.W.Frag) : TS :=
  (tSeq (tAsg (tVar 1) (gName 3))
  (tSeq (tWhile (tAnd (tTest (tOp rLtA (tVar 3) (tCB (rLenA K) (tCons (tVar 0) tNil)))) (tTest (tOp (rInA K false) (tIxA K (tVar 0) (tVar 3)) (tVar 2)))) (tAsg (tOp (rAddA K) (tVar 3) (tC (.int 1))) (gName 3)))
  (tRet (tSl (rSlA K) (tVar 0) (tPart (tVar 1)) (tPart (tVar 3))))))
theorem pure__law_run (T : Txt K mg) {a b c : V} {H : Hp} {Q : VK} {E : XK} (h : pr_run a b c H Q E) : t__law_run K { nx := fun _ H' => Q .non H', rt := Q } [some a, some b, some c, none] H := by
  obtain ⟨row, S', a, rfl, rfl, rfl, hl, ha, k⟩ := h
  unfold t__law_run
  walk_at "w"
  refine ⟨fun m σ H' => H' = H ∧ ∃ e : Nat, m = row.length - e ∧ a ≤ e ∧ e ≤ row.length ∧ a + runLen S'.cps.toList (row.cps.toList.drop a) = e + runLen S'.cps.toList (row.cps.toList.drop e) ∧
    σ = [some (.str row), some (.int (a : Int)), some (.str S'), some (.int (e : Int))], ⟨_, rfl, a, rfl, Nat.le_refl _, ha, rfl, rfl⟩, ?_⟩
  rintro m σ H' ⟨rfl, e, rfl, hae, he, hr, rfl⟩
  walk_at "w"
  refine st_len_str (by omega) ?_
  walk_at "w"
  have fin : e + runLen S'.cps.toList (row.cps.toList.drop e) = e → Q (.str (cutS row (some (a : Int)) (some (e : Int)))) H' := fun z => by
    rw [cutS_nat ha he]
    rw [z] at hr
    have e3 : runLen S'.cps.toList (row.cps.toList.drop a) = e - a := by omega
    rw [e3] at k
    exact k
  refine ite2 (fun h1 => ?_) (fun h1 => ?_)
  · have h2 : e < row.length := by have := of_decide_eq_true h1; omega
    obtain ⟨c, h3, hd⟩ := at_drop h2
    walk_at "w"
    refine st_ix_str (by omega) h3 ?_
    walk_at "w"
    refine ite2 (fun hc => ?_) (fun hc => ?_)
    · refine ⟨_, fun _ _ z => z, ?_⟩
      walk_at "w"
      refine ⟨row.length - (e + 1), by omega, rfl, e + 1, rfl, by omega, by omega, ?_, rfl⟩
      rw [hr, hd, runLen_in (of_decide_eq_true hc)]
      omega
    · walk_at "w"
      refine st_slice_str (by omega) ?_
      walk_at "w"
      refine fin ?_
      rw [hd, runLen_out (fun z => hc (decide_eq_true z))]
      rfl
  · have h2 : ¬ e < row.length := by intro z; exact h1 (decide_eq_true (by omega))
    walk_at "w"
    refine st_slice_str (by omega) ?_
    walk_at "w"
    refine fin ?_
    rw [List.drop_eq_nil_of_le (by rw [len_toList]; omega)]
    rfl
theorem ok__law_run (T : Txt K mg)  : Kp P w K mg base CX0 1 "_law_run" ["_law_text_here", "_law_at", "_law_signs"] (sp__law_run K) := by
  obtain ⟨fd, F⟩ := T.c.def_ 15 (d := d__law_run) rfl
  refine ⟨⟨_, fd, T.g__law_run, F.kp, F.bindsN fun _ _ _ _ _ _ us hl => match us, hl with | [_, _, _], _ => rfl, F.ok sc__law_run Sp3.len (fun cdv A outer s H vs Q E hr h => ?_)⟩⟩
  obtain ⟨v0, v1, v2, rfl, h⟩ := h
  refine ⟨t__law_run K, PSs.nox (?_), pure__law_run T h⟩
  exact (pss_cons (ps_set (i := 3) sc__law_run.nd rfl (by first | exact Or.inl rfl | exact Or.inr rfl) (pv 1))
      (pss_cons (ps_while PassesOwn.never (PW.pt (pw_and (pt_cmpR op_ltA (pv 3) (pe_callB call_len (by rfl) T.n_len (by decide +kernel) (pa_cons (pv 0) pa_nil)) (nomark _)) (pw_and1 (pt_cmpR (op_inA hr) (pe_ixA hr (pv 0) (pv 3) (fun _ _ => rfl)) (pv 2) (by rfl))))) (pss_one (ps_set (i := 3) sc__law_run.nd rfl (by first | exact Or.inl rfl | exact Or.inr rfl) (pe_op op_addA (pv 3) pe_int))))
      (pss_one (ps_ret (pe_slice sl_A (pv 0) (po_some (pv 1)) (po_some (pv 3)))))))
end
end K01
set_option Elab.async false
set_option linter.all false
set_option maxRecDepth 100000
set_option maxHeartbeats 4000000
namespace K01
open PySem PySem.Spec PyProof.Rows L2 My
section
variable {P : Program} {w : World} {K : PySem.W.Frag} {mg : Str → Option Value} {base : Heap}
/-! ### _law_due -/
structure RowsD (H' : Hp) (p : Addr) (rows : List (List (List Nat))) : Prop where
  ex : ∃ ps : List Addr, H' p = some (.lst (ps.map V.ref)) ∧ Paired (fun q ws => H' q = some (.lst ((ws : List (List Nat)).map txt))) ps rows
def pr_due : V → Hp → VK → XK → Prop := fun x H Q _ => ∃ z : Str, x = .str z ∧ z.length ≤ 100000 ∧ if z.length ≤ 8000 then (match scan 0 [] [] z.cps.toList with
    | .ok rows => ∀ p H', Same H H' → RowsD H' p rows → Q (.ref p) H'
    | .error e => ∀ H', Same H H' → Q (.int (e : Int)) H') else Q (.int 0) H
def sp__law_due (K : PySem.W.Frag) : Sp := Sp1 pr_due
def t__law_due_0 (K : PySem.W.Frag) : TS :=
  (tSeq (tIfS (tTest (tOp (rEqA K) (tIxA K (tVar 0) (tVar 2)) (tC (.str "\n")))) (tDrop (tBM K "list" rAppend (tVar 1) (tCons (tLst tNil) tNil))) (tIfS (tTest (tOp (rNeA K) (tIxA K (tVar 0) (tVar 2)) (tC (.str " ")))) (tAsg (tOp (rAddA K) (tSl (rSlA K) (tVar 1) tNoPart (tPart (tUn rNegI (tC (.int 1))))) (tLst (tCons (tOp (rAddA K) (tIxA K (tVar 1) (tUn rNegI (tC (.int 1)))) (tLst (tCons (tIf (tTest (tOp (rEqA K) (tVar 3) (tC (.str "")))) (tIxA K (tVar 0) (tVar 2)) (tVar 3)) tNil))) tNil))) (gName 1)) tNext))
  (tAsg (tOp (rAddA K) (tVar 2) (tCB rMax2I (tCons (tC (.int 1)) (tCons (tCB (rLenA K) (tCons (tVar 3) tNil)) tNil)))) (gName 2)))
def t__law_due (K : PySem.W.Frag) : TS :=
  (tSeq (tIfS (tTest (tOp rGtA (tCB (rLenA K) (tCons (tVar 0) tNil)) (tC (.int 8000)))) (tRet (tC (.int 0))) tNext)
  (tSeq (tAsg (tLst (tCons (tLst tNil) tNil)) (gName 1))
  (tSeq (tAsg (tC (.int 0)) (gName 2))
  (tSeq (tWhile (tTest (tOp rLtA (tVar 2) (tCB (rLenA K) (tCons (tVar 0) tNil)))) (tSeq (tAsg (tOp (rAddA K) (tCall (sp__law_run K) [] E0 (tCons (tVar 0) (tCons (tVar 2) (tCons (tC (.str "abcdefghijklmnopqrstuvwxyz")) tNil)))) (tCall (sp__law_run K) [] E0 (tCons (tVar 0) (tCons (tVar 2) (tCons (tC (.str "0123456789")) tNil))))) (gName 3))
  (tSeq (tIfS (tOr (tAnd (tTest (tOp (rEqA K) (tVar 3) (tC (.str "")))) (tTest (tOp (rInA K true) (tIxA K (tVar 0) (tVar 2)) (tC (.str " \n/"))))) (tAnd (tTest (tOp (rNeA K) (tVar 3) (tC (.str "")))) (tTest (tOp rGtA (tCB (rLenA K) (tCons (tVar 3) tNil)) (tOp (rAddA K) (tC (.int 8)) (tOp rMulA (tC (.int 4)) (tCB rIntA (tCons (tOp rLtA (tIxA K (tVar 3) (tC (.int 0))) (tC (.str "a"))) tNil)))))))) (tRet (tVar 2)) tNext)
  (tSeq (tIfS (tAnd (tTest (tOp (rNeA K) (tVar 3) (tC (.str "")))) (tAnd (tTest (tOp (rEqA K) (tIxA K (tVar 3) (tC (.int 0))) (tC (.str "0")))) (tTest (tOp (rNeA K) (tVar 3) (tC (.str "0")))))) (tRet (tVar 2)) tNext)
  (t__law_due_0 K)))))
  (tRet (tVar 1))))))
theorem cut_init (xs : List V) (y : V) : cutV (xs ++ [y]) none (some (-1)) = xs := by
  unfold cutV
  have e1 : HT.sIx (xs ++ [y]).length 0 none = 0 := rfl
  have e2 : HT.sIx (xs ++ [y]).length (xs ++ [y]).length (some (-1)) = xs.length := by
    show (if (-1 : Int) < 0 then ((-1 : Int) + ((xs ++ [y]).length : Int)).toNat else min (-1 : Int).toNat (xs ++ [y]).length) = xs.length
    rw [if_pos (by decide), List.length_append, List.length_singleton]; omega
  rw [e1, e2, List.drop_zero, Nat.sub_zero, List.take_left']
  rfl
theorem max_len {n : Nat} : (if ((n : Nat) : Int) > 1 then ((n : Nat) : Int) else 1) = ((max 1 n : Nat) : Int) := by
  split <;> omega
section
variable {z : Str} {a c : Nat} {p : Addr} {wd : List Nat} {N B C : L2.St → Hp → Prop} {R : VK} {H : Hp}
theorem tail_eol (hz : z.length ≤ 8000) (hwl : wd.length ≤ 8000) (h3 : z.cps.toList[a]? = some c) (hc : c = 10) {xs : List V} (hP : H p = some (.lst xs)) (hx : xs.length ≤ 10000)
    (k : ∀ l, H l = none → N [some (.str z), some (.ref p), some (.int ((a : Int) + (max 1 wd.length : Nat))), some (txt wd)] (upd (upd H l (.lst [])) p (.lst (xs ++ [.ref l])))) :
    t__law_due_0 K ⟨N, R, B, C⟩ [some (.str z), some (.ref p), some (.int (a : Int)), some (txt wd)] H := by
  have e10 : ("\n" : Str) = ⟨#[10]⟩ := by decide +kernel
  unfold t__law_due_0
  walk_at "w"
  refine st_ix_str (by omega) h3 ?_
  walk_at "w"
  rw [sign_dec e10]
  refine ite2 (fun _ => ?_) (fun h => absurd (decide_eq_true hc) h)
  walk_at "w"
  refine ⟨.inl ⟨rfl, _, SqL.of hP⟩, ?_⟩
  walk_at "w"
  refine ⟨Nat.zero_le _, fun l hl => ?_⟩
  have hlp : p ≠ l := fun e => by rw [← e, hP] at hl; cases hl
  refine ⟨p, _, _, rfl, rfl, by rw [upd_ne hlp]; exact hP, small_lt _ (by omega), ?_⟩
  walk_at "w"
  refine st_len_str (by rw [S_len]; omega) ?_
  refine ⟨1, _, rfl, ?_⟩
  rw [S_len, max_len]
  walk_at "w"
  exact k l hl
theorem tail_blank (hz : z.length ≤ 8000) (hwl : wd.length ≤ 8000) (h3 : z.cps.toList[a]? = some c) (hc : c = 32)
    (k : N [some (.str z), some (.ref p), some (.int ((a : Int) + (max 1 wd.length : Nat))), some (txt wd)] H) :
    t__law_due_0 K ⟨N, R, B, C⟩ [some (.str z), some (.ref p), some (.int (a : Int)), some (txt wd)] H := by
  have e10 : ("\n" : Str) = ⟨#[10]⟩ := by decide +kernel
  have e32 : (" " : Str) = ⟨#[32]⟩ := by decide +kernel
  unfold t__law_due_0
  walk_at "w"
  refine st_ix_str (by omega) h3 ?_
  walk_at "w"
  rw [sign_dec e10]
  refine ite2 (fun h => absurd (of_decide_eq_true h) (by omega)) (fun _ => ?_)
  walk_at "w"
  refine st_ix_str (by omega) h3 ?_
  walk_at "w"
  rw [sign_dec e32, decide_eq_true hc]
  walk_at "w"
  refine st_len_str (by rw [S_len]; omega) ?_
  refine ⟨1, _, rfl, ?_⟩
  rw [S_len, max_len]
  walk_at "w"
  exact k
theorem tail_word (hz : z.length ≤ 8000) (hwl : wd.length ≤ 8000) (h3 : z.cps.toList[a]? = some c) (hc : c ≠ 10) (hc2 : c ≠ 32) {xs : List V} {q : Addr} {cur : List (List Nat)} {x : List Nat} (hP : H p = some (.lst (xs ++ [.ref q]))) (hx : xs.length ≤ 10000)
    (hq : H q = some (.lst (cur.map txt))) (hcur : cur.length ≤ 10000) (hx2 : x = if wd = [] then [c] else wd)
    (k : ∀ p' l H', Same H H' → H p' = none → H l = none → p' ≠ l → H' p' = some (.lst (xs ++ [.ref l])) → H' l = some (.lst ((cur ++ [x]).map txt)) →
      N [some (.str z), some (.ref p'), some (.int ((a : Int) + (max 1 wd.length : Nat))), some (txt wd)] H') :
    t__law_due_0 K ⟨N, R, B, C⟩ [some (.str z), some (.ref p), some (.int (a : Int)), some (txt wd)] H := by
  have e10 : ("\n" : Str) = ⟨#[10]⟩ := by decide +kernel
  have e32 : (" " : Str) = ⟨#[32]⟩ := by decide +kernel
  unfold t__law_due_0
  walk_at "w"
  refine st_ix_str (by omega) h3 ?_
  walk_at "w"
  rw [sign_dec e10]
  refine ite2 (fun h => absurd (of_decide_eq_true h) hc) (fun _ => ?_)
  walk_at "w"
  refine st_ix_str (by omega) h3 ?_
  walk_at "w"
  rw [sign_dec e32, decide_eq_false hc2]
  walk_at "w"
  refine ⟨1, rfl, ?_⟩
  walk_at "w"
  refine st_slice_list (SqL.of hP) fun l1 hl1 => ?_
  rw [cut_init]
  have s1 : Same H (upd H l1 (.lst xs)) := same_new hl1
  have h1 : upd H l1 (.lst xs) l1 = some (.lst xs) := upd_same
  generalize upd H l1 (.lst xs) = H1 at *
  walk_at "w"
  refine ⟨1, rfl, ?_⟩
  refine st_ix_list (SqL.of (s1 _ _ hP)) (atI_last _ _) ?_
  walk_at "w"
  rw [S_nil]
  have fin : ∀ y : List Nat, y = x → ([txt y] : List V).length ≤ sizeLine ∧ ∀ p_1, H1 p_1 = none → rAddA K (.ref q) (.ref p_1) (upd H1 p_1 (.lst [txt y])) fun y H2 => ([y] : List V).length ≤ sizeLine ∧ ∀ p_2, H2 p_2 = none → rAddA K (.ref l1) (.ref p_2) (upd H2 p_2 (.lst [y])) fun x H1 =>
      (tAsg (tOp (rAddA K) (tVar 2) (tCB rMax2I (tCons (tC (.int 1)) (tCons (tCB (rLenA K) (tCons (tVar 3) tNil)) tNil)))) (gName 2)) ⟨N, R, B, C⟩ (([some (.str z), some (.ref p), some (.int (a : Int)), some (txt wd)] : L2.St).set 1 (some x)) H1 := fun y hy => by
    subst hy
    refine ⟨show 1 ≤ sizeLine by decide, fun l2 hl2 => ?_⟩
    have s2 := s1.trans (same_new (o := .lst [txt y]) hl2)
    have n21 : l2 ≠ l1 := fun e => by rw [e, h1] at hl2; cases hl2
    refine st_add_list (s2 _ _ hq) upd_same (by rw [List.length_map]; show cur.length + 1 ≤ _; omega) fun l3 hl3 => ?_
    have s3 := s2.trans (same_new (o := .lst (cur.map txt ++ [txt y])) hl3)
    have n32 : l3 ≠ l2 := fun e => by rw [e, upd_same] at hl3; cases hl3
    have n31 : l3 ≠ l1 := fun e => by rw [e, upd_ne n21.symm, h1] at hl3; cases hl3
    refine ⟨show 1 ≤ sizeLine by decide, fun l4 hl4 => ?_⟩
    have s4 := s3.trans (same_new (o := .lst [V.ref l3]) hl4)
    have n43 : l4 ≠ l3 := fun e => by rw [e, upd_same] at hl4; cases hl4
    have n41 : l4 ≠ l1 := fun e => by rw [e, upd_ne n31.symm, upd_ne n21.symm, h1] at hl4; cases hl4
    refine st_add_list (l := l1) (xs := xs) (by rw [upd_ne n41.symm, upd_ne n31.symm, upd_ne n21.symm]; exact h1) upd_same (by show xs.length + 1 ≤ _; omega) fun l5 hl5 => ?_
    have s5 := s4.trans (same_new (o := .lst (xs ++ [V.ref l3])) hl5)
    have n53 : l5 ≠ l3 := fun e => by rw [e, upd_ne n43.symm, upd_same] at hl5; cases hl5
    walk_at "w"
    refine st_len_str (by rw [S_len]; omega) ?_
    refine ⟨1, _, rfl, ?_⟩
    rw [S_len, max_len]
    walk_at "w"
    refine k l5 l3 _ s5 (s4.free hl5) (s2.free hl3) n53 upd_same ?_
    rw [upd_ne n53.symm, upd_ne n43.symm, upd_same, List.map_append]
    rfl
  refine ite2 (fun h => ?_) (fun h => ?_)
  · have hw := S_inj.mp (of_decide_eq_true h)
    rw [if_pos hw] at hx2
    walk_at "w"
    refine st_ix_str (by omega) h3 ?_
    exact fin [c] hx2.symm
  · have hw : wd ≠ [] := fun e => h (decide_eq_true (by rw [e]))
    rw [if_neg hw] at hx2
    walk_at "w"
    exact fin wd hx2.symm
end
theorem pure__law_due (T : Txt K mg) {x : V} {H : Hp} {Q : VK} {E : XK} (h : pr_due x H Q E) : t__law_due K { nx := fun _ H' => Q .non H', rt := Q } [some x, none, none, none] H := by
  obtain ⟨z, rfl, hz, k⟩ := h
  unfold t__law_due
  walk_at "w"
  refine st_len_str (by omega) ?_
  walk_at "w"
  refine ite2 (fun h1 => ?_) (fun h1 => ?_)
  · have h2 := of_decide_eq_true h1
    rw [if_neg (by omega)] at k
    walk_at "w"
    exact k
  · have h2 : z.length ≤ 8000 := by
      have : ¬ (8000 : Int) < z.length := fun e => h1 (decide_eq_true e)
      omega
    rw [if_pos h2] at k
    walk_at "w"
    refine ⟨Nat.zero_le _, fun l0 hl0 => ?_⟩
    walk_at "w"
    refine ⟨show 1 ≤ sizeLine by decide, fun p hp => ?_⟩
    have hpl : p ≠ l0 := fun e => by rw [e, upd_same] at hp; cases hp
    have hp0 : H p = none := by rw [upd_ne hpl] at hp; exact hp
    walk_at "w"
    refine ⟨fun m σ H' => ∃ (a : Nat) (p q : Addr) (ps : List Addr) (rows : List (List (List Nat))) (cur : List (List Nat)) (v : Option V), m = z.length - a ∧ a ≤ z.length ∧ σ = [some (.str z), some (.ref p), some (.int (a : Int)), v] ∧ Same H H' ∧ H p = none ∧
        H' p = some (.lst (ps.map V.ref ++ [V.ref q])) ∧ p ∉ ps ∧ p ≠ q ∧ ps.length ≤ a ∧ cur.length ≤ a ∧ Paired (fun q ws => H' q = some (.lst ((ws : List (List Nat)).map txt))) ps rows ∧ H' q = some (.lst (cur.map txt)) ∧
        scan 0 [] [] z.cps.toList = scan a rows cur (z.cps.toList.drop a),
      ⟨_, 0, p, l0, [], [], [], none, rfl, Nat.zero_le _, rfl, (same_new hl0).trans (same_new hp), hp0, upd_same, (fun z => by cases z), hpl, Nat.zero_le _, Nat.zero_le _, .nil, by rw [upd_ne hpl.symm, upd_same]; rfl, rfl⟩, ?_⟩
    rintro m σ H' ⟨a, p, q, ps, rows, cur, v, rfl, ha, rfl, hs, hp, hP, hpps, hpq, hpsl, hcl, pr, hq, hk⟩
    walk_at "w"
    refine st_len_str (by omega) ?_
    walk_at "w"
    refine ite2 (fun h1 => ?_) (fun h1 => ?_)
    · have h2 : a < z.length := by have := of_decide_eq_true h1; omega
      obtain ⟨c, h3, hd⟩ := at_drop h2
      refine ⟨_, fun _ _ z => z, ?_⟩
      walk_at "w"
      refine ⟨_, _, _, rfl, z, LETs, a, rfl, rfl, rfl, hz, by omega, ?_⟩
      walk_at "w"
      refine ⟨_, _, _, rfl, z, FIGs, a, rfl, rfl, rfl, hz, by omega, ?_⟩
      rw [hd]
      rw [hd] at hk
      have htl : (z.cps.toList.drop (a + 1)).length = z.length - (a + 1) := by rw [List.length_drop, len_toList]
      generalize z.cps.toList.drop (a + 1) = t at *
      have hdc : ∀ n, 0 < n → n ≤ t.length + 1 → (c :: t).drop n = z.cps.toList.drop (a + n) := fun n h0 hn => by rw [← hd, List.drop_drop]
      refine st_add_str ?_ ?_
      · rw [S_len, S_len, List.length_take, List.length_take]
        simp only [List.length_cons]; omega
      rw [S_app]
      have hWd : (c :: t).take (runLen LETs.cps.toList (c :: t)) ++ (c :: t).take (runLen FIGs.cps.toList (c :: t)) = dueWord (c :: t) := rfl
      rw [hWd]
      have hdw := due_cases c t
      have hwl : (dueWord (c :: t)).length ≤ 8000 := by
        rcases hdw with ⟨e, _⟩ | ⟨n, h0, h1, e, _⟩ | ⟨n, h0, h1, e, _⟩
        · rw [e]; decide
        · rw [e, List.length_take]; simp only [List.length_cons]; omega
        · rw [e, List.length_take]; simp only [List.length_cons]; omega
      generalize dueWord (c :: t) = wd at *
      have e1 : decide (S wd = ("" : Str)) = decide (wd = []) := by rw [S_nil]; exact decide_eq_decide.mpr S_inj
      have eN : decide (c ∈ (" \n/" : Str).cps.toList) = decide (c = 32 ∨ c = 10 ∨ c = 47) := by
        have e : (" \n/" : Str).cps.toList = [32, 10, 47] := by decide +kernel
        rw [e]; simp
      have ea : ("a" : Str) = S [97] := by decide +kernel
      have e0 : ("0" : Str) = S [48] := by decide +kernel
      have err : wordLen (c :: t) = none → c ≠ 10 → c ≠ 32 → Q (.int (a : Int)) H' := fun e h10 h32 => by
        rw [scan_bad h10 h32 e] at hk
        rw [hk] at k
        exact k H' hs
      walk_at "w"
      rw [e1]
      rcases hdw with ⟨hw, hL, hF, hwl2⟩ | ⟨n, n0, n1, hw, hL, hwl2⟩ | ⟨n, n0, n1, hw, hF, hL, hwl2⟩
      · subst hw
        rw [decide_eq_true rfl]
        walk_at "w"
        refine st_ix_str (by omega) h3 ?_
        walk_at "w"
        rw [eN]
        by_cases hc : c = 32 ∨ c = 10 ∨ c = 47
        · rw [decide_eq_true hc]
          walk_at "w"
          rw [e1, decide_eq_true rfl]
          walk_at "w"
          rw [e1, decide_eq_true rfl]
          walk_at "w"
          rcases hc with hc | hc | hc
          · refine tail_blank (by omega) hwl h3 hc ?_
            subst hc
            rw [scan_blank] at hk
            exact ⟨z.length - (a + 1), by omega, a + 1, p, q, ps, rows, cur, _, rfl, by omega, rfl, hs, hp, hP, hpps, hpq, by omega, by omega, pr, hq, by rw [hk, ← hdc 1 (by omega) (by omega)]; rfl⟩
          · refine tail_eol (by omega) hwl h3 hc hP (by rw [List.length_append, List.length_map]; show ps.length + 1 ≤ _; omega) fun l hl => ?_
            subst hc
            rw [scan_eol] at hk
            have hlp : l ≠ p := fun e => by rw [e, hP] at hl; cases hl
            have hne : ∀ y ∈ ps ++ [q], y ≠ p := fun y hy e => by
              subst e
              rcases List.mem_append.mp hy with h | h
              · exact hpps h
              · exact hpq (List.mem_singleton.mp h)
            refine ⟨z.length - (a + 1), by omega, a + 1, p, l, ps ++ [q], rows ++ [cur], [], _, rfl, by omega, rfl, Same.mut (hs.trans (same_new hl)) hp, hp, ?_, fun hm => hne p hm rfl, hlp.symm, ?_, Nat.zero_le _, ?_, ?_, ?_⟩
            · rw [upd_same, List.map_append]; rfl
            · rw [List.length_append]; show ps.length + 1 ≤ _; omega
            · refine paired_mem (paired_snoc pr hq) fun y ws hy e => ?_
              rw [upd_ne (hne y hy), upd_ne (ne_of_none e hl)]; exact e
            · rw [upd_ne hlp, upd_same]; rfl
            · rw [hk, ← hdc 1 (by omega) (by omega)]; rfl
          · rw [if_pos hc] at hwl2
            have h10 : c ≠ 10 := by omega
            have h32 : c ≠ 32 := by omega
            rw [scan_word h10 h32 hwl2] at hk
            refine tail_word (x := [c]) (by omega) hwl h3 h10 h32 hP (by rw [List.length_map]; omega) hq (by omega) rfl fun p' l H'' s2 hp' hl hpl2 hP' hl' => ?_
            refine ⟨z.length - (a + 1), by omega, a + 1, p', l, ps, rows, cur ++ [[c]], _, rfl, by omega, rfl, hs.trans s2, hs.free hp', hP', fun hm => ?_, hpl2, by omega, by rw [List.length_append]; show cur.length + 1 ≤ _; omega, L2.Paired.mapP pr fun y ws e => s2 _ _ e, hl', by rw [hk, ← hdc 1 (by omega) (by omega)]; rfl⟩
            obtain ⟨j, hj⟩ := List.getElem?_of_mem hm
            obtain ⟨ww, _, e⟩ := pget pr hj
            rw [hp'] at e; cases e
        · rw [decide_eq_false hc]
          walk_at "w"
          rw [if_neg (by omega)] at hwl2
          exact err hwl2 (by omega) (by omega)
      · have hLc := (mem_LET c).mp hL
        have hne : wd ≠ [] := fun e => by
          rw [e] at hw
          have := congrArg List.length hw
          simp only [List.length_nil, List.length_take, List.length_cons] at this; omega
        have hn : wd.length = n := by rw [hw, List.length_take]; simp only [List.length_cons]; omega
        have h0 : (S wd).cps.toList[0]? = some c := by
          show wd[0]? = some c
          rw [hw, List.getElem?_take_of_lt n0]; rfl
        rw [decide_eq_false hne]
        walk_at "w"
        rw [e1, decide_eq_false hne]
        walk_at "w"
        refine st_len_str (by rw [S_len]; omega) ?_
        walk_at "w"
        refine st_ix_str0 (by rw [S_len]; omega) h0 ?_
        walk_at "w"
        rw [ea]
        refine st_lt_str ?_
        rw [show decide ((⟨#[c]⟩ : Str).cps.toList < (S [97]).cps.toList) = false from (sign_lt c 97).trans (decide_eq_false (by omega))]
        walk_at "w"
        refine st_int_bl ?_
        refine st_mul (a := 3) (b := 1) (by decide) (by decide) (by decide) (by decide) (by decide) ?_
        walk_at "w"
        rw [S_len, hn]
        refine ite2 (fun h4 => ?_) (fun h4 => ?_)
        · have h5 : ¬ n ≤ 8 := by
            have := of_decide_eq_true h4
            simp only [Bool.false_eq_true, if_false] at this
            omega
          rw [if_neg h5] at hwl2
          walk_at "w"
          exact err hwl2 (by omega) (by omega)
        · have h5 : n ≤ 8 := by
            have : ¬ _ := fun e => h4 (decide_eq_true e)
            simp only [Bool.false_eq_true, if_false] at this
            omega
          rw [if_pos h5] at hwl2
          have h10 : c ≠ 10 := by omega
          have h32 : c ≠ 32 := by omega
          rw [scan_word h10 h32 hwl2, ← hw] at hk
          walk_at "w"
          rw [e1, decide_eq_false hne]
          walk_at "w"
          refine st_ix_str0 (by rw [S_len]; omega) h0 ?_
          walk_at "w"
          rw [sign_dec e0, decide_eq_false (by omega)]
          walk_at "w"
          refine tail_word (x := wd) (by omega) hwl h3 h10 h32 hP (by rw [List.length_map]; omega) hq (by omega) (by rw [if_neg hne]) fun p' l H'' s2 hp' hl hpl2 hP' hl' => ?_
          have em : max 1 wd.length = n := by omega
          rw [em]
          refine ⟨z.length - (a + n), by omega, a + n, p', l, ps, rows, cur ++ [wd], _, rfl, by omega, rfl, hs.trans s2, hs.free hp', hP', fun hm => ?_, hpl2, by omega, by rw [List.length_append]; show cur.length + 1 ≤ _; omega, L2.Paired.mapP pr fun y ws e => s2 _ _ e, hl', by rw [hk, hdc n n0 n1]⟩
          obtain ⟨j, hj⟩ := List.getElem?_of_mem hm
          obtain ⟨ww, _, e⟩ := pget pr hj
          rw [hp'] at e; cases e
      · have hFc := (mem_FIG c).mp hF
        have hne : wd ≠ [] := fun e => by
          rw [e] at hw
          have := congrArg List.length hw
          simp only [List.length_nil, List.length_take, List.length_cons] at this; omega
        have hn : wd.length = n := by rw [hw, List.length_take]; simp only [List.length_cons]; omega
        have h0 : (S wd).cps.toList[0]? = some c := by
          show wd[0]? = some c
          rw [hw, List.getElem?_take_of_lt n0]; rfl
        rw [decide_eq_false hne]
        walk_at "w"
        rw [e1, decide_eq_false hne]
        walk_at "w"
        refine st_len_str (by rw [S_len]; omega) ?_
        walk_at "w"
        refine st_ix_str0 (by rw [S_len]; omega) h0 ?_
        walk_at "w"
        rw [ea]
        refine st_lt_str ?_
        rw [show decide ((⟨#[c]⟩ : Str).cps.toList < (S [97]).cps.toList) = true from (sign_lt c 97).trans (decide_eq_true (by omega))]
        walk_at "w"
        refine st_int_bl ?_
        refine st_mul (a := 3) (b := 1) (by decide) (by decide) (by decide) (by decide) (by decide) ?_
        walk_at "w"
        rw [S_len, hn]
        have h10 : c ≠ 10 := by omega
        have h32 : c ≠ 32 := by omega
        refine ite2 (fun h4 => ?_) (fun h4 => ?_)
        · have h5 : ¬ n ≤ 12 := by
            have := of_decide_eq_true h4
            simp only [if_true] at this
            omega
          rw [if_neg (fun z => h5 z.1)] at hwl2
          walk_at "w"
          exact err hwl2 h10 h32
        · have h5 : n ≤ 12 := by
            have : ¬ _ := fun e => h4 (decide_eq_true e)
            simp only [if_true] at this
            omega
          walk_at "w"
          rw [e1, decide_eq_false hne]
          walk_at "w"
          refine st_ix_str0 (by rw [S_len]; omega) h0 ?_
          walk_at "w"
          rw [sign_dec e0]
          refine ite2 (fun h6 => ?_) (fun h6 => ?_)
          · have h7 : c = 48 := of_decide_eq_true h6
            walk_at "w"
            have e3 : decide (S wd = ("0" : Str)) = decide (n = 1) := by
              rw [e0]
              refine decide_eq_decide.mpr ⟨fun e => ?_, fun e => ?_⟩
              · have := S_inj.mp e
                rw [this] at hn; exact hn.symm
              · rw [hw, e, h7]; rfl
            rw [e3]
            by_cases h8 : n = 1
            · rw [decide_eq_true h8]
              rw [if_pos ⟨h5, .inr h8⟩] at hwl2
              rw [scan_word h10 h32 hwl2, ← hw] at hk
              walk_at "w"
              refine tail_word (x := wd) (by omega) hwl h3 h10 h32 hP (by rw [List.length_map]; omega) hq (by omega) (by rw [if_neg hne]) fun p' l H'' s2 hp' hl hpl2 hP' hl' => ?_
              have em : max 1 wd.length = n := by omega
              rw [em]
              refine ⟨z.length - (a + n), by omega, a + n, p', l, ps, rows, cur ++ [wd], _, rfl, by omega, rfl, hs.trans s2, hs.free hp', hP', fun hm => ?_, hpl2, by omega, by rw [List.length_append]; show cur.length + 1 ≤ _; omega, L2.Paired.mapP pr fun y ws e => s2 _ _ e, hl', by rw [hk, hdc n n0 n1]⟩
              obtain ⟨j, hj⟩ := List.getElem?_of_mem hm
              obtain ⟨ww, _, e⟩ := pget pr hj
              rw [hp'] at e; cases e
            · rw [decide_eq_false h8]
              rw [if_neg (fun z => z.2.elim (fun y => y h7) h8)] at hwl2
              walk_at "w"
              exact err hwl2 h10 h32
          · have h7 : c ≠ 48 := fun e => h6 (decide_eq_true e)
            rw [if_pos ⟨h5, .inl h7⟩] at hwl2
            rw [scan_word h10 h32 hwl2, ← hw] at hk
            walk_at "w"
            refine tail_word (x := wd) (by omega) hwl h3 h10 h32 hP (by rw [List.length_map]; omega) hq (by omega) (by rw [if_neg hne]) fun p' l H'' s2 hp' hl hpl2 hP' hl' => ?_
            have em : max 1 wd.length = n := by omega
            rw [em]
            refine ⟨z.length - (a + n), by omega, a + n, p', l, ps, rows, cur ++ [wd], _, rfl, by omega, rfl, hs.trans s2, hs.free hp', hP', fun hm => ?_, hpl2, by omega, by rw [List.length_append]; show cur.length + 1 ≤ _; omega, L2.Paired.mapP pr fun y ws e => s2 _ _ e, hl', by rw [hk, hdc n n0 n1]⟩
            obtain ⟨j, hj⟩ := List.getElem?_of_mem hm
            obtain ⟨ww, _, e⟩ := pget pr hj
            rw [hp'] at e; cases e
    · have h2 : ¬ a < z.length := by intro z; exact h1 (decide_eq_true (by omega))
      walk_at "w"
      rw [List.drop_eq_nil_of_le (by rw [len_toList]; omega), scan_nil] at hk
      rw [hk] at k
      exact k p H' hs ⟨ps ++ [q], by rw [hP, List.map_append]; rfl, paired_snoc pr hq⟩
theorem ok__law_due (T : Txt K mg) (c__law_run : Kp P w K mg base CX0 1 "_law_run" ["_law_text_here", "_law_at", "_law_signs"] (sp__law_run K)) : Kp P w K mg base CX0 2 "_law_due" ["_law_text_here"] (sp__law_due K) := by
  obtain ⟨fd, F⟩ := T.c.def_ 16 (d := d__law_due) rfl
  refine ⟨⟨_, fd, T.g__law_due, F.kp, F.bindsN fun _ _ _ _ _ _ us hl => match us, hl with | [_], _ => rfl, F.ok sc__law_due Sp1.len (fun cdv A outer s H vs Q E hr h => ?_)⟩⟩
  obtain ⟨v0, rfl, h⟩ := h
  refine ⟨t__law_due K, PSs.nox (?_), pure__law_due T h⟩
  exact (pss_cons (ps_if (pt_cmpR op_gtA (pe_callB call_len (by rfl) T.n_len (by decide +kernel) (pa_cons (pv 0) pa_nil)) pe_int (nomark _)) (pss_one (ps_ret pe_int)) pss_nil)
      (pss_cons (ps_set (i := 1) sc__law_due.nd rfl (by first | exact Or.inl rfl | exact Or.inr rfl) (pe_lst (pa_cons (pe_lst pa_nil) pa_nil)))
      (pss_cons (ps_set (i := 2) sc__law_due.nd rfl (by first | exact Or.inl rfl | exact Or.inr rfl) pe_int)
      (pss_cons (ps_while PassesOwn.never (pt_cmpR op_ltA (pv 2) (pe_callB call_len (by rfl) T.n_len (by decide +kernel) (pa_cons (pv 0) pa_nil)) (nomark _)) (pss_cons (ps_set (i := 3) sc__law_due.nd rfl (by first | exact Or.inl rfl | exact Or.inr rfl) (pe_op op_addA (pe_cK c__law_run (hr.mono (by decide)) rfl (pa_cons (pv 0) (pa_cons (pv 2) (pa_cons pe_str pa_nil)))) (pe_cK c__law_run (hr.mono (by decide)) rfl (pa_cons (pv 0) (pa_cons (pv 2) (pa_cons pe_str pa_nil))))))
      (pss_cons (ps_if (PW.pt (pw_or (PW.pt (pw_and (pt_cmpR (op_eqA hr) (pv 3) pe_str (nomark _)) (pw_and1 (pt_cmpR (op_ninA hr) (pe_ixA hr (pv 0) (pv 2) (fun _ _ => rfl)) pe_str (by rfl))))) (pw_or1 (PW.pt (pw_and (pt_cmpR (op_neA hr) (pv 3) pe_str (nomark _)) (pw_and1 (pt_cmpR op_gtA (pe_callB call_len (by rfl) T.n_len (by decide +kernel) (pa_cons (pv 3) pa_nil)) (pe_op op_addA pe_int (pe_op op_mulA pe_int (pe_callTy call_intA (by rfl) T.n_int (by decide +kernel) (pa_cons (pe_cmpR op_ltA (pe_ixA hr (pv 3) pe_int (fun _ _ => rfl)) pe_str (nomark _)) pa_nil)))) (nomark _)))))))) (pss_one (ps_ret (pv 2))) pss_nil)
      (pss_cons (ps_if (PW.pt (pw_and (pt_cmpR (op_neA hr) (pv 3) pe_str (nomark _)) (pw_and (pt_cmpR (op_eqA hr) (pe_ixA hr (pv 3) pe_int (fun _ _ => rfl)) pe_str (nomark _)) (pw_and1 (pt_cmpR (op_neA hr) (pv 3) pe_str (nomark _)))))) (pss_one (ps_ret (pv 2))) pss_nil)
      (pss_cons (ps_if (pt_cmpR (op_eqA hr) (pe_ixA hr (pv 0) (pv 2) (fun _ _ => rfl)) pe_str (nomark _)) (pss_one (ps_expr (pe_bm PySem.F.plainAttrs_list PySem.F.slot_list_append PySem.F.type_list_append mt_append (pv 1) (pa_cons (pe_lst pa_nil) pa_nil)))) (pss_one (ps_if (pt_cmpR (op_neA hr) (pe_ixA hr (pv 0) (pv 2) (fun _ _ => rfl)) pe_str (nomark _)) (pss_one (ps_set (i := 1) sc__law_due.nd rfl (by first | exact Or.inl rfl | exact Or.inr rfl) (pe_op op_addA (pe_slice sl_A (pv 1) po_none (po_some (pe_un un_neg pe_int))) (pe_lst (pa_cons (pe_op op_addA (pe_ixA hr (pv 1) (pe_un un_neg pe_int) (fun _ _ => rfl)) (pe_lst (pa_cons (pe_ifExp (pt_cmpR (op_eqA hr) (pv 3) pe_str (nomark _)) (pe_ixA hr (pv 0) (pv 2) (fun _ _ => rfl)) (pv 3)) pa_nil))) pa_nil))))) pss_nil)))
      (pss_one (ps_set (i := 2) sc__law_due.nd rfl (by first | exact Or.inl rfl | exact Or.inr rfl) (pe_op op_addA (pv 2) (pe_callB (call_max2 rfl) (by rfl) T.n_max (by decide +kernel) (pa_cons pe_int (pa_cons (pe_callB call_len (by rfl) T.n_len (by decide +kernel) (pa_cons (pv 3) pa_nil)) pa_nil)))))))))))
      (pss_one (ps_ret (pv 1)))))))
end
end K01
set_option Elab.async false
set_option linter.all false
set_option maxRecDepth 100000
set_option maxHeartbeats 1000000
namespace K01
open PySem PySem.Spec PyProof.Rows L2 My
section
variable {P : Program} {w : World} {K : PySem.W.Frag} {mg : Str → Option Value} {base : Heap}
/-! ### _law_class: of a BadSign -/
def pr_class (K : PySem.W.Frag) : V → Hp → VK → XK → Prop := fun x H Q _ => ∃ (a d : Addr) (fs : List (Str × V)), x = .ref a ∧ XV H a (He.ga K "BadSign") d fs ∧ ∀ H', Same H H' → Q (.str "sign") H'
def sp__law_class (K : PySem.W.Frag) : Sp := Sp1 (pr_class K)
def t__law_class (K : PySem.W.Frag) : TS :=
  (tSeq (tAsg (tLst (tCons (tC (.str "sign")) (tCons (tC (.str "text")) (tCons (tC (.str "facts")) (tCons (tC (.str "no one")) (tCons (tC (.str "alive")) (tCons (tC (.str "line")) (tCons (tC (.str "many")) tNil)))))))) (gName 1))
  (tSeq (tAsg (tLst (tCons (tCB (rIsA K) (tCons (tVar 0) (tCons (tC (.ref (He.ga K "BadSign"))) tNil))) (tCons (tCB (rIsA K) (tCons (tVar 0) (tCons (tC (.ref (He.ga K "BadText"))) tNil))) (tCons (tCB (rIsA K) (tCons (tVar 0) (tCons (tC (.ref (He.ga K "BadFacts"))) tNil))) (tCons (tCB (rIsA K) (tCons (tVar 0) (tCons (tC (.ref (He.ga K "NoOne"))) tNil))) tNil))))) (gName 2))
  (tSeq (tAsg (tOp (rAddA K) (tVar 2) (tLst (tCons (tCB (rIsA K) (tCons (tVar 0) (tCons (tC (.ref (He.ga K "Alive"))) tNil))) (tCons (tCB (rIsA K) (tCons (tVar 0) (tCons (tC (.ref (He.ga K "BadLine"))) tNil))) (tCons (tCB (rIsA K) (tCons (tVar 0) (tCons (tC (.ref (He.ga K "TooMany"))) tNil))) tNil))))) (gName 2))
  (tSeq (tIfS (tOr (tTest (tOp (rNeA K) (tBM K "list" (rCountA K) (tVar 2) (tCons (tC (.bl true)) tNil)) (tC (.int 1)))) (tNot (tB (tCB (rIsA K) (tCons (tVar 0) (tCons (tC (.ty "ValueError")) tNil)))))) (tRet (tC (.str "several"))) tNext)
  (tRet (tIxA K (tVar 1) (tBM K "list" (rIndex K) (tVar 2) (tCons (tC (.bl true)) tNil))))))))
theorem pure__law_class (T : Txt K mg) {x : V} {H : Hp} {Q : VK} {E : XK} (h : pr_class K x H Q E) : t__law_class K { nx := fun _ H' => Q .non H', rt := Q } [some x, none, none] H := by
  obtain ⟨a, d, fs, rfl, xv, q⟩ := h
  unfold t__law_class
  walk_at "w"
  refine ⟨show 7 ≤ sizeLine by decide, fun p hp => ?_⟩
  walk_at "w"
  have s1 : Same H _ := same_new (o := .lst [V.str "sign", V.str "text", V.str "facts", V.str "no one", V.str "alive", V.str "line", V.str "many"]) hp
  have hP : upd H p (.lst [V.str "sign", V.str "text", V.str "facts", V.str "no one", V.str "alive", V.str "line", V.str "many"]) p = some (.lst [V.str "sign", V.str "text", V.str "facts", V.str "no one", V.str "alive", V.str "line", V.str "many"]) := upd_same
  generalize upd H p (.lst [V.str "sign", V.str "text", V.str "facts", V.str "no one", V.str "alive", V.str "line", V.str "many"]) = H1 at *
  have xv := xv.same s1
  refine st_isX xv T.oex_BadSign (.own _) (of_decide_eq_true T.ex_6) ?_
  walk_at "w"
  refine st_isX xv T.oex_BadSign (.own _) (of_decide_eq_true T.ex_7) ?_
  walk_at "w"
  refine st_isX xv T.oex_BadSign (.own _) (of_decide_eq_true T.ex_8) ?_
  walk_at "w"
  refine st_isX xv T.oex_BadSign (.own _) (of_decide_eq_true T.ex_9) ?_
  walk_at "w"
  refine ⟨show 4 ≤ sizeLine by decide, fun q1 hq1 => ?_⟩
  walk_at "w"
  have s2 : Same H1 _ := same_new (o := .lst [V.bl true, V.bl false, V.bl false, V.bl false]) hq1
  have xv := xv.same s2
  refine st_isX xv T.oex_BadSign (.own _) (of_decide_eq_true T.ex_10) ?_
  walk_at "w"
  refine st_isX xv T.oex_BadSign (.own _) (of_decide_eq_true T.ex_11) ?_
  walk_at "w"
  refine st_isX xv T.oex_BadSign (.own _) (of_decide_eq_true T.ex_12) ?_
  walk_at "w"
  refine ⟨show 3 ≤ sizeLine by decide, fun q2 hq2 => ?_⟩
  have n21 : q2 ≠ q1 := fun e => by rw [e, upd_same] at hq2; cases hq2
  refine st_add_list (by rw [upd_ne n21.symm, upd_same]) upd_same (by decide) fun q3 hq3 => ?_
  walk_at "w"
  have s3 : Same H1 _ := (s2.trans (same_new (o := .lst [V.bl false, V.bl false, V.bl false]) hq2)).trans (same_new (o := .lst ([V.bl true, V.bl false, V.bl false, V.bl false] ++ [V.bl false, V.bl false, V.bl false])) hq3)
  have hP := s3 _ _ hP
  refine ⟨.inl ⟨rfl, _, SqL.of upd_same⟩, ?_⟩
  walk_at "w"
  refine ⟨q3, _, _, rfl, rfl, SqL.of upd_same, rfl, rfl, ?_⟩
  walk_at "w"
  refine ite2 (fun h => absurd h (by decide)) (fun _ => ?_)
  have xv := xv.same ((same_new (o := .lst [V.bl false, V.bl false, V.bl false]) hq2).trans (same_new (o := .lst ([V.bl true, V.bl false, V.bl false, V.bl false] ++ [V.bl false, V.bl false, V.bl false])) hq3))
  walk_at "w"
  refine st_isX xv T.oex_BadSign (.ty _) (of_decide_eq_true T.ex_13) ?_
  walk_at "w"
  refine ⟨.inl ⟨rfl, _, SqL.of upd_same⟩, ?_⟩
  walk_at "w"
  refine ⟨q3, _, _, 0, V.bl true, rfl, rfl, SqL.of upd_same, rfl, rfl, rfl, rfl, fun m z hm _ => absurd hm (by omega), ?_⟩
  refine st_ix_list (v := V.str "sign") (SqL.of hP) rfl ?_
  walk_at "w"
  exact q _ (s1.trans s3)
theorem ok__law_class (T : Txt K mg)  : Kp P w K mg base CX0 1 "_law_class" ["_law_e"] (sp__law_class K) := by
  obtain ⟨fd, F⟩ := T.c.def_ 17 (d := d__law_class) rfl
  refine ⟨⟨_, fd, T.g__law_class, F.kp, F.bindsN fun _ _ _ _ _ _ us hl => match us, hl with | [_], _ => rfl, F.ok sc__law_class Sp1.len (fun cdv A outer s H vs Q E hr h => ?_)⟩⟩
  obtain ⟨v0, rfl, h⟩ := h
  refine ⟨t__law_class K, PSs.nox (?_), pure__law_class T h⟩
  exact (pss_cons (ps_set (i := 1) sc__law_class.nd rfl (by first | exact Or.inl rfl | exact Or.inr rfl) (pe_lst (pa_cons pe_str (pa_cons pe_str (pa_cons pe_str (pa_cons pe_str (pa_cons pe_str (pa_cons pe_str (pa_cons pe_str pa_nil)))))))))
      (pss_cons (ps_set (i := 2) sc__law_class.nd rfl (by first | exact Or.inl rfl | exact Or.inr rfl) (pe_lst (pa_cons (pe_callB call_isA (by rfl) T.n_isinstance (by decide +kernel) (pa_cons (pv 0) (pa_cons (pe_gr rfl T.g_BadSign) pa_nil))) (pa_cons (pe_callB call_isA (by rfl) T.n_isinstance (by decide +kernel) (pa_cons (pv 0) (pa_cons (pe_gr rfl T.g_BadText) pa_nil))) (pa_cons (pe_callB call_isA (by rfl) T.n_isinstance (by decide +kernel) (pa_cons (pv 0) (pa_cons (pe_gr rfl T.g_BadFacts) pa_nil))) (pa_cons (pe_callB call_isA (by rfl) T.n_isinstance (by decide +kernel) (pa_cons (pv 0) (pa_cons (pe_gr rfl T.g_NoOne) pa_nil))) pa_nil))))))
      (pss_cons (ps_set (i := 2) sc__law_class.nd rfl (by first | exact Or.inl rfl | exact Or.inr rfl) (pe_op op_addA (pv 2) (pe_lst (pa_cons (pe_callB call_isA (by rfl) T.n_isinstance (by decide +kernel) (pa_cons (pv 0) (pa_cons (pe_gr rfl T.g_Alive) pa_nil))) (pa_cons (pe_callB call_isA (by rfl) T.n_isinstance (by decide +kernel) (pa_cons (pv 0) (pa_cons (pe_gr rfl T.g_BadLine) pa_nil))) (pa_cons (pe_callB call_isA (by rfl) T.n_isinstance (by decide +kernel) (pa_cons (pv 0) (pa_cons (pe_gr rfl T.g_TooMany) pa_nil))) pa_nil))))))
      (pss_cons (ps_if (PW.pt (pw_or (pt_cmpR (op_neA hr) (pe_bm PySem.F.plainAttrs_list PySem.F.slot_list_count PySem.F.type_list_count mt_countA (pv 2) (pa_cons pe_bl pa_nil)) pe_int (nomark _)) (pw_or1 (pt_not (pt_val (pe_callB call_isA (by rfl) T.n_isinstance (by decide +kernel) (pa_cons (pv 0) (pa_cons (pe_bltn (v := .ty "ValueError") (by rfl) T.n_ValueError (by decide +kernel) rfl) pa_nil)))))))) (pss_one (ps_ret pe_str)) pss_nil)
      (pss_one (ps_ret (pe_ixA hr (pv 1) (pe_bm PySem.F.plainAttrs_list PySem.F.slot_list_index PySem.F.type_list_index mt_index (pv 2) (pa_cons pe_bl pa_nil)) (fun _ _ => rfl))))))))
/-! ### _law_said -/
def pr_said (K : PySem.W.Frag) : V → Hp → VK → XK → Prop := fun x H Q _ =>
  (∃ z : Str, x = .str z ∧ z.length ≤ 100000 ∧ if z.length ≤ 8000 then (match scan 0 [] [] z.cps.toList with
    | .ok rows => ∀ p H', Same H H' → RowsAt H H' p rows → Q (.ref p) H'
    | .error e => ∀ p H', Same H H' → H' p = some (.tup [.int (e : Int)]) → Q (.ref p) H') else ∀ p H', Same H H' → H' p = some (.tup [.int 0]) → Q (.ref p) H') ∨
  (∃ t, TyX K H x t ∧ PySem.W.kitOne K t (.type "str") = some false ∧ ∀ p H', Same H H' → H' p = some (.tup [.int 0]) → Q (.ref p) H')
def sp__law_said (K : PySem.W.Frag) : Sp := Sp1 (pr_said K)
def t__law_said (K : PySem.W.Frag) : TS :=
  (tSeq (tAsg (tC .non) (gName 1))
  (tSeq (tAsg (tC .non) (gName 2))
  (tSeq (tTryHold K (He.ga K "HeirError") 3 1 (fun W => (tAsg (tCallS (sp_text_words K) (WE W) (tCons (tVar 0) tNil)) (gName 2))))
  (tSeq (tIfS (tB (tIsN (tVar 1))) (tRet (tVar 2)) tNext)
  (tRet (tIf (tAnd (tTest (tOp (rEqA K) (tCall (sp__law_class K) [] E0 (tCons (tVar 1) tNil)) (tC (.str "sign")))) (tNot (tB (tCB (rIsA K) (tCons (tXfA K (tVar 1) "spot") (tCons (tC (.ty "bool")) tNil)))))) (tTup (tCons (tXfA K (tVar 1) "spot") tNil)) (tC .non)))))))
theorem pure__law_said (T : Txt K mg) {x : V} {H : Hp} {Q : VK} {E : XK} (h : pr_said K x H Q E) : t__law_said K { nx := fun _ H' => Q .non H', rt := Q } [some x, none, none, none] H := by
  unfold t__law_said
  walk_at "w"
  have raised : ∀ (j : Int), (∀ p H', Same H H' → H' p = some (.tup [.int j]) → Q (.ref p) H') → RaisedI K "BadSign" "spot" (.int j) H (WE (wHold K (He.ga K "HeirError") 3 1 ⟨fun σ H => (tSeq (tIfS (tB (tIsN (tVar 1))) (tRet (tVar 2)) tNext)
      (tRet (tIf (tAnd (tTest (tOp (rEqA K) (tCall (sp__law_class K) [] E0 (tCons (tVar 1) tNil)) (tC (.str "sign")))) (tNot (tB (tCB (rIsA K) (tCons (tXfA K (tVar 1) "spot") (tCons (tC (.ty "bool")) tNil)))))) (tTup (tCons (tXfA K (tVar 1) "spot") tNil)) (tC .non)))) ⟨fun _ H' => Q .non H', Q, fun _ _ => False, fun _ _ => False⟩ σ H, Q, fun _ _ => False, fun _ _ => False⟩) [some x, some .non, some .non, none]) := by
    intro j k d H' s hd hx
    refine ⟨of_decide_eq_true T.ex_5, fun a ha => ?_⟩
    have had : d ≠ a := fun e => by rw [e, ha] at hx; cases hx
    have xv : XV (upd H' a (XO a (.ref (He.ga K "BadSign")) (some d))) a (He.ga K "BadSign") d [("spot", .int j)] := .inl ⟨upd_same, by rw [upd_ne had]; exact hx⟩
    have s1 : Same H' (upd H' a (XO a (.ref (He.ga K "BadSign")) (some d))) := same_new ha
    generalize upd H' a (XO a (.ref (He.ga K "BadSign")) (some d)) = H1 at *
    walk_at "w"
    rw [decide_eq_false (fun e => by cases e)]
    walk_at "w"
    refine ⟨_, rfl, a, d, _, rfl, xv, fun H2 s2 => ?_⟩
    walk_at "w"
    rw [decide_eq_true rfl]
    walk_at "w"
    have xv2 := xv.same s2
    refine ⟨a, d, "BadSign", _, _, rfl, xv2, oexA_of T.oex_BadSign, He.eqO_ok T.ex_0, rfl, ?_⟩
    walk_at "w"
    refine st_isi (.ty _) tx_int (kit_ty (r := false) (by decide +kernel)) ?_
    walk_at "w"
    refine ⟨a, d, "BadSign", _, _, rfl, xv2, oexA_of T.oex_BadSign, He.eqO_ok T.ex_0, rfl, ?_⟩
    walk_at "w"
    refine ⟨show 1 ≤ sizeLine by decide, fun p hp => ?_⟩
    walk_at "w"
    exact k p _ (((s.trans s1).trans s2).trans (same_new hp)) upd_same
  rcases h with ⟨z, rfl, hz, k⟩ | ⟨t, ht, kt, k⟩
  · refine ⟨_, rfl, .inl ⟨z, rfl, hz, ?_⟩⟩
    by_cases h1 : z.length ≤ 8000
    · rw [if_pos h1] at k ⊢
      cases hsc : scan 0 [] [] z.cps.toList with
      | ok rows =>
        rw [hsc] at k
        intro p H' s hr
        walk_at "w"
        rw [decide_eq_true rfl]
        walk_at "w"
        exact k p H' s hr
      | error e =>
        rw [hsc] at k
        exact raised _ k
    · rw [if_neg h1] at k ⊢
      exact raised _ k
  · exact ⟨_, rfl, .inr ⟨t, ht, kt, raised _ k⟩⟩
theorem ok__law_said (T : Txt K mg) (c_text_words : Kp P w K mg base (L2.CX P w) 4 "text_words" ["text"] (sp_text_words K)) (c__law_class : Kp P w K mg base CX0 1 "_law_class" ["_law_e"] (sp__law_class K)) : Kp P w K mg base CX0 5 "_law_said" ["_law_thing"] (sp__law_said K) := by
  obtain ⟨fd, F⟩ := T.c.def_ 18 (d := d__law_said) rfl
  refine ⟨⟨_, fd, T.g__law_said, F.kp, F.bindsN fun _ _ _ _ _ _ us hl => match us, hl with | [_], _ => rfl, F.ok sc__law_said Sp1.len (fun cdv A outer s H vs Q E hr h => ?_)⟩⟩
  obtain ⟨v0, rfl, h⟩ := h
  refine ⟨t__law_said K, PSs.nox (?_), pure__law_said T h⟩
  exact (pss_cons (ps_set (i := 1) sc__law_said.nd rfl (by first | exact Or.inl rfl | exact Or.inr rfl) pe_non)
      (pss_cons (ps_set (i := 2) sc__law_said.nd rfl (by first | exact Or.inl rfl | exact Or.inr rfl) pe_non)
      (pss_cons (ps_try_hold (i := 3) (j := 1) (tb := fun W => (tAsg (tCallS (sp_text_words K) (WE W) (tCons (tVar 0) tNil)) (gName 2))) rfl rfl sc__law_said.nd rfl rfl rfl rfl rfl (by decide) (show 3 < List.length N__law_said from by decide) (by decide) (by decide) rfl ⟨rfl, by decide, Or.inl T.g_HeirError⟩ (fun W pn xe tk pw => (pss_one (ps_set (i := 2) sc__law_said.nd rfl (by first | exact Or.inl rfl | exact Or.inr rfl) (pe_cKX c_text_words (hr.mono (by decide)) rfl tk (pa_cons (pv 0) pa_nil))))))
      (pss_cons (ps_if (pt_cmp (pc_isN (pv 1))) (pss_one (ps_ret (pv 2))) pss_nil)
      (pss_one (ps_ret (pe_ifExp (PW.pt (pw_and (pt_cmpR (op_eqA hr) (pe_cK c__law_class (hr.mono (by decide)) rfl (pa_cons (pv 1) pa_nil)) pe_str (nomark _)) (pw_and1 (pt_not (pt_val (pe_callB call_isA (by rfl) T.n_isinstance (by decide +kernel) (pa_cons (pe_xfA (pv 1)) (pa_cons (pe_bltn (v := .ty "bool") (by rfl) T.n_bool (by decide +kernel) rfl) pa_nil)))))))) (pe_tup (pa_cons (pe_xfA (pv 1)) pa_nil)) pe_non)))))))
end
end K01
set_option Elab.async false
set_option linter.all false
set_option maxRecDepth 100000
set_option maxHeartbeats 1000000
namespace K01
open PySem PySem.Spec PyProof.Rows L2 My
section
variable {P : Program} {w : World} {K : PySem.W.Frag} {mg : Str → Option Value} {base : Heap}
/-! ### _law_by_hand -/
def sp__law_by_hand (K : PySem.W.Frag) : Sp := Sp1 (pr_draws K 10000000 20 (fun v _ => v = .bl true))
def t__law_by_hand (K : PySem.W.Frag) : TS :=
  (tSeq (tPar3 1 2 3 (tCons (tCall (sp__law_next K) [] E0 (tCons (tVar 0) (tCons (tC (.int 8001)) tNil))) (tCons (tTup (tCons (tCall (sp__law_next K) [] E0 (tCons (tVar 0) (tCons (tC (.int 100)) tNil))) (tCons (tCall (sp__law_next K) [] E0 (tCons (tVar 0) (tCons (tC (.int 50)) tNil))) tNil))) (tCons (tCall (sp__law_piece K) [] E0 (tCons (tVar 0) tNil)) tNil))))
  (tSeq (tAsg (tLst (tCons (tTup (tCons (tC (.str "died")) (tCons (tVar 3) (tCons (tC (.int 5)) tNil)))) tNil)) (gName 4))
  (tSeq (tIfS (tOr (tTest (tOp (rNeA K) (tXfA K (tMkX (He.ga K "BadSign") (sp_BadSign___init__ K) (tCons (tVar 1) tNil)) "spot") (tVar 1))) (tOr (tTest (tOp (rNeA K) (tXfA K (tMkX (He.ga K "BadText") (sp_BadText___init__ K) (tCons (tVar 2) tNil)) "spot") (tVar 2))) (tTest (tOp (rNeA K) (tXfA K (tMkX (He.ga K "BadFacts") (sp_BadFacts___init__ K) (tCons (tVar 4) tNil)) "facts") (tVar 4))))) (tRet (tC (.bl false))) tNext)
  (tRet (tOp (rEqA K) (tLst (tCons (tXfA K (tMkX (He.ga K "NoOne") (sp_NoOne___init__ K) (tCons (tVar 3) tNil)) "name") (tCons (tXfA K (tMkX (He.ga K "Alive") (sp_Alive___init__ K) (tCons (tVar 3) tNil)) "name") tNil))) (tOp rMulA (tLst (tCons (tVar 3) tNil)) (tC (.int 2))))))))
theorem pure__law_by_hand (T : Txt K mg) {x : V} {H : Hp} {Q : VK} {E : XK} (h : pr_draws K 10000000 20 (fun v _ => v = .bl true) x H Q E) : t__law_by_hand K { nx := fun _ H' => Q .non H', rt := Q } [some x, none, none, none, none] H := by
  obtain ⟨st, ns, m, rfl, hn, ls, hm, q⟩ := h
  unfold t__law_by_hand
  walk_at "w"
  refine use_next ls hn (by decide) (by omega) fun r1 H1 r10 r11 a1 => ?_
  walk_at "w"
  refine use_next a1.ls hn (by decide) (by omega) fun r2 H2 r20 r21 a2 => ?_
  walk_at "w"
  refine use_next a2.ls hn (by decide) (by omega) fun r3 H3 r30 r31 a3 => ?_
  have a3 := (a1.trans a2).trans a3
  walk_at "w"
  refine ⟨show 2 ≤ sizeLine by decide, fun p hp => ?_⟩
  walk_at "w"
  have a4 := a3.same (same_new (o := .tup [V.int r2, V.int r3]) hp)
  have hp4 : upd H3 p (.tup [V.int r2, V.int r3]) p = some (.tup [V.int r2, V.int r3]) := upd_same
  have hpst := a3.ls.ne_none hp
  generalize upd H3 p (.tup [V.int r2, V.int r3]) = H4 at *
  refine ⟨_, rfl, st, ns, _, rfl, hn, a4.ls, by omega, ?_⟩
  rintro y H5 ⟨z, rfl, hz, hzo⟩ a5
  have hp5 := a5.sb _ _ hpst hp4
  have a5 := a4.trans a5
  walk_at "w"
  refine ⟨show 3 ≤ sizeLine by decide, fun q1 hq1 => ?_⟩
  walk_at "w"
  refine ⟨show 1 ≤ sizeLine by decide, fun q2 hq2 => ?_⟩
  walk_at "w"
  have s6 : Same H5 _ := (same_new (o := .tup [V.str "died", V.str z, V.int 5]) hq1).trans (same_new (o := .lst [V.ref q1]) hq2)
  have n21 : q1 ≠ q2 := fun e => by rw [← e, upd_same] at hq2; cases hq2
  have hq1' : upd (upd H5 q1 (.tup [V.str "died", V.str z, V.int 5])) q2 (.lst [V.ref q1]) q1 = some (.tup [V.str "died", V.str z, V.int 5]) := by rw [upd_ne n21, upd_same]
  have hq2' : upd (upd H5 q1 (.tup [V.str "died", V.str z, V.int 5])) q2 (.lst [V.ref q1]) q2 = some (.lst [V.ref q1]) := upd_same
  generalize upd (upd H5 q1 (.tup [V.str "died", V.str z, V.int 5])) q2 (.lst [V.ref q1]) = H6 at *
  have hp6 := s6 _ _ hp5
  have a6 := a5.same s6
  refine mk_ok fun a d H7 s7 xv => ?_
  refine ⟨a, d, "BadSign", _, _, rfl, xv, oexA_of T.oex_BadSign, He.eqO_ok T.ex_0, rfl, ?_⟩
  walk_at "w"
  rw [decide_eq_true rfl]
  walk_at "w"
  refine mk_ok fun a d H8 s8 xv => ?_
  refine ⟨a, d, "BadText", _, _, rfl, xv, oexA_of T.oex_BadText, He.eqO_ok T.ex_1, rfl, ?_⟩
  walk_at "w"
  have s8' := s7.trans s8
  have dp : Dp K H8 (.ref p) (.tuple [.int r2, .int r3]) := .tup (.inl (.inl (s8' _ _ hp6))) (.cons (.int _) (.cons (.int _) .nil))
  refine st_neD dp dp (by rfl) (by rfl) ?_
  rw [eqv_same (by rfl)]
  walk_at "w"
  refine mk_ok fun a d H9 s9 xv => ?_
  refine ⟨a, d, "BadFacts", _, _, rfl, xv, oexA_of T.oex_BadFacts, He.eqO_ok T.ex_2, rfl, ?_⟩
  walk_at "w"
  have s9' := s8'.trans s9
  have dp2 : Dp K H9 (.ref q2) (.list [.tuple [.str "died", .str z, .int 5]]) := .lst (.inl (.inl (s9' _ _ hq2'))) (.cons (.tup (.inl (.inl (s9' _ _ hq1'))) (.cons (.str _) (.cons (.str _) (.cons (.int _) .nil)))) .nil)
  have hdied : PyData.strOk ("died" : Str) = true := by decide +kernel
  have sh2 : SeqAt.shaped (.list [.tuple [.str "died", .str z, .int 5]]) = true := by
    show (((PyData.strOk "died" && (PyData.strOk z && (true && true))) && true) && decide _) = true
    rw [hdied, hzo]; rfl
  refine st_neD dp2 dp2 sh2 sh2 ?_
  rw [eqv_same sh2]
  walk_at "w"
  refine mk_ok fun a d H10 s10 xv => ?_
  refine ⟨a, d, "NoOne", _, _, rfl, xv, oexA_of T.oex_NoOne, He.eqO_ok T.ex_3, rfl, ?_⟩
  walk_at "w"
  refine mk_ok fun a d H11 s11 xv => ?_
  refine ⟨a, d, "Alive", _, _, rfl, xv, oexA_of T.oex_Alive, He.eqO_ok T.ex_4, rfl, ?_⟩
  walk_at "w"
  refine ⟨show 2 ≤ sizeLine by decide, fun l1 hl1 => ?_⟩
  walk_at "w"
  refine ⟨show 1 ≤ sizeLine by decide, fun l2 hl2 => ?_⟩
  walk_at "w"
  refine st_rep upd_same (by decide) (by decide) (show 1 * 2 ≤ 1000000 by decide) fun l3 hl3 => ?_
  have n12 : l1 ≠ l2 := fun e => by rw [← e, upd_same] at hl2; cases hl2
  have n13 : l1 ≠ l3 := fun e => by rw [← e, upd_ne n12, upd_same] at hl3; cases hl3
  have dz : ∀ H', DpAll K H' [V.str z, V.str z] [.str z, .str z] := fun H' => .cons (.str _) (.cons (.str _) .nil)
  have sh3 : SeqAt.shaped (.list [.str z, .str z]) = true := by
    show ((PyData.strOk z && (PyData.strOk z && true)) && decide _) = true
    rw [hzo]; rfl
  refine st_eqD (d := .list [.str z, .str z]) (e := .list [.str z, .str z]) (.lst (SqL.of (xs := [V.str z, V.str z]) (by rw [upd_ne n13, upd_ne n12, upd_same])) (dz _)) (.lst (SqL.of (xs := [V.str z, V.str z]) (by rw [upd_same]; rfl)) (dz _)) sh3 sh3 ?_
  rw [eqv_same sh3]
  walk_at "w"
  refine q _ _ rfl ?_
  have s12 := ((s9'.trans s10).trans s11).trans ((same_new (o := .lst [V.str z, V.str z]) hl1).trans ((same_new (o := .lst [V.str z]) hl2).trans (same_new (o := .lst (List.replicate (Int.toNat 2) [V.str z]).flatten) hl3)))
  exact (a6.same s12).le (by omega)
theorem ok__law_by_hand (T : Txt K mg) (c__law_next : Kp P w K mg base CX0 1 "_law_next" ["_law_state", "_law_many"] (sp__law_next K)) (c__law_piece : Kp P w K mg base CX0 2 "_law_piece" ["_law_state"] (sp__law_piece K)) (x_Alive : Kx P w K mg base 1 "Alive" ["self", "name"] (sp_Alive___init__ K)) (x_BadFacts : Kx P w K mg base 1 "BadFacts" ["self", "facts"] (sp_BadFacts___init__ K)) (x_BadSign : Kx P w K mg base 1 "BadSign" ["self", "spot"] (sp_BadSign___init__ K)) (x_BadText : Kx P w K mg base 1 "BadText" ["self", "spot"] (sp_BadText___init__ K)) (x_NoOne : Kx P w K mg base 1 "NoOne" ["self", "name"] (sp_NoOne___init__ K)) : Kp P w K mg base CX0 3 "_law_by_hand" ["_law_state"] (sp__law_by_hand K) := by
  obtain ⟨fd, F⟩ := T.c.def_ 19 (d := d__law_by_hand) rfl
  refine ⟨⟨_, fd, T.g__law_by_hand, F.kp, F.bindsN fun _ _ _ _ _ _ us hl => match us, hl with | [_], _ => rfl, F.ok sc__law_by_hand Sp1.len (fun cdv A outer s H vs Q E hr h => ?_)⟩⟩
  obtain ⟨v0, rfl, h⟩ := h
  refine ⟨t__law_by_hand K, PSs.nox (?_), pure__law_by_hand T h⟩
  exact (pss_cons (ps_par3 (i := 1) (j := 2) (l := 3) (by rfl) sc__law_by_hand.nd rfl rfl rfl (by decide) (by decide) (by decide) rfl rfl rfl (pa_cons (pe_cK c__law_next (hr.mono (by decide)) rfl (pa_cons (pv 0) (pa_cons pe_int pa_nil))) (pa_cons (pe_tup (pa_cons (pe_cK c__law_next (hr.mono (by decide)) rfl (pa_cons (pv 0) (pa_cons pe_int pa_nil))) (pa_cons (pe_cK c__law_next (hr.mono (by decide)) rfl (pa_cons (pv 0) (pa_cons pe_int pa_nil))) pa_nil))) (pa_cons (pe_cK c__law_piece (hr.mono (by decide)) rfl (pa_cons (pv 0) pa_nil)) pa_nil))) (by rfl))
      (pss_cons (ps_set (i := 4) sc__law_by_hand.nd rfl (by first | exact Or.inl rfl | exact Or.inr rfl) (pe_lst (pa_cons (pe_tup (pa_cons pe_str (pa_cons (pv 3) (pa_cons pe_int pa_nil)))) pa_nil)))
      (pss_cons (ps_if (PW.pt (pw_or (pt_cmpR (op_neA hr) (pe_xfA (pe_mkX x_BadSign (hr.mono (by decide)) rfl (pa_cons (pv 1) pa_nil))) (pv 1) (nomark _)) (pw_or (pt_cmpR (op_neA hr) (pe_xfA (pe_mkX x_BadText (hr.mono (by decide)) rfl (pa_cons (pv 2) pa_nil))) (pv 2) (nomark _)) (pw_or1 (pt_cmpR (op_neA hr) (pe_xfA (pe_mkX x_BadFacts (hr.mono (by decide)) rfl (pa_cons (pv 4) pa_nil))) (pv 4) (nomark _)))))) (pss_one (ps_ret pe_bl)) pss_nil)
      (pss_one (ps_ret (pe_cmpR (op_eqA hr) (pe_lst (pa_cons (pe_xfA (pe_mkX x_NoOne (hr.mono (by decide)) rfl (pa_cons (pv 3) pa_nil))) (pa_cons (pe_xfA (pe_mkX x_Alive (hr.mono (by decide)) rfl (pa_cons (pv 3) pa_nil))) pa_nil))) (pe_op op_mulA (pe_lst (pa_cons (pv 3) pa_nil)) pe_int) (nomark _)))))))
/-! ### is_name -/
def isName (z : Str) : Bool := decide (1 ≤ z.length ∧ z.length ≤ 8) && (!decide (z ∈ toldL) && z.cps.toList.all fun c => decide (c ∈ LETs.cps.toList))
def pr_is_name : V → Hp → VK → XK → Prop := fun x H Q _ => ∃ z : Str, x = .str z ∧ z.length ≤ 100000 ∧ ∀ H', Same H H' → Q (.bl (isName z)) H'
def sp_is_name (K : PySem.W.Frag) : Sp := Sp1 pr_is_name
def t_is_name (K : PySem.W.Frag) : TS :=
  (tSeq (tIfS (tOr (tNot (tTest (tChain rLeA rLeA (tC (.int 1)) (tCB (rLenA K) (tCons (tVar 0) tNil)) (tC (.int 8))))) (tTest (tOp (rInA K false) (tVar 0) (tC (.ref (He.ga K "TOLD")))))) (tRet (tC (.bl false))) tNext)
  (tRet (tCB (rAll K) (tCons (tLc (iA K (tVar 0)) (gName 1) tYes (tInA K (tVar 1) (tC (.str "abcdefghijklmnopqrstuvwxyz"))) [1]) tNil))))
theorem inV_strs (z : Str) (l : List Str) : inV (.str z) (l.map V.str) = decide (z ∈ l) := by
  unfold inV
  induction l with
  | nil => rfl
  | cons y r ih =>
    rw [List.map_cons, List.any_cons, ih]
    show ((y == z) || decide (z ∈ r)) = decide (z ∈ y :: r)
    by_cases h : y = z
    · subst h; simp
    · have h2 : z ≠ y := fun e => h e.symm
      have e1 : (y == z) = false := by simpa using h
      rw [e1, Bool.false_or]
      exact decide_eq_decide.mpr ⟨fun h3 => List.mem_cons_of_mem _ h3, fun h3 => (List.mem_cons.mp h3).resolve_left h2⟩
theorem flat_strs (l : List Str) : (l.map V.str).all flatV = true := by
  rw [List.all_eq_true]
  intro v hv
  obtain ⟨z, _, rfl⟩ := List.mem_map.mp hv
  rfl
theorem dv_told (K : PySem.W.Frag) : dv_TOLD.map (He.Dv.v K) = toldL.map V.str := rfl
theorem pure_is_name (T : Txt K mg) {x : V} {H : Hp} {Q : VK} {E : XK} (h : pr_is_name x H Q E) : t_is_name K { nx := fun _ H' => Q .non H', rt := Q } [some x, none] H := by
  obtain ⟨z, rfl, hz, k⟩ := h
  unfold isName at k
  unfold t_is_name
  walk_at "w"
  refine st_len_str (by omega) ?_
  walk_at "w"
  have no : ¬ (1 ≤ z.length ∧ z.length ≤ 8) → Q (.bl false) H := fun e => by
    rw [decide_eq_false e] at k
    exact k H (Same.refl H)
  by_cases h1 : (1 : Int) ≤ z.length
  · rw [decide_eq_true h1]
    walk_at "w"
    by_cases h2 : ((z.length : Nat) : Int) ≤ 8
    · rw [decide_eq_true h2]
      have h3 : 1 ≤ z.length ∧ z.length ≤ 8 := ⟨by omega, by omega⟩
      rw [decide_eq_true h3, Bool.true_and] at k
      walk_at "w"
      refine st_in_tup (T.tup_TOLD H) rfl (by rw [dv_told]; exact flat_strs _) ?_
      rw [dv_told, inV_strs]
      walk_at "w"
      by_cases h4 : z ∈ toldL
      · rw [decide_eq_true h4] at k ⊢
        walk_at "w"
        exact k H (Same.refl H)
      · rw [decide_eq_false h4] at k ⊢
        walk_at "w"
        refine .inr (.inr ⟨z, rfl, fun D hD => ?_⟩)
        refine lcv walk_str hD z.cps.toList (by simp) (by rw [len_toList]; omega) (fun _ _ => trivial) (fun _ => true) (fun c => .bl (decide (c ∈ LETs.cps.toList))) ?_ ?_
        · rintro i c x H6 H7 hi s6 ⟨rfl, c', hc', rfl⟩ k1 k2 hk1 hk2
          have : c' = c := by
            rw [Array.getElem?_toList] at hi
            rw [hc'] at hi
            exact Option.some.inj hi
          subst this
          walk_at "w"
          refine ⟨rfl, ?_⟩
          walk_at "w"
          exact hk1 rfl _ (Same.refl _)
        · intro H6 s6 hL6
          rw [filter_yes] at hL6
          walk_at "w"
          refine ⟨D, z.cps.toList.map fun c => decide (c ∈ LETs.cps.toList), rfl, SqL.of (by rw [hL6, List.map_map]; rfl), ?_⟩
          have e : (z.cps.toList.map fun c => decide (c ∈ LETs.cps.toList)).all id = z.cps.toList.all fun c => decide (c ∈ LETs.cps.toList) := by rw [List.all_map]; rfl
          rw [e]
          walk_at "w"
          exact k H6 s6
    · rw [decide_eq_false h2]
      walk_at "w"
      exact no (by omega)
  · rw [decide_eq_false h1]
    walk_at "w"
    exact no (by omega)
theorem ok_is_name (T : Txt K mg)  : Kp P w K mg base CX0 1 "is_name" ["word"] (sp_is_name K) := by
  obtain ⟨fd, F⟩ := T.c.def_ 9 (d := d_is_name) rfl
  refine ⟨⟨_, fd, T.g_is_name, F.kp, F.bindsN fun _ _ _ _ _ _ us hl => match us, hl with | [_], _ => rfl, F.ok sc_is_name Sp1.len (fun cdv A outer s H vs Q E hr h => ?_)⟩⟩
  obtain ⟨v0, rfl, h⟩ := h
  refine ⟨t_is_name K, PSs.nox (?_), pure_is_name T h⟩
  exact (pss_cons (ps_if (PW.pt (pw_or (pt_not (pt_chain op_leA op_leA pe_int (pe_callB call_len (by rfl) T.n_len (by decide +kernel) (pa_cons (pv 0) pa_nil)) (pe_gi rfl T.g_MOST_LETTERS))) (pw_or1 (pt_cmpR (op_inA hr) (pv 0) (pe_gr rfl T.g_TOLD) (by rfl))))) (pss_one (ps_ret pe_bl)) pss_nil)
      (pss_one (ps_ret (pe_callB (cr_all rfl) (by rfl) T.n_all (by decide +kernel) (pa_cons (pe_lc (own := [("sign", 1)]) (g := (gName 1)) rfl sc_is_name.nd (pi_A (pv 0)) (blkOk_by (own := [("sign", 1)]) (N := N_is_name) (sc := defScope s_is_name) (by decide +kernel)) (fun _ _ _ _ _ => (pg_name (i := 1) sc_is_name.nd rfl (by first | exact Or.inl rfl | exact Or.inr rfl))) (fun _ _ _ _ _ => pts_nil) (fun _ _ _ _ _ => (pe_inA hr (pv 1) (pe_gs rfl T.g_LETTERS) (by rfl)))) pa_nil)))))
end
end K01
set_option Elab.async false
set_option linter.all false
set_option maxRecDepth 100000
set_option maxHeartbeats 4000000
namespace My
open PySem PySem.Spec PyProof.Rows L2
theorem run_take (S : List Nat) : ∀ (l : List Nat) (x : Nat), x ∈ l.take (runLen S l) → x ∈ S
  | [], x, h => by simp at h
  | c :: t, x, h => by
    by_cases hc : c ∈ S
    · rw [runLen_in hc, List.take_succ_cons] at h
      rcases List.mem_cons.mp h with e | h
      · rw [e]; exact hc
      · exact run_take S t x h
    · rw [runLen_out hc] at h
      simp at h
theorem word_ok {l : List Nat} {n : Nat} (h : wordLen l = some n) : ∀ x ∈ l.take n, x < 1114112 := by
  intro x hx
  cases l with
  | nil => simp at hx
  | cons c t =>
    unfold wordLen at h
    dsimp only at h
    split at h
    · cases h
      rename_i hc
      simp at hx
      omega
    · split at h
      · split at h
        · cases h
          have := (mem_LET x).mp (run_take _ _ _ hx)
          omega
        · cases h
      · split at h
        · cases h
          have := (mem_FIG x).mp (run_take _ _ _ hx)
          omega
        · cases h
def RowOk (N : Nat) (ws : List (List Nat)) : Prop := ws.length ≤ N ∧ ∀ w ∈ ws, ∀ x ∈ w, x < 1114112
theorem scan_ok (N : Nat) : ∀ (n : Nat) (l : List Nat), l.length ≤ n → ∀ b rows cur out, scan b rows cur l = .ok out → rows.length + l.length < N → cur.length + l.length ≤ N → l.length ≤ N → (∀ r ∈ rows, RowOk N r) → (∀ w ∈ cur, ∀ x ∈ w, x < 1114112) → out.length ≤ N ∧ ∀ r ∈ out, RowOk N r := by
  intro n
  induction n with
  | zero =>
    intro l hl b rows cur out h h1 h2 h3 h4 h5
    cases l with
    | cons => simp at hl
    | nil =>
      rw [scan_nil] at h
      cases h
      simp only [List.length_nil] at h1 h2
      refine ⟨by rw [List.length_append]; show rows.length + 1 ≤ N; omega, fun r hr => ?_⟩
      rcases List.mem_append.mp hr with hr | hr
      · exact h4 r hr
      · rw [List.mem_singleton.mp hr]; exact ⟨by omega, h5⟩
  | succ n ih =>
    intro l hl b rows cur out h h1 h2 h3 h4 h5
    have h4' : ∀ r ∈ rows ++ [cur], RowOk N r := fun r hr => by
      rcases List.mem_append.mp hr with hr | hr
      · exact h4 r hr
      · rw [List.mem_singleton.mp hr]; exact ⟨by omega, h5⟩
    cases l with
    | nil =>
      rw [scan_nil] at h
      cases h
      simp only [List.length_nil] at h1
      exact ⟨by rw [List.length_append]; show rows.length + 1 ≤ N; omega, h4'⟩
    | cons c t =>
      simp only [List.length_cons] at hl h1 h2 h3
      by_cases h10 : c = 10
      · subst h10
        rw [scan_eol] at h
        exact ih t (by omega) _ _ _ _ h (by rw [List.length_append]; show rows.length + 1 + t.length < N; omega) (by simp; omega) (by omega) h4' (fun w hw => by cases hw)
      · by_cases h32 : c = 32
        · subst h32
          rw [scan_blank] at h
          exact ih t (by omega) _ _ _ _ h (by omega) (by omega) (by omega) h4 h5
        · cases hw : wordLen (c :: t) with
          | none => rw [scan_bad h10 h32 hw] at h; cases h
          | some m =>
            rw [scan_word h10 h32 hw] at h
            have hm := wordLen_le hw
            simp only [List.length_cons] at hm
            have hd : ((c :: t).drop m).length = t.length + 1 - m := by rw [List.length_drop]; rfl
            refine ih _ (by omega) _ _ _ _ h (by omega) (by rw [List.length_append]; show cur.length + 1 + _ ≤ N; omega) (by omega) h4 (fun w hw' => ?_)
            rcases List.mem_append.mp hw' with hw' | hw'
            · exact h5 w hw'
            · rw [List.mem_singleton.mp hw']; exact word_ok hw
def rowD (ws : List (List Nat)) : PyData := .list (ws.map fun l => .str (S l))
theorem lay_strs {N : Nat} : ∀ {ws : List (List Nat)}, (∀ w ∈ ws, ∀ x ∈ w, x < 1114112) → PyData.canLayAll0 (ws.map fun l => PyData.str (S l)) = true
  | [], _ => rfl
  | l :: r, h => by
    show (PyData.strOk (S l) && PyData.canLayAll0 (r.map fun l => PyData.str (S l))) = true
    rw [lay_strs (N := N) fun w hw => h w (List.mem_cons_of_mem _ hw), strOk_iff.mpr (by simpa using h l List.mem_cons_self)]
    rfl
theorem depth_strs : ∀ (ws : List (List Nat)), PyData.depthAll (ws.map fun l => PyData.str (S l)) = 0
  | [] => rfl
  | l :: r => by
    show max (PyData.depth (.str (S l))) (PyData.depthAll (r.map fun l => PyData.str (S l))) = 0
    rw [depth_strs r]; rfl
theorem lay_rows {N : Nat} : ∀ {rows : List (List (List Nat))}, (∀ r ∈ rows, RowOk N r) → PyData.canLayAll0 (rows.map rowD) = true
  | [], _ => rfl
  | ws :: r, h => by
    show (PyData.canLayAll0 (ws.map fun l => PyData.str (S l)) && PyData.canLayAll0 (r.map rowD)) = true
    rw [lay_rows (N := N) fun w hw => h w (List.mem_cons_of_mem _ hw), lay_strs (N := N) (h ws List.mem_cons_self).2]
    rfl
theorem depth_rows : ∀ (rows : List (List (List Nat))), PyData.depthAll (rows.map rowD) ≤ 1
  | [] => Nat.zero_le _
  | ws :: r => by
    show max (PyData.depthAll (ws.map fun l => PyData.str (S l)) + 1) (PyData.depthAll (r.map rowD)) ≤ 1
    have := depth_rows r
    rw [depth_strs]; omega
theorem shaped_rows {N : Nat} {rows : List (List (List Nat))} (h : ∀ r ∈ rows, RowOk N r) : SeqAt.shaped (.list (rows.map rowD)) = true := by
  unfold SeqAt.shaped
  have h1 : (PyData.list (rows.map rowD)).canLay0 = true := lay_rows h
  have h2 : (PyData.list (rows.map rowD)).depth ≤ 64 := by
    show PyData.depthAll _ + 1 ≤ 64
    have := depth_rows rows
    omega
  rw [h1, decide_eq_true h2]; rfl
theorem dp_rows {K : PySem.W.Frag} {H : Hp} {p : Addr} {ps : List Addr} {rows : List (List (List Nat))} (hp : H p = some (.lst (ps.map V.ref))) (h : Paired (fun q ws => H q = some (.lst ((ws : List (List Nat)).map txt))) ps rows) : Dp K H (.ref p) (.list (rows.map rowD)) := by
  refine .lst (SqL.of hp) ?_
  clear hp
  induction h with
  | nil => exact .nil
  | cons e _ ih => exact .cons (.lst (SqL.of e) (DpAll.strs _)) ih
/-- texts that stand in a list -/
theorem dp_strs {K : PySem.W.Frag} {H : Hp} : ∀ (zs : List Str), DpAll K H (zs.map V.str) (zs.map PyData.str)
  | [] => .nil
  | z :: r => .cons (.str z) (dp_strs r)
theorem shaped_strs {zs : List Str} (h : ∀ z ∈ zs, PyData.strOk z = true) : SeqAt.shaped (.list (zs.map PyData.str)) = true := by
  have h1 : PyData.canLayAll0 (zs.map PyData.str) = true := by
    induction zs with
    | nil => rfl
    | cons z r ih =>
      show (PyData.strOk z && PyData.canLayAll0 (r.map PyData.str)) = true
      rw [ih fun y hy => h y (List.mem_cons_of_mem _ hy), h z List.mem_cons_self]; rfl
  have h2 : PyData.depthAll (zs.map PyData.str) = 0 := by
    clear h h1
    induction zs with
    | nil => rfl
    | cons z r ih =>
      show max (PyData.depth (.str z)) (PyData.depthAll (r.map PyData.str)) = 0
      rw [ih]; rfl
  unfold SeqAt.shaped
  have h3 : (PyData.list (zs.map PyData.str)).canLay0 = true := h1
  have h4 : (PyData.list (zs.map PyData.str)).depth ≤ 64 := by
    show PyData.depthAll _ + 1 ≤ 64
    omega
  rw [h3, decide_eq_true h4]; rfl
theorem eqv_nil (zs : List PyData) : PyData.eqv (.list zs) (.list []) = zs.isEmpty := by
  cases zs <;> rfl
end My
set_option Elab.async false
set_option linter.all false
set_option maxRecDepth 100000
set_option maxHeartbeats 1000000
namespace K01
open PySem PySem.Spec PyProof.Rows L2 My
section
variable {P : Program} {w : World} {K : PySem.W.Frag} {mg : Str → Option Value} {base : Heap}
/-! ### _law_name_right -/
def pr_right : V → Hp → VK → XK → Prop := fun x H Q _ => ∃ z : Str, x = .str z ∧ z.length ≤ 100000 ∧ PyData.strOk z = true ∧ ∀ H', Same H H' → Q (.bl true) H'
def sp__law_name_right (K : PySem.W.Frag) : Sp := Sp1 pr_right
def t__law_name_right_0 (K : PySem.W.Frag) : TS :=
  (tSeq (tAsg (tCall (sp_is_name K) [] E0 (tCons (tVar 0) tNil)) (gName 3))
  (tRet (tAndV (tCB (rIsA K) (tCons (tVar 3) (tCons (tC (.ty "bool")) tNil))) (tOp (rEqA K) (tVar 3) (tVar 2)))))
def t__law_name_right (K : PySem.W.Frag) : TS :=
  (tSeq (tAsg (tOp (rEqA K) (tLc (iA K (tVar 0)) (gName 4) (tTest (tOp (rInA K true) (tVar 4) (tC (.str "abcdefghijklmnopqrstuvwxyz")))) (tVar 4) [4]) (tLst tNil)) (gName 1))
  (tSeq (tAsg (tAndV (tVar 1) (tAndV (tChain rLtA rLtA (tC (.int 0)) (tCB (rLenA K) (tCons (tVar 0) tNil)) (tC (.int 9))) (tNinA K (tVar 0) (tCall (sp__law_told_words K) [] E0 tNil)))) (gName 2))
  (t__law_name_right_0 K)))
theorem filter_all (z : List Nat) (f : Nat → Bool) : (z.filter fun c => !f c).isEmpty = z.all f := by
  induction z with
  | nil => rfl
  | cons c t ih =>
    rw [List.filter_cons, List.all_cons]
    cases h : f c
    · rfl
    · simpa using ih
theorem dec_bl (a b : Bool) : decide (V.bl a = V.bl b) = decide (a = b) := decide_eq_decide.mpr ⟨fun h => V.bl.inj h, fun h => by rw [h]⟩
theorem pure__law_name_right (T : Txt K mg) {x : V} {H : Hp} {Q : VK} {E : XK} (h : pr_right x H Q E) : t__law_name_right K { nx := fun _ H' => Q .non H', rt := Q } [some x, none, none, none, none] H := by
  obtain ⟨z, rfl, hz, hzo, k⟩ := h
  have hzs := strOk_iff.mp hzo
  unfold t__law_name_right
  walk_at "w"
  refine .inr (.inr ⟨z, rfl, fun D hD => ?_⟩)
  refine lcv walk_str hD z.cps.toList (by simp) (by rw [len_toList]; omega) (fun _ _ => trivial) (fun c => !decide (c ∈ LETs.cps.toList)) (fun c => .str ⟨#[c]⟩) ?_ ?_
  · rintro i c x H6 H7 hi s6 ⟨rfl, c', hc', rfl⟩ k1 k2 hk1 hk2
    have : c' = c := by
      rw [Array.getElem?_toList] at hi
      rw [hc'] at hi
      exact Option.some.inj hi
    subst this
    walk_at "w"
    refine ⟨rfl, ?_⟩
    walk_at "w"
    refine ite2 (fun hb => ?_) (fun hb => ?_)
    · walk_at "w"
      exact hk1 hb _ (Same.refl _)
    · exact hk2 (Bool.eq_false_iff.mpr hb) _ (Same.refl _)
  · intro H6 s6 hL6
    walk_at "w"
    refine ⟨Nat.zero_le _, fun p hp => ?_⟩
    have s7 : Same H6 (upd H6 p (.lst [])) := same_new hp
    have e1 : ((z.cps.toList.filter fun c => !decide (c ∈ LETs.cps.toList)).map fun c => V.str ⟨#[c]⟩) = (((z.cps.toList.filter fun c => !decide (c ∈ LETs.cps.toList)).map fun c => (⟨#[c]⟩ : Str)).map V.str) := by rw [List.map_map]; rfl
    rw [e1] at hL6
    refine st_eqD (.lst (SqL.of (s7 _ _ hL6)) (dp_strs _)) (.lst (xs := []) (SqL.of upd_same) .nil) (shaped_strs fun y hy => ?_) (by rfl) ?_
    · obtain ⟨c, hc, rfl⟩ := List.mem_map.mp hy
      have hc2 := hzs c (List.mem_filter.mp hc).1
      rw [strOk_iff]
      intro d hd
      have : d = c := by simpa using hd
      omega
    rw [eqv_nil, List.isEmpty_map, List.isEmpty_map, filter_all]
    walk_at "w"
    have s8 := s6.trans s7
    generalize upd H6 p (.lst []) = H8 at *
    have fin : ∀ (b : Bool) (H' : Hp), Same H H' → b = isName z → t__law_name_right_0 K ⟨fun _ H' => Q .non H', Q, fun _ _ => False, fun _ _ => False⟩ [some (V.str z), some (V.bl (z.cps.toList.all fun c => decide (c ∈ LETs.cps.toList))), some (.bl b), none, none] H' := by
      rintro b H' s rfl
      unfold t__law_name_right_0
      walk_at "w"
      refine ⟨_, rfl, z, rfl, hz, fun H9 s9 => ?_⟩
      walk_at "w"
      refine st_isi (.ty _) tx_bl (kit_ty (r := true) (by decide +kernel)) ?_
      walk_at "w"
      refine st_eq rfl ?_
      rw [decide_eq_true rfl]
      exact k _ (s.trans s9)
    unfold isName at fin
    cases hA : z.cps.toList.all fun c => decide (c ∈ LETs.cps.toList)
    · rw [hA] at fin
      walk_at "w"
      exact fin _ _ s8 (by simp)
    · rw [hA] at fin
      walk_at "w"
      refine st_len_str (by omega) ?_
      walk_at "w"
      by_cases h1 : (0 : Int) < z.length
      · rw [decide_eq_true h1]
        walk_at "w"
        by_cases h2 : ((z.length : Nat) : Int) < 9
        · rw [decide_eq_true h2]
          walk_at "w"
          refine ⟨rfl, fun p2 H9 s9 hp2 hL9 => ?_⟩
          refine st_nin_list (SqL.of hL9) rfl (flat_strs _) ?_
          rw [inV_strs]
          walk_at "w"
          refine fin _ _ (s8.trans s9) ?_
          rw [decide_eq_true (show 1 ≤ z.length ∧ z.length ≤ 8 by omega)]
          simp
        · rw [decide_eq_false h2]
          walk_at "w"
          refine fin _ _ s8 ?_
          rw [decide_eq_false (show ¬ (1 ≤ z.length ∧ z.length ≤ 8) by omega)]
          rfl
      · rw [decide_eq_false h1]
        walk_at "w"
        refine fin _ _ s8 ?_
        rw [decide_eq_false (show ¬ (1 ≤ z.length ∧ z.length ≤ 8) by omega)]
        rfl
theorem ok__law_name_right (T : Txt K mg) (c_is_name : Kp P w K mg base CX0 1 "is_name" ["word"] (sp_is_name K)) (c__law_told_words : Kp P w K mg base CX0 1 "_law_told_words" [] (sp__law_told_words K)) : Kp P w K mg base CX0 2 "_law_name_right" ["_law_word"] (sp__law_name_right K) := by
  obtain ⟨fd, F⟩ := T.c.def_ 20 (d := d__law_name_right) rfl
  refine ⟨⟨_, fd, T.g__law_name_right, F.kp, F.bindsN fun _ _ _ _ _ _ us hl => match us, hl with | [_], _ => rfl, F.ok sc__law_name_right Sp1.len (fun cdv A outer s H vs Q E hr h => ?_)⟩⟩
  obtain ⟨v0, rfl, h⟩ := h
  refine ⟨t__law_name_right K, PSs.nox (?_), pure__law_name_right T h⟩
  exact (pss_cons (ps_set (i := 1) sc__law_name_right.nd rfl (by first | exact Or.inl rfl | exact Or.inr rfl) (pe_cmpR (op_eqA hr) (pe_lc (own := [("_law_sign", 4)]) (g := (gName 4)) rfl sc__law_name_right.nd (pi_A (pv 0)) (blkOk_by (own := [("_law_sign", 4)]) (N := N__law_name_right) (sc := defScope s__law_name_right) (by decide +kernel)) (fun _ _ _ _ _ => (pg_name (i := 4) sc__law_name_right.nd rfl (by first | exact Or.inl rfl | exact Or.inr rfl))) (fun _ _ _ _ _ => (pts_one (pt_cmpR (op_ninA hr) (pv 4) pe_str (by rfl)))) (fun _ _ _ _ _ => (pv 4))) (pe_lst pa_nil) (nomark _)))
      (pss_cons (ps_set (i := 2) sc__law_name_right.nd rfl (by first | exact Or.inl rfl | exact Or.inr rfl) (pe_and (pv 1) (pe_and (pe_chain op_ltA op_ltA pe_int (pe_callB call_len (by rfl) T.n_len (by decide +kernel) (pa_cons (pv 0) pa_nil)) pe_int) (pe_one (pe_ninA hr (pv 0) (pe_cK0 c__law_told_words (hr.mono (by decide)) rfl) (by rfl))))))
      (pss_cons (ps_set (i := 3) sc__law_name_right.nd rfl (by first | exact Or.inl rfl | exact Or.inr rfl) (pe_cK c_is_name (hr.mono (by decide)) rfl (pa_cons (pv 0) pa_nil)))
      (pss_one (ps_ret (pe_and (pe_callB call_isA (by rfl) T.n_isinstance (by decide +kernel) (pa_cons (pv 3) (pa_cons (pe_bltn (v := .ty "bool") (by rfl) T.n_bool (by decide +kernel) rfl) pa_nil))) (pe_one (pe_cmpR (op_eqA hr) (pv 3) (pv 2) (nomark _)))))))))
end
end K01
set_option Elab.async false
set_option linter.all false
set_option maxRecDepth 100000
set_option maxHeartbeats 1000000
namespace K01
open PySem PySem.Spec PyProof.Rows L2 My
section
variable {P : Program} {w : World} {K : PySem.W.Frag} {mg : Str → Option Value} {base : Heap}
/-! ### law -/
def pr_law (K : PySem.W.Frag) : V → Hp → VK → XK → Prop := fun x H Q _ => ∃ (a : Addr) (ns : List Int), x = .ref a ∧ SqL K H a (ns.map V.int) ∧ ns.length ≤ 63 ∧ ∀ H', Q (.bl true) H'
def sp_law (K : PySem.W.Frag) : Sp := Sp1 (pr_law K)
def t_law_0 (K : PySem.W.Frag) : TS :=
  (tSeq (tAsg (tLst (tCons (tCall (sp__law_piece K) [] E0 (tCons (tVar 1) tNil)) (tCons (tCall (sp__law_odd K) [] E0 (tCons (tVar 1) tNil)) (tCons (tOp (rAddA K) (tCall (sp__law_piece K) [] E0 (tCons (tVar 1) tNil)) (tCall (sp__law_piece K) [] E0 (tCons (tVar 1) tNil))) (tCons (tC (.str "")) (tCons (tOp (rAddA K) (tCall (sp__law_piece K) [] E0 (tCons (tVar 1) tNil)) (tC (.str "\n"))) tNil)))))) (gName 8))
  (tRet (tOp (rEqA K) (tLc (iA K (tOp (rAddA K) (tOp (rAddA K) (tVar 8) (tCall (sp__law_told_words K) [] E0 tNil)) (tLst (tCons (tC (.str "a")) (tCons (tOp rMulA (tC (.str "z")) (tC (.int 8))) (tCons (tOp rMulA (tC (.str "z")) (tC (.int 9))) tNil)))))) (gName 9) (tNot (tB (tCall (sp__law_name_right K) [] E0 (tCons (tVar 9) tNil)))) (tVar 9) [9]) (tLst tNil))))
def t_law_1 (K : PySem.W.Frag) : TS :=
  (tSeq (tAsg (tIxA K (tLst (tCons (tC .non) (tCons (tC (.int 5)) (tCons (tC (.bl true)) (tCons (tLst (tCons (tC (.str "a")) tNil)) (tCons (tTup (tCons (tC (.str "a")) tNil)) (tCons tDNewK (tCons (tC (.int 0)) (tCons (tLst (tCons (tVar 2) tNil)) tNil))))))))) (tCall (sp__law_next K) [] E0 (tCons (tVar 1) (tCons (tC (.int 8)) tNil)))) (gName 7))
  (tSeq (tIfS (tOr (tTest (tOp (rNeA K) (tCall (sp__law_said K) [] E0 (tCons (tVar 7) tNil)) (tTup (tCons (tC (.int 0)) tNil)))) (tNot (tB (tCall (sp__law_by_hand K) [] E0 (tCons (tVar 1) tNil))))) (tRet (tC (.bl false))) tNext)
  (t_law_0 K)))
def t_law_2 (K : PySem.W.Frag) : TS :=
  (tSeq (tFor (iRng1 (tCons (tC (.int 2)) tNil)) (gName 4) (tSeq (tAsg (tCall (sp__law_said K) [] E0 (tCons (tVar 2) tNil)) (gName 5))
  (tIfS (tB (tCB (rIsA K) (tCons (tVar 3) (tCons (tC (.ty "int")) tNil)))) (tIfS (tTest (tOp (rNeA K) (tVar 5) (tTup (tCons (tVar 3) tNil)))) (tRet (tC (.bl false))) tNext) (tIfS (tOr (tNot (tB (tCB (rIsA K) (tCons (tVar 5) (tCons (tC (.ty "list")) tNil))))) (tOr (tTest (tOp (rNeA K) (tVar 5) (tVar 3))) (tNot (tB (tCB (rAll K) (tCons (tLc (iA K (tVar 5)) (gName 6) tYes (tCB (rIsA K) (tCons (tVar 6) (tCons (tC (.ty "list")) tNil))) [6]) tNil)))))) (tRet (tC (.bl false))) (tSeq (tFor (iA K (tVar 5)) (gName 6) (tDrop (tBM K "list" rAppend (tVar 6) (tCons (tC (.str "more")) tNil))))
  (tDrop (tBM K "list" rAppend (tVar 5) (tCons (tC (.str "more")) tNil))))))))
  (t_law_1 K))
def t_law (K : PySem.W.Frag) : TS :=
  (tSeq (tAsg (tDisp (((tC (.str "cells")), (tVar 0)) :: (((tC (.str "at")), (tC (.int 0))) :: []))) (gName 1))
  (tSeq (tAsg (tCall (sp__law_text K) [] E0 (tCons (tVar 1) tNil)) (gName 2))
  (tSeq (tAsg (tCall (sp__law_due K) [] E0 (tCons (tVar 2) tNil)) (gName 3))
  (t_law_2 K))))
def Good (z : Str) : Prop := z.length ≤ 100000 ∧ PyData.strOk z = true
theorem Good.app {y z : Str} (a : isTextO 13 (.str y) (fun _ => none)) (b : isTextO 13 (.str z) (fun _ => none)) : Good (y ++ z) := by
  obtain ⟨_, e, h1, h2⟩ := a
  cases e
  obtain ⟨_, e, h3, h4⟩ := b
  cases e
  exact ⟨by rw [len_append]; omega, strOk_append h2 h4⟩
theorem told_good : ∀ z ∈ toldL, Good z := by
  have h : ∀ z ∈ toldL, z.length ≤ 100000 ∧ PyData.strOk z = true := by decide +kernel
  exact h
theorem z_mul (n : Int) (h : MulOk ("z" : Str) n) {H : Hp} {Q : VK} (q : Q (.str (Txt.mul "z" n)) H) : rMulA (.str "z") (.int n) H Q := .inr (.inl ⟨_, _, rfl, rfl, h, q⟩)
theorem z8_ok : MulOk ("z" : Str) 8 := ⟨by decide, fun _ _ => by decide +kernel, fun _ _ => by decide +kernel⟩
theorem z9_ok : MulOk ("z" : Str) 9 := ⟨by decide, fun _ _ => by decide +kernel, fun _ _ => by decide +kernel⟩
theorem z8_good : Good (Txt.mul ("z" : Str) 8) := ⟨by decide +kernel, by decide +kernel⟩
theorem z9_good : Good (Txt.mul ("z" : Str) 9) := ⟨by decide +kernel, by decide +kernel⟩
theorem pure_law_0 (T : Txt K mg) {st : Addr} {ns : List Int} {m : Int} {H : Hp} {Q : VK} {v0 v2 v3 v4 v5 v6 v7 : Option V} (hn : ns.length ≤ 63) (ls : LS K H st ns m) (hm : m ≤ 1000000) (q : ∀ H', Q (.bl true) H') :
    t_law_0 K ⟨fun _ H' => Q .non H', Q, fun _ _ => False, fun _ _ => False⟩ [v0, some (.ref st), v2, v3, v4, v5, v6, v7, none, none] H := by
  unfold t_law_0
  walk_at "w"
  refine ⟨_, rfl, st, ns, _, rfl, hn, ls, by omega, ?_⟩
  rintro _ H1 ⟨z1, rfl, hz1, ho1⟩ a1
  walk_at "w"
  refine ⟨_, rfl, st, ns, _, rfl, hn, a1.ls, by omega, ?_⟩
  rintro _ H2 ⟨z2, rfl, hz2, ho2⟩ a2
  walk_at "w"
  refine ⟨_, rfl, st, ns, _, rfl, hn, a2.ls, by omega, ?_⟩
  rintro _ H3 ⟨z3, rfl, hz3, ho3⟩ a3
  walk_at "w"
  refine ⟨_, rfl, st, ns, _, rfl, hn, a3.ls, by omega, ?_⟩
  rintro _ H4 ⟨z4, rfl, hz4, ho4⟩ a4
  walk_at "w"
  refine st_add_str (by omega) ?_
  walk_at "w"
  refine ⟨_, rfl, st, ns, _, rfl, hn, a4.ls, by omega, ?_⟩
  rintro _ H5 ⟨z5, rfl, hz5, ho5⟩ a5
  walk_at "w"
  refine st_add_str (by have : ("\n" : Str).length = 1 := by decide +kernel
                        omega) ?_
  walk_at "w"
  refine ⟨show 5 ≤ sizeLine by decide, fun p hp => ?_⟩
  have hL6 : upd H5 p (.lst [V.str z1, V.str z2, V.str (z3 ++ z4), V.str "", V.str (z5 ++ "\n")]) p = some (.lst [V.str z1, V.str z2, V.str (z3 ++ z4), V.str "", V.str (z5 ++ "\n")]) := upd_same
  generalize upd H5 p (.lst [V.str z1, V.str z2, V.str (z3 ++ z4), V.str "", V.str (z5 ++ "\n")]) = H6 at *
  walk_at "w"
  refine ⟨rfl, fun p2 H7 s7 hp2 hL7 => ?_⟩
  refine st_add_list (s7 _ _ hL6) hL7 (show 26 ≤ 1000000 by decide) fun p3 hp3 => ?_
  have hL8 : upd H7 p3 (.lst ([V.str z1, V.str z2, V.str (z3 ++ z4), V.str "", V.str (z5 ++ "\n")] ++ toldL.map V.str)) p3 = some (.lst ([V.str z1, V.str z2, V.str (z3 ++ z4), V.str "", V.str (z5 ++ "\n")] ++ toldL.map V.str)) := upd_same
  generalize upd H7 p3 (.lst ([V.str z1, V.str z2, V.str (z3 ++ z4), V.str "", V.str (z5 ++ "\n")] ++ toldL.map V.str)) = H8 at *
  walk_at "w"
  refine z_mul 8 z8_ok ?_
  walk_at "w"
  refine z_mul 9 z9_ok ?_
  walk_at "w"
  refine ⟨show 3 ≤ sizeLine by decide, fun p4 hp4 => ?_⟩
  refine st_add_list (same_new hp4 _ _ hL8) upd_same (show 29 ≤ 1000000 by decide) fun p5 hp5 => ?_
  have e : ([V.str z1, V.str z2, V.str (z3 ++ z4), V.str "", V.str (z5 ++ "\n")] ++ toldL.map V.str) ++ [V.str "a", V.str (Txt.mul "z" 8), V.str (Txt.mul "z" 9)] = (([z1, z2, z3 ++ z4, ("" : Str), z5 ++ "\n"] ++ toldL) ++ [("a" : Str), Txt.mul "z" 8, Txt.mul "z" 9]).map V.str := by
    rw [List.map_append, List.map_append]; rfl
  rw [e]
  have hG : ∀ z ∈ (([z1, z2, z3 ++ z4, ("" : Str), z5 ++ "\n"] ++ toldL) ++ [("a" : Str), Txt.mul "z" 8, Txt.mul "z" 9]), Good z := by
    intro z hz
    rcases List.mem_append.mp hz with hz | hz
    · rcases List.mem_append.mp hz with hz | hz
      · simp only [List.mem_cons, List.not_mem_nil, or_false] at hz
        rcases hz with rfl | rfl | rfl | rfl | rfl
        · exact ⟨by omega, ho1⟩
        · exact ⟨by omega, ho2⟩
        · exact ⟨by rw [len_append]; omega, strOk_append ho3 ho4⟩
        · exact ⟨by decide +kernel, by decide +kernel⟩
        · exact ⟨by rw [len_append]
                    have : ("\n" : Str).length = 1 := by decide +kernel
                    omega, strOk_append ho5 (by decide +kernel)⟩
      · exact told_good z hz
    · simp only [List.mem_cons, List.not_mem_nil, or_false] at hz
      rcases hz with rfl | rfl | rfl
      · exact ⟨by decide +kernel, by decide +kernel⟩
      · exact z8_good
      · exact z9_good
  have hl : (([z1, z2, z3 ++ z4, ("" : Str), z5 ++ "\n"] ++ toldL) ++ [("a" : Str), Txt.mul "z" 8, Txt.mul "z" 9]).length ≤ 1000000 := show 29 ≤ 1000000 by decide
  generalize (([z1, z2, z3 ++ z4, ("" : Str), z5 ++ "\n"] ++ toldL) ++ [("a" : Str), Txt.mul "z" 8, Txt.mul "z" 9]) = zs at *
  have hL9 : upd (upd H8 p4 (.lst [V.str "a", V.str (Txt.mul "z" 8), V.str (Txt.mul "z" 9)])) p5 (.lst (zs.map V.str)) p5 = some (.lst (zs.map V.str)) := upd_same
  generalize upd (upd H8 p4 (.lst [V.str "a", V.str (Txt.mul "z" 8), V.str (Txt.mul "z" 9)])) p5 (.lst (zs.map V.str)) = H9 at *
  refine .inl ⟨p5, rfl, ⟨_, SqL.of hL9⟩, fun D hD => ?_⟩
  refine lcv (walk_list (xs := zs.map V.str)) hD zs (by rw [List.length_map]) hl (fun H' s => SqL.of (s _ _ hL9)) (fun _ => false) (fun z => .str z) ?_ ?_
  · rintro i z x HA HB hi sA ⟨rfl, hx⟩ k1 k2 hk1 hk2
    rw [List.getElem?_map, hi] at hx
    cases hx
    have g := hG z (List.mem_of_getElem? hi)
    walk_at "w"
    refine ⟨rfl, ?_⟩
    walk_at "w"
    refine ⟨_, rfl, z, rfl, g.1, g.2, fun HC sC => ?_⟩
    walk_at "w"
    exact hk2 rfl _ sC
  · intro HA sA hA
    walk_at "w"
    refine ⟨Nat.zero_le _, fun p hp => ?_⟩
    refine st_eqD (.lst (xs := []) (SqL.of ?_) .nil) (.lst (xs := []) (SqL.of upd_same) .nil) (by rfl) (by rfl) ?_
    · have := same_new (o := .lst []) hp _ _ hA
      rw [this]
      simp
    · exact q _
theorem pure_law_1 (T : Txt K mg) {st : Addr} {ns : List Int} {m : Int} {H : Hp} {Q : VK} {z : Str} {v0 v3 v4 v5 v6 : Option V} (hz : z.length ≤ 100000) (hn : ns.length ≤ 63) (ls : LS K H st ns m) (hm : m ≤ 100000) (q : ∀ H', Q (.bl true) H') :
    t_law_1 K ⟨fun _ H' => Q .non H', Q, fun _ _ => False, fun _ _ => False⟩ [v0, some (.ref st), some (.str z), v3, v4, v5, v6, none, none, none] H := by
  unfold t_law_1
  walk_at "w"
  refine ⟨show 1 ≤ sizeLine by decide, fun p1 hp1 => ?_⟩
  walk_at "w"
  refine ⟨show 1 ≤ sizeLine by decide, fun p2 hp2 => ?_⟩
  walk_at "w"
  intro p3 hp3
  walk_at "w"
  refine ⟨show 1 ≤ sizeLine by decide, fun p4 hp4 => ?_⟩
  walk_at "w"
  refine ⟨show 8 ≤ sizeLine by decide, fun p5 hp5 => ?_⟩
  have s1 : Same H (upd H p1 (.lst [V.str "a"])) := same_new hp1
  have s2 : Same (upd H p1 (.lst [V.str "a"])) (upd (upd H p1 (.lst [V.str "a"])) p2 (.tup [V.str "a"])) := same_new hp2
  have e1 : upd H p1 (.lst [V.str "a"]) p1 = some (.lst [V.str "a"]) := upd_same
  generalize upd H p1 (.lst [V.str "a"]) = H1 at *
  have e2 : upd H1 p2 (.tup [V.str "a"]) p2 = some (.tup [V.str "a"]) := upd_same
  generalize upd H1 p2 (.tup [V.str "a"]) = H2 at *
  have s3 : Same H2 (upd H2 p3 (.dK [])) := same_new hp3
  have e3 : upd H2 p3 (.dK []) p3 = some (.dK []) := upd_same
  generalize upd H2 p3 (.dK []) = H3 at *
  have s4 : Same H3 (upd H3 p4 (.lst [V.str z])) := same_new hp4
  have e4 : upd H3 p4 (.lst [V.str z]) p4 = some (.lst [V.str z]) := upd_same
  generalize upd H3 p4 (.lst [V.str z]) = H4 at *
  have s5 : Same H4 (upd H4 p5 (.lst [V.non, V.int 5, V.bl true, V.ref p1, V.ref p2, V.ref p3, V.int 0, V.ref p4])) := same_new hp5
  have e5 : upd H4 p5 (.lst [V.non, V.int 5, V.bl true, V.ref p1, V.ref p2, V.ref p3, V.int 0, V.ref p4]) p5 = some (.lst [V.non, V.int 5, V.bl true, V.ref p1, V.ref p2, V.ref p3, V.int 0, V.ref p4]) := upd_same
  generalize upd H4 p5 (.lst [V.non, V.int 5, V.bl true, V.ref p1, V.ref p2, V.ref p3, V.int 0, V.ref p4]) = H5 at *
  have a5 := ls.adv ((((s1.trans s2).trans s3).trans s4).trans s5)
  have e4 := s5 _ _ e4
  have e3 := (s4.trans s5) _ _ e3
  have e2 := ((s3.trans s4).trans s5) _ _ e2
  have e1 := (((s2.trans s3).trans s4).trans s5) _ _ e1
  walk_at "w"
  refine use_next a5.ls hn (by decide) (by omega) fun r H6 r0 r1 a6 => ?_
  have ne : ∀ {b : Addr} {o : HO}, H5 b = some o → (∀ kvs, o ≠ .dK kvs) → b ≠ st := fun {b o} e n z => by
    obtain ⟨kvs, h1⟩ := a5.ls.at
    rw [z, h1] at e
    exact n kvs (Option.some.inj e).symm
  have e5 := a6.sb _ _ (ne e5 fun _ z => by cases z) e5
  have e4 := a6.sb _ _ (ne e4 fun _ z => by cases z) e4
  have e2 := a6.sb _ _ (ne e2 fun _ z => by cases z) e2
  have e1 := a6.sb _ _ (ne e1 fun _ z => by cases z) e1
  have n3 : p3 ≠ st := fun z => by
    obtain ⟨kvs, h1⟩ := ls.at
    rw [z, (s1.trans s2) _ _ h1] at hp3
    cases hp3
  have e3 := a6.sb _ _ n3 e3
  refine st_ixG (SqL.of e5) r0 r1 fun v hv => ?_
  have hv : ∃ t, TyX K H6 v t ∧ PySem.W.kitOne K t (.type "str") = some false := by
    simp only [List.mem_cons, List.not_mem_nil, or_false] at hv
    rcases hv with rfl | rfl | rfl | rfl | rfl | rfl | rfl | rfl
    · exact ⟨_, tx_non, kit_ty (r := false) (by decide +kernel)⟩
    · exact ⟨_, tx_int, kit_ty (r := false) (by decide +kernel)⟩
    · exact ⟨_, tx_bl, kit_ty (r := false) (by decide +kernel)⟩
    · exact ⟨_, .base (.lst e1), kit_ty (r := false) (by decide +kernel)⟩
    · exact ⟨_, .base (.tup e2), kit_ty (r := false) (by decide +kernel)⟩
    · exact ⟨_, .base (.dK e3), kit_ty (r := false) (by decide +kernel)⟩
    · exact ⟨_, tx_int, kit_ty (r := false) (by decide +kernel)⟩
    · exact ⟨_, .base (.lst e4), kit_ty (r := false) (by decide +kernel)⟩
  obtain ⟨t, ht, kt⟩ := hv
  walk_at "w"
  refine ⟨_, rfl, .inr ⟨t, ht, kt, fun p H7 s7 hp7 => ?_⟩⟩
  walk_at "w"
  refine ⟨show 1 ≤ sizeLine by decide, fun p8 hp8 => ?_⟩
  have s8 : Same H7 (upd H7 p8 (.tup [V.int 0])) := same_new hp8
  refine st_neD (.tup (.inl (.inl (s8 _ _ hp7))) (.cons (.int _) .nil)) (.tup (.inl (.inl upd_same)) (.cons (.int _) .nil)) (by rfl) (by rfl) ?_
  rw [eqv_same (by rfl)]
  walk_at "w"
  have a8 := a6.same (s7.trans s8)
  refine ⟨_, rfl, st, ns, _, rfl, hn, a8.ls, by omega, ?_⟩
  rintro _ H9 rfl a9
  walk_at "w"
  exact pure_law_0 T hn a9.ls (by omega) q
end
end K01
set_option Elab.async false
set_option linter.all false
set_option maxRecDepth 100000
set_option maxHeartbeats 1000000
namespace K01
open PySem PySem.Spec PyProof.Rows L2 My
section
variable {P : Program} {w : World} {K : PySem.W.Frag} {mg : Str → Option Value} {base : Heap}
def DueIs (K : PySem.W.Frag) (H : Hp) (z : Str) (due : V) : Prop :=
  (∃ e : Int, due = .int e ∧ ∀ (H' : Hp) (Q : VK) (E : XK), (∀ p H2, Same H' H2 → H2 p = some (.tup [.int e]) → Q (.ref p) H2) → pr_said K (.str z) H' Q E) ∨
  (∃ (rows : List (List (List Nat))) (p : Addr) (ps : List Addr), due = .ref p ∧ H p = some (.lst (ps.map V.ref)) ∧ Paired (fun q ws => H q = some (.lst ((ws : List (List Nat)).map txt))) ps rows ∧ rows.length ≤ 8001 ∧ (∀ r ∈ rows, RowOk 8001 r) ∧
    ∀ (H' : Hp) (Q : VK) (E : XK), (∀ q H2, Same H' H2 → RowsAt H' H2 q rows → Q (.ref q) H2) → pr_said K (.str z) H' Q E)
theorem pure_law_2 (T : Txt K mg) {st : Addr} {ns : List Int} {m : Int} {H : Hp} {Q : VK} {z : Str} {due : V} {v0 : Option V} (hz : z.length ≤ 100000) (hn : ns.length ≤ 63) (ls : LS K H st ns m) (hm : m ≤ 100000) (hd : DueIs K H z due) (q : ∀ H', Q (.bl true) H') :
    t_law_2 K ⟨fun _ H' => Q .non H', Q, fun _ _ => False, fun _ _ => False⟩ [v0, some (.ref st), some (.str z), some due, none, none, none, none, none, none] H := by
  unfold t_law_2
  walk_at "w"
  refine ⟨_, rfl, by decide, by decide, ?_⟩
  refine for_range (lo := 0) (n := 2) (fun i σ H' => ∃ (u v w : Option V), σ = [v0, some (.ref st), some (.str z), some due, u, v, w, none, none, none] ∧ Same H H') ⟨none, none, none, rfl, Same.refl _⟩ ?_ ?_
  · rintro i σ H1 hi ⟨u, v, w, rfl, s1⟩
    walk_at "w"
    refine ⟨_, rfl, ?_⟩
    rcases hd with ⟨e, rfl, hs⟩ | ⟨rows, p, ps, rfl, hp, pr, hr1, hr2, hs⟩
    · refine hs _ _ _ fun p H2 s2 hp2 => ?_
      walk_at "w"
      refine st_isi (.ty _) tx_int (kit_ty (r := true) (by decide +kernel)) ?_
      walk_at "w"
      refine ⟨show 1 ≤ sizeLine by decide, fun p8 hp8 => ?_⟩
      have s8 : Same H2 (upd H2 p8 (.tup [V.int e])) := same_new hp8
      refine st_neD (d := .tuple [.int e]) (e := .tuple [.int e]) (.tup (.inl (.inl (s8 _ _ hp2))) (.cons (.int _) .nil)) (.tup (.inl (.inl upd_same)) (.cons (.int _) .nil)) (by rfl) (by rfl) ?_
      rw [eqv_same (by rfl)]
      walk_at "w"
      exact ⟨_, _, _, rfl, (s1.trans s2).trans s8⟩
    · refine hs _ _ _ fun q1 H2 s2 hr => ?_
      obtain ⟨qs, hq, hqn, hqsn, nd, prq⟩ := hr.ex
      have hql : qs.length ≤ 8001 := by rw [prq.length]; exact hr1
      have nq : ∀ r ∈ qs, r ≠ q1 := fun r hr e => (List.nodup_cons.mp nd).1 (e ▸ hr)
      have hp2 := (s1.trans s2) _ _ hp
      walk_at "w"
      refine st_isi (.ty _) (.base (.lst hp2)) (kit_ty (r := false) (by decide +kernel)) ?_
      walk_at "w"
      refine st_isi (.ty _) (.base (.lst hq)) (kit_ty (r := true) (by decide +kernel)) ?_
      walk_at "w"
      refine st_neD (dp_rows hq prq) (dp_rows hp2 (L2.Paired.mapP pr fun y ws e => (s1.trans s2) _ _ e)) (shaped_rows hr2) (shaped_rows hr2) ?_
      rw [eqv_same (shaped_rows hr2)]
      walk_at "w"
      refine .inl ⟨q1, rfl, ⟨_, SqL.of hq⟩, fun D hD => ?_⟩
      refine lcv (walk_list (xs := qs.map V.ref)) hD qs (by rw [List.length_map]) (by omega) (fun H' s => SqL.of (s _ _ hq)) (fun _ => true) (fun _ => .bl true) ?_ ?_
      · rintro i r x HA HB hi sA ⟨rfl, hx⟩ k1 k2 hk1 hk2
        rw [List.getElem?_map, hi] at hx
        cases hx
        obtain ⟨ws, _, hws⟩ := pget prq hi
        walk_at "w"
        refine ⟨rfl, ?_⟩
        walk_at "w"
        refine st_isi (.ty _) (.base (.lst (sA _ _ hws))) (kit_ty (r := true) (by decide +kernel)) ?_
        walk_at "w"
        exact hk1 rfl _ (Same.refl _)
      · intro HA sA hA
        rw [filter_yes] at hA
        walk_at "w"
        refine ⟨D, qs.map fun _ => true, rfl, SqL.of (by rw [hA, List.map_map]; rfl), ?_⟩
        have e : (qs.map fun _ => true).all id = true := by simp
        rw [e]
        walk_at "w"
        refine .inl ⟨q1, rfl, ⟨_, SqL.of (sA _ _ hq)⟩, ?_⟩
        refine for_list (xs := qs.map V.ref) (fun i σ H' => ∃ (u v : Option V), σ = [v0, some (.ref st), some (.str z), some (.ref p), u, some (.ref q1), v, none, none, none] ∧ Same H1 H' ∧ H' q1 = some (.lst (qs.map V.ref)) ∧ ∀ r ∈ qs, ∃ xs, H' r = some (.lst xs) ∧ xs.length ≤ 8001 + i)
          ⟨_, _, rfl, s2.trans sA, sA _ _ hq, fun r hr => ?_⟩ (fun i σ H' _ ⟨_, _, _, _, h, _⟩ => SqL.of h) ?_ ?_
        · obtain ⟨j, hj⟩ := List.getElem?_of_mem hr
          obtain ⟨ws, hw, hws⟩ := pget prq hj
          exact ⟨_, sA _ _ hws, by rw [List.length_map]; exact (hr2 ws (List.mem_of_getElem? hw)).1⟩
        · rintro i x σ H' hi ⟨u, v, rfl, s3, h3, h4⟩
          rw [List.getElem?_map] at hi
          cases hqi : qs[i]? with
          | none => rw [hqi] at hi; cases hi
          | some r =>
            rw [hqi] at hi
            cases hi
            have hrm := List.mem_of_getElem? hqi
            have hib : i < qs.length := by
              rcases Nat.lt_or_ge i qs.length with h | h
              · exact h
              · rw [List.getElem?_eq_none h] at hqi; cases hqi
            obtain ⟨xs, hx, hxl⟩ := h4 r hrm
            walk_at "w"
            refine ⟨.inl ⟨rfl, _, SqL.of hx⟩, ?_⟩
            walk_at "w"
            refine ⟨r, xs, _, rfl, rfl, hx, small_lt _ (by omega), ?_⟩
            walk_at "w"
            refine ⟨_, _, rfl, Same.mut s3 (hqsn r hrm), by rw [upd_ne (nq r hrm).symm]; exact h3, fun r' hr' => ?_⟩
            by_cases e : r' = r
            · subst e
              exact ⟨_, upd_same, by rw [List.length_append]; show xs.length + 1 ≤ _; omega⟩
            · obtain ⟨ys, hy, hyl⟩ := h4 r' hr'
              exact ⟨ys, by rw [upd_ne e]; exact hy, by omega⟩
        · rintro σ H' ⟨u, v, rfl, s3, h3, h4⟩
          walk_at "w"
          refine ⟨.inl ⟨rfl, _, SqL.of h3⟩, ?_⟩
          walk_at "w"
          refine ⟨q1, _, _, rfl, rfl, h3, small_lt _ (by rw [List.length_map]; omega), ?_⟩
          walk_at "w"
          exact ⟨_, _, _, rfl, s1.trans (Same.mut s3 hqn)⟩
  · rintro σ H1 ⟨u, v, w, rfl, s1⟩
    walk_at "w"
    exact pure_law_1 T hz hn (ls.same s1) hm q
theorem merge_st (a : Addr) : mergeK [] [(Sum.inr "cells", V.ref a), (Sum.inr "at", V.int 0)] = stK a 0 := by
  unfold mergeK
  simp [putK, str_ne1, str_ne2]
  rfl
theorem pure_law (T : Txt K mg) {x : V} {H : Hp} {Q : VK} {E : XK} (h : pr_law K x H Q E) : t_law K { nx := fun _ H' => Q .non H', rt := Q } [some x, none, none, none, none, none, none, none, none, none] H := by
  obtain ⟨a, ns, rfl, hs, hn, q⟩ := h
  unfold t_law
  walk_at "w"
  intro st hst
  walk_at "w"
  refine ⟨upd_same, [(Sum.inr "cells", .ref a), (Sum.inr "at", .int 0)], rfl, show 2 ≤ 15 by decide, ?_⟩
  rw [merge_st]
  have hne : a ≠ st ∨ ∀ H', SqL K H' a (ns.map V.int) := by
    rcases hs with (h | ⟨o, h⟩) | h
    · exact .inl fun e => by rw [e, hst] at h; cases h
    · exact .inl fun e => by rw [e, hst] at h; cases h
    · exact .inr fun _ => .inr h
  have s1 : SB st H (upd (upd H st (.dK [])) st (.dK (stK a 0))) := fun b o n e => by rw [upd_ne n, upd_ne n]; exact e
  have ls : LS K (upd (upd H st (.dK [])) st (.dK (stK a 0))) st ns 0 := ⟨a, 0, upd_same, s1.sqL hne hs, hne, by decide, by decide⟩
  generalize upd (upd H st (.dK [])) st (.dK (stK a 0)) = H1 at *
  walk_at "w"
  refine ⟨_, rfl, st, ns, _, rfl, hn, ls, by omega, ?_⟩
  rintro _ H2 ⟨z, rfl, hz⟩ a2
  walk_at "w"
  refine ⟨_, rfl, z, rfl, by omega, ?_⟩
  have key : ∀ (due : V) (H3 : Hp), Same H2 H3 → DueIs K H3 z due → t_law_2 K ⟨fun _ H' => Q .non H', Q, fun _ _ => False, fun _ _ => False⟩ [some (.ref a), some (.ref st), some (.str z), some due, none, none, none, none, none, none] H3 := fun due H3 s3 hd =>
    pure_law_2 T (by omega) hn (a2.ls.same s3) (by omega) hd q
  by_cases h1 : z.length ≤ 8000
  · rw [if_pos h1]
    cases hsc : scan 0 [] [] z.cps.toList with
    | ok rows =>
      rintro p H3 s3 ⟨ps, hp, pr⟩
      walk_at "w"
      have ok := scan_ok 8001 _ z.cps.toList (Nat.le_refl _) _ _ _ _ hsc (by rw [len_toList]; simp; omega) (by rw [len_toList]; simp; omega) (by rw [len_toList]; omega) (fun _ h => by cases h) (fun _ h => by cases h)
      refine key _ _ s3 (.inr ⟨rows, p, ps, rfl, hp, pr, ok.1, ok.2, fun H' Q E k => .inl ⟨z, rfl, by omega, ?_⟩⟩)
      rw [if_pos h1, hsc]
      exact k
    | error e =>
      intro H3 s3
      walk_at "w"
      refine key _ _ s3 (.inl ⟨_, rfl, fun H' Q E k => .inl ⟨z, rfl, by omega, ?_⟩⟩)
      rw [if_pos h1, hsc]
      exact k
  · rw [if_neg h1]
    walk_at "w"
    refine key _ _ (Same.refl _) (.inl ⟨_, rfl, fun H' Q E k => .inl ⟨z, rfl, by omega, ?_⟩⟩)
    rw [if_neg h1]
    exact k
theorem ok_law (T : Txt K mg) (c__law_next : Kp P w K mg base CX0 1 "_law_next" ["_law_state", "_law_many"] (sp__law_next K)) (c__law_told_words : Kp P w K mg base CX0 1 "_law_told_words" [] (sp__law_told_words K)) (c__law_piece : Kp P w K mg base CX0 2 "_law_piece" ["_law_state"] (sp__law_piece K)) (c__law_odd : Kp P w K mg base CX0 2 "_law_odd" ["_law_state"] (sp__law_odd K)) (c__law_text : Kp P w K mg base CX0 3 "_law_text" ["_law_state"] (sp__law_text K)) (c__law_due : Kp P w K mg base CX0 2 "_law_due" ["_law_text_here"] (sp__law_due K)) (c__law_said : Kp P w K mg base CX0 5 "_law_said" ["_law_thing"] (sp__law_said K)) (c__law_by_hand : Kp P w K mg base CX0 3 "_law_by_hand" ["_law_state"] (sp__law_by_hand K)) (c__law_name_right : Kp P w K mg base CX0 2 "_law_name_right" ["_law_word"] (sp__law_name_right K)) {fd : FuncData} (F : FunD K d_law.name d_law.qual d_law.params d_law.body d_law.scope (d_law.dvs K) (d_law.kws K) (He.fAd K d_law.at_) fd) : FnOk P w K mg base CX0 6 (He.ga K "law") fd ["_law_script"] (sp_law K) := by
  refine F.ok sc_law Sp1.len (fun cdv A outer s H vs Q E hr h => ?_)
  obtain ⟨v0, rfl, h⟩ := h
  refine ⟨t_law K, PSs.nox (?_), pure_law T h⟩
  exact (pss_cons (ps_set (i := 1) sc_law.nd rfl (by first | exact Or.inl rfl | exact Or.inr rfl) (pe_disp (pps_cons pe_str (pv 0) (pps_cons pe_str pe_int pps_nil)) (by rfl) (by rfl) (fun z => by cases z) (by decide)))
      (pss_cons (ps_set (i := 2) sc_law.nd rfl (by first | exact Or.inl rfl | exact Or.inr rfl) (pe_cK c__law_text (hr.mono (by decide)) rfl (pa_cons (pv 1) pa_nil)))
      (pss_cons (ps_set (i := 3) sc_law.nd rfl (by first | exact Or.inl rfl | exact Or.inr rfl) (pe_cK c__law_due (hr.mono (by decide)) rfl (pa_cons (pv 2) pa_nil)))
      (pss_cons (ps_for PassesOwn.never rfl (pi_range1 (by rfl) T.n_range (pa_cons pe_int pa_nil)) (pg_name (i := 4) sc_law.nd rfl (by first | exact Or.inl rfl | exact Or.inr rfl)) (pss_cons (ps_set (i := 5) sc_law.nd rfl (by first | exact Or.inl rfl | exact Or.inr rfl) (pe_cK c__law_said (hr.mono (by decide)) rfl (pa_cons (pv 2) pa_nil)))
      (pss_one (ps_if (pt_val (pe_callB call_isA (by rfl) T.n_isinstance (by decide +kernel) (pa_cons (pv 3) (pa_cons (pe_bltn (v := .ty "int") (by rfl) T.n_int (by decide +kernel) rfl) pa_nil)))) (pss_one (ps_if (pt_cmpR (op_neA hr) (pv 5) (pe_tup (pa_cons (pv 3) pa_nil)) (nomark _)) (pss_one (ps_ret pe_bl)) pss_nil)) (pss_one (ps_if (PW.pt (pw_or (pt_not (pt_val (pe_callB call_isA (by rfl) T.n_isinstance (by decide +kernel) (pa_cons (pv 5) (pa_cons (pe_bltn (v := .ty "list") (by rfl) T.n_list (by decide +kernel) rfl) pa_nil))))) (pw_or (pt_cmpR (op_neA hr) (pv 5) (pv 3) (nomark _)) (pw_or1 (pt_not (pt_val (pe_callB (cr_all rfl) (by rfl) T.n_all (by decide +kernel) (pa_cons (pe_lc (own := [("_law_row", 6)]) (g := (gName 6)) rfl sc_law.nd (pi_A (pv 5)) (blkOk_by (own := [("_law_row", 6)]) (N := N_law) (sc := defScope s_law) (by decide +kernel)) (fun _ _ _ _ _ => (pg_name (i := 6) sc_law.nd rfl (by first | exact Or.inl rfl | exact Or.inr rfl))) (fun _ _ _ _ _ => pts_nil) (fun _ _ _ _ _ => (pe_callB call_isA (by rfl) T.n_isinstance (by decide +kernel) (pa_cons (pv 6) (pa_cons (pe_bltn (v := .ty "list") (by rfl) T.n_list (by decide +kernel) rfl) pa_nil))))) pa_nil)))))))) (pss_one (ps_ret pe_bl)) (pss_cons (ps_for PassesOwn.never rfl (pi_A (pv 5)) (pg_name (i := 6) sc_law.nd rfl (by first | exact Or.inl rfl | exact Or.inr rfl)) (pss_one (ps_expr (pe_bm PySem.F.plainAttrs_list PySem.F.slot_list_append PySem.F.type_list_append mt_append (pv 6) (pa_cons pe_str pa_nil)))))
      (pss_one (ps_expr (pe_bm PySem.F.plainAttrs_list PySem.F.slot_list_append PySem.F.type_list_append mt_append (pv 5) (pa_cons pe_str pa_nil)))))))))))
      (pss_cons (ps_set (i := 7) sc_law.nd rfl (by first | exact Or.inl rfl | exact Or.inr rfl) (pe_ixA hr (pe_lst (pa_cons pe_non (pa_cons pe_int (pa_cons pe_bl (pa_cons (pe_lst (pa_cons pe_str pa_nil)) (pa_cons (pe_tup (pa_cons pe_str pa_nil)) (pa_cons pe_dnewK (pa_cons pe_int (pa_cons (pe_lst (pa_cons (pv 2) pa_nil)) pa_nil))))))))) (pe_cK c__law_next (hr.mono (by decide)) rfl (pa_cons (pv 1) (pa_cons pe_int pa_nil))) (fun _ _ => rfl)))
      (pss_cons (ps_if (PW.pt (pw_or (pt_cmpR (op_neA hr) (pe_cK c__law_said (hr.mono (by decide)) rfl (pa_cons (pv 7) pa_nil)) (pe_tup (pa_cons pe_int pa_nil)) (nomark _)) (pw_or1 (pt_not (pt_val (pe_cK c__law_by_hand (hr.mono (by decide)) rfl (pa_cons (pv 1) pa_nil))))))) (pss_one (ps_ret pe_bl)) pss_nil)
      (pss_cons (ps_set (i := 8) sc_law.nd rfl (by first | exact Or.inl rfl | exact Or.inr rfl) (pe_lst (pa_cons (pe_cK c__law_piece (hr.mono (by decide)) rfl (pa_cons (pv 1) pa_nil)) (pa_cons (pe_cK c__law_odd (hr.mono (by decide)) rfl (pa_cons (pv 1) pa_nil)) (pa_cons (pe_op op_addA (pe_cK c__law_piece (hr.mono (by decide)) rfl (pa_cons (pv 1) pa_nil)) (pe_cK c__law_piece (hr.mono (by decide)) rfl (pa_cons (pv 1) pa_nil))) (pa_cons pe_str (pa_cons (pe_op op_addA (pe_cK c__law_piece (hr.mono (by decide)) rfl (pa_cons (pv 1) pa_nil)) pe_str) pa_nil)))))))
      (pss_one (ps_ret (pe_cmpR (op_eqA hr) (pe_lc (own := [("_law_word", 9)]) (g := (gName 9)) rfl sc_law.nd (pi_A (pe_op op_addA (pe_op op_addA (pv 8) (pe_cK0 c__law_told_words (hr.mono (by decide)) rfl)) (pe_lst (pa_cons pe_str (pa_cons (pe_op op_mulA pe_str pe_int) (pa_cons (pe_op op_mulA pe_str pe_int) pa_nil)))))) (blkOk_by (own := [("_law_word", 9)]) (N := N_law) (sc := defScope s_law) (by decide +kernel)) (fun _ _ _ _ _ => (pg_name (i := 9) sc_law.nd rfl (by first | exact Or.inl rfl | exact Or.inr rfl))) (fun _ _ _ _ _ => (pts_one (pt_not (pt_val (pe_cK c__law_name_right (hr.mono (by decide)) rfl (pa_cons (pv 9) pa_nil)))))) (fun _ _ _ _ _ => (pv 9))) (pe_lst pa_nil) (nomark _)))))))))))
end
end K01
set_option Elab.async false
set_option linter.all false
set_option maxRecDepth 100000
set_option maxHeartbeats 0
namespace K01
open PySem PySem.Spec PyProof.Rows L2 My
abbrev R : PySem.W.OpenRow := PySem.W.OpenLaw.row PySem.Challenge.rw_heirwood_k01_words
abbrev hk : PySem.W.Hook := He.hookX 4 fa fn [] [] ex
def ob (s : PySem.W.SharedT) : He.AlX := He.obsX 4 fa fn [] [] ex (HandSHeadRun.getT s)
theorem ob_eq (s : PySem.W.SharedT) : ob s = hk.obs s.abs := He.obsX_eq (HandSHeadRun.getT_eq s)
def ns0 : List PySem.Str := ["_wall", "HeirError", "BadSign", "BadText", "BadFacts", "NoOne", "Alive", "BadLine", "TooMany", "TOLD", "LETTERS", "FIGURES", "MOST_SIGNS", "MOST_LETTERS", "MOST_FIGURES", "run_end", "word_end", "row_words", "text_words", "is_name"]
def ns1 : List PySem.Str := ["_law_next", "_law_told_words", "_law_piece", "_law_odd", "_law_text", "_law_run", "_law_due", "_law_class", "_law_said", "_law_by_hand", "_law_name_right"]
def loose : List PySem.Str := ns0 ++ ns1
theorem run (w : World) : HandSHeadRun.RunEq R (PySem.W.view R.prog [34]) hk ob 3000 loose w := by
  intro os
  kernel_rfl
theorem facts {P : Program} {w : World} {K : PySem.W.Frag} {h : Heap} {mg : Str → Option Value} {f : Addr} (X : K.In h) (G : h.Ns mainGlobals mg) (hfa : mg ("law" : Str) = some (.ref f)) (c : He.SaysX fa fn [] [] ex w h K) :
    ∃ fd : FuncData, (∀ (s : Shared) (v : Value), BindsTo s fd ⟨[v], []⟩ [("_law_script", v)]) ∧ ∀ base : Heap, K.In base → base.Ns mainGlobals mg → FnOk P w K mg base CX0 6 f fd ["_law_script"] (sp_law K) := by
  have T : Txt K mg := ⟨⟨h, X, G⟩, c.t.d, c.more⟩
  obtain ⟨fd, F⟩ := T.c.def_ 21 (d := d_law) rfl
  have e := hfa.symm.trans T.g_law
  cases e
  have b := FunD.bindsA (ps := ["_law_script"]) F fun _ _ _ _ _ _ us hl => match us, hl with | [_], _ => rfl
  refine ⟨fd, fun s v => b s [v] rfl, fun base _ _ => ?_⟩
  have x_BadSign := kx_of T.g_BadSign T.oex_BadSign (ok_BadSign___init__ (P := P) (w := w) (base := base) T )
  have x_BadText := kx_of T.g_BadText T.oex_BadText (ok_BadText___init__ (P := P) (w := w) (base := base) T )
  have x_BadFacts := kx_of T.g_BadFacts T.oex_BadFacts (ok_BadFacts___init__ (P := P) (w := w) (base := base) T )
  have x_NoOne := kx_of T.g_NoOne T.oex_NoOne (ok_NoOne___init__ (P := P) (w := w) (base := base) T )
  have x_Alive := kx_of T.g_Alive T.oex_Alive (ok_Alive___init__ (P := P) (w := w) (base := base) T )
  have c_run_end := ok_run_end (P := P) (w := w) (base := base) T 
  have c_word_end := ok_word_end (P := P) (w := w) (base := base) T c_run_end
  have c_row_words := ok_row_words (P := P) (w := w) (base := base) T c_word_end x_BadSign
  have c_text_words := ok_text_words (P := P) (w := w) (base := base) T c_row_words x_BadSign
  have c_is_name := ok_is_name (P := P) (w := w) (base := base) T 
  have c__law_next := ok__law_next (P := P) (w := w) (base := base) T 
  have c__law_told_words := ok__law_told_words (P := P) (w := w) (base := base) T 
  have c__law_piece := ok__law_piece (P := P) (w := w) (base := base) T c__law_next c__law_told_words
  have c__law_odd := ok__law_odd (P := P) (w := w) (base := base) T c__law_next
  have c__law_text := ok__law_text (P := P) (w := w) (base := base) T c__law_next c__law_piece c__law_odd
  have c__law_run := ok__law_run (P := P) (w := w) (base := base) T 
  have c__law_due := ok__law_due (P := P) (w := w) (base := base) T c__law_run
  have c__law_class := ok__law_class (P := P) (w := w) (base := base) T 
  have c__law_said := ok__law_said (P := P) (w := w) (base := base) T c_text_words c__law_class
  have c__law_by_hand := ok__law_by_hand (P := P) (w := w) (base := base) T c__law_next c__law_piece x_Alive x_BadFacts x_BadSign x_BadText x_NoOne
  have c__law_name_right := ok__law_name_right (P := P) (w := w) (base := base) T c_is_name c__law_told_words
  exact ok_law T c__law_next c__law_told_words c__law_piece c__law_odd c__law_text c__law_due c__law_said c__law_by_hand c__law_name_right F
end K01
open PySem PySem.W PySem.Calls PyProof.Rows
theorem PySem.Challenge.cw_heirwood_k01_words_holds : PySem.Challenge.rw_heirwood_k01_words.Holds := by
  w_on; o_law
  refine HandSHeadRun.head_any (r := OpenLaw.row PySem.Challenge.rw_heirwood_k01_words) (q := view (OpenLaw.row PySem.Challenge.rw_heirwood_k01_words).prog [34]) (H := K01.hk) (ob := K01.ob) (M := 3000) (loose := K01.loose) (d := HandSHeadRun.topDef (OpenLaw.row PySem.Challenge.rw_heirwood_k01_words).prog 34) (kwd := []) K01.ob_eq
    (by kernel_rfl) (fun s => by kernel_rfl) K01.run (by kernel_rfl) (by kernel_rfl) (by kernel_rfl) (by rfl) (by first | assumption | decide +kernel) (by decide +kernel) ⟨rfl, rfl, rfl, rfl, rfl, by decide +kernel⟩ ?hw ?hc
  case hw => w_witness2
  case hc =>
    refine L2.walk_ofE (l := PySem.Challenge.rw_heirwood_k01_words) (n := 63) (k := 6) (x := "_law_script") (CX := L2.CX0) rfl (by decide) (by kernel_rfl) ⟨rfl, by decide, by decide⟩ ?F (fun _ _ _ _ z => z)
    intro w mg fa h Y G hmg0
    obtain ⟨K, KX, c⟩ := Y
    have hmg : mg ("law" : PySem.Str) = some (.ref fa) := by
      have e : (HandSHeadRun.topDef (OpenLaw.row PySem.Challenge.rw_heirwood_k01_words).prog 34).name = ("law" : PySem.Str) := by kernel_rfl
      rw [← e]
      exact hmg0
    obtain ⟨fd, hb, hF⟩ := K01.facts (P := (PySem.Challenge.rw_heirwood_k01_words).prog) (w := w) KX G hmg c
    exact ⟨K, fd, K01.sp_law K, KX, hb, fun H a ns hl _ hS => ⟨_, rfl, a, ns, rfl, hS, hl, fun _ => rfl⟩, hF⟩
