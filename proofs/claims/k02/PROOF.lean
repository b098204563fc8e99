import PyProof.Rows.All
import Wide.All
import OpenK.AllK
import Wide.FinOn
import PySem.Challenge.RW_whogivesway_k02_whole_rays_turned_and_wh
import HandS.ForMost
import HandS.Deep
import HandS.Text
import HandS.Steps
import HandS.TupMul
import KE.KRevSl
import HandS.Style
import HandS.Flow
import HandS.Wide
import HandS.IsInst
import HandS.TupAny
import PyProof.ReprRoads
import HandS.More
import HandS.Zip
import HandS.Defaults
import HandS.HeadEnd
import HandS.HeadHook2
import KE.KStateDown
import HandS.Head0
import HandS.Head1
import HandS.Head2
import HandS.HeadHook1
set_option Elab.async false
set_option linter.all false
set_option maxRecDepth 100000
set_option maxHeartbeats 4000000
/-! G0: operators that the hand layer lacks -/
namespace L2
open PySem PySem.Spec PyProof.Rows
theorem tuple_mul1 (l : Addr) (items : Array Value) (n : Nat) (dd : Option Addr) (sl : Array (Option Value)) (x : Int) (u : Tok) (c0 : (decide (x < -(2 ^ 63)) || decide (x ≥ 2 ^ 63)) = false) (c1 : (items.isEmpty || x == 1) = true) :
    Meets (Builtin.«tuple.__mul__» ⟨[.ref l, .int x u], []⟩) (fun _ R s => s.heap.get? l = some { cls := .type "tuple", dict := dd, data := .seq items n, slots := sl } ∧ R (.ok (.ret (Value.ref l))) s) :=
  .of_wp fun prog w A R s h => by
    obtain ⟨hp, g, d, tk, os⟩ := s
    obtain ⟨hl, h⟩ := h
    have f1 := AutoSeq1.idx_int
    wp_walk using wpAny_loadPart' hl
    repeat (first
      | (refine wpAny_ite_false (decide_eq_false (by rw [c0]; exact Bool.false_ne_true)) ?_; wp_walk using wpAny_loadPart' hl)
      | (refine wpAny_ite_true (decide_eq_true (by rw [c1])) ?_; wp_walk using wpAny_loadPart' hl))
    exact ⟨_, rfl, h⟩
theorem tuple_mul0 (l : Addr) (items : Array Value) (n : Nat) (dd : Option Addr) (sl : Array (Option Value)) (x : Int) (u : Tok) (c0 : (decide (x < -(2 ^ 63)) || decide (x ≥ 2 ^ 63)) = false) (c1 : (items.isEmpty || x == 1) = false) (c2 : (decide (x ≤ 0) || items.isEmpty) = true) :
    Meets (Builtin.«tuple.__mul__» ⟨[.ref l, .int x u], []⟩) (fun _ R s => s.heap.get? l = some { cls := .type "tuple", dict := dd, data := .seq items n, slots := sl } ∧
      R (.ok (.ret (Value.ref s.heap.objs.size))) { s with heap := s.heap.push { cls := Value.type "tuple", data := Data.seq #[] }, toks := s.toks }) :=
  .of_wp fun prog w A R s h => by
    obtain ⟨hp, g, d, tk, os⟩ := s
    obtain ⟨hl, h⟩ := h
    have f1 := AutoSeq1.idx_int
    wp_walk using wpAny_loadPart' hl
    repeat (first
      | (refine wpAny_ite_false (decide_eq_false (by rw [c0]; exact Bool.false_ne_true)) ?_; wp_walk using wpAny_loadPart' hl)
      | (refine wpAny_ite_false (decide_eq_false (by rw [c1]; exact Bool.false_ne_true)) ?_; wp_walk using wpAny_loadPart' hl)
      | (refine wpAny_ite_true (decide_eq_true (by rw [c2])) ?_; wp_walk using wpAny_loadPart' hl))
    exact ⟨_, rfl, h⟩
def rRepT1 (K : PySem.W.Frag) : R2 := fun x y H Q => ∃ l xs, x = .ref l ∧ y = .int 1 ∧ SqT K H l xs ∧ Q (.ref l) H
def rRepT0 (K : PySem.W.Frag) : R2 := fun x y H Q => ∃ l k xs, x = .ref l ∧ y = .int k ∧ SqT K H l xs ∧ xs ≠ [] ∧ -(2 ^ 63) ≤ k ∧ k ≤ 0 ∧ ∀ p, H p = none → Q (.ref p) (upd H p (.tup []))
section
variable {X : Cx}
theorem op_repT1 : OpR X (binaryOp .Mult) (rRepT1 X.K) := by
  intro pins s σ H x y v u Q I rx ry h
  obtain ⟨l, xs, rfl, rfl, hT, q⟩ := h
  cases rx
  obtain ⟨t, rfl⟩ := ry
  obtain ⟨its, r, ⟨⟨cls, dd, data, sl⟩, ho, hc, n, hd⟩, hs⟩ := I.tuple hT
  simp only at hc hd
  subst hc hd
  have k1 : (its.toArray.isEmpty || (1 : Int) == 1) = true := by rw [Bool.or_eq_true]; exact .inr rfl
  refine wpAny_binaryOp_repeat_ref (T := "tuple") (U := "int") (by decide) ⟨_, ho, rfl⟩ (fun s' => typeIs_int s' 1 t) noFill_tuple_mul F.fills_int_mul F.slot_int_rmul repeat_tuple F.slot_int_index.lookup
    (call_meets F.slot_int_rmul (typeIs_int s 1 t) F.entry_int_rmul (F.args_int_rmul_2 _ _) (int_rmul_tuple 1 t l its.toArray n dd sl) ⟨ho, rfl, ⟨_, ho, rfl⟩, call_meets F.slot_tuple_mul ⟨_, ho, rfl⟩ F.entry_tuple_mul (F.args_tuple_mul_2 _ _) (tuple_mul1 l its.toArray n dd sl 1 t (by decide) k1) ⟨ho, ?_⟩⟩)
  exact ⟨.ref l, H, I, rfl, q⟩
theorem op_repT0 : OpR X (binaryOp .Mult) (rRepT0 X.K) := by
  intro pins s σ H x y v u Q I rx ry h
  obtain ⟨l, k, xs, rfl, rfl, hT, hne, h1, h2, q⟩ := h
  cases rx
  obtain ⟨t, rfl⟩ := ry
  obtain ⟨its, r, ⟨⟨cls, dd, data, sl⟩, ho, hc, n, hd⟩, hs⟩ := I.tuple hT
  simp only at hc hd
  subst hc hd
  have k0 : (decide (k < -(2 ^ 63)) || decide (k ≥ 2 ^ 63)) = false := by
    rw [Bool.or_eq_false_iff]; exact ⟨decide_eq_false (by omega), decide_eq_false (by omega)⟩
  have k1 : (its.toArray.isEmpty || k == 1) = false := by
    rw [Bool.or_eq_false_iff]
    refine ⟨?_, beq_eq_false_iff_ne.mpr (by omega)⟩
    cases its with
    | nil => exact absurd (List.eq_nil_of_length_eq_zero r.length) hne
    | cons a b => rfl
  have k2 : (decide (k ≤ 0) || its.toArray.isEmpty) = true := by rw [decide_eq_true h2]; rfl
  refine wpAny_binaryOp_repeat_ref (T := "tuple") (U := "int") (by decide) ⟨_, ho, rfl⟩ (fun s' => typeIs_int s' k t) noFill_tuple_mul F.fills_int_mul F.slot_int_rmul repeat_tuple F.slot_int_index.lookup
    (call_meets F.slot_int_rmul (typeIs_int s k t) F.entry_int_rmul (F.args_int_rmul_2 _ _) (int_rmul_tuple k t l its.toArray n dd sl) ⟨ho, rfl, ⟨_, ho, rfl⟩, call_meets F.slot_tuple_mul ⟨_, ho, rfl⟩ F.entry_tuple_mul (F.args_tuple_mul_2 _ _) (tuple_mul0 l its.toArray n dd sl k t k0 k1 k2) ⟨ho, ?_⟩⟩)
  refine ⟨.ref s.heap.objs.size, _, I.laid (t' := s.toks) (o := .tup []) (fun b ob q => Heap.get?_push_of_some _ q) (Nat.le_refl _) ?_, rfl, q _ (I.hok.fresh (Nat.le_refl _))⟩
  exact ⟨Nat.zero_le _, [], .nil, IsTup.new _ _⟩
def rInT (K : PySem.W.Frag) : R2 := fun x y H Q => ∃ d ds, Dp K H x d ∧ Dp K H y (.tuple ds) ∧ SeqAt.shaped d = true ∧ SeqAt.shaped (.tuple ds) = true ∧ Q (.bl (ds.any fun z => PyData.eqv z d)) H
def rNiT (K : PySem.W.Frag) : R2 := fun x y H Q => ∃ d ds, Dp K H x d ∧ Dp K H y (.tuple ds) ∧ SeqAt.shaped d = true ∧ SeqAt.shaped (.tuple ds) = true ∧ Q (.bl (!ds.any fun z => PyData.eqv z d)) H
theorem op_inT (hu : X.A.units + 65 < cLine) : OpR X (compareOp .In) (rInT X.K) := by
  rintro pins s σ H x y v u Q I rx ry ⟨d, ds, hd, he, sd, se, q⟩
  obtain ⟨as, r1⟩ := Dp.reads I d x v hd rx
  obtain ⟨bs, r2⟩ := Dp.reads I (.tuple ds) y u he ry
  refine SeqAt.in_tuple_reads r2 r1 (SeqAt.canLay_of_shaped se) (SeqAt.canLay_of_shaped sd) (room_in_shaped sd hu) ?_
  exact ⟨.bl _, H, I, rfl, q⟩
theorem op_niT (hu : X.A.units + 65 < cLine) : OpR X (compareOp .NotIn) (rNiT X.K) := by
  rintro pins s σ H x y v u Q I rx ry ⟨d, ds, hd, he, sd, se, q⟩
  obtain ⟨as, r1⟩ := Dp.reads I d x v hd rx
  obtain ⟨bs, r2⟩ := Dp.reads I (.tuple ds) y u he ry
  refine SeqAt.notIn_tuple_reads r2 r1 (SeqAt.canLay_of_shaped se) (SeqAt.canLay_of_shaped sd) (room_in_shaped sd hu) ?_
  exact ⟨.bl _, H, I, rfl, q⟩
end
end L2
namespace L2
open PySem PySem.Spec PyProof.Rows HT
theorem back_places (n : Nat) : Builtin.Slice.slicePlaces ((n : Int) - 1) (-1) (-1) = n := by
  unfold Builtin.Slice.slicePlaces
  rw [if_neg (by omega), Int.neg_neg, Int.ediv_one]
  split <;> omega
theorem back_pick (xs : Array Value) : ((List.range xs.size).filterMap fun (k : Nat) => xs[((xs.size : Int) - 1 + (k : Int) * (-1)).toNat]?) = xs.toList.reverse := by
  have h1 : ((List.range xs.size).filterMap fun (k : Nat) => xs[((xs.size : Int) - 1 + (k : Int) * (-1)).toNat]?) = (List.range xs.size).filterMap fun (k : Nat) => xs[xs.size - 1 - k]? := by
    congr 1
    funext k
    rw [show ((xs.size : Int) - 1 + (k : Int) * (-1)).toNat = xs.size - 1 - k by omega]
  have h2 : (List.range xs.size).filterMap (fun (k : Nat) => xs[xs.size - 1 - k]?) = ((List.range xs.size).map fun k => xs.size - 1 - k).filterMap (fun (k : Nat) => xs[k]?) := by
    rw [List.filterMap_map]; rfl
  rw [h1, h2, PySem.W.krv_range, List.filterMap_reverse, PySem.W.krv_all]
section
variable {prog : Program} {w : World} {A : Around} {E : Value → Shared → Prop} {s : Shared}
theorem back_applied {sl : Addr} {vs : Value} {n : Nat} {Q : Int × Int × Nat → Shared → Prop} (hs : s.heap.IsSliceOf sl .none .none vs) (ps : IsPart vs (some (-1)))
    (h : Q ((n : Int) - 1, -1, n) s) : wpAny (model prog w) A (Builtin.Slice.sliceApplied (.ref sl) (pure (n : Int))) Q E s := by
  obtain ⟨o, ho, _, hd⟩ := id hs
  unfold Builtin.Slice.sliceApplied Builtin.Slice.sliceFields
  refine wpAny_bind (wpAny_bind (wpAny_field ho hd (x := .none) rfl (wpAny_bind (wpAny_field ho hd (x := .none) rfl (wpAny_bind (wpAny_field ho hd (x := vs) rfl (wpAny_pure ?_)))))))
  refine wpAny_bind (slicePart_ ps ?_)
  show wpAny _ _ (if ((-1 : Int) == 0) = true then _ else _) _ _ s
  rw [if_neg (by decide)]
  refine wpAny_bind (slicePart_none (wpAny_bind (slicePart_none (wpAny_bind (wpAny_pure ?_)))))
  show wpAny _ _ (pure ((n : Int) - 1, (-1 : Int), Builtin.Slice.slicePlaces ((n : Int) - 1) (-1) (-1))) _ _ s
  rw [back_places]
  exact wpAny_pure h
theorem back_tuple {t sl : Addr} {items : Array Value} {vs : Value} {Q : Value → Shared → Prop} (ht : IsTup s.heap t items) (hs : s.heap.IsSliceOf sl .none .none vs) (ps : IsPart vs (some (-1)))
    (hsz : items.size ≤ sizeLine) (h : Q (.ref s.heap.objs.size) { s with heap := s.heap.push { cls := .type "tuple", data := .seq items.toList.reverse.toArray } }) : wpAny (model prog w) A (getItem (.ref t) (.ref sl)) Q E s := by
  obtain ⟨o, ho, hc, hd⟩ := id hs
  have ty : s.TypeIs (.ref sl) "slice" := ⟨o, ho, hc⟩
  have ok : sizeOk (.seq items.toList.reverse.toArray) := by
    show items.toList.reverse.toArray.size ≤ sizeLine
    rw [List.size_toArray, List.length_reverse, Array.length_toList]; exact hsz
  unfold getItem
  try with_reducible refine wpAny_holding ?_
  first | refine wpAny_bind (wpAny_pure ?_) | skip
  refine wpAny_bind (wpAny_sequenceKey ht.typeIs (by decide) (id ?_))
  refine wpAny_bind (wpAny_callSpecial?_slot (name := Str.ofString "__getitem__") ht.typeIs slot_tuple_getitem (wpAny_call_entry slot_tuple_getitem ht.typeIs entry_tuple_getitem ?_ (args_tuple_getitem _ _)))
  show wpAny _ _ (Builtin.Tuple.tupleItemsOf (.ref t) >>= _) _ _ s
  refine wpAny_bind (tupleItemsOf_ ht (wpAny_bind (wpAny_typeOf ty ?_)))
  rw [if_pos (by decide)]
  refine wpAny_bind (back_applied hs ps ?_)
  show wpAny _ _ (if (((items.size : Int) - 1) == 0 && (-1 : Int) == 1 && items.size == items.size) = true then _ else _) _ _ s
  rw [if_neg (by simp), back_pick]
  first
    | exact wpAny_bind (m := Builtin.Tuple.tupleExact _) (wpAny_newObj_type (wpAny_pure ⟨_, rfl, wpAny_pure h⟩) ok)
    | exact wpAny_bind (m := Builtin.Tuple.tupleExact _) (wpAny_newObj_type (wpAny_bind (wpAny_pure (wpAny_pure ⟨_, rfl, wpAny_pure h⟩))) ok)
    | exact wpAny_bind (wpAny_bind (m := Builtin.Tuple.tupleExact _) (wpAny_newObj_type (wpAny_pure (wpAny_pure ⟨_, rfl, wpAny_pure h⟩)) ok))
    | exact wpAny_bind (wpAny_bind (m := Builtin.Tuple.tupleExact _) (wpAny_newObj_type (wpAny_pure ⟨_, rfl, wpAny_pure h⟩) ok))
end
end L2

/-! G1: the small language, and what it means over data -/
namespace G
open PySem PySem.Spec PyProof.Rows L2

abbrev D := PySem.PyData
abbrev Sg := PySem.Str

/-- a slot of the frame: unset, a list of the frame's own, the same while it is walked, a value -/
inductive Slot where
  | un | own (d : D) | lock (d : D) | sh (d : D)
abbrev En := List Slot

/-- built-in functions of values -/
inductive Blt where
  | len | int | abs | tuple | list | all | any | repr
  deriving DecidableEq, Repr
/-- classes for isinstance -/
inductive Ty where
  | int | bool | str | tuple | list | dict
  deriving DecidableEq, Repr

inductive Tg where
  | nm (i : Nat) | tup (ts : List Tg)
  deriving Repr

/-- constants -/
inductive Cn where
  | none | bool (b : Bool) | int (i : Int) | str (s : Str)
  deriving Repr
def Cn.d : Cn → D
  | .none => .none
  | .bool b => .bool b
  | .int i => .int i
  | .str s => .str s
mutual
inductive E where
  | bad
  | var (i : Nat)
  | cst (d : Cn)
  | con (d : PySem.PyData)
  | dic0
  | tup (es : Es) | lst (es : Es)
  | bin (op : Operator) (a b : E)
  | neg (a : E)
  | cmp (op : CmpOp) (a b : E)
  | chain (o p : CmpOp) (a b c : E)
  | not (a : T) | and (a b : E) | or (a b : E)
  | ite (c : T) (a b : E)
  | call (f : Nat) (args : As)
  | blt (f : Blt) (a : E)
  | isi (a : E) (t : Ty)
  | idx (a i : E)
  | slc (a : E) (lo hi : Oe)
  | rev (a : E)
  | comp (vs : List Nat) (elt : E) (tg : Tg) (it : Wk) (cond : Ot)
  | pop (i : Nat) (ix : E)
/-- tests -/
inductive T where
  | not (a : T) | and (a b : T) | or (a b : T) | ite (c a b : T) | val (e : E)
inductive Ot where
  | no | yes (t : T)
inductive Es where
  | nil | cons (e : E) (es : Es)
inductive Oe where
  | no | yes (e : E)
inductive As where
  | nil | io (i : Nat) (as : As) | ev (e : E) (as : As)
inductive Wk where
  | of (e : E) | rng (a : E) | rng2 (a b : E) | enum (a : E)
end

inductive S where
  | bad
  | expr (e : E)
  | set (i : Nat) (e : E)
  | setT (t : Tg) (e : E)
  | par (ts : List Nat) (es : Es)
  | setIx (i : Nat) (ix e : E)
  | append (i : Nat) (e : E)
  | insert (i : Nat) (k e : E)
  | ret (e : E)
  | ife (c : T) (a b : List S)
  | fors (t : Tg) (it : Wk) (b : List S)
  | whl (c : T) (b : List S)
  | retN
  | pass

/-! ### what operations do to data -/
abbrev K1 := D → Bool → Prop

def natD (n : Nat) : D := .int (n : Int)
/-- a list or tuple or text as its items -/
def truth : D → (Bool → Prop) → Prop
  | .none, k => k false
  | .bool b, k => k b
  | .int i, k => k (i != 0)
  | .str s, k => s.length ≤ sizeLine ∧ k ((s.length : Int) != 0)
  | .list xs, k => k (!xs.isEmpty)
  | .tuple xs, k => k (!xs.isEmpty)
  | .dict _, _ => False

def op2 : Operator → D → D → K1 → Prop
  | .Add, .int i, .int j, k => k (.int (i + j)) false
  | .Add, .str x, .str y, k => x.length + y.length ≤ sizeLine ∧ k (.str (x ++ y)) false
  | .Add, .list xs, .list ys, k => xs.length + ys.length ≤ sizeLine ∧ k (.list (xs ++ ys)) true
  | .Add, .tuple xs, .tuple ys, k => xs.length + ys.length ≤ sizeLine ∧ k (.tuple (xs ++ ys)) false
  | .Sub, .int i, .int j, k => k (.int (i - j)) false
  | .Mult, .int i, .int j, k => CMulW i j ∧ k (.int (i * j)) false
  | .Mult, .tuple xs, .int n, k => xs ≠ [] ∧ -(2 ^ 63) ≤ n ∧ n ≤ 1000 ∧ xs.length ≤ 1000 ∧ k (.tuple (List.replicate n.toNat xs).flatten) false
  | .Mult, .list xs, .int n, k => -(2 ^ 63) ≤ n ∧ n < 2 ^ 63 ∧ xs.length * n.toNat ≤ sizeLine ∧ k (.list (List.replicate n.toNat xs).flatten) true
  | .Mod, .int i, .int j, k => 0 < j ∧ k (.int (i % j)) false
  | .FloorDiv, .int i, .int j, k => CDivW i j ∧ k (.int (i / j)) false
  | .Pow, .int i, .int j, k => CPow i j ∧ k (.int (i ^ j.toNat)) false
  | _, _, _, _ => False

/-- data that == compares as it stands -/
def flatD : D → Bool
  | .none | .bool _ | .int _ | .str _ => true
  | _ => false
def isNoneD : D → Bool
  | .none => true
  | _ => false
def cmp2 : CmpOp → D → D → (Bool → Prop) → Prop
  | .Lt, .int i, .int j, k => k (decide (i < j))
  | .LtE, .int i, .int j, k => k (decide (i ≤ j))
  | .Gt, .int i, .int j, k => k (decide (j < i))
  | .GtE, .int i, .int j, k => k (decide (j ≤ i))
  | .Eq, .str x, .str y, k => k (decide (x = y))
  | .NotEq, .str x, .str y, k => k (!decide (x = y))
  | .Eq, x, y, k => SeqAt.shaped x = true ∧ SeqAt.shaped y = true ∧ k (PyData.eqv x y)
  | .In, x, .list ys, k => SeqAt.shaped x = true ∧ SeqAt.shaped (.list ys) = true ∧ k (ys.any fun z => PyData.eqv z x)
  | .NotIn, x, .list ys, k => SeqAt.shaped x = true ∧ SeqAt.shaped (.list ys) = true ∧ k (!ys.any fun z => PyData.eqv z x)
  | .In, x, .tuple ys, k => SeqAt.shaped x = true ∧ SeqAt.shaped (.tuple ys) = true ∧ k (ys.any fun z => PyData.eqv z x)
  | .NotIn, x, .tuple ys, k => SeqAt.shaped x = true ∧ SeqAt.shaped (.tuple ys) = true ∧ k (!ys.any fun z => PyData.eqv z x)
  | .In, .str x, .str y, k => ∃ c, x = ⟨#[c]⟩ ∧ k (decide (c ∈ y.cps.toList))
  | .NotIn, .str x, .str y, k => ∃ c, x = ⟨#[c]⟩ ∧ k (!decide (c ∈ y.cps.toList))
  | .NotEq, x, y, k => SeqAt.shaped x = true ∧ SeqAt.shaped y = true ∧ k (!PyData.eqv x y)
  | .Is, x, .none, k => k (isNoneD x)
  | .IsNot, x, .none, k => k (!isNoneD x)
  | .Is, .bool a, .bool b, k => k (a == b)
  | .IsNot, .bool a, .bool b, k => k (!(a == b))
  | _, _, _, _ => False

def blt1 : Blt → D → K1 → Prop
  | .len, .str s, k => s.length ≤ sizeLine ∧ k (natD s.length) false
  | .len, .list xs, k => k (natD xs.length) false
  | .len, .tuple xs, k => k (natD xs.length) false
  | .int, .int i, k => k (.int i) false
  | .int, .bool b, k => k (.int (if b then 1 else 0)) false
  | .abs, .int i, k => k (.int (if i < 0 then -i else i)) false
  | .tuple, .list xs, k => k (.tuple xs) false
  | .tuple, .tuple xs, k => k (.tuple xs) false
  | .list, .list xs, k => k (.list xs) true
  | .list, .tuple xs, k => k (.list xs) true
  | .all, .list xs, k => ∃ bs : List Bool, xs = bs.map .bool ∧ k (.bool (bs.all id)) false
  | .any, .list xs, k => ∃ bs : List Bool, xs = bs.map .bool ∧ k (.bool (bs.any id)) false
  | .repr, x, k => x.showable = true ∧ SeqAt.shaped x = true ∧ x.shown.length ≤ sizeLine ∧ k (.str x.shown) false
  | _, _, _ => False

def isTy : Ty → D → Bool
  | .int, .int _ => true
  | .int, .bool _ => true
  | .bool, .bool _ => true
  | .str, .str _ => true
  | .tuple, .tuple _ => true
  | .list, .list _ => true
  | .dict, .dict _ => true
  | _, _ => false

def okTy : D → Bool
  | .dict (_ :: _) => false
  | _ => true
def item (d : D) (i : D) (k : D → Prop) : Prop :=
  match d, i with
  | .list xs, .int n => ∃ x, atI xs n = some x ∧ k x
  | .tuple xs, .int n => ∃ x, atI xs n = some x ∧ k x
  | _, _ => False

def items : D → (List D → Prop) → Prop
  | .list xs, k => k xs
  | .tuple xs, k => k xs
  | _, _ => False

def cutD (xs : List D) (lo hi : Option Int) : List D := (xs.drop (HT.sIx xs.length 0 lo)).take (HT.sIx xs.length xs.length hi - HT.sIx xs.length 0 lo)
/-- the script: a list that is only read -/
abbrev scrD (xs : List D) : D := .dict [(.none, .list xs)]
def slice (d : D) (lo hi : Option Int) (k : K1) : Prop :=
  match d with
  | .dict [(.none, .list xs)] => k (.list (cutD xs lo hi)) true
  | .list xs => k (.list (cutD xs lo hi)) true
  | .tuple xs => k (.tuple (cutD xs lo hi)) false
  | _ => False

def revD : D → K1 → Prop
  | .list xs, k => k (.list xs.reverse) true
  | .tuple xs, k => k (.tuple xs.reverse) false
  | _, _ => False

/-! ### operands: a name is read late -/
inductive Od where
  | late (i : Nat) | val (d : D)
def Slot.get : Slot → (D → Prop) → Prop
  | .un, _ => False
  | .own d, k => k d
  | .lock d, k => k d
  | .sh d, k => k d
def rdS (env : En) (i : Nat) (k : D → Prop) : Prop :=
  match env[i]? with
  | some s => s.get k
  | none => False
def rd (env : En) : Od → (D → Prop) → Prop
  | .val d, k => k d
  | .late i, k => rdS env i k
/-- a name read as a value: what it was is shared from now on -/
def Slot.share : Slot → Slot
  | .own d => .sh d
  | .lock d => .sh d
  | s => s
def shareE (env : En) (i : Nat) : En := env.set i ((env[i]?.getD .un).share)
def put (env : En) (i : Nat) (d : D) (fr : Bool) : En := env.set i (if fr then .own d else .sh d)

/-- several names at once -/
def putsE : List Nat → List (D × Bool) → En → (En → Prop) → Prop
  | [], [], env, k => k env
  | i :: is, (d, fr) :: ds, env, k => putsE is ds (put env i d fr) k
  | _, _, _, _ => False
/-! ### walks -/
/-- what is walked: items, and the slot that is locked meanwhile -/
def lockE (env : En) : Od → En
  | .late i => match env[i]? with
    | some (.own d) => env.set i (.lock d)
    | _ => env
  | .val _ => env
/-- was it locked here? -/
def lockB (env : En) : Od → Bool
  | .late i => match env[i]? with
    | some (.own _) => true
    | _ => false
  | .val _ => false
def unlockE (b : Bool) (o : Od) (env : En) : En :=
  match b, o with
  | true, .late i => match env[i]? with
    | some (.lock d) => env.set i (.own d)
    | _ => env
  | _, _ => env
def enumD : Int → List D → List D
  | _, [] => []
  | n, x :: xs => .tuple [.int n, x] :: enumD (n + 1) xs
def zipD : List D → List D → List D
  | x :: xs, y :: ys => .tuple [x, y] :: zipD xs ys
  | _, _ => []
def rngD (lo : Int) (n : Nat) : List D := (List.range n).map fun (i : Nat) => PyData.int (lo + (i : Int))

/-- what is wanted behind a statement -/
structure En4 where
  nx : En → Prop
  rt : D → Bool → En → Prop
  bk : En → Prop
  ct : En → Prop

mutual
def wpTg : Tg → D → En → (En → Prop) → Prop
  | .nm i, d, env, k => k (put env i d false)
  | .tup ts, d, env, k => ∃ xs, d = .tuple xs ∧ xs.length = ts.length ∧ wpTgs ts xs env k
def wpTgs : List Tg → List D → En → (En → Prop) → Prop
  | [], xs, env, k => xs = [] ∧ k env
  | t :: ts, xs, env, k => ∃ y ys, xs = y :: ys ∧ wpTg t y env fun e => wpTgs ts ys e k
end

def forD (tg : D → En → (En → Prop) → Prop) (b : En → En4 → Prop) : List D → En → En4 → Prop
  | [], env, d => d.nx env
  | x :: xs, env, d => tg x env fun e => b e { d with nx := fun e' => forD tg b xs e' d, ct := fun e' => forD tg b xs e' d, bk := d.nx }
def whileD (t : En → (Bool → En → Prop) → Prop) (b : En → En4 → Prop) (env : En) (d : En4) : Prop :=
  ∃ W : Nat → En → Prop, (∃ m, W m env) ∧ ∀ m env, W m env → t env fun c e =>
    if c = true then b e { d with nx := fun e' => ∃ m', m' < m ∧ W m' e', ct := fun e' => ∃ m', m' < m ∧ W m' e', bk := d.nx } else d.nx e
def wipeE (env : En) : List Nat → En
  | [] => env
  | v :: vs => (wipeE env vs).set v .un
/-- a slot that a comprehension's name may take: nothing of the frame's own stands there -/
def freeS (env : En) (i : Nat) : Bool :=
  match env[i]? with
  | some .un => true
  | some (.sh _) => true
  | _ => false
def restore (old : En) : List Nat → En → En
  | [], env => env
  | v :: vs, env => (restore old vs env).set v (old[v]?.getD .un)
def compD (vs : List Nat) (tg : D → En → (En → Prop) → Prop) (cond : En → (Bool → En → Prop) → Prop) (elt : En → (D → Bool → En → Prop) → Prop) :
    List D → List D → En → (List D → En → Prop) → Prop
  | [], acc, env, k => (vs.all fun v => freeS env v) = true ∧ k acc env
  | x :: xs, acc, env, k => (vs.all fun v => freeS env v) = true ∧ tg x (wipeE env vs) fun e1 => cond e1 fun b e2 =>
      if b = true then elt e2 fun y _ e3 => compD vs tg cond elt xs (acc ++ [y]) e3 k else compD vs tg cond elt xs acc e2 k

/-! ### contracts of functions -/
abbrev Ct := List D → (D → Bool → List D → Prop) → Prop
inductive Av where
  | io (i : Nat) | val (d : D)
/-- the arguments' data at the call: the lent slots are the frame's own -/
def argD (env : En) : List Av → (List D → Prop) → Prop
  | [], k => k []
  | .val d :: as, k => argD env as fun ds => k (d :: ds)
  | .io i :: as, k => match env[i]? with
    | some (.own d) => argD env as fun ds => k (d :: ds)
    | _ => False
def iosOf : List Av → List Nat
  | [] => []
  | .io i :: as => i :: iosOf as
  | .val _ :: as => iosOf as
/-- the lent slots behind the call -/
def outs (env : En) : List Nat → List D → En
  | i :: is, d :: ds => outs (env.set i (.own d)) is ds
  | _, _ => env

/-- return: a name's own list is handed over -/
def retD (e : E) (w : En → (D → Bool → En → Prop) → Prop) (env : En) (d : En4) : Prop :=
  match e with
  | .var i => match env[i]? with
    | some (.own x) => d.rt x true (env.set i .un)
    | _ => w env fun x fr e' => d.rt x fr e'
  | _ => w env fun x fr e' => d.rt x fr e'
/-- an own list at a slot -/
def isL (env : En) (i : Nat) (k : List D → Prop) : Prop :=
  match env[i]? with
  | some (.own (.list xs)) => k xs
  | _ => False
/-- an operand: a name is read late -/
def opO (e : E) (w : En → (D → Bool → En → Prop) → Prop) (env : En) (k : Od → En → Prop) : Prop :=
  match e with
  | .var i => rdS env i fun _ => k (.late i) env
  | _ => w env fun d _ e' => k (.val d) e'
section
variable (C : Nat → Ct)
mutual
def wpE : E → En → (D → Bool → En → Prop) → Prop
  | .var i, env, k => rdS env i fun d => k d false (shareE env i)
  | .bad, _, _ => False
  | .cst d, env, k => k d.d false env
  | .con d, env, k => k d false env
  | .dic0, env, k => k (.dict []) false env
  | .tup es, env, k => wpEs es env fun ds e => ds.length ≤ sizeLine ∧ k (.tuple ds) false e
  | .lst es, env, k => wpEs es env fun ds e => ds.length ≤ sizeLine ∧ k (.list ds) true e
  | .bin op a b, env, k => opO a (wpE a) env fun x e1 => opO b (wpE b) e1 fun y e2 => rd e2 x fun u => rd e2 y fun v => op2 op u v fun z fr => k z fr e2
  | .neg a, env, k => opO a (wpE a) env fun x e1 => rd e1 x fun u => ∃ i, u = .int i ∧ k (.int (-i)) false e1
  | .cmp op a b, env, k => opO a (wpE a) env fun x e1 => opO b (wpE b) e1 fun y e2 => rd e2 x fun u => rd e2 y fun v => cmp2 op u v fun z => k (.bool z) false e2
  | .chain o p a b c, env, k => opO a (wpE a) env fun x e1 => opO b (wpE b) e1 fun y e2 => rd e2 x fun u => rd e2 y fun v => cmp2 o u v fun z =>
      if z = true then opO c (wpE c) e2 fun w e3 => rd e3 y fun v => rd e3 w fun t => cmp2 p v t fun z' => k (.bool z') false e3 else k (.bool false) false e2
  | .not a, env, k => wpT a env fun b e => k (.bool (!b)) false e
  | .and a b, env, k => opO a (wpE a) env fun x e1 => rd e1 x fun u => ∃ c, u = .bool c ∧ if c = true then wpE b e1 k else k (.bool false) false e1
  | .or a b, env, k => opO a (wpE a) env fun x e1 => rd e1 x fun u => ∃ c, u = .bool c ∧ if c = true then k (.bool true) false e1 else wpE b e1 k
  | .ite c a b, env, k => wpT c env fun t e => if t = true then wpE a e k else wpE b e k
  | .call f as, env, k => wpAs as env fun av e => (iosOf av).Nodup ∧ argD e av fun ds => C f ds fun r fr os => k r fr (outs e (iosOf av) os)
  | .blt f a, env, k => opO a (wpE a) env fun x e1 => rd e1 x fun u => blt1 f u fun z fr => k z fr e1
  | .isi a t, env, k => opO a (wpE a) env fun x e1 => rd e1 x fun u => okTy u = true ∧ k (.bool (isTy t u)) false e1
  | .idx a i, env, k => opO a (wpE a) env fun x e1 => opO i (wpE i) e1 fun y e2 => rd e2 x fun u => rd e2 y fun v => item u v fun z => k z false e2
  | .slc a lo hi, env, k => opO a (wpE a) env fun x e1 => wpP lo e1 fun l e2 => wpP hi e2 fun h e3 => rd e3 x fun u => slice u l h fun z fr => k z fr e3
  | .rev a, env, k => opO a (wpE a) env fun x e1 => rd e1 x fun u => revD u fun z fr => k z fr e1
  | .comp vs elt tg it cond, env, k => (vs.all fun v => freeS env v) = true ∧ wpIt it env fun xs e1 fin => xs.length ≤ sizeLine ∧
      compD vs (wpTg tg) (wpC cond) (wpE elt) xs [] e1 fun ys e2 => k (.list ys) true (fin (restore env vs e2))
  | .pop i ix, env, k => isL env i fun _ => opO ix (wpE ix) env fun x e1 => rd e1 x fun u => isL e1 i fun xs =>
      ∃ (n : Int) (j : Nat) (y : D), u = .int n ∧ -(2 ^ 63) ≤ n ∧ n < 2 ^ 63 ∧ seqIndex? n xs.length = some j ∧ xs[j]? = some y ∧ k y false (e1.set i (.own (.list (xs.eraseIdx j))))
def wpT : T → En → (Bool → En → Prop) → Prop
  | .not a, env, k => wpT a env fun b e => k (!b) e
  | .and a b, env, k => wpT a env fun c e => if c = true then wpT b e k else k false e
  | .or a b, env, k => wpT a env fun c e => if c = true then k true e else wpT b e k
  | .ite c a b, env, k => wpT c env fun t e => if t = true then wpT a e k else wpT b e k
  | .val e, env, k => opO e (wpE e) env fun x e1 => rd e1 x fun u => truth u fun b => k b e1
def wpP : Oe → En → (Option Int → En → Prop) → Prop
  | .no, env, k => k none env
  | .yes e, env, k => opO e (wpE e) env fun x e1 => rd e1 x fun u => ∃ i, u = .int i ∧ k (some i) e1
def wpC : Ot → En → (Bool → En → Prop) → Prop
  | .no, env, k => k true env
  | .yes e, env, k => wpT e env k
def wpEs : Es → En → (List D → En → Prop) → Prop
  | .nil, env, k => k [] env
  | .cons e es, env, k => wpE e env fun d _ e1 => wpEs es e1 fun ds e2 => k (d :: ds) e2
def wpVs : Es → En → (List (D × Bool) → En → Prop) → Prop
  | .nil, env, k => k [] env
  | .cons e es, env, k => wpE e env fun d fr e1 => wpVs es e1 fun ds e2 => k ((d, fr) :: ds) e2
def wpAs : As → En → (List Av → En → Prop) → Prop
  | .nil, env, k => k [] env
  | .io i as, env, k => rdS env i fun _ => wpAs as env fun av e => k (.io i :: av) e
  | .ev e as, env, k => wpE e env fun d _ e1 => wpAs as e1 fun av e2 => k (.val d :: av) e2
def wpIt : Wk → En → (List D → En → (En → En) → Prop) → Prop
  | .of a, env, k => opO a (wpE a) env fun x e1 => rd e1 x fun u => items u fun xs => k xs (lockE e1 x) (unlockE (lockB e1 x) x)
  | .rng a, env, k => opO a (wpE a) env fun x e1 => rd e1 x fun u => ∃ n : Int, u = .int n ∧ n < 2 ^ 62 ∧ -(2 ^ 62) ≤ n ∧ k (rngD 0 n.toNat) e1 id
  | .rng2 a b, env, k => opO a (wpE a) env fun x e1 => opO b (wpE b) e1 fun y e2 => rd e2 x fun u => rd e2 y fun v => ∃ m n : Int, u = .int m ∧ v = .int n ∧
      (-(2 ^ 62) ≤ m ∧ m < 2 ^ 62 ∧ -(2 ^ 62) ≤ n ∧ n < 2 ^ 62) ∧ k (rngD m (n - m).toNat) e2 id
  | .enum a, env, k => opO a (wpE a) env fun x e1 => rd e1 x fun u => ∃ xs, u = .list xs ∧ k (enumD 0 xs) (lockE e1 x) (unlockE (lockB e1 x) x)
end
mutual
def wpS : S → En → En4 → Prop
  | .bad, _, _ => False
  | .expr e, env, d => wpE C e env fun _ _ e' => d.nx e'
  | .set i e, env, d => wpE C e env fun x fr e' => d.nx (put e' i x fr)
  | .setT t e, env, d => wpE C e env fun x _ e' => wpTg t x e' d.nx
  | .par ts es, env, d => wpVs C es env fun xs e1 => putsE ts xs e1 d.nx
  | .setIx i ix e, env, d => wpE C e env fun u _ e1 => isL e1 i fun _ => opO ix (wpE C ix) e1 fun y e2 => rd e2 y fun v => isL e2 i fun xs =>
      ∃ (n : Int) (j : Nat), v = .int n ∧ ixN xs.length n = some j ∧ d.nx (e2.set i (.own (.list (xs.set j u))))
  | .append i e, env, d => isL env i fun _ => wpE C e env fun u _ e1 => isL e1 i fun xs => xs.length < sizeLine ∧ d.nx (e1.set i (.own (.list (xs ++ [u]))))
  | .insert i k e, env, d => isL env i fun _ => wpEs C (.cons k (.cons e .nil)) env fun us e1 => isL e1 i fun xs =>
      ∃ (n : Int) (u : D), us = [.int n, u] ∧ xs.length < sizeLine ∧ 0 ≤ n ∧ n < 2 ^ 63 ∧ d.nx (e1.set i (.own (.list (xs.take n.toNat ++ [u] ++ xs.drop n.toNat))))
  | .ret e, env, d => retD e (wpE C e) env d
  | .ife c a b, env, d => wpT C c env fun t e => if t = true then wpSs a e d else wpSs b e d
  | .fors t it b, env, d => wpIt C it env fun xs e1 fin => forD (wpTg t) (fun e d => wpSs b e d) xs e1 { d with nx := fun e => d.nx (fin e) }
  | .whl c b, env, d => whileD (wpT C c) (fun e d => wpSs b e d) env d
  | .retN, env, d => d.rt .none false env
  | .pass, env, d => d.nx env
def wpSs : List S → En → En4 → Prop
  | [], env, d => d.nx env
  | s :: ss, env, d => wpS s env { d with nx := fun e => wpSs ss e d }
end
end
/-! ### functions: fl tells which parameters are lent -/
structure Fn where
  fl : List Bool
  ns : Nat
  body : List S
def envA : List Bool → List D → En
  | true :: fl, d :: ds => .own d :: envA fl ds
  | false :: fl, d :: ds => .sh d :: envA fl ds
  | _, _ => []
def startE (f : Fn) (ds : List D) : En := envA f.fl ds ++ List.replicate (f.ns - ds.length) .un
def finD : List Bool → En → (List D → Prop) → Prop
  | [], _, k => k []
  | true :: fl, .own d :: env, k => finD fl env fun ds => k (d :: ds)
  | false :: fl, _ :: env, k => finD fl env k
  | _, _, _ => False
def wpFn (C : Nat → Ct) (f : Fn) : Ct := fun ds Q => ds.length = f.fl.length ∧ wpSs C f.body (startE f ds)
  { nx := fun env => finD f.fl env fun os => Q .none false os, rt := fun d fr env => finD f.fl env fun os => Q d fr os, bk := fun _ => False, ct := fun _ => False }
end G

/-! G2: data in the heap; the frame's own lists -/
namespace G
open PySem PySem.Spec L2
open PyProof.Rows hiding St
open Classical in
noncomputable def mask (Z : Addr → Prop) (H : Hp) : Hp := fun a => if Z a then none else H a
theorem mask_some {Z : Addr → Prop} {H : Hp} {a : Addr} {o : HO} : mask Z H a = some o ↔ ¬ Z a ∧ H a = some o := by
  unfold mask
  by_cases h : Z a
  · simp [h]
  · simp [h]
/-- what stood stands -/
abbrev Le (H H' : Hp) : Prop := ∀ b o, H b = some o → H' b = some o
theorem Le.refl (H : Hp) : Le H H := fun _ _ h => h
theorem Le.trans {A B C : Hp} (a : Le A B) (b : Le B C) : Le A C := fun x o h => b x o (a x o h)
theorem mask_le (Z : Addr → Prop) (H : Hp) : Le (mask Z H) H := fun _ _ h => (mask_some.mp h).2
theorem mask_mono {Z Z' : Addr → Prop} {H H' : Hp} (h : ∀ b o, ¬ Z b → H b = some o → ¬ Z' b ∧ H' b = some o) : Le (mask Z H) (mask Z' H') := fun b o e =>
  let ⟨n, e'⟩ := mask_some.mp e
  mask_some.mpr (h b o n e')
theorem mask_ext {Z : Addr → Prop} {H H' : Hp} (h : Le H H') : Le (mask Z H) (mask Z H') := mask_mono fun b o n e => ⟨n, h b o e⟩
theorem mask_sub {Z Z' : Addr → Prop} {H : Hp} (h : ∀ b, Z' b → Z b) : Le (mask Z H) (mask Z' H) := mask_mono fun b o n e => ⟨fun z => n (h b z), e⟩

section
variable {K : PySem.W.Frag}
theorem sqL_mono {M M' : Hp} {a : Addr} {xs : List V} (e : Le M M') (h : SqL K M a xs) : SqL K M' a xs := by
  rcases h with (h | ⟨o, h⟩) | h
  · exact .inl (.inl (e _ _ h))
  · exact .inl (.inr ⟨o, e _ _ h⟩)
  · exact .inr h
theorem sqT_mono {M M' : Hp} {a : Addr} {xs : List V} (e : Le M M') (h : SqT K M a xs) : SqT K M' a xs := by
  rcases h with (h | ⟨o, h⟩) | h
  · exact .inl (.inl (e _ _ h))
  · exact .inl (.inr ⟨o, e _ _ h⟩)
  · exact .inr h
end
mutual
/-- a value's data, by what is seen of the heap -/
inductive Rep (K : PySem.W.Frag) (M : Hp) : V → D → Prop
  | non : Rep K M .non .none
  | bl (b : Bool) : Rep K M (.bl b) (.bool b)
  | int (i : Int) : Rep K M (.int i) (.int i)
  | str (x : Str) : Rep K M (.str x) (.str x)
  | lst {a : Addr} {xs : List V} {ds : List D} : M a = some (.lst xs) → RepAll K M xs ds → Rep K M (.ref a) (.list ds)
  | scr {a : Addr} {xs : List V} {ds : List D} : SqL K M a xs → RepAll K M xs ds → Rep K M (.ref a) (scrD ds)
  | tup {a : Addr} {xs : List V} {ds : List D} : SqT K M a xs → RepAll K M xs ds → Rep K M (.ref a) (.tuple ds)
  | dic {a : Addr} : M a = some (.dK []) → Rep K M (.ref a) (.dict [])
inductive RepAll (K : PySem.W.Frag) (M : Hp) : List V → List D → Prop
  | nil : RepAll K M [] []
  | cons {v : V} {vs : List V} {d : D} {ds : List D} : Rep K M v d → RepAll K M vs ds → RepAll K M (v :: vs) (d :: ds)
end
section
variable {K : PySem.W.Frag} {M M' : Hp}
mutual
theorem Rep.mono (e : Le M M') : ∀ {v : V} {d : D}, Rep K M v d → Rep K M' v d
  | _, _, .non => .non
  | _, _, .bl b => .bl b
  | _, _, .int i => .int i
  | _, _, .str x => .str x
  | _, _, .lst h r => .lst (e _ _ h) (RepAll.mono e r)
  | _, _, .scr h r => .scr (sqL_mono e h) (RepAll.mono e r)
  | _, _, .tup h r => .tup (sqT_mono e h) (RepAll.mono e r)
  | _, _, .dic h => .dic (e _ _ h)
theorem RepAll.mono (e : Le M M') : ∀ {vs : List V} {ds : List D}, RepAll K M vs ds → RepAll K M' vs ds
  | _, _, .nil => .nil
  | _, _, .cons h r => .cons (Rep.mono e h) (RepAll.mono e r)
end
theorem RepAll.length : ∀ {vs : List V} {ds : List D}, RepAll K M vs ds → vs.length = ds.length
  | _, _, .nil => rfl
  | _, _, .cons _ r => congrArg (· + 1) r.length
theorem RepAll.get : ∀ {vs : List V} {ds : List D} {i : Nat} {d : D}, RepAll K M vs ds → ds[i]? = some d → ∃ v, vs[i]? = some v ∧ Rep K M v d
  | _, _, _, _, .nil, e => by simp at e
  | _, _, 0, _, .cons h _, e => by simp at e; subst e; exact ⟨_, rfl, h⟩
  | _, _, i + 1, _, .cons _ r, e => by
    obtain ⟨v, h1, h2⟩ := r.get (i := i) (by simpa using e)
    exact ⟨v, by simpa using h1, h2⟩
theorem RepAll.getV : ∀ {vs : List V} {ds : List D} {i : Nat} {v : V}, RepAll K M vs ds → vs[i]? = some v → ∃ d, ds[i]? = some d ∧ Rep K M v d
  | _, _, _, _, .nil, e => by simp at e
  | _, _, 0, _, .cons h _, e => by simp at e; subst e; exact ⟨_, rfl, h⟩
  | _, _, i + 1, _, .cons _ r, e => by
    obtain ⟨v, h1, h2⟩ := r.getV (i := i) (by simpa using e)
    exact ⟨v, by simpa using h1, h2⟩
theorem RepAll.append : ∀ {vs ws : List V} {ds es : List D}, RepAll K M vs ds → RepAll K M ws es → RepAll K M (vs ++ ws) (ds ++ es)
  | _, _, _, _, .nil, s => s
  | _, _, _, _, .cons h r, s => .cons h (r.append s)
theorem RepAll.take : ∀ {vs : List V} {ds : List D} (n : Nat), RepAll K M vs ds → RepAll K M (vs.take n) (ds.take n)
  | _, _, 0, _ => .nil
  | _, _, _ + 1, .nil => .nil
  | _, _, n + 1, .cons h r => .cons h (r.take n)
theorem RepAll.drop : ∀ {vs : List V} {ds : List D} (n : Nat), RepAll K M vs ds → RepAll K M (vs.drop n) (ds.drop n)
  | _, _, 0, r => r
  | _, _, _ + 1, .nil => .nil
  | _, _, n + 1, .cons _ r => r.drop n
theorem RepAll.set {x : V} {d : D} (h : Rep K M x d) : ∀ {vs : List V} {ds : List D} (n : Nat), RepAll K M vs ds → RepAll K M (vs.set n x) (ds.set n d)
  | _, _, _, .nil => .nil
  | _, _, 0, .cons _ r => .cons h r
  | _, _, n + 1, .cons g r => .cons g (r.set h n)
theorem RepAll.flat {vs : List V} {ds : List D} (r : RepAll K M vs ds) : ∀ n : Nat, RepAll K M (List.replicate n vs).flatten (List.replicate n ds).flatten
  | 0 => .nil
  | n + 1 => by
    rw [List.replicate_succ, List.replicate_succ, List.flatten_cons, List.flatten_cons]
    exact r.append (r.flat n)
end

/-- a value at the top: a list may be the frame's own -/
def Tr (K : PySem.W.Frag) (M H : Hp) (v : V) (d : D) : Prop := Rep K M v d ∨ ∃ a xs ds, v = .ref a ∧ d = .list ds ∧ H a = some (.lst xs) ∧ RepAll K M xs ds
section
variable {K : PySem.W.Frag} {M H : Hp}
theorem Tr.lst {v : V} {ds : List D} (t : Tr K M H v (.list ds)) (l : Le M H) : ∃ a xs, v = .ref a ∧ H a = some (.lst xs) ∧ RepAll K M xs ds := by
  rcases t with t | ⟨a, xs, ds', e1, e2, e3, e4⟩
  · cases t with
    | lst h r => exact ⟨_, _, rfl, l _ _ h, r⟩
  · cases e2
    exact ⟨a, xs, e1, e3, e4⟩
theorem Tr.tup {v : V} {ds : List D} (t : Tr K M H v (.tuple ds)) (l : Le M H) : ∃ a xs, v = .ref a ∧ SqT K H a xs ∧ RepAll K M xs ds := by
  rcases t with t | ⟨a, xs, ds', e1, e2, e3, e4⟩
  · cases t with
    | tup h r => exact ⟨_, _, rfl, sqT_mono l h, r⟩
  · cases e2
theorem Tr.rep {v : V} {d : D} (t : Tr K M H v d) (n : ∀ ds, d ≠ .list ds) : Rep K M v d := by
  rcases t with t | ⟨a, xs, ds', e1, e2, e3, e4⟩
  · exact t
  · exact absurd e2 (n _)
theorem Tr.int {v : V} {i : Int} (t : Tr K M H v (.int i)) : v = .int i := by cases t.rep (by intro _ h; cases h); rfl
theorem Tr.bl {v : V} {i : Bool} (t : Tr K M H v (.bool i)) : v = .bl i := by cases t.rep (by intro _ h; cases h); rfl
theorem Tr.str {v : V} {i : Str} (t : Tr K M H v (.str i)) : v = .str i := by cases t.rep (by intro _ h; cases h); rfl
theorem Tr.non {v : V} (t : Tr K M H v .none) : v = .non := by cases t.rep (by intro _ h; cases h); rfl
end

/-! ### the frame -/
def isOwn : Slot → Option D
  | .own d => some d
  | .lock d => some d
  | _ => none
def OAt (env : En) (σ : St) (i : Nat) (a : Addr) : Prop := (∃ s, env[i]? = some s ∧ (isOwn s).isSome = true) ∧ σ[i]? = some (some (.ref a))
def OA (env : En) (σ : St) (a : Addr) : Prop := ∃ i, OAt env σ i a
abbrev hid (T : Addr → Prop) (env : En) (σ : St) : Addr → Prop := fun a => T a ∨ OA env σ a
def OwnAt (K : PySem.W.Frag) (M H : Hp) (a : Addr) (d : D) : Prop := ∃ xs ds, d = .list ds ∧ H a = some (.lst xs) ∧ RepAll K M xs ds
def SlotOk (K : PySem.W.Frag) (M H : Hp) : Slot → Option (Option V) → Prop
  | .un, _ => True
  | .sh d, v => ∃ x, v = some (some x) ∧ Rep K M x d
  | .own d, v => ∃ a, v = some (some (.ref a)) ∧ OwnAt K M H a d
  | .lock d, v => ∃ a, v = some (some (.ref a)) ∧ OwnAt K M H a d
structure Ok (K : PySem.W.Frag) (T : Addr → Prop) (env : En) (σ : St) (H : Hp) : Prop where
  len : env.length = σ.length
  slot : ∀ (i : Nat) (s : Slot), env[i]? = some s → SlotOk K (mask (hid T env σ) H) H s σ[i]?
  inj : ∀ (i j : Nat) (a : Addr), OAt env σ i a → OAt env σ j a → i = j
  dis : ∀ a, OA env σ a → ¬ T a
  thr : ∀ a, T a → H a ≠ none
/-- the lists that may be changed -/
def MA (env : En) (σ : St) (a : Addr) : Prop := ∃ (i : Nat) (d : D), env[i]? = some (.own d) ∧ σ[i]? = some (some (.ref a))
theorem MA.oa {env : En} {σ : St} {a : Addr} (h : MA env σ a) : OA env σ a := let ⟨i, d, e, f⟩ := h; ⟨i, ⟨_, e, rfl⟩, f⟩
structure Step (env : En) (σ : St) (H : Hp) (env' : En) (σ' : St) (H' : Hp) : Prop where
  keep : ∀ b o, H b = some o → ¬ MA env σ b → H' b = some o
  new : ∀ b, OA env' σ' b → OA env σ b ∨ H b = none
  newM : ∀ b, MA env' σ' b → MA env σ b ∨ H b = none
  al : ∀ b, H' b = none → H b = none
  lk : ∀ (i : Nat) (d : D), env'[i]? = some (.lock d) → env[i]? = some (.lock d) ∧ σ'[i]? = σ[i]?
theorem Step.refl (env : En) (σ : St) (H : Hp) : Step env σ H env σ H := ⟨fun _ _ h _ => h, fun _ h => .inl h, fun _ h => .inl h, fun _ h => h, fun _ _ h => ⟨h, rfl⟩⟩
theorem Step.trans {e1 e2 e3 : En} {s1 s2 s3 : St} {H1 H2 H3 : Hp} (a : Step e1 s1 H1 e2 s2 H2) (b : Step e2 s2 H2 e3 s3 H3) : Step e1 s1 H1 e3 s3 H3 := by
  refine ⟨fun x o h n => b.keep x o (a.keep x o h n) fun z => ?_, fun x z => ?_, fun x z => ?_, fun x h => a.al x (b.al x h), fun i d h => ?_⟩
  · rcases a.newM x z with z | z
    · exact n z
    · rw [h] at z; cases z
  · rcases b.new x z with z | z
    · exact a.new x z
    · exact .inr (a.al x z)
  · rcases b.newM x z with z | z
    · exact a.newM x z
    · exact .inr (a.al x z)
  · obtain ⟨h1, h2⟩ := b.lk i d h
    obtain ⟨h3, h4⟩ := a.lk i d h1
    exact ⟨h3, h2.trans h4⟩
/-- what is seen stays seen -/
theorem Step.seen {T : Addr → Prop} {e1 e2 : En} {s1 s2 : St} {H1 H2 : Hp} (a : Step e1 s1 H1 e2 s2 H2) : Le (mask (hid T e1 s1) H1) (mask (hid T e2 s2) H2) := mask_mono fun b o n h => by
  have n1 : ¬ OA e1 s1 b := fun z => n (.inr z)
  refine ⟨?_, a.keep b o h fun z => n1 z.oa⟩
  rintro (z | z)
  · exact n (.inl z)
  · rcases a.new b z with z | z
    · exact n1 z
    · rw [h] at z; cases z
section
variable {K : PySem.W.Frag} {T : Addr → Prop} {env : En} {σ : St} {H H' : Hp}
theorem Ok.own (ok : Ok K T env σ H) {i : Nat} {d : D} (h : env[i]? = some (.own d)) : ∃ a, σ[i]? = some (some (.ref a)) ∧ OwnAt K (mask (hid T env σ) H) H a d := ok.slot i _ h
theorem Ok.oa {i : Nat} {d : D} {a : Addr} (h : env[i]? = some (.own d)) (e : σ[i]? = some (some (.ref a))) : OAt env σ i a := ⟨⟨_, h, rfl⟩, e⟩
/-- an own list stands in the heap -/
theorem Ok.there (ok : Ok K T env σ H) {a : Addr} (h : OA env σ a) : ∃ xs, H a = some (.lst xs) := by
  obtain ⟨i, ⟨s, e1, e2⟩, e3⟩ := h
  have q := ok.slot i s e1
  cases s with
  | un => simp [isOwn] at e2
  | sh d => simp [isOwn] at e2
  | own d =>
    obtain ⟨b, e4, xs, ds, _, e5, _⟩ := q
    rw [e3] at e4; cases e4
    exact ⟨xs, e5⟩
  | lock d =>
    obtain ⟨b, e4, xs, ds, _, e5, _⟩ := q
    rw [e3] at e4; cases e4
    exact ⟨xs, e5⟩
theorem Ok.nohid (ok : Ok K T env σ H) {p : Addr} (n : H p = none) : ¬ hid T env σ p := by
  rintro (z | z)
  · exact ok.thr p z n
  · obtain ⟨xs, e⟩ := ok.there z
    rw [n] at e; cases e
/-- reading a slot -/
theorem Ok.read (ok : Ok K T env σ H) {i : Nat} {k : D → Prop} (h : rdS env i k) {v : V} (e : σ[i]? = some (some v)) : ∃ d, Tr K (mask (hid T env σ) H) H v d ∧ k d := by
  unfold rdS at h
  cases q : env[i]? with
  | none => rw [q] at h; exact h.elim
  | some s =>
    rw [q] at h
    have z := ok.slot i s q
    cases s with
    | un => exact h.elim
    | sh d =>
      obtain ⟨x, e1, r⟩ := z
      rw [e] at e1; cases e1
      exact ⟨d, .inl r, h⟩
    | own d =>
      obtain ⟨a, e1, xs, ds, e2, e3, e4⟩ := z
      rw [e] at e1; cases e1
      exact ⟨d, .inr ⟨a, xs, ds, rfl, e2, e3, e4⟩, h⟩
    | lock d =>
      obtain ⟨a, e1, xs, ds, e2, e3, e4⟩ := z
      rw [e] at e1; cases e1
      exact ⟨d, .inr ⟨a, xs, ds, rfl, e2, e3, e4⟩, h⟩
theorem Ok.has (ok : Ok K T env σ H) {i : Nat} {k : D → Prop} (h : rdS env i k) : ∃ v, σ[i]? = some (some v) := by
  unfold rdS at h
  cases q : env[i]? with
  | none => rw [q] at h; exact h.elim
  | some s =>
    rw [q] at h
    have z := ok.slot i s q
    cases s with
    | un => exact h.elim
    | sh d => obtain ⟨x, e1, r⟩ := z; exact ⟨_, e1⟩
    | own d => obtain ⟨x, e1, r⟩ := z; exact ⟨_, e1⟩
    | lock d => obtain ⟨x, e1, r⟩ := z; exact ⟨_, e1⟩
/-- the heap grows -/
theorem Ok.ext (ok : Ok K T env σ H) (l : Le H H') : Ok K T env σ H' := by
  refine ⟨ok.len, fun i s e => ?_, ok.inj, ok.dis, fun a t n => ?_⟩
  · have z := ok.slot i s e
    have m := mask_ext (Z := hid T env σ) l
    cases s with
    | un => trivial
    | sh d => obtain ⟨x, e1, r⟩ := z; exact ⟨x, e1, r.mono m⟩
    | own d => obtain ⟨x, e1, xs, ds, e2, e3, e4⟩ := z; exact ⟨x, e1, xs, ds, e2, l _ _ e3, e4.mono m⟩
    | lock d => obtain ⟨x, e1, xs, ds, e2, e3, e4⟩ := z; exact ⟨x, e1, xs, ds, e2, l _ _ e3, e4.mono m⟩
  · cases q : H a with
    | none => exact ok.thr a t q
    | some o => rw [l a o q] at n; cases n
theorem Step.ext (l : Le H H') : Step env σ H env σ H' := ⟨fun b o h _ => l b o h, fun b h => .inl h, fun b h => .inl h, fun b h => (by
  cases q : H b with
  | none => rfl
  | some o => rw [l b o q] at h; cases h), fun _ _ h => ⟨h, rfl⟩⟩
end
/-- what an expression hands back -/
abbrev nw (H : Hp) : Addr → Prop := fun p => H p = none
def Res (K : PySem.W.Frag) (T : Addr → Prop) (env : En) (σ : St) (F : Addr → Prop) (H : Hp) (v : V) (d : D) (fr : Bool) : Prop :=
  if fr = true then ∃ p xs ds, v = .ref p ∧ d = .list ds ∧ F p ∧ ¬ T p ∧ H p = some (.lst xs) ∧ Ok K (fun a => T a ∨ a = p) env σ H ∧ RepAll K (mask (hid (fun a => T a ∨ a = p) env σ) H) xs ds
  else Rep K (mask (hid T env σ) H) v d
section
variable {K : PySem.W.Frag} {T F F' : Addr → Prop} {env : En} {σ : St} {H H' : Hp} {v : V} {d : D} {fr : Bool}
theorem Res.back (r : Res K T env σ F H v d fr) (h : ∀ b, F b → F' b) : Res K T env σ F' H v d fr := by
  unfold Res at r ⊢
  cases fr with
  | false => exact r
  | true =>
    obtain ⟨p, xs, ds, e1, e2, e3, e4⟩ := r
    exact ⟨p, xs, ds, e1, e2, h p e3, e4⟩
theorem Res.of (r : Rep K (mask (hid T env σ) H) v d) : Res K T env σ F H v d false := r
theorem Res.rep (ok : Ok K T env σ H) (r : Res K T env σ F H v d fr) : Rep K (mask (hid T env σ) H) v d := by
  unfold Res at r
  cases fr with
  | false => exact r
  | true =>
    obtain ⟨p, xs, ds, rfl, rfl, hn, nt, hp, ok', ra⟩ := r
    have np : ¬ hid T env σ p := by
      rintro (z | z)
      · exact nt z
      · exact ok'.dis p z (.inr rfl)
    exact .lst (mask_some.mpr ⟨np, hp⟩) (ra.mono (mask_sub fun b h => h.elim (fun z => .inl (.inl z)) .inr))
end
/-- what an operation hands back, where the frame's names stay as they are -/
def Post (K : PySem.W.Frag) (Z : Addr → Prop) (H : Hp) (z : D) (fr : Bool) (w : V) (H' : Hp) : Prop :=
  Le H H' ∧ if fr = true then ∃ p xs ds, w = .ref p ∧ z = .list ds ∧ H p = none ∧ H' p = some (.lst xs) ∧ RepAll K (mask Z H) xs ds else Rep K (mask Z H') w z
section
variable {K : PySem.W.Frag} {T : Addr → Prop} {env : En} {σ : St} {H H' : Hp} {w : V} {z : D} {fr : Bool}
theorem Post.same {Z : Addr → Prop} (r : Rep K (mask Z H) w z) : Post K Z H z false w H := ⟨Le.refl H, r⟩
theorem upd_le {p : Addr} {o : HO} (n : H p = none) : Le H (upd H p o) := fun b x e => by rw [upd_ne (ne_of_none e n)]; exact e
theorem Post.newL {Z : Addr → Prop} {p : Addr} {xs : List V} {ds : List D} (n : H p = none) (r : RepAll K (mask Z H) xs ds) : Post K Z H (.list ds) true (.ref p) (upd H p (.lst xs)) :=
  ⟨upd_le n, p, xs, ds, rfl, rfl, n, upd_same, r⟩
theorem Post.newT {Z : Addr → Prop} {p : Addr} {xs : List V} {ds : List D} (n : H p = none) (nz : ¬ Z p) (r : RepAll K (mask Z H) xs ds) : Post K Z H (.tuple ds) false (.ref p) (upd H p (.tup xs)) :=
  ⟨upd_le n, .tup (.inl (.inl (mask_some.mpr ⟨nz, upd_same⟩))) (r.mono (mask_ext (upd_le n)))⟩
theorem Ok.hide (ok : Ok K T env σ H) (l : Le H H') {p : Addr} (n : H p = none) (h : H' p ≠ none) : Ok K (fun a => T a ∨ a = p) env σ H' := by
  have e := ok.ext l
  have np := ok.nohid n
  have m : Le (mask (hid T env σ) H) (mask (hid (fun a => T a ∨ a = p) env σ) H') := mask_mono fun b o nb hb => ⟨by
    rintro ((z | z) | z)
    · exact nb (.inl z)
    · subst z; rw [n] at hb; cases hb
    · exact nb (.inr z), l b o hb⟩
  refine ⟨ok.len, fun i s q => ?_, ok.inj, fun a z => ?_, ?_⟩
  · have z := ok.slot i s q
    cases s with
    | un => trivial
    | sh d => obtain ⟨x, e1, r⟩ := z; exact ⟨x, e1, r.mono m⟩
    | own d => obtain ⟨x, e1, xs, ds, e2, e3, e4⟩ := z; exact ⟨x, e1, xs, ds, e2, l _ _ e3, e4.mono m⟩
    | lock d => obtain ⟨x, e1, xs, ds, e2, e3, e4⟩ := z; exact ⟨x, e1, xs, ds, e2, l _ _ e3, e4.mono m⟩
  · rintro (y | y)
    · exact ok.dis a z y
    · subst y; exact np (.inr z)
  · rintro a (y | y)
    · exact e.thr a y
    · subst y; exact h
theorem Post.res (ok : Ok K T env σ H) (p : Post K (hid T env σ) H z fr w H') : Ok K T env σ H' ∧ Step env σ H env σ H' ∧ Res K T env σ (nw H) H' w z fr := by
  obtain ⟨l, r⟩ := p
  refine ⟨ok.ext l, Step.ext l, ?_⟩
  unfold Res
  cases fr with
  | false => exact r
  | true =>
    obtain ⟨p, xs, ds, e1, e2, n, hp, ra⟩ := r
    refine ⟨p, xs, ds, e1, e2, n, fun t => ok.thr p t n, hp, ok.hide l n (by rw [hp]; simp), ra.mono (mask_mono fun b o nb hb => ⟨?_, l b o hb⟩)⟩
    rintro ((z | z) | z)
    · exact nb (.inl z)
    · subst z; rw [n] at hb; cases hb
    · exact nb (.inr z)
end
/-! ### readings over data -/
/-- an expression's -/
def tE (K : PySem.W.Frag) (w : En → (D → Bool → En → Prop) → Prop) : TE := fun σ H Q => ∃ T env k, Ok K T env σ H ∧ w env k ∧
  ∀ d fr env' v H', Ok K T env' σ H' → Step env σ H env' σ H' → Res K T env' σ (nw H) H' v d fr → k d fr env' → Q v H'
def OdOk (K : PySem.W.Frag) (M : Hp) (σ : St) : Od → V → Prop
  | .late i, v => σ[i]? = some (some v)
  | .val d, v => Rep K M v d
def tO (K : PySem.W.Frag) (w : En → (Od → En → Prop) → Prop) : TE := fun σ H Q => ∃ T env k, Ok K T env σ H ∧ w env k ∧
  ∀ o env' v H', Ok K T env' σ H' → Step env σ H env' σ H' → OdOk K (mask (hid T env' σ) H') σ o v → k o env' → Q v H'
def tT (K : PySem.W.Frag) (w : En → (Bool → En → Prop) → Prop) : TT := fun σ H Q => ∃ T env k, Ok K T env σ H ∧ w env k ∧
  ∀ b env' H', Ok K T env' σ H' → Step env σ H env' σ H' → k b env' → Q b H'
def tEs (K : PySem.W.Frag) (w : En → (List D → En → Prop) → Prop) : TA := fun σ H Q => ∃ T env k, Ok K T env σ H ∧ w env k ∧
  ∀ ds env' vs H', Ok K T env' σ H' → Step env σ H env' σ H' → RepAll K (mask (hid T env' σ) H') vs ds → k ds env' → Q vs H'
theorem OdOk.mono {K : PySem.W.Frag} {M M' : Hp} {σ : St} {o : Od} {v : V} (h : OdOk K M σ o v) (l : Le M M') : OdOk K M' σ o v := by
  cases o with
  | late i => exact h
  | val d => exact Rep.mono l h
theorem OdOk.rd {K : PySem.W.Frag} {T : Addr → Prop} {env : En} {σ : St} {H : Hp} {o : Od} {v : V} {k : D → Prop} (ok : Ok K T env σ H) (h : OdOk K (mask (hid T env σ) H) σ o v) (r : G.rd env o k) :
    ∃ d, Tr K (mask (hid T env σ) H) H v d ∧ k d := by
  cases o with
  | late i => exact ok.read r h
  | val d => exact ⟨d, .inl h, r⟩
theorem PE.imp {X : Cx} {e : Expr} {t t' : TE} (h : PE X e t) (i : ∀ σ H Q, t' σ H Q → t σ H Q) : PE X e t' := ⟨fun pins s σ H Q I q => h.run pins s σ H Q I (i σ H Q q)⟩
theorem PT.imp {X : Cx} {e : Expr} {t t' : TT} (h : PT X e t) (i : ∀ σ H Q, t' σ H Q → t σ H Q) : PT X e t' := ⟨fun pins s σ H Q I q => h.run pins s σ H Q I (i σ H Q q)⟩
theorem PW.imp {X : Cx} {e : Expr} {t t' : TT} (h : PW X e t) (i : ∀ σ H Q, t' σ H Q → t σ H Q) : PW X e t' := ⟨fun wh pins s σ H Q I q => h.run wh pins s σ H Q I (i σ H Q q)⟩
theorem PA.imp {X : Cx} {es : List Expr} {t t' : TA} (h : PA X es t) (i : ∀ σ H Q, t' σ H Q → t σ H Q) : PA X es t' := ⟨fun pos pins s σ H Q I q => h.run pos pins s σ H Q I (i σ H Q q)⟩
theorem PS.imp {X : Cx} {e : Stmt} {t t' : TS} (h : PS X e t) (i : ∀ D σ H, t' D σ H → t D σ H) : PS X e t' := ⟨fun pins s σ H Q I q => h.run pins s σ H Q I (i Q σ H q)⟩
theorem PSs.imp {X : Cx} {e : List Stmt} {t t' : TS} (h : PSs X e t) (i : ∀ D σ H, t' D σ H → t D σ H) : PSs X e t' := ⟨fun pins s σ H Q I q => h.run pins s σ H Q I (i Q σ H q)⟩
/-- an operand by its expression -/
theorem PE.opO {X : Cx} {e : Expr} {ir : G.E} {w : En → (D → Bool → En → Prop) → Prop} (h : PE X e (tE X.K w)) (hv : ∀ i, ir = .var i → PE X e (tVar i)) : PE X e (tO X.K (G.opO ir w)) := by
  by_cases hi : ∃ i, ir = .var i
  · obtain ⟨i, rfl⟩ := hi
    refine PE.imp (hv i rfl) fun σ H Q ⟨T, env, k, ok, hw, q⟩ => ?_
    have hw : rdS env i fun _ => k (.late i) env := hw
    obtain ⟨v, e1⟩ := ok.has hw
    obtain ⟨d, _, hk⟩ := ok.read hw e1
    exact ⟨v, e1, q (.late i) env v H ok (Step.refl ..) e1 hk⟩
  · refine PE.imp h fun σ H Q ⟨T, env, k, ok, hw, q⟩ => ?_
    have e : G.opO ir w env k = w env fun d _ e' => k (.val d) e' := by
      cases ir <;> first | rfl | exact absurd ⟨_, rfl⟩ hi
    rw [e] at hw
    exact ⟨T, env, _, ok, hw, fun d fr env' v H' ok' st r hk => q (.val d) env' v H' ok' st (r.rep ok') hk⟩
end G

/-! G3: operations -/
namespace G
open PySem PySem.Spec L2
open PyProof.Rows hiding St
/-- an operation's reading over data: Z is what is hidden -/
abbrev W2 := D → D → K1 → Prop
def rW (K : PySem.W.Frag) (w : W2) : R2 := fun x y H Q => ∃ (Z : Addr → Prop) (u v : D) (k : K1), (∀ a, Z a → H a ≠ none) ∧ Tr K (mask Z H) H x u ∧ Tr K (mask Z H) H y v ∧ w u v k ∧
  ∀ z fr w' H', Post K Z H z fr w' H' → k z fr → Q w' H'
theorem rW_of {K : PySem.W.Frag} {w : W2} {T : Addr → Prop} {env : En} {σ : L2.St} {H : Hp} {x y : V} {u v : D} {k : D → Bool → En → Prop} {Q : VK} (ok : Ok K T env σ H)
    (hx : Tr K (mask (hid T env σ) H) H x u) (hy : Tr K (mask (hid T env σ) H) H y v) (hw : w u v fun z fr => k z fr env)
    (q : ∀ d fr env' v H', Ok K T env' σ H' → Step env σ H env' σ H' → Res K T env' σ (nw H) H' v d fr → k d fr env' → Q v H') : rW K w x y H Q :=
  ⟨hid T env σ, u, v, _, fun a z n => ok.nohid n z, hx, hy, hw, fun z fr w' H' p hk => by
    obtain ⟨ok', st, r⟩ := p.res ok
    exact q z fr env w' H' ok' st r hk⟩
section
variable {K : PySem.W.Frag} {Z : Addr → Prop} {H : Hp} {Q : VK} {k : K1}
/-- a plain value handed back -/
theorem fin_flat {z : D} {w : V} (q : ∀ z fr w' H', Post K Z H z fr w' H' → k z fr → Q w' H') (r : Rep K (mask Z H) w z) (h : k z false) : Q w H := q z false w H (.same r) h
theorem fin_lst {xs : List V} {ds : List D} (q : ∀ z fr w' H', Post K Z H z fr w' H' → k z fr → Q w' H') (r : RepAll K (mask Z H) xs ds) (h : k (.list ds) true) : ∀ p, H p = none → Q (.ref p) (upd H p (.lst xs)) :=
  fun p n => q _ true _ _ (.newL n r) h
theorem fin_tup {xs : List V} {ds : List D} (hz : ∀ a, Z a → H a ≠ none) (q : ∀ z fr w' H', Post K Z H z fr w' H' → k z fr → Q w' H') (r : RepAll K (mask Z H) xs ds) (h : k (.tuple ds) false) : ∀ p, H p = none → Q (.ref p) (upd H p (.tup xs)) :=
  fun p n => q _ false _ _ (.newT n (fun z => hz p z n) r) h
end
theorem rep_nil {K : PySem.W.Frag} {M : Hp} {vs : List V} (r : RepAll K M vs []) : vs = [] := by cases r; rfl
theorem rep_nil' {K : PySem.W.Frag} {M : Hp} {ds : List D} (r : RepAll K M [] ds) : ds = [] := by cases r; rfl
section
variable {X : Cx}
theorem o_bin (op : Operator) : OpR X (binaryOp op) (rW X.K (op2 op)) := by
  intro pins s σ H x y vx vy Q I rx ry ⟨Z, u, v, k, hz, hx, hy, hw, q⟩
  have lm : Le (mask Z H) H := mask_le Z H
  unfold op2 at hw
  split at hw
  · cases hx.int; cases hy.int
    exact op_add pins s σ H _ _ vx vy Q I rx ry ⟨_, _, rfl, rfl, fin_flat q (.int _) hw⟩
  · cases hx.str; cases hy.str
    exact op_add_str pins s σ H _ _ vx vy Q I rx ry ⟨_, _, rfl, rfl, hw.1, fin_flat q (.str _) hw.2⟩
  · obtain ⟨a, xs, rfl, ha, ra⟩ := hx.lst lm
    obtain ⟨b, ys, rfl, hb, rb⟩ := hy.lst lm
    exact op_cat pins s σ H _ _ vx vy Q I rx ry ⟨a, b, xs, ys, rfl, rfl, ha, hb, by rw [ra.length, rb.length]; exact hw.1, fin_lst q (ra.append rb) hw.2⟩
  · obtain ⟨a, xs, rfl, ha, ra⟩ := hx.tup lm
    obtain ⟨b, ys, rfl, hb, rb⟩ := hy.tup lm
    have gx := hx.rep (by intro _ h; cases h)
    have gy := hy.rep (by intro _ h; cases h)
    refine op_catA pins s σ H _ _ vx vy Q I rx ry ⟨a, b, xs, ys, rfl, rfl, ha, hb, by rw [ra.length, rb.length]; exact hw.1, fun e => ?_, fun _ e => ?_, fun _ _ => fin_tup hz q (ra.append rb) hw.2⟩
    · subst e
      cases rep_nil' ra
      exact fin_flat q gy hw.2
    · subst e
      cases rep_nil' rb
      have e2 := hw.2
      rw [List.append_nil] at e2
      exact fin_flat q gx e2
  · cases hx.int; cases hy.int
    exact op_sub pins s σ H _ _ vx vy Q I rx ry ⟨_, _, rfl, rfl, fin_flat q (.int _) hw⟩
  · cases hx.int; cases hy.int
    exact op_mulW pins s σ H _ _ vx vy Q I rx ry ⟨_, _, rfl, rfl, hw.1, fin_flat q (.int _) hw.2⟩
  · obtain ⟨a, xs, rfl, ha, ra⟩ := hx.tup lm
    cases hy.int
    obtain ⟨h1, h2, h3, h4, h5⟩ := hw
    have gx := hx.rep (by intro _ h; cases h)
    have hne : xs ≠ [] := fun e => h1 (by subst e; exact rep_nil' ra)
    rename_i ds n
    by_cases n1 : n = 1
    · subst n1
      refine op_repT1 pins s σ H _ _ vx vy Q I rx ry ⟨a, xs, rfl, rfl, ha, fin_flat q gx ?_⟩
      have e : (List.replicate (1 : Int).toNat ds).flatten = ds := by simp
      rw [e] at h5; exact h5
    · by_cases n0 : n ≤ 0
      · refine op_repT0 pins s σ H _ _ vx vy Q I rx ry ⟨a, n, xs, rfl, rfl, ha, hne, h2, n0, fin_tup hz q .nil ?_⟩
        have e : (List.replicate n.toNat ds).flatten = [] := by rw [show n.toNat = 0 by omega]; rfl
        rw [e] at h5; exact h5
      · exact op_repT pins s σ H _ _ vx vy Q I rx ry ⟨a, _, xs, rfl, rfl, ha, hne, by omega, h3, by rw [ra.length]; exact h4, fin_tup hz q (ra.flat _) h5⟩
  · obtain ⟨a, xs, rfl, ha, ra⟩ := hx.lst lm
    cases hy.int
    obtain ⟨h1, h2, h3, h4⟩ := hw
    exact op_rep pins s σ H _ _ vx vy Q I rx ry ⟨a, _, xs, rfl, rfl, ha, h1, h2, by rw [ra.length]; exact h3, fin_lst q (ra.flat _) h4⟩
  · cases hx.int; cases hy.int
    exact op_mod pins s σ H _ _ vx vy Q I rx ry ⟨_, _, rfl, rfl, hw.1, fin_flat q (.int _) hw.2⟩
  · cases hx.int; cases hy.int
    exact op_fdivW pins s σ H _ _ vx vy Q I rx ry ⟨_, _, rfl, rfl, hw.1, fin_flat q (.int _) hw.2⟩
  · cases hx.int; cases hy.int
    exact op_pow pins s σ H _ _ vx vy Q I rx ry ⟨_, _, rfl, rfl, hw.1, fin_flat q (.int _) hw.2⟩
  · exact hw.elim
/-! deep data -/
def hasNoDict : D → Bool := fun d => d.canLay0
mutual
theorem Rep.dp {K : PySem.W.Frag} {M : Hp} : ∀ {v : V} {d : D}, Rep K M v d → d.canLay0 = true → Dp K M v d
  | _, _, .non, _ => .non
  | _, _, .bl b, _ => .bl b
  | _, _, .int i, _ => .int i
  | _, _, .str x, _ => .str x
  | _, _, .lst h r, e => .lst (.inl (.inl h)) (RepAll.dp r (by simpa [PyData.canLay0] using e))
  | _, _, .tup h r, e => .tup h (RepAll.dp r (by simpa [PyData.canLay0] using e))
  | _, _, .scr h r, e => by simp [scrD, PyData.canLay0] at e
  | _, _, .dic h, e => by simp [PyData.canLay0] at e
theorem RepAll.dp {K : PySem.W.Frag} {M : Hp} : ∀ {vs : List V} {ds : List D}, RepAll K M vs ds → PyData.canLayAll0 ds = true → DpAll K M vs ds
  | _, _, .nil, _ => .nil
  | _, d :: ds, .cons h r, e => by
    have e' : PyData.canLay0 d = true ∧ PyData.canLayAll0 ds = true := by simpa [PyData.canLayAll0] using e
    exact .cons (Rep.dp h e'.1) (RepAll.dp r e'.2)
end
mutual
theorem dp_mono {K : PySem.W.Frag} {M M' : Hp} (e : Le M M') : ∀ {v : V} {d : D}, Dp K M v d → Dp K M' v d
  | _, _, .non => .non
  | _, _, .bl b => .bl b
  | _, _, .int i => .int i
  | _, _, .str x => .str x
  | _, _, .lst h r => .lst (sqL_mono e h) (dpAll_mono e r)
  | _, _, .tup h r => .tup (sqT_mono e h) (dpAll_mono e r)
theorem dpAll_mono {K : PySem.W.Frag} {M M' : Hp} (e : Le M M') : ∀ {vs : List V} {ds : List D}, DpAll K M vs ds → DpAll K M' vs ds
  | _, _, .nil => .nil
  | _, _, .cons h r => .cons (dp_mono e h) (dpAll_mono e r)
end
theorem Tr.dp {K : PySem.W.Frag} {Z : Addr → Prop} {H : Hp} {v : V} {d : D} (t : Tr K (mask Z H) H v d) (c : d.canLay0 = true) : Dp K H v d := by
  rcases t with t | ⟨a, xs, ds, rfl, rfl, h, r⟩
  · exact dp_mono (mask_le Z H) (t.dp c)
  · exact .lst (.inl (.inl h)) (dpAll_mono (mask_le Z H) (r.dp (by simpa [PyData.canLay0] using c)))
theorem canLay_shaped {d : D} (h : SeqAt.shaped d = true) : d.canLay0 = true := SeqAt.canLay_of_shaped h
theorem is_none {K : PySem.W.Frag} {Z : Addr → Prop} {H : Hp} {v : V} {u : D} (t : Tr K (mask Z H) H v u) : decide (v = .non) = isNoneD u := by
  rcases t with t | ⟨a, xs, ds, rfl, rfl, _⟩
  · cases t <;> simp [isNoneD]
  · simp [isNoneD]
def wCmp (op : CmpOp) : W2 := fun u v k => cmp2 op u v fun b => k (.bool b) false
theorem o_cmp (hu : X.A.units + 65 < cLine) (op : CmpOp) : OpR X (compareOp op) (rW X.K (wCmp op)) := by
  intro pins s σ H x y vx vy Q I rx ry ⟨Z, u, v, k, hz, hx, hy, hw, q⟩
  unfold wCmp cmp2 at hw
  split at hw
  · cases hx.int; cases hy.int
    exact op_lt pins s σ H _ _ vx vy Q I rx ry ⟨_, _, rfl, rfl, fin_flat q (.bl _) hw⟩
  · cases hx.int; cases hy.int
    exact op_le pins s σ H _ _ vx vy Q I rx ry ⟨_, _, rfl, rfl, fin_flat q (.bl _) hw⟩
  · cases hx.int; cases hy.int
    exact op_gt pins s σ H _ _ vx vy Q I rx ry ⟨_, _, rfl, rfl, fin_flat q (.bl _) hw⟩
  · cases hx.int; cases hy.int
    exact op_ge pins s σ H _ _ vx vy Q I rx ry ⟨_, _, rfl, rfl, fin_flat q (.bl _) hw⟩
  · cases hx.str; cases hy.str
    exact op_eq pins s σ H _ _ vx vy Q I rx ry ⟨rfl, fin_flat q (.bl _) (by simpa using hw)⟩
  · cases hx.str; cases hy.str
    exact op_ne pins s σ H _ _ vx vy Q I rx ry ⟨rfl, fin_flat q (.bl _) (by simpa using hw)⟩
  · exact op_eqD (by omega) pins s σ H _ _ vx vy Q I rx ry ⟨_, _, hx.dp (canLay_shaped hw.1), hy.dp (canLay_shaped hw.2.1), hw.1, hw.2.1, fin_flat q (.bl _) hw.2.2⟩
  · exact op_inD hu pins s σ H _ _ vx vy Q I rx ry ⟨_, _, hx.dp (canLay_shaped hw.1), hy.dp (canLay_shaped hw.2.1), hw.1, hw.2.1, fin_flat q (.bl _) hw.2.2⟩
  · exact op_notInD hu pins s σ H _ _ vx vy Q I rx ry ⟨_, _, hx.dp (canLay_shaped hw.1), hy.dp (canLay_shaped hw.2.1), hw.1, hw.2.1, fin_flat q (.bl _) hw.2.2⟩
  · exact op_inT hu pins s σ H _ _ vx vy Q I rx ry ⟨_, _, hx.dp (canLay_shaped hw.1), hy.dp (canLay_shaped hw.2.1), hw.1, hw.2.1, fin_flat q (.bl _) hw.2.2⟩
  · exact op_niT hu pins s σ H _ _ vx vy Q I rx ry ⟨_, _, hx.dp (canLay_shaped hw.1), hy.dp (canLay_shaped hw.2.1), hw.1, hw.2.1, fin_flat q (.bl _) hw.2.2⟩
  · cases hx.str; cases hy.str
    obtain ⟨c, rfl, hw⟩ := hw
    exact op_in_sign pins s σ H _ _ vx vy Q I rx ry ⟨c, _, rfl, rfl, fin_flat q (.bl _) hw⟩
  · cases hx.str; cases hy.str
    obtain ⟨c, rfl, hw⟩ := hw
    exact op_notIn_sign pins s σ H _ _ vx vy Q I rx ry ⟨c, _, rfl, rfl, fin_flat q (.bl _) hw⟩
  · exact op_neD (by omega) pins s σ H _ _ vx vy Q I rx ry ⟨_, _, hx.dp (canLay_shaped hw.1), hy.dp (canLay_shaped hw.2.1), hw.1, hw.2.1, fin_flat q (.bl _) hw.2.2⟩
  · cases hy.non
    refine op_isN pins s σ H _ _ vx vy Q I rx ry ⟨rfl, fin_flat q (.bl _) ?_⟩
    have e := is_none hx
    rw [e]; exact hw
  · cases hy.non
    refine op_notN pins s σ H _ _ vx vy Q I rx ry ⟨rfl, fin_flat q (.bl _) ?_⟩
    have e := is_none hx
    rw [e]; exact hw
  · cases hx.bl; cases hy.bl
    exact op_isBl pins s σ H _ _ vx vy Q I rx ry ⟨_, _, rfl, rfl, fin_flat q (.bl _) (by rw [Bool.beq_eq_decide_eq] at hw; exact hw)⟩
  · cases hx.bl; cases hy.bl
    exact op_notBl pins s σ H _ _ vx vy Q I rx ry ⟨_, _, rfl, rfl, fin_flat q (.bl _) (by rw [Bool.beq_eq_decide_eq] at hw; exact hw)⟩
  · exact hw.elim
/-! subscripts, slices -/
def wItem : W2 := fun u v k => item u v fun z => k z false
theorem atI_rep {K : PySem.W.Frag} {M : Hp} {xs : List V} {ds : List D} (r : RepAll K M xs ds) {n : Int} {d : D} (h : atI ds n = some d) : ∃ v, atI xs n = some v ∧ Rep K M v d := by
  unfold atI at h ⊢
  rw [r.length]
  cases q : ixN ds.length n with
  | none => rw [q] at h; simp at h
  | some j =>
    rw [q] at h
    simp only [Option.bind_some] at h ⊢
    exact r.get h
theorem o_item : IxR X (rW X.K wItem) := by
  intro a b pins s σ H x y vx vy Q I rx ry ⟨Z, u, v, k, hz, hx, hy, hw, q⟩
  have lm : Le (mask Z H) H := mask_le Z H
  unfold wItem item at hw
  split at hw
  · obtain ⟨z, h1, h2⟩ := hw
    obtain ⟨a', xs, rfl, ha, ra⟩ := hx.lst lm
    cases hy.int
    obtain ⟨w, e1, e2⟩ := atI_rep ra h1
    exact ix_list a b pins s σ H _ _ vx vy Q I rx ry ⟨a', xs, _, w, rfl, rfl, .inl (.inl ha), e1, fin_flat q e2 h2⟩
  · obtain ⟨z, h1, h2⟩ := hw
    obtain ⟨a', xs, rfl, ha, ra⟩ := hx.tup lm
    cases hy.int
    obtain ⟨w, e1, e2⟩ := atI_rep ra h1
    exact ix_tup a b pins s σ H _ _ vx vy Q I rx ry ⟨a', xs, _, w, rfl, rfl, ha, e1, fin_flat q e2 h2⟩
  · exact hw.elim
theorem cut_rep {K : PySem.W.Frag} {M : Hp} {xs : List V} {ds : List D} (r : RepAll K M xs ds) (lo hi : Option Int) : RepAll K M (cutV xs lo hi) (cutD ds lo hi) := by
  unfold cutV cutD
  rw [r.length]
  exact (r.drop _).take _
def rS (K : PySem.W.Frag) : V → Option Int → Option Int → Hp → VK → Prop := fun x lo hi H Q => ∃ (Z : Addr → Prop) (u : D) (k : K1), (∀ a, Z a → H a ≠ none) ∧ Tr K (mask Z H) H x u ∧ slice u lo hi k ∧
  ∀ z fr w' H', Post K Z H z fr w' H' → k z fr → Q w' H'
theorem o_slice : SlR X (rS X.K) := by
  intro pins s σ H x vx vl vu lo hi sl Q I rx hs pl pu ⟨Z, u, k, hz, hx, hw, q⟩
  have lm : Le (mask Z H) H := mask_le Z H
  unfold slice at hw
  split at hw
  · have g := hx.rep (by intro _ h; cases h)
    cases g with
    | scr h r => exact sl_list pins s σ H _ vx vl vu lo hi sl Q I rx hs pl pu ⟨_, _, rfl, sqL_mono lm h, fin_lst q (cut_rep r lo hi) hw⟩
  · obtain ⟨a', xs, rfl, ha, ra⟩ := hx.lst lm
    exact sl_list pins s σ H _ vx vl vu lo hi sl Q I rx hs pl pu ⟨_, _, rfl, .inl (.inl ha), fin_lst q (cut_rep ra lo hi) hw⟩
  · obtain ⟨a', xs, rfl, ha, ra⟩ := hx.tup lm
    have gx := hx.rep (by intro _ h; cases h)
    refine sl_tupA pins s σ H _ vx vl vu lo hi sl Q I rx hs pl pu ⟨_, _, rfl, ha, fun ⟨e1, e2⟩ => ?_, fun _ => fin_tup hz q (cut_rep ra lo hi) hw⟩
    refine fin_flat q gx ?_
    rw [ra.length] at e1 e2
    unfold cutD at hw
    rw [e1, e2] at hw
    simpa using hw
  · exact hw.elim
/-! built-in calls -/
def rB (K : PySem.W.Frag) (w : D → K1 → Prop) : List V → Hp → VK → Prop := fun xs H Q => ∃ (Z : Addr → Prop) (u : D) (x : V) (k : K1), xs = [x] ∧ (∀ a, Z a → H a ≠ none) ∧ Tr K (mask Z H) H x u ∧ w u k ∧
  ∀ z fr w' H', Post K Z H z fr w' H' → k z fr → Q w' H'
theorem b_len : CallR X (.builtin "len") (rB X.K (blt1 .len)) := by
  intro pins s σ H xs us Q I rv h0
  obtain ⟨Z, u, x, k, rfl, hz, hx, hw, q⟩ := h0
  have lm : Le (mask Z H) H := mask_le Z H
  unfold blt1 at hw
  split at hw <;> first | exact hw.elim | skip
  all_goals (rename_i he; first | cases he | skip)
  · cases hx.str
    exact call_len pins s σ H _ us Q I rv ⟨_, _, rfl, ⟨hw.1, rfl⟩, fin_flat q (.int _) hw.2⟩
  · obtain ⟨a', xs, rfl, ha, ra⟩ := hx.lst lm
    exact call_len pins s σ H _ us Q I rv ⟨_, _, rfl, .inl ⟨_, .inl (.inl ha), rfl⟩, fin_flat q (.int _) (by rw [ra.length]; exact hw)⟩
  · obtain ⟨a', xs, rfl, ha, ra⟩ := hx.tup lm
    exact call_len pins s σ H _ us Q I rv ⟨_, _, rfl, .inr ⟨_, ha, rfl⟩, fin_flat q (.int _) (by rw [ra.length]; exact hw)⟩
theorem b_int : CallR X (.type "int") (rB X.K (blt1 .int)) := by
  intro pins s σ H xs us Q I rv h0
  obtain ⟨Z, u, x, k, rfl, hz, hx, hw, q⟩ := h0
  unfold blt1 at hw
  split at hw <;> first | exact hw.elim | skip
  all_goals (rename_i he; first | cases he | skip)
  · cases hx.int
    exact call_int1 pins s σ H _ us Q I rv (.inl ⟨_, rfl, fin_flat q (.int _) hw⟩)
  · cases hx.bl
    exact call_int1 pins s σ H _ us Q I rv (.inr ⟨_, rfl, fin_flat q (.int _) hw⟩)
theorem b_abs : CallR X (.builtin "abs") (rB X.K (blt1 .abs)) := by
  intro pins s σ H xs us Q I rv h0
  obtain ⟨Z, u, x, k, rfl, hz, hx, hw, q⟩ := h0
  unfold blt1 at hw
  split at hw <;> first | exact hw.elim | skip
  all_goals (rename_i he; first | cases he | skip)
  cases hx.int
  exact call_abs pins s σ H _ us Q I rv ⟨_, rfl, fin_flat q (.int _) hw⟩
theorem b_tuple : CallR X (.type "tuple") (rB X.K (blt1 .tuple)) := by
  intro pins s σ H xs us Q I rv h0
  obtain ⟨Z, u, x, k, rfl, hz, hx, hw, q⟩ := h0
  have lm : Le (mask Z H) H := mask_le Z H
  unfold blt1 at hw
  split at hw <;> first | exact hw.elim | skip
  all_goals (rename_i he; first | cases he | skip)
  · obtain ⟨a', xs, rfl, ha, ra⟩ := hx.lst lm
    exact call_tuple_of pins s σ H _ us Q I rv ⟨_, _, rfl, .inl ⟨.inl (.inl ha), fin_tup hz q ra hw⟩⟩
  · obtain ⟨a', xs, rfl, ha, ra⟩ := hx.tup lm
    exact call_tuple_of pins s σ H _ us Q I rv ⟨_, _, rfl, .inr ⟨ha, fin_flat q (hx.rep (by intro _ h; cases h)) hw⟩⟩
theorem b_list : CallR X (.type "list") (rB X.K (blt1 .list)) := by
  intro pins s σ H xs us Q I rv h0
  obtain ⟨Z, u, x, k, rfl, hz, hx, hw, q⟩ := h0
  have lm : Le (mask Z H) H := mask_le Z H
  unfold blt1 at hw
  split at hw <;> first | exact hw.elim | skip
  all_goals (rename_i he; first | cases he | skip)
  · obtain ⟨a', xs, rfl, ha, ra⟩ := hx.lst lm
    exact call_list_of pins s σ H _ us Q I rv ⟨_, _, rfl, .inl (.inl (.inl ha)), fin_lst q ra hw⟩
  · obtain ⟨a', xs, rfl, ha, ra⟩ := hx.tup lm
    exact call_list_of pins s σ H _ us Q I rv ⟨_, _, rfl, .inr ha, fin_lst q ra hw⟩
end
end G

/-! G4: expressions -/
namespace G
open PySem PySem.Spec L2
open PyProof.Rows hiding St
section
variable {K : PySem.W.Frag} {T : Addr → Prop} {env : En} {σ : L2.St} {H : Hp}
theorem getE_set_self {env : En} {i : Nat} {s t : Slot} (h : env[i]? = some t) : (env.set i s)[i]? = some s := by
  rw [List.getElem?_set_self (List.getElem?_eq_some_iff.mp h).1]
/-- a slot's mark is lowered or exchanged: the lists that are owned become fewer or stay -/
theorem Ok.less (ok : Ok K T env σ H) {i : Nat} {s t : Slot} (h : env[i]? = some t) (hs : ∀ M M', Le M M' → (∀ a, OAt env σ i a → ¬ OAt (env.set i s) σ i a → M' a = H a) → SlotOk K M H t σ[i]? → SlotOk K M' H s σ[i]?)
    (ho : (isOwn s).isSome = true → (isOwn t).isSome = true) (hm : ∀ d, s = .own d → ∃ d', t = .own d') (hl : ∀ d, s = .lock d → t = .lock d) : Ok K T (env.set i s) σ H ∧ Step env σ H (env.set i s) σ H := by
  have sub : ∀ j a, OAt (env.set i s) σ j a → OAt env σ j a := fun j a ⟨⟨z, e1, e2⟩, e3⟩ => by
    by_cases hj : i = j
    · subst hj
      rw [getE_set_self h] at e1; cases e1
      exact ⟨⟨t, h, ho e2⟩, e3⟩
    · rw [List.getElem?_set_ne hj] at e1
      exact ⟨⟨z, e1, e2⟩, e3⟩
  have subA : ∀ a, OA (env.set i s) σ a → OA env σ a := fun a ⟨j, z⟩ => ⟨j, sub j a z⟩
  have m : Le (mask (hid T env σ) H) (mask (hid T (env.set i s) σ) H) := mask_sub fun b z => z.elim .inl fun z => .inr (subA b z)
  refine ⟨⟨by rw [List.length_set]; exact ok.len, fun j z e => ?_, fun j j' a x y => ok.inj j j' a (sub _ _ x) (sub _ _ y), fun a x => ok.dis a (subA a x), ok.thr⟩, ⟨fun b o h _ => h, fun b z => .inl (subA b z), fun b ⟨j, d, e1, e2⟩ => .inl ?_, fun b h => h, fun j d e => ⟨?_, rfl⟩⟩⟩
  case refine_2 =>
    by_cases hj : i = j
    · subst hj
      rw [getE_set_self h] at e1; cases e1
      obtain ⟨d', rfl⟩ := hm d rfl
      exact ⟨i, d', h, e2⟩
    · rw [List.getElem?_set_ne hj] at e1
      exact ⟨j, d, e1, e2⟩
  case refine_3 =>
    by_cases hj : i = j
    · subst hj
      rw [getE_set_self h] at e; cases e
      have := hl d rfl
      rw [this] at h
      exact h
    · rw [List.getElem?_set_ne hj] at e
      exact e
  by_cases hj : i = j
  · subst hj
    rw [getE_set_self h] at e; cases e
    refine hs _ _ m (fun a h1 h2 => ?_) (ok.slot i t h)
    have n : ¬ hid T (env.set i s) σ a := by
      rintro (z | ⟨j, z⟩)
      · exact ok.dis a ⟨i, h1⟩ z
      · have := ok.inj i j a h1 (sub j a z)
        subst this
        exact h2 z
    unfold mask
    rw [if_neg n]
  · rw [List.getElem?_set_ne hj] at e
    have q := ok.slot j z e
    cases z with
    | un => trivial
    | sh d => obtain ⟨x, e1, r⟩ := q; exact ⟨x, e1, r.mono m⟩
    | own d => obtain ⟨x, e1, xs, ds, e2, e3, e4⟩ := q; exact ⟨x, e1, xs, ds, e2, e3, e4.mono m⟩
    | lock d => obtain ⟨x, e1, xs, ds, e2, e3, e4⟩ := q; exact ⟨x, e1, xs, ds, e2, e3, e4.mono m⟩
theorem own_to_sh {M M' : Hp} {d : D} {v : Option (Option V)} (m : Le M M') (hm : ∀ a, v = some (some (.ref a)) → M' a = H a) (h : ∃ a, v = some (some (.ref a)) ∧ OwnAt K M H a d) : ∃ x, v = some (some x) ∧ Rep K M' x d := by
  obtain ⟨a, e, xs, ds, rfl, e2, e3⟩ := h
  exact ⟨_, e, .lst ((hm a e).trans e2) (e3.mono m)⟩
/-- a name is shared from now on -/
theorem Ok.share (ok : Ok K T env σ H) {i : Nat} {k : D → Prop} (h : rdS env i k) : Ok K T (shareE env i) σ H ∧ Step env σ H (shareE env i) σ H ∧ ∃ v d, σ[i]? = some (some v) ∧ Rep K (mask (hid T (shareE env i) σ) H) v d ∧ k d := by
  unfold rdS at h
  cases q : env[i]? with
  | none => rw [q] at h; exact h.elim
  | some s =>
    rw [q] at h
    have e : shareE env i = env.set i s.share := by unfold shareE; rw [q]; rfl
    rw [e]
    have key : Ok K T (env.set i s.share) σ H ∧ Step env σ H (env.set i s.share) σ H := by
      refine ok.less q (fun M M' m hm z => ?_) (fun z => by cases s <;> simp [Slot.share, isOwn] at z) (fun d z => by cases s <;> simp [Slot.share] at z) (fun d z => by cases s <;> simp [Slot.share] at z)
      cases s with
      | un => trivial
      | sh d => obtain ⟨x, e1, r⟩ := z; exact ⟨x, e1, r.mono m⟩
      | own d => exact own_to_sh m (fun a e => hm a ⟨⟨_, q, rfl⟩, e⟩ (by rintro ⟨⟨z, e1, e2⟩, _⟩; rw [getE_set_self q] at e1; cases e1; simp [Slot.share, isOwn] at e2)) z
      | lock d => exact own_to_sh m (fun a e => hm a ⟨⟨_, q, rfl⟩, e⟩ (by rintro ⟨⟨z, e1, e2⟩, _⟩; rw [getE_set_self q] at e1; cases e1; simp [Slot.share, isOwn] at e2)) z
    refine ⟨key.1, key.2, ?_⟩
    have z := key.1.slot i _ (getE_set_self q)
    cases s with
    | un => exact h.elim
    | sh d => obtain ⟨x, e1, r⟩ := z; exact ⟨x, d, e1, r, h⟩
    | own d => obtain ⟨x, e1, r⟩ := z; exact ⟨x, d, e1, r, h⟩
    | lock d => obtain ⟨x, e1, r⟩ := z; exact ⟨x, d, e1, r, h⟩
end
section
variable {X : Cx} {pos : Pos}
theorem c_var {e : Expr} {i : Nat} (h : PE X e (tVar i)) : PE X e (tE X.K fun env k => rdS env i fun d => k d false (shareE env i)) :=
  PE.imp h fun σ H Q ⟨T, env, k, ok, hw, q⟩ => by
    obtain ⟨ok', st, v, d, e1, r, hk⟩ := ok.share hw
    exact ⟨v, e1, q d false _ v H ok' st r hk⟩
theorem c_const {e : Expr} {v : V} {d : D} (h : PE X e fun _ H Q => Q v H) (hr : ∀ M, Rep X.K M v d) : PE X e (tE X.K fun env k => k d false env) :=
  PE.imp h fun σ H Q ⟨T, env, k, ok, hw, q⟩ => q d false env v H ok (Step.refl ..) (hr _) hw
theorem two {K : PySem.W.Frag} {w : W2} {wa wb : En → (Od → En → Prop) → Prop} {σ : L2.St} {H : Hp} {Q : VK}
    (h : tE K (fun env k => wa env fun x e1 => wb e1 fun y e2 => rd e2 x fun u => rd e2 y fun v => w u v fun z fr => k z fr e2) σ H Q) : tOp (rW K w) (tO K wa) (tO K wb) σ H Q := by
  obtain ⟨T, env, k, ok, hw, q⟩ := h
  refine ⟨T, env, _, ok, hw, fun o e1 v1 H1 ok1 st1 od1 h1 => ⟨T, e1, _, ok1, h1, fun o2 e2 v2 H2 ok2 st2 od2 h2 => ?_⟩⟩
  obtain ⟨u, tu, h3⟩ := (od1.mono st2.seen).rd ok2 h2
  obtain ⟨v, tv, h4⟩ := od2.rd ok2 h3
  exact rW_of ok2 tu tv h4 fun d fr env' v H' ok' st r hk => q d fr env' v H' ok' ((st1.trans st2).trans st) (r.back fun b z => st1.al b (st2.al b z)) hk
variable {a b c : Expr} {wa wb wc : En → (Od → En → Prop) → Prop}
theorem c_bin {op : Operator} (ha : PE X a (tO X.K wa)) (hb : PE X b (tO X.K wb)) :
    PE X (.BinOp a op b pos) (tE X.K fun env k => wa env fun x e1 => wb e1 fun y e2 => rd e2 x fun u => rd e2 y fun v => op2 op u v fun z fr => k z fr e2) :=
  PE.imp (pe_op (o_bin op) ha hb) fun σ H Q h => two (w := op2 op) h
theorem c_cmp {op : CmpOp} (hu : X.A.units + 65 < cLine) (ha : PE X a (tO X.K wa)) (hb : PE X b (tO X.K wb)) (hm : behindInMarks op b = false) :
    PE X (.Compare a [op] [b] pos) (tE X.K fun env k => wa env fun x e1 => wb e1 fun y e2 => rd e2 x fun u => rd e2 y fun v => cmp2 op u v fun z => k (.bool z) false e2) :=
  PE.imp (pe_cmpR (o_cmp hu op) ha hb hm) fun σ H Q h => two (w := wCmp op) h
theorem c_idx (ha : PE X a (tO X.K wa)) (hb : PE X b (tO X.K wb)) (hp : PlainIx b) :
    PE X (.Subscript a b pos) (tE X.K fun env k => wa env fun x e1 => wb e1 fun y e2 => rd e2 x fun u => rd e2 y fun v => item u v fun z => k z false e2) :=
  PE.imp (pe_ix o_item ha hb hp) fun σ H Q h => two (w := wItem) h
/-- as a test -/
theorem t_cmp {op : CmpOp} (hu : X.A.units + 65 < cLine) (ha : PE X a (tO X.K wa)) (hb : PE X b (tO X.K wb)) (hm : behindInMarks op b = false) :
    PT X (.Compare a [op] [b] pos) (tT X.K fun env k => wa env fun x e1 => wb e1 fun y e2 => rd e2 x fun u => rd e2 y fun v => cmp2 op u v fun z => k z e2) :=
  PT.imp (pt_cmpR (o_cmp hu op) ha hb hm) fun σ H Q ⟨T, env, k, ok, hw, q⟩ => by
    refine two (w := wCmp op) (wa := wa) (wb := wb) ⟨T, env, fun d fr e => ∃ z, d = .bool z ∧ fr = false ∧ k z e, ok, ?_, fun d fr env' v H' ok' st r ⟨z, e1, e2, hk⟩ => ?_⟩
    · unfold wCmp
      exact cast (by congr; funext z e; simp) hw
    · subst e1 e2
      cases r with
      | bl b => exact ⟨_, rfl, q _ env' H' ok' st hk⟩

theorem c_neg (ha : PE X a (tO X.K wa)) : PE X (.UnaryOp .USub a pos) (tE X.K fun env k => wa env fun x e1 => rd e1 x fun u => ∃ i, u = .int i ∧ k (.int (-i)) false e1) :=
  PE.imp (pe_un un_neg ha) fun σ H Q ⟨T, env, k, ok, hw, q⟩ => ⟨T, env, _, ok, hw, fun o e1 v1 H1 ok1 st1 od1 h1 => by
    obtain ⟨u, tu, i, rfl, hk⟩ := od1.rd ok1 h1
    exact ⟨i, tu.int, q _ _ _ _ _ ok1 st1 (.of (.int _)) hk⟩⟩
/-- truth -/
theorem truth_ok {K : PySem.W.Frag} {Z : Addr → Prop} {H : Hp} {v : V} {u : D} {k : Bool → Prop} (t : Tr K (mask Z H) H v u) (h : truth u k) : ∃ b, TruV K v H b ∧ k b := by
  have lm : Le (mask Z H) H := mask_le Z H
  unfold truth at h
  split at h
  · cases t.non; exact ⟨_, rfl, h⟩
  · cases t.bl; exact ⟨_, rfl, h⟩
  · cases t.int; exact ⟨_, rfl, h⟩
  · cases t.str; exact ⟨_, ⟨h.1, rfl⟩, h.2⟩
  · obtain ⟨a', xs, rfl, ha, ra⟩ := t.lst lm
    refine ⟨_, .inl ⟨_, .inl (.inl ha), rfl⟩, ?_⟩
    cases ra <;> exact h
  · obtain ⟨a', xs, rfl, ha, ra⟩ := t.tup lm
    refine ⟨_, .inr (.inl ⟨_, ha, rfl⟩), ?_⟩
    cases ra <;> exact h
  · exact h.elim
variable {ta tb tc : En → (Bool → En → Prop) → Prop} {va vb : En → (D → Bool → En → Prop) → Prop}
theorem c_not (ha : PE X a (tO X.K wa)) : PE X (.UnaryOp .Not a pos) (tE X.K fun env k => wa env fun x e1 => rd e1 x fun u => truth u fun b => k (.bool (!b)) false e1) :=
  PE.imp (pe_notT ha) fun σ H Q ⟨T, env, k, ok, hw, q⟩ => ⟨T, env, _, ok, hw, fun o e1 v1 H1 ok1 st1 od1 h1 => by
    obtain ⟨u, tu, h2⟩ := od1.rd ok1 h1
    obtain ⟨b, e, hk⟩ := truth_ok tu h2
    exact ⟨b, e, q _ _ _ _ _ ok1 st1 (.of (.bl _)) hk⟩⟩
theorem t_val (ha : PE X a (tO X.K wa)) (he : ∀ whole, isTrue a X.env whole = (do let v ← whole; standAt a.pos; holding [v] (truthy v))) :
    PT X a (tT X.K fun env k => wa env fun x e1 => rd e1 x fun u => truth u fun b => k b e1) :=
  PT.imp (pt_truth ha he) fun σ H Q ⟨T, env, k, ok, hw, q⟩ => ⟨T, env, _, ok, hw, fun o e1 v1 H1 ok1 st1 od1 h1 => by
    obtain ⟨u, tu, h2⟩ := od1.rd ok1 h1
    obtain ⟨b, e, hk⟩ := truth_ok tu h2
    exact ⟨b, e, q _ _ _ ok1 st1 hk⟩⟩
theorem t_not (ha : PT X a (tT X.K ta)) : PT X (.UnaryOp .Not a pos) (tT X.K fun env k => ta env fun b e => k (!b) e) :=
  PT.imp (pt_not ha) fun σ H Q ⟨T, env, k, ok, hw, q⟩ => ⟨T, env, _, ok, hw, fun b e1 H1 ok1 st1 h1 => q _ _ _ ok1 st1 h1⟩
theorem t_and1 (ha : PT X a (tT X.K ta)) : PW X (.BoolOp .And [a] pos) (tT X.K ta) := pw_and1 ha
theorem t_or1 (ha : PT X a (tT X.K ta)) : PW X (.BoolOp .Or [a] pos) (tT X.K ta) := pw_or1 ha
theorem t_and {rest : List Expr} (ha : PT X a (tT X.K ta)) (hb : PW X (.BoolOp .And (b :: rest) pos) (tT X.K tb)) :
    PW X (.BoolOp .And (a :: b :: rest) pos) (tT X.K fun env k => ta env fun c e => if c = true then tb e k else k false e) :=
  PW.imp (pw_and ha hb) fun σ H Q ⟨T, env, k, ok, hw, q⟩ => ⟨T, env, _, ok, hw, fun c e1 H1 ok1 st1 h1 => by
    cases c with
    | true =>
      simp only [if_true] at h1 ⊢
      exact ⟨T, e1, k, ok1, h1, fun b e2 H2 ok2 st2 hk => q _ _ _ ok2 (st1.trans st2) hk⟩
    | false =>
      simp only [Bool.false_eq_true, if_false] at h1 ⊢
      exact q _ _ _ ok1 st1 h1⟩
theorem t_or {rest : List Expr} (ha : PT X a (tT X.K ta)) (hb : PW X (.BoolOp .Or (b :: rest) pos) (tT X.K tb)) :
    PW X (.BoolOp .Or (a :: b :: rest) pos) (tT X.K fun env k => ta env fun c e => if c = true then k true e else tb e k) :=
  PW.imp (pw_or ha hb) fun σ H Q ⟨T, env, k, ok, hw, q⟩ => ⟨T, env, _, ok, hw, fun c e1 H1 ok1 st1 h1 => by
    cases c with
    | true =>
      simp only [if_true] at h1 ⊢
      exact q _ _ _ ok1 st1 h1
    | false =>
      simp only [Bool.false_eq_true, if_false] at h1 ⊢
      exact ⟨T, e1, k, ok1, h1, fun b e2 H2 ok2 st2 hk => q _ _ _ ok2 (st1.trans st2) hk⟩⟩
theorem c_one {op : BoolOp} (ha : PE X a (tE X.K va)) : PE X (.BoolOp op [a] pos) (tE X.K va) := pe_one ha
theorem c_and {rest : List Expr} (ha : PE X a (tO X.K wa)) (hb : PE X (.BoolOp .And (b :: rest) pos) (tE X.K vb)) :
    PE X (.BoolOp .And (a :: b :: rest) pos) (tE X.K fun env k => wa env fun x e1 => rd e1 x fun u => ∃ c, u = .bool c ∧ if c = true then vb e1 k else k (.bool false) false e1) :=
  PE.imp (pe_and ha hb) fun σ H Q ⟨T, env, k, ok, hw, q⟩ => ⟨T, env, _, ok, hw, fun o e1 v1 H1 ok1 st1 od1 h1 => by
    obtain ⟨u, tu, c, rfl, h2⟩ := od1.rd ok1 h1
    refine ⟨c, tu.bl, ?_⟩
    cases c with
    | true =>
      simp only [if_true] at h2 ⊢
      exact ⟨T, e1, k, ok1, h2, fun d fr e2 v2 H2 ok2 st2 r2 hk => q _ _ _ _ _ ok2 (st1.trans st2) (r2.back st1.al) hk⟩
    | false =>
      simp only [Bool.false_eq_true, if_false] at h2 ⊢
      exact q _ _ _ _ _ ok1 st1 (.of (.bl _)) h2⟩
theorem c_or {rest : List Expr} (ha : PE X a (tO X.K wa)) (hb : PE X (.BoolOp .Or (b :: rest) pos) (tE X.K vb)) :
    PE X (.BoolOp .Or (a :: b :: rest) pos) (tE X.K fun env k => wa env fun x e1 => rd e1 x fun u => ∃ c, u = .bool c ∧ if c = true then k (.bool true) false e1 else vb e1 k) :=
  PE.imp (pe_or ha hb) fun σ H Q ⟨T, env, k, ok, hw, q⟩ => ⟨T, env, _, ok, hw, fun o e1 v1 H1 ok1 st1 od1 h1 => by
    obtain ⟨u, tu, c, rfl, h2⟩ := od1.rd ok1 h1
    refine ⟨c, tu.bl, ?_⟩
    cases c with
    | true =>
      simp only [if_true] at h2 ⊢
      exact q _ _ _ _ _ ok1 st1 (.of (.bl _)) h2
    | false =>
      simp only [Bool.false_eq_true, if_false] at h2 ⊢
      exact ⟨T, e1, k, ok1, h2, fun d fr e2 v2 H2 ok2 st2 r2 hk => q _ _ _ _ _ ok2 (st1.trans st2) (r2.back st1.al) hk⟩⟩
theorem c_ite (hc : PT X c (tT X.K tc)) (ha : PE X a (tE X.K va)) (hb : PE X b (tE X.K vb)) :
    PE X (.IfExp c a b pos) (tE X.K fun env k => tc env fun t e => if t = true then va e k else vb e k) :=
  PE.imp (pe_ifExp hc ha hb) fun σ H Q ⟨T, env, k, ok, hw, q⟩ => ⟨T, env, _, ok, hw, fun t e1 H1 ok1 st1 h1 => by
    cases t with
    | true =>
      simp only [if_true] at h1 ⊢
      exact ⟨T, e1, k, ok1, h1, fun d fr e2 v2 H2 ok2 st2 r2 hk => q _ _ _ _ _ ok2 (st1.trans st2) (r2.back st1.al) hk⟩
    | false =>
      simp only [Bool.false_eq_true, if_false] at h1 ⊢
      exact ⟨T, e1, k, ok1, h1, fun d fr e2 v2 H2 ok2 st2 r2 hk => q _ _ _ _ _ ok2 (st1.trans st2) (r2.back st1.al) hk⟩⟩
/-- x o y p z -/
theorem chain_ok {K : PySem.W.Frag} {o p : CmpOp} {σ : L2.St} {H : Hp} {Q : VK}
    (h : tE K (fun env k => wa env fun x e1 => wb e1 fun y e2 => rd e2 x fun u => rd e2 y fun v => cmp2 o u v fun z =>
      if z = true then wc e2 fun w e3 => rd e3 y fun v => rd e3 w fun t => cmp2 p v t fun z' => k (.bool z') false e3 else k (.bool false) false e2) σ H Q) :
    tChain (rW K (wCmp o)) (rW K (wCmp p)) (tO K wa) (tO K wb) (tO K wc) σ H Q := by
  obtain ⟨T, env, k, ok, hw, q⟩ := h
  refine ⟨T, env, _, ok, hw, fun o1 e1 v1 H1 ok1 st1 od1 h1 => ⟨T, e1, _, ok1, h1, fun o2 e2 v2 H2 ok2 st2 od2 h2 => ?_⟩⟩
  obtain ⟨u, tu, h3⟩ := (od1.mono st2.seen).rd ok2 h2
  obtain ⟨v, tv, h4⟩ := od2.rd ok2 h3
  refine rW_of (k := fun d fr e => ∃ z, d = .bool z ∧ fr = false ∧ e = e2 ∧ (if z = true then wc e2 fun w e3 => rd e3 o2 fun v => rd e3 w fun t => cmp2 p v t fun z' => k (.bool z') false e3 else k (.bool false) false e2)) ok2 tu tv (by
    unfold wCmp
    refine cast (by congr; funext z; simp) h4) fun d fr env' v3 H3 ok3 st3 r ⟨z, e1', e2', e3', hk⟩ => ?_
  subst e1' e2' e3'
  cases r with
  | bl b =>
    refine ⟨_, rfl, ?_⟩
    have st13 := (st1.trans st2).trans st3
    cases z with
    | true =>
      simp only [if_true] at hk ⊢
      refine ⟨T, _, _, ok3, hk, fun o4 e4 v4 H4 ok4 st4 od4 h5 => ?_⟩
      obtain ⟨v', tv', h6⟩ := ((od2.mono st3.seen).mono st4.seen).rd ok4 h5
      obtain ⟨t', tt', h7⟩ := od4.rd ok4 h6
      exact rW_of (w := wCmp p) (k := fun d fr e => k d fr e) ok4 tv' tt' h7 fun d fr env' v H' ok' st r hk => q d fr env' v H' ok' ((st13.trans st4).trans st) (r.back fun b z => st13.al b (st4.al b z)) hk
    | false =>
      simp only [Bool.false_eq_true, if_false] at hk ⊢
      exact q _ _ _ _ _ ok3 st13 (.of (.bl _)) hk
theorem c_chain {o p : CmpOp} (hu : X.A.units + 65 < cLine) (ha : PE X a (tO X.K wa)) (hb : PE X b (tO X.K wb)) (hc : PE X c (tO X.K wc)) (hm : lastMarks [o, p] [b, c] = false) :
    PE X (.Compare a [o, p] [b, c] pos) (tE X.K fun env k => wa env fun x e1 => wb e1 fun y e2 => rd e2 x fun u => rd e2 y fun v => cmp2 o u v fun z =>
      if z = true then wc e2 fun w e3 => rd e3 y fun v => rd e3 w fun t => cmp2 p v t fun z' => k (.bool z') false e3 else k (.bool false) false e2) :=
  PE.imp (pe_chain (o_cmp hu o) (o_cmp hu p) ha hb hc hm) fun σ H Q h => chain_ok h
theorem t_chain {o p : CmpOp} (hu : X.A.units + 65 < cLine) (ha : PE X a (tO X.K wa)) (hb : PE X b (tO X.K wb)) (hc : PE X c (tO X.K wc)) (hm : lastMarks [o, p] [b, c] = false) :
    PT X (.Compare a [o, p] [b, c] pos) (tT X.K fun env k => wa env fun x e1 => wb e1 fun y e2 => rd e2 x fun u => rd e2 y fun v => cmp2 o u v fun z =>
      if z = true then wc e2 fun w e3 => rd e3 y fun v => rd e3 w fun t => cmp2 p v t fun z' => k z' e3 else k false e2) :=
  PT.imp (pt_chain (o_cmp hu o) (o_cmp hu p) ha hb hc hm) fun σ H Q ⟨T, env, k, ok, hw, q⟩ => by
    refine chain_ok (wa := wa) (wb := wb) (wc := wc) ⟨T, env, fun d fr e => ∃ z, d = .bool z ∧ fr = false ∧ k z e, ok, ?_, fun d fr env' v H' ok' st r ⟨z, e1, e2, hk⟩ => ?_⟩
    · refine cast ?_ hw
      congr; funext x e1; simp
    · subst e1 e2
      cases r with
      | bl b => exact ⟨_, rfl, q _ env' H' ok' st hk⟩
/-! displays -/
variable {es : List Expr} {we : En → (List D → En → Prop) → Prop}
theorem a_nil : PA X [] (tEs X.K fun env k => k [] env) := PA.imp pa_nil fun σ H Q ⟨T, env, k, ok, hw, q⟩ => q [] env [] H ok (Step.refl ..) .nil hw
theorem a_cons (ha : PE X a (tE X.K va)) (hr : PA X es (tEs X.K we)) (hs : starEach (a :: es) X.env = (false, eval a X.env) :: starEach es X.env) :
    PA X (a :: es) (tEs X.K fun env k => va env fun d _ e1 => we e1 fun ds e2 => k (d :: ds) e2) :=
  PA.imp (pa_cons ha hr hs) fun σ H Q ⟨T, env, k, ok, hw, q⟩ => ⟨T, env, _, ok, hw, fun d fr e1 v1 H1 ok1 st1 r1 h1 => ⟨T, e1, _, ok1, h1, fun ds e2 vs H2 ok2 st2 r2 h2 =>
    q _ _ _ _ ok2 (st1.trans st2) (.cons ((r1.rep ok1).mono st2.seen) r2) h2⟩⟩
theorem c_tup {x1} (h : PA X es (tEs X.K we)) : PE X (.Tuple es x1 pos) (tE X.K fun env k => we env fun ds e => ds.length ≤ sizeLine ∧ k (.tuple ds) false e) :=
  PE.imp (pe_tup h) fun σ H Q ⟨T, env, k, ok, hw, q⟩ => ⟨T, env, _, ok, hw, fun ds e1 vs H1 ok1 st1 r1 ⟨hl, hk⟩ => ⟨by rw [r1.length]; exact hl, fun p hp => by
    obtain ⟨ok2, st2, r2⟩ := (Post.newT (Z := hid T e1 σ) hp (ok1.nohid hp) r1).res ok1
    exact q _ _ _ _ _ ok2 (st1.trans st2) (r2.back st1.al) hk⟩⟩
theorem c_lst (h : PA X es (tEs X.K we)) : PE X (.List es pos) (tE X.K fun env k => we env fun ds e => ds.length ≤ sizeLine ∧ k (.list ds) true e) :=
  PE.imp (pe_lst h) fun σ H Q ⟨T, env, k, ok, hw, q⟩ => ⟨T, env, _, ok, hw, fun ds e1 vs H1 ok1 st1 r1 ⟨hl, hk⟩ => ⟨by rw [r1.length]; exact hl, fun p hp => by
    obtain ⟨ok2, st2, r2⟩ := (Post.newL (Z := hid T e1 σ) hp r1).res ok1
    exact q _ _ _ _ _ ok2 (st1.trans st2) (r2.back st1.al) hk⟩⟩
theorem c_dic0 (h : PE X a fun _ H Q => ∀ p, H p = none → Q (.ref p) (upd H p (.dK []))) : PE X a (tE X.K fun env k => k (.dict []) false env) :=
  PE.imp h fun σ H Q ⟨T, env, k, ok, hw, q⟩ p hp => by
    have po : Post X.K (hid T env σ) H (.dict []) false (.ref p) (upd H p (.dK [])) := ⟨upd_le hp, .dic (mask_some.mpr ⟨ok.nohid hp, upd_same⟩)⟩
    obtain ⟨ok2, st2, r2⟩ := po.res ok
    exact q _ _ _ _ _ ok2 st2 r2 hw
/-! slices -/
def tP (K : PySem.W.Frag) (w : En → (Option Int → En → Prop) → Prop) : TO := fun σ H Q => ∃ T env k, Ok K T env σ H ∧ w env k ∧
  ∀ o env' H', Ok K T env' σ H' → Step env σ H env' σ H' → k o env' → Q o H'
variable {wl wh : En → (Option Int → En → Prop) → Prop} {lo hi : Option Expr}
theorem PO.imp {e : Option Expr} {t t' : TO} (h : PO X e t) (i : ∀ σ H Q, t' σ H Q → t σ H Q) : PO X e t' := ⟨fun pins s σ H Q I q => h.run pins s σ H Q I (i σ H Q q)⟩
theorem p_none : PO X none (tP X.K fun env k => k none env) := PO.imp po_none fun σ H Q ⟨T, env, k, ok, hw, q⟩ => q none env H ok (Step.refl ..) hw
theorem p_some (ha : PE X a (tO X.K wa)) : PO X (some a) (tP X.K fun env k => wa env fun x e1 => rd e1 x fun u => ∃ i, u = .int i ∧ k (some i) e1) :=
  PO.imp (po_some ha) fun σ H Q ⟨T, env, k, ok, hw, q⟩ => ⟨T, env, _, ok, hw, fun o e1 v1 H1 ok1 st1 od1 h1 => by
    obtain ⟨u, tu, i, rfl, hk⟩ := od1.rd ok1 h1
    exact ⟨i, tu.int, q _ _ _ ok1 st1 hk⟩⟩
theorem c_slc {p2 : Pos} (ha : PE X a (tO X.K wa)) (hl : PO X lo (tP X.K wl)) (hh : PO X hi (tP X.K wh)) :
    PE X (.Subscript a (.Slice lo hi none p2) pos) (tE X.K fun env k => wa env fun x e1 => wl e1 fun l e2 => wh e2 fun h e3 => rd e3 x fun u => slice u l h fun z fr => k z fr e3) :=
  PE.imp (pe_slice o_slice ha hl hh) fun σ H Q ⟨T, env, k, ok, hw, q⟩ => ⟨T, env, _, ok, hw, fun o e1 v1 H1 ok1 st1 od1 h1 => ⟨T, e1, _, ok1, h1, fun l e2 H2 ok2 st2 h2 => ⟨T, e2, _, ok2, h2, fun h e3 H3 ok3 st3 h3 => by
    obtain ⟨u, tu, h4⟩ := ((od1.mono st2.seen).mono st3.seen).rd ok3 h3
    have st := (st1.trans st2).trans st3
    exact ⟨hid T e3 σ, u, _, fun a z n => ok3.nohid n z, tu, h4, fun z fr w' H' p hk => by
      obtain ⟨ok', st', r⟩ := p.res ok3
      exact q z fr e3 w' H' ok' (st.trans st') (r.back st.al) hk⟩⟩⟩⟩
/-! built-in functions of one argument -/
theorem one {w : D → K1 → Prop} {σ : L2.St} {H : Hp} {Q : VK} {K : PySem.W.Frag} (h : tE K (fun env k => wa env fun x e1 => rd e1 x fun u => w u fun z fr => k z fr e1) σ H Q) :
    tCB (rB K w) (tCons (tO K wa) tNil) σ H Q := by
  obtain ⟨T, env, k, ok, hw, q⟩ := h
  refine ⟨T, env, _, ok, hw, fun o e1 v1 H1 ok1 st1 od1 h1 => ?_⟩
  obtain ⟨u, tu, h2⟩ := od1.rd ok1 h1
  exact ⟨hid T e1 σ, u, v1, _, rfl, fun a z n => ok1.nohid n z, tu, h2, fun z fr w' H' p hk => by
    obtain ⟨ok', st', r⟩ := p.res ok1
    exact q z fr e1 w' H' ok' (st1.trans st') (r.back st1.al) hk⟩
/-! backwards -/
theorem RepAll.rev {K : PySem.W.Frag} {M : Hp} {vs : List V} {ds : List D} (r : RepAll K M vs ds) : RepAll K M vs.reverse ds.reverse := by
  induction vs generalizing ds with
  | nil => cases r; exact .nil
  | cons v vs ih =>
    cases r with
    | cons h r => rw [List.reverse_cons, List.reverse_cons]; exact (ih r).append (.cons h .nil)
def tBack (K : PySem.W.Frag) (te : TE) : TE := fun σ H Q => te σ H fun x H1 => rB K revD [x] H1 Q
theorem pe_back {X : Cx} {e : Expr} {te : TE} {k : Nat} {p1 p2 p3 pos : Pos} (he : PE X e te) : PE X (.Subscript e (.Slice none none (some (.UnaryOp .USub (.Constant (.int 1) k p1) p2)) p3) pos) (tBack X.K te) := by
  constructor
  intro pins s σ H Q I h
  apply Subscript_
  refine thn (he.run pins s σ H _ I h) ?_
  rintro v s1 ⟨x, H1, I1, r1, q1⟩
  have one : PO X (some (.UnaryOp .USub (.Constant (.int 1) k p1) p2)) (tPart (tUn (rU fun i => .int (-i)) (tC (.int 1)))) := po_some (pe_un un_neg pe_int)
  apply wpAny_Slice
  refine thn (po_none.run pins s1 σ H1 (fun o H2 => o = none ∧ H2 = H1) I1 ⟨rfl, rfl⟩) ?_
  rintro vl s2 ⟨l, H2, I2, pl, rfl, rfl⟩
  refine thn (po_none.run pins s2 σ H2 (fun o H3 => o = none ∧ H3 = H2) I2 ⟨rfl, rfl⟩) ?_
  rintro vu s3 ⟨u, H3, I3, pu, rfl, rfl⟩
  refine thn (one.run pins s3 σ H3 (fun o H4 => o = some (-1) ∧ H4 = H3) I3 ⟨1, rfl, -1, rfl, rfl, rfl⟩) ?_
  rintro vs s4 ⟨o, H4, I4, ps, rfl, rfl⟩
  have I5 : Inv X pins σ H4 { s4 with heap := s4.heap.push { cls := .type "slice", data := .fields #[vl, vu, vs] } } := I4.kept (t' := s4.toks) fun b ob q => Heap.get?_push_of_some _ q
  obtain ⟨Z, u, x', k', e1, hz, hx, hw, q⟩ := q1
  cases e1
  have lm : Le (mask Z H4) H4 := mask_le Z H4
  unfold revD at hw
  split at hw
  · obtain ⟨a, xs, rfl, ha, ra⟩ := hx.lst lm
    cases r1
    obtain ⟨its, r, ht, hz2⟩ := I5.list (.inl (.inl ha))
    show wpAny (model X.prog X.w) X.A (subscriptTail e (.Slice none none (some (.UnaryOp .USub (.Constant (.int 1) k p1) p2)) p3) (.ref a) (.ref s4.heap.objs.size)) _ X.xe _
    refine tail_any (ops := [.ref a, .ref s4.heap.objs.size]) ht.isList.typeIs PySem.slot_list_getitem.lookup ?_ (by with_unfolding_all rfl)
    have hlen := r.length
    refine wpAny_getItem_list_slice ht.isList (Heap.IsSliceOf.new _ vl vu vs) pl pu ps (by decide) ?_ (by rw [List.size_toArray]; omega)
    rw [PySem.W.krv_pick]
    refine ⟨.ref _, _, I5.laid (t' := s4.toks) (o := .lst xs.reverse) (fun b ob q => Heap.get?_push_of_some _ q) (Nat.le_refl _) ⟨by rw [List.length_reverse]; exact hz2, _, 0, r.reverse, Heap.get?_push_size _ rfl⟩, rfl, ?_⟩
    exact fin_lst q ra.rev hw _ (I5.hok.fresh (Nat.le_refl _))
  · obtain ⟨a, xs, rfl, ha, ra⟩ := hx.tup lm
    cases r1
    cases pl
    cases pu
    obtain ⟨its, r, ht, hz2⟩ := I5.tuple ha
    show wpAny (model X.prog X.w) X.A (subscriptTail e (.Slice none none (some (.UnaryOp .USub (.Constant (.int 1) k p1) p2)) p3) (.ref a) (.ref s4.heap.objs.size)) _ X.xe _
    refine tail_any (ops := [.ref a, .ref s4.heap.objs.size]) ht.typeIs PyProof.Rows.slot_tuple_getitem.lookup ?_ (by with_unfolding_all rfl)
    have hlen := r.length
    refine back_tuple ht (Heap.IsSliceOf.new _ _ _ vs) ps (by rw [List.size_toArray]; omega) ?_
    refine ⟨.ref _, _, I5.laid (t' := s4.toks) (o := .tup xs.reverse) (fun b ob q => Heap.get?_push_of_some _ q) (Nat.le_refl _) ?_, rfl, ?_⟩
    · exact ⟨by rw [List.length_reverse]; exact hz2, _, r.reverse, IsTup.new _ _⟩
    · exact fin_tup hz q ra.rev hw _ (I5.hok.fresh (Nat.le_refl _))
  · exact hw.elim
theorem c_rev {k : Nat} {p1 p2 p3 : Pos} (ha : PE X a (tO X.K wa)) : PE X (.Subscript a (.Slice none none (some (.UnaryOp .USub (.Constant (.int 1) k p1) p2)) p3) pos) (tE X.K fun env k => wa env fun x e1 => rd e1 x fun u => revD u fun z fr => k z fr e1) :=
  PE.imp (pe_back ha) fun σ H Q h => one (w := revD) h
end
end G

/-! G5: calls -/
namespace G
open PySem PySem.Spec L2
open PyProof.Rows hiding St
/-! ### the lists that are lent -/
def envO : List Bool → List D → En
  | true :: fl, d :: ds => .own d :: envO fl ds
  | false :: fl, ds => .un :: envO fl ds
  | _, _ => []
def lent : List Bool → Nat
  | [] => 0
  | true :: fl => lent fl + 1
  | false :: fl => lent fl
/-- what a def promises: fl tells which of its parameters it may change -/
def spF (K : PySem.W.Frag) (fl : List Bool) (ct : Ct) : Sp := fun vs H Q _ => ∃ (T : Addr → Prop) (ds : List D) (k : D → Bool → List D → Prop), vs.length = fl.length ∧ ds.length = fl.length ∧
  Ok K T (envA fl ds) (vs.map some) H ∧ ct ds k ∧ ∀ r fr os v H', os.length = lent fl → Ok K T (envO fl os) (vs.map some) H' → Step (envA fl ds) (vs.map some) H (envO fl os) (vs.map some) H' →
    Res K T (envO fl os) (vs.map some) (nw H) H' v r fr → k r fr os → Q v H'
/-- arguments at the call -/
inductive Args (K : PySem.W.Frag) (M : Hp) (env : En) (σ : L2.St) : List Av → List V → List D → List Bool → Prop
  | nil : Args K M env σ [] [] [] []
  | val {d v as vs ds fl} : Rep K M v d → Args K M env σ as vs ds fl → Args K M env σ (.val d :: as) (v :: vs) (d :: ds) (false :: fl)
  | io {i d v as vs ds fl} : env[i]? = some (.own d) → σ[i]? = some (some v) → Args K M env σ as vs ds fl → Args K M env σ (.io i :: as) (v :: vs) (d :: ds) (true :: fl)
/-- .. as they were made -/
inductive AvOk (K : PySem.W.Frag) (M : Hp) (σ : L2.St) : List Av → List V → List Bool → Prop
  | nil : AvOk K M σ [] [] []
  | val {d v as vs fl} : Rep K M v d → AvOk K M σ as vs fl → AvOk K M σ (.val d :: as) (v :: vs) (false :: fl)
  | io {i v as vs fl} : σ[i]? = some (some v) → AvOk K M σ as vs fl → AvOk K M σ (.io i :: as) (v :: vs) (true :: fl)
section
variable {K : PySem.W.Frag} {M M' : Hp} {env : En} {σ : L2.St}
theorem AvOk.mono (l : Le M M') : ∀ {as vs fl}, AvOk K M σ as vs fl → AvOk K M' σ as vs fl
  | _, _, _, .nil => .nil
  | _, _, _, .val h r => .val (h.mono l) (r.mono l)
  | _, _, _, .io h r => .io h (r.mono l)
theorem AvOk.args : ∀ {as vs fl} {k : List D → Prop}, AvOk K M σ as vs fl → argD env as k → ∃ ds, Args K M env σ as vs ds fl ∧ k ds
  | _, _, _, _, .nil, h => ⟨[], .nil, h⟩
  | _, _, _, k, .val (d := d) hr r, h => by
    obtain ⟨ds, ha, hk⟩ := AvOk.args (k := fun ds => k (d :: ds)) r h
    exact ⟨_, .val hr ha, hk⟩
  | _, _, _, k, .io (i := i) hr r, h => by
    unfold argD at h
    split at h
    · rename_i d e
      obtain ⟨ds, ha, hk⟩ := AvOk.args (k := fun ds => k (d :: ds)) r h
      exact ⟨_, .io e hr ha, hk⟩
    · exact h.elim
theorem Args.len : ∀ {as vs ds fl}, Args K M env σ as vs ds fl → vs.length = fl.length ∧ ds.length = fl.length ∧ (iosOf as).length = lent fl
  | _, _, _, _, .nil => ⟨rfl, rfl, rfl⟩
  | _, _, _, _, .val _ r => by
    obtain ⟨a, b, c⟩ := r.len
    exact ⟨congrArg (· + 1) a, congrArg (· + 1) b, c⟩
  | _, _, _, _, .io _ _ r => by
    obtain ⟨a, b, c⟩ := r.len
    exact ⟨congrArg (· + 1) a, congrArg (· + 1) b, congrArg (· + 1) c⟩
theorem Args.lenE : ∀ {as vs ds fl}, Args K M env σ as vs ds fl → (envA fl ds).length = vs.length
  | _, _, _, _, .nil => rfl
  | _, _, _, _, .val _ r => congrArg (· + 1) r.lenE
  | _, _, _, _, .io _ _ r => congrArg (· + 1) r.lenE
/-- the j-th argument -/
theorem Args.at : ∀ {as vs ds fl} {j : Nat} {s : Slot}, Args K M env σ as vs ds fl → (envA fl ds)[j]? = some s →
    (∃ d v, s = .sh d ∧ vs[j]? = some v ∧ Rep K M v d) ∨ ∃ i d v, as[j]? = some (.io i) ∧ s = .own d ∧ vs[j]? = some v ∧ env[i]? = some (.own d) ∧ σ[i]? = some (some v)
  | _, _, _, _, _, _, .nil, h => by simp [envA] at h
  | _, _, _, _, 0, _, .val hr _, h => by
    simp [envA] at h; subst h
    exact .inl ⟨_, _, rfl, rfl, hr⟩
  | _, _, _, _, 0, _, .io e1 e2 _, h => by
    simp [envA] at h; subst h
    exact .inr ⟨_, _, _, rfl, rfl, rfl, e1, e2⟩
  | _, _, _, _, j + 1, _, .val _ r, h => by
    rcases r.at (j := j) (by simpa [envA] using h) with h | h
    · exact .inl (by simpa using h)
    · exact .inr (by simpa using h)
  | _, _, _, _, j + 1, _, .io _ _ r, h => by
    rcases r.at (j := j) (by simpa [envA] using h) with h | h
    · exact .inl (by simpa using h)
    · exact .inr (by simpa using h)
theorem Args.ioAt : ∀ {as vs ds fl} {j i : Nat}, Args K M env σ as vs ds fl → as[j]? = some (.io i) → ∃ d v, (envA fl ds)[j]? = some (.own d) ∧ vs[j]? = some v ∧ env[i]? = some (.own d) ∧ σ[i]? = some (some v)
  | _, _, _, _, _, _, .nil, h => by simp at h
  | _, _, _, _, 0, _, .val hr _, h => by simp at h
  | _, _, _, _, 0, _, .io e1 e2 _, h => by
    simp at h; subst h
    exact ⟨_, _, rfl, rfl, e1, e2⟩
  | _, _, _, _, j + 1, _, .val _ r, h => by
    obtain ⟨d, v, h⟩ := r.ioAt (j := j) (by simpa using h)
    exact ⟨d, v, by simpa [envA] using h⟩
  | _, _, _, _, j + 1, _, .io _ _ r, h => by
    obtain ⟨d, v, h⟩ := r.ioAt (j := j) (by simpa using h)
    exact ⟨d, v, by simpa [envA] using h⟩
theorem ios_mem : ∀ {as : List Av} {j i : Nat}, as[j]? = some (.io i) → i ∈ iosOf as
  | [], _, _, h => by simp at h
  | .val _ :: as, 0, _, h => by simp at h
  | .io _ :: as, 0, _, h => by simp at h; subst h; simp [iosOf]
  | .val _ :: as, j + 1, _, h => by
    have := ios_mem (as := as) (j := j) (by simpa using h)
    simpa [iosOf] using this
  | .io _ :: as, j + 1, _, h => by
    have := ios_mem (as := as) (j := j) (by simpa using h)
    simp [iosOf, this]
theorem mem_ios : ∀ {as : List Av} {i : Nat}, i ∈ iosOf as → ∃ j : Nat, as[j]? = some (.io i)
  | [], _, h => by simp [iosOf] at h
  | .val _ :: as, i, h => by
    obtain ⟨j, e⟩ := mem_ios (as := as) (by simpa [iosOf] using h)
    exact ⟨j + 1, by simpa using e⟩
  | .io k :: as, i, h => by
    simp only [iosOf, List.mem_cons] at h
    rcases h with rfl | h
    · exact ⟨0, rfl⟩
    · obtain ⟨j, e⟩ := mem_ios h
      exact ⟨j + 1, by simpa using e⟩
theorem ios_inj : ∀ {as : List Av} {j j' i : Nat}, (iosOf as).Nodup → as[j]? = some (.io i) → as[j']? = some (.io i) → j = j'
  | [], _, _, _, _, h, _ => by simp at h
  | .val _ :: as, 0, _, _, _, h, _ => by simp at h
  | .val _ :: as, _, 0, _, _, _, h => by simp at h
  | .val _ :: as, j + 1, j' + 1, i, n, h, h' => congrArg (· + 1) (ios_inj (as := as) (by simpa [iosOf] using n) (by simpa using h) (by simpa using h'))
  | .io _ :: as, 0, 0, _, _, _, _ => rfl
  | .io k :: as, 0, j' + 1, i, n, h, h' => by
    simp at h; subst h
    have := ios_mem (as := as) (by simpa using h')
    simp [iosOf] at n
    exact absurd this n.1
  | .io k :: as, j + 1, 0, i, n, h, h' => by
    simp at h'; subst h'
    have := ios_mem (as := as) (by simpa using h)
    simp [iosOf] at n
    exact absurd this n.1
  | .io k :: as, j + 1, j' + 1, i, n, h, h' => congrArg (· + 1) (ios_inj (as := as) (by simp [iosOf] at n; exact n.2) (by simpa using h) (by simpa using h'))
/-- the frame behind the call -/
theorem outs_out : ∀ {is : List Nat} {os : List D} {env : En} {i : Nat}, i ∉ is → (outs env is os)[i]? = env[i]?
  | [], _, _, _, _ => by simp [outs]
  | _ :: _, [], _, _, _ => by simp [outs]
  | k :: is, d :: os, env, i, h => by
    simp only [List.mem_cons, not_or] at h
    unfold outs
    rw [outs_out h.2, List.getElem?_set_ne (Ne.symm h.1)]
theorem outs_len : ∀ {is : List Nat} {os : List D} {env : En}, (outs env is os).length = env.length
  | [], _, _ => by simp [outs]
  | _ :: _, [], _ => by simp [outs]
  | k :: is, d :: os, env => by unfold outs; rw [outs_len]; simp
theorem outs_at : ∀ {as : List Av} {vs : List V} {ds : List D} {fl : List Bool} {os : List D} {env' : En} {j i : Nat}, Args K M env σ as vs ds fl → (iosOf as).Nodup → os.length = lent fl → as[j]? = some (.io i) → i < env'.length →
    ∃ d, (envO fl os)[j]? = some (.own d) ∧ (outs env' (iosOf as) os)[i]? = some (.own d)
  | _, _, _, _, _, _, _, _, .nil, _, _, h, _ => by simp at h
  | _, _, _, _, _, _, 0, _, .val _ _, _, _, h, _ => by simp at h
  | _, _, _, _, os, env', j + 1, i, .val _ r, n, l, h, hi => by
    obtain ⟨d, h1, h2⟩ := outs_at (j := j) (os := os) (env' := env') r (by simpa [iosOf] using n) (by simpa [lent] using l) (by simpa using h) hi
    exact ⟨d, by simpa [envO] using h1, h2⟩
  | _, _, _, _, [], _, _, _, .io _ _ _, _, l, _, _ => by simp [lent] at l
  | _, _, _, _, d :: os, env', 0, i, .io (i := k) _ _ r, n, l, h, hi => by
    simp at h; subst h
    simp [iosOf] at n
    refine ⟨d, rfl, ?_⟩
    unfold iosOf outs
    rw [outs_out n.1, List.getElem?_set_self hi]
  | _, _, _, _, d :: os, env', j + 1, i, .io (i := k) _ _ r, n, l, h, hi => by
    simp [iosOf] at n
    obtain ⟨d', h1, h2⟩ := outs_at (j := j) (os := os) (env' := env'.set k (.own d)) r n.2 (by simpa [lent] using l) (by simpa using h) (by simpa using hi)
    exact ⟨d', by simpa [envO] using h1, by unfold iosOf outs; exact h2⟩
theorem envO_at : ∀ {as : List Av} {vs : List V} {ds : List D} {fl : List Bool} {os : List D} {j : Nat} {s : Slot}, Args K M env σ as vs ds fl → (envO fl os)[j]? = some s → (isOwn s).isSome = true → ∃ i, as[j]? = some (.io i)
  | _, _, _, _, _, _, _, .nil, h, _ => by simp [envO] at h
  | _, _, _, _, _, 0, _, .val _ _, h, h' => by simp [envO] at h; subst h; simp [isOwn] at h'
  | _, _, _, _, os, j + 1, _, .val _ r, h, h' => by
    obtain ⟨i, e⟩ := envO_at (j := j) (os := os) r (by simpa [envO] using h) h'
    exact ⟨i, by simpa using e⟩
  | _, _, _, _, [], _, _, .io _ _ _, h, _ => by simp [envO] at h
  | _, _, _, _, d :: os, 0, _, .io _ _ _, h, h' => ⟨_, rfl⟩
  | _, _, _, _, d :: os, j + 1, _, .io _ _ r, h, h' => by
    obtain ⟨i, e⟩ := envO_at (j := j) (os := os) r (by simpa [envO] using h) h'
    exact ⟨i, by simpa using e⟩
end
theorem mask_congr {Z Z' : Addr → Prop} {H : Hp} (h : ∀ a, Z a ↔ Z' a) : mask Z H = mask Z' H := by
  have : Z = Z' := funext fun a => propext (h a)
  rw [this]
/-- THE CALL -/
theorem call_ok {K : PySem.W.Frag} {T : Addr → Prop} {env : En} {σ : L2.St} {H : Hp} {as : List Av} {vs : List V} {ds : List D} {fl : List Bool} {ct : Ct} {k : D → Bool → List D → Prop} {Q : VK} {E : XK}
    (ok : Ok K T env σ H) (ha : Args K (mask (hid T env σ) H) env σ as vs ds fl) (nd : (iosOf as).Nodup) (hc : ct ds k)
    (q : ∀ r fr os v H', Ok K T (outs env (iosOf as) os) σ H' → Step env σ H (outs env (iosOf as) os) σ H' → Res K T (outs env (iosOf as) os) σ (nw H) H' v r fr → k r fr os → Q v H') : spF K fl ct vs H Q E := by
  obtain ⟨l1, l2, l3⟩ := ha.len
  -- the lists that are lent
  let L : Addr → Prop := fun a => ∃ (j i : Nat), as[j]? = some (.io i) ∧ σ[i]? = some (some (.ref a))
  let T' : Addr → Prop := fun a => hid T env σ a ∧ ¬ L a
  have Lmut : ∀ a, L a → MA env σ a := fun a ⟨j, i, e1, e2⟩ => by
    obtain ⟨d, v, _, _, e3, e4⟩ := ha.ioAt e1
    exact ⟨i, d, e3, e2⟩
  have Lown : ∀ a, L a → OA env σ a := fun a z => (Lmut a z).oa
  have oaA : ∀ a, OA (envA fl ds) (vs.map some) a ↔ L a := fun a => by
    constructor
    · rintro ⟨j, ⟨s, e1, e2⟩, e3⟩
      rcases ha.at e1 with ⟨d, v, rfl, _⟩ | ⟨i, d, v, e4, rfl, e5, e6, e7⟩
      · simp [isOwn] at e2
      · rw [List.getElem?_map, e5] at e3
        simp at e3; subst e3
        exact ⟨j, i, e4, e7⟩
    · rintro ⟨j, i, e1, e2⟩
      obtain ⟨d, v, e3, e4, e5, e6⟩ := ha.ioAt e1
      rw [e2] at e6; cases e6
      exact ⟨j, ⟨_, e3, rfl⟩, by rw [List.getElem?_map, e4]; rfl⟩
  have hidA : ∀ a, hid T' (envA fl ds) (vs.map some) a ↔ hid T env σ a := fun a => by
    constructor
    · rintro (z | z)
      · exact z.1
      · exact .inr (Lown a ((oaA a).mp z))
    · intro z
      by_cases h : L a
      · exact .inr ((oaA a).mpr h)
      · exact .inl ⟨z, h⟩
  have okA : Ok K T' (envA fl ds) (vs.map some) H := by
    refine ⟨by rw [ha.lenE, List.length_map], fun j s e => ?_, fun j j' a x y => ?_, fun a x z => z.2 ((oaA a).mp x), fun a z n => ok.nohid n z.1⟩
    · rw [mask_congr hidA]
      rcases ha.at e with ⟨d, v, rfl, e2, r⟩ | ⟨i, d, v, e1, rfl, e2, e3, e4⟩
      · exact ⟨v, by rw [List.getElem?_map, e2]; rfl, r⟩
      · obtain ⟨a, e5, w⟩ := ok.own e3
        rw [e4] at e5; cases e5
        exact ⟨a, by rw [List.getElem?_map, e2]; rfl, w⟩
    · obtain ⟨⟨s, e1, e2⟩, e3⟩ := x
      obtain ⟨⟨s', f1, f2⟩, f3⟩ := y
      rcases ha.at e1 with ⟨d, v, rfl, _⟩ | ⟨i, d, v, e4, rfl, e5, e6, e7⟩
      · simp [isOwn] at e2
      · rcases ha.at f1 with ⟨d', v', rfl, _⟩ | ⟨i', d', v', f4, rfl, f5, f6, f7⟩
        · simp [isOwn] at f2
        · rw [List.getElem?_map, e5] at e3
          rw [List.getElem?_map, f5] at f3
          simp at e3 f3; subst e3 f3
          have := ok.inj i i' a ⟨⟨_, e6, rfl⟩, e7⟩ ⟨⟨_, f6, rfl⟩, f7⟩
          subst this
          exact ios_inj nd e4 f4
  refine ⟨T', ds, k, l1, l2, okA, hc, fun r fr os v H' lo okO st re hk => ?_⟩
  have oaO : ∀ a, OA (envO fl os) (vs.map some) a ↔ L a := fun a => by
    constructor
    · rintro ⟨j, ⟨s, e1, e2⟩, e3⟩
      obtain ⟨i, e4⟩ := envO_at ha e1 e2
      obtain ⟨d, v, _, e5, e6, e7⟩ := ha.ioAt e4
      rw [List.getElem?_map, e5] at e3
      simp at e3; subst e3
      exact ⟨j, i, e4, e7⟩
    · rintro ⟨j, i, e1, e2⟩
      obtain ⟨d, v, e3, e4, e5, e6⟩ := ha.ioAt e1
      rw [e2] at e6; cases e6
      obtain ⟨d', f1, f2⟩ := outs_at (os := os) (env' := env) ha nd lo e1 (List.getElem?_eq_some_iff.mp e5).1
      exact ⟨j, ⟨_, f1, rfl⟩, by rw [List.getElem?_map, e4]; rfl⟩
  -- own lists are the same
  have own1 : ∀ i a, OAt (outs env (iosOf as) os) σ i a ↔ OAt env σ i a := fun i a => by
    by_cases hi : i ∈ iosOf as
    · obtain ⟨j, e1⟩ := mem_ios hi
      obtain ⟨d, v, e3, e4, e5, e6⟩ := ha.ioAt e1
      obtain ⟨d', f1, f2⟩ := outs_at (os := os) (env' := env) ha nd lo e1 (List.getElem?_eq_some_iff.mp e5).1
      constructor
      · rintro ⟨_, z⟩; exact ⟨⟨_, e5, rfl⟩, z⟩
      · rintro ⟨_, z⟩; exact ⟨⟨_, f2, rfl⟩, z⟩
    · unfold OAt; rw [outs_out hi]
  have oaE : ∀ a, OA (outs env (iosOf as) os) σ a ↔ OA env σ a := fun a => ⟨fun ⟨i, z⟩ => ⟨i, (own1 i a).mp z⟩, fun ⟨i, z⟩ => ⟨i, (own1 i a).mpr z⟩⟩
  have hidE : ∀ a, hid T (outs env (iosOf as) os) σ a ↔ hid T env σ a := fun a => by rw [hid, oaE a]
  have hidO : ∀ a, hid T' (envO fl os) (vs.map some) a ↔ hid T (outs env (iosOf as) os) σ a := fun a => by
    rw [hidE a]
    constructor
    · rintro (z | z)
      · exact z.1
      · exact .inr (Lown a ((oaO a).mp z))
    · intro z
      by_cases h : L a
      · exact .inr ((oaO a).mpr h)
      · exact .inl ⟨z, h⟩
  -- what is seen stays seen
  have seen : Le (mask (hid T env σ) H) (mask (hid T (outs env (iosOf as) os) σ) H') := by
    have m := st.seen (T := T')
    rw [mask_congr hidA, mask_congr hidO] at m
    exact m
  have keepN : ∀ b o, H b = some o → ¬ L b → H' b = some o := fun b o e n => st.keep b o e fun z => n ((oaA b).mp z.oa)
  have okE : Ok K T (outs env (iosOf as) os) σ H' := by
    refine ⟨by rw [outs_len]; exact ok.len, fun i s e => ?_, fun i j a x y => ok.inj i j a ((own1 i a).mp x) ((own1 j a).mp y), fun a x => ok.dis a ((oaE a).mp x), fun a t n => ok.thr a t (st.al a n)⟩
    by_cases hi : i ∈ iosOf as
    · obtain ⟨j, e1⟩ := mem_ios hi
      obtain ⟨d, v, e3, e4, e5, e6⟩ := ha.ioAt e1
      obtain ⟨d', f1, f2⟩ := outs_at (os := os) (env' := env) ha nd lo e1 (List.getElem?_eq_some_iff.mp e5).1
      rw [f2] at e; cases e
      have z := okO.slot j _ f1
      rw [mask_congr hidO] at z
      obtain ⟨a, g1, g2⟩ := z
      rw [List.getElem?_map, e4] at g1
      simp at g1; subst g1
      exact ⟨a, e6, g2⟩
    · rw [outs_out hi] at e
      have z := ok.slot i s e
      have nl : ∀ a, σ[i]? = some (some (.ref a)) → (isOwn s).isSome = true → ¬ L a := fun a e1 e2 ⟨j, i', f1, f2⟩ => by
        obtain ⟨d, v, e3, e4, e5, e6⟩ := ha.ioAt f1
        have := ok.inj i i' a ⟨⟨_, e, e2⟩, e1⟩ ⟨⟨_, e5, rfl⟩, f2⟩
        subst this
        exact hi (ios_mem f1)
      cases s with
      | un => trivial
      | sh d => obtain ⟨x, e1, r⟩ := z; exact ⟨x, e1, r.mono seen⟩
      | own d => obtain ⟨x, e1, xs, ds', e2, e3, e4⟩ := z; exact ⟨x, e1, xs, ds', e2, keepN _ _ e3 (nl x e1 rfl), e4.mono seen⟩
      | lock d => obtain ⟨x, e1, xs, ds', e2, e3, e4⟩ := z; exact ⟨x, e1, xs, ds', e2, keepN _ _ e3 (nl x e1 rfl), e4.mono seen⟩
  have stE : Step env σ H (outs env (iosOf as) os) σ H' := by
    refine ⟨fun b o e n => keepN b o e fun z => n (Lmut b z), fun b z => .inl ((oaE b).mp z), fun b ⟨i, d, e1, e2⟩ => .inl ?_, st.al, fun i d e => ⟨?_, rfl⟩⟩
    · by_cases hi : i ∈ iosOf as
      · obtain ⟨j, e1⟩ := mem_ios hi
        exact Lmut b ⟨j, i, e1, e2⟩
      · rw [outs_out hi] at e1
        exact ⟨i, d, e1, e2⟩
    · by_cases hi : i ∈ iosOf as
      · obtain ⟨j, e1⟩ := mem_ios hi
        obtain ⟨d0, v, e3, e4, e5, e6⟩ := ha.ioAt e1
        obtain ⟨d', f1, f2⟩ := outs_at (os := os) (env' := env) ha nd lo e1 (List.getElem?_eq_some_iff.mp e5).1
        rw [f2] at e; cases e
      · rw [outs_out hi] at e
        exact e
  refine q r fr os v H' okE stE ?_ hk
  unfold Res at re ⊢
  cases fr with
  | false =>
    simp only [Bool.false_eq_true, if_false] at re ⊢
    rw [mask_congr hidO] at re
    exact re
  | true =>
    simp only [if_true] at re ⊢
    obtain ⟨p, xs, ds', e1, e2, e3, e4, e5, e6, e7⟩ := re
    have np : ¬ hid T env σ p := ok.nohid e3
    have okP : Ok K (fun a => T a ∨ a = p) (outs env (iosOf as) os) σ H' := by
      have hp : ∀ a, hid (fun a => T' a ∨ a = p) (envO fl os) (vs.map some) a ↔ hid (fun a => T a ∨ a = p) (outs env (iosOf as) os) σ a := fun a => by
        have := hidO a
        constructor
        · rintro ((z | z) | z)
          · rcases this.mp (.inl z) with z | z
            · exact .inl (.inl z)
            · exact .inr z
          · exact .inl (.inr z)
          · rcases this.mp (.inr z) with z | z
            · exact .inl (.inl z)
            · exact .inr z
        · rintro ((z | z) | z)
          · rcases this.mpr (.inl z) with z | z
            · exact .inl (.inl z)
            · exact .inr z
          · exact .inl (.inr z)
          · rcases this.mpr (.inr z) with z | z
            · exact .inl (.inl z)
            · exact .inr z
      have seenP : Le (mask (hid T env σ) H) (mask (hid (fun a => T a ∨ a = p) (outs env (iosOf as) os) σ) H') := mask_mono fun b o n e => by
        obtain ⟨n1, e1⟩ := mask_some.mp (seen b o (mask_some.mpr ⟨n, e⟩))
        refine ⟨?_, e1⟩
        rintro ((z | z) | z)
        · exact n1 (.inl z)
        · subst z; rw [e3] at e; cases e
        · exact n1 (.inr z)
      refine ⟨okE.len, fun i s e => ?_, okE.inj, fun a x => ?_, ?_⟩
      · by_cases hi : i ∈ iosOf as
        · obtain ⟨j, e1⟩ := mem_ios hi
          obtain ⟨d, v, e3, e4, e5, e6'⟩ := ha.ioAt e1
          obtain ⟨d', f1, f2⟩ := outs_at (os := os) (env' := env) ha nd lo e1 (List.getElem?_eq_some_iff.mp e5).1
          rw [f2] at e; cases e
          have z := e6.slot j _ f1
          rw [mask_congr hp] at z
          obtain ⟨a, g1, g2⟩ := z
          rw [List.getElem?_map, e4] at g1
          simp at g1; subst g1
          exact ⟨a, e6', g2⟩
        · have z0 := okE.slot i s e
          rw [outs_out hi] at e
          have z := ok.slot i s e
          cases s with
          | un => trivial
          | sh d => obtain ⟨x, e1, r⟩ := z; exact ⟨x, e1, r.mono seenP⟩
          | own d =>
            obtain ⟨x, e1, xs, ds', e2, e3, e4⟩ := z
            obtain ⟨x', e1', xs', ds2, e2', e3', e4'⟩ := z0
            rw [e1] at e1'; cases e1'
            refine ⟨x, e1, xs, ds', e2, ?_, e4.mono seenP⟩
            refine keepN _ _ e3 fun ⟨j, i', f1, f2⟩ => ?_
            obtain ⟨d, v, _, _, e5, _⟩ := ha.ioAt f1
            have := ok.inj i i' x ⟨⟨_, e, rfl⟩, e1⟩ ⟨⟨_, e5, rfl⟩, f2⟩
            subst this
            exact hi (ios_mem f1)
          | lock d =>
            obtain ⟨x, e1, xs, ds', e2, e3, e4⟩ := z
            refine ⟨x, e1, xs, ds', e2, ?_, e4.mono seenP⟩
            refine keepN _ _ e3 fun ⟨j, i', f1, f2⟩ => ?_
            obtain ⟨d, v, _, _, e5, _⟩ := ha.ioAt f1
            have := ok.inj i i' x ⟨⟨_, e, rfl⟩, e1⟩ ⟨⟨_, e5, rfl⟩, f2⟩
            subst this
            exact hi (ios_mem f1)
      · rintro (y | y)
        · exact okE.dis a x y
        · subst y; exact np (.inr ((oaE _).mp x))
      · rintro a (y | y)
        · exact okE.thr a y
        · subst y; rw [e5]; simp
    refine ⟨p, xs, ds', e1, e2, e3, fun z => np (.inl z), e5, okP, ?_⟩
    refine e7.mono (mask_sub fun b z => ?_)
    have := hidO b
    rcases z with (z | z) | z
    · rcases this.mpr (.inl z) with z | z
      · exact .inl (.inl z)
      · exact .inr z
    · exact .inl (.inr z)
    · rcases this.mpr (.inr z) with z | z
      · exact .inl (.inl z)
      · exact .inr z
/-! ### arguments as they are made -/
def tAs (K : PySem.W.Frag) (fl : List Bool) (w : En → (List Av → En → Prop) → Prop) : TA := fun σ H Q => ∃ T env k, Ok K T env σ H ∧ w env k ∧
  ∀ av env' vs H', Ok K T env' σ H' → Step env σ H env' σ H' → AvOk K (mask (hid T env' σ) H') σ av vs fl → k av env' → Q vs H'
section
variable {X : Cx} {pos : Pos} {a : Expr} {es : List Expr} {va : En → (D → Bool → En → Prop) → Prop} {we : En → (List Av → En → Prop) → Prop} {fl : List Bool}
theorem as_nil : PA X [] (tAs X.K [] fun env k => k [] env) := PA.imp pa_nil fun σ H Q ⟨T, env, k, ok, hw, q⟩ => q [] env [] H ok (Step.refl ..) .nil hw
theorem as_val (ha : PE X a (tE X.K va)) (hr : PA X es (tAs X.K fl we)) (hs : starEach (a :: es) X.env = (false, eval a X.env) :: starEach es X.env) :
    PA X (a :: es) (tAs X.K (false :: fl) fun env k => va env fun d _ e1 => we e1 fun av e2 => k (.val d :: av) e2) :=
  PA.imp (pa_cons ha hr hs) fun σ H Q ⟨T, env, k, ok, hw, q⟩ => ⟨T, env, _, ok, hw, fun d fr e1 v1 H1 ok1 st1 r1 h1 => ⟨T, e1, _, ok1, h1, fun ds e2 vs H2 ok2 st2 r2 h2 =>
    q _ _ _ _ ok2 (st1.trans st2) (.val ((r1.rep ok1).mono st2.seen) r2) h2⟩⟩
theorem as_io {i : Nat} (ha : PE X a (tVar i)) (hr : PA X es (tAs X.K fl we)) (hs : starEach (a :: es) X.env = (false, eval a X.env) :: starEach es X.env) :
    PA X (a :: es) (tAs X.K (true :: fl) fun env k => rdS env i fun _ => we env fun av e => k (.io i :: av) e) :=
  PA.imp (pa_cons ha hr hs) fun σ H Q ⟨T, env, k, ok, hw, q⟩ => by
    obtain ⟨v, e1⟩ := ok.has hw
    obtain ⟨d, _, hk⟩ := ok.read hw e1
    exact ⟨v, e1, T, env, _, ok, hk, fun av e2 vs H2 ok2 st2 r2 h2 => q _ _ _ _ ok2 st2 (.io e1 r2) h2⟩
theorem call_t {K : PySem.W.Frag} {ct : Ct} {σ : L2.St} {H : Hp} {Q : VK} {E : XK} (h : tE K (fun env k => we env fun av e => (iosOf av).Nodup ∧ argD e av fun ds => ct ds fun r fr os => k r fr (outs e (iosOf av) os)) σ H Q) :
    tCall (spF K fl ct) [] E (tAs K fl we) σ H Q := by
  obtain ⟨T, env, k, ok, hw, q⟩ := h
  refine ⟨T, env, _, ok, hw, fun av e1 vs H1 ok1 st1 r1 ⟨nd, h1⟩ => ?_⟩
  obtain ⟨ds, ha, hc⟩ := r1.args h1
  rw [List.append_nil]
  exact call_ok ok1 ha nd hc fun r fr os v H' ok' st re hk => q _ _ _ _ _ ok' (st1.trans st) (re.back st1.al) hk
end
end G

/-! G6: classes asked, targets, changes, walks, comprehensions -/
namespace G
open PySem PySem.Spec L2
open PyProof.Rows hiding St
/-! ### isinstance -/
def tyN : Ty → String
  | .int => "int" | .bool => "bool" | .str => "str" | .tuple => "tuple" | .list => "list" | .dict => "dict"
theorem tyx_of {K : PySem.W.Frag} {Z : Addr → Prop} {H : Hp} {v : V} {u : D} (t : Tr K (mask Z H) H v u) (ho : okTy u = true) : ∃ n, TyX K H v (.type n) ∧ ∀ c, kitB n (tyN c) = some (isTy c u) := by
  have lm : Le (mask Z H) H := mask_le Z H
  rcases t with t | ⟨a, xs, ds, rfl, rfl, h, _⟩
  · cases t with
    | non => exact ⟨_, .base .non, fun c => by cases c <;> decide +kernel⟩
    | bl b => exact ⟨_, .base (.bl b), fun c => by cases c <;> (show kitB _ _ = some _) <;> simp only [isTy, tyN] <;> decide +kernel⟩
    | int i => exact ⟨_, .base (.int i), fun c => by cases c <;> simp only [isTy, tyN] <;> decide +kernel⟩
    | str i => exact ⟨_, .base (.str i), fun c => by cases c <;> simp only [isTy, tyN] <;> decide +kernel⟩
    | lst h r => exact ⟨_, .base (.lst (lm _ _ h)), fun c => by cases c <;> simp only [isTy, tyN] <;> decide +kernel⟩
    | tup h r =>
      refine ⟨"tuple", ?_, fun c => by cases c <;> simp only [isTy, tyN] <;> decide +kernel⟩
      rcases sqT_mono lm h with (h | ⟨o, h⟩) | ⟨o, its, n, h, hc, _⟩
      · exact .base (.tup h)
      · exact .fTuple h
      · exact .kTuple h hc
    | dic h => exact ⟨_, .base (.dK (lm _ _ h)), fun c => by cases c <;> simp only [isTy, tyN] <;> decide +kernel⟩
    | scr h r => simp [okTy] at ho
  · exact ⟨_, .base (.lst h), fun c => by cases c <;> simp only [isTy, tyN] <;> decide +kernel⟩

section
variable {X : Cx} {pos : Pos} {a : Expr} {wa : En → (Od → En → Prop) → Prop}
theorem c_isi {t : Ty} {x tn : Str} {p q : Pos} (hg : Gl X x) (hx : x = ("isinstance" : Str)) (hm : X.mg x = none) (htg : Gl X tn) (htm : X.mg tn = none) (hv : bootBuiltins tn = some (.type (tyN t))) (hn : tn ≠ ("__name__" : Str)) (hd : (tn == ("__debug__" : Str)) = false)
    (ha : PE X a (tO X.K wa)) (hs : ∀ es, starEach (a :: es) X.env = (false, eval a X.env) :: starEach es X.env) :
    PE X (.Call (.Name x p) [a, .Name tn q] [] pos) (tE X.K fun env k => wa env fun x e1 => rd e1 x fun u => okTy u = true ∧ k (.bool (isTy t u)) false e1) := by
  subst hx
  have h2 : PE X (.Name tn q) (tC (.ty (tyN t))) := pe_bltn htg htm hv rfl hn hd
  refine PE.imp (pe_callB call_isi hg hm boot_isinstance (pa_cons ha (pa_cons h2 pa_nil) (hs _)) (he := hs _)) fun σ H Q ⟨T, env, k, ok, hw, q⟩ => ⟨T, env, _, ok, hw, fun o e1 v1 H1 ok1 st1 od1 h1 => ?_⟩
  obtain ⟨u, tu, ho, hk⟩ := od1.rd ok1 h1
  obtain ⟨n, ty, hb⟩ := tyx_of tu ho
  exact ⟨v1, _, _, _, _, rfl, .ty _, ty, kit_ty (hb t), q _ _ _ _ _ ok1 st1 (.of (.bl _)) hk⟩
end
/-! ### names stored -/
section
variable {K : PySem.W.Frag} {T F : Addr → Prop} {env e0 : En} {σ s0 : L2.St} {H H0 : Hp}
theorem setS {σ : L2.St} {i : Nat} {v : V} (h : i < σ.length) : (σ.set i (some v))[i]? = some (some v) := List.getElem?_set_self h
/-- a name takes a value -/
theorem Ok.put (ok : Ok K T env σ H) (st : Step e0 s0 H0 env σ H) {i : Nat} {v : V} {d : D} {fr : Bool} (hi : i < env.length) (r : Res K T env σ F H v d fr) (hF : ∀ p, F p → OA e0 s0 p ∧ MA e0 s0 p ∨ H0 p = none) :
    Ok K T (G.put env i d fr) (σ.set i (some v)) H ∧ Step e0 s0 H0 (G.put env i d fr) (σ.set i (some v)) H := by
  have hs : i < σ.length := by rw [← ok.len]; exact hi
  have sub : ∀ j a, j ≠ i → (OAt (G.put env i d fr) (σ.set i (some v)) j a ↔ OAt env σ j a) := fun j a n => by
    unfold OAt G.put; rw [List.getElem?_set_ne (Ne.symm n), List.getElem?_set_ne (Ne.symm n)]
  have subM : ∀ j d' a, j ≠ i → (G.put env i d fr)[j]? = some (.own d') → (σ.set i (some v))[j]? = some (some (.ref a)) → env[j]? = some (.own d') ∧ σ[j]? = some (some (.ref a)) := fun j d' a n h1 h2 => by
    unfold G.put at h1; rw [List.getElem?_set_ne (Ne.symm n)] at h1 h2; exact ⟨h1, h2⟩
  have at_i : (G.put env i d fr)[i]? = some (if fr = true then .own d else .sh d) := by unfold G.put; exact List.getElem?_set_self hi
  have lk : ∀ (j : Nat) (d' : D), (G.put env i d fr)[j]? = some (.lock d') → env[j]? = some (.lock d') ∧ (σ.set i (some v))[j]? = σ[j]? := fun j d' h => by
    by_cases n : j = i
    · subst n
      rw [at_i] at h
      cases fr <;> simp at h
    · unfold G.put at h; rw [List.getElem?_set_ne (Ne.symm n)] at h
      exact ⟨h, List.getElem?_set_ne (Ne.symm n)⟩
  cases fr with
  | false =>
    have r : Rep K (mask (hid T env σ) H) v d := r
    have none_i : ∀ a, ¬ OAt (G.put env i d false) (σ.set i (some v)) i a := fun a ⟨⟨s, e1, e2⟩, _⟩ => by
      rw [at_i] at e1; cases e1; simp [isOwn] at e2
    have oa : ∀ a, OA (G.put env i d false) (σ.set i (some v)) a → OA env σ a := fun a ⟨j, z⟩ => by
      by_cases n : j = i
      · subst n; exact absurd z (none_i a)
      · exact ⟨j, (sub j a n).mp z⟩
    have m : Le (mask (hid T env σ) H) (mask (hid T (G.put env i d false) (σ.set i (some v))) H) := mask_sub fun b z => z.elim .inl fun z => .inr (oa b z)
    refine ⟨⟨by unfold G.put; simp [ok.len], fun j s e => ?_, fun j j' a x y => ?_, fun a z => ok.dis a (oa a z), ok.thr⟩, ⟨st.keep, fun b z => st.new b (oa b z), fun b ⟨j, d', e1, e2⟩ => ?_, st.al, fun j d' h => ?_⟩⟩
    · by_cases n : j = i
      · subst n
        rw [at_i] at e; cases e
        exact ⟨v, setS hs, r.mono m⟩
      · unfold G.put at e; rw [List.getElem?_set_ne (Ne.symm n)] at e
        rw [List.getElem?_set_ne (Ne.symm n)]
        have z := ok.slot j s e
        cases s with
        | un => trivial
        | sh d => obtain ⟨x, e1, r⟩ := z; exact ⟨x, e1, r.mono m⟩
        | own d => obtain ⟨x, e1, xs, ds', e2, e3, e4⟩ := z; exact ⟨x, e1, xs, ds', e2, e3, e4.mono m⟩
        | lock d => obtain ⟨x, e1, xs, ds', e2, e3, e4⟩ := z; exact ⟨x, e1, xs, ds', e2, e3, e4.mono m⟩
    · by_cases n : j = i
      · subst n; exact absurd x (none_i a)
      · by_cases n' : j' = i
        · subst n'; exact absurd y (none_i a)
        · exact ok.inj j j' a ((sub j a n).mp x) ((sub j' a n').mp y)
    · by_cases n : j = i
      · subst n; rw [at_i] at e1; simp at e1
      · obtain ⟨h1, h2⟩ := subM j d' b n e1 e2
        exact st.newM b ⟨j, d', h1, h2⟩
    · obtain ⟨h1, h2⟩ := lk j d' h
      obtain ⟨h3, h4⟩ := st.lk j d' h1
      exact ⟨h3, h2.trans h4⟩
  | true =>
    obtain ⟨p, xs, ds, rfl, rfl, hf, nt, hp, okp, ra⟩ := r
    have npo : ¬ OA env σ p := fun z => okp.dis p z (.inr rfl)
    have oai : ∀ a, OAt (G.put env i (.list ds) true) (σ.set i (some (.ref p))) i a ↔ a = p := fun a => by
      constructor
      · rintro ⟨_, e⟩; rw [setS hs] at e; cases e; rfl
      · rintro rfl; exact ⟨⟨_, at_i, rfl⟩, setS hs⟩
    have oa : ∀ a, OA (G.put env i (.list ds) true) (σ.set i (some (.ref p))) a → OA env σ a ∨ a = p := fun a ⟨j, z⟩ => by
      by_cases n : j = i
      · subst n; exact .inr ((oai a).mp z)
      · exact .inl ⟨j, (sub j a n).mp z⟩
    have m : Le (mask (hid (fun a => T a ∨ a = p) env σ) H) (mask (hid T (G.put env i (.list ds) true) (σ.set i (some (.ref p)))) H) := mask_sub fun b z => by
      rcases z with z | z
      · exact .inl (.inl z)
      · rcases oa b z with z | z
        · exact .inr z
        · exact .inl (.inr z)
    refine ⟨⟨by unfold G.put; simp [ok.len], fun j s e => ?_, fun j j' a x y => ?_, fun a z => ?_, ok.thr⟩, ⟨st.keep, fun b z => ?_, fun b ⟨j, d', e1, e2⟩ => ?_, st.al, fun j d' h => ?_⟩⟩
    · by_cases n : j = i
      · subst n
        rw [at_i] at e; cases e
        exact ⟨p, setS hs, xs, ds, rfl, hp, ra.mono m⟩
      · unfold G.put at e; rw [List.getElem?_set_ne (Ne.symm n)] at e
        rw [List.getElem?_set_ne (Ne.symm n)]
        have z := okp.slot j s e
        cases s with
        | un => trivial
        | sh d => obtain ⟨x, e1, r⟩ := z; exact ⟨x, e1, r.mono m⟩
        | own d => obtain ⟨x, e1, xs, ds', e2, e3, e4⟩ := z; exact ⟨x, e1, xs, ds', e2, e3, e4.mono m⟩
        | lock d => obtain ⟨x, e1, xs, ds', e2, e3, e4⟩ := z; exact ⟨x, e1, xs, ds', e2, e3, e4.mono m⟩
    · by_cases n : j = i
      · subst n
        have := (oai a).mp x
        subst this
        by_cases n' : j' = j
        · exact n'.symm
        · exact absurd ⟨j', (sub j' _ n').mp y⟩ npo
      · by_cases n' : j' = i
        · subst n'
          have := (oai a).mp y
          subst this
          exact absurd ⟨j, (sub j _ n).mp x⟩ npo
        · exact ok.inj j j' a ((sub j a n).mp x) ((sub j' a n').mp y)
    · rcases oa a z with z | rfl
      · exact ok.dis a z
      · exact nt
    · rcases oa b z with z | rfl
      · exact st.new b z
      · rcases hF b hf with z | z
        · exact .inl z.1
        · exact .inr z
    · by_cases n : j = i
      · subst n
        rw [setS hs] at e2; cases e2
        rcases hF p hf with z | z
        · exact .inl z.2
        · exact .inr z
      · obtain ⟨h1, h2⟩ := subM j d' b n e1 e2
        exact st.newM b ⟨j, d', h1, h2⟩
    · obtain ⟨h1, h2⟩ := lk j d' h
      obtain ⟨h3, h4⟩ := st.lk j d' h1
      exact ⟨h3, h2.trans h4⟩
/-- an own list is changed -/
theorem Ok.mut (ok : Ok K T env σ H) {i : Nat} {k : List D → Prop} (h : isL env i k) : ∃ a xs ds, σ[i]? = some (some (.ref a)) ∧ H a = some (.lst xs) ∧ RepAll K (mask (hid T env σ) H) xs ds ∧ k ds ∧
    ∀ ys es, RepAll K (mask (hid T env σ) H) ys es → Ok K T (env.set i (.own (.list es))) σ (upd H a (.lst ys)) ∧ Step env σ H (env.set i (.own (.list es))) σ (upd H a (.lst ys)) := by
  unfold isL at h
  split at h
  · rename_i ds0 e
    obtain ⟨a, e1, xs, ds, e2, e3, e4⟩ := ok.own e
    cases e2
    refine ⟨a, xs, ds0, e1, e3, e4, h, fun ys es r => ?_⟩
    have ha : hid T env σ a := .inr ⟨i, Ok.oa e e1⟩
    have oat : ∀ j b, OAt (env.set i (.own (.list es))) σ j b ↔ OAt env σ j b := fun j b => by
      by_cases n : j = i
      · subst n
        constructor
        · rintro ⟨_, z⟩; exact ⟨⟨_, e, rfl⟩, z⟩
        · rintro ⟨_, z⟩; exact ⟨⟨_, getE_set_self e, rfl⟩, z⟩
      · unfold OAt; rw [List.getElem?_set_ne (Ne.symm n)]
    have oa : ∀ b, OA (env.set i (.own (.list es))) σ b ↔ OA env σ b := fun b => ⟨fun ⟨j, z⟩ => ⟨j, (oat j b).mp z⟩, fun ⟨j, z⟩ => ⟨j, (oat j b).mpr z⟩⟩
    have m : Le (mask (hid T env σ) H) (mask (hid T (env.set i (.own (.list es))) σ) (upd H a (.lst ys))) := mask_mono fun b o n hb => by
      refine ⟨fun z => n (z.elim .inl fun z => .inr ((oa b).mp z)), ?_⟩
      rw [upd_ne (show b ≠ a from fun z => by subst z; exact n ha)]
      exact hb
    have keepo : ∀ b o, b ≠ a → H b = some o → upd H a (.lst ys) b = some o := fun b o n hb => by rw [upd_ne n]; exact hb
    refine ⟨⟨by simp [ok.len], fun j s q => ?_, fun j j' b x y => ok.inj j j' b ((oat j b).mp x) ((oat j' b).mp y), fun b z => ok.dis b ((oa b).mp z), fun b z n => ?_⟩, ⟨fun b o hb n => keepo b o (fun z => by subst z; exact n ⟨i, _, e, e1⟩) hb, fun b z => .inl ((oa b).mp z), fun b ⟨j, d, f1, f2⟩ => .inl ?_, fun b hb => ?_, fun j d q => ⟨?_, rfl⟩⟩⟩
    · by_cases n : j = i
      · subst n
        rw [getE_set_self e] at q; cases q
        exact ⟨a, e1, ys, es, rfl, upd_same, r.mono m⟩
      · rw [List.getElem?_set_ne (Ne.symm n)] at q
        have z := ok.slot j s q
        have na : ∀ b, σ[j]? = some (some (.ref b)) → (isOwn s).isSome = true → b ≠ a := fun b f1 f2 z => by
          subst z
          exact n (ok.inj j i b ⟨⟨_, q, f2⟩, f1⟩ ⟨⟨_, e, rfl⟩, e1⟩)
        cases s with
        | un => trivial
        | sh d => obtain ⟨x, e1, r⟩ := z; exact ⟨x, e1, r.mono m⟩
        | own d => obtain ⟨x, e1, xs, ds', e2, e3, e4⟩ := z; exact ⟨x, e1, xs, ds', e2, keepo _ _ (na x e1 rfl) e3, e4.mono m⟩
        | lock d => obtain ⟨x, e1, xs, ds', e2, e3, e4⟩ := z; exact ⟨x, e1, xs, ds', e2, keepo _ _ (na x e1 rfl) e3, e4.mono m⟩
    · by_cases q : b = a
      · subst q; rw [upd_same] at n; cases n
      · rw [upd_ne q] at n; exact ok.thr b z n
    · by_cases n : j = i
      · subst n; exact ⟨j, _, e, f2⟩
      · rw [List.getElem?_set_ne (Ne.symm n)] at f1; exact ⟨j, d, f1, f2⟩
    · by_cases q : b = a
      · subst q; rw [upd_same] at hb; cases hb
      · rw [upd_ne q] at hb; exact hb
    · by_cases n : j = i
      · subst n; rw [getE_set_self e] at q; cases q
      · rw [List.getElem?_set_ne (Ne.symm n)] at q; exact q
  · exact h.elim
end
end G

/-! G7: walks, comprehensions -/
namespace G
open PySem PySem.Spec L2
open PyProof.Rows hiding St
/-- a step, locks left aside -/
structure Step0 (env : En) (σ : L2.St) (H : Hp) (env' : En) (σ' : L2.St) (H' : Hp) : Prop where
  keep : ∀ b o, H b = some o → ¬ MA env σ b → H' b = some o
  new : ∀ b, OA env' σ' b → OA env σ b ∨ H b = none
  newM : ∀ b, MA env' σ' b → MA env σ b ∨ H b = none
  al : ∀ b, H' b = none → H b = none
theorem Step.z {e1 e2 : En} {s1 s2 : L2.St} {H1 H2 : Hp} (a : Step e1 s1 H1 e2 s2 H2) : Step0 e1 s1 H1 e2 s2 H2 := ⟨a.keep, a.new, a.newM, a.al⟩
theorem Step0.trans {e1 e2 e3 : En} {s1 s2 s3 : L2.St} {H1 H2 H3 : Hp} (a : Step0 e1 s1 H1 e2 s2 H2) (b : Step0 e2 s2 H2 e3 s3 H3) : Step0 e1 s1 H1 e3 s3 H3 := by
  refine ⟨fun x o h n => b.keep x o (a.keep x o h n) fun z => ?_, fun x z => ?_, fun x z => ?_, fun x h => a.al x (b.al x h)⟩
  · rcases a.newM x z with z | z
    · exact n z
    · rw [h] at z; cases z
  · rcases b.new x z with z | z
    · exact a.new x z
    · exact .inr (a.al x z)
  · rcases b.newM x z with z | z
    · exact a.newM x z
    · exact .inr (a.al x z)
theorem Step0.seen {T : Addr → Prop} {e1 e2 : En} {s1 s2 : L2.St} {H1 H2 : Hp} (a : Step0 e1 s1 H1 e2 s2 H2) : Le (mask (hid T e1 s1) H1) (mask (hid T e2 s2) H2) := mask_mono fun b o n h => by
  have n1 : ¬ OA e1 s1 b := fun z => n (.inr z)
  refine ⟨?_, a.keep b o h fun z => n1 z.oa⟩
  rintro (z | z)
  · exact n (.inl z)
  · rcases a.new b z with z | z
    · exact n1 z
    · rw [h] at z; cases z
section
variable {K : PySem.W.Frag} {T : Addr → Prop} {env env' : En} {σ σ' : L2.St} {H H' : Hp}
/-- the slots at vs are exchanged, nothing of the frame's own among them -/
theorem Ok.reslot (ok : Ok K T env σ H) (vs : List Nat) (l1 : env'.length = env.length) (l2 : σ'.length = σ.length) (same : ∀ j : Nat, j ∉ vs → env'[j]? = env[j]? ∧ σ'[j]? = σ[j]?)
    (f1 : ∀ v ∈ vs, freeS env v = true) (f2 : ∀ v ∈ vs, ∀ s, env'[v]? = some s → SlotOk K (mask (hid T env σ) H) H s σ'[v]? ∧ isOwn s = none) :
    Ok K T env' σ' H ∧ Step env σ H env' σ' H ∧ (∀ a, hid T env' σ' a ↔ hid T env σ a) := by
  have free : ∀ v ∈ vs, ∀ s, env[v]? = some s → isOwn s = none := fun v hv s e => by
    have := f1 v hv
    unfold freeS at this
    rw [e] at this
    cases s <;> first | rfl | simp at this
  have oat : ∀ j a, OAt env' σ' j a ↔ OAt env σ j a := fun j a => by
    by_cases hj : j ∈ vs
    · constructor
      · rintro ⟨⟨s, e1, e2⟩, _⟩; rw [(f2 j hj s e1).2] at e2; simp at e2
      · rintro ⟨⟨s, e1, e2⟩, _⟩; rw [free j hj s e1] at e2; simp at e2
    · unfold OAt; rw [(same j hj).1, (same j hj).2]
  have oa : ∀ a, OA env' σ' a ↔ OA env σ a := fun a => ⟨fun ⟨j, z⟩ => ⟨j, (oat j a).mp z⟩, fun ⟨j, z⟩ => ⟨j, (oat j a).mpr z⟩⟩
  have hh : ∀ a, hid T env' σ' a ↔ hid T env σ a := fun a => by rw [hid, oa a]
  refine ⟨⟨by rw [l1, l2]; exact ok.len, fun j s e => ?_, fun i j a x y => ok.inj i j a ((oat i a).mp x) ((oat j a).mp y), fun a x => ok.dis a ((oa a).mp x), ok.thr⟩,
    ⟨fun _ _ h _ => h, fun b z => .inl ((oa b).mp z), fun b ⟨j, d, e1, e2⟩ => .inl ?_, fun _ h => h, fun j d e => ?_⟩, hh⟩
  · rw [mask_congr hh]
    by_cases hj : j ∈ vs
    · exact (f2 j hj s e).1
    · rw [(same j hj).1] at e
      rw [(same j hj).2]
      exact ok.slot j s e
  · by_cases hj : j ∈ vs
    · have := (f2 j hj _ e1).2
      simp [isOwn] at this
    · rw [(same j hj).1] at e1; rw [(same j hj).2] at e2
      exact ⟨j, d, e1, e2⟩
  · by_cases hj : j ∈ vs
    · have := (f2 j hj _ e).2
      simp [isOwn] at this
    · rw [(same j hj).1] at e
      exact ⟨e, (same j hj).2⟩
theorem wipeE_len : ∀ (vs : List Nat) (env : En), (wipeE env vs).length = env.length
  | [], _ => rfl
  | v :: vs, env => by unfold wipeE; rw [List.length_set, wipeE_len vs]
theorem wipeE_out : ∀ {vs : List Nat} {env : En} {j : Nat}, j ∉ vs → (wipeE env vs)[j]? = env[j]?
  | [], _, _, _ => rfl
  | v :: vs, env, j, h => by
    simp only [List.mem_cons, not_or] at h
    unfold wipeE
    rw [List.getElem?_set_ne (Ne.symm h.1), wipeE_out h.2]
theorem wipeE_in : ∀ {vs : List Nat} {env : En} {j : Nat} {s : Slot}, j ∈ vs → (wipeE env vs)[j]? = some s → s = .un
  | [], _, _, _, h, _ => by simp at h
  | v :: vs, env, j, s, h, e => by
    unfold wipeE at e
    by_cases n : v = j
    · subst n
      have hl : v < (wipeE env vs).length := by
        have := (List.getElem?_eq_some_iff.mp e).1
        simpa using this
      rw [List.getElem?_set_self hl] at e; cases e; rfl
    · rw [List.getElem?_set_ne n] at e
      simp only [List.mem_cons] at h
      exact wipeE_in (h.resolve_left fun z => n z.symm) e
theorem wipe_out' {vs : List Nat} {σ : L2.St} {j : Nat} (h : j ∉ vs) : (wipe σ vs)[j]? = σ[j]? := wipe_out h
theorem Ok.wiped (ok : Ok K T env σ H) {vs : List Nat} (f : (vs.all fun v => freeS env v) = true) :
    Ok K T (wipeE env vs) (wipe σ vs) H ∧ Step env σ H (wipeE env vs) (wipe σ vs) H ∧ ∀ a, hid T (wipeE env vs) (wipe σ vs) a ↔ hid T env σ a :=
  ok.reslot vs (wipeE_len vs env) (wipe_length σ vs) (fun j h => ⟨wipeE_out h, wipe_out h⟩) (List.all_eq_true.mp f) fun v hv s e => by
    cases wipeE_in hv e
    exact ⟨trivial, rfl⟩
theorem restore_len : ∀ (vs : List Nat) (old env : En), (restore old vs env).length = env.length
  | [], _, _ => rfl
  | v :: vs, old, env => by unfold restore; rw [List.length_set, restore_len vs]
theorem restore_out : ∀ {vs : List Nat} {old env : En} {j : Nat}, j ∉ vs → (restore old vs env)[j]? = env[j]?
  | [], _, _, _, _ => rfl
  | v :: vs, old, env, j, h => by
    simp only [List.mem_cons, not_or] at h
    unfold restore
    rw [List.getElem?_set_ne (Ne.symm h.1), restore_out h.2]
theorem restore_in : ∀ {vs : List Nat} {old env : En} {j : Nat} {s : Slot}, j ∈ vs → (restore old vs env)[j]? = some s → s = old[j]?.getD .un
  | [], _, _, _, _, h, _ => by simp at h
  | v :: vs, old, env, j, s, h, e => by
    unfold restore at e
    by_cases n : v = j
    · subst n
      have hl : v < (restore old vs env).length := by
        have := (List.getElem?_eq_some_iff.mp e).1
        simpa using this
      rw [List.getElem?_set_self hl] at e; cases e; rfl
    · rw [List.getElem?_set_ne n] at e
      simp only [List.mem_cons] at h
      exact restore_in (h.resolve_left fun z => n z.symm) e
end
/-! ### what is walked -/
inductive Src (K : PySem.W.Frag) (M H : Hp) (mu : Addr → Prop) : L2.It → List D → Prop
  | lst {a vs xs} : H a = some (.lst vs) → ¬ mu a → RepAll K M vs xs → Src K M H mu (Itl K a) xs
  | scr {a vs xs} : SqL K M a vs → RepAll K M vs xs → Src K M H mu (Itl K a) xs
  | tup {a vs xs} : SqT K M a vs → RepAll K M vs xs → Src K M H mu (Itt K a) xs
  | rng (lo : Int) (n : Nat) : Src K M H mu (Itr lo n) (rngD lo n)
  | enum {a vs xs} : H a = some (.lst vs) → ¬ mu a → RepAll K M vs xs → Src K M H mu (Ite K a) (enumD 0 xs)
theorem Src.step {K : PySem.W.Frag} {T : Addr → Prop} {e1 e2 : En} {s1 s2 : L2.St} {H1 H2 : Hp} {J : L2.It} {xs : List D} (st : Step0 e1 s1 H1 e2 s2 H2) (h : Src K (mask (hid T e1 s1) H1) H1 (MA e1 s1) J xs) :
    Src K (mask (hid T e2 s2) H2) H2 (MA e2 s2) J xs := by
  have m := st.seen (T := T)
  cases h with
  | lst h n r => exact .lst (st.keep _ _ h n) (fun z => (st.newM _ z).elim n fun q => by rw [h] at q; cases q) (r.mono m)
  | scr h r => exact .scr (sqL_mono m h) (r.mono m)
  | tup h r => exact .tup (sqT_mono m h) (r.mono m)
  | rng => exact .rng _ _
  | enum h n r => exact .enum (st.keep _ _ h n) (fun z => (st.newM _ z).elim n fun q => by rw [h] at q; cases q) (r.mono m)
theorem enumD_get : ∀ (xs : List D) (n : Int) (i : Nat), (enumD n xs)[i]? = (xs[i]?).map fun x => .tuple [.int (n + (i : Nat)), x]
  | [], _, _ => by simp [enumD]
  | x :: xs, n, 0 => by simp [enumD]
  | x :: xs, n, i + 1 => by
    simp only [enumD, List.getElem?_cons_succ]
    rw [enumD_get xs (n + 1) i]
    have : n + 1 + (i : Int) = n + ((i + 1 : Nat) : Int) := by omega
    rw [this]
theorem enumD_len : ∀ (xs : List D) (n : Int), (enumD n xs).length = xs.length
  | [], _ => rfl
  | x :: xs, n => by simp [enumD, enumD_len xs]
theorem Src.go {K : PySem.W.Frag} {Z : Addr → Prop} {H : Hp} {mu : Addr → Prop} {J : L2.It} {xs : List D} (hz : ∀ a, Z a → H a ≠ none) (h : Src K (mask Z H) H mu J xs) {i : Nat} {x : D} (e : xs[i]? = some x) :
    J.go i H ∧ ∀ v H', J.yld i H v H' → Le H H' ∧ Rep K (mask Z H') v x := by
  have lm : Le (mask Z H) H := mask_le Z H
  cases h with
  | lst h n r =>
    obtain ⟨w, e1, e2⟩ := r.get e
    refine ⟨⟨_, w, .inl (.inl h), e1⟩, fun v H' ⟨q1, q2⟩ => ?_⟩
    subst q1
    have := q2 _ (.inl (.inl h))
    rw [e1] at this; cases this
    exact ⟨Le.refl _, e2⟩
  | scr h r =>
    obtain ⟨w, e1, e2⟩ := r.get e
    refine ⟨⟨_, w, sqL_mono lm h, e1⟩, fun v H' ⟨q1, q2⟩ => ?_⟩
    subst q1
    have := q2 _ (sqL_mono lm h)
    rw [e1] at this; cases this
    exact ⟨Le.refl _, e2⟩
  | tup h r =>
    obtain ⟨w, e1, e2⟩ := r.get e
    refine ⟨⟨_, w, sqT_mono lm h, e1⟩, fun v H' ⟨q1, q2⟩ => ?_⟩
    subst q1
    have := q2 _ (sqT_mono lm h)
    rw [e1] at this; cases this
    exact ⟨Le.refl _, e2⟩
  | rng lo n =>
    unfold rngD at e
    rw [List.getElem?_map] at e
    by_cases hi : i < n
    · rw [List.getElem?_range hi] at e
      simp at e; subst e
      refine ⟨hi, fun v H' ⟨q1, q2⟩ => ?_⟩
      subst q1 q2
      exact ⟨Le.refl _, .int _⟩
    · rw [List.getElem?_eq_none (by simpa using hi)] at e; simp at e
  | @enum a vs ys h n r =>
    rw [enumD_get] at e
    cases q : ys[i]? with
    | none => rw [q] at e; simp at e
    | some y =>
      rw [q] at e
      simp at e; subst e
      obtain ⟨w, e1, e2⟩ := r.get q
      refine ⟨⟨_, w, .inl (.inl h), e1⟩, fun v H' ⟨p, x, q1, q2, q3, q4⟩ => ?_⟩
      subst q1 q3
      have := q4 _ (.inl (.inl h))
      rw [e1] at this; cases this
      refine ⟨upd_le q2, .tup (.inl (.inl (mask_some.mpr ⟨fun z => hz p z q2, upd_same⟩))) (.cons (.int _) (.cons (e2.mono (mask_ext (upd_le q2))) .nil))⟩
theorem Src.stop {K : PySem.W.Frag} {M H : Hp} {mu : Addr → Prop} {J : L2.It} {xs : List D} (lm : Le M H) (h : Src K M H mu J xs) {i : Nat} (e : xs.length ≤ i) : J.stop i H := by
  cases h with
  | lst h n r => exact ⟨_, .inl (.inl h), by rw [r.length]; exact e⟩
  | scr h r => exact ⟨_, sqL_mono lm h, by rw [r.length]; exact e⟩
  | tup h r => exact ⟨_, sqT_mono lm h, by rw [r.length]; exact e⟩
  | rng lo n => exact (by simpa [rngD] using e : n ≤ i)
  | enum h n r => exact ⟨_, .inl (.inl h), by rw [r.length]; simpa [enumD_len] using e⟩
/-- what undoes the lock -/
def FinOk (K : PySem.W.Frag) (env : En) (σ : L2.St) (H : Hp) (env' : En) (H' : Hp) (fin : En → En) : Prop :=
  ∀ (T : Addr → Prop) env2 σ2 H2, Ok K T env2 σ2 H2 → Step env' σ H' env2 σ2 H2 → Ok K T (fin env2) σ2 H2 ∧ Step env σ H (fin env2) σ2 H2 ∧ ∀ a, hid T (fin env2) σ2 a ↔ hid T env2 σ2 a
def tI (K : PySem.W.Frag) (w : En → (List D → En → (En → En) → Prop) → Prop) : TI := fun σ H R => ∃ T env k, Ok K T env σ H ∧ w env k ∧
  ∀ xs env' fin J H', Ok K T env' σ H' → Step0 env σ H env' σ H' → Src K (mask (hid T env' σ) H') H' (MA env' σ) J xs → FinOk K env σ H env' H' fin → k xs env' fin → R J H'
theorem FinOk.id {K : PySem.W.Frag} {env env' : En} {σ : L2.St} {H H' : Hp} (st : Step env σ H env' σ H') : FinOk K env σ H env' H' id := fun T e2 s2 H2 ok st2 => ⟨ok, st.trans st2, fun _ => Iff.rfl⟩
section
variable {K : PySem.W.Frag} {T : Addr → Prop} {env : En} {σ : L2.St} {H : Hp}
/-- an own list that is walked is locked meanwhile -/
theorem Ok.locked (ok : Ok K T env σ H) (o : Od) : Ok K T (lockE env o) σ H ∧ Step0 env σ H (lockE env o) σ H ∧ (∀ a, hid T (lockE env o) σ a ↔ hid T env σ a) ∧
    (∀ i, o = .late i → ∀ a, MA (lockE env o) σ a → ∀ d, σ[i]? = some (some (.ref a)) → env[i]? ≠ some (.own d)) ∧ ∀ e0 H0, Step e0 σ H0 env σ H → FinOk K e0 σ H0 (lockE env o) H (unlockE (lockB env o) o) := by
  have triv : lockE env o = env → lockB env o = false → (∀ i d, o = .late i → env[i]? ≠ some (.own d)) → Ok K T (lockE env o) σ H ∧ Step0 env σ H (lockE env o) σ H ∧ (∀ a, hid T (lockE env o) σ a ↔ hid T env σ a) ∧
    (∀ i, o = .late i → ∀ a, MA (lockE env o) σ a → ∀ d, σ[i]? = some (some (.ref a)) → env[i]? ≠ some (.own d)) ∧ ∀ e0 H0, Step e0 σ H0 env σ H → FinOk K e0 σ H0 (lockE env o) H (unlockE (lockB env o) o) := fun h1 h2 h3 => by
    rw [h1, h2]
    have e : unlockE false o = id := by funext x; cases o <;> rfl
    rw [e]
    exact ⟨ok, (Step.refl ..).z, fun _ => Iff.rfl, fun i hi a _ d _ => h3 i d hi, fun e0 H0 st => FinOk.id st⟩
  cases o with
  | val d => exact triv rfl rfl fun i d h => by cases h
  | late i =>
    cases q : env[i]? with
    | none => exact triv (by simp [lockE, q]) (by simp [lockB, q]) fun j d h => by cases h; rw [q]; simp
    | some s =>
      cases s with
      | un => exact triv (by simp [lockE, q]) (by simp [lockB, q]) fun j d h => by cases h; rw [q]; simp
      | sh d => exact triv (by simp [lockE, q]) (by simp [lockB, q]) fun j d h => by cases h; rw [q]; simp
      | lock d => exact triv (by simp [lockE, q]) (by simp [lockB, q]) fun j d h => by cases h; rw [q]; simp
      | own d =>
        have e1 : lockE env (.late i) = env.set i (.lock d) := by simp [lockE, q]
        have e2 : lockB env (.late i) = true := by simp [lockB, q]
        rw [e1, e2]
        obtain ⟨a0, ea, _⟩ := ok.own q
        have gself : (env.set i (.lock d))[i]? = some (.lock d) := getE_set_self q
        have oat : ∀ j a, OAt (env.set i (.lock d)) σ j a ↔ OAt env σ j a := fun j a => by
          by_cases n : j = i
          · subst n
            exact ⟨fun ⟨_, z⟩ => ⟨⟨_, q, rfl⟩, z⟩, fun ⟨_, z⟩ => ⟨⟨_, gself, rfl⟩, z⟩⟩
          · unfold OAt; rw [List.getElem?_set_ne (Ne.symm n)]
        have oa : ∀ a, OA (env.set i (.lock d)) σ a ↔ OA env σ a := fun a => ⟨fun ⟨j, z⟩ => ⟨j, (oat j a).mp z⟩, fun ⟨j, z⟩ => ⟨j, (oat j a).mpr z⟩⟩
        have hh : ∀ a, hid T (env.set i (.lock d)) σ a ↔ hid T env σ a := fun a => by rw [hid, oa a]
        have ma : ∀ a, MA (env.set i (.lock d)) σ a → MA env σ a ∧ a ≠ a0 := fun a ⟨j, d', f1, f2⟩ => by
          by_cases n : j = i
          · subst n; rw [gself] at f1; cases f1
          · rw [List.getElem?_set_ne (Ne.symm n)] at f1
            refine ⟨⟨j, d', f1, f2⟩, fun z => ?_⟩
            subst z
            exact n (ok.inj j i _ ⟨⟨_, f1, rfl⟩, f2⟩ ⟨⟨_, q, rfl⟩, ea⟩)
        refine ⟨⟨by simp [ok.len], fun j s e => ?_, fun i j a x y => ok.inj i j a ((oat i a).mp x) ((oat j a).mp y), fun a x => ok.dis a ((oa a).mp x), ok.thr⟩,
          ⟨fun _ _ h _ => h, fun b z => .inl ((oa b).mp z), fun b z => .inl (ma b z).1, fun _ h => h⟩, hh, fun j hj a z d' e3 e4 => ?_, fun e0 H0 st T2 env2 σ2 H2 ok2 st2 => ?_⟩
        · rw [mask_congr hh]
          by_cases n : j = i
          · subst n; rw [gself] at e; cases e
            have z := ok.slot j _ q
            exact z
          · rw [List.getElem?_set_ne (Ne.symm n)] at e
            exact ok.slot j s e
        · cases hj
          rw [ea] at e3; cases e3
          exact (ma _ z).2 rfl
        · -- behind the walk
          cases q2 : env2[i]? with
          | none => 
            have e3 : unlockE true (.late i) env2 = env2 := by simp [unlockE, q2]
            rw [e3]
            have stl : Step (env.set i (.lock d)) σ H env2 σ2 H2 := st2
            refine ⟨ok2, ⟨fun b o h n => st2.keep b o (st.keep b o h n) fun z => ?_, fun b z => ?_, fun b z => ?_, fun b h => st.al b (st2.al b h), fun j d' e => ?_⟩, fun _ => Iff.rfl⟩
            · rcases st.newM b (ma b z).1 with z | z
              · exact n z
              · rw [h] at z; cases z
            · rcases st2.new b z with z | z
              · exact st.new b ((oa b).mp z)
              · exact .inr (st.al b z)
            · rcases st2.newM b z with z | z
              · exact st.newM b (ma b z).1
              · exact .inr (st.al b z)
            · obtain ⟨g1, g2⟩ := st2.lk j d' e
              by_cases n : j = i
              · subst n; rw [q2] at e; cases e
              · rw [List.getElem?_set_ne (Ne.symm n)] at g1
                obtain ⟨g3, g4⟩ := st.lk j d' g1
                exact ⟨g3, g2.trans g4⟩
          | some s2 =>
            by_cases hl : ∃ d2, s2 = .lock d2
            · obtain ⟨d2, rfl⟩ := hl
              have e3 : unlockE true (.late i) env2 = env2.set i (.own d2) := by simp [unlockE, q2]
              rw [e3]
              obtain ⟨k1, k2⟩ := st2.lk i d2 q2
              rw [gself] at k1
              have hd : d = d2 := by cases k1; rfl
              subst hd
              have es2 : σ2[i]? = some (some (.ref a0)) := k2.trans ea
              have g2self : (env2.set i (.own d))[i]? = some (.own d) := getE_set_self q2
              have oat2 : ∀ j a, OAt (env2.set i (.own d)) σ2 j a ↔ OAt env2 σ2 j a := fun j a => by
                by_cases n : j = i
                · subst n
                  exact ⟨fun ⟨_, z⟩ => ⟨⟨_, q2, rfl⟩, z⟩, fun ⟨_, z⟩ => ⟨⟨_, g2self, rfl⟩, z⟩⟩
                · unfold OAt; rw [List.getElem?_set_ne (Ne.symm n)]
              have oa2 : ∀ a, OA (env2.set i (.own d)) σ2 a ↔ OA env2 σ2 a := fun a => ⟨fun ⟨j, z⟩ => ⟨j, (oat2 j a).mp z⟩, fun ⟨j, z⟩ => ⟨j, (oat2 j a).mpr z⟩⟩
              have hh2 : ∀ a, hid T2 (env2.set i (.own d)) σ2 a ↔ hid T2 env2 σ2 a := fun a => by rw [hid, oa2 a]
              refine ⟨⟨by simp [ok2.len], fun j s e => ?_, fun i j a x y => ok2.inj i j a ((oat2 i a).mp x) ((oat2 j a).mp y), fun a x => ok2.dis a ((oa2 a).mp x), ok2.thr⟩,
                ⟨fun b o h n => st2.keep b o (st.keep b o h n) fun z => ?_, fun b z => ?_, fun b ⟨j, d', f1, f2⟩ => ?_, fun b h => st.al b (st2.al b h), fun j d' e => ?_⟩, hh2⟩
              · rw [mask_congr hh2]
                by_cases n : j = i
                · subst n; rw [g2self] at e; cases e
                  have z := ok2.slot j _ q2
                  exact z
                · rw [List.getElem?_set_ne (Ne.symm n)] at e
                  exact ok2.slot j s e
              · rcases st.newM b (ma b z).1 with z | z
                · exact n z
                · rw [h] at z; cases z
              · rcases st2.new b ((oa2 b).mp z) with z | z
                · exact st.new b ((oa b).mp z)
                · exact .inr (st.al b z)
              · by_cases n : j = i
                · subst n
                  rw [es2] at f2; cases f2
                  exact st.newM _ ⟨j, d, q, ea⟩
                · rw [List.getElem?_set_ne (Ne.symm n)] at f1
                  rcases st2.newM b ⟨j, d', f1, f2⟩ with z | z
                  · exact st.newM b (ma b z).1
                  · exact .inr (st.al b z)
              · by_cases n : j = i
                · subst n; rw [g2self] at e; cases e
                · rw [List.getElem?_set_ne (Ne.symm n)] at e
                  obtain ⟨g1, g2⟩ := st2.lk j d' e
                  rw [List.getElem?_set_ne (Ne.symm n)] at g1
                  obtain ⟨g3, g4⟩ := st.lk j d' g1
                  exact ⟨g3, g2.trans g4⟩
            · have e3 : unlockE true (.late i) env2 = env2 := by
                cases s2 <;> first | exact absurd ⟨_, rfl⟩ hl | simp [unlockE, q2]
              rw [e3]
              refine ⟨ok2, ⟨fun b o h n => st2.keep b o (st.keep b o h n) fun z => ?_, fun b z => ?_, fun b z => ?_, fun b h => st.al b (st2.al b h), fun j d' e => ?_⟩, fun _ => Iff.rfl⟩
              · rcases st.newM b (ma b z).1 with z | z
                · exact n z
                · rw [h] at z; cases z
              · rcases st2.new b z with z | z
                · exact st.new b ((oa b).mp z)
                · exact .inr (st.al b z)
              · rcases st2.newM b z with z | z
                · exact st.newM b (ma b z).1
                · exact .inr (st.al b z)
              · obtain ⟨g1, g2⟩ := st2.lk j d' e
                by_cases n : j = i
                · subst n; rw [q2] at e; cases e; exact absurd ⟨_, rfl⟩ hl
                · rw [List.getElem?_set_ne (Ne.symm n)] at g1
                  obtain ⟨g3, g4⟩ := st.lk j d' g1
                  exact ⟨g3, g2.trans g4⟩
/-- a list at an operand, walked -/
theorem Ok.src (ok : Ok K T env σ H) {o : Od} {v : V} {xs : List D} (od : OdOk K (mask (hid T env σ) H) σ o v) (r : rd env o fun u => u = .list xs) :
    ∃ a, v = .ref a ∧ (∃ vs, H a = some (.lst vs) ∧ ¬ MA (lockE env o) σ a ∧ RepAll K (mask (hid T (lockE env o) σ) H) vs xs) := by
  obtain ⟨_, _, hh, hm, _⟩ := ok.locked o
  rw [mask_congr hh]
  have visible : ∀ a vs, mask (hid T env σ) H a = some (.lst vs) → ¬ MA (lockE env o) σ a := fun a vs h z => by
    have n := (mask_some.mp h).1
    rcases (ok.locked o).2.1.newM a z with z | z
    · exact n (.inr z.oa)
    · rw [(mask_some.mp h).2] at z; cases z
  cases o with
  | val d =>
    have e : d = .list xs := r
    subst e
    cases (show Rep K _ v (.list xs) from od) with
    | lst h ra => exact ⟨_, rfl, _, (mask_some.mp h).2, visible _ _ h, ra⟩
  | late i =>
    have od : σ[i]? = some (some v) := od
    have r : rdS env i fun u => u = .list xs := r
    unfold rdS at r
    cases q : env[i]? with
    | none => rw [q] at r; exact r.elim
    | some s =>
      rw [q] at r
      have z := ok.slot i s q
      cases s with
      | un => exact r.elim
      | sh d =>
        have e : d = .list xs := r
        subst e
        obtain ⟨x, e1, rp⟩ := z
        rw [od] at e1; cases e1
        cases rp with
        | lst h ra => exact ⟨_, rfl, _, (mask_some.mp h).2, visible _ _ h, ra⟩
      | own d =>
        have e : d = .list xs := r
        subst e
        obtain ⟨a, e1, ys, ds, e2, e3, e4⟩ := z
        rw [od] at e1; cases e1
        cases e2
        exact ⟨a, rfl, ys, e3, fun z => hm i rfl a z _ od q, e4⟩
      | lock d =>
        have e : d = .list xs := r
        subst e
        obtain ⟨a, e1, ys, ds, e2, e3, e4⟩ := z
        rw [od] at e1; cases e1
        cases e2
        refine ⟨a, rfl, ys, e3, fun z => ?_, e4⟩
        have e5 : lockE env (.late i) = env := by simp [lockE, q]
        rw [e5] at z
        obtain ⟨j, d', f1, f2⟩ := z
        have := ok.inj j i a ⟨⟨_, f1, rfl⟩, f2⟩ ⟨⟨_, q, rfl⟩, od⟩
        subst this
        rw [q] at f1; cases f1
end
end G

/-! G8: targets, walked things, comprehensions -/
namespace G
open PySem PySem.Spec L2
open PyProof.Rows hiding St
/-! ### targets: vs are the slots that may be stored -/
def keepO (vs : List Nat) (σ σ' : L2.St) : Prop := σ'.length = σ.length ∧ ∀ j : Nat, j ∉ vs → σ'[j]? = σ[j]?
theorem keepO.refl (vs : List Nat) (σ : L2.St) : keepO vs σ σ := ⟨rfl, fun _ _ => rfl⟩
theorem keepO.trans {vs : List Nat} {a b c : L2.St} (h : keepO vs a b) (h' : keepO vs b c) : keepO vs a c := ⟨h'.1.trans h.1, fun j n => (h'.2 j n).trans (h.2 j n)⟩
def tG (K : PySem.W.Frag) (vs : List Nat) (w : D → En → (En → Prop) → Prop) : TG := fun v σ H Q => ∃ T env d k, Ok K T env σ H ∧ Rep K (mask (hid T env σ) H) v d ∧ w d env k ∧
  ∀ env' σ', Ok K T env' σ' H → Step env σ H env' σ' H → keepO vs σ σ' → k env' → Q σ' H
def tGs (K : PySem.W.Frag) (vs : List Nat) (w : List D → En → (En → Prop) → Prop) : TGs := fun xs σ H Q => ∃ T env ds k, Ok K T env σ H ∧ RepAll K (mask (hid T env σ) H) xs ds ∧ w ds env k ∧
  ∀ env' σ', Ok K T env' σ' H → Step env σ H env' σ' H → keepO vs σ σ' → k env' → Q σ' H
theorem PG.imp {X : Cx} {e : Expr} {t t' : TG} (h : PG X e t) (i : ∀ v σ H Q, t' v σ H Q → t v σ H Q) : PG X e t' := ⟨fun pins s σ H v u Q I r q => h.run pins s σ H v u Q I r (i v σ H Q q)⟩
theorem PG.impL {X : Cx} {e : Expr} {t t' : TG} (h : PG X e t) (i : ∀ v σ H Q, σ.length = X.N.length → t' v σ H Q → t v σ H Q) : PG X e t' := ⟨fun pins s σ H v u Q I r q => h.run pins s σ H v u Q I r (i v σ H Q I.len q)⟩
theorem PGs.imp {X : Cx} {e : List Expr} {t t' : TGs} (h : PGs X e t) (i : ∀ v σ H Q, t' v σ H Q → t v σ H Q) : PGs X e t' := ⟨fun pins s σ H v u Q I r q => h.run pins s σ H v u Q I r (i v σ H Q q)⟩
section
variable {X : Cx} {pos : Pos} {vs : List Nat}
theorem g_nm {i : Nat} {x : Str} (hN : X.N.Nodup) (hi : X.N[i]? = some x) (hx : Loc X.env.scope x) (hf : X.fn x = true ∨ X.env.scope.names.lookup x = some .local) (hv : i ∈ vs) :
    PG X (.Name x pos) (tG X.K vs fun d env k => k (put env i d false)) :=
  PG.impL (pg_name hN hi hx hf) fun v σ H Q hl ⟨T, env, d, k, ok, r, hw, q⟩ => by
    have hl : i < env.length := by rw [ok.len, hl]; exact (List.getElem?_eq_some_iff.mp hi).1
    obtain ⟨ok', st'⟩ := ok.put (F := fun _ => False) (fr := false) (Step.refl ..) hl r fun _ z => z.elim
    refine q _ _ ok' st' ⟨by simp, fun j n => ?_⟩ hw
    exact List.getElem?_set_ne (show i ≠ j from fun z => by subst z; exact n hv)
theorem gs_nil : PGs X [] (tGs X.K vs fun ds env k => ds = [] ∧ k env) :=
  PGs.imp pgs_nil fun xs σ H Q ⟨T, env, ds, k, ok, r, ⟨e, hw⟩, q⟩ => by
    subst e
    cases r
    exact ⟨rfl, q env σ ok (Step.refl ..) (.refl ..) hw⟩
theorem gs_cons {e : Expr} {es : List Expr} {w : D → En → (En → Prop) → Prop} {ws : List D → En → (En → Prop) → Prop} (h1 : PG X e (tG X.K vs w)) (h2 : PGs X es (tGs X.K vs ws))
    (hs : (assignEach (e :: es) X.env).map (·.2) = assign e X.env :: (assignEach es X.env).map (·.2)) :
    PGs X (e :: es) (tGs X.K vs fun ds env k => ∃ y ys, ds = y :: ys ∧ w y env fun e => ws ys e k) :=
  PGs.imp (pgs_cons h1 h2 hs) fun xs σ H Q ⟨T, env, ds, k, ok, r, ⟨y, ys, e, hw⟩, q⟩ => by
    subst e
    cases r with
    | cons r1 r2 =>
      refine ⟨_, _, rfl, T, env, y, _, ok, r1, hw, fun env' σ' ok' st' ko' hk => ⟨T, env', ys, _, ok', r2.mono st'.seen, hk, fun env2 σ2 ok2 st2 ko2 hk2 => q env2 σ2 ok2 (st'.trans st2) (ko'.trans ko2) hk2⟩⟩
theorem g_tup {es : List Expr} {k : Nat} {ws : List D → En → (En → Prop) → Prop} (hc : X.calm = true) (h : PGs X es (tGs X.K vs ws)) (hn : (assignEach es X.env).length = es.length) (hst : (assignEach es X.env).findIdx? (·.1) = none) :
    PG X (.Tuple es k pos) (tG X.K vs fun d env k => ∃ xs, d = .tuple xs ∧ xs.length = es.length ∧ ws xs env k) :=
  PG.imp (pg_tup hc h hn hst) fun v σ H Q ⟨T, env, d, k, ok, r, ⟨xs, e, el, hw⟩, q⟩ => by
    subst e
    cases r with
    | tup hS ra => exact ⟨_, _, rfl, sqT_mono (mask_le _ _) hS, ra.length.trans el, T, env, xs, k, ok, ra, hw, q⟩
end
/-! ### what is walked -/
theorem PI.imp {X : Cx} {tg e : Expr} {t t' : TI} (h : PI X tg e t) (i : ∀ σ H Q, t' σ H Q → t σ H Q) : PI X tg e t' := ⟨fun pins s σ H Q I q => h.run pins s σ H Q I (i σ H Q q)⟩
section
variable {X : Cx} {tg : Expr}
/-- a list or a tuple, as it comes -/
theorem pi_seq {l : Expr} {tl : TE} (hl : PE X l tl) : PI X tg l (fun σ H R => tl σ H fun x H1 => ∃ a, x = .ref a ∧ ((∃ xs, SqL X.K H1 a xs) ∧ R (Itl X.K a) H1 ∨ (∃ xs, SqT X.K H1 a xs) ∧ R (Itt X.K a) H1)) := by
  refine ⟨fun pins s σ H R I h => ?_⟩
  refine thn (hl.run pins s σ H _ I h) fun v s1 ⟨x, H1, I1, r1, q1⟩ => ?_
  obtain ⟨a, e, q⟩ := q1
  subst e
  cases r1
  rcases q with ⟨⟨xs, hq⟩, q⟩ | ⟨⟨xs, hq⟩, q⟩
  · obtain ⟨its, rv, p, hz⟩ := I1.list hq
    refine wpAny_pyIter_list p.isList ?_
    refine ⟨s1.heap.objs.size, [s1.heap.objs.size], _, _, H1, rfl, I1.kept (t' := s1.toks) fun b o e => Heap.get?_push_of_some _ e, turn_list a _, ⟨_, Heap.get?_push_size _ rfl, rfl, rfl⟩, fun b hb => ?_, q⟩
    have e : b = s1.heap.objs.size := by simpa using hb
    subst e
    exact I1.fpOk (Nat.le_refl _) (I1.hok.fresh (Nat.le_refl _))
  · obtain ⟨its, rv, p, hz⟩ := I1.tuple hq
    refine wpAny_pyIter_tuple (show s1.heap.IsTuple a its.toArray from p) ?_
    refine ⟨s1.heap.objs.size, [s1.heap.objs.size], _, _, H1, rfl, I1.kept (t' := s1.toks) fun b o e => Heap.get?_push_of_some _ e, turn_tuple a _, ⟨_, Heap.get?_push_size _ rfl, rfl, rfl⟩, fun b hb => ?_, q⟩
    have e : b = s1.heap.objs.size := by simpa using hb
    subst e
    exact I1.fpOk (Nat.le_refl _) (I1.hok.fresh (Nat.le_refl _))
variable {a b : Expr} {wa wb : En → (Od → En → Prop) → Prop}
theorem rd_eq {env : En} {x : Od} {k : D → Prop} (h : rd env x k) : ∃ d, (rd env x fun u => u = d) ∧ k d := by
  cases x with
  | val d => exact ⟨d, rfl, h⟩
  | late i =>
    have h : rdS env i k := h
    unfold rdS at h
    cases q : env[i]? with
    | none => rw [q] at h; exact h.elim
    | some s =>
      rw [q] at h
      have e : ∀ d, s.get (fun u => u = d) → rd env (.late i) fun u => u = d := fun d z => by
        show rdS _ _ _; unfold rdS; rw [q]; exact z
      cases s with
      | un => exact h.elim
      | sh d => exact ⟨d, e d rfl, h⟩
      | own d => exact ⟨d, e d rfl, h⟩
      | lock d => exact ⟨d, e d rfl, h⟩
theorem i_of (ha : PE X a (tO X.K wa)) : PI X tg a (tI X.K fun env k => wa env fun x e1 => rd e1 x fun u => items u fun xs => k xs (lockE e1 x) (unlockE (lockB e1 x) x)) :=
  PI.imp (pi_seq ha) fun σ H R ⟨T, env, k, ok, hw, q⟩ => ⟨T, env, _, ok, hw, fun o e1 v1 H1 ok1 st1 od1 h1 => by
    obtain ⟨okl, st0, hh, hm, fin⟩ := ok1.locked o
    obtain ⟨u, hu, hk⟩ := rd_eq h1
    have go := fun xs J hs hk => q xs (lockE e1 o) (unlockE (lockB e1 o) o) J H1 okl (st1.z.trans st0) hs (fin env H st1) hk
    obtain ⟨u', tu, e⟩ := od1.rd ok1 hu
    subst e
    have lm : Le (mask (hid T e1 σ) H1) H1 := mask_le _ _
    unfold items at hk
    split at hk
    · obtain ⟨a', rfl, vs, hA, hn, ra⟩ := ok1.src od1 hu
      exact ⟨a', rfl, .inl ⟨⟨_, .inl (.inl hA)⟩, go _ _ (.lst hA hn ra) hk⟩⟩
    · obtain ⟨a', xs, rfl, hA, ra⟩ := tu.tup lm
      have gx := tu.rep (by intro _ h; cases h)
      cases gx with
      | tup hS ra =>
        refine ⟨a', rfl, .inr ⟨⟨_, hA⟩, go _ _ (.tup ?_ (ra.mono ?_)) hk⟩⟩
        · rw [mask_congr hh]; exact hS
        · rw [mask_congr hh]; exact Le.refl _
    · exact hk.elim⟩
theorem i_rng {p pos : Pos} (hg : Gl X "range") (hm : X.mg "range" = none) (ha : PE X a (tO X.K wa)) (hs : starEach [a] X.env = [(false, eval a X.env)]) :
    PI X tg (.Call (.Name "range" p) [a] [] pos) (tI X.K fun env k => wa env fun x e1 => rd e1 x fun u => ∃ n : Int, u = .int n ∧ n < 2 ^ 62 ∧ -(2 ^ 62) ≤ n ∧ k (rngD 0 n.toNat) e1 id) :=
  PI.imp (pi_range1 hg hm (pa_cons ha pa_nil hs) hs) fun σ H R ⟨T, env, k, ok, hw, q⟩ => ⟨T, env, _, ok, hw, fun o e1 v1 H1 ok1 st1 od1 h1 => by
    obtain ⟨u, tu, n, rfl, h2, h3, hk⟩ := od1.rd ok1 h1
    exact ⟨n, by rw [tu.int], h3, h2, q _ _ _ _ _ ok1 st1.z (.rng _ _) (.id st1) hk⟩⟩
theorem i_rng2 {p pos : Pos} (hg : Gl X "range") (hm : X.mg "range" = none) (ha : PE X a (tO X.K wa)) (hb : PE X b (tO X.K wb)) (hs : starEach [a, b] X.env = [(false, eval a X.env), (false, eval b X.env)]) (hs2 : starEach [b] X.env = [(false, eval b X.env)]) :
    PI X tg (.Call (.Name "range" p) [a, b] [] pos) (tI X.K fun env k => wa env fun x e1 => wb e1 fun y e2 => rd e2 x fun u => rd e2 y fun v => ∃ m n : Int, u = .int m ∧ v = .int n ∧
      (-(2 ^ 62) ≤ m ∧ m < 2 ^ 62 ∧ -(2 ^ 62) ≤ n ∧ n < 2 ^ 62) ∧ k (rngD m (n - m).toNat) e2 id) :=
  PI.imp (pi_range2 hg hm (pa_cons ha (pa_cons hb pa_nil hs2) (by rw [hs, hs2])) hs hs2) fun σ H R ⟨T, env, k, ok, hw, q⟩ => ⟨T, env, _, ok, hw, fun o e1 v1 H1 ok1 st1 od1 h1 => ⟨T, e1, _, ok1, h1, fun o2 e2 v2 H2 ok2 st2 od2 h2 => by
    obtain ⟨u, tu, h3⟩ := (od1.mono st2.seen).rd ok2 h2
    obtain ⟨v, tv, m, n, rfl, rfl, h4, hk⟩ := od2.rd ok2 h3
    have st := st1.trans st2
    exact ⟨m, n, by rw [tu.int, tv.int], h4, q _ _ _ _ _ ok2 st.z (.rng _ _) (.id st) hk⟩⟩⟩
theorem i_enum {p pos tpos : Pos} {elts : List Expr} {kk : Nat} (hg : Gl X "enumerate") (hm : X.mg "enumerate" = none) (ha : PE X a (tO X.K wa)) (hs : starEach [a] X.env = [(false, eval a X.env)]) :
    PI X (.Tuple elts kk tpos) (.Call (.Name "enumerate" p) [a] [] pos) (tI X.K fun env k => wa env fun x e1 => rd e1 x fun u => ∃ xs, u = .list xs ∧ k (enumD 0 xs) (lockE e1 x) (unlockE (lockB e1 x) x)) :=
  PI.imp (pi_enum hg hm (pa_cons ha pa_nil hs) hs) fun σ H R ⟨T, env, k, ok, hw, q⟩ => ⟨T, env, _, ok, hw, fun o e1 v1 H1 ok1 st1 od1 h1 => by
    obtain ⟨okl, st0, hh, hm, fin⟩ := ok1.locked o
    obtain ⟨u, hu, xs, e, hk⟩ := rd_eq h1
    subst e
    obtain ⟨a', rfl, vs, hA, hn, ra⟩ := ok1.src od1 hu
    exact ⟨a', vs, rfl, .inl (.inl hA), q _ _ _ _ _ okl (st1.z.trans st0) (.enum hA hn ra) (fin env H st1) hk⟩⟩
end
/-! ### comprehensions -/
theorem PTs.imp {X : Cx} {ifs : List Expr} {t t' : TT} (h : PTs X ifs t) (i : ∀ σ H Q, t' σ H Q → t σ H Q) : PTs X ifs t' := ⟨fun pins s σ H Q I q => h.run pins s σ H Q I (i σ H Q q)⟩
section
variable {X : Cx}
theorem ts_nil : PTs X [] (tT X.K fun env k => k true env) := PTs.imp pts_nil fun σ H Q ⟨T, env, k, ok, hw, q⟩ => q true env H ok (Step.refl ..) hw
theorem ts_one {c : Expr} {w : En → (Bool → En → Prop) → Prop} (h : PT X c (tT X.K w)) : PTs X [c] (tT X.K w) := pts_one h
end
section
variable {K : PySem.W.Frag} {T : Addr → Prop} {env e1 : En} {σ s1 : L2.St} {H H1 : Hp}
/-- a hidden object is exchanged -/
theorem Ok.updT (ok : Ok K T env σ H) {p : Addr} (hp : T p) (o : HO) : Ok K T env σ (upd H p o) ∧ mask (hid T env σ) (upd H p o) = mask (hid T env σ) H := by
  have em : mask (hid T env σ) (upd H p o) = mask (hid T env σ) H := by
    funext b
    unfold mask
    by_cases h : hid T env σ b
    · rw [if_pos h, if_pos h]
    · rw [if_neg h, if_neg h, upd_ne]
      rintro rfl
      exact h (.inl hp)
  refine ⟨⟨ok.len, fun i s e => ?_, ok.inj, ok.dis, fun a t n => ?_⟩, em⟩
  · rw [em]
    have z := ok.slot i s e
    have ne : ∀ a, σ[i]? = some (some (.ref a)) → (isOwn s).isSome = true → a ≠ p := fun a f1 f2 q => by
      subst q
      exact ok.dis a ⟨i, ⟨_, e, f2⟩, f1⟩ hp
    cases s with
    | un => trivial
    | sh d => exact z
    | own d => obtain ⟨x, e1, xs, ds, e2, e3, e4⟩ := z; exact ⟨x, e1, xs, ds, e2, by rw [upd_ne (ne x e1 rfl)]; exact e3, e4⟩
    | lock d => obtain ⟨x, e1, xs, ds, e2, e3, e4⟩ := z; exact ⟨x, e1, xs, ds, e2, by rw [upd_ne (ne x e1 rfl)]; exact e3, e4⟩
  · by_cases q : a = p
    · subst q; rw [upd_same] at n; cases n
    · rw [upd_ne q] at n; exact ok.thr a t n
theorem Step.updN (st : Step e1 s1 H1 env σ H) {p : Addr} (hp : H1 p = none) (o : HO) : Step e1 s1 H1 env σ (upd H p o) :=
  ⟨fun b x h n => by rw [upd_ne (show b ≠ p from fun z => by subst z; rw [hp] at h; cases h)]; exact st.keep b x h n, st.new, st.newM, fun b h => by
    by_cases q : b = p
    · subst q; exact hp
    · rw [upd_ne q] at h; exact st.al b h, st.lk⟩
theorem Ok.unhide {p : Addr} (ok : Ok K (fun a => T a ∨ a = p) env σ H) : Ok K T env σ H := by
  have m : Le (mask (hid (fun a => T a ∨ a = p) env σ) H) (mask (hid T env σ) H) := mask_sub fun b z => z.elim (fun z => .inl (.inl z)) .inr
  refine ⟨ok.len, fun i s e => ?_, ok.inj, fun a z t => ok.dis a z (.inl t), fun a t => ok.thr a (.inl t)⟩
  have z := ok.slot i s e
  cases s with
  | un => trivial
  | sh d => obtain ⟨x, e1, r⟩ := z; exact ⟨x, e1, r.mono m⟩
  | own d => obtain ⟨x, e1, xs, ds, e2, e3, e4⟩ := z; exact ⟨x, e1, xs, ds, e2, e3, e4.mono m⟩
  | lock d => obtain ⟨x, e1, xs, ds, e2, e3, e4⟩ := z; exact ⟨x, e1, xs, ds, e2, e3, e4.mono m⟩
end
theorem wipe_wipe {σ σ2 : L2.St} {vs : List Nat} (h : keepO vs (wipe σ vs) σ2) : wipe σ2 vs = wipe σ vs := by
  have none_in : ∀ (vs : List Nat) (σ : L2.St) (j : Nat), j ∈ vs → j < σ.length → (wipe σ vs)[j]? = some none := by
    intro vs
    induction vs with
    | nil => intro σ j h; simp at h
    | cons v vs ih =>
      intro σ j h hl
      unfold wipe
      by_cases n : v = j
      · subst n
        rw [List.getElem?_set_self (by rw [wipe_length]; exact hl)]
      · rw [List.getElem?_set_ne n]
        simp only [List.mem_cons] at h
        exact ih σ j (h.resolve_left fun z => n z.symm) hl
  apply List.ext_getElem?
  intro j
  have l2 : σ2.length = σ.length := by rw [h.1, wipe_length]
  by_cases hj : j ∈ vs
  · by_cases hl : j < σ.length
    · rw [none_in vs σ2 j hj (by omega), none_in vs σ j hj hl]
    · rw [List.getElem?_eq_none (by rw [wipe_length]; omega), List.getElem?_eq_none (by rw [wipe_length]; omega)]
  · rw [wipe_out hj, h.2 j hj]
theorem compD_free {vs : List Nat} {tg} {cond} {elt} {xs acc : List D} {env : En} {k : List D → En → Prop} (h : compD vs tg cond elt xs acc env k) : (vs.all fun v => freeS env v) = true := by
  cases xs with
  | nil => exact h.1
  | cons x xs => exact h.1
/-- [elt for tg in it if cond] -/
theorem comp_ok {K : PySem.W.Frag} {vs : List Nat} {wi : En → (List D → En → (En → En) → Prop) → Prop} {wg : D → En → (En → Prop) → Prop} {wc : En → (Bool → En → Prop) → Prop} {we : En → (D → Bool → En → Prop) → Prop} {σ : L2.St} {H : Hp} {Q : VK}
    (h : tE K (fun env k => (vs.all fun v => freeS env v) = true ∧ wi env fun xs e1 fin => xs.length ≤ sizeLine ∧ compD vs wg wc we xs [] e1 fun ys e2 => k (.list ys) true (fin (restore env vs e2))) σ H Q) :
    tLc (tI K wi) (tG K vs wg) (tT K wc) (tE K we) vs σ H Q := by
  obtain ⟨T, env, k, ok, ⟨hfree, hw⟩, q⟩ := h
  refine ⟨T, env, _, ok, hw, fun xs e1 fin J H1 ok1 st01 src hfin ⟨hsz, hcomp⟩ D hD => ?_⟩
  -- the start
  let T' : Addr → Prop := fun a => T a ∨ a = D
  have ok1' : Ok K T' e1 σ (upd H1 D (.lst [])) := ok1.hide (upd_le hD) hD (by rw [upd_same]; simp)
  obtain ⟨okw, stw, hhw⟩ := ok1'.wiped (compD_free hcomp)
  have st1w : Step e1 σ H1 (wipeE e1 vs) (wipe σ vs) (upd H1 D (.lst [])) := (Step.ext (upd_le hD)).trans stw
  have srcM : ∀ {env2 : En} {σ2 : L2.St} {H2 : Hp}, Step e1 σ H1 env2 σ2 H2 → H2 D ≠ none → Ok K T' env2 σ2 H2 → Src K (mask (hid T' env2 σ2) H2) H2 (MA env2 σ2) J xs := fun {env2 σ2 H2} st nd ok2 => by
    -- D is no part of what is walked
    have s' := src.step (st.z)
    have hd : ∀ b o, mask (hid T e1 σ) H1 b = some o → mask (hid T' env2 σ2) H2 b = some o := fun b o z => by
      obtain ⟨n, e⟩ := mask_some.mp z
      obtain ⟨n2, e2⟩ := mask_some.mp (st.seen (T := T) b o z)
      refine mask_some.mpr ⟨?_, e2⟩
      rintro ((z | z) | z)
      · exact n2 (.inl z)
      · subst z; rw [hD] at e; cases e
      · exact n2 (.inr z)
    cases src with
    | lst h n r => exact .lst (st.keep _ _ h n) (fun z => (st.newM _ z).elim n fun q => by rw [h] at q; cases q) (r.mono hd)
    | scr h r => exact .scr (sqL_mono hd h) (r.mono hd)
    | tup h r => exact .tup (sqT_mono hd h) (r.mono hd)
    | rng => exact .rng _ _
    | enum h n r => exact .enum (st.keep _ _ h n) (fun z => (st.newM _ z).elim n fun q => by rw [h] at q; cases q) (r.mono hd)
  refine ⟨fun i m H2 => m = xs.length - i ∧ i ≤ xs.length ∧ ∃ ei accV accD, Ok K T' (wipeE ei vs) (wipe σ vs) H2 ∧ Step e1 σ H1 (wipeE ei vs) (wipe σ vs) H2 ∧ H2 D = some (.lst accV) ∧ accV.length ≤ i ∧
      RepAll K (mask (hid T' (wipeE ei vs) (wipe σ vs)) H2) accV accD ∧ ei.length = e1.length ∧ (∀ j : Nat, j ∉ vs → (wipeE ei vs)[j]? = ei[j]?) ∧
      compD vs wg wc we (xs.drop i) accD ei fun ys e2 => k (.list ys) true (fin (restore env vs e2)),
    ⟨xs.length, by simp, Nat.zero_le _, e1, [], [], okw, st1w, upd_same, Nat.zero_le _, .nil, rfl, fun j h => wipeE_out h, by simpa using hcomp⟩, ?_⟩
  rintro i m H2 ⟨rfl, hi, ei, accV, accD, ok2, st2, hd2, hl2, r2, len2, out2, hc⟩
  have lm : Le (mask (hid T' (wipeE ei vs) (wipe σ vs)) H2) H2 := mask_le _ _
  have src2 := srcM st2 (by rw [hd2]; simp) ok2
  by_cases hlt : i < xs.length
  · refine .inr ?_
    have ex : xs[i]? = some xs[i] := List.getElem?_eq_getElem hlt
    obtain ⟨go, yl⟩ := src2.go (fun a z n => ok2.nohid n z) ex
    refine ⟨go, _, fun H' w => ⟨xs.length - (i + 1), by omega, w⟩, fun v H' y => ?_⟩
    obtain ⟨le', rv⟩ := yl v H' y
    have ok2' := ok2.ext le'
    have st2' : Step e1 σ H1 (wipeE ei vs) (wipe σ vs) H' := st2.trans (Step.ext le')
    rw [List.drop_eq_getElem_cons hlt] at hc
    obtain ⟨_, hc⟩ := hc
    refine ⟨T', wipeE ei vs, xs[i], _, ok2', rv, hc, fun e3 σ3 ok3 st3 ko3 h3 => ⟨wipe_wipe ko3, T', e3, _, ok3, h3, fun b e4 H4 ok4 st4 h4 => ?_⟩⟩
    have stA : Step e1 σ H1 e4 σ3 H4 := (st2'.trans st3).trans st4
    have hD' : H' D = some (.lst accV) := le' _ _ hd2
    have nmaD : ∀ {e s h}, Ok K T' e s h → ¬ MA e s D := fun o z => o.dis D z.oa (.inr rfl)
    have hD4 : H4 D = some (.lst accV) := st4.keep _ _ (st3.keep _ _ hD' (nmaD ok2')) (nmaD ok3)
    have r4 : RepAll K (mask (hid T' e4 σ3) H4) accV accD := ((r2.mono (mask_ext le')).mono st3.seen).mono st4.seen
    have len4 : e4.length = e1.length := by rw [ok4.len, ko3.1, wipe_length, ← ok1.len]
    cases b with
    | true =>
      simp only [if_true] at h4 ⊢
      refine ⟨T', e4, _, ok4, h4, fun y fr e5 v5 H5 ok5 st5 r5 h5 => ?_⟩
      have hD5 : H5 D = some (.lst accV) := st5.keep _ _ hD4 (nmaD ok4)
      have stB : Step e1 σ H1 e5 σ3 H5 := stA.trans st5
      obtain ⟨ok6, em6⟩ := ok5.updT (p := D) (.inr rfl) (.lst (accV ++ [v5]))
      obtain ⟨ok7, st7, hh7⟩ := ok6.wiped (compD_free h5)
      have ew : wipe σ3 vs = wipe σ vs := wipe_wipe ko3
      rw [ew] at ok7 st7 hh7
      refine ⟨accV, hD5, ?_, trivial, by omega, e5, accV ++ [v5], accD ++ [y], ok7, (stB.updN hD _).trans st7, upd_same, by simp; omega, ?_, by rw [ok5.len, ko3.1, wipe_length, ← ok1.len], fun j h => wipeE_out h, h5⟩
      · exact Nat.lt_of_le_of_lt hl2 (Nat.lt_of_lt_of_le hlt hsz)
      · rw [mask_congr hh7, em6]
        exact (r4.mono st5.seen).append (.cons (r5.rep ok5) .nil)
    | false =>
      simp only [Bool.false_eq_true, if_false] at h4 ⊢
      obtain ⟨ok7, st7, hh7⟩ := ok4.wiped (compD_free h4)
      have ew : wipe σ3 vs = wipe σ vs := wipe_wipe ko3
      rw [ew] at ok7 st7 hh7
      refine ⟨trivial, by omega, e4, accV, accD, ok7, stA.trans st7, hD4, by omega, ?_, len4, fun j h => wipeE_out h, h4⟩
      rw [mask_congr hh7]
      exact r4
  · have e : i = xs.length := by omega
    subst e
    refine .inl ⟨src2.stop lm (Nat.le_refl _), ?_⟩
    rw [List.drop_length] at hc
    obtain ⟨hfr, hk⟩ := hc
    -- back to the frame as it was
    have st0w : Step0 env σ H (wipeE ei vs) (wipe σ vs) H2 := st01.trans st2.z
    have freeW : ∀ v ∈ vs, freeS (wipeE ei vs) v = true := fun v hv => by
      unfold freeS
      cases q : (wipeE ei vs)[v]? with
      | none =>
        have := List.all_eq_true.mp hfr v hv
        unfold freeS at this
        have hl : v < ei.length := by
          cases q' : ei[v]? with
          | none => rw [q'] at this; simp at this
          | some s => exact (List.getElem?_eq_some_iff.mp q').1
        rw [List.getElem?_eq_none_iff, wipeE_len] at q
        omega
      | some s => cases wipeE_in hv q; rfl
    obtain ⟨okR, stR, hhR⟩ := ok2.reslot (env' := restore env vs ei) (σ' := σ) vs (by rw [restore_len, wipeE_len]) (by rw [wipe_length]) (fun j h => ⟨by rw [restore_out h, out2 j h], (wipe_out h).symm⟩) freeW fun v hv s e => by
      have es := restore_in hv e
      have hfv := List.all_eq_true.mp hfree v hv
      unfold freeS at hfv
      cases q : env[v]? with
      | none => rw [q] at hfv; simp at hfv
      | some s' =>
        rw [q] at es hfv
        simp at es; subst es
        cases s with
        | un => exact ⟨trivial, rfl⟩
        | sh d =>
          obtain ⟨x, e1', r'⟩ := ok.slot v _ q
          refine ⟨⟨x, e1', r'.mono fun b o z => ?_⟩, rfl⟩
          obtain ⟨n, e⟩ := mask_some.mp z
          obtain ⟨n2, e2⟩ := mask_some.mp (st0w.seen (T := T) b o z)
          refine mask_some.mpr ⟨?_, e2⟩
          rintro ((z | z) | z)
          · exact n2 (.inl z)
          · subst z
            have : H b = none := st01.al b hD
            rw [this] at e; cases e
          · exact n2 (.inr z)
        | own d => simp at hfv
        | lock d => simp at hfv
    have stR1 : Step e1 σ H1 (restore env vs ei) σ H2 := st2.trans stR
    obtain ⟨okF, stF, hhF⟩ := hfin T' _ _ _ okR stR1
    have nT : ¬ T D := fun z => ok1.thr D z hD
    refine q (.list accD) true _ _ _ okF.unhide stF ?_ hk
    unfold Res
    simp only [if_true]
    refine ⟨D, accV, accD, rfl, rfl, st01.al D hD, nT, hd2, okF, ?_⟩
    have hall : ∀ a, hid (fun a => T a ∨ a = D) (fin (restore env vs ei)) σ a ↔ hid T' (wipeE ei vs) (wipe σ vs) a := fun a => (hhF a).trans (hhR a)
    rw [mask_congr hall]
    exact r2
end G

/-! G9: statements -/
namespace G
open PySem PySem.Spec L2
open PyProof.Rows hiding St
def kio (io : Nat → Prop) (σ σ' : L2.St) : Prop := σ'.length = σ.length ∧ ∀ j : Nat, io j → σ'[j]? = σ[j]?
theorem kio.refl (io : Nat → Prop) (σ : L2.St) : kio io σ σ := ⟨rfl, fun _ _ => rfl⟩
theorem kio.trans {io : Nat → Prop} {a b c : L2.St} (h : kio io a b) (h' : kio io b c) : kio io a c := ⟨h'.1.trans h.1, fun j n => (h'.2 j n).trans (h.2 j n)⟩
theorem kio.set {io : Nat → Prop} {σ : L2.St} {i : Nat} {v : V} (n : ¬ io i) : kio io σ (σ.set i (some v)) := ⟨by simp, fun j h => List.getElem?_set_ne (show i ≠ j from fun z => by subst z; exact n h)⟩
abbrev fr0 (env : En) (σ : L2.St) (H : Hp) : Addr → Prop := fun p => OA env σ p ∧ MA env σ p ∨ H p = none
def tS (K : PySem.W.Frag) (io : Nat → Prop) (w : En → En4 → Prop) : TS := fun D σ H => ∃ T env d, Ok K T env σ H ∧ w env d ∧
  (∀ env' σ' H', Ok K T env' σ' H' → Step env σ H env' σ' H' → kio io σ σ' → d.nx env' → D.nx σ' H') ∧
  (∀ env' σ' H', Ok K T env' σ' H' → Step env σ H env' σ' H' → kio io σ σ' → d.bk env' → D.bk σ' H') ∧
  (∀ env' σ' H', Ok K T env' σ' H' → Step env σ H env' σ' H' → kio io σ σ' → d.ct env' → D.ct σ' H') ∧
  (∀ x fr env' v σ' H', Ok K T env' σ' H' → Step0 env σ H env' σ' H' → kio io σ σ' → Res K T env' σ' (fr0 env σ H) H' v x fr → d.rt x fr env' → D.rt v H')
theorem PS.impL {X : Cx} {e : Stmt} {t t' : TS} (h : PS X e t) (i : ∀ D σ H, σ.length = X.N.length → t' D σ H → t D σ H) : PS X e t' := ⟨fun pins s σ H Q I q => h.run pins s σ H Q I (i Q σ H I.len q)⟩
section
variable {X : Cx} {io : Nat → Prop} {pos : Pos} {e : Expr} {we : En → (D → Bool → En → Prop) → Prop}
theorem s_expr (he : PE X e (tE X.K we)) (hs : swapsWith e none pos.line X.env = pure false) : PS X (.Expr e pos) (tS X.K io fun env d => we env fun _ _ e' => d.nx e') :=
  PS.imp (ps_expr he hs) fun D σ H ⟨T, env, d, ok, hw, q1, _⟩ => ⟨T, env, _, ok, hw, fun x fr e1 v H1 ok1 st1 r1 h1 => q1 _ _ _ ok1 st1 (.refl ..) h1⟩
theorem s_pass : PS X (.Pass pos) (tS X.K io fun env d => d.nx env) := PS.imp ps_pass fun D σ H ⟨T, env, d, ok, hw, q1, _⟩ => q1 _ _ _ ok (Step.refl ..) (.refl ..) hw
theorem s_asg {st : Stmt} {te : TE} {i : Nat} {x : Str} (h : PS X st (tAsg te (gName i))) (ht : ∀ σ H Q, tE X.K we σ H Q → te σ H Q) (hi : X.N[i]? = some x) (ni : ¬ io i) :
    PS X st (tS X.K io fun env d => we env fun x fr e' => d.nx (put e' i x fr)) :=
  PS.impL h fun D σ H hl ⟨T, env, d, ok, hw, q1, _⟩ => ht _ _ _ ⟨T, env, _, ok, hw, fun x fr e1 v H1 ok1 st1 r1 h1 => by
    have hi' : i < e1.length := by rw [ok1.len, hl]; exact (List.getElem?_eq_some_iff.mp hi).1
    obtain ⟨ok2, st2⟩ := ok1.put st1 hi' r1 fun p hp => .inr hp
    exact q1 _ _ _ ok2 st2 (.set ni) h1⟩
theorem s_tup {st : Stmt} {te : TE} {g : TG} {vs : List Nat} {wg : D → En → (En → Prop) → Prop} (h : PS X st (tAsg te g)) (ht : ∀ σ H Q, tE X.K we σ H Q → te σ H Q) (hg : ∀ v σ H Q, tG X.K vs wg v σ H Q → g v σ H Q) (ni : ∀ j ∈ vs, ¬ io j) :
    PS X st (tS X.K io fun env d => we env fun x _ e' => wg x e' d.nx) :=
  PS.imp h fun D σ H ⟨T, env, d, ok, hw, q1, _⟩ => ht _ _ _ ⟨T, env, _, ok, hw, fun x fr e1 v H1 ok1 st1 r1 h1 => hg _ _ _ _ ⟨T, e1, x, _, ok1, r1.rep ok1, h1, fun e2 σ2 ok2 st2 ko hk =>
    q1 _ _ _ ok2 (st1.trans st2) ⟨ko.1, fun j hj => ko.2 j fun z => ni j z hj⟩ hk⟩⟩
/-! return -/
theorem res_ret {K : PySem.W.Frag} {T : Addr → Prop} {env e1 : En} {σ : L2.St} {H H1 : Hp} {v : V} {x : D} {fr : Bool} (r : Res K T e1 σ (nw H) H1 v x fr) : Res K T e1 σ (fr0 env σ H) H1 v x fr := r.back fun b h => .inr h
theorem s_ret {ir : E} (he : PE X e (tE X.K we)) (hv : ∀ i, ir = .var i → PE X e (tVar i)) : PS X (.Return (some e) pos) (tS X.K io fun env d => retD ir we env d) := by
  have h1 : PS X (.Return (some e) pos) (tS X.K io fun env d => we env fun x fr e' => d.rt x fr e') :=
    PS.imp (ps_ret he) fun D σ H ⟨T, env, d, ok, hw, q1, _, _, q4⟩ => ⟨T, env, _, ok, hw, fun x fr e1 v H1 ok1 st1 r1 h1 => q4 _ _ _ _ _ _ ok1 st1.z (.refl ..) (res_ret r1) h1⟩
  by_cases hi : ∃ i, ir = .var i
  · obtain ⟨i, rfl⟩ := hi
    have h2 := ps_ret (pos := pos) (hv i rfl)
    refine ⟨fun pins s σ H D I q => ?_⟩
    obtain ⟨T, env, d, ok, hw, q1, q2, q3, q4⟩ := q
    have hw : retD (.var i) we env d := hw
    by_cases ho : ∃ x, env[i]? = some (.own x)
    · obtain ⟨x, ho⟩ := ho
      refine h2.run pins s σ H D I ?_
      have hw : d.rt x true (env.set i .un) := by
        unfold retD at hw; simp only [ho] at hw; exact hw
      obtain ⟨a, e1, xs, ds, e2, e3, e4⟩ := ok.own ho
      have ma : MA env σ a := ⟨i, x, ho, e1⟩
      have na : ¬ T a := ok.dis a ma.oa
      obtain ⟨ok', st'⟩ := ok.less (s := .un) ho (fun _ _ _ _ _ => trivial) (fun z => by simp [isOwn] at z) (fun d z => by cases z) (fun d z => by cases z)
      have sub : ∀ b, OA (env.set i .un) σ b → OA env σ b ∧ b ≠ a := fun b ⟨j, ⟨s, f1, f2⟩, f3⟩ => by
        by_cases n : i = j
        · subst n; rw [getE_set_self ho] at f1; cases f1; simp [isOwn] at f2
        · rw [List.getElem?_set_ne n] at f1
          refine ⟨⟨j, ⟨s, f1, f2⟩, f3⟩, fun z => ?_⟩
          subst z
          exact n (ok.inj i j _ ⟨⟨_, ho, rfl⟩, e1⟩ ⟨⟨s, f1, f2⟩, f3⟩)
      have hh : ∀ b, hid (fun b => T b ∨ b = a) (env.set i .un) σ b ↔ hid T env σ b := fun b => by
        constructor
        · rintro ((z | z) | z)
          · exact .inl z
          · subst z; exact .inr ma.oa
          · exact .inr (sub b z).1
        · rintro (z | ⟨j, ⟨s, f1, f2⟩, f3⟩)
          · exact .inl (.inl z)
          · by_cases n : i = j
            · subst n; rw [e1] at f3; cases f3; exact .inl (.inr rfl)
            · exact .inr ⟨j, ⟨s, by rw [List.getElem?_set_ne n]; exact f1, f2⟩, f3⟩
      refine ⟨_, e1, q4 x true _ _ _ _ ok' st'.z (.refl ..) ?_ hw⟩
      refine ⟨a, xs, ds, rfl, e2, .inl ⟨ma.oa, ma⟩, na, e3, ⟨ok'.len, fun j s f => ?_, ok'.inj, fun b z => ?_, ?_⟩, by rw [mask_congr hh]; exact e4⟩
      · rw [mask_congr hh]
        by_cases n : i = j
        · subst n; rw [getE_set_self ho] at f; cases f; trivial
        · rw [List.getElem?_set_ne n] at f
          exact ok.slot j s f
      · rintro (y | y)
        · exact ok'.dis b z y
        · exact (sub b z).2 y
      · rintro b (y | y)
        · exact ok.thr b y
        · subst y; rw [e3]; simp
    · refine h1.run pins s σ H D I ⟨T, env, d, ok, ?_, q1, q2, q3, q4⟩
      unfold retD at hw
      simp only at hw
      split at hw
      · rename_i x hx; exact absurd ⟨x, hx⟩ ho
      · exact hw
  · have e : (fun env d => retD ir we env d) = fun (env : En) (d : En4) => we env fun x fr e' => d.rt x fr e' := by
      funext env d
      cases ir <;> first | rfl | exact absurd ⟨_, rfl⟩ hi
    rw [e]; exact h1
/-! blocks -/
variable {st : Stmt} {sts : List Stmt} {w1 w2 : En → En4 → Prop}
theorem b_nil : PSs X [] (tS X.K io fun env d => d.nx env) := PSs.imp pss_nil fun D σ H ⟨T, env, d, ok, hw, q1, _⟩ => q1 _ _ _ ok (Step.refl ..) (.refl ..) hw
theorem b_cons (h1 : PS X st (tS X.K io w1)) (h2 : PSs X sts (tS X.K io w2)) : PSs X (st :: sts) (tS X.K io fun env d => w1 env { d with nx := fun e => w2 e d }) :=
  PSs.imp (pss_cons h1 h2) fun D σ H ⟨T, env, d, ok, hw, q1, q2, q3, q4⟩ => ⟨T, env, _, ok, hw, fun e1 σ1 H1 ok1 st1 k1 h1 => ⟨T, e1, d, ok1, h1, fun e2 σ2 H2 ok2 st2 k2 h2 => q1 _ _ _ ok2 (st1.trans st2) (k1.trans k2) h2,
      fun e2 σ2 H2 ok2 st2 k2 h2 => q2 _ _ _ ok2 (st1.trans st2) (k1.trans k2) h2, fun e2 σ2 H2 ok2 st2 k2 h2 => q3 _ _ _ ok2 (st1.trans st2) (k1.trans k2) h2,
      fun x fr e2 v σ2 H2 ok2 st2 k2 r2 h2 => q4 _ _ _ _ _ _ ok2 (st1.z.trans st2) (k1.trans k2) (r2.back fun b z => by
        rcases z with ⟨z1, z2⟩ | z
        · rcases st1.new b z1 with y1 | y1
          · rcases st1.newM b z2 with y2 | y2
            · exact .inl ⟨y1, y2⟩
            · exact .inr y2
          · exact .inr y1
        · exact .inr (st1.al b z)) h2⟩, q2, q3, q4⟩
theorem s_if {c : Expr} {as bs : List Stmt} {wc : En → (Bool → En → Prop) → Prop} (hc : PT X c (tT X.K wc)) (ha : PSs X as (tS X.K io w1)) (hb : PSs X bs (tS X.K io w2)) :
    PS X (.If c as bs pos) (tS X.K io fun env d => wc env fun t e => if t = true then w1 e d else w2 e d) :=
  PS.imp (ps_if hc ha hb) fun D σ H ⟨T, env, d, ok, hw, q1, q2, q3, q4⟩ => ⟨T, env, _, ok, hw, fun t e1 H1 ok1 st1 h1 => by
    have go : ∀ w, w e1 d → tS X.K io w D σ H1 := fun w h => ⟨T, e1, d, ok1, h, fun e2 σ2 H2 ok2 st2 k2 h2 => q1 _ _ _ ok2 (st1.trans st2) k2 h2,
      fun e2 σ2 H2 ok2 st2 k2 h2 => q2 _ _ _ ok2 (st1.trans st2) k2 h2, fun e2 σ2 H2 ok2 st2 k2 h2 => q3 _ _ _ ok2 (st1.trans st2) k2 h2,
      fun x fr e2 v σ2 H2 ok2 st2 k2 r2 h2 => q4 _ _ _ _ _ _ ok2 (st1.z.trans st2) k2 (r2.back fun b z => by
        rcases z with ⟨z1, z2⟩ | z
        · rcases st1.new b z1 with y1 | y1
          · rcases st1.newM b z2 with y2 | y2
            · exact .inl ⟨y1, y2⟩
            · exact .inr y2
          · exact .inr y1
        · exact .inr (st1.al b z)) h2⟩
    cases t with
    | true => simp only [if_true] at h1 ⊢; exact go w1 h1
    | false => simp only [Bool.false_eq_true, if_false] at h1 ⊢; exact go w2 h1⟩
/-! loops -/
theorem fr0_back {env e1 : En} {σ σ1 : L2.St} {H H1 : Hp} (st : Step0 env σ H e1 σ1 H1) : ∀ b, fr0 e1 σ1 H1 b → fr0 env σ H b := fun b z => by
  rcases z with ⟨z1, z2⟩ | z
  · rcases st.new b z1 with y1 | y1
    · rcases st.newM b z2 with y2 | y2
      · exact .inl ⟨y1, y2⟩
      · exact .inr y2
    · exact .inr y1
  · exact .inr (st.al b z)
theorem s_while {c : Expr} {body : List Stmt} {wc : En → (Bool → En → Prop) → Prop} (hp : PassesOwn (model X.prog X.w) X.A X.env X.xe) (hc : PT X c (tT X.K wc)) (hb : PSs X body (tS X.K io w1)) :
    PS X (.While c body [] pos) (tS X.K io fun env d => whileD wc w1 env d) :=
  PS.imp (ps_while hp hc hb) fun D σ H ⟨T, env, d, ok, ⟨W, ⟨m0, hW⟩, turn⟩, q1, q2, q3, q4⟩ =>
    ⟨fun m σ1 H1 => ∃ e1, Ok X.K T e1 σ1 H1 ∧ Step env σ H e1 σ1 H1 ∧ kio io σ σ1 ∧ W m e1, ⟨m0, env, ok, Step.refl .., .refl .., hW⟩, fun m σ1 H1 ⟨e1, ok1, st1, k1, w⟩ =>
      ⟨T, e1, _, ok1, turn m e1 w, fun b e2 H2 ok2 st2 h2 => by
        cases b with
        | true =>
          simp only [if_true] at h2 ⊢
          have nxt : ∀ env' σ' H', Ok X.K T env' σ' H' → Step e2 σ1 H2 env' σ' H' → kio io σ1 σ' → (∃ m', m' < m ∧ W m' env') → ∃ m', m' < m ∧ ∃ e1, Ok X.K T e1 σ' H' ∧ Step env σ H e1 σ' H' ∧ kio io σ σ' ∧ W m' e1 :=
            fun env' σ' H' ok' st' k' ⟨m', hm, w'⟩ => ⟨m', hm, env', ok', (st1.trans st2).trans st', k1.trans k', w'⟩
          exact ⟨_, fun σ' H' n => n, T, e2, _, ok2, h2, nxt, fun env' σ' H' ok' st' k' h' => q1 _ _ _ ok' ((st1.trans st2).trans st') (k1.trans k') h', nxt,
            fun x fr env' v σ' H' ok' st' k' r' h' => q4 _ _ _ _ _ _ ok' ((st1.trans st2).z.trans st') (k1.trans k') (r'.back (fr0_back (st1.trans st2).z)) h'⟩
        | false =>
          simp only [Bool.false_eq_true, if_false] at h2 ⊢
          exact q1 _ _ _ ok2 (st1.trans st2) k1 h2⟩⟩
theorem s_for {tg iter : Expr} {body : List Stmt} {vs : List Nat} {wi : En → (List D → En → (En → En) → Prop) → Prop} {wg : D → En → (En → Prop) → Prop} (hp : PassesOwn (model X.prog X.w) X.A X.env X.xe) (hc : X.calm = true)
    (hi : PI X tg iter (tI X.K wi)) (hg : PG X tg (tG X.K vs wg)) (hb : PSs X body (tS X.K io w1)) (hs : ∀ x, foldedSetIterable iter X.env x = pure x) (ni : ∀ j ∈ vs, ¬ io j) :
    PS X (.For tg iter body [] pos) (tS X.K io fun env d => wi env fun xs e1 fin => forD wg w1 xs e1 { d with nx := fun e => d.nx (fin e) }) :=
  PS.imp (ps_for hp hc hi hg hb hs) fun D σ H ⟨T, env, d, ok, hw, q1, q2, q3, q4⟩ => ⟨T, env, _, ok, hw, fun xs e1 fin J H1 ok1 st1 src hfin hfor =>
    ⟨fun i m σ2 H2 => m = xs.length - i ∧ i ≤ xs.length ∧ ∃ e2, Ok X.K T e2 σ2 H2 ∧ Step e1 σ H1 e2 σ2 H2 ∧ kio io σ σ2 ∧ forD wg w1 (xs.drop i) e2 { d with nx := fun e => d.nx (fin e) },
      ⟨xs.length, by simp, Nat.zero_le _, e1, ok1, Step.refl .., .refl .., by simpa using hfor⟩, by
      rintro i m σ2 H2 ⟨rfl, hi', e2, ok2, st2, k2, hf⟩
      have lm : Le (mask (hid T e2 σ2) H2) H2 := mask_le _ _
      have src2 := src.step st2.z
      -- out of the loop
      have out : ∀ env' σ' H', Ok X.K T env' σ' H' → Step e2 σ2 H2 env' σ' H' → kio io σ2 σ' → d.nx (fin env') → D.nx σ' H' := fun env' σ' H' ok' st' k' h' => by
        obtain ⟨okF, stF, _⟩ := hfin T _ _ _ ok' (st2.trans st')
        exact q1 _ _ _ okF stF (k2.trans k') h'
      by_cases hlt : i < xs.length
      · have ex : xs[i]? = some xs[i] := List.getElem?_eq_getElem hlt
        obtain ⟨go, yl⟩ := src2.go (fun a z n => ok2.nohid n z) ex
        rw [List.drop_eq_getElem_cons hlt] at hf
        refine .inr ⟨go, _, fun σ' H' w => ⟨xs.length - (i + 1), by omega, w⟩, fun v H' y => ?_⟩
        obtain ⟨le', rv⟩ := yl v H' y
        refine ⟨T, e2, xs[i], _, ok2.ext le', rv, hf, fun e3 σ3 ok3 st3 ko3 h3 => ?_⟩
        have st23 : Step e2 σ2 H2 e3 σ3 H' := (Step.ext le').trans st3
        have k3 : kio io σ2 σ3 := ⟨ko3.1, fun j hj => ko3.2 j fun z => ni j z hj⟩
        have nxt : ∀ env' σ' H'', Ok X.K T env' σ' H'' → Step e3 σ3 H' env' σ' H'' → kio io σ3 σ' → forD wg w1 (xs.drop (i + 1)) env' { d with nx := fun e => d.nx (fin e) } →
            xs.length - (i + 1) = xs.length - (i + 1) ∧ i + 1 ≤ xs.length ∧ ∃ e2, Ok X.K T e2 σ' H'' ∧ Step e1 σ H1 e2 σ' H'' ∧ kio io σ σ' ∧ forD wg w1 (xs.drop (i + 1)) e2 { d with nx := fun e => d.nx (fin e) } :=
          fun env' σ' H'' ok' st' k' h' => ⟨rfl, hlt, env', ok', (st2.trans st23).trans st', (k2.trans k3).trans k', h'⟩
        exact ⟨T, e3, _, ok3, h3, nxt, fun env' σ' H'' ok' st' k' h' => out _ _ _ ok' (st23.trans st') (k3.trans k') h', nxt,
          fun x fr env' v σ' H'' ok' st' k' r' h' => q4 _ _ _ _ _ _ ok' ((st1.trans (st2.trans st23).z).trans st') ((k2.trans k3).trans k') (r'.back (fr0_back (st1.trans (st2.trans st23).z))) h'⟩
      · have e : i = xs.length := by omega
        subst e
        rw [List.drop_length] at hf
        exact .inl ⟨src2.stop lm (Nat.le_refl _), out _ _ _ ok2 (Step.refl ..) (.refl ..) hf⟩⟩⟩
/-! own lists changed -/
theorem lst_any {env : En} {i : Nat} {k : List D → Prop} (h : isL env i k) : ∃ xs, env[i]? = some (.own (.list xs)) ∧ k xs := by
  unfold isL at h
  split at h
  · exact ⟨_, by assumption, h⟩
  · exact h.elim
variable {o a b : Expr} {i : Nat} {p q : Pos} {x : Str} {wa wb : En → (Od → En → Prop) → Prop} {ws : En → (List D → En → Prop) → Prop}
theorem m_attr (x : Str) (p : Pos) (f : Str) (env : Env) : attributeBase (.Name x p) f env (eval (.Name x p) env) = eval (.Name x p) env := rfl
theorem s_append (ho : PE X (.Name x p) (tVar i)) (he : PE X e (tE X.K we)) (hs : starEach [e] X.env = [(false, eval e X.env)]) (hl : (q.endLine == pos.line) = true) {ps : Pos} {f : Str} (hf : f = ("append" : Str)) :
    PS X (.Expr (.Call (.Attribute (.Name x p) f q) [e] [] pos) ps) (tS X.K io fun env d => isL env i fun _ => we env fun u _ e1 => isL e1 i fun xs => xs.length < sizeLine ∧ d.nx (e1.set i (.own (.list (xs ++ [u]))))) := by
  subst hf
  refine PS.imp (ps_expr (pe_bm PySem.F.plainAttrs_list PySem.F.slot_list_append PySem.F.type_list_append mt_append ho (pa_cons he pa_nil hs) (m_attr x p _ _)
    (by rw [hs]; rfl) hl hs rfl)) fun D σ H ⟨T, env, d, ok, hw, q1, _⟩ => ?_
  obtain ⟨a, xs, ds, e1, e2, _, h1, _⟩ := ok.mut hw
  refine ⟨_, e1, .inl ⟨rfl, _, .inl (.inl e2)⟩, T, env, _, ok, h1, fun u fr e3 v H1 ok1 st1 r1 h3 => ?_⟩
  obtain ⟨a', xs', ds', f1, f2, f3, ⟨h4, h5⟩, go⟩ := ok1.mut h3
  rw [e1] at f1; cases f1
  obtain ⟨ok2, st2⟩ := go (xs' ++ [v]) (ds' ++ [u]) (f3.append (.cons (r1.rep ok1) .nil))
  exact ⟨_, xs', v, rfl, rfl, f2, by rw [f3.length]; exact h4, q1 _ _ _ ok2 (st1.trans st2) (.refl ..) h5⟩
theorem s_insert (ho : PE X (.Name x p) (tVar i)) (he : PA X [a, b] (tEs X.K ws)) (hs : starEach [a, b] X.env = [(false, eval a X.env), (false, eval b X.env)]) (hs2 : starEach [b] X.env = [(false, eval b X.env)]) (hl : (q.endLine == pos.line) = true) {ps : Pos} {f : Str} (hf : f = ("insert" : Str)) :
    PS X (.Expr (.Call (.Attribute (.Name x p) f q) [a, b] [] pos) ps) (tS X.K io fun env d => isL env i fun _ => ws env fun us e1 => isL e1 i fun xs =>
      ∃ (n : Int) (u : D), us = [.int n, u] ∧ xs.length < sizeLine ∧ 0 ≤ n ∧ n < 2 ^ 63 ∧ d.nx (e1.set i (.own (.list (xs.take n.toNat ++ [u] ++ xs.drop n.toNat))))) := by
  subst hf
  refine PS.imp (ps_expr (pe_bm PySem.F.plainAttrs_list PySem.F.slot_list_insert PySem.F.type_list_insert mt_insert ho he (m_attr x p _ _)
    (by rw [hs]; rfl) hl (by rw [hs, hs2]) (by rw [hs2]; rfl))) fun D σ H ⟨T, env, d, ok, hw, q1, _⟩ => ?_
  obtain ⟨a, xs, ds, e1, e2, _, h1, _⟩ := ok.mut hw
  refine ⟨_, e1, .inl ⟨rfl, _, .inl (.inl e2)⟩, T, env, _, ok, h1, fun us e3 vs H1 ok1 st1 r1 h3 => ?_⟩
  obtain ⟨a', xs', ds', f1, f2, f3, ⟨n, u, rfl, h4, h5, h6, h7⟩, go⟩ := ok1.mut h3
  rw [e1] at f1; cases f1
  cases r1 with
  | cons ra rr =>
    cases ra with
    | int n =>
      cases rr with
      | cons rb rr =>
        cases rr
        obtain ⟨ok2, st2⟩ := go (xs'.take n.toNat ++ [_] ++ xs'.drop n.toNat) (ds'.take n.toNat ++ [u] ++ ds'.drop n.toNat) (((f3.take _).append (.cons rb .nil)).append (f3.drop _))
        exact ⟨_, xs', n, _, rfl, rfl, f2, by rw [f3.length]; exact h4, h5, h6, q1 _ _ _ ok2 (st1.trans st2) (.refl ..) h7⟩
theorem c_pop (ho : PE X (.Name x p) (tVar i)) (he : PE X a (tO X.K wa)) (hs : starEach [a] X.env = [(false, eval a X.env)]) (hl : (q.endLine == pos.line) = true) {f : Str} (hf : f = ("pop" : Str)) :
    PE X (.Call (.Attribute (.Name x p) f q) [a] [] pos) (tE X.K fun env k => isL env i fun _ => wa env fun x e1 => rd e1 x fun u => isL e1 i fun xs =>
      ∃ (n : Int) (j : Nat) (y : D), u = .int n ∧ -(2 ^ 63) ≤ n ∧ n < 2 ^ 63 ∧ seqIndex? n xs.length = some j ∧ xs[j]? = some y ∧ k y false (e1.set i (.own (.list (xs.eraseIdx j))))) := by
  subst hf
  refine PE.imp (pe_bm PySem.F.plainAttrs_list PySem.F.slot_list_pop PySem.F.type_list_pop mt_popAt ho (pa_cons he pa_nil hs) (m_attr x p _ _)
    (by rw [hs]; rfl) hl hs rfl) fun σ H Q ⟨T, env, k, ok, hw, q⟩ => ?_
  obtain ⟨a, xs, ds, e1, e2, _, h1, _⟩ := ok.mut hw
  refine ⟨_, e1, .inl ⟨rfl, _, .inl (.inl e2)⟩, T, env, _, ok, h1, fun od e3 v H1 ok1 st1 r1 h3 => ?_⟩
  obtain ⟨u, tu, h3⟩ := r1.rd ok1 h3
  obtain ⟨a', xs', ds', f1, f2, f3, ⟨n, j, y, rfl, h4, h5, h6, h7, h8⟩, go⟩ := ok1.mut h3
  rw [e1] at f1; cases f1
  have er : ∀ (n : Nat) {vs : List V} {es : List D}, RepAll X.K (mask (hid T e3 σ) H1) vs es → RepAll X.K (mask (hid T e3 σ) H1) (vs.eraseIdx n) (es.eraseIdx n) := by
    intro n
    induction n with
    | zero => intro vs es r; cases r with
      | nil => exact .nil
      | cons h r => exact r
    | succ n ih => intro vs es r; cases r with
      | nil => exact .nil
      | cons h r => exact .cons h (ih r)
  obtain ⟨w, g1, g2⟩ := f3.get h7
  obtain ⟨ok2, st2⟩ := go (xs'.eraseIdx j) (ds'.eraseIdx j) (er j f3)
  exact ⟨_, xs', n, j, w, rfl, by rw [tu.int], f2, h4, h5, by rw [f3.length]; exact h6, g1, q _ _ _ _ _ ok2 (st1.trans st2) (.of (g2.mono st2.seen)) h8⟩
theorem s_setIx (ho : PE X (.Name x p) (tVar i)) (he : PE X e (tE X.K we)) (ha : PE X a (tO X.K wa)) (hs1 : swapsWithSole [.Subscript (.Name x p) a q] e pos.line X.env = pure false) (hw1 : swappedStores [.Subscript (.Name x p) a q] e X.env = pure none)
    (hsub : ∀ v, assign (.Subscript (.Name x p) a q) X.env v = (do
      let ov ← holding [v] (eval (.Name x p) X.env)
      let iv ← holding [v, ov] (eval a X.env)
      standAt q
      holding [v, ov, iv] (setItem ov iv v)
      release [v, ov, iv] [])) :
    PS X (.Assign [.Subscript (.Name x p) a q] e pos) (tS X.K io fun env d => we env fun u _ e1 => isL e1 i fun _ => wa e1 fun y e2 => rd e2 y fun v => isL e2 i fun xs =>
      ∃ (n : Int) (j : Nat), v = .int n ∧ ixN xs.length n = some j ∧ d.nx (e2.set i (.own (.list (xs.set j u))))) := by
  refine PS.imp (ps_asg he (pg_sub ho ha set_list hsub) hs1 hw1 rfl) fun D σ H ⟨T, env, d, ok, hw, q1, _⟩ => ⟨T, env, _, ok, hw, fun u fr e1 v H1 ok1 st1 r1 h1 => ?_⟩
  obtain ⟨a0, xs, ds, f1, f2, _, h2, _⟩ := ok1.mut h1
  refine ⟨_, f1, T, e1, _, ok1, h2, fun od e2 v2 H2 ok2 st2 r2 h3 => ?_⟩
  obtain ⟨w, tw, h3⟩ := r2.rd ok2 h3
  obtain ⟨a', xs', ds', g1, g2, g3, ⟨n, j, rfl, h4, h5⟩, go⟩ := ok2.mut h3
  rw [f1] at g1; cases g1
  obtain ⟨ok3, st3⟩ := go (xs'.set j v) (ds'.set j u) (g3.set ((r1.rep ok1).mono st2.seen) j)
  exact ⟨a0, xs', n, j, rfl, by rw [tw.int], g2, by rw [g3.length]; exact h4, q1 _ _ _ ok3 ((st1.trans st2).trans st3) (.refl ..) h5⟩
end
end G

/-! G10: several names at once; defs -/
namespace G
open PySem PySem.Spec L2
open PyProof.Rows hiding St
/-! ### values side by side: T is what is hidden for the rest, S with all of them -/
inductive Vs (K : PySem.W.Frag) (env : En) (σ : L2.St) (H : Hp) (F : Addr → Prop) (S : Addr → Prop) : (Addr → Prop) → List V → List (D × Bool) → Prop
  | nil {T} : (∀ a, S a ↔ T a) → Vs K env σ H F S T [] []
  | cF {T v d vs ds} : Rep K (mask (hid S env σ) H) v d → Vs K env σ H F S T vs ds → Vs K env σ H F S T (v :: vs) ((d, false) :: ds)
  | cT {T p xs es vs ds} : F p → ¬ T p → H p = some (.lst xs) → RepAll K (mask (hid S env σ) H) xs es → Vs K env σ H F S (fun a => T a ∨ a = p) vs ds → Vs K env σ H F S T (.ref p :: vs) ((.list es, true) :: ds)
section
variable {K : PySem.W.Frag} {env env' : En} {σ σ' : L2.St} {H : Hp} {F S S' : Addr → Prop}
theorem Vs.sub : ∀ {T : Addr → Prop} {vs ds}, Vs K env σ H F S T vs ds → ∀ a, T a → S a
  | _, _, _, .nil h, a, t => (h a).mpr t
  | _, _, _, .cF _ r, a, t => r.sub a t
  | _, _, _, .cT _ _ _ _ r, a, t => r.sub a (.inl t)
theorem Vs.mono (m : Le (mask (hid S env σ) H) (mask (hid S env' σ') H)) : ∀ {T : Addr → Prop} {vs ds}, Vs K env σ H F S T vs ds → Vs K env' σ' H F S T vs ds
  | _, _, _, .nil h => .nil h
  | _, _, _, .cF r v => .cF (r.mono m) (v.mono m)
  | _, _, _, .cT f n h r v => .cT f n h (r.mono m) (v.mono m)
/-- p is no longer hidden for itself -/
theorem Vs.less {p : Addr} (hS : ∀ a, S' a ↔ S a ∧ a ≠ p) (m : Le (mask (hid S env σ) H) (mask (hid S' env' σ') H)) : ∀ {T T' : Addr → Prop} {vs ds}, (∀ a, T a ↔ T' a ∨ a = p) → ¬ T' p → Vs K env σ H F S T vs ds → Vs K env' σ' H F S' T' vs ds
  | _, _, _, _, e, n, .nil h => .nil fun a => by
    rw [hS a, h a, e a]
    constructor
    · rintro ⟨z | z, y⟩
      · exact z
      · exact absurd z y
    · intro z; exact ⟨.inl z, fun y => n (y ▸ z)⟩
  | _, _, _, _, e, n, .cF r v => .cF (r.mono m) (v.less hS m e n)
  | T, T', _, _, e, n, .cT (p := q) f k h r v => by
    have kq : ¬ T' q := fun z => k ((e q).mpr (.inl z))
    have npq : p ≠ q := fun z => k ((e q).mpr (.inr z.symm))
    refine .cT f kq h (r.mono m) (v.less hS m (fun a => ?_) fun z => z.elim n npq)
    rw [e a]
    constructor
    · rintro ((z | z) | z)
      · exact .inl (.inl z)
      · exact .inr z
      · exact .inl (.inr z)
    · rintro ((z | z) | z)
      · exact .inl (.inl z)
      · exact .inr z
      · exact .inl (.inr z)
end
def setsS : List Nat → List V → L2.St → L2.St
  | i :: is, v :: vs, σ => setsS is vs (σ.set i (some v))
  | _, _, σ => σ
/-- all names take their values -/
theorem puts_ok {K : PySem.W.Frag} {e0 : En} {s0 : L2.St} {H0 H : Hp} {io : Nat → Prop} : ∀ {is : List Nat} {vs : List V} {ds : List (D × Bool)} {env : En} {σ : L2.St} {S T : Addr → Prop} {k : En → Prop}, Vs K env σ H (nw H0) S T vs ds → Ok K S env σ H → Step e0 s0 H0 env σ H → putsE is ds env k → (∀ i ∈ is, i < env.length ∧ ¬ io i) →
    ∃ env', Ok K T env' (setsS is vs σ) H ∧ Step e0 s0 H0 env' (setsS is vs σ) H ∧ kio io σ (setsS is vs σ) ∧ k env'
  | [], _, _, env, σ, S, T, k, .nil h, ok, st, hk, _ => by
    have e : S = T := funext fun a => propext (h a)
    subst e
    exact ⟨env, ok, st, .refl .., hk⟩
  | i :: is, _, _, env, σ, S, T, k, .cF (d := d) (v := v) r w, ok, st, hk, hi => by
    obtain ⟨h1, h2⟩ := hi i (by simp)
    obtain ⟨ok1, st1⟩ := ok.put (F := fun _ => False) (fr := false) (d := d) st h1 r fun _ z => z.elim
    have m := (ok.put (F := fun _ => False) (fr := false) (d := d) (Step.refl ..) h1 r fun _ z => z.elim).2.seen (T := S)
    obtain ⟨env', a, b, c, d'⟩ := puts_ok (is := is) (w.mono m) ok1 st1 hk fun j hj => by
      have := hi j (by simp [hj])
      exact ⟨by unfold put; simpa using this.1, this.2⟩
    exact ⟨env', a, b, (kio.set h2).trans c, d'⟩
  | i :: is, _, _, env, σ, S, T, k, .cT (p := p) (xs := xs) (es := es) f n h r w, ok, st, hk, hi => by
    obtain ⟨h1, h2⟩ := hi i (by simp)
    have hp : S p := w.sub p (.inr rfl)
    -- p is hidden by itself
    have eS : S = fun a => (S a ∧ a ≠ p) ∨ a = p := funext fun a => propext ⟨fun z => by
      by_cases q : a = p
      · exact .inr q
      · exact .inl ⟨z, q⟩, fun z => z.elim (fun z => z.1) fun z => z ▸ hp⟩
    have okp : Ok K (fun a => (S a ∧ a ≠ p) ∨ a = p) env σ H := eS ▸ ok
    have rp : RepAll K (mask (hid (fun a => (S a ∧ a ≠ p) ∨ a = p) env σ) H) xs es := by rw [← eS]; exact r
    have res : Res K (fun a => S a ∧ a ≠ p) env σ (nw H0) H (.ref p) (.list es) true := ⟨p, xs, es, rfl, rfl, f, fun z => z.2 rfl, h, okp, rp⟩
    obtain ⟨ok1, st1⟩ := okp.unhide.put st h1 res fun q hq => .inr hq
    have npo : ¬ OA env σ p := fun z => ok.dis p z hp
    have m : Le (mask (hid S env σ) H) (mask (hid (fun a => S a ∧ a ≠ p) (put env i (.list es) true) (σ.set i (some (.ref p)))) H) := mask_sub fun b z => by
      rcases z with z | ⟨j, ⟨s, g1, g2⟩, g3⟩
      · exact .inl z.1
      · by_cases q : j = i
        · subst q
          rw [List.getElem?_set_self (by rw [← ok.len]; exact h1)] at g3; cases g3
          exact .inl hp
        · unfold put at g1
          rw [List.getElem?_set_ne (Ne.symm q)] at g1 g3
          exact .inr ⟨j, ⟨s, g1, g2⟩, g3⟩
    obtain ⟨env', a, b, c, d'⟩ := puts_ok (is := is) (w.less (p := p) (fun a => Iff.rfl) m (fun a => Iff.rfl) n) ok1 st1 hk fun j hj => by
      have := hi j (by simp [hj])
      exact ⟨by unfold put; simpa using this.1, this.2⟩
    exact ⟨env', a, b, (kio.set h2).trans c, d'⟩
  | [], _, _, _, _, _, _, _, .cF _ _, _, _, hk, _ => hk.elim
  | [], _, _, _, _, _, _, _, .cT _ _ _ _ _, _, _, hk, _ => hk.elim
  | _ :: _, _, _, _, _, _, _, _, .nil _, _, _, hk, _ => hk.elim
def tV (K : PySem.W.Frag) (w : En → (List (D × Bool) → En → Prop) → Prop) : TA := fun σ H Q => ∃ T env k, Ok K T env σ H ∧ w env k ∧
  ∀ ds env' vs H' S, Ok K S env' σ H' → Step env σ H env' σ H' → Vs K env' σ H' (nw H) S T vs ds → k ds env' → Q vs H'
section
variable {X : Cx} {a : Expr} {es : List Expr} {va : En → (D → Bool → En → Prop) → Prop} {we : En → (List (D × Bool) → En → Prop) → Prop}
theorem v_nil : PA X [] (tV X.K fun env k => k [] env) := PA.imp pa_nil fun σ H Q ⟨T, env, k, ok, hw, q⟩ => q [] env [] H T ok (Step.refl ..) (.nil fun _ => Iff.rfl) hw
theorem Vs.back {K : PySem.W.Frag} {env : En} {σ : L2.St} {H : Hp} {F F' S : Addr → Prop} (h : ∀ b, F b → F' b) : ∀ {T : Addr → Prop} {vs ds}, Vs K env σ H F S T vs ds → Vs K env σ H F' S T vs ds
  | _, _, _, .nil e => .nil e
  | _, _, _, .cF r v => .cF r (v.back h)
  | _, _, _, .cT f n e r v => .cT (h _ f) n e r (v.back h)
/-- hidden things that are new since -/
theorem Vs.new {K : PySem.W.Frag} {env : En} {σ : L2.St} {H : Hp} {F S : Addr → Prop} : ∀ {T : Addr → Prop} {vs ds}, Vs K env σ H F S T vs ds → ∀ a, S a → T a ∨ F a
  | _, _, _, .nil e, a, z => .inl ((e a).mp z)
  | _, _, _, .cF r v, a, z => v.new a z
  | _, _, _, .cT f n e r v, a, z => by
    rcases v.new a z with (z | z) | z
    · exact .inl z
    · subst z; exact .inr f
    · exact .inr z
theorem v_cons (ha : PE X a (tE X.K va)) (hr : PA X es (tV X.K we)) (hs : starEach (a :: es) X.env = (false, eval a X.env) :: starEach es X.env) :
    PA X (a :: es) (tV X.K fun env k => va env fun d fr e1 => we e1 fun ds e2 => k ((d, fr) :: ds) e2) :=
  PA.imp (pa_cons ha hr hs) fun σ H Q ⟨T, env, k, ok, hw, q⟩ => ⟨T, env, _, ok, hw, fun d fr e1 v1 H1 ok1 st1 r1 h1 => by
    cases fr with
    | false =>
      refine ⟨T, e1, _, ok1, h1, fun ds e2 vs H2 S ok2 st2 v2 h2 => q _ _ _ _ S ok2 (st1.trans st2) (.cF ?_ (v2.back st1.al)) h2⟩
      have r1 : Rep X.K (mask (hid T e1 σ) H1) v1 d := r1
      refine r1.mono (mask_mono fun b o n hb => ?_)
      obtain ⟨n2, e2'⟩ := mask_some.mp (st2.seen (T := T) b o (mask_some.mpr ⟨n, hb⟩))
      refine ⟨?_, e2'⟩
      rintro (z | z)
      · rcases v2.new b z with z | z
        · exact n2 (.inl z)
        · have z : H1 b = none := z
          rw [hb] at z; cases z
      · exact n2 (.inr z)
    | true =>
      obtain ⟨p, xs, ds0, rfl, rfl, hf, nt, hp, okp, ra⟩ := r1
      refine ⟨_, e1, _, okp, h1, fun ds e2 vs H2 S ok2 st2 v2 h2 => q _ _ _ _ S ok2 (st1.trans st2) (.cT hf nt (st2.keep _ _ hp fun z => okp.dis p z.oa (.inr rfl)) ?_ (v2.back st1.al)) h2⟩
      refine ra.mono (mask_mono fun b o n hb => ?_)
      obtain ⟨n2, e2'⟩ := mask_some.mp (st2.seen (T := fun a => T a ∨ a = p) b o (mask_some.mpr ⟨n, hb⟩))
      refine ⟨?_, e2'⟩
      rintro (z | z)
      · rcases v2.new b z with z | z
        · exact n2 (.inl z)
        · have z : H1 b = none := z
          rw [hb] at z; cases z
      · exact n2 (.inr z)⟩
end
theorem s_par {X : Cx} {io : Nat → Prop} {st : Stmt} {is : List Nat} {es : List Expr} {we : En → (List (D × Bool) → En → Prop) → Prop} {ta : TA} (h : PS X st (fun D σ H => ta σ H fun vs H1 => vs.length = is.length ∧ D.nx (setsS is vs σ) H1)) (ht : ∀ σ H Q, tV X.K we σ H Q → ta σ H Q)
    (hi : ∀ i ∈ is, i < X.N.length ∧ ¬ io i) : PS X st (tS X.K io fun env d => we env fun xs e1 => putsE is xs e1 d.nx) :=
  PS.impL h fun Dn σ H hl ⟨T, env, d, ok, hw, q1, _⟩ => ht _ _ _ ⟨T, env, _, ok, hw, fun ds e1 vs H1 S ok1 st1 v1 h1 => by
    obtain ⟨env', a, b, c, k⟩ := puts_ok (io := io) v1 ok1 st1 h1 fun i hm => ⟨by rw [ok1.len, hl]; exact (hi i hm).1, (hi i hm).2⟩
    refine ⟨?_, q1 _ _ _ a b c k⟩
    -- as many values as names
    have len : ∀ {is : List Nat} {ds : List (D × Bool)} {env : En} {k : En → Prop}, putsE is ds env k → is.length = ds.length := by
      intro is
      induction is with
      | nil => intro ds env k h; cases ds with
        | nil => rfl
        | cons x ds => exact h.elim
      | cons i is ih => intro ds env k h; cases ds with
        | nil => exact h.elim
        | cons x ds => exact congrArg (· + 1) (ih h)
    have len2 : ∀ {S T : Addr → Prop} {vs ds}, Vs X.K e1 σ H1 (nw H) S T vs ds → vs.length = ds.length := by
      intro S T vs ds v
      induction v with
      | nil => rfl
      | cF _ _ ih => exact congrArg (· + 1) ih
      | cT _ _ _ _ _ ih => exact congrArg (· + 1) ih
    rw [len2 v1, len h1]⟩
theorem s_par2 {X : Cx} {io : Nat → Prop} {st : Stmt} {i j : Nat} {ta : TA} {we : En → (List (D × Bool) → En → Prop) → Prop} (h : PS X st (tPar i j ta)) (ht : ∀ σ H Q, tV X.K we σ H Q → ta σ H Q) (hm : ∀ σ H Q Q', ta σ H Q → (∀ vs H1, Q vs H1 → Q' vs H1) → ta σ H Q')
    (hi : i < X.N.length ∧ ¬ io i) (hj : j < X.N.length ∧ ¬ io j) : PS X st (tS X.K io fun env d => we env fun xs e1 => putsE [i, j] xs e1 d.nx) := by
  refine s_par (is := [i, j]) (es := []) (ta := ta) (PS.imp h fun D σ H hh => hm _ _ _ _ hh fun vs H1 ⟨hl, hn⟩ => ?_) ht fun k hk => by
    simp at hk
    rcases hk with rfl | rfl
    · exact hi
    · exact hj
  match vs, hl, hn with
  | [v, w], _, hn => exact ⟨v, w, rfl, hn⟩
theorem s_par3 {X : Cx} {io : Nat → Prop} {st : Stmt} {i j l : Nat} {ta : TA} {we : En → (List (D × Bool) → En → Prop) → Prop} (h : PS X st (tPar3 i j l ta)) (ht : ∀ σ H Q, tV X.K we σ H Q → ta σ H Q) (hm : ∀ σ H Q Q', ta σ H Q → (∀ vs H1, Q vs H1 → Q' vs H1) → ta σ H Q')
    (hi : i < X.N.length ∧ ¬ io i) (hj : j < X.N.length ∧ ¬ io j) (hl : l < X.N.length ∧ ¬ io l) : PS X st (tS X.K io fun env d => we env fun xs e1 => putsE [i, j, l] xs e1 d.nx) := by
  refine s_par (is := [i, j, l]) (es := []) (ta := ta) (PS.imp h fun D σ H hh => hm _ _ _ _ hh fun vs H1 ⟨hl, hn⟩ => ?_) ht fun k hk => by
    simp at hk
    rcases hk with rfl | rfl | rfl
    · exact hi
    · exact hj
    · exact hl
  match vs, hl, hn with
  | [u, v, w], _, hn => exact ⟨u, v, w, rfl, hn⟩
theorem tV_mono {K : PySem.W.Frag} {we : En → (List (D × Bool) → En → Prop) → Prop} {σ : L2.St} {H : Hp} {Q Q' : List V → Hp → Prop} (h : tV K we σ H Q) (hq : ∀ vs H1, Q vs H1 → Q' vs H1) : tV K we σ H Q' := by
  obtain ⟨T, env, k, ok, hw, q⟩ := h
  exact ⟨T, env, k, ok, hw, fun ds e vs H1 S a b c d => hq _ _ (q ds e vs H1 S a b c d)⟩
/-! ### defs -/
section
variable {K : PySem.W.Frag} {T : Addr → Prop} {env : En} {σ : L2.St} {H : Hp}
/-- more slots, all unset -/
theorem Ok.extend (ok : Ok K T env σ H) (n : Nat) : Ok K T (env ++ List.replicate n .un) (σ ++ List.replicate n none) H ∧ (∀ a, OA (env ++ List.replicate n .un) (σ ++ List.replicate n none) a ↔ OA env σ a) ∧ ∀ a, MA (env ++ List.replicate n .un) (σ ++ List.replicate n none) a ↔ MA env σ a := by
  have getE : ∀ {j : Nat} {s : Slot}, (env ++ List.replicate n .un)[j]? = some s → (env[j]? = some s ∧ j < env.length) ∨ s = .un := fun {j s} e => by
    by_cases h : j < env.length
    · rw [List.getElem?_append_left h] at e; exact .inl ⟨e, h⟩
    · rw [List.getElem?_append_right (by omega)] at e
      rw [List.getElem?_replicate] at e
      split at e
      · cases e; exact .inr rfl
      · cases e
  have getS : ∀ {j : Nat}, j < env.length → (σ ++ List.replicate n none)[j]? = σ[j]? := fun {j} h => List.getElem?_append_left (by rw [← ok.len]; exact h)
  have oat : ∀ j a, OAt (env ++ List.replicate n .un) (σ ++ List.replicate n none) j a ↔ OAt env σ j a := fun j a => by
    constructor
    · rintro ⟨⟨s, e1, e2⟩, e3⟩
      rcases getE e1 with ⟨e, h⟩ | rfl
      · rw [getS h] at e3; exact ⟨⟨s, e, e2⟩, e3⟩
      · simp [isOwn] at e2
    · rintro ⟨⟨s, e1, e2⟩, e3⟩
      have h := (List.getElem?_eq_some_iff.mp e1).1
      exact ⟨⟨s, by rw [List.getElem?_append_left h]; exact e1, e2⟩, by rw [getS h]; exact e3⟩
  have oa : ∀ a, OA (env ++ List.replicate n .un) (σ ++ List.replicate n none) a ↔ OA env σ a := fun a => ⟨fun ⟨j, z⟩ => ⟨j, (oat j a).mp z⟩, fun ⟨j, z⟩ => ⟨j, (oat j a).mpr z⟩⟩
  have hh : ∀ a, hid T (env ++ List.replicate n .un) (σ ++ List.replicate n none) a ↔ hid T env σ a := fun a => by rw [hid, oa a]
  refine ⟨⟨by simp [ok.len], fun j s e => ?_, fun i j a x y => ok.inj i j a ((oat i a).mp x) ((oat j a).mp y), fun a z => ok.dis a ((oa a).mp z), ok.thr⟩, oa, fun a => ?_⟩
  · rw [mask_congr hh]
    rcases getE e with ⟨e, h⟩ | rfl
    · rw [getS h]; exact ok.slot j s e
    · trivial
  · constructor
    · rintro ⟨j, d, e1, e2⟩
      rcases getE e1 with ⟨e, h⟩ | h
      · rw [getS h] at e2; exact ⟨j, d, e, e2⟩
      · cases h
    · rintro ⟨j, d, e1, e2⟩
      have h := (List.getElem?_eq_some_iff.mp e1).1
      exact ⟨j, d, by rw [List.getElem?_append_left h]; exact e1, by rw [getS h]; exact e2⟩
end
theorem finD_ok : ∀ {fl : List Bool} {env : En} {k : List D → Prop}, finD fl env k → ∃ os, os.length = lent fl ∧ k os ∧ (envO fl os).length = fl.length ∧ ∀ (j : Nat) (s : Slot), (envO fl os)[j]? = some s → (∃ d, s = .own d ∧ env[j]? = some s ∧ fl[j]? = some true) ∨ s = .un
  | [], _, _, h => ⟨[], rfl, h, rfl, fun j s e => by simp [envO] at e⟩
  | true :: fl, [], _, h => h.elim
  | true :: fl, .un :: env, _, h => h.elim
  | true :: fl, .sh _ :: env, _, h => h.elim
  | true :: fl, .lock _ :: env, _, h => h.elim
  | true :: fl, .own d :: env, k, h => by
    obtain ⟨os, h1, h2, h3, h4⟩ := finD_ok (fl := fl) (env := env) (k := fun ds => k (d :: ds)) h
    refine ⟨d :: os, congrArg (· + 1) h1, h2, congrArg (· + 1) h3, fun j s e => ?_⟩
    cases j with
    | zero => simp [envO] at e; subst e; exact .inl ⟨d, rfl, rfl, rfl⟩
    | succ j => simpa using h4 j s (by simpa [envO] using e)
  | false :: fl, [], _, h => h.elim
  | false :: fl, s0 :: env, k, h => by
    obtain ⟨os, h1, h2, h3, h4⟩ := finD_ok (fl := fl) (env := env) (k := k) h
    refine ⟨os, h1, h2, congrArg (· + 1) h3, fun j s e => ?_⟩
    cases j with
    | zero => simp [envO] at e; subst e; exact .inr rfl
    | succ j => simpa using h4 j s (by simpa [envO] using e)
theorem envA_len : ∀ {fl : List Bool} {ds : List D}, ds.length = fl.length → (envA fl ds).length = fl.length
  | [], [], _ => rfl
  | true :: fl, d :: ds, h => congrArg (· + 1) (envA_len (by simpa using h))
  | false :: fl, d :: ds, h => congrArg (· + 1) (envA_len (by simpa using h))
theorem envA_own : ∀ {fl : List Bool} {ds : List D} {j : Nat} {s : Slot}, (envA fl ds)[j]? = some s → (isOwn s).isSome = true → fl[j]? = some true
  | [], _, _, _, h, _ => by simp [envA] at h
  | true :: fl, [], _, _, h, _ => by simp [envA] at h
  | false :: fl, [], _, _, h, _ => by simp [envA] at h
  | true :: fl, d :: ds, 0, s, h, h' => rfl
  | false :: fl, d :: ds, 0, s, h, h' => by simp [envA] at h; subst h; simp [isOwn] at h'
  | true :: fl, d :: ds, j + 1, s, h, h' => by simpa using envA_own (fl := fl) (ds := ds) (j := j) (by simpa [envA] using h) h'
  | false :: fl, d :: ds, j + 1, s, h, h' => by simpa using envA_own (fl := fl) (ds := ds) (j := j) (by simpa [envA] using h) h'
/-- A DEF'S PROMISE by its body over data -/
theorem body_ok {K : PySem.W.Frag} {C : Nat → Ct} {f : Fn} {N : List Str} {vs : List V} {H : Hp} {Q : VK} {E : XK} (hN : f.ns = N.length) (h : spF K f.fl (wpFn C f) vs H Q E) :
    tS K (fun j => f.fl[j]? = some true) (wpSs C f.body) { nx := fun _ H' => Q .non H', rt := Q } (L2.start N vs) H := by
  obtain ⟨T, ds, k, l1, l2, ok, ⟨l3, hw⟩, q⟩ := h
  have eS : L2.start N vs = vs.map some ++ List.replicate (f.ns - ds.length) none := by unfold L2.start; rw [hN, l1, l2]
  obtain ⟨okS, oaS, maS⟩ := ok.extend (f.ns - ds.length)
  rw [eS]
  have lA := envA_len l2
  -- what is handed back
  have fin : ∀ {env' : En} {σ' : L2.St} {H' : Hp} {x : D} {fr : Bool} {v : V}, Ok K T env' σ' H' → Step0 (startE f ds) (vs.map some ++ List.replicate (f.ns - ds.length) none) H env' σ' H' →
      kio (fun j => f.fl[j]? = some true) (vs.map some ++ List.replicate (f.ns - ds.length) none) σ' → Res K T env' σ' (fr0 (startE f ds) (vs.map some ++ List.replicate (f.ns - ds.length) none) H) H' v x fr →
      finD f.fl env' (fun os => k x fr os) → Q v H' := fun {env' σ' H' x fr v} ok' st' ki r' hf => by
    obtain ⟨os, lo, hk, le, at'⟩ := finD_ok hf
    have sEq : ∀ j : Nat, f.fl[j]? = some true → (vs.map some)[j]? = σ'[j]? := fun j hj => by
      rw [ki.2 j hj]
      have hl : j < (vs.map some).length := by rw [List.length_map, l1]; exact (List.getElem?_eq_some_iff.mp hj).1
      rw [List.getElem?_append_left hl]
    have oat : ∀ j a, OAt (envO f.fl os) (vs.map some) j a → OAt env' σ' j a ∧ f.fl[j]? = some true := fun j a ⟨⟨s, e1, e2⟩, e3⟩ => by
      rcases at' j s e1 with ⟨d, rfl, e4, e5⟩ | rfl
      · exact ⟨⟨⟨_, e4, rfl⟩, by rw [← sEq j e5]; exact e3⟩, e5⟩
      · simp [isOwn] at e2
    have oa : ∀ a, OA (envO f.fl os) (vs.map some) a → OA env' σ' a := fun a ⟨j, z⟩ => ⟨j, (oat j a z).1⟩
    have cut : ∀ (T' : Addr → Prop), Ok K T' env' σ' H' → Ok K T' (envO f.fl os) (vs.map some) H' ∧ Le (mask (hid T' env' σ') H') (mask (hid T' (envO f.fl os) (vs.map some)) H') := fun T' o => by
      have m : Le (mask (hid T' env' σ') H') (mask (hid T' (envO f.fl os) (vs.map some)) H') := mask_sub fun b z => z.elim .inl fun z => .inr (oa b z)
      refine ⟨⟨by rw [le, List.length_map, l1], fun j s e => ?_, fun i j a x y => o.inj i j a (oat i a x).1 (oat j a y).1, fun a z => o.dis a (oa a z), o.thr⟩, m⟩
      rcases at' j s e with ⟨d, rfl, e4, e5⟩ | rfl
      · obtain ⟨x, e1, xs, ds', e2, e3, e4⟩ := o.slot j _ e4
        exact ⟨x, by rw [sEq j e5]; exact e1, xs, ds', e2, e3, e4.mono m⟩
      · trivial
    obtain ⟨okO, mO⟩ := cut T ok'
    have maO : ∀ b, MA (envO f.fl os) (vs.map some) b → MA env' σ' b := fun b ⟨j, d, e1, e2⟩ => by
      rcases at' j _ e1 with ⟨d', e, e4, e5⟩ | e
      · exact ⟨j, d, e4, by rw [← sEq j e5]; exact e2⟩
      · cases e
    refine q x fr os v H' lo okO ⟨fun b o e n => st'.keep b o e fun z => n ((maS b).mp z), fun b z => ?_, fun b z => ?_, st'.al, fun j d e => ?_⟩ ?_ hk
    · rcases st'.new b (oa b z) with z | z
      · exact .inl ((oaS b).mp z)
      · exact .inr z
    · rcases st'.newM b (maO b z) with z | z
      · exact .inl ((maS b).mp z)
      · exact .inr z
    · rcases at' j _ e with ⟨d', e, _⟩ | e <;> cases e
    · unfold Res at r' ⊢
      cases fr with
      | false =>
        simp only [Bool.false_eq_true, if_false] at r' ⊢
        exact r'.mono mO
      | true =>
        simp only [if_true] at r' ⊢
        obtain ⟨p, xs, ds', e1, e2, e3, e4, e5, e6, e7⟩ := r'
        obtain ⟨okP, mP⟩ := cut _ e6
        refine ⟨p, xs, ds', e1, e2, ?_, e4, e5, okP, e7.mono mP⟩
        rcases e3 with ⟨z, _⟩ | z
        · exfalso
          obtain ⟨j, ⟨s, g1, g2⟩, g3⟩ := (oaS p).mp z
          have hj := envA_own g1 g2
          -- p is lent: then it is owned still
          have : ∃ d, (envO f.fl os)[j]? = some (.own d) := by
            have key : ∀ {fl : List Bool} {os : List D} {j : Nat}, os.length = lent fl → fl[j]? = some true → ∃ d, (envO fl os)[j]? = some (.own d) := by
              intro fl
              induction fl with
              | nil => intro os j _ h; simp at h
              | cons b fl ih =>
                intro os j hl h
                cases b with
                | true =>
                  cases os with
                  | nil => simp [lent] at hl
                  | cons d os =>
                    cases j with
                    | zero => exact ⟨d, rfl⟩
                    | succ j =>
                      obtain ⟨d', e⟩ := ih (os := os) (j := j) (by simpa [lent] using hl) (by simpa using h)
                      exact ⟨d', by simpa [envO] using e⟩
                | false =>
                  cases j with
                  | zero => simp at h
                  | succ j =>
                    obtain ⟨d', e⟩ := ih (os := os) (j := j) (by simpa [lent] using hl) (by simpa using h)
                    exact ⟨d', by simpa [envO] using e⟩
            exact key lo hj
          obtain ⟨d, hd⟩ := this
          rcases at' j _ hd with ⟨d', _, g4, _⟩ | g
          · exact e6.dis p ⟨j, ⟨_, g4, rfl⟩, by rw [← sEq j hj]; exact g3⟩ (.inr rfl)
          · cases g
        · exact z
  refine ⟨T, startE f ds, _, okS, hw, fun env' σ' H' ok' st' ki hn => ?_, fun _ _ _ _ _ _ h => h.elim, fun _ _ _ _ _ _ h => h.elim, fun x fr env' v σ' H' ok' st' ki r' hr => fin ok' st' ki r' hr⟩
  exact fin (x := .none) (fr := false) ok' st'.z ki (.of .non) hn
end G

/-! G11: promises of defs where no text of an object is being told (for repr); repr -/
namespace G
open PySem PySem.Spec L2
open PyProof.Rows hiding St
/-- as FnOk, where no repr is under way -/
structure FnG (P : Program) (w : World) (K : PySem.W.Frag) (mg : Str → Option Value) (base : Heap) (CX : CXT) (k : Nat) (f : Addr) (fd : FuncData) (ps : List Str) (sp : Sp) : Prop where
  len : ∀ vs H Q E, sp vs H Q E → vs.length = ps.length
  go : ∀ (A : Around) (outer : List Env) (s : Shared) (H : Hp) (args : PySem.Args) (us : List Value) (vs : List V) (Q : VK) (E : XK), Room k A → A.guards = some [] → Env0 P w K mg base A outer s H →
    BindsTo s fd args (ps.zip us) → Vals vs us → sp vs H Q E → codeAny (model P w) A (.call (.ref f) args) (CR CX outer P w H s Q E) s
theorem FnG.up {P : Program} {w : World} {K : PySem.W.Frag} {mg : Str → Option Value} {base : Heap} {CX : CXT} {j k : Nat} {f : Addr} {fd : FuncData} {ps : List Str} {sp : Sp} (F : FnG P w K mg base CX j f fd ps sp) (h : j ≤ k) : FnG P w K mg base CX k f fd ps sp :=
  ⟨F.len, fun A o s H a us vs Q E hr => F.go A o s H a us vs Q E (hr.mono h)⟩
section
variable {X : Cx} {k : Nat} {f : Addr} {fd : FuncData} {ps : List Str} {sp : Sp} {E : XK} {x : Str} {p pos : Pos} {e : Expr} {es : List Expr} {t : TA}
/-- the callee runs, for a body that stands where no repr is under way -/
theorem FnG.runs (F : FnG X.prog X.w X.K X.mg X.base CX0 k f fd ps sp) (hr : Room k X.A) (hgd : X.A.guards = some []) (hb : Binds X.K fd ps []) {pins : List (Addr × Obj)} {σ : L2.St} {H : Hp} {s : Shared} {Q : VK} {us : List Value} {vs : List V}
    (I : Inv X pins σ H s) (r : Vals vs us) (h : sp vs H Q E) : wpAny (model X.prog X.w) X.A (call (.ref f) us) (EP X pins σ Q) X.xe s := by
  have lu : us.length = ps.length := r.length.symm.trans (F.len _ _ _ _ h)
  have bt := hb s us I.kIn (by rw [List.append_nil]; exact lu)
  rw [List.append_nil] at bt
  have ran := F.go X.A X.stack s H ⟨us, []⟩ us vs Q E hr hgd I.env0 bt r h
  refine wpAny_call (codeAny_mono ran fun res s2 q => ?_)
  match res, q with
  | .ok (.ret u), q => exact I.after q
  | .error _, q => exact False.elim q
theorem FnG.call1 (F : FnG X.prog X.w X.K X.mg X.base CX0 k f fd ps sp) (hr : Room k X.A) (hgd : X.A.guards = some []) (hb : Binds X.K fd ps []) (hg : Gl X x) (hm : X.mg x = some (.ref f)) (hk : PySem.W.keepIn X.K (.ref f) = true)
    (ha : PA X (e :: es) t) (hdb : (x == ("__debug__" : Str)) = false) (hs : starEach (e :: es) X.env = (false, eval e X.env) :: starEach es X.env) (hpl : (backTo pos (starEach es X.env)).any (·.1) = false) :
    PE X (.Call (.Name x p) (e :: es) [] pos) (tCall sp [] E t) := by
  constructor
  intro pins s σ H Q I h
  apply wpAny_Call_Name_kw
  apply ld_glob I hg hm _ hdb
  apply PySem.W.callWith_K (h₀ := X.base) I.ok.mod.kin hk _ hs hpl
  refine thn (ha.run pos pins s σ H _ I h) fun us s1 ar => ?_
  obtain ⟨vs, H1, I1, rv, q⟩ := ar
  rw [List.append_nil] at q
  exact ⟨I1.kIn, F.runs hr hgd hb I1 rv q⟩
theorem FnG.call0 (F : FnG X.prog X.w X.K X.mg X.base CX0 k f fd ps sp) (hr : Room k X.A) (hgd : X.A.guards = some []) (hb : Binds X.K fd ps []) (hg : Gl X x) (hm : X.mg x = some (.ref f)) (hk : PySem.W.keepIn X.K (.ref f) = true) (hdb : (x == ("__debug__" : Str)) = false) :
    PE X (.Call (.Name x p) [] [] pos) (tCall sp [] E tNil) := by
  constructor
  intro pins s σ H Q I h
  apply wpAny_Call_Name_kw
  apply ld_glob I hg hm _ hdb
  exact PySem.W.callWith_K0 I.kIn hk (F.runs (us := []) hr hgd hb I .nil h)
end
/-- a def of the text, by its body -/
theorem fnG_of {P : Program} {w : World} {K : PySem.W.Frag} {mg : Str → Option Value} {base : Heap} {k : Nat} {f : Addr} {x qual : Str} {params : Arguments} {body : List Stmt} {scope : Scope} {fd : FuncData} {N ps : List Str} {sp : Sp}
    (F : FunD K x qual params body scope [] [] f fd) (S : FnScope N ps scope) (len : ∀ vs H Q E, sp vs H Q E → vs.length = ps.length)
    (hbody : ∀ (cdv : Value) (A : Around) (outer : List Env) (s : Shared) (H : Hp) (vs : List V) (Q : VK) (E : XK), Room k (A.deeper (envOfC qual scope s.heap.objs.size f cdv)) → A.guards = some [] → sp vs H Q E →
      ∃ t, PSs (cxOf CX0 P w K mg base N qual scope f cdv A outer s H E).nox body t ∧ t { nx := fun _ H' => Q .non H', rt := Q } (L2.start N vs) H) : FnG P w K mg base CX0 (k + 1) f fd ps sp := by
  obtain ⟨oc, od, dV, kV, doc, pm, an, cdv, ct, osl, rfl, lk, hcd, _, _⟩ := F.ex
  refine ⟨len, ?_⟩
  intro A outer s H args us vs Q E hr hgd e0 hb rv hsp
  obtain ⟨t, ht, hq⟩ := hbody cdv A outer s H vs Q E (hr.deeper _) hgd hsp
  have stays : ∀ b o, base.get? b = some o → s.heap.get? b = some o := fun b o z => (e0.bs b o z).1
  have KX := e0.mod.kin.keeps stays
  have params_ok : ∀ y ∈ ps.zip us, scope.names.lookup y.1 = some .local ∨ (scope.names.lookup y.1 = some .cell ∧ ((cellsFrom (s.heap.objs.size + 1) scope.names []).lookup y.1).isSome = true) := by
    intro y hy
    rcases S.par y.1 (List.of_mem_zip (b := y.2) hy).1 with z | z
    · exact .inl z
    · exact .inr ⟨z, PySem.W.cellsFrom_some _ _ _ (.inl z)⟩
  apply codeAny_call_function hr.depth (KX _ _ lk) rfl S.co S.gen rfl (PySem.W.codeRec_of KX hcd)
  apply hb
  apply wpAny_newFunctionEnv_cells S.kind params_ok
  intro env he s1 ic
  subst he
  refine ⟨(e0.mod.nolimit.keeps stays).keeps ic.toInCall.keep, codeAny_func ?_⟩
  have I := inv_start (CX := CX0) (E := E) S hr.hd e0 (len _ _ _ _ hsp) rv ic
  have done := ht.nox.run [] s1 (L2.start N vs) H _ I hq
  refine wpAny_mono done (fun fl s2 q => ?_) fun _ _ q => q
  match fl, q with
  | .ret _, ⟨v, σ2, H2, J, rv2, z⟩ => exact ⟨v, H2, J.os, J.bare, J.base, J.hok, rv2, z⟩
  | .next, ⟨σ2, H2, J, z⟩ => exact ⟨.non, H2, J.os, J.bare, J.base, J.hok, rfl, z⟩
  | .brk, ⟨_, _, _, z⟩ => exact False.elim z
  | .cont, ⟨_, _, _, z⟩ => exact False.elim z
/-- the law's call, by its promise -/
theorem lawG {P : Program} {w : World} {K : PySem.W.Frag} {mg mb : Str → Option Value} {k : Nat} {fa a : Addr} {fd : FuncData} {x : Str} {sp : Sp} {s₁ : Shared} {vs : List Value} {ns : List Int}
    (KX : K.In s₁.heap) (hns : s₁.heap.Ns mainGlobals mg) (hb : s₁.heap.Ns builtinsNs mb) (hbb : ∀ x : Str, x ≠ "__name__" → mb x = bootBuiltins x) (hlim : s₁.heap.NoLimit) (hg : s₁.gens = #[])
    (ha : s₁.heap.get? a = some { cls := .type "list", data := .seq vs.toArray }) (hi : IntsAre vs ns) (hl : ns.length ≤ sizeLine) (hr : Room k callerA)
    (F : ∀ base : Heap, K.In base → base.Ns mainGlobals mg → FnG P w K mg base CX0 k fa fd [x] sp) (hbind : ∀ (s : Shared) (u : Value), BindsTo s fd ⟨[u], []⟩ [(x, u)])
    (hsp : ∀ H : Hp, Only H → SqL K H a (ns.map V.int) → sp [.ref a] H (fun v _ => v = .bl true) fun _ _ _ => False) :
    codeAny (model P w) callerA (.call (.ref fa) ⟨[.ref a], []⟩) (fun r s' => r = .ok (.ret (.bool true)) ∧ OldK s₁.heap s'.heap ∧ s'.os = s₁.os ∧ AllBare s'.gens) s₁ := by
  have rv := vals_ints hi
  have from_ : ∀ H : Hp, Only H → SqL K H a (ns.map V.int) → HOk P w H s₁.heap → (∀ b, H b ≠ none → b = a) → (H a ≠ none → K.lookup a = none) →
      codeAny (model P w) callerA (.call (.ref fa) ⟨[.ref a], []⟩) (fun r s' => r = .ok (.ret (.bool true)) ∧ OldK s₁.heap s'.heap ∧ s'.os = s₁.os ∧ AllBare s'.gens) s₁ := by
    intro H hO hS hok hA hK
    have untr : ∀ b, b ≠ a → H b = none := fun b n => Classical.byContradiction fun z => n (hA b z)
    have hidNs : ∀ {b : Addr} {m : Str → Option Value}, s₁.heap.Ns b m → (hidT s₁.heap H).Ns b m := by
      rintro b m ⟨o, es, ep, e, d, r⟩
      refine ⟨o, es, ep, hidT_get e (untr b fun z => ?_), d, r⟩
      subst z
      rw [ha] at e
      cases e
      cases (show Data.seq vs.toArray _ = Data.dict es ep from d)
    have hidK : K.In (hidT s₁.heap H) := by
      intro b o e
      refine hidT_get (KX b o e) ?_
      by_cases n : b = a
      · subst n
        refine Classical.byContradiction fun z => ?_
        rw [hK z] at e; cases e
      · exact untr b n
    have hMod : Mod K mg (hidT s₁.heap H) := by
      obtain ⟨mc, c1, c2⟩ := hlim
      exact ⟨hidK, hidNs hns, ⟨mb, hidNs hb, hbb⟩, ⟨mc, hidNs c1, c2⟩⟩
    have e0 : Env0 P w K mg (hidT s₁.heap H) callerA [] s₁ H := ⟨rfl, hMod, fun b o e => of_hidT e, by rw [hidT_size]; exact Nat.le_refl _, trivial, fun b z => (List.not_mem_nil z).elim, hok, .of_eq hg⟩
    have ran := (F _ hidK (hidNs hns)).go callerA [] s₁ H ⟨[.ref a], []⟩ [.ref a] [.ref a] _ _ hr rfl e0 (hbind s₁ (.ref a)) (.cons rfl .nil) (hsp H hO hS)
    refine codeAny_mono ran fun r s2 q => ?_
    match r, q with
    | .error _, q => exact False.elim q
    | .ok (.ret u), ⟨v, H2, os, bare, un, hok2, ru, (q : v = .bl true)⟩ =>
      subst q
      have eu : u = Value.bool true := ru
      subst eu
      refine ⟨rfl, OldK.of_keep fun b o e => ?_, os, bare⟩
      by_cases n : H b = none
      · exact un.keep b o e n (fun z => (List.not_mem_nil z).elim) (fun z => (List.not_mem_nil z).elim)
      · rcases hO b with z | ⟨ob, xs, z⟩
        · exact absurd z n
        · have h1 := (hok b _ z).1
          have h2 := (hok2 b _ (un.frzs b ob _ z)).1
          rw [h1] at e; cases e
          exact h2
  by_cases hk : K.lookup a = none
  · let o : Obj := { cls := .type "list", data := .seq vs.toArray }
    let H : Hp := fun b => if b = a then some (.frz o (.lst (ns.map V.int))) else none
    have at_a : H a = some (.frz o (.lst (ns.map V.int))) := if_pos rfl
    have off : ∀ b, b ≠ a → H b = none := fun b n => if_neg n
    refine from_ H (fun b => ?_) (.inl (.inr ⟨o, at_a⟩)) (fun b u z => ?_) (fun b z => Classical.byContradiction fun n => z (off b n)) fun _ => hk
    · by_cases n : b = a
      · subst n; exact .inr ⟨o, _, at_a⟩
      · exact .inl (off b n)
    · by_cases n : b = a
      · subst n
        rw [at_a] at z; cases z
        exact ⟨ha, by rw [List.length_map]; exact hl, vs, _, rv, ha⟩
      · rw [off b n] at z; cases z
  · obtain ⟨o, hk⟩ := Option.ne_none_iff_exists'.mp hk
    have e := KX a o hk
    rw [ha] at e; cases e
    have lv := hi.length
    refine from_ (fun _ => none) (fun _ => .inl rfl) (.inr ⟨_, vs.toArray, _, hk, rfl, rfl, rfl, ?_, by simpa using rv⟩) (fun b u z => ?_) (fun b z => absurd rfl z) fun z => absurd rfl z
    · rw [List.size_toArray, lv]; exact hl
    · cases (show (none : Option HO) = some u from z)
/-- a law over a head by facts -/
theorem walkG {l : PySem.W.OpenLaw} {n k : Nat} {q : Program} {loose : List Str} {XP : (Str → Option Value) → Heap → Prop} {YP : World → Heap → Prop} {d : DefRec} {x : Str} (hn : l.most = some n) (hn2 : n ≤ sizeLine) (hdf : d.params.defaults = []) (hr : Room k callerA)
    (F : ∀ (w : World) (mg : Str → Option Value) (fa : Addr) (h : Heap), YP w h → h.Ns mainGlobals mg → mg d.name = some (.ref fa) → ∃ (K : PySem.W.Frag) (fd : FuncData) (sp : Sp), K.In h ∧ (∀ (s : Shared) (u : Value), BindsTo s fd ⟨[u], []⟩ [(x, u)]) ∧
      (∀ (H : Hp) (a : Addr) (ns : List Int), ns.length ≤ n → Only H → SqL K H a (ns.map V.int) → sp [.ref a] H (fun v _ => v = .bl true) fun _ _ _ => False) ∧ ∀ base : Heap, K.In base → base.Ns mainGlobals mg → FnG l.prog w K mg base CX0 k fa fd [x] sp) :
    PySem.W.WalkO q loose XP YP l.row.toRowW d [] (fun f vs => PySem.call f vs) := by
  refine Att.attach_call hn hdf fun w s₀ s₁ mg mb fa o pm cd doc a vs ns G Y ho hd hcd hmg hobj hints hlen hg => ?_
  obtain ⟨K, fd, sp, KX, hb, hsp, hF⟩ := F w mg fa _ Y G.T.g hmg
  exact lawG KX G.T.g G.T.b G.T.builtins G.T.nolimit hg hobj hints (Nat.le_trans hlen hn2) hr hF hb fun H hO hS => hsp H a ns hlen hO hS
/-! ### repr -/
section
variable {X : Cx}
theorem b_repr (hu : X.A.units + 65 < cLine) (hgd : X.A.guards = some []) : CallR X (.builtin "repr") (rB X.K (blt1 .repr)) := by
  intro pins s σ H xs us Q I rv h0
  obtain ⟨Z, u, x, k, rfl, hz, hx, hw, q⟩ := h0
  obtain ⟨h1, h2, h3, h4⟩ := (show u.showable = true ∧ SeqAt.shaped u = true ∧ u.shown.length ≤ sizeLine ∧ k (.str u.shown) false from hw)
  obtain ⟨v, rfl, ru⟩ := rv.one
  have dp := hx.dp (canLay_shaped h2)
  obtain ⟨as, rd⟩ := Dp.reads I u x v dp ru
  have fin : ∀ (h' : Heap) (t : Tok) (tk : Nat), (∀ b o, s.heap.get? b = some o → h'.get? b = some o) → EP X pins σ Q (.str u.shown t) { s with heap := h', toks := tk } := fun h' t tk hk =>
    ⟨.str u.shown, H, I.kept hk, ⟨t, rfl⟩, fin_flat q (.str _) h4⟩
  have stay : ∀ b o, s.heap.get? b = some o → s.heap.get? b = some o := fun _ _ e => e
  have viaRef : ∀ (a : Addr), v = .ref a → wpAny (model X.prog X.w) X.A (call (.builtin "repr") [v]) (EP X pins σ Q) X.xe s := by
    rintro a rfl
    have dd := SeqAt.depth_of_shaped h2
    exact repr_of_reads' rd h1 (PyData.noDict_hsm (PyData.hasDict_of_canLay u (canLay_shaped h2))) hgd (by omega) stay (fun h' t tk hk => fin h' t tk hk) h3
  cases rd with
  | none => exact PySem.P.repr_of_none (fin s.heap _ _ stay)
  | bool b => exact PySem.P.repr_of_bool (fin s.heap _ _ stay)
  | int i t => exact PySem.P.repr_of_int (of_decide_eq_true h1) (fin s.heap _ _ stay)
  | str z t => exact PySem.P.repr_of_str (fin s.heap _ _ stay) h3
  | _ => exact viaRef _ rfl

theorem rep_bools {K : PySem.W.Frag} {M : Hp} : ∀ {vs : List V} {bs : List Bool}, RepAll K M vs (bs.map PyData.bool) → vs = bs.map V.bl
  | _, [], r => by cases r; rfl
  | _, b :: bs, r => by
    cases r with
    | cons h r =>
      cases h
      rw [rep_bools r]; rfl
theorem b_all (hc : X.calm = true) : CallR X (.builtin "all") (rB X.K (blt1 .all)) := by
  intro pins s σ H xs us Q I rv h0
  obtain ⟨Z, u, x, k, rfl, hz, hx, hw, q⟩ := h0
  unfold blt1 at hw
  split at hw <;> first | exact hw.elim | skip
  all_goals (rename_i he; first | cases he | skip)
  obtain ⟨bs, rfl, hk⟩ := hw
  obtain ⟨a, ys, rfl, ha, ra⟩ := hx.lst (mask_le Z H)
  cases rep_bools ra
  exact cr_all hc pins s σ H _ us Q I rv ⟨a, bs, rfl, .inl (.inl ha), fin_flat q (.bl _) hk⟩
theorem b_any (hc : X.calm = true) : CallR X (.builtin "any") (rB X.K (blt1 .any)) := by
  intro pins s σ H xs us Q I rv h0
  obtain ⟨Z, u, x, k, rfl, hz, hx, hw, q⟩ := h0
  unfold blt1 at hw
  split at hw <;> first | exact hw.elim | skip
  all_goals (rename_i he; first | cases he | skip)
  obtain ⟨bs, rfl, hk⟩ := hw
  obtain ⟨a, ys, rfl, ha, ra⟩ := hx.lst (mask_le Z H)
  cases rep_bools ra
  exact cr_any hc pins s σ H _ us Q I rv ⟨a, bs, rfl, .inl (.inl ha), fin_flat q (.bl _) hk⟩
end
end G

/-! G12: from the row's syntax to the small language -/
namespace G
open PySem PySem.Spec L2
open PyProof.Rows hiding St
/-- where code stands: its slots, its scope, the names that may be stored, the functions known, the built-in names known to be free -/
structure CC where
  N : List Str
  sc : Scope
  stb : List Str
  fns : List (Str × Nat × List Bool)
  bl : List Str
  cs : List (Str × D)
def isGl (c : CC) (x : Str) : Bool := c.sc.names.lookup x == some .globalImplicit && !(x == ("__debug__" : Str)) && !(x == ("__name__" : Str))
def slotOf (c : CC) (x : Str) : Option Nat :=
  if x == ("__debug__" : Str) || x == ("__classdict__" : Str) then none else
  match c.sc.names.lookup x with
  | some .local => c.N.idxOf? x
  | some .cell => c.N.idxOf? x
  | some .free => c.N.idxOf? x
  | _ => none
def noStar : Expr → Bool
  | .Starred .. => false
  | _ => true
def noSlice : Expr → Bool
  | .Slice .. => false
  | _ => true
def plainT : Expr → Bool
  | .UnaryOp .Not _ _ => false
  | .BoolOp .. => false
  | .IfExp .. => false
  | .Compare .. => false
  | _ => true
def noComp : Expr → Bool
  | .ListComp .. => false
  | .SetComp .. => false
  | .DictComp .. => false
  | _ => true
def noSetE : Expr → Bool
  | .Set .. => false
  | _ => true
def bname : Blt → String
  | .len => "len" | .int => "int" | .abs => "abs" | .tuple => "tuple" | .list => "list" | .all => "all" | .any => "any" | .repr => "repr"
def bval : Blt → Value
  | .len => .builtin "len" | .int => .type "int" | .abs => .builtin "abs" | .tuple => .type "tuple" | .list => .type "list" | .all => .builtin "all" | .any => .builtin "any" | .repr => .builtin "repr"
def bltOf (x : Str) : Option Blt := [Blt.len, .int, .abs, .tuple, .list, .all, .any, .repr].find? fun b => x == Str.ofString (bname b)
def tyOf (x : Str) : Option Ty := [Ty.int, .bool, .str, .tuple, .list, .dict].find? fun t => x == Str.ofString (tyN t)
def cConst : Const → E
  | .none => .cst .none
  | .bool b => .cst (.bool b)
  | .int i => .cst (.int i)
  | .str s => .cst (.str s)
  | _ => .bad
abbrev CE := CC → Expr → E
abbrev CT := CC → Expr → T
/-- displays -/
def cEs (f : CE) (c : CC) : List Expr → Option Es
  | [] => some .nil
  | e :: es => if noStar e then (cEs f c es).map (.cons (f c e)) else none
def cAs (f : CE) (c : CC) : List Bool → List Expr → Option As
  | [], [] => some .nil
  | true :: fl, .Name x p :: es => match slotOf c x with
    | some i => (cAs f c fl es).map (.io i)
    | none => none
  | false :: fl, e :: es => if noStar e then (cAs f c fl es).map (.ev (f c e)) else none
  | _, _ => none
/-- a and b and .., as values -/
def cBool (f : CE) (c : CC) (op : BoolOp) : List Expr → E
  | [] => .bad
  | [e] => f c e
  | e :: e' :: es => match op with
    | .And => .and (f c e) (cBool f c op (e' :: es))
    | .Or => .or (f c e) (cBool f c op (e' :: es))
def cBoolT (f : CT) (c : CC) (op : BoolOp) : List Expr → T
  | [] => .val .bad
  | [e] => f c e
  | e :: e' :: es => match op with
    | .And => .and (f c e) (cBoolT f c op (e' :: es))
    | .Or => .or (f c e) (cBoolT f c op (e' :: es))
/-- targets: the slots they may store -/
def cTg (c : CC) : Nat → Expr → Option Tg
  | _, .Name x _ => if c.stb.contains x then (slotOf c x).map .nm else none
  | n + 1, .Tuple es _ _ => if es.all noStar then (es.mapM (cTg c n)).map .tup else none
  | _, _ => none
def tgSlots : Nat → Tg → List Nat
  | _, .nm i => [i]
  | n + 1, .tup ts => ts.flatMap (tgSlots n)
  | 0, .tup _ => []
def isTupE : Expr → Bool
  | .Tuple .. => true
  | _ => false
def cWk (f : CE) (c : CC) (tg : Expr) : Expr → Option Wk
  | .Call (.Name x p) [a] [] q =>
    if x == ("range" : Str) && isGl c x && c.bl.contains x && noStar a then some (.rng (f c a))
    else if x == ("enumerate" : Str) && isGl c x && c.bl.contains x && noStar a && isTupE tg then some (.enum (f c a))
    else some (.of (f c (.Call (.Name x p) [a] [] q)))
  | .Call (.Name x p) [a, b] [] q =>
    if x == ("range" : Str) && isGl c x && c.bl.contains x && noStar a && noStar b then some (.rng2 (f c a) (f c b))
    else some (.of (f c (.Call (.Name x p) [a, b] [] q)))
  | e => if noSetE e then some (.of (f c e)) else none
/-- a comprehension's own names with their slots -/
def ownOf (N : List Str) (scope : Scope) : List (Str × Nat) :=
  scope.names.filterMap fun y => if (y.2 == .local || y.2 == .cell) then (N.idxOf? y.1).map fun i => (y.1, i) else none
def blkOf (c : CC) (scope : Scope) : CC :=
  { c with sc := relS scope c.sc, stb := (scope.names.filter fun y => (y.2 == .local || y.2 == .cell) && scope.names.lookup y.1 == some y.2).map (·.1) }
def cLc (f : CE) (g : CT) (c : CC) (elt : Expr) (gs : List Comprehension) (scope : Scope) : Option E :=
  match gs with
  | [⟨tg, iter, ifs, 0⟩] =>
    let own := ownOf c.N scope
    let b := blkOf c scope
    if blkC c.N c.sc scope own && noSetE iter then
      match cTg b 9 tg, cWk f c tg iter with
      | some t, some it =>
        if (tgSlots 9 t).all (fun i => (own.map (·.2)).contains i) then
          match ifs with
          | [] => some (.comp (own.map (·.2)) (f b elt) t it .no)
          | [i] => some (.comp (own.map (·.2)) (f b elt) t it (.yes (g b i)))
          | _ => none
        else none
      | _, _ => none
    else none
  | _ => none
def cOpt (f : CE) (c : CC) : Option Expr → Oe
  | none => .no
  | some e => .yes (f c e)
def cCall (f : CE) (c : CC) (x : Str) (args : List Expr) : E :=
  if isGl c x then
    match c.fns.find? (fun y => y.1 == x) with
    | some (_, i, fl) => if args.all noStar then (match cAs f c fl args with | some as => .call i as | none => .bad) else .bad
    | none =>
      if c.bl.contains x then
        match args with
        | [a] => match bltOf x with
          | some b => if noStar a then .blt b (f c a) else .bad
          | none => .bad
        | [a, .Name t _] =>
          if x == ("isinstance" : Str) && noStar a && isGl c t && c.bl.contains t then
            match tyOf t with
            | some ty => .isi (f c a) ty
            | none => .bad
          else .bad
        | _ => .bad
      else .bad
  else .bad
/-- one layer -/
def stepE (f : CE) (g : CT) : CE := fun c e => match e with
  | .Name x _ => match slotOf c x with
    | some i => .var i
    | none => if isGl c x then (match c.cs.lookup x with
      | some d => .con d
      | none => .bad) else .bad
  | .Constant v _ _ => cConst v
  | .Tuple es _ _ => match cEs f c es with
    | some l => .tup l
    | none => .bad
  | .List es _ => match cEs f c es with
    | some l => .lst l
    | none => .bad
  | .Dict [] [] _ => .dic0
  | .BinOp a op b _ => .bin op (f c a) (f c b)
  | .UnaryOp .USub a _ => .neg (f c a)
  | .UnaryOp .Not a _ => .not (.val (f c a))
  | .BoolOp op es _ => cBool f c op es
  | .Compare a [op] [b] _ => if behindInMarks op b then .bad else .cmp op (f c a) (f c b)
  | .Compare a [o, p] [b, d] _ => if lastMarks [o, p] [b, d] then .bad else .chain o p (f c a) (f c b) (f c d)
  | .IfExp t a b _ => .ite (g c t) (f c a) (f c b)
  | .Subscript a (.Slice none none (some (.UnaryOp .USub (.Constant (.int 1) _ _) _)) _) _ => .rev (f c a)
  | .Subscript a (.Slice lo hi none _) _ => .slc (f c a) (cOpt f c lo) (cOpt f c hi)
  | .Subscript a i _ => if noSlice i then .idx (f c a) (f c i) else .bad
  | .Call (.Name x _) args [] _ => cCall f c x args
  | .Call (.Attribute (.Name x _) m q) [a] [] pos =>
    if m == ("pop" : Str) && q.endLine == pos.line && noStar a then
      match slotOf c x with
      | some i => .pop i (f c a)
      | none => .bad
    else .bad
  | .ListComp elt gs scope _ => (cLc f g c elt gs scope).getD .bad
  | _ => .bad
def stepT (f : CE) (g : CT) : CT := fun c e => match e with
  | .UnaryOp .Not a _ => .not (g c a)
  | .BoolOp op es _ => cBoolT g c op es
  | .Compare a [op] [b] _ => if behindInMarks op b then .val .bad else .val (.cmp op (f c a) (f c b))
  | .Compare a [o, p] [b, d] _ => if lastMarks [o, p] [b, d] then .val .bad else .val (.chain o p (f c a) (f c b) (f c d))
  | e => if plainT e then .val (f c e) else .val .bad
def cc : Nat → CE × CT
  | 0 => (fun _ _ => .bad, fun _ _ => .val .bad)
  | n + 1 => (stepE (cc n).1 (cc n).2, stepT (cc n).1 (cc n).2)

/-! ### what the compiler leans on -/
structure Cok (C : Nat → Ct) (c : CC) (X : Cx) : Prop where
  N : X.N = c.N
  sc : X.env.scope = c.sc
  kind : c.sc.kind = .function
  nd : c.N.Nodup
  calm : X.calm = true
  hu : X.A.units + 65 < cLine
  gd : X.A.guards = some []
  st : ∀ x, c.stb.contains x = true → Loc X.env.scope x ∧ (X.fn x = true ∨ X.env.scope.names.lookup x = some .local)
  fns : ∀ x i fl, (x, i, fl) ∈ c.fns → ∃ f fd ps k, FnG X.prog X.w X.K X.mg X.base CX0 k f fd ps (spF X.K fl (C i)) ∧ Room k X.A ∧ X.mg x = some (.ref f) ∧ PySem.W.keepIn X.K (.ref f) = true ∧ Binds X.K fd ps []
  bl : ∀ x, c.bl.contains x = true → X.mg x = none
  cs : ∀ x d, c.cs.lookup x = some d → ∃ v u, X.mg x = some u ∧ RelV v u ∧ ∀ M, Rep X.K M v d
  pass : PassesOwn (model X.prog X.w) X.A X.env X.xe
section
variable {C : Nat → Ct} {c : CC} {X : Cx}
theorem star_cons {a : Expr} (h : noStar a = true) (es : List Expr) (env : Env) : starEach (a :: es) env = (false, eval a env) :: starEach es env := by
  cases a <;> first | rfl | simp [noStar] at h
theorem star_any : ∀ {es : List Expr} (h : es.all noStar = true) (pos : Pos) (env : Env), (backTo pos (starEach es env)).any (·.1) = false
  | [], _, _, _ => rfl
  | a :: es, h, pos, env => by
    simp only [List.all_cons, Bool.and_eq_true] at h
    have ih := star_any h.2 pos env
    rw [star_cons h.1]
    unfold backTo at ih ⊢
    first
      | (simp only [List.map_cons, List.any_cons, Bool.false_or]; exact ih)
      | (simp; simpa using ih)
theorem asg_cons {a : Expr} (h : noStar a = true) (es : List Expr) (env : Env) : assignEach (a :: es) env = (false, assign a env) :: assignEach es env := by
  cases a <;> first | rfl | simp [noStar] at h
theorem isTrue_plain' {a : Expr} (h : plainT a = true) (env : Env) (whole : Sem Value) : isTrue a env whole = (do let v ← whole; standAt a.pos; holding [v] (truthy v)) := by
  cases a <;> first
    | rfl
    | (simp [plainT] at h; done)
    | (rename_i op x p; cases op <;> first | rfl | simp [plainT] at h)
theorem plainIx_of {a : Expr} (h : noSlice a = true) : PlainIx a := by
  intro o i
  cases a <;> first | rfl | simp [noSlice] at h
theorem swaps_no {a : Expr} (h : noComp a = true) (t : Option Expr) (l : Nat) (env : Env) : swapsWith a t l env = pure false := by
  cases a <;> first | rfl | simp [noComp] at h
theorem fold_no {a : Expr} (h : noSetE a = true) (env : Env) (x : Value) : foldedSetIterable a env x = pure x := by
  cases a <;> first | rfl | simp [noSetE] at h
theorem idx_get {N : List Str} {x : Str} {i : Nat} (h : N.idxOf? x = some i) : N[i]? = some x := by
  unfold List.idxOf? at h
  obtain ⟨hi, h2, _⟩ := List.findIdx?_eq_some_iff_getElem.mp h
  rw [List.getElem?_eq_getElem hi]
  exact congrArg some (by simpa using h2)
theorem slot_ok (ok : Cok C c X) {x : Str} {i : Nat} (h : slotOf c x = some i) : X.N[i]? = some x ∧ Vis X.env.scope x ∧ (x == ("__debug__" : Str)) = false ∧ (x == ("__classdict__" : Str)) = false := by
  unfold slotOf at h
  split at h
  · cases h
  · rename_i hn
    simp only [Bool.or_eq_true, not_or, Bool.not_eq_true] at hn
    rw [ok.N, ok.sc]
    split at h
    · rename_i e; exact ⟨idx_get h, .inl e, hn⟩
    · rename_i e; exact ⟨idx_get h, .inr (.inl e), hn⟩
    · rename_i e; exact ⟨idx_get h, .inr (.inr e), hn⟩
    · cases h
theorem var_ok (ok : Cok C c X) {x : Str} {i : Nat} (h : slotOf c x = some i) (p : Pos) : PE X (.Name x p) (tVar i) := by
  obtain ⟨h1, h2, h3, h4⟩ := slot_ok ok h
  exact pe_var h1 h2 h3 h4
theorem gl_ok (ok : Cok C c X) {x : Str} (h : isGl c x = true) : Gl X x ∧ (x == ("__debug__" : Str)) = false ∧ x ≠ ("__name__" : Str) := by
  unfold isGl at h
  simp only [Bool.and_eq_true, Bool.not_eq_true', beq_iff_eq] at h
  obtain ⟨⟨h1, h2⟩, h3⟩ := h
  refine ⟨?_, h2, by simpa using h3⟩
  show X.env.scope.names.lookup x = _
  rw [ok.sc]; exact h1
theorem e_bad {e : Expr} {w : En → (D → Bool → En → Prop) → Prop} (h : ∀ env k, ¬ w env k) : PE X e (tE X.K w) := ⟨fun pins s σ H Q I ⟨T, env, k, ok, hw, q⟩ => (h _ _ hw).elim⟩
theorem t_bad {e : Expr} {w : En → (Bool → En → Prop) → Prop} (h : ∀ env k, ¬ w env k) : PT X e (tT X.K w) := ⟨fun pins s σ H Q I ⟨T, env, k, ok, hw, q⟩ => (h _ _ hw).elim⟩
/-- what each layer promises -/
structure Good (C : Nat → Ct) (f : CE) (g : CT) : Prop where
  e : ∀ (X : Cx) (c : CC), Cok C c X → ∀ e, PE X e (tE X.K (wpE C (f c e))) ∧ ∀ i, f c e = .var i → PE X e (tVar i)
  t : ∀ (X : Cx) (c : CC), Cok C c X → ∀ e, PT X e (tT X.K (wpT C (g c e)))
variable {f : CE} {g : CT}
theorem Good.o (G : Good C f g) (ok : Cok C c X) (e : Expr) : PE X e (tO X.K (opO (f c e) (wpE C (f c e)))) := PE.opO (G.e X c ok e).1 (G.e X c ok e).2
theorem es_ok (G : Good C f g) (ok : Cok C c X) : ∀ {es : List Expr} {l : Es}, cEs f c es = some l → PA X es (tEs X.K (wpEs C l))
  | [], _, h => by
    cases h
    exact a_nil
  | e :: es, l, h => by
    unfold cEs at h
    split at h
    · rename_i hs
      cases q : cEs f c es with
      | none => rw [q] at h; cases h
      | some l' =>
        rw [q] at h; cases h
        exact a_cons (G.e X c ok e).1 (es_ok G ok q) (star_cons hs _ _)
    · cases h
theorem as_ok (G : Good C f g) (ok : Cok C c X) : ∀ {fl : List Bool} {es : List Expr} {l : As}, cAs f c fl es = some l → PA X es (tAs X.K fl (wpAs C l))
  | [], [], _, h => by
    cases h
    exact as_nil
  | [], _ :: _, _, h => by simp [cAs] at h
  | true :: fl, [], _, h => by simp [cAs] at h
  | false :: fl, [], _, h => by simp [cAs] at h
  | true :: fl, e :: es, l, h => by
    cases e with
    | Name x p =>
      unfold cAs at h
      cases q : slotOf c x with
      | none => simp [q] at h
      | some i =>
        simp only [q] at h
        cases q2 : cAs f c fl es with
        | none => rw [q2] at h; cases h
        | some l' =>
          rw [q2] at h; cases h
          exact as_io (var_ok ok q p) (as_ok G ok q2) (star_cons rfl _ _)
    | _ => simp [cAs] at h
  | false :: fl, e :: es, l, h => by
    have h : (if noStar e then (cAs f c fl es).map (.ev (f c e)) else none) = some l := by
      unfold cAs at h; exact h
    split at h
    · rename_i hs
      cases q : cAs f c fl es with
      | none => rw [q] at h; cases h
      | some l' =>
        rw [q] at h; cases h
        exact as_val (G.e X c ok e).1 (as_ok G ok q) (star_cons hs _ _)
    · cases h
theorem bool_ok (G : Good C f g) (ok : Cok C c X) (op : BoolOp) (pos : Pos) : ∀ es : List Expr, PE X (.BoolOp op es pos) (tE X.K (wpE C (cBool f c op es))) ∧ (∀ e, es = [e] → ∀ i, f c e = .var i → PE X (.BoolOp op es pos) (tVar i))
  | [] => ⟨e_bad fun _ _ h => h, fun e h => by cases h⟩
  | [e] => ⟨c_one (G.e X c ok e).1, fun e' h i hi => by cases h; exact pe_one ((G.e X c ok e).2 i hi)⟩
  | e :: e' :: es => ⟨by
      cases op with
      | And => exact c_and (G.o ok e) (bool_ok G ok .And pos (e' :: es)).1
      | Or => exact c_or (G.o ok e) (bool_ok G ok .Or pos (e' :: es)).1, fun e h => by cases h⟩
theorem boolT_ok (G : Good C f g) (ok : Cok C c X) (op : BoolOp) (pos : Pos) : ∀ es : List Expr, es ≠ [] → PW X (.BoolOp op es pos) (tT X.K (wpT C (cBoolT g c op es)))
  | [], h => absurd rfl h
  | [e], _ => by
    cases op with
    | And => exact t_and1 (G.t X c ok e)
    | Or => exact t_or1 (G.t X c ok e)
  | e :: e' :: es, _ => by
    cases op with
    | And => exact t_and (G.t X c ok e) (boolT_ok G ok .And pos (e' :: es) (by simp))
    | Or => exact t_or (G.t X c ok e) (boolT_ok G ok .Or pos (e' :: es) (by simp))
theorem bltOf_ok {x : Str} {b : Blt} (h : bltOf x = some b) : x = Str.ofString (bname b) := by
  unfold bltOf at h
  have := List.find?_some h
  simpa using this
theorem tyOf_ok {x : Str} {b : Ty} (h : tyOf x = some b) : x = Str.ofString (tyN b) := by
  unfold tyOf at h
  have := List.find?_some h
  simpa using this
theorem boot_ty (t : Ty) : bootBuiltins (Str.ofString (tyN t)) = some (.type (tyN t)) := by cases t <;> decide +kernel
theorem blt_ok (ok : Cok C c X) (G : Good C f g) {b : Blt} {x : Str} (hx : x = Str.ofString (bname b)) (hg : isGl c x = true) (hm : X.mg x = none) {a : Expr} (hs : noStar a = true) (p pos : Pos) :
    PE X (.Call (.Name x p) [a] [] pos) (tE X.K (wpE C (.blt b (f c a)))) := by
  obtain ⟨g1, g2, g3⟩ := gl_ok ok hg
  have pa := pa_cons (G.o ok a) pa_nil (star_cons hs [] X.env)
  subst hx
  have go : ∀ {te : TE}, PE X (.Call (.Name (Str.ofString (bname b)) p) [a] [] pos) te → (te = tCB (rB X.K (blt1 b)) (tCons (tO X.K (opO (f c a) (wpE C (f c a)))) tNil)) → PE X (.Call (.Name (Str.ofString (bname b)) p) [a] [] pos) (tE X.K (wpE C (.blt b (f c a)))) :=
    fun h e => PE.imp h fun σ H Q z => by rw [e]; exact one (w := blt1 b) z
  cases b with
  | len => exact go (pe_callB b_len g1 hm boot_len pa g3 g2 (star_cons hs _ _)) rfl
  | int => exact go (pe_callTy b_int g1 hm (by decide +kernel) pa g3 g2 (star_cons hs _ _)) rfl
  | abs => exact go (pe_callB b_abs g1 hm (by decide +kernel) pa g3 g2 (star_cons hs _ _)) rfl
  | tuple => exact go (pe_callTy b_tuple g1 hm (by decide +kernel) pa g3 g2 (star_cons hs _ _)) rfl
  | list => exact go (pe_callTy b_list g1 hm (by decide +kernel) pa g3 g2 (star_cons hs _ _)) rfl
  | all => exact go (pe_callB (b_all ok.calm) g1 hm (by decide +kernel) pa g3 g2 (star_cons hs _ _)) rfl
  | any => exact go (pe_callB (b_any ok.calm) g1 hm (by decide +kernel) pa g3 g2 (star_cons hs _ _)) rfl
  | repr => exact go (pe_callB (b_repr ok.hu ok.gd) g1 hm (by decide +kernel) pa g3 g2 (star_cons hs _ _)) rfl
theorem call_good (G : Good C f g) (ok : Cok C c X) (x : Str) (args : List Expr) (p pos : Pos) : PE X (.Call (.Name x p) args [] pos) (tE X.K (wpE C (cCall f c x args))) ∧ ∀ i, cCall f c x args ≠ .var i := by
  have bad : PE X (.Call (.Name x p) args [] pos) (tE X.K (wpE C .bad)) := e_bad fun _ _ h => h
  unfold cCall
  split
  · rename_i hg
    obtain ⟨g1, g2, g3⟩ := gl_ok ok hg
    split
    · rename_i y i fl hf
      split
      · rename_i hns
        split
        · rename_i as ha
          refine ⟨?_, fun _ => by simp⟩
          obtain ⟨f0, fd, ps, k, F, hr, hm, hk, hb⟩ := ok.fns y i fl (List.mem_of_find?_eq_some hf)
          have ey : y = x := by have := List.find?_some hf; simpa using this
          subst ey
          have pa := as_ok G ok ha
          cases args with
          | nil =>
            cases fl with
            | nil =>
              cases ha
              refine PE.imp (FnG.call0 (E := E0) F hr ok.gd hb g1 hm hk g2) fun σ H Q h => ?_
              have h2 := call_t (fl := []) (we := wpAs C .nil) (ct := C i) (E := E0) h
              obtain ⟨T, env, k', ok', hw, q⟩ := h2
              exact q [] env [] H ok' (Step.refl ..) .nil hw
            | cons b fl => cases b <;> simp [cAs] at ha
          | cons a es =>
            simp only [List.all_cons, Bool.and_eq_true] at hns
            exact PE.imp (FnG.call1 (E := E0) F hr ok.gd hb g1 hm hk pa g2 (star_cons hns.1 _ _) (star_any hns.2 _ _)) fun σ H Q h => call_t h
        · exact ⟨bad, fun _ => by simp⟩
      · exact ⟨bad, fun _ => by simp⟩
    · split
      · rename_i hbl
        have hm := ok.bl x hbl
        split
        · split
          · rename_i b hb
            split
            · rename_i hs
              exact ⟨blt_ok ok G (bltOf_ok hb) hg hm hs p pos, fun _ => by simp⟩
            · exact ⟨bad, fun _ => by simp⟩
          · exact ⟨bad, fun _ => by simp⟩
        · rename_i a t tp
          split
          · rename_i hc
            simp only [Bool.and_eq_true, beq_iff_eq] at hc
            obtain ⟨⟨⟨h1, h2⟩, h3⟩, h4⟩ := hc
            split
            · rename_i ty ht
              obtain ⟨t1, t2, t3⟩ := gl_ok ok h3
              refine ⟨c_isi g1 h1 hm t1 (ok.bl t h4) (by rw [tyOf_ok ht]; exact boot_ty ty) t3 t2 (G.o ok a) (fun es => star_cons h2 es _), fun _ => by simp⟩
            · exact ⟨bad, fun _ => by simp⟩
          · exact ⟨bad, fun _ => by simp⟩
        · exact ⟨bad, fun _ => by simp⟩
      · exact ⟨bad, fun _ => by simp⟩
  · exact ⟨bad, fun _ => by simp⟩
end
end G

/-! G13: the compiler is right: expressions -/
namespace G
open PySem PySem.Spec L2
open PyProof.Rows hiding St
section
variable {C : Nat → Ct} {c : CC} {X : Cx} {f : CE} {g : CT}
theorem mapM_ok {α β : Type} {h : α → Option β} : ∀ {xs : List α} {ys : List β}, xs.mapM h = some ys → xs.length = ys.length ∧ ∀ (i : Nat) (x : α), xs[i]? = some x → ∃ y, ys[i]? = some y ∧ h x = some y
  | [], ys, e => by
    have : ys = [] := by simpa using e.symm
    subst this
    exact ⟨rfl, fun i x h => by simp at h⟩
  | x :: xs, ys, e => by
    rw [List.mapM_cons] at e
    cases q : h x with
    | none => rw [q] at e; cases e
    | some y =>
      rw [q] at e
      cases q2 : xs.mapM h with
      | none => rw [q2] at e; cases e
      | some ys' =>
        rw [q2] at e
        cases e
        obtain ⟨h1, h2⟩ := mapM_ok q2
        refine ⟨congrArg (· + 1) h1, fun i z hz => ?_⟩
        cases i with
        | zero => simp at hz; subst hz; exact ⟨y, rfl, q⟩
        | succ i => simpa using h2 i z (by simpa using hz)
theorem find_none {es : List Expr} (h : es.all noStar = true) (env : Env) : (assignEach es env).length = es.length ∧ (assignEach es env).findIdx? (·.1) = none := by
  induction es with
  | nil => exact ⟨rfl, rfl⟩
  | cons a es ih =>
    simp only [List.all_cons, Bool.and_eq_true] at h
    obtain ⟨h1, h2⟩ := ih h.2
    rw [asg_cons h.1]
    refine ⟨congrArg (· + 1) h1, ?_⟩
    rw [List.findIdx?_cons]
    simp [h2]
theorem tg_ok (ok : Cok C c X) : ∀ (n : Nat) {e : Expr} {t : Tg} {vs : List Nat}, cTg c n e = some t → (∀ i ∈ tgSlots n t, i ∈ vs) → PG X e (tG X.K vs (wpTg t)) := by
  have nm : ∀ (n : Nat) {x : Str} {p : Pos} {t : Tg} {vs : List Nat}, cTg c n (.Name x p) = some t → (∀ i ∈ tgSlots n t, i ∈ vs) → PG X (.Name x p) (tG X.K vs (wpTg t)) := by
    intro n x p t vs h hv
    have h : (if c.stb.contains x then (slotOf c x).map Tg.nm else none) = some t := by
      cases n <;> exact h
    split at h
    · rename_i hs
      cases q : slotOf c x with
      | none => rw [q] at h; cases h
      | some i =>
        rw [q] at h; cases h
        obtain ⟨h1, h2⟩ := ok.st x hs
        obtain ⟨h3, _⟩ := slot_ok ok q
        exact g_nm (by rw [ok.N]; exact ok.nd) h3 h1 h2 (hv i (by cases n <;> simp [tgSlots]))
    · cases h
  intro n
  induction n with
  | zero =>
    intro e t vs h hv
    cases e with
    | Name x p => exact nm 0 h hv
    | _ => simp [cTg] at h
  | succ n ih =>
    intro e t vs h hv
    cases e with
    | Name x p => exact nm (n + 1) h hv
    | Tuple es k p =>
      have h : (if es.all noStar then (es.mapM (cTg c n)).map Tg.tup else none) = some t := h
      split at h
      · rename_i hs
        cases q : es.mapM (cTg c n) with
        | none => rw [q] at h; cases h
        | some ts =>
          rw [q] at h; cases h
          obtain ⟨hl, hget⟩ := mapM_ok q
          obtain ⟨h1, h2⟩ := find_none hs X.env
          have key : ∀ (es : List Expr) (ts : List Tg), es.all noStar = true → es.length = ts.length → (∀ (i : Nat) (x : Expr), es[i]? = some x → ∃ y, ts[i]? = some y ∧ cTg c n x = some y) → (∀ y ∈ ts, ∀ i ∈ tgSlots n y, i ∈ vs) → PGs X es (tGs X.K vs (wpTgs ts)) := by
            intro es
            induction es with
            | nil =>
              intro ts _ hl _ _
              cases ts with
              | nil => exact gs_nil
              | cons _ _ => cases hl
            | cons a es ih2 =>
              intro ts hs hl hg hv
              cases ts with
              | nil => cases hl
              | cons y ts =>
                simp only [List.all_cons, Bool.and_eq_true] at hs
                obtain ⟨y', e1, e2⟩ := hg 0 a rfl
                cases e1
                refine gs_cons (ih e2 (hv y (by simp))) (ih2 ts hs.2 (by simpa using hl) (fun i x hx => ?_) fun z hz => hv z (by simp [hz])) (by rw [asg_cons hs.1]; rfl)
                simpa using hg (i + 1) x (by simpa using hx)
          have G2 := key es ts hs hl hget fun y hy i hi => hv i (by
            simp only [tgSlots, List.mem_flatMap]
            exact ⟨y, hy, hi⟩)
          refine PG.imp (g_tup ok.calm G2 h1 h2) fun v σ H Q ⟨T, env, d, k, o, r, w, z⟩ => ⟨T, env, d, k, o, r, ?_, z⟩
          obtain ⟨xs, e1, e2, e3⟩ := w
          exact ⟨xs, e1, by rw [hl]; exact e2, e3⟩
      · cases h
    | _ => simp [cTg] at h
theorem wk_ok (G : Good C f g) (ok : Cok C c X) {tg e : Expr} {w : Wk} (h : cWk f c tg e = some w) : PI X tg e (tI X.K (wpIt C w)) := by
  have of_ : ∀ e, PI X tg e (tI X.K (wpIt C (.of (f c e)))) := fun e => i_of (G.o ok e)
  unfold cWk at h
  split at h
  · rename_i x p a q
    split at h
    · rename_i hc
      cases h
      simp only [Bool.and_eq_true, beq_iff_eq] at hc
      obtain ⟨⟨⟨h1, h2⟩, h3⟩, h4⟩ := hc
      have hg := (gl_ok ok h2).1
      have hm := ok.bl x h3
      subst h1
      exact i_rng hg hm (G.o ok a) (star_cons h4 _ _)
    · split at h
      · rename_i hc
        cases h
        simp only [Bool.and_eq_true, beq_iff_eq] at hc
        obtain ⟨⟨⟨⟨h1, h2⟩, h3⟩, h4⟩, h5⟩ := hc
        have hg := (gl_ok ok h2).1
        have hm := ok.bl x h3
        subst h1
        cases tg with
        | Tuple elts kk tp => exact i_enum hg hm (G.o ok a) (star_cons h4 _ _)
        | _ => simp [isTupE] at h5
      · cases h; exact of_ _
  · rename_i x p a b q
    split at h
    · rename_i hc
      cases h
      simp only [Bool.and_eq_true, beq_iff_eq] at hc
      obtain ⟨⟨⟨⟨h1, h2⟩, h3⟩, h4⟩, h5⟩ := hc
      have hg := (gl_ok ok h2).1
      have hm := ok.bl x h3
      subst h1
      exact i_rng2 hg hm (G.o ok a) (G.o ok b) (by rw [star_cons h4, star_cons h5]; rfl) (star_cons h5 _ _)
    · cases h; exact of_ _
  · split at h
    · cases h; exact of_ _
    · cases h
theorem blk_ok (ok : Cok C c X) (scope : Scope) (hk : scope.kind = .function) (s : Shared) (H : Hp) (C' : Addr) (cl : List (Str × Addr)) (fp : List Addr) :
    Cok C (blkOf c scope) (X.blk s H scope (compEnvC scope cl C' X.env) fp) := by
  have esc : (compEnvC scope cl C' X.env).scope = relS scope c.sc := by rw [← ok.sc]; rfl
  refine ⟨ok.N, esc, hk, ok.nd, ok.calm, ok.hu, ok.gd, fun x h => ?_, ok.fns, ok.bl, ok.cs, PassesOwn.never⟩
  have h : x ∈ (scope.names.filter fun y => (y.2 == .local || y.2 == .cell) && scope.names.lookup y.1 == some y.2).map (·.1) := by simpa [blkOf] using h
  obtain ⟨⟨y, k⟩, hy, e⟩ := List.mem_map.mp h
  have e : y = x := e
  subst e
  obtain ⟨_, hk2⟩ := List.mem_filter.mp hy
  simp only [Bool.and_eq_true, Bool.or_eq_true, beq_iff_eq] at hk2
  obtain ⟨hk2, hl⟩ := hk2
  rcases hk2 with rfl | rfl
  · have q : (relS scope c.sc).names.lookup y = some .local := lookup_relS_keep (by decide) hl
    exact ⟨.inl (by rw [show (X.blk s H scope (compEnvC scope cl C' X.env) fp).env.scope = relS scope c.sc from esc]; exact q), .inr (by rw [show (X.blk s H scope (compEnvC scope cl C' X.env) fp).env.scope = relS scope c.sc from esc]; exact q)⟩
  · have q : (relS scope c.sc).names.lookup y = some .cell := lookup_relS_keep (by decide) hl
    refine ⟨.inr (by rw [show (X.blk s H scope (compEnvC scope cl C' X.env) fp).env.scope = relS scope c.sc from esc]; exact q), .inl ?_⟩
    show (scope.names.lookup y == some .cell) = true
    rw [hl]; rfl
theorem opt_ok (G : Good C f g) (ok : Cok C c X) : ∀ o : Option Expr, PO X o (tP X.K (wpP C (cOpt f c o)))
  | none => p_none
  | some e => p_some (G.o ok e)
theorem blkC_kind {N : List Str} {sc scope : Scope} {own : List (Str × Nat)} (h : blkC N sc scope own = true) : scope.kind = .function := (blkOk_by h).kind
theorem lc_ok (G : Good C f g) (ok : Cok C c X) {elt : Expr} {gs : List Comprehension} {scope : Scope} {r : E} (h : cLc f g c elt gs scope = some r) :
    ∃ tg iter ifs vs tt te own wi wg, gs = [⟨tg, iter, ifs, 0⟩] ∧ vs = own.map (·.2) ∧ BlkOk X.N X.env.scope scope own ∧ PI X tg iter wi ∧ (∀ x, foldedSetIterable iter X.env x = pure x) ∧
      (∀ (s : Shared) (H : Hp) (C' : Addr) (cl : List (Str × Addr)) (fp : List Addr), PG (X.blk s H scope (compEnvC scope cl C' X.env) fp) tg wg) ∧
      (∀ (s : Shared) (H : Hp) (C' : Addr) (cl : List (Str × Addr)) (fp : List Addr), PTs (X.blk s H scope (compEnvC scope cl C' X.env) fp) ifs tt) ∧
      (∀ (s : Shared) (H : Hp) (C' : Addr) (cl : List (Str × Addr)) (fp : List Addr), PE (X.blk s H scope (compEnvC scope cl C' X.env) fp) elt te) ∧
      (∀ σ H Q, tE X.K (wpE C r) σ H Q → tLc wi wg tt te vs σ H Q) ∧ ∀ i, r ≠ .var i := by
  unfold cLc at h
  split at h
  · rename_i tg iter ifs
    simp only at h
    split at h
    · rename_i hc
      simp only [Bool.and_eq_true] at hc
      obtain ⟨hb, hns⟩ := hc
      have hk := blkC_kind hb
      have okb := blk_ok ok scope hk
      split at h
      · rename_i t it ht hit
        split at h
        · rename_i hin
          have hin : ∀ i ∈ tgSlots 9 t, i ∈ (ownOf c.N scope).map (·.2) := fun i hi => by
            have := List.all_eq_true.mp hin i hi
            simpa using this
          have hbo : BlkOk X.N X.env.scope scope (ownOf c.N scope) := by rw [ok.N, ok.sc]; exact blkOk_by hb
          have go : ∀ (cond : Ot) (hr : r = .comp ((ownOf c.N scope).map (·.2)) (f (blkOf c scope) elt) t it cond)
              (hts : ∀ (s : Shared) (H : Hp) (C' : Addr) (cl : List (Str × Addr)) (fp : List Addr), PTs (X.blk s H scope (compEnvC scope cl C' X.env) fp) ifs (tT X.K (wpC C cond))),
              ∃ tg' iter' ifs' vs tt te own wi wg, ([⟨tg, iter, ifs, 0⟩] : List Comprehension) = [⟨tg', iter', ifs', 0⟩] ∧ vs = own.map (·.2) ∧ BlkOk X.N X.env.scope scope own ∧ PI X tg' iter' wi ∧ (∀ x, foldedSetIterable iter' X.env x = pure x) ∧
                (∀ (s : Shared) (H : Hp) (C' : Addr) (cl : List (Str × Addr)) (fp : List Addr), PG (X.blk s H scope (compEnvC scope cl C' X.env) fp) tg' wg) ∧
                (∀ (s : Shared) (H : Hp) (C' : Addr) (cl : List (Str × Addr)) (fp : List Addr), PTs (X.blk s H scope (compEnvC scope cl C' X.env) fp) ifs' tt) ∧
                (∀ (s : Shared) (H : Hp) (C' : Addr) (cl : List (Str × Addr)) (fp : List Addr), PE (X.blk s H scope (compEnvC scope cl C' X.env) fp) elt te) ∧
                (∀ σ H Q, tE X.K (wpE C r) σ H Q → tLc wi wg tt te vs σ H Q) ∧ ∀ i, r ≠ .var i := fun cond hr hts => by
            subst hr
            exact ⟨tg, iter, ifs, _, _, _, ownOf c.N scope, _, _, rfl, rfl, hbo, wk_ok G ok hit, fold_no hns X.env, fun s H C' cl fp => tg_ok (okb s H C' cl fp) 9 ht hin, hts,
              fun s H C' cl fp => (G.e _ _ (okb s H C' cl fp) elt).1, fun σ H Q h => comp_ok h, fun i => by simp⟩
          split at h
          · cases h
            exact go .no rfl fun s H C' cl fp => ts_nil
          · cases h
            exact go (.yes _) rfl fun s H C' cl fp => ts_one (G.t _ _ (okb s H C' cl fp) _)
          · cases h
        · cases h
      · cases h
    · cases h
  · cases h
theorem step_good (G : Good C f g) : Good C (stepE f g) (stepT f g) := by
  refine ⟨fun X c ok e => ?_, fun X c ok e => ?_⟩
  · have bad : ∀ e : Expr, PE X e (tE X.K (wpE C .bad)) ∧ ∀ i, E.bad = .var i → PE X e (tVar i) := fun e => ⟨e_bad fun _ _ h => h, fun i h => by cases h⟩
    have nov : ∀ {e : Expr} {ir : E}, PE X e (tE X.K (wpE C ir)) → (∀ i, ir ≠ .var i) → PE X e (tE X.K (wpE C ir)) ∧ ∀ i, ir = .var i → PE X e (tVar i) := fun h n => ⟨h, fun i e => absurd e (n i)⟩
    unfold stepE
    split
    · split
      · rename_i i q
        exact ⟨c_var (var_ok ok q _), fun j h => by cases h; exact var_ok ok q _⟩
      · split
        · rename_i hg
          split
          · rename_i d hd
            obtain ⟨g1, g2, g3⟩ := gl_ok ok hg
            obtain ⟨v, u, hm, r, hr⟩ := ok.cs _ d hd
            exact nov (c_const (pe_glob g1 hm r g2) hr) (fun i => by simp)
          · exact bad _
        · exact bad _
    · rename_i v k p
      cases v with
      | none => exact nov (c_const (v := .non) (d := .none) pe_non fun _ => .non) (fun i => by simp [cConst])
      | bool b => exact nov (c_const (v := .bl b) (d := .bool b) pe_bl fun _ => .bl b) (fun i => by simp [cConst])
      | int i => exact nov (c_const (v := .int i) (d := .int i) pe_int fun _ => .int i) (fun i => by simp [cConst])
      | str s => exact nov (c_const (v := .str s) (d := .str s) pe_str fun _ => .str s) (fun i => by simp [cConst])
      | _ => exact bad _
    · split
      · rename_i l h
        exact nov (c_tup (es_ok G ok h)) (fun i => by simp)
      · exact bad _
    · split
      · rename_i l h
        exact nov (c_lst (es_ok G ok h)) (fun i => by simp)
      · exact bad _
    · exact nov (c_dic0 pe_dnewK) (fun i => by simp)
    · exact nov (c_bin (G.o ok _) (G.o ok _)) (fun i => by simp)
    · exact nov (c_neg (G.o ok _)) (fun i => by simp)
    · exact nov (c_not (G.o ok _)) (fun i => by simp)
    · rename_i op es p
      refine ⟨(bool_ok G ok op p es).1, fun i h => ?_⟩
      match es, h with
      | [], h => cases h
      | [e], h => exact (bool_ok G ok op p [e]).2 e rfl i h
      | e :: e' :: es, h => cases op <;> cases h
    · split
      · exact bad _
      · rename_i hb
        exact nov (c_cmp ok.hu (G.o ok _) (G.o ok _) (by simpa using hb)) (fun i => by simp)
    · split
      · exact bad _
      · rename_i hb
        exact nov (c_chain ok.hu (G.o ok _) (G.o ok _) (G.o ok _) (by simpa using hb)) (fun i => by simp)
    · exact nov (c_ite (G.t X c ok _) (G.e X c ok _).1 (G.e X c ok _).1) (fun i => by simp)
    · exact nov (c_rev (G.o ok _)) (fun i => by simp)
    · exact nov (c_slc (G.o ok _) (opt_ok G ok _) (opt_ok G ok _)) (fun i => by simp)
    · split
      · rename_i hs
        exact nov (c_idx (G.o ok _) (G.o ok _) (plainIx_of hs)) (fun i => by simp)
      · exact bad _
    · exact nov (call_good G ok _ _ _ _).1 (call_good G ok _ _ default default).2
    · split
      · rename_i hc
        simp only [Bool.and_eq_true, beq_iff_eq] at hc
        obtain ⟨⟨h1, h2⟩, h3⟩ := hc
        split
        · rename_i i q
          exact nov (c_pop (var_ok ok q _) (G.o ok _) (star_cons h3 _ _) (by simpa using h2) h1) (fun i => by simp)
        · exact bad _
      · exact bad _
    · rename_i elt gs scope p
      cases q : cLc f g c elt gs scope with
      | none => exact bad _
      | some r =>
        obtain ⟨tg, iter, ifs, vs, tt, te, own, wi, wg, rfl, rfl, hb, hi, hf, hg, ht, he, himp, hv⟩ := lc_ok G ok q
        exact nov (PE.imp (pe_lc ok.calm (by rw [ok.N]; exact ok.nd) hi hb hg ht he hf) himp) hv
    · exact bad _
  · have bad : ∀ e : Expr, PT X e (tT X.K (wpT C (.val .bad))) := fun e => t_bad fun _ _ h => h
    unfold stepT
    split
    · exact t_not (G.t X c ok _)
    · rename_i op es p
      cases es with
      | nil => exact bad _
      | cons a es => exact (boolT_ok G ok op p (a :: es) (by simp)).pt
    · split
      · exact bad _
      · rename_i hb
        exact t_cmp ok.hu (G.o ok _) (G.o ok _) (by simpa using hb)
    · split
      · exact bad _
      · rename_i hb
        exact t_chain ok.hu (G.o ok _) (G.o ok _) (G.o ok _) (by simpa using hb)
    · split
      · rename_i hp
        exact t_val (G.o ok _) (isTrue_plain' hp X.env)
      · exact bad _
theorem cc_good : ∀ n, Good C (cc n).1 (cc n).2
  | 0 => ⟨fun X c ok e => ⟨e_bad fun _ _ h => h, fun i h => by cases h⟩, fun X c ok e => t_bad fun _ _ h => h⟩
  | n + 1 => step_good (cc_good n)
end
end G

/-! G14: statements and defs compiled -/
namespace G
open PySem PySem.Spec L2
open PyProof.Rows hiding St
abbrev ce : CC → Expr → E := (cc 40).1
abbrev ct : CC → Expr → T := (cc 40).2
def swB (c : CC) (scope : Scope) (y : Str) (py pos : Pos) : Bool :=
  c.sc.names.lookup y == some .local && py.line == pos.line && !(scope.names.any fun (n, k) => n == y && (k == .local || k == .cell))
/-- as swappedStores: none where it is not told -/
def swapN (c : CC) (ts vs : List Expr) : Option (Option (List Str)) :=
  if !(ts.length == 2 || ts.length == 3) || vs.length != ts.length then some none else
  if vs.any (fun e => !noStar e) then some none else
  let line := (ts.head?.map (·.pos.line)).getD 0
  let names := ts.filterMap fun
    | .Name id pos => if c.sc.names.lookup id == some .local && pos.line == line then some id else none
    | _ => none
  if names.length != ts.length || names.eraseDups.length != names.length then some none else
  if vs.all (foldedForSure 8) then some none else
  if vs.all (constantsAlone 8) then none else
  some (some names)
def isIo (fl : List Bool) (i : Nat) : Bool := fl[i]? == some true
def cStore (fl : List Bool) (c : CC) (x : Str) : Option Nat :=
  if c.stb.contains x then (match slotOf c x with
    | some i => if isIo fl i then none else some i
    | none => none) else none
def cSetT (fl : List Bool) (c : CC) (tg v : Expr) : S :=
  match cTg c 9 tg with
  | some t => if (tgSlots 9 t).all (fun i => !isIo fl i) then .setT t (ce c v) else .bad
  | none => .bad
def isLocal (c : CC) (x : Str) : Bool := c.sc.names.lookup x == some .local
def cPar (fl : List Bool) (c : CC) (ts vs : List Expr) : S :=
  match ts, vs with
  | [.Name x _, .Name y _], [a, b] => match cStore fl c x, cStore fl c y, cEs ce c [a, b] with
    | some i, some j, some es => if i != j && isLocal c x && isLocal c y then .par [i, j] es else .bad
    | _, _, _ => .bad
  | [.Name x _, .Name y _, .Name z _], [a, b, d] => match cStore fl c x, cStore fl c y, cStore fl c z, cEs ce c [a, b, d] with
    | some i, some j, some l, some es => if i != j && i != l && j != l && isLocal c x && isLocal c y && isLocal c z then .par [i, j, l] es else .bad
    | _, _, _, _ => .bad
  | _, _ => .bad
def namesOf (ts : List Expr) : List Str := ts.filterMap fun | .Name x _ => some x | _ => none
def cAssign (fl : List Bool) (c : CC) (tg v : Expr) (pos : Pos) : S :=
  match tg with
  | .Name y py => match cStore fl c y with
    | some i => match v with
      | .ListComp elt gs scope p => match cLc ce ct c elt gs scope with
        | some r => if swB c scope y py p then (if isLocal c y then .set i r else .bad) else .set i r
        | none => .bad
      | v => if noComp v then .set i (ce c v) else .bad
    | none => .bad
  | .Tuple ts k p => match v with
    | .Tuple vs k2 p2 => match swapN c ts vs with
      | some none => cSetT fl c (.Tuple ts k p) (.Tuple vs k2 p2)
      | some (some ns) => if ns = namesOf ts then cPar fl c ts vs else .bad
      | none => .bad
    | v => cSetT fl c (.Tuple ts k p) v
  | .Subscript (.Name x _) ix _ => if noSlice ix then (match slotOf c x with
    | some i => .setIx i (ce c ix) (ce c v)
    | none => .bad) else .bad
  | _ => .bad
def cExpr (c : CC) (e : Expr) : S :=
  match e with
  | .Call (.Attribute (.Name x _) m q) [a] [] pos =>
    if m == ("append" : Str) then (if q.endLine == pos.line && noStar a then (match slotOf c x with
      | some i => .append i (ce c a)
      | none => .bad) else .bad) else .expr (ce c e)
  | .Call (.Attribute (.Name x _) m q) [a, b] [] pos =>
    if m == ("insert" : Str) && q.endLine == pos.line && noStar a && noStar b then (match slotOf c x with
      | some i => .insert i (ce c a) (ce c b)
      | none => .bad) else .bad
  | e => if noComp e then .expr (ce c e) else .bad
def cS (fl : List Bool) (c : CC) : Nat → Stmt → S
  | 0, _ => .bad
  | n + 1, st => match st with
    | .Expr e _ => cExpr c e
    | .Assign [tg] v pos => cAssign fl c tg v pos
    | .Return (some e) _ => .ret (ce c e)
    | .Return none _ => .retN
    | .If t a b _ => .ife (ct c t) (a.map (cS fl c n)) (b.map (cS fl c n))
    | .For tg it body [] _ => match cTg c 9 tg, cWk ce c tg it with
      | some t, some w => if (tgSlots 9 t).all (fun i => !isIo fl i) && noSetE it then .fors t w (body.map (cS fl c n)) else .bad
      | _, _ => .bad
    | .While t body [] _ => .whl (ct c t) (body.map (cS fl c n))
    | .Pass _ => .pass
    | _ => .bad
section
variable {C : Nat → Ct} {c : CC} {X : Cx} {fl : List Bool}
abbrev ioP (fl : List Bool) : Nat → Prop := fun j => fl[j]? = some true
theorem s_bad {st : Stmt} {io : Nat → Prop} : PS X st (tS X.K io (wpS C .bad)) := ⟨fun pins s σ H D I ⟨T, env, d, ok, hw, _⟩ => hw.elim⟩
theorem io_no {i : Nat} (h : isIo fl i = false) : ¬ ioP fl i := fun z => by
  unfold isIo at h
  rw [show fl[i]? = some true from z] at h
  simp at h
theorem store_of (ok : Cok C c X) {x : Str} {i : Nat} (h : cStore fl c x = some i) : X.N[i]? = some x ∧ Loc X.env.scope x ∧ (X.fn x = true ∨ X.env.scope.names.lookup x = some .local) ∧ ¬ ioP fl i := by
  unfold cStore at h
  split at h
  · rename_i hs
    cases q : slotOf c x with
    | none => rw [q] at h; cases h
    | some j =>
      rw [q] at h
      simp only at h
      split at h
      · cases h
      · rename_i hio
        cases h
        obtain ⟨h1, h2⟩ := ok.st x hs
        exact ⟨(slot_ok ok q).1, h1, h2, io_no (by simpa using hio)⟩
  · cases h
theorem swaps_tup (v : Expr) (ts : List Expr) (k : Nat) (p : Pos) (l : Nat) (env : Env) : swapsWithSole [.Tuple ts k p] v l env = pure false := by
  cases v <;> rfl
theorem stores_no (v : Expr) (hv : ∀ vs k p, v ≠ .Tuple vs k p) (ts : List Expr) (k : Nat) (p : Pos) (env : Env) : swappedStores [.Tuple ts k p] v env = pure none := by
  cases v <;> first | rfl | exact absurd rfl (hv _ _ _)
theorem stores_yes (ok : Cok C c X) {ts vs : List Expr} {r : Option (List Str)} (h : swapN c ts vs = some r) (k k2 : Nat) (p p2 : Pos) : swappedStores [.Tuple ts k p] (.Tuple vs k2 p2) X.env = pure r := by
  have bk : X.env.blockKind = .function := by unfold Env.blockKind; rw [ok.sc, ok.kind]; rfl
  have ko : ∀ x, X.env.kindOf x = c.sc.names.lookup x := fun x => by unfold Env.kindOf; rw [ok.sc]
  unfold swapN at h
  unfold swappedStores
  simp only [bk, ko]
  generalize hg : List.filterMap _ ts = nmG
  simp only at h
  generalize hh : List.filterMap _ ts = nmH at h
  have e : nmG = nmH := by
    rw [← hg, ← hh]
    congr 1
  subst e
  generalize ha : List.any vs _ = bA
  generalize hb : List.any vs _ = bB at h
  have e : bA = bB := by
    rw [← ha, ← hb]
    congr 1
    funext e
    cases e <;> rfl
  subst e
  have ff : (ScopeKind.function != ScopeKind.function) = false := by decide
  rw [ff, Bool.or_false]
  repeat (first | (split at h <;> rename_i hc <;> (first | rw [if_pos hc] | rw [if_neg hc])) | (cases h; rfl) | cases h)
theorem v_ok {f : CE} {g : CT} (G : Good C f g) (ok : Cok C c X) : ∀ {es : List Expr} {l : Es}, cEs f c es = some l → PA X es (tV X.K (wpVs C l))
  | [], _, h => by
    cases h
    exact v_nil
  | e :: es, l, h => by
    unfold cEs at h
    split at h
    · rename_i hs
      cases q : cEs f c es with
      | none => rw [q] at h; cases h
      | some l' =>
        rw [q] at h; cases h
        exact v_cons (G.e X c ok e).1 (v_ok G ok q) (star_cons hs _ _)
    · cases h
theorem isLocal_ok (ok : Cok C c X) {x : Str} (h : isLocal c x = true) : X.env.scope.names.lookup x = some .local := by
  rw [ok.sc]; simpa [isLocal] using h
theorem ng (C : Nat → Ct) : Good C ce ct := cc_good 40
theorem setT_ok (ok : Cok C c X) {ts : List Expr} {k : Nat} {p pos : Pos} {v : Expr} (hw : swappedStores [.Tuple ts k p] v X.env = pure none) : PS X (.Assign [.Tuple ts k p] v pos) (tS X.K (ioP fl) (wpS C (cSetT fl c (.Tuple ts k p) v))) := by
  unfold cSetT
  split
  · rename_i t ht
    split
    · rename_i hio
      have hio : ∀ i ∈ tgSlots 9 t, ¬ ioP fl i := fun i hi => io_no (by simpa using List.all_eq_true.mp hio i hi)
      refine s_tup (vs := tgSlots 9 t) (ps_asg ((ng C).e X c ok v).1 (tg_ok ok 9 ht fun i h => h) (swaps_tup ..) hw rfl) (fun σ H Q h => h) (fun v σ H Q h => h) hio
    · exact s_bad
  · exact s_bad
theorem par_ok (ok : Cok C c X) {ts vs : List Expr} {k k2 : Nat} {p p2 pos : Pos} (hw : swappedStores [.Tuple ts k p] (.Tuple vs k2 p2) X.env = pure (some (namesOf ts))) : PS X (.Assign [.Tuple ts k p] (.Tuple vs k2 p2) pos) (tS X.K (ioP fl) (wpS C (cPar fl c ts vs))) := by
  have nd : X.N.Nodup := by rw [ok.N]; exact ok.nd
  unfold cPar
  split
  · rename_i x px y py a b
    split
    · rename_i i j es hi hj he
      split
      · rename_i hc
        simp only [Bool.and_eq_true, bne_iff_ne, ne_eq] at hc
        obtain ⟨⟨h1, h2⟩, h3⟩ := hc
        obtain ⟨x1, x2, x3, x4⟩ := store_of ok hi
        obtain ⟨y1, y2, y3, y4⟩ := store_of ok hj
        exact s_par2 (ps_par ok.calm nd x1 y1 h1 (isLocal_ok ok h2) (isLocal_ok ok h3) (v_ok (ng C) ok he) hw (swaps_tup ..)) (fun σ H Q h => h) (fun σ H Q Q' h hq => tV_mono h hq)
          ⟨(List.getElem?_eq_some_iff.mp x1).1, x4⟩ ⟨(List.getElem?_eq_some_iff.mp y1).1, y4⟩
      · exact s_bad
    · exact s_bad
  · rename_i x px y py z pz a b d
    split
    · rename_i i j l es hi hj hl he
      split
      · rename_i hc
        simp only [Bool.and_eq_true, bne_iff_ne, ne_eq] at hc
        obtain ⟨⟨⟨⟨⟨h1, h2⟩, h3⟩, h4⟩, h5⟩, h6⟩ := hc
        obtain ⟨x1, x2, x3, x4⟩ := store_of ok hi
        obtain ⟨y1, y2, y3, y4⟩ := store_of ok hj
        obtain ⟨z1, z2, z3, z4⟩ := store_of ok hl
        exact s_par3 (ps_par3 ok.calm nd x1 y1 z1 h1 h2 h3 (isLocal_ok ok h4) (isLocal_ok ok h5) (isLocal_ok ok h6) (v_ok (ng C) ok he) hw (swaps_tup ..)) (fun σ H Q h => h) (fun σ H Q Q' h hq => tV_mono h hq)
          ⟨(List.getElem?_eq_some_iff.mp x1).1, x4⟩ ⟨(List.getElem?_eq_some_iff.mp y1).1, y4⟩ ⟨(List.getElem?_eq_some_iff.mp z1).1, z4⟩
      · exact s_bad
    · exact s_bad
  · exact s_bad
theorem assign_ok (ok : Cok C c X) (tg v : Expr) (pos : Pos) : PS X (.Assign [tg] v pos) (tS X.K (ioP fl) (wpS C (cAssign fl c tg v pos))) := by
  have nd : X.N.Nodup := by rw [ok.N]; exact ok.nd
  unfold cAssign
  split
  · rename_i y py
    split
    · rename_i i hi
      obtain ⟨x1, x2, x3, x4⟩ := store_of ok hi
      have plain : ∀ v, noComp v = true → PS X (.Assign [.Name y py] v pos) (tS X.K (ioP fl) (wpS C (.set i (ce c v)))) := fun v hv =>
        s_asg (ps_set nd x1 x2 ((ng C).e X c ok v).1 (swaps_no hv _ _ _) x3) (fun σ H Q h => h) x1 x4
      split
      · rename_i elt gs scope p
        split
        · rename_i r hr
          obtain ⟨tg, iter, ifs, vs, tt, te, own, wi, wg, rfl, rfl, hb, hi', hf, hg, ht, he, himp, hv⟩ := lc_ok (ng C) ok hr
          have sw : swapsWith (.ListComp elt [⟨tg, iter, ifs, 0⟩] scope p) (some (.Name y py)) pos.line X.env = pure (swB c scope y py p) := by
            have bk : X.env.blockKind = .function := by unfold Env.blockKind; rw [ok.sc, ok.kind]; rfl
            have ko : X.env.kindOf y = c.sc.names.lookup y := by unfold Env.kindOf; rw [ok.sc]
            unfold swapsWith swB
            simp only [bk, ko, Expr.pos]
            rfl
          split
          · rename_i hs
            split
            · rename_i hl
              exact s_asg (ps_setLc ok.calm nd x1 (isLocal_ok ok hl) (by rw [sw, hs]) hi' hb hg ht he hf) himp x1 x4
            · exact s_bad
          · rename_i hs
            refine s_asg (ps_set nd x1 x2 (pe_lc ok.calm nd hi' hb hg ht he hf) ?_ x3) himp x1 x4
            rw [sw]
            simp at hs
            rw [hs]
        · exact s_bad
      · split
        · exact plain _ (by assumption)
        · exact s_bad
    · exact s_bad
  · rename_i ts k p
    split
    · rename_i vs k2 p2
      split
      · rename_i h
        exact setT_ok ok (stores_yes ok h ..)
      · rename_i ns h
        split
        · rename_i hn
          subst hn
          exact par_ok ok (stores_yes ok h ..)
        · exact s_bad
      · exact s_bad
    · rename_i hv
      exact setT_ok ok (stores_no v hv ..)
  · rename_i x px ix q
    split
    · rename_i hs
      split
      · rename_i i hi
        refine s_setIx (var_ok ok hi px) ((ng C).e X c ok v).1 ((ng C).o ok ix) (by cases v <;> rfl) (by cases v <;> rfl) fun w => ?_
        cases ix <;> first | rfl | simp [noSlice] at hs
      · exact s_bad
    · exact s_bad
  · exact s_bad
theorem expr_ok (ok : Cok C c X) (e : Expr) (pos : Pos) : PS X (.Expr e pos) (tS X.K (ioP fl) (wpS C (cExpr c e))) := by
  have plain : ∀ e, noComp e = true → PS X (.Expr e pos) (tS X.K (ioP fl) (wpS C (.expr (ce c e)))) := fun e hv => s_expr ((ng C).e X c ok e).1 (swaps_no hv _ _ _)
  unfold cExpr
  split
  · rename_i x p m q a cp
    split
    · rename_i hm
      split
      · rename_i hc
        simp only [Bool.and_eq_true] at hc
        split
        · rename_i i hi
          exact s_append (var_ok ok hi p) ((ng C).e X c ok a).1 (star_cons hc.2 _ _) hc.1 (by simpa using hm)
        · exact s_bad
      · exact s_bad
    · exact plain _ rfl
  · rename_i x p m q a b cp
    split
    · rename_i hc
      simp only [Bool.and_eq_true, beq_iff_eq] at hc
      obtain ⟨⟨⟨h1, h2⟩, h3⟩, h4⟩ := hc
      split
      · rename_i i hi
        have he : PA X [a, b] (tEs X.K (wpEs C (.cons (ce c a) (.cons (ce c b) .nil)))) := a_cons ((ng C).e X c ok a).1 (a_cons ((ng C).e X c ok b).1 a_nil (star_cons h4 _ _)) (star_cons h3 _ _)
        exact s_insert (var_ok ok hi p) he (by rw [star_cons h3, star_cons h4]; rfl) (star_cons h4 _ _) (by simpa using h2) h1
      · exact s_bad
    · exact s_bad
  · split
    · exact plain _ (by assumption)
    · exact s_bad
theorem block_ok {n : Nat} (h : ∀ st : Stmt, PS X st (tS X.K (ioP fl) (wpS C (cS fl c n st)))) : ∀ sts : List Stmt, PSs X sts (tS X.K (ioP fl) (wpSs C (sts.map (cS fl c n))))
  | [] => b_nil
  | st :: sts => by
    show PSs X (st :: sts) (tS X.K (ioP fl) fun env d => wpS C (cS fl c n st) env { d with nx := fun e => wpSs C (sts.map (cS fl c n)) e d })
    exact b_cons (h st) (block_ok h sts)
theorem cS_ok (ok : Cok C c X) : ∀ (n : Nat) (st : Stmt), PS X st (tS X.K (ioP fl) (wpS C (cS fl c n st)))
  | 0, st => s_bad
  | n + 1, st => by
    have ih := cS_ok ok n
    unfold cS
    split
    · exact expr_ok ok _ _
    · exact assign_ok ok _ _ _
    · exact s_ret ((ng C).e X c ok _).1 ((ng C).e X c ok _).2
    · exact PS.imp ps_retN fun D σ H ⟨T, env, d, ok', hw, q1, q2, q3, q4⟩ => q4 .none false env .non σ H ok' (Step.refl ..).z (.refl ..) (.of .non) hw
    · exact s_if ((ng C).t X c ok _) (block_ok ih _) (block_ok ih _)
    · split
      · rename_i t w ht hw
        split
        · rename_i hc
          simp only [Bool.and_eq_true] at hc
          exact s_for ok.pass ok.calm (wk_ok (ng C) ok hw) (tg_ok ok 9 ht fun i h => h) (block_ok ih _) (fold_no hc.2 X.env) fun i hi => io_no (by simpa using List.all_eq_true.mp hc.1 i hi)
        · exact s_bad
      · exact s_bad
    · exact s_while ok.pass ((ng C).t X c ok _) (block_ok ih _)
    · exact s_pass
    · exact s_bad
end
/-! ### defs -/
/-- a def as it stands in the table: its statement, its slots' names, which parameters are lent, its code -/
structure Df where
  name : Str
  st : Stmt
  ps : List Str
  N : List Str
  fn : Fn
def scopeB (N ps : List Str) (sc : Scope) : Bool :=
  (match sc.kind with | .function => true | _ => false) && !sc.isCoroutine && !sc.isGenerator && decide N.Nodup && decide (N.take ps.length = ps) &&
    (ps.all fun x => match sc.names.lookup x with | some .local => true | some .cell => true | _ => false) && (sc.names.all fun y => match y.2 with | .free => false | _ => true)
theorem scope_of {N ps : List Str} {sc : Scope} (h : scopeB N ps sc = true) : FnScope N ps sc := by
  unfold scopeB at h
  simp only [Bool.and_eq_true, Bool.not_eq_true', decide_eq_true_eq, List.all_eq_true] at h
  obtain ⟨⟨⟨⟨⟨⟨h1, h2⟩, h3⟩, h4⟩, h5⟩, h6⟩, h7⟩ := h
  refine ⟨?_, h2, h3, h4, h5, fun x hx => ?_, fun y hy e => ?_⟩
  · split at h1
    · assumption
    · cases h1
  · have := h6 x hx
    split at this
    · left; assumption
    · right; assumption
    · cases this
  · have := h7 y hy
    rw [e] at this
    cases this
def ccOf (fns : List (Str × Nat × List Bool)) (bl : List Str) (cs : List (Str × D)) (N : List Str) (sc : Scope) : CC :=
  { N := N, sc := sc, stb := (sc.names.filter fun y => (y.2 == .local || y.2 == .cell) && sc.names.lookup y.1 == some y.2).map (·.1), fns := fns, bl := bl, cs := cs }
def cFn (fns : List (Str × Nat × List Bool)) (bl : List Str) (cs : List (Str × D)) (d : Df) : Option Fn :=
  if scopeB d.N d.ps (defScope d.st) && d.fn.fl.length == d.ps.length then
    some ⟨d.fn.fl, d.N.length, (defBody d.st).map (cS d.fn.fl (ccOf fns bl cs d.N (defScope d.st)) 40)⟩
  else none
section
variable {P : Program} {w : World} {K : PySem.W.Frag} {mg : Str → Option Value} {base : Heap} {C : Nat → Ct} {fns : List (Str × Nat × List Bool)} {bl : List Str} {cs : List (Str × D)}
theorem df_ok {d : Df} {x qual : Str} {f : Addr} {fd : FuncData} {k : Nat} (F : FunD K x qual (defArgs d.st) (defBody d.st) (defScope d.st) [] [] f fd) (h : cFn fns bl cs d = some d.fn)
    (hfns : ∀ x i fl, (x, i, fl) ∈ fns → ∃ f fd ps, FnG P w K mg base CX0 k f fd ps (spF K fl (C i)) ∧ mg x = some (.ref f) ∧ PySem.W.keepIn K (.ref f) = true ∧ Binds K fd ps [])
    (hbl : ∀ x, bl.contains x = true → mg x = none) (hcs : ∀ x d, cs.lookup x = some d → ∃ v u, mg x = some u ∧ RelV v u ∧ ∀ M, Rep K M v d) : FnG P w K mg base CX0 (k + 1) f fd d.ps (spF K d.fn.fl (wpFn C d.fn)) := by
  unfold cFn at h
  split at h
  · rename_i hc
    simp only [Bool.and_eq_true, beq_iff_eq] at hc
    obtain ⟨hs, hl⟩ := hc
    have S := scope_of hs
    have efn : d.fn = ⟨d.fn.fl, d.N.length, (defBody d.st).map (cS d.fn.fl (ccOf fns bl cs d.N (defScope d.st)) 40)⟩ := (Option.some.inj h).symm
    refine fnG_of F S (fun vs H Q E q => ?_) fun cdv A outer s H vs Q E hr hgd hsp => ?_
    · obtain ⟨T, ds, k', l1, _⟩ := q
      rw [l1, hl]
    · have ok : Cok C (ccOf fns bl cs d.N (defScope d.st)) (cxOf CX0 P w K mg base d.N qual (defScope d.st) f cdv A outer s H E).nox := by
        refine ⟨rfl, rfl, S.kind, S.nd, rfl, ?_, hgd, fun x hx => ?_, fun x i fl hm => ?_, hbl, hcs, PassesOwn.never⟩
        · have := hr.un
          show (A.deeper _).units + 65 < cLine
          omega
        · have hx : x ∈ ((defScope d.st).names.filter fun y => (y.2 == .local || y.2 == .cell) && (defScope d.st).names.lookup y.1 == some y.2).map (·.1) := by simpa [ccOf] using hx
          obtain ⟨⟨y, kd⟩, hy, e⟩ := List.mem_map.mp hx
          have e : y = x := e
          subst e
          obtain ⟨_, h2⟩ := List.mem_filter.mp hy
          simp only [Bool.and_eq_true, Bool.or_eq_true, beq_iff_eq] at h2
          obtain ⟨h2, h3⟩ := h2
          rcases h2 with rfl | rfl
          · exact ⟨.inl h3, .inl rfl⟩
          · exact ⟨.inr h3, .inl rfl⟩
        · obtain ⟨f', fd', ps', F', h1, h2, h3⟩ := hfns x i fl hm
          exact ⟨f', fd', ps', k, F', hr, h1, h2, h3⟩
      refine ⟨tS K (ioP d.fn.fl) (wpSs C d.fn.body), ?_, body_ok (by rw [efn]) hsp⟩
      have := block_ok (fl := d.fn.fl) (cS_ok ok 40) (defBody d.st)
      rw [efn]
      exact this
  · cases h
theorem spF_imp {fl : List Bool} {c1 c2 : Ct} (h : ∀ ds Q, c1 ds Q → c2 ds Q) (vs : List V) (H : Hp) (Q : VK) (E : XK) (q : spF K fl c1 vs H Q E) : spF K fl c2 vs H Q E := by
  obtain ⟨T, ds, k, l1, l2, ok, hc, z⟩ := q
  exact ⟨T, ds, k, l1, l2, ok, h _ _ hc, z⟩
theorem FnG.imp {k : Nat} {f : Addr} {fd : FuncData} {ps : List Str} {sp sp' : Sp} (F : FnG P w K mg base CX0 k f fd ps sp) (h : ∀ vs H Q E, sp' vs H Q E → sp vs H Q E) : FnG P w K mg base CX0 k f fd ps sp' :=
  ⟨fun vs H Q E q => F.len vs H Q E (h _ _ _ _ q), fun A o s H a us vs Q E hr hg he hb hv hs => F.go A o s H a us vs Q E hr hg he hb hv (h _ _ _ _ hs)⟩
end
/-- the functions that stand ahead -/
def ahead (tab : List Df) (n : Nat) : List (Str × Nat × List Bool) := (tab.take n).mapIdx fun i d => (d.name, i, d.fn.fl)
/-- ALL DEFS keep their contracts -/
theorem all_ok {P : Program} {w : World} {K : PySem.W.Frag} {mg : Str → Option Value} {base : Heap} {C : Nat → Ct} {bl : List Str} {cs : List (Str × D)} {tab : List Df}
    (hF : ∀ (i : Nat) (d : Df), tab[i]? = some d → ∃ x qual f fd, FunD K x qual (defArgs d.st) (defBody d.st) (defScope d.st) [] [] f fd ∧ mg d.name = some (.ref f) ∧ Binds K fd d.ps [])
    (hc : ∀ (i : Nat) (d : Df), tab[i]? = some d → cFn (ahead tab i) bl cs d = some d.fn) (hC : ∀ (i : Nat) (d : Df), tab[i]? = some d → ∀ ds Q, C i ds Q → wpFn C d.fn ds Q) (hbl : ∀ x, bl.contains x = true → mg x = none) (hcs : ∀ x d, cs.lookup x = some d → ∃ v u, mg x = some u ∧ RelV v u ∧ ∀ M, Rep K M v d) :
    ∀ (i : Nat) (d : Df), tab[i]? = some d → ∃ f fd, FnG P w K mg base CX0 (i + 1) f fd d.ps (spF K d.fn.fl (C i)) ∧ mg d.name = some (.ref f) ∧ PySem.W.keepIn K (.ref f) = true ∧ Binds K fd d.ps [] := by
  intro i
  induction i using Nat.strongRecOn with
  | ind i ih =>
    intro d hd
    obtain ⟨x, qual, f, fd, F, hm, hb⟩ := hF i d hd
    have G := df_ok (P := P) (w := w) (mg := mg) (base := base) (C := C) (k := i) F (hc i d hd) (fun y j fl hj => by
      unfold ahead at hj
      obtain ⟨n, hn, e⟩ := List.mem_mapIdx.mp hj
      have e : (((tab.take i)[n]).name, n, ((tab.take i)[n]).fn.fl) = (y, j, fl) := e
      cases e
      have hlt : j < i ∧ j < tab.length := by
        rw [List.length_take] at hn
        omega
      have hg : tab[j]? = some (tab.take i)[j] := by
        rw [List.getElem_take, List.getElem?_eq_getElem hlt.2]
      obtain ⟨f', fd', F', h1, h2, h3⟩ := ih j hlt.1 _ hg
      exact ⟨f', fd', _, F'.up (by omega), h1, h2, h3⟩) hbl hcs
    exact ⟨f, fd, G.imp (spF_imp (hC i d hd)), hm, F.kp, hb⟩
end G

/-! G15: one def among all -/
namespace G
open PySem PySem.Spec L2
open PyProof.Rows hiding St
theorem one_ok {P : Program} {w : World} {K : PySem.W.Frag} {mg : Str → Option Value} {base : Heap} {C : Nat → Ct} {bl : List Str} {cs : List (Str × D)} {tab : List Df}
    (hF : ∀ (i : Nat) (d : Df), tab[i]? = some d → ∃ x qual f fd, FunD K x qual (defArgs d.st) (defBody d.st) (defScope d.st) [] [] f fd ∧ mg d.name = some (.ref f) ∧ Binds K fd d.ps [])
    (hc : ∀ (i : Nat) (d : Df), tab[i]? = some d → cFn (ahead tab i) bl cs d = some d.fn) (hC : ∀ (i : Nat) (d : Df), tab[i]? = some d → ∀ ds Q, C i ds Q → wpFn C d.fn ds Q) (hbl : ∀ x, bl.contains x = true → mg x = none) (hcs : ∀ x d, cs.lookup x = some d → ∃ v u, mg x = some u ∧ RelV v u ∧ ∀ M, Rep K M v d)
    {i : Nat} {d : Df} (hd : tab[i]? = some d) {x qual : Str} {f : Addr} {fd : FuncData} (F : FunD K x qual (defArgs d.st) (defBody d.st) (defScope d.st) [] [] f fd) :
    FnG P w K mg base CX0 (i + 1) f fd d.ps (spF K d.fn.fl (C i)) := by
  have ih := all_ok (P := P) (w := w) (base := base) hF hc hC hbl hcs
  have G := df_ok (P := P) (w := w) (mg := mg) (base := base) (C := C) (k := i) F (hc i d hd) (fun y j fl hj => by
    unfold ahead at hj
    obtain ⟨n, hn, e⟩ := List.mem_mapIdx.mp hj
    have e : (((tab.take i)[n]).name, n, ((tab.take i)[n]).fn.fl) = (y, j, fl) := e
    cases e
    have hlt : j < i ∧ j < tab.length := by
      rw [List.length_take] at hn
      omega
    have hg : tab[j]? = some (tab.take i)[j] := by
      rw [List.getElem_take, List.getElem?_eq_getElem hlt.2]
    obtain ⟨f', fd', F', h1, h2, h3⟩ := ih j _ hg
    exact ⟨f', fd', _, F'.up (by omega), h1, h2, h3⟩) hbl hcs
  exact G.imp (spF_imp (hC i d hd))
/-- the table compiled, row by row -/
theorem comp_rows {bl : List Str} {cs : List (Str × D)} {tab : List Df} (h : (tab.mapIdx fun i d => cFn (ahead tab i) bl cs d) = tab.map fun d => some d.fn) (i : Nat) (d : Df) (hd : tab[i]? = some d) : cFn (ahead tab i) bl cs d = some d.fn := by
  have h1 := congrArg (fun l => l[i]?) h
  simp only [List.getElem?_mapIdx, List.getElem?_map, hd, Option.map_some] at h1
  exact Option.some.inj h1
theorem all_bl {bl : List Str} {mg : Str → Option Value} (h : ∀ x, x ∈ bl → mg x = none) (x : Str) (hx : bl.contains x = true) : mg x = none := h x (List.contains_iff_mem.mp hx)
theorem rep_ints {K : PySem.W.Frag} {M : Hp} : ∀ ns : List Int, RepAll K M (ns.map V.int) (ns.map PyData.int)
  | [] => .nil
  | n :: ns => .cons (.int n) (rep_ints ns)
/-! ### constants of the module -/
def repsB (f : Value → D → Bool) : List Value → List D → Bool
  | [], [] => true
  | u :: us, d :: ds => f u d && repsB f us ds
  | _, _ => false
def repB (K : PySem.W.Frag) : Nat → Value → D → Bool
  | 0, _, _ => false
  | n + 1, u, d => match d with
    | .int i => (match u with
      | .int j _ => decide (i = j)
      | _ => false)
    | .str s => (match u with
      | .str t _ => decide (s = t)
      | _ => false)
    | .tuple ds => (match u with
      | .ref a => (match K.lookup a with
        | some o => (match o.data with
          | .seq its _ => decide (o.cls = .type "tuple") && decide (its.size ≤ sizeLine) && repsB (repB K n) its.toList ds
          | _ => false)
        | none => false)
      | _ => false)
    | _ => false
theorem repsB_ok {K : PySem.W.Frag} {f : Value → D → Bool} (hf : ∀ u d, f u d = true → ∃ v, RelV v u ∧ ∀ M, Rep K M v d) : ∀ (us : List Value) (ds : List D), repsB f us ds = true → ∃ vs, Vals vs us ∧ ∀ M, RepAll K M vs ds
  | [], [], _ => ⟨[], .nil, fun _ => .nil⟩
  | [], _ :: _, h => nomatch h
  | _ :: _, [], h => nomatch h
  | u :: us, d :: ds, h => by
    have h : (f u d && repsB f us ds) = true := h
    rw [Bool.and_eq_true] at h
    obtain ⟨v, r, hr⟩ := hf u d h.1
    obtain ⟨vs, rs, hrs⟩ := repsB_ok hf us ds h.2
    exact ⟨v :: vs, .cons r rs, fun M => .cons (hr M) (hrs M)⟩
theorem repB_ok {K : PySem.W.Frag} : ∀ (n : Nat) (u : Value) (d : D), repB K n u d = true → ∃ v, RelV v u ∧ ∀ M, Rep K M v d
  | 0, _, _, h => nomatch h
  | n + 1, u, d, h => by
    unfold repB at h
    split at h
    · split at h
      · have e := of_decide_eq_true h
        subst e
        exact ⟨.int _, ⟨_, rfl⟩, fun _ => .int _⟩
      · exact nomatch h
    · split at h
      · have e := of_decide_eq_true h
        subst e
        exact ⟨.str _, ⟨_, rfl⟩, fun _ => .str _⟩
      · exact nomatch h
    · split at h
      · rename_i a
        split at h
        · rename_i o ho
          split at h
          · rename_i its k hd
            rw [Bool.and_eq_true, Bool.and_eq_true] at h
            obtain ⟨vs, hv, hr⟩ := repsB_ok (repB_ok n) _ _ h.2
            exact ⟨.ref a, rfl, fun M => .tup (.inr ⟨o, its, k, ho, of_decide_eq_true h.1.1, hd, of_decide_eq_true h.1.2, hv⟩) (hr M)⟩
          · exact nomatch h
        · exact nomatch h
      · exact nomatch h
    · exact nomatch h
def conB (K : PySem.W.Frag) (x : Str) (d : D) : Bool := match PySem.W.nsIn K mainGlobals x with
  | some (some u) => repB K 5 u d
  | _ => false
theorem conB_ok {K : PySem.W.Frag} {h : Heap} {mg : Str → Option Value} (X : K.In h) (G : h.Ns mainGlobals mg) {x : Str} {d : D} (c : conB K x d = true) : ∃ v u, mg x = some u ∧ RelV v u ∧ ∀ M, Rep K M v d := by
  unfold conB at c
  split at c
  · rename_i u e
    obtain ⟨v, r, hr⟩ := repB_ok 5 u d c
    exact ⟨v, u, PySem.W.mg_of X G e, r, hr⟩
  · exact nomatch c
/-! the hook, with constants -/
def obsK (fa : List He.Fa) (fn : List He.DefD) (cs : List (Str × D)) (K : PySem.W.Frag) : He.AlD := ((He.obsD fa fn K).1 && cs.all fun p => conB K p.1 p.2, (He.obsD fa fn K).2)
def SaysK (fa : List He.Fa) (fn : List He.DefD) (cs : List (Str × D)) (K : PySem.W.Frag) : Prop := obsK fa fn cs K = He.valD fn
def obsKG (n : Nat) (fa : List He.Fa) (fn : List He.DefD) (cs : List (Str × D)) (g : Addr → Option Obj) : He.AlD := obsK fa fn cs (He.frG g (He.asD g n))
def hookK (n : Nat) (fa : List He.Fa) (fn : List He.DefD) (cs : List (Str × D)) : PySem.W.Hook where
  α := He.AlD
  obs := fun s => obsKG n fa fn cs s.heap.get?
  val := fun _ => He.valD fn
  says := fun _ h => ∃ K : PySem.W.Frag, K.In h ∧ SaysK fa fn cs K
  of := fun _ _ e => ⟨_, He.frG_in, e⟩
  keeps := fun _ _ _ ⟨K, hK, c⟩ k => ⟨K, PySem.W.Frag.In.keeps hK k, c⟩
theorem obsKG_eq {n : Nat} {fa : List He.Fa} {fn : List He.DefD} {cs : List (Str × D)} {g : Addr → Option Obj} {s : Shared} (h : ∀ a, g a = s.heap.get? a) : obsKG n fa fn cs g = (hookK n fa fn cs).obs s := by
  have e : g = s.heap.get? := funext h
  rw [e] <;> rfl
theorem SaysK.says {fa : List He.Fa} {fn : List He.DefD} {cs : List (Str × D)} {K : PySem.W.Frag} (c : SaysK fa fn cs K) : He.SaysD fa fn K := by
  have h1 : ((He.obsD fa fn K).1 && cs.all fun p => conB K p.1 p.2) = true := congrArg (fun z : He.AlD => z.1) c
  have h2 : (He.obsD fa fn K).2 = fn.map He.DefD.val := congrArg (fun z : He.AlD => z.2) c
  rw [Bool.and_eq_true] at h1
  exact Prod.ext h1.1 h2
theorem SaysK.con {fa : List He.Fa} {fn : List He.DefD} {cs : List (Str × D)} {K : PySem.W.Frag} (c : SaysK fa fn cs K) {h : Heap} {mg : Str → Option Value} (X : K.In h) (G : h.Ns mainGlobals mg) (x : Str) (d : D) (e : cs.lookup x = some d) :
    ∃ v u, mg x = some u ∧ RelV v u ∧ ∀ M, Rep K M v d := by
  have h1 : ((He.obsD fa fn K).1 && cs.all fun p => conB K p.1 p.2) = true := congrArg (fun z : He.AlD => z.1) c
  rw [Bool.and_eq_true] at h1
  have hm : (x, d) ∈ cs := by
    clear c h1
    induction cs with
    | nil => exact nomatch e
    | cons p cs ih =>
      obtain ⟨y, d'⟩ := p
      rw [List.lookup_cons] at e
      split at e
      · rename_i hy
        have hy : x = y := by simpa using hy
        cases e; rw [hy]; exact List.mem_cons_self
      · exact List.mem_cons_of_mem _ (ih e)
  exact conB_ok X G (List.all_eq_true.mp h1.2 _ hm)
/-- the law at a script -/
theorem scr_ok {K : PySem.W.Frag} {ct : Ct} {H : Hp} {a : Addr} {ns : List Int} (hO : Only H) (hS : SqL K H a (ns.map V.int)) (h : ∀ k : D → Bool → List D → Prop, k (.bool true) false [] → ct [scrD (ns.map .int)] k) :
    spF K [false] ct [.ref a] H (fun v _ => v = .bl true) fun _ _ _ => False := by
  have noA : ∀ b, ¬ OA [Slot.sh (scrD (ns.map .int))] [some (V.ref a)] b := by
    rintro b ⟨i, ⟨s, e1, e2⟩, e3⟩
    match i, e1 with
    | 0, e1 => cases (show some (Slot.sh (scrD (ns.map .int))) = some s from e1); exact nomatch e2
    | i + 1, e1 => exact nomatch e1
  refine ⟨fun _ => False, [scrD (ns.map .int)], fun d _ _ => d = .bool true, rfl, rfl, ⟨rfl, ?_, ?_, ?_, ?_⟩, h _ rfl, ?_⟩
  · intro i s e
    match i, e with
    | 0, e =>
      cases (show some (Slot.sh (scrD (ns.map .int))) = some s from e)
      refine ⟨_, rfl, .scr (sqL_mono (fun b o e => mask_some.mpr ⟨?_, e⟩) hS) (rep_ints ns)⟩
      rintro (z | z)
      · exact z
      · exact noA _ z
    | i + 1, e => exact nomatch e
  · rintro i j b ⟨x, _⟩ _
    exact absurd ⟨i, x, by assumption⟩ (noA b)
  · intro b _ z; exact z
  · intro b z; exact z.elim
  · rintro r fr os v H' _ _ _ rs rfl
    unfold Res at rs
    cases fr with
    | true => simp only [if_true] at rs; obtain ⟨_, _, _, _, e, _⟩ := rs; exact nomatch e
    | false =>
      have rs : Rep K _ v (.bool true) := rs
      cases rs; rfl
end G

/-! ### S1: rows for running a small program by rewriting, the head first -/
namespace G
open PySem PySem.Spec L2
open PyProof.Rows hiding St

theorem nr.{u} {α : Sort u} {a b : α} (h : a = b) : a = b := h
section
variable {w : En → (D → Bool → En → Prop) → Prop} {env : En} {k : Od → En → Prop}
theorem oo_var {i} : opO (.var i) w env k = rdS env i fun _ => k (.late i) env := nr rfl
theorem oo_cst {a} : opO (.cst a) w env k = w env fun d _ e' => k (.val d) e' := nr rfl
theorem oo_con {a} : opO (.con a) w env k = w env fun d _ e' => k (.val d) e' := nr rfl
theorem oo_rev {a} : opO (.rev a) w env k = w env fun d _ e' => k (.val d) e' := nr rfl
theorem oo_dic0 : opO .dic0 w env k = w env fun d _ e' => k (.val d) e' := nr rfl
theorem oo_tup {a} : opO (.tup a) w env k = w env fun d _ e' => k (.val d) e' := nr rfl
theorem oo_lst {a} : opO (.lst a) w env k = w env fun d _ e' => k (.val d) e' := nr rfl
theorem oo_bin {a b c} : opO (.bin a b c) w env k = w env fun d _ e' => k (.val d) e' := nr rfl
theorem oo_neg {a} : opO (.neg a) w env k = w env fun d _ e' => k (.val d) e' := nr rfl
theorem oo_cmp {a b c} : opO (.cmp a b c) w env k = w env fun d _ e' => k (.val d) e' := nr rfl
theorem oo_chain {a b c d e} : opO (.chain a b c d e) w env k = w env fun d _ e' => k (.val d) e' := nr rfl
theorem oo_not {a} : opO (.not a) w env k = w env fun d _ e' => k (.val d) e' := nr rfl
theorem oo_and {a b} : opO (.and a b) w env k = w env fun d _ e' => k (.val d) e' := nr rfl
theorem oo_or {a b} : opO (.or a b) w env k = w env fun d _ e' => k (.val d) e' := nr rfl
theorem oo_ite {a b c} : opO (.ite a b c) w env k = w env fun d _ e' => k (.val d) e' := nr rfl
theorem oo_call {a b} : opO (.call a b) w env k = w env fun d _ e' => k (.val d) e' := nr rfl
theorem oo_blt {a b} : opO (.blt a b) w env k = w env fun d _ e' => k (.val d) e' := nr rfl
theorem oo_isi {a b} : opO (.isi a b) w env k = w env fun d _ e' => k (.val d) e' := nr rfl
theorem oo_idx {a b} : opO (.idx a b) w env k = w env fun d _ e' => k (.val d) e' := nr rfl
theorem oo_slc {a b c} : opO (.slc a b c) w env k = w env fun d _ e' => k (.val d) e' := nr rfl
theorem oo_comp {a b c d e} : opO (.comp a b c d e) w env k = w env fun d _ e' => k (.val d) e' := nr rfl
theorem oo_pop {a b} : opO (.pop a b) w env k = w env fun d _ e' => k (.val d) e' := nr rfl
end
section
variable {w : En → (D → Bool → En → Prop) → Prop} {env : En} {d : En4}
def rtO (o : Option Slot) (a b : Prop) (f : D → Prop) : Prop := match o with
  | some (.own x) => f x
  | _ => b
theorem rt_var {i} : retD (.var i) w env d = rtO env[i]? True (w env fun x fr e' => d.rt x fr e') fun x => d.rt x true (env.set i .un) := by
  unfold retD rtO; rfl
theorem rtO_congr {o o' : Option Slot} {a b f} (h : o = o') : rtO o a b f = rtO o' a b f := by rw [h]
theorem rtO_own {x a b f} : rtO (some (.own x)) a b f = f x := nr rfl
theorem rtO_sh {x a b f} : rtO (some (.sh x)) a b f = b := nr rfl
theorem rtO_lock {x a b f} : rtO (some (.lock x)) a b f = b := nr rfl
theorem rt_cst {a} : retD (.cst a) w env d = w env fun x fr e' => d.rt x fr e' := nr rfl
theorem rt_con {a} : retD (.con a) w env d = w env fun x fr e' => d.rt x fr e' := nr rfl
theorem rt_rev {a} : retD (.rev a) w env d = w env fun x fr e' => d.rt x fr e' := nr rfl
theorem rt_dic0 : retD .dic0 w env d = w env fun x fr e' => d.rt x fr e' := nr rfl
theorem rt_tup {a} : retD (.tup a) w env d = w env fun x fr e' => d.rt x fr e' := nr rfl
theorem rt_lst {a} : retD (.lst a) w env d = w env fun x fr e' => d.rt x fr e' := nr rfl
theorem rt_bin {a b c} : retD (.bin a b c) w env d = w env fun x fr e' => d.rt x fr e' := nr rfl
theorem rt_neg {a} : retD (.neg a) w env d = w env fun x fr e' => d.rt x fr e' := nr rfl
theorem rt_cmp {a b c} : retD (.cmp a b c) w env d = w env fun x fr e' => d.rt x fr e' := nr rfl
theorem rt_chain {a b c e f} : retD (.chain a b c e f) w env d = w env fun x fr e' => d.rt x fr e' := nr rfl
theorem rt_not {a} : retD (.not a) w env d = w env fun x fr e' => d.rt x fr e' := nr rfl
theorem rt_and {a b} : retD (.and a b) w env d = w env fun x fr e' => d.rt x fr e' := nr rfl
theorem rt_or {a b} : retD (.or a b) w env d = w env fun x fr e' => d.rt x fr e' := nr rfl
theorem rt_ite {a b c} : retD (.ite a b c) w env d = w env fun x fr e' => d.rt x fr e' := nr rfl
theorem rt_call {a b} : retD (.call a b) w env d = w env fun x fr e' => d.rt x fr e' := nr rfl
theorem rt_blt {a b} : retD (.blt a b) w env d = w env fun x fr e' => d.rt x fr e' := nr rfl
theorem rt_isi {a b} : retD (.isi a b) w env d = w env fun x fr e' => d.rt x fr e' := nr rfl
theorem rt_idx {a b} : retD (.idx a b) w env d = w env fun x fr e' => d.rt x fr e' := nr rfl
theorem rt_slc {a b c} : retD (.slc a b c) w env d = w env fun x fr e' => d.rt x fr e' := nr rfl
theorem rt_comp {a b c e f} : retD (.comp a b c e f) w env d = w env fun x fr e' => d.rt x fr e' := nr rfl
theorem rt_pop {a b} : retD (.pop a b) w env d = w env fun x fr e' => d.rt x fr e' := nr rfl
end
/-- a slot read -/
def rdO (o : Option Slot) (k : D → Prop) : Prop := match o with
  | some s => s.get k
  | none => False
theorem rdS_eq {env : En} {i k} : rdS env i k = rdO env[i]? k := nr rfl
theorem rdO_congr {o o' : Option Slot} {k} (h : o = o') : rdO o k = rdO o' k := by rw [h]
theorem rdO_own {x k} : rdO (some (.own x)) k = k x := nr rfl
theorem rdO_sh {x k} : rdO (some (.sh x)) k = k x := nr rfl
theorem rdO_lock {x k} : rdO (some (.lock x)) k = k x := nr rfl
theorem rd_late {env : En} {i k} : rd env (.late i) k = rdO env[i]? k := nr rfl
theorem rd_val {env : En} {d k} : rd env (.val d) k = k d := nr rfl
def isO (o : Option Slot) (k : List D → Prop) : Prop := match o with
  | some (.own (.list xs)) => k xs
  | _ => False
theorem isL_eq {env : En} {i k} : isL env i k = isO env[i]? k := nr rfl
theorem isO_congr {o o' : Option Slot} {k} (h : o = o') : isO o k = isO o' k := by rw [h]
theorem isO_own {x k} : isO (some (.own (.list x))) k = k x := nr rfl
def agO (o : Option Slot) (k : D → Prop) : Prop := match o with
  | some (.own d) => k d
  | _ => False
theorem agO_congr {o o' : Option Slot} {k} (h : o = o') : agO o k = agO o' k := by rw [h]
theorem agO_own {x k} : agO (some (.own x)) k = k x := nr rfl
theorem ag_nil {env : En} {k} : argD env [] k = k [] := nr rfl
theorem ag_val {env : En} {k d as} : argD env (.val d :: as) k = argD env as fun ds => k (d :: ds) := nr rfl
theorem ag_io {env : En} {k i as} : argD env (.io i :: as) k = agO env[i]? fun d => argD env as fun ds => k (d :: ds) := by
  show (match env[i]? with | some (.own d) => _ | _ => False) = _
  unfold agO; rfl
theorem finD_congr {fl : List Bool} {e e' : En} {k} (h : e = e') : finD fl e k = finD fl e' k := by rw [h]
theorem fin_nil {env : En} {k} : finD [] env k = k [] := by rw [finD]
theorem fin_t {fl d} {env : En} {k} : finD (true :: fl) (.own d :: env) k = finD fl env fun ds => k (d :: ds) := by rw [finD]
theorem fin_f {fl s} {env : En} {k} : finD (false :: fl) (s :: env) k = finD fl env k := by cases s <;> rw [finD]
theorem put_t {env : En} {i d} : put env i d true = env.set i (.own d) := nr rfl
theorem put_f {env : En} {i d} : put env i d false = env.set i (.sh d) := nr rfl
theorem ous_nil {env : En} {ds} : outs env [] ds = env := by rw [outs]; intros; contradiction
theorem ous_nil' {env : En} {is} : outs env is [] = env := by cases is <;> rw [outs] <;> (intros; contradiction)
theorem ous_cons {env : En} {i is d ds} : outs env (i :: is) (d :: ds) = outs (env.set i (.own d)) is ds := by rw [outs]
theorem ios_nil : iosOf [] = [] := nr rfl
theorem ios_io {i as} : iosOf (.io i :: as) = i :: iosOf as := nr rfl
theorem ios_val {d as} : iosOf (.val d :: as) = iosOf as := nr rfl
theorem puts_nil {env : En} {k} : putsE [] [] env k = k env := by rw [putsE]
theorem puts_cons {env : En} {k i is d fr ds} : putsE (i :: is) ((d, fr) :: ds) env k = putsE is ds (put env i d fr) k := by rw [putsE]
theorem tg_nm {env : En} {k i d} : wpTg (.nm i) d env k = k (put env i d false) := by rw [wpTg]
theorem tg_tup {env : En} {k ts xs} : wpTg (.tup ts) (.tuple xs) env k = (xs.length = ts.length ∧ wpTgs ts xs env k) := by
  rw [wpTg]; apply propext; constructor
  · rintro ⟨_, ⟨rfl⟩, h⟩; exact h
  · intro h; exact ⟨_, rfl, h⟩
theorem tgs_nil {env : En} {k} : wpTgs [] [] env k = k env := by rw [wpTgs]; simp
theorem tgs_cons {env : En} {k t ts y ys} : wpTgs (t :: ts) (y :: ys) env k = wpTg t y env fun e => wpTgs ts ys e k := by
  rw [wpTgs]; apply propext; constructor
  · rintro ⟨_, _, ⟨rfl⟩, h⟩; exact h
  · intro h; exact ⟨_, _, rfl, h⟩
theorem ex_int {a : Int} {P : Int → Prop} : (∃ i, PyData.int a = .int i ∧ P i) = P a := by
  apply propext; constructor
  · rintro ⟨_, ⟨rfl⟩, h⟩; exact h
  · intro h; exact ⟨_, rfl, h⟩
theorem ex_bool {a : Bool} {P : Bool → Prop} : (∃ i, PyData.bool a = .bool i ∧ P i) = P a := by
  apply propext; constructor
  · rintro ⟨_, ⟨rfl⟩, h⟩; exact h
  · intro h; exact ⟨_, rfl, h⟩
theorem ex_list {a : List D} {P : List D → Prop} : (∃ i, PyData.list a = .list i ∧ P i) = P a := by
  apply propext; constructor
  · rintro ⟨_, ⟨rfl⟩, h⟩; exact h
  · intro h; exact ⟨_, rfl, h⟩
theorem ex_int2 {a b : Int} {P : Int → Int → Prop} : (∃ m n, PyData.int a = .int m ∧ PyData.int b = .int n ∧ P m n) = P a b := by
  apply propext; constructor
  · rintro ⟨_, _, ⟨rfl⟩, ⟨rfl⟩, h⟩; exact h
  · intro h; exact ⟨_, _, rfl, rfl, h⟩
/-- an index -/
def itO (o : Option D) (k : D → Prop) : Prop := ∃ x, o = some x ∧ k x
theorem itO_congr {o o' : Option D} {k} (h : o = o') : itO o k = itO o' k := by rw [h]
theorem itO_some {x k} : itO (some x) k = k x := by
  apply propext; constructor
  · rintro ⟨_, ⟨rfl⟩, h⟩; exact h
  · intro h; exact ⟨_, rfl, h⟩
theorem itO_of {o : Option D} {k} (x : D) (h : o = some x) (g : k x) : itO o k := ⟨x, h, g⟩
theorem item_l {xs n k} : item (.list xs) (.int n) k = itO (atI xs n) k := nr rfl
theorem item_t {xs n k} : item (.tuple xs) (.int n) k = itO (atI xs n) k := nr rfl
theorem atI_nat {xs : List D} (n : Nat) : atI xs (n : Int) = xs[n]? := by
  unfold atI ixN
  rw [if_pos (by omega)]
  by_cases h : n < xs.length
  · rw [if_pos (by omega), Int.toNat_natCast]; rfl
  · rw [if_neg (by omega), List.getElem?_eq_none (by omega)]; rfl
theorem atI_0 {a} {l : List D} : atI (a :: l) 0 = some a := atI_nat 0
theorem atI_1 {a b} {l : List D} : atI (a :: b :: l) 1 = some b := atI_nat 1
theorem atI_2 {a b c} {l : List D} : atI (a :: b :: c :: l) 2 = some c := atI_nat 2
theorem atI_3 {a b c d} {l : List D} : atI (a :: b :: c :: d :: l) 3 = some d := atI_nat 3
theorem atI_4 {a b c d e} {l : List D} : atI (a :: b :: c :: d :: e :: l) 4 = some e := atI_nat 4
theorem atI_5 {a b c d e f} {l : List D} : atI (a :: b :: c :: d :: e :: f :: l) 5 = some f := atI_nat 5
/-- a place of a list set -/
def sxO (o : Option Nat) (k : Nat → Prop) : Prop := ∃ j, o = some j ∧ k j
theorem sxO_congr {o o' : Option Nat} {k} (h : o = o') : sxO o k = sxO o' k := by rw [h]
theorem sxO_some {x k} : sxO (some x) k = k x := by
  apply propext; constructor
  · rintro ⟨_, ⟨rfl⟩, h⟩; exact h
  · intro h; exact ⟨_, rfl, h⟩
theorem sx_eq {a : Int} {o : Int → Option Nat} {P : Nat → Prop} : (∃ (n : Int) (j : Nat), PyData.int a = .int n ∧ o n = some j ∧ P j) = sxO (o a) P := by
  apply propext; constructor
  · rintro ⟨_, j, ⟨rfl⟩, h, g⟩; exact ⟨j, h, g⟩
  · rintro ⟨j, h, g⟩; exact ⟨_, j, rfl, h, g⟩
theorem ixN_nat {n : Nat} (i : Nat) (h : i < n) : ixN n (i : Int) = some i := by
  unfold ixN
  rw [if_pos (by omega), if_pos (by omega), Int.toNat_natCast]
theorem ixN_0 {n : Nat} : ixN (n + 1) 0 = some 0 := ixN_nat 0 (by omega)
theorem ixN_1 {n : Nat} : ixN (n + 2) 1 = some 1 := ixN_nat 1 (by omega)
theorem ixN_2 {n : Nat} : ixN (n + 3) 2 = some 2 := ixN_nat 2 (by omega)
theorem ixN_3 {n : Nat} : ixN (n + 4) 3 = some 3 := ixN_nat 3 (by omega)
theorem ixN_4 {n : Nat} : ixN (n + 5) 4 = some 4 := ixN_nat 4 (by omega)
theorem setIx_eq {C : Nat → Ct} {i ix e env} {d : En4} : wpS C (.setIx i ix e) env d = wpE C e env fun u _ e1 => isL e1 i fun _ => opO ix (wpE C ix) e1 fun y e2 => rd e2 y fun v => isL e2 i fun xs =>
      ∃ (n : Int) (j : Nat), v = .int n ∧ ixN xs.length n = some j ∧ d.nx (e2.set i (.own (.list (xs.set j u)))) := by rw [wpS]

/-! operators -/
section
variable {k : K1} {i j : Int} {xs ys : List D} {x y : Str} {q : Bool → Prop} {a b : D}
theorem o_addI : op2 .Add (.int i) (.int j) k = k (.int (i + j)) false := nr rfl
theorem o_addS : op2 .Add (.str x) (.str y) k = (x.length + y.length ≤ sizeLine ∧ k (.str (x ++ y)) false) := nr rfl
theorem o_addL : op2 .Add (.list xs) (.list ys) k = (xs.length + ys.length ≤ sizeLine ∧ k (.list (xs ++ ys)) true) := nr rfl
theorem o_addT : op2 .Add (.tuple xs) (.tuple ys) k = (xs.length + ys.length ≤ sizeLine ∧ k (.tuple (xs ++ ys)) false) := nr rfl
theorem o_sub : op2 .Sub (.int i) (.int j) k = k (.int (i - j)) false := nr rfl
theorem o_mul : op2 .Mult (.int i) (.int j) k = (CMulW i j ∧ k (.int (i * j)) false) := nr rfl
theorem o_mod : op2 .Mod (.int i) (.int j) k = (0 < j ∧ k (.int (i % j)) false) := nr rfl
theorem o_div : op2 .FloorDiv (.int i) (.int j) k = (CDivW i j ∧ k (.int (i / j)) false) := nr rfl
theorem o_pow : op2 .Pow (.int i) (.int j) k = (CPow i j ∧ k (.int (i ^ j.toNat)) false) := nr rfl
theorem o_mulT : op2 .Mult (.tuple xs) (.int i) k = (xs ≠ [] ∧ -(2 ^ 63) ≤ i ∧ i ≤ 1000 ∧ xs.length ≤ 1000 ∧ k (.tuple (List.replicate i.toNat xs).flatten) false) := nr rfl
theorem o_mulL : op2 .Mult (.list xs) (.int i) k = (-(2 ^ 63) ≤ i ∧ i < 2 ^ 63 ∧ xs.length * i.toNat ≤ sizeLine ∧ k (.list (List.replicate i.toNat xs).flatten) true) := nr rfl
theorem c_lt : cmp2 .Lt (.int i) (.int j) q = q (decide (i < j)) := nr rfl
theorem c_le : cmp2 .LtE (.int i) (.int j) q = q (decide (i ≤ j)) := nr rfl
theorem c_gt : cmp2 .Gt (.int i) (.int j) q = q (decide (j < i)) := nr rfl
theorem c_ge : cmp2 .GtE (.int i) (.int j) q = q (decide (j ≤ i)) := nr rfl
theorem c_eqI : cmp2 .Eq (.int i) (.int j) q = q (decide (i = j)) := by
  show (SeqAt.shaped (.int i) = true ∧ SeqAt.shaped (.int j) = true ∧ q (PyData.eqv (.int i) (.int j))) = _
  have : PyData.eqv (.int i) (.int j) = decide (i = j) := nr rfl
  rw [this]
  have s : ∀ n : Int, SeqAt.shaped (.int n) = true := fun _ => rfl
  simp only [s, true_and]
theorem c_neI : cmp2 .NotEq (.int i) (.int j) q = q (!decide (i = j)) := by
  show (SeqAt.shaped (.int i) = true ∧ SeqAt.shaped (.int j) = true ∧ q (!PyData.eqv (.int i) (.int j))) = _
  have : PyData.eqv (.int i) (.int j) = decide (i = j) := nr rfl
  rw [this]
  have s : ∀ n : Int, SeqAt.shaped (.int n) = true := fun _ => rfl
  simp only [s, true_and]
theorem c_eqS : cmp2 .Eq (.str x) (.str y) q = q (decide (x = y)) := nr rfl
theorem c_neS : cmp2 .NotEq (.str x) (.str y) q = q (!decide (x = y)) := nr rfl
theorem c_eqT : cmp2 .Eq (.tuple xs) b q = (SeqAt.shaped (.tuple xs) = true ∧ SeqAt.shaped b = true ∧ q (PyData.eqv (.tuple xs) b)) := nr rfl
theorem c_neT : cmp2 .NotEq (.tuple xs) b q = (SeqAt.shaped (.tuple xs) = true ∧ SeqAt.shaped b = true ∧ q (!PyData.eqv (.tuple xs) b)) := nr rfl
theorem c_eqL : cmp2 .Eq (.list xs) b q = (SeqAt.shaped (.list xs) = true ∧ SeqAt.shaped b = true ∧ q (PyData.eqv (.list xs) b)) := nr rfl
theorem c_neL : cmp2 .NotEq (.list xs) b q = (SeqAt.shaped (.list xs) = true ∧ SeqAt.shaped b = true ∧ q (!PyData.eqv (.list xs) b)) := nr rfl
theorem c_in : cmp2 .In a (.list ys) q = (SeqAt.shaped a = true ∧ SeqAt.shaped (.list ys) = true ∧ q (ys.any fun z => PyData.eqv z a)) := by cases a <;> rfl
theorem c_nin : cmp2 .NotIn a (.list ys) q = (SeqAt.shaped a = true ∧ SeqAt.shaped (.list ys) = true ∧ q (!ys.any fun z => PyData.eqv z a)) := by cases a <;> rfl
theorem c_inT : cmp2 .In a (.tuple ys) q = (SeqAt.shaped a = true ∧ SeqAt.shaped (.tuple ys) = true ∧ q (ys.any fun z => PyData.eqv z a)) := by cases a <;> rfl
theorem c_ninT : cmp2 .NotIn a (.tuple ys) q = (SeqAt.shaped a = true ∧ SeqAt.shaped (.tuple ys) = true ∧ q (!ys.any fun z => PyData.eqv z a)) := by cases a <;> rfl
theorem c_inS {c : Nat} : cmp2 .In (.str ⟨#[c]⟩) (.str y) q = q (decide (c ∈ y.cps.toList)) := by
  show (∃ c', (⟨#[c]⟩ : Str) = ⟨#[c']⟩ ∧ q (decide (c' ∈ y.cps.toList))) = _
  apply propext; constructor
  · rintro ⟨c', e, h⟩; cases e; exact h
  · intro h; exact ⟨c, rfl, h⟩
theorem rv_l : revD (.list xs) k = k (.list xs.reverse) true := nr rfl
theorem rv_t : revD (.tuple xs) k = k (.tuple xs.reverse) false := nr rfl
theorem c_isN : cmp2 .Is a .none q = q (isNoneD a) := by cases a <;> rfl
theorem c_isnN : cmp2 .IsNot a .none q = q (!isNoneD a) := by cases a <;> rfl
theorem c_isB {a b} : cmp2 .Is (.bool a) (.bool b) q = q (a == b) := nr rfl
theorem c_isnB {a b} : cmp2 .IsNot (.bool a) (.bool b) q = q (!(a == b)) := nr rfl
theorem bb_lenL : blt1 .len (.list xs) k = k (.int (xs.length : Int)) false := nr rfl
theorem bb_lenT : blt1 .len (.tuple xs) k = k (.int (xs.length : Int)) false := nr rfl
theorem bb_lenS : blt1 .len (.str x) k = (x.length ≤ sizeLine ∧ k (.int (x.length : Int)) false) := nr rfl
theorem bb_int : blt1 .int (.int i) k = k (.int i) false := nr rfl
theorem bb_intB {b : Bool} : blt1 .int (.bool b) k = k (.int (if b then 1 else 0)) false := nr rfl
theorem bb_abs : blt1 .abs (.int i) k = k (.int (i.natAbs : Int)) false := by
  show k (.int (if i < 0 then -i else i)) false = _
  rw [show (if i < 0 then -i else i) = (i.natAbs : Int) by split <;> omega]
theorem bb_tupL : blt1 .tuple (.list xs) k = k (.tuple xs) false := nr rfl
theorem bb_tupT : blt1 .tuple (.tuple xs) k = k (.tuple xs) false := nr rfl
theorem bb_lstL : blt1 .list (.list xs) k = k (.list xs) true := nr rfl
theorem bb_lstT : blt1 .list (.tuple xs) k = k (.list xs) true := nr rfl
theorem bb_allM {bs : List Bool} : blt1 .all (.list (bs.map .bool)) k = k (.bool (bs.all id)) false := by
  apply propext; constructor
  · rintro ⟨cs, h, g⟩
    have : bs = cs := by
      have h2 := congrArg (List.map fun d => match d with | PyData.bool b => b | _ => false) h
      simpa [List.map_map, Function.comp_def] using h2
    rw [this]; exact g
  · intro h; exact ⟨bs, rfl, h⟩
theorem bb_rep : blt1 .repr a k = (a.showable = true ∧ SeqAt.shaped a = true ∧ a.shown.length ≤ sizeLine ∧ k (.str a.shown) false) := by cases a <;> rfl
theorem t_none : truth .none q = q false := nr rfl
theorem t_bool {b} : truth (.bool b) q = q b := nr rfl
theorem t_int : truth (.int i) q = q (i != 0) := nr rfl
theorem t_list : truth (.list xs) q = q (!xs.isEmpty) := nr rfl
theorem t_tup : truth (.tuple xs) q = q (!xs.isEmpty) := nr rfl
theorem its_l {k : List D → Prop} : items (.list xs) k = k xs := nr rfl
theorem its_t {k : List D → Prop} : items (.tuple xs) k = k xs := nr rfl
theorem sl_l {l h} : slice (.list xs) l h k = k (.list (cutD xs l h)) true := nr rfl
theorem sl_t {l h} : slice (.tuple xs) l h k = k (.tuple (cutD xs l h)) false := nr rfl
theorem sl_s {l h} : slice (scrD xs) l h k = k (.list (cutD xs l h)) true := nr rfl
end
theorem forD_congr {tg b} {xs ys : List D} {e e' : En} {d : En4} (h : xs = ys) (g : e = e') : forD tg b xs e d = forD tg b ys e' d := by rw [h, g]
theorem whileD_congr {t b} {e e' : En} {d : En4} (g : e = e') : whileD t b e d = whileD t b e' d := by rw [g]
theorem compD_congr {vs tg c el} {xs ys a : List D} {e e' : En} {k} (h : xs = ys) (g : e = e') : compD vs tg c el xs a e k = compD vs tg c el ys a e' k := by rw [h, g]
theorem get_0 {a0 : Slot} {l : En} : (a0 :: l)[0]? = some a0 := nr rfl
theorem sett_0 {a0 x} {l : En} : List.set (a0 :: l) 0 x = x :: l := nr rfl
theorem get_1 {a0 a1 : Slot} {l : En} : (a0 :: a1 :: l)[1]? = some a1 := nr rfl
theorem sett_1 {a0 a1 x} {l : En} : List.set (a0 :: a1 :: l) 1 x = a0 :: x :: l := nr rfl
theorem get_2 {a0 a1 a2 : Slot} {l : En} : (a0 :: a1 :: a2 :: l)[2]? = some a2 := nr rfl
theorem sett_2 {a0 a1 a2 x} {l : En} : List.set (a0 :: a1 :: a2 :: l) 2 x = a0 :: a1 :: x :: l := nr rfl
theorem get_3 {a0 a1 a2 a3 : Slot} {l : En} : (a0 :: a1 :: a2 :: a3 :: l)[3]? = some a3 := nr rfl
theorem sett_3 {a0 a1 a2 a3 x} {l : En} : List.set (a0 :: a1 :: a2 :: a3 :: l) 3 x = a0 :: a1 :: a2 :: x :: l := nr rfl
theorem get_4 {a0 a1 a2 a3 a4 : Slot} {l : En} : (a0 :: a1 :: a2 :: a3 :: a4 :: l)[4]? = some a4 := nr rfl
theorem sett_4 {a0 a1 a2 a3 a4 x} {l : En} : List.set (a0 :: a1 :: a2 :: a3 :: a4 :: l) 4 x = a0 :: a1 :: a2 :: a3 :: x :: l := nr rfl
theorem get_5 {a0 a1 a2 a3 a4 a5 : Slot} {l : En} : (a0 :: a1 :: a2 :: a3 :: a4 :: a5 :: l)[5]? = some a5 := nr rfl
theorem sett_5 {a0 a1 a2 a3 a4 a5 x} {l : En} : List.set (a0 :: a1 :: a2 :: a3 :: a4 :: a5 :: l) 5 x = a0 :: a1 :: a2 :: a3 :: a4 :: x :: l := nr rfl
theorem get_6 {a0 a1 a2 a3 a4 a5 a6 : Slot} {l : En} : (a0 :: a1 :: a2 :: a3 :: a4 :: a5 :: a6 :: l)[6]? = some a6 := nr rfl
theorem sett_6 {a0 a1 a2 a3 a4 a5 a6 x} {l : En} : List.set (a0 :: a1 :: a2 :: a3 :: a4 :: a5 :: a6 :: l) 6 x = a0 :: a1 :: a2 :: a3 :: a4 :: a5 :: x :: l := nr rfl
theorem get_7 {a0 a1 a2 a3 a4 a5 a6 a7 : Slot} {l : En} : (a0 :: a1 :: a2 :: a3 :: a4 :: a5 :: a6 :: a7 :: l)[7]? = some a7 := nr rfl
theorem sett_7 {a0 a1 a2 a3 a4 a5 a6 a7 x} {l : En} : List.set (a0 :: a1 :: a2 :: a3 :: a4 :: a5 :: a6 :: a7 :: l) 7 x = a0 :: a1 :: a2 :: a3 :: a4 :: a5 :: a6 :: x :: l := nr rfl
theorem get_8 {a0 a1 a2 a3 a4 a5 a6 a7 a8 : Slot} {l : En} : (a0 :: a1 :: a2 :: a3 :: a4 :: a5 :: a6 :: a7 :: a8 :: l)[8]? = some a8 := nr rfl
theorem sett_8 {a0 a1 a2 a3 a4 a5 a6 a7 a8 x} {l : En} : List.set (a0 :: a1 :: a2 :: a3 :: a4 :: a5 :: a6 :: a7 :: a8 :: l) 8 x = a0 :: a1 :: a2 :: a3 :: a4 :: a5 :: a6 :: a7 :: x :: l := nr rfl
theorem get_9 {a0 a1 a2 a3 a4 a5 a6 a7 a8 a9 : Slot} {l : En} : (a0 :: a1 :: a2 :: a3 :: a4 :: a5 :: a6 :: a7 :: a8 :: a9 :: l)[9]? = some a9 := nr rfl
theorem sett_9 {a0 a1 a2 a3 a4 a5 a6 a7 a8 a9 x} {l : En} : List.set (a0 :: a1 :: a2 :: a3 :: a4 :: a5 :: a6 :: a7 :: a8 :: a9 :: l) 9 x = a0 :: a1 :: a2 :: a3 :: a4 :: a5 :: a6 :: a7 :: a8 :: x :: l := nr rfl
theorem get_10 {a0 a1 a2 a3 a4 a5 a6 a7 a8 a9 a10 : Slot} {l : En} : (a0 :: a1 :: a2 :: a3 :: a4 :: a5 :: a6 :: a7 :: a8 :: a9 :: a10 :: l)[10]? = some a10 := nr rfl
theorem sett_10 {a0 a1 a2 a3 a4 a5 a6 a7 a8 a9 a10 x} {l : En} : List.set (a0 :: a1 :: a2 :: a3 :: a4 :: a5 :: a6 :: a7 :: a8 :: a9 :: a10 :: l) 10 x = a0 :: a1 :: a2 :: a3 :: a4 :: a5 :: a6 :: a7 :: a8 :: a9 :: x :: l := nr rfl
theorem get_11 {a0 a1 a2 a3 a4 a5 a6 a7 a8 a9 a10 a11 : Slot} {l : En} : (a0 :: a1 :: a2 :: a3 :: a4 :: a5 :: a6 :: a7 :: a8 :: a9 :: a10 :: a11 :: l)[11]? = some a11 := nr rfl
theorem sett_11 {a0 a1 a2 a3 a4 a5 a6 a7 a8 a9 a10 a11 x} {l : En} : List.set (a0 :: a1 :: a2 :: a3 :: a4 :: a5 :: a6 :: a7 :: a8 :: a9 :: a10 :: a11 :: l) 11 x = a0 :: a1 :: a2 :: a3 :: a4 :: a5 :: a6 :: a7 :: a8 :: a9 :: a10 :: x :: l := nr rfl
theorem get_12 {a0 a1 a2 a3 a4 a5 a6 a7 a8 a9 a10 a11 a12 : Slot} {l : En} : (a0 :: a1 :: a2 :: a3 :: a4 :: a5 :: a6 :: a7 :: a8 :: a9 :: a10 :: a11 :: a12 :: l)[12]? = some a12 := nr rfl
theorem sett_12 {a0 a1 a2 a3 a4 a5 a6 a7 a8 a9 a10 a11 a12 x} {l : En} : List.set (a0 :: a1 :: a2 :: a3 :: a4 :: a5 :: a6 :: a7 :: a8 :: a9 :: a10 :: a11 :: a12 :: l) 12 x = a0 :: a1 :: a2 :: a3 :: a4 :: a5 :: a6 :: a7 :: a8 :: a9 :: a10 :: a11 :: x :: l := nr rfl
theorem get_13 {a0 a1 a2 a3 a4 a5 a6 a7 a8 a9 a10 a11 a12 a13 : Slot} {l : En} : (a0 :: a1 :: a2 :: a3 :: a4 :: a5 :: a6 :: a7 :: a8 :: a9 :: a10 :: a11 :: a12 :: a13 :: l)[13]? = some a13 := nr rfl
theorem sett_13 {a0 a1 a2 a3 a4 a5 a6 a7 a8 a9 a10 a11 a12 a13 x} {l : En} : List.set (a0 :: a1 :: a2 :: a3 :: a4 :: a5 :: a6 :: a7 :: a8 :: a9 :: a10 :: a11 :: a12 :: a13 :: l) 13 x = a0 :: a1 :: a2 :: a3 :: a4 :: a5 :: a6 :: a7 :: a8 :: a9 :: a10 :: a11 :: a12 :: x :: l := nr rfl
theorem get_14 {a0 a1 a2 a3 a4 a5 a6 a7 a8 a9 a10 a11 a12 a13 a14 : Slot} {l : En} : (a0 :: a1 :: a2 :: a3 :: a4 :: a5 :: a6 :: a7 :: a8 :: a9 :: a10 :: a11 :: a12 :: a13 :: a14 :: l)[14]? = some a14 := nr rfl
theorem sett_14 {a0 a1 a2 a3 a4 a5 a6 a7 a8 a9 a10 a11 a12 a13 a14 x} {l : En} : List.set (a0 :: a1 :: a2 :: a3 :: a4 :: a5 :: a6 :: a7 :: a8 :: a9 :: a10 :: a11 :: a12 :: a13 :: a14 :: l) 14 x = a0 :: a1 :: a2 :: a3 :: a4 :: a5 :: a6 :: a7 :: a8 :: a9 :: a10 :: a11 :: a12 :: a13 :: x :: l := nr rfl
theorem get_15 {a0 a1 a2 a3 a4 a5 a6 a7 a8 a9 a10 a11 a12 a13 a14 a15 : Slot} {l : En} : (a0 :: a1 :: a2 :: a3 :: a4 :: a5 :: a6 :: a7 :: a8 :: a9 :: a10 :: a11 :: a12 :: a13 :: a14 :: a15 :: l)[15]? = some a15 := nr rfl
theorem sett_15 {a0 a1 a2 a3 a4 a5 a6 a7 a8 a9 a10 a11 a12 a13 a14 a15 x} {l : En} : List.set (a0 :: a1 :: a2 :: a3 :: a4 :: a5 :: a6 :: a7 :: a8 :: a9 :: a10 :: a11 :: a12 :: a13 :: a14 :: a15 :: l) 15 x = a0 :: a1 :: a2 :: a3 :: a4 :: a5 :: a6 :: a7 :: a8 :: a9 :: a10 :: a11 :: a12 :: a13 :: a14 :: x :: l := nr rfl
theorem get_16 {a0 a1 a2 a3 a4 a5 a6 a7 a8 a9 a10 a11 a12 a13 a14 a15 a16 : Slot} {l : En} : (a0 :: a1 :: a2 :: a3 :: a4 :: a5 :: a6 :: a7 :: a8 :: a9 :: a10 :: a11 :: a12 :: a13 :: a14 :: a15 :: a16 :: l)[16]? = some a16 := nr rfl
theorem sett_16 {a0 a1 a2 a3 a4 a5 a6 a7 a8 a9 a10 a11 a12 a13 a14 a15 a16 x} {l : En} : List.set (a0 :: a1 :: a2 :: a3 :: a4 :: a5 :: a6 :: a7 :: a8 :: a9 :: a10 :: a11 :: a12 :: a13 :: a14 :: a15 :: a16 :: l) 16 x = a0 :: a1 :: a2 :: a3 :: a4 :: a5 :: a6 :: a7 :: a8 :: a9 :: a10 :: a11 :: a12 :: a13 :: a14 :: a15 :: x :: l := nr rfl
theorem get_17 {a0 a1 a2 a3 a4 a5 a6 a7 a8 a9 a10 a11 a12 a13 a14 a15 a16 a17 : Slot} {l : En} : (a0 :: a1 :: a2 :: a3 :: a4 :: a5 :: a6 :: a7 :: a8 :: a9 :: a10 :: a11 :: a12 :: a13 :: a14 :: a15 :: a16 :: a17 :: l)[17]? = some a17 := nr rfl
theorem sett_17 {a0 a1 a2 a3 a4 a5 a6 a7 a8 a9 a10 a11 a12 a13 a14 a15 a16 a17 x} {l : En} : List.set (a0 :: a1 :: a2 :: a3 :: a4 :: a5 :: a6 :: a7 :: a8 :: a9 :: a10 :: a11 :: a12 :: a13 :: a14 :: a15 :: a16 :: a17 :: l) 17 x = a0 :: a1 :: a2 :: a3 :: a4 :: a5 :: a6 :: a7 :: a8 :: a9 :: a10 :: a11 :: a12 :: a13 :: a14 :: a15 :: a16 :: x :: l := nr rfl
theorem get_18 {a0 a1 a2 a3 a4 a5 a6 a7 a8 a9 a10 a11 a12 a13 a14 a15 a16 a17 a18 : Slot} {l : En} : (a0 :: a1 :: a2 :: a3 :: a4 :: a5 :: a6 :: a7 :: a8 :: a9 :: a10 :: a11 :: a12 :: a13 :: a14 :: a15 :: a16 :: a17 :: a18 :: l)[18]? = some a18 := nr rfl
theorem sett_18 {a0 a1 a2 a3 a4 a5 a6 a7 a8 a9 a10 a11 a12 a13 a14 a15 a16 a17 a18 x} {l : En} : List.set (a0 :: a1 :: a2 :: a3 :: a4 :: a5 :: a6 :: a7 :: a8 :: a9 :: a10 :: a11 :: a12 :: a13 :: a14 :: a15 :: a16 :: a17 :: a18 :: l) 18 x = a0 :: a1 :: a2 :: a3 :: a4 :: a5 :: a6 :: a7 :: a8 :: a9 :: a10 :: a11 :: a12 :: a13 :: a14 :: a15 :: a16 :: a17 :: x :: l := nr rfl
theorem get_19 {a0 a1 a2 a3 a4 a5 a6 a7 a8 a9 a10 a11 a12 a13 a14 a15 a16 a17 a18 a19 : Slot} {l : En} : (a0 :: a1 :: a2 :: a3 :: a4 :: a5 :: a6 :: a7 :: a8 :: a9 :: a10 :: a11 :: a12 :: a13 :: a14 :: a15 :: a16 :: a17 :: a18 :: a19 :: l)[19]? = some a19 := nr rfl
theorem sett_19 {a0 a1 a2 a3 a4 a5 a6 a7 a8 a9 a10 a11 a12 a13 a14 a15 a16 a17 a18 a19 x} {l : En} : List.set (a0 :: a1 :: a2 :: a3 :: a4 :: a5 :: a6 :: a7 :: a8 :: a9 :: a10 :: a11 :: a12 :: a13 :: a14 :: a15 :: a16 :: a17 :: a18 :: a19 :: l) 19 x = a0 :: a1 :: a2 :: a3 :: a4 :: a5 :: a6 :: a7 :: a8 :: a9 :: a10 :: a11 :: a12 :: a13 :: a14 :: a15 :: a16 :: a17 :: a18 :: x :: l := nr rfl
theorem get_20 {a0 a1 a2 a3 a4 a5 a6 a7 a8 a9 a10 a11 a12 a13 a14 a15 a16 a17 a18 a19 a20 : Slot} {l : En} : (a0 :: a1 :: a2 :: a3 :: a4 :: a5 :: a6 :: a7 :: a8 :: a9 :: a10 :: a11 :: a12 :: a13 :: a14 :: a15 :: a16 :: a17 :: a18 :: a19 :: a20 :: l)[20]? = some a20 := nr rfl
theorem sett_20 {a0 a1 a2 a3 a4 a5 a6 a7 a8 a9 a10 a11 a12 a13 a14 a15 a16 a17 a18 a19 a20 x} {l : En} : List.set (a0 :: a1 :: a2 :: a3 :: a4 :: a5 :: a6 :: a7 :: a8 :: a9 :: a10 :: a11 :: a12 :: a13 :: a14 :: a15 :: a16 :: a17 :: a18 :: a19 :: a20 :: l) 20 x = a0 :: a1 :: a2 :: a3 :: a4 :: a5 :: a6 :: a7 :: a8 :: a9 :: a10 :: a11 :: a12 :: a13 :: a14 :: a15 :: a16 :: a17 :: a18 :: a19 :: x :: l := nr rfl
theorem get_21 {a0 a1 a2 a3 a4 a5 a6 a7 a8 a9 a10 a11 a12 a13 a14 a15 a16 a17 a18 a19 a20 a21 : Slot} {l : En} : (a0 :: a1 :: a2 :: a3 :: a4 :: a5 :: a6 :: a7 :: a8 :: a9 :: a10 :: a11 :: a12 :: a13 :: a14 :: a15 :: a16 :: a17 :: a18 :: a19 :: a20 :: a21 :: l)[21]? = some a21 := nr rfl
theorem sett_21 {a0 a1 a2 a3 a4 a5 a6 a7 a8 a9 a10 a11 a12 a13 a14 a15 a16 a17 a18 a19 a20 a21 x} {l : En} : List.set (a0 :: a1 :: a2 :: a3 :: a4 :: a5 :: a6 :: a7 :: a8 :: a9 :: a10 :: a11 :: a12 :: a13 :: a14 :: a15 :: a16 :: a17 :: a18 :: a19 :: a20 :: a21 :: l) 21 x = a0 :: a1 :: a2 :: a3 :: a4 :: a5 :: a6 :: a7 :: a8 :: a9 :: a10 :: a11 :: a12 :: a13 :: a14 :: a15 :: a16 :: a17 :: a18 :: a19 :: a20 :: x :: l := nr rfl
theorem get_22 {a0 a1 a2 a3 a4 a5 a6 a7 a8 a9 a10 a11 a12 a13 a14 a15 a16 a17 a18 a19 a20 a21 a22 : Slot} {l : En} : (a0 :: a1 :: a2 :: a3 :: a4 :: a5 :: a6 :: a7 :: a8 :: a9 :: a10 :: a11 :: a12 :: a13 :: a14 :: a15 :: a16 :: a17 :: a18 :: a19 :: a20 :: a21 :: a22 :: l)[22]? = some a22 := nr rfl
theorem sett_22 {a0 a1 a2 a3 a4 a5 a6 a7 a8 a9 a10 a11 a12 a13 a14 a15 a16 a17 a18 a19 a20 a21 a22 x} {l : En} : List.set (a0 :: a1 :: a2 :: a3 :: a4 :: a5 :: a6 :: a7 :: a8 :: a9 :: a10 :: a11 :: a12 :: a13 :: a14 :: a15 :: a16 :: a17 :: a18 :: a19 :: a20 :: a21 :: a22 :: l) 22 x = a0 :: a1 :: a2 :: a3 :: a4 :: a5 :: a6 :: a7 :: a8 :: a9 :: a10 :: a11 :: a12 :: a13 :: a14 :: a15 :: a16 :: a17 :: a18 :: a19 :: a20 :: a21 :: x :: l := nr rfl
theorem get_23 {a0 a1 a2 a3 a4 a5 a6 a7 a8 a9 a10 a11 a12 a13 a14 a15 a16 a17 a18 a19 a20 a21 a22 a23 : Slot} {l : En} : (a0 :: a1 :: a2 :: a3 :: a4 :: a5 :: a6 :: a7 :: a8 :: a9 :: a10 :: a11 :: a12 :: a13 :: a14 :: a15 :: a16 :: a17 :: a18 :: a19 :: a20 :: a21 :: a22 :: a23 :: l)[23]? = some a23 := nr rfl
theorem sett_23 {a0 a1 a2 a3 a4 a5 a6 a7 a8 a9 a10 a11 a12 a13 a14 a15 a16 a17 a18 a19 a20 a21 a22 a23 x} {l : En} : List.set (a0 :: a1 :: a2 :: a3 :: a4 :: a5 :: a6 :: a7 :: a8 :: a9 :: a10 :: a11 :: a12 :: a13 :: a14 :: a15 :: a16 :: a17 :: a18 :: a19 :: a20 :: a21 :: a22 :: a23 :: l) 23 x = a0 :: a1 :: a2 :: a3 :: a4 :: a5 :: a6 :: a7 :: a8 :: a9 :: a10 :: a11 :: a12 :: a13 :: a14 :: a15 :: a16 :: a17 :: a18 :: a19 :: a20 :: a21 :: a22 :: x :: l := nr rfl
theorem shr_own {d} : Slot.share (.own d) = .sh d := nr rfl
theorem shr_lock {d} : Slot.share (.lock d) = .sh d := nr rfl
theorem shr_sh {d} : Slot.share (.sh d) = .sh d := nr rfl
theorem shr_un : Slot.share .un = .un := nr rfl
theorem share_eq {env : En} {i} : shareE env i = env.set i ((env[i]?.getD .un).share) := nr rfl
theorem getD_s {s : Slot} : (some s).getD .un = s := nr rfl
theorem cn_none : Cn.none.d = .none := nr rfl
theorem cn_bool {b} : (Cn.bool b).d = .bool b := nr rfl
theorem cn_int {b} : (Cn.int b).d = .int b := nr rfl
theorem cn_str {b} : (Cn.str b).d = .str b := nr rfl
theorem natD_eq {n : Nat} : natD n = .int (n : Int) := nr rfl
/-- one statement, then the rest -/
structure Go (C : Nat → Ct) (ss : List S) (d : En4) (K : En → Prop) : Prop where
  go : ∀ {e}, wpSs C ss e d → K e
theorem ss_go {C : Nat → Ct} {s ss} {env : En} {d : En4} (h : ∀ K : En → Prop, Go C ss d K → wpS C s env { nx := fun e => K e, rt := d.rt, bk := d.bk, ct := d.ct }) : wpSs C (s :: ss) env d := by
  rw [wpSs]
  exact h _ ⟨fun h => h⟩
def forB (C : Nat → Ct) (b : List S) : En → En4 → Prop := fun e d => wpSs C b e d
theorem forB_eq {C : Nat → Ct} {b} {e : En} {d : En4} : forB C b e d = wpSs C b e d := nr rfl
theorem ty_int_none : isTy .int (.none) = false := nr rfl
theorem ty_int_bool {b} : isTy .int (.bool b) = true := nr rfl
theorem ty_int_int {b} : isTy .int (.int b) = true := nr rfl
theorem ty_int_str {b} : isTy .int (.str b) = false := nr rfl
theorem ty_int_list {b} : isTy .int (.list b) = false := nr rfl
theorem ty_int_tuple {b} : isTy .int (.tuple b) = false := nr rfl
theorem ty_int_dict {b} : isTy .int (.dict b) = false := nr rfl
theorem ty_bool_none : isTy .bool (.none) = false := nr rfl
theorem ty_bool_bool {b} : isTy .bool (.bool b) = true := nr rfl
theorem ty_bool_int {b} : isTy .bool (.int b) = false := nr rfl
theorem ty_bool_str {b} : isTy .bool (.str b) = false := nr rfl
theorem ty_bool_list {b} : isTy .bool (.list b) = false := nr rfl
theorem ty_bool_tuple {b} : isTy .bool (.tuple b) = false := nr rfl
theorem ty_bool_dict {b} : isTy .bool (.dict b) = false := nr rfl
theorem ty_str_none : isTy .str (.none) = false := nr rfl
theorem ty_str_bool {b} : isTy .str (.bool b) = false := nr rfl
theorem ty_str_int {b} : isTy .str (.int b) = false := nr rfl
theorem ty_str_str {b} : isTy .str (.str b) = true := nr rfl
theorem ty_str_list {b} : isTy .str (.list b) = false := nr rfl
theorem ty_str_tuple {b} : isTy .str (.tuple b) = false := nr rfl
theorem ty_str_dict {b} : isTy .str (.dict b) = false := nr rfl
theorem ty_tuple_none : isTy .tuple (.none) = false := nr rfl
theorem ty_tuple_bool {b} : isTy .tuple (.bool b) = false := nr rfl
theorem ty_tuple_int {b} : isTy .tuple (.int b) = false := nr rfl
theorem ty_tuple_str {b} : isTy .tuple (.str b) = false := nr rfl
theorem ty_tuple_list {b} : isTy .tuple (.list b) = false := nr rfl
theorem ty_tuple_tuple {b} : isTy .tuple (.tuple b) = true := nr rfl
theorem ty_tuple_dict {b} : isTy .tuple (.dict b) = false := nr rfl
theorem ty_list_none : isTy .list (.none) = false := nr rfl
theorem ty_list_bool {b} : isTy .list (.bool b) = false := nr rfl
theorem ty_list_int {b} : isTy .list (.int b) = false := nr rfl
theorem ty_list_str {b} : isTy .list (.str b) = false := nr rfl
theorem ty_list_list {b} : isTy .list (.list b) = true := nr rfl
theorem ty_list_tuple {b} : isTy .list (.tuple b) = false := nr rfl
theorem ty_list_dict {b} : isTy .list (.dict b) = false := nr rfl
theorem ty_dict_none : isTy .dict (.none) = false := nr rfl
theorem ty_dict_bool {b} : isTy .dict (.bool b) = false := nr rfl
theorem ty_dict_int {b} : isTy .dict (.int b) = false := nr rfl
theorem ty_dict_str {b} : isTy .dict (.str b) = false := nr rfl
theorem ty_dict_list {b} : isTy .dict (.list b) = false := nr rfl
theorem ty_dict_tuple {b} : isTy .dict (.tuple b) = false := nr rfl
theorem ty_dict_dict {b} : isTy .dict (.dict b) = true := nr rfl
def freeB : Slot → Bool
  | .un => true
  | .sh _ => true
  | _ => false
def fsO : Option Slot → Bool
  | some s => freeB s
  | none => false
theorem free_eq {env : En} {i} : freeS env i = fsO env[i]? := by
  unfold freeS
  cases hs : env[i]? with
  | none => rfl
  | some s => cases s <;> rfl
theorem fsO_some {s} : fsO (some s) = freeB s := nr rfl
theorem freeB_un : freeB .un = true := nr rfl
theorem freeB_sh {d} : freeB (.sh d) = true := nr rfl
/-! the meaning, row by row -/
section
variable {C : Nat → Ct} {env : En}
theorem w_con {d k} : wpE C (.con d) env k = k d false env := by rw [wpE]
theorem w_rev {a k} : wpE C (.rev a) env k = opO a (wpE C a) env fun x e1 => rd e1 x fun u => revD u fun z fr => k z fr e1 := by rw [wpE]
theorem w_wpE_0 {i} {k} : wpE C (.var i : E) env k =
    (rdS env i fun d => k d false (shareE env i)) := by
  rw [wpE]
theorem w_wpE_2 {d} {k} : wpE C (.cst d : E) env k =
    (k d.d false env) := by
  rw [wpE]
theorem w_wpE_3 {k} : wpE C (.dic0 : E) env k =
    (k (.dict []) false env) := by
  rw [wpE]
theorem w_wpE_4 {es} {k} : wpE C (.tup es : E) env k =
    (wpEs C es env fun ds e => ds.length ≤ sizeLine ∧ k (.tuple ds) false e) := by
  rw [wpE]
theorem w_wpE_5 {es} {k} : wpE C (.lst es : E) env k =
    (wpEs C es env fun ds e => ds.length ≤ sizeLine ∧ k (.list ds) true e) := by
  rw [wpE]
theorem w_wpE_6 {op a b} {k} : wpE C (.bin op a b : E) env k =
    (opO a (wpE C a) env fun x e1 => opO b (wpE C b) e1 fun y e2 => rd e2 x fun u => rd e2 y fun v => op2 op u v fun z fr => k z fr e2) := by
  rw [wpE]
theorem w_wpE_7 {a} {k} : wpE C (.neg a : E) env k =
    (opO a (wpE C a) env fun x e1 => rd e1 x fun u => ∃ i, u = .int i ∧ k (.int (-i)) false e1) := by
  rw [wpE]
theorem w_wpE_8 {op a b} {k} : wpE C (.cmp op a b : E) env k =
    (opO a (wpE C a) env fun x e1 => opO b (wpE C b) e1 fun y e2 => rd e2 x fun u => rd e2 y fun v => cmp2 op u v fun z => k (.bool z) false e2) := by
  rw [wpE]
theorem w_wpE_9 {o p a b c} {k} : wpE C (.chain o p a b c : E) env k =
    (opO a (wpE C a) env fun x e1 => opO b (wpE C b) e1 fun y e2 => rd e2 x fun u => rd e2 y fun v => cmp2 o u v fun z =>
      if z = true then opO c (wpE C c) e2 fun w e3 => rd e3 y fun v => rd e3 w fun t => cmp2 p v t fun z' => k (.bool z') false e3 else k (.bool false) false e2) := by
  rw [wpE]
theorem w_wpE_10 {a} {k} : wpE C (.not a : E) env k =
    (wpT C a env fun b e => k (.bool (!b)) false e) := by
  rw [wpE]
theorem w_wpE_11 {a b} {k} : wpE C (.and a b : E) env k =
    (opO a (wpE C a) env fun x e1 => rd e1 x fun u => ∃ c, u = .bool c ∧ if c = true then wpE C b e1 k else k (.bool false) false e1) := by
  rw [wpE]
theorem w_wpE_12 {a b} {k} : wpE C (.or a b : E) env k =
    (opO a (wpE C a) env fun x e1 => rd e1 x fun u => ∃ c, u = .bool c ∧ if c = true then k (.bool true) false e1 else wpE C b e1 k) := by
  rw [wpE]
theorem w_wpE_13 {c a b} {k} : wpE C (.ite c a b : E) env k =
    (wpT C c env fun t e => if t = true then wpE C a e k else wpE C b e k) := by
  rw [wpE]
theorem w_wpE_14 {f as} {k} : wpE C (.call f as : E) env k =
    (wpAs C as env fun av e => (iosOf av).Nodup ∧ argD e av fun ds => C f ds fun r fr os => k r fr (outs e (iosOf av) os)) := by
  rw [wpE]
theorem w_wpE_15 {f a} {k} : wpE C (.blt f a : E) env k =
    (opO a (wpE C a) env fun x e1 => rd e1 x fun u => blt1 f u fun z fr => k z fr e1) := by
  rw [wpE]
theorem w_wpE_16 {a t} {k} : wpE C (.isi a t : E) env k =
    (opO a (wpE C a) env fun x e1 => rd e1 x fun u => okTy u = true ∧ k (.bool (isTy t u)) false e1) := by
  rw [wpE]
theorem w_wpE_17 {a i} {k} : wpE C (.idx a i : E) env k =
    (opO a (wpE C a) env fun x e1 => opO i (wpE C i) e1 fun y e2 => rd e2 x fun u => rd e2 y fun v => item u v fun z => k z false e2) := by
  rw [wpE]
theorem w_wpE_18 {a lo hi} {k} : wpE C (.slc a lo hi : E) env k =
    (opO a (wpE C a) env fun x e1 => wpP C lo e1 fun l e2 => wpP C hi e2 fun h e3 => rd e3 x fun u => slice u l h fun z fr => k z fr e3) := by
  rw [wpE]
theorem w_wpE_19 {vs elt tg it cond} {k} : wpE C (.comp vs elt tg it cond : E) env k =
    ((vs.all fun v => freeS env v) = true ∧ wpIt C it env fun xs e1 fin => xs.length ≤ sizeLine ∧
      compD vs (wpTg tg) (wpC C cond) (wpE C elt) xs [] e1 fun ys e2 => k (.list ys) true (fin (restore env vs e2))) := by
  rw [wpE]
theorem w_wpE_20 {i ix} {k} : wpE C (.pop i ix : E) env k =
    (isL env i fun _ => opO ix (wpE C ix) env fun x e1 => rd e1 x fun u => isL e1 i fun xs =>
      ∃ (n : Int) (j : Nat) (y : D), u = .int n ∧ -(2 ^ 63) ≤ n ∧ n < 2 ^ 63 ∧ seqIndex? n xs.length = some j ∧ xs[j]? = some y ∧ k y false (e1.set i (.own (.list (xs.eraseIdx j))))) := by
  rw [wpE]
theorem w_wpT_0 {a} {k} : wpT C (.not a : T) env k =
    (wpT C a env fun b e => k (!b) e) := by
  rw [wpT]
theorem w_wpT_1 {a b} {k} : wpT C (.and a b : T) env k =
    (wpT C a env fun c e => if c = true then wpT C b e k else k false e) := by
  rw [wpT]
theorem w_wpT_2 {a b} {k} : wpT C (.or a b : T) env k =
    (wpT C a env fun c e => if c = true then k true e else wpT C b e k) := by
  rw [wpT]
theorem w_wpT_3 {c a b} {k} : wpT C (.ite c a b : T) env k =
    (wpT C c env fun t e => if t = true then wpT C a e k else wpT C b e k) := by
  rw [wpT]
theorem w_wpT_4 {e} {k} : wpT C (.val e : T) env k =
    (opO e (wpE C e) env fun x e1 => rd e1 x fun u => truth u fun b => k b e1) := by
  rw [wpT]
theorem w_wpP_0 {k} : wpP C (.no : Oe) env k =
    (k none env) := by
  rw [wpP]
theorem w_wpP_1 {e} {k} : wpP C (.yes e : Oe) env k =
    (opO e (wpE C e) env fun x e1 => rd e1 x fun u => ∃ i, u = .int i ∧ k (some i) e1) := by
  rw [wpP]
theorem w_wpC_0 {k} : wpC C (.no : Ot) env k =
    (k true env) := by
  rw [wpC]
theorem w_wpC_1 {e} {k} : wpC C (.yes e : Ot) env k =
    (wpT C e env k) := by
  rw [wpC]
theorem w_wpEs_0 {k} : wpEs C (.nil : Es) env k =
    (k [] env) := by
  rw [wpEs]
theorem w_wpEs_1 {e es} {k} : wpEs C (.cons e es : Es) env k =
    (wpE C e env fun d _ e1 => wpEs C es e1 fun ds e2 => k (d :: ds) e2) := by
  rw [wpEs]
theorem w_wpVs_0 {k} : wpVs C (.nil : Es) env k =
    (k [] env) := by
  rw [wpVs]
theorem w_wpVs_1 {e es} {k} : wpVs C (.cons e es : Es) env k =
    (wpE C e env fun d fr e1 => wpVs C es e1 fun ds e2 => k ((d, fr) :: ds) e2) := by
  rw [wpVs]
theorem w_wpAs_0 {k} : wpAs C (.nil : As) env k =
    (k [] env) := by
  rw [wpAs]
theorem w_wpAs_1 {i as} {k} : wpAs C (.io i as : As) env k =
    (rdS env i fun _ => wpAs C as env fun av e => k (.io i :: av) e) := by
  rw [wpAs]
theorem w_wpAs_2 {e as} {k} : wpAs C (.ev e as : As) env k =
    (wpE C e env fun d _ e1 => wpAs C as e1 fun av e2 => k (.val d :: av) e2) := by
  rw [wpAs]
theorem w_wpIt_0 {a} {k} : wpIt C (.of a : Wk) env k =
    (opO a (wpE C a) env fun x e1 => rd e1 x fun u => items u fun xs => k xs (lockE e1 x) (unlockE (lockB e1 x) x)) := by
  rw [wpIt]
theorem w_wpIt_1 {a} {k} : wpIt C (.rng a : Wk) env k =
    (opO a (wpE C a) env fun x e1 => rd e1 x fun u => ∃ n : Int, u = .int n ∧ n < 2 ^ 62 ∧ -(2 ^ 62) ≤ n ∧ k (rngD 0 n.toNat) e1 id) := by
  rw [wpIt]
theorem w_wpIt_2 {a b} {k} : wpIt C (.rng2 a b : Wk) env k =
    (opO a (wpE C a) env fun x e1 => opO b (wpE C b) e1 fun y e2 => rd e2 x fun u => rd e2 y fun v => ∃ m n : Int, u = .int m ∧ v = .int n ∧
      (-(2 ^ 62) ≤ m ∧ m < 2 ^ 62 ∧ -(2 ^ 62) ≤ n ∧ n < 2 ^ 62) ∧ k (rngD m (n - m).toNat) e2 id) := by
  rw [wpIt]
theorem w_wpIt_3 {a} {k} : wpIt C (.enum a : Wk) env k =
    (opO a (wpE C a) env fun x e1 => rd e1 x fun u => ∃ xs, u = .list xs ∧ k (enumD 0 xs) (lockE e1 x) (unlockE (lockB e1 x) x)) := by
  rw [wpIt]
theorem w_wpS_1 {e} {d : En4} : wpS C (.expr e : S) env d =
    (wpE C e env fun _ _ e' => d.nx e') := by
  rw [wpS]
theorem w_wpS_2 {i e} {d : En4} : wpS C (.set i e : S) env d =
    (wpE C e env fun x fr e' => d.nx (put e' i x fr)) := by
  rw [wpS]
theorem w_wpS_3 {t e} {d : En4} : wpS C (.setT t e : S) env d =
    (wpE C e env fun x _ e' => wpTg t x e' d.nx) := by
  rw [wpS]
theorem w_wpS_4 {ts es} {d : En4} : wpS C (.par ts es : S) env d =
    (wpVs C es env fun xs e1 => putsE ts xs e1 d.nx) := by
  rw [wpS]
theorem w_wpS_5 {i ix e} {d : En4} : wpS C (.setIx i ix e : S) env d =
    (wpE C e env fun u _ e1 => isL e1 i fun _ => opO ix (wpE C ix) e1 fun y e2 => rd e2 y fun v => isL e2 i fun xs =>
      ∃ (n : Int) (j : Nat), v = .int n ∧ ixN xs.length n = some j ∧ d.nx (e2.set i (.own (.list (xs.set j u))))) := by
  rw [wpS]
theorem w_wpS_6 {i e} {d : En4} : wpS C (.append i e : S) env d =
    (isL env i fun _ => wpE C e env fun u _ e1 => isL e1 i fun xs => xs.length < sizeLine ∧ d.nx (e1.set i (.own (.list (xs ++ [u]))))) := by
  rw [wpS]
theorem w_wpS_7 {i k e} {d : En4} : wpS C (.insert i k e : S) env d =
    (isL env i fun _ => wpEs C (.cons k (.cons e .nil)) env fun us e1 => isL e1 i fun xs =>
      ∃ (n : Int) (u : D), us = [.int n, u] ∧ xs.length < sizeLine ∧ 0 ≤ n ∧ n < 2 ^ 63 ∧ d.nx (e1.set i (.own (.list (xs.take n.toNat ++ [u] ++ xs.drop n.toNat))))) := by
  rw [wpS]
theorem w_wpS_8 {e} {d : En4} : wpS C (.ret e : S) env d =
    (retD e (wpE C e) env d) := by
  rw [wpS]
theorem w_wpS_9 {c a b} {d : En4} : wpS C (.ife c a b : S) env d =
    (wpT C c env fun t e => if t = true then wpSs C a e d else wpSs C b e d) := by
  rw [wpS]
theorem w_wpS_10 {t it b} {d : En4} : wpS C (.fors t it b : S) env d =
    (wpIt C it env fun xs e1 fin => forD (wpTg t) (forB C b) xs e1 { d with nx := fun e => d.nx (fin e) }) := by
  rw [wpS]; rfl
theorem w_wpS_11 {c b} {d : En4} : wpS C (.whl c b : S) env d =
    (whileD (wpT C c) (forB C b) env d) := by
  rw [wpS]; rfl
theorem w_wpS_12 {d : En4} : wpS C (.retN : S) env d =
    (d.rt .none false env) := by
  rw [wpS]
theorem w_wpS_13 {d : En4} : wpS C (.pass : S) env d =
    (d.nx env) := by
  rw [wpS]
theorem w_wpSs_0 {d : En4} : wpSs C ([] : List S) env d =
    (d.nx env) := by
  rw [wpSs]
theorem w_wpSs_1 {s ss} {d : En4} : wpSs C (s :: ss : List S) env d =
    (wpS C s env { d with nx := fun e => wpSs C ss e d }) := by
  rw [wpSs]
end
end G

/-! ### M1: sizes, the hand of numbers -/
namespace G
open PySem PySem.Spec L2
open PyProof.Rows hiding St

/-- a whole number of less than so many bits -/
class Sz (x : Int) (k : outParam Nat) : Prop where
  h : x.natAbs < 2 ^ k
theorem Sz.mono {x : Int} {a b : Nat} (h : Sz x a) (g : a ≤ b) : Sz x b := ⟨Nat.lt_of_lt_of_le h.h (Nat.pow_le_pow_right (by omega) g)⟩
instance Sz.lit (n : Nat) : Sz (no_index (OfNat.ofNat n) : Int) (n.log2 + 1) := ⟨by
  show (n : Int).natAbs < _
  rw [Int.natAbs_natCast]
  exact Nat.lt_log2_self⟩
instance Sz.mul {x y : Int} {a b : Nat} [h : Sz x a] [g : Sz y b] : Sz (x * y) (a + b) := ⟨wide_lt h.h g.h⟩
instance Sz.add {x y : Int} {a b : Nat} [h : Sz x a] [g : Sz y b] : Sz (x + y) (max a b + 1) := ⟨by
  have h1 := (h.mono (Nat.le_max_left a b)).h
  have h2 := (g.mono (Nat.le_max_right a b)).h
  rw [Nat.pow_succ]
  omega⟩
instance Sz.sub {x y : Int} {a b : Nat} [h : Sz x a] [g : Sz y b] : Sz (x - y) (max a b + 1) := ⟨by
  have h1 := (h.mono (Nat.le_max_left a b)).h
  have h2 := (g.mono (Nat.le_max_right a b)).h
  rw [Nat.pow_succ]
  omega⟩
instance Sz.neg {x : Int} {a : Nat} [h : Sz x a] : Sz (-x) a := ⟨by have := h.h; omega⟩
theorem Sz.of_le {x y : Int} {a : Nat} (g : x.natAbs ≤ y.natAbs) [h : Sz y a] : Sz x a := ⟨Nat.lt_of_le_of_lt g h.h⟩
instance Sz.ediv {x : Int} {n : Nat} {a : Nat} [h : Sz x a] : Sz (x / (n : Int)) a := .of_le (y := x) (Int.natAbs_ediv_le_natAbs x n)
instance Sz.abs {x : Int} {a : Nat} [h : Sz x a] : Sz (x.natAbs : Int) a := ⟨by have := h.h; omega⟩
theorem Sz.cmul {x y : Int} {a b : Nat} [h : Sz x a] [g : Sz y b] (e : a + b + 2 ≤ 1000000) : CMulW x y :=
  wide_mul (h.mono (Nat.le_succ a)).h (g.mono (Nat.le_succ b)).h (by omega) (by omega) (by omega)
theorem Sz.cdiv {x y : Int} {b : Nat} [g : Sz y b] (e : b + 1 ≤ 9000) (h : 0 < y) : CDivW x y :=
  wide_div h (g.mono (Nat.le_succ b)).h (by omega) e

theorem Sz.of {x : Int} {k : Nat} (h : -(2 ^ k : Int) < x) (g : x < 2 ^ k) : Sz x k := ⟨by
  have : ((2 ^ k : Nat) : Int) = 2 ^ k := by simp
  omega⟩

/-- the hand: cells, place, what is left, mixed number, count (so many at most) -/
def Hand (n : Nat) (d : D) : Prop := ∃ (cs : List Int) (p r m c : Int), d = .list [.list (cs.map .int), .int p, .int r, .int m, .int c] ∧
  (∀ x ∈ cs, 0 ≤ x ∧ x < 10 ^ 36) ∧ cs.length ≤ 60 ∧ 0 ≤ p ∧ 0 ≤ r ∧ r < 10 ^ 36 ∧ 0 ≤ m ∧ m < 2147483629 ∧ 0 ≤ c ∧ c ≤ n
def hand0 (s : Int) (cs : List Int) : D := .list [.list (cs.map .int), .int 0, .int 0, .int (s + 31 * (cs.length : Int)), .int 0]
theorem Hand.start {s : Int} {cs : List Int} (hs0 : 0 ≤ s) (hs1 : s < 2000000000) (h : ∀ x ∈ cs, 0 ≤ x ∧ x < 10 ^ 36) (g : cs.length ≤ 60) : Hand 0 (hand0 s cs) :=
  ⟨cs, 0, 0, _, 0, rfl, h, g, by omega, by omega, by omega, by omega, by omega, by omega, by omega⟩
theorem Hand.mono {a b : Nat} {d : D} (h : Hand a d) (g : a ≤ b) : Hand b d := by
  obtain ⟨cs, p, r, m, c, e, h1, h2, h3, h4, h5, h6, h7, h8, h9⟩ := h
  exact ⟨cs, p, r, m, c, e, h1, h2, h3, h4, h5, h6, h7, h8, by omega⟩

/-- a draw: some number below the bound -/
def cDraw : Ct := fun ds Q => ∃ (n : Nat) (h : D) (many : Int), ds = [h, .int many] ∧ Hand n h ∧ n < 2 ^ 60 ∧ 0 < many ∧ many < 2 ^ 64 ∧
  ∀ (d : Int) (h' : D), 0 ≤ d → d < many → Hand (n + 1) h' → Q (.int d) false [h']
def fDraw : Fn := ⟨[true, false], 5, [
  .ife (.and (.val (.cmp .Eq (.idx (.var 0) (.cst (.int 2))) (.cst (.int 0)))) (.val (.cmp .Lt (.idx (.var 0) (.cst (.int 1))) (.blt .len (.idx (.var 0) (.cst (.int 0))))))) [.set 2 (.idx (.idx (.var 0) (.cst (.int 0))) (.idx (.var 0) (.cst (.int 1)))), .setIx 0 (.cst (.int 1)) (.bin .Add (.idx (.var 0) (.cst (.int 1))) (.cst (.int 1))), .setIx 0 (.cst (.int 3)) (.bin .Mod (.blt .int (.bin .Add (.bin .Add (.bin .Mult (.idx (.var 0) (.cst (.int 3))) (.cst (.int 48271))) (.bin .Mult (.bin .Mod (.blt .int (.var 2)) (.cst (.int 2147483629))) (.cst (.int 69621)))) (.cst (.int 29)))) (.cst (.int 2147483629))), .ife (.val (.cmp .GtE (.var 2) (.bin .Pow (.cst (.int 10)) (.cst (.int 15))))) [.setIx 0 (.cst (.int 2)) (.var 2)] []] [],
  .ife (.val (.cmp .Gt (.idx (.var 0) (.cst (.int 2))) (.cst (.int 0)))) [.set 3 (.bin .Mod (.blt .int (.idx (.var 0) (.cst (.int 2)))) (.var 1)), .setIx 0 (.cst (.int 2)) (.bin .FloorDiv (.idx (.var 0) (.cst (.int 2))) (.var 1)), .ret (.var 3)] [],
  .setIx 0 (.cst (.int 4)) (.bin .Add (.idx (.var 0) (.cst (.int 4))) (.cst (.int 1))),
  .set 4 (.bin .Mod (.blt .int (.bin .Mult (.blt .int (.bin .Add (.idx (.var 0) (.cst (.int 3))) (.bin .Mult (.cst (.int 7907)) (.idx (.var 0) (.cst (.int 4)))))) (.cst (.int 40692)))) (.cst (.int 2147483399))),
  .set 4 (.bin .Mod (.blt .int (.bin .Mult (.var 4) (.bin .Add (.bin .FloorDiv (.var 4) (.cst (.int 1009))) (.cst (.int 30011))))) (.cst (.int 2147483647))),
  .ret (.bin .Mod (.blt .int (.bin .FloorDiv (.var 4) (.cst (.int 32)))) (.var 1))]⟩
local macro_rules | `(tactic| array_get_dec) => `(tactic| simp only [*, ↓oo_var, ↓oo_cst, ↓oo_con, ↓oo_rev, ↓oo_dic0, ↓oo_tup, ↓oo_lst, ↓oo_bin, ↓oo_neg, ↓oo_cmp, ↓oo_chain, ↓oo_not, ↓oo_and, ↓oo_or, ↓oo_ite, ↓oo_call, ↓oo_blt, ↓oo_isi, ↓oo_idx, ↓oo_slc, ↓oo_comp, ↓oo_pop, ↓rt_var,
    ↓rt_cst, ↓rt_con, ↓rt_rev, ↓rt_dic0, ↓rt_tup, ↓rt_lst, ↓rt_bin, ↓rt_neg, ↓rt_cmp, ↓rt_chain, ↓rt_not, ↓rt_and, ↓rt_or, ↓rt_ite, ↓rt_call, ↓rt_blt, ↓rt_isi, ↓rt_idx, ↓rt_slc, ↓rt_comp, ↓rt_pop, ↓rdS_eq, ↓rd_late, ↓rd_val,
    ↓isL_eq, ↓ag_nil, ↓ag_val, ↓ag_io, ↓puts_nil, ↓puts_cons, ↓tg_nm, ↓tg_tup, ↓tgs_nil, ↓tgs_cons, ↓ex_int, ↓ex_bool, ↓ex_list, ↓ex_int2, ↓item_l, ↓item_t, ↓sx_eq, ↓o_addI, ↓o_addS, ↓o_addL, ↓o_addT, ↓o_sub, ↓o_mul, ↓o_mod,
    ↓o_div, ↓o_pow, ↓o_mulT, ↓o_mulL, ↓c_lt, ↓c_le, ↓c_gt, ↓c_ge, ↓c_eqI, ↓c_neI, ↓c_eqS, ↓c_neS, ↓c_eqL, ↓c_neL, ↓c_in, ↓c_nin, ↓c_inT, ↓c_ninT, ↓c_inS, ↓rv_l, ↓rv_t, ↓c_isN, ↓c_isnN, ↓c_isB, ↓c_isnB, ↓bb_lenL, ↓bb_lenT,
    ↓bb_lenS, ↓bb_int, ↓bb_intB, ↓bb_abs, ↓bb_tupL, ↓bb_tupT, ↓bb_lstL, ↓bb_lstT, ↓bb_allM, ↓bb_rep, ↓t_none, ↓t_bool, ↓t_int, ↓t_list, ↓t_tup, ↓its_l, ↓its_t, ↓sl_l, ↓sl_t, ↓sl_s, ↓forB_eq, ↓w_con, ↓w_rev, ↓w_wpE_0,
    ↓w_wpE_2, ↓w_wpE_3, ↓w_wpE_4, ↓w_wpE_5, ↓w_wpE_6, ↓w_wpE_7, ↓w_wpE_8, ↓w_wpE_9, ↓w_wpE_10, ↓w_wpE_11, ↓w_wpE_12, ↓w_wpE_13, ↓w_wpE_14, ↓w_wpE_15, ↓w_wpE_16, ↓w_wpE_17, ↓w_wpE_18, ↓w_wpE_19, ↓w_wpE_20, ↓w_wpT_0, ↓w_wpT_1,
    ↓w_wpT_2, ↓w_wpT_3, ↓w_wpT_4, ↓w_wpP_0, ↓w_wpP_1, ↓w_wpC_0, ↓w_wpC_1, ↓w_wpEs_0, ↓w_wpEs_1, ↓w_wpVs_0, ↓w_wpVs_1, ↓w_wpAs_0, ↓w_wpAs_1, ↓w_wpAs_2, ↓w_wpIt_0, ↓w_wpIt_1, ↓w_wpIt_2, ↓w_wpIt_3, ↓w_wpS_1, ↓w_wpS_2, ↓w_wpS_3,
    ↓w_wpS_4, ↓w_wpS_5, ↓w_wpS_6, ↓w_wpS_7, ↓w_wpS_8, ↓w_wpS_9, ↓w_wpS_10, ↓w_wpS_11, ↓w_wpS_12, ↓w_wpS_13, ↓w_wpSs_0, ↓w_wpSs_1, rtO_own, rtO_sh, rtO_lock, rdO_own, rdO_sh, rdO_lock, isO_own, agO_own, fin_nil, fin_t, fin_f,
    put_t, put_f, ous_nil, ous_nil, ous_cons, ios_nil, ios_io, ios_val, itO_some, atI_0, atI_1, atI_2, atI_3, atI_4, atI_5, sxO_some, ixN_0, ixN_1, ixN_2, ixN_3, ixN_4, get_0, sett_0, get_1, sett_1, get_2, sett_2, get_3,
    sett_3, get_4, sett_4, get_5, sett_5, get_6, sett_6, get_7, sett_7, get_8, sett_8, get_9, sett_9, get_10, sett_10, get_11, sett_11, get_12, sett_12, get_13, sett_13, get_14, sett_14, get_15, sett_15, get_16, sett_16,
    get_17, sett_17, get_18, sett_18, get_19, sett_19, get_20, sett_20, get_21, sett_21, get_22, sett_22, get_23, sett_23, shr_own, shr_lock, shr_sh, shr_un, share_eq, getD_s, cn_none, cn_bool, cn_int, cn_str, natD_eq,
    ty_int_none, ty_int_bool, ty_int_int, ty_int_str, ty_int_list, ty_int_tuple, ty_int_dict, ty_bool_none, ty_bool_bool, ty_bool_int, ty_bool_str, ty_bool_list, ty_bool_tuple, ty_bool_dict, ty_str_none, ty_str_bool,
    ty_str_int, ty_str_str, ty_str_list, ty_str_tuple, ty_str_dict, ty_tuple_none, ty_tuple_bool, ty_tuple_int, ty_tuple_str, ty_tuple_list, ty_tuple_tuple, ty_tuple_dict, ty_list_none, ty_list_bool, ty_list_int,
    ty_list_str, ty_list_list, ty_list_tuple, ty_list_dict, ty_dict_none, ty_dict_bool, ty_dict_int, ty_dict_str, ty_dict_list, ty_dict_tuple, ty_dict_dict, free_eq, fsO_some, freeB_un, freeB_sh, lockE, lockB, unlockE,
    restore, wipeE, List.length_cons, List.length_nil, Nat.zero_add, Nat.reduceAdd, ↓reduceIte, Bool.false_eq_true, true_and, and_true, Bool.not_true, Bool.not_false, decide_eq_true_eq, Bool.not_eq_true',
    decide_eq_false_iff_not, bne_iff_ne, sizeLine, Nat.reducePow, Nat.reduceLeDiff, Nat.reduceLT, List.nodup_cons, List.nodup_nil, List.not_mem_nil, not_false_eq_true, Int.natCast_add, List.length_map, Int.reduceToNat,
    Int.reducePow, Int.cast_ofNat_Int, Int.reduceLT, Int.reduceLE, Int.reduceEq, Int.reduceNe, Int.reduceMod, Int.reduceDiv, Int.reduceMul, Int.reduceAdd, Int.reduceSub, Int.reduceNeg, List.set_cons_zero, List.set_cons_succ,
    List.getElem?_cons_zero, List.getElem?_cons_succ])
local macro_rules | `(tactic| array_mem_dec) => `(tactic| simp only [wpFn, startE, envA, List.length_cons, List.length_nil, Nat.reduceAdd, Nat.reduceSub, List.reduceReplicate, List.cons_append, List.nil_append, List.append_nil, true_and])
local macro_rules | `(tactic| sizeOf_list_dec) => `(tactic| repeat' (first | trivial | assumption | with_reducible apply And.intro | exact Sz.cmul (by decide +kernel) | exact Sz.cdiv (by decide +kernel) (by omega) | (show CPow _ _; exact ⟨by decide, by decide, by decide⟩) | omega))

theorem atI_ints {cs : List Int} {p : Int} (h0 : 0 ≤ p) (h1 : p < cs.length) : ∃ x, x ∈ cs ∧ atI (cs.map PyData.int) p = some (.int x) := by
  obtain ⟨n, rfl⟩ := Int.eq_ofNat_of_zero_le h0
  have h1 : n < cs.length := by omega
  exact ⟨cs[n], List.getElem_mem h1, by rw [atI_nat, List.getElem?_map, List.getElem?_eq_getElem h1]; rfl⟩
instance Sz.emod {x : Int} {n : Nat} [NeZero n] : Sz (x % (no_index (OfNat.ofNat n) : Int)) (n.log2 + 1) := ⟨by
  show (x % (n : Int)).natAbs < _
  have h0 : n ≠ 0 := NeZero.ne n
  have h1 := Int.emod_nonneg x (b := n) (by omega)
  have h2 := Int.emod_lt_of_pos x (b := n) (by omega)
  have h3 := Nat.lt_log2_self (n := n)
  omega⟩
instance Sz.edivL {x : Int} {n : Nat} {a : Nat} [h : Sz x a] : Sz (x / (no_index (OfNat.ofNat n) : Int)) a := Sz.ediv (n := n)
theorem ediv_le' {x y : Int} (h : 0 ≤ x) (g : 0 < y) : 0 ≤ x / y ∧ x / y ≤ x := ⟨Int.ediv_nonneg h (by omega), Int.ediv_le_self _ h⟩
theorem draw_ok {C : Nat → Ct} {ds Q} (h : cDraw ds Q) : wpFn C fDraw ds Q := by
  obtain ⟨n, hd, many, rfl, ⟨cs, p, r, m, c, rfl, h1, h2, h3, h4, h5, h6, h7, h8, h9⟩, hn, hm, hm', hQ⟩ := h
  have sm : Sz m 31 := .of (by omega) (by omega)
  have sc : Sz c 61 := .of (by omega) (by omega)
  have sy : Sz many 64 := .of (by omega) (by omega)
  have e1 : ∀ x : Int, 0 ≤ x % many ∧ x % many < many := fun x => ⟨Int.emod_nonneg x (by omega), Int.emod_lt_of_pos x hm⟩
  have e2 : ∀ x : Int, 0 ≤ x % 2147483629 ∧ x % 2147483629 < 2147483629 := fun x => ⟨Int.emod_nonneg x (by omega), Int.emod_lt_of_pos x (by omega)⟩
  have e3 : ∀ x : Int, 0 ≤ x → 0 ≤ x / many ∧ x / many ≤ x := fun x h => ediv_le' h hm
  unfold fDraw
  array_mem_dec
  by_cases hc : r = 0 ∧ p < cs.length
  · obtain ⟨x, hx, hx'⟩ := atI_ints h3 hc.2
    obtain ⟨hx0, hx1⟩ := h1 x hx
    obtain ⟨rfl, hc⟩ := hc
    have := e3 x hx0
    by_cases hb : 1000000000000000 ≤ x
    · have hb' : 0 < x := by omega
      array_get_dec
      sizeOf_list_dec
      refine hQ _ _ (e1 _).1 (e1 _).2 ⟨cs, _, _, _, _, rfl, h1, h2, ?_, ?_, ?_, (e2 _).1, (e2 _).2, ?_, ?_⟩ <;> omega
    · array_get_dec
      sizeOf_list_dec
      refine hQ _ _ (e1 _).1 (e1 _).2 ⟨cs, _, _, _, _, rfl, h1, h2, ?_, ?_, ?_, (e2 _).1, (e2 _).2, ?_, ?_⟩ <;> omega
  · by_cases hb : 0 < r
    · have hc : ¬ r = 0 := by omega
      array_get_dec
      sizeOf_list_dec
      have := e3 r h4
      refine hQ _ _ (e1 _).1 (e1 _).2 ⟨cs, _, _, _, _, rfl, h1, h2, ?_, ?_, ?_, h6, h7, ?_, ?_⟩ <;> omega
    · have hc : ¬ p < cs.length := by omega
      have hc : r = 0 := by omega
      subst hc
      array_get_dec
      sizeOf_list_dec
      refine hQ _ _ (e1 _).1 (e1 _).2 ⟨cs, _, _, _, _, rfl, h1, h2, ?_, ?_, ?_, h6, h7, ?_, ?_⟩ <;> omega
end G

/-! ### M2: data that show, and the small functions of numbers -/
namespace G
open PySem PySem.Spec L2
open PyProof.Rows hiding St

class Okd (d : D) (n p m : outParam Nat) : Prop where
  lay : d.canLay0 = true
  sh : m < 1920 → d.showable = true
  dp : d.depth ≤ p
  wt : d.weight ≤ n
class Oka (ds : List D) (n p m : outParam Nat) : Prop where
  lay : PyData.canLayAll0 ds = true
  sh : m < 1920 → PyData.showableAll ds = true
  dp : PyData.depthAll ds ≤ p
  wt : PyData.weightAll ds ≤ n
theorem Sz.log {x : Int} {a : Nat} (h : Sz x a) : x.natAbs.log2 ≤ a := by
  have h1 := h.h
  by_cases h0 : x.natAbs = 0
  · rw [h0]; exact Nat.zero_le _
  · have := (Nat.log2_lt h0).mpr h1
    omega
instance okd_int {x : Int} {a : Nat} [h : Sz x a] : Okd (.int x) (a + 1) 0 a := by
  have := h.log
  refine ⟨rfl, fun g => ?_, Nat.le_refl _, ?_⟩
  · show decide _ = true
    exact decide_eq_true (by omega)
  · show (if x == 0 then 0 else _) ≤ _
    split <;> omega
instance okd_none : Okd .none 0 0 0 := ⟨rfl, fun _ => rfl, Nat.le_refl _, Nat.le_refl _⟩
instance okd_bool {b} : Okd (.bool b) 0 0 0 := ⟨rfl, fun _ => rfl, Nat.le_refl _, Nat.le_refl _⟩
instance okd_list {ds n p m} [h : Oka ds n p m] : Okd (.list ds) n (p + 1) m := ⟨h.lay, h.sh, Nat.succ_le_succ h.dp, h.wt⟩
instance okd_tup {ds n p m} [h : Oka ds n p m] : Okd (.tuple ds) n (p + 1) m := ⟨h.lay, h.sh, Nat.succ_le_succ h.dp, h.wt⟩
instance oka_nil : Oka [] 0 0 0 := ⟨rfl, fun _ => rfl, Nat.le_refl _, Nat.le_refl _⟩
theorem oka_cons {d ds n p m q e f} (h : Okd d n p e) (g : Oka ds m q f) : Oka (d :: ds) (n + 1 + m) (max p q) (max e f) := by
  refine ⟨?_, fun b => ?_, ?_, ?_⟩
  · show (_ && _) = true
    rw [h.lay, g.lay]; rfl
  · show (_ && _) = true
    rw [h.sh (by omega), g.sh (by omega)]; rfl
  · show max _ _ ≤ _
    have := h.dp; have := g.dp; omega
  · show _ + 1 + _ ≤ _
    have := h.wt; have := g.wt; omega
instance oka_cons' {d ds n p m q e f} [h : Okd d n p e] [g : Oka ds m q f] : Oka (d :: ds) (n + 1 + m) (max p q) (max e f) := oka_cons h g
theorem oka_append {ds es n p m q e f} (h : Oka ds n p e) (g : Oka es m q f) : Oka (ds ++ es) (n + m) (max p q) (max e f) := by
  induction ds generalizing n p e with
  | nil =>
    refine ⟨g.lay, fun b => g.sh (by omega), ?_, ?_⟩
    · have := g.dp; simp only [List.nil_append]; omega
    · have := g.wt; simp only [List.nil_append]; omega
  | cons d ds ih =>
    have h1 : (d.canLay0 && PyData.canLayAll0 ds) = true := h.lay
    rw [Bool.and_eq_true] at h1
    have h3 : max d.depth (PyData.depthAll ds) ≤ p := h.dp
    have h4 : d.weight + 1 + PyData.weightAll ds ≤ n := h.wt
    have k : Oka ds (PyData.weightAll ds) p e := ⟨h1.2, fun b => by
      have h2 : (PyData.showable d && PyData.showableAll ds) = true := h.sh b
      rw [Bool.and_eq_true] at h2; exact h2.2, by omega, Nat.le_refl _⟩
    have c := ih k
    refine ⟨?_, fun b => ?_, ?_, ?_⟩
    · show (_ && PyData.canLayAll0 (ds ++ es)) = true
      rw [h1.1, c.lay]; rfl
    · show (_ && PyData.showableAll (ds ++ es)) = true
      have h2 : (PyData.showable d && PyData.showableAll ds) = true := h.sh (by omega)
      rw [Bool.and_eq_true] at h2
      rw [h2.1, c.sh b]; rfl
    · show max d.depth (PyData.depthAll (ds ++ es)) ≤ _
      have := c.dp; omega
    · show d.weight + 1 + PyData.weightAll (ds ++ es) ≤ _
      have := c.wt; omega
instance oka_append' {ds es n p m q e f} [h : Oka ds n p e] [g : Oka es m q f] : Oka (ds ++ es) (n + m) (max p q) (max e f) := oka_append h g
theorem okd_bools {bs : List Bool} : Oka (bs.map .bool) bs.length 0 0 := by
  induction bs with
  | nil => exact oka_nil
  | cons b bs ih =>
    have := oka_cons (d := .bool b) okd_bool ih
    refine ⟨this.lay, this.sh, this.dp, ?_⟩
    have := this.wt
    simp only [List.length_cons, List.map_cons] at *
    omega
mutual
theorem short_of : ∀ d : D, d.showable = true → PyData.intsShort 1921 d = true
  | .none, _ => rfl
  | .bool _, _ => rfl
  | .str _, _ => rfl
  | .dict _, _ => rfl
  | .int i, h => by
    have h : decide (i.natAbs.log2 < 1920) = true := h
    exact decide_eq_true (int_text_len_1921 (of_decide_eq_true h))
  | .list xs, h => shorts_of xs h
  | .tuple xs, h => shorts_of xs h
theorem shorts_of : ∀ ds : List D, PyData.showableAll ds = true → PyData.intsShortAll 1921 ds = true
  | [], _ => rfl
  | x :: xs, h => by
    have h : (PyData.showable x && PyData.showableAll xs) = true := h
    rw [Bool.and_eq_true] at h
    show (_ && _) = true
    rw [short_of x h.1, shorts_of xs h.2]; rfl
end
theorem Okd.shaped {d n p m} (h : Okd d n p m) (e : p ≤ 64 := by decide +kernel) : SeqAt.shaped d = true := by
  have := h.dp
  show (_ && decide _) = true
  rw [h.lay, decide_eq_true (by omega : d.depth ≤ 64)]; rfl
theorem Okd.len {d n p m} (h : Okd d n p m) (e : n ≤ 8700) (e3 : m < 1920) : d.shown.length ≤ sizeLine := by
  have h1 := PyData.shown_le 1921 (by decide) d (PyData.leavesShort_of_canLay0 1921 d h.lay (short_of d (h.sh e3)))
  have h2 := h.wt
  have h3 : (1921 + 2) * d.weight ≤ (1921 + 2) * 8700 := Nat.mul_le_mul_left _ (by omega)
  have : sizeLine = 16777216 := rfl
  omega
theorem eqv_self {d n p m} (h : Okd d n p m) : PyData.eqv d d = true := SeqAt.eqv_refl d h.lay

/-- both shown alike: for equal data -/
def Shows (d : D) : Prop := d.showable = true ∧ SeqAt.shaped d = true ∧ d.shown.length ≤ sizeLine
theorem Okd.shows {d n p m} [h : Okd d n p m] (e : n ≤ 8700) (e2 : p ≤ 64) (e3 : m < 1920) : Shows d := ⟨h.sh e3, h.shaped e2, h.len e e3⟩
def cLike : Ct := fun ds Q => ∃ a, ds = [a, a] ∧ Shows a ∧ Q (.bool true) false []
theorem cLike_eq {a b Q} : cLike [a, b] Q = (a = b ∧ Shows a ∧ Q (.bool true) false []) := by
  apply propext; constructor
  · rintro ⟨_, ⟨rfl⟩, h⟩; exact ⟨rfl, h⟩
  · rintro ⟨rfl, h⟩; exact ⟨_, rfl, h⟩
local macro_rules | `(tactic| array_get_dec) => `(tactic| simp only [*, ↓oo_var, ↓oo_cst, ↓oo_con, ↓oo_rev, ↓oo_dic0, ↓oo_tup, ↓oo_lst, ↓oo_bin, ↓oo_neg, ↓oo_cmp, ↓oo_chain, ↓oo_not, ↓oo_and, ↓oo_or, ↓oo_ite, ↓oo_call, ↓oo_blt, ↓oo_isi, ↓oo_idx, ↓oo_slc, ↓oo_comp, ↓oo_pop, ↓rt_var,
    ↓rt_cst, ↓rt_con, ↓rt_rev, ↓rt_dic0, ↓rt_tup, ↓rt_lst, ↓rt_bin, ↓rt_neg, ↓rt_cmp, ↓rt_chain, ↓rt_not, ↓rt_and, ↓rt_or, ↓rt_ite, ↓rt_call, ↓rt_blt, ↓rt_isi, ↓rt_idx, ↓rt_slc, ↓rt_comp, ↓rt_pop, ↓rdS_eq, ↓rd_late, ↓rd_val,
    ↓isL_eq, ↓ag_nil, ↓ag_val, ↓ag_io, ↓puts_nil, ↓puts_cons, ↓tg_nm, ↓tg_tup, ↓tgs_nil, ↓tgs_cons, ↓ex_int, ↓ex_bool, ↓ex_list, ↓ex_int2, ↓item_l, ↓item_t, ↓sx_eq, ↓o_addI, ↓o_addS, ↓o_addL, ↓o_addT, ↓o_sub, ↓o_mul, ↓o_mod,
    ↓o_div, ↓o_pow, ↓o_mulT, ↓o_mulL, ↓c_lt, ↓c_le, ↓c_gt, ↓c_ge, ↓c_eqI, ↓c_neI, ↓c_eqS, ↓c_neS, ↓c_eqL, ↓c_neL, ↓c_in, ↓c_nin, ↓c_inT, ↓c_ninT, ↓c_inS, ↓rv_l, ↓rv_t, ↓c_isN, ↓c_isnN, ↓c_isB, ↓c_isnB, ↓bb_lenL, ↓bb_lenT,
    ↓bb_lenS, ↓bb_int, ↓bb_intB, ↓bb_abs, ↓bb_tupL, ↓bb_tupT, ↓bb_lstL, ↓bb_lstT, ↓bb_allM, ↓bb_rep, ↓t_none, ↓t_bool, ↓t_int, ↓t_list, ↓t_tup, ↓its_l, ↓its_t, ↓sl_l, ↓sl_t, ↓sl_s, ↓forB_eq, ↓w_con, ↓w_rev, ↓w_wpE_0,
    ↓w_wpE_2, ↓w_wpE_3, ↓w_wpE_4, ↓w_wpE_5, ↓w_wpE_6, ↓w_wpE_7, ↓w_wpE_8, ↓w_wpE_9, ↓w_wpE_10, ↓w_wpE_11, ↓w_wpE_12, ↓w_wpE_13, ↓w_wpE_14, ↓w_wpE_15, ↓w_wpE_16, ↓w_wpE_17, ↓w_wpE_18, ↓w_wpE_19, ↓w_wpE_20, ↓w_wpT_0, ↓w_wpT_1,
    ↓w_wpT_2, ↓w_wpT_3, ↓w_wpT_4, ↓w_wpP_0, ↓w_wpP_1, ↓w_wpC_0, ↓w_wpC_1, ↓w_wpEs_0, ↓w_wpEs_1, ↓w_wpVs_0, ↓w_wpVs_1, ↓w_wpAs_0, ↓w_wpAs_1, ↓w_wpAs_2, ↓w_wpIt_0, ↓w_wpIt_1, ↓w_wpIt_2, ↓w_wpIt_3, ↓w_wpS_1, ↓w_wpS_2, ↓w_wpS_3,
    ↓w_wpS_4, ↓w_wpS_5, ↓w_wpS_6, ↓w_wpS_7, ↓w_wpS_8, ↓w_wpS_9, ↓w_wpS_10, ↓w_wpS_11, ↓w_wpS_12, ↓w_wpS_13, ↓w_wpSs_0, ↓w_wpSs_1, rtO_own, rtO_sh, rtO_lock, rdO_own, rdO_sh, rdO_lock, isO_own, agO_own, fin_nil, fin_t, fin_f,
    put_t, put_f, ous_nil, ous_nil, ous_cons, ios_nil, ios_io, ios_val, itO_some, atI_0, atI_1, atI_2, atI_3, atI_4, atI_5, sxO_some, ixN_0, ixN_1, ixN_2, ixN_3, ixN_4, get_0, sett_0, get_1, sett_1, get_2, sett_2, get_3,
    sett_3, get_4, sett_4, get_5, sett_5, get_6, sett_6, get_7, sett_7, get_8, sett_8, get_9, sett_9, get_10, sett_10, get_11, sett_11, get_12, sett_12, get_13, sett_13, get_14, sett_14, get_15, sett_15, get_16, sett_16,
    get_17, sett_17, get_18, sett_18, get_19, sett_19, get_20, sett_20, get_21, sett_21, get_22, sett_22, get_23, sett_23, shr_own, shr_lock, shr_sh, shr_un, share_eq, getD_s, cn_none, cn_bool, cn_int, cn_str, natD_eq,
    ty_int_none, ty_int_bool, ty_int_int, ty_int_str, ty_int_list, ty_int_tuple, ty_int_dict, ty_bool_none, ty_bool_bool, ty_bool_int, ty_bool_str, ty_bool_list, ty_bool_tuple, ty_bool_dict, ty_str_none, ty_str_bool,
    ty_str_int, ty_str_str, ty_str_list, ty_str_tuple, ty_str_dict, ty_tuple_none, ty_tuple_bool, ty_tuple_int, ty_tuple_str, ty_tuple_list, ty_tuple_tuple, ty_tuple_dict, ty_list_none, ty_list_bool, ty_list_int,
    ty_list_str, ty_list_list, ty_list_tuple, ty_list_dict, ty_dict_none, ty_dict_bool, ty_dict_int, ty_dict_str, ty_dict_list, ty_dict_tuple, ty_dict_dict, free_eq, fsO_some, freeB_un, freeB_sh, lockE, lockB, unlockE,
    restore, wipeE, List.length_cons, List.length_nil, Nat.zero_add, Nat.reduceAdd, ↓reduceIte, Bool.false_eq_true, true_and, and_true, Bool.not_true, Bool.not_false, decide_eq_true_eq, Bool.not_eq_true',
    decide_eq_false_iff_not, bne_iff_ne, sizeLine, Nat.reducePow, Nat.reduceLeDiff, Nat.reduceLT, List.nodup_cons, List.nodup_nil, List.not_mem_nil, not_false_eq_true, Int.natCast_add, List.length_map, Int.reduceToNat,
    Int.reducePow, Int.cast_ofNat_Int, Int.reduceLT, Int.reduceLE, Int.reduceEq, Int.reduceNe, Int.reduceMod, Int.reduceDiv, Int.reduceMul, Int.reduceAdd, Int.reduceSub, Int.reduceNeg, List.set_cons_zero, List.set_cons_succ,
    List.getElem?_cons_zero, List.getElem?_cons_succ])
local macro_rules | `(tactic| array_mem_dec) => `(tactic| simp only [wpFn, startE, envA, List.length_cons, List.length_nil, Nat.reduceAdd, Nat.reduceSub, List.reduceReplicate, List.cons_append, List.nil_append, List.append_nil, true_and])
local macro_rules | `(tactic| sizeOf_list_dec) => `(tactic| repeat' (first | trivial | assumption | with_reducible apply And.intro | exact Sz.cmul (by decide +kernel) | exact Sz.cdiv (by decide +kernel) (by omega) | (show CPow _ _; exact ⟨by decide, by decide, by decide⟩) | omega))

theorem like_ok {C : Nat → Ct} {ds Q} (h : cLike ds Q) : wpFn C ⟨[false, false], 2, [.ret (.cmp .Eq (.blt .repr (.var 0)) (.blt .repr (.var 1)))]⟩ ds Q := by
  obtain ⟨a, rfl, ⟨h1, h2, h3⟩, hQ⟩ := h
  array_mem_dec
  simp only [↓wpSs, ↓wpS, ↓rt_cmp, ↓wpE, ↓oo_blt, ↓oo_var, ↓rdS_eq, ↓rd_late, ↓rd_val, rdO_sh, shareE, Slot.share, List.set_cons_zero, List.set_cons_succ, List.getElem?_cons_zero, List.getElem?_cons_succ, ↓bb_rep, ↓c_eqS, decide_true, fin_f, fin_nil]
  exact ⟨h1, h2, h3, h1, h2, h3, hQ⟩
/-- the greatest common divisor, by remainders -/
def cGcd : Ct := fun ds Q => ∃ a b : Int, ds = [.int a, .int b] ∧ Q (.int (Int.gcd a b)) false []
theorem cGcd_eq {a b Q} : cGcd [.int a, .int b] Q = Q (.int (Int.gcd a b)) false [] := by
  apply propext; constructor
  · rintro ⟨_, _, ⟨rfl, rfl⟩, h⟩; exact h
  · intro h; exact ⟨_, _, rfl, h⟩
theorem gcd_ok {C : Nat → Ct} {ds Q} (h : cGcd ds Q) : wpFn C ⟨[false, false], 4, [
  .par [2, 3] (.cons (.blt .abs (.var 0)) (.cons (.blt .abs (.var 1)) .nil)),
  .whl (.val (.cmp .Gt (.var 3) (.cst (.int 0)))) [.par [2, 3] (.cons (.var 3) (.cons (.bin .Mod (.blt .int (.var 2)) (.var 3)) .nil))],
  .ret (.var 2)]⟩ ds Q := by
  obtain ⟨a, b, rfl, hQ⟩ := h
  array_mem_dec
  array_get_dec
  refine ⟨fun m env => ∃ x : Nat, env = [.sh (.int a), .sh (.int b), .sh (.int x), .sh (.int m)] ∧ Nat.gcd x m = Int.gcd a b, ⟨_, _, rfl, rfl⟩, ?_⟩
  rintro m env ⟨x, rfl, hx⟩
  have hm : (0 : Int) < m ↔ 0 < m := by omega
  array_get_dec
  split
  · rename_i h
    refine ⟨h, x % m, Nat.mod_lt _ h, m, by rw [Int.natCast_emod], ?_⟩
    rw [← hx, Nat.gcd_comm x m, Nat.gcd_rec m x, Nat.gcd_comm]
  · have : m = 0 := by omega
    subst this
    rw [Nat.gcd_zero_right] at hx
    rw [hx]; exact hQ
theorem gcd2_ok {C : Nat → Ct} {ds Q} (h : cGcd ds Q) : wpFn C ⟨[false, false], 2, [
  .par [0, 1] (.cons (.blt .abs (.var 0)) (.cons (.blt .abs (.var 1)) .nil)),
  .whl (.val (.cmp .Gt (.var 1) (.cst (.int 0)))) [.par [0, 1] (.cons (.var 1) (.cons (.bin .Mod (.blt .int (.var 0)) (.var 1)) .nil))],
  .ret (.var 0)]⟩ ds Q := by
  obtain ⟨a, b, rfl, hQ⟩ := h
  array_mem_dec
  array_get_dec
  refine ⟨fun m env => ∃ x : Nat, env = [.sh (.int x), .sh (.int m)] ∧ Nat.gcd x m = Int.gcd a b, ⟨_, _, rfl, rfl⟩, ?_⟩
  rintro m env ⟨x, rfl, hx⟩
  have hm : (0 : Int) < m ↔ 0 < m := by omega
  array_get_dec
  split
  · rename_i h
    refine ⟨h, x % m, Nat.mod_lt _ h, m, by rw [Int.natCast_emod], ?_⟩
    rw [← hx, Nat.gcd_comm x m, Nat.gcd_rec m x, Nat.gcd_comm]
  · have : m = 0 := by omega
    subst this
    rw [Nat.gcd_zero_right] at hx
    rw [hx]; exact hQ
end G

/-! ### M3: draws, ways -/
namespace G
open PySem PySem.Spec L2
open PyProof.Rows hiding St

theorem cDraw_eq {h many Q} : cDraw [h, .int many] Q = ∃ n, Hand n h ∧ n < 2 ^ 60 ∧ 0 < many ∧ many < 2 ^ 64 ∧ ∀ (d : Int) (h' : D), 0 ≤ d → d < many → Hand (n + 1) h' → Q (.int d) false [h'] := by
  apply propext; constructor
  · rintro ⟨n, _, _, ⟨rfl, rfl⟩, h⟩; exact ⟨n, h⟩
  · rintro ⟨n, h⟩; exact ⟨n, _, _, rfl, h⟩
theorem cpow_10 {j} : CPow 10 j = (0 ≤ j ∧ j ≤ 1000000) := by
  unfold CPow; simp
/-- one of some -/
def cAny : Ct := fun ds Q => ∃ (h : D) (xs : List D), ds = [h, .list xs] ∧ ∃ n, Hand n h ∧ n < 2 ^ 60 ∧ 0 < xs.length ∧ xs.length < 2 ^ 64 ∧ ∀ (x : D) (h' : D), x ∈ xs → Hand (n + 1) h' → Q x false [h']
theorem cAny_eq {h xs Q} : cAny [h, .list xs] Q = ∃ n, Hand n h ∧ n < 2 ^ 60 ∧ 0 < xs.length ∧ xs.length < 2 ^ 64 ∧ ∀ (x : D) (h' : D), x ∈ xs → Hand (n + 1) h' → Q x false [h'] := by
  apply propext; constructor
  · rintro ⟨_, _, ⟨rfl, rfl⟩, h⟩; exact h
  · intro h; exact ⟨_, _, rfl, h⟩
theorem atI_mem {xs : List D} {p : Int} (h0 : 0 ≤ p) (h1 : p < xs.length) : ∃ x, x ∈ xs ∧ atI xs p = some x := by
  obtain ⟨n, rfl⟩ := Int.eq_ofNat_of_zero_le h0
  have h1 : n < xs.length := by omega
  exact ⟨xs[n], List.getElem_mem h1, by rw [atI_nat, List.getElem?_eq_getElem h1]⟩
local macro_rules | `(tactic| array_get_dec) => `(tactic| simp only [*, ↓oo_var, ↓oo_cst, ↓oo_con, ↓oo_rev, ↓oo_dic0, ↓oo_tup, ↓oo_lst, ↓oo_bin, ↓oo_neg, ↓oo_cmp, ↓oo_chain, ↓oo_not, ↓oo_and, ↓oo_or, ↓oo_ite, ↓oo_call, ↓oo_blt, ↓oo_isi, ↓oo_idx, ↓oo_slc, ↓oo_comp, ↓oo_pop, ↓rt_var,
    ↓rt_cst, ↓rt_con, ↓rt_rev, ↓rt_dic0, ↓rt_tup, ↓rt_lst, ↓rt_bin, ↓rt_neg, ↓rt_cmp, ↓rt_chain, ↓rt_not, ↓rt_and, ↓rt_or, ↓rt_ite, ↓rt_call, ↓rt_blt, ↓rt_isi, ↓rt_idx, ↓rt_slc, ↓rt_comp, ↓rt_pop, ↓rdS_eq, ↓rd_late, ↓rd_val,
    ↓isL_eq, ↓ag_nil, ↓ag_val, ↓ag_io, ↓puts_nil, ↓puts_cons, ↓tg_nm, ↓tg_tup, ↓tgs_nil, ↓tgs_cons, ↓ex_int, ↓ex_bool, ↓ex_list, ↓ex_int2, ↓item_l, ↓item_t, ↓sx_eq, ↓o_addI, ↓o_addS, ↓o_addL, ↓o_addT, ↓o_sub, ↓o_mul, ↓o_mod,
    ↓o_div, ↓o_pow, ↓o_mulT, ↓o_mulL, ↓c_lt, ↓c_le, ↓c_gt, ↓c_ge, ↓c_eqI, ↓c_neI, ↓c_eqS, ↓c_neS, ↓c_eqL, ↓c_neL, ↓c_in, ↓c_nin, ↓c_inT, ↓c_ninT, ↓c_inS, ↓rv_l, ↓rv_t, ↓c_isN, ↓c_isnN, ↓c_isB, ↓c_isnB, ↓bb_lenL, ↓bb_lenT,
    ↓bb_lenS, ↓bb_int, ↓bb_intB, ↓bb_abs, ↓bb_tupL, ↓bb_tupT, ↓bb_lstL, ↓bb_lstT, ↓bb_allM, ↓bb_rep, ↓t_none, ↓t_bool, ↓t_int, ↓t_list, ↓t_tup, ↓its_l, ↓its_t, ↓sl_l, ↓sl_t, ↓sl_s, ↓forB_eq, ↓w_con, ↓w_rev, ↓w_wpE_0,
    ↓w_wpE_2, ↓w_wpE_3, ↓w_wpE_4, ↓w_wpE_5, ↓w_wpE_6, ↓w_wpE_7, ↓w_wpE_8, ↓w_wpE_9, ↓w_wpE_10, ↓w_wpE_11, ↓w_wpE_12, ↓w_wpE_13, ↓w_wpE_14, ↓w_wpE_15, ↓w_wpE_16, ↓w_wpE_17, ↓w_wpE_18, ↓w_wpE_19, ↓w_wpE_20, ↓w_wpT_0, ↓w_wpT_1,
    ↓w_wpT_2, ↓w_wpT_3, ↓w_wpT_4, ↓w_wpP_0, ↓w_wpP_1, ↓w_wpC_0, ↓w_wpC_1, ↓w_wpEs_0, ↓w_wpEs_1, ↓w_wpVs_0, ↓w_wpVs_1, ↓w_wpAs_0, ↓w_wpAs_1, ↓w_wpAs_2, ↓w_wpIt_0, ↓w_wpIt_1, ↓w_wpIt_2, ↓w_wpIt_3, ↓w_wpS_1, ↓w_wpS_2, ↓w_wpS_3,
    ↓w_wpS_4, ↓w_wpS_5, ↓w_wpS_6, ↓w_wpS_7, ↓w_wpS_8, ↓w_wpS_9, ↓w_wpS_10, ↓w_wpS_11, ↓w_wpS_12, ↓w_wpS_13, ↓w_wpSs_0, ↓w_wpSs_1, rtO_own, rtO_sh, rtO_lock, rdO_own, rdO_sh, rdO_lock, isO_own, agO_own, fin_nil, fin_t, fin_f,
    put_t, put_f, ous_nil, ous_nil, ous_cons, ios_nil, ios_io, ios_val, itO_some, atI_0, atI_1, atI_2, atI_3, atI_4, atI_5, sxO_some, ixN_0, ixN_1, ixN_2, ixN_3, ixN_4, get_0, sett_0, get_1, sett_1, get_2, sett_2, get_3,
    sett_3, get_4, sett_4, get_5, sett_5, get_6, sett_6, get_7, sett_7, get_8, sett_8, get_9, sett_9, get_10, sett_10, get_11, sett_11, get_12, sett_12, get_13, sett_13, get_14, sett_14, get_15, sett_15, get_16, sett_16,
    get_17, sett_17, get_18, sett_18, get_19, sett_19, get_20, sett_20, get_21, sett_21, get_22, sett_22, get_23, sett_23, shr_own, shr_lock, shr_sh, shr_un, share_eq, getD_s, cn_none, cn_bool, cn_int, cn_str, natD_eq,
    ty_int_none, ty_int_bool, ty_int_int, ty_int_str, ty_int_list, ty_int_tuple, ty_int_dict, ty_bool_none, ty_bool_bool, ty_bool_int, ty_bool_str, ty_bool_list, ty_bool_tuple, ty_bool_dict, ty_str_none, ty_str_bool,
    ty_str_int, ty_str_str, ty_str_list, ty_str_tuple, ty_str_dict, ty_tuple_none, ty_tuple_bool, ty_tuple_int, ty_tuple_str, ty_tuple_list, ty_tuple_tuple, ty_tuple_dict, ty_list_none, ty_list_bool, ty_list_int,
    ty_list_str, ty_list_list, ty_list_tuple, ty_list_dict, ty_dict_none, ty_dict_bool, ty_dict_int, ty_dict_str, ty_dict_list, ty_dict_tuple, ty_dict_dict, free_eq, fsO_some, freeB_un, freeB_sh, lockE, lockB, unlockE,
    restore, wipeE, List.length_cons, List.length_nil, Nat.zero_add, Nat.reduceAdd, ↓reduceIte, Bool.false_eq_true, true_and, and_true, Bool.not_true, Bool.not_false, decide_eq_true_eq, Bool.not_eq_true',
    decide_eq_false_iff_not, bne_iff_ne, sizeLine, Nat.reducePow, Nat.reduceLeDiff, Nat.reduceLT, List.nodup_cons, List.nodup_nil, List.not_mem_nil, not_false_eq_true, Int.natCast_add, List.length_map, Int.reduceToNat,
    Int.reducePow, Int.cast_ofNat_Int, Int.reduceLT, Int.reduceLE, Int.reduceEq, Int.reduceNe, Int.reduceMod, Int.reduceDiv, Int.reduceMul, Int.reduceAdd, Int.reduceSub, Int.reduceNeg, List.set_cons_zero, List.set_cons_succ,
    List.getElem?_cons_zero, List.getElem?_cons_succ])
local macro_rules | `(tactic| array_mem_dec) => `(tactic| simp only [wpFn, startE, envA, List.length_cons, List.length_nil, Nat.reduceAdd, Nat.reduceSub, List.reduceReplicate, List.cons_append, List.nil_append, List.append_nil, true_and])
local macro_rules | `(tactic| sizeOf_list_dec) => `(tactic| repeat' (first | trivial | assumption | with_reducible apply And.intro | exact Sz.cmul (by decide +kernel) | exact Sz.cdiv (by decide +kernel) (by omega) | (show CPow _ _; exact ⟨by decide, by decide, by decide⟩) | omega))

theorem any_ok {C : Nat → Ct} {ds Q} {i : Nat} (hC : C i = cDraw) (h : cAny ds Q) : wpFn C ⟨[true, false], 2, [.ret (.idx (.var 1) (.call i (.io 0 (.ev (.blt .len (.var 1)) .nil))))]⟩ ds Q := by
  obtain ⟨h, xs, rfl, n, hH, hn, h0, h1, hQ⟩ := h
  array_mem_dec
  array_get_dec
  simp only [hC, ↓cDraw_eq]
  refine ⟨n, hH, hn, by omega, by omega, fun d h' d0 d1 hH' => ?_⟩
  obtain ⟨x, hx, e⟩ := atI_mem d0 d1
  have := hQ _ _ hx hH'
  array_get_dec
/-- a number to either side -/
def cGreat : Ct := fun ds Q => ∃ (h : D) (m : Int), ds = [h, .int m] ∧ ∃ n, Hand n h ∧ n < 2 ^ 59 ∧ 0 ≤ m ∧ ∀ (x : Int) (h' : D), -m ≤ x → x ≤ m → Hand (n + 4) h' → Q (.int x) false [h']
theorem cGreat_eq {h m Q} : cGreat [h, .int m] Q = ∃ n, Hand n h ∧ n < 2 ^ 59 ∧ 0 ≤ m ∧ ∀ (x : Int) (h' : D), -m ≤ x → x ≤ m → Hand (n + 4) h' → Q (.int x) false [h'] := by
  apply propext; constructor
  · rintro ⟨_, _, ⟨rfl, rfl⟩, h⟩; exact h
  · intro h; exact ⟨_, _, rfl, h⟩
local macro_rules | `(tactic| array_get_dec) => `(tactic| simp only [*, cpow_10, ↓cDraw_eq, ↓cAny_eq, ↓cGreat_eq, ↓cGcd_eq, ↓cLike_eq, Nat.add_zero, true_implies, ↓oo_var, ↓oo_cst, ↓oo_con, ↓oo_rev, ↓oo_dic0, ↓oo_tup, ↓oo_lst, ↓oo_bin, ↓oo_neg, ↓oo_cmp, ↓oo_chain, ↓oo_not, ↓oo_and,
    ↓oo_or, ↓oo_ite, ↓oo_call, ↓oo_blt, ↓oo_isi, ↓oo_idx, ↓oo_slc, ↓oo_comp, ↓oo_pop, ↓rt_var, ↓rt_cst, ↓rt_con, ↓rt_rev, ↓rt_dic0, ↓rt_tup, ↓rt_lst, ↓rt_bin, ↓rt_neg, ↓rt_cmp, ↓rt_chain, ↓rt_not, ↓rt_and, ↓rt_or, ↓rt_ite,
    ↓rt_call, ↓rt_blt, ↓rt_isi, ↓rt_idx, ↓rt_slc, ↓rt_comp, ↓rt_pop, ↓rdS_eq, ↓rd_late, ↓rd_val, ↓isL_eq, ↓ag_nil, ↓ag_val, ↓ag_io, ↓puts_nil, ↓puts_cons, ↓tg_nm, ↓tg_tup, ↓tgs_nil, ↓tgs_cons, ↓ex_int, ↓ex_bool, ↓ex_list,
    ↓ex_int2, ↓item_l, ↓item_t, ↓sx_eq, ↓o_addI, ↓o_addS, ↓o_addL, ↓o_addT, ↓o_sub, ↓o_mul, ↓o_mod, ↓o_div, ↓o_pow, ↓o_mulT, ↓o_mulL, ↓c_lt, ↓c_le, ↓c_gt, ↓c_ge, ↓c_eqI, ↓c_neI, ↓c_eqS, ↓c_neS, ↓c_eqL, ↓c_neL, ↓c_in, ↓c_nin,
    ↓c_inT, ↓c_ninT, ↓c_inS, ↓rv_l, ↓rv_t, ↓c_isN, ↓c_isnN, ↓c_isB, ↓c_isnB, ↓bb_lenL, ↓bb_lenT, ↓bb_lenS, ↓bb_int, ↓bb_intB, ↓bb_abs, ↓bb_tupL, ↓bb_tupT, ↓bb_lstL, ↓bb_lstT, ↓bb_allM, ↓bb_rep, ↓t_none, ↓t_bool, ↓t_int,
    ↓t_list, ↓t_tup, ↓its_l, ↓its_t, ↓sl_l, ↓sl_t, ↓sl_s, ↓forB_eq, ↓w_con, ↓w_rev, ↓w_wpE_0, ↓w_wpE_2, ↓w_wpE_3, ↓w_wpE_4, ↓w_wpE_5, ↓w_wpE_6, ↓w_wpE_7, ↓w_wpE_8, ↓w_wpE_9, ↓w_wpE_10, ↓w_wpE_11, ↓w_wpE_12, ↓w_wpE_13,
    ↓w_wpE_14, ↓w_wpE_15, ↓w_wpE_16, ↓w_wpE_17, ↓w_wpE_18, ↓w_wpE_19, ↓w_wpE_20, ↓w_wpT_0, ↓w_wpT_1, ↓w_wpT_2, ↓w_wpT_3, ↓w_wpT_4, ↓w_wpP_0, ↓w_wpP_1, ↓w_wpC_0, ↓w_wpC_1, ↓w_wpEs_0, ↓w_wpEs_1, ↓w_wpVs_0, ↓w_wpVs_1,
    ↓w_wpAs_0, ↓w_wpAs_1, ↓w_wpAs_2, ↓w_wpIt_0, ↓w_wpIt_1, ↓w_wpIt_2, ↓w_wpIt_3, ↓w_wpS_1, ↓w_wpS_2, ↓w_wpS_3, ↓w_wpS_4, ↓w_wpS_5, ↓w_wpS_6, ↓w_wpS_7, ↓w_wpS_8, ↓w_wpS_9, ↓w_wpS_10, ↓w_wpS_11, ↓w_wpS_12, ↓w_wpS_13,
    ↓w_wpSs_0, ↓w_wpSs_1, rtO_own, rtO_sh, rtO_lock, rdO_own, rdO_sh, rdO_lock, isO_own, agO_own, fin_nil, fin_t, fin_f, put_t, put_f, ous_nil, ous_nil, ous_cons, ios_nil, ios_io, ios_val, itO_some, atI_0, atI_1, atI_2,
    atI_3, atI_4, atI_5, sxO_some, ixN_0, ixN_1, ixN_2, ixN_3, ixN_4, get_0, sett_0, get_1, sett_1, get_2, sett_2, get_3, sett_3, get_4, sett_4, get_5, sett_5, get_6, sett_6, get_7, sett_7, get_8, sett_8, get_9, sett_9,
    get_10, sett_10, get_11, sett_11, get_12, sett_12, get_13, sett_13, get_14, sett_14, get_15, sett_15, get_16, sett_16, get_17, sett_17, get_18, sett_18, get_19, sett_19, get_20, sett_20, get_21, sett_21, get_22, sett_22,
    get_23, sett_23, shr_own, shr_lock, shr_sh, shr_un, share_eq, getD_s, cn_none, cn_bool, cn_int, cn_str, natD_eq, ty_int_none, ty_int_bool, ty_int_int, ty_int_str, ty_int_list, ty_int_tuple, ty_int_dict, ty_bool_none,
    ty_bool_bool, ty_bool_int, ty_bool_str, ty_bool_list, ty_bool_tuple, ty_bool_dict, ty_str_none, ty_str_bool, ty_str_int, ty_str_str, ty_str_list, ty_str_tuple, ty_str_dict, ty_tuple_none, ty_tuple_bool, ty_tuple_int,
    ty_tuple_str, ty_tuple_list, ty_tuple_tuple, ty_tuple_dict, ty_list_none, ty_list_bool, ty_list_int, ty_list_str, ty_list_list, ty_list_tuple, ty_list_dict, ty_dict_none, ty_dict_bool, ty_dict_int, ty_dict_str,
    ty_dict_list, ty_dict_tuple, ty_dict_dict, free_eq, fsO_some, freeB_un, freeB_sh, lockE, lockB, unlockE, restore, wipeE, List.length_cons, List.length_nil, Nat.zero_add, Nat.reduceAdd, ↓reduceIte, Bool.false_eq_true,
    true_and, and_true, Bool.not_true, Bool.not_false, decide_eq_true_eq, Bool.not_eq_true', decide_eq_false_iff_not, bne_iff_ne, sizeLine, Nat.reducePow, Nat.reduceLeDiff, Nat.reduceLT, List.nodup_cons, List.nodup_nil,
    List.not_mem_nil, not_false_eq_true, Int.natCast_add, List.length_map, Int.reduceToNat, Int.reducePow, Int.cast_ofNat_Int, Int.reduceLT, Int.reduceLE, Int.reduceEq, Int.reduceNe, Int.reduceMod, Int.reduceDiv,
    Int.reduceMul, Int.reduceAdd, Int.reduceSub, Int.reduceNeg, List.set_cons_zero, List.set_cons_succ, List.getElem?_cons_zero, List.getElem?_cons_succ])
local macro_rules | `(tactic| array_mem_dec) => `(tactic| simp only [wpFn, startE, envA, List.length_cons, List.length_nil, Nat.reduceAdd, Nat.reduceSub, List.reduceReplicate, List.cons_append, List.nil_append, List.append_nil, true_and])
local macro_rules | `(tactic| sizeOf_list_dec) => `(tactic| repeat' (first | trivial | assumption | with_reducible apply And.intro | exact Sz.cmul (by decide +kernel) | exact Sz.cdiv (by decide +kernel) (by omega) | (show CPow _ _; exact ⟨by decide, by decide, by decide⟩) | omega))
theorem great_ok {C : Nat → Ct} {ds Q} {i : Nat} (hC : C i = cDraw) (h : cGreat ds Q) : wpFn C ⟨[true, false], 3, [
  .set 2 (.blt .int (.bin .Add (.bin .Add (.bin .Mult (.call i (.io 0 (.ev (.bin .Pow (.cst (.int 10)) (.cst (.int 9))) .nil))) (.bin .Pow (.cst (.int 10)) (.cst (.int 21)))) (.bin .Mult (.call i (.io 0 (.ev (.bin .Pow (.cst (.int 10)) (.cst (.int 9))) .nil))) (.bin .Pow (.cst (.int 10)) (.cst (.int 9))))) (.call i (.io 0 (.ev (.bin .Pow (.cst (.int 10)) (.cst (.int 9))) .nil))))),
  .set 2 (.bin .Mod (.blt .int (.var 2)) (.bin .Add (.var 1) (.cst (.int 1)))),
  .ret (.ite (.val (.cmp .Eq (.call i (.io 0 (.ev (.cst (.int 2)) .nil))) (.cst (.int 0)))) (.var 2) (.bin .Sub (.cst (.int 0)) (.var 2)))]⟩ ds Q := by
  obtain ⟨h, m, rfl, n, hH, hn, h0, hQ⟩ := h
  array_mem_dec
  array_get_dec
  have hm : ∀ x : Int, 0 ≤ x % (m + 1) ∧ x % (m + 1) < m + 1 := fun x => ⟨Int.emod_nonneg x (by omega), Int.emod_lt_of_pos x (by omega)⟩
  refine ⟨n, hH, by omega, fun d1 h1 a1 b1 H1 => ?_⟩
  have s1 : Sz d1 30 := .of (by omega) (by omega)
  refine ⟨Sz.cmul (by decide +kernel), _, H1, by omega, fun d2 h2 a2 b2 H2 => ?_⟩
  have s2 : Sz d2 30 := .of (by omega) (by omega)
  refine ⟨Sz.cmul (by decide +kernel), _, H2, by omega, fun d3 h3 a3 b3 H3 => ?_⟩
  refine ⟨by omega, _, H3, by omega, fun d4 h4 a4 b4 H4 => ?_⟩
  generalize d1 * 1000000000000000000000 + d2 * 1000000000 + d3 = e
  have := hm e
  split
  · exact hQ _ _ (by omega) (by omega) H4
  · exact hQ _ _ (by omega) (by omega) H4
end G

/-! ### M4: ways -/
namespace G
open PySem PySem.Spec L2
open PyProof.Rows hiding St
abbrev wy (x y : Int) : D := .tuple [.int x, .int y]
theorem eqv_wy {a b c d : Int} : PyData.eqv (wy a b) (wy c d) = (decide (a = c) && decide (b = d)) := by
  show (decide (a = c) && (decide (b = d) && true)) = _
  rw [Bool.and_true]
theorem shaped_wy {a b : Int} : SeqAt.shaped (wy a b) = true := rfl
theorem c_eqP {a b c d : Int} {q} : cmp2 .Eq (.tuple [.int a, .int b]) (.tuple [.int c, .int d]) q = q (decide (a = c) && decide (b = d)) := by
  rw [c_eqT, eqv_wy]; simp only [shaped_wy, true_and]
theorem c_neP {a b c d : Int} {q} : cmp2 .NotEq (.tuple [.int a, .int b]) (.tuple [.int c, .int d]) q = q (!(decide (a = c) && decide (b = d))) := by
  rw [c_neT, eqv_wy]; simp only [shaped_wy, true_and]
def cWay : Ct := fun ds Q => ∃ h : D, ds = [h] ∧ ∃ n, Hand n h ∧ n < 2 ^ 58 ∧ ∀ (x y : Int) (h' : D), (x ≠ 0 ∨ y ≠ 0) → Sz x 100 → Sz y 100 → Hand (n + 11) h' → Q (.tuple [.int x, .int y]) false [h']
theorem cWay_eq {h Q} : cWay [h] Q = ∃ n, Hand n h ∧ n < 2 ^ 58 ∧ ∀ (x y : Int) (h' : D), (x ≠ 0 ∨ y ≠ 0) → Sz x 100 → Sz y 100 → Hand (n + 11) h' → Q (.tuple [.int x, .int y]) false [h'] := by
  apply propext; constructor
  · rintro ⟨_, ⟨rfl⟩, h⟩; exact h
  · intro h; exact ⟨_, rfl, h⟩
theorem CPow10 {j : Int} (h : 0 ≤ j) (g : j ≤ 1000000) : CPow 10 j := ⟨h, g, by decide⟩
local macro_rules | `(tactic| array_get_dec) => `(tactic| simp only [*, cpow_10, ↓cDraw_eq, ↓cAny_eq, ↓cGreat_eq, ↓cGcd_eq, ↓cLike_eq, Nat.add_zero, true_implies, ↓c_eqP, ↓c_neP, ↓oo_var, ↓oo_cst, ↓oo_con, ↓oo_rev, ↓oo_dic0, ↓oo_tup, ↓oo_lst, ↓oo_bin, ↓oo_neg, ↓oo_cmp, ↓oo_chain, ↓oo_not,
    ↓oo_and, ↓oo_or, ↓oo_ite, ↓oo_call, ↓oo_blt, ↓oo_isi, ↓oo_idx, ↓oo_slc, ↓oo_comp, ↓oo_pop, ↓rt_var, ↓rt_cst, ↓rt_con, ↓rt_rev, ↓rt_dic0, ↓rt_tup, ↓rt_lst, ↓rt_bin, ↓rt_neg, ↓rt_cmp, ↓rt_chain, ↓rt_not, ↓rt_and, ↓rt_or,
    ↓rt_ite, ↓rt_call, ↓rt_blt, ↓rt_isi, ↓rt_idx, ↓rt_slc, ↓rt_comp, ↓rt_pop, ↓rdS_eq, ↓rd_late, ↓rd_val, ↓isL_eq, ↓ag_nil, ↓ag_val, ↓ag_io, ↓puts_nil, ↓puts_cons, ↓tg_nm, ↓tg_tup, ↓tgs_nil, ↓tgs_cons, ↓ex_int, ↓ex_bool,
    ↓ex_list, ↓ex_int2, ↓item_l, ↓item_t, ↓sx_eq, ↓o_addI, ↓o_addS, ↓o_addL, ↓o_addT, ↓o_sub, ↓o_mul, ↓o_mod, ↓o_div, ↓o_pow, ↓o_mulT, ↓o_mulL, ↓c_lt, ↓c_le, ↓c_gt, ↓c_ge, ↓c_eqI, ↓c_neI, ↓c_eqS, ↓c_neS, ↓c_eqL, ↓c_neL,
    ↓c_in, ↓c_nin, ↓c_inT, ↓c_ninT, ↓c_inS, ↓rv_l, ↓rv_t, ↓c_isN, ↓c_isnN, ↓c_isB, ↓c_isnB, ↓bb_lenL, ↓bb_lenT, ↓bb_lenS, ↓bb_int, ↓bb_intB, ↓bb_abs, ↓bb_tupL, ↓bb_tupT, ↓bb_lstL, ↓bb_lstT, ↓bb_allM, ↓bb_rep, ↓t_none,
    ↓t_bool, ↓t_int, ↓t_list, ↓t_tup, ↓its_l, ↓its_t, ↓sl_l, ↓sl_t, ↓sl_s, ↓forB_eq, ↓w_con, ↓w_rev, ↓w_wpE_0, ↓w_wpE_2, ↓w_wpE_3, ↓w_wpE_4, ↓w_wpE_5, ↓w_wpE_6, ↓w_wpE_7, ↓w_wpE_8, ↓w_wpE_9, ↓w_wpE_10, ↓w_wpE_11, ↓w_wpE_12,
    ↓w_wpE_13, ↓w_wpE_14, ↓w_wpE_15, ↓w_wpE_16, ↓w_wpE_17, ↓w_wpE_18, ↓w_wpE_19, ↓w_wpE_20, ↓w_wpT_0, ↓w_wpT_1, ↓w_wpT_2, ↓w_wpT_3, ↓w_wpT_4, ↓w_wpP_0, ↓w_wpP_1, ↓w_wpC_0, ↓w_wpC_1, ↓w_wpEs_0, ↓w_wpEs_1, ↓w_wpVs_0,
    ↓w_wpVs_1, ↓w_wpAs_0, ↓w_wpAs_1, ↓w_wpAs_2, ↓w_wpIt_0, ↓w_wpIt_1, ↓w_wpIt_2, ↓w_wpIt_3, ↓w_wpS_1, ↓w_wpS_2, ↓w_wpS_3, ↓w_wpS_4, ↓w_wpS_5, ↓w_wpS_6, ↓w_wpS_7, ↓w_wpS_8, ↓w_wpS_9, ↓w_wpS_10, ↓w_wpS_11, ↓w_wpS_12,
    ↓w_wpS_13, ↓w_wpSs_0, ↓w_wpSs_1, rtO_own, rtO_sh, rtO_lock, rdO_own, rdO_sh, rdO_lock, isO_own, agO_own, fin_nil, fin_t, fin_f, put_t, put_f, ous_nil, ous_nil, ous_cons, ios_nil, ios_io, ios_val, itO_some, atI_0, atI_1,
    atI_2, atI_3, atI_4, atI_5, sxO_some, ixN_0, ixN_1, ixN_2, ixN_3, ixN_4, get_0, sett_0, get_1, sett_1, get_2, sett_2, get_3, sett_3, get_4, sett_4, get_5, sett_5, get_6, sett_6, get_7, sett_7, get_8, sett_8, get_9,
    sett_9, get_10, sett_10, get_11, sett_11, get_12, sett_12, get_13, sett_13, get_14, sett_14, get_15, sett_15, get_16, sett_16, get_17, sett_17, get_18, sett_18, get_19, sett_19, get_20, sett_20, get_21, sett_21, get_22,
    sett_22, get_23, sett_23, shr_own, shr_lock, shr_sh, shr_un, share_eq, getD_s, cn_none, cn_bool, cn_int, cn_str, natD_eq, ty_int_none, ty_int_bool, ty_int_int, ty_int_str, ty_int_list, ty_int_tuple, ty_int_dict,
    ty_bool_none, ty_bool_bool, ty_bool_int, ty_bool_str, ty_bool_list, ty_bool_tuple, ty_bool_dict, ty_str_none, ty_str_bool, ty_str_int, ty_str_str, ty_str_list, ty_str_tuple, ty_str_dict, ty_tuple_none, ty_tuple_bool,
    ty_tuple_int, ty_tuple_str, ty_tuple_list, ty_tuple_tuple, ty_tuple_dict, ty_list_none, ty_list_bool, ty_list_int, ty_list_str, ty_list_list, ty_list_tuple, ty_list_dict, ty_dict_none, ty_dict_bool, ty_dict_int,
    ty_dict_str, ty_dict_list, ty_dict_tuple, ty_dict_dict, free_eq, fsO_some, freeB_un, freeB_sh, lockE, lockB, unlockE, restore, wipeE, List.length_cons, List.length_nil, Nat.zero_add, Nat.reduceAdd, ↓reduceIte,
    Bool.false_eq_true, true_and, and_true, Bool.not_true, Bool.not_false, decide_eq_true_eq, Bool.not_eq_true', decide_eq_false_iff_not, bne_iff_ne, sizeLine, Nat.reducePow, Nat.reduceLeDiff, Nat.reduceLT, List.nodup_cons,
    List.nodup_nil, List.not_mem_nil, not_false_eq_true, Int.natCast_add, List.length_map, Int.reduceToNat, Int.reducePow, Int.cast_ofNat_Int, Int.reduceLT, Int.reduceLE, Int.reduceEq, Int.reduceNe, Int.reduceMod,
    Int.reduceDiv, Int.reduceMul, Int.reduceAdd, Int.reduceSub, Int.reduceNeg, List.set_cons_zero, List.set_cons_succ, List.getElem?_cons_zero, List.getElem?_cons_succ])
local macro_rules | `(tactic| array_mem_dec) => `(tactic| simp only [wpFn, startE, envA, List.length_cons, List.length_nil, Nat.reduceAdd, Nat.reduceSub, List.reduceReplicate, List.cons_append, List.nil_append, List.append_nil, true_and])
local macro_rules | `(tactic| sizeOf_list_dec) => `(tactic| repeat' (first | trivial | assumption | with_reducible apply And.intro | exact Sz.cmul (by decide +kernel) | exact Sz.cdiv (by decide +kernel) (by omega) | (show CPow _ _; exact ⟨by decide, by decide, by decide⟩) | omega))

theorem way_ok {C : Nat → Ct} {ds Q} {iD iA iG : Nat} (hD : C iD = cDraw) (hA : C iA = cAny) (hG : C iG = cGreat) (h : cWay ds Q) : wpFn C ⟨[true], 6, [
  .set 1 (.call iA (.io 0 (.ev (.lst (.cons (.cst (.int 1)) (.cons (.cst (.int 3)) (.cons (.cst (.int 12)) (.cons (.bin .Pow (.cst (.int 10)) (.cst (.int 9))) (.cons (.bin .Pow (.cst (.int 10)) (.cst (.int 27))) .nil)))))) .nil))),
  .par [2, 3, 4] (.cons (.call iG (.io 0 (.ev (.var 1) .nil))) (.cons (.call iG (.io 0 (.ev (.var 1) .nil))) (.cons (.call iA (.io 0 (.ev (.lst (.cons (.cst (.int 1)) (.cons (.cst (.int 1)) (.cons (.cst (.int 2)) (.cons (.cst (.int 1000)) .nil))))) .nil))) .nil))),
  .set 5 (.call iD (.io 0 (.ev (.cst (.int 6)) .nil))),
  .setT (.tup [(.nm 2), (.nm 3)]) (.ite (.val (.cmp .Eq (.var 5) (.cst (.int 0)))) (.tup (.cons (.var 2) (.cons (.cst (.int 0)) .nil))) (.ite (.val (.cmp .Eq (.var 5) (.cst (.int 1)))) (.tup (.cons (.cst (.int 0)) (.cons (.var 3) .nil))) (.ite (.val (.cmp .Eq (.var 5) (.cst (.int 2)))) (.tup (.cons (.var 2) (.cons (.var 2) .nil))) (.tup (.cons (.var 2) (.cons (.var 3) .nil)))))),
  .ret (.ite (.val (.cmp .NotEq (.tup (.cons (.var 2) (.cons (.var 3) .nil))) (.tup (.cons (.cst (.int 0)) (.cons (.cst (.int 0)) .nil))))) (.tup (.cons (.bin .Mult (.var 2) (.var 4)) (.cons (.bin .Mult (.var 3) (.var 4)) .nil))) (.tup (.cons (.var 4) (.cons (.cst (.int 0)) .nil))))]⟩ ds Q := by
  obtain ⟨h, rfl, n, hH, hn, hQ⟩ := h
  array_mem_dec
  array_get_dec
  refine ⟨n, hH, by omega, fun x h1 hx H1 => ?_⟩
  obtain ⟨m, rfl, m0, m1⟩ : ∃ m : Int, x = .int m ∧ 1 ≤ m ∧ m ≤ 10 ^ 27 := by
    simp only [List.mem_cons, List.not_mem_nil, or_false] at hx
    rcases hx with rfl | rfl | rfl | rfl | rfl <;> exact ⟨_, rfl, by omega, by omega⟩
  array_get_dec
  refine ⟨_, H1, by omega, by omega, fun a h2 a0 a1 H2 => ⟨_, H2, by omega, by omega, fun b h3 b0 b1 H3 => ⟨_, H3, by omega, fun x h4 hx H4 => ?_⟩⟩⟩
  obtain ⟨t, rfl, t0, t1⟩ : ∃ m : Int, x = .int m ∧ 1 ≤ m ∧ m ≤ 1000 := by
    simp only [List.mem_cons, List.not_mem_nil, or_false] at hx
    rcases hx with rfl | rfl | rfl | rfl <;> exact ⟨_, rfl, by omega, by omega⟩
  array_get_dec
  refine ⟨_, H4, by omega, fun d h5 d0 d1 H5 => ?_⟩
  have sa : Sz a 90 := .of (by omega) (by omega)
  have sb : Sz b 90 := .of (by omega) (by omega)
  have st : Sz t 10 := .of (by omega) (by omega)
  have key : ∀ u v : Int, Sz u 90 → Sz v 90 → if (decide (u = 0) && decide (v = 0)) = false then CMulW u t ∧ CMulW v t ∧ Q (.tuple [.int (u * t), .int (v * t)]) false [h5] else Q (.tuple [.int t, .int 0]) false [h5] := by
    intro u v su sv
    split
    · rename_i h
      simp only [Bool.and_eq_false_iff, decide_eq_false_iff_not] at h
      refine ⟨Sz.cmul (by decide +kernel), Sz.cmul (by decide +kernel), hQ _ _ _ ?_ (Sz.mul (a := 90) (b := 10)) (Sz.mul (a := 90) (b := 10)) H5⟩
      rcases h with h | h
      · exact .inl (Int.mul_ne_zero h (by omega))
      · exact .inr (Int.mul_ne_zero h (by omega))
    · exact hQ _ _ _ (.inl (by omega)) (st.mono (by omega)) ⟨by decide⟩ H5
  split
  · exact key a 0 sa ⟨by decide⟩
  · split
    · exact key 0 b ⟨by decide⟩ sb
    · split
      · exact key a a sa sa
      · exact key a b sa sb
end G

/-! ### M5: functions of ways -/
namespace G
open PySem PySem.Spec L2
open PyProof.Rows hiding St
theorem Sz.le {x : Int} {a b : Nat} [h : Sz x a] (g : a ≤ b) : Sz x b := h.mono g
abbrev Nz (x y : Int) : Prop := x ≠ 0 ∨ y ≠ 0
abbrev lowD (x y : Int) : D := .tuple [.int (x / (Int.gcd x y : Nat)), .int (y / (Int.gcd x y : Nat))]
def isIntB : D → Bool
  | .int _ => true
  | _ => false
def isPairB : D → Bool
  | .tuple [x, y] => isIntB x && isIntB y
  | _ => false
def isWayB : D → Bool
  | .tuple [.int x, .int y] => !(decide (x = 0) && decide (y = 0))
  | _ => false
def isRayB : D → Bool
  | .tuple [.int x, .int y] => !(decide (x = 0) && decide (y = 0)) && decide (Int.gcd x y = 1)
  | _ => false
def okIn (d : D) : Bool := okTy d && match d with
  | .tuple xs => xs.all okTy
  | _ => true
theorem isWay_wy {x y} : isWayB (.tuple [.int x, .int y]) = !(decide (x = 0) && decide (y = 0)) := rfl
theorem isRay_wy {x y} : isRayB (.tuple [.int x, .int y]) = (!(decide (x = 0) && decide (y = 0)) && decide (Int.gcd x y = 1)) := rfl
theorem isWay_nz {x y} (h : Nz x y) : isWayB (.tuple [.int x, .int y]) = true := by
  rw [isWay_wy, Bool.not_eq_true', Bool.and_eq_false_iff]
  rcases h with h | h <;> simp [h]
def lenIn (d : D) (a b : Int) : Bool := match d with
  | .tuple xs => decide (a ≤ xs.length) && decide ((xs.length : Int) ≤ b)
  | _ => false
def c_is_sized : Ct := fun ds Q => match ds with
  | [d, .int a, .int b] => okTy d = true ∧ Q (.bool (lenIn d a b)) false []
  | _ => False
def c_is_integer : Ct := fun ds Q => match ds with
  | [d] => okTy d = true ∧ Q (.bool (isIntB d)) false []
  | _ => False
def c_is_pair : Ct := fun ds Q => match ds with
  | [d] => okIn d = true ∧ Q (.bool (isPairB d)) false []
  | _ => False
def c_is_way : Ct := fun ds Q => match ds with
  | [d] => okIn d = true ∧ Q (.bool (isWayB d)) false []
  | _ => False
def c_is_ray : Ct := fun ds Q => match ds with
  | [d] => okIn d = true ∧ Q (.bool (isRayB d)) false []
  | _ => False
theorem c_is_sized_eq {d a b Q} : c_is_sized [d, .int a, .int b] Q = (okTy d = true ∧ Q (.bool (lenIn d a b)) false []) := rfl
theorem c_is_integer_eq {d Q} : c_is_integer [d] Q = (okTy d = true ∧ Q (.bool (isIntB d)) false []) := rfl
theorem c_is_pair_eq {d Q} : c_is_pair [d] Q = (okIn d = true ∧ Q (.bool (isPairB d)) false []) := rfl
theorem c_is_way_eq {d Q} : c_is_way [d] Q = (okIn d = true ∧ Q (.bool (isWayB d)) false []) := rfl
theorem c_is_ray_eq {d Q} : c_is_ray [d] Q = (okIn d = true ∧ Q (.bool (isRayB d)) false []) := rfl
theorem okTy_t {xs} : okTy (.tuple xs) = true := rfl
theorem okTy_l {xs} : okTy (.list xs) = true := rfl
theorem okTy_s {xs} : okTy (.str xs) = true := rfl
theorem okTy_b {xs} : okTy (.bool xs) = true := rfl
theorem okTy_n : okTy .none = true := rfl
theorem okTy_d : okTy (.dict []) = true := rfl
theorem okTy_i {i} : okTy (.int i) = true := rfl
theorem isTy_tt {xs} : isTy .tuple (.tuple xs) = true := rfl
local macro_rules | `(tactic| array_get_dec) => `(tactic| simp only [*, cpow_10, ↓cDraw_eq, ↓cAny_eq, ↓cGreat_eq, ↓cGcd_eq, ↓cLike_eq, Nat.add_zero, true_implies, ↓c_eqP, ↓c_neP, ↓oo_var, ↓oo_cst, ↓oo_con, ↓oo_rev, ↓oo_dic0, ↓oo_tup, ↓oo_lst, ↓oo_bin, ↓oo_neg, ↓oo_cmp, ↓oo_chain, ↓oo_not,
    ↓oo_and, ↓oo_or, ↓oo_ite, ↓oo_call, ↓oo_blt, ↓oo_isi, ↓oo_idx, ↓oo_slc, ↓oo_comp, ↓oo_pop, ↓rt_var, ↓rt_cst, ↓rt_con, ↓rt_rev, ↓rt_dic0, ↓rt_tup, ↓rt_lst, ↓rt_bin, ↓rt_neg, ↓rt_cmp, ↓rt_chain, ↓rt_not, ↓rt_and, ↓rt_or,
    ↓rt_ite, ↓rt_call, ↓rt_blt, ↓rt_isi, ↓rt_idx, ↓rt_slc, ↓rt_comp, ↓rt_pop, ↓rdS_eq, ↓rd_late, ↓rd_val, ↓isL_eq, ↓ag_nil, ↓ag_val, ↓ag_io, ↓puts_nil, ↓puts_cons, ↓tg_nm, ↓tg_tup, ↓tgs_nil, ↓tgs_cons, ↓ex_int, ↓ex_bool,
    ↓ex_list, ↓ex_int2, ↓item_l, ↓item_t, ↓sx_eq, ↓o_addI, ↓o_addS, ↓o_addL, ↓o_addT, ↓o_sub, ↓o_mul, ↓o_mod, ↓o_div, ↓o_pow, ↓o_mulT, ↓o_mulL, ↓c_lt, ↓c_le, ↓c_gt, ↓c_ge, ↓c_eqI, ↓c_neI, ↓c_eqS, ↓c_neS, ↓c_eqL, ↓c_neL,
    ↓c_in, ↓c_nin, ↓c_inT, ↓c_ninT, ↓c_inS, ↓rv_l, ↓rv_t, ↓c_isN, ↓c_isnN, ↓c_isB, ↓c_isnB, ↓bb_lenL, ↓bb_lenT, ↓bb_lenS, ↓bb_int, ↓bb_intB, ↓bb_abs, ↓bb_tupL, ↓bb_tupT, ↓bb_lstL, ↓bb_lstT, ↓bb_allM, ↓bb_rep, ↓t_none,
    ↓t_bool, ↓t_int, ↓t_list, ↓t_tup, ↓its_l, ↓its_t, ↓sl_l, ↓sl_t, ↓sl_s, ↓forB_eq, ↓w_con, ↓w_rev, ↓w_wpE_0, ↓w_wpE_2, ↓w_wpE_3, ↓w_wpE_4, ↓w_wpE_5, ↓w_wpE_6, ↓w_wpE_7, ↓w_wpE_8, ↓w_wpE_9, ↓w_wpE_10, ↓w_wpE_11, ↓w_wpE_12,
    ↓w_wpE_13, ↓w_wpE_14, ↓w_wpE_15, ↓w_wpE_16, ↓w_wpE_17, ↓w_wpE_18, ↓w_wpE_19, ↓w_wpE_20, ↓w_wpT_0, ↓w_wpT_1, ↓w_wpT_2, ↓w_wpT_3, ↓w_wpT_4, ↓w_wpP_0, ↓w_wpP_1, ↓w_wpC_0, ↓w_wpC_1, ↓w_wpEs_0, ↓w_wpEs_1, ↓w_wpVs_0,
    ↓w_wpVs_1, ↓w_wpAs_0, ↓w_wpAs_1, ↓w_wpAs_2, ↓w_wpIt_0, ↓w_wpIt_1, ↓w_wpIt_2, ↓w_wpIt_3, ↓w_wpS_1, ↓w_wpS_2, ↓w_wpS_3, ↓w_wpS_4, ↓w_wpS_5, ↓w_wpS_6, ↓w_wpS_7, ↓w_wpS_8, ↓w_wpS_9, ↓w_wpS_10, ↓w_wpS_11, ↓w_wpS_12,
    ↓w_wpS_13, ↓w_wpSs_0, ↓w_wpSs_1, rtO_own, rtO_sh, rtO_lock, rdO_own, rdO_sh, rdO_lock, isO_own, agO_own, fin_nil, fin_t, fin_f, put_t, put_f, ous_nil, ous_nil, ous_cons, ios_nil, ios_io, ios_val, itO_some, atI_0, atI_1,
    atI_2, atI_3, atI_4, atI_5, sxO_some, ixN_0, ixN_1, ixN_2, ixN_3, ixN_4, get_0, sett_0, get_1, sett_1, get_2, sett_2, get_3, sett_3, get_4, sett_4, get_5, sett_5, get_6, sett_6, get_7, sett_7, get_8, sett_8, get_9,
    sett_9, get_10, sett_10, get_11, sett_11, get_12, sett_12, get_13, sett_13, get_14, sett_14, get_15, sett_15, get_16, sett_16, get_17, sett_17, get_18, sett_18, get_19, sett_19, get_20, sett_20, get_21, sett_21, get_22,
    sett_22, get_23, sett_23, shr_own, shr_lock, shr_sh, shr_un, share_eq, getD_s, cn_none, cn_bool, cn_int, cn_str, natD_eq, ty_int_none, ty_int_bool, ty_int_int, ty_int_str, ty_int_list, ty_int_tuple, ty_int_dict,
    ty_bool_none, ty_bool_bool, ty_bool_int, ty_bool_str, ty_bool_list, ty_bool_tuple, ty_bool_dict, ty_str_none, ty_str_bool, ty_str_int, ty_str_str, ty_str_list, ty_str_tuple, ty_str_dict, ty_tuple_none, ty_tuple_bool,
    ty_tuple_int, ty_tuple_str, ty_tuple_list, ty_tuple_tuple, ty_tuple_dict, ty_list_none, ty_list_bool, ty_list_int, ty_list_str, ty_list_list, ty_list_tuple, ty_list_dict, ty_dict_none, ty_dict_bool, ty_dict_int,
    ty_dict_str, ty_dict_list, ty_dict_tuple, ty_dict_dict, free_eq, fsO_some, freeB_un, freeB_sh, lockE, lockB, unlockE, restore, wipeE, List.length_cons, List.length_nil, Nat.zero_add, Nat.reduceAdd, ↓reduceIte,
    Bool.false_eq_true, true_and, and_true, Bool.not_true, Bool.not_false, decide_eq_true_eq, Bool.not_eq_true', decide_eq_false_iff_not, bne_iff_ne, sizeLine, Nat.reducePow, Nat.reduceLeDiff, Nat.reduceLT, List.nodup_cons,
    List.nodup_nil, List.not_mem_nil, not_false_eq_true, Int.natCast_add, List.length_map, Int.reduceToNat, Int.reducePow, Int.cast_ofNat_Int, Int.reduceLT, Int.reduceLE, Int.reduceEq, Int.reduceNe, Int.reduceMod,
    Int.reduceDiv, Int.reduceMul, Int.reduceAdd, Int.reduceSub, Int.reduceNeg, List.set_cons_zero, List.set_cons_succ, List.getElem?_cons_zero, List.getElem?_cons_succ, Bool.true_eq_false, okTy_i, okTy_t, okTy_l, okTy_s,
    okTy_b, okTy_n, okTy_d, decide_true, decide_false, Bool.and_true, Bool.true_and, Bool.false_and, Bool.and_false, Bool.and_eq_true, Nat.add_zero, true_implies, List.length_append, List.all_cons, List.all_nil, id_eq])
local macro_rules | `(tactic| array_mem_dec) => `(tactic| simp only [wpFn, startE, envA, List.length_cons, List.length_nil, Nat.reduceAdd, Nat.reduceSub, List.reduceReplicate, List.cons_append, List.nil_append, List.append_nil, true_and])
local macro_rules | `(tactic| sizeOf_list_dec) => `(tactic| repeat' (first | trivial | assumption | with_reducible apply And.intro | exact Sz.cmul (by decide +kernel) | exact Sz.cdiv (by decide +kernel) (by omega) | (show CPow _ _; exact ⟨by decide, by decide, by decide⟩) | omega))

theorem is_integer_ok {C : Nat → Ct} {ds Q} (h : c_is_integer ds Q) : wpFn C ⟨[false], 1, [
  .ret (.and (.isi (.var 0) .int) (.not (.val (.isi (.var 0) .bool))))]⟩ ds Q := by
  unfold c_is_integer at h
  split at h
  · obtain ⟨h0, hQ⟩ := h
    rename_i d
    array_mem_dec
    cases d <;> (array_get_dec; try exact hQ)
  · exact h.elim
theorem is_sized_ok {C : Nat → Ct} {ds Q} (h : c_is_sized ds Q) : wpFn C ⟨[false, false, false], 3, [
  .ret (.and (.isi (.var 0) .tuple) (.chain .LtE .LtE (.var 1) (.blt .len (.var 0)) (.var 2)))]⟩ ds Q := by
  unfold c_is_sized at h
  split at h
  · obtain ⟨h0, hQ⟩ := h
    rename_i d a b
    array_mem_dec
    cases d <;> (array_get_dec; try exact hQ)
    · rename_i xs
      unfold lenIn at hQ
      split
      · rename_i h
        simpa only [h, decide_true, Bool.true_and] using hQ
      · rename_i h
        simpa only [h, decide_false, Bool.false_and] using hQ
  · exact h.elim
theorem okIn_1 {d} (h : okIn d = true) : okTy d = true := by
  unfold okIn at h; rw [Bool.and_eq_true] at h; exact h.1
theorem okIn_2 {x y : D} (h : okIn (.tuple [x, y]) = true) : okTy x = true ∧ okTy y = true := by
  unfold okIn at h
  simp only [List.all_cons, List.all_nil, Bool.and_eq_true] at h
  exact ⟨h.2.1, h.2.2.1⟩
theorem is_pair_ok {C : Nat → Ct} {ds Q} {i1 : Nat} {i2 : Nat} (h1 : C i1 = c_is_sized) (h2 : C i2 = c_is_integer) (h : c_is_pair ds Q) : wpFn C ⟨[false], 1, [
  .ret (.and (.call i1 (.ev (.var 0) (.ev (.cst (.int 2)) (.ev (.cst (.int 2)) .nil)))) (.and (.call i2 (.ev (.idx (.var 0) (.cst (.int 0))) .nil)) (.call i2 (.ev (.idx (.var 0) (.cst (.int 1))) .nil))))]⟩ ds Q := by
  unfold c_is_pair at h
  split at h
  · obtain ⟨h0, hQ⟩ := h
    rename_i d
    array_mem_dec
    array_get_dec
    simp only [↓c_is_sized_eq]
    refine ⟨okIn_1 h0, ?_⟩
    have no : isPairB d = false → Q (.bool false) false [] := fun g => by rw [g] at hQ; exact hQ
    cases hd : lenIn d 2 2 with
    | false =>
      array_get_dec
      refine no ?_
      unfold isPairB
      split
      · simp [lenIn] at hd
      · rfl
    | true =>
      obtain ⟨x, y, rfl⟩ : ∃ x y, d = .tuple [x, y] := by
        unfold lenIn at hd
        split at hd
        · rename_i xs
          match xs, hd with
          | [x, y], _ => exact ⟨x, y, rfl⟩
          | [], hd => simp at hd
          | [x], hd => simp at hd
          | x :: y :: z :: r, hd => simp at hd; omega
        · exact nomatch hd
      have o := okIn_2 h0
      array_get_dec
      simp only [↓c_is_integer_eq]
      refine ⟨o.1, ?_⟩
      have e : isPairB (.tuple [x, y]) = (isIntB x && isIntB y) := rfl
      rw [e] at hQ
      cases hx : isIntB x with
      | false =>
        rw [hx] at hQ
        array_get_dec
      | true =>
        rw [hx] at hQ
        have o2 := o.2
        array_get_dec
        exact hQ
  · exact h.elim
theorem isPair_iff {d} (h : isPairB d = true) : ∃ x y, d = .tuple [.int x, .int y] := by
  unfold isPairB at h
  split at h
  · rename_i x y
    rw [Bool.and_eq_true] at h
    obtain ⟨a, b⟩ := h
    unfold isIntB at a b
    split at a
    · split at b
      · exact ⟨_, _, rfl⟩
      · exact nomatch b
    · exact nomatch a
  · exact nomatch h
theorem is_way_ok {C : Nat → Ct} {ds Q} {i3 : Nat} (h3 : C i3 = c_is_pair) (h : c_is_way ds Q) : wpFn C ⟨[false], 1, [
  .ret (.and (.call i3 (.ev (.var 0) .nil)) (.cmp .NotEq (.var 0) (.tup (.cons (.cst (.int 0)) (.cons (.cst (.int 0)) .nil)))))]⟩ ds Q := by
  unfold c_is_way at h
  split at h
  · obtain ⟨h0, hQ⟩ := h
    rename_i d
    array_mem_dec
    array_get_dec
    simp only [↓c_is_pair_eq]
    refine ⟨h0, ?_⟩
    cases hd : isPairB d with
    | false =>
      have : isWayB d = false := by
        unfold isWayB
        split
        · exact nomatch hd
        · rfl
      rw [this] at hQ
      array_get_dec
    | true =>
      obtain ⟨x, y, rfl⟩ := isPair_iff hd
      rw [isWay_wy] at hQ
      array_get_dec
  · exact h.elim
theorem isWay_iff {d} (h : isWayB d = true) : ∃ x y, d = .tuple [.int x, .int y] ∧ Nz x y := by
  unfold isWayB at h
  split at h
  · rename_i x y
    refine ⟨x, y, rfl, ?_⟩
    rw [Bool.not_eq_true', Bool.and_eq_false_iff] at h
    simpa using h
  · exact nomatch h
theorem is_ray_ok {C : Nat → Ct} {ds Q} {i4 : Nat} {i7 : Nat} (h4 : C i4 = c_is_way) (h7 : C i7 = cGcd) (h : c_is_ray ds Q) : wpFn C ⟨[false], 1, [
  .ret (.and (.call i4 (.ev (.var 0) .nil)) (.cmp .Eq (.call i7 (.ev (.idx (.var 0) (.cst (.int 0))) (.ev (.idx (.var 0) (.cst (.int 1))) .nil))) (.cst (.int 1))))]⟩ ds Q := by
  unfold c_is_ray at h
  split at h
  · obtain ⟨h0, hQ⟩ := h
    rename_i d
    array_mem_dec
    array_get_dec
    simp only [↓c_is_way_eq]
    refine ⟨h0, ?_⟩
    cases hd : isWayB d with
    | false =>
      have : isRayB d = false := by
        unfold isRayB
        split
        · rename_i x y
          have hd : (!(decide (x = 0) && decide (y = 0))) = false := hd
          rw [hd]; rfl
        · rfl
      rw [this] at hQ
      array_get_dec
    | true =>
      obtain ⟨x, y, rfl, hz⟩ := isWay_iff hd
      have : isRayB (.tuple [.int x, .int y]) = decide (Int.gcd x y = 1) := by
        rw [isRay_wy]
        have hd : (!(decide (x = 0) && decide (y = 0))) = true := hd
        rw [hd, Bool.true_and]
      rw [this] at hQ
      array_get_dec
      have e : ((Int.gcd x y : Int) = 1) ↔ Int.gcd x y = 1 := by omega
      simpa only [e] using hQ
  · exact h.elim
def c_check_way : Ct := fun ds Q => match ds with
  | [.tuple [.int x, .int y]] => Nz x y ∧ Q .none false []
  | _ => False
theorem c_check_way_eq {x y Q} : c_check_way [.tuple [.int x, .int y]] Q = (Nz x y ∧ Q .none false []) := rfl
theorem okIn_wy {x y} : okIn (.tuple [.int x, .int y]) = true := rfl
theorem check_way_ok {C : Nat → Ct} {ds Q} {i4 : Nat} (h4 : C i4 = c_is_way) (h : c_check_way ds Q) : wpFn C ⟨[false], 1, [
  .ife (.not (.val (.call i4 (.ev (.var 0) .nil)))) [.bad] []]⟩ ds Q := by
  unfold c_check_way at h
  split at h
  · obtain ⟨h0, hQ⟩ := h
    have e := isWay_nz h0
    array_mem_dec
    array_get_dec
    simp only [↓c_is_way_eq]
    refine ⟨okIn_wy, ?_⟩
    array_get_dec
  · exact h.elim
def c_check_ray : Ct := fun ds Q => match ds with
  | [.tuple [.int x, .int y]] => Nz x y ∧ Int.gcd x y = 1 ∧ Q .none false []
  | _ => False
theorem c_check_ray_eq {x y Q} : c_check_ray [.tuple [.int x, .int y]] Q = (Nz x y ∧ Int.gcd x y = 1 ∧ Q .none false []) := rfl
theorem isRay_one {x y} (h : Nz x y) (g : Int.gcd x y = 1) : isRayB (.tuple [.int x, .int y]) = true := by
  have e := isWay_nz h
  rw [isWay_wy] at e
  rw [isRay_wy, e, g]; rfl
theorem check_ray_ok {C : Nat → Ct} {ds Q} {i13 : Nat} (h13 : C i13 = c_is_ray) (h : c_check_ray ds Q) : wpFn C ⟨[false], 1, [
  .ife (.not (.val (.call i13 (.ev (.var 0) .nil)))) [.bad] []]⟩ ds Q := by
  unfold c_check_ray at h
  split at h
  · obtain ⟨h0, h1, hQ⟩ := h
    have e := isRay_one h0 h1
    array_mem_dec
    array_get_dec
    simp only [↓c_is_ray_eq]
    refine ⟨okIn_wy, ?_⟩
    array_get_dec
  · exact h.elim
def c_check_ways : Ct := fun ds Q => match ds with
  | [.tuple [.int x, .int y], .tuple [.int z, .int w]] => Nz x y ∧ Nz z w ∧ Q .none false []
  | _ => False
theorem c_check_ways_eq {x y z w Q} : c_check_ways [.tuple [.int x, .int y], .tuple [.int z, .int w]] Q = (Nz x y ∧ Nz z w ∧ Q .none false []) := rfl
theorem check_ways_ok {C : Nat → Ct} {ds Q} {i5 : Nat} (h5 : C i5 = c_check_way) (h : c_check_ways ds Q) : wpFn C ⟨[false, false], 2, [
  .expr (.call i5 (.ev (.var 0) .nil)),
  .expr (.call i5 (.ev (.var 1) .nil))]⟩ ds Q := by
  unfold c_check_ways at h
  split at h
  · obtain ⟨h0, h1, hQ⟩ := h
    array_mem_dec
    array_get_dec
    simp only [↓c_check_way_eq]
    array_get_dec
  · exact h.elim

/-! lowest terms -/
theorem gcd_pos' {x y : Int} (h : Nz x y) : 0 < Int.gcd x y := by
  have := @Int.gcd_eq_zero_iff x y
  omega
theorem gcd_sz {x y : Int} {a b : Nat} (h : Sz x a) (g : Sz y b) (z : Nz x y) : Sz (Int.gcd x y : Nat) (max a b) := ⟨by
  show ((Int.gcd x y : Int)).natAbs < _
  rw [Int.natAbs_natCast]
  rcases z with z | z
  · have h1 := Nat.le_of_dvd (by omega) (Int.gcd_dvd_natAbs_left x y)
    exact Nat.lt_of_le_of_lt h1 (h.mono (Nat.le_max_left a b)).h
  · have h1 := Nat.le_of_dvd (by omega) (Int.gcd_dvd_natAbs_right x y)
    exact Nat.lt_of_le_of_lt h1 (g.mono (Nat.le_max_right a b)).h⟩
/-- two pairs of one direction have one lowest form -/
theorem low_scale {x y : Int} {k : Int} (hk : 0 < k) : lowD (k * x) (k * y) = lowD x y := by
  obtain ⟨n, rfl⟩ := Int.eq_ofNat_of_zero_le (Int.le_of_lt hk)
  have e : Int.gcd (n * x) (n * y) = n * Int.gcd x y := by rw [Int.gcd_mul_left, Int.natAbs_natCast]
  unfold lowD
  rw [e, Int.natCast_mul, Int.mul_ediv_mul_of_pos _ _ hk, Int.mul_ediv_mul_of_pos _ _ hk]
theorem low_eq {x y z w k l : Int} (hk : 0 < k) (hl : 0 < l) (h1 : k * x = l * z) (h2 : k * y = l * w) : lowD x y = lowD z w := by
  rw [← low_scale (x := x) hk, h1, h2, low_scale hl]
theorem low_one {x y : Int} (h : Nz x y) : Int.gcd (x / (Int.gcd x y : Nat)) (y / (Int.gcd x y : Nat)) = 1 := Int.gcd_ediv_gcd_ediv_gcd (gcd_pos' h)
theorem low_nz {x y : Int} (h : Nz x y) : Nz (x / (Int.gcd x y : Nat)) (y / (Int.gcd x y : Nat)) := by
  have h1 := low_one h
  by_cases h2 : x / (Int.gcd x y : Nat) = 0
  · by_cases h3 : y / (Int.gcd x y : Nat) = 0
    · rw [h2, h3] at h1; exact absurd h1 (by decide)
    · exact .inr h3
  · exact .inl h2
theorem low_self {x y : Int} (h : Int.gcd x y = 1) : lowD x y = .tuple [.int x, .int y] := by
  unfold lowD; rw [h]; simp
/-- the parts times the divisor -/
theorem low_mul {x y : Int} : (Int.gcd x y : Int) * (x / (Int.gcd x y : Nat)) = x ∧ (Int.gcd x y : Int) * (y / (Int.gcd x y : Nat)) = y :=
  ⟨Int.mul_ediv_cancel' (Int.gcd_dvd_left x y), Int.mul_ediv_cancel' (Int.gcd_dvd_right x y)⟩
def c_law_low : Ct := fun ds Q => match ds with
  | [.int x, .int y] => Nz x y ∧ Sz x 8000 ∧ Sz y 8000 ∧ Q (lowD x y) false []
  | _ => False
theorem c_law_low_eq {x y Q} : c_law_low [.int x, .int y] Q = (Nz x y ∧ Sz x 8000 ∧ Sz y 8000 ∧ Q (lowD x y) false []) := rfl
def c_raw_lowest : Ct := fun ds Q => match ds with
  | [.tuple [.int x, .int y]] => Nz x y ∧ Sz x 8000 ∧ Sz y 8000 ∧ Q (lowD x y) false []
  | _ => False
theorem c_raw_lowest_eq {x y Q} : c_raw_lowest [.tuple [.int x, .int y]] Q = (Nz x y ∧ Sz x 8000 ∧ Sz y 8000 ∧ Q (lowD x y) false []) := rfl
theorem gcd_div {x y : Int} (z : Nz x y) (h : Sz x 8000) (g : Sz y 8000) (u : Int) : CDivW u (Int.gcd x y : Nat) := by
  have := gcd_sz h g z
  exact Sz.cdiv (y := (Int.gcd x y : Nat)) (by decide +kernel) (by have := gcd_pos' z; omega)
theorem law_low_ok {C : Nat → Ct} {ds Q} {i19 : Nat} (h19 : C i19 = cGcd) (h : c_law_low ds Q) : wpFn C ⟨[false, false], 3, [
  .set 2 (.call i19 (.ev (.var 0) (.ev (.var 1) .nil))),
  .ret (.tup (.cons (.bin .FloorDiv (.var 0) (.var 2)) (.cons (.bin .FloorDiv (.var 1) (.var 2)) .nil)))]⟩ ds Q := by
  unfold c_law_low at h
  split at h
  · obtain ⟨h0, h1, h2, hQ⟩ := h
    have e := gcd_div h0 h1 h2
    array_mem_dec
    array_get_dec
  · exact h.elim
theorem raw_lowest_ok {C : Nat → Ct} {ds Q} {i7 : Nat} (h7 : C i7 = cGcd) (h : c_raw_lowest ds Q) : wpFn C ⟨[false], 2, [
  .set 1 (.call i7 (.ev (.idx (.var 0) (.cst (.int 0))) (.ev (.idx (.var 0) (.cst (.int 1))) .nil))),
  .ret (.tup (.cons (.bin .FloorDiv (.idx (.var 0) (.cst (.int 0))) (.var 1)) (.cons (.bin .FloorDiv (.idx (.var 0) (.cst (.int 1))) (.var 1)) .nil)))]⟩ ds Q := by
  unfold c_raw_lowest at h
  split at h
  · obtain ⟨h0, h1, h2, hQ⟩ := h
    have e := gcd_div h0 h1 h2
    array_mem_dec
    array_get_dec
  · exact h.elim
end G

/-! ### M6: more functions of ways -/
namespace G
open PySem PySem.Spec L2
open PyProof.Rows hiding St
def c_raw_along : Ct := fun ds Q => match ds with
  | [.tuple [.int x, .int y], .tuple [.int z, .int w]] => Sz x 3000 ∧ Sz y 3000 ∧ Sz z 3000 ∧ Sz w 3000 ∧ Q (.int (x * z + y * w)) false []
  | _ => False
theorem c_raw_along_eq {x y z w Q} : c_raw_along [.tuple [.int x, .int y], .tuple [.int z, .int w]] Q = (Sz x 3000 ∧ Sz y 3000 ∧ Sz z 3000 ∧ Sz w 3000 ∧ Q (.int (x * z + y * w)) false []) := rfl
def c_raw_aside : Ct := fun ds Q => match ds with
  | [.tuple [.int x, .int y], .tuple [.int z, .int w]] => Sz x 3000 ∧ Sz y 3000 ∧ Sz z 3000 ∧ Sz w 3000 ∧ Q (.int (z * y - w * x)) false []
  | _ => False
theorem c_raw_aside_eq {x y z w Q} : c_raw_aside [.tuple [.int x, .int y], .tuple [.int z, .int w]] Q = (Sz x 3000 ∧ Sz y 3000 ∧ Sz z 3000 ∧ Sz w 3000 ∧ Q (.int (z * y - w * x)) false []) := rfl
local macro_rules | `(tactic| array_get_dec) => `(tactic| simp only [*, ↓c_is_way_eq, ↓c_is_ray_eq, ↓c_check_way_eq, ↓c_check_ray_eq, ↓c_check_ways_eq, ↓c_law_low_eq, ↓c_raw_lowest_eq, ↓c_raw_along_eq, ↓c_raw_aside_eq, okIn_wy, cpow_10, ↓cDraw_eq, ↓cAny_eq, ↓cGreat_eq, ↓cGcd_eq,
    ↓cLike_eq, Nat.add_zero, true_implies, ↓c_eqP, ↓c_neP, ↓oo_var, ↓oo_cst, ↓oo_con, ↓oo_rev, ↓oo_dic0, ↓oo_tup, ↓oo_lst, ↓oo_bin, ↓oo_neg, ↓oo_cmp, ↓oo_chain, ↓oo_not, ↓oo_and, ↓oo_or, ↓oo_ite, ↓oo_call, ↓oo_blt, ↓oo_isi,
    ↓oo_idx, ↓oo_slc, ↓oo_comp, ↓oo_pop, ↓rt_var, ↓rt_cst, ↓rt_con, ↓rt_rev, ↓rt_dic0, ↓rt_tup, ↓rt_lst, ↓rt_bin, ↓rt_neg, ↓rt_cmp, ↓rt_chain, ↓rt_not, ↓rt_and, ↓rt_or, ↓rt_ite, ↓rt_call, ↓rt_blt, ↓rt_isi, ↓rt_idx, ↓rt_slc,
    ↓rt_comp, ↓rt_pop, ↓rdS_eq, ↓rd_late, ↓rd_val, ↓isL_eq, ↓ag_nil, ↓ag_val, ↓ag_io, ↓puts_nil, ↓puts_cons, ↓tg_nm, ↓tg_tup, ↓tgs_nil, ↓tgs_cons, ↓ex_int, ↓ex_bool, ↓ex_list, ↓ex_int2, ↓item_l, ↓item_t, ↓sx_eq, ↓o_addI,
    ↓o_addS, ↓o_addL, ↓o_addT, ↓o_sub, ↓o_mul, ↓o_mod, ↓o_div, ↓o_pow, ↓o_mulT, ↓o_mulL, ↓c_lt, ↓c_le, ↓c_gt, ↓c_ge, ↓c_eqI, ↓c_neI, ↓c_eqS, ↓c_neS, ↓c_eqL, ↓c_neL, ↓c_in, ↓c_nin, ↓c_inT, ↓c_ninT, ↓c_inS, ↓rv_l, ↓rv_t,
    ↓c_isN, ↓c_isnN, ↓c_isB, ↓c_isnB, ↓bb_lenL, ↓bb_lenT, ↓bb_lenS, ↓bb_int, ↓bb_intB, ↓bb_abs, ↓bb_tupL, ↓bb_tupT, ↓bb_lstL, ↓bb_lstT, ↓bb_allM, ↓bb_rep, ↓t_none, ↓t_bool, ↓t_int, ↓t_list, ↓t_tup, ↓its_l, ↓its_t, ↓sl_l,
    ↓sl_t, ↓sl_s, ↓forB_eq, ↓w_con, ↓w_rev, ↓w_wpE_0, ↓w_wpE_2, ↓w_wpE_3, ↓w_wpE_4, ↓w_wpE_5, ↓w_wpE_6, ↓w_wpE_7, ↓w_wpE_8, ↓w_wpE_9, ↓w_wpE_10, ↓w_wpE_11, ↓w_wpE_12, ↓w_wpE_13, ↓w_wpE_14, ↓w_wpE_15, ↓w_wpE_16, ↓w_wpE_17,
    ↓w_wpE_18, ↓w_wpE_19, ↓w_wpE_20, ↓w_wpT_0, ↓w_wpT_1, ↓w_wpT_2, ↓w_wpT_3, ↓w_wpT_4, ↓w_wpP_0, ↓w_wpP_1, ↓w_wpC_0, ↓w_wpC_1, ↓w_wpEs_0, ↓w_wpEs_1, ↓w_wpVs_0, ↓w_wpVs_1, ↓w_wpAs_0, ↓w_wpAs_1, ↓w_wpAs_2, ↓w_wpIt_0,
    ↓w_wpIt_1, ↓w_wpIt_2, ↓w_wpIt_3, ↓w_wpS_1, ↓w_wpS_2, ↓w_wpS_3, ↓w_wpS_4, ↓w_wpS_5, ↓w_wpS_6, ↓w_wpS_7, ↓w_wpS_8, ↓w_wpS_9, ↓w_wpS_10, ↓w_wpS_11, ↓w_wpS_12, ↓w_wpS_13, ↓w_wpSs_0, ↓w_wpSs_1, rtO_own, rtO_sh, rtO_lock,
    rdO_own, rdO_sh, rdO_lock, isO_own, agO_own, fin_nil, fin_t, fin_f, put_t, put_f, ous_nil, ous_nil, ous_cons, ios_nil, ios_io, ios_val, itO_some, atI_0, atI_1, atI_2, atI_3, atI_4, atI_5, sxO_some, ixN_0, ixN_1, ixN_2,
    ixN_3, ixN_4, get_0, sett_0, get_1, sett_1, get_2, sett_2, get_3, sett_3, get_4, sett_4, get_5, sett_5, get_6, sett_6, get_7, sett_7, get_8, sett_8, get_9, sett_9, get_10, sett_10, get_11, sett_11, get_12, sett_12,
    get_13, sett_13, get_14, sett_14, get_15, sett_15, get_16, sett_16, get_17, sett_17, get_18, sett_18, get_19, sett_19, get_20, sett_20, get_21, sett_21, get_22, sett_22, get_23, sett_23, shr_own, shr_lock, shr_sh,
    shr_un, share_eq, getD_s, cn_none, cn_bool, cn_int, cn_str, natD_eq, ty_int_none, ty_int_bool, ty_int_int, ty_int_str, ty_int_list, ty_int_tuple, ty_int_dict, ty_bool_none, ty_bool_bool, ty_bool_int, ty_bool_str,
    ty_bool_list, ty_bool_tuple, ty_bool_dict, ty_str_none, ty_str_bool, ty_str_int, ty_str_str, ty_str_list, ty_str_tuple, ty_str_dict, ty_tuple_none, ty_tuple_bool, ty_tuple_int, ty_tuple_str, ty_tuple_list,
    ty_tuple_tuple, ty_tuple_dict, ty_list_none, ty_list_bool, ty_list_int, ty_list_str, ty_list_list, ty_list_tuple, ty_list_dict, ty_dict_none, ty_dict_bool, ty_dict_int, ty_dict_str, ty_dict_list, ty_dict_tuple,
    ty_dict_dict, free_eq, fsO_some, freeB_un, freeB_sh, lockE, lockB, unlockE, restore, wipeE, List.length_cons, List.length_nil, Nat.zero_add, Nat.reduceAdd, ↓reduceIte, Bool.false_eq_true, true_and, and_true,
    Bool.not_true, Bool.not_false, decide_eq_true_eq, Bool.not_eq_true', decide_eq_false_iff_not, bne_iff_ne, sizeLine, Nat.reducePow, Nat.reduceLeDiff, Nat.reduceLT, List.nodup_cons, List.nodup_nil, List.not_mem_nil,
    not_false_eq_true, Int.natCast_add, List.length_map, Int.reduceToNat, Int.reducePow, Int.cast_ofNat_Int, Int.reduceLT, Int.reduceLE, Int.reduceEq, Int.reduceNe, Int.reduceMod, Int.reduceDiv, Int.reduceMul, Int.reduceAdd,
    Int.reduceSub, Int.reduceNeg, List.set_cons_zero, List.set_cons_succ, List.getElem?_cons_zero, List.getElem?_cons_succ, Bool.true_eq_false, okTy_i, okTy_t, okTy_l, okTy_s, okTy_b, okTy_n, okTy_d, decide_true,
    decide_false, Bool.and_true, Bool.true_and, Bool.false_and, Bool.and_false, Bool.and_eq_true, Nat.add_zero, true_implies, List.length_append, List.all_cons, List.all_nil, id_eq])
local macro_rules | `(tactic| array_mem_dec) => `(tactic| simp only [wpFn, startE, envA, List.length_cons, List.length_nil, Nat.reduceAdd, Nat.reduceSub, List.reduceReplicate, List.cons_append, List.nil_append, List.append_nil, true_and])
local macro_rules | `(tactic| sizeOf_list_dec) => `(tactic| repeat' (first | trivial | assumption | with_reducible apply And.intro | exact Sz.cmul (by decide +kernel) | exact Sz.cdiv (by decide +kernel) (by omega) | (show CPow _ _; exact ⟨by decide, by decide, by decide⟩) | omega))

theorem raw_along_ok {C : Nat → Ct} {ds Q} (h : c_raw_along ds Q) : wpFn C ⟨[false, false], 2, [
  .ret (.bin .Add (.bin .Mult (.idx (.var 0) (.cst (.int 0))) (.idx (.var 1) (.cst (.int 0)))) (.bin .Mult (.idx (.var 0) (.cst (.int 1))) (.idx (.var 1) (.cst (.int 1)))))]⟩ ds Q := by
  unfold c_raw_along at h
  split at h
  · obtain ⟨h1, h2, h3, h4, hQ⟩ := h
    array_mem_dec
    array_get_dec
    sizeOf_list_dec
  · exact h.elim
theorem raw_aside_ok {C : Nat → Ct} {ds Q} (h : c_raw_aside ds Q) : wpFn C ⟨[false, false], 2, [
  .ret (.bin .Sub (.bin .Mult (.idx (.var 1) (.cst (.int 0))) (.idx (.var 0) (.cst (.int 1)))) (.bin .Mult (.idx (.var 1) (.cst (.int 1))) (.idx (.var 0) (.cst (.int 0)))))]⟩ ds Q := by
  unfold c_raw_aside at h
  split at h
  · obtain ⟨h1, h2, h3, h4, hQ⟩ := h
    array_mem_dec
    array_get_dec
    sizeOf_list_dec
  · exact h.elim
theorem sq_pos {x y : Int} (h : Nz x y) : 0 < x * x + y * y := by
  have h1 : 0 ≤ x * x := by have := Int.natAbs_mul_self (a := x); omega
  have h2 : 0 ≤ y * y := by have := Int.natAbs_mul_self (a := y); omega
  rcases h with h | h
  · have := Int.mul_ne_zero h h; omega
  · have := Int.mul_ne_zero h h; omega
theorem sight_nz {x y z w : Int} (h : Nz x y) (g : Nz z w) : Nz (x * z + y * w) (z * y - w * x) := by
  by_cases h1 : x * z + y * w = 0
  · by_cases h2 : z * y - w * x = 0
    · have e : (x * z + y * w) * (x * z + y * w) + (z * y - w * x) * (z * y - w * x) = (x * x + y * y) * (z * z + w * w) := by grind
      rw [h1, h2] at e
      have := Int.mul_pos (sq_pos h) (sq_pos g)
      omega
    · exact .inr h2
  · exact .inl h1
theorem led_nz {x y z w : Int} (h : Nz x y) (g : Nz z w) : Nz (z * x + w * y) (z * y - w * x) := by
  have := sight_nz h g
  rwa [Int.mul_comm x z, Int.mul_comm y w] at this
def c_raw_sight : Ct := fun ds Q => match ds with
  | [.tuple [.int x, .int y], .tuple [.int z, .int w]] => Nz x y ∧ Nz z w ∧ Sz x 3000 ∧ Sz y 3000 ∧ Sz z 3000 ∧ Sz w 3000 ∧ Q (lowD (x * z + y * w) (z * y - w * x)) false []
  | _ => False
theorem c_raw_sight_eq {x y z w Q} : c_raw_sight [.tuple [.int x, .int y], .tuple [.int z, .int w]] Q = (Nz x y ∧ Nz z w ∧ Sz x 3000 ∧ Sz y 3000 ∧ Sz z 3000 ∧ Sz w 3000 ∧ Q (lowD (x * z + y * w) (z * y - w * x)) false []) := rfl
theorem raw_sight_ok {C : Nat → Ct} {ds Q} {i8 : Nat} {i9 : Nat} {i10 : Nat} (h8 : C i8 = c_raw_lowest) (h9 : C i9 = c_raw_along) (h10 : C i10 = c_raw_aside) (h : c_raw_sight ds Q) : wpFn C ⟨[false, false], 2, [
  .ret (.call i8 (.ev (.tup (.cons (.call i9 (.ev (.var 0) (.ev (.var 1) .nil))) (.cons (.call i10 (.ev (.var 0) (.ev (.var 1) .nil))) .nil))) .nil))]⟩ ds Q := by
  unfold c_raw_sight at h
  split at h
  · obtain ⟨n1, n2, h1, h2, h3, h4, hQ⟩ := h
    have e := sight_nz n1 n2
    array_mem_dec
    array_get_dec
    exact ⟨Sz.le (by decide +kernel), Sz.le (by decide +kernel)⟩
  · exact h.elim
def c_raw_led : Ct := fun ds Q => match ds with
  | [.tuple [.int x, .int y], .tuple [.int z, .int w]] => Nz x y ∧ Nz z w ∧ Sz x 3000 ∧ Sz y 3000 ∧ Sz z 3000 ∧ Sz w 3000 ∧ Q (lowD (z * x + w * y) (z * y - w * x)) false []
  | _ => False
theorem c_raw_led_eq {x y z w Q} : c_raw_led [.tuple [.int x, .int y], .tuple [.int z, .int w]] Q = (Nz x y ∧ Nz z w ∧ Sz x 3000 ∧ Sz y 3000 ∧ Sz z 3000 ∧ Sz w 3000 ∧ Q (lowD (z * x + w * y) (z * y - w * x)) false []) := rfl
theorem raw_led_ok {C : Nat → Ct} {ds Q} {i8 : Nat} (h8 : C i8 = c_raw_lowest) (h : c_raw_led ds Q) : wpFn C ⟨[false, false], 2, [
  .ret (.call i8 (.ev (.tup (.cons (.bin .Add (.bin .Mult (.idx (.var 1) (.cst (.int 0))) (.idx (.var 0) (.cst (.int 0)))) (.bin .Mult (.idx (.var 1) (.cst (.int 1))) (.idx (.var 0) (.cst (.int 1))))) (.cons (.bin .Sub (.bin .Mult (.idx (.var 1) (.cst (.int 0))) (.idx (.var 0) (.cst (.int 1)))) (.bin .Mult (.idx (.var 1) (.cst (.int 1))) (.idx (.var 0) (.cst (.int 0))))) .nil))) .nil))]⟩ ds Q := by
  unfold c_raw_led at h
  split at h
  · obtain ⟨n1, n2, h1, h2, h3, h4, hQ⟩ := h
    have e := led_nz n1 n2
    array_mem_dec
    array_get_dec
    sizeOf_list_dec
    · exact Sz.le (by decide +kernel)
    · exact Sz.le (by decide +kernel)
  · exact h.elim
def c_sight := c_raw_sight
theorem c_sight_eq {x y z w Q} : c_sight [.tuple [.int x, .int y], .tuple [.int z, .int w]] Q = (Nz x y ∧ Nz z w ∧ Sz x 3000 ∧ Sz y 3000 ∧ Sz z 3000 ∧ Sz w 3000 ∧ Q (lowD (x * z + y * w) (z * y - w * x)) false []) := rfl
theorem sight_ok {C : Nat → Ct} {ds Q} {i6 : Nat} {i11 : Nat} (h6 : C i6 = c_check_ways) (h11 : C i11 = c_raw_sight) (h : c_sight ds Q) : wpFn C ⟨[false, false], 2, [
  .expr (.call i6 (.ev (.var 0) (.ev (.var 1) .nil))),
  .ret (.call i11 (.ev (.var 0) (.ev (.var 1) .nil)))]⟩ ds Q := by
  unfold c_sight c_raw_sight at h
  split at h
  · obtain ⟨n1, n2, h1, h2, h3, h4, hQ⟩ := h
    array_mem_dec
    array_get_dec
    simp only [↓c_raw_sight_eq, *, true_and]
  · exact h.elim
def c_led : Ct := fun ds Q => match ds with
  | [.tuple [.int x, .int y], .tuple [.int z, .int w]] => Nz x y ∧ Nz z w ∧ Int.gcd z w = 1 ∧ Sz x 3000 ∧ Sz y 3000 ∧ Sz z 3000 ∧ Sz w 3000 ∧ Q (lowD (z * x + w * y) (z * y - w * x)) false []
  | _ => False
theorem c_led_eq {x y z w Q} : c_led [.tuple [.int x, .int y], .tuple [.int z, .int w]] Q = (Nz x y ∧ Nz z w ∧ Int.gcd z w = 1 ∧ Sz x 3000 ∧ Sz y 3000 ∧ Sz z 3000 ∧ Sz w 3000 ∧ Q (lowD (z * x + w * y) (z * y - w * x)) false []) := rfl
theorem led_ok {C : Nat → Ct} {ds Q} {i5 : Nat} {i14 : Nat} {i15 : Nat} (h5 : C i5 = c_check_way) (h14 : C i14 = c_check_ray) (h15 : C i15 = c_raw_led) (h : c_led ds Q) : wpFn C ⟨[false, false], 2, [
  .expr (.call i5 (.ev (.var 0) .nil)),
  .expr (.call i14 (.ev (.var 1) .nil)),
  .ret (.call i15 (.ev (.var 0) (.ev (.var 1) .nil)))]⟩ ds Q := by
  unfold c_led at h
  split at h
  · obtain ⟨n1, n2, n3, h1, h2, h3, h4, hQ⟩ := h
    array_mem_dec
    array_get_dec
    simp only [↓c_raw_led_eq, *, true_and]
  · exact h.elim
def c_lowest := c_raw_lowest
theorem c_lowest_eq {x y Q} : c_lowest [.tuple [.int x, .int y]] Q = (Nz x y ∧ Sz x 8000 ∧ Sz y 8000 ∧ Q (lowD x y) false []) := rfl
theorem lowest_ok {C : Nat → Ct} {ds Q} {i5 : Nat} {i8 : Nat} (h5 : C i5 = c_check_way) (h8 : C i8 = c_raw_lowest) (h : c_lowest ds Q) : wpFn C ⟨[false], 1, [
  .expr (.call i5 (.ev (.var 0) .nil)),
  .ret (.call i8 (.ev (.var 0) .nil))]⟩ ds Q := by
  unfold c_lowest c_raw_lowest at h
  split at h
  · obtain ⟨n1, h1, h2, hQ⟩ := h
    array_mem_dec
    array_get_dec
  · exact h.elim
def c_along : Ct := fun ds Q => match ds with
  | [.tuple [.int x, .int y], .tuple [.int z, .int w]] => Nz x y ∧ Nz z w ∧ Sz x 3000 ∧ Sz y 3000 ∧ Sz z 3000 ∧ Sz w 3000 ∧ Q (.int (x * z + y * w)) false []
  | _ => False
theorem c_along_eq {x y z w Q} : c_along [.tuple [.int x, .int y], .tuple [.int z, .int w]] Q = (Nz x y ∧ Nz z w ∧ Sz x 3000 ∧ Sz y 3000 ∧ Sz z 3000 ∧ Sz w 3000 ∧ Q (.int (x * z + y * w)) false []) := rfl
def c_aside : Ct := fun ds Q => match ds with
  | [.tuple [.int x, .int y], .tuple [.int z, .int w]] => Nz x y ∧ Nz z w ∧ Sz x 3000 ∧ Sz y 3000 ∧ Sz z 3000 ∧ Sz w 3000 ∧ Q (.int (z * y - w * x)) false []
  | _ => False
theorem c_aside_eq {x y z w Q} : c_aside [.tuple [.int x, .int y], .tuple [.int z, .int w]] Q = (Nz x y ∧ Nz z w ∧ Sz x 3000 ∧ Sz y 3000 ∧ Sz z 3000 ∧ Sz w 3000 ∧ Q (.int (z * y - w * x)) false []) := rfl
theorem along_ok {C : Nat → Ct} {ds Q} {i6 : Nat} {i9 : Nat} (h6 : C i6 = c_check_ways) (h9 : C i9 = c_raw_along) (h : c_along ds Q) : wpFn C ⟨[false, false], 2, [
  .expr (.call i6 (.ev (.var 0) (.ev (.var 1) .nil))),
  .ret (.call i9 (.ev (.var 0) (.ev (.var 1) .nil)))]⟩ ds Q := by
  unfold c_along at h
  split at h
  · obtain ⟨n1, n2, h1, h2, h3, h4, hQ⟩ := h
    array_mem_dec
    array_get_dec
  · exact h.elim
theorem aside_ok {C : Nat → Ct} {ds Q} {i6 : Nat} {i10 : Nat} (h6 : C i6 = c_check_ways) (h10 : C i10 = c_raw_aside) (h : c_aside ds Q) : wpFn C ⟨[false, false], 2, [
  .expr (.call i6 (.ev (.var 0) (.ev (.var 1) .nil))),
  .ret (.call i10 (.ev (.var 0) (.ev (.var 1) .nil)))]⟩ ds Q := by
  unfold c_aside at h
  split at h
  · obtain ⟨n1, n2, h1, h2, h3, h4, hQ⟩ := h
    array_mem_dec
    array_get_dec
  · exact h.elim
def c_right_of : Ct := fun ds Q => match ds with
  | [.tuple [.int x, .int y]] => Nz x y ∧ Q (.tuple [.int y, .int (-x)]) false []
  | _ => False
theorem c_right_of_eq {x y Q} : c_right_of [.tuple [.int x, .int y]] Q = (Nz x y ∧ Q (.tuple [.int y, .int (-x)]) false []) := rfl
def c_opposite : Ct := fun ds Q => match ds with
  | [.tuple [.int x, .int y]] => Nz x y ∧ Q (.tuple [.int (-x), .int (-y)]) false []
  | _ => False
theorem c_opposite_eq {x y Q} : c_opposite [.tuple [.int x, .int y]] Q = (Nz x y ∧ Q (.tuple [.int (-x), .int (-y)]) false []) := rfl
theorem right_of_ok {C : Nat → Ct} {ds Q} {i5 : Nat} (h5 : C i5 = c_check_way) (h : c_right_of ds Q) : wpFn C ⟨[false], 1, [
  .expr (.call i5 (.ev (.var 0) .nil)),
  .ret (.tup (.cons (.idx (.var 0) (.cst (.int 1))) (.cons (.neg (.idx (.var 0) (.cst (.int 0)))) .nil)))]⟩ ds Q := by
  unfold c_right_of at h
  split at h
  · obtain ⟨n1, hQ⟩ := h
    array_mem_dec
    array_get_dec
  · exact h.elim
theorem opposite_ok {C : Nat → Ct} {ds Q} {i5 : Nat} (h5 : C i5 = c_check_way) (h : c_opposite ds Q) : wpFn C ⟨[false], 1, [
  .expr (.call i5 (.ev (.var 0) .nil)),
  .ret (.tup (.cons (.neg (.idx (.var 0) (.cst (.int 0)))) (.cons (.neg (.idx (.var 0) (.cst (.int 1)))) .nil)))]⟩ ds Q := by
  unfold c_opposite at h
  split at h
  · obtain ⟨n1, hQ⟩ := h
    array_mem_dec
    array_get_dec
  · exact h.elim
/-- the hand of a script -/
def c_law_hand : Ct := fun ds Q => ∃ ns : List Int, ds = [scrD (ns.map .int)] ∧ ∀ h, Hand 0 h → Q h true []
theorem forD_inv {tg : D → En → (En → Prop) → Prop} {b : En → En4 → Prop} {xs : List D} {env : En} {d : En4} (I : List D → En → Prop) (h0 : I xs env)
    (hs : ∀ x xs env, I (x :: xs) env → ∀ K : En → Prop, (∀ e, I xs e → K e) → tg x env fun e => b e { d with nx := fun e => K e, ct := fun e => K e, bk := d.nx })
    (he : ∀ env, I [] env → d.nx env) : forD tg b xs env d := by
  induction xs generalizing env with
  | nil => exact he env h0
  | cons x xs ih => exact hs x xs env h0 _ fun e h => ih h
theorem compD_inv {vs : List Nat} {tg : D → En → (En → Prop) → Prop} {cond : En → (Bool → En → Prop) → Prop} {elt : En → (D → Bool → En → Prop) → Prop} {k : List D → En → Prop} {xs acc : List D} {env : En}
    (I : List D → List D → En → Prop) (h0 : I xs acc env)
    (hs : ∀ x xs acc env, I (x :: xs) acc env → ∀ K : List D → En → Prop, (∀ a e, I xs a e → K a e) → (vs.all fun v => freeS env v) = true ∧ tg x (wipeE env vs) fun e1 => cond e1 fun b e2 =>
      if b = true then elt e2 fun y _ e3 => K (acc ++ [y]) e3 else K acc e2)
    (he : ∀ acc env, I [] acc env → (vs.all fun v => freeS env v) = true ∧ k acc env) : compD vs tg cond elt xs acc env k := by
  induction xs generalizing env acc with
  | nil => exact he acc env h0
  | cons x xs ih => exact hs x xs acc env h0 (fun a e => compD vs tg cond elt xs a e k) fun a e h => ih h
/-- each item gives one -/
theorem comp_map {vs : List Nat} {tg : D → En → (En → Prop) → Prop} {cond : En → (Bool → En → Prop) → Prop} {elt : En → (D → Bool → En → Prop) → Prop} {k : List D → En → Prop} {xs : List D} {env : En}
    (f : D → D) (J : En → Prop) (h0 : J env)
    (hs : ∀ x, x ∈ xs → ∀ env, J env → ∀ K : D → En → Prop, (∀ e, J e → K (f x) e) → (vs.all fun v => freeS env v) = true ∧ tg x (wipeE env vs) fun e1 => cond e1 fun b e2 =>
      if b = true then elt e2 fun y _ e3 => K y e3 else False)
    (he : ∀ env, J env → (vs.all fun v => freeS env v) = true ∧ k (xs.map f) env) (hc : ∀ e K, cond e K = K true e) : compD vs tg cond elt xs [] env k := by
  refine compD_inv (fun ys acc e => J e ∧ ∃ zs, xs = zs ++ ys ∧ acc = zs.map f) ⟨h0, [], rfl, rfl⟩ ?_ ?_
  · rintro x ys acc e ⟨hJ, zs, rfl, rfl⟩ K hK
    have h := hs x (by simp) e hJ (fun y e => K (zs.map f ++ [y]) e) fun e' hJ' => hK _ _ ⟨hJ', zs ++ [x], by simp, by simp⟩
    refine ⟨h.1, ?_⟩
    have h2 := h.2
    simp only [hc, if_true] at h2 ⊢
    exact h2
  · rintro acc e ⟨hJ, zs, e1, rfl⟩
    rw [List.append_nil] at e1
    subst e1
    exact he e hJ
theorem cut_to {xs : List D} {n : Nat} : cutD xs none (some (n : Int)) = xs.take n := by
  unfold cutD
  rw [HT.sIx_none, HT.sIx_nat, List.drop_zero, Nat.sub_zero]
  by_cases h : n ≤ xs.length
  · rw [Nat.min_eq_left h]
  · rw [Nat.min_eq_right (by omega), List.take_length, List.take_of_length_le (by omega)]
theorem law_hand_ok {C : Nat → Ct} {ds Q} {sd : Int} (hs0 : 0 ≤ sd) (hs1 : sd < 2000000000) (h : c_law_hand ds Q) : wpFn C ⟨[false], 3, [
  .set 1 (.comp [2] (.bin .Mod (.blt .int (.blt .abs (.blt .int (.var 2)))) (.bin .Pow (.cst (.int 10)) (.cst (.int 36)))) (.nm 2) (.of (.slc (.var 0) .no (.yes (.cst (.int 60))))) .no),
  .ret (.lst (.cons (.var 1) (.cons (.cst (.int 0)) (.cons (.cst (.int 0)) (.cons (.bin .Add (.cst (.int sd)) (.bin .Mult (.cst (.int 31)) (.blt .len (.var 1)))) (.cons (.cst (.int 0)) .nil))))))]⟩ ds Q := by
  obtain ⟨ns, rfl, hQ⟩ := h
  have cut : cutD (ns.map PyData.int) none (some 60) = (ns.take 60).map .int := by
    rw [List.map_take]; exact cut_to (n := 60)
  have hl : (ns.take 60).length ≤ 60 := by rw [List.length_take]; omega
  have hl2 : (ns.take 60).length ≤ 16777216 := by omega
  array_mem_dec
  array_get_dec
  refine comp_map (fun d => match d with | .int x => .int ((x.natAbs : Int) % 10 ^ 36) | d => d) (fun e => ∃ s, e = [.sh (scrD (ns.map .int)), .un, s] ∧ (s = .un ∨ ∃ d, s = .sh d)) ⟨_, rfl, .inl rfl⟩ ?_ ?_ fun _ _ => rfl
  · rintro x hx e ⟨s, rfl, hs⟩ K hK
    rw [List.mem_map] at hx
    obtain ⟨y, hy, rfl⟩ := hx
    refine ⟨by rcases hs with rfl | ⟨d, rfl⟩ <;> rfl, ?_⟩
    have := hK [.sh (scrD (ns.map .int)), .un, .sh (.int y)] ⟨_, rfl, .inr ⟨_, rfl⟩⟩
    array_get_dec
    sizeOf_list_dec
  · rintro e ⟨s, rfl, hs⟩
    refine ⟨by rcases hs with rfl | ⟨d, rfl⟩ <;> rfl, ?_⟩
    have g := hQ (hand0 sd ((ns.take 60).map fun x => (x.natAbs : Int) % 10 ^ 36)) (Hand.start hs0 hs1 (fun x hx => by
      rw [List.mem_map] at hx
      obtain ⟨y, hy, rfl⟩ := hx
      exact ⟨Int.emod_nonneg _ (by decide), Int.emod_lt_of_pos _ (by decide)⟩) (by rw [List.length_map]; exact hl))
    unfold hand0 at g
    simp only [List.map_map, List.length_map, Function.comp_def] at g ⊢
    have : CMulW 31 (ns.take 60).length := Sz.cmul (h := ⟨by decide⟩) (b := 6) (a := 5) (g := .of (by omega) (by omega)) (by decide)
    array_get_dec
    exact g
end G

/-! ### M7: rays -/
namespace G
open PySem PySem.Spec L2
open PyProof.Rows hiding St
/-- the half of the round in which a way lies -/
def half (x y : Int) : Int := if 0 < y ∨ (y = 0 ∧ 0 < x) then 0 else 1
def firstB (a b c d : Int) : Bool := if half a b = half c d then decide (0 < a * d - b * c) else decide (half a b < half c d)
def c_raw_half : Ct := fun ds Q => match ds with
  | [.tuple [.int x, .int y]] => Q (.int (half x y)) false []
  | _ => False
theorem c_raw_half_eq {x y Q} : c_raw_half [.tuple [.int x, .int y]] Q = Q (.int (half x y)) false [] := rfl
def c_law_half : Ct := c_raw_half
theorem c_law_half_eq {x y Q} : c_law_half [.tuple [.int x, .int y]] Q = Q (.int (half x y)) false [] := rfl
def c_raw_first : Ct := fun ds Q => match ds with
  | [.tuple [.int a, .int b], .tuple [.int c, .int d]] => Sz a 3000 ∧ Sz b 3000 ∧ Sz c 3000 ∧ Sz d 3000 ∧ Q (.bool (firstB a b c d)) false []
  | _ => False
theorem c_raw_first_eq {a b c d Q} : c_raw_first [.tuple [.int a, .int b], .tuple [.int c, .int d]] Q = (Sz a 3000 ∧ Sz b 3000 ∧ Sz c 3000 ∧ Sz d 3000 ∧ Q (.bool (firstB a b c d)) false []) := rfl
def c_law_is_first : Ct := c_raw_first
theorem c_law_is_first_eq {a b c d Q} : c_law_is_first [.tuple [.int a, .int b], .tuple [.int c, .int d]] Q = (Sz a 3000 ∧ Sz b 3000 ∧ Sz c 3000 ∧ Sz d 3000 ∧ Q (.bool (firstB a b c d)) false []) := rfl
def c_raw_turned : Ct := fun ds Q => match ds with
  | [.tuple [.int a, .int b], .tuple [.int c, .int d]] => Nz a b ∧ Nz c d ∧ Sz a 3000 ∧ Sz b 3000 ∧ Sz c 3000 ∧ Sz d 3000 ∧ Q (lowD (a * c - b * d) (a * d + b * c)) false []
  | _ => False
theorem c_raw_turned_eq {a b c d Q} : c_raw_turned [.tuple [.int a, .int b], .tuple [.int c, .int d]] Q = (Nz a b ∧ Nz c d ∧ Sz a 3000 ∧ Sz b 3000 ∧ Sz c 3000 ∧ Sz d 3000 ∧ Q (lowD (a * c - b * d) (a * d + b * c)) false []) := rfl
def c_law_product : Ct := c_raw_turned
theorem c_law_product_eq {a b c d Q} : c_law_product [.tuple [.int a, .int b], .tuple [.int c, .int d]] Q = (Nz a b ∧ Nz c d ∧ Sz a 3000 ∧ Sz b 3000 ∧ Sz c 3000 ∧ Sz d 3000 ∧ Q (lowD (a * c - b * d) (a * d + b * c)) false []) := rfl
def c_check_rays : Ct := fun ds Q => match ds with
  | [.tuple [.int x, .int y], .tuple [.int z, .int w]] => Nz x y ∧ Int.gcd x y = 1 ∧ Nz z w ∧ Int.gcd z w = 1 ∧ Q .none false []
  | _ => False
theorem c_check_rays_eq {x y z w Q} : c_check_rays [.tuple [.int x, .int y], .tuple [.int z, .int w]] Q = (Nz x y ∧ Int.gcd x y = 1 ∧ Nz z w ∧ Int.gcd z w = 1 ∧ Q .none false []) := rfl
def c_raw_mirrored : Ct := fun ds Q => match ds with
  | [.tuple [.int x, .int y]] => Q (.tuple [.int x, .int (-y)]) false []
  | _ => False
theorem c_raw_mirrored_eq {x y Q} : c_raw_mirrored [.tuple [.int x, .int y]] Q = Q (.tuple [.int x, .int (-y)]) false [] := rfl
def c_mirrored : Ct := fun ds Q => match ds with
  | [.tuple [.int x, .int y]] => Nz x y ∧ Int.gcd x y = 1 ∧ Q (.tuple [.int x, .int (-y)]) false []
  | _ => False
theorem c_mirrored_eq {x y Q} : c_mirrored [.tuple [.int x, .int y]] Q = (Nz x y ∧ Int.gcd x y = 1 ∧ Q (.tuple [.int x, .int (-y)]) false []) := rfl
def c_is_within : Ct := fun ds Q => match ds with
  | [.int n, .int a, .int b] => Q (.bool (decide (a ≤ n) && decide (n ≤ b))) false []
  | _ => False
theorem c_is_within_eq {n a b Q} : c_is_within [.int n, .int a, .int b] Q = Q (.bool (decide (a ≤ n) && decide (n ≤ b))) false [] := rfl
def c_check_number : Ct := fun ds Q => match ds with
  | [.int n, .int a, .int b] => a ≤ n ∧ n ≤ b ∧ Q .none false []
  | _ => False
theorem c_check_number_eq {n a b Q} : c_check_number [.int n, .int a, .int b] Q = (a ≤ n ∧ n ≤ b ∧ Q .none false []) := rfl
theorem turn_nz {x y z w : Int} (h : Nz x y) (g : Nz z w) : Nz (x * z - y * w) (x * w + y * z) := by
  have := sight_nz (x := x) (y := -y) (z := z) (w := w) (h.imp id fun h => by omega) g
  refine this.imp (fun h => ?_) fun h => ?_
  · rw [show x * z - y * w = x * z + -y * w by grind]; exact h
  · intro e; apply h; rw [show z * -y - w * x = -(x * w + y * z) by grind, e]; rfl
local macro_rules | `(tactic| array_get_dec) => `(tactic| simp only [*, ↓c_raw_turned_eq, ↓c_law_product_eq, ↓c_raw_half_eq, ↓c_law_half_eq, ↓c_raw_first_eq, ↓c_law_is_first_eq, ↓c_check_rays_eq, ↓c_raw_mirrored_eq, ↓c_mirrored_eq, ↓c_is_within_eq, ↓c_check_number_eq, ↓c_is_sized_eq,
    ↓c_is_integer_eq, ↓c_is_pair_eq, ↓c_raw_sight_eq, ↓c_sight_eq, ↓c_raw_led_eq, ↓c_led_eq, ↓c_lowest_eq, ↓c_along_eq, ↓c_aside_eq, ↓c_right_of_eq, ↓c_opposite_eq, ↓cWay_eq, ↓c_is_way_eq, ↓c_is_ray_eq, ↓c_check_way_eq,
    ↓c_check_ray_eq, ↓c_check_ways_eq, ↓c_law_low_eq, ↓c_raw_lowest_eq, ↓c_raw_along_eq, ↓c_raw_aside_eq, okIn_wy, cpow_10, ↓cDraw_eq, ↓cAny_eq, ↓cGreat_eq, ↓cGcd_eq, ↓cLike_eq, Nat.add_zero, true_implies, ↓c_eqP, ↓c_neP,
    ↓oo_var, ↓oo_cst, ↓oo_con, ↓oo_rev, ↓oo_dic0, ↓oo_tup, ↓oo_lst, ↓oo_bin, ↓oo_neg, ↓oo_cmp, ↓oo_chain, ↓oo_not, ↓oo_and, ↓oo_or, ↓oo_ite, ↓oo_call, ↓oo_blt, ↓oo_isi, ↓oo_idx, ↓oo_slc, ↓oo_comp, ↓oo_pop, ↓rt_var, ↓rt_cst,
    ↓rt_con, ↓rt_rev, ↓rt_dic0, ↓rt_tup, ↓rt_lst, ↓rt_bin, ↓rt_neg, ↓rt_cmp, ↓rt_chain, ↓rt_not, ↓rt_and, ↓rt_or, ↓rt_ite, ↓rt_call, ↓rt_blt, ↓rt_isi, ↓rt_idx, ↓rt_slc, ↓rt_comp, ↓rt_pop, ↓rdS_eq, ↓rd_late, ↓rd_val, ↓isL_eq,
    ↓ag_nil, ↓ag_val, ↓ag_io, ↓puts_nil, ↓puts_cons, ↓tg_nm, ↓tg_tup, ↓tgs_nil, ↓tgs_cons, ↓ex_int, ↓ex_bool, ↓ex_list, ↓ex_int2, ↓item_l, ↓item_t, ↓sx_eq, ↓o_addI, ↓o_addS, ↓o_addL, ↓o_addT, ↓o_sub, ↓o_mul, ↓o_mod, ↓o_div,
    ↓o_pow, ↓o_mulT, ↓o_mulL, ↓c_lt, ↓c_le, ↓c_gt, ↓c_ge, ↓c_eqI, ↓c_neI, ↓c_eqS, ↓c_neS, ↓c_eqL, ↓c_neL, ↓c_in, ↓c_nin, ↓c_inT, ↓c_ninT, ↓c_inS, ↓rv_l, ↓rv_t, ↓c_isN, ↓c_isnN, ↓c_isB, ↓c_isnB, ↓bb_lenL, ↓bb_lenT, ↓bb_lenS,
    ↓bb_int, ↓bb_intB, ↓bb_abs, ↓bb_tupL, ↓bb_tupT, ↓bb_lstL, ↓bb_lstT, ↓bb_allM, ↓bb_rep, ↓t_none, ↓t_bool, ↓t_int, ↓t_list, ↓t_tup, ↓its_l, ↓its_t, ↓sl_l, ↓sl_t, ↓sl_s, ↓forB_eq, ↓w_con, ↓w_rev, ↓w_wpE_0, ↓w_wpE_2,
    ↓w_wpE_3, ↓w_wpE_4, ↓w_wpE_5, ↓w_wpE_6, ↓w_wpE_7, ↓w_wpE_8, ↓w_wpE_9, ↓w_wpE_10, ↓w_wpE_11, ↓w_wpE_12, ↓w_wpE_13, ↓w_wpE_14, ↓w_wpE_15, ↓w_wpE_16, ↓w_wpE_17, ↓w_wpE_18, ↓w_wpE_19, ↓w_wpE_20, ↓w_wpT_0, ↓w_wpT_1, ↓w_wpT_2,
    ↓w_wpT_3, ↓w_wpT_4, ↓w_wpP_0, ↓w_wpP_1, ↓w_wpC_0, ↓w_wpC_1, ↓w_wpEs_0, ↓w_wpEs_1, ↓w_wpVs_0, ↓w_wpVs_1, ↓w_wpAs_0, ↓w_wpAs_1, ↓w_wpAs_2, ↓w_wpIt_0, ↓w_wpIt_1, ↓w_wpIt_2, ↓w_wpIt_3, ↓w_wpS_1, ↓w_wpS_2, ↓w_wpS_3, ↓w_wpS_4,
    ↓w_wpS_5, ↓w_wpS_6, ↓w_wpS_7, ↓w_wpS_8, ↓w_wpS_9, ↓w_wpS_10, ↓w_wpS_11, ↓w_wpS_12, ↓w_wpS_13, ↓w_wpSs_0, ↓w_wpSs_1, rtO_own, rtO_sh, rtO_lock, rdO_own, rdO_sh, rdO_lock, isO_own, agO_own, fin_nil, fin_t, fin_f, put_t,
    put_f, ous_nil, ous_nil, ous_cons, ios_nil, ios_io, ios_val, itO_some, atI_0, atI_1, atI_2, atI_3, atI_4, atI_5, sxO_some, ixN_0, ixN_1, ixN_2, ixN_3, ixN_4, get_0, sett_0, get_1, sett_1, get_2, sett_2, get_3, sett_3,
    get_4, sett_4, get_5, sett_5, get_6, sett_6, get_7, sett_7, get_8, sett_8, get_9, sett_9, get_10, sett_10, get_11, sett_11, get_12, sett_12, get_13, sett_13, get_14, sett_14, get_15, sett_15, get_16, sett_16, get_17,
    sett_17, get_18, sett_18, get_19, sett_19, get_20, sett_20, get_21, sett_21, get_22, sett_22, get_23, sett_23, shr_own, shr_lock, shr_sh, shr_un, share_eq, getD_s, cn_none, cn_bool, cn_int, cn_str, natD_eq, ty_int_none,
    ty_int_bool, ty_int_int, ty_int_str, ty_int_list, ty_int_tuple, ty_int_dict, ty_bool_none, ty_bool_bool, ty_bool_int, ty_bool_str, ty_bool_list, ty_bool_tuple, ty_bool_dict, ty_str_none, ty_str_bool, ty_str_int,
    ty_str_str, ty_str_list, ty_str_tuple, ty_str_dict, ty_tuple_none, ty_tuple_bool, ty_tuple_int, ty_tuple_str, ty_tuple_list, ty_tuple_tuple, ty_tuple_dict, ty_list_none, ty_list_bool, ty_list_int, ty_list_str,
    ty_list_list, ty_list_tuple, ty_list_dict, ty_dict_none, ty_dict_bool, ty_dict_int, ty_dict_str, ty_dict_list, ty_dict_tuple, ty_dict_dict, free_eq, fsO_some, freeB_un, freeB_sh, lockE, lockB, unlockE, restore, wipeE,
    List.length_cons, List.length_nil, Nat.zero_add, Nat.reduceAdd, ↓reduceIte, Bool.false_eq_true, true_and, and_true, Bool.not_true, Bool.not_false, decide_eq_true_eq, Bool.not_eq_true', decide_eq_false_iff_not,
    bne_iff_ne, sizeLine, Nat.reducePow, Nat.reduceLeDiff, Nat.reduceLT, List.nodup_cons, List.nodup_nil, List.not_mem_nil, not_false_eq_true, Int.natCast_add, List.length_map, Int.reduceToNat, Int.reducePow,
    Int.cast_ofNat_Int, Int.reduceLT, Int.reduceLE, Int.reduceEq, Int.reduceNe, Int.reduceMod, Int.reduceDiv, Int.reduceMul, Int.reduceAdd, Int.reduceSub, Int.reduceNeg, List.set_cons_zero, List.set_cons_succ,
    List.getElem?_cons_zero, List.getElem?_cons_succ, Bool.true_eq_false, okTy_i, okTy_t, okTy_l, okTy_s, okTy_b, okTy_n, okTy_d, decide_true, decide_false, Bool.and_true, Bool.true_and, Bool.false_and, Bool.and_false,
    Bool.and_eq_true, Nat.add_zero, true_implies, List.length_append, List.all_cons, List.all_nil, id_eq])
local macro_rules | `(tactic| array_mem_dec) => `(tactic| simp only [wpFn, startE, envA, List.length_cons, List.length_nil, Nat.reduceAdd, Nat.reduceSub, List.reduceReplicate, List.cons_append, List.nil_append, List.append_nil, true_and])
local macro_rules | `(tactic| sizeOf_list_dec) => `(tactic| repeat' (first | trivial | assumption | with_reducible apply And.intro | exact Sz.cmul (by decide +kernel) | exact Sz.cdiv (by decide +kernel) (by omega) | exact Sz.le (by decide +kernel) | exact Okd.shows (by decide +kernel) (by decide +kernel) (by decide +kernel) | (show CPow _ _; exact ⟨by decide, by decide, by decide⟩) | omega))

theorem raw_half_ok {C : Nat → Ct} {ds Q} (h : c_raw_half ds Q) : wpFn C ⟨[false], 1, [
  .ife (.val (.cmp .NotEq (.idx (.var 0) (.cst (.int 1))) (.cst (.int 0)))) [.ret (.ite (.val (.cmp .Gt (.idx (.var 0) (.cst (.int 1))) (.cst (.int 0)))) (.cst (.int 0)) (.cst (.int 1)))] [],
  .ret (.ite (.val (.cmp .Gt (.idx (.var 0) (.cst (.int 0))) (.cst (.int 0)))) (.cst (.int 0)) (.cst (.int 1)))]⟩ ds Q := by
  unfold c_raw_half at h
  split at h
  · rename_i x y
    array_mem_dec
    unfold half at h
    by_cases h1 : y = 0
    · by_cases h2 : 0 < x
      · rw [if_pos (.inr ⟨h1, h2⟩)] at h; array_get_dec
      · rw [if_neg (by omega)] at h; array_get_dec
    · by_cases h2 : 0 < y
      · rw [if_pos (.inl h2)] at h; array_get_dec
      · rw [if_neg (by omega)] at h; array_get_dec
  · exact h.elim
theorem law_half_ok {C : Nat → Ct} {ds Q} (h : c_law_half ds Q) : wpFn C ⟨[false], 1, [
  .ret (.ite (.or (.val (.cmp .Gt (.idx (.var 0) (.cst (.int 1))) (.cst (.int 0)))) (.and (.val (.cmp .Eq (.idx (.var 0) (.cst (.int 1))) (.cst (.int 0)))) (.val (.cmp .Gt (.idx (.var 0) (.cst (.int 0))) (.cst (.int 0)))))) (.cst (.int 0)) (.cst (.int 1)))]⟩ ds Q := by
  unfold c_law_half c_raw_half at h
  split at h
  · rename_i x y
    array_mem_dec
    unfold half at h
    by_cases h2 : 0 < y
    · rw [if_pos (.inl h2)] at h; array_get_dec
    · by_cases h1 : y = 0
      · by_cases h2 : 0 < x
        · rw [if_pos (.inr ⟨h1, h2⟩)] at h; array_get_dec
        · rw [if_neg (by omega)] at h; array_get_dec
      · rw [if_neg (by omega)] at h; array_get_dec
  · exact h.elim
theorem raw_first_ok {C : Nat → Ct} {ds Q} {i11 : Nat} (h11 : C i11 = c_raw_half) (h : c_raw_first ds Q) : wpFn C ⟨[false, false], 2, [
  .ife (.val (.cmp .NotEq (.call i11 (.ev (.var 0) .nil)) (.call i11 (.ev (.var 1) .nil)))) [.ret (.cmp .Lt (.call i11 (.ev (.var 0) .nil)) (.call i11 (.ev (.var 1) .nil)))] [],
  .ret (.cmp .Gt (.bin .Sub (.bin .Mult (.idx (.var 0) (.cst (.int 0))) (.idx (.var 1) (.cst (.int 1)))) (.bin .Mult (.idx (.var 0) (.cst (.int 1))) (.idx (.var 1) (.cst (.int 0))))) (.cst (.int 0)))]⟩ ds Q := by
  unfold c_raw_first at h
  split at h
  · rename_i a b c d
    obtain ⟨h1, h2, h3, h4, hQ⟩ := h
    array_mem_dec
    unfold firstB at hQ
    by_cases e : half a b = half c d
    · rw [if_pos e] at hQ
      array_get_dec
      sizeOf_list_dec
    · rw [if_neg e] at hQ
      array_get_dec
  · exact h.elim
theorem law_is_first_ok {C : Nat → Ct} {ds Q} {i18 : Nat} (h18 : C i18 = c_law_half) (h : c_law_is_first ds Q) : wpFn C ⟨[false, false], 2, [
  .ife (.val (.cmp .NotEq (.call i18 (.ev (.var 0) .nil)) (.call i18 (.ev (.var 1) .nil)))) [.ret (.cmp .Lt (.call i18 (.ev (.var 0) .nil)) (.call i18 (.ev (.var 1) .nil)))] [],
  .ret (.cmp .Gt (.bin .Sub (.bin .Mult (.idx (.var 0) (.cst (.int 0))) (.idx (.var 1) (.cst (.int 1)))) (.bin .Mult (.idx (.var 0) (.cst (.int 1))) (.idx (.var 1) (.cst (.int 0))))) (.cst (.int 0)))]⟩ ds Q := by
  unfold c_law_is_first c_raw_first at h
  split at h
  · rename_i a b c d
    obtain ⟨h1, h2, h3, h4, hQ⟩ := h
    array_mem_dec
    unfold firstB at hQ
    by_cases e : half a b = half c d
    · rw [if_pos e] at hQ
      array_get_dec
      sizeOf_list_dec
    · rw [if_neg e] at hQ
      array_get_dec
  · exact h.elim
theorem raw_turned_ok {C : Nat → Ct} {ds Q} {i9 : Nat} (h9 : C i9 = c_raw_lowest) (h : c_raw_turned ds Q) : wpFn C ⟨[false, false], 2, [
  .ret (.call i9 (.ev (.tup (.cons (.bin .Sub (.bin .Mult (.idx (.var 0) (.cst (.int 0))) (.idx (.var 1) (.cst (.int 0)))) (.bin .Mult (.idx (.var 0) (.cst (.int 1))) (.idx (.var 1) (.cst (.int 1))))) (.cons (.bin .Add (.bin .Mult (.idx (.var 0) (.cst (.int 0))) (.idx (.var 1) (.cst (.int 1)))) (.bin .Mult (.idx (.var 0) (.cst (.int 1))) (.idx (.var 1) (.cst (.int 0))))) .nil))) .nil))]⟩ ds Q := by
  unfold c_raw_turned at h
  split at h
  · rename_i a b c d
    obtain ⟨n1, n2, h1, h2, h3, h4, hQ⟩ := h
    have e := turn_nz n1 n2
    array_mem_dec
    array_get_dec
    sizeOf_list_dec
  · exact h.elim
theorem law_product_ok {C : Nat → Ct} {ds Q} {i16 : Nat} (h16 : C i16 = c_law_low) (h : c_law_product ds Q) : wpFn C ⟨[false, false], 2, [
  .ret (.call i16 (.ev (.bin .Sub (.bin .Mult (.idx (.var 0) (.cst (.int 0))) (.idx (.var 1) (.cst (.int 0)))) (.bin .Mult (.idx (.var 0) (.cst (.int 1))) (.idx (.var 1) (.cst (.int 1))))) (.ev (.bin .Add (.bin .Mult (.idx (.var 0) (.cst (.int 0))) (.idx (.var 1) (.cst (.int 1)))) (.bin .Mult (.idx (.var 0) (.cst (.int 1))) (.idx (.var 1) (.cst (.int 0))))) .nil)))]⟩ ds Q := by
  unfold c_law_product c_raw_turned at h
  split at h
  · rename_i a b c d
    obtain ⟨n1, n2, h1, h2, h3, h4, hQ⟩ := h
    have e := turn_nz n1 n2
    array_mem_dec
    array_get_dec
    sizeOf_list_dec
  · exact h.elim
theorem check_rays_ok {C : Nat → Ct} {ds Q} {i7 : Nat} (h7 : C i7 = c_check_ray) (h : c_check_rays ds Q) : wpFn C ⟨[false, false], 2, [
  .expr (.call i7 (.ev (.var 0) .nil)),
  .expr (.call i7 (.ev (.var 1) .nil))]⟩ ds Q := by
  unfold c_check_rays at h
  split at h
  · obtain ⟨n1, n2, h1, h2, hQ⟩ := h
    array_mem_dec
    array_get_dec
  · exact h.elim
theorem raw_mirrored_ok {C : Nat → Ct} {ds Q} (h : c_raw_mirrored ds Q) : wpFn C ⟨[false], 1, [
  .ret (.tup (.cons (.idx (.var 0) (.cst (.int 0))) (.cons (.neg (.idx (.var 0) (.cst (.int 1)))) .nil)))]⟩ ds Q := by
  unfold c_raw_mirrored at h
  split at h
  · array_mem_dec
    array_get_dec
  · exact h.elim
theorem mirrored_ok {C : Nat → Ct} {ds Q} {i7 : Nat} {i30 : Nat} (h7 : C i7 = c_check_ray) (h30 : C i30 = c_raw_mirrored) (h : c_mirrored ds Q) : wpFn C ⟨[false], 1, [
  .expr (.call i7 (.ev (.var 0) .nil)),
  .ret (.call i30 (.ev (.var 0) .nil))]⟩ ds Q := by
  unfold c_mirrored at h
  split at h
  · obtain ⟨n1, n2, hQ⟩ := h
    array_mem_dec
    array_get_dec
  · exact h.elim
theorem is_within_ok {C : Nat → Ct} {ds Q} {i2 : Nat} (h2 : C i2 = c_is_integer) (h : c_is_within ds Q) : wpFn C ⟨[false, false, false], 3, [
  .ret (.and (.call i2 (.ev (.var 0) .nil)) (.chain .LtE .LtE (.var 1) (.var 0) (.var 2)))]⟩ ds Q := by
  unfold c_is_within at h
  split at h
  · rename_i n a b
    array_mem_dec
    by_cases e : a ≤ n
    · rw [decide_eq_true e, Bool.true_and] at h
      array_get_dec
      simp only [isIntB]
      array_get_dec
    · rw [decide_eq_false e, Bool.false_and] at h
      array_get_dec
      simp only [isIntB]
      array_get_dec
  · exact h.elim
theorem check_number_ok {C : Nat → Ct} {ds Q} {i25 : Nat} (h25 : C i25 = c_is_within) (h : c_check_number ds Q) : wpFn C ⟨[false, false, false], 3, [
  .ife (.not (.val (.call i25 (.ev (.var 0) (.ev (.var 1) (.ev (.var 2) .nil)))))) [.bad] []]⟩ ds Q := by
  unfold c_check_number at h
  split at h
  · rename_i n a b
    obtain ⟨h1, h2, hQ⟩ := h
    array_mem_dec
    array_get_dec
  · exact h.elim
end G

/-! ### M8: sums of rays do not ask for the order -/
namespace G
open PySem PySem.Spec L2
open PyProof.Rows hiding St
def Up (x y : Int) : Prop := 0 < y ∨ (y = 0 ∧ 0 < x)
theorem half_up {x y : Int} (h : Up x y) : half x y = 0 := if_pos h
theorem half_dn {x y : Int} (h : ¬ Up x y) : half x y = 1 := if_neg h
theorem up_or {x y : Int} (n : Nz x y) (h : ¬ Up x y) : Up (-x) (-y) := by
  unfold Up at *
  omega
theorem up_not {x y : Int} (h : Up x y) : ¬ Up (-x) (-y) := by
  unfold Up at *
  omega
theorem up_scale {x y s : Int} (hs : 0 < s) (h : Up x y) : Up (s * x) (s * y) := by
  rcases h with h | ⟨h, g⟩
  · exact .inl (Int.mul_pos hs h)
  · exact .inr ⟨by rw [h, Int.mul_zero], Int.mul_pos hs g⟩
theorem up_add {x y z w : Int} (h : Up x y) (g : Up z w) : Up (x + z) (y + w) := by
  unfold Up at *
  omega
theorem up_cone {a b c d s t : Int} (h : Up a b) (g : Up c d) (hs : 0 ≤ s) (ht : 0 ≤ t) (hst : 0 < s ∨ 0 < t) : Up (s * a + t * c) (s * b + t * d) := by
  by_cases h1 : s = 0
  · subst h1
    rw [Int.zero_mul, Int.zero_mul, Int.zero_add, Int.zero_add]
    exact up_scale (by omega) g
  · by_cases h2 : t = 0
    · subst h2
      rw [Int.zero_mul, Int.zero_mul, Int.add_zero, Int.add_zero]
      exact up_scale (by omega) h
    · exact up_add (up_scale (by omega) h) (up_scale (by omega) g)
/-- a multiple: which half -/
theorem up_mul {x y k : Int} (n : Nz x y) (h : Up (k * x) (k * y)) : (0 < k ∧ Up x y) ∨ (k < 0 ∧ ¬ Up x y) := by
  by_cases h1 : 0 < k
  · left
    refine ⟨h1, Classical.byContradiction fun z => ?_⟩
    have := up_scale h1 (up_or n z)
    rw [Int.mul_neg, Int.mul_neg] at this
    exact up_not h this
  · by_cases h2 : k = 0
    · subst h2
      rw [Int.zero_mul, Int.zero_mul] at h
      unfold Up at h; omega
    · right
      refine ⟨by omega, fun z => ?_⟩
      have := up_scale (s := -k) (by omega) z
      rw [Int.neg_mul, Int.neg_mul] at this
      exact up_not h this
theorem up_mul' {x y k : Int} (n : Nz x y) (h : Up (-(k * x)) (-(k * y))) : (0 < k ∧ ¬ Up x y) ∨ (k < 0 ∧ Up x y) := by
  have := up_mul (k := -k) n (by rw [Int.neg_mul, Int.neg_mul]; exact h)
  rcases this with ⟨h1, h2⟩ | ⟨h1, h2⟩
  · exact .inr ⟨by omega, h2⟩
  · exact .inl ⟨by omega, h2⟩
/-- a step over the start of the round -/
def wrap (A B : Prop) (d : Int) : Prop := ((A ↔ B) ∧ d < 0) ∨ (B ∧ ¬ A)
theorem first_wrap {a b c d : Int} (n : Nz a b) : firstB (a * c - b * d) (a * d + b * c) a b = true ↔ wrap (Up a b) (Up (a * c - b * d) (a * d + b * c)) d := by
  have e : (a * c - b * d) * b - (a * d + b * c) * a = -(d * (a * a + b * b)) := by grind
  have N := sq_pos n
  have key : 0 < (a * c - b * d) * b - (a * d + b * c) * a ↔ d < 0 := by
    rw [e]
    constructor
    · intro h
      by_cases z : d < 0
      · exact z
      · have := Int.mul_nonneg (show 0 ≤ d by omega) (Int.le_of_lt N); omega
    · intro h
      have := Int.mul_pos (show 0 < -d by omega) N
      rw [Int.neg_mul] at this; exact this
  unfold firstB wrap
  by_cases h1 : Up (a * c - b * d) (a * d + b * c)
  · by_cases h2 : Up a b
    · rw [half_up h1, half_up h2, if_pos rfl, decide_eq_true_iff, key]
      simp [h1, h2]
    · rw [half_up h1, half_dn h2, if_neg (by decide)]
      simp [h1, h2]
  · by_cases h2 : Up a b
    · rw [half_dn h1, half_up h2, if_neg (by decide)]
      simp [h1, h2]
    · rw [half_dn h1, half_dn h2, if_pos rfl, decide_eq_true_iff, key]
      simp [h1, h2]
/-- the halves of a, a u, a v, a u v -/
theorem halves_mixed {p q r s a b x y u1 u2 v1 v2 : Int} (nb : Nz p q) (nd : Nz r s) (na : Nz a b) (ne : Nz x y) (hu : u2 < 0) (hv : 0 ≤ v2)
    (i1 : (u1 * v2 - u2 * v1) * a = v2 * p - u2 * r ∧ (u1 * v2 - u2 * v1) * b = v2 * q - u2 * s)
    (i2 : (u1 * v2 - u2 * v1) * x = -u2 * (v1 * v1 + v2 * v2) * p + v2 * (u1 * u1 + u2 * u2) * r ∧ (u1 * v2 - u2 * v1) * y = -u2 * (v1 * v1 + v2 * v2) * q + v2 * (u1 * u1 + u2 * u2) * s)
    (nv : Nz v1 v2) (h : Up p q ↔ Up r s) : Up a b ↔ Up x y := by
  have Nv := sq_pos nv
  have Nu : 0 ≤ u1 * u1 + u2 * u2 := Int.le_of_lt (sq_pos (.inr (by omega)))
  have c1 : 0 ≤ -u2 * (v1 * v1 + v2 * v2) := Int.mul_nonneg (by omega) (by omega)
  have c1' : 0 < -u2 * (v1 * v1 + v2 * v2) := Int.mul_pos (by omega) Nv
  have c2 : 0 ≤ v2 * (u1 * u1 + u2 * u2) := Int.mul_nonneg hv Nu
  generalize u1 * v2 - u2 * v1 = D at *
  generalize -u2 * (v1 * v1 + v2 * v2) = k at *
  generalize v2 * (u1 * u1 + u2 * u2) = l at *
  by_cases hp : Up p q
  · have hr := h.mp hp
    have w1 := up_cone hp hr hv (show 0 ≤ -u2 by omega) (.inr (by omega))
    have w2 := up_cone hp hr c1 c2 (.inl c1')
    rw [show v2 * p + -u2 * r = D * a by rw [i1.1, Int.neg_mul]; omega, show v2 * q + -u2 * s = D * b by rw [i1.2, Int.neg_mul]; omega] at w1
    rw [← i2.1, ← i2.2] at w2
    rcases up_mul na w1 with ⟨d, A⟩ | ⟨d, A⟩ <;> rcases up_mul ne w2 with ⟨d', E⟩ | ⟨d', E⟩ <;> first | omega | (simp [A, E])
  · have hr : ¬ Up r s := fun z => hp (h.mpr z)
    have w1 := up_cone (up_or nb hp) (up_or nd hr) hv (show 0 ≤ -u2 by omega) (.inr (by omega))
    have w2 := up_cone (up_or nb hp) (up_or nd hr) c1 c2 (.inl c1')
    rw [show v2 * -p + -u2 * -r = -(D * a) by rw [i1.1]; grind, show v2 * -q + -u2 * -s = -(D * b) by rw [i1.2]; grind] at w1
    rw [show k * -p + l * -r = -(D * x) by rw [i2.1]; grind, show k * -q + l * -s = -(D * y) by rw [i2.2]; grind] at w2
    rcases up_mul' na w1 with ⟨d, A⟩ | ⟨d, A⟩ <;> rcases up_mul' ne w2 with ⟨d', E⟩ | ⟨d', E⟩ <;> first | omega | (simp [A, E])
theorem halves_same {p q r s a b x y u1 u2 v1 v2 : Int} (nb : Nz p q) (nd : Nz r s) (na : Nz a b) (ne : Nz x y) (hs : (0 ≤ u2 ∧ 0 ≤ v2 ∧ (0 < u2 ∨ 0 < v2)) ∨ (u2 < 0 ∧ v2 < 0))
    (i1 : (u1 * v2 - u2 * v1) * a = v2 * p - u2 * r ∧ (u1 * v2 - u2 * v1) * b = v2 * q - u2 * s)
    (i2 : (u1 * v2 - u2 * v1) * x = -u2 * (v1 * v1 + v2 * v2) * p + v2 * (u1 * u1 + u2 * u2) * r ∧ (u1 * v2 - u2 * v1) * y = -u2 * (v1 * v1 + v2 * v2) * q + v2 * (u1 * u1 + u2 * u2) * s)
    (nv : Nz v1 v2) (nu : Nz u1 u2) (h1 : Up p q) (h2 : ¬ Up r s) : ¬ (Up a b ↔ Up x y) := by
  have Nv := sq_pos nv
  have Nu := sq_pos nu
  have g := up_or nd h2
  generalize u1 * v2 - u2 * v1 = D at *
  generalize v1 * v1 + v2 * v2 = k at *
  generalize u1 * u1 + u2 * u2 = l at *
  rcases hs with ⟨a1, a2, a3⟩ | ⟨a1, a2⟩
  · have w1 := up_cone h1 g a2 a1 (by omega)
    have w2 := up_cone h1 g (Int.mul_nonneg a1 (Int.le_of_lt Nv)) (Int.mul_nonneg a2 (Int.le_of_lt Nu)) (by
      rcases a3 with a3 | a3
      · exact .inl (Int.mul_pos a3 Nv)
      · exact .inr (Int.mul_pos a3 Nu))
    rw [show v2 * p + u2 * -r = D * a by rw [i1.1]; grind, show v2 * q + u2 * -s = D * b by rw [i1.2]; grind] at w1
    rw [show u2 * k * p + v2 * l * -r = -(D * x) by rw [i2.1]; grind, show u2 * k * q + v2 * l * -s = -(D * y) by rw [i2.2]; grind] at w2
    rcases up_mul na w1 with ⟨d, A⟩ | ⟨d, A⟩ <;> rcases up_mul' ne w2 with ⟨d', E⟩ | ⟨d', E⟩ <;> first | omega | (simp [A, E])
  · have w1 := up_cone h1 g (show 0 ≤ -v2 by omega) (show 0 ≤ -u2 by omega) (by omega)
    have w2 := up_cone h1 g (Int.mul_nonneg (show 0 ≤ -u2 by omega) (Int.le_of_lt Nv)) (Int.mul_nonneg (show 0 ≤ -v2 by omega) (Int.le_of_lt Nu)) (.inl (Int.mul_pos (by omega) Nv))
    rw [show -v2 * p + -u2 * -r = -(D * a) by rw [i1.1]; grind, show -v2 * q + -u2 * -s = -(D * b) by rw [i1.2]; grind] at w1
    rw [show -u2 * k * p + -v2 * l * -r = D * x by rw [i2.1]; grind, show -u2 * k * q + -v2 * l * -s = D * y by rw [i2.2]; grind] at w2
    rcases up_mul' na w1 with ⟨d, A⟩ | ⟨d, A⟩ <;> rcases up_mul ne w2 with ⟨d', E⟩ | ⟨d', E⟩ <;> first | omega | (simp [A, E])
theorem halves_flat {a b u v : Int} (na : Nz a b) (h1 : Up (u * a) (u * b)) (h2 : ¬ Up (v * a) (v * b)) (hv : v ≠ 0) (ne : Nz (u * v * a) (u * v * b)) : ¬ (Up a b ↔ Up (u * v * a) (u * v * b)) := by
  have nv : Nz (v * a) (v * b) := na.imp (fun h => Int.mul_ne_zero hv h) fun h => Int.mul_ne_zero hv h
  have g := up_or nv h2
  intro e
  rcases up_mul na h1 with ⟨c, A⟩ | ⟨c, A⟩ <;> rcases up_mul' na g with ⟨d, B⟩ | ⟨d, B⟩
  · exact B A
  · have := e.mp A
    rcases up_mul na this with ⟨f, _⟩ | ⟨_, f⟩
    · have := Int.mul_neg_of_pos_of_neg c d; omega
    · exact f A
  · have w : 0 < -(u * v) := by have := Int.mul_pos (show 0 < -u by omega) d; rw [Int.neg_mul] at this; exact this
    have t := up_scale w (up_or na A)
    rw [Int.neg_mul_neg, Int.neg_mul_neg] at t
    exact A (e.mpr t)
  · exact A B
theorem wrap_num {A B D E : Prop} {u v : Int} (h1 : u < 0 → 0 ≤ v → (B ↔ D) → (A ↔ E)) (h2 : v < 0 → 0 ≤ u → (B ↔ D) → (A ↔ E)) (h3 : ((0 ≤ u ∧ 0 ≤ v) ∨ (u < 0 ∧ v < 0)) → ¬ (B ↔ D) → ¬ (A ↔ E)) [Decidable (wrap A B u)] [Decidable (wrap B E v)] [Decidable (wrap A D v)] [Decidable (wrap D E u)] :
    (if wrap A B u then (1 : Int) else 0) + (if wrap B E v then 1 else 0) = (if wrap A D v then 1 else 0) + (if wrap D E u then 1 else 0) := by
  unfold wrap at *
  by_cases hu : u < 0 <;> by_cases hv : v < 0 <;> by_cases a : A <;> by_cases b : B <;> by_cases d : D <;> by_cases e : E <;> simp [hu, hv, a, b, d, e] at h1 h2 h3 ⊢ <;> omega
/-! rays as pairs -/
abbrev P2 := Int × Int
def pr (a u : P2) : P2 := (a.1 * u.1 - a.2 * u.2, a.1 * u.2 + a.2 * u.1)
def lo (a : P2) : P2 := (a.1 / (Int.gcd a.1 a.2 : Nat), a.2 / (Int.gcd a.1 a.2 : Nat))
abbrev NZ (a : P2) : Prop := Nz a.1 a.2
abbrev UP (a : P2) : Prop := Up a.1 a.2
theorem lo_mul {a : P2} (h : NZ a) : ∃ g : Int, 0 < g ∧ g * (lo a).1 = a.1 ∧ g * (lo a).2 = a.2 ∧ NZ (lo a) :=
  ⟨_, by have := gcd_pos' h; omega, low_mul.1, low_mul.2, low_nz h⟩
theorem pr_nz {a u : P2} (h : NZ a) (g : NZ u) : NZ (pr a u) := turn_nz h g
theorem up_same {x y z w k : Int} (hk : 0 < k) (n : Nz x y) (h1 : k * x = z) (h2 : k * y = w) : Up z w ↔ Up x y := by
  subst h1 h2
  constructor
  · intro h
    rcases up_mul n h with ⟨_, h⟩ | ⟨h, _⟩
    · exact h
    · omega
  · exact up_scale hk
theorem up_lo {a : P2} (h : NZ a) : UP (lo a) ↔ UP a := by
  obtain ⟨g, g0, g1, g2, n⟩ := lo_mul h
  exact (up_same g0 n g1 g2).symm
theorem first_same {x y z w a b k : Int} (hk : 0 < k) (n : Nz x y) (h1 : k * x = z) (h2 : k * y = w) : firstB z w a b = firstB x y a b := by
  have u := up_same hk n h1 h2
  have hh : half z w = half x y := by
    by_cases h : Up x y
    · rw [half_up h, half_up (u.mpr h)]
    · rw [half_dn h, half_dn fun z => h (u.mp z)]
  unfold firstB
  rw [hh]
  have e : z * b - w * a = k * (x * b - y * a) := by rw [← h1, ← h2]; grind
  have : 0 < z * b - w * a ↔ 0 < x * b - y * a := by
    rw [e]
    constructor
    · intro h; rw [Int.mul_comm] at h; exact Int.pos_of_mul_pos_left h hk
    · intro h; exact Int.mul_pos hk h
  simp only [this]
/-- turned on -/
def turnP (a u : P2) : P2 := lo (pr a u)
def wr (a u : P2) : Int := if firstB (turnP a u).1 (turnP a u).2 a.1 a.2 = true then 1 else 0
open Classical in
theorem wr_eq {a u : P2} (h : NZ a) (g : NZ u) : wr a u = if wrap (UP a) (UP (pr a u)) u.2 then 1 else 0 := by
  obtain ⟨k, k0, k1, k2, n⟩ := lo_mul (pr_nz h g)
  have e := first_same (a := a.1) (b := a.2) k0 n k1 k2
  have f : firstB (pr a u).1 (pr a u).2 a.1 a.2 = true ↔ wrap (UP a) (UP (pr a u)) u.2 := first_wrap (c := u.1) (d := u.2) h
  unfold wr turnP
  rw [← e]
  by_cases z : wrap (UP a) (UP (pr a u)) u.2
  · rw [if_pos z, if_pos (f.mpr z)]
  · rw [if_neg z, if_neg fun y => z (f.mp y)]
theorem turn_nz' {a u : P2} (h : NZ a) (g : NZ u) : NZ (turnP a u) := (lo_mul (pr_nz h g)).choose_spec.2.2.2
theorem lo_eq {a b : P2} {k l : Int} (hk : 0 < k) (hl : 0 < l) (h1 : k * a.1 = l * b.1) (h2 : k * a.2 = l * b.2) : lo a = lo b := by
  have := low_eq hk hl h1 h2
  unfold lowD at this
  injection this with this
  injection this with e1 e2
  injection e2 with e2 _
  injection e1 with e1
  injection e2 with e2
  exact Prod.ext e1 e2
/-- a, turned on by u, by v: not normal, and normal -/
theorem pr_lo {a v : P2} (h : NZ a) : ∃ g : Int, 0 < g ∧ g * (pr (lo a) v).1 = (pr a v).1 ∧ g * (pr (lo a) v).2 = (pr a v).2 := by
  obtain ⟨g, g0, g1, g2, n⟩ := lo_mul h
  refine ⟨g, g0, ?_, ?_⟩
  · show g * ((lo a).1 * v.1 - (lo a).2 * v.2) = a.1 * v.1 - a.2 * v.2
    rw [← g1, ← g2]; grind
  · show g * ((lo a).1 * v.2 + (lo a).2 * v.1) = a.1 * v.2 + a.2 * v.1
    rw [← g1, ← g2]; grind
theorem turn_comm {a u v : P2} (h : NZ a) (hu : NZ u) (hv : NZ v) : turnP (turnP a u) v = turnP (turnP a v) u := by
  obtain ⟨g, g0, g1, g2⟩ := pr_lo (v := v) (pr_nz h hu)
  obtain ⟨k, k0, k1, k2⟩ := pr_lo (v := u) (pr_nz h hv)
  refine lo_eq g0 k0 ?_ ?_
  · rw [show turnP a u = lo (pr a u) from rfl, show turnP a v = lo (pr a v) from rfl, g1, k1]
    show (a.1 * u.1 - a.2 * u.2) * v.1 - (a.1 * u.2 + a.2 * u.1) * v.2 = (a.1 * v.1 - a.2 * v.2) * u.1 - (a.1 * v.2 + a.2 * v.1) * u.2
    grind
  · rw [show turnP a u = lo (pr a u) from rfl, show turnP a v = lo (pr a v) from rfl, g2, k2]
    show (a.1 * u.1 - a.2 * u.2) * v.2 + (a.1 * u.2 + a.2 * u.1) * v.1 = (a.1 * v.1 - a.2 * v.2) * u.2 + (a.1 * v.2 + a.2 * v.1) * u.1
    grind
open Classical in
theorem wr_comm {a u v : P2} (h : NZ a) (hu : NZ u) (hv : NZ v) : wr a u + wr (turnP a u) v = wr a v + wr (turnP a v) u := by
  have nu := pr_nz h hu
  have nv := pr_nz h hv
  have ne := pr_nz nu hv
  have ee : pr (pr a u) v = pr (pr a v) u := by
    refine Prod.ext ?_ ?_
    · show (a.1 * u.1 - a.2 * u.2) * v.1 - (a.1 * u.2 + a.2 * u.1) * v.2 = (a.1 * v.1 - a.2 * v.2) * u.1 - (a.1 * v.2 + a.2 * v.1) * u.2
      grind
    · show (a.1 * u.1 - a.2 * u.2) * v.2 + (a.1 * u.2 + a.2 * u.1) * v.1 = (a.1 * v.1 - a.2 * v.2) * u.2 + (a.1 * v.2 + a.2 * v.1) * u.1
      grind
  obtain ⟨g, g0, g1, g2⟩ := pr_lo (v := v) nu
  obtain ⟨k, k0, k1, k2⟩ := pr_lo (v := u) nv
  have eu : UP (pr (turnP a u) v) ↔ UP (pr (pr a u) v) := (up_same g0 (pr_nz (turn_nz' h hu) hv) g1 g2).symm
  have ev : UP (pr (turnP a v) u) ↔ UP (pr (pr a u) v) := by rw [ee]; exact (up_same k0 (pr_nz (turn_nz' h hv) hu) k1 k2).symm
  rw [wr_eq h hu, wr_eq h hv, wr_eq (turn_nz' h hu) hv, wr_eq (turn_nz' h hv) hu]
  have lu : UP (turnP a u) ↔ UP (pr a u) := up_lo nu
  have lv : UP (turnP a v) ↔ UP (pr a v) := up_lo nv
  simp only [lu, lv, eu, ev]
  obtain ⟨a1, a2⟩ := a
  obtain ⟨u1, u2⟩ := u
  obtain ⟨v1, v2⟩ := v
  have i1 : (u1 * v2 - u2 * v1) * a1 = v2 * (a1 * u1 - a2 * u2) - u2 * (a1 * v1 - a2 * v2) ∧ (u1 * v2 - u2 * v1) * a2 = v2 * (a1 * u2 + a2 * u1) - u2 * (a1 * v2 + a2 * v1) := ⟨by grind, by grind⟩
  have i2 : (u1 * v2 - u2 * v1) * ((a1 * u1 - a2 * u2) * v1 - (a1 * u2 + a2 * u1) * v2) = -u2 * (v1 * v1 + v2 * v2) * (a1 * u1 - a2 * u2) + v2 * (u1 * u1 + u2 * u2) * (a1 * v1 - a2 * v2) ∧
    (u1 * v2 - u2 * v1) * ((a1 * u1 - a2 * u2) * v2 + (a1 * u2 + a2 * u1) * v1) = -u2 * (v1 * v1 + v2 * v2) * (a1 * u2 + a2 * u1) + v2 * (u1 * u1 + u2 * u2) * (a1 * v2 + a2 * v1) := ⟨by grind, by grind⟩
  have j1 : (v1 * u2 - v2 * u1) * a1 = u2 * (a1 * v1 - a2 * v2) - v2 * (a1 * u1 - a2 * u2) ∧ (v1 * u2 - v2 * u1) * a2 = u2 * (a1 * v2 + a2 * v1) - v2 * (a1 * u2 + a2 * u1) := ⟨by grind, by grind⟩
  have j2 : (v1 * u2 - v2 * u1) * ((a1 * u1 - a2 * u2) * v1 - (a1 * u2 + a2 * u1) * v2) = -v2 * (u1 * u1 + u2 * u2) * (a1 * v1 - a2 * v2) + u2 * (v1 * v1 + v2 * v2) * (a1 * u1 - a2 * u2) ∧
    (v1 * u2 - v2 * u1) * ((a1 * u1 - a2 * u2) * v2 + (a1 * u2 + a2 * u1) * v1) = -v2 * (u1 * u1 + u2 * u2) * (a1 * v2 + a2 * v1) + u2 * (v1 * v1 + v2 * v2) * (a1 * u2 + a2 * u1) := ⟨by grind, by grind⟩
  refine wrap_num (fun s1 s2 e => halves_mixed nu nv h ne s1 s2 i1 i2 hv e) (fun s1 s2 e => halves_mixed nv nu h ne s1 s2 j1 j2 hu e.symm) fun s e => ?_
  by_cases z : u2 = 0 ∧ v2 = 0
  · obtain ⟨rfl, rfl⟩ := z
    have hu1 : u1 ≠ 0 := by rcases hu with hu | hu; exact hu; exact absurd rfl hu
    have hv1 : v1 ≠ 0 := by rcases hv with hv | hv; exact hv; exact absurd rfl hv
    have x1 : pr (a1, a2) (u1, 0) = (u1 * a1, u1 * a2) := Prod.ext (by show a1 * u1 - a2 * 0 = _; grind) (by show a1 * 0 + a2 * u1 = _; grind)
    have x2 : pr (a1, a2) (v1, 0) = (v1 * a1, v1 * a2) := Prod.ext (by show a1 * v1 - a2 * 0 = _; grind) (by show a1 * 0 + a2 * v1 = _; grind)
    have x3 : pr (pr (a1, a2) (u1, 0)) (v1, 0) = (u1 * v1 * a1, u1 * v1 * a2) := by rw [x1]; exact Prod.ext (by show u1 * a1 * v1 - u1 * a2 * 0 = _; grind) (by show u1 * a1 * 0 + u1 * a2 * v1 = _; grind)
    rw [x3] at ne ⊢
    rw [x1, x2] at e
    by_cases b : Up (u1 * a1) (u1 * a2)
    · exact halves_flat h b (fun d => e ⟨fun _ => d, fun _ => b⟩) hv1 ne
    · have d : Up (v1 * a1) (v1 * a2) := Classical.byContradiction fun d => e ⟨fun x => absurd x b, fun x => absurd x d⟩
      have ne' : Nz (v1 * u1 * a1) (v1 * u1 * a2) := by rw [Int.mul_comm v1 u1]; exact ne
      have := halves_flat (u := v1) (v := u1) h d b hu1 ne'
      rw [Int.mul_comm v1 u1] at this; exact this
  · have s' : (0 ≤ u2 ∧ 0 ≤ v2 ∧ (0 < u2 ∨ 0 < v2)) ∨ (u2 < 0 ∧ v2 < 0) := by
      rcases s with s | s
      · left; exact ⟨s.1, s.2, by have s1 : 0 ≤ u2 := s.1; have s2 : 0 ≤ v2 := s.2; omega⟩
      · right; exact s
    by_cases b : UP (pr (a1, a2) (u1, u2))
    · exact halves_same nu nv h ne s' i1 i2 hv hu b fun d => e ⟨fun _ => d, fun _ => b⟩
    · have d : UP (pr (a1, a2) (v1, v2)) := Classical.byContradiction fun d => e ⟨fun x => absurd x b, fun x => absurd x d⟩
      have s'' : (0 ≤ v2 ∧ 0 ≤ u2 ∧ (0 < v2 ∨ 0 < u2)) ∨ (v2 < 0 ∧ u2 < 0) := by omega
      exact halves_same nv nu h ne s'' j1 j2 hu hv d b
end G

/-! ### M9: many rays -/
namespace G
open PySem PySem.Spec L2
open PyProof.Rows hiding St
def stepP (s : Int × P2) (u : P2) : Int × P2 := (s.1 + wr s.2 u, turnP s.2 u)
def sumP (rs : List P2) : Int × P2 := rs.foldl stepP (0, (1, 0))
theorem fold_perm {xs ys : List P2} (p : xs.Perm ys) : ∀ s : Int × P2, NZ s.2 → (∀ u, u ∈ xs → NZ u) → xs.foldl stepP s = ys.foldl stepP s := by
  induction p with
  | nil => intros; rfl
  | cons x _ ih =>
    intro s hs h
    exact ih _ (turn_nz' hs (h x (by simp))) fun u hu => h u (by simp [hu])
  | swap x y l =>
    intro s hs h
    show l.foldl stepP (stepP (stepP s y) x) = l.foldl stepP (stepP (stepP s x) y)
    have hx := h x (by simp)
    have hy := h y (by simp)
    have e : stepP (stepP s y) x = stepP (stepP s x) y := by
      refine Prod.ext ?_ ?_
      · show s.1 + wr s.2 y + wr (turnP s.2 y) x = s.1 + wr s.2 x + wr (turnP s.2 x) y
        have := wr_comm hs hy hx
        omega
      · exact turn_comm hs hy hx
    rw [e]
  | trans p q ih1 ih2 =>
    intro s hs h
    rw [ih1 s hs h, ih2 s hs fun u hu => h u (p.mem_iff.mpr hu)]
theorem sum_perm {xs ys : List P2} (p : xs.Perm ys) (h : ∀ u, u ∈ xs → NZ u) : sumP xs = sumP ys := fold_perm p _ (.inl (by decide)) h
theorem sum_snoc (xs : List P2) (u : P2) : sumP (xs ++ [u]) = stepP (sumP xs) u := by
  unfold sumP; rw [List.foldl_append]; rfl
structure RayOk (b : Nat) (u : P2) : Prop where
  nz : NZ u
  one : Int.gcd u.1 u.2 = 1
  s1 : Sz u.1 b
  s2 : Sz u.2 b
theorem RayOk.mono {a b : Nat} {u : P2} (h : RayOk a u) (g : a ≤ b) : RayOk b u := ⟨h.nz, h.one, h.s1.mono g, h.s2.mono g⟩
theorem turn_ok {a b : Nat} {u v : P2} (h : RayOk a u) (g : RayOk b v) : RayOk (a + b + 1) (turnP u v) := by
  have n := pr_nz h.nz g.nz
  have h1 := h.s1
  have h2 := h.s2
  have h3 := g.s1
  have h4 := g.s2
  refine ⟨(lo_mul n).choose_spec.2.2.2, low_one n, ?_, ?_⟩
  · have : Sz (u.1 * v.1 - u.2 * v.2) (max (a + b) (a + b) + 1) := inferInstance
    rw [Nat.max_self] at this
    exact Sz.ediv (h := this)
  · have : Sz (u.1 * v.2 + u.2 * v.1) (max (a + b) (a + b) + 1) := inferInstance
    rw [Nat.max_self] at this
    exact Sz.ediv (h := this)
theorem ray10_ok : RayOk 2 (1, 0) := ⟨.inl (by decide), by decide, ⟨by decide⟩, ⟨by decide⟩⟩
theorem fold_ok {b : Nat} : ∀ (rs : List P2) (s : Int × P2) (a : Nat), RayOk a s.2 → (∀ u, u ∈ rs → RayOk b u) → RayOk ((b + 1) * rs.length + a) (rs.foldl stepP s).2
  | [], s, a, h, _ => by simpa using h
  | u :: rs, s, a, h, g => by
    have h1 := fold_ok rs (stepP s u) (a + b + 1) (turn_ok h (g u (by simp))) fun v hv => g v (by simp [hv])
    refine h1.mono ?_
    rw [List.length_cons, Nat.mul_add]
    omega
theorem sum_ok {b : Nat} (rs : List P2) (h : ∀ u, u ∈ rs → RayOk b u) : RayOk ((b + 1) * rs.length + 2) (sumP rs).2 := fold_ok rs _ 2 ray10_ok h
abbrev wyP (u : P2) : D := .tuple [.int u.1, .int u.2]
def c_check_all_rays : Ct := fun ds Q => ∃ rs : List P2, ds = [.tuple (rs.map wyP)] ∧ (∀ u, u ∈ rs → NZ u ∧ Int.gcd u.1 u.2 = 1) ∧ Q .none false []
theorem c_check_all_rays_eq {rs : List P2} {Q} : c_check_all_rays [.tuple (rs.map wyP)] Q = ((∀ u, u ∈ rs → NZ u ∧ Int.gcd u.1 u.2 = 1) ∧ Q .none false []) := by
  apply propext; constructor
  · rintro ⟨xs, e, h⟩
    have : rs = xs := by
      injection e with e
      injection e with e
      have h2 := congrArg (List.map fun d => match d with | PyData.tuple [.int x, .int y] => ((x, y) : P2) | _ => (0, 0)) e
      simpa [List.map_map, Function.comp_def] using h2
    rw [this]; exact h
  · intro h; exact ⟨rs, rfl, h⟩
def c_wide_sum : Ct := fun ds Q => ∃ rs : List P2, ds = [.tuple (rs.map wyP)] ∧ (∀ u, u ∈ rs → RayOk 41 u) ∧ rs.length ≤ 61 ∧ Q (.tuple [.int (sumP rs).1, wyP (sumP rs).2]) false []
def c_law_sum : Ct := c_wide_sum
local macro_rules | `(tactic| array_get_dec) => `(tactic| simp only [*, ↓c_raw_turned_eq, ↓c_law_product_eq, ↓c_raw_half_eq, ↓c_law_half_eq, ↓c_raw_first_eq, ↓c_law_is_first_eq, ↓c_check_rays_eq, ↓c_raw_mirrored_eq, ↓c_mirrored_eq, ↓c_is_within_eq, ↓c_check_number_eq,
    ↓c_check_all_rays_eq, ↓c_is_sized_eq, ↓c_is_integer_eq, ↓c_is_pair_eq, ↓c_raw_sight_eq, ↓c_sight_eq, ↓c_raw_led_eq, ↓c_led_eq, ↓c_lowest_eq, ↓c_along_eq, ↓c_aside_eq, ↓c_right_of_eq, ↓c_opposite_eq, ↓cWay_eq,
    ↓c_is_way_eq, ↓c_is_ray_eq, ↓c_check_way_eq, ↓c_check_ray_eq, ↓c_check_ways_eq, ↓c_law_low_eq, ↓c_raw_lowest_eq, ↓c_raw_along_eq, ↓c_raw_aside_eq, okIn_wy, cpow_10, ↓cDraw_eq, ↓cAny_eq, ↓cGreat_eq, ↓cGcd_eq, ↓cLike_eq,
    Nat.add_zero, true_implies, ↓c_eqP, ↓c_neP, ↓oo_var, ↓oo_cst, ↓oo_con, ↓oo_rev, ↓oo_dic0, ↓oo_tup, ↓oo_lst, ↓oo_bin, ↓oo_neg, ↓oo_cmp, ↓oo_chain, ↓oo_not, ↓oo_and, ↓oo_or, ↓oo_ite, ↓oo_call, ↓oo_blt, ↓oo_isi, ↓oo_idx,
    ↓oo_slc, ↓oo_comp, ↓oo_pop, ↓rt_var, ↓rt_cst, ↓rt_con, ↓rt_rev, ↓rt_dic0, ↓rt_tup, ↓rt_lst, ↓rt_bin, ↓rt_neg, ↓rt_cmp, ↓rt_chain, ↓rt_not, ↓rt_and, ↓rt_or, ↓rt_ite, ↓rt_call, ↓rt_blt, ↓rt_isi, ↓rt_idx, ↓rt_slc, ↓rt_comp,
    ↓rt_pop, ↓rdS_eq, ↓rd_late, ↓rd_val, ↓isL_eq, ↓ag_nil, ↓ag_val, ↓ag_io, ↓puts_nil, ↓puts_cons, ↓tg_nm, ↓tg_tup, ↓tgs_nil, ↓tgs_cons, ↓ex_int, ↓ex_bool, ↓ex_list, ↓ex_int2, ↓item_l, ↓item_t, ↓sx_eq, ↓o_addI, ↓o_addS,
    ↓o_addL, ↓o_addT, ↓o_sub, ↓o_mul, ↓o_mod, ↓o_div, ↓o_pow, ↓o_mulT, ↓o_mulL, ↓c_lt, ↓c_le, ↓c_gt, ↓c_ge, ↓c_eqI, ↓c_neI, ↓c_eqS, ↓c_neS, ↓c_eqL, ↓c_neL, ↓c_in, ↓c_nin, ↓c_inT, ↓c_ninT, ↓c_inS, ↓rv_l, ↓rv_t, ↓c_isN,
    ↓c_isnN, ↓c_isB, ↓c_isnB, ↓bb_lenL, ↓bb_lenT, ↓bb_lenS, ↓bb_int, ↓bb_intB, ↓bb_abs, ↓bb_tupL, ↓bb_tupT, ↓bb_lstL, ↓bb_lstT, ↓bb_allM, ↓bb_rep, ↓t_none, ↓t_bool, ↓t_int, ↓t_list, ↓t_tup, ↓its_l, ↓its_t, ↓sl_l, ↓sl_t,
    ↓sl_s, ↓forB_eq, ↓w_con, ↓w_rev, ↓w_wpE_0, ↓w_wpE_2, ↓w_wpE_3, ↓w_wpE_4, ↓w_wpE_5, ↓w_wpE_6, ↓w_wpE_7, ↓w_wpE_8, ↓w_wpE_9, ↓w_wpE_10, ↓w_wpE_11, ↓w_wpE_12, ↓w_wpE_13, ↓w_wpE_14, ↓w_wpE_15, ↓w_wpE_16, ↓w_wpE_17,
    ↓w_wpE_18, ↓w_wpE_19, ↓w_wpE_20, ↓w_wpT_0, ↓w_wpT_1, ↓w_wpT_2, ↓w_wpT_3, ↓w_wpT_4, ↓w_wpP_0, ↓w_wpP_1, ↓w_wpC_0, ↓w_wpC_1, ↓w_wpEs_0, ↓w_wpEs_1, ↓w_wpVs_0, ↓w_wpVs_1, ↓w_wpAs_0, ↓w_wpAs_1, ↓w_wpAs_2, ↓w_wpIt_0,
    ↓w_wpIt_1, ↓w_wpIt_2, ↓w_wpIt_3, ↓w_wpS_1, ↓w_wpS_2, ↓w_wpS_3, ↓w_wpS_4, ↓w_wpS_5, ↓w_wpS_6, ↓w_wpS_7, ↓w_wpS_8, ↓w_wpS_9, ↓w_wpS_10, ↓w_wpS_11, ↓w_wpS_12, ↓w_wpS_13, ↓w_wpSs_0, ↓w_wpSs_1, rtO_own, rtO_sh, rtO_lock,
    rdO_own, rdO_sh, rdO_lock, isO_own, agO_own, fin_nil, fin_t, fin_f, put_t, put_f, ous_nil, ous_nil, ous_cons, ios_nil, ios_io, ios_val, itO_some, atI_0, atI_1, atI_2, atI_3, atI_4, atI_5, sxO_some, ixN_0, ixN_1, ixN_2,
    ixN_3, ixN_4, get_0, sett_0, get_1, sett_1, get_2, sett_2, get_3, sett_3, get_4, sett_4, get_5, sett_5, get_6, sett_6, get_7, sett_7, get_8, sett_8, get_9, sett_9, get_10, sett_10, get_11, sett_11, get_12, sett_12,
    get_13, sett_13, get_14, sett_14, get_15, sett_15, get_16, sett_16, get_17, sett_17, get_18, sett_18, get_19, sett_19, get_20, sett_20, get_21, sett_21, get_22, sett_22, get_23, sett_23, shr_own, shr_lock, shr_sh,
    shr_un, share_eq, getD_s, cn_none, cn_bool, cn_int, cn_str, natD_eq, ty_int_none, ty_int_bool, ty_int_int, ty_int_str, ty_int_list, ty_int_tuple, ty_int_dict, ty_bool_none, ty_bool_bool, ty_bool_int, ty_bool_str,
    ty_bool_list, ty_bool_tuple, ty_bool_dict, ty_str_none, ty_str_bool, ty_str_int, ty_str_str, ty_str_list, ty_str_tuple, ty_str_dict, ty_tuple_none, ty_tuple_bool, ty_tuple_int, ty_tuple_str, ty_tuple_list,
    ty_tuple_tuple, ty_tuple_dict, ty_list_none, ty_list_bool, ty_list_int, ty_list_str, ty_list_list, ty_list_tuple, ty_list_dict, ty_dict_none, ty_dict_bool, ty_dict_int, ty_dict_str, ty_dict_list, ty_dict_tuple,
    ty_dict_dict, free_eq, fsO_some, freeB_un, freeB_sh, lockE, lockB, unlockE, restore, wipeE, List.length_cons, List.length_nil, Nat.zero_add, Nat.reduceAdd, ↓reduceIte, Bool.false_eq_true, true_and, and_true,
    Bool.not_true, Bool.not_false, decide_eq_true_eq, Bool.not_eq_true', decide_eq_false_iff_not, bne_iff_ne, sizeLine, Nat.reducePow, Nat.reduceLeDiff, Nat.reduceLT, List.nodup_cons, List.nodup_nil, List.not_mem_nil,
    not_false_eq_true, Int.natCast_add, List.length_map, Int.reduceToNat, Int.reducePow, Int.cast_ofNat_Int, Int.reduceLT, Int.reduceLE, Int.reduceEq, Int.reduceNe, Int.reduceMod, Int.reduceDiv, Int.reduceMul, Int.reduceAdd,
    Int.reduceSub, Int.reduceNeg, List.set_cons_zero, List.set_cons_succ, List.getElem?_cons_zero, List.getElem?_cons_succ, Bool.true_eq_false, okTy_i, okTy_t, okTy_l, okTy_s, okTy_b, okTy_n, okTy_d, decide_true,
    decide_false, Bool.and_true, Bool.true_and, Bool.false_and, Bool.and_false, Bool.and_eq_true, Nat.add_zero, true_implies, List.length_append, List.all_cons, List.all_nil, id_eq])
local macro_rules | `(tactic| array_mem_dec) => `(tactic| simp only [wpFn, startE, envA, List.length_cons, List.length_nil, Nat.reduceAdd, Nat.reduceSub, List.reduceReplicate, List.cons_append, List.nil_append, List.append_nil, true_and])
local macro_rules | `(tactic| sizeOf_list_dec) => `(tactic| repeat' (first | trivial | assumption | with_reducible apply And.intro | exact Sz.cmul (by decide +kernel) | exact Sz.cdiv (by decide +kernel) (by omega) | exact Sz.le (by decide +kernel) | exact Okd.shows (by decide +kernel) (by decide +kernel) (by decide +kernel) | (show CPow _ _; exact ⟨by decide, by decide, by decide⟩) | omega))

theorem check_all_rays_ok {C : Nat → Ct} {ds Q} {i7 : Nat} (h7 : C i7 = c_check_ray) (h : c_check_all_rays ds Q) : wpFn C ⟨[false], 2, [
  .ife (.not (.val (.isi (.var 0) .tuple))) [.bad] [],
  .fors (.nm 1) (.of (.var 0)) [.expr (.call i7 (.ev (.var 1) .nil))]]⟩ ds Q := by
  obtain ⟨rs, rfl, h, hQ⟩ := h
  array_mem_dec
  refine ss_go fun K hK => ?_
  array_get_dec
  apply hK.go
  clear hK K
  refine ss_go fun K hK => ?_
  array_get_dec
  refine forD_inv (fun xs e => ∃ ys zs s, rs = ys ++ zs ∧ xs = zs.map wyP ∧ e = [.sh (.tuple (rs.map wyP)), s]) ⟨[], rs, .un, rfl, rfl, rfl⟩ ?_ ?_
  · rintro x xs e ⟨ys, zs, s, e1, e2, rfl⟩ K' hK'
    cases zs with
    | nil => exact nomatch e2
    | cons u zs =>
      rw [List.map_cons] at e2
      injection e2 with e2 e3
      subst e2
      have hu := h u (by rw [e1]; simp)
      have := hK' [.sh (.tuple (rs.map wyP)), .sh (wyP u)] ⟨ys ++ [u], zs, _, by rw [e1]; simp, e3, rfl⟩
      have hu1 := hu.1
      have hu2 := hu.2
      clear e1 e3 hK' h
      array_get_dec
  · rintro e ⟨ys, zs, s, e1, e2, rfl⟩
    clear e1 e2
    array_get_dec
    apply hK.go
    array_get_dec
theorem wide_sum_ok {C : Nat → Ct} {ds Q} {i8 : Nat} {i10 : Nat} {i12 : Nat} (h8 : C i8 = c_check_all_rays) (h10 : C i10 = c_raw_turned) (h12 : C i12 = c_raw_first) (h : c_wide_sum ds Q) : wpFn C ⟨[false], 5, [
  .expr (.call i8 (.ev (.var 0) .nil)),
  .par [1, 2] (.cons (.cst (.int 0)) (.cons (.con (.tuple [.int 1, .int 0])) .nil)),
  .fors (.nm 3) (.of (.var 0)) [.set 4 (.call i10 (.ev (.var 2) (.ev (.var 3) .nil))), .set 1 (.bin .Add (.var 1) (.blt .int (.call i12 (.ev (.var 4) (.ev (.var 2) .nil))))), .set 2 (.var 4)],
  .ret (.tup (.cons (.var 1) (.cons (.var 2) .nil)))]⟩ ds Q := by
  obtain ⟨rs, rfl, h, hl, hQ⟩ := h
  array_mem_dec
  refine ss_go fun K hK => ?_
  array_get_dec
  refine ⟨fun u hu => ⟨(h u hu).nz, (h u hu).one⟩, ?_⟩
  apply hK.go
  clear hK K
  refine ss_go fun K hK => ?_
  array_get_dec
  apply hK.go
  clear hK K
  refine ss_go fun K hK => ?_
  array_get_dec
  refine forD_inv (fun xs e => ∃ ys zs s t, rs = ys ++ zs ∧ xs = zs.map wyP ∧ e = [.sh (.tuple (rs.map wyP)), .sh (.int (sumP ys).1), .sh (wyP (sumP ys).2), s, t]) ⟨[], rs, .un, .un, rfl, rfl, rfl⟩ ?_ ?_
  · rintro x xs e ⟨ys, zs, s, t, e1, e2, rfl⟩ K' hK'
    cases zs with
    | nil => exact nomatch e2
    | cons u zs =>
      rw [List.map_cons] at e2
      injection e2 with e2 e3
      subst e2
      have hu := h u (by rw [e1]; simp)
      have hy := sum_ok ys fun v hv => h v (by rw [e1]; simp [hv])
      have hlen : ys.length ≤ 60 := by rw [e1, List.length_append, List.length_cons] at hl; omega
      have hy' : RayOk 2600 (sumP ys).2 := hy.mono (by omega)
      have hz := turn_ok hy' hu
      have := hK' _ ⟨ys ++ [u], zs, .sh (wyP u), .sh (wyP (turnP (sumP ys).2 u)), by rw [e1]; simp, e3, rfl⟩
      rw [sum_snoc] at this
      generalize sumP ys = S at *
      have k1 := hy'.nz
      have k2 := hu.nz
      have k3 := hy'.s1.mono (show 2600 ≤ 3000 by decide)
      have k4 := hy'.s2.mono (show 2600 ≤ 3000 by decide)
      have k5 := hu.s1.mono (show 41 ≤ 3000 by decide)
      have k6 := hu.s2.mono (show 41 ≤ 3000 by decide)
      have k7 := hz.s1.mono (show 2600 + 41 + 1 ≤ 3000 by decide)
      have k8 := hz.s2.mono (show 2600 + 41 + 1 ≤ 3000 by decide)
      clear e1 e3 hK' h hK hu hy hy' hz hlen
      rw [tg_nm, put_f, sett_3, forB_eq]
      refine ss_go fun K2 hK => ?_
      array_get_dec
      show K2 [.sh (.tuple (rs.map wyP)), .sh (.int S.1), .sh (wyP S.2), .sh (wyP u), .sh (wyP (turnP S.2 u))]
      apply hK.go
      clear hK K2
      refine ss_go fun K2 hK => ?_
      array_get_dec
      apply hK.go
      clear hK K2
      refine ss_go fun K2 hK => ?_
      array_get_dec
      apply hK.go
      array_get_dec
      exact this
  · rintro e ⟨ys, zs, s, t, e1, e2, rfl⟩
    have : zs = [] := by cases zs with | nil => rfl | cons => exact nomatch e2
    subst this
    rw [List.append_nil] at e1
    subst e1
    clear e2
    array_get_dec
    apply hK.go
    array_get_dec
theorem law_sum_ok {C : Nat → Ct} {ds Q} {i17 : Nat} {i19 : Nat} (h17 : C i17 = c_law_product) (h19 : C i19 = c_law_is_first) (h : c_law_sum ds Q) : wpFn C ⟨[false], 5, [
  .setT (.tup [(.nm 1), (.nm 2)]) (.tup (.cons (.cst (.int 0)) (.cons (.tup (.cons (.cst (.int 1)) (.cons (.cst (.int 0)) .nil))) .nil))),
  .fors (.nm 3) (.of (.var 0)) [.set 4 (.call i17 (.ev (.var 2) (.ev (.var 3) .nil))), .par [1, 2] (.cons (.bin .Add (.var 1) (.blt .int (.call i19 (.ev (.var 4) (.ev (.var 2) .nil))))) (.cons (.var 4) .nil))],
  .ret (.tup (.cons (.var 1) (.cons (.var 2) .nil)))]⟩ ds Q := by
  obtain ⟨rs, rfl, h, hl, hQ⟩ := h
  array_mem_dec
  refine ss_go fun K hK => ?_
  array_get_dec
  apply hK.go
  clear hK K
  refine ss_go fun K hK => ?_
  array_get_dec
  refine forD_inv (fun xs e => ∃ ys zs s t, rs = ys ++ zs ∧ xs = zs.map wyP ∧ e = [.sh (.tuple (rs.map wyP)), .sh (.int (sumP ys).1), .sh (wyP (sumP ys).2), s, t]) ⟨[], rs, .un, .un, rfl, rfl, rfl⟩ ?_ ?_
  · rintro x xs e ⟨ys, zs, s, t, e1, e2, rfl⟩ K' hK'
    cases zs with
    | nil => exact nomatch e2
    | cons u zs =>
      rw [List.map_cons] at e2
      injection e2 with e2 e3
      subst e2
      have hu := h u (by rw [e1]; simp)
      have hy := sum_ok ys fun v hv => h v (by rw [e1]; simp [hv])
      have hlen : ys.length ≤ 60 := by rw [e1, List.length_append, List.length_cons] at hl; omega
      have hy' : RayOk 2600 (sumP ys).2 := hy.mono (by omega)
      have hz := turn_ok hy' hu
      have := hK' _ ⟨ys ++ [u], zs, .sh (wyP u), .sh (wyP (turnP (sumP ys).2 u)), by rw [e1]; simp, e3, rfl⟩
      rw [sum_snoc] at this
      generalize sumP ys = S at *
      have k1 := hy'.nz
      have k2 := hu.nz
      have k3 := hy'.s1.mono (show 2600 ≤ 3000 by decide)
      have k4 := hy'.s2.mono (show 2600 ≤ 3000 by decide)
      have k5 := hu.s1.mono (show 41 ≤ 3000 by decide)
      have k6 := hu.s2.mono (show 41 ≤ 3000 by decide)
      have k7 := hz.s1.mono (show 2600 + 41 + 1 ≤ 3000 by decide)
      have k8 := hz.s2.mono (show 2600 + 41 + 1 ≤ 3000 by decide)
      clear e1 e3 hK' h hK hu hy hy' hz hlen
      rw [tg_nm, put_f, sett_3, forB_eq]
      refine ss_go fun K2 hK => ?_
      array_get_dec
      show K2 [.sh (.tuple (rs.map wyP)), .sh (.int S.1), .sh (wyP S.2), .sh (wyP u), .sh (wyP (turnP S.2 u))]
      apply hK.go
      clear hK K2
      refine ss_go fun K2 hK => ?_
      array_get_dec
      apply hK.go
      array_get_dec
      exact this
  · rintro e ⟨ys, zs, s, t, e1, e2, rfl⟩
    have : zs = [] := by cases zs with | nil => rfl | cons => exact nomatch e2
    subst this
    rw [List.append_nil] at e1
    subst e1
    clear e2
    array_get_dec
    apply hK.go
    array_get_dec
end G

/-! ### M10: rays turned, drawn, mixed -/
namespace G
open PySem PySem.Spec L2
open PyProof.Rows hiding St
def c_turned : Ct := fun ds Q => match ds with
  | [.tuple [.int a, .int b], .tuple [.int c, .int d]] => Nz a b ∧ Int.gcd a b = 1 ∧ Nz c d ∧ Int.gcd c d = 1 ∧ Sz a 3000 ∧ Sz b 3000 ∧ Sz c 3000 ∧ Sz d 3000 ∧ Q (lowD (a * c - b * d) (a * d + b * c)) false []
  | _ => False
theorem c_turned_eq {a b c d Q} : c_turned [.tuple [.int a, .int b], .tuple [.int c, .int d]] Q = (Nz a b ∧ Int.gcd a b = 1 ∧ Nz c d ∧ Int.gcd c d = 1 ∧ Sz a 3000 ∧ Sz b 3000 ∧ Sz c 3000 ∧ Sz d 3000 ∧ Q (lowD (a * c - b * d) (a * d + b * c)) false []) := rfl
def c_turned_back : Ct := fun ds Q => match ds with
  | [.tuple [.int a, .int b], .tuple [.int c, .int d]] => Nz a b ∧ Int.gcd a b = 1 ∧ Nz c d ∧ Int.gcd c d = 1 ∧ Sz a 3000 ∧ Sz b 3000 ∧ Sz c 3000 ∧ Sz d 3000 ∧ Q (lowD (a * c - b * -d) (a * -d + b * c)) false []
  | _ => False
theorem c_turned_back_eq {a b c d Q} : c_turned_back [.tuple [.int a, .int b], .tuple [.int c, .int d]] Q = (Nz a b ∧ Int.gcd a b = 1 ∧ Nz c d ∧ Int.gcd c d = 1 ∧ Sz a 3000 ∧ Sz b 3000 ∧ Sz c 3000 ∧ Sz d 3000 ∧ Q (lowD (a * c - b * -d) (a * -d + b * c)) false []) := rfl
def c_law_back : Ct := fun ds Q => match ds with
  | [.tuple [.int a, .int b], .tuple [.int c, .int d]] => Nz a b ∧ Nz c d ∧ Sz a 3000 ∧ Sz b 3000 ∧ Sz c 3000 ∧ Sz d 3000 ∧ Q (lowD (a * c - b * -d) (a * -d + b * c)) false []
  | _ => False
theorem c_law_back_eq {a b c d Q} : c_law_back [.tuple [.int a, .int b], .tuple [.int c, .int d]] Q = (Nz a b ∧ Nz c d ∧ Sz a 3000 ∧ Sz b 3000 ∧ Sz c 3000 ∧ Sz d 3000 ∧ Q (lowD (a * c - b * -d) (a * -d + b * c)) false []) := rfl
def powP (u : P2) : Nat → P2
  | 0 => (1, 0)
  | n + 1 => turnP (powP u n) u
def c_times : Ct := fun ds Q => ∃ (u : P2) (n : Nat), ds = [wyP u, .int n] ∧ RayOk 41 u ∧ n ≤ 60 ∧ Q (wyP (powP u n)) false []
theorem pow_ok {u : P2} {b : Nat} (h : RayOk b u) : ∀ n, RayOk ((b + 1) * n + 2) (powP u n)
  | 0 => ray10_ok
  | n + 1 => (turn_ok (pow_ok h n) h).mono (by rw [Nat.mul_add]; omega)
/-- drawn in any order -/
def c_law_mixed : Ct := fun ds Q => ∃ (h : D) (rs : List P2), ds = [h, .tuple (rs.map wyP)] ∧ rs.length ≤ 1000 ∧ ∃ n, Hand n h ∧ n < 2 ^ 58 ∧ ∀ (qs : List P2) (h' : D), qs.Perm rs → Hand (n + 1000) h' → Q (.list (qs.map wyP)) true [h']
def c_law_ray : Ct := fun ds Q => ∃ h : D, ds = [h] ∧ ∃ n, Hand n h ∧ n < 2 ^ 58 ∧ ∀ (x y : Int) (h' : D), Nz x y → Int.gcd x y = 1 → Sz x 41 → Sz y 41 → Hand (n + 11) h' → Q (.tuple [.int x, .int y]) false [h']
theorem c_law_ray_eq {h Q} : c_law_ray [h] Q = ∃ n, Hand n h ∧ n < 2 ^ 58 ∧ ∀ (x y : Int) (h' : D), Nz x y → Int.gcd x y = 1 → Sz x 41 → Sz y 41 → Hand (n + 11) h' → Q (.tuple [.int x, .int y]) false [h'] := by
  apply propext; constructor
  · rintro ⟨_, ⟨rfl⟩, h⟩; exact h
  · intro h; exact ⟨_, rfl, h⟩
def c_law_small : Ct := fun ds Q => ∃ h : D, ds = [h] ∧ ∃ n, Hand n h ∧ n < 2 ^ 58 ∧ ∀ (x y : Int) (h' : D), Nz x y → Int.gcd x y = 1 → Sz x 5 → Sz y 5 → Hand (n + 11) h' → Q (.tuple [.int x, .int y]) false [h']
theorem c_law_small_eq {h Q} : c_law_small [h] Q = ∃ n, Hand n h ∧ n < 2 ^ 58 ∧ ∀ (x y : Int) (h' : D), Nz x y → Int.gcd x y = 1 → Sz x 5 → Sz y 5 → Hand (n + 11) h' → Q (.tuple [.int x, .int y]) false [h'] := by
  apply propext; constructor
  · rintro ⟨_, ⟨rfl⟩, h⟩; exact h
  · intro h; exact ⟨_, rfl, h⟩
theorem nz_neg {c d : Int} (h : Nz c d) : Nz c (-d) := h.imp id fun h => by omega
theorem gcd_neg' {c d : Int} (h : Int.gcd c d = 1) : Int.gcd c (-d) = 1 := by rw [Int.gcd_neg]; exact h
local macro_rules | `(tactic| array_get_dec) => `(tactic| simp only [*, ↓c_turned_eq, ↓c_turned_back_eq, ↓c_law_back_eq, ↓c_law_ray_eq, ↓c_law_small_eq, ↓c_raw_turned_eq, ↓c_law_product_eq, ↓c_raw_half_eq, ↓c_law_half_eq, ↓c_raw_first_eq, ↓c_law_is_first_eq, ↓c_check_rays_eq,
    ↓c_raw_mirrored_eq, ↓c_mirrored_eq, ↓c_is_within_eq, ↓c_check_number_eq, ↓c_check_all_rays_eq, ↓c_is_sized_eq, ↓c_is_integer_eq, ↓c_is_pair_eq, ↓c_raw_sight_eq, ↓c_sight_eq, ↓c_raw_led_eq, ↓c_led_eq, ↓c_lowest_eq,
    ↓c_along_eq, ↓c_aside_eq, ↓c_right_of_eq, ↓c_opposite_eq, ↓cWay_eq, ↓c_is_way_eq, ↓c_is_ray_eq, ↓c_check_way_eq, ↓c_check_ray_eq, ↓c_check_ways_eq, ↓c_law_low_eq, ↓c_raw_lowest_eq, ↓c_raw_along_eq, ↓c_raw_aside_eq,
    okIn_wy, cpow_10, ↓cDraw_eq, ↓cAny_eq, ↓cGreat_eq, ↓cGcd_eq, ↓cLike_eq, Nat.add_zero, true_implies, ↓c_eqP, ↓c_neP, ↓oo_var, ↓oo_cst, ↓oo_con, ↓oo_rev, ↓oo_dic0, ↓oo_tup, ↓oo_lst, ↓oo_bin, ↓oo_neg, ↓oo_cmp, ↓oo_chain,
    ↓oo_not, ↓oo_and, ↓oo_or, ↓oo_ite, ↓oo_call, ↓oo_blt, ↓oo_isi, ↓oo_idx, ↓oo_slc, ↓oo_comp, ↓oo_pop, ↓rt_var, ↓rt_cst, ↓rt_con, ↓rt_rev, ↓rt_dic0, ↓rt_tup, ↓rt_lst, ↓rt_bin, ↓rt_neg, ↓rt_cmp, ↓rt_chain, ↓rt_not, ↓rt_and,
    ↓rt_or, ↓rt_ite, ↓rt_call, ↓rt_blt, ↓rt_isi, ↓rt_idx, ↓rt_slc, ↓rt_comp, ↓rt_pop, ↓rdS_eq, ↓rd_late, ↓rd_val, ↓isL_eq, ↓ag_nil, ↓ag_val, ↓ag_io, ↓puts_nil, ↓puts_cons, ↓tg_nm, ↓tg_tup, ↓tgs_nil, ↓tgs_cons, ↓ex_int,
    ↓ex_bool, ↓ex_list, ↓ex_int2, ↓item_l, ↓item_t, ↓sx_eq, ↓o_addI, ↓o_addS, ↓o_addL, ↓o_addT, ↓o_sub, ↓o_mul, ↓o_mod, ↓o_div, ↓o_pow, ↓o_mulT, ↓o_mulL, ↓c_lt, ↓c_le, ↓c_gt, ↓c_ge, ↓c_eqI, ↓c_neI, ↓c_eqS, ↓c_neS, ↓c_eqL,
    ↓c_neL, ↓c_in, ↓c_nin, ↓c_inT, ↓c_ninT, ↓c_inS, ↓rv_l, ↓rv_t, ↓c_isN, ↓c_isnN, ↓c_isB, ↓c_isnB, ↓bb_lenL, ↓bb_lenT, ↓bb_lenS, ↓bb_int, ↓bb_intB, ↓bb_abs, ↓bb_tupL, ↓bb_tupT, ↓bb_lstL, ↓bb_lstT, ↓bb_allM, ↓bb_rep,
    ↓t_none, ↓t_bool, ↓t_int, ↓t_list, ↓t_tup, ↓its_l, ↓its_t, ↓sl_l, ↓sl_t, ↓sl_s, ↓forB_eq, ↓w_con, ↓w_rev, ↓w_wpE_0, ↓w_wpE_2, ↓w_wpE_3, ↓w_wpE_4, ↓w_wpE_5, ↓w_wpE_6, ↓w_wpE_7, ↓w_wpE_8, ↓w_wpE_9, ↓w_wpE_10, ↓w_wpE_11,
    ↓w_wpE_12, ↓w_wpE_13, ↓w_wpE_14, ↓w_wpE_15, ↓w_wpE_16, ↓w_wpE_17, ↓w_wpE_18, ↓w_wpE_19, ↓w_wpE_20, ↓w_wpT_0, ↓w_wpT_1, ↓w_wpT_2, ↓w_wpT_3, ↓w_wpT_4, ↓w_wpP_0, ↓w_wpP_1, ↓w_wpC_0, ↓w_wpC_1, ↓w_wpEs_0, ↓w_wpEs_1,
    ↓w_wpVs_0, ↓w_wpVs_1, ↓w_wpAs_0, ↓w_wpAs_1, ↓w_wpAs_2, ↓w_wpIt_0, ↓w_wpIt_1, ↓w_wpIt_2, ↓w_wpIt_3, ↓w_wpS_1, ↓w_wpS_2, ↓w_wpS_3, ↓w_wpS_4, ↓w_wpS_5, ↓w_wpS_6, ↓w_wpS_7, ↓w_wpS_8, ↓w_wpS_9, ↓w_wpS_10, ↓w_wpS_11,
    ↓w_wpS_12, ↓w_wpS_13, ↓w_wpSs_0, ↓w_wpSs_1, rtO_own, rtO_sh, rtO_lock, rdO_own, rdO_sh, rdO_lock, isO_own, agO_own, fin_nil, fin_t, fin_f, put_t, put_f, ous_nil, ous_nil, ous_cons, ios_nil, ios_io, ios_val, itO_some,
    atI_0, atI_1, atI_2, atI_3, atI_4, atI_5, sxO_some, ixN_0, ixN_1, ixN_2, ixN_3, ixN_4, get_0, sett_0, get_1, sett_1, get_2, sett_2, get_3, sett_3, get_4, sett_4, get_5, sett_5, get_6, sett_6, get_7, sett_7, get_8,
    sett_8, get_9, sett_9, get_10, sett_10, get_11, sett_11, get_12, sett_12, get_13, sett_13, get_14, sett_14, get_15, sett_15, get_16, sett_16, get_17, sett_17, get_18, sett_18, get_19, sett_19, get_20, sett_20, get_21,
    sett_21, get_22, sett_22, get_23, sett_23, shr_own, shr_lock, shr_sh, shr_un, share_eq, getD_s, cn_none, cn_bool, cn_int, cn_str, natD_eq, ty_int_none, ty_int_bool, ty_int_int, ty_int_str, ty_int_list, ty_int_tuple,
    ty_int_dict, ty_bool_none, ty_bool_bool, ty_bool_int, ty_bool_str, ty_bool_list, ty_bool_tuple, ty_bool_dict, ty_str_none, ty_str_bool, ty_str_int, ty_str_str, ty_str_list, ty_str_tuple, ty_str_dict, ty_tuple_none,
    ty_tuple_bool, ty_tuple_int, ty_tuple_str, ty_tuple_list, ty_tuple_tuple, ty_tuple_dict, ty_list_none, ty_list_bool, ty_list_int, ty_list_str, ty_list_list, ty_list_tuple, ty_list_dict, ty_dict_none, ty_dict_bool,
    ty_dict_int, ty_dict_str, ty_dict_list, ty_dict_tuple, ty_dict_dict, free_eq, fsO_some, freeB_un, freeB_sh, lockE, lockB, unlockE, restore, wipeE, List.length_cons, List.length_nil, Nat.zero_add, Nat.reduceAdd,
    ↓reduceIte, Bool.false_eq_true, true_and, and_true, Bool.not_true, Bool.not_false, decide_eq_true_eq, Bool.not_eq_true', decide_eq_false_iff_not, bne_iff_ne, sizeLine, Nat.reducePow, Nat.reduceLeDiff, Nat.reduceLT,
    List.nodup_cons, List.nodup_nil, List.not_mem_nil, not_false_eq_true, Int.natCast_add, List.length_map, Int.reduceToNat, Int.reducePow, Int.cast_ofNat_Int, Int.reduceLT, Int.reduceLE, Int.reduceEq, Int.reduceNe,
    Int.reduceMod, Int.reduceDiv, Int.reduceMul, Int.reduceAdd, Int.reduceSub, Int.reduceNeg, List.set_cons_zero, List.set_cons_succ, List.getElem?_cons_zero, List.getElem?_cons_succ, Bool.true_eq_false, okTy_i, okTy_t,
    okTy_l, okTy_s, okTy_b, okTy_n, okTy_d, decide_true, decide_false, Bool.and_true, Bool.true_and, Bool.false_and, Bool.and_false, Bool.and_eq_true, Nat.add_zero, true_implies, List.length_append, List.all_cons,
    List.all_nil, id_eq])
local macro_rules | `(tactic| array_mem_dec) => `(tactic| simp only [wpFn, startE, envA, List.length_cons, List.length_nil, Nat.reduceAdd, Nat.reduceSub, List.reduceReplicate, List.cons_append, List.nil_append, List.append_nil, true_and])
local macro_rules | `(tactic| sizeOf_list_dec) => `(tactic| repeat' (first | trivial | assumption | with_reducible apply And.intro | exact Sz.cmul (by decide +kernel) | exact Sz.cdiv (by decide +kernel) (by omega) | exact Sz.le (by decide +kernel) | exact Okd.shows (by decide +kernel) (by decide +kernel) (by decide +kernel) | (show CPow _ _; exact ⟨by decide, by decide, by decide⟩) | omega))

theorem turned_ok {C : Nat → Ct} {ds Q} {i10 : Nat} {i28 : Nat} (h10 : C i10 = c_raw_turned) (h28 : C i28 = c_check_rays) (h : c_turned ds Q) : wpFn C ⟨[false, false], 2, [
  .expr (.call i28 (.ev (.var 0) (.ev (.var 1) .nil))),
  .ret (.call i10 (.ev (.var 0) (.ev (.var 1) .nil)))]⟩ ds Q := by
  unfold c_turned at h
  split at h
  · obtain ⟨n1, g1, n2, g2, h1, h2, h3, h4, hQ⟩ := h
    array_mem_dec
    array_get_dec
  · exact h.elim
theorem turned_back_ok {C : Nat → Ct} {ds Q} {i10 : Nat} {i28 : Nat} {i30 : Nat} (h10 : C i10 = c_raw_turned) (h28 : C i28 = c_check_rays) (h30 : C i30 = c_raw_mirrored) (h : c_turned_back ds Q) : wpFn C ⟨[false, false], 2, [
  .expr (.call i28 (.ev (.var 0) (.ev (.var 1) .nil))),
  .ret (.call i10 (.ev (.var 0) (.ev (.call i30 (.ev (.var 1) .nil)) .nil)))]⟩ ds Q := by
  unfold c_turned_back at h
  split at h
  · obtain ⟨n1, g1, n2, g2, h1, h2, h3, h4, hQ⟩ := h
    have n3 := nz_neg n2
    have h5 : Sz (-_) 3000 := Sz.neg (h := h4)
    array_mem_dec
    array_get_dec
  · exact h.elim
theorem law_back_ok {C : Nat → Ct} {ds Q} {i17 : Nat} (h17 : C i17 = c_law_product) (h : c_law_back ds Q) : wpFn C ⟨[false, false], 2, [
  .ret (.call i17 (.ev (.var 0) (.ev (.tup (.cons (.idx (.var 1) (.cst (.int 0))) (.cons (.bin .Sub (.cst (.int 0)) (.idx (.var 1) (.cst (.int 1)))) .nil))) .nil)))]⟩ ds Q := by
  unfold c_law_back at h
  split at h
  · obtain ⟨n1, n2, h1, h2, h3, h4, hQ⟩ := h
    have n3 := nz_neg n2
    have h5 : Sz (-_) 3000 := Sz.neg (h := h4)
    array_mem_dec
    array_get_dec
    simp only [Int.zero_sub, *, true_and]
  · exact h.elim
theorem times_ok {C : Nat → Ct} {ds Q} {i7 : Nat} {i10 : Nat} {i26 : Nat} (h7 : C i7 = c_check_ray) (h10 : C i10 = c_raw_turned) (h26 : C i26 = c_check_number) (h : c_times ds Q) : wpFn C ⟨[false, false], 4, [
  .expr (.call i7 (.ev (.var 0) .nil)),
  .expr (.call i26 (.ev (.var 1) (.ev (.cst (.int 0)) (.ev (.con (.int 60)) .nil)))),
  .set 2 (.con (.tuple [.int 1, .int 0])),
  .fors (.nm 3) (.rng (.var 1)) [.set 2 (.call i10 (.ev (.var 2) (.ev (.var 0) .nil)))],
  .ret (.var 2)]⟩ ds Q := by
  obtain ⟨u, n, rfl, hu, hn, hQ⟩ := h
  have k1 := hu.nz
  have k2 := hu.one
  have k3 := hu.s1.mono (show 41 ≤ 3000 by decide)
  have k4 := hu.s2.mono (show 41 ≤ 3000 by decide)
  have n0 : (0 : Int) ≤ n := by omega
  have n1 : (n : Int) ≤ 60 := by omega
  array_mem_dec
  refine ss_go fun K hK => ?_
  array_get_dec
  apply hK.go
  clear hK K
  refine ss_go fun K hK => ?_
  array_get_dec
  apply hK.go
  clear hK K
  refine ss_go fun K hK => ?_
  array_get_dec
  apply hK.go
  clear hK K
  refine ss_go fun K hK => ?_
  array_get_dec
  refine ⟨by omega, by omega, ?_⟩
  have hlen : (rngD 0 (n : Int).toNat).length = n := by unfold rngD; rw [List.length_map, List.length_range, Int.toNat_natCast]
  refine forD_inv (fun xs e => ∃ s, xs.length ≤ n ∧ e = [.sh (wyP u), .sh (.int n), .sh (wyP (powP u (n - xs.length))), s]) ⟨.un, by omega, by rw [hlen, Nat.sub_self]; rfl⟩ ?_ ?_
  · rintro x xs e ⟨s, hl, rfl⟩ K' hK'
    rw [List.length_cons] at hl ⊢
    have hp := pow_ok hu (n - (xs.length + 1))
    have hp := hp.mono (show _ ≤ 3000 by omega)
    have := hK' _ ⟨.sh x, by omega, rfl⟩
    rw [show n - xs.length = n - (xs.length + 1) + 1 by omega] at this
    have p1 := hp.nz
    have p3 := hp.s1
    have p4 := hp.s2
    have e : powP u (n - (xs.length + 1) + 1) = turnP (powP u (n - (xs.length + 1))) u := rfl
    rw [e] at this
    clear e hp hK' hK hQ hl hlen
    generalize powP u (n - (xs.length + 1)) = w at *
    rw [tg_nm, put_f, sett_3, forB_eq]
    refine ss_go fun K2 hK => ?_
    array_get_dec
    apply hK.go
    array_get_dec
    exact this
  · rintro e ⟨s, hl, rfl⟩
    have e0 : n - ([] : List D).length = n := rfl
    rw [e0]
    array_get_dec
    apply hK.go
    array_get_dec
theorem shaped_wys (rs : List P2) : SeqAt.shaped (.list (rs.map wyP)) = true := by
  have h : ∀ rs : List P2, PyData.canLayAll0 (rs.map wyP) = true ∧ PyData.depthAll (rs.map wyP) ≤ 1 := by
    intro rs
    induction rs with
    | nil => exact ⟨rfl, Nat.zero_le _⟩
    | cons u rs ih =>
      refine ⟨?_, ?_⟩
      · show (true && PyData.canLayAll0 (rs.map wyP)) = true
        rw [ih.1]; rfl
      · show max 1 (PyData.depthAll (rs.map wyP)) ≤ 1
        have := ih.2; omega
  show (PyData.canLayAll0 (rs.map wyP) && decide (PyData.depthAll (rs.map wyP) + 1 ≤ 64)) = true
  have := h rs
  rw [this.1, decide_eq_true (by omega)]; rfl
theorem law_mixed_ok {C : Nat → Ct} {ds Q} {i21 : Nat} (h21 : C i21 = cDraw) (h : c_law_mixed ds Q) : wpFn C ⟨[true, false], 4, [
  .par [2, 3] (.cons (.blt .list (.var 1)) (.cons (.lst .nil) .nil)),
  .whl (.val (.cmp .NotEq (.var 2) (.lst .nil))) [.append 3 (.pop 2 (.call i21 (.io 0 (.ev (.blt .len (.var 2)) .nil))))],
  .ret (.var 3)]⟩ ds Q := by
  obtain ⟨h, rs, rfl, hl, n, hH, hn, hQ⟩ := h
  array_mem_dec
  refine ss_go fun K hK => ?_
  array_get_dec
  apply hK.go
  clear hK K
  refine ss_go fun K hK => ?_
  array_get_dec
  refine ⟨fun m e => ∃ (fs ls : List P2) (h : D), e = [.own h, .sh (.tuple (rs.map wyP)), .own (.list (ls.map wyP)), .own (.list (fs.map wyP))] ∧ m = ls.length ∧ (fs ++ ls).Perm rs ∧ Hand (n + fs.length) h, ⟨rs.length, [], rs, h, rfl, rfl, .refl _, hH⟩, ?_⟩
  rintro m e ⟨fs, ls, h, rfl, rfl, hp, H⟩
  have hlen := hp.length_eq
  rw [List.length_append] at hlen
  have s1 := shaped_wys ls
  have s2 : SeqAt.shaped (.list []) = true := rfl
  cases ls with
  | nil =>
    have e1 : PyData.eqv (.list (([] : List P2).map wyP)) (.list []) = true := rfl
    rw [List.append_nil] at hp
    have q := hQ fs h hp (H.mono (by have := hp.length_eq; omega))
    clear hp hlen H hH hQ
    array_get_dec
    apply hK.go
    array_get_dec
  | cons u ls =>
    have e1 : PyData.eqv (.list ((u :: ls).map wyP)) (.list []) = false := rfl
    have hpos : (0 : Int) < (u :: ls).length := by rw [List.length_cons]; omega
    have hfs : fs.length < 16777216 := by rw [List.length_cons] at hlen; omega
    generalize hL : u :: ls = L at *
    clear hL hQ hH
    array_get_dec
    refine ⟨_, H, by omega, by omega, fun d h' d0 d1 H' => ?_⟩
    obtain ⟨j, rfl⟩ := Int.eq_ofNat_of_zero_le d0
    have hj : j < L.length := by omega
    refine ⟨j, j, wyP L[j], rfl, by omega, by omega, (ixN_seq (ixN_nat j hj)).1, by rw [List.getElem?_map, List.getElem?_eq_getElem hj]; rfl, (L.eraseIdx j).length, ?_, fs ++ [L[j]], L.eraseIdx j, h', ?_, rfl, ?_, ?_⟩
    · rw [List.length_eraseIdx]; split <;> omega
    · rw [List.map_append, List.eraseIdx_eq_take_drop_succ, List.eraseIdx_eq_take_drop_succ, List.map_append, List.map_take, List.map_drop]; rfl
    · refine List.Perm.trans ?_ hp
      rw [List.append_assoc]
      refine List.Perm.append_left fs ?_
      rw [List.eraseIdx_eq_take_drop_succ]
      show (L[j] :: (L.take j ++ L.drop (j + 1))).Perm L
      refine List.Perm.trans (List.perm_middle (l₁ := L.take j) (l₂ := L.drop (j + 1))).symm ?_
      rw [List.getElem_cons_drop, List.take_append_drop]
    · rw [List.length_append]; exact H'
end G

/-! ### M11: rays drawn -/
namespace G
open PySem PySem.Spec L2
open PyProof.Rows hiding St
local macro_rules | `(tactic| array_get_dec) => `(tactic| simp only [*, ↓c_turned_eq, ↓c_turned_back_eq, ↓c_law_back_eq, ↓c_law_ray_eq, ↓c_law_small_eq, ↓c_raw_turned_eq, ↓c_law_product_eq, ↓c_raw_half_eq, ↓c_law_half_eq, ↓c_raw_first_eq, ↓c_law_is_first_eq, ↓c_check_rays_eq,
    ↓c_raw_mirrored_eq, ↓c_mirrored_eq, ↓c_is_within_eq, ↓c_check_number_eq, ↓c_check_all_rays_eq, ↓c_is_sized_eq, ↓c_is_integer_eq, ↓c_is_pair_eq, ↓c_raw_sight_eq, ↓c_sight_eq, ↓c_raw_led_eq, ↓c_led_eq, ↓c_lowest_eq,
    ↓c_along_eq, ↓c_aside_eq, ↓c_right_of_eq, ↓c_opposite_eq, ↓cWay_eq, ↓c_is_way_eq, ↓c_is_ray_eq, ↓c_check_way_eq, ↓c_check_ray_eq, ↓c_check_ways_eq, ↓c_law_low_eq, ↓c_raw_lowest_eq, ↓c_raw_along_eq, ↓c_raw_aside_eq,
    okIn_wy, cpow_10, ↓cDraw_eq, ↓cAny_eq, ↓cGreat_eq, ↓cGcd_eq, ↓cLike_eq, Nat.add_zero, true_implies, ↓c_eqP, ↓c_neP, ↓oo_var, ↓oo_cst, ↓oo_con, ↓oo_rev, ↓oo_dic0, ↓oo_tup, ↓oo_lst, ↓oo_bin, ↓oo_neg, ↓oo_cmp, ↓oo_chain,
    ↓oo_not, ↓oo_and, ↓oo_or, ↓oo_ite, ↓oo_call, ↓oo_blt, ↓oo_isi, ↓oo_idx, ↓oo_slc, ↓oo_comp, ↓oo_pop, ↓rt_var, ↓rt_cst, ↓rt_con, ↓rt_rev, ↓rt_dic0, ↓rt_tup, ↓rt_lst, ↓rt_bin, ↓rt_neg, ↓rt_cmp, ↓rt_chain, ↓rt_not, ↓rt_and,
    ↓rt_or, ↓rt_ite, ↓rt_call, ↓rt_blt, ↓rt_isi, ↓rt_idx, ↓rt_slc, ↓rt_comp, ↓rt_pop, ↓rdS_eq, ↓rd_late, ↓rd_val, ↓isL_eq, ↓ag_nil, ↓ag_val, ↓ag_io, ↓puts_nil, ↓puts_cons, ↓tg_nm, ↓tg_tup, ↓tgs_nil, ↓tgs_cons, ↓ex_int,
    ↓ex_bool, ↓ex_list, ↓ex_int2, ↓item_l, ↓item_t, ↓sx_eq, ↓o_addI, ↓o_addS, ↓o_addL, ↓o_addT, ↓o_sub, ↓o_mul, ↓o_mod, ↓o_div, ↓o_pow, ↓o_mulT, ↓o_mulL, ↓c_lt, ↓c_le, ↓c_gt, ↓c_ge, ↓c_eqI, ↓c_neI, ↓c_eqS, ↓c_neS, ↓c_eqL,
    ↓c_neL, ↓c_in, ↓c_nin, ↓c_inT, ↓c_ninT, ↓c_inS, ↓rv_l, ↓rv_t, ↓c_isN, ↓c_isnN, ↓c_isB, ↓c_isnB, ↓bb_lenL, ↓bb_lenT, ↓bb_lenS, ↓bb_int, ↓bb_intB, ↓bb_abs, ↓bb_tupL, ↓bb_tupT, ↓bb_lstL, ↓bb_lstT, ↓bb_allM, ↓bb_rep,
    ↓t_none, ↓t_bool, ↓t_int, ↓t_list, ↓t_tup, ↓its_l, ↓its_t, ↓sl_l, ↓sl_t, ↓sl_s, ↓forB_eq, ↓w_con, ↓w_rev, ↓w_wpE_0, ↓w_wpE_2, ↓w_wpE_3, ↓w_wpE_4, ↓w_wpE_5, ↓w_wpE_6, ↓w_wpE_7, ↓w_wpE_8, ↓w_wpE_9, ↓w_wpE_10, ↓w_wpE_11,
    ↓w_wpE_12, ↓w_wpE_13, ↓w_wpE_14, ↓w_wpE_15, ↓w_wpE_16, ↓w_wpE_17, ↓w_wpE_18, ↓w_wpE_19, ↓w_wpE_20, ↓w_wpT_0, ↓w_wpT_1, ↓w_wpT_2, ↓w_wpT_3, ↓w_wpT_4, ↓w_wpP_0, ↓w_wpP_1, ↓w_wpC_0, ↓w_wpC_1, ↓w_wpEs_0, ↓w_wpEs_1,
    ↓w_wpVs_0, ↓w_wpVs_1, ↓w_wpAs_0, ↓w_wpAs_1, ↓w_wpAs_2, ↓w_wpIt_0, ↓w_wpIt_1, ↓w_wpIt_2, ↓w_wpIt_3, ↓w_wpS_1, ↓w_wpS_2, ↓w_wpS_3, ↓w_wpS_4, ↓w_wpS_5, ↓w_wpS_6, ↓w_wpS_7, ↓w_wpS_8, ↓w_wpS_9, ↓w_wpS_10, ↓w_wpS_11,
    ↓w_wpS_12, ↓w_wpS_13, ↓w_wpSs_0, ↓w_wpSs_1, rtO_own, rtO_sh, rtO_lock, rdO_own, rdO_sh, rdO_lock, isO_own, agO_own, fin_nil, fin_t, fin_f, put_t, put_f, ous_nil, ous_nil, ous_cons, ios_nil, ios_io, ios_val, itO_some,
    atI_0, atI_1, atI_2, atI_3, atI_4, atI_5, sxO_some, ixN_0, ixN_1, ixN_2, ixN_3, ixN_4, get_0, sett_0, get_1, sett_1, get_2, sett_2, get_3, sett_3, get_4, sett_4, get_5, sett_5, get_6, sett_6, get_7, sett_7, get_8,
    sett_8, get_9, sett_9, get_10, sett_10, get_11, sett_11, get_12, sett_12, get_13, sett_13, get_14, sett_14, get_15, sett_15, get_16, sett_16, get_17, sett_17, get_18, sett_18, get_19, sett_19, get_20, sett_20, get_21,
    sett_21, get_22, sett_22, get_23, sett_23, shr_own, shr_lock, shr_sh, shr_un, share_eq, getD_s, cn_none, cn_bool, cn_int, cn_str, natD_eq, ty_int_none, ty_int_bool, ty_int_int, ty_int_str, ty_int_list, ty_int_tuple,
    ty_int_dict, ty_bool_none, ty_bool_bool, ty_bool_int, ty_bool_str, ty_bool_list, ty_bool_tuple, ty_bool_dict, ty_str_none, ty_str_bool, ty_str_int, ty_str_str, ty_str_list, ty_str_tuple, ty_str_dict, ty_tuple_none,
    ty_tuple_bool, ty_tuple_int, ty_tuple_str, ty_tuple_list, ty_tuple_tuple, ty_tuple_dict, ty_list_none, ty_list_bool, ty_list_int, ty_list_str, ty_list_list, ty_list_tuple, ty_list_dict, ty_dict_none, ty_dict_bool,
    ty_dict_int, ty_dict_str, ty_dict_list, ty_dict_tuple, ty_dict_dict, free_eq, fsO_some, freeB_un, freeB_sh, lockE, lockB, unlockE, restore, wipeE, List.length_cons, List.length_nil, Nat.zero_add, Nat.reduceAdd,
    ↓reduceIte, Bool.false_eq_true, true_and, and_true, Bool.not_true, Bool.not_false, decide_eq_true_eq, Bool.not_eq_true', decide_eq_false_iff_not, bne_iff_ne, sizeLine, Nat.reducePow, Nat.reduceLeDiff, Nat.reduceLT,
    List.nodup_cons, List.nodup_nil, List.not_mem_nil, not_false_eq_true, Int.natCast_add, List.length_map, Int.reduceToNat, Int.reducePow, Int.cast_ofNat_Int, Int.reduceLT, Int.reduceLE, Int.reduceEq, Int.reduceNe,
    Int.reduceMod, Int.reduceDiv, Int.reduceMul, Int.reduceAdd, Int.reduceSub, Int.reduceNeg, List.set_cons_zero, List.set_cons_succ, List.getElem?_cons_zero, List.getElem?_cons_succ, Bool.true_eq_false, okTy_i, okTy_t,
    okTy_l, okTy_s, okTy_b, okTy_n, okTy_d, decide_true, decide_false, Bool.and_true, Bool.true_and, Bool.false_and, Bool.and_false, Bool.and_eq_true, Nat.add_zero, true_implies, List.length_append, List.all_cons,
    List.all_nil, id_eq])
local macro_rules | `(tactic| array_mem_dec) => `(tactic| simp only [wpFn, startE, envA, List.length_cons, List.length_nil, Nat.reduceAdd, Nat.reduceSub, List.reduceReplicate, List.cons_append, List.nil_append, List.append_nil, true_and])
local macro_rules | `(tactic| sizeOf_list_dec) => `(tactic| repeat' (first | trivial | assumption | with_reducible apply And.intro | exact Sz.cmul (by decide +kernel) | exact Sz.cdiv (by decide +kernel) (by omega) | exact Sz.le (by decide +kernel) | exact Okd.shows (by decide +kernel) (by decide +kernel) (by decide +kernel) | (show CPow _ _; exact ⟨by decide, by decide, by decide⟩) | omega))

theorem law_ray_ok {C : Nat → Ct} {ds Q} {i16 : Nat} {i21 : Nat} {i22 : Nat} {i23 : Nat} (h16 : C i16 = c_law_low) (h21 : C i21 = cDraw) (h22 : C i22 = cAny) (h23 : C i23 = cGreat) (h : c_law_ray ds Q) : wpFn C ⟨[true], 5, [
  .par [1, 2] (.cons (.call i21 (.io 0 (.ev (.cst (.int 6)) .nil))) (.cons (.call i22 (.io 0 (.ev (.lst (.cons (.cst (.int 2)) (.cons (.cst (.int 5)) (.cons (.cst (.int 40)) (.cons (.bin .Pow (.cst (.int 10)) (.cst (.int 12))) .nil))))) .nil))) .nil)),
  .ife (.val (.cmp .Eq (.var 1) (.cst (.int 0)))) [.ret (.call i22 (.io 0 (.ev (.lst (.cons (.tup (.cons (.cst (.int 1)) (.cons (.cst (.int 0)) .nil))) (.cons (.tup (.cons (.cst (.int 0)) (.cons (.cst (.int 1)) .nil))) (.cons (.tup (.cons (.neg (.cst (.int 1))) (.cons (.cst (.int 0)) .nil))) (.cons (.tup (.cons (.cst (.int 0)) (.cons (.neg (.cst (.int 1))) .nil))) (.cons (.tup (.cons (.cst (.int 1)) (.cons (.cst (.int 1)) .nil))) (.cons (.tup (.cons (.neg (.cst (.int 1))) (.cons (.cst (.int 1)) .nil))) (.cons (.tup (.cons (.neg (.cst (.int 1))) (.cons (.neg (.cst (.int 1))) .nil))) (.cons (.tup (.cons (.cst (.int 1)) (.cons (.neg (.cst (.int 1))) .nil))) .nil))))))))) .nil)))] [],
  .par [3, 4] (.cons (.call i23 (.io 0 (.ev (.var 2) .nil))) (.cons (.call i23 (.io 0 (.ev (.var 2) .nil))) .nil)),
  .ife (.val (.cmp .Eq (.var 1) (.cst (.int 1)))) [.setT (.tup [(.nm 3), (.nm 4)]) (.call i22 (.io 0 (.ev (.lst (.cons (.tup (.cons (.bin .Pow (.cst (.int 10)) (.cst (.int 9))) (.cons (.cst (.int 1)) .nil))) (.cons (.tup (.cons (.neg (.bin .Pow (.cst (.int 10)) (.cst (.int 9)))) (.cons (.cst (.int 1)) .nil))) (.cons (.tup (.cons (.cst (.int 1)) (.cons (.bin .Pow (.cst (.int 10)) (.cst (.int 9))) .nil))) (.cons (.tup (.cons (.bin .Pow (.cst (.int 10)) (.cst (.int 9))) (.cons (.neg (.cst (.int 1))) .nil))) (.cons (.tup (.cons (.neg (.cst (.int 1))) (.cons (.neg (.bin .Pow (.cst (.int 10)) (.cst (.int 9)))) .nil))) (.cons (.tup (.cons (.var 3) (.cons (.cst (.int 1)) .nil))) .nil))))))) .nil)))] [],
  .ret (.ite (.val (.cmp .NotEq (.tup (.cons (.var 3) (.cons (.var 4) .nil))) (.tup (.cons (.cst (.int 0)) (.cons (.cst (.int 0)) .nil))))) (.call i16 (.ev (.var 3) (.ev (.var 4) .nil))) (.tup (.cons (.cst (.int 1)) (.cons (.cst (.int 0)) .nil))))]⟩ ds Q := by
  obtain ⟨h, rfl, n, hH, hn, hQ⟩ := h
  array_mem_dec
  refine ss_go fun K hK => ?_
  array_get_dec
  refine ⟨n, hH, by omega, fun k h1 k0 k1 H1 => ⟨_, H1, by omega, fun x h2 hx H2 => ?_⟩⟩
  obtain ⟨m, rfl, m0, m1⟩ : ∃ m : Int, x = .int m ∧ 1 ≤ m ∧ m ≤ 10 ^ 12 := by
    simp only [List.mem_cons, List.not_mem_nil, or_false] at hx
    rcases hx with rfl | rfl | rfl | rfl <;> exact ⟨_, rfl, by omega, by omega⟩
  apply hK.go
  clear hK K hx
  refine ss_go fun K hK => ?_
  by_cases kz : k = 0
  · array_get_dec
    refine ⟨_, H2, by omega, fun x h3 hx H3 => ?_⟩
    simp only [List.mem_cons, List.not_mem_nil, or_false] at hx
    rcases hx with rfl | rfl | rfl | rfl | rfl | rfl | rfl | rfl <;> exact hQ _ _ _ (by decide) (by decide) ⟨by decide⟩ ⟨by decide⟩ (H3.mono (by omega))
  · array_get_dec
    apply hK.go
    clear hK K
    refine ss_go fun K hK => ?_
    array_get_dec
    refine ⟨_, H2, by omega, by omega, fun x h3 x0 x1 H3 => ⟨_, H3, by omega, by omega, fun y h4 y0 y1 H4 => ?_⟩⟩
    apply hK.go
    clear hK K
    have fin : ∀ (x y : Int) (h : D), -(10 ^ 12) ≤ x → x ≤ 10 ^ 12 → -(10 ^ 12) ≤ y → y ≤ 10 ^ 12 → Hand (n + 11) h → Nz x y → Q (lowD x y) false [h] := by
      intro x y h a b c d H z
      have sx : Sz x 41 := .of (by omega) (by omega)
      have sy : Sz y 41 := .of (by omega) (by omega)
      exact hQ _ _ _ (low_nz z) (low_one z) Sz.ediv Sz.ediv H
    have one : ∀ h, Hand (n + 11) h → Q (.tuple [.int 1, .int 0]) false [h] := fun h H => hQ _ _ _ (by decide) (by decide) ⟨by decide⟩ ⟨by decide⟩ H
    have end_ : ∀ (x y : Int) (h : D) (K : En → Prop), -(10 ^ 12) ≤ x → x ≤ 10 ^ 12 → -(10 ^ 12) ≤ y → y ≤ 10 ^ 12 → Hand (n + 11) h →
        if (decide (x = 0) && decide (y = 0)) = false then Nz x y ∧ Sz x 8000 ∧ Sz y 8000 ∧ Q (lowD x y) false [h] else Q (.tuple [.int 1, .int 0]) false [h] := by
      intro x y h K a b c d H
      split
      · rename_i z
        simp only [Bool.and_eq_false_iff, decide_eq_false_iff_not] at z
        have sx : Sz x 41 := .of (by omega) (by omega)
        have sy : Sz y 41 := .of (by omega) (by omega)
        exact ⟨z, Sz.le (by decide +kernel), Sz.le (by decide +kernel), fin x y h a b c d H z⟩
      · exact one h H
    clear hQ fin one
    refine ss_go fun K hK => ?_
    by_cases kone : k = 1
    · array_get_dec
      refine ⟨_, H4, by omega, fun u h5 hu H5 => ?_⟩
      obtain ⟨a, b, rfl, a0, a1, b0, b1⟩ : ∃ a b : Int, u = .tuple [.int a, .int b] ∧ -(10 ^ 12) ≤ a ∧ a ≤ 10 ^ 12 ∧ -(10 ^ 12) ≤ b ∧ b ≤ 10 ^ 12 := by
        simp only [List.mem_cons, List.not_mem_nil, or_false] at hu
        rcases hu with rfl | rfl | rfl | rfl | rfl | rfl <;> exact ⟨_, _, rfl, by omega, by omega, by omega, by omega⟩
      have e := end_ a b h5 K a0 a1 b0 b1 (H5.mono (by omega))
      clear end_ hu kz
      array_get_dec
      apply hK.go
      clear hK
      refine ss_go fun K2 hK => ?_
      array_get_dec
    · have e := end_ x y h4 K (by omega) (by omega) (by omega) (by omega) (H4.mono (by omega))
      clear end_
      array_get_dec
      apply hK.go
      clear hK
      refine ss_go fun K2 hK => ?_
      array_get_dec
theorem law_small_ok {C : Nat → Ct} {ds Q} {i16 : Nat} {i21 : Nat} {i22 : Nat} (h16 : C i16 = c_law_low) (h21 : C i21 = cDraw) (h22 : C i22 = cAny) (h : c_law_small ds Q) : wpFn C ⟨[true], 2, [
  .set 1 (.call i16 (.ev (.bin .Sub (.call i21 (.io 0 (.ev (.cst (.int 9)) .nil))) (.cst (.int 4))) (.ev (.bin .Add (.cst (.int 1)) (.call i21 (.io 0 (.ev (.cst (.int 4)) .nil)))) .nil))),
  .ret (.call i22 (.io 0 (.ev (.bin .Add (.bin .Mult (.lst (.cons (.var 1) .nil)) (.cst (.int 7))) (.lst (.cons (.tup (.cons (.cst (.int 1)) (.cons (.cst (.int 0)) .nil))) (.cons (.tup (.cons (.neg (.cst (.int 1))) (.cons (.cst (.int 0)) .nil))) (.cons (.tup (.cons (.cst (.int 0)) (.cons (.cst (.int 1)) .nil))) (.cons (.tup (.cons (.cst (.int 0)) (.cons (.neg (.cst (.int 1))) .nil))) (.cons (.tup (.cons (.cst (.int 1)) (.cons (.neg (.cst (.int 1))) .nil))) (.cons (.tup (.cons (.cst (.int 3)) (.cons (.neg (.cst (.int 4))) .nil))) (.cons (.tup (.cons (.cst (.int 2)) (.cons (.neg (.cst (.int 1))) .nil))) .nil))))))))) .nil)))]⟩ ds Q := by
  obtain ⟨h, rfl, n, hH, hn, hQ⟩ := h
  array_mem_dec
  refine ss_go fun K hK => ?_
  array_get_dec
  refine ⟨n, hH, by omega, fun a h1 a0 a1 H1 => ⟨_, H1, by omega, fun b h2 b0 b1 H2 => ?_⟩⟩
  have z : Nz (a - 4) (1 + b) := .inr (by omega)
  have s1 : Sz (a - 4) 5 := .of (by omega) (by omega)
  have s2 : Sz (1 + b) 5 := .of (by omega) (by omega)
  refine ⟨z, Sz.le (by decide +kernel), Sz.le (by decide +kernel), ?_⟩
  have ok : ∀ h, Hand (n + 11) h → Q (lowD (a - 4) (1 + b)) false [h] := fun h H => hQ _ _ _ (low_nz z) (low_one z) ((Sz.ediv (h := s1)).mono (by omega)) ((Sz.ediv (h := s2)).mono (by omega)) H
  apply hK.go
  clear hK K
  generalize lowD (a - 4) (1 + b) = R at *
  refine ss_go fun K hK => ?_
  array_get_dec
  have hl : (List.replicate 7 [R]).flatten = [R, R, R, R, R, R, R] := rfl
  rw [hl]
  have hn7 : [R, R, R, R, R, R, R].length = 7 := rfl
  rw [hn7]
  refine ⟨by decide, by decide, _, H2, by omega, by decide, by decide, fun x h3 hx H3 => ?_⟩
  simp only [List.cons_append, List.nil_append, List.mem_cons, List.not_mem_nil, or_false] at hx
  have H := H3.mono (show n + 1 + 1 + 1 ≤ n + 11 by omega)
  have R0 := ok _ H
  rcases hx with rfl | rfl | rfl | rfl | rfl | rfl | rfl | rfl | rfl | rfl | rfl | rfl | rfl | rfl <;> first | exact R0 | exact hQ _ _ _ (by decide) (by decide) ⟨by decide⟩ ⟨by decide⟩ H
end G

/-! ### the text: each def's small program, as the compiler makes it -/
namespace G
open PySem PySem.Spec L2
open PyProof.Rows hiding St
def top (i : Nat) : Stmt := PySem.Challenge.pw_whogivesway_k02_whole_rays_turned_and_wh.main.body.getD i (.Pass ⟨0, 0, 0, 0⟩)
def f_law_hand : Fn := ⟨[false], 3, [
  .set 1 (.comp [2] (.bin .Mod (.blt .int (.blt .abs (.blt .int (.var 2)))) (.bin .Pow (.cst (.int 10)) (.cst (.int 36)))) (.nm 2) (.of (.slc (.var 0) .no (.yes (.cst (.int 60))))) .no),
  .ret (.lst (.cons (.var 1) (.cons (.cst (.int 0)) (.cons (.cst (.int 0)) (.cons (.bin .Add (.cst (.int 71227)) (.bin .Mult (.cst (.int 31)) (.blt .len (.var 1)))) (.cons (.cst (.int 0)) .nil))))))]⟩
def f_is_sized : Fn := ⟨[false, false, false], 3, [
  .ret (.and (.isi (.var 0) .tuple) (.chain .LtE .LtE (.var 1) (.blt .len (.var 0)) (.var 2)))]⟩
def f_is_integer : Fn := ⟨[false], 1, [
  .ret (.and (.isi (.var 0) .int) (.not (.val (.isi (.var 0) .bool))))]⟩
def f_is_pair : Fn := ⟨[false], 1, [
  .ret (.and (.call 1 (.ev (.var 0) (.ev (.cst (.int 2)) (.ev (.cst (.int 2)) .nil)))) (.and (.call 2 (.ev (.idx (.var 0) (.cst (.int 0))) .nil)) (.call 2 (.ev (.idx (.var 0) (.cst (.int 1))) .nil))))]⟩
def f_is_way : Fn := ⟨[false], 1, [
  .ret (.and (.call 3 (.ev (.var 0) .nil)) (.cmp .NotEq (.var 0) (.tup (.cons (.cst (.int 0)) (.cons (.cst (.int 0)) .nil)))))]⟩
def f_shared : Fn := ⟨[false, false], 4, [
  .par [2, 3] (.cons (.blt .abs (.var 0)) (.cons (.blt .abs (.var 1)) .nil)),
  .whl (.val (.cmp .Gt (.var 3) (.cst (.int 0)))) [.par [2, 3] (.cons (.var 3) (.cons (.bin .Mod (.blt .int (.var 2)) (.var 3)) .nil))],
  .ret (.var 2)]⟩
def f_is_ray : Fn := ⟨[false], 1, [
  .ret (.and (.call 4 (.ev (.var 0) .nil)) (.cmp .Eq (.call 5 (.ev (.idx (.var 0) (.cst (.int 0))) (.ev (.idx (.var 0) (.cst (.int 1))) .nil))) (.cst (.int 1))))]⟩
def f_check_ray : Fn := ⟨[false], 1, [
  .ife (.not (.val (.call 6 (.ev (.var 0) .nil)))) [.bad] []]⟩
def f_check_all_rays : Fn := ⟨[false], 2, [
  .ife (.not (.val (.isi (.var 0) .tuple))) [.bad] [],
  .fors (.nm 1) (.of (.var 0)) [.expr (.call 7 (.ev (.var 1) .nil))]]⟩
def f_raw_lowest : Fn := ⟨[false], 2, [
  .set 1 (.call 5 (.ev (.idx (.var 0) (.cst (.int 0))) (.ev (.idx (.var 0) (.cst (.int 1))) .nil))),
  .ret (.tup (.cons (.bin .FloorDiv (.idx (.var 0) (.cst (.int 0))) (.var 1)) (.cons (.bin .FloorDiv (.idx (.var 0) (.cst (.int 1))) (.var 1)) .nil)))]⟩
def f_raw_turned : Fn := ⟨[false, false], 2, [
  .ret (.call 9 (.ev (.tup (.cons (.bin .Sub (.bin .Mult (.idx (.var 0) (.cst (.int 0))) (.idx (.var 1) (.cst (.int 0)))) (.bin .Mult (.idx (.var 0) (.cst (.int 1))) (.idx (.var 1) (.cst (.int 1))))) (.cons (.bin .Add (.bin .Mult (.idx (.var 0) (.cst (.int 0))) (.idx (.var 1) (.cst (.int 1)))) (.bin .Mult (.idx (.var 0) (.cst (.int 1))) (.idx (.var 1) (.cst (.int 0))))) .nil))) .nil))]⟩
def f_raw_half : Fn := ⟨[false], 1, [
  .ife (.val (.cmp .NotEq (.idx (.var 0) (.cst (.int 1))) (.cst (.int 0)))) [.ret (.ite (.val (.cmp .Gt (.idx (.var 0) (.cst (.int 1))) (.cst (.int 0)))) (.cst (.int 0)) (.cst (.int 1)))] [],
  .ret (.ite (.val (.cmp .Gt (.idx (.var 0) (.cst (.int 0))) (.cst (.int 0)))) (.cst (.int 0)) (.cst (.int 1)))]⟩
def f_raw_first : Fn := ⟨[false, false], 2, [
  .ife (.val (.cmp .NotEq (.call 11 (.ev (.var 0) .nil)) (.call 11 (.ev (.var 1) .nil)))) [.ret (.cmp .Lt (.call 11 (.ev (.var 0) .nil)) (.call 11 (.ev (.var 1) .nil)))] [],
  .ret (.cmp .Gt (.bin .Sub (.bin .Mult (.idx (.var 0) (.cst (.int 0))) (.idx (.var 1) (.cst (.int 1)))) (.bin .Mult (.idx (.var 0) (.cst (.int 1))) (.idx (.var 1) (.cst (.int 0))))) (.cst (.int 0)))]⟩
def f_wide_sum : Fn := ⟨[false], 5, [
  .expr (.call 8 (.ev (.var 0) .nil)),
  .par [1, 2] (.cons (.cst (.int 0)) (.cons (.con (.tuple [.int 1, .int 0])) .nil)),
  .fors (.nm 3) (.of (.var 0)) [.set 4 (.call 10 (.ev (.var 2) (.ev (.var 3) .nil))), .set 1 (.bin .Add (.var 1) (.blt .int (.call 12 (.ev (.var 4) (.ev (.var 2) .nil))))), .set 2 (.var 4)],
  .ret (.tup (.cons (.var 1) (.cons (.var 2) .nil)))]⟩
def f_law_like : Fn := ⟨[false, false], 2, [
  .ret (.cmp .Eq (.blt .repr (.var 0)) (.blt .repr (.var 1)))]⟩
def f_law_common : Fn := ⟨[false, false], 2, [
  .par [0, 1] (.cons (.blt .abs (.var 0)) (.cons (.blt .abs (.var 1)) .nil)),
  .whl (.val (.cmp .Gt (.var 1) (.cst (.int 0)))) [.par [0, 1] (.cons (.var 1) (.cons (.bin .Mod (.blt .int (.var 0)) (.var 1)) .nil))],
  .ret (.var 0)]⟩
def f_law_low : Fn := ⟨[false, false], 3, [
  .set 2 (.call 15 (.ev (.var 0) (.ev (.var 1) .nil))),
  .ret (.tup (.cons (.bin .FloorDiv (.var 0) (.var 2)) (.cons (.bin .FloorDiv (.var 1) (.var 2)) .nil)))]⟩
def f_law_product : Fn := ⟨[false, false], 2, [
  .ret (.call 16 (.ev (.bin .Sub (.bin .Mult (.idx (.var 0) (.cst (.int 0))) (.idx (.var 1) (.cst (.int 0)))) (.bin .Mult (.idx (.var 0) (.cst (.int 1))) (.idx (.var 1) (.cst (.int 1))))) (.ev (.bin .Add (.bin .Mult (.idx (.var 0) (.cst (.int 0))) (.idx (.var 1) (.cst (.int 1)))) (.bin .Mult (.idx (.var 0) (.cst (.int 1))) (.idx (.var 1) (.cst (.int 0))))) .nil)))]⟩
def f_law_half : Fn := ⟨[false], 1, [
  .ret (.ite (.or (.val (.cmp .Gt (.idx (.var 0) (.cst (.int 1))) (.cst (.int 0)))) (.and (.val (.cmp .Eq (.idx (.var 0) (.cst (.int 1))) (.cst (.int 0)))) (.val (.cmp .Gt (.idx (.var 0) (.cst (.int 0))) (.cst (.int 0)))))) (.cst (.int 0)) (.cst (.int 1)))]⟩
def f_law_is_first : Fn := ⟨[false, false], 2, [
  .ife (.val (.cmp .NotEq (.call 18 (.ev (.var 0) .nil)) (.call 18 (.ev (.var 1) .nil)))) [.ret (.cmp .Lt (.call 18 (.ev (.var 0) .nil)) (.call 18 (.ev (.var 1) .nil)))] [],
  .ret (.cmp .Gt (.bin .Sub (.bin .Mult (.idx (.var 0) (.cst (.int 0))) (.idx (.var 1) (.cst (.int 1)))) (.bin .Mult (.idx (.var 0) (.cst (.int 1))) (.idx (.var 1) (.cst (.int 0))))) (.cst (.int 0)))]⟩
def f_law_sum : Fn := ⟨[false], 5, [
  .setT (.tup [(.nm 1), (.nm 2)]) (.tup (.cons (.cst (.int 0)) (.cons (.tup (.cons (.cst (.int 1)) (.cons (.cst (.int 0)) .nil))) .nil))),
  .fors (.nm 3) (.of (.var 0)) [.set 4 (.call 17 (.ev (.var 2) (.ev (.var 3) .nil))), .par [1, 2] (.cons (.bin .Add (.var 1) (.blt .int (.call 19 (.ev (.var 4) (.ev (.var 2) .nil))))) (.cons (.var 4) .nil))],
  .ret (.tup (.cons (.var 1) (.cons (.var 2) .nil)))]⟩
def f_law_draw : Fn := ⟨[true, false], 5, [
  .ife (.and (.val (.cmp .Eq (.idx (.var 0) (.cst (.int 2))) (.cst (.int 0)))) (.val (.cmp .Lt (.idx (.var 0) (.cst (.int 1))) (.blt .len (.idx (.var 0) (.cst (.int 0))))))) [.set 2 (.idx (.idx (.var 0) (.cst (.int 0))) (.idx (.var 0) (.cst (.int 1)))), .setIx 0 (.cst (.int 1)) (.bin .Add (.idx (.var 0) (.cst (.int 1))) (.cst (.int 1))), .setIx 0 (.cst (.int 3)) (.bin .Mod (.blt .int (.bin .Add (.bin .Add (.bin .Mult (.idx (.var 0) (.cst (.int 3))) (.cst (.int 48271))) (.bin .Mult (.bin .Mod (.blt .int (.var 2)) (.cst (.int 2147483629))) (.cst (.int 69621)))) (.cst (.int 29)))) (.cst (.int 2147483629))), .ife (.val (.cmp .GtE (.var 2) (.bin .Pow (.cst (.int 10)) (.cst (.int 15))))) [.setIx 0 (.cst (.int 2)) (.var 2)] []] [],
  .ife (.val (.cmp .Gt (.idx (.var 0) (.cst (.int 2))) (.cst (.int 0)))) [.set 3 (.bin .Mod (.blt .int (.idx (.var 0) (.cst (.int 2)))) (.var 1)), .setIx 0 (.cst (.int 2)) (.bin .FloorDiv (.idx (.var 0) (.cst (.int 2))) (.var 1)), .ret (.var 3)] [],
  .setIx 0 (.cst (.int 4)) (.bin .Add (.idx (.var 0) (.cst (.int 4))) (.cst (.int 1))),
  .set 4 (.bin .Mod (.blt .int (.bin .Mult (.blt .int (.bin .Add (.idx (.var 0) (.cst (.int 3))) (.bin .Mult (.cst (.int 7907)) (.idx (.var 0) (.cst (.int 4)))))) (.cst (.int 40692)))) (.cst (.int 2147483399))),
  .set 4 (.bin .Mod (.blt .int (.bin .Mult (.var 4) (.bin .Add (.bin .FloorDiv (.var 4) (.cst (.int 1009))) (.cst (.int 30011))))) (.cst (.int 2147483647))),
  .ret (.bin .Mod (.blt .int (.bin .FloorDiv (.var 4) (.cst (.int 32)))) (.var 1))]⟩
def f_law_any : Fn := ⟨[true, false], 2, [
  .ret (.idx (.var 1) (.call 21 (.io 0 (.ev (.blt .len (.var 1)) .nil))))]⟩
def f_law_great : Fn := ⟨[true, false], 3, [
  .set 2 (.blt .int (.bin .Add (.bin .Add (.bin .Mult (.call 21 (.io 0 (.ev (.bin .Pow (.cst (.int 10)) (.cst (.int 9))) .nil))) (.bin .Pow (.cst (.int 10)) (.cst (.int 21)))) (.bin .Mult (.call 21 (.io 0 (.ev (.bin .Pow (.cst (.int 10)) (.cst (.int 9))) .nil))) (.bin .Pow (.cst (.int 10)) (.cst (.int 9))))) (.call 21 (.io 0 (.ev (.bin .Pow (.cst (.int 10)) (.cst (.int 9))) .nil))))),
  .set 2 (.bin .Mod (.blt .int (.var 2)) (.bin .Add (.var 1) (.cst (.int 1)))),
  .ret (.ite (.val (.cmp .Eq (.call 21 (.io 0 (.ev (.cst (.int 2)) .nil))) (.cst (.int 0)))) (.var 2) (.bin .Sub (.cst (.int 0)) (.var 2)))]⟩
def f_law_ray : Fn := ⟨[true], 5, [
  .par [1, 2] (.cons (.call 21 (.io 0 (.ev (.cst (.int 6)) .nil))) (.cons (.call 22 (.io 0 (.ev (.lst (.cons (.cst (.int 2)) (.cons (.cst (.int 5)) (.cons (.cst (.int 40)) (.cons (.bin .Pow (.cst (.int 10)) (.cst (.int 12))) .nil))))) .nil))) .nil)),
  .ife (.val (.cmp .Eq (.var 1) (.cst (.int 0)))) [.ret (.call 22 (.io 0 (.ev (.lst (.cons (.tup (.cons (.cst (.int 1)) (.cons (.cst (.int 0)) .nil))) (.cons (.tup (.cons (.cst (.int 0)) (.cons (.cst (.int 1)) .nil))) (.cons (.tup (.cons (.neg (.cst (.int 1))) (.cons (.cst (.int 0)) .nil))) (.cons (.tup (.cons (.cst (.int 0)) (.cons (.neg (.cst (.int 1))) .nil))) (.cons (.tup (.cons (.cst (.int 1)) (.cons (.cst (.int 1)) .nil))) (.cons (.tup (.cons (.neg (.cst (.int 1))) (.cons (.cst (.int 1)) .nil))) (.cons (.tup (.cons (.neg (.cst (.int 1))) (.cons (.neg (.cst (.int 1))) .nil))) (.cons (.tup (.cons (.cst (.int 1)) (.cons (.neg (.cst (.int 1))) .nil))) .nil))))))))) .nil)))] [],
  .par [3, 4] (.cons (.call 23 (.io 0 (.ev (.var 2) .nil))) (.cons (.call 23 (.io 0 (.ev (.var 2) .nil))) .nil)),
  .ife (.val (.cmp .Eq (.var 1) (.cst (.int 1)))) [.setT (.tup [(.nm 3), (.nm 4)]) (.call 22 (.io 0 (.ev (.lst (.cons (.tup (.cons (.bin .Pow (.cst (.int 10)) (.cst (.int 9))) (.cons (.cst (.int 1)) .nil))) (.cons (.tup (.cons (.neg (.bin .Pow (.cst (.int 10)) (.cst (.int 9)))) (.cons (.cst (.int 1)) .nil))) (.cons (.tup (.cons (.cst (.int 1)) (.cons (.bin .Pow (.cst (.int 10)) (.cst (.int 9))) .nil))) (.cons (.tup (.cons (.bin .Pow (.cst (.int 10)) (.cst (.int 9))) (.cons (.neg (.cst (.int 1))) .nil))) (.cons (.tup (.cons (.neg (.cst (.int 1))) (.cons (.neg (.bin .Pow (.cst (.int 10)) (.cst (.int 9)))) .nil))) (.cons (.tup (.cons (.var 3) (.cons (.cst (.int 1)) .nil))) .nil))))))) .nil)))] [],
  .ret (.ite (.val (.cmp .NotEq (.tup (.cons (.var 3) (.cons (.var 4) .nil))) (.tup (.cons (.cst (.int 0)) (.cons (.cst (.int 0)) .nil))))) (.call 16 (.ev (.var 3) (.ev (.var 4) .nil))) (.tup (.cons (.cst (.int 1)) (.cons (.cst (.int 0)) .nil))))]⟩
def f_is_within : Fn := ⟨[false, false, false], 3, [
  .ret (.and (.call 2 (.ev (.var 0) .nil)) (.chain .LtE .LtE (.var 1) (.var 0) (.var 2)))]⟩
def f_check_number : Fn := ⟨[false, false, false], 3, [
  .ife (.not (.val (.call 25 (.ev (.var 0) (.ev (.var 1) (.ev (.var 2) .nil)))))) [.bad] []]⟩
def f_times : Fn := ⟨[false, false], 4, [
  .expr (.call 7 (.ev (.var 0) .nil)),
  .expr (.call 26 (.ev (.var 1) (.ev (.cst (.int 0)) (.ev (.con (.int 60)) .nil)))),
  .set 2 (.con (.tuple [.int 1, .int 0])),
  .fors (.nm 3) (.rng (.var 1)) [.set 2 (.call 10 (.ev (.var 2) (.ev (.var 0) .nil)))],
  .ret (.var 2)]⟩
def f_check_rays : Fn := ⟨[false, false], 2, [
  .expr (.call 7 (.ev (.var 0) .nil)),
  .expr (.call 7 (.ev (.var 1) .nil))]⟩
def f_turned : Fn := ⟨[false, false], 2, [
  .expr (.call 28 (.ev (.var 0) (.ev (.var 1) .nil))),
  .ret (.call 10 (.ev (.var 0) (.ev (.var 1) .nil)))]⟩
def f_raw_mirrored : Fn := ⟨[false], 1, [
  .ret (.tup (.cons (.idx (.var 0) (.cst (.int 0))) (.cons (.neg (.idx (.var 0) (.cst (.int 1)))) .nil)))]⟩
def f_turned_back : Fn := ⟨[false, false], 2, [
  .expr (.call 28 (.ev (.var 0) (.ev (.var 1) .nil))),
  .ret (.call 10 (.ev (.var 0) (.ev (.call 30 (.ev (.var 1) .nil)) .nil)))]⟩
def f_mirrored : Fn := ⟨[false], 1, [
  .expr (.call 7 (.ev (.var 0) .nil)),
  .ret (.call 30 (.ev (.var 0) .nil))]⟩
def f_law_back : Fn := ⟨[false, false], 2, [
  .ret (.call 17 (.ev (.var 0) (.ev (.tup (.cons (.idx (.var 1) (.cst (.int 0))) (.cons (.bin .Sub (.cst (.int 0)) (.idx (.var 1) (.cst (.int 1)))) .nil))) .nil)))]⟩
def f_law_is_turned_right : Fn := ⟨[true], 6, [
  .par [1, 2] (.cons (.call 24 (.io 0 .nil)) (.cons (.call 24 (.io 0 .nil)) .nil)),
  .set 3 (.lst (.cons (.call 29 (.ev (.var 1) (.ev (.var 2) .nil))) (.cons (.call 29 (.ev (.var 2) (.ev (.var 1) .nil))) (.cons (.call 31 (.ev (.var 1) (.ev (.var 2) .nil))) (.cons (.call 29 (.ev (.call 31 (.ev (.var 1) (.ev (.var 2) .nil))) (.ev (.var 2) .nil))) .nil))))),
  .set 4 (.call 17 (.ev (.var 1) (.ev (.var 2) .nil))),
  .ife (.not (.val (.call 14 (.ev (.var 3) (.ev (.lst (.cons (.var 4) (.cons (.var 4) (.cons (.call 33 (.ev (.var 1) (.ev (.var 2) .nil))) (.cons (.var 1) .nil))))) .nil))))) [.ret (.cst (.bool false))] [],
  .set 5 (.lst (.cons (.call 31 (.ev (.var 1) (.ev (.var 1) .nil))) (.cons (.call 29 (.ev (.var 1) (.ev (.call 32 (.ev (.var 1) .nil)) .nil))) (.cons (.call 29 (.ev (.var 1) (.ev (.tup (.cons (.cst (.int 1)) (.cons (.cst (.int 0)) .nil))) .nil))) (.cons (.call 31 (.ev (.tup (.cons (.cst (.int 1)) (.cons (.cst (.int 0)) .nil))) (.ev (.var 1) .nil))) .nil))))),
  .ret (.call 14 (.ev (.var 5) (.ev (.lst (.cons (.tup (.cons (.cst (.int 1)) (.cons (.cst (.int 0)) .nil))) (.cons (.tup (.cons (.cst (.int 1)) (.cons (.cst (.int 0)) .nil))) (.cons (.var 1) (.cons (.tup (.cons (.idx (.var 1) (.cst (.int 0))) (.cons (.bin .Sub (.cst (.int 0)) (.idx (.var 1) (.cst (.int 1)))) .nil))) .nil))))) .nil)))]⟩
def f_law_small : Fn := ⟨[true], 2, [
  .set 1 (.call 16 (.ev (.bin .Sub (.call 21 (.io 0 (.ev (.cst (.int 9)) .nil))) (.cst (.int 4))) (.ev (.bin .Add (.cst (.int 1)) (.call 21 (.io 0 (.ev (.cst (.int 4)) .nil)))) .nil))),
  .ret (.call 22 (.io 0 (.ev (.bin .Add (.bin .Mult (.lst (.cons (.var 1) .nil)) (.cst (.int 7))) (.lst (.cons (.tup (.cons (.cst (.int 1)) (.cons (.cst (.int 0)) .nil))) (.cons (.tup (.cons (.neg (.cst (.int 1))) (.cons (.cst (.int 0)) .nil))) (.cons (.tup (.cons (.cst (.int 0)) (.cons (.cst (.int 1)) .nil))) (.cons (.tup (.cons (.cst (.int 0)) (.cons (.neg (.cst (.int 1))) .nil))) (.cons (.tup (.cons (.cst (.int 1)) (.cons (.neg (.cst (.int 1))) .nil))) (.cons (.tup (.cons (.cst (.int 3)) (.cons (.neg (.cst (.int 4))) .nil))) (.cons (.tup (.cons (.cst (.int 2)) (.cons (.neg (.cst (.int 1))) .nil))) .nil))))))))) .nil)))]⟩
def f_law_are_times_right : Fn := ⟨[true], 7, [
  .par [1, 2] (.cons (.call 35 (.io 0 .nil)) (.cons (.call 22 (.io 0 (.ev (.lst (.cons (.cst (.int 0)) (.cons (.cst (.int 1)) (.cons (.cst (.int 2)) (.cons (.cst (.int 7)) (.cons (.cst (.int 60)) (.cons (.call 21 (.io 0 (.ev (.cst (.int 61)) .nil))) .nil))))))) .nil))) .nil)),
  .set 3 (.tup (.cons (.cst (.int 1)) (.cons (.cst (.int 0)) .nil))),
  .fors (.nm 4) (.rng (.var 2)) [.set 3 (.call 17 (.ev (.var 3) (.ev (.var 1) .nil)))],
  .ife (.not (.val (.call 14 (.ev (.call 27 (.ev (.var 1) (.ev (.var 2) .nil))) (.ev (.var 3) .nil))))) [.ret (.cst (.bool false))] [],
  .setT (.tup [(.nm 5), (.nm 6)]) (.call 13 (.ev (.bin .Mult (.tup (.cons (.var 1) .nil)) (.var 2)) .nil)),
  .ret (.call 14 (.ev (.lst (.cons (.var 5) (.cons (.var 6) .nil))) (.ev (.lst (.cons (.idx (.call 20 (.ev (.bin .Mult (.tup (.cons (.var 1) .nil)) (.var 2)) .nil)) (.cst (.int 0))) (.cons (.var 3) .nil))) .nil)))]⟩
def f_law_mixed : Fn := ⟨[true, false], 4, [
  .par [2, 3] (.cons (.blt .list (.var 1)) (.cons (.lst .nil) .nil)),
  .whl (.val (.cmp .NotEq (.var 2) (.lst .nil))) [.append 3 (.pop 2 (.call 21 (.io 0 (.ev (.blt .len (.var 2)) .nil))))],
  .ret (.var 3)]⟩
def f_law : Fn := ⟨[false], 8, [
  .set 1 (.call 0 (.ev (.var 0) .nil)),
  .set 2 (.lst (.cons (.call 13 (.ev (.tup .nil) .nil)) (.cons (.call 13 (.ev (.bin .Mult (.tup (.cons (.tup (.cons (.cst (.int 0)) (.cons (.cst (.int 1)) .nil))) .nil)) (.cst (.int 4))) .nil)) (.cons (.call 13 (.ev (.tup (.cons (.tup (.cons (.neg (.cst (.int 1))) (.cons (.cst (.int 0)) .nil))) (.cons (.tup (.cons (.neg (.cst (.int 1))) (.cons (.cst (.int 0)) .nil))) .nil))) .nil)) (.cons (.call 13 (.ev (.bin .Mult (.tup (.cons (.tup (.cons (.cst (.int 1)) (.cons (.cst (.int 0)) .nil))) .nil)) (.cst (.int 3))) .nil)) .nil))))),
  .ife (.not (.val (.call 14 (.ev (.var 2) (.ev (.lst (.cons (.tup (.cons (.cst (.int 0)) (.cons (.tup (.cons (.cst (.int 1)) (.cons (.cst (.int 0)) .nil))) .nil))) (.cons (.tup (.cons (.cst (.int 1)) (.cons (.tup (.cons (.cst (.int 1)) (.cons (.cst (.int 0)) .nil))) .nil))) (.cons (.tup (.cons (.cst (.int 1)) (.cons (.tup (.cons (.cst (.int 1)) (.cons (.cst (.int 0)) .nil))) .nil))) (.cons (.tup (.cons (.cst (.int 0)) (.cons (.tup (.cons (.cst (.int 1)) (.cons (.cst (.int 0)) .nil))) .nil))) .nil))))) .nil))))) [.ret (.cst (.bool false))] [],
  .ife (.not (.val (.call 14 (.ev (.lst (.cons (.call 13 (.ev (.bin .Mult (.tup (.cons (.tup (.cons (.cst (.int 0)) (.cons (.neg (.cst (.int 1))) .nil))) .nil)) (.cst (.int 4))) .nil)) (.cons (.call 27 (.ev (.tup (.cons (.cst (.int 1)) (.cons (.cst (.int 1)) .nil))) (.ev (.cst (.int 8)) .nil))) (.cons (.call 27 (.ev (.tup (.cons (.cst (.int 0)) (.cons (.cst (.int 1)) .nil))) (.ev (.cst (.int 59)) .nil))) .nil)))) (.ev (.lst (.cons (.tup (.cons (.cst (.int 3)) (.cons (.tup (.cons (.cst (.int 1)) (.cons (.cst (.int 0)) .nil))) .nil))) (.cons (.tup (.cons (.cst (.int 1)) (.cons (.cst (.int 0)) .nil))) (.cons (.tup (.cons (.cst (.int 0)) (.cons (.neg (.cst (.int 1))) .nil))) .nil)))) .nil))))) [.ret (.cst (.bool false))] [],
  .fors (.nm 3) (.rng (.cst (.int 6))) [.ife (.or (.not (.val (.call 34 (.io 1 .nil)))) (.not (.val (.call 36 (.io 1 .nil))))) [.ret (.cst (.bool false))] [], .set 4 (.blt .tuple (.comp [7] (.call 35 (.io 1 .nil)) (.nm 7) (.rng (.call 22 (.io 1 (.ev (.lst (.cons (.cst (.int 1)) (.cons (.cst (.int 3)) (.cons (.cst (.int 20)) .nil)))) .nil)))) .no)), .set 5 (.call 20 (.ev (.var 4) .nil)), .ife (.not (.val (.call 14 (.ev (.lst (.cons (.call 13 (.ev (.var 4) .nil)) (.cons (.call 13 (.ev (.blt .tuple (.call 37 (.io 1 (.ev (.var 4) .nil)))) .nil)) .nil))) (.ev (.lst (.cons (.var 5) (.cons (.var 5) .nil))) .nil))))) [.ret (.cst (.bool false))] [], .set 6 (.call 24 (.io 1 .nil)), .ife (.not (.val (.call 14 (.ev (.call 13 (.ev (.tup (.cons (.var 6) (.cons (.call 32 (.ev (.var 6) .nil)) .nil))) .nil)) (.ev (.tup (.cons (.ite (.val (.cmp .Eq (.var 6) (.tup (.cons (.cst (.int 1)) (.cons (.cst (.int 0)) .nil))))) (.cst (.int 0)) (.cst (.int 1))) (.cons (.tup (.cons (.cst (.int 1)) (.cons (.cst (.int 0)) .nil))) .nil))) .nil))))) [.ret (.cst (.bool false))] []],
  .ret (.cst (.bool true))]⟩

def d_law_hand : Df := ⟨"_law_hand", top 30, ["script"], ["script", "cells", "cell"], f_law_hand⟩
def d_is_sized : Df := ⟨"is_sized", top 7, ["thing", "least", "most"], ["thing", "least", "most"], f_is_sized⟩
def d_is_integer : Df := ⟨"is_integer", top 5, ["thing"], ["thing"], f_is_integer⟩
def d_is_pair : Df := ⟨"is_pair", top 8, ["thing"], ["thing"], f_is_pair⟩
def d_is_way : Df := ⟨"is_way", top 14, ["thing"], ["thing"], f_is_way⟩
def d_shared : Df := ⟨"shared", top 10, ["one", "other"], ["one", "other", "first", "last"], f_shared⟩
def d_is_ray : Df := ⟨"is_ray", top 15, ["thing"], ["thing"], f_is_ray⟩
def d_check_ray : Df := ⟨"check_ray", top 16, ["thing"], ["thing"], f_check_ray⟩
def d_check_all_rays : Df := ⟨"check_all_rays", top 21, ["rays"], ["rays", "ray"], f_check_all_rays⟩
def d_raw_lowest : Df := ⟨"raw_lowest", top 18, ["way"], ["way", "part"], f_raw_lowest⟩
def d_raw_turned : Df := ⟨"raw_turned", top 24, ["one", "other"], ["one", "other"], f_raw_turned⟩
def d_raw_half : Df := ⟨"raw_half", top 19, ["ray"], ["ray"], f_raw_half⟩
def d_raw_first : Df := ⟨"raw_first", top 20, ["one", "other"], ["one", "other"], f_raw_first⟩
def d_wide_sum : Df := ⟨"wide_sum", top 28, ["rays"], ["rays", "rounds", "found", "ray", "later"], f_wide_sum⟩
def d_law_like : Df := ⟨"_law_like", top 34, ["told", "due"], ["told", "due"], f_law_like⟩
def d_law_common : Df := ⟨"_law_common", top 35, ["one", "other"], ["one", "other"], f_law_common⟩
def d_law_low : Df := ⟨"_law_low", top 36, ["x", "y"], ["x", "y", "by"], f_law_low⟩
def d_law_product : Df := ⟨"_law_product", top 37, ["one", "other"], ["one", "other"], f_law_product⟩
def d_law_half : Df := ⟨"_law_half", top 41, ["ray"], ["ray"], f_law_half⟩
def d_law_is_first : Df := ⟨"_law_is_first", top 42, ["one", "other"], ["one", "other"], f_law_is_first⟩
def d_law_sum : Df := ⟨"_law_sum", top 43, ["rays"], ["rays", "rounds", "here", "ray", "later"], f_law_sum⟩
def d_law_draw : Df := ⟨"_law_draw", top 31, ["hand", "many"], ["hand", "many", "cell", "digit", "number"], f_law_draw⟩
def d_law_any : Df := ⟨"_law_any", top 32, ["hand", "some"], ["hand", "some"], f_law_any⟩
def d_law_great : Df := ⟨"_law_great", top 39, ["hand", "most"], ["hand", "most", "size"], f_law_great⟩
def d_law_ray : Df := ⟨"_law_ray", top 40, ["hand"], ["hand", "kind", "most", "x", "y"], f_law_ray⟩
def d_is_within : Df := ⟨"is_within", top 6, ["thing", "low", "high"], ["thing", "low", "high"], f_is_within⟩
def d_check_number : Df := ⟨"check_number", top 9, ["thing", "low", "high"], ["thing", "low", "high"], f_check_number⟩
def d_times : Df := ⟨"times", top 27, ["ray", "many"], ["ray", "many", "found", "turn"], f_times⟩
def d_check_rays : Df := ⟨"check_rays", top 17, ["one", "other"], ["one", "other"], f_check_rays⟩
def d_turned : Df := ⟨"turned", top 25, ["one", "other"], ["one", "other"], f_turned⟩
def d_raw_mirrored : Df := ⟨"raw_mirrored", top 22, ["ray"], ["ray"], f_raw_mirrored⟩
def d_turned_back : Df := ⟨"turned_back", top 26, ["one", "other"], ["one", "other"], f_turned_back⟩
def d_mirrored : Df := ⟨"mirrored", top 23, ["ray"], ["ray"], f_mirrored⟩
def d_law_back : Df := ⟨"_law_back", top 38, ["one", "other"], ["one", "other"], f_law_back⟩
def d_law_is_turned_right : Df := ⟨"_law_is_turned_right", top 45, ["hand"], ["hand", "one", "other", "told", "both", "more"], f_law_is_turned_right⟩
def d_law_small : Df := ⟨"_law_small", top 44, ["hand"], ["hand", "ray"], f_law_small⟩
def d_law_are_times_right : Df := ⟨"_law_are_times_right", top 46, ["hand"], ["hand", "ray", "many", "here", "turn", "rounds", "same"], f_law_are_times_right⟩
def d_law_mixed : Df := ⟨"_law_mixed", top 33, ["hand", "some"], ["hand", "some", "left", "found"], f_law_mixed⟩
def d_law : Df := ⟨"law", top 47, ["script"], ["script", "hand", "told", "turn", "rays", "due", "lone", "place"], f_law⟩
def tab : List Df := ([d_law_hand, d_is_sized, d_is_integer, d_is_pair, d_is_way, d_shared, d_is_ray, d_check_ray, d_check_all_rays, d_raw_lowest, d_raw_turned, d_raw_half, d_raw_first, d_wide_sum, d_law_like, d_law_common, d_law_low, d_law_product, d_law_half, d_law_is_first] : List Df) ++ ([d_law_sum, d_law_draw, d_law_any, d_law_great, d_law_ray, d_is_within, d_check_number, d_times, d_check_rays, d_turned, d_raw_mirrored, d_turned_back, d_mirrored, d_law_back, d_law_is_turned_right, d_law_small, d_law_are_times_right, d_law_mixed, d_law] : List Df)
def cs : List (Str × D) := [("AHEAD", .tuple [.int 1, .int 0]), ("MOST_TIMES", .int 60)]
def bl : List Str := ["len", "int", "abs", "tuple", "list", "all", "any", "repr", "range", "enumerate", "isinstance", "bool", "str", "dict"]
theorem compiled : (tab.mapIdx fun i d => cFn (ahead tab i) bl cs d) = tab.map fun d => some d.fn := by kernel_rfl
end G

/-! ### k02: what each def keeps -/
namespace G
open PySem PySem.Spec L2
open PyProof.Rows hiding St
def c_law_is_turned_right : Ct := fun ds Q => ∃ h : D, ds = [h] ∧ ∃ n, Hand n h ∧ n < 2 ^ 50 ∧ ∀ h', Hand (n + 2000) h' → Q (.bool true) false [h']
def c_law_are_times_right : Ct := c_law_is_turned_right
theorem c_turnA_eq {h Q} : c_law_is_turned_right [h] Q = ∃ n, Hand n h ∧ n < 2 ^ 50 ∧ ∀ h', Hand (n + 2000) h' → Q (.bool true) false [h'] := by
  apply propext; constructor
  · rintro ⟨_, ⟨rfl⟩, h⟩; exact h
  · intro h; exact ⟨_, rfl, h⟩
theorem c_turnB_eq {h Q} : c_law_are_times_right [h] Q = ∃ n, Hand n h ∧ n < 2 ^ 50 ∧ ∀ h', Hand (n + 2000) h' → Q (.bool true) false [h'] := c_turnA_eq
def c_law : Ct := fun ds Q => ∃ ns : List Int, ds = [scrD (ns.map .int)] ∧ Q (.bool true) false []
theorem low_10' {n : Int} (h : 0 < n) : lowD n 0 = .tuple [.int 1, .int 0] := by
  rw [low_eq (x := n) (y := 0) (z := 1) (w := 0) (k := 1) (l := n) (by decide) h (by omega) (by omega)]; rfl
theorem back_forth {a b c d p q g : Int} (n : Nz c d) (hg : 0 < g) (h1 : g * p = a * c - b * -d) (h2 : g * q = a * -d + b * c) : lowD (p * c - q * d) (p * d + q * c) = lowD a b :=
  low_eq (k := g) (l := c * c + d * d) hg (sq_pos n) (by grind) (by grind)
def C : Nat → Ct := fun i => match i with
  | 0 => c_law_hand
  | 1 => c_is_sized
  | 2 => c_is_integer
  | 3 => c_is_pair
  | 4 => c_is_way
  | 5 => cGcd
  | 6 => c_is_ray
  | 7 => c_check_ray
  | 8 => c_check_all_rays
  | 9 => c_raw_lowest
  | 10 => c_raw_turned
  | 11 => c_raw_half
  | 12 => c_raw_first
  | 13 => c_wide_sum
  | 14 => cLike
  | 15 => cGcd
  | 16 => c_law_low
  | 17 => c_law_product
  | 18 => c_law_half
  | 19 => c_law_is_first
  | 20 => c_law_sum
  | 21 => cDraw
  | 22 => cAny
  | 23 => cGreat
  | 24 => c_law_ray
  | 25 => c_is_within
  | 26 => c_check_number
  | 27 => c_times
  | 28 => c_check_rays
  | 29 => c_turned
  | 30 => c_raw_mirrored
  | 31 => c_turned_back
  | 32 => c_mirrored
  | 33 => c_law_back
  | 34 => c_law_is_turned_right
  | 35 => c_law_small
  | 36 => c_law_are_times_right
  | 37 => c_law_mixed
  | 38 => c_law
  | _ => fun _ _ => False
theorem C_0 {ds Q} : C 0 ds Q = c_law_hand ds Q := rfl
theorem C_1 {ds Q} : C 1 ds Q = c_is_sized ds Q := rfl
theorem C_2 {ds Q} : C 2 ds Q = c_is_integer ds Q := rfl
theorem C_3 {ds Q} : C 3 ds Q = c_is_pair ds Q := rfl
theorem C_4 {ds Q} : C 4 ds Q = c_is_way ds Q := rfl
theorem C_5 {ds Q} : C 5 ds Q = cGcd ds Q := rfl
theorem C_6 {ds Q} : C 6 ds Q = c_is_ray ds Q := rfl
theorem C_7 {ds Q} : C 7 ds Q = c_check_ray ds Q := rfl
theorem C_8 {ds Q} : C 8 ds Q = c_check_all_rays ds Q := rfl
theorem C_9 {ds Q} : C 9 ds Q = c_raw_lowest ds Q := rfl
theorem C_10 {ds Q} : C 10 ds Q = c_raw_turned ds Q := rfl
theorem C_11 {ds Q} : C 11 ds Q = c_raw_half ds Q := rfl
theorem C_12 {ds Q} : C 12 ds Q = c_raw_first ds Q := rfl
theorem C_13 {ds Q} : C 13 ds Q = c_wide_sum ds Q := rfl
theorem C_14 {ds Q} : C 14 ds Q = cLike ds Q := rfl
theorem C_15 {ds Q} : C 15 ds Q = cGcd ds Q := rfl
theorem C_16 {ds Q} : C 16 ds Q = c_law_low ds Q := rfl
theorem C_17 {ds Q} : C 17 ds Q = c_law_product ds Q := rfl
theorem C_18 {ds Q} : C 18 ds Q = c_law_half ds Q := rfl
theorem C_19 {ds Q} : C 19 ds Q = c_law_is_first ds Q := rfl
theorem C_20 {ds Q} : C 20 ds Q = c_law_sum ds Q := rfl
theorem C_21 {ds Q} : C 21 ds Q = cDraw ds Q := rfl
theorem C_22 {ds Q} : C 22 ds Q = cAny ds Q := rfl
theorem C_23 {ds Q} : C 23 ds Q = cGreat ds Q := rfl
theorem C_24 {ds Q} : C 24 ds Q = c_law_ray ds Q := rfl
theorem C_25 {ds Q} : C 25 ds Q = c_is_within ds Q := rfl
theorem C_26 {ds Q} : C 26 ds Q = c_check_number ds Q := rfl
theorem C_27 {ds Q} : C 27 ds Q = c_times ds Q := rfl
theorem C_28 {ds Q} : C 28 ds Q = c_check_rays ds Q := rfl
theorem C_29 {ds Q} : C 29 ds Q = c_turned ds Q := rfl
theorem C_30 {ds Q} : C 30 ds Q = c_raw_mirrored ds Q := rfl
theorem C_31 {ds Q} : C 31 ds Q = c_turned_back ds Q := rfl
theorem C_32 {ds Q} : C 32 ds Q = c_mirrored ds Q := rfl
theorem C_33 {ds Q} : C 33 ds Q = c_law_back ds Q := rfl
theorem C_34 {ds Q} : C 34 ds Q = c_law_is_turned_right ds Q := rfl
theorem C_35 {ds Q} : C 35 ds Q = c_law_small ds Q := rfl
theorem C_36 {ds Q} : C 36 ds Q = c_law_are_times_right ds Q := rfl
theorem C_37 {ds Q} : C 37 ds Q = c_law_mixed ds Q := rfl
theorem C_38 {ds Q} : C 38 ds Q = c_law ds Q := rfl

local macro_rules | `(tactic| array_get_dec) => `(tactic| simp only [*, ↓c_turnA_eq, ↓c_turnB_eq, ↓c_turned_eq, ↓c_turned_back_eq, ↓c_law_back_eq, ↓c_law_ray_eq, ↓c_law_small_eq, ↓c_raw_turned_eq, ↓c_law_product_eq, ↓c_raw_half_eq, ↓c_law_half_eq, ↓c_raw_first_eq, ↓c_law_is_first_eq,
    ↓c_check_rays_eq, ↓c_raw_mirrored_eq, ↓c_mirrored_eq, ↓c_is_within_eq, ↓c_check_number_eq, ↓c_check_all_rays_eq, ↓c_is_sized_eq, ↓c_is_integer_eq, ↓c_is_pair_eq, ↓c_raw_sight_eq, ↓c_sight_eq, ↓c_raw_led_eq, ↓c_led_eq,
    ↓c_lowest_eq, ↓c_along_eq, ↓c_aside_eq, ↓c_right_of_eq, ↓c_opposite_eq, ↓cWay_eq, ↓c_is_way_eq, ↓c_is_ray_eq, ↓c_check_way_eq, ↓c_check_ray_eq, ↓c_check_ways_eq, ↓c_law_low_eq, ↓c_raw_lowest_eq, ↓c_raw_along_eq,
    ↓c_raw_aside_eq, okIn_wy, cpow_10, ↓cDraw_eq, ↓cAny_eq, ↓cGreat_eq, ↓cGcd_eq, ↓cLike_eq, Nat.add_zero, true_implies, ↓c_eqP, ↓c_neP, ↓C_0, ↓C_1, ↓C_2, ↓C_3, ↓C_4, ↓C_5, ↓C_6, ↓C_7, ↓C_8, ↓C_9, ↓C_10, ↓C_11, ↓C_12, ↓C_13,
    ↓C_14, ↓C_15, ↓C_16, ↓C_17, ↓C_18, ↓C_19, ↓C_20, ↓C_21, ↓C_22, ↓C_23, ↓C_24, ↓C_25, ↓C_26, ↓C_27, ↓C_28, ↓C_29, ↓C_30, ↓C_31, ↓C_32, ↓C_33, ↓C_34, ↓C_35, ↓C_36, ↓C_37, ↓C_38, ↓oo_var, ↓oo_cst, ↓oo_con, ↓oo_rev, ↓oo_dic0,
    ↓oo_tup, ↓oo_lst, ↓oo_bin, ↓oo_neg, ↓oo_cmp, ↓oo_chain, ↓oo_not, ↓oo_and, ↓oo_or, ↓oo_ite, ↓oo_call, ↓oo_blt, ↓oo_isi, ↓oo_idx, ↓oo_slc, ↓oo_comp, ↓oo_pop, ↓rt_var, ↓rt_cst, ↓rt_con, ↓rt_rev, ↓rt_dic0, ↓rt_tup, ↓rt_lst,
    ↓rt_bin, ↓rt_neg, ↓rt_cmp, ↓rt_chain, ↓rt_not, ↓rt_and, ↓rt_or, ↓rt_ite, ↓rt_call, ↓rt_blt, ↓rt_isi, ↓rt_idx, ↓rt_slc, ↓rt_comp, ↓rt_pop, ↓rdS_eq, ↓rd_late, ↓rd_val, ↓isL_eq, ↓ag_nil, ↓ag_val, ↓ag_io, ↓puts_nil,
    ↓puts_cons, ↓tg_nm, ↓tg_tup, ↓tgs_nil, ↓tgs_cons, ↓ex_int, ↓ex_bool, ↓ex_list, ↓ex_int2, ↓item_l, ↓item_t, ↓sx_eq, ↓o_addI, ↓o_addS, ↓o_addL, ↓o_addT, ↓o_sub, ↓o_mul, ↓o_mod, ↓o_div, ↓o_pow, ↓o_mulT, ↓o_mulL, ↓c_lt,
    ↓c_le, ↓c_gt, ↓c_ge, ↓c_eqI, ↓c_neI, ↓c_eqS, ↓c_neS, ↓c_eqL, ↓c_neL, ↓c_in, ↓c_nin, ↓c_inT, ↓c_ninT, ↓c_inS, ↓rv_l, ↓rv_t, ↓c_isN, ↓c_isnN, ↓c_isB, ↓c_isnB, ↓bb_lenL, ↓bb_lenT, ↓bb_lenS, ↓bb_int, ↓bb_intB, ↓bb_abs,
    ↓bb_tupL, ↓bb_tupT, ↓bb_lstL, ↓bb_lstT, ↓bb_allM, ↓bb_rep, ↓t_none, ↓t_bool, ↓t_int, ↓t_list, ↓t_tup, ↓its_l, ↓its_t, ↓sl_l, ↓sl_t, ↓sl_s, ↓forB_eq, ↓w_con, ↓w_rev, ↓w_wpE_0, ↓w_wpE_2, ↓w_wpE_3, ↓w_wpE_4, ↓w_wpE_5,
    ↓w_wpE_6, ↓w_wpE_7, ↓w_wpE_8, ↓w_wpE_9, ↓w_wpE_10, ↓w_wpE_11, ↓w_wpE_12, ↓w_wpE_13, ↓w_wpE_14, ↓w_wpE_15, ↓w_wpE_16, ↓w_wpE_17, ↓w_wpE_18, ↓w_wpE_19, ↓w_wpE_20, ↓w_wpT_0, ↓w_wpT_1, ↓w_wpT_2, ↓w_wpT_3, ↓w_wpT_4, ↓w_wpP_0,
    ↓w_wpP_1, ↓w_wpC_0, ↓w_wpC_1, ↓w_wpEs_0, ↓w_wpEs_1, ↓w_wpVs_0, ↓w_wpVs_1, ↓w_wpAs_0, ↓w_wpAs_1, ↓w_wpAs_2, ↓w_wpIt_0, ↓w_wpIt_1, ↓w_wpIt_2, ↓w_wpIt_3, ↓w_wpS_1, ↓w_wpS_2, ↓w_wpS_3, ↓w_wpS_4, ↓w_wpS_5, ↓w_wpS_6, ↓w_wpS_7,
    ↓w_wpS_8, ↓w_wpS_9, ↓w_wpS_10, ↓w_wpS_11, ↓w_wpS_12, ↓w_wpS_13, ↓w_wpSs_0, ↓w_wpSs_1, rtO_own, rtO_sh, rtO_lock, rdO_own, rdO_sh, rdO_lock, isO_own, agO_own, fin_nil, fin_t, fin_f, put_t, put_f, ous_nil, ous_nil,
    ous_cons, ios_nil, ios_io, ios_val, itO_some, atI_0, atI_1, atI_2, atI_3, atI_4, atI_5, sxO_some, ixN_0, ixN_1, ixN_2, ixN_3, ixN_4, get_0, sett_0, get_1, sett_1, get_2, sett_2, get_3, sett_3, get_4, sett_4, get_5,
    sett_5, get_6, sett_6, get_7, sett_7, get_8, sett_8, get_9, sett_9, get_10, sett_10, get_11, sett_11, get_12, sett_12, get_13, sett_13, get_14, sett_14, get_15, sett_15, get_16, sett_16, get_17, sett_17, get_18, sett_18,
    get_19, sett_19, get_20, sett_20, get_21, sett_21, get_22, sett_22, get_23, sett_23, shr_own, shr_lock, shr_sh, shr_un, share_eq, getD_s, cn_none, cn_bool, cn_int, cn_str, natD_eq, ty_int_none, ty_int_bool, ty_int_int,
    ty_int_str, ty_int_list, ty_int_tuple, ty_int_dict, ty_bool_none, ty_bool_bool, ty_bool_int, ty_bool_str, ty_bool_list, ty_bool_tuple, ty_bool_dict, ty_str_none, ty_str_bool, ty_str_int, ty_str_str, ty_str_list,
    ty_str_tuple, ty_str_dict, ty_tuple_none, ty_tuple_bool, ty_tuple_int, ty_tuple_str, ty_tuple_list, ty_tuple_tuple, ty_tuple_dict, ty_list_none, ty_list_bool, ty_list_int, ty_list_str, ty_list_list, ty_list_tuple,
    ty_list_dict, ty_dict_none, ty_dict_bool, ty_dict_int, ty_dict_str, ty_dict_list, ty_dict_tuple, ty_dict_dict, free_eq, fsO_some, freeB_un, freeB_sh, lockE, lockB, unlockE, restore, wipeE, List.length_cons,
    List.length_nil, Nat.zero_add, Nat.reduceAdd, ↓reduceIte, Bool.false_eq_true, true_and, and_true, Bool.not_true, Bool.not_false, decide_eq_true_eq, Bool.not_eq_true', decide_eq_false_iff_not, bne_iff_ne, sizeLine,
    Nat.reducePow, Nat.reduceLeDiff, Nat.reduceLT, List.nodup_cons, List.nodup_nil, List.not_mem_nil, not_false_eq_true, Int.natCast_add, List.length_map, Int.reduceToNat, Int.reducePow, Int.cast_ofNat_Int, Int.reduceLT,
    Int.reduceLE, Int.reduceEq, Int.reduceNe, Int.reduceMod, Int.reduceDiv, Int.reduceMul, Int.reduceAdd, Int.reduceSub, Int.reduceNeg, List.set_cons_zero, List.set_cons_succ, List.getElem?_cons_zero,
    List.getElem?_cons_succ, Bool.true_eq_false, okTy_i, okTy_t, okTy_l, okTy_s, okTy_b, okTy_n, okTy_d, decide_true, decide_false, Bool.and_true, Bool.true_and, Bool.false_and, Bool.and_false, Bool.and_eq_true,
    Nat.add_zero, true_implies, List.length_append, List.all_cons, List.all_nil, id_eq])
local macro_rules | `(tactic| array_mem_dec) => `(tactic| simp only [wpFn, startE, envA, List.length_cons, List.length_nil, Nat.reduceAdd, Nat.reduceSub, List.reduceReplicate, List.cons_append, List.nil_append, List.append_nil, true_and])
local macro_rules | `(tactic| sizeOf_list_dec) => `(tactic| repeat' (first | trivial | assumption | with_reducible apply And.intro | exact Sz.cmul (by decide +kernel) | exact Sz.cdiv (by decide +kernel) (by omega) | exact Sz.le (by decide +kernel) | exact Okd.shows (by decide +kernel) (by decide +kernel) (by decide +kernel) | (show CPow _ _; exact ⟨by decide, by decide, by decide⟩) | omega))

theorem k_turned {ds Q} (h : c_law_is_turned_right ds Q) : wpFn C f_law_is_turned_right ds Q := by
  obtain ⟨h, rfl, n, hH, hn, hQ⟩ := h
  unfold f_law_is_turned_right
  array_mem_dec
  refine ss_go fun K hK => ?_
  array_get_dec
  refine ⟨n, hH, by omega, fun a b h1 z g sa sb H1 => ⟨_, H1, by omega, fun c d h2 z2 g2 sc sd H2 => hK.go ?_⟩⟩
  clear hK K
  have q := hQ h2 (H2.mono (by omega))
  clear hQ hH hn H1 H2
  have e1 : lowD (c * a - d * b) (c * b + d * a) = lowD (a * c - b * d) (a * d + b * c) := by
    rw [show c * a - d * b = a * c - b * d by grind, show c * b + d * a = a * d + b * c by grind]
  have nb : Nz (a * c - b * -d) (a * -d + b * c) := turn_nz z (nz_neg z2)
  have gb := low_one nb
  have nb' := low_nz nb
  have gp : (0 : Int) < (Int.gcd (a * c - b * -d) (a * -d + b * c) : Nat) := by have := gcd_pos' nb; omega
  have e2 := (back_forth (a := a) (b := b) z2 gp low_mul.1 low_mul.2).trans (low_self g)
  have e3 : lowD (a * a - b * -b) (a * -b + b * a) = .tuple [.int 1, .int 0] := by
    rw [show a * -b + b * a = 0 by grind, show a * a - b * -b = a * a + b * b by grind]; exact low_10' (sq_pos z)
  have e4 : lowD (a * 1 - b * 0) (a * 0 + b * 1) = .tuple [.int a, .int b] := by
    rw [show a * 1 - b * 0 = a by omega, show a * 0 + b * 1 = b by omega]; exact low_self g
  have e5 : lowD (1 * a - 0 * -b) (1 * -b + 0 * a) = .tuple [.int a, .int (-b)] := by
    rw [show 1 * a - 0 * -b = a by omega, show 1 * -b + 0 * a = -b by omega]; exact low_self (gcd_neg' g)
  have za := nz_neg z
  have ga := gcd_neg' g
  refine ss_go fun K hK => ?_
  array_get_dec
  sizeOf_list_dec
  apply hK.go
  clear hK K
  refine ss_go fun K hK => ?_
  array_get_dec
  sizeOf_list_dec
  apply hK.go
  clear hK K
  refine ss_go fun K hK => ?_
  array_get_dec
  sizeOf_list_dec
  apply hK.go
  clear hK K
  refine ss_go fun K hK => ?_
  array_get_dec
  sizeOf_list_dec
  apply hK.go
  clear hK K
  refine ss_go fun K hK => ?_
  array_get_dec
  simp only [Int.zero_sub]
  sizeOf_list_dec
end G

/-! ### k02: times, and the law -/
namespace G
open PySem PySem.Spec L2
open PyProof.Rows hiding St
theorem sum_rep (u : P2) : ∀ n, (sumP (List.replicate n u)).2 = powP u n
  | 0 => rfl
  | n + 1 => by rw [List.replicate_succ', sum_snoc]; show turnP _ u = _; rw [sum_rep u n]; rfl
theorem rep_wy (u : P2) : ∀ n : Nat, (List.replicate (n : Int).toNat [PyData.tuple [.int u.1, .int u.2]]).flatten = (List.replicate n u).map wyP := by
  intro n
  rw [Int.toNat_natCast]
  induction n with
  | zero => rfl
  | succ n ih => rw [List.replicate_succ, List.replicate_succ, List.flatten_cons, ih]; rfl
local macro_rules | `(tactic| array_get_dec) => `(tactic| simp only [*, ↓c_turnA_eq, ↓c_turnB_eq, ↓c_turned_eq, ↓c_turned_back_eq, ↓c_law_back_eq, ↓c_law_ray_eq, ↓c_law_small_eq, ↓c_raw_turned_eq, ↓c_law_product_eq, ↓c_raw_half_eq, ↓c_law_half_eq, ↓c_raw_first_eq, ↓c_law_is_first_eq,
    ↓c_check_rays_eq, ↓c_raw_mirrored_eq, ↓c_mirrored_eq, ↓c_is_within_eq, ↓c_check_number_eq, ↓c_check_all_rays_eq, ↓c_is_sized_eq, ↓c_is_integer_eq, ↓c_is_pair_eq, ↓c_raw_sight_eq, ↓c_sight_eq, ↓c_raw_led_eq, ↓c_led_eq,
    ↓c_lowest_eq, ↓c_along_eq, ↓c_aside_eq, ↓c_right_of_eq, ↓c_opposite_eq, ↓cWay_eq, ↓c_is_way_eq, ↓c_is_ray_eq, ↓c_check_way_eq, ↓c_check_ray_eq, ↓c_check_ways_eq, ↓c_law_low_eq, ↓c_raw_lowest_eq, ↓c_raw_along_eq,
    ↓c_raw_aside_eq, okIn_wy, cpow_10, ↓cDraw_eq, ↓cAny_eq, ↓cGreat_eq, ↓cGcd_eq, ↓cLike_eq, Nat.add_zero, true_implies, ↓c_eqP, ↓c_neP, ↓C_0, ↓C_1, ↓C_2, ↓C_3, ↓C_4, ↓C_5, ↓C_6, ↓C_7, ↓C_8, ↓C_9, ↓C_10, ↓C_11, ↓C_12, ↓C_13,
    ↓C_14, ↓C_15, ↓C_16, ↓C_17, ↓C_18, ↓C_19, ↓C_20, ↓C_21, ↓C_22, ↓C_23, ↓C_24, ↓C_25, ↓C_26, ↓C_27, ↓C_28, ↓C_29, ↓C_30, ↓C_31, ↓C_32, ↓C_33, ↓C_34, ↓C_35, ↓C_36, ↓C_37, ↓C_38, ↓oo_var, ↓oo_cst, ↓oo_con, ↓oo_rev, ↓oo_dic0,
    ↓oo_tup, ↓oo_lst, ↓oo_bin, ↓oo_neg, ↓oo_cmp, ↓oo_chain, ↓oo_not, ↓oo_and, ↓oo_or, ↓oo_ite, ↓oo_call, ↓oo_blt, ↓oo_isi, ↓oo_idx, ↓oo_slc, ↓oo_comp, ↓oo_pop, ↓rt_var, ↓rt_cst, ↓rt_con, ↓rt_rev, ↓rt_dic0, ↓rt_tup, ↓rt_lst,
    ↓rt_bin, ↓rt_neg, ↓rt_cmp, ↓rt_chain, ↓rt_not, ↓rt_and, ↓rt_or, ↓rt_ite, ↓rt_call, ↓rt_blt, ↓rt_isi, ↓rt_idx, ↓rt_slc, ↓rt_comp, ↓rt_pop, ↓rdS_eq, ↓rd_late, ↓rd_val, ↓isL_eq, ↓ag_nil, ↓ag_val, ↓ag_io, ↓puts_nil,
    ↓puts_cons, ↓tg_nm, ↓tg_tup, ↓tgs_nil, ↓tgs_cons, ↓ex_int, ↓ex_bool, ↓ex_list, ↓ex_int2, ↓item_l, ↓item_t, ↓sx_eq, ↓o_addI, ↓o_addS, ↓o_addL, ↓o_addT, ↓o_sub, ↓o_mul, ↓o_mod, ↓o_div, ↓o_pow, ↓o_mulT, ↓o_mulL, ↓c_lt,
    ↓c_le, ↓c_gt, ↓c_ge, ↓c_eqI, ↓c_neI, ↓c_eqS, ↓c_neS, ↓c_eqL, ↓c_neL, ↓c_in, ↓c_nin, ↓c_inT, ↓c_ninT, ↓c_inS, ↓rv_l, ↓rv_t, ↓c_isN, ↓c_isnN, ↓c_isB, ↓c_isnB, ↓bb_lenL, ↓bb_lenT, ↓bb_lenS, ↓bb_int, ↓bb_intB, ↓bb_abs,
    ↓bb_tupL, ↓bb_tupT, ↓bb_lstL, ↓bb_lstT, ↓bb_allM, ↓bb_rep, ↓t_none, ↓t_bool, ↓t_int, ↓t_list, ↓t_tup, ↓its_l, ↓its_t, ↓sl_l, ↓sl_t, ↓sl_s, ↓forB_eq, ↓w_con, ↓w_rev, ↓w_wpE_0, ↓w_wpE_2, ↓w_wpE_3, ↓w_wpE_4, ↓w_wpE_5,
    ↓w_wpE_6, ↓w_wpE_7, ↓w_wpE_8, ↓w_wpE_9, ↓w_wpE_10, ↓w_wpE_11, ↓w_wpE_12, ↓w_wpE_13, ↓w_wpE_14, ↓w_wpE_15, ↓w_wpE_16, ↓w_wpE_17, ↓w_wpE_18, ↓w_wpE_19, ↓w_wpE_20, ↓w_wpT_0, ↓w_wpT_1, ↓w_wpT_2, ↓w_wpT_3, ↓w_wpT_4, ↓w_wpP_0,
    ↓w_wpP_1, ↓w_wpC_0, ↓w_wpC_1, ↓w_wpEs_0, ↓w_wpEs_1, ↓w_wpVs_0, ↓w_wpVs_1, ↓w_wpAs_0, ↓w_wpAs_1, ↓w_wpAs_2, ↓w_wpIt_0, ↓w_wpIt_1, ↓w_wpIt_2, ↓w_wpIt_3, ↓w_wpS_1, ↓w_wpS_2, ↓w_wpS_3, ↓w_wpS_4, ↓w_wpS_5, ↓w_wpS_6, ↓w_wpS_7,
    ↓w_wpS_8, ↓w_wpS_9, ↓w_wpS_10, ↓w_wpS_11, ↓w_wpS_12, ↓w_wpS_13, ↓w_wpSs_0, ↓w_wpSs_1, rtO_own, rtO_sh, rtO_lock, rdO_own, rdO_sh, rdO_lock, isO_own, agO_own, fin_nil, fin_t, fin_f, put_t, put_f, ous_nil, ous_nil,
    ous_cons, ios_nil, ios_io, ios_val, itO_some, atI_0, atI_1, atI_2, atI_3, atI_4, atI_5, sxO_some, ixN_0, ixN_1, ixN_2, ixN_3, ixN_4, get_0, sett_0, get_1, sett_1, get_2, sett_2, get_3, sett_3, get_4, sett_4, get_5,
    sett_5, get_6, sett_6, get_7, sett_7, get_8, sett_8, get_9, sett_9, get_10, sett_10, get_11, sett_11, get_12, sett_12, get_13, sett_13, get_14, sett_14, get_15, sett_15, get_16, sett_16, get_17, sett_17, get_18, sett_18,
    get_19, sett_19, get_20, sett_20, get_21, sett_21, get_22, sett_22, get_23, sett_23, shr_own, shr_lock, shr_sh, shr_un, share_eq, getD_s, cn_none, cn_bool, cn_int, cn_str, natD_eq, ty_int_none, ty_int_bool, ty_int_int,
    ty_int_str, ty_int_list, ty_int_tuple, ty_int_dict, ty_bool_none, ty_bool_bool, ty_bool_int, ty_bool_str, ty_bool_list, ty_bool_tuple, ty_bool_dict, ty_str_none, ty_str_bool, ty_str_int, ty_str_str, ty_str_list,
    ty_str_tuple, ty_str_dict, ty_tuple_none, ty_tuple_bool, ty_tuple_int, ty_tuple_str, ty_tuple_list, ty_tuple_tuple, ty_tuple_dict, ty_list_none, ty_list_bool, ty_list_int, ty_list_str, ty_list_list, ty_list_tuple,
    ty_list_dict, ty_dict_none, ty_dict_bool, ty_dict_int, ty_dict_str, ty_dict_list, ty_dict_tuple, ty_dict_dict, free_eq, fsO_some, freeB_un, freeB_sh, lockE, lockB, unlockE, restore, wipeE, List.length_cons,
    List.length_nil, Nat.zero_add, Nat.reduceAdd, ↓reduceIte, Bool.false_eq_true, true_and, and_true, Bool.not_true, Bool.not_false, decide_eq_true_eq, Bool.not_eq_true', decide_eq_false_iff_not, bne_iff_ne, sizeLine,
    Nat.reducePow, Nat.reduceLeDiff, Nat.reduceLT, List.nodup_cons, List.nodup_nil, List.not_mem_nil, not_false_eq_true, Int.natCast_add, List.length_map, Int.reduceToNat, Int.reducePow, Int.cast_ofNat_Int, Int.reduceLT,
    Int.reduceLE, Int.reduceEq, Int.reduceNe, Int.reduceMod, Int.reduceDiv, Int.reduceMul, Int.reduceAdd, Int.reduceSub, Int.reduceNeg, List.set_cons_zero, List.set_cons_succ, List.getElem?_cons_zero,
    List.getElem?_cons_succ, Bool.true_eq_false, okTy_i, okTy_t, okTy_l, okTy_s, okTy_b, okTy_n, okTy_d, decide_true, decide_false, Bool.and_true, Bool.true_and, Bool.false_and, Bool.and_false, Bool.and_eq_true,
    Nat.add_zero, true_implies, List.length_append, List.all_cons, List.all_nil, id_eq])
local macro_rules | `(tactic| array_mem_dec) => `(tactic| simp only [wpFn, startE, envA, List.length_cons, List.length_nil, Nat.reduceAdd, Nat.reduceSub, List.reduceReplicate, List.cons_append, List.nil_append, List.append_nil, true_and])
local macro_rules | `(tactic| sizeOf_list_dec) => `(tactic| repeat' (first | trivial | assumption | with_reducible apply And.intro | exact Sz.cmul (by decide +kernel) | exact Sz.cdiv (by decide +kernel) (by omega) | exact Sz.le (by decide +kernel) | exact Okd.shows (by decide +kernel) (by decide +kernel) (by decide +kernel) | (show CPow _ _; exact ⟨by decide, by decide, by decide⟩) | omega))

theorem k_times {ds Q} (h : c_law_are_times_right ds Q) : wpFn C f_law_are_times_right ds Q := by
  obtain ⟨h, rfl, n, hH, hn, hQ⟩ := h
  unfold f_law_are_times_right
  array_mem_dec
  refine ss_go fun K hK => ?_
  array_get_dec
  refine ⟨n, hH, by omega, fun x y h1 z g sx sy H1 => ⟨_, H1, by omega, fun d h2 d0 d1 H2 => ⟨_, H2, by omega, fun m h3 hm H3 => ?_⟩⟩⟩
  have q := hQ h3 (H3.mono (by omega))
  obtain ⟨m, rfl, hm60⟩ : ∃ k : Nat, m = .int k ∧ k ≤ 60 := by
    simp only [List.mem_cons, List.not_mem_nil, or_false] at hm
    rcases hm with rfl | rfl | rfl | rfl | rfl | rfl
    · exact ⟨0, rfl, by omega⟩
    · exact ⟨1, rfl, by omega⟩
    · exact ⟨2, rfl, by omega⟩
    · exact ⟨7, rfl, by omega⟩
    · exact ⟨60, rfl, by omega⟩
    · exact ⟨d.toNat, by rw [Int.toNat_of_nonneg d0], by omega⟩
  apply hK.go
  clear hK K hQ hH hn H1 H2 H3 hm d0 d1
  have r5 : RayOk 5 (x, y) := ⟨z, g, sx, sy⟩
  have ru : RayOk 41 (x, y) := r5.mono (by decide)
  have hp : ∀ k, k ≤ 60 → RayOk 400 (powP (x, y) k) := fun k hk => (pow_ok r5 k).mono (by omega)
  refine ss_go fun K hK => ?_
  array_get_dec
  apply hK.go
  clear hK K
  refine ss_go fun K hK => ?_
  array_get_dec
  refine ⟨by omega, by omega, ?_⟩
  have hlen : (rngD 0 (m : Int).toNat).length = m := by unfold rngD; rw [List.length_map, List.length_range, Int.toNat_natCast]
  refine forD_inv (fun xs e => ∃ s t u, xs.length ≤ m ∧ e = [.own h3, .sh (wyP (x, y)), .sh (.int m), .sh (wyP (powP (x, y) (m - xs.length))), s, t, u]) ⟨.un, .un, .un, by omega, by rw [hlen, Nat.sub_self]; rfl⟩ ?_ ?_
  · rintro d xs e ⟨s, t, u, hl, rfl⟩ K' hK'
    rw [List.length_cons] at hl ⊢
    have hw := (hp (m - (xs.length + 1)) (by omega)).mono (show 400 ≤ 3000 by decide)
    have this := hK' _ ⟨.sh d, t, u, by omega, rfl⟩
    rw [show m - xs.length = m - (xs.length + 1) + 1 by omega] at this
    have p1 := hw.nz
    have p3 := hw.s1
    have p4 := hw.s2
    have s1 := sx.mono (show 5 ≤ 3000 by decide)
    have s2 := sy.mono (show 5 ≤ 3000 by decide)
    have e : powP (x, y) (m - (xs.length + 1) + 1) = turnP (powP (x, y) (m - (xs.length + 1))) (x, y) := rfl
    rw [e] at this
    clear e hw hK' hK hl hlen hp sx sy q
    generalize powP (x, y) (m - (xs.length + 1)) = w at *
    rw [tg_nm, put_f, sett_4, forB_eq]
    refine ss_go fun K2 hK => ?_
    array_get_dec
    apply hK.go
    array_get_dec
    exact this
  · rintro e ⟨s, t, u, hl, rfl⟩
    have e0 : m - ([] : List D).length = m := rfl
    rw [e0]
    have hw := hp m hm60
    have hs := hw.s1
    have hs' := hw.s2
    have sumsz := sum_rep (x, y) m
    array_get_dec
    apply hK.go
    clear hK K
    refine ss_go fun K hK => ?_
    array_get_dec
    refine ⟨(x, y), m, rfl, ru, hm60, ?_⟩
    array_get_dec
    refine ⟨Okd.shows (by decide +kernel) (by decide +kernel) (by decide +kernel), ?_⟩
    apply hK.go
    clear hK K
    have rep := rep_wy (x, y) m
    simp only at rep
    have hm3 : (m : Int) ≤ 1000 := by omega
    have hm4 : -9223372036854775808 ≤ (m : Int) := by omega
    refine ss_go fun K hK => ?_
    array_get_dec
    have all : ∀ u, u ∈ List.replicate m (x, y) → RayOk 41 u := fun u hu => by rw [(List.mem_replicate.mp hu).2]; exact ru
    have len : (List.replicate m (x, y)).length ≤ 61 := by rw [List.length_replicate]; omega
    have ssz : Sz (sumP (List.replicate m (x, y))).1 40 := by
      have b : ∀ k : Nat, 0 ≤ (sumP (List.replicate k (x, y))).1 ∧ (sumP (List.replicate k (x, y))).1 ≤ k := by
        intro k
        induction k with
        | zero => exact ⟨Int.le_refl _, Int.le_refl _⟩
        | succ k ih =>
          rw [List.replicate_succ', sum_snoc]
          have w : wr (sumP (List.replicate k (x, y))).2 (x, y) = 0 ∨ wr (sumP (List.replicate k (x, y))).2 (x, y) = 1 := by
            unfold wr; split <;> simp
          show 0 ≤ (sumP (List.replicate k (x, y))).1 + wr _ _ ∧ (sumP (List.replicate k (x, y))).1 + wr _ _ ≤ _
          omega
      have := b m
      exact .of (by omega) (by omega)
    refine ⟨by simp, _, rfl, all, len, ?_⟩
    generalize hS : sumP (List.replicate m (x, y)) = S at *
    array_get_dec
    apply hK.go
    clear hK K
    refine ss_go fun K hK => ?_
    array_get_dec
    refine ⟨by simp, _, rfl, all, len, ?_⟩
    rw [hS]
    array_get_dec
    sizeOf_list_dec
end G

/-! ### k02: the law -/
namespace G
open PySem PySem.Spec L2
open PyProof.Rows hiding St
theorem sum_szP (rs : List P2) : 0 ≤ (sumP rs).1 ∧ (sumP rs).1 ≤ rs.length := by
  have b : ∀ (rs : List P2) (s : Int × P2), s.1 ≤ (rs.foldl stepP s).1 ∧ (rs.foldl stepP s).1 ≤ s.1 + rs.length := by
    intro rs
    induction rs with
    | nil => intro s; exact ⟨Int.le_refl _, by show s.1 ≤ s.1 + (0 : Nat); omega⟩
    | cons u rs ih =>
      intro s
      have := ih (stepP s u)
      have w : wr s.2 u = 0 ∨ wr s.2 u = 1 := by unfold wr; split <;> simp
      have e : (stepP s u).1 = s.1 + wr s.2 u := rfl
      rw [e] at this
      rw [List.foldl_cons, List.length_cons]
      omega
  have := b rs (0, (1, 0))
  exact ⟨this.1, by have h2 := this.2; show (rs.foldl stepP (0, (1, 0))).1 ≤ _; simp only [Int.zero_add] at h2; exact h2⟩
theorem lo_self {a : P2} (h : Int.gcd a.1 a.2 = 1) : lo a = a := by
  unfold lo; rw [h]; exact Prod.ext (Int.ediv_one _) (Int.ediv_one _)
theorem lone_sum {a b : Int} (z : Nz a b) (g : Int.gcd a b = 1) : sumP [(a, b), (a, -b)] = (if a = 1 ∧ b = 0 then 0 else 1, (1, 0)) := by
  have t1 : turnP (1, 0) (a, b) = (a, b) := by
    have e : pr (1, 0) (a, b) = (a, b) := Prod.ext (by show 1 * a - 0 * b = a; omega) (by show 1 * b + 0 * a = b; omega)
    unfold turnP; rw [e]; exact lo_self g
  have t2 : turnP (a, b) (a, -b) = (1, 0) := by
    have e : pr (a, b) (a, -b) = (a * a + b * b, 0) := Prod.ext (by show a * a - b * -b = _; grind) (by show a * -b + b * a = 0; grind)
    unfold turnP; rw [e]
    have p := sq_pos z
    refine (lo_eq (b := (1, 0)) (k := 1) (l := a * a + b * b) (by decide) p (by show 1 * (a * a + b * b) = (a * a + b * b) * 1; omega) (by show (1 : Int) * 0 = (a * a + b * b) * 0; omega)).trans ?_
    decide +kernel
  have h10 : half 1 0 = 0 := rfl
  have w1 : wr (1, 0) (a, b) = 0 := by
    unfold wr; rw [t1]
    refine if_neg ?_
    show ¬ firstB a b 1 0 = true
    unfold firstB; rw [h10]
    by_cases u : Up a b
    · rw [half_up u, if_pos rfl, decide_eq_true_iff]
      unfold Up at u; omega
    · rw [half_dn u, if_neg (by decide)]; decide
  have w2 : wr (a, b) (a, -b) = if a = 1 ∧ b = 0 then 0 else 1 := by
    unfold wr; rw [t2]
    have k : firstB 1 0 a b = true ↔ ¬ (a = 1 ∧ b = 0) := by
      unfold firstB; rw [h10]
      by_cases u : Up a b
      · rw [half_up u, if_pos rfl, decide_eq_true_iff]
        by_cases b0 : b = 0
        · subst b0
          rw [Int.gcd_zero_right] at g
          unfold Up at u
          omega
        · unfold Up at u; omega
      · rw [half_dn u, if_neg (by decide)]
        unfold Up at u
        simp; omega
    by_cases q : a = 1 ∧ b = 0
    · rw [if_pos q]; exact if_neg fun x => k.mp x q
    · rw [if_neg q]; exact if_pos (k.mpr q)
  show (0 + wr (1, 0) (a, b) + wr (turnP (1, 0) (a, b)) (a, -b), turnP (turnP (1, 0) (a, b)) (a, -b)) = _
  rw [t1, t2, w1, w2]; simp
local macro_rules | `(tactic| array_get_dec) => `(tactic| simp only [*, ↓c_turnA_eq, ↓c_turnB_eq, ↓c_turned_eq, ↓c_turned_back_eq, ↓c_law_back_eq, ↓c_law_ray_eq, ↓c_law_small_eq, ↓c_raw_turned_eq, ↓c_law_product_eq, ↓c_raw_half_eq, ↓c_law_half_eq, ↓c_raw_first_eq, ↓c_law_is_first_eq,
    ↓c_check_rays_eq, ↓c_raw_mirrored_eq, ↓c_mirrored_eq, ↓c_is_within_eq, ↓c_check_number_eq, ↓c_check_all_rays_eq, ↓c_is_sized_eq, ↓c_is_integer_eq, ↓c_is_pair_eq, ↓c_raw_sight_eq, ↓c_sight_eq, ↓c_raw_led_eq, ↓c_led_eq,
    ↓c_lowest_eq, ↓c_along_eq, ↓c_aside_eq, ↓c_right_of_eq, ↓c_opposite_eq, ↓cWay_eq, ↓c_is_way_eq, ↓c_is_ray_eq, ↓c_check_way_eq, ↓c_check_ray_eq, ↓c_check_ways_eq, ↓c_law_low_eq, ↓c_raw_lowest_eq, ↓c_raw_along_eq,
    ↓c_raw_aside_eq, okIn_wy, cpow_10, ↓cDraw_eq, ↓cAny_eq, ↓cGreat_eq, ↓cGcd_eq, ↓cLike_eq, Nat.add_zero, true_implies, ↓c_eqP, ↓c_neP, ↓C_0, ↓C_1, ↓C_2, ↓C_3, ↓C_4, ↓C_5, ↓C_6, ↓C_7, ↓C_8, ↓C_9, ↓C_10, ↓C_11, ↓C_12, ↓C_13,
    ↓C_14, ↓C_15, ↓C_16, ↓C_17, ↓C_18, ↓C_19, ↓C_20, ↓C_21, ↓C_22, ↓C_23, ↓C_24, ↓C_25, ↓C_26, ↓C_27, ↓C_28, ↓C_29, ↓C_30, ↓C_31, ↓C_32, ↓C_33, ↓C_34, ↓C_35, ↓C_36, ↓C_37, ↓C_38, ↓oo_var, ↓oo_cst, ↓oo_con, ↓oo_rev, ↓oo_dic0,
    ↓oo_tup, ↓oo_lst, ↓oo_bin, ↓oo_neg, ↓oo_cmp, ↓oo_chain, ↓oo_not, ↓oo_and, ↓oo_or, ↓oo_ite, ↓oo_call, ↓oo_blt, ↓oo_isi, ↓oo_idx, ↓oo_slc, ↓oo_comp, ↓oo_pop, ↓rt_var, ↓rt_cst, ↓rt_con, ↓rt_rev, ↓rt_dic0, ↓rt_tup, ↓rt_lst,
    ↓rt_bin, ↓rt_neg, ↓rt_cmp, ↓rt_chain, ↓rt_not, ↓rt_and, ↓rt_or, ↓rt_ite, ↓rt_call, ↓rt_blt, ↓rt_isi, ↓rt_idx, ↓rt_slc, ↓rt_comp, ↓rt_pop, ↓rdS_eq, ↓rd_late, ↓rd_val, ↓isL_eq, ↓ag_nil, ↓ag_val, ↓ag_io, ↓puts_nil,
    ↓puts_cons, ↓tg_nm, ↓tg_tup, ↓tgs_nil, ↓tgs_cons, ↓ex_int, ↓ex_bool, ↓ex_list, ↓ex_int2, ↓item_l, ↓item_t, ↓sx_eq, ↓o_addI, ↓o_addS, ↓o_addL, ↓o_addT, ↓o_sub, ↓o_mul, ↓o_mod, ↓o_div, ↓o_pow, ↓o_mulT, ↓o_mulL, ↓c_lt,
    ↓c_le, ↓c_gt, ↓c_ge, ↓c_eqI, ↓c_neI, ↓c_eqS, ↓c_neS, ↓c_eqL, ↓c_neL, ↓c_in, ↓c_nin, ↓c_inT, ↓c_ninT, ↓c_inS, ↓rv_l, ↓rv_t, ↓c_isN, ↓c_isnN, ↓c_isB, ↓c_isnB, ↓bb_lenL, ↓bb_lenT, ↓bb_lenS, ↓bb_int, ↓bb_intB, ↓bb_abs,
    ↓bb_tupL, ↓bb_tupT, ↓bb_lstL, ↓bb_lstT, ↓bb_allM, ↓bb_rep, ↓t_none, ↓t_bool, ↓t_int, ↓t_list, ↓t_tup, ↓its_l, ↓its_t, ↓sl_l, ↓sl_t, ↓sl_s, ↓forB_eq, ↓w_con, ↓w_rev, ↓w_wpE_0, ↓w_wpE_2, ↓w_wpE_3, ↓w_wpE_4, ↓w_wpE_5,
    ↓w_wpE_6, ↓w_wpE_7, ↓w_wpE_8, ↓w_wpE_9, ↓w_wpE_10, ↓w_wpE_11, ↓w_wpE_12, ↓w_wpE_13, ↓w_wpE_14, ↓w_wpE_15, ↓w_wpE_16, ↓w_wpE_17, ↓w_wpE_18, ↓w_wpE_19, ↓w_wpE_20, ↓w_wpT_0, ↓w_wpT_1, ↓w_wpT_2, ↓w_wpT_3, ↓w_wpT_4, ↓w_wpP_0,
    ↓w_wpP_1, ↓w_wpC_0, ↓w_wpC_1, ↓w_wpEs_0, ↓w_wpEs_1, ↓w_wpVs_0, ↓w_wpVs_1, ↓w_wpAs_0, ↓w_wpAs_1, ↓w_wpAs_2, ↓w_wpIt_0, ↓w_wpIt_1, ↓w_wpIt_2, ↓w_wpIt_3, ↓w_wpS_1, ↓w_wpS_2, ↓w_wpS_3, ↓w_wpS_4, ↓w_wpS_5, ↓w_wpS_6, ↓w_wpS_7,
    ↓w_wpS_8, ↓w_wpS_9, ↓w_wpS_10, ↓w_wpS_11, ↓w_wpS_12, ↓w_wpS_13, ↓w_wpSs_0, ↓w_wpSs_1, rtO_own, rtO_sh, rtO_lock, rdO_own, rdO_sh, rdO_lock, isO_own, agO_own, fin_nil, fin_t, fin_f, put_t, put_f, ous_nil, ous_nil,
    ous_cons, ios_nil, ios_io, ios_val, itO_some, atI_0, atI_1, atI_2, atI_3, atI_4, atI_5, sxO_some, ixN_0, ixN_1, ixN_2, ixN_3, ixN_4, get_0, sett_0, get_1, sett_1, get_2, sett_2, get_3, sett_3, get_4, sett_4, get_5,
    sett_5, get_6, sett_6, get_7, sett_7, get_8, sett_8, get_9, sett_9, get_10, sett_10, get_11, sett_11, get_12, sett_12, get_13, sett_13, get_14, sett_14, get_15, sett_15, get_16, sett_16, get_17, sett_17, get_18, sett_18,
    get_19, sett_19, get_20, sett_20, get_21, sett_21, get_22, sett_22, get_23, sett_23, shr_own, shr_lock, shr_sh, shr_un, share_eq, getD_s, cn_none, cn_bool, cn_int, cn_str, natD_eq, ty_int_none, ty_int_bool, ty_int_int,
    ty_int_str, ty_int_list, ty_int_tuple, ty_int_dict, ty_bool_none, ty_bool_bool, ty_bool_int, ty_bool_str, ty_bool_list, ty_bool_tuple, ty_bool_dict, ty_str_none, ty_str_bool, ty_str_int, ty_str_str, ty_str_list,
    ty_str_tuple, ty_str_dict, ty_tuple_none, ty_tuple_bool, ty_tuple_int, ty_tuple_str, ty_tuple_list, ty_tuple_tuple, ty_tuple_dict, ty_list_none, ty_list_bool, ty_list_int, ty_list_str, ty_list_list, ty_list_tuple,
    ty_list_dict, ty_dict_none, ty_dict_bool, ty_dict_int, ty_dict_str, ty_dict_list, ty_dict_tuple, ty_dict_dict, free_eq, fsO_some, freeB_un, freeB_sh, lockE, lockB, unlockE, restore, wipeE, List.length_cons,
    List.length_nil, Nat.zero_add, Nat.reduceAdd, ↓reduceIte, Bool.false_eq_true, true_and, and_true, Bool.not_true, Bool.not_false, decide_eq_true_eq, Bool.not_eq_true', decide_eq_false_iff_not, bne_iff_ne, sizeLine,
    Nat.reducePow, Nat.reduceLeDiff, Nat.reduceLT, List.nodup_cons, List.nodup_nil, List.not_mem_nil, not_false_eq_true, Int.natCast_add, List.length_map, Int.reduceToNat, Int.reducePow, Int.cast_ofNat_Int, Int.reduceLT,
    Int.reduceLE, Int.reduceEq, Int.reduceNe, Int.reduceMod, Int.reduceDiv, Int.reduceMul, Int.reduceAdd, Int.reduceSub, Int.reduceNeg, List.set_cons_zero, List.set_cons_succ, List.getElem?_cons_zero,
    List.getElem?_cons_succ, Bool.true_eq_false, okTy_i, okTy_t, okTy_l, okTy_s, okTy_b, okTy_n, okTy_d, decide_true, decide_false, Bool.and_true, Bool.true_and, Bool.false_and, Bool.and_false, Bool.and_eq_true,
    Nat.add_zero, true_implies, List.length_append, List.all_cons, List.all_nil, id_eq])
local macro_rules | `(tactic| array_mem_dec) => `(tactic| simp only [wpFn, startE, envA, List.length_cons, List.length_nil, Nat.reduceAdd, Nat.reduceSub, List.reduceReplicate, List.cons_append, List.nil_append, List.append_nil, true_and])
local macro_rules | `(tactic| sizeOf_list_dec) => `(tactic| repeat' (first | trivial | assumption | with_reducible apply And.intro | exact Sz.cmul (by decide +kernel) | exact Sz.cdiv (by decide +kernel) (by omega) | exact Sz.le (by decide +kernel) | exact Okd.shows (by decide +kernel) (by decide +kernel) (by decide +kernel) | (show CPow _ _; exact ⟨by decide, by decide, by decide⟩) | omega))

theorem k_law {ds Q} (h : c_law ds Q) : wpFn C f_law ds Q := by
  obtain ⟨ns, rfl, hQ⟩ := h
  unfold f_law
  array_mem_dec
  refine ss_go fun K hK => ?_
  array_get_dec
  refine ⟨ns, rfl, fun h0 H0 => hK.go ?_⟩
  clear hK K
  have r01 : RayOk 41 (0, 1) := ⟨.inr (by decide), by decide, ⟨by decide⟩, ⟨by decide⟩⟩
  have rm : RayOk 41 (-1, 0) := ⟨.inl (by decide), by decide, ⟨by decide⟩, ⟨by decide⟩⟩
  have r10 : RayOk 41 (1, 0) := ⟨.inl (by decide), by decide, ⟨by decide⟩, ⟨by decide⟩⟩
  have r0m : RayOk 41 (0, -1) := ⟨.inr (by decide), by decide, ⟨by decide⟩, ⟨by decide⟩⟩
  have r11 : RayOk 41 (1, 1) := ⟨.inl (by decide), by decide, ⟨by decide⟩, ⟨by decide⟩⟩
  have v1 : sumP [] = (0, (1, 0)) := rfl
  have v2 : sumP [(0, 1), (0, 1), (0, 1), (0, 1)] = (1, (1, 0)) := by decide +kernel
  have v3 : sumP [(-1, 0), (-1, 0)] = (1, (1, 0)) := by decide +kernel
  have v4 : sumP [(1, 0), (1, 0), (1, 0)] = (0, (1, 0)) := by decide +kernel
  have v5 : sumP [(0, -1), (0, -1), (0, -1), (0, -1)] = (3, (1, 0)) := by decide +kernel
  have v6 : powP (1, 1) 8 = (1, 0) := by decide +kernel
  have v7 : powP (0, 1) 59 = (0, -1) := by decide +kernel
  refine ss_go fun K hK => ?_
  array_get_dec
  refine ⟨[], rfl, by simp, by simp, ?_⟩
  array_get_dec
  refine ⟨by simp, [(0, 1), (0, 1), (0, 1), (0, 1)], rfl, by simp [r01], by simp, ?_⟩
  array_get_dec
  refine ⟨[(-1, 0), (-1, 0)], rfl, by simp [rm], by simp, ?_⟩
  array_get_dec
  refine ⟨by simp, [(1, 0), (1, 0), (1, 0)], rfl, by simp [r10], by simp, ?_⟩
  array_get_dec
  sizeOf_list_dec
  apply hK.go
  clear hK K
  refine ss_go fun K hK => ?_
  array_get_dec
  sizeOf_list_dec
  apply hK.go
  clear hK K
  refine ss_go fun K hK => ?_
  array_get_dec
  refine ⟨by simp, [(0, -1), (0, -1), (0, -1), (0, -1)], rfl, by simp [r0m], by simp, ?_⟩
  array_get_dec
  refine ⟨(1, 1), 8, rfl, r11, by decide, ?_⟩
  array_get_dec
  refine ⟨(0, 1), 59, rfl, r01, by decide, ?_⟩
  array_get_dec
  sizeOf_list_dec
  apply hK.go
  clear hK K v1 v2 v3 v4 v5 v6 v7 r01 rm r0m r11
  generalize (PyData.list _) = L
  refine ss_go fun K hK => ?_
  array_get_dec
  have hn : (rngD 0 6).length = 6 := by decide
  refine forD_inv (fun xs e => ∃ h s3 s4 s5 s6 s7, xs.length ≤ 6 ∧ Hand (10000 * (6 - xs.length)) h ∧ e = [.sh (scrD (ns.map .int)), .own h, .sh L, s3, s4, s5, s6, s7] ∧ freeB s7 = true) ⟨h0, .un, .un, .un, .un, .un, by rw [hn]; omega, by rw [hn]; exact H0, rfl, rfl⟩ ?_ ?_
  · rintro x xs e ⟨h, s3, s4, s5, s6, s7, hl, H, rfl, f7⟩ K' hK'
    rw [List.length_cons] at hl H
    generalize hN : 10000 * (6 - (xs.length + 1)) = N at H
    have hNb : N ≤ 60000 := by omega
    have hkk : ∀ h' s4 s5 s6 s7, Hand (N + 10000) h' → freeB s7 = true → K' [.sh (scrD (ns.map .int)), .own h', .sh L, .sh x, s4, s5, s6, s7] := fun h' s4 s5 s6 s7 H' f =>
      hK' _ ⟨h', _, s4, s5, s6, s7, by omega, H'.mono (by omega), rfl, f⟩
    rw [tg_nm, put_f, sett_3, forB_eq]
    refine ss_go fun K2 hK2 => ?_
    clear hK' hK hQ H0
    array_get_dec
    refine ⟨N, H, by omega, fun h1 H1 => ⟨_, H1, by omega, fun h2 H2 => hK2.go ?_⟩⟩
    clear hK2 K2
    refine ss_go fun K2 hK2 => ?_
    array_get_dec
    refine ⟨_, H2, by omega, fun m h3 hm H3 => ?_⟩
    obtain ⟨m, rfl, m1⟩ : ∃ k : Nat, m = .int k ∧ k ≤ 20 := by
      simp only [List.mem_cons, List.not_mem_nil, or_false] at hm
      rcases hm with rfl | rfl | rfl
      · exact ⟨1, rfl, by omega⟩
      · exact ⟨3, rfl, by omega⟩
      · exact ⟨20, rfl, by omega⟩
    have hlen : (rngD 0 (m : Int).toNat).length = m := by unfold rngD; rw [List.length_map, List.length_range, Int.toNat_natCast]
    refine ⟨m, rfl, by omega, by omega, by rw [hlen]; omega, ?_⟩
    refine compD_inv (fun xs acc e => ∃ (rs : List P2) (h : D) (s : Slot), acc = rs.map wyP ∧ (∀ u, u ∈ rs → RayOk 5 u) ∧ rs.length + xs.length ≤ 20 ∧ Hand (N + 4001 + 11 * rs.length) h ∧ e = [.sh (scrD (ns.map .int)), .own h, .sh L, .sh x, s4, s5, s6, s] ∧ freeB s = true)
      ⟨[], h3, s7, rfl, by simp, by rw [hlen]; simp; exact m1, H3.mono (by omega), rfl, f7⟩ ?_ ?_
    · rintro z zs acc e ⟨rs, h, s, rfl, hr, hz, H, rfl, fs⟩ K' hK'
      rw [List.length_cons] at hz
      have hk2 : ∀ (u : P2) (h' : D), RayOk 5 u → Hand (N + 4001 + 11 * rs.length + 11) h' → K' (rs.map wyP ++ [wyP u]) [.sh (scrD (ns.map .int)), .own h', .sh L, .sh x, s4, s5, s6, .sh z] := fun u h' hu H' =>
        hK' _ _ ⟨rs ++ [u], h', .sh z, by simp, by
          intro v hv
          rcases List.mem_append.mp hv with hv | hv
          · exact hr v hv
          · rw [List.mem_singleton.mp hv]; exact hu, by rw [List.length_append]; simp; omega, by rw [List.length_append]; exact H'.mono (by simp; omega), rfl, rfl⟩
      clear hK' hkk hK2
      array_get_dec
      refine ⟨_, H, by omega, fun a b h' z g sa sb H' => ?_⟩
      exact hk2 (a, b) h' ⟨z, g, sa, sb⟩ H'
    · rintro acc e ⟨rs, h, s, rfl, hr, hz, H, rfl, fs⟩
      have hz : rs.length ≤ 20 := by simpa using hz
      clear hm m1 hlen H3 H2 H1
      array_get_dec
      apply hK2.go
      clear hK2 K2
      have r41 : ∀ u, u ∈ rs → RayOk 41 u := fun u hu => (hr u hu).mono (by decide)
      have hs := sum_ok rs hr
      have hs := hs.mono (show _ ≤ 200 by omega)
      have w0 : Sz (sumP rs).1 10 := by have := sum_szP rs; exact .of (by omega) (by omega)
      have w1 := hs.s1
      have w2 := hs.s2
      refine ss_go fun K2 hK2 => ?_
      array_get_dec
      refine ⟨rs, rfl, r41, by omega, ?_⟩
      apply hK2.go
      clear hK2 K2
      refine ss_go fun K2 hK2 => ?_
      array_get_dec
      refine ⟨rs, rfl, r41, by omega, ?_⟩
      array_get_dec
      refine ⟨h, rs, rfl, by omega, _, H, by omega, fun qs h4 hp H4 => ?_⟩
      have sp : sumP qs = sumP rs := sum_perm hp fun u hu => (r41 u (hp.mem_iff.mp hu)).nz
      array_get_dec
      refine ⟨qs, rfl, fun u hu => r41 u (hp.mem_iff.mp hu), by rw [hp.length_eq]; omega, ?_⟩
      rw [sp]
      array_get_dec
      sizeOf_list_dec
      apply hK2.go
      clear hK2 K2 w0 w1 w2 hs r41 sp
      refine ss_go fun K2 hK2 => ?_
      array_get_dec
      refine ⟨_, H4, by omega, fun a b h5 z g sa sb H5 => ?_⟩
      have kf := fun s4 s5 s6 => hkk h5 s4 s5 s6 s7 (H5.mono (by omega)) f7
      apply hK2.go
      clear hK2 K2 hkk H4 hp H
      have ra : RayOk 41 (a, b) := ⟨z, g, sa, sb⟩
      have rb : RayOk 41 (a, -b) := ⟨nz_neg z, gcd_neg' g, sa, Sz.neg⟩
      refine ss_go fun K2 hK2 => ?_
      array_get_dec
      refine ⟨[(a, b), (a, -b)], rfl, by simp [ra, rb], by simp, ?_⟩
      array_get_dec
      rw [lone_sum z g]
      split
      · refine ⟨rfl, Okd.shows (by decide +kernel) (by decide +kernel) (by decide +kernel), hK2.go ?_⟩
        array_get_dec
      · refine ⟨rfl, Okd.shows (by decide +kernel) (by decide +kernel) (by decide +kernel), hK2.go ?_⟩
        array_get_dec
  · rintro e ⟨h, s3, s4, s5, s6, s7, hl, H, rfl, f7⟩
    array_get_dec
    apply hK.go
    array_get_dec
end G

/-! ### the head, the end -/
namespace G
open PySem PySem.Spec L2
open PyProof.Rows hiding St
def e_law_hand : He.DefD := ⟨("_law_hand", none), "_law_hand", "_law_hand", defArgs (top 30), defBody (top 30), defScope (top 30), [], []⟩
def e_is_sized : He.DefD := ⟨("is_sized", none), "is_sized", "is_sized", defArgs (top 7), defBody (top 7), defScope (top 7), [], []⟩
def e_is_integer : He.DefD := ⟨("is_integer", none), "is_integer", "is_integer", defArgs (top 5), defBody (top 5), defScope (top 5), [], []⟩
def e_is_pair : He.DefD := ⟨("is_pair", none), "is_pair", "is_pair", defArgs (top 8), defBody (top 8), defScope (top 8), [], []⟩
def e_is_way : He.DefD := ⟨("is_way", none), "is_way", "is_way", defArgs (top 14), defBody (top 14), defScope (top 14), [], []⟩
def e_shared : He.DefD := ⟨("shared", none), "shared", "shared", defArgs (top 10), defBody (top 10), defScope (top 10), [], []⟩
def e_is_ray : He.DefD := ⟨("is_ray", none), "is_ray", "is_ray", defArgs (top 15), defBody (top 15), defScope (top 15), [], []⟩
def e_check_ray : He.DefD := ⟨("check_ray", none), "check_ray", "check_ray", defArgs (top 16), defBody (top 16), defScope (top 16), [], []⟩
def e_check_all_rays : He.DefD := ⟨("check_all_rays", none), "check_all_rays", "check_all_rays", defArgs (top 21), defBody (top 21), defScope (top 21), [], []⟩
def e_raw_lowest : He.DefD := ⟨("raw_lowest", none), "raw_lowest", "raw_lowest", defArgs (top 18), defBody (top 18), defScope (top 18), [], []⟩
def e_raw_turned : He.DefD := ⟨("raw_turned", none), "raw_turned", "raw_turned", defArgs (top 24), defBody (top 24), defScope (top 24), [], []⟩
def e_raw_half : He.DefD := ⟨("raw_half", none), "raw_half", "raw_half", defArgs (top 19), defBody (top 19), defScope (top 19), [], []⟩
def e_raw_first : He.DefD := ⟨("raw_first", none), "raw_first", "raw_first", defArgs (top 20), defBody (top 20), defScope (top 20), [], []⟩
def e_wide_sum : He.DefD := ⟨("wide_sum", none), "wide_sum", "wide_sum", defArgs (top 28), defBody (top 28), defScope (top 28), [], []⟩
def e_law_like : He.DefD := ⟨("_law_like", none), "_law_like", "_law_like", defArgs (top 34), defBody (top 34), defScope (top 34), [], []⟩
def e_law_common : He.DefD := ⟨("_law_common", none), "_law_common", "_law_common", defArgs (top 35), defBody (top 35), defScope (top 35), [], []⟩
def e_law_low : He.DefD := ⟨("_law_low", none), "_law_low", "_law_low", defArgs (top 36), defBody (top 36), defScope (top 36), [], []⟩
def e_law_product : He.DefD := ⟨("_law_product", none), "_law_product", "_law_product", defArgs (top 37), defBody (top 37), defScope (top 37), [], []⟩
def e_law_half : He.DefD := ⟨("_law_half", none), "_law_half", "_law_half", defArgs (top 41), defBody (top 41), defScope (top 41), [], []⟩
def e_law_is_first : He.DefD := ⟨("_law_is_first", none), "_law_is_first", "_law_is_first", defArgs (top 42), defBody (top 42), defScope (top 42), [], []⟩
def e_law_sum : He.DefD := ⟨("_law_sum", none), "_law_sum", "_law_sum", defArgs (top 43), defBody (top 43), defScope (top 43), [], []⟩
def e_law_draw : He.DefD := ⟨("_law_draw", none), "_law_draw", "_law_draw", defArgs (top 31), defBody (top 31), defScope (top 31), [], []⟩
def e_law_any : He.DefD := ⟨("_law_any", none), "_law_any", "_law_any", defArgs (top 32), defBody (top 32), defScope (top 32), [], []⟩
def e_law_great : He.DefD := ⟨("_law_great", none), "_law_great", "_law_great", defArgs (top 39), defBody (top 39), defScope (top 39), [], []⟩
def e_law_ray : He.DefD := ⟨("_law_ray", none), "_law_ray", "_law_ray", defArgs (top 40), defBody (top 40), defScope (top 40), [], []⟩
def e_is_within : He.DefD := ⟨("is_within", none), "is_within", "is_within", defArgs (top 6), defBody (top 6), defScope (top 6), [], []⟩
def e_check_number : He.DefD := ⟨("check_number", none), "check_number", "check_number", defArgs (top 9), defBody (top 9), defScope (top 9), [], []⟩
def e_times : He.DefD := ⟨("times", none), "times", "times", defArgs (top 27), defBody (top 27), defScope (top 27), [], []⟩
def e_check_rays : He.DefD := ⟨("check_rays", none), "check_rays", "check_rays", defArgs (top 17), defBody (top 17), defScope (top 17), [], []⟩
def e_turned : He.DefD := ⟨("turned", none), "turned", "turned", defArgs (top 25), defBody (top 25), defScope (top 25), [], []⟩
def e_raw_mirrored : He.DefD := ⟨("raw_mirrored", none), "raw_mirrored", "raw_mirrored", defArgs (top 22), defBody (top 22), defScope (top 22), [], []⟩
def e_turned_back : He.DefD := ⟨("turned_back", none), "turned_back", "turned_back", defArgs (top 26), defBody (top 26), defScope (top 26), [], []⟩
def e_mirrored : He.DefD := ⟨("mirrored", none), "mirrored", "mirrored", defArgs (top 23), defBody (top 23), defScope (top 23), [], []⟩
def e_law_back : He.DefD := ⟨("_law_back", none), "_law_back", "_law_back", defArgs (top 38), defBody (top 38), defScope (top 38), [], []⟩
def e_law_is_turned_right : He.DefD := ⟨("_law_is_turned_right", none), "_law_is_turned_right", "_law_is_turned_right", defArgs (top 45), defBody (top 45), defScope (top 45), [], []⟩
def e_law_small : He.DefD := ⟨("_law_small", none), "_law_small", "_law_small", defArgs (top 44), defBody (top 44), defScope (top 44), [], []⟩
def e_law_are_times_right : He.DefD := ⟨("_law_are_times_right", none), "_law_are_times_right", "_law_are_times_right", defArgs (top 46), defBody (top 46), defScope (top 46), [], []⟩
def e_law_mixed : He.DefD := ⟨("_law_mixed", none), "_law_mixed", "_law_mixed", defArgs (top 33), defBody (top 33), defScope (top 33), [], []⟩
def e_law : He.DefD := ⟨("law", none), "law", "law", defArgs (top 47), defBody (top 47), defScope (top 47), [], []⟩
def hfn : List He.DefD := ([e_law_hand, e_is_sized, e_is_integer, e_is_pair, e_is_way, e_shared, e_is_ray, e_check_ray, e_check_all_rays, e_raw_lowest, e_raw_turned, e_raw_half, e_raw_first, e_wide_sum, e_law_like, e_law_common, e_law_low, e_law_product, e_law_half, e_law_is_first] : List He.DefD) ++ ([e_law_sum, e_law_draw, e_law_any, e_law_great, e_law_ray, e_is_within, e_check_number, e_times, e_check_rays, e_turned, e_raw_mirrored, e_turned_back, e_mirrored, e_law_back, e_law_is_turned_right, e_law_small, e_law_are_times_right, e_law_mixed, e_law] : List He.DefD)
def hfa : List He.Fa := ([.glo "_law_hand", .glo "is_sized", .glo "is_integer", .glo "is_pair", .glo "is_way", .glo "shared", .glo "is_ray", .glo "check_ray", .glo "check_all_rays", .glo "raw_lowest", .glo "raw_turned", .glo "raw_half", .glo "raw_first", .glo "wide_sum", .glo "_law_like", .glo "_law_common", .glo "_law_low", .glo "_law_product", .glo "_law_half", .glo "_law_is_first"] : List He.Fa) ++ ([.glo "_law_sum", .glo "_law_draw", .glo "_law_any", .glo "_law_great", .glo "_law_ray", .glo "is_within", .glo "check_number", .glo "times", .glo "check_rays", .glo "turned", .glo "raw_mirrored", .glo "turned_back", .glo "mirrored", .glo "_law_back", .glo "_law_is_turned_right", .glo "_law_small", .glo "_law_are_times_right", .glo "_law_mixed", .glo "law", .free "len"] : List He.Fa) ++ ([.free "int", .free "abs", .free "tuple", .free "list", .free "all", .free "any", .free "repr", .free "range", .free "enumerate", .free "isinstance", .free "bool", .free "str", .free "dict"] : List He.Fa)
abbrev HR : PySem.W.OpenRow := PySem.W.OpenLaw.row PySem.Challenge.rw_whogivesway_k02_whole_rays_turned_and_wh
abbrev hk : PySem.W.Hook := hookK 4 hfa hfn cs
def hob (s : PySem.W.SharedT) : He.AlD := obsKG 4 hfa hfn cs (HandSHeadRun.getT s)
theorem hob_eq (s : PySem.W.SharedT) : hob s = hk.obs s.abs := obsKG_eq (HandSHeadRun.getT_eq s)
def loose : List Str := (["__name__", "SeaError", "NoRay", "NoNumber", "is_integer", "is_within", "is_sized", "is_pair", "check_number", "shared", "AHEAD", "MOST_TIMES", "is_way", "is_ray", "check_ray", "check_rays", "raw_lowest", "raw_half", "raw_first", "check_all_rays"] : List Str) ++ (["raw_mirrored", "mirrored", "raw_turned", "turned", "turned_back", "times", "wide_sum", "_law_hand", "_law_draw", "_law_any", "_law_mixed", "_law_like", "_law_common", "_law_low", "_law_product", "_law_back", "_law_great", "_law_ray", "_law_half", "_law_is_first"] : List Str) ++ (["_law_sum", "_law_small", "_law_is_turned_right", "_law_are_times_right"] : List Str)
theorem hrun (w : World) : HandSHeadRun.RunEq HR (PySem.W.view HR.prog [47]) hk hob 2320 loose w := by
  intro os
  kernel_rfl
end G

/-! ### every def keeps its word; the end -/
namespace G
open PySem PySem.Spec L2
open PyProof.Rows hiding St
theorem kept : ∀ (i : Nat) (d : Df), tab[i]? = some d → ∀ ds Q, C i ds Q → wpFn C d.fn ds Q := by
  intro i d hd ds Q h
  match i, hd, h with
  | 0, hd, h => have e : d_law_hand = d := Option.some.inj hd; subst e; exact (show wpFn C f_law_hand ds Q from law_hand_ok (by decide) (by decide) h)
  | 1, hd, h => have e : d_is_sized = d := Option.some.inj hd; subst e; exact (show wpFn C f_is_sized ds Q from is_sized_ok h)
  | 2, hd, h => have e : d_is_integer = d := Option.some.inj hd; subst e; exact (show wpFn C f_is_integer ds Q from is_integer_ok h)
  | 3, hd, h => have e : d_is_pair = d := Option.some.inj hd; subst e; exact (show wpFn C f_is_pair ds Q from is_pair_ok rfl rfl h)
  | 4, hd, h => have e : d_is_way = d := Option.some.inj hd; subst e; exact (show wpFn C f_is_way ds Q from is_way_ok rfl h)
  | 5, hd, h => have e : d_shared = d := Option.some.inj hd; subst e; exact (show wpFn C f_shared ds Q from gcd_ok h)
  | 6, hd, h => have e : d_is_ray = d := Option.some.inj hd; subst e; exact (show wpFn C f_is_ray ds Q from is_ray_ok rfl rfl h)
  | 7, hd, h => have e : d_check_ray = d := Option.some.inj hd; subst e; exact (show wpFn C f_check_ray ds Q from check_ray_ok rfl h)
  | 8, hd, h => have e : d_check_all_rays = d := Option.some.inj hd; subst e; exact (show wpFn C f_check_all_rays ds Q from check_all_rays_ok rfl h)
  | 9, hd, h => have e : d_raw_lowest = d := Option.some.inj hd; subst e; exact (show wpFn C f_raw_lowest ds Q from raw_lowest_ok rfl h)
  | 10, hd, h => have e : d_raw_turned = d := Option.some.inj hd; subst e; exact (show wpFn C f_raw_turned ds Q from raw_turned_ok rfl h)
  | 11, hd, h => have e : d_raw_half = d := Option.some.inj hd; subst e; exact (show wpFn C f_raw_half ds Q from raw_half_ok h)
  | 12, hd, h => have e : d_raw_first = d := Option.some.inj hd; subst e; exact (show wpFn C f_raw_first ds Q from raw_first_ok rfl h)
  | 13, hd, h => have e : d_wide_sum = d := Option.some.inj hd; subst e; exact (show wpFn C f_wide_sum ds Q from wide_sum_ok rfl rfl rfl h)
  | 14, hd, h => have e : d_law_like = d := Option.some.inj hd; subst e; exact (show wpFn C f_law_like ds Q from like_ok h)
  | 15, hd, h => have e : d_law_common = d := Option.some.inj hd; subst e; exact (show wpFn C f_law_common ds Q from gcd2_ok h)
  | 16, hd, h => have e : d_law_low = d := Option.some.inj hd; subst e; exact (show wpFn C f_law_low ds Q from law_low_ok rfl h)
  | 17, hd, h => have e : d_law_product = d := Option.some.inj hd; subst e; exact (show wpFn C f_law_product ds Q from law_product_ok rfl h)
  | 18, hd, h => have e : d_law_half = d := Option.some.inj hd; subst e; exact (show wpFn C f_law_half ds Q from law_half_ok h)
  | 19, hd, h => have e : d_law_is_first = d := Option.some.inj hd; subst e; exact (show wpFn C f_law_is_first ds Q from law_is_first_ok rfl h)
  | 20, hd, h => have e : d_law_sum = d := Option.some.inj hd; subst e; exact (show wpFn C f_law_sum ds Q from law_sum_ok rfl rfl h)
  | 21, hd, h => have e : d_law_draw = d := Option.some.inj hd; subst e; exact (show wpFn C f_law_draw ds Q from draw_ok h)
  | 22, hd, h => have e : d_law_any = d := Option.some.inj hd; subst e; exact (show wpFn C f_law_any ds Q from any_ok rfl h)
  | 23, hd, h => have e : d_law_great = d := Option.some.inj hd; subst e; exact (show wpFn C f_law_great ds Q from great_ok rfl h)
  | 24, hd, h => have e : d_law_ray = d := Option.some.inj hd; subst e; exact (show wpFn C f_law_ray ds Q from law_ray_ok rfl rfl rfl rfl h)
  | 25, hd, h => have e : d_is_within = d := Option.some.inj hd; subst e; exact (show wpFn C f_is_within ds Q from is_within_ok rfl h)
  | 26, hd, h => have e : d_check_number = d := Option.some.inj hd; subst e; exact (show wpFn C f_check_number ds Q from check_number_ok rfl h)
  | 27, hd, h => have e : d_times = d := Option.some.inj hd; subst e; exact (show wpFn C f_times ds Q from times_ok rfl rfl rfl h)
  | 28, hd, h => have e : d_check_rays = d := Option.some.inj hd; subst e; exact (show wpFn C f_check_rays ds Q from check_rays_ok rfl h)
  | 29, hd, h => have e : d_turned = d := Option.some.inj hd; subst e; exact (show wpFn C f_turned ds Q from turned_ok rfl rfl h)
  | 30, hd, h => have e : d_raw_mirrored = d := Option.some.inj hd; subst e; exact (show wpFn C f_raw_mirrored ds Q from raw_mirrored_ok h)
  | 31, hd, h => have e : d_turned_back = d := Option.some.inj hd; subst e; exact (show wpFn C f_turned_back ds Q from turned_back_ok rfl rfl rfl h)
  | 32, hd, h => have e : d_mirrored = d := Option.some.inj hd; subst e; exact (show wpFn C f_mirrored ds Q from mirrored_ok rfl rfl h)
  | 33, hd, h => have e : d_law_back = d := Option.some.inj hd; subst e; exact (show wpFn C f_law_back ds Q from law_back_ok rfl h)
  | 34, hd, h => have e : d_law_is_turned_right = d := Option.some.inj hd; subst e; exact (show wpFn C f_law_is_turned_right ds Q from k_turned h)
  | 35, hd, h => have e : d_law_small = d := Option.some.inj hd; subst e; exact (show wpFn C f_law_small ds Q from law_small_ok rfl rfl rfl h)
  | 36, hd, h => have e : d_law_are_times_right = d := Option.some.inj hd; subst e; exact (show wpFn C f_law_are_times_right ds Q from k_times h)
  | 37, hd, h => have e : d_law_mixed = d := Option.some.inj hd; subst e; exact (show wpFn C f_law_mixed ds Q from law_mixed_ok rfl h)
  | 38, hd, h => have e : d_law = d := Option.some.inj hd; subst e; exact (show wpFn C f_law ds Q from k_law h)
  | n + 39, hd, h =>
    have h1 := (List.getElem?_eq_some_iff.mp hd).1
    have h2 : tab.length = 39 := rfl
    exact absurd h1 (by omega)
section
variable {P : Program} {w : World} {K : PySem.W.Frag} {h : Heap} {mg : Str → Option Value} {f : Addr}
theorem funs (X : K.In h) (G : h.Ns mainGlobals mg) (c : SaysK hfa hfn cs K) : ∀ (i : Nat) (d : Df), tab[i]? = some d → ∃ x qual f fd, FunD K x qual (defArgs d.st) (defBody d.st) (defScope d.st) [] [] f fd ∧ mg d.name = some (.ref f) ∧ Binds K fd d.ps [] := by
  intro i d hd
  match i, hd with
  | 0, hd =>
    have e : d_law_hand = d := Option.some.inj hd
    subst e
    obtain ⟨fd, F⟩ := c.says.def_ 0 (d := e_law_hand) rfl
    exact ⟨_, _, _, fd, F, He.glo_ok X G (c.says.fact 0 (f := .glo "_law_hand") rfl), F.bindsN (ps := d_law_hand.ps) fun _ _ _ _ _ _ us hl => match us, hl with | [_], _ => rfl⟩
  | 1, hd =>
    have e : d_is_sized = d := Option.some.inj hd
    subst e
    obtain ⟨fd, F⟩ := c.says.def_ 1 (d := e_is_sized) rfl
    exact ⟨_, _, _, fd, F, He.glo_ok X G (c.says.fact 1 (f := .glo "is_sized") rfl), F.bindsN (ps := d_is_sized.ps) fun _ _ _ _ _ _ us hl => match us, hl with | [_, _, _], _ => rfl⟩
  | 2, hd =>
    have e : d_is_integer = d := Option.some.inj hd
    subst e
    obtain ⟨fd, F⟩ := c.says.def_ 2 (d := e_is_integer) rfl
    exact ⟨_, _, _, fd, F, He.glo_ok X G (c.says.fact 2 (f := .glo "is_integer") rfl), F.bindsN (ps := d_is_integer.ps) fun _ _ _ _ _ _ us hl => match us, hl with | [_], _ => rfl⟩
  | 3, hd =>
    have e : d_is_pair = d := Option.some.inj hd
    subst e
    obtain ⟨fd, F⟩ := c.says.def_ 3 (d := e_is_pair) rfl
    exact ⟨_, _, _, fd, F, He.glo_ok X G (c.says.fact 3 (f := .glo "is_pair") rfl), F.bindsN (ps := d_is_pair.ps) fun _ _ _ _ _ _ us hl => match us, hl with | [_], _ => rfl⟩
  | 4, hd =>
    have e : d_is_way = d := Option.some.inj hd
    subst e
    obtain ⟨fd, F⟩ := c.says.def_ 4 (d := e_is_way) rfl
    exact ⟨_, _, _, fd, F, He.glo_ok X G (c.says.fact 4 (f := .glo "is_way") rfl), F.bindsN (ps := d_is_way.ps) fun _ _ _ _ _ _ us hl => match us, hl with | [_], _ => rfl⟩
  | 5, hd =>
    have e : d_shared = d := Option.some.inj hd
    subst e
    obtain ⟨fd, F⟩ := c.says.def_ 5 (d := e_shared) rfl
    exact ⟨_, _, _, fd, F, He.glo_ok X G (c.says.fact 5 (f := .glo "shared") rfl), F.bindsN (ps := d_shared.ps) fun _ _ _ _ _ _ us hl => match us, hl with | [_, _], _ => rfl⟩
  | 6, hd =>
    have e : d_is_ray = d := Option.some.inj hd
    subst e
    obtain ⟨fd, F⟩ := c.says.def_ 6 (d := e_is_ray) rfl
    exact ⟨_, _, _, fd, F, He.glo_ok X G (c.says.fact 6 (f := .glo "is_ray") rfl), F.bindsN (ps := d_is_ray.ps) fun _ _ _ _ _ _ us hl => match us, hl with | [_], _ => rfl⟩
  | 7, hd =>
    have e : d_check_ray = d := Option.some.inj hd
    subst e
    obtain ⟨fd, F⟩ := c.says.def_ 7 (d := e_check_ray) rfl
    exact ⟨_, _, _, fd, F, He.glo_ok X G (c.says.fact 7 (f := .glo "check_ray") rfl), F.bindsN (ps := d_check_ray.ps) fun _ _ _ _ _ _ us hl => match us, hl with | [_], _ => rfl⟩
  | 8, hd =>
    have e : d_check_all_rays = d := Option.some.inj hd
    subst e
    obtain ⟨fd, F⟩ := c.says.def_ 8 (d := e_check_all_rays) rfl
    exact ⟨_, _, _, fd, F, He.glo_ok X G (c.says.fact 8 (f := .glo "check_all_rays") rfl), F.bindsN (ps := d_check_all_rays.ps) fun _ _ _ _ _ _ us hl => match us, hl with | [_], _ => rfl⟩
  | 9, hd =>
    have e : d_raw_lowest = d := Option.some.inj hd
    subst e
    obtain ⟨fd, F⟩ := c.says.def_ 9 (d := e_raw_lowest) rfl
    exact ⟨_, _, _, fd, F, He.glo_ok X G (c.says.fact 9 (f := .glo "raw_lowest") rfl), F.bindsN (ps := d_raw_lowest.ps) fun _ _ _ _ _ _ us hl => match us, hl with | [_], _ => rfl⟩
  | 10, hd =>
    have e : d_raw_turned = d := Option.some.inj hd
    subst e
    obtain ⟨fd, F⟩ := c.says.def_ 10 (d := e_raw_turned) rfl
    exact ⟨_, _, _, fd, F, He.glo_ok X G (c.says.fact 10 (f := .glo "raw_turned") rfl), F.bindsN (ps := d_raw_turned.ps) fun _ _ _ _ _ _ us hl => match us, hl with | [_, _], _ => rfl⟩
  | 11, hd =>
    have e : d_raw_half = d := Option.some.inj hd
    subst e
    obtain ⟨fd, F⟩ := c.says.def_ 11 (d := e_raw_half) rfl
    exact ⟨_, _, _, fd, F, He.glo_ok X G (c.says.fact 11 (f := .glo "raw_half") rfl), F.bindsN (ps := d_raw_half.ps) fun _ _ _ _ _ _ us hl => match us, hl with | [_], _ => rfl⟩
  | 12, hd =>
    have e : d_raw_first = d := Option.some.inj hd
    subst e
    obtain ⟨fd, F⟩ := c.says.def_ 12 (d := e_raw_first) rfl
    exact ⟨_, _, _, fd, F, He.glo_ok X G (c.says.fact 12 (f := .glo "raw_first") rfl), F.bindsN (ps := d_raw_first.ps) fun _ _ _ _ _ _ us hl => match us, hl with | [_, _], _ => rfl⟩
  | 13, hd =>
    have e : d_wide_sum = d := Option.some.inj hd
    subst e
    obtain ⟨fd, F⟩ := c.says.def_ 13 (d := e_wide_sum) rfl
    exact ⟨_, _, _, fd, F, He.glo_ok X G (c.says.fact 13 (f := .glo "wide_sum") rfl), F.bindsN (ps := d_wide_sum.ps) fun _ _ _ _ _ _ us hl => match us, hl with | [_], _ => rfl⟩
  | 14, hd =>
    have e : d_law_like = d := Option.some.inj hd
    subst e
    obtain ⟨fd, F⟩ := c.says.def_ 14 (d := e_law_like) rfl
    exact ⟨_, _, _, fd, F, He.glo_ok X G (c.says.fact 14 (f := .glo "_law_like") rfl), F.bindsN (ps := d_law_like.ps) fun _ _ _ _ _ _ us hl => match us, hl with | [_, _], _ => rfl⟩
  | 15, hd =>
    have e : d_law_common = d := Option.some.inj hd
    subst e
    obtain ⟨fd, F⟩ := c.says.def_ 15 (d := e_law_common) rfl
    exact ⟨_, _, _, fd, F, He.glo_ok X G (c.says.fact 15 (f := .glo "_law_common") rfl), F.bindsN (ps := d_law_common.ps) fun _ _ _ _ _ _ us hl => match us, hl with | [_, _], _ => rfl⟩
  | 16, hd =>
    have e : d_law_low = d := Option.some.inj hd
    subst e
    obtain ⟨fd, F⟩ := c.says.def_ 16 (d := e_law_low) rfl
    exact ⟨_, _, _, fd, F, He.glo_ok X G (c.says.fact 16 (f := .glo "_law_low") rfl), F.bindsN (ps := d_law_low.ps) fun _ _ _ _ _ _ us hl => match us, hl with | [_, _], _ => rfl⟩
  | 17, hd =>
    have e : d_law_product = d := Option.some.inj hd
    subst e
    obtain ⟨fd, F⟩ := c.says.def_ 17 (d := e_law_product) rfl
    exact ⟨_, _, _, fd, F, He.glo_ok X G (c.says.fact 17 (f := .glo "_law_product") rfl), F.bindsN (ps := d_law_product.ps) fun _ _ _ _ _ _ us hl => match us, hl with | [_, _], _ => rfl⟩
  | 18, hd =>
    have e : d_law_half = d := Option.some.inj hd
    subst e
    obtain ⟨fd, F⟩ := c.says.def_ 18 (d := e_law_half) rfl
    exact ⟨_, _, _, fd, F, He.glo_ok X G (c.says.fact 18 (f := .glo "_law_half") rfl), F.bindsN (ps := d_law_half.ps) fun _ _ _ _ _ _ us hl => match us, hl with | [_], _ => rfl⟩
  | 19, hd =>
    have e : d_law_is_first = d := Option.some.inj hd
    subst e
    obtain ⟨fd, F⟩ := c.says.def_ 19 (d := e_law_is_first) rfl
    exact ⟨_, _, _, fd, F, He.glo_ok X G (c.says.fact 19 (f := .glo "_law_is_first") rfl), F.bindsN (ps := d_law_is_first.ps) fun _ _ _ _ _ _ us hl => match us, hl with | [_, _], _ => rfl⟩
  | 20, hd =>
    have e : d_law_sum = d := Option.some.inj hd
    subst e
    obtain ⟨fd, F⟩ := c.says.def_ 20 (d := e_law_sum) rfl
    exact ⟨_, _, _, fd, F, He.glo_ok X G (c.says.fact 20 (f := .glo "_law_sum") rfl), F.bindsN (ps := d_law_sum.ps) fun _ _ _ _ _ _ us hl => match us, hl with | [_], _ => rfl⟩
  | 21, hd =>
    have e : d_law_draw = d := Option.some.inj hd
    subst e
    obtain ⟨fd, F⟩ := c.says.def_ 21 (d := e_law_draw) rfl
    exact ⟨_, _, _, fd, F, He.glo_ok X G (c.says.fact 21 (f := .glo "_law_draw") rfl), F.bindsN (ps := d_law_draw.ps) fun _ _ _ _ _ _ us hl => match us, hl with | [_, _], _ => rfl⟩
  | 22, hd =>
    have e : d_law_any = d := Option.some.inj hd
    subst e
    obtain ⟨fd, F⟩ := c.says.def_ 22 (d := e_law_any) rfl
    exact ⟨_, _, _, fd, F, He.glo_ok X G (c.says.fact 22 (f := .glo "_law_any") rfl), F.bindsN (ps := d_law_any.ps) fun _ _ _ _ _ _ us hl => match us, hl with | [_, _], _ => rfl⟩
  | 23, hd =>
    have e : d_law_great = d := Option.some.inj hd
    subst e
    obtain ⟨fd, F⟩ := c.says.def_ 23 (d := e_law_great) rfl
    exact ⟨_, _, _, fd, F, He.glo_ok X G (c.says.fact 23 (f := .glo "_law_great") rfl), F.bindsN (ps := d_law_great.ps) fun _ _ _ _ _ _ us hl => match us, hl with | [_, _], _ => rfl⟩
  | 24, hd =>
    have e : d_law_ray = d := Option.some.inj hd
    subst e
    obtain ⟨fd, F⟩ := c.says.def_ 24 (d := e_law_ray) rfl
    exact ⟨_, _, _, fd, F, He.glo_ok X G (c.says.fact 24 (f := .glo "_law_ray") rfl), F.bindsN (ps := d_law_ray.ps) fun _ _ _ _ _ _ us hl => match us, hl with | [_], _ => rfl⟩
  | 25, hd =>
    have e : d_is_within = d := Option.some.inj hd
    subst e
    obtain ⟨fd, F⟩ := c.says.def_ 25 (d := e_is_within) rfl
    exact ⟨_, _, _, fd, F, He.glo_ok X G (c.says.fact 25 (f := .glo "is_within") rfl), F.bindsN (ps := d_is_within.ps) fun _ _ _ _ _ _ us hl => match us, hl with | [_, _, _], _ => rfl⟩
  | 26, hd =>
    have e : d_check_number = d := Option.some.inj hd
    subst e
    obtain ⟨fd, F⟩ := c.says.def_ 26 (d := e_check_number) rfl
    exact ⟨_, _, _, fd, F, He.glo_ok X G (c.says.fact 26 (f := .glo "check_number") rfl), F.bindsN (ps := d_check_number.ps) fun _ _ _ _ _ _ us hl => match us, hl with | [_, _, _], _ => rfl⟩
  | 27, hd =>
    have e : d_times = d := Option.some.inj hd
    subst e
    obtain ⟨fd, F⟩ := c.says.def_ 27 (d := e_times) rfl
    exact ⟨_, _, _, fd, F, He.glo_ok X G (c.says.fact 27 (f := .glo "times") rfl), F.bindsN (ps := d_times.ps) fun _ _ _ _ _ _ us hl => match us, hl with | [_, _], _ => rfl⟩
  | 28, hd =>
    have e : d_check_rays = d := Option.some.inj hd
    subst e
    obtain ⟨fd, F⟩ := c.says.def_ 28 (d := e_check_rays) rfl
    exact ⟨_, _, _, fd, F, He.glo_ok X G (c.says.fact 28 (f := .glo "check_rays") rfl), F.bindsN (ps := d_check_rays.ps) fun _ _ _ _ _ _ us hl => match us, hl with | [_, _], _ => rfl⟩
  | 29, hd =>
    have e : d_turned = d := Option.some.inj hd
    subst e
    obtain ⟨fd, F⟩ := c.says.def_ 29 (d := e_turned) rfl
    exact ⟨_, _, _, fd, F, He.glo_ok X G (c.says.fact 29 (f := .glo "turned") rfl), F.bindsN (ps := d_turned.ps) fun _ _ _ _ _ _ us hl => match us, hl with | [_, _], _ => rfl⟩
  | 30, hd =>
    have e : d_raw_mirrored = d := Option.some.inj hd
    subst e
    obtain ⟨fd, F⟩ := c.says.def_ 30 (d := e_raw_mirrored) rfl
    exact ⟨_, _, _, fd, F, He.glo_ok X G (c.says.fact 30 (f := .glo "raw_mirrored") rfl), F.bindsN (ps := d_raw_mirrored.ps) fun _ _ _ _ _ _ us hl => match us, hl with | [_], _ => rfl⟩
  | 31, hd =>
    have e : d_turned_back = d := Option.some.inj hd
    subst e
    obtain ⟨fd, F⟩ := c.says.def_ 31 (d := e_turned_back) rfl
    exact ⟨_, _, _, fd, F, He.glo_ok X G (c.says.fact 31 (f := .glo "turned_back") rfl), F.bindsN (ps := d_turned_back.ps) fun _ _ _ _ _ _ us hl => match us, hl with | [_, _], _ => rfl⟩
  | 32, hd =>
    have e : d_mirrored = d := Option.some.inj hd
    subst e
    obtain ⟨fd, F⟩ := c.says.def_ 32 (d := e_mirrored) rfl
    exact ⟨_, _, _, fd, F, He.glo_ok X G (c.says.fact 32 (f := .glo "mirrored") rfl), F.bindsN (ps := d_mirrored.ps) fun _ _ _ _ _ _ us hl => match us, hl with | [_], _ => rfl⟩
  | 33, hd =>
    have e : d_law_back = d := Option.some.inj hd
    subst e
    obtain ⟨fd, F⟩ := c.says.def_ 33 (d := e_law_back) rfl
    exact ⟨_, _, _, fd, F, He.glo_ok X G (c.says.fact 33 (f := .glo "_law_back") rfl), F.bindsN (ps := d_law_back.ps) fun _ _ _ _ _ _ us hl => match us, hl with | [_, _], _ => rfl⟩
  | 34, hd =>
    have e : d_law_is_turned_right = d := Option.some.inj hd
    subst e
    obtain ⟨fd, F⟩ := c.says.def_ 34 (d := e_law_is_turned_right) rfl
    exact ⟨_, _, _, fd, F, He.glo_ok X G (c.says.fact 34 (f := .glo "_law_is_turned_right") rfl), F.bindsN (ps := d_law_is_turned_right.ps) fun _ _ _ _ _ _ us hl => match us, hl with | [_], _ => rfl⟩
  | 35, hd =>
    have e : d_law_small = d := Option.some.inj hd
    subst e
    obtain ⟨fd, F⟩ := c.says.def_ 35 (d := e_law_small) rfl
    exact ⟨_, _, _, fd, F, He.glo_ok X G (c.says.fact 35 (f := .glo "_law_small") rfl), F.bindsN (ps := d_law_small.ps) fun _ _ _ _ _ _ us hl => match us, hl with | [_], _ => rfl⟩
  | 36, hd =>
    have e : d_law_are_times_right = d := Option.some.inj hd
    subst e
    obtain ⟨fd, F⟩ := c.says.def_ 36 (d := e_law_are_times_right) rfl
    exact ⟨_, _, _, fd, F, He.glo_ok X G (c.says.fact 36 (f := .glo "_law_are_times_right") rfl), F.bindsN (ps := d_law_are_times_right.ps) fun _ _ _ _ _ _ us hl => match us, hl with | [_], _ => rfl⟩
  | 37, hd =>
    have e : d_law_mixed = d := Option.some.inj hd
    subst e
    obtain ⟨fd, F⟩ := c.says.def_ 37 (d := e_law_mixed) rfl
    exact ⟨_, _, _, fd, F, He.glo_ok X G (c.says.fact 37 (f := .glo "_law_mixed") rfl), F.bindsN (ps := d_law_mixed.ps) fun _ _ _ _ _ _ us hl => match us, hl with | [_, _], _ => rfl⟩
  | 38, hd =>
    have e : d_law = d := Option.some.inj hd
    subst e
    obtain ⟨fd, F⟩ := c.says.def_ 38 (d := e_law) rfl
    exact ⟨_, _, _, fd, F, He.glo_ok X G (c.says.fact 38 (f := .glo "law") rfl), F.bindsN (ps := d_law.ps) fun _ _ _ _ _ _ us hl => match us, hl with | [_], _ => rfl⟩
  | n + 39, hd =>
    have h1 := (List.getElem?_eq_some_iff.mp hd).1
    have h2 : tab.length = 39 := rfl
    exact absurd h1 (by omega)
theorem frees (X : K.In h) (G : h.Ns mainGlobals mg) (c : SaysK hfa hfn cs K) : ∀ x, x ∈ bl → mg x = none := by
  intro x hx
  unfold bl at hx
  simp only [List.mem_cons, List.not_mem_nil, or_false] at hx
  rcases hx with rfl | rfl | rfl | rfl | rfl | rfl | rfl | rfl | rfl | rfl | rfl | rfl | rfl | rfl
  · exact He.free_ok X G (c.says.fact 39 (f := .free "len") rfl)
  · exact He.free_ok X G (c.says.fact 40 (f := .free "int") rfl)
  · exact He.free_ok X G (c.says.fact 41 (f := .free "abs") rfl)
  · exact He.free_ok X G (c.says.fact 42 (f := .free "tuple") rfl)
  · exact He.free_ok X G (c.says.fact 43 (f := .free "list") rfl)
  · exact He.free_ok X G (c.says.fact 44 (f := .free "all") rfl)
  · exact He.free_ok X G (c.says.fact 45 (f := .free "any") rfl)
  · exact He.free_ok X G (c.says.fact 46 (f := .free "repr") rfl)
  · exact He.free_ok X G (c.says.fact 47 (f := .free "range") rfl)
  · exact He.free_ok X G (c.says.fact 48 (f := .free "enumerate") rfl)
  · exact He.free_ok X G (c.says.fact 49 (f := .free "isinstance") rfl)
  · exact He.free_ok X G (c.says.fact 50 (f := .free "bool") rfl)
  · exact He.free_ok X G (c.says.fact 51 (f := .free "str") rfl)
  · exact He.free_ok X G (c.says.fact 52 (f := .free "dict") rfl)
theorem facts (X : K.In h) (G : h.Ns mainGlobals mg) (hf : mg ("law" : Str) = some (.ref f)) (c : SaysK hfa hfn cs K) :
    ∃ fd : FuncData, (∀ (s : Shared) (v : Value), BindsTo s fd ⟨[v], []⟩ [("script", v)]) ∧ ∀ base : Heap, K.In base → base.Ns mainGlobals mg → FnG P w K mg base CX0 39 f fd ["script"] (spF K [false] (C 38)) := by
  obtain ⟨fd, F⟩ := c.says.def_ 38 (d := e_law) rfl
  have e := hf.symm.trans (He.glo_ok X G (c.says.fact 38 (f := .glo "law") rfl))
  cases e
  have b := FunD.bindsA (ps := ["script"]) F fun _ _ _ _ _ _ us hl => match us, hl with | [_], _ => rfl
  exact ⟨fd, fun s v => b s [v] rfl, fun base _ _ => one_ok (tab := tab) (bl := bl) (cs := cs) (C := C) (funs X G c) (comp_rows compiled) kept (all_bl (frees X G c)) (c.con X G) (i := 38) (d := d_law) rfl F⟩
end
end G
open PySem PySem.W PySem.Calls PyProof.Rows
theorem PySem.Challenge.cw_whogivesway_k02_whole_rays_turned_and_wh_holds : PySem.Challenge.rw_whogivesway_k02_whole_rays_turned_and_wh.Holds := by
  w_on; o_law
  refine HandSHeadRun.head_any (r := OpenLaw.row PySem.Challenge.rw_whogivesway_k02_whole_rays_turned_and_wh) (q := view (OpenLaw.row PySem.Challenge.rw_whogivesway_k02_whole_rays_turned_and_wh).prog [47]) (H := G.hk) (ob := G.hob) (M := 2320) (loose := G.loose) (d := HandSHeadRun.topDef (OpenLaw.row PySem.Challenge.rw_whogivesway_k02_whole_rays_turned_and_wh).prog 47) (kwd := []) G.hob_eq
    (by kernel_rfl) (fun s => by kernel_rfl) G.hrun (by kernel_rfl) (by kernel_rfl) (by kernel_rfl) (by rfl) (by first | assumption | decide +kernel) (by decide +kernel) ⟨rfl, rfl, rfl, rfl, rfl, by decide +kernel⟩ ?hw ?hc
  case hw => w_witness2
  case hc =>
    refine G.walkG (l := PySem.Challenge.rw_whogivesway_k02_whole_rays_turned_and_wh) (n := 63) (k := 39) (x := "script") rfl (by decide) (by kernel_rfl) ⟨rfl, by decide, by decide⟩ ?F
    intro w mg fa h Y Gn hmg0
    obtain ⟨K, KX, c⟩ := Y
    have hmg : mg ("law" : PySem.Str) = some (.ref fa) := by
      have e : (HandSHeadRun.topDef (OpenLaw.row PySem.Challenge.rw_whogivesway_k02_whole_rays_turned_and_wh).prog 47).name = ("law" : PySem.Str) := by kernel_rfl
      rw [← e]
      exact hmg0
    obtain ⟨fd, hb, hF⟩ := G.facts (P := (PySem.Challenge.rw_whogivesway_k02_whole_rays_turned_and_wh).prog) (w := w) KX Gn hmg c
    refine ⟨K, fd, G.spF K [false] (G.C 38), KX, hb, fun H a ns hl hO hS => ?_, hF⟩
    refine G.scr_ok hO hS fun k hk => ?_
    exact ⟨ns, rfl, hk⟩

